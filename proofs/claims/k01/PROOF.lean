import PyProof.Rows.All
import Wide.All
import OpenK.AllK
import Wide.FinOn
import HandS.ForMost
import HandS.Walk
import HandS.IsInst
import HandS.Gcd
import HandS.Wide
import HandS.StrMore
import HandS.Codes
import HandS.EndBits
import HandS.TryOnly
import HandS.Style
import HandS.SortKw
import HandS.TupAny
import KE.SortKeyHeap
import KE.SortData
import HandS.Evl
import HandS.Set
import HandS.SetFor
import KE.GoesEnum
import HandS.Zip
import HandS.TupLe
import PyProof.ReprRoads
import HandS.RevRange
import HandS.ForExc
import HandS.ExcIs
import HandS.Strs
import HandS.Dict
import HandS.DictComp
import HandS.Conv
import HandS.More
import HandS.SortInts
import HandS.SetBool
import PyProof.TupleOfSeq
import HandS.Replace
import HandS.TupMul
import KE.KRevSl
import KE.KStrOpen
import KE.IntBitsLaws
import KE.RegKIsAll
import PySem.Challenge.RW_wordscut_k01_whole_lots_and_single_texts
set_option Elab.async false
set_option linter.all false
set_option maxRecDepth 100000
set_option maxHeartbeats 2000000
/-! rules over texts as lists of code points; called defs as bundles -/
namespace Wc
open PySem PySem.Spec PyProof.Rows L2

abbrev Tx := List Nat
/-- a text as a value -/
abbrev T (l : Tx) : V := .str (SX.S l)
theorem T_inj {a b : Tx} (h : T a = T b) : a = b := SX.S_inj (V.str.inj h)
theorem T_str (x : Str) : V.str x = T x.cps.toList := congrArg V.str (SX.S_tl x).symm
theorem dec_T (a b : Tx) : decide (T a = T b) = decide (a = b) := by
  by_cases h : a = b
  · subst h
    rw [decide_eq_true rfl, decide_eq_true rfl]
  · rw [decide_eq_false h, decide_eq_false fun e => h (T_inj e)]
theorem S_length (a : Tx) : (SX.S a).length = a.length := SX.S_len a

/-- text + text -/
def rAddT : R2 := fun x y H Q => ∃ a b : Tx, x = T a ∧ y = T b ∧ a.length + b.length ≤ 16777216 ∧ Q (T (a ++ b)) H
theorem op_addT {X : Cx} : OpR X (binaryOp .Add) rAddT := by
  intro pins s σ H x y v u Q I rx ry h
  obtain ⟨a, b, rfl, rfl, hl, q⟩ := h
  refine op_add_str pins s σ H _ _ v u Q I rx ry ⟨_, _, rfl, rfl, ?_, ?_⟩
  · rw [S_length, S_length]
    exact hl
  · rw [SX.S_cat]
    exact q
/-- text * int -/
def repT (n : Nat) (a : Tx) : Tx := (List.replicate n a).flatten
theorem repT_zero (a : Tx) : repT 0 a = [] := rfl
theorem repT_succ (n : Nat) (a : Tx) : repT (n + 1) a = a ++ repT n a := by
  unfold repT
  rw [List.replicate_succ, List.flatten_cons]
theorem repT_len (n : Nat) (a : Tx) : (repT n a).length = n * a.length := by
  induction n with
  | zero => simp [repT]
  | succ n ih => rw [repT_succ, List.length_append, ih, Nat.succ_mul]; omega
theorem fold_app : ∀ (l : List (Array Nat)) (acc : Array Nat), (l.foldl (· ++ ·) acc).toList = acc.toList ++ (l.map Array.toList).flatten
  | [], acc => by simp
  | x :: l, acc => by
    show (l.foldl (· ++ ·) (acc ++ x)).toList = _
    rw [fold_app l (acc ++ x)]
    simp
theorem mul_S (a : Tx) (n : Int) : Txt.mul (SX.S a) n = SX.S (repT n.toNat a) := by
  unfold Txt.mul
  by_cases h1 : n < 1
  · rw [if_pos h1]
    have e : n.toNat = 0 := by omega
    rw [e]
    rfl
  · rw [if_neg h1]
    by_cases h2 : (n == 1 || (SX.S a).length == 0) = true
    · rw [if_pos h2]
      rw [Bool.or_eq_true] at h2
      rcases h2 with h2 | h2
      · have e : n.toNat = 1 := by
          have := eq_of_beq h2
          omega
        rw [e]
        simp [repT]
      · have e := eq_of_beq h2
        rw [S_length] at e
        have e2 := List.length_eq_zero_iff.mp e
        subst e2
        have : repT n.toNat [] = [] := List.length_eq_zero_iff.mp (by rw [repT_len]; simp)
        rw [this]
    · rw [if_neg h2]
      refine TL.ext_tl ?_
      show (List.foldl (· ++ ·) #[] (List.replicate n.toNat a.toArray)).toList = repT n.toNat a
      rw [fold_app]
      simp [repT, List.map_replicate]
def rMulT : R2 := fun x y H Q => ∃ (a : Tx) (n : Int), x = T a ∧ y = .int n ∧ -1000000000 ≤ n ∧ n ≤ 1000000000 ∧ a.length * n.toNat ≤ 16777216 ∧ Q (T (repT n.toNat a)) H
theorem mulOk {a : Tx} {n : Int} (h0 : -1000000000 ≤ n) (h1 : n ≤ 1000000000) (h : a.length * n.toNat ≤ 16777216) : MulOk (SX.S a) n := by
  refine ⟨?_, fun hn _ => ?_, fun hn _ => ?_⟩
  · rw [Bool.or_eq_false_iff]
    exact ⟨decide_eq_false (by omega), decide_eq_false (by omega)⟩
  · rw [S_length]
    intro hgt
    have h2 : (a.length : Int) ≤ 16777216 := by
      have : a.length * 1 ≤ a.length * n.toNat := Nat.mul_le_mul_left _ (by omega)
      omega
    have h3 : (16777216 : Int) ≤ (2 ^ 63 - 1) / n := by
      rw [Int.le_ediv_iff_mul_le (by omega)]
      have : (16777216 : Int) * n ≤ 16777216 * 1000000000 := Int.mul_le_mul_of_nonneg_left h1 (by decide)
      omega
    omega
  · rw [S_length]
    unfold Builtin.Str.tooLong
    have : ¬ (a.length * n.toNat > 16777216) := by omega
    exact decide_eq_false (by first | exact this | (simp; omega))
theorem op_mulT {X : Cx} : OpR X (binaryOp .Mult) rMulT := by
  intro pins s σ H x y v u Q I rx ry h
  obtain ⟨a, n, rfl, rfl, h0, h1, hl, q⟩ := h
  obtain ⟨t, rfl⟩ := rx
  obtain ⟨t', rfl⟩ := ry
  refine SB.mul (mulOk h0 h1 hl) fun t2 k => ?_
  rw [mul_S]
  exact ⟨T (repT n.toNat a), H, I.tok _, ⟨_, rfl⟩, q⟩

/-! ### subscripts, slices, length, comparisons -/
def rIxT : R2 := fun x y H Q => ∃ (a : Tx) (i : Int) (c : Nat), x = T a ∧ y = .int i ∧ a.length ≤ 16777216 ∧ atI a i = some c ∧ Q (T [c]) H
theorem ix_T {X : Cx} : IxR X rIxT := by
  intro value slice pins s σ H x y v u Q I rx ry h hs
  obtain ⟨a, i, c, rfl, rfl, hl, ha, q⟩ := h
  exact ix_str value slice pins s σ H _ _ v u Q I rx ry ⟨_, i, c, rfl, rfl, by rw [S_length]; exact hl, ha, q⟩ hs
def cutT (a : Tx) (lo hi : Option Int) : Tx := (a.drop (HT.sIx a.length 0 lo)).take (HT.sIx a.length a.length hi - HT.sIx a.length 0 lo)
theorem cutS_T (a : Tx) (lo hi : Option Int) : cutS (SX.S a) lo hi = SX.S (cutT a lo hi) := by
  unfold cutS cutT
  rw [S_length]
def rSlT : V → Option Int → Option Int → Hp → VK → Prop := fun x lo hi H Q => ∃ a : Tx, x = T a ∧ a.length ≤ 16777216 ∧ Q (T (cutT a lo hi)) H
theorem sl_T {X : Cx} : SlR X rSlT := by
  intro pins s σ H x v vl vu lo hi sl Q I rx hs pl pu h
  obtain ⟨a, rfl, hl, q⟩ := h
  refine sl_str pins s σ H _ v vl vu lo hi sl Q I rx hs pl pu ⟨_, rfl, by rw [S_length]; exact hl, ?_⟩
  rw [cutS_T]
  exact q
theorem cutT_to (a : Tx) (n : Nat) : cutT a none (some (n : Int)) = a.take n := by
  unfold cutT
  rw [HT.sIx_none, HT.sIx_nat, List.drop_zero, Nat.sub_zero]
  by_cases h : n ≤ a.length
  · rw [Nat.min_eq_left h]
  · rw [Nat.min_eq_right (by omega), List.take_of_length_le (Nat.le_refl _), List.take_of_length_le (by omega)]
theorem cutT_from (a : Tx) (n : Nat) : cutT a (some (n : Int)) none = a.drop n := by
  unfold cutT
  rw [HT.sIx_none, HT.sIx_nat]
  by_cases h : n ≤ a.length
  · rw [Nat.min_eq_left h]
    exact List.take_of_length_le (by rw [List.length_drop]; exact Nat.le_refl _)
  · rw [Nat.min_eq_right (by omega), List.drop_eq_nil_of_le (Nat.le_refl _), List.drop_eq_nil_of_le (by omega), List.take_nil]
theorem cutT_mid (a : Tx) (m n : Nat) : cutT a (some (m : Int)) (some (n : Int)) = (a.drop m).take (n - m) := by
  unfold cutT
  rw [HT.sIx_nat, HT.sIx_nat]
  by_cases h : m ≤ a.length
  · rw [Nat.min_eq_left h]
    by_cases h2 : n ≤ a.length
    · rw [Nat.min_eq_left h2]
    · rw [Nat.min_eq_right (by omega), List.take_of_length_le (by rw [List.length_drop]; exact Nat.le_refl _), List.take_of_length_le (by rw [List.length_drop]; omega)]
  · rw [Nat.min_eq_right (show a.length ≤ m by omega), List.drop_eq_nil_of_le (Nat.le_refl _), List.drop_eq_nil_of_le (show a.length ≤ m by omega), List.take_nil, List.take_nil]
/-- without the last so many -/
theorem cutT_but (a : Tx) (k : Nat) : cutT a none (some (-((k : Int) + 1))) = a.take (a.length - (k + 1)) := by
  unfold cutT
  rw [HT.sIx_none, List.drop_zero, Nat.sub_zero]
  have e : HT.sIx a.length a.length (some (-((k : Int) + 1))) = a.length - (k + 1) := by
    show (if (-((k : Int) + 1)) < 0 then ((-((k : Int) + 1)) + (a.length : Int)).toNat else min (-((k : Int) + 1)).toNat a.length) = _
    rw [if_pos (by omega)]
    omega
  rw [e]
/-- the last so many -/
theorem cutT_last (a : Tx) (k : Nat) : cutT a (some (-((k : Int) + 1))) none = a.drop (a.length - (k + 1)) := by
  unfold cutT
  rw [HT.sIx_none]
  have e : HT.sIx a.length 0 (some (-((k : Int) + 1))) = a.length - (k + 1) := by
    show (if (-((k : Int) + 1)) < 0 then ((-((k : Int) + 1)) + (a.length : Int)).toNat else min (-((k : Int) + 1)).toNat a.length) = _
    rw [if_pos (by omega)]
    omega
  rw [e]
  exact List.take_of_length_le (by rw [List.length_drop]; exact Nat.le_refl _)
theorem cutT_len (a : Tx) (lo hi : Option Int) : (cutT a lo hi).length ≤ a.length := by
  unfold cutT
  rw [List.length_take, List.length_drop]
  omega
theorem cutT_mem {a : Tx} {lo hi : Option Int} {c : Nat} (h : c ∈ cutT a lo hi) : c ∈ a := List.mem_of_mem_drop (List.mem_of_mem_take h)
def rLenT : List V → Hp → VK → Prop := fun vs H Q => ∃ a : Tx, vs = [T a] ∧ a.length ≤ 16777216 ∧ Q (.int (a.length : Int)) H
theorem cr_lenT {X : Cx} : CallR X (.builtin "len") rLenT := by
  intro pins s σ H vs us Q I r h
  obtain ⟨a, rfl, hl, q⟩ := h
  refine call_len_str pins s σ H _ us Q I r ⟨_, rfl, by rw [S_length]; exact hl, ?_⟩
  rw [S_length]
  exact q
def rEqT : R2 := fun x y H Q => ∃ a b : Tx, x = T a ∧ y = T b ∧ Q (.bl (decide (a = b))) H
theorem op_eqT {X : Cx} : OpR X (compareOp .Eq) rEqT := by
  intro pins s σ H x y v u Q I rx ry h
  obtain ⟨a, b, rfl, rfl, q⟩ := h
  refine op_eq pins s σ H _ _ v u Q I rx ry ⟨rfl, ?_⟩
  rw [dec_T]
  exact q
def rNeT : R2 := fun x y H Q => ∃ a b : Tx, x = T a ∧ y = T b ∧ Q (.bl (!decide (a = b))) H
theorem op_neT {X : Cx} : OpR X (compareOp .NotEq) rNeT := by
  intro pins s σ H x y v u Q I rx ry h
  obtain ⟨a, b, rfl, rfl, q⟩ := h
  refine op_ne pins s σ H _ _ v u Q I rx ry ⟨rfl, ?_⟩
  rw [dec_T]
  exact q
theorem dec_int (i j : Int) : decide (V.int i = V.int j) = decide (i = j) := by
  by_cases h : i = j
  · subst h
    rw [decide_eq_true rfl, decide_eq_true rfl]
  · rw [decide_eq_false h, decide_eq_false fun e => h (V.int.inj e)]
theorem dec_bl (i j : Bool) : decide (V.bl i = V.bl j) = decide (i = j) := by
  cases i <;> cases j <;> decide
theorem op_eqI {X : Cx} : OpR X (compareOp .Eq) (rI0 fun i j => .bl (decide (i = j))) := by
  intro pins s σ H x y v u Q I rx ry h
  obtain ⟨i, j, rfl, rfl, q⟩ := h
  refine op_eq pins s σ H _ _ v u Q I rx ry ⟨rfl, ?_⟩
  rw [dec_int]
  exact q
theorem op_neI {X : Cx} : OpR X (compareOp .NotEq) (rI0 fun i j => .bl (!decide (i = j))) := by
  intro pins s σ H x y v u Q I rx ry h
  obtain ⟨i, j, rfl, rfl, q⟩ := h
  refine op_ne pins s σ H _ _ v u Q I rx ry ⟨rfl, ?_⟩
  rw [dec_int]
  exact q
def rB0 (g : Bool → Bool → Bool) : R2 := fun x y H Q => ∃ i j, x = .bl i ∧ y = .bl j ∧ Q (.bl (g i j)) H
theorem op_eqB {X : Cx} : OpR X (compareOp .Eq) (rB0 fun i j => decide (i = j)) := by
  intro pins s σ H x y v u Q I rx ry h
  obtain ⟨i, j, rfl, rfl, q⟩ := h
  refine op_eq pins s σ H _ _ v u Q I rx ry ⟨rfl, ?_⟩
  rw [dec_bl]
  exact q
def rInT : R2 := fun x y H Q => ∃ (c : Nat) (z : Tx), x = T [c] ∧ y = T z ∧ Q (.bl (decide (c ∈ z))) H
theorem op_inT {X : Cx} : OpR X (compareOp .In) rInT := by
  intro pins s σ H x y v u Q I rx ry h
  obtain ⟨c, z, rfl, rfl, q⟩ := h
  exact op_in_sign pins s σ H _ _ v u Q I rx ry ⟨c, SX.S z, rfl, rfl, q⟩
def rLtT : R2 := fun x y H Q => ∃ a b : Tx, x = T a ∧ y = T b ∧ Q (.bl (decide (a < b))) H
theorem op_ltT' {X : Cx} : OpR X (compareOp .Lt) rLtT := by
  intro pins s σ H x y v u Q I rx ry h
  obtain ⟨a, b, rfl, rfl, q⟩ := h
  exact op_lt_str pins s σ H _ _ v u Q I rx ry ⟨_, _, rfl, rfl, q⟩
/-! ### % and // by a positive number -/
theorem op_modP {X : Cx} : OpR X (binaryOp .Mod) (rI (fun _ j => 0 < j) fun i j => .int (i % j)) := op_mod
/-- * of any two whose bits together are below the line -/
def CMulB (i j : Int) : Prop := i.natAbs.log2 + j.natAbs.log2 < 100000000
theorem CMulB.ok {i j : Int} (h : CMulB i j) : IntMulOk i j := by
  have b : ∀ x : Int, Builtin.Int.intBits x ≤ x.natAbs.log2 + 1 := fun x => by
    unfold Builtin.Int.intBits
    split <;> omega
  have h1 := b i
  have h2 := b j
  have h3 : i.natAbs.log2 + j.natAbs.log2 < 100000000 := h
  have e : bitsLine = 134217728 := by decide
  unfold IntMulOk
  intro z
  rw [Bool.and_eq_true] at z
  have z2 := z.2
  unfold Builtin.Int.intTooBig at z2
  have z3 := of_decide_eq_true z2
  rw [e] at z3
  omega
theorem op_mulB {X : Cx} : OpR X (binaryOp .Mult) (rI CMulB fun i j => .int (i * j)) := opI fun _ _ _ _ _ _ _ hc q => mul_int q hc.ok
theorem mulB {i j : Int} {a b : Nat} (ha : i.natAbs < 2 ^ a) (hb : j.natAbs < 2 ^ b) (h0 : 0 < a) (h1 : 0 < b) (h : a + b ≤ 100000000) : CMulB i j := by
  have x := PySem.Flt.log2_lt_of h0 ha
  have y := PySem.Flt.log2_lt_of h1 hb
  unfold CMulB
  omega
/-! ### str.join, find, startswith -/
def rJoinT (K : PySem.W.Frag) : V → List V → Hp → VK → Prop := fun x xs H Q => ∃ (a : Tx) (p : Addr) (ys : List Tx), x = T a ∧ xs = [.ref p] ∧ (SqL K H p (ys.map T) ∨ SqT K H p (ys.map T)) ∧ (ys.map List.length).sum + ys.length * a.length ≤ 16777216 ∧ Q (T (TL.joinL a ys)) H
theorem mt_joinT {X : Cx} : MtR X "str.join" (rJoinT X.K) := by
  intro pins s σ H x xs v us Q I rx r h
  obtain ⟨a, p, ys, rfl, rfl, hs, hl, q⟩ := h
  have em : ys.map T = (ys.map SX.S).map V.str := by rw [List.map_map]; rfl
  rw [em] at hs
  refine mt_join pins s σ H _ _ v us Q I rx r ⟨_, p, ys.map SX.S, rfl, rfl, hs, ?_, ?_⟩
  · rw [SX.lens, List.length_map, S_length]
    exact hl
  · rw [SX.join_S]
    exact q
theorem joinL_nil : ∀ ys : List Tx, TL.joinL [] ys = ys.flatten
  | [] => rfl
  | [p] => by simp [TL.joinL]
  | p :: q :: r => by
    show p ++ ([] ++ TL.joinL [] (q :: r)) = _
    rw [joinL_nil (q :: r)]
    rfl
/-- b stands in a at i -/
abbrev StAt (a b : Tx) (i : Nat) : Prop := (a.drop i).take b.length = b
theorem subAt_T (a b : Tx) (i : Nat) : Builtin.Str.subAt (SX.S a) (SX.S b) i = decide (StAt a b i) := by
  rw [StrLaws.subAt_eq, S_length]
  show ((a.drop i).take b.length == b) = decide _
  by_cases h : StAt a b i
  · rw [decide_eq_true h]
    exact beq_iff_eq.mpr h
  · rw [decide_eq_false h]
    exact beq_eq_false_iff_ne.mpr h
/-- where b stands first in a, from i on -/
inductive FindT (a b : Tx) (i : Nat) : Int → Prop where
  | at_ (k : Nat) : i ≤ k → k + b.length ≤ a.length → StAt a b k → (∀ j, i ≤ j → j < k → ¬ StAt a b j) → FindT a b i (k : Int)
  | no : (∀ j, i ≤ j → j + b.length ≤ a.length → ¬ StAt a b j) → FindT a b i (-1)
theorem fromIndex_nat (n i : Nat) : fromIndex n (i : Int) = i := by
  unfold fromIndex
  rw [if_neg (by omega)]
  omega
theorem range'_pre {s n : Nat} {pre post : List Nat} {a : Nat} (h : List.range' s n = pre ++ a :: post) : s ≤ a ∧ ∀ k, s ≤ k → k < a → k ∈ pre := by
  have hl : n = pre.length + (post.length + 1) := by
    have e := congrArg List.length h
    simpa using e
  have ha : s + pre.length = a := by
    have h1 : (List.range' s n)[pre.length]? = some a := by rw [h]; simp
    rw [List.getElem?_range' (by omega)] at h1
    have := Option.some.inj h1
    omega
  refine ⟨by omega, fun k h1 h2 => ?_⟩
  have h3 : (List.range' s n)[k - s]? = some k := by
    rw [List.getElem?_range' (by omega)]
    congr 1
    omega
  rw [h, List.getElem?_append_left (by omega)] at h3
  exact List.mem_of_getElem? h3
theorem find3_spec (a b : Tx) (i : Nat) : FindT a b i (Txt.find3 (SX.S a) (SX.S b) (i : Int)) := by
  have hAt : ∀ j, StrLaws.At (SX.S a) (SX.S b) a.length j ↔ (j + b.length ≤ a.length ∧ StAt a b j) := fun j => by
    unfold StrLaws.At
    rw [subAt_T, S_length, decide_eq_true_eq]
  unfold Txt.find3
  rw [S_length, fromIndex_nat, StrLaws.occ_eq]
  rcases StrLaws.occ_first (SX.S a) (SX.S b) a.length 1 (Nat.le_refl _) (List.range' i (a.length + 1 - i)) i (fun k hk => (List.mem_range'_1.mp hk).1) with ⟨h0, hn⟩ | ⟨pre, k, post, e, h0, hk, hn⟩
  · rw [h0]
    refine .no fun j h1 h2 h3 => hn j ?_ ((hAt j).mpr ⟨h2, h3⟩)
    exact List.mem_range'_1.mpr ⟨h1, by omega⟩
  · have hp := range'_pre e
    have hk' := (hAt k).mp hk
    generalize hL : (forIn (List.range' i (a.length + 1 - i)) ((#[] : Array Nat), i) (StrLaws.occBody (SX.S a) (SX.S b) a.length 1)).run.fst = L at h0 ⊢
    have e2 : ∃ r, L.toList = k :: r := by
      have h1 : L.toList[0]? = some k := by rw [Array.getElem?_toList]; exact h0
      cases hh : L.toList with
      | nil => rw [hh] at h1; simp at h1
      | cons y r => rw [hh] at h1; exact ⟨r, by rw [show y = k from Option.some.inj h1]⟩
    obtain ⟨r, e2⟩ := e2
    rw [e2]
    exact .at_ k hp.1 hk'.1 hk'.2 fun j h1 h2 h3 => hn j (hp.2 j h1 h2) ((hAt j).mpr ⟨by omega, h3⟩)
def rFind3T : V → List V → Hp → VK → Prop := fun x xs H Q => ∃ (a b : Tx) (i : Nat), x = T a ∧ xs = [T b, .int (i : Int)] ∧ ∀ r, FindT a b i r → Q (.int r) H
theorem mt_find3T {X : Cx} : MtR X "str.find" rFind3T := by
  intro pins s σ H x xs v us Q I rx r h
  obtain ⟨a, b, i, rfl, rfl, q⟩ := h
  exact mt_find3 pins s σ H _ _ v us Q I rx r ⟨_, _, _, rfl, rfl, q _ (find3_spec a b i)⟩
def rFindT : V → List V → Hp → VK → Prop := fun x xs H Q => ∃ (a b : Tx), x = T a ∧ xs = [T b] ∧ ∀ r, FindT a b 0 r → Q (.int r) H
theorem find_spec (a b : Tx) : FindT a b 0 (Txt.find (SX.S a) (SX.S b)) := by
  have h := find3_spec a b 0
  unfold Txt.find3 at h
  rw [S_length, fromIndex_nat] at h
  unfold Txt.find
  rw [S_length]
  exact h
theorem mt_findT {X : Cx} : MtR X "str.find" rFindT := by
  intro pins s σ H x xs v us Q I rx r h
  obtain ⟨a, b, rfl, rfl, q⟩ := h
  exact mt_find pins s σ H _ _ v us Q I rx r ⟨_, _, rfl, rfl, q _ (find_spec a b)⟩
def rStart3T : V → List V → Hp → VK → Prop := fun x xs H Q => ∃ (a b : Tx) (i : Nat), x = T a ∧ xs = [T b, .int (i : Int)] ∧ Q (.bl (decide (i + b.length ≤ a.length ∧ StAt a b i))) H
theorem mt_start3T {X : Cx} : MtR X "str.startswith" rStart3T := by
  intro pins s σ H x xs v us Q I rx r h
  obtain ⟨a, b, i, rfl, rfl, q⟩ := h
  refine mt_startswith3 pins s σ H _ _ v us Q I rx r ⟨_, _, _, rfl, rfl, ?_⟩
  unfold Txt.startswith3
  rw [S_length, S_length, fromIndex_nat, subAt_T, ← Bool.decide_and]
  exact q
end Wc
set_option Elab.async false
set_option linter.all false
set_option maxRecDepth 100000
set_option maxHeartbeats 2000000
namespace Wc
open PySem PySem.Spec PyProof.Rows L2
/-! ### constants -/
theorem pe_sT {X : Cx} (l : Tx) {x : Str} {j pos} (e : x = SX.S l := by decide +kernel) : PE X (.Constant (.str x) j pos) (tC (T l)) := by
  rw [e]
  exact pe_str
theorem pe_gT {X : Cx} {x : Str} {z : Str} {pos : Pos} (h : ∃ t, X.mg x = some (.str z t)) (l : Tx) (hg : Gl X x := by rfl) (e : z = SX.S l := by decide +kernel) (hd : (x == ("__debug__" : Str)) = false := by decide) : PE X (.Name x pos) (tC (T l)) := by
  obtain ⟨t, h⟩ := h
  subst e
  exact pe_glob hg h ⟨t, rfl⟩ hd
theorem pe_gI {X : Cx} {x : Str} {i : Int} {pos : Pos} (h : ∃ t, X.mg x = some (.int i t)) (hg : Gl X x := by rfl) (hd : (x == ("__debug__" : Str)) = false := by decide) : PE X (.Name x pos) (tC (.int i)) := by
  obtain ⟨t, h⟩ := h
  exact pe_glob hg h ⟨t, rfl⟩ hd
/-! ### a def that is called -/
structure Cal (P : Program) (w : World) (K : PySem.W.Frag) (mg : Str → Option Value) (base : Heap) (x : Str) (st : Stmt) (k : Nat) (ps : List Str) (sp : Sp) : Prop where
  ex : ∃ f fd, FnOk P w K mg base CX0 k f fd ps sp ∧ mg x = some (.ref f) ∧ Fun K x x st f fd ∧ Binds K fd ps []
section
variable {X : Cx} {x : Str} {st : Stmt} {k n : Nat} {ps ks : List Str} {sp : Sp} {p pos : Pos} {e : Expr} {es : List Expr} {kws : List Keyword} {t tk : TA}
theorem pe_cl (C : Cal X.prog X.w X.K X.mg X.base x st k ps sp) (hr : Room n X.A) (ha : PA X (e :: es) t) (hkn : k ≤ n := by decide) (hg : Gl X x := by rfl) (hdb : (x == ("__debug__" : Str)) = false := by decide)
    (he : starEach (e :: es) X.env = (false, eval e X.env) :: starEach es X.env := by rfl) (hpl : (backTo pos (starEach es X.env)).any (·.1) = false := by rfl) : PE X (.Call (.Name x p) (e :: es) [] pos) (tCall sp [] E0 t) := by
  obtain ⟨f, fd, F, hm, hF, hb⟩ := C.ex
  exact pe_call F (hr.mono hkn) hg hm hF.kp hb .nil pass0 ha hdb he hpl
theorem pe_cl0 (C : Cal X.prog X.w X.K X.mg X.base x st k ps sp) (hr : Room n X.A) (hkn : k ≤ n := by decide) (hg : Gl X x := by rfl) (hdb : (x == ("__debug__" : Str)) = false := by decide) : PE X (.Call (.Name x p) [] [] pos) (tCall sp [] E0 tNil) := by
  obtain ⟨f, fd, F, hm, hF, hb⟩ := C.ex
  exact pe_call0 F (hr.mono hkn) hg hm hF.kp hb .nil pass0 hdb
/-- the values of the parameters out of the named ones -/
def KB (x : Str) (st : Stmt) (n : Nat) (ps ks : List Str) (g : List Value → List Value → List Value) (gV : List V → List V → List V) : Prop :=
  ∀ (K : PySem.W.Frag) (f : Addr) (fd : FuncData), Fun K x x st f fd → KBinds K fd ps ks g gV
def tCallK0 (sp : Sp) (gV : List V → List V → List V) (tk : TA) : TE := fun σ H Q => tk σ H fun zs H2 => sp (gV [] zs) H2 Q E0
theorem pe_clK0 {g : List Value → List Value → List Value} {gV : List V → List V → List V} (C : Cal X.prog X.w X.K X.mg X.base x st k ps sp) (kb : KB x st 0 ps ks g gV) (hr : Room n X.A) (hkw : PK X kws tk) (hkn : k ≤ n := by decide) (hg : Gl X x := by rfl) (hdb : (x == ("__debug__" : Str)) = false := by decide)
    (hall : (backToKw pos (keywordEach kws X.env)).all (·.1.isSome) = true := by rfl) (hks : (backToKw pos (keywordEach kws X.env)).filterMap (·.1) = ks := by rfl)
    (hpl : ((backTo pos (starEach [] X.env)).any (·.1) || (backToKw pos (keywordEach kws X.env)).any (·.1.isNone)) = false := by rfl) : PE X (.Call (.Name x p) [] kws pos) (tCallK0 sp gV tk) := by
  obtain ⟨f, fd, F, hm, hF, hb⟩ := C.ex
  refine ⟨fun pins s σ H Q I h => ?_⟩
  refine wpAny_Call_Name_kw (ld_glob I hg hm ?_ hdb)
  refine PySem.W.callWith_KW0 (h₀ := X.base) I.ok.mod.kin hF.kp hall (thn (hkw.run pos pins s σ H _ I h) fun ws s2 ⟨zs, H2, I2, rz, q2⟩ => ⟨I2.kIn, ?_⟩) hpl
  rw [hks]
  exact run_fnk (us := []) (vs := []) F (hr.mono hkn) (kb _ _ _ hF) pass0 I2 .nil rz q2
theorem pe_clK {g : List Value → List Value → List Value} {gV : List V → List V → List V} (C : Cal X.prog X.w X.K X.mg X.base x st k ps sp) (kb : KB x st 0 ps ks g gV) (hr : Room n X.A) (ha : PA X (e :: es) t) (hkw : PK X kws tk) (hkn : k ≤ n := by decide) (hg : Gl X x := by rfl)
    (hall : (backToKw pos (keywordEach kws X.env)).all (·.1.isSome) = true := by rfl) (hks : (backToKw pos (keywordEach kws X.env)).filterMap (·.1) = ks := by rfl)
    (hdb : (x == ("__debug__" : Str)) = false := by decide) (he : starEach (e :: es) X.env = (false, eval e X.env) :: starEach es X.env := by rfl)
    (hpl : ((backTo pos (starEach (e :: es) X.env)).any (·.1) || (backToKw pos (keywordEach kws X.env)).any (·.1.isNone)) = false := by rfl) : PE X (.Call (.Name x p) (e :: es) kws pos) (tCallK sp gV E0 t tk) := by
  obtain ⟨f, fd, F, hm, hF, hb⟩ := C.ex
  exact pe_callK F (hr.mono hkn) hg hm hF.kp (kb _ _ _ hF) pass0 ha hkw hall hks hdb he hpl
end
/-- two named values, in their sequence, or turned -/
def sw2 {α : Type} (turn : Bool) : List α → List α → List α
  | [], [a, b] => if turn then [b, a] else [a, b]
  | _, _ => []
theorem sw2_rel {turn : Bool} {vs zs : List V} {us ws : List Value} (r : Vals vs us) (rz : Vals zs ws) : Vals (sw2 turn vs zs) (sw2 turn us ws) := by
  cases r with
  | cons => exact .nil
  | nil =>
    cases rz with
    | nil => exact .nil
    | cons h1 r1 =>
      cases r1 with
      | nil => exact .nil
      | cons h2 r2 =>
        cases r2 with
        | cons => exact .nil
        | nil => cases turn with
          | true => exact .cons h2 (.cons h1 .nil)
          | false => exact .cons h1 (.cons h2 .nil)
theorem kb2 {x : Str} {st : Stmt} {ps ks : List Str} (turn : Bool) (hp : ps.length = 2)
    (h : ∀ (kV doc pm : Value) (an : Option Addr) (cdv ct a b : Value), bindArgs (PySem.W.fnOf x x (defArgs st) (defBody st) (defScope st) .none kV doc pm an cdv ct) ⟨[], ks.zip [a, b]⟩ = pure (ps.zip (sw2 turn [] [a, b]))) : KB x st 0 ps ks (sw2 turn) (sw2 turn) := by
  intro K f fd F
  obtain ⟨oc, od, kV, doc, pm, an, cdv, ct, osl, rfl, lk, hcd⟩ := F.ex
  refine ⟨fun s us ws _ hl => ?_, fun r rz => sw2_rel r rz⟩
  rw [hp] at hl
  match us, ws, hl with
  | [], [a, b], _ => exact .of_eq (h kV doc pm an cdv ct a b)
  | [], [], hl => exact absurd hl (by simp [sw2])
  | [], [_], hl => exact absurd hl (by simp [sw2])
  | [], _ :: _ :: _ :: _, hl => exact absurd hl (by simp [sw2])
  | _ :: _, ws, hl => exact absurd hl (by simp [sw2])

/-! ### isinstance with a built-in class -/
def rIsiB (K : PySem.W.Frag) : List V → Hp → VK → Prop := fun vs H Q => ∃ (x : V) (n t : String) (b : Bool), vs = [x, .ty n] ∧ TyX K H x (.type t) ∧ kitB t n = some b ∧ Q (.bl b) H
theorem cr_isi {X : Cx} : CallR X (.builtin "isinstance") (rIsiB X.K) := by
  intro pins s σ H vs us Q I r h
  obtain ⟨x, n, t, b, rfl, ty, hk, q⟩ := h
  exact call_isi pins s σ H _ us Q I r ⟨x, .ty n, .type t, .type n, b, rfl, .ty n, ty, kit_ty hk, q⟩
theorem k_str_str : kitB "str" "str" = some true := by decide +kernel
theorem k_bool_bool : kitB "bool" "bool" = some true := by decide +kernel
theorem k_int_int : kitB "int" "int" = some true := by decide +kernel
theorem k_int_bool : kitB "int" "bool" = some false := by decide +kernel
theorem k_bool_int : kitB "bool" "int" = some true := by decide +kernel
theorem k_list_list : kitB "list" "list" = some true := by decide +kernel
theorem k_tuple_tuple : kitB "tuple" "tuple" = some true := by decide +kernel
theorem k_str_bool : kitB "str" "bool" = some false := by decide +kernel

/-! ### sorted(xs, key=len) of texts -/
noncomputable def sortLen (xs : List Tx) : List Tx := xs.mergeSort (PySem.W.dataLe false fun a => PyData.int (a.length : Int))
def rSortLen (K : PySem.W.Frag) : List V → Hp → VK → Prop := fun vs H Q => ∃ (p : Addr) (xs : List Tx), vs = [.ref p] ∧ SqL K H p (xs.map T) ∧ (∀ a ∈ xs, a.length ≤ 16777216) ∧ ∀ q, H q = none → Q (.ref q) (upd H q (.lst ((sortLen xs).map T)))
def tSortLen (K : PySem.W.Frag) (t : TA) : TE := fun σ H Q => t σ H fun vs H1 => rSortLen K vs H1 Q
abbrev IsT (v : Value) (a : Tx) : Prop := ∃ t, v = .str (SX.S a) t
theorem each_of_vals : ∀ {xs : List Tx} {us : List Value}, Vals (xs.map T) us → PySem.W.EachIs IsT us xs
  | [], [], _ => .nil
  | a :: xs, u :: us, .cons h r => .cons h (each_of_vals r)
theorem vals_of_each : ∀ {xs : List Tx} {us : List Value}, PySem.W.EachIs IsT us xs → Vals (xs.map T) us
  | [], [], _ => .nil
  | a :: xs, u :: us, .cons h r => .cons h (vals_of_each r)
theorem pe_sortLen {X : Cx} {p p2 kp pos : Pos} {e : Expr} {t : TA} (hu : X.A.units + 64 < cLine) (hm : X.mg "sorted" = none) (hm2 : X.mg "len" = none) (ha : PA X [e] t) (hg : Gl X "sorted" := by rfl) (hg2 : Gl X "len" := by rfl)
    (he : backTo pos (starEach [e] X.env) = (false, eval e X.env) :: backTo pos (starEach [] X.env) := by rfl) (hpl : (backTo pos (starEach [e] X.env)).any (·.1) = false := by rfl) :
    PE X (.Call (.Name "sorted" p) [e] [⟨some "key", .Name "len" p2, kp⟩] pos) (tSortLen X.K t) := by
  refine ⟨fun pins s σ H Q I h => ?_⟩
  refine wpAny_Call_Name_kw (ld_blt I hg hm boot_sorted ?_)
  refine PyProof.Rows.callWith_kw (thn (ha.run pos pins s σ H _ I h) fun us s1 ⟨vs, H1, I1, r1, q1⟩ => ?_) he hpl
  show wpAny _ _ (evalAll ((do let v ← eval (.Name "len" p2) X.env; standAt pos; pure v) :: [])) _ _ s1
  refine wpAny_evalAll_cons (wpAny_bind (ld_blt I1 hg2 hm2 PySem.boot_len (wpAny_bind (wpAny_standAt (wpAny_pure ?_)))))
  refine wpAny_evalAll_nil ?_
  obtain ⟨q, xs, rfl, hs, hb, k⟩ := q1
  obtain rfl := Vals.ref1 r1
  obtain ⟨its, rv, hl, hz⟩ := I1.list hs
  show wpAny _ _ (call (.builtin "sorted") [.ref q] [(Str.ofString "key", .builtin "len")]) _ _ s1
  rw [List.length_map] at hz
  refine PySem.W.sorted_key_data (R := IsT) (bs := xs) (b := false) (fun a => PyData.int (a.length : Int)) hl.isList (each_of_vals rv) ?_ ?_ hz ?_ (PyProof.Rows.ksk_s1 _ _) (fun _ => PyProof.Rows.ksk_l1 _ _) (fun x => PyProof.Rows.ksk_t4 "len" x) ?_ ?_
  · intro d hd d' hd'
    obtain ⟨a, _, rfl⟩ := List.mem_map.mp hd
    obtain ⟨b, _, rfl⟩ := List.mem_map.mp hd'
    rfl
  · refine .inr fun d hd => ?_
    obtain ⟨a, _, rfl⟩ := List.mem_map.mp hd
    exact ⟨fun z => (nomatch z), fun _ z => (nomatch z)⟩
  · intro a _
    show X.A.units + 2 + _ < cLine
    have : (PyData.int (a.length : Int)).depth ≤ 1 := by simp [PyData.depth]
    omega
  · rintro v a ⟨t, rfl⟩ hm h tk hk
    have hla := hb a hm
    refine PyProof.Rows.len_str ?_ ?_
    · rw [S_length]
      omega
    · rw [S_length]
      exact ⟨h, _, rfl, fun _ _ z => z, .int _ _⟩
  · intro out c h' tk hk hn ho hlen eo
    have fr : H1 (s1.heap.objs.size + 1) = none := I1.hok.fresh (Nat.le_succ _)
    refine ⟨.ref _, upd H1 (s1.heap.objs.size + 1) (.lst ((sortLen xs).map T)), I1.laid (t' := tk) hk (Nat.le_succ _) ⟨?_, out, c, vals_of_each eo, ho⟩, rfl, k _ fr⟩
    rw [List.length_map]
    unfold sortLen
    rw [List.length_mergeSort]
    exact hz
theorem sortLen_pair (a b : Tx) : sortLen [a, b] = if b.length < a.length then [b, a] else [a, b] := by
  have e := PySem.W.dataLe_int (fun a : Tx => (a.length : Int))
  unfold sortLen
  rw [e]
  by_cases h : b.length < a.length
  · rw [if_pos h]
    simp [List.mergeSort, List.MergeSort.Internal.splitInTwo, List.merge, show ¬ a.length ≤ b.length by omega]
  · rw [if_neg h]
    simp [List.mergeSort, List.MergeSort.Internal.splitInTwo, List.merge, show a.length ≤ b.length by omega]
end Wc
set_option Elab.async false
set_option linter.all false
set_option maxRecDepth 100000
set_option maxHeartbeats 2000000
/-! what the new readings evaluate to (over HandS.Evl) -/
namespace Wc
open PySem PySem.Spec PyProof.Rows L2 Evl
section
variable {K : PySem.W.Frag} {σ : L2.St} {H H' : Hp} {ta tb te : TE} {t : TT} {x y z v : V}
theorem rv_addT {a b : Tx} (h : a.length + b.length ≤ 16777216) : RV rAddT (T a) (T b) H (T (a ++ b)) := fun H1 _ _ q => ⟨a, b, rfl, rfl, h, q H1 (Ex.refl H1)⟩
theorem rv_mulT {a : Tx} {n : Int} (h0 : -1000000000 ≤ n) (h1 : n ≤ 1000000000) (h : a.length * n.toNat ≤ 16777216) : RV rMulT (T a) (.int n) H (T (repT n.toNat a)) := fun H1 _ _ q => ⟨a, n, rfl, rfl, h0, h1, h, q H1 (Ex.refl H1)⟩
theorem rv_eqT {a b : Tx} : RV rEqT (T a) (T b) H (.bl (decide (a = b))) := fun H1 _ _ q => ⟨a, b, rfl, rfl, q H1 (Ex.refl H1)⟩
theorem rv_neT {a b : Tx} : RV rNeT (T a) (T b) H (.bl (!decide (a = b))) := fun H1 _ _ q => ⟨a, b, rfl, rfl, q H1 (Ex.refl H1)⟩
theorem rv_ltT {a b : Tx} : RV rLtT (T a) (T b) H (.bl (decide (a < b))) := fun H1 _ _ q => ⟨a, b, rfl, rfl, q H1 (Ex.refl H1)⟩
theorem rv_inT {c : Nat} {b : Tx} : RV rInT (T [c]) (T b) H (.bl (decide (c ∈ b))) := fun H1 _ _ q => ⟨c, b, rfl, rfl, q H1 (Ex.refl H1)⟩
theorem rv_eqB {a b : Bool} {g : Bool → Bool → Bool} : RV (rB0 g) (.bl a) (.bl b) H (.bl (g a b)) := fun H1 _ _ q => ⟨a, b, rfl, rfl, q H1 (Ex.refl H1)⟩
theorem rv_ixT {a : Tx} {i : Int} {c : Nat} (hl : a.length ≤ 16777216) (h : atI a i = some c) : RV rIxT (T a) (.int i) H (T [c]) := fun H1 _ _ q => ⟨a, i, c, rfl, rfl, hl, h, q H1 (Ex.refl H1)⟩
theorem rv_isN : RV (fun x y H Q => y = .non ∧ Q (.bl (decide (x = .non))) H) x .non H (.bl (decide (x = .non))) := fun H1 _ _ q => ⟨rfl, q H1 (Ex.refl H1)⟩
theorem rv_notN : RV (fun x y H Q => y = .non ∧ Q (.bl (!decide (x = .non))) H) x .non H (.bl (!decide (x = .non))) := fun H1 _ _ q => ⟨rfl, q H1 (Ex.refl H1)⟩
theorem rc_lenT {a : Tx} (h : a.length ≤ 16777216) : RC rLenT [T a] H (.int (a.length : Int)) := fun H1 _ _ q => ⟨a, rfl, h, q H1 (Ex.refl H1)⟩
theorem rc_isi {n t : String} {b : Bool} (ty : ∀ H1, Ex H H1 → TyX K H1 x (.type t)) (h : kitB t n = some b) : RC (rIsiB K) [x, .ty n] H (.bl b) := fun H1 e _ q => ⟨x, n, t, b, rfl, ty H1 e, h, q H1 (Ex.refl H1)⟩
theorem rc_int {i : Int} : RC (fun xs H Q => (∃ i, xs = [.int i] ∧ Q (.int i) H) ∨ ∃ k, xs = [.bl k] ∧ Q (.int (if k then 1 else 0)) H) [.int i] H (.int i) := fun H1 _ _ q => .inl ⟨i, rfl, q H1 (Ex.refl H1)⟩
theorem rc_gcd {a b : Int} : RC rGcd [.int a, .int b] H (.int ((Nat.gcd a.natAbs b.natAbs : Nat) : Int)) := fun H1 _ _ q => ⟨a, b, rfl, q H1 (Ex.refl H1)⟩
/-- a reading that is given by another one -/
theorem ev_slT {a : Tx} {tl th : TO} {lo hi : Option Int} (h : Ev te σ H (T a)) (h1 : EvO tl σ H lo) (h2 : EvO th σ H hi) (hl : a.length ≤ 16777216) : Ev (tSl rSlT te tl th) σ H (T (cutT a lo hi)) := fun H1 e _ q =>
  h H1 e _ fun H2 e2 => h1 H2 (e.trans e2) _ fun H3 e3 => h2 H3 ((e.trans e2).trans e3) _ fun H4 e4 => ⟨a, rfl, hl, q H4 ((e2.trans e3).trans e4)⟩
/-- a method of a text -/
def RM (r : V → List V → Hp → VK → Prop) (x : V) (vs : List V) (H : Hp) (z : V) : Prop := ∀ H1, Ex H H1 → ∀ Q : VK, (∀ H2, Ex H1 H2 → Q z H2) → r x vs H1 Q
theorem ev_bmT {r : V → List V → Hp → VK → Prop} {tq : TA} {a : Tx} {vs : List V} (h : Ev te σ H (T a)) (ha : EvA tq σ H vs) (hr : RM r (T a) vs H z) : Ev (tBM K "str" r te tq) σ H z := fun H1 e Q q =>
  h H1 e _ fun H2 e2 => ⟨rfl, ha H2 (e.trans e2) _ fun H3 e3 => hr H3 ((e.trans e2).trans e3) Q fun H4 e4 => q H4 ((e2.trans e3).trans e4)⟩
theorem ev_bmTL {r : V → List V → Hp → VK → Prop} {a : Tx} {xs : List V} (h : Ev te σ H (T a)) (ha : EvL tb σ H xs) (hr : ∀ p H1, H1 p = some (.lst xs) → Ex H H1 → RM r (T a) [.ref p] H1 z) : Ev (tBM K "str" r te (tCons tb tNil)) σ H z := fun H1 e Q q =>
  h H1 e _ fun H2 e2 => ⟨rfl, ha H2 (e.trans e2) _ fun p H3 _ e3 hp => hr p H3 hp ((e.trans e2).trans e3) H3 (Ex.refl H3) Q fun H4 e4 => q H4 ((e2.trans e3).trans e4)⟩
/-- a call of a built-in on one new list -/
theorem ev_cbL {r : List V → Hp → VK → Prop} {xs : List V} (h : EvL te σ H xs) (hr : ∀ p H1, H1 p = some (.lst xs) → Ex H H1 → RC r [.ref p] H1 z) : Ev (tCB r (tCons te tNil)) σ H z := fun H1 e Q q =>
  h H1 e _ fun p H2 _ e2 hp => hr p H2 hp (e.trans e2) H2 (Ex.refl H2) Q fun H3 e3 => q H3 (e2.trans e3)
theorem rc_all {p : Addr} {bs : List Bool} (h : SqL K H p (bs.map V.bl)) : RC (rAll K) [.ref p] H (.bl (bs.all id)) := fun H1 e _ q => ⟨p, bs, rfl, ex_l e h, q H1 (Ex.refl H1)⟩
theorem rc_any {p : Addr} {bs : List Bool} (h : SqL K H p (bs.map V.bl)) : RC (rAny K) [.ref p] H (.bl (bs.any id)) := fun H1 e _ q => ⟨p, bs, rfl, ex_l e h, q H1 (Ex.refl H1)⟩
theorem rc_sum {p : Addr} {ns : List Int} (h : SqL K H p (ns.map V.int)) : RC (rSum K) [.ref p] H (.int ns.sum) := fun H1 e _ q => ⟨p, ns, rfl, ex_l e h, q H1 (Ex.refl H1)⟩
theorem rm_join {p : Addr} {ys : List Tx} (h : SqL K H p (ys.map T) ∨ SqT K H p (ys.map T)) (hl : (ys.map List.length).sum ≤ 16777216) : RM (rJoinT K) (T []) [.ref p] H (T ys.flatten) := fun H1 e _ q =>
  ⟨[], p, ys, rfl, rfl, h.imp (ex_l e) (ex_t e), by simpa using hl, by rw [joinL_nil]; exact q H1 (Ex.refl H1)⟩

/-! ### heaps: all but some stand -/
def Exc (B : Addr → Prop) (H H' : Hp) : Prop := ∀ b o, ¬ B b → H b = some o → H' b = some o
theorem Exc.refl {B : Addr → Prop} (H : Hp) : Exc B H H := fun _ _ _ h => h
theorem Exc.trans {B : Addr → Prop} {H H1 H2 : Hp} (a : Exc B H H1) (b : Exc B H1 H2) : Exc B H H2 := fun x o n h => b x o n (a x o n h)
theorem Exc.of {B : Addr → Prop} {H H1 : Hp} (a : Ex H H1) : Exc B H H1 := fun x o _ h => a x o h
theorem Exc.ex {H H1 : Hp} (a : Exc (fun _ => False) H H1) : Ex H H1 := fun x o h => a x o (fun z => z) h
theorem Exc.then {B : Addr → Prop} {H H1 H2 : Hp} (a : Exc B H H1) (b : Ex H1 H2) : Exc B H H2 := a.trans (.of b)
theorem Exc.mono {B B' : Addr → Prop} {H H1 : Hp} (a : Exc B H H1) (h : ∀ b, B b → B' b) : Exc B' H H1 := fun x o n e => a x o (fun z => n (h x z)) e
theorem Exc.upd {B : Addr → Prop} {H H1 : Hp} {p : Addr} {o : HO} (a : Exc B H H1) (h : B p ∨ H p = none) : Exc B H (upd H1 p o) := fun x u n e => by
  have hx : x ≠ p := by
    rintro rfl
    rcases h with h | h
    · exact n h
    · rw [h] at e; cases e
  rw [upd_ne hx]
  exact a x u n e
theorem Exc.l {B : Addr → Prop} {K : PySem.W.Frag} {H H1 : Hp} {p : Addr} {xs : List V} (a : Exc B H H1) (n : ¬ B p) (h : SqL K H p xs) : SqL K H1 p xs := by
  rcases h with (h | ⟨o, h⟩) | h
  · exact .inl (.inl (a _ _ n h))
  · exact .inl (.inr ⟨o, a _ _ n h⟩)
  · exact .inr h
theorem Exc.tp {B : Addr → Prop} {K : PySem.W.Frag} {H H1 : Hp} {p : Addr} {xs : List V} (a : Exc B H H1) (n : ¬ B p) (h : SqT K H p xs) : SqT K H1 p xs := by
  rcases h with (h | ⟨o, h⟩) | h
  · exact .inl (.inl (a _ _ n h))
  · exact .inl (.inr ⟨o, a _ _ n h⟩)
  · exact .inr h
theorem Exc.fresh {B : Addr → Prop} {H H1 : Hp} {p : Addr} (a : Exc B H H1) (n : ¬ B p) (h : H1 p = none) : H p = none := by
  cases e : H p with
  | none => rfl
  | some o => rw [a _ _ n e] at h; cases h

/-! ### what is walked: the values, one by one -/
/-- wi gives n values; the i-th is such that P i of it and the heap holds; own: what must stand meanwhile -/
def Src (wi : TI) (σ : L2.St) (H : Hp) (n : Nat) (own : Addr → Prop) (P : Nat → V → Hp → Prop) : Prop :=
  ∀ H1, Ex H H1 → ∀ R : It → Hp → Prop, (∀ J H2 S, Ex H1 H2 → Walk J n S (fun i Ha v Hb => Ex Ha Hb ∧ P i v Hb) → (∀ (B : Addr → Prop) Ha, (∀ b, B b → H b ≠ none ∧ ¬ own b) → Exc B H2 Ha → S Ha) → R J H2) → wi σ H1 R
theorem src_list {a : Addr} {xs : List V} {tl : TE} (h : Ev tl σ H (.ref a)) (hs : SqL K H a xs) : Src (iList K tl) σ H xs.length (fun b => b = a) (fun i v _ => xs[i]? = some v) := fun H1 e R q =>
  h H1 e _ fun H2 e2 => ⟨a, rfl, ⟨xs, ex_l (e.trans e2) hs⟩, q _ H2 _ e2 (walk_list.mono (fun _ z => z) fun i Ha v Hb _ _ hy => by
    obtain ⟨rfl, hy⟩ := hy
    exact ⟨Ex.refl _, hy⟩) fun B Ha hB ea => ea.l (fun z => (hB a z).2 rfl) (ex_l (e.trans e2) hs)⟩
theorem src_listM {α : Type} {f : α → V} {a : Addr} {xs : List α} {tl : TE} (h : Ev tl σ H (.ref a)) (hs : SqL K H a (xs.map f)) : Src (iList K tl) σ H xs.length (fun b => b = a) (fun i v _ => (xs.map f)[i]? = some v) := by
  have h1 := src_list h hs
  rw [List.length_map] at h1
  exact h1
/-- over a new list -/
theorem src_newL {xs : List V} {tl : TE} (h : EvL tl σ H xs) : Src (iList K tl) σ H xs.length (fun _ => False) (fun i v _ => xs[i]? = some v) := fun H1 e R q =>
  h H1 e _ fun a H2 ha e2 h2 => ⟨a, rfl, ⟨xs, sq_of h2⟩, q _ H2 _ e2 (walk_list.mono (fun _ z => z) fun i Ha v Hb _ _ hy => by
    obtain ⟨rfl, hy⟩ := hy
    exact ⟨Ex.refl _, hy⟩) fun B Ha hB ea => ea.l (fun z => (hB a z).1 (fresh_back e ha)) (sq_of h2)⟩
theorem src_newLM {α : Type} {f : α → V} {xs : List α} {tl : TE} (h : EvL tl σ H (xs.map f)) : Src (iList K tl) σ H xs.length (fun _ => False) (fun i v _ => (xs.map f)[i]? = some v) := by
  have h1 := src_newL (K := K) h
  rw [List.length_map] at h1
  exact h1
theorem src_tup {a : Addr} {xs : List V} {tl : TE} (h : Ev tl σ H (.ref a)) (hs : SqT K H a xs) : Src (iTup K tl) σ H xs.length (fun b => b = a) (fun i v _ => xs[i]? = some v) := fun H1 e R q =>
  h H1 e _ fun H2 e2 => ⟨a, rfl, ⟨xs, ex_t (e.trans e2) hs⟩, q _ H2 _ e2 (walk_tup.mono (fun _ z => z) fun i Ha v Hb _ _ hy => by
    obtain ⟨rfl, hy⟩ := hy
    exact ⟨Ex.refl _, hy⟩) fun B Ha hB ea => ea.tp (fun z => (hB a z).2 rfl) (ex_t (e.trans e2) hs)⟩
theorem src_tupM {α : Type} {f : α → V} {a : Addr} {xs : List α} {tl : TE} (h : Ev tl σ H (.ref a)) (hs : SqT K H a (xs.map f)) : Src (iTup K tl) σ H xs.length (fun b => b = a) (fun i v _ => (xs.map f)[i]? = some v) := by
  have h1 := src_tup h hs
  rw [List.length_map] at h1
  exact h1
theorem src_str {a : Tx} {tl : TE} (h : Ev tl σ H (T a)) : Src (iStr tl) σ H a.length (fun _ => False) (fun i v _ => (a.map fun c => T [c])[i]? = some v) := fun H1 e R q =>
  h H1 e _ fun H2 e2 => ⟨_, rfl, q _ H2 (fun _ => True) e2 (by
    have w := (walk_str (z := SX.S a)).mono (fun _ z => z) (Y' := fun i Ha v Hb => Ex Ha Hb ∧ (a.map fun c => T [c])[i]? = some v) (fun i Ha v Hb _ _ hy => by
      obtain ⟨rfl, c, hc, rfl⟩ := hy
      refine ⟨Ex.refl _, ?_⟩
      have hc' : a[i]? = some c := by
        have : (a.toArray)[i]? = some c := hc
        simpa using this
      rw [List.getElem?_map, hc']
      rfl)
    have e3 : (SX.S a).cps.size = a.length := S_length a
    rw [e3] at w
    exact w) fun _ _ _ _ => True.intro⟩
theorem src_range1 {tq : TA} {n : Nat} (h : EvA tq σ H [.int (n : Int)]) (hn : n ≤ 1000000000) : Src (iRng1 tq) σ H n (fun _ => False) (fun i v _ => v = .int (i : Int)) := fun H1 e R q =>
  h H1 e _ fun H2 e2 => ⟨_, rfl, by omega, by omega, by
    have w := (walk_range (lo := 0) (n := n)).mono (fun _ z => z) (Y' := fun i Ha v Hb => Ex Ha Hb ∧ v = .int (i : Int)) (fun i Ha v Hb _ _ hy => by
      obtain ⟨rfl, rfl⟩ := hy
      exact ⟨Ex.refl _, by show V.int (0 + (i : Int)) = V.int (i : Int); rw [Int.zero_add]⟩)
    exact q _ H2 _ e2 w fun _ _ _ _ => True.intro⟩
theorem src_range2 {tq : TA} {lo hi : Int} {n : Nat} (h : EvA tq σ H [.int lo, .int hi]) (h0 : -1000000000 ≤ lo) (h1 : lo ≤ 1000000000) (h2 : -1000000000 ≤ hi) (h3 : hi ≤ 1000000000) (hn : n = (hi - lo).toNat) : Src (iRng2 tq) σ H n (fun _ => False) (fun i v _ => v = .int (lo + (i : Int))) := fun H1 e R q =>
  h H1 e _ fun H2 e2 => ⟨lo, hi, rfl, ⟨by omega, by omega, by omega, by omega⟩, by
    subst hn
    have w := (walk_range (lo := lo) (n := (hi - lo).toNat)).mono (fun _ z => z) (Y' := fun i Ha v Hb => Ex Ha Hb ∧ v = .int (lo + (i : Int))) (fun i Ha v Hb _ _ hy => by
      obtain ⟨rfl, rfl⟩ := hy
      exact ⟨Ex.refl _, rfl⟩)
    exact q _ H2 _ e2 w fun _ _ _ _ => True.intro⟩
theorem src_enum {a : Addr} {xs : List V} {tl : TE} (h : Ev tl σ H (.ref a)) (hs : SqL K H a xs) : Src (iEnum K (tCons tl tNil)) σ H xs.length (fun b => b = a) (fun i v Hb => ∃ p x, v = .ref p ∧ xs[i]? = some x ∧ Hb p = some (.tup [.int (i : Nat), x])) := fun H1 e R q =>
  h H1 e _ fun H2 e2 => ⟨a, xs, rfl, ex_l (e.trans e2) hs, q _ H2 _ e2 (walk_enum.mono (fun _ z => z) fun i Ha v Hb _ _ hy => by
    obtain ⟨p, y, x, rfl, hn, rfl, h1, h2⟩ := hy
    refine ⟨Ex.new hn, p, x, rfl, h2, ?_⟩
    rw [← Option.some.inj h1]
    exact upd_same) fun B Ha hB ea => ea.l (fun z => (hB a z).2 rfl) (ex_l (e.trans e2) hs)⟩
theorem src_zip {a b : Addr} {xs ys : List V} {n : Nat} {tl tr : TE} (h : Ev tl σ H (.ref a)) (h2 : Ev tr σ H (.ref b)) (hs : SqL K H a xs) (hs2 : SqL K H b ys) (hn : n = min xs.length ys.length) :
    Src (iZip K (tCons tl (tCons tr tNil))) σ H n (fun c => c = a ∨ c = b) (fun i v Hb => ∃ p x y, v = .ref p ∧ xs[i]? = some x ∧ ys[i]? = some y ∧ Hb p = some (.tup [x, y])) := fun H1 e R q =>
  h H1 e _ fun H2 e2 => h2 H2 (e.trans e2) _ fun H3 e3 => ⟨a, b, xs, ys, rfl, ex_l ((e.trans e2).trans e3) hs, ex_l ((e.trans e2).trans e3) hs2, q _ H3 _ (e2.trans e3) ((walk_zip hn).mono (fun _ z => z) fun i Ha v Hb _ _ hy => by
    obtain ⟨p, x, y, rfl, hf, rfl, h1, h2⟩ := hy
    exact ⟨Ex.new hf, p, x, y, rfl, h1, h2, upd_same⟩) fun B Ha hB ea => ⟨ea.l (fun z => (hB a z).2 (.inl rfl)) (ex_l ((e.trans e2).trans e3) hs), ea.l (fun z => (hB b z).2 (.inr rfl)) (ex_l ((e.trans e2).trans e3) hs2)⟩⟩
theorem src_as {wi : TI} {n : Nat} {own : Addr → Prop} {P P' : Nat → V → Hp → Prop} (h : Src wi σ H n own P) (hp : ∀ i v H', i < n → P i v H' → P' i v H') : Src wi σ H n own P' := fun H1 e R q => h H1 e R fun J H2 S e2 w hS => q J H2 S e2 ⟨w.goes, w.stops, fun i Ha v Hb hi hg hy => ⟨(w.yields i Ha v Hb hi hg hy).1, hp i v Hb hi (w.yields i Ha v Hb hi hg hy).2⟩⟩ hS
theorem src_range1L {tq : TA} {n : Nat} (h : EvA tq σ H [.int (n : Int)]) (hn : n ≤ 1000000000) : Src (iRng1 tq) σ H (List.range n).length (fun _ => False) (fun i v _ => ((List.range n).map fun (i : Nat) => V.int (i : Int))[i]? = some v) := by
  have h1 := src_as (P' := fun i v _ => ((List.range n).map fun (i : Nat) => V.int (i : Int))[i]? = some v) (src_range1 h hn) fun i v _ hi hp => by
    subst hp
    show ((List.range n).map fun (i : Nat) => V.int (i : Int))[i]? = _
    rw [List.getElem?_map, List.getElem?_range hi]
    rfl
  have e : (List.range n).length = n := List.length_range
  rw [e]
  exact h1
theorem src_range2L {tq : TA} {lo hi : Int} {n : Nat} (h : EvA tq σ H [.int lo, .int hi]) (h0 : -1000000000 ≤ lo) (h1 : lo ≤ 1000000000) (h2 : -1000000000 ≤ hi) (h3 : hi ≤ 1000000000) (hn : n = (hi - lo).toNat) : Src (iRng2 tq) σ H (List.range n).length (fun _ => False) (fun i v _ => ((List.range n).map fun (i : Nat) => V.int (lo + (i : Int)))[i]? = some v) := by
  have h1 := src_as (P' := fun i v _ => ((List.range n).map fun (i : Nat) => V.int (lo + (i : Int)))[i]? = some v) (src_range2 h h0 h1 h2 h3 hn) fun i v _ hi hp => by
    subst hp
    show ((List.range n).map fun (i : Nat) => V.int (lo + (i : Int)))[i]? = _
    rw [List.getElem?_map, List.getElem?_range hi]
    rfl
  have e : (List.range n).length = n := List.length_range
  rw [e]
  exact h1

/-! ### comprehensions over such -/
/-- the target a name -/
theorem el_lcW {wi : TI} {j : Nat} {vs : List Nat} {n : Nat} {own : Addr → Prop} {P : Nat → V → Hp → Prop} (f : Nat → Bool) (v : Nat → V) (hs : Src wi σ H n own P) (hn : n ≤ 40000) (hw : ∀ x, wipe ((wipe σ vs).set j (some x)) vs = wipe σ vs)
    (ht : ∀ (i : Nat) (x : V) H1, Ex H H1 → i < n → P i x H1 → EvT t ((wipe σ vs).set j (some x)) H1 (f i)) (he : ∀ (i : Nat) (x : V) H1, Ex H H1 → i < n → P i x H1 → f i = true → Ev te ((wipe σ vs).set j (some x)) H1 (v i)) :
    EvL (tLc wi (gName j) t te vs) σ H (given n f v) := fun H0 e Q q => hs H0 e _ fun J H1 S e1 w hS => fun Dl hD =>
  lc_it w (Qd := fun H3 => Q (.ref Dl) H3) (Cw H1 f v Dl) ⟨hD, Ex.new hD, upd_same⟩ (fun i Hi _ p => hS (fun _ => False) Hi (fun _ z => z.elim) (.of p.2.1)) (fun i x Hi Hj hi p hy => by
    obtain ⟨ey, hP⟩ := hy
    have p' : Cw H1 f v Dl i Hj := ⟨p.1, p.2.1.trans ey, ey _ _ p.2.2⟩
    have eAll : Ex H Hj := (e.trans e1).trans p'.2.1
    refine ⟨hw x, ?_⟩
    have p2 : Cw H1 f v Dl i Hj := p'
    obtain ⟨p1, p3, p4⟩ := p2
    refine ht i x Hj eAll hi hP Hj (Ex.refl _) _ fun H3 e3 => ?_
    cases hf : f i with
    | true =>
      show te _ H3 fun y H4 => ∃ acc, H4 Dl = some (.lst acc) ∧ acc.length < sizeLine ∧ Cw H1 f v Dl (i + 1) (upd H4 Dl (.lst (acc ++ [y])))
      refine he i x Hj eAll hi hP hf H3 e3 _ fun H4 e4 => ⟨given i f v, e4 Dl _ (e3 Dl _ p4), sz_lt (by have := given_len i f v; omega), p1, Ex.mut ((p3.trans e3).trans e4) p1, ?_⟩
      rw [given_yes hf]
      exact upd_same
    | false =>
      show Cw H1 f v Dl (i + 1) H3
      refine ⟨p1, p3.trans e3, ?_⟩
      rw [given_no hf]
      exact e3 Dl _ p4) (fun H3 p => q Dl H3 (fresh_back e1 p.1) (e1.trans p.2.1) p.2.2)
theorem given_map {α : Type} (xs : List α) (p : α → Bool) (g : α → V) (f : Nat → Bool) (v : Nat → V) (hf : ∀ i a, xs[i]? = some a → f i = p a) (hv : ∀ i a, xs[i]? = some a → v i = g a) : given xs.length f v = (xs.filter p).map g := by
  have key : ∀ n, n ≤ xs.length → given n f v = ((xs.take n).filter p).map g := fun n => by
    induction n with
    | zero => intro _; rfl
    | succ n ih =>
      intro hn
      have ha : xs[n]? = some xs[n] := List.getElem?_eq_getElem (by omega)
      rw [List.take_add_one, ha, List.filter_append, List.map_append, ← ih (by omega)]
      cases hp : p xs[n] with
      | true =>
        rw [given_yes ((hf n _ ha).trans hp), hv n _ ha]
        simp [hp]
      | false =>
        rw [given_no ((hf n _ ha).trans hp)]
        simp [hp]
  have := key xs.length (Nat.le_refl _)
  rw [List.take_length] at this
  exact this
/-- over values that stand for xs, one by one; the target a name -/
theorem el_lcX {α : Type} {wi : TI} {j : Nat} {vs : List Nat} {n : Nat} {own : Addr → Prop} {P : Nat → V → Hp → Prop} {g : α → V} {p : α → Bool} (xs : List α) (R : α → V → Hp → Prop) (hs : Src wi σ H n own P) (hn : n ≤ 40000) (hw : ∀ x, wipe ((wipe σ vs).set j (some x)) vs = wipe σ vs)
    (hx : xs.length = n) (hP : ∀ i x H1, P i x H1 → ∃ a, xs[i]? = some a ∧ R a x H1)
    (ht : ∀ (a : α) (x : V) H1, Ex H H1 → a ∈ xs → R a x H1 → EvT t ((wipe σ vs).set j (some x)) H1 (p a)) (he : ∀ (a : α) (x : V) H1, Ex H H1 → a ∈ xs → R a x H1 → p a = true → Ev te ((wipe σ vs).set j (some x)) H1 (g a)) :
    EvL (tLc wi (gName j) t te vs) σ H ((xs.filter p).map g) := by
  subst hx
  have h0 := el_lcW (te := te) (t := t) (fun i => match xs[i]? with | some a => p a | none => false) (fun i => match xs[i]? with | some a => g a | none => .non) hs hn hw
    (fun i x H1 e hi hp => by
      obtain ⟨a, ha, hr⟩ := hP i x H1 hp
      simp only [ha]
      exact ht a x H1 e (List.mem_of_getElem? ha) hr)
    (fun i x H1 e hi hp hf => by
      obtain ⟨a, ha, hr⟩ := hP i x H1 hp
      simp only [ha] at hf ⊢
      exact he a x H1 e (List.mem_of_getElem? ha) hr hf)
  rw [given_map xs p g _ _ (fun i a ha => by simp only [ha]) (fun i a ha => by simp only [ha])] at h0
  exact h0
theorem et_yes : EvT tYes σ H true := fun H1 _ _ q => q H1 (Ex.refl H1)
theorem at_map {α : Type} {xs : List α} {f : α → V} {i : Nat} {x : V} (h : (xs.map f)[i]? = some x) : ∃ a, xs[i]? = some a ∧ x = f a := by
  rw [List.getElem?_map] at h
  cases e : xs[i]? with
  | none => rw [e] at h; cases h
  | some a => rw [e] at h; exact ⟨a, rfl, (Option.some.inj h).symm⟩
/-- over a list of values f a; no test -/
theorem el_lcM {α : Type} {wi : TI} {j : Nat} {vs : List Nat} {own : Addr → Prop} {f g : α → V} (xs : List α) (hs : Src wi σ H xs.length own (fun i v _ => (xs.map f)[i]? = some v)) (hn : xs.length ≤ 40000) (hw : ∀ x, wipe ((wipe σ vs).set j (some x)) vs = wipe σ vs)
    (he : ∀ (a : α) H1, Ex H H1 → a ∈ xs → Ev te ((wipe σ vs).set j (some (f a))) H1 (g a)) : EvL (tLc wi (gName j) tYes te vs) σ H (xs.map g) := by
  have h := el_lcX (te := te) (t := tYes) (p := fun _ => true) (g := g) xs (fun a x _ => x = f a) hs hn hw rfl (fun i x _ hp => at_map hp) (fun _ _ _ _ _ _ => et_yes) (fun a x H1 e hm hr _ => by rw [hr]; exact he a H1 e hm)
  rw [List.filter_eq_self.mpr (fun _ _ => rfl)] at h
  exact h
/-- .. with a test -/
theorem el_lcF {α : Type} {wi : TI} {j : Nat} {vs : List Nat} {own : Addr → Prop} {f g : α → V} {p : α → Bool} (xs : List α) (hs : Src wi σ H xs.length own (fun i v _ => (xs.map f)[i]? = some v)) (hn : xs.length ≤ 40000) (hw : ∀ x, wipe ((wipe σ vs).set j (some x)) vs = wipe σ vs)
    (ht : ∀ (a : α) H1, Ex H H1 → a ∈ xs → EvT t ((wipe σ vs).set j (some (f a))) H1 (p a)) (he : ∀ (a : α) H1, Ex H H1 → a ∈ xs → p a = true → Ev te ((wipe σ vs).set j (some (f a))) H1 (g a)) : EvL (tLc wi (gName j) t te vs) σ H ((xs.filter p).map g) :=
  el_lcX (te := te) (t := t) xs (fun a x _ => x = f a) hs hn hw rfl (fun i x _ hp => at_map hp) (fun a x H1 e hm hr => by rw [hr]; exact ht a H1 e hm) (fun a x H1 e hm hr hf => by rw [hr]; exact he a H1 e hm hf)

/-! ### for loops over such; B: what the turns may change; the word speaks of the heap Hs at the loop's start -/
variable {D : Ends} {tu tz : TS}
theorem s_forW {wi : TI} {g : TG} {n : Nat} {own : Addr → Prop} {P : Nat → V → Hp → Prop} (B : Addr → Prop) (hs : Src wi σ H n own P) (hB : ∀ b, B b → H b ≠ none ∧ ¬ own b) (Pv : Hp → Nat → L2.St → Hp → Prop)
    (h0 : ∀ Hs, Ex H Hs → Pv Hs 0 σ Hs) (hE : ∀ Hs i σ' H', Pv Hs i σ' H' → Exc B Hs H') (hst : ∀ Hs i σ' Ha Hb, Pv Hs i σ' Ha → Ex Ha Hb → Pv Hs i σ' Hb)
    (hb : ∀ Hs i x σ' H', Ex H Hs → i < n → Pv Hs i σ' H' → P i x H' → g x σ' H' fun σ2 H2 => tu { D with nx := Pv Hs (i + 1), ct := Pv Hs (i + 1), bk := D.nx } σ2 H2) (hd : ∀ Hs σ' H', Ex H Hs → Pv Hs n σ' H' → D.nx σ' H') : tFor wi g tu D σ H :=
  hs H (Ex.refl H) _ fun J Hs S e w hS => for_it w (Pv Hs) (h0 Hs e) (fun i σ' H' _ p => hS B H' hB (hE Hs i σ' H' p)) (fun i x σ' Ha Hb hi p hy => hb Hs i x σ' Hb e hi (hst Hs i σ' Ha Hb p hy.1) hy.2) (fun σ' H' p => hd Hs σ' H' e p)
theorem q_forW {wi : TI} {g : TG} {n : Nat} {own : Addr → Prop} {P : Nat → V → Hp → Prop} (B : Addr → Prop) (hs : Src wi σ H n own P) (hB : ∀ b, B b → H b ≠ none ∧ ¬ own b) (Pv : Hp → Nat → L2.St → Hp → Prop)
    (h0 : ∀ Hs, Ex H Hs → Pv Hs 0 σ Hs) (hE : ∀ Hs i σ' H', Pv Hs i σ' H' → Exc B Hs H') (hst : ∀ Hs i σ' Ha Hb, Pv Hs i σ' Ha → Ex Ha Hb → Pv Hs i σ' Hb)
    (hb : ∀ Hs i x σ' H', Ex H Hs → i < n → Pv Hs i σ' H' → P i x H' → g x σ' H' fun σ2 H2 => tu { D with nx := Pv Hs (i + 1), ct := Pv Hs (i + 1), bk := tz D } σ2 H2) (hd : ∀ Hs σ' H', Ex H Hs → Pv Hs n σ' H' → tz D σ' H') : tSeq (tFor wi g tu) tz D σ H :=
  s_forW (D := { D with nx := tz D }) B hs hB Pv h0 hE hst hb hd
end
end Wc
set_option Elab.async false
set_option linter.all false
set_option maxRecDepth 100000
set_option maxHeartbeats 2000000
/-! loops that search, calls of promises -/
namespace Wc
open PySem PySem.Spec PyProof.Rows L2 Evl
section
variable {K : PySem.W.Frag} {σ : L2.St} {H H' : Hp} {ta tb te : TE} {t : TT} {x y z v : V} {D : Ends} {tu tr tz : TS}
theorem set_self {σ : L2.St} {j : Nat} (hj : j < σ.length) : ∃ y, σ = σ.set j y := ⟨σ[j], by simp⟩
/-- for x in ..: if t: return .. -/
theorem q_search {wi : TI} {j : Nat} {n : Nat} {own : Addr → Prop} {P : Nat → V → Hp → Prop} (hs : Src wi σ H n own P) (hj : j < σ.length) (f : Nat → Bool)
    (ht : ∀ i x H1, Ex H H1 → i < n → P i x H1 → (∀ k, k < i → f k = false) → EvT t (σ.set j (some x)) H1 (f i))
    (hr : ∀ i x H1 H2, Ex H H1 → i < n → P i x H1 → Ex H1 H2 → (∀ k, k < i → f k = false) → f i = true → ∀ D' : Ends, D'.rt = D.rt → tr D' (σ.set j (some x)) H2)
    (hd : ∀ y H1, Ex H H1 → (∀ i, i < n → f i = false) → tz D (σ.set j y) H1) : tSeq (tFor wi (gName j) (tIfS t tr tNext)) tz D σ H := by
  refine q_forW (fun _ => False) hs (fun _ z => z.elim) (fun Hs i σ' H' => (∃ y, σ' = σ.set j y) ∧ Ex Hs H' ∧ ∀ k, k < i → f k = false) ?_ ?_ ?_ ?_ ?_
  · intro Hs e
    exact ⟨set_self hj, Ex.refl _, fun k hk => absurd hk (Nat.not_lt_zero _)⟩
  · intro Hs i σ' H' p
    exact .of p.2.1
  · intro Hs i σ' Ha Hb p e
    exact ⟨p.1, p.2.1.trans e, p.2.2⟩
  · rintro Hs i x σ' H' e hi ⟨⟨y, rfl⟩, e2, hk⟩ hP
    have eA : Ex H H' := e.trans e2
    show tIfS t tr tNext _ ((σ.set j y).set j (some x)) H'
    rw [List.set_set]
    refine s_when (ht i x H' eA hi hP hk) (fun hb H1 e1 => ?_) (fun hb H1 e1 => ?_)
    · exact hr i x H' H1 eA hi hP e1 hk hb _ rfl
    · exact ⟨⟨_, rfl⟩, e2.trans e1, fun k hk' => by
        rcases Nat.lt_succ_iff_lt_or_eq.mp hk' with h | h
        · exact hk k h
        · rw [h]; exact hb⟩
  · rintro Hs σ' H' e ⟨⟨y, rfl⟩, e2, hk⟩
    exact hd y H' (e.trans e2) hk
theorem rc_allM {α : Type} {p : Addr} {xs : List α} {f : α → Bool} (h : SqL K H p (xs.map fun a => V.bl (f a))) : RC (rAll K) [.ref p] H (.bl (xs.all f)) := by
  have h2 : SqL K H p ((xs.map f).map V.bl) := by
    rw [List.map_map]
    exact h
  have e := rc_all h2
  rw [List.all_map] at e
  exact e
theorem rc_anyM {α : Type} {p : Addr} {xs : List α} {f : α → Bool} (h : SqL K H p (xs.map fun a => V.bl (f a))) : RC (rAny K) [.ref p] H (.bl (xs.any f)) := by
  have h2 : SqL K H p ((xs.map f).map V.bl) := by
    rw [List.map_map]
    exact h
  have e := rc_any h2
  rw [List.any_map] at e
  exact e
theorem rc_sumM {α : Type} {p : Addr} {xs : List α} {f : α → Int} (h : SqL K H p (xs.map fun a => V.int (f a))) : RC (rSum K) [.ref p] H (.int (xs.map f).sum) := by
  have h2 : SqL K H p ((xs.map f).map V.int) := by
    rw [List.map_map]
    exact h
  exact rc_sum h2
theorem divW {i j : Int} (h : 0 < j) (h1 : j ≤ 1000000000) : CDivW i j := wide_div (b := 31) h (by omega) (by decide) (by decide)
theorem et_andI {u : TT} {a b : Bool} (h1 : EvT t σ H a) (h2 : a = true → EvT u σ H b) : EvT (tAnd t u) σ H (a && b) := et_and h1 h2
/-- and: what stands behind is asked only where the first holds -/
theorem et_andG {u : TT} {a : Bool} {b : Bool} (h1 : EvT t σ H a) (h2 : a = true → EvT u σ H b) (h3 : a = false → b = false) : EvT (tAnd t u) σ H b := by
  have h := et_and h1 h2
  cases a with
  | true => exact h
  | false =>
    rw [h3 rfl] at h ⊢
    exact h
/-- a slice of a new list -/
theorem el_slN {xs : List V} {tl th : TO} {lo hi : Option Int} (h : EvL te σ H xs) (h1 : EvO tl σ H lo) (h2 : EvO th σ H hi) : EvL (tSl (rSlL K) te tl th) σ H (cutV xs lo hi) := fun H1 e _ q =>
  h H1 e _ fun a H2 ha e2 hx => h1 H2 (e.trans e2) _ fun H3 e3 => h2 H3 ((e.trans e2).trans e3) _ fun H4 e4 =>
    ⟨a, xs, rfl, ex_l (e3.trans e4) (sq_of hx), fun p hp => q p _ (fresh_back ((e2.trans e3).trans e4) hp) (((e2.trans e3).trans e4).trans (Ex.new hp)) upd_same⟩
theorem cutV_to (xs : List V) (n : Nat) : cutV xs none (some (n : Int)) = xs.take n := by
  unfold cutV
  rw [HT.sIx_none, HT.sIx_nat, List.drop_zero, Nat.sub_zero]
  by_cases h : n ≤ xs.length
  · rw [Nat.min_eq_left h]
  · rw [Nat.min_eq_right (by omega), List.take_of_length_le (Nat.le_refl _), List.take_of_length_le (by omega)]
theorem cutV_from (xs : List V) (n : Nat) : cutV xs (some (n : Int)) none = xs.drop n := by
  unfold cutV
  rw [HT.sIx_none, HT.sIx_nat]
  by_cases h : n ≤ xs.length
  · rw [Nat.min_eq_left h]
    exact List.take_of_length_le (by rw [List.length_drop]; exact Nat.le_refl _)
  · rw [Nat.min_eq_right (by omega), List.drop_eq_nil_of_le (Nat.le_refl _), List.drop_eq_nil_of_le (by omega), List.take_nil]
/-- xs.extend(ys), ys a new list -/
theorem s_ext {l : Addr} {xs ys : List V} (hl : H l = some (.lst xs)) (ha : Ev ta σ H (.ref l)) (h : EvL te σ H ys) (hz : xs.length + ys.length ≤ 1000000) (k : ∀ H1, Ex H H1 → D.nx σ (upd H1 l (.lst (xs ++ ys)))) :
    tDrop (tBM K "list" rExtend ta (tCons te tNil)) D σ H := ha H (Ex.refl H) _ fun H1 e1 =>
  ⟨Or.inl ⟨rfl, xs, sq_of (e1 l _ hl)⟩, h H1 e1 _ fun p H2 hp e2 h2 => ⟨l, p, xs, ys, rfl, rfl, e2 l _ (e1 l _ hl), h2, Nat.le_trans hz (by decide), k H2 (e1.trans e2)⟩⟩
/-- return f(..), x = f(..), whatever f hands back -/
theorem s_retC {sp : Sp} {dvs vs : List V} {E : XK} {tq : TA} (h : EvA tq σ H vs) (k : ∀ H1, Ex H H1 → sp (vs ++ dvs) H1 D.rt E) : tRet (tCall sp dvs E tq) D σ H := h H (Ex.refl H) _ fun H1 e1 => k H1 e1
theorem q_asgC {i : Nat} {sp : Sp} {dvs vs : List V} {E : XK} {tq : TA} (h : EvA tq σ H vs) (k : ∀ H1, Ex H H1 → sp (vs ++ dvs) H1 (fun v H2 => tz D (σ.set i (some v)) H2) E) : tSeq (tAsg (tCall sp dvs E tq) (gName i)) tz D σ H := h H (Ex.refl H) _ fun H1 e1 => k H1 e1
/-- a promise that hands back a value | a new list | a new tuple, all else kept -/
def RetU (xs : List V) (H : Hp) (Q : VK) : Prop := ∀ p H2, H p = none → Ex H H2 → H2 p = some (.tup xs) → Q (.ref p) H2
theorem RetV.mono {v : V} {H H1 : Hp} {Q : VK} (k : RetV v H Q) (e : Ex H H1) : RetV v H1 Q := fun H2 e2 => k H2 (e.trans e2)
theorem RetL.mono {xs : List V} {H H1 : Hp} {Q : VK} (k : RetL xs H Q) (e : Ex H H1) : RetL xs H1 Q := fun p H2 hp e2 h2 => k p H2 (fresh_back e hp) (e.trans e2) h2
theorem RetU.mono {xs : List V} {H H1 : Hp} {Q : VK} (k : RetU xs H Q) (e : Ex H H1) : RetU xs H1 Q := fun p H2 hp e2 h2 => k p H2 (fresh_back e hp) (e.trans e2) h2
theorem RetV.is {v w : V} {H : Hp} {Q : VK} (k : RetV v H Q) (e : v = w) : RetV w H Q := e ▸ k
end
end Wc
set_option Elab.async false
set_option linter.all false
set_option maxRecDepth 100000
set_option maxHeartbeats 2000000
/-! the feed of draws: a list of three ints at fa; how often it has been stirred -/
namespace Wc
open PySem PySem.Spec PyProof.Rows L2 Evl
def capF : Nat := 1000000000000000000
/-- a feed that has been stirred n times at most -/
def Fd (fa : Addr) (n : Nat) (H : Hp) : Prop := ∃ (a b c : Int) (e : Nat), H fa = some (.lst [.int a, .int b, .int c]) ∧ 0 ≤ a ∧ 1 ≤ e ∧ e ≤ 2000000 ∧ a.natAbs < 2 ^ e ∧ 0 ≤ b ∧ b < 10 ^ 40 ∧ 0 ≤ c ∧ c ≤ (n : Int)
theorem Fd.mono {fa : Addr} {n m : Nat} {H : Hp} (h : Fd fa n H) (hm : n ≤ m) : Fd fa m H := by
  obtain ⟨a, b, c, e, h1, h2, h3, h4, h5, h6, h7, h8, h9⟩ := h
  exact ⟨a, b, c, e, h1, h2, h3, h4, h5, h6, h7, h8, by omega⟩
/-- so many draws may be made -/
def GF (fa : Addr) (B : Nat) (H : Hp) : Prop := ∃ n, n + B ≤ capF ∧ Fd fa n H
/-- at most m draws behind: all else stands -/
structure Rf (fa : Addr) (m : Nat) (H H' : Hp) : Prop where
  keep : Exc (fun c => c = fa) H H'
  feed : ∀ n, n + m ≤ capF → Fd fa n H → Fd fa (n + m) H'
section
variable {K : PySem.W.Frag} {fa p : Addr} {m m' B : Nat} {H H1 H2 : Hp} {o : HO} {xs : List V}
theorem Fd.is (h : Fd fa m H) : H fa ≠ none := by
  obtain ⟨a, b, c, e, h1, _⟩ := h
  rw [h1]
  exact fun z => nomatch z
theorem GF.is (h : GF fa B H) : H fa ≠ none := by
  obtain ⟨n, _, h⟩ := h
  exact h.is
theorem GF.new (h : GF fa B H) (hp : H p = none) : p ≠ fa := fun z => h.is (z ▸ hp)
theorem GF.ofTup (h : GF fa B H) (hp : H p = Option.some (HO.tup xs)) : p ≠ fa := by
  rintro rfl
  obtain ⟨n, _, a, b, c, e, h1, _⟩ := h
  rw [hp] at h1
  cases h1
theorem Rf.refl (H : Hp) : Rf fa 0 H H := ⟨Exc.refl _, fun _ _ h => h⟩
theorem Rf.of_ex (e : Ex H H1) : Rf fa 0 H H1 := ⟨.of e, fun n _ h => by
  obtain ⟨a, b, c, e', h1, h2⟩ := h
  exact ⟨a, b, c, e', e _ _ h1, h2⟩⟩
theorem Rf.trans (a : Rf fa m H H1) (b : Rf fa m' H1 H2) : Rf fa (m + m') H H2 := ⟨a.keep.trans b.keep, fun n hn h => by
  have h1 := b.feed (n + m) (by omega) (a.feed n (by omega) h)
  rw [← Nat.add_assoc]
  exact h1⟩
theorem Rf.mono (a : Rf fa m H H1) (h : m ≤ m') : Rf fa m' H H1 := ⟨a.keep, fun n hn hf => (a.feed n (by omega) hf).mono (by omega)⟩
theorem Rf.then (a : Rf fa m H H1) (e : Ex H1 H2) : Rf fa m H H2 := (a.trans (.of_ex e)).mono (Nat.le_refl _)
theorem Rf.pre (e : Ex H H1) (a : Rf fa m H1 H2) : Rf fa m H H2 := ((Rf.of_ex e).trans a).mono (by omega)
theorem Rf.upd (a : Rf fa m H H1) (h : H p = none) (hf : H fa ≠ none) : Rf fa m H (upd H1 p o) := by
  have hne : fa ≠ p := fun z => hf (z ▸ h)
  refine ⟨a.keep.upd (.inr h), fun n hn hF => ?_⟩
  obtain ⟨x, b, c, e', h1, h2⟩ := a.feed n hn hF
  exact ⟨x, b, c, e', by rw [upd_ne hne]; exact h1, h2⟩
theorem GF.go (g : GF fa B H) (a : Rf fa m H H1) (h : m + m' ≤ B) : GF fa m' H1 := by
  obtain ⟨n, hn, hf⟩ := g
  exact ⟨n + m, by omega, a.feed n (by omega) hf⟩
theorem GF.mono (g : GF fa B H) (h : m ≤ B) : GF fa m H := by
  obtain ⟨n, hn, hf⟩ := g
  exact ⟨n, by omega, hf⟩
theorem GF.ex (g : GF fa B H) (e : Ex H H1) : GF fa B H1 := g.go (Rf.of_ex e) (by omega)
theorem Rf.at_ (a : Rf fa m H H1) (h : H p = some o) (hp : p ≠ fa) : H1 p = some o := a.keep _ _ hp h
theorem Rf.l (a : Rf fa m H H1) (hp : p ≠ fa) (h : SqL K H p xs) : SqL K H1 p xs := a.keep.l hp h
theorem Rf.t (a : Rf fa m H H1) (hp : p ≠ fa) (h : SqT K H p xs) : SqT K H1 p xs := a.keep.tp hp h
theorem Rf.free (a : Rf fa m H H1) (g : H fa ≠ none) (h : H1 p = none) (g1 : H1 fa ≠ none) : H p = none := by
  refine a.keep.fresh ?_ h
  rintro rfl
  exact g1 h
end
/-! ### draw -/
def sp_draw : Sp := fun vs H Q _ => ∃ (fa : Addr) (many : Int), vs = [.ref fa, .int many] ∧ GF fa 1 H ∧ 0 < many ∧ many ≤ 10 ^ 61 ∧ ∀ (d : Nat) H', (d : Int) < many → Rf fa 1 H H' → Q (.int (d : Int)) H'
/-- one of a text's signs, of a list's or a tuple's items -/
def sp_one (K : PySem.W.Frag) : Sp := fun vs H Q _ => ∃ (fa : Addr), GF fa 1 H ∧
  ((∃ (s : Tx), vs = [.ref fa, T s] ∧ s ≠ [] ∧ s.length ≤ 16777216 ∧ ∀ c H', c ∈ s → Rf fa 1 H H' → Q (T [c]) H') ∨
   (∃ (p : Addr) (xs : List V), vs = [.ref fa, .ref p] ∧ (SqL K H p xs ∨ SqT K H p xs) ∧ p ≠ fa ∧ xs ≠ [] ∧ xs.length ≤ 16777216 ∧ ∀ v H', v ∈ xs → Rf fa 1 H H' → Q v H'))
/-- a text of at most so many signs of some -/
def sp_text : Sp := fun vs H Q _ => ∃ (fa : Addr) (s : Tx) (most : Nat), vs = [.ref fa, T s, .int (most : Int)] ∧ GF fa (most + 1) H ∧ most ≤ 30000 ∧ s ≠ [] ∧ s.length ≤ 16777216 ∧ ∀ (t : Tx) H', t.length ≤ most → (∀ c ∈ t, c ∈ s) → Rf fa (most + 1) H H' → Q (T t) H'
/-! ### things and draws in a comprehension; the element a value that is good -/
section
variable {K : PySem.W.Frag} {fa : Addr} {σ : L2.St} {H : Hp} {te : TE}
theorem lcD {wi : TI} {j : Nat} {vs : List Nat} {n : Nat} {own : Addr → Prop} {P : Nat → V → Hp → Prop} {Q : VK} (good : V → Prop) (c : Nat) (hf : H fa ≠ none) (hs : Src wi σ H n own P) (ho : ¬ own fa) (hn : n ≤ 40000) (hw : ∀ x, wipe ((wipe σ vs).set j (some x)) vs = wipe σ vs)
    (he : ∀ (i : Nat) (x : V) H1, i < n → P i x H1 → Rf fa (i * c) H H1 → ∀ Q' : VK, (∀ y H2, good y → Rf fa c H1 H2 → Q' y H2) → te ((wipe σ vs).set j (some x)) H1 Q')
    (k : ∀ p H2 acc, H p = none → Rf fa (n * c) H H2 → H2 p = some (.lst acc) → acc.length = n → (∀ v ∈ acc, good v) → Q (.ref p) H2) : tLc wi (gName j) tYes te vs σ H Q :=
  hs H (Ex.refl H) _ fun J H1 S e1 w hS => fun Dl hD => by
    have hDH : H Dl = none := fresh_back e1 hD
    have hne : Dl ≠ fa := fun z => hf (z ▸ hDH)
    have hf1 : H1 fa ≠ none := by
      cases hq : H fa with
      | none => exact absurd hq hf
      | some o => rw [e1 _ _ hq]; exact fun z => nomatch z
    refine lc_it w (Qd := fun H3 => Q (.ref Dl) H3) (fun i Hi => Rf fa (i * c) H1 Hi ∧ ∃ acc, Hi Dl = some (.lst acc) ∧ acc.length = i ∧ ∀ v ∈ acc, good v) ?_ (fun i Hi hi p => hS (fun b => b = fa) Hi (by rintro b rfl; exact ⟨hf, ho⟩) p.1.keep) ?_ ?_
    · refine ⟨?_, [], upd_same, rfl, fun v hv => nomatch hv⟩
      exact ((Rf.refl H1).upd hD hf1).mono (Nat.zero_le _)
    · rintro i x Ha Hb hi ⟨R, acc, h1, h2, h3⟩ ⟨ey, hP⟩
      refine ⟨hw x, ?_⟩
      show te ((wipe σ vs).set j (some x)) Hb fun y H4 => _
      have Rb : Rf fa (i * c) H1 Hb := R.then ey
      refine he i x Hb hi hP (Rf.pre e1 Rb) _ fun y H4 hy R4 => ?_
      have h4 : H4 Dl = some (.lst acc) := R4.at_ (ey _ _ h1) hne
      refine ⟨acc, h4, sz_lt (by omega), ?_, acc ++ [y], upd_same, by rw [List.length_append, h2]; rfl, fun v hv => ?_⟩
      · have := (Rb.trans R4).upd (p := Dl) (o := .lst (acc ++ [y])) hD hf1
        exact this.mono (by rw [Nat.succ_mul]; exact Nat.le_refl _)
      · rcases List.mem_append.mp hv with hv | hv
        · exact h3 v hv
        · rw [List.mem_singleton.mp hv]
          exact hy
    · rintro H3 ⟨R, acc, h1, h2, h3⟩
      exact k Dl H3 acc hDH (Rf.pre e1 R) h1 h2 h3
end
theorem ix_any {X : Cx} : IxR X (fun x y H Q => (L2.rIxL X.K x y H Q ∨ L2.rIxT X.K x y H Q) ∨ Wc.rIxT x y H Q) := (ix_list.or ix_tup).or ix_T
theorem cr_lenAny {X : Cx} : CallR X (.builtin "len") (fun xs H Q => rLenT xs H Q ∨ (∃ p ys, xs = [.ref p] ∧ (SqL X.K H p ys ∨ SqT X.K H p ys) ∧ Q (.int ys.length) H)) := CallR.or cr_lenT call_len_seq
theorem atI_mem {α : Type} {xs : List α} {d : Nat} (h : d < xs.length) : ∃ v, atI xs (d : Int) = some v ∧ v ∈ xs := ⟨xs[d], atI_nat (List.getElem?_eq_getElem h), List.getElem_mem h⟩
/-- a list of texts -/
theorem texts_of {acc : List V} {g : Tx → Prop} (h : ∀ v ∈ acc, ∃ t, v = T t ∧ g t) : ∃ ts : List Tx, acc = ts.map T ∧ ∀ t ∈ ts, g t := by
  induction acc with
  | nil => exact ⟨[], rfl, fun _ h => nomatch h⟩
  | cons v acc ih =>
    obtain ⟨t, rfl, ht⟩ := h v List.mem_cons_self
    obtain ⟨ts, rfl, hts⟩ := ih fun v hv => h v (List.mem_cons_of_mem _ hv)
    exact ⟨t :: ts, rfl, fun x hx => by
      rcases List.mem_cons.mp hx with rfl | hx
      · exact ht
      · exact hts x hx⟩
end Wc
set_option Elab.async false
set_option linter.all false
set_option maxRecDepth 100000
set_option maxHeartbeats 2000000
/-! data at any depth: texts, ints, lists, tuples -/
namespace Wc
open PySem PySem.Spec PyProof.Rows L2 Evl
/-- a text of low signs -/
def LowT (a : Tx) : Prop := ∀ c ∈ a, c < 1000
abbrev dT (a : Tx) : PyData := .str (SX.S a)
theorem lay_T {a : Tx} (h : LowT a) : (dT a).canLay0 = true := by
  show (SX.S a).cps.all (· < 0x110000) = true
  rw [← Array.all_toList, List.all_eq_true]
  intro c hc
  have := h c hc
  exact decide_eq_true (by omega)
theorem lay_all {α : Type} {g : α → PyData} : ∀ {xs : List α}, (∀ x ∈ xs, (g x).canLay0 = true) → PyData.canLayAll0 (xs.map g) = true
  | [], _ => rfl
  | x :: xs, h => by
    show ((g x).canLay0 && PyData.canLayAll0 (xs.map g)) = true
    rw [h x List.mem_cons_self, lay_all fun y hy => h y (List.mem_cons_of_mem _ hy)]
    rfl
theorem lay_list {α : Type} {g : α → PyData} {xs : List α} (h : ∀ x ∈ xs, (g x).canLay0 = true) : (PyData.list (xs.map g)).canLay0 = true := by
  show PyData.canLayAll0 _ = true
  exact lay_all h
theorem depth_all {α : Type} {g : α → PyData} {m : Nat} : ∀ {xs : List α}, (∀ x ∈ xs, (g x).depth ≤ m) → PyData.depthAll (xs.map g) ≤ m
  | [], _ => Nat.zero_le _
  | x :: xs, h => Nat.max_le.mpr ⟨h x List.mem_cons_self, depth_all fun y hy => h y (List.mem_cons_of_mem _ hy)⟩
theorem shaped_of {d : PyData} (h : d.canLay0 = true) (hd : d.depth ≤ 64) : SeqAt.shaped d = true := by
  unfold SeqAt.shaped
  rw [h, decide_eq_true hd]
  rfl
theorem shaped_list {α : Type} {g : α → PyData} {xs : List α} {m : Nat} (h : ∀ x ∈ xs, (g x).canLay0 = true) (hd : ∀ x ∈ xs, (g x).depth ≤ m) (hm : m + 1 ≤ 64) : SeqAt.shaped (.list (xs.map g)) = true :=
  shaped_of (lay_list h) (by
    show PyData.depthAll _ + 1 ≤ 64
    have := depth_all hd
    omega)
theorem dp_all {α : Type} {K : PySem.W.Frag} {H : Hp} {f : α → V} {g : α → PyData} : ∀ {xs : List α}, (∀ x ∈ xs, Dp K H (f x) (g x)) → DpAll K H (xs.map f) (xs.map g)
  | [], _ => .nil
  | x :: xs, h => .cons (h x List.mem_cons_self) (dp_all fun y hy => h y (List.mem_cons_of_mem _ hy))
theorem dp_list {α : Type} {K : PySem.W.Frag} {H : Hp} {f : α → V} {g : α → PyData} {xs : List α} {p : Addr} (hp : SqL K H p (xs.map f)) (h : ∀ x ∈ xs, Dp K H (f x) (g x)) : Dp K H (.ref p) (.list (xs.map g)) := .lst hp (dp_all h)
theorem eqv_list {α : Type} [DecidableEq α] {g : α → PyData} (h : ∀ x y, PyData.eqv (g x) (g y) = decide (x = y)) : ∀ (xs ys : List α), PyData.eqv (.list (xs.map g)) (.list (ys.map g)) = decide (xs = ys) := by
  intro xs ys
  show PyData.eqvAll _ _ = _
  induction xs generalizing ys with
  | nil => cases ys with
    | nil => rfl
    | cons y ys => rfl
  | cons x xs ih => cases ys with
    | nil => rfl
    | cons y ys =>
      show (PyData.eqv (g x) (g y) && PyData.eqvAll _ _) = _
      rw [h, ih]
      by_cases e : x = y
      · by_cases e2 : xs = ys
        · simp [e, e2]
        · simp [e, e2]
      · simp [e]
theorem eqv_T (a b : Tx) : PyData.eqv (dT a) (dT b) = decide (a = b) := by
  show (SX.S a == SX.S b) = _
  exact SX.S_beq_eq
theorem eqv_int (a b : Int) : PyData.eqv (.int a) (.int b) = decide (a = b) := by
  show (a == b) = _
  by_cases h : a = b
  · simp [h]
  · simp [h]
section
variable {K : PySem.W.Frag} {H : Hp} {x y : V} {d e : PyData}
theorem rv_eqD {b : Bool} (h : ∀ H1, Ex H H1 → Dp K H1 x d) (h2 : ∀ H1, Ex H H1 → Dp K H1 y e) (s1 : SeqAt.shaped d = true) (s2 : SeqAt.shaped e = true) (hb : PyData.eqv d e = b) : RV (rEqD K) x y H (.bl b) := fun H1 e1 _ q => ⟨d, e, h H1 e1, h2 H1 e1, s1, s2, by rw [hb]; exact q H1 (Ex.refl H1)⟩
theorem rv_neD {b : Bool} (h : ∀ H1, Ex H H1 → Dp K H1 x d) (h2 : ∀ H1, Ex H H1 → Dp K H1 y e) (s1 : SeqAt.shaped d = true) (s2 : SeqAt.shaped e = true) (hb : PyData.eqv d e = b) : RV (rNeD K) x y H (.bl (!b)) := fun H1 e1 _ q => ⟨d, e, h H1 e1, h2 H1 e1, s1, s2, by rw [hb]; exact q H1 (Ex.refl H1)⟩
mutual
theorem Dp.ex {H1 : Hp} (e : Ex H H1) : ∀ {v : V} {d : PyData}, Dp K H v d → Dp K H1 v d
  | _, _, .non => .non
  | _, _, .bl b => .bl b
  | _, _, .int i => .int i
  | _, _, .str x => .str x
  | _, _, .lst h a => .lst (ex_l e h) (DpAll.ex e a)
  | _, _, .tup h a => .tup (ex_t e h) (DpAll.ex e a)
theorem DpAll.ex {H1 : Hp} (e : Ex H H1) : ∀ {vs : List V} {ds : List PyData}, DpAll K H vs ds → DpAll K H1 vs ds
  | _, _, .nil => .nil
  | _, _, .cons h a => .cons (Dp.ex e h) (DpAll.ex e a)
end
end
/-- values that are ints or texts, none a truth -/
inductive FlatV : V → PyData → Prop
  | int (i : Int) : FlatV (.int i) (.int i)
  | str {a : Tx} (h : LowT a) : FlatV (T a) (dT a)
/-- a list of such -/
def sp_list_same (K : PySem.W.Frag) : Sp := fun vs H Q _ => ∃ (p q : Addr) (xs : List V), vs = [.ref p, .ref q] ∧ H p = some (.lst xs) ∧ SqL K H q xs ∧ (∀ v ∈ xs, ∃ d, FlatV v d) ∧ xs.length ≤ 30000 ∧ RetV (.bl true) H Q
theorem flat_data {K : PySem.W.Frag} {H : Hp} {xs : List V} (h : ∀ v ∈ xs, ∃ d, FlatV v d) : ∃ ds : List PyData, DpAll K H xs ds ∧ PyData.canLayAll0 ds = true ∧ PyData.depthAll ds ≤ 0 := by
  induction xs with
  | nil => exact ⟨[], .nil, rfl, Nat.le_refl _⟩
  | cons v xs ih =>
    obtain ⟨ds, h1, h2, h3⟩ := ih fun v hv => h v (List.mem_cons_of_mem _ hv)
    obtain ⟨d, hd⟩ := h v List.mem_cons_self
    cases hd with
    | int i => exact ⟨.int i :: ds, .cons (.int i) h1, by show (true && PyData.canLayAll0 ds) = true; rw [h2]; rfl, Nat.max_le.mpr ⟨Nat.le_refl _, h3⟩⟩
    | str ha => exact ⟨_ :: ds, .cons (.str _) h1, by show ((dT _).canLay0 && PyData.canLayAll0 ds) = true; rw [h2, lay_T ha]; rfl, Nat.max_le.mpr ⟨Nat.le_refl _, h3⟩⟩
end Wc
set_option Elab.async false
set_option linter.all false
set_option maxRecDepth 100000
set_option maxHeartbeats 2000000
/-! the rules that name the written part: with the part K given -/
namespace Wc
open PySem PySem.Spec PyProof.Rows L2 Evl
def rLenAny (K : PySem.W.Frag) : List V → Hp → VK → Prop := fun xs H Q => rLenT xs H Q ∨ (∃ p ys, xs = [.ref p] ∧ (SqL K H p ys ∨ SqT K H p ys) ∧ Q (.int ys.length) H)
def rIxAny (K : PySem.W.Frag) : R2 := fun x y H Q => (L2.rIxL K x y H Q ∨ L2.rIxT K x y H Q) ∨ Wc.rIxT x y H Q
def rTupS (K : PySem.W.Frag) : List V → Hp → VK → Prop := fun xs H Q => ∃ p ys, xs = [.ref p] ∧ ((SqL K H p ys ∧ ∀ l, H l = none → Q (.ref l) (upd H l (.tup ys))) ∨ (SqT K H p ys ∧ Q (.ref p) H))
section
variable {X : Cx} (K : PySem.W.Frag)
theorem kcr {f : Value} {r : PySem.W.Frag → List V → Hp → VK → Prop} (h : CallR X f (r X.K)) (hK : X.K = K := by rfl) : CallR X f (r K) := hK ▸ h
theorem kop {f : Value → Value → Sem Value} {r : PySem.W.Frag → R2} (h : OpR X f (r X.K)) (hK : X.K = K := by rfl) : OpR X f (r K) := hK ▸ h
theorem kix {r : PySem.W.Frag → R2} (h : IxR X (r X.K)) (hK : X.K = K := by rfl) : IxR X (r K) := hK ▸ h
theorem ksl {r : PySem.W.Frag → V → Option Int → Option Int → Hp → VK → Prop} (h : SlR X (r X.K)) (hK : X.K = K := by rfl) : SlR X (r K) := hK ▸ h
theorem kmt {id : String} {r : PySem.W.Frag → V → List V → Hp → VK → Prop} (h : MtR X id (r X.K)) (hK : X.K = K := by rfl) : MtR X id (r K) := hK ▸ h
theorem kbm {e : Expr} {T : String} {r : V → List V → Hp → VK → Prop} {to : TE} {t : TA} (h : PE X e (tBM X.K T r to t)) (hK : X.K = K := by rfl) : PE X e (tBM K T r to t) := hK ▸ h
theorem kbm0 {e : Expr} {T : String} {r : V → List V → Hp → VK → Prop} {to : TE} (h : PE X e (tBM0 X.K T r to)) (hK : X.K = K := by rfl) : PE X e (tBM0 K T r to) := hK ▸ h
theorem kil {tg it : Expr} {tl : TE} (h : PI X tg it (iList X.K tl)) (hK : X.K = K := by rfl) : PI X tg it (iList K tl) := hK ▸ h
theorem kit {tg it : Expr} {tl : TE} (h : PI X tg it (iTup X.K tl)) (hK : X.K = K := by rfl) : PI X tg it (iTup K tl) := hK ▸ h
theorem kie {tg it : Expr} {ta : TA} (h : PI X tg it (iEnum X.K ta)) (hK : X.K = K := by rfl) : PI X tg it (iEnum K ta) := hK ▸ h
theorem kiz {tg it : Expr} {ta : TA} (h : PI X tg it (iZip X.K ta)) (hK : X.K = K := by rfl) : PI X tg it (iZip K ta) := hK ▸ h
theorem kgt {tg : Expr} {n : Nat} {t : TGs} (h : PG X tg (gTup X.K n t)) (hK : X.K = K := by rfl) : PG X tg (gTup K n t) := hK ▸ h
theorem kgl {tg : Expr} {n : Nat} {t : TGs} (h : PG X tg (gLst X.K n t)) (hK : X.K = K := by rfl) : PG X tg (gLst K n t) := hK ▸ h
theorem kso {e : Expr} {t : TA} (h : PE X e (tSortLen X.K t)) (hK : X.K = K := by rfl) : PE X e (tSortLen K t) := hK ▸ h
end
end Wc
set_option Elab.async false
set_option linter.all false
set_option maxRecDepth 100000
set_option maxHeartbeats 2000000
/-! draws by their promises -/
namespace Wc
open PySem PySem.Spec PyProof.Rows L2 Evl
section
variable {K : PySem.W.Frag} {σ : L2.St} {H : Hp} {te tm : TE} {fa : Addr} {i : Nat} {Q : VK} {B : Nat}
theorem wp_draw {many : Int} (h0 : σ[i]? = some (some (.ref fa))) (h : Ev te σ H (.int many)) (G : GF fa B H) (h1 : 0 < many) (h2 : many ≤ 10 ^ 61) (k : ∀ (d : Nat) H', (d : Int) < many → Rf fa 1 H H' → Q (.int (d : Int)) H') (hB : 1 ≤ B := by omega) : tCall sp_draw [] E0 (tCons (tVar i) (tCons te tNil)) σ H Q :=
  ⟨.ref fa, h0, h H (Ex.refl _) _ fun H1 e1 => ⟨fa, many, rfl, (G.ex e1).mono hB, h1, h2, fun d H' hd R => k d H' hd (.pre e1 R)⟩⟩
theorem wp_oneT {s : Tx} (h0 : σ[i]? = some (some (.ref fa))) (h : Ev te σ H (T s)) (G : GF fa B H) (hs : s ≠ []) (hl : s.length ≤ 16777216) (k : ∀ c H', c ∈ s → Rf fa 1 H H' → Q (T [c]) H') (hB : 1 ≤ B := by omega) : tCall (sp_one K) [] E0 (tCons (tVar i) (tCons te tNil)) σ H Q :=
  ⟨.ref fa, h0, h H (Ex.refl _) _ fun H1 e1 => ⟨fa, (G.ex e1).mono hB, .inl ⟨s, rfl, hs, hl, fun c H' hc R => k c H' hc (.pre e1 R)⟩⟩⟩
/-- of a new list -/
theorem wp_oneL {vs : List V} (h0 : σ[i]? = some (some (.ref fa))) (h : EvL te σ H vs) (G : GF fa B H) (hs : vs ≠ []) (hl : vs.length ≤ 16777216) (k : ∀ v H', v ∈ vs → Rf fa 1 H H' → Q v H') (hB : 1 ≤ B := by omega) : tCall (sp_one K) [] E0 (tCons (tVar i) (tCons te tNil)) σ H Q :=
  ⟨.ref fa, h0, h H (Ex.refl _) _ fun p H1 hp e1 h1 => ⟨fa, (G.ex e1).mono hB, .inr ⟨p, vs, rfl, .inl (sq_of h1), G.new hp, hs, hl, fun v H' hv R => k v H' hv (.pre e1 R)⟩⟩⟩
/-- of a list or tuple that stands -/
theorem wp_oneS {p : Addr} {xs : List V} (h0 : σ[i]? = some (some (.ref fa))) (h : Ev te σ H (.ref p)) (hS : SqL K H p xs ∨ SqT K H p xs) (hp : p ≠ fa) (G : GF fa B H) (hs : xs ≠ []) (hl : xs.length ≤ 16777216) (k : ∀ v H', v ∈ xs → Rf fa 1 H H' → Q v H') (hB : 1 ≤ B := by omega) : tCall (sp_one K) [] E0 (tCons (tVar i) (tCons te tNil)) σ H Q :=
  ⟨.ref fa, h0, h H (Ex.refl _) _ fun H1 e1 => ⟨fa, (G.ex e1).mono hB, .inr ⟨p, xs, rfl, hS.imp (ex_l e1) (ex_t e1), hp, hs, hl, fun v H' hv R => k v H' hv (.pre e1 R)⟩⟩⟩
theorem wp_text {s : Tx} {most : Nat} (h0 : σ[i]? = some (some (.ref fa))) (h : Ev te σ H (T s)) (hm : Ev tm σ H (.int (most : Int))) (G : GF fa B H) (hm1 : most ≤ 30000) (hs : s ≠ []) (hl : s.length ≤ 16777216) (k : ∀ (t : Tx) H', t.length ≤ most → (∀ c ∈ t, c ∈ s) → Rf fa (most + 1) H H' → Q (T t) H') (hB : most + 1 ≤ B := by omega) :
    tCall sp_text [] E0 (tCons (tVar i) (tCons te (tCons tm tNil))) σ H Q :=
  ⟨.ref fa, h0, h H (Ex.refl _) _ fun H1 e1 => hm H1 e1 _ fun H2 e2 => ⟨fa, s, most, rfl, (G.ex (e1.trans e2)).mono hB, hm1, hs, hl, fun t H' h1 h2 R => k t H' h1 h2 (.pre (e1.trans e2) R)⟩⟩
end
/-- a feed out of a cell of the script -/
def sp_feed (K : PySem.W.Frag) : Sp := fun vs H Q _ => ∃ (a : Addr) (ns : List Int) (k e : Nat), vs = [.ref a, .int (k : Int)] ∧ SqL K H a (ns.map V.int) ∧ k ≤ 1000 ∧ 1 ≤ e ∧ e ≤ 1100000 ∧ (∀ z ∈ ns, z.natAbs < 2 ^ e) ∧
  ∀ fa H', H fa = none → Ex H H' → Fd fa 0 H' → Q (.ref fa) H'
theorem pow_add_small {x c : Int} {e : Nat} (hx : x.natAbs < 2 ^ e) (hc : c.natAbs ≤ 2 ^ 70) : (x + c).natAbs < 2 ^ (e + 72) := by
  have h1 : (x + c).natAbs ≤ x.natAbs + c.natAbs := Int.natAbs_add_le _ _
  have h2 : 1 ≤ 2 ^ e := Nat.pow_pos (by decide)
  have h3 : (2 : Nat) ^ (e + 72) = 2 ^ e * (4 * 2 ^ 70) := by rw [Nat.pow_add]
  have hA : 1 ≤ (2 : Nat) ^ 70 := Nat.pow_pos (by decide)
  rw [h3]
  generalize (2 : Nat) ^ e = E at hx h2 ⊢
  generalize (2 : Nat) ^ 70 = A at hc hA ⊢
  have h5 : E ≤ E * A := Nat.le_mul_of_pos_right _ hA
  have h6 : A ≤ E * A := Nat.le_mul_of_pos_left _ h2
  rw [Nat.mul_left_comm]
  omega
end Wc
set_option Elab.async false
set_option linter.all false
set_option maxRecDepth 100000
set_option maxHeartbeats 2000000
/-! readings that draw: what is told of the value alone -/
namespace Wc
open PySem PySem.Spec PyProof.Rows L2 Evl
/-- te draws m times at most and gives a value that is good -/
def Dw (fa : Addr) (σ : L2.St) (m : Nat) (te : TE) (g : V → Prop) : Prop := ∀ H, GF fa m H → ∀ Q : VK, (∀ v H', g v → Rf fa m H H' → Q v H') → te σ H Q
def GdT (ok : Nat → Prop) (lo n : Nat) (v : V) : Prop := ∃ s : Tx, v = T s ∧ lo ≤ s.length ∧ s.length ≤ n ∧ ∀ c ∈ s, ok c
def GdI (lo hi : Int) (v : V) : Prop := ∃ i : Int, v = .int i ∧ lo ≤ i ∧ i ≤ hi
section
variable {K : PySem.W.Frag} {σ : L2.St} {ta tb te : TE} {fa : Addr} {m m1 m2 : Nat} {g g1 g2 : V → Prop} {ok : Nat → Prop}
theorem dw_mono {m' : Nat} (h : Dw fa σ m te g) (hm : m ≤ m') : Dw fa σ m' te g := fun H G Q q => h H (G.mono hm) Q fun v H' hg R => q v H' hg (R.mono hm)
theorem dw_as {g' : V → Prop} (h : Dw fa σ m te g) (hg : ∀ v, g v → g' v) : Dw fa σ m te g' := fun H G Q q => h H G Q fun v H' hv R => q v H' (hg v hv) R
theorem dw_var {i : Nat} {v : V} (h : σ[i]? = some (some v)) (hg : g v) : Dw fa σ 0 (tVar i) g := fun H G Q q => ⟨v, h, q v H hg (Rf.refl H)⟩
theorem dw_c {v : V} (hg : g v) : Dw fa σ 0 (tC v) g := fun H G Q q => q v H hg (Rf.refl H)
theorem dw_op {r : R2} (h1 : Dw fa σ m1 ta g1) (h2 : Dw fa σ m2 tb g2) (hr : ∀ x y, g1 x → g2 y → ∃ z, g z ∧ ∀ H (Q : VK), Q z H → r x y H Q) : Dw fa σ (m1 + m2) (tOp r ta tb) g := fun H G Q q =>
  h1 H (G.mono (by omega)) _ fun x H1 hx R1 => h2 H1 (G.go R1 (by omega)) _ fun y H2 hy R2 => by
    obtain ⟨z, hz, hk⟩ := hr x y hx hy
    exact hk H2 Q (q z H2 hz (R1.trans R2))
theorem dI_var {i : Nat} {x lo hi : Int} (h : σ[i]? = some (some (.int x))) (h1 : lo ≤ x) (h2 : x ≤ hi) : Dw fa σ 0 (tVar i) (GdI lo hi) := dw_var h ⟨x, rfl, h1, h2⟩
theorem dI_c {x : Int} : Dw fa σ 0 (tC (.int x)) (GdI x x) := dw_c ⟨x, rfl, Int.le_refl _, Int.le_refl _⟩
theorem dT_var {i : Nat} {s : Tx} {lo n : Nat} (h : σ[i]? = some (some (T s))) (h1 : lo ≤ s.length) (h2 : s.length ≤ n) (h3 : ∀ c ∈ s, ok c) : Dw fa σ 0 (tVar i) (GdT ok lo n) := dw_var h ⟨s, rfl, h1, h2, h3⟩
theorem dT_c {s : Tx} (h3 : ∀ c ∈ s, ok c) : Dw fa σ 0 (tC (T s)) (GdT ok s.length s.length) := dw_c ⟨s, rfl, Nat.le_refl _, Nat.le_refl _, h3⟩
theorem dI_add {a b c d : Int} (h1 : Dw fa σ m1 ta (GdI a b)) (h2 : Dw fa σ m2 tb (GdI c d)) : Dw fa σ (m1 + m2) (tOp (rI0 fun i j => .int (i + j)) ta tb) (GdI (a + c) (b + d)) := dw_op h1 h2 fun x y ⟨i, hi, h3, h4⟩ ⟨j, hj, h5, h6⟩ => ⟨.int (i + j), ⟨i + j, rfl, by omega, by omega⟩, fun H Q q => ⟨i, j, hi, hj, q⟩⟩
theorem dT_add {a b c d : Nat} (h1 : Dw fa σ m1 ta (GdT ok a b)) (h2 : Dw fa σ m2 tb (GdT ok c d)) (hb : b + d ≤ 16777216 := by omega) : Dw fa σ (m1 + m2) (tOp rAddT ta tb) (GdT ok (a + c) (b + d)) := dw_op h1 h2 fun x y ⟨s, hs, h3, h4, h5⟩ ⟨t, ht, h6, h7, h8⟩ => ⟨T (s ++ t), ⟨s ++ t, rfl, by rw [List.length_append]; omega, by rw [List.length_append]; omega, fun c hc => by
  rcases List.mem_append.mp hc with hc | hc
  · exact h5 c hc
  · exact h8 c hc⟩, fun H Q q => ⟨s, t, hs, ht, by omega, q⟩⟩
theorem repT_mem {n : Nat} {a : Tx} {c : Nat} (h : c ∈ repT n a) : c ∈ a := by
  unfold repT at h
  obtain ⟨l, hl, hc⟩ := List.mem_flatten.mp h
  rw [List.eq_of_mem_replicate hl] at hc
  exact hc
theorem dT_mul {a b c d : Nat} (h1 : Dw fa σ m1 ta (GdT ok a b)) (h2 : Dw fa σ m2 tb (GdI (c : Int) (d : Int))) (hb : b * d ≤ 16777216 := by omega) (hd : d ≤ 1000000000 := by omega) : Dw fa σ (m1 + m2) (tOp rMulT ta tb) (GdT ok (c * a) (d * b)) := dw_op h1 h2 fun x y ⟨s, hs, h3, h4, h5⟩ ⟨j, hj, h6, h7⟩ => ⟨T (repT j.toNat s), ⟨repT j.toNat s, rfl, by
    rw [repT_len]
    exact Nat.mul_le_mul (by omega) h3, by
    rw [repT_len]
    exact Nat.mul_le_mul (by omega) h4, fun c hc => h5 c (repT_mem hc)⟩, fun H Q q => ⟨s, j, hs, hj, by omega, by omega, Nat.le_trans (Nat.mul_le_mul h4 (show j.toNat ≤ d by omega)) hb, q⟩⟩
theorem dI_len {a b : Nat} (h1 : Dw fa σ m te (GdT ok a b)) (hb : b ≤ 16777216 := by omega) : Dw fa σ m (tCB rLenT (tCons te tNil)) (GdI a b) := fun H G Q q => h1 H G _ fun v H1 ⟨s, hs, h3, h4, h5⟩ R => ⟨s, by rw [hs], by omega, q _ H1 ⟨_, rfl, by omega, by omega⟩ R⟩
/-- the ends of a slice -/
def Dwo (fa : Addr) (σ : L2.St) (m : Nat) (to : TO) : Prop := ∀ H, GF fa m H → ∀ Q : Option Int → Hp → Prop, (∀ v H', Rf fa m H H' → Q v H') → to σ H Q
theorem do_none : Dwo fa σ 0 tNoPart := fun H G Q q => q none H (Rf.refl H)
theorem do_some {a b : Int} (h : Dw fa σ m te (GdI a b)) : Dwo fa σ m (tPart te) := fun H G Q q => h H G _ fun v H1 ⟨i, hi, _, _⟩ R => ⟨i, hi, q (some i) H1 R⟩
theorem dT_sl {a b m3 : Nat} {tl th : TO} (h : Dw fa σ m1 te (GdT ok a b)) (h1 : Dwo fa σ m2 tl) (h2 : Dwo fa σ m3 th) (hb : b ≤ 16777216 := by omega) : Dw fa σ (m1 + (m2 + m3)) (tSl rSlT te tl th) (GdT ok 0 b) := fun H G Q q =>
  h H (G.mono (by omega)) _ fun v H1 ⟨s, hs, h3, h4, h5⟩ R1 => h1 H1 (G.go R1 (by omega)) _ fun l H2 R2 => h2 H2 (G.go (R1.trans R2) (by omega)) _ fun u H3 R3 =>
    ⟨s, hs, by omega, q _ H3 ⟨cutT s l u, rfl, Nat.zero_le _, Nat.le_trans (cutT_len s l u) h4, fun c hc => h5 c (cutT_mem hc)⟩ ((R1.trans (R2.trans R3)).mono (by omega))⟩
theorem dI_draw {i : Nat} {lo hi : Int} (h0 : σ[i]? = some (some (.ref fa))) (h : Dw fa σ m te (GdI lo hi)) (h1 : 0 < lo := by omega) (h2 : hi ≤ 10 ^ 61 := by decide) : Dw fa σ (m + 1) (tCall sp_draw [] E0 (tCons (tVar i) (tCons te tNil))) (GdI 0 (hi - 1)) := fun H G Q q =>
  ⟨.ref fa, h0, h H (G.mono (by omega)) _ fun v H1 ⟨j, hj, h3, h4⟩ R => ⟨fa, j, by rw [hj]; rfl, G.go R (Nat.le_refl _), by omega, by omega, fun d H' hd R2 => q _ H' ⟨(d : Int), rfl, by omega, by omega⟩ (R.trans R2)⟩⟩
theorem dT_one {i : Nat} {lo n : Nat} (h0 : σ[i]? = some (some (.ref fa))) (h : Dw fa σ m te (GdT ok lo n)) (h1 : 0 < lo := by omega) (h2 : n ≤ 16777216 := by omega) : Dw fa σ (m + 1) (tCall (sp_one K) [] E0 (tCons (tVar i) (tCons te tNil))) (GdT ok 1 1) := fun H G Q q =>
  ⟨.ref fa, h0, h H (G.mono (by omega)) _ fun v H1 ⟨s, hs, h3, h4, h5⟩ R => ⟨fa, G.go R (Nat.le_refl _), .inl ⟨s, by rw [hs]; rfl, fun z => by rw [z] at h3; simp at h3; omega, by omega, fun c H' hc R2 => q _ H' ⟨[c], rfl, Nat.le_refl _, Nat.le_refl _, fun d hd => by rw [List.mem_singleton.mp hd]; exact h5 c hc⟩ (R.trans R2)⟩⟩⟩
/-- of a list that is displayed -/
theorem dw_oneL {i : Nat} {vs : List V} (h0 : σ[i]? = some (some (.ref fa))) (h : ∀ H, EvL te σ H vs) (hg : ∀ v ∈ vs, g v) (hs : vs ≠ []) (hl : vs.length ≤ 16777216) : Dw fa σ 1 (tCall (sp_one K) [] E0 (tCons (tVar i) (tCons te tNil))) g := fun H G Q q => wp_oneL h0 (h H) G hs hl fun v H' hv R => q v H' (hg v hv) R
theorem dT_text {i : Nat} {a b c : Nat} {tm : TE} (h0 : σ[i]? = some (some (.ref fa))) (h : Dw fa σ m1 te (GdT ok a b)) (hm : Dw fa σ m2 tm (GdI 0 (c : Int))) (h1 : 0 < a := by omega) (h2 : b ≤ 16777216 := by omega) (h3 : c ≤ 30000 := by omega) : Dw fa σ (m1 + m2 + (c + 1)) (tCall sp_text [] E0 (tCons (tVar i) (tCons te (tCons tm tNil)))) (GdT ok 0 c) := fun H G Q q =>
  ⟨.ref fa, h0, h H (G.mono (by omega)) _ fun v H1 ⟨s, hs, h4, h5, h6⟩ R1 => hm H1 (G.go R1 (by omega)) _ fun y H2 ⟨j, hj, h7, h8⟩ R2 => by
    obtain ⟨n, rfl⟩ := Int.eq_ofNat_of_zero_le h7
    exact ⟨fa, s, n, by rw [hs, hj]; rfl, (G.go (R1.trans R2) (m' := n + 1) (by omega)), by omega, fun z => by rw [z] at h4; simp at h4; omega, by omega, fun t H' ht hc R3 => q _ H' ⟨t, rfl, Nat.zero_le _, by omega, fun c hc' => h6 c (hc c hc')⟩ (((R1.trans R2).trans R3).mono (by omega))⟩⟩
/-- a statement that draws -/
theorem q_dw {i : Nat} {D : Ends} {tz : TS} {H : Hp} {B : Nat} (h : Dw fa σ m te g) (G : GF fa B H) (k : ∀ v H1, g v → Rf fa m H H1 → tz D (σ.set i (some v)) H1) (hm : m ≤ B := by omega) : tSeq (tAsg te (gName i)) tz D σ H := h H (G.mono hm) _ fun v H1 hv R => k v H1 hv R
/-- a displayed pair, returned -/
theorem s_pair {D : Ends} {H : Hp} {B : Nat} (h1 : Dw fa σ m1 ta g1) (h2 : Dw fa σ m2 tb g2) (G : GF fa B H) (k : ∀ x y p H1, g1 x → g2 y → H p = none → Rf fa (m1 + m2) H H1 → H1 p = some (.lst [x, y]) → D.rt (.ref p) H1) (hm : m1 + m2 ≤ B := by omega) : tRet (tLst (tCons ta (tCons tb tNil))) D σ H :=
  h1 H (G.mono (by omega)) _ fun x H1 hx R1 => h2 H1 (G.go R1 (by omega)) _ fun y H2 hy R2 => ⟨by show 2 ≤ sizeLine; decide, fun p np => by
    have R := R1.trans R2
    have G2 : GF fa 0 H2 := G.go R (by omega)
    exact k x y p _ hx hy (R.free G.is np G2.is) (R.upd (R.free G.is np G2.is) G.is) upd_same⟩
/-- a test -/
theorem s_dif {D : Ends} {H : Hp} {tt ts : TS} {tu : TT} (h : ∀ Q : Bool → Hp → Prop, (∀ b H1, Rf fa m H H1 → Q b H1) → tu σ H Q) (k : ∀ b H1, Rf fa m H H1 → if b = true then tt D σ H1 else ts D σ H1) : tIfS tu tt ts D σ H := h _ k
theorem dw_test {H : Hp} {B : Nat} {a b c d : Int} {f : Int → Int → Bool} (h1 : Dw fa σ m1 ta (GdI a b)) (h2 : Dw fa σ m2 tb (GdI c d)) (G : GF fa B H) (Q : Bool → Hp → Prop) (k : ∀ b H1, Rf fa (m1 + m2) H H1 → Q b H1) (hm : m1 + m2 ≤ B := by omega) : tTest (tOp (rI0 fun i j => .bl (f i j)) ta tb) σ H Q :=
  h1 H (G.mono (by omega)) _ fun x H1 ⟨i, hi, _, _⟩ R1 => h2 H1 (G.go R1 (by omega)) _ fun y H2 ⟨j, hj, _, _⟩ R2 => ⟨i, j, hi, hj, f i j, rfl, k _ H2 (R1.trans R2)⟩
/-- a displayed pair -/
theorem wp_pair {H : Hp} {Q : VK} {B : Nat} (h1 : Dw fa σ m1 ta g1) (h2 : Dw fa σ m2 tb g2) (G : GF fa B H) (k : ∀ x y p H1, g1 x → g2 y → H p = none → Rf fa (m1 + m2) H H1 → H1 p = some (.lst [x, y]) → Q (.ref p) H1) (hm : m1 + m2 ≤ B := by omega) : tLst (tCons ta (tCons tb tNil)) σ H Q := s_pair (D := { nx := fun _ _ => False, bk := fun _ _ => False, ct := fun _ _ => False, rt := Q }) h1 h2 G k hm
/-- a loop of so many turns as are drawn -/
theorem q_forD {D : Ends} {tz tu : TS} {gg : TG} {H : Hp} {B : Nat} {a b : Int} (h : Dw fa σ m te (GdI a b)) (G : GF fa B H) (k : ∀ n H1, a ≤ n → n ≤ b → Rf fa m H H1 → tSeq (tFor (iRng1 fun _ H' Q' => Q' [.int n] H') gg tu) tz D σ H1) (hm : m ≤ B := by omega) : tSeq (tFor (iRng1 (tCons te tNil)) gg tu) tz D σ H := h H (G.mono hm) _ fun v H1 ⟨n, hn, h1, h2⟩ R => by
  subst hn
  exact k n H1 h1 h2 R
theorem s_retIf {D : Ends} {H : Hp} {b : Bool} {tu : TT} (h : EvT tu σ H b) (h1 : b = true → ∀ H1, Ex H H1 → tRet ta D σ H1) (h2 : b = false → ∀ H1, Ex H H1 → tRet tb D σ H1) : tRet (tIf tu ta tb) D σ H := h H (Ex.refl H) _ fun H1 e1 => by
  cases b with
  | true => exact h1 rfl H1 e1
  | false => exact h2 rfl H1 e1
theorem s_retIfD {D : Ends} {H : Hp} {B : Nat} {tc td : TE} {a b c d : Int} {f : Int → Int → Bool} (h : Dw fa σ m1 tc (GdI a b)) (h' : Dw fa σ m2 td (GdI c d)) (G : GF fa B H) (h1 : ∀ H1, Rf fa (m1 + m2) H H1 → tRet ta D σ H1) (h2 : ∀ H1, Rf fa (m1 + m2) H H1 → tRet tb D σ H1) (hm : m1 + m2 ≤ B := by omega) : tRet (tIf (tTest (tOp (rI0 fun i j => .bl (f i j)) tc td)) ta tb) D σ H := dw_test h h' G _ (fun b H1 R => by
  cases b with
  | true => exact h1 H1 R
  | false => exact h2 H1 R) hm
/-- a fresh list is written at -/
theorem Rf.exc {H H1 H2 : Hp} {p : Addr} (a : Rf fa m H H1) (h : Exc (fun c => c = p) H1 H2) (hp : H p = none) (hne : p ≠ fa) : Rf fa m H H2 := ⟨fun c o hc hs => h c o (fun z => by rw [z, hp] at hs; cases hs) (a.keep c o hc hs), fun n hn hF => by
  obtain ⟨x, b, c, e', h1, h2⟩ := a.feed n hn hF
  exact ⟨x, b, c, e', h _ _ (Ne.symm hne) h1, h2⟩⟩
theorem atI_back2 {α : Type} (xs : List α) (a b : α) : atI (xs ++ [a] ++ [b]) (-2) = some a := by
  have hl : (xs ++ [a] ++ [b]).length = xs.length + 2 := by simp
  have e : ixN (xs ++ [a] ++ [b]).length (-2) = some xs.length := by
    unfold ixN
    rw [if_neg (by decide), hl, if_pos (by omega)]
    congr 1
    omega
  unfold atI
  rw [e]
  simp
/-- [.., .., ..][i], returned -/
theorem s_ix3 {D : Ends} {H : Hp} {t1 t2 t3 tw : TE} (h : t1 σ H fun v1 H1 => t2 σ H1 fun v2 H2 => t3 σ H2 fun v3 H3 => [v1, v2, v3].length ≤ sizeLine ∧ ∀ p, H3 p = none → tw σ (upd H3 p (.lst [v1, v2, v3])) fun i H4 => L2.rIxL K (.ref p) i H4 D.rt) : tRet (tOp (L2.rIxL K) (tLst (tCons t1 (tCons t2 (tCons t3 tNil)))) tw) D σ H := h
end
end Wc
set_option Elab.async false
set_option linter.all false
set_option maxRecDepth 100000
set_option maxHeartbeats 4000000
/-! sets of texts: filled out of a list, sorted -/
namespace Wt
open PySem PySem.Spec PyProof.Rows L2
/-- the text that a value is -/
def txOf : Value → Str
  | .str k _ => k
  | _ => Str.empty
/-- an entry whose value is a text -/
def Ent (P : Program) (w : World) (e : Int × Value) : Prop := ∃ (k : Str) (u : Tok), e.2 = .str k u ∧ e.1 = (PySem.strKind P w).hash k
def ek (e : Int × Value) : Str := txOf e.2
/-- entries and table hold just the texts l -/
structure Pay (P : Program) (w : World) (es : Array (Int × Value)) (t : SetTable) (l : List Str) : Prop where
  ents : ∀ e ∈ es.toList, Ent P w e
  keys : (es.toList.map ek).Perm l
  nd : l.Nodup
  few : es.size < scanBound
  fit : t.fits es.size = true
  ris : Ris t.place.toList
  led : w.params.followText "set-order" = true ∨ t.led = true
def SetX (P : Program) (w : World) (h : Heap) (a : Addr) (l : List Str) : Prop := ∃ o es ep t, h.get? a = some o ∧ o.ExactSet ∧ o.data = .set es ep t ∧ Pay P w es t l
section
variable {P : Program} {w : World} {h h' : Heap} {a : Addr} {l : List Str} {es es1 : Array (Int × Value)} {t t1 : SetTable}
theorem SetX.at (R : SetX P w h a l) (k : ∀ o, h.get? a = some o → h'.get? a = some o) : SetX P w h' a l := by
  obtain ⟨o, es, ep, t, ho, r⟩ := R
  exact ⟨o, es, ep, t, k o ho, r⟩
theorem ent_is {e : Int × Value} (g : Ent P w e) (k : Str) : (PySem.strKind P w).is k e.2 = true ↔ ek e = k := by
  obtain ⟨k0, u, h1, _⟩ := g
  unfold ek
  rw [h1]
  show (Value.isStrOf k (.str k0 u) = true) ↔ k0 = k
  simp [Value.isStrOf]
theorem Pay.size (p : Pay P w es t l) : es.size = l.length := by
  have := p.keys.length_eq
  rw [List.length_map, Array.length_toList] at this
  exact this
theorem Pay.elems (p : Pay P w es t l) : ElemsOf (PySem.strKind P w) es.toList := fun e he => by
  obtain ⟨k, u, h1, h2⟩ := p.ents e he
  exact ⟨⟨k, by rw [h1]; exact PySem.strKind_is P w k u, h2⟩, by rw [h1]; rfl⟩
theorem Pay.mem (p : Pay P w es t l) (k : Str) : k ∈ l ↔ ∃ e ∈ es.toList, (PySem.strKind P w).is k e.2 = true := by
  rw [← p.keys.mem_iff, List.mem_map]
  exact ⟨fun ⟨e, he, q⟩ => ⟨e, he, (ent_is (p.ents e he) k).mpr q⟩, fun ⟨e, he, q⟩ => ⟨e, he, (ent_is (p.ents e he) k).mp q⟩⟩
/-- laid anew -/
theorem Pay.anew (p : Pay P w es t l) (pm : es1.toList.Perm es.toList) (hf : t1.fits es1.size = true) (hr : Ris t1.place.toList) (hl : t1.led = t.led) : Pay P w es1 t1 l where
  ents := fun e he => p.ents e (pm.mem_iff.mp he)
  keys := (pm.map ek).trans p.keys
  nd := p.nd
  few := by
    have := pm.length_eq
    rw [Array.length_toList, Array.length_toList] at this
    rw [this]
    exact p.few
  fit := hf
  ris := hr
  led := p.led.imp id fun z => hl.trans z
/-- one more -/
theorem Pay.more {k : Str} {u : Tok} (p : Pay P w es t l) (hk : k ∉ l) (room : l.length + 1 < scanBound) (pm : es1.toList.Perm (es.push ((PySem.strKind P w).hash k, .str k u)).toList) (hf : t1.fits es1.size = true) (hr : Ris t1.place.toList) (hl : t1.led = t.led) : Pay P w es1 t1 (k :: l) := by
  rw [Array.toList_push] at pm
  have pc := pm.trans (List.perm_append_singleton _ _)
  have pk : (es1.toList.map ek).Perm (k :: es.toList.map ek) := pc.map ek
  refine ⟨fun e he => ?_, pk.trans (p.keys.cons k), List.nodup_cons.mpr ⟨hk, p.nd⟩, ?_, hf, hr, p.led.imp id fun z => hl.trans z⟩
  · rcases List.mem_cons.mp (pc.mem_iff.mp he) with z | z
    · rw [z]
      exact ⟨k, u, rfl, rfl⟩
    · exact p.ents e z
  · have := pc.length_eq
    rw [List.length_cons, Array.length_toList, Array.length_toList, p.size] at this
    rw [this]
    exact room
end
section
variable {P : Program} {w : World} {A : Around} {E : Value → Shared → Prop} {s : Shared} {a : Addr} {l : List Str}
/-- behind the table's own step -/
theorem add_end {g : Bool → Sem Unit} (hg : ∀ (b : Bool) (s1 : Shared) (Q' : Unit → Shared → Prop), Q' () s1 → wpAny (model P w) A (g b) Q' E s1) {o : Obj} {es es1 : Array (Int × Value)} {ep : Nat} {t t2 : SetTable} {l2 : List Str}
    (ho : s.heap.get? a = some o) (hex : o.ExactSet) (hd : o.data = .set es ep t) (p : Pay P w es1 t2 l2) {dm : Bool} {R : Option Bool → Shared → Prop} (hR : ∀ h', Heap.SameBut a s.heap h' → SetX P w h' a l2 → R (some true) { s with heap := h' }) :
    wpAny (model P w) A (do
        storeSet a es1 t2
        if (!dm && t2.tooFull) = true then do
            g (relayAll t2 es1 (SetTable.grown es1.size)).2.2
            storeSet a (relayAll t2 es1 (SetTable.grown es1.size)).1 (relayAll t2 es1 (SetTable.grown es1.size)).2.1
            pure (some true)
          else pure (some true)) R E s := by
  have hz := fits_of_scanBound p.few
  refine wpAny_bind (wpAny_storeSet_of ho hd ?_ hz)
  have at1 := store_at (es' := es1) (t' := t2) ho hd
  have same1 := Heap.SameBut.update s.heap a (Obj.putSet es1 t2)
  by_cases c : (!dm && t2.tooFull) = true
  · rw [if_pos c]
    have p2 := p.anew (relayAll_perm t2 es1 (SetTable.grown es1.size)) (relayAll_fits t2 es1 _) (relayAll_ris t2 es1 _) (relayAll_led t2 es1 _)
    generalize relayAll t2 es1 (SetTable.grown es1.size) = Z at p2 ⊢
    refine wpAny_bind (hg _ _ _ ?_)
    refine wpAny_bind (wpAny_storeSet_of at1 rfl ?_ (fits_of_scanBound p2.few))
    exact wpAny_pure (hR _ (same1.trans (Heap.SameBut.update _ a _)) ⟨_, Z.1, _, Z.2.1, store_at (es' := Z.1) (t' := Z.2.1) at1 rfl, hex, rfl, p2⟩)
  · rw [if_neg c]
    exact wpAny_pure (hR _ same1 ⟨_, es1, _, t2, at1, hex, rfl, p⟩)
theorem add_text {k : Str} {u : Tok} {Q : Bool → Shared → Prop} (R : SetX P w s.heap a l) (room : l.length + 1 < scanBound)
    (hQ : ∀ h' b, Heap.SameBut a s.heap h' → SetX P w h' a (if k ∈ l then l else k :: l) → Q b { s with heap := h' }) : wpAny (model P w) A (setAddHashed a (.str k u) ((PySem.strKind P w).hash k)) Q E s := by
  obtain ⟨o, es, ep, t, ho, hex, hd, p⟩ := id R
  have is1 : (PySem.strKind P w).is k (.str k u) = true := PySem.strKind_is P w k u
  unfold setAddHashed setAddHashedIn
  refine wpAny_holding (wpAny_bind (wpAny_setState_of ho hd p.fit ?_))
  dsimp only
  rw [byScan_of (x := Value.str k u) rfl p.few p.elems, if_pos rfl]
  unfold setAddByScan
  refine wpAny_bind (wpAny_bind (wpAny_rule (wpAny_bind (wpAny_setScan_of is1 ho hd p.fit p.elems ?_))))
  cases hfi : List.findIdx? (fun e => (PySem.strKind P w).is k e.2) es.toList with
  | some j =>
    obtain ⟨hj, pj, _⟩ := List.findIdx?_eq_some_iff_getElem.mp hfi
    have hin : k ∈ l := (p.mem k).mpr ⟨es.toList[j], List.getElem_mem hj, pj⟩
    dsimp only
    refine wpAny_pure (wpAny_pure ?_)
    have q := hQ s.heap false (Heap.SameBut.refl a s.heap)
    rw [if_pos hin] at q
    exact q R
  | none =>
    have hno : k ∉ l := fun z => by
      obtain ⟨e, he, q⟩ := (p.mem k).mp z
      have c := List.findIdx?_eq_none_iff.mp hfi e he
      rw [q] at c
      cases c
    dsimp only
    have p1 := p.more (u := u) hno room (layNew_perm t es _ _) (layNew_fits t es _ _) (layNew_ris t es _ _ p.ris) (layNew_led t es _ _)
    generalize layNew t es ((PySem.strKind P w).hash k) (.str k u) = Z at p1 ⊢
    obtain ⟨es1, t1, dm, gave⟩ := Z
    dsimp only at p1 ⊢
    have both : ∀ (g : Bool) {s1 : Shared} {Q' : Unit → Shared → Prop}, Q' () s1 → wpAny (model P w) A (match g with | true => rule "set.scan.the-table-gave-way" | false => pure ()) Q' E s1 := fun g s1 Q' q => by
      cases g
      · exact wpAny_pure q
      · exact wpAny_rule q
    have fin : ∀ h', Heap.SameBut a s.heap h' → SetX P w h' a (k :: l) → Q true { s with heap := h' } := fun h' sb r => hQ h' true sb (by rw [if_neg hno]; exact r)
    refine wpAny_bind (both _ ?_)
    by_cases hp : t1.plain = true
    · rw [if_pos hp]
      refine wpAny_bind ?_
      rw [hashByValue_scannable 8 (x := Value.str k u) rfl]
      refine wpAny_pure ?_
      have p2 : Pay P w es1 { t1 with plain := false } (k :: l) := ⟨p1.ents, p1.keys, p1.nd, p1.few, SetTable.fits_plain_off p1.fit, p1.ris, p1.led⟩
      refine add_end (l2 := k :: l) ?_ ho hex hd (by split <;> first | exact p1 | exact p2) fun h' sb r => wpAny_pure (fin h' sb r)
      exact fun b s1 Q' q => by cases b <;> first | exact wpAny_pure q | exact wpAny_rule q
    · rw [if_neg hp]
      refine wpAny_bind (wpAny_pure ?_)
      refine add_end (l2 := k :: l) ?_ ho hex hd (by rw [if_pos rfl]; exact p1) fun h' sb r => wpAny_pure (fin h' sb r)
      exact fun b s1 Q' q => by cases b <;> first | exact wpAny_pure q | exact wpAny_rule q
/-- the set as set() makes it -/
abbrev so (w : World) : Obj := { cls := .type "set", dict := none, data := .set #[] 0 (.fresh 0 0 (!w.params.followText "set-order")) }
theorem SetX.new {h : Heap} (ho : h.get? a = some (so w)) : SetX P w h a [] := ⟨_, #[], 0, _, ho, ⟨rfl, rfl, rfl⟩, rfl, fun e he => by simp at he, List.Perm.refl _, List.nodup_nil, by decide, by rfl, List.Pairwise.nil, by
  show _ ∨ (!w.params.followText "set-order") = true
  cases w.params.followText "set-order" <;> simp⟩
/-- what is met among the first ones -/
structure Met (xs : List Str) (i : Nat) (l : List Str) : Prop where
  nd : l.Nodup
  mem : ∀ x, x ∈ l ↔ x ∈ xs.take i
  len : l.length ≤ i
theorem Met.next {xs l : List Str} {i : Nat} {x : Str} (m : Met xs i l) (h : xs[i]? = some x) : Met xs (i + 1) (if x ∈ l then l else x :: l) := by
  have e : xs.take (i + 1) = xs.take i ++ [x] := by rw [List.take_add_one, h]; rfl
  by_cases hx : x ∈ l
  · rw [if_pos hx]
    refine ⟨m.nd, fun y => ?_, Nat.le_succ_of_le m.len⟩
    rw [e, List.mem_append, m.mem y]
    exact ⟨.inl, fun z => z.elim id fun z => by rw [List.mem_singleton.mp z]; exact (m.mem x).mp hx⟩
  · rw [if_neg hx]
    refine ⟨List.nodup_cons.mpr ⟨hx, m.nd⟩, fun y => ?_, Nat.succ_le_succ m.len⟩
    rw [e, List.mem_append, List.mem_cons, List.mem_singleton, m.mem y]
    exact Or.comm
theorem fill_texts {I S : Addr} {fp wr : List Addr} {G : Array GenState → Array GenState → Prop} {n : Nat} {Pv : Nat → Value → Prop} {St : Nat → Shared → Prop} {R : Result → Shared → Prop} {xs : List Str}
    (W : WalksS P w A.in1 I fp wr G n Pv St) (hS : S ∉ fp) (hn : xs.length = n) (hb : n + 1 < scanBound) (hv : ∀ i v, Pv i v → ∃ x u, xs[i]? = some x ∧ v = .str x u) :
    ∀ (d i : Nat) (s : Shared) (l : List Str), n = i + d → St i s → Met xs i l → SetX P w s.heap S l → (∀ s2 l2, Moved (S :: wr) G s s2 → Met xs n l2 → SetX P w s2.heap S l2 → R (.ok (.ret .none)) s2) →
      codeAny (model P w) A (.builtin "set.update.loop" ⟨[.ref S, .ref I], []⟩) R s := by
  have hw : S ∉ wr := fun z => hS (W.sub _ z)
  have wide : ∀ b ∈ wr, b ∈ S :: wr := fun b z => List.mem_cons_of_mem _ z
  intro d
  induction d with
  | zero =>
    intro i s l hd st m X hR
    obtain rfl : i = n := by omega
    refine codeAny_builtin F.entry_set_update_loop (by
      rw [Around.under_plainId F.plain_set_update_loop _]
      exact wpAny_bind (W.done s _ _ st fun s2 mv => wpAny_pure (hR s2 l (mv.mono wide) m (X.at fun o e => mv.heap S o hw e))))
  | succ d ih =>
    intro i s l hd st m X hR
    refine codeAny_builtin F.entry_set_update_loop (by
      rw [Around.under_plainId F.plain_set_update_loop _]
      refine wpAny_bind (W.item i s _ _ (by omega) st fun v s2 hP st2 mv => ?_)
      obtain ⟨x, u, hx, rfl⟩ := hv i v hP
      have X2 : SetX P w s2.heap S l := X.at fun o e => mv.heap S o hw e
      have hl := m.len
      refine wpAny_bind (m := holding [Value.str x u] (setAdd S (.str x u))) (wpAny_holding ?_)
      unfold setAdd
      refine wpAny_holding (wpAny_bind ((PySem.strKind P w).pyHash (k := x) (PySem.strKind_is _ _ _ _) ?_))
      refine add_text (s := { s2 with toks := s2.toks + 1 }) X2 (by omega) fun h' b sb X3 => wpAny_pure ⟨plainId_quiet F.plain_set_update_loop _, ?_⟩
      refine ih (i + 1) _ _ (by omega) (W.frame _ s2 _ _ st2 (Nat.le_succ _) fun c hc o e => ?_) (m.next hx) X3 fun s3 l3 mv3 m3 X4 => hR s3 l3 (Moved.trans W.gtrans ((mv.mono wide).then_heap (Nat.le_succ _) fun c o hc e => ?_) mv3) m3 X4
      · rw [sb.2 c fun z => hS (z ▸ hc)]
        exact e
      · rw [sb.2 c fun z => hc (z ▸ List.mem_cons_self)]
        exact e)
set_option maxHeartbeats 3200000 in
theorem call_set_texts {src : Addr} {its : Array Value} {xs : List Str} {Q : Value → Shared → Prop} (noH : A.handled = none) (isl : s.heap.IsList src its) (hit : StrsAre its.toList xs) (room : xs.length + 1 < scanBound)
    (fin : ∀ (h2 : Heap) (tk : Nat) (l : List Str), Met xs xs.length l → SetX P w h2 s.heap.objs.size l → (∀ b o, s.heap.get? b = some o → h2.get? b = some o) → Q (.ref s.heap.objs.size) { s with heap := h2, toks := tk }) :
    wpAny (model P w) A (call (.type "set") [.ref src]) Q E s := by
  have lx : xs.length = its.size := by rw [← Array.length_toList, hit.len_eq]
  obtain ⟨c, tl, q0⟩ := PySem.F.called_set.mro
  have q1 := PySem.F.called_set.made; have q2 := PySem.F.called_set.sub
  refine wpAny_call (codeAny_of_tree (wpAny_pure ⟨Code.quiet_builtin _ (by decide +kernel), codeAny_builtin PySem.F.entry_type_call ?_⟩))
  rw [Around.under_plain (weight_type_call_type "set" [.ref src] []) rfl]
  have q3 := PySem.F.called_set.notType; have q4 := PySem.F.called_set.canCreate
  have q5 := PySem.F.typeCall_set_1 (.ref src)
  repeat (any_goals (first | assumption | wp_step))
  refine codeAny_mono (code_set_led1 (.ref src) (E := E) (Q₁ := fun ob t1 => ob = .ref s.heap.objs.size ∧ t1 = { s with heap := s.heap.push (so w) }) ⟨rfl, rfl⟩) fun r t1 hr => ?_
  match r, hr with
  | .error e, hr => exact hr
  | .ok (.ret ob), hr =>
    obtain ⟨rfl, rfl⟩ := hr
    have atS : (s.heap.push (so w)).get? s.heap.objs.size = some (so w) := Heap.get?_push_size _ rfl
    have tyS : Shared.TypeIs { s with heap := s.heap.push (so w) } (.ref s.heap.objs.size) "set" := ⟨_, atS, rfl⟩
    have q6 := PySem.F.called_set.init.lookup
    have q7 := PySem.F.called_set.init.bind (.ref s.heap.objs.size)
    repeat (any_goals (first | assumption | wp_step))
    refine codeAny_mono (codeAny_call_builtin (R := wants (fun r t2 => r = .none ∧ ∃ h2 tk l, t2 = { s with heap := h2, toks := tk } ∧ Met xs xs.length l ∧ SetX P w h2 s.heap.objs.size l ∧ ∀ b o, s.heap.get? b = some o → h2.get? b = some o) E) PySem.F.called_set.init.plain PySem.F.entry_set_init (check_set_init_1 tyS ?_)) fun r2 t2 hr2 => ?_
    · obtain ⟨ol, atl, cl, nl, dl⟩ := isl
      obtain ⟨ocls, odict, odata, oslots⟩ := ol
      simp only at cl dl
      subst cl; subst dl
      have lt := Heap.lt_size atl
      have isl2 : (s.heap.push (so w)).IsList src its := ⟨_, Heap.get?_push_of_some _ atl, rfl, nl, rfl⟩
      have q8 := PySem.F.sub_list_set; have q9 := PySem.F.sub_list_frozenset
      have q10 : (Value.type "list" == Value.type "dict") = false := by decide
      have atl2 : (s.heap.push (so w)).get? src = some { cls := .type "list", dict := odict, data := .seq its nl, slots := oslots } := Heap.get?_push_of_some _ atl
      unfold Builtin.«set.__init__» noKeywords Builtin.Frozenset.updateFrom
      generalize hI : pyIter = iter
      wp_walk
      subst hI
      refine wpAny_pyIter_list isl2 (wpAny_bind (wpAny_runValue ?_))
      have no3 : A.in1.in1.in1.handled = none := by simp [noH]
      have zI : (s.heap.push (so w)).objs.size = s.heap.objs.size + 1 := Heap.size_push ..
      have ne1 : src ≠ (s.heap.push (so w)).objs.size := by rw [zI]; exact Nat.ne_of_lt (Nat.lt_succ_of_lt lt)
      have out1 : s.heap.objs.size ∉ [(s.heap.push (so w)).objs.size, src] := by
        rw [zI]
        intro z
        rcases List.mem_cons.mp z with z | z
        · exact absurd z (Nat.ne_of_lt (Nat.lt_succ_self _))
        · exact absurd (List.mem_singleton.mp z) (Nat.ne_of_gt lt)
      refine fill_texts (P := P) (xs := xs) ((Walks.list no3 _ src ne1 its).toS) out1 lx (by rw [← lx]; exact room) (fun i v hv => ?_) its.size 0 _ [] (by omega) ⟨⟨_, Heap.get?_push_size _ rfl, rfl, rfl⟩, isl2.push _⟩ ⟨List.nodup_nil, fun x => by simp, Nat.le_refl _⟩ (SetX.new (Heap.get?_push_of_some _ atS)) fun s2 l2 mv m2 X2 => ?_
      · obtain ⟨y, u, h1, h2⟩ := hit.item i v (by rw [Array.getElem?_toList]; exact hv)
        exact ⟨y, u, h2, h1⟩
      · obtain ⟨h2, g2, d2, tk2, os2⟩ := s2
        obtain rfl : g2 = s.gens := mv.gens
        obtain rfl : d2 = s.drawn := mv.drawn
        obtain rfl : os2 = s.os := mv.os
        rw [← lx] at m2
        show wpAny _ _ (Bind.bind (pure _) _) _ _ _
        refine wpAny_pure (wpAny_pure ⟨rfl, h2, tk2, l2, rfl, m2, X2, fun b o e => ?_⟩)
        have hb := Heap.lt_size e
        refine mv.heap b o (fun z => ?_) (Heap.get?_push_of_some _ (Heap.get?_push_of_some _ e))
        rw [zI] at z
        rcases List.mem_cons.mp z with z | z
        · exact absurd z (Nat.ne_of_lt hb)
        · exact absurd (List.mem_singleton.mp z) (Nat.ne_of_lt (Nat.lt_succ_of_lt hb))
    · match r2, hr2 with
      | .error e, hr2 => exact hr2
      | .ok (.ret v2), hr2 =>
        obtain ⟨rfl, h2, tk, l, rfl, m, X, k⟩ := hr2
        repeat (any_goals (first | assumption | wp_step))
        exact fin _ _ _ m X k
end
end Wt
set_option Elab.async false
set_option linter.all false
set_option maxRecDepth 100000
set_option maxHeartbeats 4000000
/-! sorted(texts), set(texts), sorted(set) as rules -/
namespace Wt
open PySem PySem.Spec PyProof.Rows L2 Wc
/-- texts in the sequence of their signs -/
def sortT (xs : List Tx) : List Tx := xs.mergeSort (fun a b => decide (a ≤ b))
theorem sortT_perm (xs : List Tx) : (sortT xs).Perm xs := List.mergeSort_perm _ _
theorem sortT_len (xs : List Tx) : (sortT xs).length = xs.length := List.length_mergeSort _
theorem sortT_mem {xs : List Tx} {t : Tx} : t ∈ sortT xs ↔ t ∈ xs := (sortT_perm xs).mem_iff
theorem sortT_pw (xs : List Tx) : (sortT xs).Pairwise (· ≤ ·) := by
  have h := List.pairwise_mergeSort (le := fun a b : Tx => decide (a ≤ b)) (fun a b c h1 h2 => decide_eq_true (List.le_trans (of_decide_eq_true h1) (of_decide_eq_true h2))) (fun a b => by
    rcases List.le_total a b with h | h
    · simp [h]
    · simp [h]) xs
  exact h.imp fun z => of_decide_eq_true z
theorem enc_le : (PySem.W.dataLe false fun b : Tx => PyData.str (SX.S b)) = fun a b => decide (a ≤ b) := by
  rw [PySem.W.dataLe_str]
theorem alike_tx (xs : List Tx) : PySem.W.AllAlike (xs.map fun b => PyData.str (SX.S b)) := by
  intro d hd d' hd'
  obtain ⟨a, _, rfl⟩ := List.mem_map.mp hd
  obtain ⟨b, _, rfl⟩ := List.mem_map.mp hd'
  rfl
theorem sortable_tx (xs : List Tx) : PySem.W.Sortable (xs.map fun b => PyData.str (SX.S b)) := by
  refine .inr fun d hd => ?_
  obtain ⟨a, _, rfl⟩ := List.mem_map.mp hd
  exact ⟨fun z => (nomatch z), fun _ z => (nomatch z)⟩
theorem reads_tx {h : Heap} {vs : List Value} {xs : List Tx} (e : PySem.W.EachIs IsT vs xs) : PySem.W.EachIs (fun v b => ∃ as, Reads h v (PyData.str (SX.S b)) as) vs xs := e.mono fun v b ⟨t, hv⟩ => ⟨[], by rw [hv]; exact .str _ _⟩
theorem reads_out {h : Heap} {a : Addr} {vs : List Value} {xs : List Tx} (e : PySem.W.EachIs IsT vs xs) : PySem.W.EachIs (fun v b => ∃ as, Reads h v (PyData.str (SX.S b)) as ∧ a ∉ as) vs xs := e.mono fun v b ⟨t, hv⟩ => ⟨[], by rw [hv]; exact .str _ _, fun z => nomatch z⟩
theorem strs_of_each : ∀ {vs : List Value} {xs : List Tx}, PySem.W.EachIs IsT vs xs → StrsAre vs (xs.map SX.S)
  | _, _, .nil => .nil
  | _, _, .cons ⟨t, rfl⟩ r => .cons _ t (strs_of_each r)
section
variable {X : Cx}
def rSortTx (K : PySem.W.Frag) : List V → Hp → VK → Prop := fun vs H Q => ∃ (p : Addr) (xs : List Tx), vs = [.ref p] ∧ SqL K H p (xs.map T) ∧ ∀ q, H q = none → Q (.ref q) (upd H q (.lst ((sortT xs).map T)))
theorem cr_sortTx (hu : X.A.units + 64 < cLine) : CallR X (.builtin "sorted") (rSortTx X.K) := by
  intro pins s σ H vs us Q I r h
  obtain ⟨p, xs, rfl, hp, q⟩ := h
  rw [Vals.ref1 r]
  obtain ⟨its, rv, pl, hz⟩ := I.list hp
  rw [List.length_map] at hz
  have ev := each_of_vals rv
  refine PySem.W.sorted_data (R := IsT) (enc := fun b : Tx => PyData.str (SX.S b)) pl.isList ev (reads_tx ev) (alike_tx xs) (sortable_tx xs) hz (fun b _ => ?_) fun out hlen eo => ?_
  · show X.A.units + 2 + _ < cLine
    have : (PyData.str (SX.S b)).depth ≤ 1 := by simp [PyData.depth]
    omega
  · rw [enc_le] at eo
    obtain ⟨c, hc⟩ := sortedAll_at s.heap its out.toArray
    have hn : H (s.heap.objs.size + 1) = none := I.hok.fresh (Nat.le_succ _)
    refine ⟨.ref _, upd H (s.heap.objs.size + 1) (.lst ((sortT xs).map T)), I.laid (t' := s.toks) (fun b u e => sortedAll_old e) (Nat.le_succ _) ⟨?_, out, c, vals_of_each eo, hc⟩, rfl, q _ hn⟩
    rw [List.length_map, sortT_len]
    exact hz
/-- the set of these texts -/
def SetXO (P : Program) (w : World) (a : Addr) (l : List Str) : HO := .ext fun h => SetX P w h a l
theorem setXO_new {w : World} {P : Program} {H : Hp} {h : Heap} {a : Addr} {l : List Str} (R : SetX P w h a l) : ObjOk P w H h a (SetXO P w a l) := by
  have ⟨o, _, _, _, ho, _⟩ := R
  exact ⟨R, ⟨o, ho⟩, fun h1 h2 p k => SetX.at p k⟩
/-- the texts without repetition -/
structure Uniq (xs ys : List Tx) : Prop where
  nd : ys.Nodup
  mem : ∀ x, x ∈ ys ↔ x ∈ xs
def rSetTx (K : PySem.W.Frag) (P : Program) (w : World) : List V → Hp → VK → Prop := fun vs H Q => ∃ (p : Addr) (xs : List Tx), vs = [.ref p] ∧ SqL K H p (xs.map T) ∧ xs.length ≤ 4000 ∧ ∀ q ys, Uniq xs ys → ys.length ≤ xs.length → H q = none → Q (.ref q) (upd H q (SetXO P w q (ys.map SX.S)))
theorem tx_back (l : List Str) : l = (l.map fun x => x.cps.toList).map SX.S := by
  rw [List.map_map]
  conv => lhs; rw [← List.map_id l]
  apply List.map_congr_left
  intro x _
  rfl
theorem S_inj {a b : Tx} (h : SX.S a = SX.S b) : a = b := by
  have := congrArg (fun x : Str => x.cps.toList) h
  simpa using this
theorem uniq_of {xs : List Tx} {l : List Str} (m : Met (xs.map SX.S) (xs.map SX.S).length l) : ∃ ys, l = ys.map SX.S ∧ Uniq xs ys ∧ ys.length ≤ xs.length := by
  refine ⟨_, tx_back l, ⟨?_, fun x => ?_⟩, ?_⟩
  · have nd := m.nd
    rw [tx_back l] at nd
    exact List.Pairwise.of_map SX.S (fun a b hne e => hne (congrArg SX.S e)) nd
  · have h := m.mem (SX.S x)
    rw [List.take_length] at h
    constructor
    · intro hx
      obtain ⟨y, hy, rfl⟩ := List.mem_map.mp hx
      obtain ⟨z, hz, e⟩ := List.mem_map.mp (h.mp hy)
      rw [← S_inj e]
      exact hz
    · intro hx
      have h2 := h.mpr (List.mem_map.mpr ⟨x, hx, rfl⟩)
      exact List.mem_map.mpr ⟨_, h2, rfl⟩
  · rw [List.length_map]
    have := m.len
    rw [List.length_map] at this
    exact this
theorem cr_setTx (hc : X.calm = true) : CallR X (.type "set") (rSetTx X.K X.prog X.w) := by
  intro pins s σ H vs us Q I r h
  obtain ⟨p, xs, rfl, hp, hl, q⟩ := h
  rw [Vals.ref1 r]
  obtain ⟨its, rv, pl, hz⟩ := I.list hp
  refine call_set_texts (P := X.prog) (xs := xs.map SX.S) (I.ok.hd hc) pl.isList (by simpa using strs_of_each (each_of_vals rv)) (by rw [List.length_map]; unfold scanBound; omega) fun h2 tk l m R k => ?_
  obtain ⟨ys, rfl, u, hly⟩ := uniq_of m
  have hn : H s.heap.objs.size = none := I.hok.fresh (Nat.le_refl _)
  exact ⟨.ref _, upd H s.heap.objs.size (SetXO X.prog X.w s.heap.objs.size (ys.map SX.S)), I.laid (t' := tk) k (Nat.le_refl _) (setXO_new R), rfl, q _ ys u hly hn⟩
def rSortSet (P : Program) (w : World) : List V → Hp → VK → Prop := fun vs H Q => ∃ (a : Addr) (ys : List Tx), vs = [.ref a] ∧ H a = some (SetXO P w a (ys.map SX.S)) ∧ ∀ zs q, zs.Perm ys → H q = none → Q (.ref q) (upd H q (.lst ((sortT zs).map T)))
theorem ents_texts {P : Program} {w : World} : ∀ {l : List (Int × Value)}, (∀ e ∈ l, Ent P w e) → PySem.W.EachIs IsT (l.map (·.2)) (l.map fun e => (ek e).cps.toList)
  | [], _ => .nil
  | e :: l, h => .cons (by
      obtain ⟨k, u, h1, _⟩ := h e List.mem_cons_self
      refine ⟨u, ?_⟩
      show e.2 = .str (SX.S (ek e).cps.toList) u
      unfold ek
      rw [h1]
      rfl) (ents_texts fun x hx => h x (List.mem_cons_of_mem _ hx))
theorem each_perm {vs ws : List Value} {xs : List Tx} (e : PySem.W.EachIs IsT ws xs) (p : vs.Perm ws) : ∃ zs, zs.Perm xs ∧ PySem.W.EachIs IsT vs zs := by
  have key : ∀ {us : List Value} {zs : List Tx}, PySem.W.EachIs IsT us zs → zs = us.map (fun v => (txOf v).cps.toList) := by
    intro us zs h
    induction h with
    | nil => rfl
    | cons h1 _ ih =>
      obtain ⟨t, rfl⟩ := h1
      rw [List.map_cons, ← ih]
      rfl
  have all : ∀ {us : List Value} {zs : List Tx}, PySem.W.EachIs IsT us zs → ∀ v ∈ us, ∃ k t, v = Value.str k t := by
    intro us zs h
    induction h with
    | nil => intro v hv; cases hv
    | cons h1 _ ih =>
      intro v hv
      obtain ⟨t, rfl⟩ := h1
      rcases List.mem_cons.mp hv with rfl | hv
      · exact ⟨_, t, rfl⟩
      · exact ih v hv
  have hv : ∀ v ∈ vs, ∃ k t, v = Value.str k t := fun v h => all e v (p.mem_iff.mp h)
  refine ⟨vs.map fun v => (txOf v).cps.toList, ?_, ?_⟩
  · rw [key e]
    exact p.map _
  · clear p
    induction vs with
    | nil => exact .nil
    | cons v vs ih =>
      refine .cons ?_ (ih fun x hx => hv x (List.mem_cons_of_mem _ hx))
      obtain ⟨k, t, rfl⟩ := hv v List.mem_cons_self
      exact ⟨t, rfl⟩
theorem cr_sortSet (hc : X.calm = true) (hu : X.A.units + 64 < cLine) : CallR X (.builtin "sorted") (rSortSet X.prog X.w) := by
  intro pins s σ H vs us Q I r h
  obtain ⟨a, ys, rfl, ha, q⟩ := h
  rw [Vals.ref1 r]
  obtain ⟨o, es, ep, t, ho, hex, hd, py⟩ := (I.hok a _ ha).1
  refine Calls.call_function_entry kind_sorted plain_sorted entry_sorted (args_sorted1 _) ?_
  unfold Builtin.«sorted»
  refine wpAny_bind (m := checkCount "sorted" 1 1 _) (wpAny_pure (wpAny_bind (collect_set (A := X.A.in1) (I.ok.hd hc) ⟨o, ho, hex.1, hd⟩ py.fit py.few py.ris py.led fun s1 ws k1 sz g1 o1 pm => ?_)))
  obtain ⟨zs, pz, ez⟩ := each_perm (ents_texts py.ents) pm
  have few := py.few
  have lw : ws.length = es.size := by rw [pm.length_eq, List.length_map, Array.length_toList]
  have small : ws.length ≤ sizeLine := by
    rw [lw]
    exact fits_of_scanBound few
  refine wpAny_bind (wpAny_newList ?_ small)
  have atL : (s1.heap.push (seqObj "list" ws.toArray 0)).get? s1.heap.objs.size = some (seqObj "list" ws.toArray 0) := Heap.get?_push_size _ rfl
  refine wpAny_bind (wpAny_holding (PySem.W.list_sort_data (s := { s1 with heap := s1.heap.push (seqObj "list" ws.toArray 0) }) (R := IsT) (enc := fun b : Tx => PyData.str (SX.S b)) atL ez (reads_out ez) (alike_tx zs) (sortable_tx zs) (by rw [← ez.length]; exact small) (fun b _ => ?_) fun out hlen eo => ?_))
  · show X.A.in1.units + 1 + _ < cLine
    have h1 : X.A.in1.units ≤ X.A.units + 8 := by
      show X.A.units + _ ≤ _
      first | omega | exact Nat.add_le_add_left (by decide) _
    have : (PyData.str (SX.S b)).depth ≤ 1 := by simp [PyData.depth]
    omega
  · rw [enc_le] at eo
    obtain ⟨c, hc2⟩ := sortedHeap_at (vs := ws) (out := out.toArray) atL
    have pzy : zs.Perm ys := by
      refine pz.trans ?_
      have h1 := py.keys.map (fun x : Str => x.cps.toList)
      rw [List.map_map, List.map_map] at h1
      exact h1.trans (by rw [show ((fun x : Str => x.cps.toList) ∘ SX.S) = (fun x : Tx => x) from by funext x; simp, List.map_id'])
    have kk : ∀ b u, s.heap.get? b = some u → (sortedHeap (s1.heap.push (seqObj "list" ws.toArray 0)) s1.heap.objs.size ws out.toArray).get? b = some u := fun b u e => by
      have lt := Heap.lt_size (k1 b u e)
      rw [sortedHeap_old (Nat.ne_of_lt lt) (by rw [size_push']; exact Nat.lt_succ_of_lt lt)]
      exact Heap.get?_push_of_some _ (k1 b u e)
    have hn : H s1.heap.objs.size = none := I.hok.fresh sz
    have J := I.call (ch := []) (g' := s1.gens) (d' := s1.drawn) (t' := s1.toks) (Un.laid kk sz hn) (I.hok.laid kk sz (o := .lst ((sortT zs).map T)) ⟨by rw [List.length_map, sortT_len, ← ez.length]; exact small, out, c, vals_of_each eo, hc2⟩) (by rw [g1]; exact I.bare) (fun _ z => nomatch z)
    refine wpAny_pure ⟨_, rfl, .ref s1.heap.objs.size, _, ?_, rfl, q zs _ pzy hn⟩
    have e : ({ s1 with heap := sortedHeap (s1.heap.push (seqObj "list" ws.toArray 0)) s1.heap.objs.size ws out.toArray } : Shared) = { s with heap := sortedHeap (s1.heap.push (seqObj "list" ws.toArray 0)) s1.heap.objs.size ws out.toArray, gens := s1.gens, drawn := s1.drawn, toks := s1.toks } := by
      cases s1
      cases s
      cases o1
      rfl
    rw [e]
    exact J
end
end Wt
set_option Elab.async false
set_option linter.all false
set_option maxRecDepth 100000
set_option maxHeartbeats 2000000
/-! text[::-1]; rules with the part given; lists put behind one another -/
namespace Wt
open PySem PySem.Spec PyProof.Rows L2 Evl Wc
theorem rev_range (a : Tx) : (List.range a.length).map (fun k => a.getD (a.length - 1 - k) 0) = a.reverse := by
  apply List.ext_getElem
  · simp
  · intro i h1 h2
    have hl : i < a.length := by simpa using h1
    rw [List.getElem_map, List.getElem_range, List.getElem_reverse, List.getD_eq_getElem?_getD, List.getElem?_eq_getElem (by omega)]
    rfl
theorem made_rev (a : Tx) (t u : Tok) : sliceMade (SX.S a) t none none (some ((-1 : Int), u)) = .str (SX.S a.reverse) := by
  unfold sliceMade slicePicked
  rw [if_neg (by
    rw [show ((((some ((-1 : Int), u)).map (·.1)).getD 1 == 1)) = false from rfl]
    simp)]
  show Made.str ⟨((Builtin.Str.strSliceIndices none none (-1) (SX.S a).length).filterMap ((SX.S a).cps[·]?)).toArray⟩ = _
  rw [picked_rev, filterMap_get, List.map_map]
  · have e : (SX.S a).length = a.length := S_length a
    rw [e]
    congr 1
    show (⟨((List.range a.length).map fun k => (SX.S a).cps.getD (a.length - 1 - k) 0).toArray⟩ : Str) = SX.S a.reverse
    rw [← rev_range]
    congr 2
    apply List.map_congr_left
    intro k hk
    show a.toArray.getD _ 0 = _
    simp [Array.getD, List.getD_eq_getElem?_getD]
    split
    · rename_i h
      rw [List.getElem?_eq_getElem h]
      rfl
    · rename_i h
      rw [List.getElem?_eq_none (by omega)]
      rfl
  · intro i hi
    obtain ⟨k, hk, rfl⟩ := List.mem_map.mp hi
    have := List.mem_range.mp hk
    show _ < (SX.S a).length
    omega
def tRevT (te : TE) : TE := fun σ H Q => te σ H fun x H1 => ∃ a : Tx, x = T a ∧ a.length ≤ 16777216 ∧ Q (T a.reverse) H1
section
variable {X : Cx}
theorem pe_revT {e : Expr} {te : TE} {k : Nat} {p1 p2 p3 pos : Pos} (he : PE X e te) : PE X (.Subscript e (.Slice none none (some (.UnaryOp .USub (.Constant (.int 1) k p1) p2)) p3) pos) (tRevT te) := by
  refine ⟨fun pins s σ H Q I h => Subscript_ (thn (he.run pins s σ H _ I h) fun v s1 ⟨x, H1, I1, r1, q1⟩ => ?_)⟩
  obtain ⟨a, ex, hz, q⟩ := q1
  subst ex
  obtain ⟨t, rfl⟩ := r1
  have neg : PO X (some (.UnaryOp .USub (.Constant (.int 1) k p1) p2)) (tPart (tUn (rU fun i => .int (-i)) (tC (.int 1)))) := po_some (pe_un un_neg pe_int)
  refine wpAny_Slice (thn (po_none.run pins s1 σ H1 (fun o G => o = none ∧ G = H1) I1 ⟨rfl, rfl⟩) fun vl s2 ⟨l, H2, I2, pl, el, e2⟩ => ?_)
  subst el e2
  refine thn (po_none.run pins s2 σ H2 (fun o G => o = none ∧ G = H2) I2 ⟨rfl, rfl⟩) fun vu s3 ⟨u, H3, I3, pu, eu, e3⟩ => ?_
  subst eu e3
  refine thn (neg.run pins s3 σ H3 (fun o G => o = some (-1) ∧ G = H3) I3 ⟨1, rfl, -1, rfl, rfl, rfl⟩) fun vs s4 ⟨o, H4, I4, ps, eo, e4⟩ => ?_
  subst eo e4
  obtain ⟨l', rfl, hl⟩ := IsPart.raw pl
  obtain ⟨u', rfl, hu⟩ := IsPart.raw pu
  obtain ⟨st, rfl, hst⟩ := IsPart.raw ps
  cases l' with
  | some z => cases hl
  | none => cases u' with
    | some z => cases hu
    | none => cases st with
      | none => cases hst
      | some z =>
        obtain ⟨n, w⟩ := z
        have hn : n = -1 := Option.some.inj hst
        subst hn
        have I5 : Inv X pins σ H4 { s4 with heap := s4.heap.push { cls := .type "slice", data := .fields #[partValue none, partValue none, partValue (some (-1, w))] } } := I4.kept (t' := s4.toks) fun b ob q => Heap.get?_push_of_some _ q
        refine tail_any (T := "str") (ops := [.str (SX.S a) t, .ref s4.heap.objs.size]) (typeIs_str _ _ _) (PySem.F.slot_str_getitem.lookup) ?_ (by with_unfolding_all rfl)
        refine wpAny_getItem_str_slice (l := none) (u := none) (st := some (-1, w)) ⟨_, Heap.get?_push_size _ rfl, rfl, rfl⟩ rfl ?_
        rw [made_rev]
        refine ⟨?_, .str _, _, I5.tok _, ⟨_, rfl⟩, q⟩
        rw [S_length, List.length_reverse]
        exact Nat.le_trans hz (by decide)
end
section
variable {X : Cx} (P : Program) (w : World) (K : PySem.W.Frag)
def rSortX (K : PySem.W.Frag) (P : Program) (w : World) : List V → Hp → VK → Prop := fun vs H Q => rSortTx K vs H Q ∨ rSortSet P w vs H Q
theorem kset (hc : X.calm = true := by rfl) (hK : X.K = K := by rfl) (hP : X.prog = P := by rfl) (hw : X.w = w := by rfl) : CallR X (.type "set") (rSetTx K P w) := by
  subst hK hP hw
  exact cr_setTx hc
theorem ksorted (hu : X.A.units + 64 < cLine) (hc : X.calm = true := by rfl) (hK : X.K = K := by rfl) (hP : X.prog = P := by rfl) (hw : X.w = w := by rfl) : CallR X (.builtin "sorted") (rSortX K P w) := by
  subst hK hP hw
  exact CallR.or (cr_sortTx hu) (cr_sortSet hc hu)
theorem krev {e : Expr} {te : TE} (h : PE X e (tRevL X.K te)) (hK : X.K = K := by rfl) : PE X e (tRevL K te) := hK ▸ h
end
section
variable {K : PySem.W.Frag} {P : Program} {w : World} {σ : L2.St} {H : Hp} {te : TE}
theorem ev_revT {a : Tx} (h : Ev te σ H (T a)) (hl : a.length ≤ 16777216) : Ev (tRevT te) σ H (T a.reverse) := fun H1 e _ q => h H1 e _ fun H2 e2 => ⟨a, rfl, hl, q H2 e2⟩
theorem el_revL {p : Addr} {xs : List V} (h : Ev te σ H (.ref p)) (hp : SqL K H p xs) : EvL (tRevL K te) σ H xs.reverse := fun H1 e _ q => h H1 e _ fun H2 e2 => ⟨p, xs, rfl, ex_l (e.trans e2) hp, fun r hr => q r _ (fresh_back e2 hr) (e2.trans (Ex.new hr)) upd_same⟩
theorem el_revN {xs : List V} (h : EvL te σ H xs) : EvL (tRevL K te) σ H xs.reverse := fun H1 e _ q => h H1 e _ fun p H2 hp e2 h2 => ⟨p, xs, rfl, sq_of h2, fun r hr => q r _ (fresh_back e2 hr) (e2.trans (Ex.new hr)) upd_same⟩
/-- sorted(set(..)), of a new list of texts -/
theorem el_sortSet {xs : List Tx} (h : EvL te σ H (xs.map T)) (hl : xs.length ≤ 4000) (Q : VK) (k : ∀ p ys H1, Uniq xs ys → ys.length ≤ xs.length → H p = none → Ex H H1 → H1 p = some (.lst ((sortT ys).map T)) → Q (.ref p) H1) :
    tCB (rSortX K P w) (tCons (tCB (rSetTx K P w) (tCons te tNil)) tNil) σ H Q := h H (Ex.refl _) _ fun p H1 hp e1 h1 => ⟨p, xs, rfl, sq_of h1, hl, fun q ys u hly hq => .inr ⟨q, ys, rfl, upd_same, fun zs r pz hr => by
  have hr1 : H1 r = none := fresh_back (Ex.new hq) hr
  exact k r zs _ ⟨pz.nodup_iff.mpr u.nd, fun x => (pz.mem_iff).trans (u.mem x)⟩ (by rw [pz.length_eq]; exact hly) (fresh_back e1 hr1) ((e1.trans (Ex.new hq)).trans (Ex.new hr)) upd_same⟩⟩
/-- sorted(..) of a standing list of texts -/
theorem el_sorted {p : Addr} {xs : List Tx} (h : Ev te σ H (.ref p)) (hp : SqL K H p (xs.map T)) : EvL (tCB (rSortX K P w) (tCons te tNil)) σ H ((sortT xs).map T) := fun H1 e _ q => h H1 e _ fun H2 e2 => .inl ⟨p, xs, rfl, ex_l (e.trans e2) hp, fun r hr => q r _ (fresh_back e2 hr) (e2.trans (Ex.new hr)) upd_same⟩
end
end Wt
set_option Elab.async false
set_option linter.all false
set_option maxRecDepth 100000
set_option maxHeartbeats 2000000
/-! small things for lists and tests -/
namespace Wt
open PySem PySem.Spec PyProof.Rows L2 Evl Wc
section
variable {K : PySem.W.Frag} {σ : L2.St} {H : Hp} {ta tb tc te : TE} {x y z : V}
theorem ev_chain {r r' : R2} {b1 b2 : Bool} (ha : Ev ta σ H x) (hb : Ev tb σ H y) (h1 : RV r x y H (.bl b1)) (hc : Ev tc σ H z) (h2 : RV r' y z H (.bl b2)) : Ev (tChain r r' ta tb tc) σ H (.bl (b1 && b2)) := fun H1 e1 Q q =>
  ha H1 e1 _ fun H2 e2 => hb H2 (e1.trans e2) _ fun H3 e3 => h1 H3 ((e1.trans e2).trans e3) _ fun H4 e4 => ⟨b1, rfl, by
    have e14 := (e2.trans e3).trans e4
    cases b1 with
    | true =>
      show tc σ H4 _
      exact hc H4 (e1.trans e14) _ fun H5 e5 => h2 H5 ((e1.trans e14).trans e5) _ fun H6 e6 => q H6 ((e14.trans e5).trans e6)
    | false => exact q H4 e14⟩
theorem erase_perm {α : Type} {xs : List α} {d : Nat} (h : d < xs.length) : (xs[d] :: xs.eraseIdx d).Perm xs := by
  rw [List.eraseIdx_eq_take_drop_succ]
  have e : xs = xs.take d ++ xs[d] :: xs.drop (d + 1) := by
    rw [List.getElem_cons_drop, List.take_append_drop]
  conv => rhs; rw [e]
  exact List.perm_middle.symm
/-- the signs of a text's value -/
def unT : V → Tx
  | .str x => x.cps.toList
  | _ => []
theorem map_unT (xs : List Tx) : (xs.map T).map unT = xs := by
  rw [List.map_map]
  conv => rhs; rw [← List.map_id xs]
  rfl
theorem perm_texts {ys : List V} {xs : List Tx} (h : ys.Perm (xs.map T)) : ∃ zs : List Tx, ys = zs.map T ∧ zs.Perm xs := by
  obtain ⟨zs, rfl, _⟩ := texts_of (acc := ys) (g := fun _ => True) fun v hv => by
    obtain ⟨t, _, rfl⟩ := List.mem_map.mp (h.mem_iff.mp hv)
    exact ⟨t, rfl, trivial⟩
  have := h.map unT
  rw [map_unT, map_unT] at this
  exact ⟨zs, rfl, this⟩
theorem seqIx_nat {d n : Nat} (h : d < n) : seqIndex? (d : Int) n = some d := by
  have : ¬ (d : Int) < 0 := by omega
  unfold seqIndex?
  simp [this, h]
/-- lists put behind one another: both new | the first stands -/
theorem el_catNN {xs ys : List V} (ha : EvL ta σ H xs) (hb : EvL tb σ H ys) (hz : xs.length + ys.length ≤ 100000) : EvL (tOp rCat ta tb) σ H (xs ++ ys) := fun H1 e1 Q q =>
  ha H1 e1 _ fun p H2 hp e2 h2 => hb H2 (e1.trans e2) _ fun r H3 hr e3 h3 => ⟨p, r, xs, ys, rfl, rfl, e3 _ _ h2, h3, sz_of hz, fun n hn => q n _ (fresh_back (e2.trans e3) hn) ((e2.trans e3).trans (Ex.new hn)) upd_same⟩
theorem el_catVN {p : Addr} {xs ys : List V} (ha : Ev ta σ H (.ref p)) (hp : H p = some (.lst xs)) (hb : EvL tb σ H ys) (hz : xs.length + ys.length ≤ 100000) : EvL (tOp rCat ta tb) σ H (xs ++ ys) := fun H1 e1 Q q =>
  ha H1 e1 _ fun H2 e2 => hb H2 (e1.trans e2) _ fun r H3 hr e3 h3 => ⟨p, r, xs, ys, rfl, rfl, ((e1.trans e2).trans e3) _ _ hp, h3, sz_of hz, fun n hn => q n _ (fresh_back (e2.trans e3) hn) ((e2.trans e3).trans (Ex.new hn)) upd_same⟩
theorem ev_lenU {p : Addr} {xs : List V} (h : Ev ta σ H (.ref p)) (hp : SqT K H p xs) : Ev (tCB (rLenS K) (tCons ta tNil)) σ H (.int (xs.length : Int)) := fun H1 e Q q => h H1 e _ fun H2 e2 => ⟨p, xs, rfl, .inr (ex_t (e.trans e2) hp), q H2 e2⟩
end
end Wt
set_option Elab.async false
set_option linter.all false
set_option maxRecDepth 100000
set_option maxHeartbeats 2000000
/-! comprehensions of so many turns as are drawn -/
namespace Wt
open PySem PySem.Spec PyProof.Rows L2 Evl Wc
section
variable {K : PySem.W.Frag} {fa : Addr} {σ : L2.St} {H : Hp} {te te0 : TE}
theorem lcRD {j : Nat} {vs : List Nat} {lo N c m0 : Nat} (good : V → Prop) (hc : Dw fa σ m0 te0 (GdI (lo : Int) (N : Int))) (hN : N ≤ 1000) (G : GF fa (m0 + N * c) H) (hw : ∀ x, wipe ((wipe σ vs).set j (some x)) vs = wipe σ vs)
    (he : ∀ x n H1, Rf fa n H H1 → GF fa c H1 → ∀ Q' : VK, (∀ y H2, good y → Rf fa c H1 H2 → Q' y H2) → te ((wipe σ vs).set j (some x)) H1 Q') (Q : VK)
    (k : ∀ p H2 acc, H p = none → Rf fa (m0 + N * c) H H2 → H2 p = some (.lst acc) → lo ≤ acc.length → acc.length ≤ N → (∀ v ∈ acc, good v) → Q (.ref p) H2) : tLc (iRng1 (tCons te0 tNil)) (gName j) tYes te vs σ H Q :=
  hc H (G.mono (by omega)) _ fun v H1 ⟨n, hv, h0, h1⟩ R1 => by
    obtain ⟨n, rfl⟩ := Int.eq_ofNat_of_zero_le (show 0 ≤ n by omega)
    subst hv
    have hn : n ≤ N := by omega
    have hnc : n * c ≤ N * c := Nat.mul_le_mul_right c hn
    have G1 : GF fa (N * c) H1 := G.go R1 (by omega)
    have h : tLc (iRng1 fun _ H' Q' => Q' [.int (n : Int)] H') (gName j) tYes te vs σ H1 Q := by
      refine lcD good c G1.is (src_range1 (n := n) (fun H2 e2 Q2 q => q H2 (Ex.refl _)) (by omega)) (fun z => z) (by omega) hw (fun i x H2 hi _ R2 Q2 q2 => ?_) fun p H2 acc hp R2 h2 hl hg => k p H2 acc (R1.free G.is hp G1.is) ((R1.trans R2).mono (by omega)) h2 (by omega) (by omega) hg
      have hic : i * c + c ≤ N * c := by
        have := Nat.mul_le_mul_right c (show i + 1 ≤ N by omega)
        rw [Nat.succ_mul] at this
        exact this
      exact he x _ H2 (R1.trans R2) (G1.go R2 hic) Q2 q2
    exact h
/-- over a standing list of texts, with a test that draws; what is kept is of the list -/
theorem texts_GdT {acc : List V} {ok : Nat → Prop} {lo n : Nat} (h : ∀ v ∈ acc, GdT ok lo n v) : ∃ ws : List Tx, acc = ws.map T ∧ ∀ t ∈ ws, lo ≤ t.length ∧ t.length ≤ n ∧ ∀ c ∈ t, ok c := texts_of fun v hv => by
  obtain ⟨s, rfl, h1, h2, h3⟩ := h v hv
  exact ⟨s, rfl, h1, h2, h3⟩
theorem dI_sub {ta tb : TE} {m1 m2 : Nat} {a b c d : Int} (h1 : Dw fa σ m1 ta (GdI a b)) (h2 : Dw fa σ m2 tb (GdI c d)) : Dw fa σ (m1 + m2) (tOp (rI0 fun i j => .int (i - j)) ta tb) (GdI (a - d) (b - c)) := dw_op h1 h2 fun x y ⟨i, hi, h3, h4⟩ ⟨j, hj, h5, h6⟩ => ⟨.int (i - j), ⟨i - j, rfl, by omega, by omega⟩, fun H Q q => ⟨i, j, hi, hj, q⟩⟩
theorem dI_wk {m : Nat} {a b c d : Int} (h : Dw fa σ m te (GdI a b)) (h1 : c ≤ a := by omega) (h2 : b ≤ d := by omega) : Dw fa σ m te (GdI c d) := dw_as h fun v ⟨i, hi, h3, h4⟩ => ⟨i, hi, by omega, by omega⟩
theorem dT_wk {m : Nat} {ok : Nat → Prop} {a b c d : Nat} (h : Dw fa σ m te (GdT ok a b)) (h1 : c ≤ a := by omega) (h2 : b ≤ d := by omega) : Dw fa σ m te (GdT ok c d) := dw_as h fun v ⟨i, hi, h3, h4, h5⟩ => ⟨i, hi, by omega, by omega, h5⟩
/-- one of displayed numbers -/
theorem dI_oneL {i : Nat} {ns : List Int} {lo hi : Int} (h0 : σ[i]? = some (some (.ref fa))) (h : ∀ H, EvL te σ H (ns.map V.int)) (hg : ∀ n ∈ ns, lo ≤ n ∧ n ≤ hi) (hs : ns ≠ []) (hl : ns.length ≤ 1000) : Dw fa σ 1 (tCall (sp_one K) [] E0 (tCons (tVar i) (tCons te tNil))) (GdI lo hi) :=
  dw_oneL h0 h (fun v hv => by
    obtain ⟨n, hn, rfl⟩ := List.mem_map.mp hv
    exact ⟨n, rfl, (hg n hn).1, (hg n hn).2⟩) (fun z => hs (List.map_eq_nil_iff.mp z)) (by rw [List.length_map]; omega)
/-- a list comprehension over a list, at which draws are made: test and step -/
theorem lcDT {wi : TI} {tt : TT} {j : Nat} {vs : List Nat} {n : Nat} {own : Addr → Prop} {P : Nat → V → Hp → Prop} {Q : VK} (good : V → Prop) (c : Nat) (hf : H fa ≠ none) (hs : Src wi σ H n own P) (ho : ¬ own fa) (hn : n ≤ 40000) (hw : ∀ x, wipe ((wipe σ vs).set j (some x)) vs = wipe σ vs)
    (ht : ∀ (i : Nat) (x : V) H1, i < n → P i x H1 → Rf fa (i * c) H H1 → ∀ Q' : Bool → Hp → Prop, (∀ b H2, Rf fa c H1 H2 → Q' b H2) → tt ((wipe σ vs).set j (some x)) H1 Q')
    (he : ∀ (i : Nat) (x : V) H0 H1, i < n → P i x H0 → Rf fa c H0 H1 → ∀ Q' : VK, (∀ y H2, good y → Ex H1 H2 → Q' y H2) → te ((wipe σ vs).set j (some x)) H1 Q')
    (k : ∀ p H2 acc, H p = none → Rf fa (n * c) H H2 → H2 p = some (.lst acc) → acc.length ≤ n → (∀ v ∈ acc, good v) → Q (.ref p) H2) : tLc wi (gName j) tt te vs σ H Q :=
  hs H (Ex.refl H) _ fun J H1 S e1 w hS => fun Dl hD => by
    have hDH : H Dl = none := fresh_back e1 hD
    have hne : Dl ≠ fa := fun z => hf (z ▸ hDH)
    have hf1 : H1 fa ≠ none := by
      cases hq : H fa with
      | none => exact absurd hq hf
      | some o => rw [e1 _ _ hq]; exact fun z => nomatch z
    refine lc_it w (Qd := fun H3 => Q (.ref Dl) H3) (fun i Hi => Rf fa (i * c) H1 Hi ∧ ∃ acc, Hi Dl = some (.lst acc) ∧ acc.length ≤ i ∧ ∀ v ∈ acc, good v) ?_ (fun i Hi hi p => hS (fun b => b = fa) Hi (by rintro b rfl; exact ⟨hf, ho⟩) p.1.keep) ?_ ?_
    · exact ⟨((Rf.refl H1).upd hD hf1).mono (Nat.zero_le _), [], upd_same, Nat.le_refl _, fun v hv => nomatch hv⟩
    · rintro i x Ha Hb hi ⟨R, acc, h1, h2, h3⟩ ⟨ey, hP⟩
      refine ⟨hw x, ?_⟩
      have Rb : Rf fa (i * c) H1 Hb := R.then ey
      refine ht i x Hb hi hP (Rf.pre e1 Rb) _ fun b H3 R3 => ?_
      have h13 : H3 Dl = some (.lst acc) := R3.at_ (ey _ _ h1) hne
      have Rc : Rf fa ((i + 1) * c) H1 H3 := (Rb.trans R3).mono (by rw [Nat.succ_mul]; exact Nat.le_refl _)
      cases b with
      | true =>
        show te ((wipe σ vs).set j (some x)) H3 fun y H4 => _
        refine he i x Hb H3 hi hP R3 _ fun y H4 hy e4 => ⟨acc, e4 _ _ h13, sz_lt (by omega), (Rc.then e4).upd hD hf1, acc ++ [y], upd_same, by rw [List.length_append]; exact Nat.succ_le_succ h2, fun v hv => ?_⟩
        rcases List.mem_append.mp hv with hv | hv
        · exact h3 v hv
        · rw [List.mem_singleton.mp hv]
          exact hy
      | false => exact ⟨Rc, acc, h13, Nat.le_succ_of_le h2, h3⟩
    · rintro H3 ⟨R, acc, h1, h2, h3⟩
      exact k Dl H3 acc hDH (Rf.pre e1 R) h1 h2 h3
/-- the list is the value of a reading -/
theorem lc_of {te0 : TE} {g : TG} {tt : TT} {vs : List Nat} {Q : VK} (h : te0 σ H fun v H1 => tLc (iList K (fun _ H' Q' => Q' v H')) g tt te vs σ H1 Q) : tLc (iList K te0) g tt te vs σ H Q := h
end
end Wt
set_option Elab.async false
set_option linter.all false
set_option maxRecDepth 100000
set_option maxHeartbeats 2000000
/-! enumerate(t), t a tuple -/
namespace Wt
open PySem PySem.Spec PyProof.Rows L2 Evl Wc
theorem meets_enum1 {v : Value} {o : Obj} {Hh : Heap → Prop} (B : Begins v o Hh) :
    Meets (Builtin.«enumerate.__new__» ⟨[.type "enumerate", v], []⟩) (fun _ R s => Hh s.heap ∧ R (.ok (.ret (.ref (s.heap.push o).objs.size))) { s with heap := (s.heap.push o).push { cls := .type "enumerate", data := .fields #[.none, .bool false, .ref s.heap.objs.size, rawInt 0, .none, .none] } }) :=
  .of_wp fun P w A R s h => by
    obtain ⟨hp, g, d, tk, os⟩ := s
    obtain ⟨h1, h2⟩ := h
    have hsub := sub_enumerate
    have begin_ : ∀ {A' : Around} {E : Value → Shared → Prop} {Q : Value → Shared → Prop}, Q (.ref hp.objs.size) ⟨hp.push o, g, d, tk, os⟩ → wpAny (model P w) A' (pyIter v) Q E ⟨hp, g, d, tk, os⟩ := fun q => B.iter P w _ _ ⟨hp, g, d, tk, os⟩ _ h1 q
    wp_walk
    refine wpAny_stack_any fun st => wpAny_pure ?_
    split
    · rename_i c _ _ _ _ _
      cases (c == Value.type "enumerate")
      · wp_walk using begin_
        exact ⟨_, rfl, h2⟩
      · wp_walk using begin_
        exact ⟨_, rfl, h2⟩
    · wp_walk using begin_
      exact ⟨_, rfl, h2⟩
section
variable {P : Program} {w : World} {A : Around} {E : Value → Shared → Prop} {s : Shared}
theorem call_enum1 {v : Value} {o : Obj} {Hh : Heap → Prop} {Q : Value → Shared → Prop} (B : Begins v o Hh) (h1 : Hh s.heap)
    (h : ∀ h', IsEnum h' (s.heap.objs.size + 1) s.heap.objs.size 0 .none → h'.get? s.heap.objs.size = some o → (∀ b o, s.heap.get? b = some o → h'.get? b = some o) → Q (.ref (s.heap.objs.size + 1)) { s with heap := h' }) :
    wpAny (model P w) A (call (.type "enumerate") [v]) Q E s := by
  refine callType_new F.called_enumerate (by decide) (F.typeCall_enumerate_1 _) (F.newCall_enumerate_1 _) (fun obj => F.args_object_init_2 obj _) F.entry_enumerate_new (meets_enum1 B) ⟨h1, ?_⟩
  have z : (s.heap.push o).objs.size = s.heap.objs.size + 1 := Heap.size_push ..
  show _ ∧ _
  rw [z]
  have he : IsEnum ((s.heap.push o).push { cls := .type "enumerate", data := .fields #[.none, .bool false, .ref s.heap.objs.size, rawInt 0, .none, .none] }) (s.heap.objs.size + 1) s.heap.objs.size 0 .none := by
    rw [← z]
    exact Heap.get?_push_size (s.heap.push o) rfl
  exact ⟨⟨_, he, rfl⟩, h _ he (Heap.get?_push_of_some _ (Heap.get?_push_size _ B.free)) fun b u x => Heap.get?_push_of_some _ (Heap.get?_push_of_some _ x)⟩
end
/-- the tuple at a, each item in a new pair with its number -/
def ItEt (K : PySem.W.Frag) (a : Addr) : It :=
  ⟨fun i H => ∃ (xs : List V) (x : V), SqT K H a xs ∧ xs[i]? = some x, fun i H v H' => ∃ T x, v = .ref T ∧ H T = none ∧ H' = upd H T (.tup [.int (i : Nat), x]) ∧ ∀ xs, SqT K H a xs → xs[i]? = some x, fun i H => ∃ xs : List V, SqT K H a xs ∧ xs.length ≤ i⟩
theorem turn_enumT {P : Program} {w : World} {K : PySem.W.Frag} {elts : List Expr} {kk : Nat} {tpos : Pos} (a e it : Addr) (hne : e ≠ it) (ha1 : a ≠ it) (ha2 : a ≠ e) :
    Turn P w K (.Tuple elts kk tpos) (ItEt K a) [e, it] e (fun i h => (∃ old, IsEnum h e it ((i : Nat) : Int) old) ∧ h.IsTupleIter it a i) where
  mem := List.mem_cons_self
  obj := fun i h st b hb => by
    obtain ⟨⟨old, he⟩, o, ho, hc, hd⟩ := st
    rcases List.mem_cons.mp hb with z | z
    · rw [z]
      exact ⟨_, he, fun v q => nomatch q⟩
    · rw [List.mem_singleton.mp z]
      exact ⟨o, ho, fun v q => by rw [hd] at q; cases q⟩
  keep := fun i h h' st k => let ⟨⟨old, he⟩, hi⟩ := st; ⟨⟨old, k e List.mem_cons_self _ he⟩, hi.at fun o q => k it (by simp) o q⟩
  item := by
    intro X hP hw hK hc i pins s σ H E I hf st hg
    subst hP hw hK
    obtain ⟨⟨old, he⟩, hit⟩ := st
    obtain ⟨xs, x, hq, hx⟩ := hg
    obtain ⟨its, rv, p, hz⟩ := I.tuple hq
    obtain ⟨u, hu, ru⟩ := rv.get hx
    have le : e < s.heap.objs.size := Heap.lt_size he
    have li : it < s.heap.objs.size := by obtain ⟨_, q, _⟩ := hit; exact Heap.lt_size q
    have hlt : i < its.toArray.size := by
      rw [List.size_toArray]
      exact (List.getElem?_eq_some_iff.mp hu).1
    have D := Draws.tuple (prog := X.prog) (w := X.w) (A := X.A.in1) (I.ok.hd hc) it a ha1 its.toArray
    refine wpAny_pyNext_enum_itemD D he ⟨hit, p⟩ hlt hne (by simp [hne, ha2.symm]) fun y h' tk hP2 ho hst hT hsz hk => ?_
    have hyu : y = u := by
      have e1 : its.toArray[i]? = some u := by simpa using hu
      rw [e1] at hP2
      exact (Option.some.inj hP2).symm
    subst hyu
    refine ⟨_, rfl, wpAny_letOwnedTupleGo_enum (s := { s with heap := h', toks := tk + 1 }) ho fun h2 he2 sb => ?_⟩
    have hT2 : h2.get? s.heap.objs.size = some { cls := .type "tuple", data := .seq #[.int i tk, y] } := (sb.2 _ (Nat.ne_of_gt le)).trans hT
    have new : ObjOk X.prog X.w (upd H s.heap.objs.size (.tup [.int (i : Nat), x])) h2 s.heap.objs.size (.tup [.int (i : Nat), x]) := ⟨by show 2 ≤ sizeLine; decide, [.int i tk, y], .cons ⟨_, rfl⟩ (.cons ru .nil), ⟨_, hT2, rfl, _, rfl⟩⟩
    have I1 : Inv X pins σ (upd H s.heap.objs.size (.tup [.int (i : Nat), x])) { s with heap := h2, toks := tk + 1 } :=
      I.turnedNew (ch := [e, it]) (fun b ob hb q => (sb.2 b (fun z => hb (by simp [z]))).trans (hk b ob (fun z => hb (by simp [z])) (fun z => hb (by simp [z])) q)) hf (Nat.le_refl _) new
    refine ⟨.ref s.heap.objs.size, _, I1, rfl, ⟨_, x, rfl, I.hok.fresh (Nat.le_refl _), rfl, fun ys hy => by rw [I.tuple_inj hy hq]; exact hx⟩, ⟨⟨y, ?_⟩, hst.1.at fun o q => (sb.2 it (Ne.symm hne)).trans q⟩, fun b hb => ?_⟩
    · rw [show ((i + 1 : Nat) : Int) = (i : Int) + 1 by omega]
      exact he2
    · have lb : b < s.heap.objs.size := by
        rcases List.mem_cons.mp hb with z | z
        · rw [z]; exact le
        · rw [List.mem_singleton.mp z]; exact li
      rw [upd_ne (Nat.ne_of_lt lb)]
      exact (hf b hb).1
  done := by
    intro X hP hw hK hc i pins s σ H E I hf st hg
    subst hP hw hK
    obtain ⟨⟨old, he⟩, hit⟩ := st
    obtain ⟨xs, hq, hx⟩ := hg
    obtain ⟨its, rv, p, hz⟩ := I.tuple hq
    obtain ⟨f0, f1, f2, f3, f4, f5⟩ := hf it (by simp)
    have hl := rv.length
    have none_ : its.toArray[i]? = none := by simp; omega
    have D : Draws X.prog X.w X.A.in1 it [it, a] 0 (fun _ _ => False) (fun _ h => h.IsTupleIter it a i ∧ h.IsTuple a its.toArray) := ⟨fun _ _ st => let ⟨o, ho, _⟩ := st.1; ⟨o, ho⟩, fun _ _ _ st k => ⟨st.1.at fun o q => k it (by simp) o q, st.2.at fun o q => k a (by simp) o q⟩, fun _ _ _ _ z => absurd z (Nat.not_lt_zero _), fun s Q E st hE => wpAny_nextOf_tuple_end (I.ok.hd hc) st.1 st.2 none_ hE⟩
    exact wpAny_pyNext_enum_endD D he ⟨hit, p⟩ fun h' eb => ⟨rfl, I.turned (t' := s.toks) (fun b o hb q => eb b o hb q) f0 f1 f3 f4 f5⟩
  self := fun A i s Q E st h => let ⟨⟨_, he⟩, _⟩ := st; wpAny_pyIter_enum he h
def iEnumT (K : PySem.W.Frag) (ta : TA) : TI := fun σ H R => ta σ H fun vs H1 => ∃ a xs, vs = [.ref a] ∧ SqT K H1 a xs ∧ R (ItEt K a) H1
theorem pi_enumT {X : Cx} {e : Expr} {ta : TA} {p pos tpos : Pos} {elts : List Expr} {kk : Nat} (hg : Gl X "enumerate") (hm : X.mg "enumerate" = none) (ha : PA X [e] ta) (hs : starEach [e] X.env = [(false, eval e X.env)] := by rfl) : PI X (.Tuple elts kk tpos) (.Call (.Name "enumerate" p) [e] [] pos) (iEnumT X.K ta) := by
  refine ⟨fun pins s σ H R I h => Call_ (ld_blt I hg hm boot_enumerate (PyProof.Rows.callWith_type1 (thn (ha.run pos pins s σ H _ I h) fun us s1 ⟨vs, H1, I1, r1, q1⟩ => ?_) hs rfl))⟩
  obtain ⟨a, xs, ex, hq, q⟩ := q1
  subst ex
  obtain rfl := Vals.ref1 r1
  obtain ⟨its, rv, pt, hz⟩ := I1.tuple hq
  have la : a < s1.heap.objs.size := by obtain ⟨o, ho, _⟩ := pt; exact Heap.lt_size ho
  refine call_enum1 (begins_tuple a its.toArray) pt fun h' he hi hk => wpAny_pyIter_enum he ?_
  have I2 : Inv X pins σ H1 { s1 with heap := h' } := I1.kept (t' := s1.toks) hk
  refine ⟨s1.heap.objs.size + 1, [s1.heap.objs.size + 1, s1.heap.objs.size], _, _, H1, rfl, I2, turn_enumT a (s1.heap.objs.size + 1) s1.heap.objs.size (Nat.succ_ne_self _) (Nat.ne_of_lt la) (Nat.ne_of_lt (Nat.lt_succ_of_lt la)), ⟨⟨.none, he⟩, ⟨_, hi, rfl, rfl⟩⟩, fun b hb => ?_, q⟩
  have hle : s1.heap.objs.size ≤ b := by
    rcases List.mem_cons.mp hb with z | z
    · rw [z]; exact Nat.le_succ _
    · rw [List.mem_singleton.mp z]; exact Nat.le_refl _
  exact I1.fpOk hle (I1.hok.fresh hle)
section
variable {K : PySem.W.Frag} {σ : L2.St} {H : Hp}
theorem walk_enumT {a : Addr} {xs : List V} : Walk (ItEt K a) xs.length (fun H => SqT K H a xs) (YPair (fun i => some (.int (i : Nat))) (fun i => xs[i]?)) := by
  refine ⟨fun i _ hi q => ⟨xs, xs[i], q, by simp [hi]⟩, fun _ q => ⟨xs, q, Nat.le_refl _⟩, fun i H v H' _ q y => ?_⟩
  obtain ⟨t, x, y1, y2, y3, y4⟩ := y
  exact ⟨t, .int (i : Nat), x, y1, y2, y3, rfl, y4 xs q⟩
theorem src_enumT {a : Addr} {xs : List V} {tl : TE} (h : Ev tl σ H (.ref a)) (hs : SqT K H a xs) : Src (iEnumT K (tCons tl tNil)) σ H xs.length (fun b => b = a) (fun i v Hb => ∃ p x, v = .ref p ∧ xs[i]? = some x ∧ Hb p = some (.tup [.int (i : Nat), x])) := fun H1 e R q =>
  h H1 e _ fun H2 e2 => ⟨a, xs, rfl, ex_t (e.trans e2) hs, q _ H2 _ e2 (walk_enumT.mono (fun _ z => z) fun i Ha v Hb _ _ hy => by
    obtain ⟨p, y, x, rfl, hn, rfl, h1, h2⟩ := hy
    refine ⟨Ex.new hn, p, x, rfl, h2, ?_⟩
    rw [← Option.some.inj h1]
    exact upd_same) fun B Ha hB ea => ea.tp (fun z => (hB a z).2 rfl) (ex_t (e.trans e2) hs)⟩
theorem kiet {X : Cx} (K : PySem.W.Frag) {tg it : Expr} {ta : TA} (h : PI X tg it (iEnumT X.K ta)) (hK : X.K = K := by rfl) : PI X tg it (iEnumT K ta) := hK ▸ h
theorem kiza {X : Cx} (K : PySem.W.Frag) {tg it : Expr} {ta : TA} (h : PI X tg it (RZ.iZipA X.K ta)) (hK : X.K = K := by rfl) : PI X tg it (RZ.iZipA K ta) := hK ▸ h
theorem kfl {X : Cx} (K : PySem.W.Frag) {e : Expr} {ta : TE} {f : Str} (h : PE X e (tFld X.K ta f)) (hK : X.K = K := by rfl) : PE X e (tFld K ta f) := hK ▸ h
theorem walk_zipT {a b : Addr} {xs ys : List V} {n : Nat} (hn : n = min xs.length ys.length) : Walk (RZ.ItzT K a b) n (fun H => SqT K H a xs ∧ SqT K H b ys) (YPair (fun i => xs[i]?) (fun i => ys[i]?)) := by
  subst hn
  refine ⟨fun i _ hi q => ⟨xs, ys, xs[i]'(by omega), ys[i]'(by omega), q.1, q.2, by simp [show i < xs.length by omega], by simp [show i < ys.length by omega]⟩, fun _ q => ⟨xs, ys, q.1, q.2, by omega⟩, fun i H v H' _ q y => ?_⟩
  obtain ⟨t, x, z, y1, y2, y3, y4, y5⟩ := y
  exact ⟨t, x, z, y1, y2, y3, y4 xs q.1, y5 ys q.2⟩
theorem src_zipT {a : Addr} {xs ys : List V} {n : Nat} {tl tr : TE} (h : Ev tl σ H (.ref a)) (h2 : EvU tr σ H ys) (hs : SqT K H a xs) (hn : n = min xs.length ys.length) :
    Src (RZ.iZipA K (tCons tl (tCons tr tNil))) σ H n (fun c => c = a ∨ H c = none) (fun i v Hb => ∃ p x y, v = .ref p ∧ xs[i]? = some x ∧ ys[i]? = some y ∧ Hb p = some (.tup [x, y])) := fun H1 e R q =>
  h H1 e _ fun H2 e2 => h2 H2 (e.trans e2) _ fun b H3 hb e3 hb3 => ⟨a, b, xs, ys, rfl, .inr ⟨ex_t ((e.trans e2).trans e3) hs, st_of hb3, q _ H3 _ (e2.trans e3) ((walk_zipT hn).mono (fun _ z => z) fun i Ha v Hb _ _ hy => by
    obtain ⟨p, x, y, rfl, hf, rfl, h1, h2⟩ := hy
    exact ⟨Ex.new hf, p, x, y, rfl, h1, h2, upd_same⟩) fun B Ha hB ea => ⟨ea.tp (fun z => (hB a z).2 (.inl rfl)) (ex_t ((e.trans e2).trans e3) hs), ea.tp (fun z => (hB b z).2 (.inr (fresh_back (e.trans e2) hb))) (st_of hb3)⟩⟩⟩
end
end Wt
set_option Elab.async false
set_option linter.all false
set_option maxRecDepth 100000
set_option maxHeartbeats 2000000
namespace K01
open PySem PySem.Spec PyProof.Rows L2 Evl Wc
def topS (i : Nat) : Stmt := PySem.Challenge.pw_wordscut_k01_whole_lots_and_single_texts.main.body.getD i (.Pass ⟨0, 0, 0, 0⟩)
abbrev st_is_integer : Stmt := topS 11
abbrev st_is_within : Stmt := topS 12
abbrev st_are_signs : Stmt := topS 13
abbrev st_is_text : Stmt := topS 14
abbrev st_need_text : Stmt := topS 15
abbrev st_need_some_text : Stmt := topS 16
abbrev st_is_word : Stmt := topS 17
abbrev st_is_ascending : Stmt := topS 18
abbrev st_is_lot_form : Stmt := topS 19
abbrev st_need_lot : Stmt := topS 20
abbrev st_need_few_signs : Stmt := topS 21
abbrev st_border_lengths : Stmt := topS 23
abbrev st_root_in : Stmt := topS 24
abbrev st_turns_in : Stmt := topS 25
abbrev st_lyndon_parts : Stmt := topS 26
abbrev st_is_lot : Stmt := topS 29
abbrev st_signs_of : Stmt := topS 30
abbrev st_longest : Stmt := topS 31
abbrev st_are_indexes : Stmt := topS 32
abbrev st_need_indexes : Stmt := topS 33
abbrev st_put_together : Stmt := topS 34
abbrev st_borders : Stmt := topS 35
abbrev st_periods : Stmt := topS 36
abbrev st_root_of : Stmt := topS 37
abbrev st_is_primitive : Stmt := topS 38
abbrev st_turns_of : Stmt := topS 39
abbrev st_least_turn : Stmt := topS 40
abbrev st_lyndon : Stmt := topS 41
abbrev st__law_feed : Stmt := topS 43
abbrev st__law_draw : Stmt := topS 44
abbrev st__law_one : Stmt := topS 45
abbrev st__law_mixed : Stmt := topS 46
abbrev st__law_text : Stmt := topS 47
abbrev st__law_kept : Stmt := topS 48
abbrev st__law_split : Stmt := topS 49
abbrev st__law_joined : Stmt := topS 50
abbrev st__law_made : Stmt := topS 51
abbrev st__law_code : Stmt := topS 52
abbrev st__law_lot : Stmt := topS 53
abbrev st__law_put : Stmt := topS 54
abbrev st__law_near_text : Stmt := topS 55
abbrev st__law_so : Stmt := topS 56
abbrev st__law_is : Stmt := topS 57
abbrev st__law_list : Stmt := topS 58
abbrev st__law_is_right : Stmt := topS 59
abbrev st__law_near : Stmt := topS 60
abbrev st__law_grown : Stmt := topS 61
abbrev st__law_borders : Stmt := topS 62
abbrev st__law_periods : Stmt := topS 63
abbrev st__law_turns : Stmt := topS 64
abbrev st__law_is_lyndon : Stmt := topS 65
abbrev st__law_text_right : Stmt := topS 66
abbrev st__law_told : Stmt := topS 67
abbrev st__law_together : Stmt := topS 68
abbrev st__law_right : Stmt := topS 69
abbrev st_law : Stmt := topS 70
/-- what the top has left of names that are no defs -/
structure Md (K : PySem.W.Frag) (mg : Str → Option Value) : Prop where
  n_ValueError : mg "ValueError" = none
  n_all : mg "all" = none
  n_bool : mg "bool" = none
  n_int : mg "int" = none
  n_isinstance : mg "isinstance" = none
  n_len : mg "len" = none
  n_list : mg "list" = none
  n_max : mg "max" = none
  n_min : mg "min" = none
  n_range : mg "range" = none
  n_repr : mg "repr" = none
  n_set : mg "set" = none
  n_sorted : mg "sorted" = none
  n_str : mg "str" = none
  n_sum : mg "sum" = none
  n_tuple : mg "tuple" = none
  n_zip : mg "zip" = none
  c_SIGNS : ∃ t, mg "SIGNS" = some (.str (Str.ofString "abcd") t)
  c_MOST_SIGNS : ∃ t, mg "MOST_SIGNS" = some (.int 400 t)
  c_MOST_LETTERS : ∃ t, mg "MOST_LETTERS" = some (.int 12 t)
  c_MOST_WORDS : ∃ t, mg "MOST_WORDS" = some (.int 12 t)
  c_MOST_INDEXES : ∃ t, mg "MOST_INDEXES" = some (.int 400 t)
abbrev N_is_integer : List Str := ["thing"]
theorem sc_is_integer : FnScope N_is_integer ["thing"] (defScope st_is_integer) := ⟨rfl, rfl, rfl, by decide +kernel, rfl, by decide +kernel, by decide +kernel⟩
abbrev N_is_within : List Str := ["thing", "least", "most"]
theorem sc_is_within : FnScope N_is_within ["thing", "least", "most"] (defScope st_is_within) := ⟨rfl, rfl, rfl, by decide +kernel, rfl, by decide +kernel, by decide +kernel⟩
abbrev N_are_signs : List Str := ["thing", "most", "sign"]
theorem sc_are_signs : FnScope N_are_signs ["thing", "most"] (defScope st_are_signs) := ⟨rfl, rfl, rfl, by decide +kernel, rfl, by decide +kernel, by decide +kernel⟩
abbrev N_is_text : List Str := ["thing"]
theorem sc_is_text : FnScope N_is_text ["thing"] (defScope st_is_text) := ⟨rfl, rfl, rfl, by decide +kernel, rfl, by decide +kernel, by decide +kernel⟩
abbrev N_need_text : List Str := ["text"]
theorem sc_need_text : FnScope N_need_text ["text"] (defScope st_need_text) := ⟨rfl, rfl, rfl, by decide +kernel, rfl, by decide +kernel, by decide +kernel⟩
abbrev N_need_some_text : List Str := ["text"]
theorem sc_need_some_text : FnScope N_need_some_text ["text"] (defScope st_need_some_text) := ⟨rfl, rfl, rfl, by decide +kernel, rfl, by decide +kernel, by decide +kernel⟩
abbrev N_is_word : List Str := ["thing"]
theorem sc_is_word : FnScope N_is_word ["thing"] (defScope st_is_word) := ⟨rfl, rfl, rfl, by decide +kernel, rfl, by decide +kernel, by decide +kernel⟩
abbrev N_is_ascending : List Str := ["things", "one", "other"]
theorem sc_is_ascending : FnScope N_is_ascending ["things"] (defScope st_is_ascending) := ⟨rfl, rfl, rfl, by decide +kernel, rfl, by decide +kernel, by decide +kernel⟩
abbrev N_is_lot_form : List Str := ["thing", "word"]
theorem sc_is_lot_form : FnScope N_is_lot_form ["thing"] (defScope st_is_lot_form) := ⟨rfl, rfl, rfl, by decide +kernel, rfl, by decide +kernel, by decide +kernel⟩
abbrev N_need_lot : List Str := ["lot"]
theorem sc_need_lot : FnScope N_need_lot ["lot"] (defScope st_need_lot) := ⟨rfl, rfl, rfl, by decide +kernel, rfl, by decide +kernel, by decide +kernel⟩
abbrev N_need_few_signs : List Str := ["text"]
theorem sc_need_few_signs : FnScope N_need_few_signs ["text"] (defScope st_need_few_signs) := ⟨rfl, rfl, rfl, by decide +kernel, rfl, by decide +kernel, by decide +kernel⟩
abbrev N_border_lengths : List Str := ["text", "many"]
theorem sc_border_lengths : FnScope N_border_lengths ["text"] (defScope st_border_lengths) := ⟨rfl, rfl, rfl, by decide +kernel, rfl, by decide +kernel, by decide +kernel⟩
abbrev N_root_in : List Str := ["text", "many"]
theorem sc_root_in : FnScope N_root_in ["text"] (defScope st_root_in) := ⟨rfl, rfl, rfl, by decide +kernel, rfl, by decide +kernel, by decide +kernel⟩
abbrev N_turns_in : List Str := ["text", "many"]
theorem sc_turns_in : FnScope N_turns_in ["text"] (defScope st_turns_in) := ⟨rfl, rfl, rfl, by decide +kernel, rfl, by decide +kernel, by decide +kernel⟩
abbrev N_lyndon_parts : List Str := ["text", "found", "start", "ahead", "back"]
theorem sc_lyndon_parts : FnScope N_lyndon_parts ["text"] (defScope st_lyndon_parts) := ⟨rfl, rfl, rfl, by decide +kernel, rfl, by decide +kernel, by decide +kernel⟩
abbrev N_is_lot : List Str := ["thing"]
theorem sc_is_lot : FnScope N_is_lot ["thing"] (defScope st_is_lot) := ⟨rfl, rfl, rfl, by decide +kernel, rfl, by decide +kernel, by decide +kernel⟩
abbrev N_signs_of : List Str := ["lot"]
theorem sc_signs_of : FnScope N_signs_of ["lot"] (defScope st_signs_of) := ⟨rfl, rfl, rfl, by decide +kernel, rfl, by decide +kernel, by decide +kernel⟩
abbrev N_longest : List Str := ["lot", "word"]
theorem sc_longest : FnScope N_longest ["lot"] (defScope st_longest) := ⟨rfl, rfl, rfl, by decide +kernel, rfl, by decide +kernel, by decide +kernel⟩
abbrev N_are_indexes : List Str := ["lot", "thing", "index"]
theorem sc_are_indexes : FnScope N_are_indexes ["lot", "thing"] (defScope st_are_indexes) := ⟨rfl, rfl, rfl, by decide +kernel, rfl, by decide +kernel, by decide +kernel⟩
abbrev N_need_indexes : List Str := ["lot", "indexes"]
theorem sc_need_indexes : FnScope N_need_indexes ["lot", "indexes"] (defScope st_need_indexes) := ⟨rfl, rfl, rfl, by decide +kernel, rfl, by decide +kernel, by decide +kernel⟩
abbrev N_put_together : List Str := ["lot", "indexes", "index"]
theorem sc_put_together : FnScope N_put_together ["lot", "indexes"] (defScope st_put_together) := ⟨rfl, rfl, rfl, by decide +kernel, rfl, by decide +kernel, by decide +kernel⟩
abbrev N_borders : List Str := ["text"]
theorem sc_borders : FnScope N_borders ["text"] (defScope st_borders) := ⟨rfl, rfl, rfl, by decide +kernel, rfl, by decide +kernel, by decide +kernel⟩
abbrev N_periods : List Str := ["text", "found", "many"]
theorem sc_periods : FnScope N_periods ["text"] (defScope st_periods) := ⟨rfl, rfl, rfl, by decide +kernel, rfl, by decide +kernel, by decide +kernel⟩
abbrev N_root_of : List Str := ["text"]
theorem sc_root_of : FnScope N_root_of ["text"] (defScope st_root_of) := ⟨rfl, rfl, rfl, by decide +kernel, rfl, by decide +kernel, by decide +kernel⟩
abbrev N_is_primitive : List Str := ["text"]
theorem sc_is_primitive : FnScope N_is_primitive ["text"] (defScope st_is_primitive) := ⟨rfl, rfl, rfl, by decide +kernel, rfl, by decide +kernel, by decide +kernel⟩
abbrev N_turns_of : List Str := ["text"]
theorem sc_turns_of : FnScope N_turns_of ["text"] (defScope st_turns_of) := ⟨rfl, rfl, rfl, by decide +kernel, rfl, by decide +kernel, by decide +kernel⟩
abbrev N_least_turn : List Str := ["text"]
theorem sc_least_turn : FnScope N_least_turn ["text"] (defScope st_least_turn) := ⟨rfl, rfl, rfl, by decide +kernel, rfl, by decide +kernel, by decide +kernel⟩
abbrev N_lyndon : List Str := ["text"]
theorem sc_lyndon : FnScope N_lyndon ["text"] (defScope st_lyndon) := ⟨rfl, rfl, rfl, by decide +kernel, rfl, by decide +kernel, by decide +kernel⟩
abbrev N__law_feed : List Str := ["script", "k", "cell"]
theorem sc__law_feed : FnScope N__law_feed ["script", "k"] (defScope st__law_feed) := ⟨rfl, rfl, rfl, by decide +kernel, rfl, by decide +kernel, by decide +kernel⟩
abbrev N__law_draw : List Str := ["feed", "many", "rest", "got", "stir"]
theorem sc__law_draw : FnScope N__law_draw ["feed", "many"] (defScope st__law_draw) := ⟨rfl, rfl, rfl, by decide +kernel, rfl, by decide +kernel, by decide +kernel⟩
abbrev N__law_one : List Str := ["feed", "things"]
theorem sc__law_one : FnScope N__law_one ["feed", "things"] (defScope st__law_one) := ⟨rfl, rfl, rfl, by decide +kernel, rfl, by decide +kernel, by decide +kernel⟩
abbrev N__law_mixed : List Str := ["feed", "things", "pool", "got", "turn"]
theorem sc__law_mixed : FnScope N__law_mixed ["feed", "things"] (defScope st__law_mixed) := ⟨rfl, rfl, rfl, by decide +kernel, rfl, by decide +kernel, by decide +kernel⟩
abbrev N__law_text : List Str := ["feed", "signs", "most", "turn"]
theorem sc__law_text : FnScope N__law_text ["feed", "signs", "most"] (defScope st__law_text) := ⟨rfl, rfl, rfl, by decide +kernel, rfl, by decide +kernel, by decide +kernel⟩
abbrev N__law_kept : List Str := ["feed", "words", "most", "good", "word", "some"]
theorem sc__law_kept : FnScope N__law_kept ["feed", "words", "most"] (defScope st__law_kept) := ⟨rfl, rfl, rfl, by decide +kernel, rfl, by decide +kernel, by decide +kernel⟩
abbrev N__law_split : List Str := ["feed", "signs", "turns", "words", "turn", "at", "sign"]
theorem sc__law_split : FnScope N__law_split ["feed", "signs", "turns"] (defScope st__law_split) := ⟨rfl, rfl, rfl, by decide +kernel, rfl, by decide +kernel, by decide +kernel⟩
abbrev N__law_joined : List Str := ["feed", "words", "turns", "turn", "one", "other", "way", "word"]
theorem sc__law_joined : FnScope N__law_joined ["feed", "words", "turns"] (defScope st__law_joined) := ⟨rfl, rfl, rfl, by decide +kernel, rfl, by decide +kernel, by decide +kernel⟩
abbrev N__law_made : List Str := ["feed", "code", "words", "made", "word", "sign"]
theorem sc__law_made : FnScope N__law_made ["feed", "code", "words"] (defScope st__law_made) := ⟨rfl, rfl, rfl, by decide +kernel, rfl, by decide +kernel, by decide +kernel⟩
abbrev N__law_code : List Str := ["feed", "some"]
theorem sc__law_code : FnScope N__law_code ["feed"] (defScope st__law_code) := ⟨rfl, rfl, rfl, by decide +kernel, rfl, by decide +kernel, by decide +kernel⟩
abbrev N__law_lot : List Str := ["feed", "most", "signs", "way", "long", "turn", "word", "root", "ends", "words", "place"]
theorem sc__law_lot : FnScope N__law_lot ["feed", "most"] (defScope st__law_lot) := ⟨rfl, rfl, rfl, by decide +kernel, rfl, by decide +kernel, by decide +kernel⟩
abbrev N__law_put : List Str := ["feed", "lot", "most", "turn"]
theorem sc__law_put : FnScope N__law_put ["feed", "lot", "most"] (defScope st__law_put) := ⟨rfl, rfl, rfl, by decide +kernel, rfl, by decide +kernel, by decide +kernel⟩
abbrev N__law_near_text : List Str := ["feed", "lot", "most", "text", "way", "at", "sign", "near"]
theorem sc__law_near_text : FnScope N__law_near_text ["feed", "lot", "most"] (defScope st__law_near_text) := ⟨rfl, rfl, rfl, by decide +kernel, rfl, by decide +kernel, by decide +kernel⟩
abbrev N__law_so : List Str := ["actual", "due"]
theorem sc__law_so : FnScope N__law_so ["actual", "due"] (defScope st__law_so) := ⟨rfl, rfl, rfl, by decide +kernel, rfl, by decide +kernel, by decide +kernel⟩
abbrev N__law_is : List Str := ["actual", "due"]
theorem sc__law_is : FnScope N__law_is ["actual", "due"] (defScope st__law_is) := ⟨rfl, rfl, rfl, by decide +kernel, rfl, by decide +kernel, by decide +kernel⟩
abbrev N__law_list : List Str := ["actual", "due", "part"]
theorem sc__law_list : FnScope N__law_list ["actual", "due"] (defScope st__law_list) := ⟨rfl, rfl, rfl, by decide +kernel, rfl, by decide +kernel, by decide +kernel⟩
abbrev N__law_is_right : List Str := ["thing", "word", "sign"]
theorem sc__law_is_right : FnScope N__law_is_right ["thing"] (defScope st__law_is_right) := ⟨rfl, rfl, rfl, by decide +kernel, rfl, by decide +kernel, by decide +kernel⟩
abbrev N__law_near : List Str := ["feed", "lot", "at", "word", "odd", "some", "every", "one", "other", "new"]
theorem sc__law_near : FnScope N__law_near ["feed", "lot"] (defScope st__law_near) := ⟨rfl, rfl, rfl, by decide +kernel, rfl, by decide +kernel, by decide +kernel⟩
abbrev N__law_grown : List Str := ["feed", "most", "signs", "way", "root", "whole", "made", "text", "letter", "turn", "sign"]
theorem sc__law_grown : FnScope N__law_grown ["feed", "most"] (defScope st__law_grown) := ⟨rfl, rfl, rfl, by decide +kernel, rfl, by decide +kernel, by decide +kernel⟩
abbrev N__law_borders : List Str := ["text", "fails", "found", "end", "many", "turn"]
theorem sc__law_borders : FnScope N__law_borders ["text"] (defScope st__law_borders) := ⟨rfl, rfl, rfl, by decide +kernel, rfl, by decide +kernel, by decide +kernel⟩
abbrev N__law_periods : List Str := ["text", "found", "step", "place"]
theorem sc__law_periods : FnScope N__law_periods ["text"] (defScope st__law_periods) := ⟨rfl, rfl, rfl, by decide +kernel, rfl, by decide +kernel, by decide +kernel⟩
abbrev N__law_turns : List Str := ["text", "turn", "found", "place"]
theorem sc__law_turns : FnScope N__law_turns ["text"] (defScope st__law_turns) := ⟨rfl, rfl, rfl, by decide +kernel, rfl, by decide +kernel, by decide +kernel⟩
abbrev N__law_is_lyndon : List Str := ["text", "thing", "part", "later", "place"]
theorem sc__law_is_lyndon : FnScope N__law_is_lyndon ["text", "thing"] (defScope st__law_is_lyndon) := ⟨rfl, rfl, rfl, by decide +kernel, rfl, by decide +kernel, by decide +kernel⟩
abbrev N__law_text_right : List Str := ["text", "found", "turns", "parts", "many", "root"]
theorem sc__law_text_right : FnScope N__law_text_right ["text"] (defScope st__law_text_right) := ⟨rfl, rfl, rfl, by decide +kernel, rfl, by decide +kernel, by decide +kernel⟩
abbrev N__law_told : List Str := ["lot", "indexes", "found", "error"]
theorem sc__law_told : FnScope N__law_told ["lot", "indexes"] (defScope st__law_told) := ⟨rfl, rfl, rfl, by decide +kernel, rfl, by decide +kernel, by decide +kernel⟩
abbrev N__law_together : List Str := ["feed", "lot", "long", "word", "turn", "indexes", "place", "row", "due", "held", "index", "found"]
theorem sc__law_together : FnScope N__law_together ["feed", "lot"] (defScope st__law_together) := ⟨rfl, rfl, rfl, by decide +kernel, rfl, by decide +kernel, by decide +kernel⟩
abbrev N__law_right : List Str := ["feed", "lot", "turn", "thing", "signs", "sign", "word"]
theorem sc__law_right : FnScope N__law_right ["feed"] (defScope st__law_right) := ⟨rfl, rfl, rfl, by decide +kernel, rfl, by decide +kernel, by decide +kernel⟩
abbrev N_law : List Str := ["script", "k"]
theorem sc_law : FnScope N_law ["script"] (defScope st_law) := ⟨rfl, rfl, rfl, by decide +kernel, rfl, by decide +kernel, by decide +kernel⟩
end K01
set_option Elab.async false
set_option linter.all false
set_option maxRecDepth 100000
set_option maxHeartbeats 2000000
set_option exponentiation.threshold 5000
namespace K01
open PySem PySem.Spec PyProof.Rows L2 Evl Wc
section
variable {P : Program} {w : World} {K : PySem.W.Frag} {mg : Str → Option Value} {base : Heap}
theorem ok__law_draw {f : Addr} {fd : FuncData} (F : Fun K "_law_draw" "_law_draw" st__law_draw f fd) (M : Md K mg) : FnOk P w K mg base CX0 1 f fd ["feed", "many"] sp_draw := by
  have nd := sc__law_draw.nd
  refine F.ok sc__law_draw (fun vs H Q E h => ?_) (fun cdv A outer s H vs Q E hr h => ?_)
  · obtain ⟨_, _, rfl, _⟩ := h
    rfl
  · obtain ⟨fa, many, rfl, ⟨n0, hn0, a, b, c, e, hfa, ha0, he1, he2, hae, hb0, hb1, hc0, hc1⟩, hm0, hm1, k⟩ := h
    refine ⟨_, (pss_cons (ps_if (pt_cmpR op_gt (pe_ix (kix K (r := L2.rIxL) ix_list) (pv 0) pe_int (fun _ _ => rfl)) pe_int (nomark _))
  (pss_cons (ps_set (i := 2) nd rfl (Or.inl rfl) (pe_op op_fdivW (pe_ix (kix K (r := L2.rIxL) ix_list) (pv 0) pe_int (fun _ _ => rfl)) (pv 1)))
  (pss_cons (ps_set (i := 3) nd rfl (Or.inl rfl) (pe_op op_sub (pe_ix (kix K (r := L2.rIxL) ix_list) (pv 0) pe_int (fun _ _ => rfl)) (pe_op op_mulB (pv 2) (pv 1))))
  (pss_cons (ps_asg (pv 2) (pg_sub (pv 0) pe_int set_list))
  (pss_one (ps_ret (pv 3))))))
  pss_nil)
  (pss_cons (ps_asg (pe_op op_add (pe_ix (kix K (r := L2.rIxL) ix_list) (pv 0) pe_int (fun _ _ => rfl)) pe_int) (pg_sub (pv 0) pe_int set_list))
  (pss_cons (ps_set (i := 4) nd rfl (Or.inl rfl) (pe_op op_add (pe_ix (kix K (r := L2.rIxL) ix_list) (pv 0) pe_int (fun _ _ => rfl)) (pe_op op_mulB pe_int (pe_ix (kix K (r := L2.rIxL) ix_list) (pv 0) pe_int (fun _ _ => rfl)))))
  (pss_cons (ps_set (i := 4) nd rfl (Or.inl rfl) (pe_op op_modP (pe_callTy call_int1 (by rfl) M.n_int boot_int (pa_cons (pe_op op_add (pe_op op_mulB (pe_op op_mulB (pv 4) (pv 4)) (pv 4)) (pe_op op_mulB pe_int (pe_ix (kix K (r := L2.rIxL) ix_list) (pv 0) pe_int (fun _ _ => rfl)))) pa_nil)) (pe_op op_add (pe_op op_pow pe_int pe_int) pe_int)))
  (pss_cons (ps_set (i := 4) nd rfl (Or.inl rfl) (pe_op op_modP (pe_callTy call_int1 (by rfl) M.n_int boot_int (pa_cons (pe_op op_add (pe_op op_mulB (pv 4) (pv 4)) pe_int) pa_nil)) (pe_op op_add (pe_op op_pow pe_int pe_int) pe_int)))
  (pss_one (ps_ret (pe_op op_modP (pe_callTy call_int1 (by rfl) M.n_int boot_int (pa_cons (pe_op op_fdivW (pv 4) (pe_op op_pow pe_int pe_int)) pa_nil)) (pv 1))))))))), ?_⟩
    have hcap : (n0 : Int) + 1 ≤ 1000000000000000000 := by
      have : n0 + 1 ≤ 1000000000000000000 := hn0
      omega
    have hmany : many.natAbs < 2 ^ 300 := Nat.lt_of_le_of_lt (show many.natAbs ≤ 10 ^ 61 by omega) (by decide)
    have hdm : CDivW a many := wide_div (b := 300) hm0 hmany (by decide) (by decide)
    have ge0 : ∀ H1, Ex H H1 → Ev (tOp (L2.rIxL K) (tVar 0) (tC (.int 0))) (start N__law_draw [.ref fa, .int many]) H1 (.int a) := fun H1 e1 => ev_op (ev_var rfl) ev_c (rv_ixL (sq_of (e1 _ _ hfa)) rfl)
    refine q_when (et_test (ev_op (ge0 H (Ex.refl _)) ev_c rv_I0)) (fun h1 H1 e1 => ?_) (fun h1 H1 e1 => ?_)
    · have hap : 0 < a := of_decide_eq_true h1
      refine q_asg (ev_op (ev_op (ev_var rfl) ev_c (rv_ixL (sq_of (e1 _ _ hfa)) rfl)) (ev_var rfl) (rv_I hdm)) fun H2 e2 => ?_
      have hr0 : 0 ≤ a / many := Int.ediv_nonneg ha0 (by omega)
      have hr1 : a / many ≤ a := Int.ediv_le_self _ ha0
      have hrn : (a / many).natAbs < 2 ^ e := Nat.lt_of_le_of_lt (by omega) hae
      have hg : a - a / many * many = a % many := by
        rw [Int.emod_def, Int.mul_comm]
      have hg0 : 0 ≤ a % many := Int.emod_nonneg _ (by omega)
      have hg1 : a % many < many := Int.emod_lt_of_pos _ hm0
      refine q_asg (v := .int (((a % many).toNat : Nat) : Int)) (ev_is (ev_op (ev_op (ev_var rfl) ev_c (rv_ixL (sq_of (e2 _ _ (e1 _ _ hfa))) rfl)) (ev_op (ev_var rfl) (ev_var rfl) (rv_I (mulB hrn hmany (by omega) (by decide) (by omega)))) rv_I0) (by rw [hg]; congr 1; omega)) fun H3 e3 => ?_
      have hf3 := e3 _ _ (e2 _ _ (e1 _ _ hfa))
      refine q_setL (j := 0) hf3 (ev_var rfl) (ev_var rfl) ev_c (by show 0 < 3; decide) fun H4 e4 => ?_
      refine s_ret (ev_var rfl) fun H5 e5 => k (a % many).toNat H5 (by omega) ⟨?_, fun n hn hF => ?_⟩
      · exact Exc.then (Exc.upd (B := fun c => c = fa) (Exc.of (((e1.trans e2).trans e3).trans e4)) (.inl rfl)) e5
      · obtain ⟨a', b', c', e', g1, g2, g3, g4, g5, g6, g7, g8, g9⟩ := hF
        rw [hfa] at g1
        injection g1 with g1
        injection g1 with g1
        injection g1 with x1 g1
        injection g1 with x2 g1
        injection g1 with x3 g1
        injection x1 with x1
        injection x2 with x2
        injection x3 with x3
        subst x1 x2 x3
        exact ⟨a / many, b, c, e, e5 _ _ upd_same, hr0, he1, he2, hrn, hb0, hb1, hc0, by omega⟩
    · have ha : a = 0 := by
        have := of_decide_eq_false h1
        omega
      subst ha
      -- feed[2] = feed[2] + 1
      refine q_setL (j := 2) (e1 _ _ hfa) (ev_op (ev_op (ev_var rfl) ev_c (rv_ixL (sq_of (e1 _ _ hfa)) rfl)) ev_c rv_I0) (ev_var rfl) ev_c (by show 2 < 3; decide) fun H2 e2 => ?_
      have hf2 : (upd H2 fa (.lst ([V.int 0, V.int b, V.int c].set 2 (V.int (c + 1))))) fa = some (.lst [.int 0, .int b, .int (c + 1)]) := upd_same
      generalize hH3 : upd H2 fa (.lst ([V.int 0, V.int b, V.int c].set 2 (V.int (c + 1)))) = H3 at hf2 ⊢
      have g1 : ∀ H4, Ex H3 H4 → ∀ σ : L2.St, σ[0]? = some (some (.ref fa)) → Ev (tOp (L2.rIxL K) (tVar 0) (tC (.int 1))) σ H4 (.int b) := fun H4 e4 σ h0 => ev_op (ev_var h0) ev_c (rv_ixL (sq_of (e4 _ _ hf2)) rfl)
      have g2 : ∀ H4, Ex H3 H4 → ∀ σ : L2.St, σ[0]? = some (some (.ref fa)) → Ev (tOp (L2.rIxL K) (tVar 0) (tC (.int 2))) σ H4 (.int (c + 1)) := fun H4 e4 σ h0 => ev_op (ev_var h0) ev_c (rv_ixL (sq_of (e4 _ _ hf2)) rfl)
      have lit : ∀ {i : Int} {k : Nat}, 0 ≤ i → i ≤ k → k < 2 ^ 600 → i.natAbs < 2 ^ 600 := fun h1 h2 h3 => Nat.lt_of_le_of_lt (by omega) h3
      -- stir = feed[1] + 6700417 * feed[2]
      have hc9 : (c + 1).natAbs < 2 ^ 600 := lit (k := 1000000000000000000) (by omega) (by omega) (by decide)
      refine q_asg (ev_op (g1 _ (Ex.refl _) _ rfl) (ev_op ev_c (g2 _ (Ex.refl _) _ rfl) (rv_I (mulB (a := 600) (b := 600) (by decide) hc9 (by decide) (by decide) (by decide)))) rv_I0) fun H4 e4 => ?_
      have hs0 : 0 ≤ b + 6700417 * (c + 1) := by omega
      have hs1 : b + 6700417 * (c + 1) ≤ 10 ^ 41 := by omega
      generalize b + 6700417 * (c + 1) = x at hs0 hs1 ⊢
      have hx : x.natAbs < 2 ^ 600 := lit (k := 10 ^ 41) hs0 hs1 (by decide)
      have hxx : (x * x).natAbs < 2 ^ 1200 := wide_lt hx hx
      -- stir = int(stir * stir * stir + 15485863 * feed[2]) % (10 ** 43 + 57)
      refine q_asg (ev_op (ev_cb (ea_cons (ev_op (ev_op (ev_op (ev_var rfl) (ev_var rfl) (rv_I (mulB hx hx (by decide) (by decide) (by decide)))) (ev_var rfl) (rv_I (mulB hxx hx (by decide) (by decide) (by decide)))) (ev_op ev_c (g2 _ e4 _ rfl) (rv_I (mulB (a := 600) (b := 600) (by decide) hc9 (by decide) (by decide) (by decide)))) rv_I0) ea_nil) rc_int)
        (ev_op (ev_op ev_c ev_c (rv_I ⟨by decide, by decide, by decide⟩)) ev_c rv_I0) (rv_I (by decide))) fun H5 e5 => ?_
      have hy0 : 0 ≤ (x * x * x + 15485863 * (c + 1)) % ((10 : Int) ^ (43 : Int).toNat + 57) := Int.emod_nonneg _ (by decide)
      have hy1 : (x * x * x + 15485863 * (c + 1)) % ((10 : Int) ^ (43 : Int).toNat + 57) < (10 : Int) ^ 43 + 57 := Int.emod_lt_of_pos _ (by decide)
      generalize (x * x * x + 15485863 * (c + 1)) % ((10 : Int) ^ (43 : Int).toNat + 57) = y at hy0 hy1 ⊢
      have hy : y.natAbs < 2 ^ 600 := lit (k := 10 ^ 44) hy0 (by omega) (by decide)
      refine q_asg (ev_op (ev_cb (ea_cons (ev_op (ev_op (ev_var rfl) (ev_var rfl) (rv_I (mulB hy hy (by decide) (by decide) (by decide)))) ev_c rv_I0) ea_nil) rc_int) (ev_op (ev_op ev_c ev_c (rv_I ⟨by decide, by decide, by decide⟩)) ev_c rv_I0) (rv_I (by decide))) fun H6 e6 => ?_
      have hz0 : 0 ≤ (y * y + 32452843) % ((10 : Int) ^ (38 : Int).toNat + 133) := Int.emod_nonneg _ (by decide)
      generalize (y * y + 32452843) % ((10 : Int) ^ (38 : Int).toNat + 133) = z at hz0 ⊢
      have hq0 : 0 ≤ (z / (10 : Int) ^ (9 : Int).toNat) % many := Int.emod_nonneg _ (by omega)
      have hq1 : (z / (10 : Int) ^ (9 : Int).toNat) % many < many := Int.emod_lt_of_pos _ hm0
      refine s_ret (v := .int ((((z / (10 : Int) ^ (9 : Int).toNat) % many).toNat : Nat) : Int)) (ev_is (ev_op (ev_cb (ea_cons (ev_op (ev_var rfl) (ev_op ev_c ev_c (rv_I ⟨by decide, by decide, by decide⟩)) (rv_I (divW (by decide) (by decide)))) ea_nil) rc_int) (ev_var rfl) (rv_I hm0)) (by congr 1; omega)) fun H7 e7 => k _ H7 (by omega) ⟨?_, fun n hn hF => ?_⟩
      · have : Exc (fun c => c = fa) H H3 := by
          rw [← hH3]
          exact (Exc.of (e1.trans e2)).upd (.inl rfl)
        exact this.then (((e4.trans e5).trans e6).trans e7)
      · obtain ⟨a', b', c', e', g1, g2, g3, g4, g5, g6, g7, g8, g9⟩ := hF
        rw [hfa] at g1
        injection g1 with g1
        injection g1 with g1
        injection g1 with x1 g1
        injection g1 with x2 g1
        injection g1 with x3 g1
        injection x2 with x2
        injection x3 with x3
        subst x2 x3
        exact ⟨0, b, c + 1, 1, (((e4.trans e5).trans e6).trans e7) _ _ hf2, Int.le_refl _, Nat.le_refl _, by decide, by decide, hb0, hb1, by omega, by omega⟩
theorem ok__law_one {f : Addr} {fd : FuncData} (F : Fun K "_law_one" "_law_one" st__law_one f fd) (M : Md K mg) (C__law_draw : Cal P w K mg base "_law_draw" st__law_draw 1 ["feed", "many"] sp_draw) : FnOk P w K mg base CX0 2 f fd ["feed", "things"] (sp_one K) := by
  have nd := sc__law_one.nd
  refine F.ok sc__law_one (fun vs H Q E h => ?_) (fun cdv A outer s H vs Q E hr h => ?_)
  · obtain ⟨_, _, ⟨_, rfl, _⟩ | ⟨_, _, rfl, _⟩⟩ := h <;> rfl
  · obtain ⟨fa, G, h⟩ := h
    rcases h with ⟨s, rfl, hs, hl, k⟩ | ⟨p, xs, rfl, hS, hp, hx, hl, k⟩
    · refine ⟨_, (pss_one (ps_ret (pe_ix (kix K (r := rIxAny) ix_any) (pv 1) (pe_cl C__law_draw hr (pa_cons (pv 0) (pa_cons (pe_callB (kcr K (r := rLenAny) cr_lenAny) (by rfl) M.n_len boot_len (pa_cons (pv 1) pa_nil)) pa_nil))) (fun _ _ => rfl)))), ?_⟩
      have hpos : 0 < s.length := List.length_pos_iff.mpr hs
      refine ⟨T s, rfl, .ref fa, rfl, T s, rfl, .inl ⟨s, rfl, hl, fa, (s.length : Int), rfl, G, by omega, by omega, fun d H1 hd R => ?_⟩⟩
      obtain ⟨c, hc, hm⟩ := atI_mem (xs := s) (d := d) (by omega)
      exact .inr ⟨s, d, c, rfl, rfl, hl, hc, k c H1 hm R⟩
    · refine ⟨_, (pss_one (ps_ret (pe_ix (kix K (r := rIxAny) ix_any) (pv 1) (pe_cl C__law_draw hr (pa_cons (pv 0) (pa_cons (pe_callB (kcr K (r := rLenAny) cr_lenAny) (by rfl) M.n_len boot_len (pa_cons (pv 1) pa_nil)) pa_nil))) (fun _ _ => rfl)))), ?_⟩
      have hpos : 0 < xs.length := List.length_pos_iff.mpr hx
      refine ⟨.ref p, rfl, .ref fa, rfl, .ref p, rfl, .inr ⟨p, xs, rfl, hS, fa, (xs.length : Int), rfl, G, by omega, by omega, fun d H1 hd R => ?_⟩⟩
      obtain ⟨v, hv, hm⟩ := atI_mem (xs := xs) (d := d) (by omega)
      rcases hS with hS | hS
      · exact .inl (.inl ⟨p, xs, d, v, rfl, rfl, R.l hp hS, hv, k v H1 hm R⟩)
      · exact .inl (.inr ⟨p, xs, d, v, rfl, rfl, R.t hp hS, hv, k v H1 hm R⟩)
theorem sum_le {ts : List Tx} {m : Nat} (h : ∀ t ∈ ts, t.length ≤ m) : (ts.map List.length).sum ≤ ts.length * m := by
  induction ts with
  | nil => simp
  | cons t ts ih =>
    have h1 := h t List.mem_cons_self
    have h2 := ih fun x hx => h x (List.mem_cons_of_mem _ hx)
    simp only [List.map_cons, List.sum_cons, List.length_cons, Nat.succ_mul]
    omega
theorem flat_len {ts : List Tx} : ts.flatten.length = (ts.map List.length).sum := by
  simp [List.length_flatten]
theorem ok__law_text {f : Addr} {fd : FuncData} (F : Fun K "_law_text" "_law_text" st__law_text f fd) (M : Md K mg) (C__law_draw : Cal P w K mg base "_law_draw" st__law_draw 1 ["feed", "many"] sp_draw) (C__law_one : Cal P w K mg base "_law_one" st__law_one 2 ["feed", "things"] (sp_one K)) : FnOk P w K mg base CX0 3 f fd ["feed", "signs", "most"] sp_text := by
  have nd := sc__law_text.nd
  refine F.ok sc__law_text (fun vs H Q E h => ?_) (fun cdv A outer s H vs Q E hr h => ?_)
  · obtain ⟨_, _, _, rfl, _⟩ := h
    rfl
  · obtain ⟨fa, s, most, rfl, G, hm, hs, hl, k⟩ := h
    refine ⟨_, (pss_one (ps_ret (kbm K (pe_bm PySem.F.plainAttrs_str PySem.F.slot_str_join PySem.F.type_str_join (kmt K (r := rJoinT) mt_joinT) (pe_sT []) (pa_cons (pe_lc (own := [("turn", 3)]) rfl nd (pi_range1 (by rfl) M.n_range (pa_cons (pe_cl C__law_draw hr (pa_cons (pv 0) (pa_cons (pe_op op_add (pv 2) pe_int) pa_nil))) pa_nil)) (blkOk_by (N := N__law_text) (sc := defScope st__law_text) (by decide +kernel)) (fun _ _ _ _ _ => (pg_name (i := 3) nd rfl (Or.inl rfl))) (fun _ _ _ _ _ => pts_nil) (fun _ _ _ _ _ => (pe_cl C__law_one hr (pa_cons (pv 0) (pa_cons (pv 1) pa_nil))))) pa_nil))))), ?_⟩
    refine ⟨rfl, ?_⟩
    refine ⟨.ref fa, rfl, .int (most : Int), rfl, (most : Int), 1, rfl, rfl, fa, (most : Int) + 1, rfl, G.mono (by omega), by omega, by omega, fun d H1 hd R1 => ?_⟩
    have G1 : GF fa most H1 := G.go R1 (by omega)
    have hw : ∀ Q' : VK, (∀ p H2 acc, H1 p = none → Rf fa (d * 1) H1 H2 → H2 p = some (.lst acc) → acc.length = d → (∀ v ∈ acc, ∃ t, v = T t ∧ (t.length ≤ 1 ∧ ∀ c ∈ t, c ∈ s)) → Q' (.ref p) H2) →
        tLc (iRng1 (fun _ H Q => Q [.int (d : Int)] H)) (gName 3) tYes (tCall (sp_one K) [] E0 (tCons (tVar 0) (tCons (tVar 1) tNil))) [3] (start N__law_text [.ref fa, T s, .int (most : Int)]) H1 Q' := fun Q' k' => by
      refine lcD (fun v => ∃ t, v = T t ∧ (t.length ≤ 1 ∧ ∀ c ∈ t, c ∈ s)) 1 G1.is (src_range1 (n := d) (fun H2 e2 Q2 q => q H2 (Ex.refl _)) (by omega)) (fun z => z) (by omega) (fun _ => rfl) ?_ k'
      intro i x H2 hi _ R2 Q2 q
      refine ⟨.ref fa, rfl, T s, rfl, fa, G1.go R2 (by omega), .inl ⟨s, rfl, hs, hl, fun c H3 hc R3 => q _ _ ⟨[c], rfl, Nat.le_refl _, fun c' hc' => ?_⟩ R3⟩⟩
      rw [List.mem_singleton.mp hc']
      exact hc
    refine hw (fun x H2 => rJoinT K (T []) [x] H2 Q) fun p H2 acc hp R2 h2 hal hg => ?_
    obtain ⟨ts, rfl, hts⟩ := texts_of hg
    rw [List.length_map] at hal
    have hsum := sum_le fun t ht => (hts t ht).1
    refine ⟨[], p, ts, rfl, rfl, .inl (sq_of h2), by simp; omega, ?_⟩
    rw [joinL_nil]
    refine k ts.flatten H2 (by rw [flat_len]; omega) (fun c hc => ?_) ((R1.trans R2).mono (by omega))
    obtain ⟨t, ht, hct⟩ := List.mem_flatten.mp hc
    exact (hts t ht).2 c hct
end
end K01
set_option Elab.async false
set_option linter.all false
set_option maxRecDepth 100000
set_option maxHeartbeats 2000000
namespace K01
open PySem PySem.Spec PyProof.Rows L2 Evl Wc Wt
def abcd (c : Nat) : Prop := 97 ≤ c ∧ c ≤ 100
/-- texts of the signs, none longer than m -/
def Wd (m : Nat) (ws : List Tx) : Prop := ∀ t ∈ ws, t.length ≤ m ∧ ∀ c ∈ t, abcd c
structure IsLot (lot : List Tx) : Prop where
  ne : lot ≠ []
  few : lot.length ≤ 12
  wd : Wd 12 lot
  pos : ∀ t ∈ lot, t ≠ []
  asc : lot.Pairwise (· < ·)
theorem pw_lt {xs : List Tx} (h : xs.Pairwise (· ≤ ·)) (d : xs.Nodup) : xs.Pairwise (· < ·) := (h.and d).imp fun ⟨a, b⟩ => by
  rcases List.le_iff_lt_or_eq.mp a with z | z
  · exact z
  · exact absurd z b
section
variable {K : PySem.W.Frag} {fa : Addr} {m : Nat} {H H1 H2 : Hp}
def sp_mixed (K : PySem.W.Frag) : Sp := fun vs H Q _ => ∃ (fa p : Addr) (xs : List V), vs = [.ref fa, .ref p] ∧ SqL K H p xs ∧ p ≠ fa ∧ xs.length ≤ 1000 ∧ GF fa xs.length H ∧ ∀ q ys H', ys.Perm xs → H q = none → Rf fa xs.length H H' → H' q = some (.lst ys) → Q (.ref q) H'
def sp_kept (K : PySem.W.Frag) : Sp := fun vs H Q _ => ∃ (fa p : Addr) (ws : List Tx) (most : Nat), vs = [.ref fa, .ref p, .int (most : Int)] ∧ SqL K H p (ws.map T) ∧ p ≠ fa ∧ ws.length ≤ 1000 ∧ Wd 100000 ws ∧ 1 ≤ most ∧ most ≤ 12 ∧ GF fa 1000 H ∧
  ∀ q lot H', IsLot lot → lot.length ≤ most → H q = none → Rf fa 1000 H H' → H' q = some (.tup (lot.map T)) → Q (.ref q) H'
end
section
variable {P : Program} {w : World} {K : PySem.W.Frag} {mg : Str → Option Value} {base : Heap}
theorem ok__law_mixed {f : Addr} {fd : FuncData} (F : Fun K "_law_mixed" "_law_mixed" st__law_mixed f fd) (M : Md K mg) (C__law_draw : Cal P w K mg base "_law_draw" st__law_draw 1 ["feed", "many"] sp_draw) : FnOk P w K mg base CX0 2 f fd ["feed", "things"] (sp_mixed K) := by
  have nd := sc__law_mixed.nd
  refine F.ok sc__law_mixed (fun vs H Q E h => ?_) (fun cdv A outer s H vs Q E hr h => ?_)
  · obtain ⟨_, _, _, rfl, _⟩ := h
    rfl
  · obtain ⟨fa, p, xs, rfl, hp, hne, hl, G, k⟩ := h
    refine ⟨_, (pss_cons (ps_par (i := 2) (j := 3) rfl nd rfl rfl (by decide) rfl rfl (pa_cons (pe_callTy (kcr K (r := rListS) call_list_of) (by rfl) M.n_list boot_list (pa_cons (pv 1) pa_nil)) (pa_cons (pe_lst pa_nil) pa_nil)) (by rfl))
  (pss_cons (ps_for PassesOwn.never rfl (pi_range1 (by rfl) M.n_range (pa_cons (pe_callB (kcr K (r := rLenS) call_len_seq) (by rfl) M.n_len boot_len (pa_cons (pv 1) pa_nil)) pa_nil)) (pg_name (i := 4) nd rfl (Or.inl rfl))
  (pss_one (ps_expr (kbm K (pe_bm PySem.F.plainAttrs_list PySem.F.slot_list_append PySem.F.type_list_append mt_append (pv 3) (pa_cons (kbm K (pe_bm PySem.F.plainAttrs_list PySem.F.slot_list_pop PySem.F.type_list_pop mt_popAt (pv 2) (pa_cons (pe_cl C__law_draw hr (pa_cons (pv 0) (pa_cons (pe_callB (kcr K (r := rLenS) call_len_seq) (by rfl) M.n_len boot_len (pa_cons (pv 2) pa_nil)) pa_nil))) pa_nil))) pa_nil))))))
  (pss_one (ps_ret (pv 3))))), ?_⟩
    refine (el_list (ev_var rfl) hp : EvL _ (start N__law_mixed [.ref fa, .ref p]) H xs) H (Ex.refl _) _ fun pool H1 hpool e1 h1 => ⟨by decide, fun got hgot => ⟨_, _, rfl, ?_⟩⟩
    have npg : pool ≠ got := ne_of_none h1 hgot
    have ngot : H got = none := fresh_back e1 hgot
    have n1 : pool ≠ fa := G.new hpool
    have n2 : got ≠ fa := G.new ngot
    have e2 : Ex H (upd H1 got (.lst [])) := e1.trans (Ex.new hgot)
    have h1' : (upd H1 got (.lst [])) pool = some (.lst xs) := by rw [upd_ne npg]; exact h1
    have h2' : (upd H1 got (.lst [])) got = some (.lst []) := upd_same
    generalize upd H1 got (.lst []) = H2 at e2 h1' h2'
    show tSeq _ _ _ [some (.ref fa), some (.ref p), some (.ref pool), some (.ref got), none] H2
    refine q_forW (fun c => c = fa ∨ c = pool ∨ c = got) (src_range1 (n := xs.length) (ea_cons (ev_len (ev_var rfl) (ex_l e2 hp)) ea_nil) (by omega)) ?_
      (fun Hs i σ' H' => ∃ (ys zs : List V) (v : Option V), σ' = [some (.ref fa), some (.ref p), some (.ref pool), some (.ref got), v] ∧ Exc (fun c => c = fa ∨ c = pool ∨ c = got) Hs H' ∧ Rf fa i H H' ∧ H' pool = some (.lst ys) ∧ H' got = some (.lst zs) ∧ zs.length = i ∧ (zs ++ ys).Perm xs) ?_ ?_ ?_ ?_ ?_
    · rintro c (rfl | rfl | rfl)
      · exact ⟨(G.ex e2).is, fun z => z⟩
      · exact ⟨by rw [h1']; exact fun z => (nomatch z), fun z => z⟩
      · exact ⟨by rw [h2']; exact fun z => (nomatch z), fun z => z⟩
    · intro Hs e
      exact ⟨xs, [], none, rfl, Exc.refl _, Rf.of_ex (e2.trans e), e _ _ h1', e _ _ h2', rfl, List.Perm.refl _⟩
    · rintro Hs i σ' H' ⟨_, _, _, _, h, _⟩
      exact h
    · rintro Hs i σ' Ha Hb ⟨ys, zs, v, h0, h3, h4, h5, h6, h7⟩ e
      exact ⟨ys, zs, v, h0, h3.then e, h4.then e, e _ _ h5, e _ _ h6, h7⟩
    · rintro Hs i x σ' H' e hi ⟨ys, zs, v, rfl, h3, h4, h5, h6, h7, h8⟩ rfl
      have hly := h8.length_eq
      rw [List.length_append] at hly
      show tDrop _ _ [some (.ref fa), some (.ref p), some (.ref pool), some (.ref got), some (.int (i : Int))] H'
      refine ⟨.ref got, rfl, .inl ⟨rfl, zs, sq_of h6⟩, .ref pool, rfl, .inl ⟨rfl, ys, sq_of h5⟩, ?_⟩
      refine wp_draw (many := (ys.length : Int)) rfl (ev_len (ev_var rfl) (sq_of h5)) (G.go h4 (m' := 1) (by omega)) (by omega) (by omega) fun d H3 hd R3 => ?_
      have hd' : d < ys.length := by omega
      have h53 := R3.at_ h5 n1
      refine ⟨pool, ys, (d : Int), d, ys[d], rfl, rfl, h53, by omega, by omega, seqIx_nat hd', List.getElem?_eq_getElem hd', ?_⟩
      · have h63 := R3.at_ h6 n2
        refine ⟨got, zs, ys[d], rfl, rfl, by rw [upd_ne (Ne.symm npg)]; exact h63, sz_lt (by omega), ?_⟩
        have hpm : (ys[d] :: ys.eraseIdx d).Perm ys := erase_perm hd'
        refine ⟨ys.eraseIdx d, zs ++ [ys[d]], _, rfl, ?_, ?_, by rw [upd_ne npg, upd_same], upd_same, by simp [h7], ?_⟩
        · exact ((h3.trans (fun b o nb hb => R3.keep b o (fun z => nb (.inl z)) hb)).upd (.inl (.inr (.inl rfl)))).upd (.inl (.inr (.inr rfl)))
        · exact ((h4.trans R3).upd (fresh_back (Ex.refl H) hpool) G.is).upd ngot G.is
        · refine List.Perm.trans ?_ h8
          rw [List.append_assoc]
          exact List.Perm.append_left zs hpm
    · rintro Hs σ' H' e ⟨ys, zs, v, rfl, h3, h4, h5, h6, h7, h8⟩
      have hly := h8.length_eq
      rw [List.length_append] at hly
      have hy : ys = [] := List.length_eq_zero_iff.mp (by omega)
      subst hy
      rw [List.append_nil] at h8
      exact s_ret (ev_var rfl) fun H3 e3 => k got zs H3 h8 ngot (h4.then e3) (e3 _ _ h6)
theorem ok__law_kept {f : Addr} {fd : FuncData} (F : Fun K "_law_kept" "_law_kept" st__law_kept f fd) (M : Md K mg) (C__law_mixed : Cal P w K mg base "_law_mixed" st__law_mixed 2 ["feed", "things"] (sp_mixed K)) : FnOk P w K mg base CX0 3 f fd ["feed", "words", "most"] (sp_kept K) := by
  have nd := sc__law_kept.nd
  refine F.ok sc__law_kept (fun vs H Q E h => ?_) (fun cdv A outer s H vs Q E hr h => ?_)
  · obtain ⟨_, _, _, _, rfl, _⟩ := h
    rfl
  · obtain ⟨fa, p, ws, most, rfl, hp, hne, hl, hw, hm1, hm2, G, k⟩ := h
    refine ⟨_, (pss_cons (ps_set (i := 3) nd rfl (Or.inl rfl) (pe_callB (ksorted P w K hr.units) (by rfl) M.n_sorted boot_sorted (pa_cons (pe_callTy (kset P w K) (by rfl) M.n_set boot_set (pa_cons (pe_lc (own := [("word", 4)]) rfl nd (kil K (pi_list (pv 1))) (blkOk_by (N := N__law_kept) (sc := defScope st__law_kept) (by decide +kernel)) (fun _ _ _ _ _ => (pg_name (i := 4) nd rfl (Or.inl rfl))) (fun _ _ _ _ _ => (pts_one (pt_chain op_le op_le pe_int (pe_callB cr_lenT (by rfl) M.n_len boot_len (pa_cons (pv 4) pa_nil)) pe_int))) (fun _ _ _ _ _ => (pv 4))) pa_nil)) pa_nil)))
  (pss_cons (ps_set (i := 5) nd rfl (Or.inl rfl) (pe_ifExp (pt_cmpR op_gt (pe_callB (kcr K (r := rLenS) call_len_seq) (by rfl) M.n_len boot_len (pa_cons (pv 3) pa_nil)) (pv 2) (nomark _)) (pe_slice (ksl K (r := rSlL) sl_list) (pe_cl C__law_mixed hr (pa_cons (pv 0) (pa_cons (pv 3) pa_nil))) po_none (po_some (pv 2))) (pv 3)))
  (pss_one (ps_ret (pe_ifExp (pt_cmpR (kop K (r := rNeD) (op_neD hr.units)) (pv 5) (pe_lst pa_nil) (nomark _)) (pe_callTy (kcr K (r := rTupS) call_tuple_of) (by rfl) M.n_tuple boot_tuple (pa_cons (pe_callB (ksorted P w K hr.units) (by rfl) M.n_sorted boot_sorted (pa_cons (pv 5) pa_nil)) pa_nil)) (pe_tup (pa_cons (pe_sT [97, 98]) pa_nil))))))), ?_⟩
    -- good
    have hlc : EvL (tLc (iList K (tVar 1)) (gName 4) (tTest (tChain (rI0 fun i j => .bl (decide (i ≤ j))) (rI0 fun i j => .bl (decide (i ≤ j))) (tC (.int 1)) (tCB rLenT (tCons (tVar 4) tNil)) (tC (.int 12)))) (tVar 4) [4]) (start N__law_kept [.ref fa, .ref p, .int (most : Int)]) H ((ws.filter fun t => decide (1 ≤ (t.length : Int)) && decide ((t.length : Int) ≤ 12)).map T) := by
      refine el_lcF (j := 4) (vs := [4]) (f := T) (g := T) ws (src_listM (ev_var rfl) hp) (by omega) (fun _ => rfl) (fun t H1 e1 ht => ?_) (fun t H1 e1 ht _ => ev_var rfl)
      have := (hw t ht).1
      exact et_test (ev_chain ev_c (ev_cb (ea_cons (ev_var rfl) ea_nil) (rc_lenT (by omega))) rv_I0 ev_c rv_I0)
    have hfl := List.length_filter_le (fun t : Tx => decide (1 ≤ (t.length : Int)) && decide ((t.length : Int) ≤ 12)) ws
    refine el_sortSet hlc (by omega) _ fun pg ys H1 u hly hpg e1 h1 => ?_
    have hys : ∀ t ∈ ys, 1 ≤ t.length ∧ t.length ≤ 12 ∧ ∀ c ∈ t, abcd c := fun t ht => by
      have h := (u.mem t).mp ht
      rw [List.mem_filter, Bool.and_eq_true, decide_eq_true_eq, decide_eq_true_eq] at h
      exact ⟨by omega, by omega, (hw t h.1).2⟩
    have hgl : (sortT ys).length = ys.length := sortT_len ys
    have hgd : (sortT ys).Nodup := (sortT_perm ys).nodup_iff.mpr u.nd
    have hgm : ∀ t ∈ sortT ys, 1 ≤ t.length ∧ t.length ≤ 12 ∧ ∀ c ∈ t, abcd c := fun t ht => hys t (sortT_mem.mp ht)
    generalize sortT ys = good at h1 hgl hgd hgm
    have hn1 : pg ≠ fa := G.new hpg
    show tSeq _ _ _ [some (.ref fa), some (.ref p), some (.int (most : Int)), some (.ref pg), none, none] H1
    -- behind some
    have rest : ∀ (ps : Addr) (some_ : List Tx) H2, Rf fa 1000 H H2 → H2 ps = some (.lst (some_.map T)) → some_.Nodup → some_.length ≤ most → (∀ t ∈ some_, 1 ≤ t.length ∧ t.length ≤ 12 ∧ ∀ c ∈ t, abcd c) → tRet (tIf (tTest (tOp (rNeD K) (tVar 5) (tLst tNil))) (tCB (rTupS K) (tCons (tCB (rSortX K P w) (tCons (tVar 5) tNil)) tNil)) (tTup (tCons (tC (T [97, 98])) tNil))) { nx := fun _ H' => Q .non H', rt := Q } [some (.ref fa), some (.ref p), some (.int (most : Int)), some (.ref pg), none, some (.ref ps)] H2 := fun ps sm H2 R2 h2 hd hlen hg => by
      have G2 : GF fa 0 H2 := G.go R2 (by omega)
      have hdp : ∀ H3, Ex H2 H3 → Dp K H3 (.ref ps) (.list (sm.map dT)) := fun H3 e3 => dp_list (sq_of (e3 _ _ h2)) fun x _ => .str _
      have hlay : (PyData.list (sm.map dT)).canLay0 = true := lay_list fun x hx => lay_T fun c hc => by
        have := ((hg x hx).2.2 c hc).2
        omega
      have heq : PyData.eqv (.list (sm.map dT)) (.list []) = decide (sm = []) := by
        cases sm <;> rfl
      refine s_retIf (b := !decide (sm = [])) (et_test (fun H3 e3 Q3 q3 => (ev_var rfl : Ev (tVar 5) [some (.ref fa), some (.ref p), some (.int (most : Int)), some (.ref pg), none, some (.ref ps)] H2 (.ref ps)) H3 e3 _ fun H4 e4 => (el_lst ea_nil (by decide) : EvL (tLst tNil) [some (.ref fa), some (.ref p), some (.int (most : Int)), some (.ref pg), none, some (.ref ps)] H4 []) H4 (Ex.refl _) _ fun pe H5 hpe e5 h5 => ⟨_, .list [], (hdp H5 ((e3.trans e4).trans e5)), .lst (sq_of h5) .nil, shaped_of hlay (by
        show PyData.depthAll (sm.map dT) + 1 ≤ 64
        have := depth_all (g := dT) (m := 0) (xs := sm) fun x _ => Nat.le_refl _
        omega), by decide, by rw [heq]; exact q3 H5 (e4.trans e5)⟩)) (fun hb H3 e3 => ?_) (fun hb H3 e3 => ?_)
      · have hnn : sm ≠ [] := by simpa using hb
        refine (el_sorted (ev_var rfl) (sq_of (e3 _ _ h2)) : EvL (tCB (rSortX K P w) (tCons (tVar 5) tNil)) [some (.ref fa), some (.ref p), some (.int (most : Int)), some (.ref pg), none, some (.ref ps)] H3 ((sortT sm).map T)) H3 (Ex.refl _) _ fun pq H4 hpq e4 h4 => ⟨pq, _, rfl, .inl ⟨sq_of h4, fun l hl => ?_⟩⟩
        have RR := (R2.then e3).then e4
        refine k l (sortT sm) _ ⟨fun z => hnn ?_, by rw [sortT_len]; omega, fun t ht => ⟨(hg t (sortT_mem.mp ht)).2.1, (hg t (sortT_mem.mp ht)).2.2⟩, fun t ht z => ?_, pw_lt (sortT_pw sm) ((sortT_perm sm).nodup_iff.mpr hd)⟩ (by rw [sortT_len]; exact hlen) (RR.free G.is hl ((G2.ex e3).ex e4).is) (RR.then (Ex.new hl)) upd_same
        · have := sortT_len sm
          rw [z] at this
          exact List.length_eq_zero_iff.mp this.symm
        · have := (hg t (sortT_mem.mp ht)).1
          rw [z] at this
          simp at this
      · refine ⟨by decide, fun l hl => ?_⟩
        have RR := R2.then e3
        refine k l [[97, 98]] _ ⟨by simp, by simp, fun t ht => ?_, fun t ht z => ?_, by simp⟩ hm1 (RR.free G.is hl (G2.ex e3).is) (RR.then (Ex.new hl)) upd_same
        · simp at ht
          subst ht
          exact ⟨by decide, fun c hc => by simp at hc; unfold abcd; omega⟩
        · simp at ht
          rw [z] at ht
          cases ht
    -- some
    have hL : EvT (tTest (tOp (rI0 fun i j => .bl (decide (i > j))) (tCB (rLenS K) (tCons (tVar 3) tNil)) (tVar 2))) [some (.ref fa), some (.ref p), some (.int (most : Int)), some (.ref pg), none, none] H1 (decide ((((good.map T).length : Nat) : Int) > (most : Int))) := et_test (ev_op (ev_len (ev_var rfl) (sq_of h1)) (ev_var rfl) rv_I0)
    refine hL H1 (Ex.refl _) _ fun H2 e2 => ?_
    have e12 : Ex H H2 := e1.trans e2
    have hgl2 : good.length ≤ 1000 := by omega
    by_cases hb : (((good.map T).length : Nat) : Int) > (most : Int)
    · rw [decide_eq_true hb, if_pos rfl]
      refine ⟨.ref fa, rfl, .ref pg, rfl, fa, pg, good.map T, rfl, sq_of (e2 _ _ h1), hn1, by rw [List.length_map]; exact hgl2, (G.ex e12).mono (by rw [List.length_map]; exact hgl2), fun q xs H3 pm hq R3 h3 => ?_⟩
      obtain ⟨zs, rfl, pz⟩ := perm_texts pm
      have R3' : Rf fa 1000 H H3 := (Rf.pre e12 R3).mono (by rw [List.length_map]; exact hgl2)
      have hgz : ∀ t ∈ zs, 1 ≤ t.length ∧ t.length ≤ 12 ∧ ∀ c ∈ t, abcd c := fun t ht => hgm t (pz.mem_iff.mp ht)
      refine ⟨.int (most : Int), rfl, (most : Int), rfl, q, zs.map T, rfl, sq_of h3, fun r hr => ?_⟩
      rw [cutV_to, ← List.map_take]
      exact rest r (zs.take most) _ (R3'.then (Ex.new hr)) upd_same ((pz.nodup_iff.mpr hgd).sublist (List.take_sublist _ _)) (by rw [List.length_take]; omega) fun t ht => hgz t (List.mem_of_mem_take ht)
    · rw [decide_eq_false hb, if_neg Bool.false_ne_true]
      rw [List.length_map] at hb
      exact ⟨.ref pg, rfl, rest pg good H2 ((Rf.of_ex e12).mono (Nat.zero_le _)) (e2 _ _ h1) hgd (by omega) hgm⟩
end
end K01
set_option Elab.async false
set_option linter.all false
set_option maxRecDepth 100000
set_option maxHeartbeats 2000000
/-! comprehensions with any target -/
namespace Wt
open PySem PySem.Spec PyProof.Rows L2 Evl Wc
section
variable {K : PySem.W.Frag} {σ : L2.St} {H : Hp} {te : TE} {t : TT}
theorem el_lcG {α : Type} {wi : TI} {g : TG} {vs : List Nat} {n : Nat} {own : Addr → Prop} {P : Nat → V → Hp → Prop} {gv : α → V} {p : α → Bool} (xs : List α) (st : α → L2.St) (R : α → V → Hp → Prop) (hs : Src wi σ H n own P) (hn : n ≤ 40000) (hx : xs.length = n)
    (hP : ∀ i x H1, P i x H1 → ∃ a, xs[i]? = some a ∧ R a x H1) (hg : ∀ a x H1 (Q' : L2.St → Hp → Prop), R a x H1 → Q' (st a) H1 → g x (wipe σ vs) H1 Q') (hw : ∀ a, wipe (st a) vs = wipe σ vs)
    (ht : ∀ a H1, Ex H H1 → a ∈ xs → EvT t (st a) H1 (p a)) (he : ∀ a H1, Ex H H1 → a ∈ xs → p a = true → Ev te (st a) H1 (gv a)) : EvL (tLc wi g t te vs) σ H ((xs.filter p).map gv) := fun H0 e Q q => by
  have hgm := given_map xs p gv (fun i => match xs[i]? with | some a => p a | none => false) (fun i => match xs[i]? with | some a => gv a | none => .non) (fun i a ha => by simp only [ha]) (fun i a ha => by simp only [ha])
  rw [hx] at hgm
  generalize hf : (fun (i : Nat) => match xs[i]? with | some a => p a | none => false) = f at hgm
  generalize hv : (fun (i : Nat) => match xs[i]? with | some a => gv a | none => V.non) = v at hgm
  exact hs H0 e _ fun J H1 S e1 w hS => fun Dl hD =>
    lc_it w (Qd := fun H3 => Q (.ref Dl) H3) (Cw H1 f v Dl) ⟨hD, Ex.new hD, upd_same⟩ (fun i Hi _ c => hS (fun _ => False) Hi (fun _ z => z.elim) (.of c.2.1)) (fun i x Hi Hj hi c hy => by
      obtain ⟨ey, hPi⟩ := hy
      obtain ⟨a, ha, hr⟩ := hP i x Hj hPi
      have hm : a ∈ xs := List.mem_of_getElem? ha
      have fa : f i = p a := by rw [← hf]; simp only [ha]
      have va : v i = gv a := by rw [← hv]; simp only [ha]
      have c' : Cw H1 f v Dl i Hj := ⟨c.1, c.2.1.trans ey, ey _ _ c.2.2⟩
      have eAll : Ex H Hj := (e.trans e1).trans c'.2.1
      obtain ⟨c1, c2, c3⟩ := c'
      refine hg a x Hj _ hr ⟨hw a, ht a Hj eAll hm Hj (Ex.refl _) _ fun H3 e3 => ?_⟩
      cases hp : p a with
      | true =>
        show te (st a) H3 fun y H4 => ∃ acc, H4 Dl = some (.lst acc) ∧ acc.length < sizeLine ∧ Cw H1 f v Dl (i + 1) (upd H4 Dl (.lst (acc ++ [y])))
        refine he a Hj eAll hm hp H3 e3 _ fun H4 e4 => ⟨given i f v, e4 Dl _ (e3 Dl _ c3), sz_lt (by have := given_len i f v; omega), c1, Ex.mut ((c2.trans e3).trans e4) c1, ?_⟩
        rw [given_yes (fa.trans hp), va]
        exact upd_same
      | false =>
        show Cw H1 f v Dl (i + 1) H3
        refine ⟨c1, c2.trans e3, ?_⟩
        rw [given_no (fa.trans hp)]
        exact e3 Dl _ c3) (fun H3 c => by
      refine q Dl H3 (fresh_back e1 c.1) (e1.trans c.2.1) ?_
      rw [← hgm]
      exact c.2.2)
theorem rc_allT {α : Type} {q : Addr} {xs : List α} (h : SqL K H q (xs.map fun _ => V.bl true)) : RC (rAll K) [.ref q] H (.bl true) := by
  have e := rc_allM (f := fun _ : α => true) h
  rw [show (xs.all fun _ => true) = true by simp] at e
  exact e
/-- t[1:] -/
theorem el_dropU {p : Addr} {xs : List V} (h : Ev te σ H (.ref p)) (hp : SqT K H p xs) (hn : 0 < xs.length) : EvU (tSl (rSlA K) te (tPart (tC (.int 1))) tNoPart) σ H (xs.drop 1) := fun H1 e Q q => h H1 e _ fun H2 e2 => ⟨1, rfl, p, xs, rfl, ex_t (e.trans e2) hp, fun z => by
    have := z.1
    rw [show (1 : Int) = ((1 : Nat) : Int) from rfl, HT.sIx_nat] at this
    omega, fun _ r hr => by
    have := q r _ (fresh_back e2 hr) (e2.trans (Ex.new (o := .tup (cutV xs (some ((1 : Nat) : Int)) none)) hr)) (by rw [upd_same, cutV_from])
    exact this⟩
end
end Wt
set_option Elab.async false
set_option linter.all false
set_option maxRecDepth 100000
set_option maxHeartbeats 2000000
/-! objects of an own class; ranges downwards; repeated lists -/
namespace Wt
open PySem PySem.Spec PyProof.Rows L2 Evl Wc
/-- the class at C, as it is made by a call -/
structure Mak (P : Program) (w : World) (K : PySem.W.Frag) (mg : Str → Option Value) (base : Heap) (k : Nat) (C : Addr) (x : Str) (sp : Sp) : Prop where
  ex : ∃ (f : Addr) (fd : FuncData) (ps : List Str), Mk K C f ∧ FnOk P w K mg base CX0 k f fd ps sp ∧ Binds K fd ps [] ∧ mg x = some (.ref C)
theorem pe_mkM {X : Cx} {k n : Nat} {C : Addr} {x : Str} {sp : Sp} {p pos : Pos} {e : Expr} {es : List Expr} {t : TA} (c : Mak X.prog X.w X.K X.mg X.base k C x sp) (hr : Room n X.A) (ha : PA X (e :: es) t) (hk : k + 1 ≤ n := by decide) (hg : Gl X x := by rfl)
    (hdb : (x == ("__debug__" : Str)) = false := by decide) (he : starEach (e :: es) X.env = (false, eval e X.env) :: starEach es X.env := by rfl) (hpl : (backTo pos (starEach es X.env)).any (·.1) = false := by rfl) : PE X (.Call (.Name x p) (e :: es) [] pos) (tMake C sp [] E0 t) := by
  obtain ⟨f, fd, ps, M, F, b, hm⟩ := c.ex
  exact pe_make M F (hr.mono hk) hg hm b .nil pass0 ha hdb he hpl
section
variable {K : PySem.W.Frag} {σ : L2.St} {H : Hp} {te ta tb : TE} {C x dx : Addr} {fs : List (Str × V)} {f : Str} {v : V}
theorem ev_fld (h : Ev te σ H (.ref x)) (hx : H x = some (.ins C dx fs)) (c : Cls K C) (n : NoAttr K C f) (l : fs.lookup f = some v) : Ev (tFld K te f) σ H v := fun H1 e Q q => h H1 e _ fun H2 e2 => ⟨x, C, dx, fs, v, rfl, (e.trans e2) _ _ hx, c, n, l, q H2 e2⟩
/-- a field is stored -/
theorem q_fld {D : Ends} {tz : TS} (h : Ev te σ H v) (hx : σ[0]? = some (some (.ref x))) (hH : H x = some (.ins C dx fs)) (c : Cls K C) (n : NoAttr K C f) (hl : fs.length < 1000) (k : ∀ H1, Ex H H1 → tz D σ (upd H1 x (.ins C dx (putF f v fs)))) : tSeq (sFld K (tVar 0) te f) tz D σ H :=
  h H (Ex.refl _) _ fun H1 e1 => ⟨_, hx, x, C, dx, fs, rfl, e1 _ _ hH, c, n, hl, k H1 e1⟩
theorem q_fldL {D : Ends} {tz : TS} {xs : List V} (h : EvL te σ H xs) (hx : σ[0]? = some (some (.ref x))) (hH : H x = some (.ins C dx fs)) (c : Cls K C) (n : NoAttr K C f) (hl : fs.length < 1000) (k : ∀ p H1, H p = none → Ex H H1 → H1 p = some (.lst xs) → tz D σ (upd H1 x (.ins C dx (putF f (.ref p) fs)))) : tSeq (sFld K (tVar 0) te f) tz D σ H :=
  h H (Ex.refl _) _ fun p H1 hp e1 h1 => ⟨_, hx, x, C, dx, fs, rfl, e1 _ _ hH, c, n, hl, k p H1 hp e1 h1⟩
theorem el_rep {xs : List V} {n : Nat} (h : EvL ta σ H xs) (h2 : Ev tb σ H (.int (n : Int))) (hz : xs.length * n ≤ 100000) (hn : n ≤ 1000000) : EvL (tOp rRep ta tb) σ H (List.replicate n xs).flatten := fun H1 e Q q => h H1 e _ fun p H2 hp e2 hp2 => h2 H2 (e.trans e2) _ fun H3 e3 => ⟨p, (n : Int), xs, rfl, rfl, e3 _ _ hp2, by omega, by omega, sz_of hz, fun r hr => by
  have := q r _ (fresh_back (e2.trans e3) hr) ((e2.trans e3).trans (Ex.new (o := .lst (List.replicate (n : Int).toNat xs).flatten) hr)) upd_same
  exact this⟩
theorem rep_one (n : Nat) (v : V) : (List.replicate n [v]).flatten = List.replicate n v := by
  induction n with
  | zero => rfl
  | succ n ih => rw [List.replicate_succ, List.flatten_cons, ih, List.replicate_succ]; rfl
theorem el_catNV {p : Addr} {xs ys : List V} (ha : EvL ta σ H xs) (hb : Ev tb σ H (.ref p)) (hp : H p = some (.lst ys)) (hz : xs.length + ys.length ≤ 100000) : EvL (tOp rCat ta tb) σ H (xs ++ ys) := fun H1 e1 Q q =>
  ha H1 e1 _ fun r H2 hr e2 h2 => hb H2 (e1.trans e2) _ fun H3 e3 => ⟨r, p, xs, ys, rfl, rfl, e3 _ _ h2, ((e1.trans e2).trans e3) _ _ hp, sz_of hz, fun n hn => q n _ (fresh_back (e2.trans e3) hn) ((e2.trans e3).trans (Ex.new hn)) upd_same⟩
/-- n - 1, n - 2, .. 0 -/
theorem src_down {tq : TA} {n : Nat} (h : EvA tq σ H [.int ((n : Int) - 1), .int (-1), .int (-1)]) (hn : n ≤ 1000000000) : Src (iRng3 tq) σ H n (fun _ => False) (fun i v _ => v = .int ((n : Int) - 1 - (i : Int))) := fun H1 e R q =>
  h H1 e _ fun H2 e2 => ⟨_, _, _, n, rfl, by
    have := RgC.neg (i := (n : Int) - 1) (j := -1) (by omega) (by omega) (by decide) (by decide)
    have e : ((n : Int) - 1 - -1).toNat = n := by omega
    rw [e] at this
    exact this, by
    have w := (walk_rangeC (lo := (n : Int) - 1) (c := -1) (n := n)).mono (fun _ z => z) (Y' := fun i Ha v Hb => Ex Ha Hb ∧ v = .int ((n : Int) - 1 - (i : Int))) (fun i Ha v Hb _ _ hy => by
      obtain ⟨rfl, rfl⟩ := hy
      exact ⟨Ex.refl _, by show V.int ((n : Int) - 1 + ((i : Nat) : Int) * -1) = _; congr 1; omega⟩)
    exact q _ H2 _ e2 w fun _ _ _ _ => True.intro⟩
end
/-- xs[k], by values -/
def rGetN (K : PySem.W.Frag) : V → V → Hp → VK → Prop := fun o i H Q => ∃ (p : Addr) (xs : List V) (k : Nat) (z : V), o = .ref p ∧ i = .int (k : Int) ∧ SqL K H p xs ∧ xs[k]? = some z ∧ Q z H
theorem get_listN {X : Cx} : PGet X (rGetN X.K) := by
  intro pins s σ H o i ov iv Q I ro ri h
  obtain ⟨p, xs, k, z, rfl, rfl, hp, hz, q⟩ := h
  cases ro
  obtain ⟨t, rfl⟩ := ri
  obtain ⟨its, rv, pl, hs⟩ := I.list hp
  obtain ⟨u, hu, ru⟩ := rv.get hz
  have hk := (List.getElem?_eq_some_iff.mp hz).1
  have h63 : ((k : Int) < 2 ^ 63) := by
    have : sizeLine < 2 ^ 63 := by decide
    omega
  exact wpAny_getItem_list pl.isList (by omega) h63 (x := u) (by simpa using hu) ⟨z, H, I, ru, q⟩
theorem kget {X : Cx} (K : PySem.W.Frag) (hK : X.K = K := by rfl) : PGet X (rGetN K) := hK ▸ get_listN
end Wt
set_option Elab.async false
set_option linter.all false
set_option maxRecDepth 100000
set_option maxHeartbeats 2000000
namespace Wt
open PySem PySem.Spec PyProof.Rows L2 Evl Wc
/-! ### (number, text) < (number, text) -/
def rLtIT (K : PySem.W.Frag) : R2 := fun x y H Q => ∃ (a b : Addr) (m n : Int) (s t : Tx), x = .ref a ∧ y = .ref b ∧ SqT K H a [.int m, T s] ∧ SqT K H b [.int n, T t] ∧ Q (.bl (decide (m < n ∨ (m = n ∧ s < t)))) H
theorem op_ltIT {X : Cx} (hu0 : X.A.units + 64 < cLine) : OpR X (compareOp .Lt) (rLtIT X.K) := by
  intro pins s σ H x y v u Q I rx ry h
  have hu : X.A.units < cLine := Nat.lt_of_le_of_lt (Nat.le_add_right _ _) hu0
  obtain ⟨a, b, m, n, c, d, rfl, rfl, ha, hb, q⟩ := h
  cases rx
  cases ry
  obtain ⟨its, r1, p1, _⟩ := I.tuple ha
  obtain ⟨its2, r2, p2, _⟩ := I.tuple hb
  cases r1 with
  | cons rm r1 =>
  cases r1 with
  | cons rc r1 =>
  cases r1
  cases r2 with
  | cons rn r2 =>
  cases r2 with
  | cons rd r2 =>
  cases r2
  obtain ⟨_, rfl⟩ := rm
  obtain ⟨_, rfl⟩ := rc
  obtain ⟨_, rfl⟩ := rn
  obtain ⟨_, rfl⟩ := rd
  have R := Ob.RcOp.tuples_lt (A := X.A) (s := s) (e := fun j => if j = 0 then decide (m = n) else decide (c = d)) (r := fun j => if j = 0 then decide (m < n) else decide (c < d)) p1 p2 hu (fun j h1 h2 => by
    have h1' : j < 2 := h1
    have hj : j = 0 ∨ j = 1 := by omega
    rcases hj with rfl | rfl
    · have z : (m == n) = decide (m = n) := by
        by_cases q : m = n
        · rw [decide_eq_true q]; exact beq_iff_eq.mpr q
        · rw [decide_eq_false q]; exact beq_eq_false_iff_ne.mpr q
      show SeqAt.EqAt X.A.in1 s _ _ (decide (m = n))
      rw [← z]
      exact SeqAt.EqAt.int_int _ _ _ _
    · have z : (SX.S c == SX.S d) = decide (c = d) := by
        by_cases q : c = d
        · rw [decide_eq_true q, q]; exact beq_iff_eq.mpr rfl
        · rw [decide_eq_false q]; exact beq_eq_false_iff_ne.mpr fun e => q (congrArg (fun z : Str => z.cps.toList) e)
      show SeqAt.EqAt X.A.in1 s _ _ (decide (c = d))
      rw [← z]
      exact SeqAt.EqAt.str_str _ _ _ _) (fun j h1 h2 _ => by
    have h1' : j < 2 := h1
    have hj : j = 0 ∨ j = 1 := by omega
    rcases hj with rfl | rfl
    · exact Ob.RcOp.lt_int _ _ _ _
    · exact fun prog w E Q h => lt_str h)
  have e : Ob.lexAt (fun j => if j = 0 then decide (m = n) else decide (c = d)) (fun j => if j = 0 then decide (m < n) else decide (c < d)) (decide (2 < 2)) 0 2 = decide (m < n ∨ (m = n ∧ c < d)) := by
    simp only [Ob.lexAt]
    by_cases h1 : m = n
    · subst h1
      by_cases h2 : c = d
      · subst h2
        simp [List.lt_irrefl]
      · simp [h2]
    · simp [h1]
  have z : wpAny (model X.prog X.w) X.A (compareOp .Lt (.ref a) (.ref b)) (EP X pins σ Q) X.xe s := R X.prog X.w X.xe (EP X pins σ Q) ⟨.bl _, H, I, rfl, by
    show Q (.bl (Ob.lexAt _ _ (decide (2 < 2)) 0 2)) H
    rw [e]
    exact q⟩
  exact z
end Wt
set_option Elab.async false
set_option linter.all false
set_option maxRecDepth 100000
set_option maxHeartbeats 2000000
/-! zip(a, b) of two texts -/
namespace Wt
open PySem PySem.Spec PyProof.Rows L2 Evl Wc
def ItzS (a b : Tx) : It :=
  ⟨fun i _ => i < min a.length b.length, fun i H v H' => ∃ t c d, v = .ref t ∧ H t = none ∧ H' = upd H t (.tup [T [c], T [d]]) ∧ a[i]? = some c ∧ b[i]? = some d, fun i _ => i = min a.length b.length⟩
theorem sgn {a : Tx} {i : Nat} {v : Value} (h : ∃ c u, (SX.S a).cps[i]? = some c ∧ v = .str ⟨#[c]⟩ u) : ∃ c, a[i]? = some c ∧ RelV (T [c]) v := by
  obtain ⟨c, u, h1, rfl⟩ := h
  exact ⟨c, by simpa [SX.S] using h1, u, rfl⟩
theorem turn_zipS {P : Program} {w : World} {K : PySem.W.Frag} {elts : List Expr} {kk : Nat} {tpos : Pos} {a b : Tx} {ta tb : Tok} {z TI TO i1 i2 : Addr} (D : ZipSep2 z TI TO i1 i2 [i1] [i2]) :
    Turn P w K (.Tuple elts kk tpos) (ItzS a b) [z, TI, TO, i1, i2] z (fun i h => IsZip h z TI TO .none ∧ IsTupOf2 h TI (.ref i1) (.ref i2) ∧ (∃ x y, IsTupOf2 h TO x y) ∧ h.IsStrIter i1 (strIterType (SX.S a)) (SX.S a) ta i ∧ h.IsStrIter i2 (strIterType (SX.S b)) (SX.S b) tb i) where
  mem := by simp
  obj := fun i h st c hc => by
    obtain ⟨hz, hTI, ⟨x, y, hTO⟩, ⟨o1, e1, _, d1⟩, ⟨o2, e2, _, d2⟩⟩ := st
    have e' : c = z ∨ c = TI ∨ c = TO ∨ c = i1 ∨ c = i2 := by simpa using hc
    rcases e' with q | q | q | q | q
    · rw [q]; exact ⟨_, hz, fun v q => nomatch q⟩
    · rw [q]; exact ⟨_, hTI, fun v q => nomatch q⟩
    · rw [q]; exact ⟨_, hTO, fun v q => nomatch q⟩
    · rw [q]; exact ⟨o1, e1, fun v q => by rw [d1] at q; cases q⟩
    · rw [q]; exact ⟨o2, e2, fun v q => by rw [d2] at q; cases q⟩
  keep := fun i h h' st k => by
    obtain ⟨hz, hTI, ⟨x, y, hTO⟩, ⟨o1, e1, f1⟩, ⟨o2, e2, f2⟩⟩ := st
    exact ⟨k z (by simp) _ hz, k TI (by simp) _ hTI, ⟨x, y, k TO (by simp) _ hTO⟩, ⟨o1, k i1 (by simp) _ e1, f1⟩, ⟨o2, k i2 (by simp) _ e2, f2⟩⟩
  item := by
    intro X hP hw hK hc i pins s σ H E I hf st hg
    subst hP hw hK
    obtain ⟨hz, hTI, ⟨x0, y0, hTO⟩, h1, h2⟩ := st
    have hlt : i < min a.length b.length := hg
    have D1 := Draws.text (prog := X.prog) (w := X.w) (A := X.A.in1) (I.ok.hd hc) i1 (SX.S a) ta
    have D2 := Draws.text (prog := X.prog) (w := X.w) (A := X.A.in1) (I.ok.hd hc) i2 (SX.S b) tb
    have s1 : (SX.S a).cps.size = a.length := by simp [SX.S]
    have s2 : (SX.S b).cps.size = b.length := by simp [SX.S]
    have hzl : z < s.heap.objs.size := Heap.lt_size hz
    refine wpAny_pyNext_zipD2_item D D1 D2 hz hTI hTO h1 h2 (by omega) (by omega) fun u u2 h' tk p1 p2 z' TO' h1' h2' hT hsz hk => ?_
    obtain ⟨c, hcx, ru⟩ := sgn p1
    obtain ⟨d, hdy, ru2⟩ := sgn p2
    refine ⟨_, rfl, wpAny_letOwnedTupleGo_zip (s := { s with heap := h', toks := tk }) z' fun h'' z'' sb => ?_⟩
    have hT2 : h''.get? s.heap.objs.size = some { cls := .type "tuple", data := .seq #[u, u2] } := (sb.2 _ (Nat.ne_of_gt hzl)).trans hT
    have new : ObjOk X.prog X.w (upd H s.heap.objs.size (.tup [T [c], T [d]])) h'' s.heap.objs.size (.tup [T [c], T [d]]) :=
      ⟨by show 2 ≤ sizeLine; decide, [u, u2], .cons ru (.cons ru2 .nil), ⟨_, hT2, rfl, _, rfl⟩⟩
    have I1 : Inv X pins σ (upd H s.heap.objs.size (.tup [T [c], T [d]])) { s with heap := h'', toks := tk } :=
      I.turnedNew (ch := [z, TI, TO, i1, i2]) (fun c o hb q => (sb.2 c (fun q' => hb (by simp [q']))).trans (hk c o (fun q' => hb (by simp [q'])) (fun q' => hb (by simp [q'])) (fun q' => hb (by simp [q'])) (fun q' => hb (by simp [q'])) q)) hf (Nat.le_refl _) new
    refine ⟨.ref s.heap.objs.size, _, I1, rfl, ⟨_, c, d, rfl, I.hok.fresh (Nat.le_refl _), rfl, hcx, hdy⟩, ⟨z'', ?_, ⟨u, u2, ?_⟩, ?_, ?_⟩, fun c hcm => ?_⟩
    · exact (sb.2 _ D.TIz).trans (hk _ _ D.TIz D.TITO D.TIi1 D.TIi2 hTI)
    · exact (sb.2 _ D.TOz).trans TO'
    · obtain ⟨o1, e1, f1⟩ := h1'
      exact ⟨o1, (sb.2 _ (Ne.symm D.zi1)).trans e1, f1⟩
    · obtain ⟨o2, e2, f2⟩ := h2'
      exact ⟨o2, (sb.2 _ (Ne.symm D.zi2)).trans e2, f2⟩
    · have hlt : c < s.heap.objs.size := by
        have e' : c = z ∨ c = TI ∨ c = TO ∨ c = i1 ∨ c = i2 := by simpa using hcm
        rcases e' with q | q | q | q | q
        · rw [q]; exact hzl
        · rw [q]; exact Heap.lt_size hTI
        · rw [q]; exact Heap.lt_size hTO
        · rw [q]; obtain ⟨_, e1, _⟩ := h1; exact Heap.lt_size e1
        · rw [q]; obtain ⟨_, e2, _⟩ := h2; exact Heap.lt_size e2
      rw [upd_ne (Nat.ne_of_lt hlt)]
      exact (hf c hcm).1
  done := by
    intro X hP hw hK hc i pins s σ H E I hf st hg
    subst hP hw hK
    obtain ⟨hz, hTI, ⟨x0, y0, hTO⟩, h1, h2⟩ := st
    have hend : i = min a.length b.length := hg
    have D1 := Draws.text (prog := X.prog) (w := X.w) (A := X.A.in1) (I.ok.hd hc) i1 (SX.S a) ta
    have D2 := Draws.text (prog := X.prog) (w := X.w) (A := X.A.in1) (I.ok.hd hc) i2 (SX.S b) tb
    have s1 : (SX.S a).cps.size = a.length := by simp [SX.S]
    have s2 : (SX.S b).cps.size = b.length := by simp [SX.S]
    exact wpAny_pyNext_zipD2_end D D1 D2 hz hTI hTO h1 h2 (by omega) (by omega) (by omega) fun h' tk hk => ⟨rfl, I.turnedL (t' := tk) (ch := [z, TI, TO, i1, i2]) (fun c o hb q =>
      hk c o (fun q' => hb (by simp [q'])) (fun q' => hb (by simp [q'])) (fun q' => hb (by simp [q'])) (fun q' => hb (by simp [q'])) q) hf⟩
  self := fun A i s Q E st h => wpAny_pyIter_zip st.1 h
def iZipS (ta : TA) : TI := fun σ H R => ta σ H fun vs H1 => ∃ a b : Tx, vs = [T a, T b] ∧ R (ItzS a b) H1
theorem pi_zipS {X : Cx} {e e2 : Expr} {ta : TA} {p pos tpos : Pos} {elts : List Expr} {kk : Nat} (hg : Gl X "zip") (hm : X.mg "zip" = none) (ha : PA X [e, e2] ta)
    (hs : starEach [e, e2] X.env = (false, eval e X.env) :: starEach [e2] X.env := by rfl) (hpl : (backTo pos (starEach [e2] X.env)).any (·.1) = false := by rfl) :
    PI X (.Tuple elts kk tpos) (.Call (.Name "zip" p) [e, e2] [] pos) (iZipS ta) := by
  refine ⟨fun pins s σ H R I h => ?_⟩
  refine Call_ (ld_blt I hg hm PyProof.Rows.boot_zip (PyProof.Rows.callWith_type1 (thn (ha.run pos pins s σ H _ I h) fun us s1 ⟨vs, H1, I1, r1, q1⟩ => ?_) hs hpl))
  obtain ⟨a, b, ex, q⟩ := q1
  subst ex
  cases r1 with
  | cons r rr =>
    cases rr with
    | cons r' rr =>
      cases rr
      obtain ⟨ta, rfl⟩ := r
      obtain ⟨tb, rfl⟩ := r'
      have fresh5 : ∀ c, c ∈ [s1.heap.objs.size + 4, s1.heap.objs.size + 2, s1.heap.objs.size + 3, s1.heap.objs.size, s1.heap.objs.size + 1] → FpOk X pins H1 c := fun c hcm => by
        have e' : c = s1.heap.objs.size + 4 ∨ c = s1.heap.objs.size + 2 ∨ c = s1.heap.objs.size + 3 ∨ c = s1.heap.objs.size ∨ c = s1.heap.objs.size + 1 := by simpa using hcm
        have hle : s1.heap.objs.size ≤ c := by
          rcases e' with z | z | z | z | z
          · rw [z]; exact Nat.le_add_right _ _
          · rw [z]; exact Nat.le_add_right _ _
          · rw [z]; exact Nat.le_add_right _ _
          · rw [z]; exact Nat.le_refl _
          · rw [z]; exact Nat.le_add_right _ _
        exact I1.fpOk hle (I1.hok.fresh hle)
      refine zip_begins2 (begins_text (SX.S a) ta) (begins_text (SX.S b) tb) trivial trivial fun h' hz hTI hTO h1 h2 hsz hk => wpAny_pyIter_zip hz ?_
      have I2 : Inv X pins σ H1 { s1 with heap := h' } := I1.kept (t' := s1.toks) hk
      exact ⟨s1.heap.objs.size + 4, [s1.heap.objs.size + 4, s1.heap.objs.size + 2, s1.heap.objs.size + 3, s1.heap.objs.size, s1.heap.objs.size + 1], _, _, H1, rfl, I2, turn_zipS (ta := ta) (tb := tb) (zip_sep2 (fun b hb => by cases hb) (fun b hb => by cases hb)), ⟨hz, hTI, ⟨_, _, hTO⟩, ⟨_, h1, rfl, rfl⟩, ⟨_, h2, rfl, rfl⟩⟩, fresh5, q⟩
section
variable {K : PySem.W.Frag} {σ : L2.St} {H : Hp}
theorem walk_zipS {a b : Tx} : Walk (ItzS a b) (min a.length b.length) (fun _ => True) (YPair (fun i => (a[i]?).map fun c => T [c]) (fun i => (b[i]?).map fun c => T [c])) := by
  refine ⟨fun i _ hi _ => hi, fun _ _ => rfl, fun i H v H' _ _ y => ?_⟩
  obtain ⟨t, c, d, y1, y2, y3, y4, y5⟩ := y
  exact ⟨t, _, _, y1, y2, y3, by show (a[i]?).map _ = _; rw [y4]; rfl, by show (b[i]?).map _ = _; rw [y5]; rfl⟩
theorem src_zipS {a b : Tx} {tl tr : TE} (h : Ev tl σ H (T a)) (h2 : Ev tr σ H (T b)) : Src (iZipS (tCons tl (tCons tr tNil))) σ H (min a.length b.length) (fun _ => False) (fun i v Hb => ∃ p c d, v = .ref p ∧ a[i]? = some c ∧ b[i]? = some d ∧ Hb p = some (.tup [T [c], T [d]])) := fun H1 e R q =>
  h H1 e _ fun H2 e2 => h2 H2 (e.trans e2) _ fun H3 e3 => ⟨a, b, rfl, q _ H3 _ (e2.trans e3) (walk_zipS.mono (fun _ z => z) fun i Ha v Hb _ _ hy => by
    obtain ⟨p, x, y, rfl, hn, rfl, h1, h2⟩ := hy
    have h1 : (a[i]?).map (fun c => T [c]) = some x := h1
    have h2 : (b[i]?).map (fun c => T [c]) = some y := h2
    cases ha : a[i]? with
    | none => rw [ha] at h1; cases h1
    | some c =>
      cases hb : b[i]? with
      | none => rw [hb] at h2; cases h2
      | some d =>
        rw [ha] at h1
        rw [hb] at h2
        cases h1
        cases h2
        exact ⟨Ex.new hn, p, c, d, rfl, by first | rfl | exact ha, by first | rfl | exact hb, upd_same⟩) fun B Ha hB ea => trivial⟩
end
end Wt
set_option Elab.async false
set_option linter.all false
set_option maxRecDepth 100000
set_option maxHeartbeats 2000000
/-! defs that are called while no repr runs: their promises, their calls, repr itself, and a law's end by them -/
namespace Wg
open PySem PySem.Spec PyProof.Rows L2 Evl Wc
/-- a promise for calls around which no repr runs -/
structure FnOkG (P : Program) (w : World) (K : PySem.W.Frag) (mg : Str → Option Value) (base : Heap) (k : Nat) (f : Addr) (fd : FuncData) (ps : List Str) (sp : Sp) : Prop where
  len : ∀ vs H Q E, sp vs H Q E → vs.length = ps.length
  run : ∀ (A : Around) (outer : List Env) (s : Shared) (H : Hp) (args : Args) (us : List Value) (vs : List V) (Q : VK) (E : XK), Room k A → A.guards = some [] →
    Env0 P w K mg base A outer s H → BindsTo s fd args (ps.zip us) → Vals vs us → sp vs H Q E → codeAny (model P w) A (.call (.ref f) args) (CR CX0 outer P w H s Q E) s
section
variable {P : Program} {w : World} {K : PySem.W.Frag} {mg : Str → Option Value} {base : Heap} {k : Nat} {f : Addr} {fd : FuncData} {ps : List Str} {sp : Sp}
theorem FnOkG.of (F : FnOk P w K mg base CX0 k f fd ps sp) : FnOkG P w K mg base k f fd ps sp := ⟨F.len, fun A outer s H args us vs Q E hr _ => F.run A outer s H args us vs Q E hr⟩
/-- what ends a body ends the call -/
theorem ends_call {X : Cx} {s s' : Shared} {H : Hp} {Q : VK} {fl : Flow} {outer : List Env} (hp : X.prog = P) (hw : X.w = w)
    (fin : ∀ {σ' : L2.St} {H' : Hp} {v : V} {u : Value}, Inv X [] σ' H' s' → RelV v u → Q v H' → CE outer P w H s Q u s')
    (h : SP X [] { nx := fun _ H' => Q .non H', rt := Q } fl s') : match fl with
      | .ret u => CE outer P w H s Q u s'
      | .next => CE outer P w H s Q .none s'
      | _ => False := by
  cases fl with
  | next => obtain ⟨σ', H', J, q⟩ := h; exact fin (v := V.non) J rfl q
  | ret u => obtain ⟨v, σ', H', J, rv, q⟩ := h; exact fin J rv q
  | brk => obtain ⟨_, _, _, q⟩ := h; exact q.elim
  | cont => obtain ⟨_, _, _, q⟩ := h; exact q.elim
theorem Fun.okG {x qual : Str} {st : Stmt} {N : List Str} (F : Fun K x qual st f fd) (S : FnScope N ps (defScope st)) (len : ∀ vs H Q E, sp vs H Q E → vs.length = ps.length)
    (hbody : ∀ (cdv : Value) (A : Around) (outer : List Env) (s : Shared) (H : Hp) (vs : List V) (Q : VK) (E : XK), Room k (A.deeper (envOfC qual (defScope st) s.heap.objs.size f cdv)) → A.guards = some [] → sp vs H Q E →
      ∃ t, PSs (cxOf CX0 P w K mg base N qual (defScope st) f cdv A outer s H E).nox (defBody st) t ∧ t { nx := fun _ H' => Q .non H', rt := Q } (start N vs) H) : FnOkG P w K mg base (k + 1) f fd ps sp := by
  obtain ⟨oc, od, kV, doc, pm, an, cdv, ct, osl, rfl, lk, hcd⟩ := F.ex
  refine ⟨len, fun A outer s H args us vs Q E hr hgd e0 hb r hsp => ?_⟩
  have stay : ∀ b o, base.get? b = some o → s.heap.get? b = some o := fun b o e => (e0.bs b o e).1
  have KX := e0.mod.kin.keeps stay
  refine codeAny_call_function hr.depth (KX _ _ lk) rfl S.co S.gen rfl (PySem.W.codeRec_of KX hcd) (hb _ _ _ _ (wpAny_newFunctionEnv_cells S.kind (fun y hy => ?_) fun env he s1 new => ?_))
  · obtain ⟨n, v⟩ := y
    rcases S.par n (List.of_mem_zip hy).1 with q | q
    · exact .inl q
    · exact .inr ⟨q, PySem.W.cellsFrom_some _ _ _ (.inl q)⟩
  · subst he
    obtain ⟨t, ht, hq⟩ := hbody cdv A outer s H vs Q E (hr.deeper _) hgd hsp
    have I := inv_start (CX := CX0) (E := E) S hr.hd e0 (len _ _ _ _ hsp) r new
    refine ⟨(e0.mod.nolimit.keeps stay).keeps new.toInCall.keep, codeAny_func (wpAny_mono (ht.nox.run [] s1 (start N vs) H _ I hq) (fun fl s' hs => ?_) fun e s' hs => hs)⟩
    have done := ends_call (outer := outer) (s := s) (H := H) rfl rfl (fun J rv q => ⟨_, _, J.os, J.bare, J.base, J.hok, rv, q⟩) hs
    cases fl <;> first
      | exact done
      | exact False.elim done
end
/-- a def that may be called by its name while no repr runs -/
structure CalG (P : Program) (w : World) (K : PySem.W.Frag) (mg : Str → Option Value) (base : Heap) (x : Str) (st : Stmt) (k : Nat) (ps : List Str) (sp : Sp) : Prop where
  ex : ∃ f fd, FnOkG P w K mg base k f fd ps sp ∧ mg x = some (.ref f) ∧ Fun K x x st f fd ∧ Binds K fd ps []
section
variable {X : Cx} {x : Str} {st : Stmt} {k n : Nat} {ps : List Str} {sp : Sp} {p pos : Pos} {e : Expr} {es : List Expr} {t : TA}
theorem pe_clG (C : CalG X.prog X.w X.K X.mg X.base x st k ps sp) (hr : Room n X.A) (hgd : X.A.guards = some []) (ha : PA X (e :: es) t) (hkn : k ≤ n := by decide) (hg : Gl X x := by rfl) (hdb : (x == ("__debug__" : Str)) = false := by decide)
    (he : starEach (e :: es) X.env = (false, eval e X.env) :: starEach es X.env := by rfl) (hpl : (backTo pos (starEach es X.env)).any (·.1) = false := by rfl) : PE X (.Call (.Name x p) (e :: es) [] pos) (tCall sp [] E0 t) := by
  obtain ⟨f, fd, F, hm, hF, hb⟩ := C.ex
  refine ⟨fun pins s σ H Q I h => wpAny_Call_Name_kw (ld_glob I hg hm (PySem.W.callWith_K (h₀ := X.base) I.ok.mod.kin hF.kp (thn (ha.run pos pins s σ H _ I h) fun us s1 got => ?_) he hpl) hdb)⟩
  obtain ⟨vs, H1, I1, r, q⟩ := got
  rw [List.append_nil] at q
  refine ⟨I1.kIn, wpAny_call (codeAny_mono (F.run X.A X.stack s1 H1 ⟨us, []⟩ us vs Q E0 (hr.mono hkn) hgd I1.env0 ?_ r q) fun z s' hz => ?_)⟩
  · have := hb s1 us I1.kIn (by rw [List.append_nil, ← r.length]; exact F.len _ _ _ _ q)
    rwa [List.append_nil] at this
  · cases z with
    | error e => exact hz.elim
    | ok fl => cases fl with
      | ret u => exact I1.after hz
      | _ => exact hz.elim
/-- repr of a list or tuple of plain data -/
def rRepr (K : PySem.W.Frag) : List V → Hp → VK → Prop := fun xs H Q => ∃ (p : Addr) (d : PyData), xs = [.ref p] ∧ Dp K H (.ref p) d ∧ d.showable = true ∧ d.hasDict = false ∧ d.depth ≤ 50 ∧ d.shown.length ≤ sizeLine ∧ Q (T d.shown.cps.toList) H
theorem cr_repr (hgd : X.A.guards = some []) (hu : X.A.units + 64 < cLine) : CallR X (.builtin "repr") (rRepr X.K) := by
  intro pins s σ H xs us Q I r h
  obtain ⟨p, d, rfl, hd, h1, h2, h3, h4, q⟩ := h
  rw [Vals.ref1 r]
  obtain ⟨as, rd⟩ := Dp.reads I d _ _ hd rfl
  refine repr_of_reads' rd h1 (fun z => by rw [h2] at z; cases z) hgd (by omega) (fun b o e => e) (fun h' u tk hk => ?_) h4
  exact ⟨T d.shown.cps.toList, H, I.kept (t' := tk) hk, ⟨u, congrArg (fun z => Value.str z u) (SX.S_tl d.shown).symm⟩, q⟩
end
section
variable {P : Program} {w : World} {K : PySem.W.Frag} {mg mb : Str → Option Value} {k : Nat} {fa a : Addr} {fd : FuncData} {x : Str} {sp : Sp} {s₁ : Shared} {vs : List Value} {ns : List Int}
/-- the law's def at the heap behind the top, H telling of the script at most -/
theorem call_at (KX : K.In s₁.heap) (hns : s₁.heap.Ns mainGlobals mg) (hb : s₁.heap.Ns builtinsNs mb) (hbb : ∀ x : Str, x ≠ "__name__" → mb x = bootBuiltins x) (hlim : s₁.heap.NoLimit) (hg : s₁.gens = #[])
    (ha : s₁.heap.get? a = some { cls := .type "list", data := .seq vs.toArray }) (hr : Room k callerA) (F : ∀ base : Heap, K.In base → base.Ns mainGlobals mg → FnOkG P w K mg base k fa fd [x] sp) (hbind : ∀ (s : Shared) (u : Value), BindsTo s fd ⟨[u], []⟩ [(x, u)])
    (H : Hp) (hO : Only H) (hok : HOk P w H s₁.heap) (hA : ∀ b u, H b = some u → b = a ∧ K.lookup a = none) (hsp : sp [.ref a] H (fun v _ => v = .bl true) fun _ _ _ => False) :
    codeAny (model P w) callerA (.call (.ref fa) ⟨[.ref a], []⟩) (fun r s' => r = .ok (.ret (.bool true)) ∧ OldK s₁.heap s'.heap ∧ s'.os = s₁.os ∧ AllBare s'.gens) s₁ := by
  have free : ∀ {b : Addr}, (b = a → K.lookup a = none → False) → H b = none := fun {b} no => by
    cases q : H b with
    | none => rfl
    | some u => exact (no (hA b u q).1 (hA b u q).2).elim
  have dict : ∀ {b : Addr} {m : Str → Option Value}, s₁.heap.Ns b m → (hidT s₁.heap H).Ns b m := fun {b m} got => by
    obtain ⟨o, es, ep, e, d, r⟩ := got
    refine ⟨o, es, ep, hidT_get e (free fun z _ => ?_), d, r⟩
    subst z
    rw [ha] at e
    cases e
    cases d
  have own : K.In (hidT s₁.heap H) := fun b o e => hidT_get (KX b o e) (free fun z q => by subst z; rw [q] at e; cases e)
  have mod : Mod K mg (hidT s₁.heap H) := by
    obtain ⟨mc, l1, l2⟩ := hlim
    exact ⟨own, dict hns, ⟨mb, dict hb, hbb⟩, ⟨mc, dict l1, l2⟩⟩
  have none_in : ∀ {b : Addr}, b ∉ ([] : List Addr) := fun {b} z => nomatch z
  have e0 : Env0 P w K mg (hidT s₁.heap H) callerA [] s₁ H := ⟨rfl, mod, fun b o e => of_hidT e, Nat.le_of_eq (hidT_size _ _), trivial, fun b hb => (none_in hb).elim, hok, .of_eq hg⟩
  refine codeAny_mono ((F _ own (dict hns)).run callerA [] s₁ H ⟨[.ref a], []⟩ [.ref a] [.ref a] _ _ hr rfl e0 (hbind s₁ (.ref a)) (.cons rfl .nil) hsp) fun r s' h => ?_
  match r, h with
  | .ok (.ret u), ⟨v, H', os, bare, un, hok', rel, q⟩ =>
    have q' : v = .bl true := q
    subst q'
    have rel' : u = Value.bool true := rel
    subst rel'
    refine ⟨rfl, OldK.of_keep fun b o e => ?_, os, bare⟩
    rcases hO b with z | ⟨ob, xs, z⟩
    · exact un.keep b o e z none_in none_in
    · have e1 := (hok b _ z).1
      rw [e] at e1
      cases e1
      exact (hok' b _ (un.frzs b _ _ z)).1
theorem law_callG (KX : K.In s₁.heap) (hns : s₁.heap.Ns mainGlobals mg) (hb : s₁.heap.Ns builtinsNs mb) (hbb : ∀ x : Str, x ≠ "__name__" → mb x = bootBuiltins x) (hlim : s₁.heap.NoLimit) (hg : s₁.gens = #[])
    (ha : s₁.heap.get? a = some { cls := .type "list", data := .seq vs.toArray }) (hi : IntsAre vs ns) (hl : ns.length ≤ sizeLine) (hr : Room k callerA) (F : ∀ base : Heap, K.In base → base.Ns mainGlobals mg → FnOkG P w K mg base k fa fd [x] sp) (hbind : ∀ (s : Shared) (u : Value), BindsTo s fd ⟨[u], []⟩ [(x, u)])
    (hsp : ∀ H : Hp, Only H → SqL K H a (ns.map V.int) → sp [.ref a] H (fun v _ => v = .bl true) fun _ _ _ => False) :
    codeAny (model P w) callerA (.call (.ref fa) ⟨[.ref a], []⟩) (fun r s' => r = .ok (.ret (.bool true)) ∧ OldK s₁.heap s'.heap ∧ s'.os = s₁.os ∧ AllBare s'.gens) s₁ := by
  have rv := vals_ints hi
  have go := call_at (x := x) (sp := sp) KX hns hb hbb hlim hg ha hr F hbind
  cases hk : K.lookup a with
  | some o =>
    have e := KX a o hk
    rw [ha] at e
    cases e
    exact go (fun _ => none) (fun _ => .inl rfl) (fun b u z => nomatch (show (none : Option HO) = some u from z)) (fun b u z => nomatch (show (none : Option HO) = some u from z)) (hsp _ (fun _ => .inl rfl) (.inr ⟨_, vs.toArray, _, hk, rfl, rfl, rfl, by rw [List.size_toArray, hi.length]; exact hl, by simpa using rv⟩))
  | none =>
    obtain ⟨H, hH1, hH2⟩ : ∃ H : Hp, H a = some (.frz { cls := .type "list", data := .seq vs.toArray } (.lst (ns.map V.int))) ∧ ∀ b, b ≠ a → H b = none := ⟨fun b => if b = a then some (.frz { cls := .type "list", data := .seq vs.toArray } (.lst (ns.map V.int))) else none, if_pos rfl, fun b hb => if_neg hb⟩
    have only : Only H := fun b => by
      by_cases h : b = a
      · subst h; exact .inr ⟨_, _, hH1⟩
      · exact .inl (hH2 b h)
    refine go H only (fun b u z => ?_) (fun b u z => ?_) (hsp H only (.inl (.inr ⟨_, hH1⟩)))
    · by_cases h : b = a
      · subst h
        rw [hH1] at z
        cases z
        exact ⟨ha, by rw [List.length_map]; exact hl, vs, _, rv, ha⟩
      · rw [hH2 b h] at z
        cases z
    · by_cases h : b = a
      · exact ⟨h, hk⟩
      · rw [hH2 b h] at z
        cases z
end
theorem walk_ofG {l : PySem.W.OpenLaw} {n k : Nat} {q : Program} {loose : List Str} {XP : (Str → Option Value) → Heap → Prop} {YP : World → Heap → Prop} {d : DefRec} {K : Params → PySem.W.Frag} {sp : World → Sp} {x : Str}
    (hn : l.most = some n) (hn2 : n ≤ sizeLine) (hdf : d.params.defaults = []) (hr : Room k callerA) (hY : ∀ (w : World) (h : Heap), YP w h → (K w.params).In h)
    (F : ∀ (w : World) (mg : Str → Option Value) (fa : Addr) (h : Heap), (K w.params).In h → h.Ns mainGlobals mg → mg d.name = some (.ref fa) →
      ∃ fd : FuncData, (∀ (s : Shared) (u : Value), BindsTo s fd ⟨[u], []⟩ [(x, u)]) ∧ ∀ base : Heap, (K w.params).In base → base.Ns mainGlobals mg → FnOkG l.prog w (K w.params) mg base k fa fd [x] (sp w))
    (hsp : ∀ (w : World) (H : Hp) (a : Addr) (ns : List Int), ns.length ≤ n → (∀ z ∈ ns, Builtin.Int.intBits z ≤ 1048576) → Only H → SqL (K w.params) H a (ns.map V.int) → sp w [.ref a] H (fun v _ => v = .bl true) fun _ _ _ => False) :
    PySem.W.WalkO q loose XP YP l.row.toRowW d [] (fun f vs => PySem.call f vs) :=
  Att.attach_callB hn hdf fun w s₀ s₁ mg mb fa o pm cd doc a vs ns G Y _ _ _ hmg hobj hints hlen hbits hg => by
    obtain ⟨fd, hb, hF⟩ := F w mg fa _ (hY w _ Y) G.T.g hmg
    exact law_callG (hY w _ Y) G.T.g G.T.b G.T.builtins G.T.nolimit hg hobj hints (Nat.le_trans hlen hn2) hr hF hb fun H hO hS => hsp w H a ns hlen hbits hO hS
end Wg
set_option Elab.async false
set_option linter.all false
set_option maxRecDepth 100000
set_option maxHeartbeats 2000000
/-! a loop over a list or a tuple -/
namespace Wg
open PySem PySem.Spec PyProof.Rows L2 Evl Wc
theorem pi_or {X : Cx} {tg it : Expr} {w1 w2 : TI} (h1 : PI X tg it w1) (h2 : PI X tg it w2) : PI X tg it (fun σ H R => w1 σ H R ∨ w2 σ H R) := ⟨fun pins s σ H R I h => h.elim (h1.run pins s σ H R I) (h2.run pins s σ H R I)⟩
def iSeq (K : PySem.W.Frag) (tl : TE) : TI := fun σ H R => iList K tl σ H R ∨ iTup K tl σ H R
theorem pi_seq {X : Cx} {K : PySem.W.Frag} {tg l : Expr} {tl : TE} (hl : PE X l tl) (hK : X.K = K := by rfl) : PI X tg l (iSeq K tl) := hK ▸ pi_or (pi_list hl) (pi_tup hl)
section
variable {w1 w2 : TI} {σ : L2.St} {H : Hp} {n : Nat} {own : Addr → Prop} {P : Nat → V → Hp → Prop}
theorem src_orL (h : Src w1 σ H n own P) : Src (fun σ H R => w1 σ H R ∨ w2 σ H R) σ H n own P := fun H1 e R q => .inl (h H1 e R q)
theorem src_orR (h : Src w2 σ H n own P) : Src (fun σ H R => w1 σ H R ∨ w2 σ H R) σ H n own P := fun H1 e R q => .inr (h H1 e R q)
end
end Wg
set_option Elab.async false
set_option linter.all false
set_option maxRecDepth 100000
set_option maxHeartbeats 2000000
/-! comprehensions that make new objects, ranges backwards, smaller rules -/
namespace Wg
open PySem PySem.Spec PyProof.Rows L2 Evl Wc
section
variable {K : PySem.W.Frag} {σ : L2.St} {H : Hp} {te ta tb : TE}
theorem ex_of_exc {fa : Addr} {H H1 H2 : Hp} (e : Ex H H1) (hf : H fa = none) (x : Exc (fun c => c = fa) H1 H2) : Ex H H2 := fun c o hc => x c o (fun z => by rw [z, hf] at hc; cases hc) (e c o hc)
/-- new objects, one for each o i, in p -/
structure News (H H' : Hp) (o : Nat → HO) (ps : List Addr) : Prop where
  new : ∀ p ∈ ps, H p = none
  at_ : ∀ i p, ps[i]? = some p → H' p = some (o i)
  nd : ps.Nodup
theorem lcN {wi : TI} {j : Nat} {vs : List Nat} {n : Nat} {own : Addr → Prop} {P : Nat → V → Hp → Prop} {Q : VK} (o : Nat → HO) (hs : Src wi σ H n own P) (hn : n ≤ 40000) (hw : ∀ x, wipe ((wipe σ vs).set j (some x)) vs = wipe σ vs)
    (he : ∀ (i : Nat) (x : V) H1, i < n → P i x H1 → Ex H H1 → ∀ Q' : VK, (∀ p H2, H1 p = none → Ex H1 H2 → H2 p = some (o i) → Q' (.ref p) H2) → te ((wipe σ vs).set j (some x)) H1 Q')
    (k : ∀ q H2 ps, H q = none → Ex H H2 → H2 q = some (.lst (ps.map V.ref)) → ps.length = n → News H H2 o ps → q ∉ ps → Q (.ref q) H2) : tLc wi (gName j) tYes te vs σ H Q :=
  hs H (Ex.refl H) _ fun J H1 S e1 w hS => fun Dl hD => by
    have hDH : H Dl = none := fresh_back e1 hD
    refine lc_it w (Qd := fun H3 => Q (.ref Dl) H3) (fun i Hi => Ex H1 Hi ∧ ∃ ps : List Addr, Hi Dl = some (.lst (ps.map V.ref)) ∧ ps.length = i ∧ News H1 Hi o ps ∧ Dl ∉ ps) ?_ (fun i Hi hi p => hS (fun _ => False) Hi (fun b z => z.elim) (.of p.1)) ?_ ?_
    · exact ⟨Ex.new hD, [], upd_same, rfl, ⟨fun p hp => (nomatch hp), fun i p hp => (by rw [List.getElem?_nil] at hp; cases hp), List.Pairwise.nil⟩, fun hp => (nomatch hp)⟩
    · rintro i x Ha Hb hi ⟨R, ps, h1, h2, h3, h4⟩ ⟨ey, hP⟩
      refine ⟨hw x, ?_⟩
      show te ((wipe σ vs).set j (some x)) Hb fun y H4 => _
      refine he i x Hb hi hP (e1.trans (R.trans ey)) _ fun p H4 hp e4 hp4 => ?_
      have hDl4 : H4 Dl = some (.lst (ps.map V.ref)) := e4 _ _ (ey _ _ h1)
      have npD : p ≠ Dl := fun z => by rw [z, ey _ _ h1] at hp; cases hp
      refine ⟨ps.map V.ref, hDl4, sz_lt (by rw [List.length_map]; omega), Ex.mut ((R.trans ey).trans e4) hD, ps ++ [p], by rw [upd_same, List.map_append]; rfl, by rw [List.length_append, h2]; rfl, ⟨fun q hq => ?_, fun t q hq => ?_, ?_⟩, fun hq => ?_⟩
      · rcases List.mem_append.mp hq with hq | hq
        · exact h3.new q hq
        · rw [List.mem_singleton.mp hq]
          exact fresh_back (R.trans ey) hp
      · by_cases ht : t < ps.length
        · rw [List.getElem?_append_left ht] at hq
          have hne : q ≠ Dl := fun z => h4 (z ▸ List.mem_of_getElem? hq)
          rw [upd_ne hne]
          exact e4 _ _ (ey _ _ (h3.at_ t q hq))
        · rw [List.getElem?_append_right (by omega)] at hq
          have ht0 : t - ps.length = 0 := by
            by_cases z : t - ps.length = 0
            · exact z
            · rw [List.getElem?_eq_none (by simp; omega)] at hq
              cases hq
          rw [ht0] at hq
          cases hq
          rw [upd_ne npD, hp4]
          congr 2
          omega
      · refine List.nodup_append.mpr ⟨h3.nd, List.pairwise_singleton _ _, fun a ha b hb => ?_⟩
        rw [List.mem_singleton.mp hb]
        rintro rfl
        obtain ⟨t, ht⟩ := List.mem_iff_getElem?.mp ha
        have := ey _ _ (h3.at_ t _ ht)
        rw [hp] at this
        cases this
      · rcases List.mem_append.mp hq with hq | hq
        · exact h4 hq
        · exact npD (List.mem_singleton.mp hq).symm
    · rintro H3 ⟨R, ps, h1, h2, h3, h4⟩
      exact k Dl H3 ps hDH (e1.trans R) h1 h2 ⟨fun p hp => fresh_back e1 (h3.new p hp), h3.at_, h3.nd⟩ h4
/-- from the end of a range -/
theorem src_revR {n : Nat} (h : Ev te σ H (.int (n : Int))) (hn : n ≤ 1000000000) : Src (iRevR (tRg1 te)) σ H n (fun _ => False) (fun i v _ => v = .int ((n : Int) - 1 - (i : Int))) := fun H1 e R q =>
  h H1 e _ fun H2 e2 => ⟨(n : Int), rfl, by omega, by omega, by omega, by omega, by
    have e0 : ((n : Int) - 0).toNat = n := by omega
    rw [e0, show (0 : Int) + (n : Int) - 1 = (n : Int) - 1 by omega]
    have w := (walk_rangeC (lo := (n : Int) - 1) (c := -1) (n := n)).mono (fun _ z => z) (Y' := fun i Ha v Hb => Ex Ha Hb ∧ v = .int ((n : Int) - 1 - (i : Int))) (fun i Ha v Hb _ _ hy => by
      obtain ⟨rfl, rfl⟩ := hy
      exact ⟨Ex.refl _, by show V.int ((n : Int) - 1 + ((i : Nat) : Int) * -1) = _; congr 1; omega⟩)
    exact q _ H2 _ e2 w fun _ _ _ _ => True.intro⟩
theorem q_parLC {i j : Nat} {c : V} {tz : TS} {D : Ends} {xs : List V} (h : EvL ta σ H xs) (k : ∀ p H1, H p = none → Ex H H1 → H1 p = some (.lst xs) → tz D ((σ.set i (some (.ref p))).set j (some c)) H1) : tSeq (tPar i j (tCons ta (tCons (tC c) tNil))) tz D σ H :=
  h H (Ex.refl _) _ fun p H1 hp e1 h1 => ⟨.ref p, c, rfl, k p H1 hp e1 h1⟩
theorem q_parCC {i j : Nat} {c d : V} {tz : TS} {D : Ends} (k : tz D ((σ.set i (some c)).set j (some d)) H) : tSeq (tPar i j (tCons (tC c) (tCons (tC d) tNil))) tz D σ H := ⟨c, d, rfl, k⟩
/-- two names, two constants -/
theorem q_asg2C {i j : Nat} {c d : V} {tz : TS} {D : Ends} (k : ∀ H1, Ex H H1 → tz D ((σ.set i (some c)).set j (some d)) H1) : tSeq (tAsg (tTup (tCons (tC c) (tCons (tC d) tNil))) (gTup K 2 (gCons (gName i) (gCons (gName j) gNil)))) tz D σ H :=
  ⟨by show 2 ≤ sizeLine; decide, fun pt hpt => ⟨pt, _, rfl, st_of upd_same, rfl, c, [d], rfl, d, [], rfl, rfl, k _ (Ex.new hpt)⟩⟩
theorem q_asgIf {i : Nat} {tu : TT} {tz : TS} {D : Ends} {b : Bool} (h : EvT tu σ H b) (h1 : b = true → ∀ H1, Ex H H1 → ta σ H1 fun v H2 => tz D (σ.set i (some v)) H2) (h2 : b = false → ∀ H1, Ex H H1 → tb σ H1 fun v H2 => tz D (σ.set i (some v)) H2) : tSeq (tAsg (tIf tu ta tb) (gName i)) tz D σ H := h H (Ex.refl H) _ fun H1 e1 => by
  cases b with
  | true => exact h1 rfl H1 e1
  | false => exact h2 rfl H1 e1
theorem hix {i : Nat} {x : Addr} {xs : List V} {j : Int} {v : V} (hx : H x = some (.tup xs)) (h0 : σ[i]? = some (some (.ref x))) (ha : atI xs j = some v) : Ev (tOp (rIxAny K) (tVar i) (tC (.int j))) σ H v := ev_op (ev_var h0) ev_c fun H3 e3 Q3 q3 => .inl (.inr (rv_ixT (K := K) (st_of hx) ha H3 e3 Q3 q3))
def rMin2 : List V → Hp → VK → Prop := fun xs H Q => ∃ i j, xs = [.int i, .int j] ∧ Q (.int (if j < i then j else i)) H
theorem ev_min2 {i j : Int} (ha : Ev ta σ H (.int i)) (hb : Ev tb σ H (.int j)) : Ev (tCB rMin2 (tCons ta (tCons tb tNil))) σ H (.int (if j < i then j else i)) := fun H1 e Q q =>
  ha H1 e _ fun H2 e2 => hb H2 (e.trans e2) _ fun H3 e3 => ⟨i, j, rfl, q H3 (e2.trans e3)⟩
end
end Wg
set_option Elab.async false
set_option linter.all false
set_option maxRecDepth 100000
set_option maxHeartbeats 2000000
/-! errors of own classes: raised, passed on, caught; three named values -/
namespace Wg
open PySem PySem.Spec PyProof.Rows L2 Evl Wc
/-- an own class of errors under ValueError, by its name -/
structure Err (K : PySem.W.Frag) (mg : Str → Option Value) (x : Str) (C : Addr) : Prop where
  gP : mg x = some (.ref C)
  xP : PySem.W.excIn K C [.type "ValueError", .type "Exception", .type "BaseException", .type "object"] "ValueError.__new__" = true
  kP : PySem.W.keepIn K (.ref C) = true
  bP : PySem.W.subIn K (.ref C) (.type "BaseException") = some true
  tP : PySem.W.typeIn K (.ref C) = some (.type "type")
/-- .. caught by its own name, asked for its kind -/
structure ErrI (K : PySem.W.Frag) (C : Addr) : Prop where
  te : PySem.W.exmOne K (.ref C) (.ref C) = some true
  cl : ExcC K C
/-- isinstance of the error that the suite holds, of whatever class -/
def rIsE2 (K : PySem.W.Frag) (D a : Addr) (cls : Value) (d : Option Addr) : List V → Hp → VK → Prop := fun xs H Q => cls = .ref D ∧ d = none ∧ rIsE K D a xs H Q
theorem call_isE2 {X : Cx} {a D : Addr} {oe : Obj} {pn : List (Addr × Obj)} {cls : Value} {d : Option Addr} (C : ExcC X.K D) (hz : Zc cls d oe) (hf : ∃ vs, oe.data = .fields vs) : CallR (X.suite a ((a, oe) :: pn)) (.builtin "isinstance") (rIsE2 X.K D a cls d) := by
  intro pins s σ H xs us Q I r h
  obtain ⟨rfl, rfl, h⟩ := h
  exact (call_isE C hz hf) pins s σ H xs us Q I r h
theorem is_err {K : PySem.W.Frag} {D a B : Addr} {b : Bool} {H : Hp} {Q : VK} (h : PySem.W.kitOne K (.ref D) (.ref B) = some b) (q : Q (.bl b) H) : rIsE2 K D a (.ref D) none [.ref a, .ref B] H Q := ⟨rfl, rfl, .ref B, .ref B, b, rfl, fun u hu => by cases hu; rfl, h, q⟩
section
variable {P : Program} {w : World} {K : PySem.W.Frag} {mg : Str → Option Value} {base : Heap}
/-- a def that may raise, called by its name -/
structure CalS (P : Program) (w : World) (K : PySem.W.Frag) (mg : Str → Option Value) (base : Heap) (x : Str) (st : Stmt) (k : Nat) (ps : List Str) (sp : Sp) : Prop where
  ex : ∃ f fd, FnOk P w K mg base (L2.CX P w) k f fd ps sp ∧ mg x = some (.ref f) ∧ Fun K x x st f fd ∧ Binds K fd ps []
/-- .. where it raises nothing -/
def calm (sp : Sp) : Sp := fun vs H Q _ => sp vs H Q E0
theorem CalS.calm {x : Str} {st : Stmt} {k : Nat} {ps : List Str} {sp : Sp} (C : CalS P w K mg base x st k ps sp) : Cal P w K mg base x st k ps (calm sp) := by
  obtain ⟨f, fd, F, hm, hF, hb⟩ := C.ex
  refine ⟨f, fd, ⟨fun vs H Q E h => F.len _ _ _ _ h, fun A outer s H args us vs Q E hr he hb r h => codeAny_mono (F.run A outer s H args us vs Q E0 hr he hb r h) fun z s' hz => ?_⟩, hm, hF, hb⟩
  cases z with
  | ok fl => cases fl <;> exact hz
  | error e =>
    obtain ⟨_, _, _, _, _, _, _, _, _, _, _, _, no⟩ := hz
    exact no
end
section
variable {X : Cx} {x : Str} {st : Stmt} {k n : Nat} {ps : List Str} {sp : Sp} {p pos pos' p2 : Pos} {e : Expr} {es : List Expr} {t : TA} {W : WX} {m : Str} {j : Nat} {C : Addr}
theorem pe_clS (Cl : CalS X.prog X.w X.K X.mg X.base x st k ps sp) (hr : Room n X.A) (tk : Takes X W) (ha : PA X (e :: es) t) (hkn : k ≤ n := by decide) (hg : Gl X x := by rfl) (hdb : (x == ("__debug__" : Str)) = false := by decide)
    (he : starEach (e :: es) X.env = (false, eval e X.env) :: starEach es X.env := by rfl) (hpl : (backTo pos (starEach es X.env)).any (·.1) = false := by rfl) : PE X (.Call (.Name x p) (e :: es) [] pos) (tCallS sp (WE W) t) := by
  obtain ⟨f, fd, F, hm, hF, hb⟩ := Cl.ex
  exact pe_callS F (hr.mono hkn) hg hm hF.kp hb (fun σ => passAt tk σ) ha hdb he hpl
theorem ps_raiseE (hc : X.calm = true) (tk : Takes X W) (Er : Err X.K X.mg x C) (hg : Gl X x := by rfl) (hdb : (x == ("__debug__" : Str)) = false := by decide) : PS X (.Raise (some (.Call (.Name x p) [.Constant (.str m) j p2] [] pos)) none pos') (fun _ σ H => W (.ref C) none σ H) :=
  ps_raise hc tk (pmk_own PySem.F.excBase_ValueError Er.xP Er.gP Er.kP (raises_own Er.bP Er.tP) hg hdb)
end
/-- three named values, the last one first -/
def sw3 {α : Type} : List α → List α → List α
  | [], [a, b, c] => [c, b, a]
  | _, _ => []
theorem sw3_rel {vs zs : List V} {us ws : List Value} (r : Vals vs us) (rz : Vals zs ws) : Vals (sw3 vs zs) (sw3 us ws) := by
  cases r with
  | cons => exact .nil
  | nil =>
    match zs, ws, rz with
    | [], _, .nil => exact .nil
    | [_], _, .cons _ .nil => exact .nil
    | [_, _], _, .cons _ (.cons _ .nil) => exact .nil
    | [_, _, _], _, .cons h1 (.cons h2 (.cons h3 .nil)) => exact .cons h3 (.cons h2 (.cons h1 .nil))
    | _ :: _ :: _ :: _ :: _, _, .cons _ (.cons _ (.cons _ (.cons _ _))) => exact .nil
theorem kb3 {x : Str} {st : Stmt} {ps ks : List Str} (hp : ps.length = 3)
    (h : ∀ (kV doc pm : Value) (an : Option Addr) (cdv ct a b c : Value), bindArgs (PySem.W.fnOf x x (defArgs st) (defBody st) (defScope st) .none kV doc pm an cdv ct) ⟨[], ks.zip [a, b, c]⟩ = pure (ps.zip (sw3 [] [a, b, c]))) : KB x st 0 ps ks sw3 sw3 := by
  intro K f fd F
  obtain ⟨oc, od, kV, doc, pm, an, cdv, ct, osl, rfl, lk, hcd⟩ := F.ex
  refine ⟨fun s us ws _ hl => ?_, fun r rz => sw3_rel r rz⟩
  rw [hp] at hl
  match us, ws, hl with
  | [], [a, b, c], _ => exact .of_eq (h kV doc pm an cdv ct a b c)
  | [], [], hl => exact absurd hl (by simp [sw3])
  | [], [_], hl => exact absurd hl (by simp [sw3])
  | [], [_, _], hl => exact absurd hl (by simp [sw3])
  | [], _ :: _ :: _ :: _ :: _, hl => exact absurd hl (by simp [sw3])
  | _ :: _, ws, hl => exact absurd hl (by simp [sw3])
end Wg
set_option Elab.async false
set_option linter.all false
set_option maxRecDepth 100000
set_option maxHeartbeats 2000000
/-! two lists, item by item; a pair popped off a list -/
namespace Wg
open PySem PySem.Spec PyProof.Rows L2 Evl Wc
inductive All2 {α β : Type} (R : α → β → Prop) : List α → List β → Prop
  | nil : All2 R [] []
  | cons {a : α} {b : β} {as : List α} {bs : List β} : R a b → All2 R as bs → All2 R (a :: as) (b :: bs)
namespace All2
variable {α β : Type} {R R' : α → β → Prop} {as as' : List α} {bs bs' : List β}
theorem mono (h : All2 R as bs) (k : ∀ a b, R a b → R' a b) : All2 R' as bs := by
  induction h with
  | nil => exact .nil
  | cons r _ ih => exact .cons (k _ _ r) ih
theorem len (h : All2 R as bs) : as.length = bs.length := by
  induction h with
  | nil => rfl
  | cons _ _ ih => rw [List.length_cons, List.length_cons, ih]
theorem app (h : All2 R as bs) (h' : All2 R as' bs') : All2 R (as ++ as') (bs ++ bs') := by
  induction h with
  | nil => exact h'
  | cons r _ ih => exact .cons r ih
theorem one {a : α} {b : β} (r : R a b) : All2 R [a] [b] := .cons r .nil
theorem push {a : α} {b : β} (h : All2 R as bs) (r : R a b) : All2 R (as ++ [a]) (bs ++ [b]) := h.app (one r)
theorem pop : ∀ {as : List α} {bs : List β} {b : β}, All2 R as (bs ++ [b]) → ∃ as' a, as = as' ++ [a] ∧ All2 R as' bs ∧ R a b
  | [], [], _, h => nomatch h
  | [], _ :: _, _, h => nomatch h
  | a :: as, [], b, h => by
    cases h with
    | cons r h' => cases h' with
      | nil => exact ⟨[], a, rfl, .nil, r⟩
  | a :: as, b0 :: bs, b, h => by
    cases h with
    | cons r h' =>
      obtain ⟨as', x, rfl, h1, h2⟩ := pop h'
      exact ⟨a :: as', x, rfl, .cons r h1, h2⟩
theorem at_ (h : All2 R as bs) : ∀ {i : Nat} {b : β}, bs[i]? = some b → ∃ a, as[i]? = some a ∧ R a b := by
  induction h with
  | nil => intro i b h; simp at h
  | cons r _ ih =>
    intro i b h
    cases i with
    | zero =>
      rw [List.getElem?_cons_zero] at h
      cases h
      exact ⟨_, rfl, r⟩
    | succ i => exact ih (by rwa [List.getElem?_cons_succ] at h)
theorem take (h : All2 R as bs) (n : Nat) : All2 R (as.take n) (bs.take n) := by
  induction h generalizing n with
  | nil => simp; exact .nil
  | cons r _ ih => cases n with
    | zero => exact .nil
    | succ n => exact .cons r (ih n)
end All2
section
variable {K : PySem.W.Frag} {σ : L2.St} {H : Hp}
theorem q_popP {i a b : Nat} {pw t : Addr} {xs : List V} {u v : V} {D : Ends} {tz : TS} (h0 : σ[i]? = some (some (.ref pw))) (h : H pw = some (.lst (xs ++ [.ref t]))) (ht : H t = some (.tup [u, v])) (k : tz D ((σ.set a (some u)).set b (some v)) (upd H pw (.lst xs))) :
    tSeq (tAsg (tBM0 K "list" rPop (tVar i)) (gTup K 2 (gCons (gName a) (gCons (gName b) gNil)))) tz D σ H := by
  have hne : t ≠ pw := fun z => by rw [z, h] at ht; cases ht
  refine ⟨.ref pw, h0, Or.inl ⟨rfl, _, sq_of h⟩, pw, xs ++ [.ref t], .ref t, rfl, rfl, h, by simp, ?_⟩
  rw [List.dropLast_concat]
  exact ⟨t, _, rfl, st_of (by rw [upd_ne hne]; exact ht), rfl, u, [v], rfl, v, [], rfl, rfl, k⟩
theorem s_appT {i : Nat} {l : Addr} {xs : List V} {te : TE} {D : Ends} (h0 : σ[i]? = some (some (.ref l))) (hl : H l = some (.lst xs)) (h : te σ H fun v H2 => rAppend (.ref l) [v] H2 fun _ H3 => D.nx σ H3) : tDrop (tBM K "list" rAppend (tVar i) (tCons te tNil)) D σ H := ⟨.ref l, h0, Or.inl ⟨rfl, xs, sq_of hl⟩, h⟩
end
end Wg
set_option Elab.async false
set_option linter.all false
set_option maxRecDepth 100000
set_option maxHeartbeats 4000000
namespace K01
open PySem PySem.Spec PyProof.Rows L2 Evl Wc Wt Wg
def areSigns (a : Tx) (most : Int) : Bool := decide ((a.length : Int) ≤ most) && a.all fun c => decide (c ∈ [97, 98, 99, 100])
theorem areSigns_ok {a : Tx} {m : Nat} (h1 : a.length ≤ m) (h2 : ∀ c ∈ a, abcd c) : areSigns a (m : Int) = true := by
  unfold areSigns
  rw [Bool.and_eq_true, decide_eq_true_eq, List.all_eq_true]
  refine ⟨by omega, fun c hc => decide_eq_true ?_⟩
  have := h2 c hc
  unfold abcd at this
  have h4 : c = 97 ∨ c = 98 ∨ c = 99 ∨ c = 100 := by omega
  rcases h4 with rfl | rfl | rfl | rfl <;> decide
/-- parts: texts, and what is none -/
inductive El (H : Hp) : V → Option Tx → Prop
  | str (t : Tx) : El H (T t) (some t)
  | lst {a : Addr} {xs : List V} : H a = some (.lst xs) → El H (.ref a) none
  | tup {a : Addr} {xs : List V} : H a = some (.tup xs) → El H (.ref a) none
  | non : El H .non none
  | int (i : Int) : El H (.int i) none
  | bl (b : Bool) : El H (.bl b) none
theorem El.ex {H H1 : Hp} {v : V} {o : Option Tx} (h : El H v o) (e : Ex H H1) : El H1 v o := by
  cases h with
  | str t => exact .str t
  | lst h => exact .lst (e _ _ h)
  | tup h => exact .tup (e _ _ h)
  | non => exact .non
  | int i => exact .int i
  | bl b => exact .bl b
/-- things: a tuple of such, or something else -/
inductive Th (H : Hp) : V → Option (List (Option Tx)) → Prop
  | tup {a : Addr} {vs : List V} {os : List (Option Tx)} : H a = some (.tup vs) → All2 (El H) vs os → Th H (.ref a) (some os)
  | lst {a : Addr} {xs : List V} : H a = some (.lst xs) → Th H (.ref a) none
  | non : Th H .non none
  | int (i : Int) : Th H (.int i) none
  | str (s : Tx) : Th H (T s) none
theorem Th.ex {H H1 : Hp} {v : V} {o : Option (List (Option Tx))} (h : Th H v o) (e : Ex H H1) : Th H1 v o := by
  cases h with
  | tup h h2 => exact .tup (e _ _ h) (h2.mono fun _ _ r => r.ex e)
  | lst h => exact .lst (e _ _ h)
  | non => exact .non
  | int i => exact .int i
  | str s => exact .str s
def signsB (m : Nat) : Option Tx → Bool
  | none => false
  | some t => areSigns t m
def wordB : Option Tx → Bool
  | none => false
  | some t => areSigns t 12 && !decide (t = [])
def ascB (ws : List Tx) : Bool := (List.zip ws (ws.drop 1)).all fun a => decide (a.1 < a.2)
/-- the texts of a thing -/
def txs (os : List (Option Tx)) : List Tx := os.map fun o => o.getD []
def lotB : Option (List (Option Tx)) → Bool
  | none => false
  | some os => (decide (1 ≤ os.length) && decide (os.length ≤ 12)) && (os.all wordB && ascB (txs os))
theorem lotB_some (os : List (Option Tx)) : lotB (some os) = ((decide (1 ≤ os.length) && decide (os.length ≤ 12)) && (os.all wordB && ascB (txs os))) := rfl
/-- of a size to be looked at -/
def Sm : Option (List (Option Tx)) → Prop
  | none => True
  | some os => os.length ≤ 1000 ∧ ∀ t, some t ∈ os → t.length ≤ 20000
def LotAt (p : Addr) (lot : List Tx) (H : Hp) : Prop := H p = some (.tup (lot.map T)) ∧ IsLot lot
theorem LotAt.ex {p : Addr} {lot : List Tx} {H H1 : Hp} (h : LotAt p lot H) (e : Ex H H1) : LotAt p lot H1 := ⟨e _ _ h.1, h.2⟩
theorem all2_some {H : Hp} : ∀ (ts : List Tx), All2 (El H) (ts.map T) (ts.map some)
  | [] => .nil
  | t :: ts => .cons (.str t) (all2_some ts)
theorem txs_some (ts : List Tx) : txs (ts.map some) = ts := by
  unfold txs
  rw [List.map_map]
  exact (List.map_congr_left fun t _ => rfl).trans (List.map_id _)
theorem zip_lt : ∀ {lot : List Tx}, lot.Pairwise (· < ·) → ∀ a ∈ List.zip lot (lot.drop 1), a.1 < a.2
  | [], _, a, h => by simp at h
  | [x], _, a, h => by simp at h
  | x :: y :: r, hp, a, h => by
    rw [List.pairwise_cons] at hp
    simp only [List.drop_succ_cons, List.drop_zero, List.zip_cons_cons, List.mem_cons] at h
    rcases h with rfl | h
    · exact hp.1 y List.mem_cons_self
    · have := zip_lt hp.2 a
      simp only [List.drop_succ_cons, List.drop_zero] at this
      exact this h
theorem lot_lotB {lot : List Tx} (h : IsLot lot) : lotB (some (lot.map some)) = true := by
  rw [lotB_some, txs_some, List.length_map]
  have h1 : 1 ≤ lot.length := List.length_pos_iff.mpr h.ne
  rw [Bool.and_eq_true, Bool.and_eq_true, Bool.and_eq_true, decide_eq_true_eq, decide_eq_true_eq]
  refine ⟨⟨h1, h.few⟩, List.all_eq_true.mpr fun o ho => ?_, List.all_eq_true.mpr fun a ha => decide_eq_true (zip_lt h.asc a ha)⟩
  obtain ⟨t, ht, rfl⟩ := List.mem_map.mp ho
  show (areSigns t 12 && !decide (t = [])) = true
  rw [show areSigns t 12 = true from areSigns_ok (m := 12) (h.wd t ht).1 (h.wd t ht).2, decide_eq_false (h.pos t ht)]
  rfl
theorem lot_sm {lot : List Tx} (h : IsLot lot) : Sm (some (lot.map some)) := ⟨by rw [List.length_map]; have := h.few; omega, fun t ht => by
  obtain ⟨u, hu, hz⟩ := List.mem_map.mp ht
  cases hz
  have := (h.wd t hu).1
  omega⟩
theorem all2_at {α β : Type} {R : α → β → Prop} : ∀ {as : List α} {bs : List β} {i : Nat} {a : α}, All2 R as bs → as[i]? = some a → ∃ b, bs[i]? = some b ∧ R a b
  | _, _, 0, _, .cons r _, h => by
    cases h
    exact ⟨_, rfl, r⟩
  | _, _, i + 1, _, .cons _ hs, h => all2_at hs (i := i) h
theorem all_words {H : Hp} : ∀ {vs : List V} {os : List (Option Tx)}, All2 (El H) vs os → os.all wordB = true → vs = (txs os).map T
  | _, _, .nil, _ => rfl
  | _, _, .cons (b := o) r hs, h => by
    rw [List.all_cons, Bool.and_eq_true] at h
    cases r with
    | str t =>
      show _ = T t :: (txs _).map T
      rw [all_words hs h.2]
    | _ => exact absurd h.1 Bool.false_ne_true
section
variable {P : Program} {w : World} {K : PySem.W.Frag} {mg : Str → Option Value} {base : Heap}
def sp_are_signs : Sp := fun vs H Q _ => ∃ (v : V) (o : Option Tx) (most : Nat), vs = [v, .int (most : Int)] ∧ El H v o ∧ (∀ t, o = some t → t.length ≤ 20000) ∧ RetV (.bl (signsB most o)) H Q
def sp_is_text : Sp := fun vs H Q _ => ∃ (a : Tx), vs = [T a] ∧ a.length ≤ 20000 ∧ RetV (.bl (areSigns a 400)) H Q
def sp_need_text : Sp := fun vs H Q _ => ∃ (a : Tx), vs = [T a] ∧ a.length ≤ 400 ∧ (∀ c ∈ a, abcd c) ∧ RetV .non H Q
def sp_need_some : Sp := fun vs H Q _ => ∃ (a : Tx), vs = [T a] ∧ a.length ≤ 400 ∧ (∀ c ∈ a, abcd c) ∧ a ≠ [] ∧ RetV .non H Q
def sp_is_word : Sp := fun vs H Q _ => ∃ (v : V) (o : Option Tx), vs = [v] ∧ El H v o ∧ (∀ t, o = some t → t.length ≤ 20000) ∧ RetV (.bl (wordB o)) H Q
def sp_ascending : Sp := fun vs H Q _ => ∃ (p : Addr) (lot : List Tx), vs = [.ref p] ∧ H p = some (.tup (lot.map T)) ∧ lot ≠ [] ∧ lot.length ≤ 1000 ∧ RetV (.bl (ascB lot)) H Q
def sp_lot_form : Sp := fun vs H Q _ => ∃ (v : V) (o : Option (List (Option Tx))), vs = [v] ∧ Th H v o ∧ Sm o ∧ RetV (.bl (lotB o)) H Q
def sp_need_lot : Sp := fun vs H Q _ => ∃ (p : Addr) (lot : List Tx), vs = [.ref p] ∧ LotAt p lot H ∧ RetV .non H Q
theorem ok_are_signs {f : Addr} {fd : FuncData} (F : Fun K "are_signs" "are_signs" st_are_signs f fd) (M : Md K mg) : FnOk P w K mg base CX0 1 f fd ["thing", "most"] sp_are_signs := by
  have nd := sc_are_signs.nd
  refine F.ok sc_are_signs (fun vs H Q E h => ?_) (fun cdv A outer s H vs Q E hr h => ?_)
  · obtain ⟨_, _, _, rfl, _⟩ := h
    rfl
  · obtain ⟨v, o, most, rfl, hv, ha, k⟩ := h
    refine ⟨_, (pss_one (ps_ret (pe_and (pe_callB (kcr K (r := rIsiB) cr_isi) (by rfl) M.n_isinstance boot_isinstance (pa_cons (pv 0) (pa_cons (pe_bltn (v := .ty "str") rfl M.n_str boot_str rfl) pa_nil))) (pe_and (pe_cmpR op_le (pe_callB cr_lenT (by rfl) M.n_len boot_len (pa_cons (pv 0) pa_nil)) (pv 1) (nomark _)) (pe_one (pe_callB (kcr K (r := rAll) (cr_all rfl)) (by rfl) M.n_all boot_all (pa_cons (pe_lc (own := [("sign", 2)]) rfl nd (pi_str (pv 0)) (blkOk_by (N := N_are_signs) (sc := defScope st_are_signs) (by decide +kernel)) (fun _ _ _ _ _ => (pg_name (i := 2) nd rfl (Or.inl rfl))) (fun _ _ _ _ _ => pts_nil) (fun _ _ _ _ _ => (pe_cmpR op_inT (pv 2) (pe_gT M.c_SIGNS [97, 98, 99, 100]) (by rfl)))) pa_nil))))))), ?_⟩
    cases o with
    | none =>
      have hty : ∃ t, (∀ H1, Ex H H1 → TyX K H1 v (.type t)) ∧ kitB t "str" = some false := by
        cases hv with
        | lst h => exact ⟨"list", fun H1 e => .base (.lst (e _ _ h)), by decide +kernel⟩
        | tup h => exact ⟨"tuple", fun H1 e => .base (.tup (e _ _ h)), by decide +kernel⟩
        | non => exact ⟨"NoneType", fun _ _ => .base .non, by decide +kernel⟩
        | int i => exact ⟨"int", fun _ _ => .base (.int i), by decide +kernel⟩
        | bl b => exact ⟨"bool", fun _ _ => .base (.bl b), by decide +kernel⟩
      obtain ⟨t, hty, hk⟩ := hty
      exact s_ret (ev_is (w := .bl (signsB most none)) (ev_andV (a := false) (b := false) (ev_cb (ea_cons (ev_var rfl) (ea_cons ev_c ea_nil)) (rc_isi (b := false) hty hk)) fun z => by cases z) rfl) k
    | some a =>
      cases hv
      have ha := ha a rfl
      exact s_ret (ev_andV (ev_cb (ea_cons (ev_var rfl) (ea_cons ev_c ea_nil)) (rc_isi (b := true) (fun _ _ => .base (.str _)) k_str_str)) fun _ => ev_andV (ev_op (ev_cb (ea_cons (ev_var rfl) ea_nil) (rc_lenT (by omega))) (ev_var rfl) rv_I0) fun _ =>
        ev_cbL (el_lcM a (src_str (ev_var rfl)) (by omega) (fun _ => rfl) fun c H1 e1 hc => ev_op (ev_var rfl) ev_c rv_inT) fun p H1 hp e1 => rc_allM (sq_of hp)) k
theorem ok_is_text {f : Addr} {fd : FuncData} (F : Fun K "is_text" "is_text" st_is_text f fd) (M : Md K mg) (C_are_signs : Cal P w K mg base "are_signs" st_are_signs 1 ["thing", "most"] sp_are_signs) : FnOk P w K mg base CX0 2 f fd ["thing"] sp_is_text := by
  have nd := sc_is_text.nd
  refine F.ok sc_is_text (fun vs H Q E h => ?_) (fun cdv A outer s H vs Q E hr h => ?_)
  · obtain ⟨_, rfl, _⟩ := h
    rfl
  · obtain ⟨a, rfl, ha, k⟩ := h
    refine ⟨_, (pss_one (ps_ret (pe_cl C_are_signs hr (pa_cons (pv 0) (pa_cons (pe_gI M.c_MOST_SIGNS) pa_nil))))), ?_⟩
    exact s_ret (ev_call (ea_cons (ev_var rfl) (ea_cons ev_c ea_nil)) fun H1 e1 Q q E => ⟨_, some a, 400, rfl, .str a, fun t ht => by cases ht; exact ha, q⟩) k
theorem ok_need_text {f : Addr} {fd : FuncData} (F : Fun K "need_text" "need_text" st_need_text f fd) (M : Md K mg) (C_is_text : Cal P w K mg base "is_text" st_is_text 2 ["thing"] sp_is_text) : FnOk P w K mg base CX0 3 f fd ["text"] sp_need_text := by
  have nd := sc_need_text.nd
  refine F.ok sc_need_text (fun vs H Q E h => ?_) (fun cdv A outer s H vs Q E hr h => ?_)
  · obtain ⟨_, rfl, _⟩ := h
    rfl
  · obtain ⟨a, rfl, ha, hs, k⟩ := h
    refine ⟨_, (pss_one (ps_if (pt_not (pt_val (pe_cl C_is_text hr (pa_cons (pv 0) pa_nil))))
  (pss_one ps_never)
  pss_nil)), ?_⟩
    have h1 : areSigns a 400 = true := areSigns_ok (m := 400) ha hs
    exact s_when (b := false) (et_is (et_not (et_B (ev_call (ea_cons (ev_var rfl) ea_nil) fun H1 e1 Q q E => ⟨a, rfl, by omega, q⟩))) (by rw [h1]; rfl)) (fun z => by cases z) (fun _ => k)
theorem ok_need_some_text {f : Addr} {fd : FuncData} (F : Fun K "need_some_text" "need_some_text" st_need_some_text f fd) (M : Md K mg) (C_is_text : Cal P w K mg base "is_text" st_is_text 2 ["thing"] sp_is_text) : FnOk P w K mg base CX0 3 f fd ["text"] sp_need_some := by
  have nd := sc_need_some_text.nd
  refine F.ok sc_need_some_text (fun vs H Q E h => ?_) (fun cdv A outer s H vs Q E hr h => ?_)
  · obtain ⟨_, rfl, _⟩ := h
    rfl
  · obtain ⟨a, rfl, ha, hs, hne, k⟩ := h
    refine ⟨_, (pss_one (ps_if (PW.pt (pw_or (pt_not (pt_val (pe_cl C_is_text hr (pa_cons (pv 0) pa_nil)))) (pw_or1 (pt_cmpR op_eqT (pv 0) (pe_sT []) (nomark _)))))
  (pss_one ps_never)
  pss_nil)), ?_⟩
    have h1 : areSigns a 400 = true := areSigns_ok (m := 400) ha hs
    exact s_when (b := false) (et_is (et_or (a := false) (b := false) (et_is (et_not (et_B (ev_call (ea_cons (ev_var rfl) ea_nil) fun H1 e1 Q q E => ⟨a, rfl, by omega, q⟩))) (by rw [h1]; rfl)) fun _ => et_is (et_test (ev_op (ev_var rfl) ev_c rv_eqT)) (decide_eq_false hne)) rfl) (fun z => by cases z) (fun _ => k)
theorem ok_is_word {f : Addr} {fd : FuncData} (F : Fun K "is_word" "is_word" st_is_word f fd) (M : Md K mg) (C_are_signs : Cal P w K mg base "are_signs" st_are_signs 1 ["thing", "most"] sp_are_signs) : FnOk P w K mg base CX0 2 f fd ["thing"] sp_is_word := by
  have nd := sc_is_word.nd
  refine F.ok sc_is_word (fun vs H Q E h => ?_) (fun cdv A outer s H vs Q E hr h => ?_)
  · obtain ⟨_, _, rfl, _⟩ := h
    rfl
  · obtain ⟨v, o, rfl, hv, ha, k⟩ := h
    refine ⟨_, (pss_one (ps_ret (pe_and (pe_cl C_are_signs hr (pa_cons (pv 0) (pa_cons (pe_gI M.c_MOST_LETTERS) pa_nil))) (pe_one (pe_cmpR op_neT (pv 0) (pe_sT []) (nomark _)))))), ?_⟩
    cases o with
    | none => exact s_ret (ev_is (w := .bl (wordB none)) (ev_andV (a := false) (b := false) (ev_call (ea_cons (ev_var rfl) (ea_cons ev_c ea_nil)) fun H1 e1 Q q E => ⟨v, none, 12, rfl, hv.ex e1, ha, q⟩) fun z => by cases z) rfl) k
    | some a =>
      cases hv
      exact s_ret (ev_andV (ev_call (ea_cons (ev_var rfl) (ea_cons ev_c ea_nil)) fun H1 e1 Q q E => ⟨_, some a, 12, rfl, .str a, ha, q⟩) fun _ => ev_op (ev_var rfl) ev_c rv_neT) k
theorem ok_is_ascending {f : Addr} {fd : FuncData} (F : Fun K "is_ascending" "is_ascending" st_is_ascending f fd) (M : Md K mg) : FnOk P w K mg base CX0 1 f fd ["things"] sp_ascending := by
  have nd := sc_is_ascending.nd
  refine F.ok sc_is_ascending (fun vs H Q E h => ?_) (fun cdv A outer s H vs Q E hr h => ?_)
  · obtain ⟨_, _, rfl, _⟩ := h
    rfl
  · obtain ⟨p, lot, rfl, hp, hne, hfew, k⟩ := h
    refine ⟨_, (pss_one (ps_ret (pe_callB (kcr K (r := rAll) (cr_all rfl)) (by rfl) M.n_all boot_all (pa_cons (pe_lc (own := [("one", 1), ("other", 2)]) rfl nd (kiza K (RZ.pi_zipA (by rfl) M.n_zip (pa_cons (pv 0) (pa_cons (pe_slice (ksl K (r := rSlA) sl_tupA) (pv 0) (po_some pe_int) po_none) pa_nil)))) (blkOk_by (N := N_is_ascending) (sc := defScope st_is_ascending) (by decide +kernel)) (fun _ _ _ _ _ => (kgt K (n := 2) (pg_tup rfl (pgs_cons (pg_name (i := 1) nd rfl (Or.inl rfl)) (pgs_cons (pg_name (i := 2) nd rfl (Or.inl rfl)) pgs_nil))))) (fun _ _ _ _ _ => pts_nil) (fun _ _ _ _ _ => (pe_cmpR op_ltT' (pv 1) (pv 2) (nomark _)))) pa_nil)))), ?_⟩
    have hsl : EvU (tSl (rSlA K) (tVar 0) (tPart (tC (.int 1))) tNoPart) (start N_is_ascending [.ref p]) H ((lot.drop 1).map T) := by
      have := el_dropU (K := K) (σ := start N_is_ascending [.ref p]) (H := H) (te := tVar 0) (xs := lot.map T) (ev_var rfl) (st_of hp) (by rw [List.length_map]; exact List.length_pos_iff.mpr hne)
      rw [← List.map_drop] at this
      exact this
    have hz : ∀ (i : Nat) (x : V) (H1 : Hp), (∃ q y z, x = .ref q ∧ (lot.map T)[i]? = some y ∧ ((lot.drop 1).map T)[i]? = some z ∧ H1 q = some (.tup [y, z])) → ∃ a, (List.zip lot (lot.drop 1))[i]? = some a ∧ (∃ q, x = .ref q ∧ H1 q = some (.tup [T a.1, T a.2])) := fun i x H1 ⟨q, y, z, h1, h2, h3, h4⟩ => by
      obtain ⟨a, ha, rfl⟩ := at_map h2
      obtain ⟨b, hb, rfl⟩ := at_map h3
      exact ⟨(a, b), by rw [List.getElem?_zip_eq_some]; exact ⟨ha, hb⟩, q, h1, h4⟩
    refine s_ret (ev_is (ev_cbL (el_lcG (p := fun _ => true) (gv := fun a => V.bl (decide (a.1 < a.2))) (List.zip lot (lot.drop 1)) (fun a => [some (.ref p), some (T a.1), some (T a.2)]) (fun a x H1 => ∃ q, x = .ref q ∧ H1 q = some (.tup [T a.1, T a.2])) (src_zipT (n := min (lot.map T).length ((lot.drop 1).map T).length) (ev_var rfl) hsl (st_of hp) rfl) ?_ ?_ hz ?_ (fun _ => rfl) (fun a H1 e1 ha => et_yes) (fun a H1 e1 ha _ => ev_op (ev_var rfl) (ev_var rfl) rv_ltT)) fun q H2 hq e2 => ?_) rfl) k
    · rw [List.length_map]
      omega
    · simp
    · rintro a x H1 Q' ⟨q, rfl, hq⟩ k'
      exact ⟨q, _, rfl, st_of hq, rfl, T a.1, [T a.2], rfl, T a.2, [], rfl, rfl, k'⟩
    · rw [List.filter_eq_self.mpr (fun _ _ => rfl)] at hq
      exact rc_allM (sq_of hq)
theorem ok_is_lot_form {f : Addr} {fd : FuncData} (F : Fun K "is_lot_form" "is_lot_form" st_is_lot_form f fd) (M : Md K mg) (C_is_word : Cal P w K mg base "is_word" st_is_word 2 ["thing"] sp_is_word) (C_is_ascending : Cal P w K mg base "is_ascending" st_is_ascending 1 ["things"] sp_ascending) : FnOk P w K mg base CX0 3 f fd ["thing"] sp_lot_form := by
  have nd := sc_is_lot_form.nd
  refine F.ok sc_is_lot_form (fun vs H Q E h => ?_) (fun cdv A outer s H vs Q E hr h => ?_)
  · obtain ⟨_, _, rfl, _⟩ := h
    rfl
  · obtain ⟨v, o, rfl, ht, hs, k⟩ := h
    refine ⟨_, (pss_cons (ps_if (PW.pt (pw_or (pt_not (pt_val (pe_callB (kcr K (r := rIsiB) cr_isi) (by rfl) M.n_isinstance boot_isinstance (pa_cons (pv 0) (pa_cons (pe_bltn (v := .ty "tuple") rfl M.n_tuple boot_tuple rfl) pa_nil))))) (pw_or1 (pt_not (pt_chain op_le op_le pe_int (pe_callB (kcr K (r := rLenS) call_len_seq) (by rfl) M.n_len boot_len (pa_cons (pv 0) pa_nil)) (pe_gI M.c_MOST_WORDS))))))
  (pss_one (ps_ret pe_bl))
  pss_nil)
  (pss_one (ps_ret (pe_and (pe_callB (kcr K (r := rAll) (cr_all rfl)) (by rfl) M.n_all boot_all (pa_cons (pe_lc (own := [("word", 1)]) rfl nd (kit K (pi_tup (pv 0))) (blkOk_by (N := N_is_lot_form) (sc := defScope st_is_lot_form) (by decide +kernel)) (fun _ _ _ _ _ => (pg_name (i := 1) nd rfl (Or.inl rfl))) (fun _ _ _ _ _ => pts_nil) (fun _ _ _ _ _ => (pe_cl C_is_word hr (pa_cons (pv 1) pa_nil)))) pa_nil)) (pe_one (pe_cl C_is_ascending hr (pa_cons (pv 0) pa_nil))))))), ?_⟩
    cases o with
    | none =>
      have hty : ∃ t, (∀ H1, Ex H H1 → TyX K H1 v (.type t)) ∧ kitB t "tuple" = some false := by
        cases ht with
        | lst h => exact ⟨"list", fun H1 e => .base (.lst (e _ _ h)), by decide +kernel⟩
        | non => exact ⟨"NoneType", fun _ _ => .base .non, by decide +kernel⟩
        | int i => exact ⟨"int", fun _ _ => .base (.int i), by decide +kernel⟩
        | str s => exact ⟨"str", fun _ _ => .base (.str _), by decide +kernel⟩
      obtain ⟨t, hty, hk⟩ := hty
      exact q_when (b := true) (et_is (et_or (a := true) (b := true) (et_not (et_B (ev_cb (ea_cons (ev_var rfl) (ea_cons ev_c ea_nil)) (rc_isi (b := false) hty hk)))) fun z => by cases z) rfl) (fun _ H1 e1 => s_ret (v := .bl (lotB none)) ev_c (RetV.mono k e1)) (fun z => by cases z)
    | some os =>
      cases ht with
      | @tup p vs _ hp h2 =>
      obtain ⟨hs1, hs2⟩ := hs
      have hlen := h2.len
      refine q_when (b := !(decide (1 ≤ os.length) && decide (os.length ≤ 12))) (et_is (et_or (a := false) (et_not (et_B (ev_cb (ea_cons (ev_var rfl) (ea_cons ev_c ea_nil)) (rc_isi (b := true) (fun H1 e => .base (.tup (e _ _ hp))) k_tuple_tuple)))) fun _ => et_not (et_test (ev_chain ev_c (ev_lenU (ev_var rfl) (st_of hp)) rv_I0 ev_c rv_I0))) ?_) (fun hb H1 e1 => s_ret (v := .bl (lotB (some os))) (ev_is ev_c ?_) (RetV.mono k e1)) (fun hb H1 e1 => ?_)
      · rw [Bool.false_or]
        congr 1
        rw [← hlen]
        congr 1
        · exact decide_eq_decide.mpr (by omega)
        · exact decide_eq_decide.mpr (by show ((vs.length : Int) ≤ 12) ↔ _; omega)
      · have : (decide (1 ≤ os.length) && decide (os.length ≤ 12)) = false := by
          cases h : (decide (1 ≤ os.length) && decide (os.length ≤ 12)) with
          | false => rfl
          | true => rw [h] at hb; cases hb
        rw [lotB_some, this]
        rfl
      · have hb' : (decide (1 ≤ os.length) && decide (os.length ≤ 12)) = true := by
          cases h : (decide (1 ≤ os.length) && decide (os.length ≤ 12)) with
          | true => rfl
          | false => rw [h] at hb; cases hb
        have hall := el_lcX (σ := start N_is_lot_form [.ref p]) (H := H1) (wi := iTup K (tVar 0)) (j := 1) (vs := [1]) (t := tYes) (te := tCall sp_is_word [] E0 (tCons (tVar 1) tNil)) (p := fun _ => true) (g := fun o => V.bl (wordB o)) os (fun o x H2 => ∃ i, vs[i]? = some x ∧ os[i]? = some o ∧ True) (src_tup (ev_var rfl) (st_of (e1 _ _ hp))) (by omega) (fun _ => rfl) hlen.symm (fun i x H2 hx => by
          obtain ⟨o, ho, _⟩ := all2_at h2 hx
          exact ⟨o, ho, i, hx, ho, trivial⟩) (fun o x H2 e2 ho hr => et_yes) (fun o x H2 e2 ho hr _ => by
          obtain ⟨i, hx, ho2, _⟩ := hr
          obtain ⟨o', ho', hel⟩ := all2_at h2 hx
          rw [ho2] at ho'
          cases ho'
          exact ev_call (ea_cons (ev_var rfl) ea_nil) fun H3 e3 Q3 q3 E => ⟨x, o, rfl, ((hel.ex e1).ex e2).ex e3, fun t ht => hs2 t (ht ▸ ho), q3⟩)
        rw [List.filter_eq_self.mpr (fun _ _ => rfl)] at hall
        refine s_ret (ev_is (w := .bl (lotB (some os))) (ev_andV (a := os.all wordB) (b := ascB (txs os)) (ev_cbL (xs := os.map fun o => V.bl (wordB o)) hall fun q H2 hq e2 => rc_allM (sq_of hq)) fun hw => ?_) (by rw [lotB_some, hb']; rfl)) (RetV.mono k e1)
        have hv := all_words h2 hw
        subst hv
        have hl : 1 ≤ os.length := of_decide_eq_true (Bool.and_eq_true_iff.mp hb').1
        have htl : (txs os).length = os.length := by unfold txs; rw [List.length_map]
        exact ev_call (ea_cons (ev_var rfl) ea_nil) fun H2 e2 Q2 q2 E => ⟨p, txs os, rfl, (e1.trans e2) _ _ hp, fun z => by rw [z] at htl; simp at htl; omega, by omega, q2⟩
theorem ok_need_lot {f : Addr} {fd : FuncData} (F : Fun K "need_lot" "need_lot" st_need_lot f fd) (M : Md K mg) (C_is_lot_form : Cal P w K mg base "is_lot_form" st_is_lot_form 3 ["thing"] sp_lot_form) : FnOk P w K mg base CX0 4 f fd ["lot"] sp_need_lot := by
  have nd := sc_need_lot.nd
  refine F.ok sc_need_lot (fun vs H Q E h => ?_) (fun cdv A outer s H vs Q E hr h => ?_)
  · obtain ⟨_, _, rfl, _⟩ := h
    rfl
  · obtain ⟨p, lot, rfl, hL, k⟩ := h
    refine ⟨_, (pss_one (ps_if (pt_not (pt_val (pe_cl C_is_lot_form hr (pa_cons (pv 0) pa_nil))))
  (pss_one ps_never)
  pss_nil)), ?_⟩
    exact s_when (b := false) (et_is (et_not (et_B (ev_call (ea_cons (ev_var rfl) ea_nil) fun H1 e1 Q q E => ⟨.ref p, some (lot.map some), rfl, .tup ((hL.ex e1).1) (all2_some lot), lot_sm hL.2, q⟩))) (by rw [lot_lotB hL.2]; rfl)) (fun z => by cases z) (fun _ => k)
end
end K01
set_option Elab.async false
set_option linter.all false
namespace K01
open Wc
/-- the sign at a place -/
def g (t : Tx) (i : Nat) : Nat := t.getD i 0
theorem g_at {t : Tx} {i : Nat} (h : i < t.length) : t[i]? = some (g t i) := by
  unfold g
  rw [List.getD_eq_getElem?_getD, List.getElem?_eq_getElem h]
  rfl
theorem g_eq {a b : Tx} {i j : Nat} (hi : i < a.length) (hj : j < b.length) : a[i]? = b[j]? ↔ g a i = g b j := by
  rw [g_at hi, g_at hj]
  exact ⟨fun h => Option.some.inj h, fun h => by rw [h]⟩
/-! ### the order of texts -/
theorem lt_diff : ∀ {a b : Tx} {m : Nat}, m < a.length → m < b.length → (∀ j, j < m → a[j]? = b[j]?) → g a m < g b m → a < b
  | [], _, _, h, _, _, _ => by simp at h
  | _ :: _, [], _, _, h, _, _ => by simp at h
  | x :: a, y :: b, 0, _, _, _, h => List.cons_lt_cons_iff.mpr (.inl h)
  | x :: a, y :: b, m + 1, h1, h2, hj, h => by
    have h0 : x = y := by simpa using hj 0 (by omega)
    refine List.cons_lt_cons_iff.mpr (.inr ⟨h0, lt_diff (m := m) (by simpa using h1) (by simpa using h2) (fun j hjm => ?_) ?_⟩)
    · have := hj (j + 1) (by omega)
      simpa using this
    · simpa [g] using h
theorem not_lt_pre : ∀ {w x : Tx}, x <+: w → ¬ w < x
  | w, [], _, h => by cases w <;> simp at h
  | [], y :: x, h, _ => by simp at h
  | z :: w, y :: x, h, hl => by
    rw [List.cons_prefix_cons] at h
    obtain ⟨rfl, h⟩ := h
    rcases List.cons_lt_cons_iff.mp hl with h2 | ⟨_, h2⟩
    · exact Nat.lt_irrefl _ h2
    · exact not_lt_pre h h2
theorem not_lt_diff : ∀ {w x : Tx} {m : Nat}, m < w.length → m < x.length → (∀ j, j < m → w[j]? = x[j]?) → g x m < g w m → ¬ w < x
  | [], _, _, h, _, _, _, _ => by simp at h
  | _ :: _, [], _, _, h, _, _, _ => by simp at h
  | z :: w, y :: x, 0, _, _, _, h, hl => by
    have h : y < z := h
    rcases List.cons_lt_cons_iff.mp hl with h2 | ⟨h2, _⟩ <;> omega
  | z :: w, y :: x, m + 1, h1, h2, hj, h, hl => by
    have h0 : z = y := by simpa using hj 0 (by omega)
    rcases List.cons_lt_cons_iff.mp hl with h3 | ⟨_, h3⟩
    · omega
    · refine not_lt_diff (m := m) (by simpa using h1) (by simpa using h2) (fun j hjm => ?_) ?_ h3
      · have := hj (j + 1) (by omega)
        simpa using this
      · simpa [g] using h
/-! ### parts that are less than all their turns -/
/-- the first p of h are less than all their turns -/
def Lyn (h : Nat → Nat) (p : Nat) : Prop := ∀ i, 0 < i → i < p → ∃ m, m < p ∧ (∀ j, j < m → h j = h ((i + j) % p)) ∧ h m < h ((i + m) % p)
theorem per_mod {h : Nat → Nat} {p n : Nat} (hp : 0 < p) (hper : ∀ j, j + p < n → h j = h (j + p)) : ∀ j, j < n → h j = h (j % p) := by
  intro j
  induction j using Nat.strongRecOn with
  | _ j ih =>
    intro hj
    by_cases hl : j < p
    · rw [Nat.mod_eq_of_lt hl]
    · have h1 := ih (j - p) (by omega) (by omega)
      have h2 := hper (j - p) (by omega)
      rw [show j - p + p = j by omega] at h2
      rw [← h2, h1]
      congr 1
      conv => rhs; rw [show j = j - p + p by omega]
      rw [Nat.add_mod_right]
theorem lyn_ext {h : Nat → Nat} {p a : Nat} (hp : 0 < p) (hL : Lyn h p) (hpa : p ≤ a) (hper : ∀ j, j + p < a → h j = h (j + p)) (hlt : h (a - p) < h a) : Lyn h (a + 1) := by
  have hm := per_mod hp hper
  have hc : h (a - p) = h (a % p) := by
    rw [hm (a - p) (by omega)]
    congr 1
    conv => rhs; rw [show a = a - p + p by omega]
    rw [Nat.add_mod_right]
  rw [hc] at hlt
  intro i h0 hi
  have hin : ∀ {j}, i + j < a → h ((i + j) % (a + 1)) = h ((i % p + j) % p) := fun {j} hj => by
    rw [Nat.mod_eq_of_lt (by omega), hm _ hj, Nat.mod_add_mod]
  by_cases hr : i % p = 0
  · have hip : p ≤ i := Nat.le_of_dvd h0 (Nat.dvd_of_mod_eq_zero hr)
    refine ⟨a - i, by omega, fun j hj => ?_, ?_⟩
    · rw [hin (by omega), hr, Nat.zero_add]
      exact hm j (by omega)
    · rw [show i + (a - i) = a by omega, Nat.mod_eq_of_lt (by omega), hm (a - i) (by omega)]
      have : (a - i) % p = a % p := by
        conv => rhs; rw [show a = i + (a - i) by omega, ← Nat.mod_add_mod, hr, Nat.zero_add]
      rw [this]
      exact hlt
  · obtain ⟨m0, h1, h2, h3⟩ := hL (i % p) (by omega) (Nat.mod_lt _ hp)
    by_cases hx : i + m0 < a
    · exact ⟨m0, by omega, fun j hj => by rw [hin (by omega)]; exact h2 j hj, by rw [hin hx]; exact h3⟩
    · refine ⟨a - i, by omega, fun j hj => by rw [hin (by omega)]; exact h2 j (by omega), ?_⟩
      rw [show i + (a - i) = a by omega, Nat.mod_eq_of_lt (by omega)]
      refine Nat.lt_of_le_of_lt ?_ hlt
      have e : (i % p + (a - i)) % p = a % p := by rw [Nat.mod_add_mod, show i + (a - i) = a by omega]
      by_cases hm0 : a - i = m0
      · rw [← e, hm0]
        exact Nat.le_of_lt h3
      · rw [h2 (a - i) (by omega), e]
        exact Nat.le_refl _
theorem lyn_one {h : Nat → Nat} : Lyn h 1 := fun i h0 h1 => by omega
/-- a text less than all its turns -/
def LynT (w : Tx) : Prop := w ≠ [] ∧ ∀ i, 0 < i → i < w.length → w < w.drop i ++ w.take i
theorem seg_at {t : Tx} {s p j : Nat} (hs : s + p ≤ t.length) (hj : j < p) : ((t.drop s).take p)[j]? = some (g t (s + j)) := by
  rw [List.getElem?_take_of_lt hj, List.getElem?_drop]
  exact g_at (by omega)
theorem seg_len {t : Tx} {s p : Nat} (hs : s + p ≤ t.length) : ((t.drop s).take p).length = p := by
  rw [List.length_take, List.length_drop]
  omega
theorem seg_g {t : Tx} {s p j : Nat} (hs : s + p ≤ t.length) (hj : j < p) : g ((t.drop s).take p) j = g t (s + j) := by
  have h1 := seg_at hs hj
  rw [g_at (by rw [seg_len hs]; exact hj)] at h1
  exact Option.some.inj h1
theorem rot_at {w : Tx} {i j : Nat} (hi : i ≤ w.length) (hj : j < w.length) : (w.drop i ++ w.take i)[j]? = w[(i + j) % w.length]? := by
  by_cases h : i + j < w.length
  · rw [Nat.mod_eq_of_lt h, List.getElem?_append_left (by rw [List.length_drop]; omega), List.getElem?_drop]
  · rw [List.getElem?_append_right (by rw [List.length_drop]; omega), List.length_drop, List.getElem?_take_of_lt (by omega)]
    have : (i + j) % w.length = j - (w.length - i) := by
      rw [Nat.mod_eq_sub_mod (by omega), Nat.mod_eq_of_lt (by omega)]
      omega
    rw [this]
theorem lyn_seg {t : Tx} {s p : Nat} (hp : 0 < p) (hs : s + p ≤ t.length) (h : Lyn (fun j => g t (s + j)) p) : LynT ((t.drop s).take p) := by
  have hl := seg_len hs
  refine ⟨fun z => by rw [z] at hl; simp at hl; omega, fun i h0 hi => ?_⟩
  rw [hl] at hi
  obtain ⟨m, h1, h2, h3⟩ := h i h0 hi
  have hr : ∀ j, j < p → (((t.drop s).take p).drop i ++ ((t.drop s).take p).take i)[j]? = some (g t (s + (i + j) % p)) := fun j hj => by
    rw [rot_at (by omega) (by omega), hl]
    exact seg_at hs (Nat.mod_lt _ hp)
  have hlr : (((t.drop s).take p).drop i ++ ((t.drop s).take p).take i).length = p := by
    simp only [List.length_append, List.length_drop, List.length_take] at hl ⊢
    omega
  refine lt_diff (m := m) (by omega) (by omega) (fun j hj => ?_) ?_
  · rw [seg_at hs (by omega), hr j (by omega)]
    exact congrArg some (h2 j hj)
  · rw [seg_g hs h1]
    have := hr m h1
    rw [g_at (by omega)] at this
    rw [Option.some.inj this]
    exact h3
/-- what comes next is no greater: w at s - p, the place a where it stops to be read -/
theorem next_le {t : Tx} {s p a : Nat} (hsp : p ≤ s) (hp : 0 < p) (hs1 : s ≤ a) (hs2 : a < s + p) (ha : a ≤ t.length) (hper : ∀ j, s ≤ j → j < a → g t (j - p) = g t j) (hend : a = t.length ∨ g t a < g t (a - p)) {x : Tx} (hx0 : x ≠ []) (hx : x <+: t.drop s) : ¬ ((t.drop (s - p)).take p) < x := by
  have hw : (s - p) + p ≤ t.length := by omega
  have hxl : x.length ≤ t.length - s := by have := hx.length_le; rw [List.length_drop] at this; exact this
  have hxa : ∀ j, j < x.length → x[j]? = some (g t (s + j)) := fun j hj => by
    obtain ⟨r, hr⟩ := hx
    have : (x ++ r)[j]? = (t.drop s)[j]? := by rw [hr]
    rw [List.getElem?_append_left hj, List.getElem?_drop] at this
    rw [this]
    exact g_at (by omega)
  have hag : ∀ j, j < a - s → j < x.length → ((t.drop (s - p)).take p)[j]? = x[j]? := fun j h1 h2 => by
    rw [seg_at hw (by omega), hxa j h2]
    have := hper (s + j) (by omega) (by omega)
    rw [show s + j - p = s - p + j by omega] at this
    rw [this]
  by_cases hlx : x.length ≤ a - s
  · refine not_lt_pre ?_
    have hxt : x = ((t.drop (s - p)).take p).take x.length := by
      apply List.ext_getElem?
      intro j
      by_cases hj : j < x.length
      · rw [List.getElem?_take_of_lt hj, hag j (by omega) hj]
      · rw [List.getElem?_eq_none (by omega), List.getElem?_eq_none (by rw [List.length_take]; omega)]
    rw [hxt]
    exact List.take_prefix _ _
  · rcases hend with h | h
    · omega
    · refine not_lt_diff (m := a - s) (by rw [seg_len hw]; omega) (by omega) (fun j hj => hag j hj (by omega)) ?_
      rw [seg_g hw (by omega)]
      have := hxa (a - s) (by omega)
      rw [g_at (by omega)] at this
      rw [Option.some.inj this, show s + (a - s) = a by omega, show s - p + (a - s) = a - p by omega]
      exact h
/-- all parts of a text -/
structure IsLyn (text : Tx) (fs : List Tx) : Prop where
  all : fs.flatten = text
  lyn : ∀ w ∈ fs, LynT w
  desc : ∀ q ∈ List.zip fs (fs.drop 1), ¬ q.1 < q.2
/-- some parts, up to s -/
structure LynTo (text : Tx) (s : Nat) (fs : List Tx) : Prop where
  all : fs.flatten = text.take s
  lyn : ∀ w ∈ fs, LynT w
  desc : ∀ q ∈ List.zip fs (fs.drop 1), ¬ q.1 < q.2
  last : ∀ w, fs.getLast? = some w → ∀ x, x ≠ [] → x <+: text.drop s → ¬ w < x
theorem zip_push {fs : List Tx} {x : Tx} {q : Tx × Tx} (h : q ∈ List.zip (fs ++ [x]) ((fs ++ [x]).drop 1)) : q ∈ List.zip fs (fs.drop 1) ∨ (fs.getLast? = some q.1 ∧ q.2 = x) := by
  induction fs with
  | nil => simp at h
  | cons a fs ih =>
    cases fs with
    | nil =>
      simp at h
      right
      simp [h]
    | cons b fs =>
      simp only [List.cons_append, List.drop_succ_cons, List.drop_zero, List.zip_cons_cons, List.mem_cons] at h
      rcases h with rfl | h
      · exact .inl (by simp)
      · have := ih (by simpa using h)
        rcases this with h2 | ⟨h2, h3⟩
        · refine .inl ?_
          simp only [List.drop_succ_cons, List.drop_zero, List.zip_cons_cons, List.mem_cons]
          right
          simpa using h2
        · exact .inr ⟨by rw [List.getLast?_cons_cons]; exact h2, h3⟩
theorem LynTo.done {text : Tx} {s : Nat} {fs : List Tx} (h : LynTo text s fs) (hs : text.length ≤ s) : IsLyn text fs := ⟨by rw [h.all, List.take_of_length_le hs], h.lyn, h.desc⟩
/-- while signs are read: start s, back b, ahead a -/
structure Duv (t : Tx) (s b a : Nat) : Prop where
  sb : s ≤ b
  ba : b < a
  an : a ≤ t.length
  lyn : Lyn (fun j => g t (s + j)) (a - b)
  per : ∀ j, s ≤ j → j + (a - b) < a → g t j = g t (j + (a - b))
theorem Duv.first {t : Tx} {s : Nat} (h : s < t.length) : Duv t s s (s + 1) := ⟨Nat.le_refl _, by omega, by omega, by rw [show s + 1 - s = 1 by omega]; exact lyn_one, fun j h1 h2 => by omega⟩
theorem Duv.eq {t : Tx} {s b a : Nat} (h : Duv t s b a) (ha : a < t.length) (he : g t b = g t a) : Duv t s (b + 1) (a + 1) := by
  obtain ⟨h1, h2, h3, h4, h5⟩ := h
  refine ⟨by omega, by omega, by omega, by rw [show a + 1 - (b + 1) = a - b by omega]; exact h4, fun j h6 h7 => ?_⟩
  rw [show a + 1 - (b + 1) = a - b by omega] at h7 ⊢
  by_cases hj : j = b
  · rw [hj, show b + (a - b) = a by omega]
    exact he
  · exact h5 j h6 (by omega)
theorem Duv.lt {t : Tx} {s b a : Nat} (h : Duv t s b a) (ha : a < t.length) (he : g t b < g t a) : Duv t s s (a + 1) := by
  obtain ⟨h1, h2, h3, h4, h5⟩ := h
  refine ⟨Nat.le_refl _, by omega, by omega, ?_, fun j h6 h7 => by omega⟩
  have := lyn_ext (h := fun j => g t (s + j)) (p := a - b) (a := a - s) (by omega) h4 (by omega) (fun j hj => by
    have := h5 (s + j) (by omega) (by omega)
    rw [show s + j + (a - b) = s + (j + (a - b)) by omega] at this
    exact this) (by
    show g t (s + (a - s - (a - b))) < g t (s + (a - s))
    rw [show s + (a - s - (a - b)) = b by omega, show s + (a - s) = a by omega]
    exact he)
  rw [show a + 1 - s = a - s + 1 by omega]
  exact this
/-- all parts of the period are alike -/
theorem Duv.same {t : Tx} {s0 b a : Nat} (h : Duv t s0 b a) {k : Nat} (hk : s0 + k * (a - b) ≤ b) : (t.drop (s0 + k * (a - b))).take (a - b) = (t.drop s0).take (a - b) := by
  obtain ⟨h1, h2, h3, h4, h5⟩ := h
  have hp : 0 < a - b := by omega
  have hm := per_mod (h := fun j => g t (s0 + j)) (n := a - s0) hp (fun j hj => by
    have := h5 (s0 + j) (by omega) (by omega)
    rw [show s0 + j + (a - b) = s0 + (j + (a - b)) by omega] at this
    exact this)
  apply List.ext_getElem?
  intro j
  by_cases hj : j < a - b
  · rw [seg_at (by omega) hj, seg_at (by omega) hj]
    have e := hm (k * (a - b) + j) (by omega)
    have e2 : (k * (a - b) + j) % (a - b) = j := by rw [Nat.mul_comm, Nat.mul_add_mod, Nat.mod_eq_of_lt hj]
    rw [e2] at e
    have e : g t (s0 + (k * (a - b) + j)) = g t (s0 + j) := e
    rw [← Nat.add_assoc] at e
    rw [e]
  · rw [List.getElem?_eq_none (by rw [seg_len (by omega)]; omega), List.getElem?_eq_none (by rw [seg_len (by omega)]; omega)]
/-- the parts that are written down behind -/
theorem Duv.close {t : Tx} {s0 b a : Nat} {fs : List Tx} (h : Duv t s0 b a) (hend : a = t.length ∨ g t a < g t b) (hF : LynTo t s0 fs) {k : Nat} (hk1 : s0 + k * (a - b) ≤ b) (hk2 : b < s0 + (k + 1) * (a - b)) : LynTo t (s0 + (k + 1) * (a - b)) (fs ++ List.replicate (k + 1) ((t.drop s0).take (a - b))) := by
  have h' := h
  obtain ⟨h1, h2, h3, h4, h5⟩ := h
  have hp : 0 < a - b := by omega
  have hw : LynT ((t.drop s0).take (a - b)) := lyn_seg hp (by omega) h4
  have main : ∀ i, s0 + i * (a - b) ≤ b + (a - b) → (fs ++ List.replicate i ((t.drop s0).take (a - b))).flatten = t.take (s0 + i * (a - b)) ∧ (∀ q ∈ List.zip (fs ++ List.replicate i ((t.drop s0).take (a - b))) ((fs ++ List.replicate i ((t.drop s0).take (a - b))).drop 1), ¬ q.1 < q.2) ∧ ∀ z, (fs ++ List.replicate i ((t.drop s0).take (a - b))).getLast? = some z → ¬ z < (t.drop s0).take (a - b) := by
    intro i
    induction i with
    | zero =>
      intro _
      simp only [Nat.zero_mul, Nat.add_zero, List.replicate_zero, List.append_nil]
      exact ⟨hF.all, hF.desc, fun z hz => hF.last z hz _ hw.1 (List.take_prefix _ _)⟩
    | succ i ih =>
      intro hi
      rw [Nat.succ_mul] at hi
      obtain ⟨i1, i2, i3⟩ := ih (by omega)
      have hs := h'.same (k := i) (by omega)
      rw [List.replicate_succ', ← List.append_assoc]
      refine ⟨?_, fun q hq => ?_, fun z hz => ?_⟩
      · rw [List.flatten_append, i1, List.flatten_singleton, Nat.succ_mul, ← Nat.add_assoc, ← hs]
        exact List.take_add.symm
      · rcases zip_push hq with g1 | ⟨g1, g2⟩
        · exact i2 q g1
        · rw [g2]
          exact i3 q.1 g1
      · have : z = (t.drop s0).take (a - b) := by simpa using hz.symm
        rw [this]
        exact List.lt_irrefl _
  rw [Nat.succ_mul] at hk2
  obtain ⟨m1, m2, m3⟩ := main (k + 1) (by rw [Nat.succ_mul]; omega)
  refine ⟨m1, fun w hw' => ?_, m2, fun w hw' x x0 x1 => ?_⟩
  · rcases List.mem_append.mp hw' with g1 | g1
    · exact hF.lyn w g1
    · rw [List.eq_of_mem_replicate g1]
      exact hw
  · have e : w = (t.drop s0).take (a - b) := by
      rw [List.replicate_succ', ← List.append_assoc] at hw'
      simpa using hw'.symm
    rw [e, ← h'.same hk1]
    have ek : s0 + (k + 1) * (a - b) - (a - b) = s0 + k * (a - b) := by rw [Nat.succ_mul]; omega
    have := next_le (t := t) (s := s0 + (k + 1) * (a - b)) (p := a - b) (a := a) (by rw [Nat.succ_mul]; omega) hp (by rw [Nat.succ_mul]; omega) (by rw [Nat.succ_mul]; omega) h3 (fun j j1 j2 => by
      rw [Nat.succ_mul] at j1
      have := h5 (j - (a - b)) (by omega) (by omega)
      rw [show j - (a - b) + (a - b) = j by omega] at this
      exact this) (by
      rcases hend with h | h
      · exact .inl h
      · exact .inr (by rw [show a - (a - b) = b by omega]; exact h)) x0 x1
    rw [ek] at this
    exact this
end K01
set_option Elab.async false
set_option linter.all false
namespace K01
open Wc
/-! ### borders -/
/-- the first b of the first e signs are their last b -/
def Bd (t : Tx) (e b : Nat) : Prop := b < e ∧ ∀ j, j < b → g t j = g t (e - b + j)
instance (t : Tx) (e b : Nat) : Decidable (Bd t e b) := by unfold Bd; exact inferInstanceAs (Decidable (_ ∧ ∀ j, j < b → _))
theorem bd_zero {t : Tx} {e : Nat} (h : 0 < e) : Bd t e 0 := ⟨h, fun j hj => absurd hj (Nat.not_lt_zero j)⟩
theorem bd_in {t : Tx} {e b c : Nat} (h : Bd t e b) (hc : c < b) : Bd t e c ↔ Bd t b c := by
  have hb := h.1
  refine ⟨fun z => ⟨hc, fun j hj => ?_⟩, fun z => ⟨by omega, fun j hj => ?_⟩⟩
  · have h1 := z.2 j hj
    have h2 := h.2 (b - c + j) (by omega)
    rw [show e - b + (b - c + j) = e - c + j by omega] at h2
    rw [h1, h2]
  · have h1 := z.2 j hj
    have h2 := h.2 (b - c + j) (by omega)
    rw [show e - b + (b - c + j) = e - c + j by omega] at h2
    rw [h1, h2]
theorem bd_succ {t : Tx} {e b : Nat} : Bd t (e + 1) (b + 1) ↔ Bd t e b ∧ g t b = g t e := by
  refine ⟨fun z => ⟨⟨by have := z.1; omega, fun j hj => ?_⟩, ?_⟩, fun z => ⟨by have := z.1.1; omega, fun j hj => ?_⟩⟩
  · have := z.2 j (by omega)
    rw [show e + 1 - (b + 1) + j = e - b + j by omega] at this
    exact this
  · have := z.2 b (by omega)
    have h1 := z.1
    rw [show e + 1 - (b + 1) + b = e by omega] at this
    exact this
  · have h1 := z.1.1
    rw [show e + 1 - (b + 1) + j = e - b + j by omega]
    by_cases hjb : j = b
    · rw [hjb, show e - b + b = e by omega]
      exact z.2
    · exact z.1.2 j (by omega)
/-- the greatest border of the first e signs -/
def Gr (t : Tx) (e b : Nat) : Prop := Bd t e b ∧ ∀ c, Bd t e c → c ≤ b
theorem gr_one {t : Tx} : Gr t 1 0 := ⟨bd_zero Nat.one_pos, fun c h => by have := h.1; omega⟩
/-- looked for at e: all that go on are m at most -/
def Look (t : Tx) (e m : Nat) : Prop := Bd t e m ∧ ∀ c, Bd t e c → g t c = g t e → c ≤ m
theorem Gr.look {t : Tx} {e b : Nat} (h : Gr t e b) : Look t e b := ⟨h.1, fun c hc _ => h.2 c hc⟩
theorem Look.next {t : Tx} {e m k : Nat} (h : Look t e m) (hne : g t m ≠ g t e) (hm : m ≠ 0) (hk : Gr t m k) : Look t e k ∧ k < m := by
  have hkm := hk.1.1
  refine ⟨⟨(bd_in h.1 hkm).mpr hk.1, fun c hc he => ?_⟩, hkm⟩
  have hcm := h.2 c hc he
  have : c ≠ m := fun z => hne (z ▸ he)
  exact hk.2 c ((bd_in h.1 (by omega)).mp hc)
theorem Look.done {t : Tx} {e m : Nat} (h : Look t e m) (hs : m = 0 ∨ g t m = g t e) : Gr t (e + 1) (if g t m = g t e then m + 1 else 0) := by
  split
  · rename_i he
    refine ⟨bd_succ.mpr ⟨h.1, he⟩, fun c hc => ?_⟩
    cases c with
    | zero => omega
    | succ c =>
      obtain ⟨h1, h2⟩ := bd_succ.mp hc
      have := h.2 c h1 h2
      omega
  · rename_i he
    refine ⟨bd_zero (by omega), fun c hc => ?_⟩
    cases c with
    | zero => omega
    | succ c =>
      obtain ⟨h1, h2⟩ := bd_succ.mp hc
      have h3 := h.2 c h1 h2
      rcases hs with h4 | h4
      · have : c = m := by omega
        exact absurd (this ▸ h2) he
      · exact absurd h4 he
/-- the borders of a text, ascending -/
def bordL (t : Tx) : List Nat := (List.range' 1 (t.length - 1)).filter fun b => decide (Bd t t.length b)
theorem bordL_mem {t : Tx} {b : Nat} : b ∈ bordL t ↔ 0 < b ∧ Bd t t.length b := by
  unfold bordL
  rw [List.mem_filter, List.mem_range'_1, decide_eq_true_eq]
  refine ⟨fun h => ⟨by omega, h.2⟩, fun h => ⟨⟨by omega, by have := h.2.1; omega⟩, h.2⟩⟩
theorem bordL_asc (t : Tx) : (bordL t).Pairwise (· < ·) := List.Pairwise.filter _ List.pairwise_lt_range'
/-- some borders, all greater than m, told downwards -/
structure Chn (t : Tx) (m : Nat) (acc : List Nat) : Prop where
  nd : acc.Nodup
  mem : ∀ b, b ∈ acc ↔ 0 < b ∧ Bd t t.length b ∧ m < b
theorem Chn.first {t : Tx} {m : Nat} (h : Gr t t.length m) : Chn t m [] := ⟨List.nodup_nil, fun b => ⟨fun z => (nomatch z), fun z => by have := h.2 b z.2.1; omega⟩⟩
theorem Chn.next {t : Tx} {m k : Nat} {acc : List Nat} (h : Chn t m acc) (hm : m ≠ 0) (hb : Bd t t.length m) (hk : Gr t m k) : Chn t k (acc ++ [m]) := by
  refine ⟨?_, fun b => ?_⟩
  · refine List.nodup_append.mpr ⟨h.nd, by simp, fun a ha b hb2 => ?_⟩
    have := ((h.mem a).mp ha).2.2
    have e : b = m := by simpa using hb2
    omega
  · rw [List.mem_append, List.mem_singleton, h.mem b]
    refine ⟨fun z => ?_, fun z => ?_⟩
    · rcases z with z | rfl
      · exact ⟨z.1, z.2.1, by have := hk.1.1; omega⟩
      · exact ⟨by omega, hb, hk.1.1⟩
    · by_cases hbm : m < b
      · exact .inl ⟨z.1, z.2.1, hbm⟩
      · right
        by_cases he : b = m
        · exact he
        · have := hk.2 b ((bd_in hb (by omega)).mp z.2.1)
          omega
theorem Chn.perm {t : Tx} {acc : List Nat} (h : Chn t 0 acc) : acc.Perm (bordL t) := by
  refine (List.perm_ext_iff_of_nodup h.nd ((bordL_asc t).imp Nat.ne_of_lt)).mpr fun b => ?_
  rw [h.mem b, bordL_mem]
  exact ⟨fun z => ⟨z.1, z.2.1⟩, fun z => ⟨z.1, z.2, z.1⟩⟩
/-! ### periods -/
def perL (t : Tx) : List Nat := (List.range' 1 t.length).filter fun p => decide (∀ j, j < t.length - p → g t j = g t (j + p))
theorem perL_mem {t : Tx} {p : Nat} : p ∈ perL t ↔ p = t.length ∧ 0 < t.length ∨ 0 < p ∧ p < t.length ∧ t.length - p ∈ bordL t := by
  unfold perL
  rw [List.mem_filter, List.mem_range'_1, decide_eq_true_eq, bordL_mem]
  constructor
  · rintro ⟨h1, h2⟩
    by_cases hp : p = t.length
    · exact .inl ⟨hp, by omega⟩
    · refine .inr ⟨by omega, by omega, by omega, by omega, fun j hj => ?_⟩
      rw [h2 j (by omega)]
      congr 1
      omega
  · rintro (⟨rfl, h⟩ | ⟨h1, h2, h3, h4, h5⟩)
    · exact ⟨by omega, fun j hj => by omega⟩
    · refine ⟨by omega, fun j hj => ?_⟩
      rw [h5 j hj]
      congr 1
      omega
theorem perL_asc (t : Tx) : (perL t).Pairwise (· < ·) := List.Pairwise.filter _ List.pairwise_lt_range'
theorem per_perm {t : Tx} (ht : t ≠ []) : ((bordL t).map (fun b => t.length - b) ++ [t.length]).Perm (perL t) := by
  have hl := List.length_pos_iff.mpr ht
  refine (List.perm_ext_iff_of_nodup ?_ ((perL_asc t).imp Nat.ne_of_lt)).mpr fun p => ?_
  · refine List.nodup_append.mpr ⟨?_, by simp, fun a ha b hb => ?_⟩
    · refine List.pairwise_map.mpr (List.Pairwise.imp_of_mem (fun {a b} ha hb h => ?_) (bordL_asc t))
      have h1 := (bordL_mem.mp ha).2.1
      have h2 := (bordL_mem.mp hb).2.1
      omega
    · obtain ⟨c, hc, rfl⟩ := List.mem_map.mp ha
      have h1 := bordL_mem.mp hc
      have h2 := h1.2.1
      have h3 := h1.1
      have e : b = t.length := by simpa using hb
      omega
  · rw [List.mem_append, List.mem_singleton, List.mem_map, perL_mem]
    constructor
    · rintro (⟨b, hb, rfl⟩ | rfl)
      · have h1 := bordL_mem.mp hb
        have h2 := h1.2.1
        have h3 := h1.1
        refine .inr ⟨by omega, by omega, ?_⟩
        rw [show t.length - (t.length - b) = b by omega]
        exact hb
      · exact .inl ⟨rfl, hl⟩
    · rintro (⟨rfl, _⟩ | ⟨h1, h2, h3⟩)
      · exact .inr rfl
      · exact .inl ⟨_, h3, by omega⟩
/-! ### the root -/
/-- turned by i it is the same -/
def Rot (t : Tx) (i : Nat) : Prop := ∀ j, j < t.length → g t j = g t ((j + i) % t.length)
theorem Rot.mul {t : Tx} {i : Nat} (h : Rot t i) : ∀ k j, j < t.length → g t j = g t ((j + k * i) % t.length)
  | 0, j, hj => by rw [Nat.zero_mul, Nat.add_zero, Nat.mod_eq_of_lt hj]
  | k + 1, j, hj => by
    rw [h.mul k j hj, h ((j + k * i) % t.length) (Nat.mod_lt _ (by omega)), Nat.mod_add_mod, Nat.succ_mul, Nat.add_assoc]
/-- it stands at i in itself twice just if it is turned to itself -/
theorem rot_iff {t : Tx} {i : Nat} (hi : i ≤ t.length) : StAt (t ++ t) t i ↔ Rot t i := by
  have hb : ∀ j, j < t.length → (((t ++ t).drop i).take t.length)[j]? = some (g t ((j + i) % t.length)) := fun j hj => by
    rw [List.getElem?_take_of_lt hj, List.getElem?_drop]
    by_cases h : i + j < t.length
    · rw [List.getElem?_append_left h, Nat.add_comm j i, Nat.mod_eq_of_lt h]
      exact g_at h
    · rw [List.getElem?_append_right (by omega), Nat.add_comm j i, Nat.mod_eq_sub_mod (by omega), Nat.mod_eq_of_lt (by omega)]
      exact g_at (by omega)
  constructor
  · intro h j hj
    have h1 := hb j hj
    have h : ((t ++ t).drop i).take t.length = t := h
    rw [h, g_at hj] at h1
    exact Option.some.inj h1
  · intro h
    show ((t ++ t).drop i).take t.length = t
    apply List.ext_getElem?
    intro j
    by_cases hj : j < t.length
    · rw [hb j hj, g_at hj, h j hj]
    · rw [List.getElem?_eq_none (by rw [List.length_take]; omega), List.getElem?_eq_none (by omega)]
/-- the least turn to itself divides the length -/
theorem rot_dvd {t : Tx} {i : Nat} (h0 : 0 < i) (hi : i ≤ t.length) (h : Rot t i) (hl : ∀ k, 0 < k → k < i → ¬ Rot t k) : t.length % i = 0 := by
  rcases Nat.eq_zero_or_pos (t.length % i) with h1 | h1
  · exact h1
  · exfalso
    refine hl (t.length % i) h1 (Nat.mod_lt _ h0) fun j hj => ?_
    have h2 := h.mul (t.length / i) ((j + t.length % i) % t.length) (Nat.mod_lt _ (by omega))
    rw [Nat.mod_add_mod, Nat.add_assoc] at h2
    have h3 : t.length % i + t.length / i * i = t.length := by rw [Nat.mul_comm]; exact Nat.mod_add_div _ _
    rw [h3, Nat.add_mod_right, Nat.mod_eq_of_lt hj] at h2
    exact h2.symm
theorem rep_at {w : Tx} : ∀ (k j : Nat), j < k * w.length → (repT k w)[j]? = some (g w (j % w.length))
  | 0, j, h => by simp at h
  | k + 1, j, h => by
    rw [repT_succ]
    have hw : 0 < w.length := by
      rcases Nat.eq_zero_or_pos w.length with h1 | h1
      · rw [h1] at h; omega
      · exact h1
    by_cases hj : j < w.length
    · rw [List.getElem?_append_left hj, Nat.mod_eq_of_lt hj]
      exact g_at hj
    · rw [List.getElem?_append_right (by omega), rep_at k (j - w.length) (by rw [Nat.succ_mul] at h; omega)]
      congr 2
      conv => rhs; rw [show j = j - w.length + w.length by omega]
      rw [Nat.add_mod_right]
/-- a power of its first i signs just if it is turned to itself by i -/
theorem pow_iff {t : Tx} {i : Nat} (h0 : 0 < i) (hi : i ≤ t.length) (hd : t.length % i = 0) : repT (t.length / i) (t.take i) = t ↔ Rot t i := by
  have hti : (t.take i).length = i := by rw [List.length_take]; omega
  have hmul : t.length / i * i = t.length := Nat.div_mul_cancel (Nat.dvd_of_mod_eq_zero hd)
  have hg : ∀ j, j < i → g (t.take i) j = g t j := fun j hj => by
    have h1 : (t.take i)[j]? = t[j]? := List.getElem?_take_of_lt hj
    exact (g_eq (by omega) (by omega)).mp h1
  constructor
  · intro h
    have hm : ∀ j, j < t.length → g t j = g t (j % i) := fun j hj => by
      have h1 := rep_at (w := t.take i) (t.length / i) j (by rw [hti, hmul]; exact hj)
      rw [h, g_at hj, hti, hg _ (Nat.mod_lt _ h0)] at h1
      exact Option.some.inj h1
    intro j hj
    rw [hm j hj, hm ((j + i) % t.length) (Nat.mod_lt _ (by omega)), Nat.mod_mod_of_dvd _ (Nat.dvd_of_mod_eq_zero hd), Nat.add_mod_right]
  · intro h
    apply List.ext_getElem?
    intro j
    by_cases hj : j < t.length
    · rw [rep_at (t.length / i) j (by rw [hti, hmul]; exact hj), hti, hg _ (Nat.mod_lt _ h0), g_at hj]
      have h1 := h.mul (j / i) (j % i) (Nat.lt_of_le_of_lt (Nat.mod_le _ _) hj)
      have h2 : j % i + j / i * i = j := by rw [Nat.mul_comm]; exact Nat.mod_add_div _ _
      rw [h2, Nat.mod_eq_of_lt hj] at h1
      rw [h1]
    · rw [List.getElem?_eq_none (by rw [repT_len, hti, hmul]; omega), List.getElem?_eq_none (by omega)]
/-- the least number of signs of which it is a power -/
def IsRoot (t : Tx) (m : Nat) : Prop := 0 < m ∧ m ≤ t.length ∧ t.length % m = 0 ∧ Rot t m ∧ ∀ k, 0 < k → k < m → ¬ Rot t k
theorem IsRoot.uniq {t : Tx} {m k : Nat} (h : IsRoot t m) (h' : IsRoot t k) : m = k := by
  obtain ⟨a1, a2, a3, a4, a5⟩ := h
  obtain ⟨b1, b2, b3, b4, b5⟩ := h'
  rcases Nat.lt_trichotomy m k with h | h | h
  · exact absurd a4 (b5 m a1 h)
  · exact h
  · exact absurd b4 (a5 k b1 h)
theorem rot_all (t : Tx) : Rot t t.length := fun j hj => by rw [Nat.add_mod_right, Nat.mod_eq_of_lt hj]
/-- found by the places in itself twice -/
theorem root_find {t : Tx} {m : Int} (ht : t ≠ []) (h : FindT (t ++ t) t 1 m) : ∃ k : Nat, m = (k : Int) ∧ IsRoot t k := by
  have hl := List.length_pos_iff.mpr ht
  cases h with
  | at_ k h1 h2 h3 h4 =>
    rw [List.length_append] at h2
    have hR := (rot_iff (show k ≤ t.length by omega)).mp h3
    have hm : ∀ i, 0 < i → i < k → ¬ Rot t i := fun i i0 ik z => h4 i (by omega) ik ((rot_iff (by omega)).mpr z)
    exact ⟨k, rfl, by omega, by omega, rot_dvd (by omega) (by omega) hR hm, hR, hm⟩
  | no h1 => exact absurd ((rot_iff (Nat.le_refl _)).mpr (rot_all t)) (h1 t.length (by omega) (by rw [List.length_append]; exact Nat.le_refl _))
/-- found by trying -/
theorem root_try {t : Tx} {m : Nat} (h0 : 0 < m) (hm : m ≤ t.length) (h1 : t.length % m = 0) (h2 : repT (t.length / m) (t.take m) = t) (h3 : ∀ k, 0 < k → k < m → ¬ (t.length % k = 0 ∧ repT (t.length / k) (t.take k) = t)) : IsRoot t m := by
  have hR := (pow_iff h0 hm h1).mp h2
  -- the least turn
  have hex : ∃ k, 0 < k ∧ k ≤ m ∧ Rot t k ∧ ∀ i, 0 < i → i < k → ¬ Rot t i := by
    have : ∀ n, n ≤ m → (∃ k, 0 < k ∧ k ≤ n ∧ Rot t k ∧ ∀ i, 0 < i → i < k → ¬ Rot t i) ∨ ∀ i, 0 < i → i ≤ n → ¬ Rot t i := by
      intro n
      induction n with
      | zero => intro _; exact .inr fun i a b => by omega
      | succ n ih =>
        intro hn
        rcases ih (by omega) with ⟨k, a1, a2, a3, a4⟩ | h
        · exact .inl ⟨k, a1, by omega, a3, a4⟩
        · by_cases hr : Rot t (n + 1)
          · exact .inl ⟨n + 1, by omega, Nat.le_refl _, hr, fun i a b => h i a (by omega)⟩
          · refine .inr fun i a b z => ?_
            by_cases hi : i = n + 1
            · exact hr (hi ▸ z)
            · exact h i a (by omega) z
    rcases this m (Nat.le_refl _) with h | h
    · exact h
    · exact absurd hR (h m h0 (Nat.le_refl _))
  obtain ⟨k, k1, k2, k3, k4⟩ := hex
  have kd := rot_dvd k1 (by omega) k3 k4
  by_cases hk : k = m
  · rw [hk] at k3 k4
    exact ⟨h0, hm, h1, k3, k4⟩
  · exact absurd ⟨kd, (pow_iff k1 (by omega) kd).mpr k3⟩ (h3 k k1 (by omega))
end K01
set_option Elab.async false
set_option linter.all false
set_option maxRecDepth 100000
set_option maxHeartbeats 4000000
/-! sets of numbers out of a list, sorted -/
namespace Wt
open PySem PySem.Spec PyProof.Rows L2 Evl Wc
section
variable {P : Program} {w : World} {A : Around} {E : Value → Shared → Prop} {s : Shared}
set_option maxHeartbeats 3200000 in
theorem call_set_ints {src : Addr} {its : Array Value} {xs : List Int} {Q : Value → Shared → Prop} (noH : A.handled = none) (isl : s.heap.IsList src its) (hit : IntsAre its.toList xs) (room : xs.length + 1 < scanBound)
    (fin : ∀ (h2 : Heap) (tk c : Nat), SetR w h2 s.heap.objs.size (fun j => decide (j ∈ xs)) c → c ≤ xs.length → (∀ b o, s.heap.get? b = some o → h2.get? b = some o) → Q (.ref s.heap.objs.size) { s with heap := h2, toks := tk }) :
    wpAny (model P w) A (call (.type "set") [.ref src]) Q E s := by
  have lx : xs.length = its.size := by rw [← Array.length_toList, IntsAre.length hit]
  obtain ⟨c, tl, q0⟩ := PySem.F.called_set.mro
  have q1 := PySem.F.called_set.made; have q2 := PySem.F.called_set.sub
  refine wpAny_call (codeAny_of_tree (wpAny_pure ⟨Code.quiet_builtin _ (by decide +kernel), codeAny_builtin PySem.F.entry_type_call ?_⟩))
  rw [Around.under_plain (weight_type_call_type "set" [.ref src] []) rfl]
  have q3 := PySem.F.called_set.notType; have q4 := PySem.F.called_set.canCreate
  have q5 := PySem.F.typeCall_set_1 (.ref src)
  repeat (any_goals (first | assumption | wp_step))
  refine codeAny_mono (code_set_led1 (.ref src) (E := E) (Q₁ := fun ob t1 => ob = .ref s.heap.objs.size ∧ t1 = { s with heap := s.heap.push (so w) }) ⟨rfl, rfl⟩) fun r t1 hr => ?_
  match r, hr with
  | .error e, hr => exact hr
  | .ok (.ret ob), hr =>
    obtain ⟨rfl, rfl⟩ := hr
    have atS : (s.heap.push (so w)).get? s.heap.objs.size = some (so w) := Heap.get?_push_size _ rfl
    have tyS : Shared.TypeIs { s with heap := s.heap.push (so w) } (.ref s.heap.objs.size) "set" := ⟨_, atS, rfl⟩
    have q6 := PySem.F.called_set.init.lookup
    have q7 := PySem.F.called_set.init.bind (.ref s.heap.objs.size)
    repeat (any_goals (first | assumption | wp_step))
    refine codeAny_mono (codeAny_call_builtin (R := wants (fun r t2 => r = .none ∧ ∃ h2 tk c, t2 = { s with heap := h2, toks := tk } ∧ SetR w h2 s.heap.objs.size (fun j => decide (j ∈ xs)) c ∧ c ≤ xs.length ∧ ∀ b o, s.heap.get? b = some o → h2.get? b = some o) E) PySem.F.called_set.init.plain PySem.F.entry_set_init (check_set_init_1 tyS ?_)) fun r2 t2 hr2 => ?_
    · obtain ⟨ol, atl, cl, nl, dl⟩ := isl
      obtain ⟨ocls, odict, odata, oslots⟩ := ol
      simp only at cl dl
      subst cl; subst dl
      have lt := Heap.lt_size atl
      have isl2 : (s.heap.push (so w)).IsList src its := ⟨_, Heap.get?_push_of_some _ atl, rfl, nl, rfl⟩
      have q8 := PySem.F.sub_list_set; have q9 := PySem.F.sub_list_frozenset
      have q10 : (Value.type "list" == Value.type "dict") = false := by decide
      have atl2 : (s.heap.push (so w)).get? src = some { cls := .type "list", dict := odict, data := .seq its nl, slots := oslots } := Heap.get?_push_of_some _ atl
      unfold Builtin.«set.__init__» noKeywords Builtin.Frozenset.updateFrom
      generalize hI : pyIter = iter
      wp_walk
      subst hI
      refine wpAny_pyIter_list isl2 (wpAny_bind (wpAny_runValue ?_))
      have no3 : A.in1.in1.in1.handled = none := by simp [noH]
      have zI : (s.heap.push (so w)).objs.size = s.heap.objs.size + 1 := Heap.size_push ..
      have ne1 : src ≠ (s.heap.push (so w)).objs.size := by rw [zI]; exact Nat.ne_of_lt (Nat.lt_succ_of_lt lt)
      have out1 : s.heap.objs.size ∉ [(s.heap.push (so w)).objs.size, src] := by
        rw [zI]
        intro z
        rcases List.mem_cons.mp z with z | z
        · exact absurd z (Nat.ne_of_lt (Nat.lt_succ_self _))
        · exact absurd (List.mem_singleton.mp z) (Nat.ne_of_gt lt)
      refine set_update_ints (P := P) ((Walks.list no3 _ src ne1 its).toS) s.heap.objs.size out1 xs lx.symm room (fun i v hv => ?_) its.size 0 _ (Nat.sub_zero _) (Nat.zero_le _) ⟨⟨_, Heap.get?_push_size _ rfl, rfl, rfl⟩, isl2.push _⟩ ⟨0, Nat.le_refl _, setR_new_at (ns := xs) (Heap.get?_push_of_some _ atS)⟩ fun s2 l2 mv hc2 X2 => ?_
      · have hv2 : its.toList[i]? = some v := by rw [Array.getElem?_toList]; exact hv
        obtain ⟨t, e⟩ := IntsAre.int_at hit i v hv2
        have hi : i < xs.length := by
          have := (List.getElem?_eq_some_iff.mp hv2).1
          rw [Array.length_toList] at this
          omega
        exact ⟨xs[i], t, List.getElem?_eq_getElem hi, by rw [e, List.getD_eq_getElem?_getD, List.getElem?_eq_getElem hi]; rfl⟩
      · obtain ⟨h2, g2, d2, tk2, os2⟩ := s2
        obtain rfl : g2 = s.gens := mv.gens
        obtain rfl : d2 = s.drawn := mv.drawn
        obtain rfl : os2 = s.os := mv.os
        show wpAny _ _ (Bind.bind (pure _) _) _ _ _
        refine wpAny_pure (wpAny_pure ⟨rfl, h2, tk2, l2, rfl, X2, by omega, fun b o e => ?_⟩)
        have hb := Heap.lt_size e
        refine mv.heap b o (fun z => ?_) (Heap.get?_push_of_some _ (Heap.get?_push_of_some _ e))
        rw [zI] at z
        rcases List.mem_cons.mp z with z | z
        · exact absurd z (Nat.ne_of_lt hb)
        · exact absurd (List.mem_singleton.mp z) (Nat.ne_of_lt (Nat.lt_succ_of_lt hb))
    · match r2, hr2 with
      | .error e, hr2 => exact hr2
      | .ok (.ret v2), hr2 =>
        obtain ⟨rfl, h2, tk, l, rfl, X, m, k⟩ := hr2
        repeat (any_goals (first | assumption | wp_step))
        exact fin _ _ _ X m k
end
section
variable {X : Cx}
def rSetI (K : PySem.W.Frag) (w : World) : List V → Hp → VK → Prop := fun vs H Q => ∃ (p : Addr) (ns : List Int), vs = [.ref p] ∧ SqL K H p (ns.map V.int) ∧ ns.length ≤ 60 ∧ ∀ q c, c ≤ ns.length → H q = none → Q (.ref q) (upd H q (SetO w q (fun j => decide (j ∈ ns)) c))
theorem cr_setI (hc : X.calm = true) : CallR X (.type "set") (rSetI X.K X.w) := by
  intro pins s σ H vs us Q I r h
  obtain ⟨p, ns, rfl, hp, hl, q⟩ := h
  rw [Vals.ref1 r]
  obtain ⟨its, rv, pl, hz⟩ := I.list hp
  refine call_set_ints (P := X.prog) (xs := ns) (I.ok.hd hc) pl.isList (ints_of_vals rv) (by unfold scanBound; omega) fun h2 tk c R m k => ?_
  have hn : H s.heap.objs.size = none := I.hok.fresh (Nat.le_refl _)
  exact ⟨.ref _, upd H s.heap.objs.size (SetO X.w s.heap.objs.size (fun j => decide (j ∈ ns)) c), I.laid (t' := tk) k (Nat.le_refl _) (setO_new R), rfl, q _ c m hn⟩
theorem ksetI {K : PySem.W.Frag} {w : World} (hc : X.calm = true := by rfl) (hK : X.K = K := by rfl) (hw : X.w = w := by rfl) : CallR X (.type "set") (rSetI K w) := by
  subst hK hw
  exact cr_setI hc
theorem ksortI {w : World} (hc : X.calm = true := by rfl) (hw : X.w = w := by rfl) : CallR X (.builtin "sorted") (rSortedSet w) := by
  subst hw
  exact cr_sortedSet hc
end
/-- sorted(set(..)) of the numbers of a standing list -/
theorem sortIntsAt {K : PySem.W.Frag} {w : World} {p : Addr} {ns : List Int} {H : Hp} {Q : VK} (hp : H p = some (.lst (ns.map V.int))) (hl : ns.length ≤ 60) (k : ∀ (r : Addr) (zs : List Int) (H3 : Hp), zs.Pairwise (· < ·) → (∀ z, z ∈ zs ↔ z ∈ ns) → H r = none → Ex H H3 → H3 r = some (.lst (zs.map V.int)) → Q (.ref r) H3) : rSetI K w [.ref p] H fun s H2 => rSortedSet w [s] H2 Q :=
  ⟨p, ns, rfl, Evl.sq_of hp, hl, fun q c hc hq => ⟨q, _, c, rfl, upd_same, by omega, fun zs r ha hm hz hr => k r zs _ ha (fun z => (hm z).trans decide_eq_true_iff) (fresh_back (Ex.new hq) hr) ((Ex.new hq).trans (Ex.new hr)) upd_same⟩⟩
end Wt
set_option Elab.async false
set_option linter.all false
set_option maxRecDepth 100000
set_option maxHeartbeats 2000000
/-! len(set(ints)), dicts that serve as sets of numbers, dict comprehensions, comprehensions of two clauses -/
namespace Wd
open PySem PySem.Spec PyProof.Rows L2 Evl Wc Wt Wg
theorem hu1 {A : Around} (h : A.units + 64 < cLine) : A.units + 1 < cLine := by omega
theorem len_nodup {α : Type} {l l' : List α} (h1 : l.Nodup) (h2 : l'.Nodup) (h : ∀ a, a ∈ l ↔ a ∈ l') : l.length = l'.length := ((List.perm_ext_iff_of_nodup h1 h2).mpr h).length_eq
/-- the distinct ones -/
def uniq : List Int → List Int
  | [] => []
  | x :: xs => if x ∈ xs then uniq xs else x :: uniq xs
theorem mem_uniq {z : Int} : ∀ {l : List Int}, z ∈ uniq l ↔ z ∈ l
  | [] => Iff.rfl
  | x :: xs => by
    unfold uniq
    split
    · rename_i h
      rw [mem_uniq, List.mem_cons]
      exact ⟨.inr, fun z => z.elim (fun e => e ▸ h) id⟩
    · rw [List.mem_cons, List.mem_cons, mem_uniq]
theorem uniq_nodup : ∀ l : List Int, (uniq l).Nodup
  | [] => List.Pairwise.nil
  | x :: xs => by
    unfold uniq
    split
    · exact uniq_nodup xs
    · rename_i h
      exact List.nodup_cons.mpr ⟨fun z => h (mem_uniq.mp z), uniq_nodup xs⟩
theorem uniq_le : ∀ l : List Int, (uniq l).length ≤ l.length
  | [] => Nat.le_refl _
  | x :: xs => by
    have := uniq_le xs
    unfold uniq
    split
    · rw [List.length_cons]; omega
    · rw [List.length_cons, List.length_cons]; omega
theorem uniq_all {l : List Int} (h : l.Nodup) : (uniq l).length = l.length := len_nodup (uniq_nodup l) h fun _ => mem_uniq
section
variable {X : Cx}
def rSetN (K : PySem.W.Frag) (w : World) : List V → Hp → VK → Prop := fun vs H Q => ∃ (p : Addr) (ns : List Int), vs = [.ref p] ∧ SqL K H p (ns.map V.int) ∧ ns.length ≤ 4000 ∧ ∀ q, H q = none → Q (.ref q) (upd H q (SetO w q (fun j => decide (j ∈ ns)) (uniq ns).length))
theorem cr_setN (hc : X.calm = true) : CallR X (.type "set") (rSetN X.K X.w) := by
  intro pins s σ H vs us Q I r h
  obtain ⟨p, ns, rfl, hp, hl, q⟩ := h
  rw [Vals.ref1 r]
  obtain ⟨its, rv, pl, hz⟩ := I.list hp
  refine call_set_ints (P := X.prog) (xs := ns) (I.ok.hd hc) pl.isList (ints_of_vals rv) (by unfold scanBound; omega) fun h2 tk c R m k => ?_
  have hn : H s.heap.objs.size = none := I.hok.fresh (Nat.le_refl _)
  have hc : c = (uniq ns).length := by
    obtain ⟨o, es, ep, t, _, _, _, _, nd, hm, _, _, hn, _⟩ := R
    rw [← hn, ← Array.length_toList, ← List.length_map (f := keyOf)]
    exact len_nodup nd (uniq_nodup ns) fun z => (hm z).symm.trans (decide_eq_true_iff.trans mem_uniq.symm)
  subst hc
  exact ⟨.ref _, upd H s.heap.objs.size (SetO X.w s.heap.objs.size (fun j => decide (j ∈ ns)) (uniq ns).length), I.laid (t' := tk) k (Nat.le_refl _) (setO_new R), rfl, q _ hn⟩
theorem ksetN {K : PySem.W.Frag} {w : World} (hc : X.calm = true := by rfl) (hK : X.K = K := by rfl) (hw : X.w = w := by rfl) : CallR X (.type "set") (rSetN K w) := by
  subst hK hw
  exact cr_setN hc
def rLenO (w : World) : List V → Hp → VK → Prop := fun vs H Q => ∃ (p : Addr) (S : Int → Bool) (n : Nat), vs = [.ref p] ∧ H p = some (SetO w p S n) ∧ n ≤ 4000 ∧ Q (.int (n : Int)) H
theorem cr_lenO : CallR X (.builtin "len") (rLenO X.w) := by
  intro pins s σ H vs us Q I r h
  obtain ⟨p, S, n, rfl, hp, hl, q⟩ := h
  rw [Vals.ref1 r]
  obtain ⟨o, es, ep, t, ho, hex, hd, _, _, _, _, hf, hn, _⟩ := setO_get I hp
  exact call_len_set ho hex hd hf (by omega) ⟨.int (n : Int), H, I.tok _, ⟨_, by rw [hn]⟩, q⟩
theorem kLenO {w : World} (hw : X.w = w := by rfl) : CallR X (.builtin "len") (rLenO w) := by
  subst hw
  exact cr_lenO
def rDictP (K : PySem.W.Frag) : List V → Hp → VK → Prop := fun xs H Q => ∃ (a : Addr) (ps : List Addr) (kvs : List (Key × V)), xs = [.ref a] ∧ SqL K H a (ps.map V.ref) ∧ Paired (fun p kv => SqT K H p [kV kv.1, kv.2]) ps kvs ∧
    ∀ p, H p = none → Q (.ref p) (upd H p (.dK (mergeK [] kvs)))
theorem kDictP {K : PySem.W.Frag} (hc : X.calm = true := by rfl) (hK : X.K = K := by rfl) : CallR X (.type "dict") (rDictP K) := by
  subst hK
  exact call_dictP hc
end
section
variable {K : PySem.W.Frag} {w : World} {σ : L2.St} {H : Hp} {ta td ty tv : TE} {D : Ends}
theorem ev_lenSet {p : Addr} {ns : List Int} (h : Ev ta σ H (.ref p)) (hp : SqL K H p (ns.map V.int)) (hl : ns.length ≤ 4000) : Ev (tCB (rLenO w) (tCons (tCB (rSetN K w) (tCons ta tNil)) tNil)) σ H (.int ((uniq ns).length : Int)) := fun H1 e Q q =>
  h H1 e _ fun H2 e2 => ⟨p, ns, rfl, ex_l (e.trans e2) hp, hl, fun r hr => ⟨r, _, _, rfl, upd_same, by have := uniq_le ns; omega, q _ (e2.trans (Ex.new hr))⟩⟩
/-! ### dicts as sets of numbers -/
def DS (ks : List Nat) : List (Key × V) := ks.map fun (n : Nat) => ((Sum.inl (n : Int) : Key), V.bl true)
def addN (ks : List Nat) (n : Nat) : List Nat := if n ∈ ks then ks else ks ++ [n]
theorem mem_addN {ks : List Nat} {n m : Nat} : m ∈ addN ks n ↔ m ∈ ks ∨ m = n := by
  unfold addN
  split
  · rename_i h
    exact ⟨.inl, fun z => z.elim id fun e => e ▸ h⟩
  · rw [List.mem_append, List.mem_singleton]
theorem addN_nodup {ks : List Nat} {n : Nat} (h : ks.Nodup) : (addN ks n).Nodup := by
  unfold addN
  split
  · exact h
  · rename_i hn
    refine List.nodup_append.mpr ⟨h, List.pairwise_singleton _ _, fun a ha b hb => ?_⟩
    rw [List.mem_singleton.mp hb]
    exact fun z => hn (z ▸ ha)
theorem addN_len (ks : List Nat) (n : Nat) : (addN ks n).length ≤ ks.length + 1 := by
  unfold addN
  split
  · omega
  · simp
theorem val_DS (ks : List Nat) (n : Nat) : valV (DS ks) (Sum.inl (n : Int)) = if n ∈ ks then some (.bl true) else none := by
  induction ks with
  | nil => rfl
  | cons m ks ih =>
    by_cases h : m = n
    · subst h
      show valV ((Sum.inl (m : Int), V.bl true) :: DS ks) _ = _
      rw [valV_pos rfl, if_pos List.mem_cons_self]
    · show valV ((Sum.inl (m : Int), V.bl true) :: DS ks) _ = _
      rw [valV_neg (fun z => h (Int.ofNat.inj (Sum.inl.inj z))), ih]
      by_cases h2 : n ∈ ks
      · rw [if_pos h2, if_pos (List.mem_cons_of_mem _ h2)]
      · rw [if_neg h2, if_neg fun z => (List.mem_cons.mp z).elim (fun e => h e.symm) h2]
theorem put_DS (ks : List Nat) (n : Nat) : putK (DS ks) (Sum.inl (n : Int)) (.bl true) = DS (addN ks n) := by
  have ha := valV_any (Sum.inl (n : Int) : Key) (DS ks)
  rw [val_DS] at ha
  unfold putK addN
  by_cases h : n ∈ ks
  · rw [if_pos h] at ha
    rw [if_pos (show ((DS ks).any fun kv => decide (kv.1 = (Sum.inl (n : Int) : Key))) = true from ha), if_pos h]
    unfold DS
    rw [List.map_map]
    refine List.map_congr_left fun m _ => ?_
    show (if (Sum.inl (m : Int) : Key) = Sum.inl (n : Int) then _ else _) = _
    split <;> rfl
  · rw [if_neg h] at ha
    rw [if_neg (show ¬ ((DS ks).any fun kv => decide (kv.1 = (Sum.inl (n : Int) : Key))) = true from fun z => Bool.false_ne_true (ha.symm.trans z)), if_neg h]
    unfold DS
    rw [List.map_append]
    rfl
theorem DS_len (ks : List Nat) : (DS ks).length = ks.length := by unfold DS; rw [List.length_map]
/-- d[n] = True -/
theorem s_putD {d : Addr} {ks : List Nat} {n : Nat} (hd : Ev td σ H (.ref d)) (hn : Ev ty σ H (.int (n : Int))) (h : H d = some (.dK (DS ks))) (hl : ks.length ≤ 10000) (k : ∀ H1, Ex H H1 → D.nx σ (upd H1 d (.dK (DS (addN ks n))))) : sDPut td ty (tC (.bl true)) D σ H :=
  hd H (Ex.refl _) _ fun H2 e2 => hn H2 e2 _ fun H3 e3 => ⟨d, _, rfl, DPut.k (k := Sum.inl (n : Int)) ((e2.trans e3) _ _ h) (by rw [DS_len]; unfold sizeLine; omega), by rw [put_DS]; exact k H3 (e2.trans e3)⟩
theorem q_putD {tz : TS} {d : Addr} {ks : List Nat} {n : Nat} (hd : Ev td σ H (.ref d)) (hn : Ev ty σ H (.int (n : Int))) (h : H d = some (.dK (DS ks))) (hl : ks.length ≤ 10000) (k : ∀ H1, Ex H H1 → tz D σ (upd H1 d (.dK (DS (addN ks n))))) : tSeq (sDPut td ty (tC (.bl true))) tz D σ H := s_putD (D := { D with nx := tz D }) hd hn h hl k
theorem some_if {b : Prop} [Decidable b] {v : V} : (if b then some v else none).isSome = decide b := by
  by_cases h : b
  · rw [if_pos h, decide_eq_true h]; rfl
  · rw [if_neg h, decide_eq_false h]; rfl
theorem ev_inD {d : Addr} {ks : List Nat} {n : Nat} (hn : Ev ty σ H (.int (n : Int))) (hd : Ev td σ H (.ref d)) (h : H d = some (.dK (DS ks))) : Ev (tDIn ty td) σ H (.bl (decide (n ∈ ks))) := fun H1 e Q q =>
  hn H1 e _ fun H2 e2 => hd H2 (e.trans e2) _ fun H3 e3 => ⟨d, _, rfl, DGet.k (k := Sum.inl (n : Int)) (((e.trans e2).trans e3) _ _ h), by rw [val_DS, some_if]; exact q H3 (e2.trans e3)⟩
theorem ev_notinD {d : Addr} {ks : List Nat} {n : Nat} (hn : Ev ty σ H (.int (n : Int))) (hd : Ev td σ H (.ref d)) (h : H d = some (.dK (DS ks))) : Ev (tDNotIn ty td) σ H (.bl (!decide (n ∈ ks))) := fun H1 e Q q =>
  hn H1 e _ fun H2 e2 => hd H2 (e.trans e2) _ fun H3 e3 => ⟨d, _, rfl, DGet.k (k := Sum.inl (n : Int)) (((e.trans e2).trans e3) _ _ h), by rw [val_DS, some_if]; exact q H3 (e2.trans e3)⟩
/-- list(d) -/
theorem el_listD {d : Addr} {ks : List Nat} (hd : Ev td σ H (.ref d)) (h : H d = some (.dK (DS ks))) : EvL (tCB rListD (tCons td tNil)) σ H (ks.map fun (n : Nat) => V.int (n : Int)) := fun H1 e Q q =>
  hd H1 e _ fun H2 e2 => ⟨d, DS ks, rfl, (e.trans e2) _ _ h, fun r hr => q r _ (fresh_back e2 hr) (e2.trans (Ex.new hr)) (by
    rw [upd_same]
    unfold DS
    rw [List.map_map]
    rfl)⟩
end
/-! ### numbers, ascending -/
/-- the members of ks, ascending, below n -/
def asc (n : Nat) (p : Nat → Bool) : List Nat := (List.range n).filter p
theorem asc_lt (n : Nat) (p : Nat → Bool) : (asc n p).Pairwise (· < ·) := List.Pairwise.filter _ List.pairwise_lt_range
theorem sorted_is {l l' : List Int} (h1 : l.Pairwise (· ≤ ·)) (h2 : l'.Pairwise (· ≤ ·)) (h : l.Perm l') : l = l' := h.eq_of_pairwise (fun a b _ _ h1 h2 => Int.le_antisymm h1 h2) h1 h2
/-- what any ascending order of ks is -/
theorem asc_is {n : Nat} {p : Nat → Bool} {ks : List Nat} {ys : List Int} (hk : ks.Nodup) (hm : ∀ m, m ∈ ks ↔ m < n ∧ p m = true) (hp : ys.Perm (ks.map fun (m : Nat) => (m : Int))) (hs : ys.Pairwise (· ≤ ·)) : ys = (asc n p).map fun (m : Nat) => (m : Int) := by
  refine sorted_is hs ?_ (hp.trans (List.Perm.map _ ?_))
  · exact List.pairwise_map.mpr ((asc_lt n p).imp fun h => by omega)
  · refine (List.perm_ext_iff_of_nodup hk ((asc_lt n p).imp fun h => Nat.ne_of_lt h)).mpr fun m => ?_
    unfold asc
    rw [hm, List.mem_filter, List.mem_range]
end Wd
set_option Elab.async false
set_option linter.all false
set_option maxRecDepth 100000
set_option maxHeartbeats 2000000
/-! dict comprehensions, comprehensions of two clauses -/
namespace Wd
open PySem PySem.Spec PyProof.Rows L2 Evl Wc Wt Wg
section
variable {J : It} {n : Nat} {G : Hp → Prop} {Y : Nat → Hp → V → Hp → Prop}
theorem dc_it (w : Walk J n G Y) {g : TG} {tt : TT} {tk tv : TE} {vs : List Nat} {σ : L2.St} {H1 : Hp} {D : Addr} {Qd : Hp → Prop} (Pv : Nat → Hp → Prop) (h0 : Pv 0 (upd H1 D (.dK []))) (hG : ∀ i H, i ≤ n → Pv i H → G H)
    (hs : ∀ i x H H', i < n → Pv i H → Y i H x H' → g x (wipe σ vs) H' fun σ2 H2 => wipe σ2 vs = wipe σ vs ∧ tt σ2 H2 fun b H3 =>
      if b = true then tk σ2 H3 fun y H4 => tv σ2 H4 fun z H5 => ∃ kvs k, y = kV k ∧ H5 D = some (.dK kvs) ∧ kvs.length < sizeLine ∧ Pv (i + 1) (upd H5 D (.dK (putK kvs k z))) else Pv (i + 1) H3) (hd : ∀ H, Pv n H → Qd H) :
    ∃ W : Nat → Nat → Hp → Prop, (∃ m, W 0 m (upd H1 D (.dK []))) ∧ ∀ i m H, W i m H →
      (J.stop i H ∧ Qd H) ∨ (J.go i H ∧ ∃ Nx : Hp → Prop, (∀ H', Nx H' → ∃ m', m' < m ∧ W (i + 1) m' H') ∧ ∀ x H', J.yld i H x H' → g x (wipe σ vs) H' fun σ2 H2 => wipe σ2 vs = wipe σ vs ∧ tt σ2 H2 fun b H3 =>
        if b = true then tk σ2 H3 fun y H4 => tv σ2 H4 fun z H5 => ∃ kvs k, y = kV k ∧ H5 D = some (.dK kvs) ∧ kvs.length < sizeLine ∧ Nx (upd H5 D (.dK (putK kvs k z))) else Nx H3) := by
  refine ⟨fun i m H => m = n - i ∧ i ≤ n ∧ Pv i H, ⟨n, by simp, Nat.zero_le _, h0⟩, ?_⟩
  rintro i m H ⟨rfl, hi, p⟩
  have q := hG i H hi p
  by_cases hlt : i < n
  · exact .inr ⟨w.goes i H hlt q, Pv (i + 1), fun H' p' => ⟨n - (i + 1), by omega, rfl, hlt, p'⟩, fun x H' y => hs i x H H' hlt p (w.yields i H x H' hlt q y)⟩
  · have e : i = n := by omega
    subst e
    exact .inl ⟨w.stops H q, hd H p⟩
theorem in_it (w : Walk J n G Y) {g : TG} {tt : TT} {te : TE} {vs : List Nat} {σ : L2.St} {H1 : Hp} {D : Addr} {Qd : Hp → Prop} (Pv : Nat → Hp → Prop) (h0 : Pv 0 H1) (hG : ∀ i H, i ≤ n → Pv i H → G H)
    (hs : ∀ i x H H', i < n → Pv i H → Y i H x H' → g x (wipe σ vs) H' fun σ2 H2 => wipe σ2 vs = wipe σ vs ∧ tt σ2 H2 fun b H3 =>
      if b = true then te σ2 H3 fun y H4 => ∃ acc, H4 D = some (.lst acc) ∧ acc.length < sizeLine ∧ Pv (i + 1) (upd H4 D (.lst (acc ++ [y]))) else Pv (i + 1) H3) (hd : ∀ H, Pv n H → Qd H) :
    ∃ W : Nat → Nat → Hp → Prop, (∃ m, W 0 m H1) ∧ ∀ i m H, W i m H →
      (J.stop i H ∧ Qd H) ∨ (J.go i H ∧ ∃ Nx : Hp → Prop, (∀ H', Nx H' → ∃ m', m' < m ∧ W (i + 1) m' H') ∧ ∀ x H', J.yld i H x H' → g x (wipe σ vs) H' fun σ2 H2 => wipe σ2 vs = wipe σ vs ∧ tt σ2 H2 fun b H3 =>
        if b = true then te σ2 H3 fun y H4 => ∃ acc, H4 D = some (.lst acc) ∧ acc.length < sizeLine ∧ Nx (upd H4 D (.lst (acc ++ [y]))) else Nx H3) := by
  refine ⟨fun i m H => m = n - i ∧ i ≤ n ∧ Pv i H, ⟨n, by simp, Nat.zero_le _, h0⟩, ?_⟩
  rintro i m H ⟨rfl, hi, p⟩
  have q := hG i H hi p
  by_cases hlt : i < n
  · exact .inr ⟨w.goes i H hlt q, Pv (i + 1), fun H' p' => ⟨n - (i + 1), by omega, rfl, hlt, p'⟩, fun x H' y => hs i x H H' hlt p (w.yields i H x H' hlt q y)⟩
  · have e : i = n := by omega
    subst e
    exact .inl ⟨w.stops H q, hd H p⟩
end
def addAll (ks ns : List Nat) : List Nat := ns.foldl addN ks
theorem mem_addAll {m : Nat} : ∀ {ns ks : List Nat}, m ∈ addAll ks ns ↔ m ∈ ks ∨ m ∈ ns
  | [], ks => ⟨.inl, fun z => z.elim id fun h => nomatch h⟩
  | n :: ns, ks => by
    show m ∈ addAll (addN ks n) ns ↔ _
    rw [mem_addAll, mem_addN, List.mem_cons, or_assoc]
theorem addAll_nodup : ∀ {ns ks : List Nat}, ks.Nodup → (addAll ks ns).Nodup
  | [], _, h => h
  | n :: ns, ks, h => addAll_nodup (ns := ns) (addN_nodup h)
theorem addAll_len : ∀ (ns ks : List Nat), (addAll ks ns).length ≤ ks.length + ns.length
  | [], _ => Nat.le_refl _
  | n :: ns, ks => by
    have h1 := addAll_len ns (addN ks n)
    have h2 := addN_len ks n
    show (addAll (addN ks n) ns).length ≤ _
    rw [List.length_cons]
    omega
theorem addAll_succ {ns : List Nat} {i n : Nat} (h : ns[i]? = some n) : addAll [] (ns.take (i + 1)) = addN (addAll [] (ns.take i)) n := by
  rw [List.take_add_one, h]
  unfold addAll
  rw [List.foldl_append]
  rfl
section
variable {K : PySem.W.Frag} {σ : L2.St} {H : Hp} {te : TE} {Q : VK}
/-- {n: True for n in ns} -/
theorem dc_nums {wi : TI} {j : Nat} {vs : List Nat} {own : Addr → Prop} (ns : List Nat) (hs : Src wi σ H ns.length own (fun i v _ => (ns.map fun (n : Nat) => V.int (n : Int))[i]? = some v)) (hn : ns.length ≤ 4000) (hw : ∀ x, wipe ((wipe σ vs).set j (some x)) vs = wipe σ vs) (hj : ∀ x, ((wipe σ vs).set j (some x))[j]? = some (some x))
    (k : ∀ d H2, H d = none → Ex H H2 → H2 d = some (.dK (DS (addAll [] ns))) → Q (.ref d) H2) : tDc wi (gName j) tYes (tVar j) (tC (.bl true)) vs σ H Q :=
  hs H (Ex.refl H) _ fun J H1 S e1 w hS => fun Dl hD => by
    refine dc_it w (Qd := fun H3 => Q (.ref Dl) H3) (fun i Hi => Ex H1 Hi ∧ Hi Dl = some (.dK (DS (addAll [] (ns.take i))))) ?_ (fun i Hi hi p => hS (fun _ => False) Hi (fun b z => z.elim) (.of p.1)) ?_ ?_
    · exact ⟨Ex.new hD, upd_same⟩
    · rintro i x Ha Hb hi ⟨R, h1⟩ ⟨ey, hP⟩
      obtain ⟨n, hn1, rfl⟩ := at_map hP
      refine ⟨hw _, ?_⟩
      unfold tYes
      dsimp only
      rw [if_pos rfl]
      refine ⟨.int (n : Int), hj _, ?_⟩
      have hl := addAll_len (ns.take i) []
      refine ⟨DS (addAll [] (ns.take i)), Sum.inl (n : Int), rfl, ey _ _ h1, ?_, Ex.mut (R.trans ey) hD, ?_⟩
      · rw [DS_len]
        rw [List.length_take] at hl
        have : ([] : List Nat).length = 0 := rfl
        unfold sizeLine
        omega
      · rw [upd_same, put_DS, addAll_succ hn1]
    · rintro H3 ⟨R, h1⟩
      rw [List.take_length] at h1
      exact k Dl H3 (fresh_back e1 hD) (e1.trans R) h1
theorem sum_part {α : Type} (f : α → Nat) (xs : List α) (i : Nat) : ((xs.take i).map f).sum ≤ (xs.map f).sum := by
  conv => rhs; rw [← List.take_append_drop i xs, List.map_append, List.sum_append]
  omega
/-- [g a b for a in xs for b in ys a] -/
theorem el_lc2 {α β : Type} {wi wi1 : TI} {j j1 : Nat} {vs vs1 : List Nat} {own : Addr → Prop} {own1 : α → Addr → Prop} {f : α → V} {h : β → V} {g : α → β → V} (xs : List α) (ys : α → List β) (hs : Src wi σ H xs.length own (fun i v _ => (xs.map f)[i]? = some v))
    (hs1 : ∀ a H1, Ex H H1 → a ∈ xs → Src wi1 ((wipe σ vs).set j (some (f a))) H1 (ys a).length (own1 a) (fun i v _ => ((ys a).map h)[i]? = some v))
    (ho : ∀ a c, own1 a c → H c ≠ none) (hz : (xs.map fun a => (ys a).length).sum ≤ 40000) (hw : ∀ x, wipe ((wipe σ vs).set j (some x)) vs = wipe σ vs) (hw1 : ∀ x y, wipe ((wipe ((wipe σ vs).set j (some x)) vs1).set j1 (some y)) vs1 = wipe ((wipe σ vs).set j (some x)) vs1)
    (he : ∀ a b H1, Ex H H1 → a ∈ xs → b ∈ ys a → Ev te ((wipe ((wipe σ vs).set j (some (f a))) vs1).set j1 (some (h b))) H1 (g a b)) :
    EvL (tLc2 wi (gName j) tYes wi1 (gName j1) tYes te vs vs1) σ H (xs.flatMap fun a => (ys a).map (g a)) := fun H0 e0 Q q => hs H0 e0 _ fun J H1 S e1 w hS => fun Dl hD => by
  have e01 := e0.trans e1
  refine ⟨fun i m Hi => m = xs.length - i ∧ i ≤ xs.length ∧ Ex H1 Hi ∧ Hi Dl = some (.lst ((xs.take i).flatMap fun a => (ys a).map (g a))), ⟨xs.length, by simp, Nat.zero_le _, Ex.new hD, upd_same⟩, ?_⟩
  rintro i m Hi ⟨rfl, hi, hE, hL⟩
  have hG : S Hi := hS (fun _ => False) Hi (fun b z => z.elim) (.of hE)
  by_cases hlt : i < xs.length
  · refine .inr ⟨w.goes i Hi hlt hG, fun H' => Ex H1 H' ∧ H' Dl = some (.lst ((xs.take (i + 1)).flatMap fun a => (ys a).map (g a))), fun H' p' => ⟨xs.length - (i + 1), by omega, rfl, hlt, p'.1, p'.2⟩, fun x H' y => ?_⟩
    obtain ⟨ey, hP⟩ := w.yields i Hi x H' hlt hG y
    obtain ⟨a, ha, rfl⟩ := at_map hP
    have ham := List.mem_of_getElem? ha
    have hEy := hE.trans ey
    refine ⟨hw _, ?_⟩
    show wi1 ((wipe σ vs).set j (some (f a))) H' _
    refine hs1 a H' (e01.trans hEy) ham H' (Ex.refl _) _ fun J1 H4 S1 e4 w1 hS1 => ?_
    have hL4 : H4 Dl = some (.lst ((xs.take i).flatMap fun a => (ys a).map (g a))) := e4 _ _ (ey _ _ hL)
    have hE4 := hEy.trans e4
    have htk : (xs.take (i + 1)).flatMap (fun a => (ys a).map (g a)) = (xs.take i).flatMap (fun a => (ys a).map (g a)) ++ (ys a).map (g a) := by
      rw [List.take_add_one, ha, List.flatMap_append]
      simp
    refine in_it w1 (Qd := fun H' => Ex H1 H' ∧ H' Dl = some (.lst ((xs.take (i + 1)).flatMap fun a => (ys a).map (g a)))) (fun t Ht => Ex H1 Ht ∧ Exc (fun c => c = Dl) H4 Ht ∧ Ht Dl = some (.lst ((xs.take i).flatMap (fun a => (ys a).map (g a)) ++ ((ys a).take t).map (g a)))) ?_ ?_ ?_ ?_
    · exact ⟨hE4, Exc.refl _, by rw [hL4]; simp⟩
    · intro t Ht ht p
      refine hS1 (fun c => c = Dl) Ht (fun b z => ?_) p.2.1
      subst z
      exact ⟨(by rw [ey _ _ hL]; exact fun z => nomatch z), fun z => ho a b z (fresh_back e01 hD)⟩
    · rintro t y Ht Hu ht ⟨p1, p2, p3⟩ ⟨eu, hy⟩
      obtain ⟨b, hb, rfl⟩ := at_map hy
      refine ⟨hw1 _ _, ?_⟩
      show te ((wipe ((wipe σ vs).set j (some (f a))) vs1).set j1 (some (h b))) Hu fun y H7 => _
      refine he a b Hu (e01.trans (p1.trans eu)) ham (List.mem_of_getElem? hb) Hu (Ex.refl _) _ fun H7 e7 => ?_
      refine ⟨_, e7 _ _ (eu _ _ p3), ?_, Ex.mut (p1.trans (eu.trans e7)) hD, (p2.then (eu.trans e7)).upd (.inl rfl), ?_⟩
      · refine sz_lt ?_
        rw [List.length_append, List.length_flatMap, List.length_map, List.length_take]
        have h1 := sum_part (fun a => (ys a).length) xs (i + 1)
        rw [List.take_add_one, ha, List.map_append, List.sum_append] at h1
        simp at h1 ⊢
        omega
      · rw [upd_same, List.take_add_one, hb, List.map_append, List.append_assoc]
        rfl
    · rintro Ht ⟨p1, _, p3⟩
      rw [List.take_length] at p3
      exact ⟨p1, by rw [p3, htk]⟩
  · have e : i = xs.length := by omega
    subst e
    rw [List.take_length] at hL
    exact .inl ⟨w.stops Hi hG, q Dl Hi (fresh_back e1 hD) (e1.trans hE) hL⟩
end
end Wd
set_option Elab.async false
set_option linter.all false
set_option maxRecDepth 100000
set_option maxHeartbeats 2000000
/-! set comprehensions of any kind of things -/
namespace Ws
open PySem PySem.Spec PyProof.Rows L2 Evl Wc Wt Wg Wd
/-- how a set of some kind begins (nw) and takes one thing more (ad) -/
structure Fill (P : Program) (w : World) (nw : Addr → HO) (ad : Addr → HO → V → HO → Prop) : Prop where
  new : ∀ (H : Hp) (h : Heap), ObjOk P w H (h.push (so w)) h.objs.size (nw h.objs.size)
  add : ∀ (X : Cx), X.prog = P → X.w = w → ∀ (pins : List (Addr × Obj)) (σ : L2.St) (H : Hp) (s : Shared) (E : Value → Shared → Prop) (D : Addr) (o o' : HO) (y : V) (v : Value) (Q : Value → Shared → Prop), Inv X pins σ H s → H D = some o → ad D o y o' → RelV y v →
    (∀ s', Inv X pins σ (upd H D o') s' → Q .none s') → wpAny (model X.prog X.w) X.A (call (.builtin "set.add") [.ref D, v]) Q E s
/-- one turn's end: the thing y goes into the set at D, behind it Z -/
def tInto (ad : Addr → HO → V → HO → Prop) (D : Addr) (Z : Hp → Prop) : VK := fun y H => ∃ o o', H D = some o ∧ ad D o y o' ∧ Z (upd H D o')
/-- {te for g in wi if tt} -/
def tSet (nw : Addr → HO) (ad : Addr → HO → V → HO → Prop) (wi : TI) (g : TG) (tt : TT) (te : TE) (vs : List Nat) : TE := fun σ H Q => wi σ H fun J H1 => ∀ D, H1 D = none → ∃ W : Nat → Nat → Hp → Prop, (∃ m, W 0 m (upd H1 D (nw D))) ∧ ∀ i m H, W i m H →
  (J.stop i H ∧ Q (.ref D) H) ∨ (J.go i H ∧ ∃ Z : Hp → Prop, (∀ H', Z H' → ∃ m', m' < m ∧ W (i + 1) m' H') ∧ ∀ x H', J.yld i H x H' →
    g x (wipe σ vs) H' fun σ2 H2 => wipe σ2 vs = wipe σ vs ∧ tt σ2 H2 fun b H3 => if b = true then te σ2 H3 (tInto ad D Z) else Z H3)
/-- {te for g in wi if tt for g1 in wi1 if tt1} -/
def tSet2 (nw : Addr → HO) (ad : Addr → HO → V → HO → Prop) (wi : TI) (g : TG) (tt : TT) (wi1 : TI) (g1 : TG) (tt1 : TT) (te : TE) (vs vs1 : List Nat) : TE := fun σ H Q => wi σ H fun J H1 => ∀ D, H1 D = none → ∃ W : Nat → Nat → Hp → Prop, (∃ m, W 0 m (upd H1 D (nw D))) ∧ ∀ i m H, W i m H →
  (J.stop i H ∧ Q (.ref D) H) ∨ (J.go i H ∧ ∃ Z : Hp → Prop, (∀ H', Z H' → ∃ m', m' < m ∧ W (i + 1) m' H') ∧ ∀ x H', J.yld i H x H' →
    g x (wipe σ vs) H' fun σ2 H2 => wipe σ2 vs = wipe σ vs ∧ tt σ2 H2 fun b H3 => if b = true then
      wi1 σ2 H3 fun J1 H4 => ∃ W1 : Nat → Nat → Hp → Prop, (∃ m, W1 0 m H4) ∧ ∀ j k H, W1 j k H →
        (J1.stop j H ∧ Z H) ∨ (J1.go j H ∧ ∃ Z1 : Hp → Prop, (∀ H', Z1 H' → ∃ k', k' < k ∧ W1 (j + 1) k' H') ∧ ∀ x H', J1.yld j H x H' →
          g1 x (wipe σ2 vs1) H' fun σ3 H5 => wipe σ3 vs1 = wipe σ2 vs1 ∧ tt1 σ3 H5 fun b H6 => if b = true then te σ3 H6 (tInto ad D Z1) else Z1 H6)
    else Z H3)
/-! ### the turns of two clauses -/
section
variable {prog : Program} {w : World} {A : Around} {R : Result → Shared → Prop} {s : Shared} {elt t0 i0 t1 i1 : Expr} {ifs0 ifs1 : List Expr} {scope : Scope} {pos : Pos} {it acc : Value} {env : Env}
theorem turn_first (elt t0 i0 t1 i1 : Expr) (ifs0 ifs1 : List Expr) (scope : Scope) (pos : Pos) (it acc : Value) (env : Env) :
    compTurn (.SetComp elt [⟨t0, i0, ifs0, 0⟩, ⟨t1, i1, ifs1, 0⟩] scope pos) 0 it acc env = (do
      standAt i0.pos
      match ← pyNext it with
      | none => pure (.done .next)
      | some v =>
        letOwnedTupleGo t0 it v
        assign t0 env v
        let mut ok := true
        for c in ifs0 do
          if ok then ok ← isTrue c env (eval c env)
        if ok then
          let x ← eval i1 env
          standAt i1.pos
          let x ← foldedSetIterable i1 env x
          let _ ← runOwn (.compStart (.SetComp elt [⟨t0, i0, ifs0, 0⟩, ⟨t1, i1, ifs1, 0⟩] scope pos) 1 (← holding [x] (pyIter x)) acc env) env
        again (.compLoop (.SetComp elt [⟨t0, i0, ifs0, 0⟩, ⟨t1, i1, ifs1, 0⟩] scope pos) 0 it acc env)) := by rfl
theorem turn_second (elt t0 i0 t1 i1 : Expr) (ifs0 ifs1 : List Expr) (scope : Scope) (pos : Pos) (it acc : Value) (env : Env) :
    compTurn (.SetComp elt [⟨t0, i0, ifs0, 0⟩, ⟨t1, i1, ifs1, 0⟩] scope pos) 1 it acc env = (do
      standAt i1.pos
      match ← pyNext it with
      | none => pure (.done .next)
      | some v =>
        letOwnedTupleGo t1 it v
        assign t1 env v
        let mut ok := true
        for c in ifs1 do
          if ok then ok ← isTrue c env (eval c env)
        if ok then
          (do let v ← eval elt env; standAt elt.pos; let _ ← call (.builtin "set.add") [acc, v])
        again (.compLoop (.SetComp elt [⟨t0, i0, ifs0, 0⟩, ⟨t1, i1, ifs1, 0⟩] scope pos) 1 it acc env)) := by rfl
/-- a raise out of the block -/
abbrev Out (prog : Program) (w : World) (A : Around) (env : Env) (R : Result → Shared → Prop) : Value → Shared → Prop := notedBy (model prog w) A env fun e s' => R (.error e) s'
/-- the tests of a clause -/
abbrev oks (ifs : List Expr) (env : Env) : Sem Bool := forIn ifs true fun c r => if r = true then do let ok ← isTrue c env (eval c env); pure (ForInStep.yield ok) else pure (ForInStep.yield r)
theorem loop_first (hs : ∀ x, foldedSetIterable i1 env x = pure x) (I : Nat → Shared → Prop)
    (turn : ∀ n s, I n s → wpAny (model prog w) A (pyNext it) (fun r s₁ => match r with
      | none => R (.ok .next) s₁
      | some v => wpAny (model prog w) A (letOwnedTupleGo t0 it v) (fun _ s₂ => wpAny (model prog w) A (assign t0 env v) (fun _ s₃ => wpAny (model prog w) A (oks ifs0 env) (fun ok s₄ =>
            if ok = true then wpAny (model prog w) A (eval i1 env) (fun x s₅ => wpAny (model prog w) A (pyIter x) (fun it1 s₆ =>
              codeAny (model prog w) A (.compStart (.SetComp elt [⟨t0, i0, ifs0, 0⟩, ⟨t1, i1, ifs1, 0⟩] scope pos) 1 it1 acc env) (fun r s' => match r with
                | .ok _ => ∃ m, m < n ∧ I m s'
                | .error _ => False) s₆) (Out prog w A env R) s₅) (Out prog w A env R) s₄
            else ∃ m, m < n ∧ I m s₄) (Out prog w A env R) s₃) (Out prog w A env R) s₂) (Out prog w A env R) s₁) (Out prog w A env R) s)
    (n : Nat) (h : I n s) : codeAny (model prog w) A (.compLoop (.SetComp elt [⟨t0, i0, ifs0, 0⟩, ⟨t1, i1, ifs1, 0⟩] scope pos) 0 it acc env) R s := by
  refine codeAny_loop rfl I (fun n s hI => ?_) n h
  show wpAny _ A ((compTurn (.SetComp elt [⟨t0, i0, ifs0, 0⟩, ⟨t1, i1, ifs1, 0⟩] scope pos) 0 it acc env).onRaise (fun x => do noteFrame x env; theTreesLotGoes x)) _ _ s
  refine wpAny_noted ?_
  rw [turn_first]
  refine wpAny_bind (wpAny_standAt (wpAny_bind (wpAny_mono (turn n s hI) (fun r s₁ h₁ => ?_) fun _ _ z => z)))
  cases r with
  | none => exact wpAny_pure h₁
  | some v =>
    refine wpAny_bind (wpAny_mono h₁ (fun _ s₂ h₂ => wpAny_bind (wpAny_mono h₂ (fun _ s₃ h₃ => wpAny_bind (wpAny_mono h₃ (fun ok s₄ h₄ => ?_) fun _ _ z => z)) fun _ _ z => z)) fun _ _ z => z)
    cases ok with
    | false => exact wpAny_pure ⟨rfl, h₄⟩
    | true =>
      refine wpAny_bind (wpAny_mono h₄ (fun x s₅ h₅ => wpAny_bind (wpAny_standAt (wpAny_bind (wpAny_of_eq (hs x) (wpAny_bind (wpAny_holding (wpAny_mono h₅ (fun it1 s₆ h₆ => wpAny_bind (wpAny_runOwn ?_)) fun _ _ z => z))))))) fun _ _ z => z)
      rw [Around.mark_none]
      refine codeAny_mono h₆ fun r s' hr => ?_
      cases r with
      | error e => exact hr.elim
      | ok f => first | exact wpAny_pure ⟨rfl, hr⟩ | exact wpAny_bind (wpAny_pure (wpAny_pure ⟨rfl, hr⟩))
theorem loop_second (I : Nat → Shared → Prop)
    (turn : ∀ n s, I n s → wpAny (model prog w) A (pyNext it) (fun r s₁ => match r with
      | none => R (.ok .next) s₁
      | some v => wpAny (model prog w) A (letOwnedTupleGo t1 it v) (fun _ s₂ => wpAny (model prog w) A (assign t1 env v) (fun _ s₃ => wpAny (model prog w) A (oks ifs1 env) (fun ok s₄ =>
            if ok = true then wpAny (model prog w) A (eval elt env) (fun x s₅ => wpAny (model prog w) A (call (.builtin "set.add") [acc, x]) (fun _ s₆ => ∃ m, m < n ∧ I m s₆) (Out prog w A env R) s₅) (Out prog w A env R) s₄
            else ∃ m, m < n ∧ I m s₄) (Out prog w A env R) s₃) (Out prog w A env R) s₂) (Out prog w A env R) s₁) (Out prog w A env R) s)
    (n : Nat) (h : I n s) : codeAny (model prog w) A (.compLoop (.SetComp elt [⟨t0, i0, ifs0, 0⟩, ⟨t1, i1, ifs1, 0⟩] scope pos) 1 it acc env) R s := by
  refine codeAny_loop rfl I (fun n s hI => ?_) n h
  show wpAny _ A ((compTurn (.SetComp elt [⟨t0, i0, ifs0, 0⟩, ⟨t1, i1, ifs1, 0⟩] scope pos) 1 it acc env).onRaise (fun x => do noteFrame x env; theTreesLotGoes x)) _ _ s
  refine wpAny_noted ?_
  rw [turn_second]
  refine wpAny_bind (wpAny_standAt (wpAny_bind (wpAny_mono (turn n s hI) (fun r s₁ h₁ => ?_) fun _ _ z => z)))
  cases r with
  | none => exact wpAny_pure h₁
  | some v =>
    refine wpAny_bind (wpAny_mono h₁ (fun _ s₂ h₂ => wpAny_bind (wpAny_mono h₂ (fun _ s₃ h₃ => wpAny_bind (wpAny_mono h₃ (fun ok s₄ h₄ => ?_) fun _ _ z => z)) fun _ _ z => z)) fun _ _ z => z)
    cases ok with
    | false => exact wpAny_pure ⟨rfl, h₄⟩
    | true => exact wpAny_bind (wpAny_bind (wpAny_mono h₄ (fun x s₅ h₅ => wpAny_bind (wpAny_standAt (wpAny_bind (wpAny_mono h₅ (fun _ s₆ h₆ => wpAny_pure (wpAny_pure ⟨rfl, h₆⟩)) fun _ _ z => z)))) fun _ _ z => z))
theorem start_second (h0 : codeAny (model prog w) A (.compLoop (.SetComp elt [⟨t0, i0, ifs0, 0⟩, ⟨t1, i1, ifs1, 0⟩] scope pos) 1 it acc env) R s)
    (h : wpAny (model prog w) A (pyIter it) (fun it' s' => codeAny (model prog w) A (.compLoop (.SetComp elt [⟨t0, i0, ifs0, 0⟩, ⟨t1, i1, ifs1, 0⟩] scope pos) 1 it' acc env) R s') (Out prog w A env R) s) :
    codeAny (model prog w) A (.compStart (.SetComp elt [⟨t0, i0, ifs0, 0⟩, ⟨t1, i1, ifs1, 0⟩] scope pos) 1 it acc env) R s := by
  refine codeAny_of_tree ?_
  show wpAny _ _ ((compStart (.SetComp elt [⟨t0, i0, ifs0, 0⟩, ⟨t1, i1, ifs1, 0⟩] scope pos) 1 it acc env).onRaise (fun x => do noteFrame x env; standAt theWindowsPlace)) _ _ s
  refine wpAny_notedAt ?_
  unfold compStart
  show wpAny _ _ (ask >>= _) _ _ s
  refine wpAny_bind (wpAny_askSetting (wpAny_ite ?_))
  split
  · first
      | exact wpAny_bind (wpAny_pure (wpAny_pure (And.intro rfl h0)))
      | exact wpAny_pure (And.intro rfl h0)
  · first
      | exact wpAny_bind (wpAny_rule (wpAny_bind (wpAny_standAt (wpAny_bind (wpAny_mono h (fun it' s' h' => wpAny_pure (And.intro rfl h')) fun _ _ x => x)))))
      | (refine wpAny_bind (wpAny_rule ?_); show wpAny _ _ (standAt i1.pos >>= _) _ _ s; exact wpAny_bind (wpAny_standAt (wpAny_bind (wpAny_mono h (fun it' s' h' => wpAny_pure (And.intro rfl h')) fun _ _ x => x))))
end
section
variable {X : Cx} {nw : Addr → HO} {ad : Addr → HO → V → HO → Prop}
/-- what a rule of a block's part tells at each of its contexts -/
abbrev InBlk (X : Cx) (scope : Scope) (G : Cx → Prop) : Prop := ∀ (s : Shared) (H : Hp) (C : Addr) (cl : List (PySem.Str × Addr)) (fp : List Addr), G (X.blk s H scope (compEnvC scope cl C X.env) fp)
/-- the block's frame stands: H3 what is there, D the set, s3 the state ahead of the frame, ce its names -/
structure Frame (X : Cx) (pins : List (Addr × Obj)) (σ : L2.St) (vs : List Nat) (scope : Scope) (H3 : Hp) (s3 s4 : Shared) (ce : Env) (fp : List Addr) : Prop where
  loc : ce.locals = s3.heap.objs.size
  inv : Inv X pins σ H3 s3
  fps : ∀ b ∈ fp, FpOk X pins H3 b ∧ b < s3.heap.objs.size
  blk : Inv (X.blk s3 H3 scope ce fp) [] (wipe σ vs) H3 s4
/-- the source's objects at a turn -/
theorem Frame.stat {pins : List (Addr × Obj)} {σ σ' : L2.St} {vs : List Nat} {scope : Scope} {H3 H' : Hp} {s3 s4 s' : Shared} {ce : Env} {fp : List Addr} (F : Frame X pins σ vs scope H3 s3 s4 ce fp) (I : Inv (X.blk s3 H3 scope ce fp) [] σ' H' s') (hn : ∀ b ∈ fp, H' b = none) : ∀ b ∈ fp, FpOk (X.blk s3 H3 scope ce fp) [] H' b := fun b hb =>
  ⟨hn b hb, (I.ok.exf b hb).1, I.ok.exfs b hb, .inl hb, fun x c e => (I.ok.exf b hb).2 x c e, fun p hp => absurd (show p ∈ ([] : List (Addr × Obj)) ++ [] from hp) (by simp)⟩
/-- the block's frame goes -/
theorem Frame.leave {pins : List (Addr × Obj)} {σ σ' : L2.St} {vs : List Nat} {scope : Scope} {H3 H' : Hp} {s3 s4 s' : Shared} {ce : Env} {fp : List Addr} {Q : V → Prop} {D : Addr} {use : Option (Value → Sem Unit)} {Qf : Value → Shared → Prop} (F : Frame X pins σ vs scope H3 s3 s4 ce fp) (I : Inv (X.blk s3 H3 scope ce fp) [] σ' H' s')
    (k : ∀ m, Inv X pins σ H' s' → s'.heap.Ns s3.heap.objs.size m → FpOk X pins H' s3.heap.objs.size → compPost (model X.prog X.w) X.A X.xe use Qf (.ref D) s3.heap.objs.size (.ok .next) s') : compPost (model X.prog X.w) X.A X.xe use Qf (.ref D) s3.heap.objs.size (.ok .next) s' := by
  have nC : H' s3.heap.objs.size = none := F.loc ▸ (show H' ce.locals = none from I.free)
  obtain ⟨m, hn, _⟩ := I.loc
  have hn : s'.heap.Ns ce.locals m := hn
  rw [F.loc] at hn
  refine k m (F.inv.call' (ch := fp) I.os I.base I.hok I.bare fun b hb => ?_) hn (F.inv.fpOk (Nat.le_refl _) nC)
  obtain ⟨⟨_, a1, a2, a3, a4, a5⟩, _⟩ := F.fps b hb
  exact ⟨a3, a1, a4, a5⟩
/-- the way into the block: the first source, the empty set, the block's frame. What is left is the loop. -/
theorem set_in {pins : List (Addr × Obj)} {s : Shared} {σ : L2.St} {H : Hp} {elt tg iter : Expr} {ifs : List Expr} {more : List Comprehension} {scope : Scope} {own : List (PySem.Str × Nat)} {pos pos' : Pos} {wi : TI} {use : Option (Value → Sem Unit)} {Qf : Value → Shared → Prop} {KJ : It → Hp → Prop}
    (fl : Fill X.prog X.w nw ad) (hN : X.N.Nodup) (I : Inv X pins σ H s) (hi : PI X tg iter wi) (ok : BlkOk X.N X.env.scope scope own) (hs : ∀ x, foldedSetIterable iter X.env x = pure x) (h : wi σ H KJ)
    (loop : ∀ (J : It) (H2 H3 : Hp) (s3 s4 : Shared) (D it : Addr) (fp : List Addr) (tn : Nat → Heap → Prop) (cl : List (PySem.Str × Addr)), KJ J H2 → H2 D = none → H3 = upd H2 D (nw D) → Frame X pins σ (own.map (·.2)) scope H3 s3 s4 (compEnvC scope cl s3.heap.objs.size X.env) fp → Turn X.prog X.w X.K tg J fp it tn → tn 0 s4.heap →
      codeAny (model X.prog X.w) X.A (.compLoop (.SetComp elt (⟨tg, iter, ifs, 0⟩ :: more) scope pos) 0 (.ref it) (.ref D) (compEnvC scope cl s3.heap.objs.size X.env)) (compPost (model X.prog X.w) X.A X.xe use Qf (.ref D) s3.heap.objs.size) s4) :
    wpAny (model X.prog X.w) X.A (comprehension (.SetComp elt (⟨tg, iter, ifs, 0⟩ :: more) scope pos) scope X.env pos' (newSet (.type "set")) false (eval iter X.env) use) Qf X.xe s := by
  have hfree : ∀ y ∈ scope.names, y.2 = .free → ∃ c, X.env.cells.lookup y.1 = some c := fun y hy e => (ok.free y hy e).elim (fun k => I.ok.has _ (.inl k)) fun k => I.ok.has _ (.inr k)
  refine wpAny_comprehension_free (use := use) rfl hs (closure_ok hfree) ok.kind (fun y hy e => by rw [ok.uniq y hy, e]) (thn (hi.run pins s σ H _ I h) fun xv s1 hx => thn hx fun itv s2 h2 => ?_)
  obtain ⟨it, fp, tn, J, H2, rfl, I2, T, st2, f2, q⟩ := h2
  refine PpSet.newSet_ok (newEnv_comp ?_)
  have none2 : H2 s2.heap.objs.size = none := I2.hok.fresh (Nat.le_refl _)
  have I3 := I2.laid (t' := s2.toks) (fun b o e => Heap.get?_push_of_some (so X.w) e) (Nat.le_refl _) (fl.new _ s2.heap)
  have old : ∀ b ∈ fp, b < s2.heap.objs.size := fun b hb => by
    obtain ⟨o, e, _⟩ := T.obj _ _ st2 b hb
    exact Heap.lt_size e
  have f3 : ∀ b ∈ fp, FpOk X pins (upd H2 s2.heap.objs.size (nw s2.heap.objs.size)) b ∧ b < (s2.heap.push (so X.w)).objs.size := fun b hb => by
    refine ⟨⟨?_, (f2 b hb).2⟩, by rw [Heap.size_push]; exact Nat.lt_succ_of_lt (old b hb)⟩
    rw [upd_ne (Nat.ne_of_lt (old b hb))]
    exact (f2 b hb).1
  have st3 : tn 0 (s2.heap.push (so X.w)) := T.keep _ _ _ st2 fun b _ o e => Heap.get?_push_of_some _ e
  have I4 := block_start I3 ok hN f3
  have st4 : tn 0 (pushCells ((s2.heap.push (so X.w)).push { cls := .type "dict", data := .dict #[] }) scope.names) := T.keep _ _ _ st3 fun b _ o e => pushCells_keeps _ _ _ _ (Heap.get?_push_of_some _ e)
  have L := loop J H2 _ { s2 with heap := s2.heap.push (so X.w) } _ s2.heap.objs.size it fp tn _ q none2 rfl ⟨rfl, I3, f3, I4⟩ T st4
  exact PpSet.codeAny_compStart_set L (T.self X.A 0 _ _ _ st4 L)
/-- what is pinned behind a turn's store stands behind the turn -/
theorem turn_end {Y : Cx} {pins : List (Addr × Obj)} {fp : List Addr} {h7 : Heap} {σ8 σ0 : L2.St} {H' : Hp} {s' : Shared} {tg : Expr} {J : It} {it : Addr} {tn : Nat → Heap → Prop} {i : Nat} (T : Turn Y.prog Y.w Y.K tg J fp it tn) (st : tn i h7)
    (I : Inv Y (pins ++ pinsAt fp h7) σ8 H' s') (hl : σ0.length = σ8.length) (hk : ∀ (j : Nat) v, σ0[j]? = some (some v) → σ8[j]? = some (some v)) : Inv Y pins σ0 H' s' ∧ tn i s'.heap ∧ ∀ b ∈ fp, H' b = none := by
  have pin' : ∀ b ∈ fp, ∀ o, h7.get? b = some o → s'.heap.get? b = some o ∧ H' b = none := fun b hb o e =>
    let z := I.pin (b, o) (List.mem_append_right _ (List.mem_append_right _ (mem_pinsAt hb e)))
    ⟨z.1, z.2.1⟩
  refine ⟨I.unpinned.weak hl hk, T.keep _ _ _ st fun b hb o e => (pin' b hb o e).1, fun b hb => ?_⟩
  obtain ⟨o, e, _⟩ := T.obj _ _ st b hb
  exact (pin' b hb o e).2
theorem set_one {pins : List (Addr × Obj)} {s : Shared} {σ : L2.St} {H : Hp} {Q : VK} {elt tg iter : Expr} {ifs : List Expr} {scope : Scope} {own : List (PySem.Str × Nat)} {pos pos' : Pos} {wi : TI} {g : TG} {tt : TT} {te : TE} {use : Option (Value → Sem Unit)} {Qf : Value → Shared → Prop}
    (fl : Fill X.prog X.w nw ad) (hc : X.calm = true) (hN : X.N.Nodup) (I : Inv X pins σ H s) (hi : PI X tg iter wi) (ok : BlkOk X.N X.env.scope scope own) (hg : InBlk X scope fun Y => PG Y tg g) (ht : InBlk X scope fun Y => PTs Y ifs tt) (he : InBlk X scope fun Y => PE Y elt te)
    (hs : ∀ x, foldedSetIterable iter X.env x = pure x) (h : tSet nw ad wi g tt te (own.map (·.2)) σ H Q)
    (fin : ∀ D C s' m H', Inv X pins σ H' s' → Q (.ref D) H' → s'.heap.Ns C m → FpOk X pins H' C → compPost (model X.prog X.w) X.A X.xe use Qf (.ref D) C (.ok .next) s') :
    wpAny (model X.prog X.w) X.A (comprehension (.SetComp elt [⟨tg, iter, ifs, 0⟩] scope pos) scope X.env pos' (newSet (.type "set")) false (eval iter X.env) use) Qf X.xe s := by
  refine set_in fl hN I hi ok hs h fun J H2 H3 s3 s4 D it fp tn cl q none2 e3 F T st4 => ?_
  obtain ⟨W, ⟨m0, w0⟩, turn⟩ := q D none2
  rw [← e3] at w0
  have pg := hg s3 H3 s3.heap.objs.size cl fp
  have pt := ht s3 H3 s3.heap.objs.size cl fp
  have pe := he s3 H3 s3.heap.objs.size cl fp
  generalize compEnvC scope cl s3.heap.objs.size X.env = ce at F pg pt pe ⊢
  refine PpSet.compLoopS_any (fun n s' => ∃ i H', Inv (X.blk s3 H3 scope ce fp) [] (wipe σ (own.map (·.2))) H' s' ∧ tn i s'.heap ∧ (∀ b ∈ fp, H' b = none) ∧ W i n H') ?_ m0 ⟨0, H3, F.blk, st4, fun b hb => (F.fps b hb).1.1, w0⟩
  rintro n s5 ⟨i, H5, I5, st5, n5, w5⟩
  rcases turn i n H5 w5 with ⟨stop, qq⟩ | ⟨go, Z, hZ, step⟩
  · refine thnF (T.done (X.blk s3 H3 scope ce fp) rfl rfl rfl hc i [] s5 _ H5 (fun _ _ => False) I5 (F.stat I5 n5) st5 stop) fun r s6 ⟨hr, I6⟩ => ?_
    subst hr
    exact F.leave (Q := fun _ => True) I6 fun m I7 hn hf => fin D _ s6 m H5 I7 qq hn hf
  · refine thnF (T.item (X.blk s3 H3 scope ce fp) rfl rfl rfl hc i [] s5 _ H5 (fun _ _ => False) I5 (F.stat I5 n5) st5 go) fun r s6 ⟨u, hr, h6⟩ => ?_
    subst hr
    refine thnF h6 fun _ s7 ⟨x, H7, I7, r7, y7, st7, n7⟩ => ?_
    refine thnF (pg.run _ s7 _ H7 x u _ (I7.pinned (F.stat I7 n7) (T.obj _ _ st7)) r7 (step x H7 y7)) fun _ s8 ⟨σ8, H8, I8, hw8, q8⟩ => ?_
    refine thnF (pt.run _ s8 σ8 H8 _ I8 q8) fun b s9 ⟨H9, I9, q9⟩ => ?_
    have back : ∀ {s' : Shared} {H' : Hp}, Inv (X.blk s3 H3 scope ce fp) ([] ++ pinsAt fp s7.heap) σ8 H' s' → Z H' → ∃ m, m < n ∧ ∃ i H', Inv (X.blk s3 H3 scope ce fp) [] (wipe σ (own.map (·.2))) H' s' ∧ tn i s'.heap ∧ (∀ b ∈ fp, H' b = none) ∧ W i m H' := fun {s' H'} I' z => by
      obtain ⟨m', hm, w'⟩ := hZ H' z
      obtain ⟨a1, a2, a3⟩ := turn_end (Y := X.blk s3 H3 scope ce fp) (σ0 := wipe σ (own.map (·.2))) T st7 I' (by rw [← hw8, wipe_length]) fun j v e => by
        rw [← hw8] at e
        exact (wipe_some e).1
      exact ⟨m', hm, i + 1, H', a1, a2, a3, w'⟩
    cases b with
    | false =>
      simp only [Bool.false_eq_true, if_false] at q9 ⊢
      exact back I9 q9
    | true =>
      simp only [if_true] at q9 ⊢
      refine thnF (pe.run _ s9 σ8 H9 _ I9 q9) fun z s10 ⟨y, H10, I10, r10, o, o', ho, hy, nx⟩ => ?_
      exact fl.add (X.blk s3 H3 scope ce fp) rfl rfl _ _ _ _ _ _ _ _ _ _ _ I10 ho hy r10 fun s11 I11 => back I11 nx
theorem set_two {pins : List (Addr × Obj)} {s : Shared} {σ : L2.St} {H : Hp} {Q : VK} {elt tg iter tg1 iter1 : Expr} {ifs ifs1 : List Expr} {scope : Scope} {own : List (PySem.Str × Nat)} {vs1 : List Nat} {pos pos' : Pos} {wi wi1 : TI} {g g1 : TG} {tt tt1 : TT} {te : TE} {use : Option (Value → Sem Unit)} {Qf : Value → Shared → Prop}
    (fl : Fill X.prog X.w nw ad) (hc : X.calm = true) (hN : X.N.Nodup) (I : Inv X pins σ H s) (hi : PI X tg iter wi) (ok : BlkOk X.N X.env.scope scope own) (hv : ∀ i ∈ vs1, i ∈ own.map (·.2)) (hg : InBlk X scope fun Y => PG Y tg g) (ht : InBlk X scope fun Y => PTs Y ifs tt)
    (hi1 : InBlk X scope fun Y => PI Y tg1 iter1 wi1) (hg1 : InBlk X scope fun Y => PG Y tg1 g1) (ht1 : InBlk X scope fun Y => PTs Y ifs1 tt1) (he : InBlk X scope fun Y => PE Y elt te)
    (hs : ∀ x, foldedSetIterable iter X.env x = pure x) (hs1 : ∀ env x, foldedSetIterable iter1 env x = pure x) (h : tSet2 nw ad wi g tt wi1 g1 tt1 te (own.map (·.2)) vs1 σ H Q)
    (fin : ∀ D C s' m H', Inv X pins σ H' s' → Q (.ref D) H' → s'.heap.Ns C m → FpOk X pins H' C → compPost (model X.prog X.w) X.A X.xe use Qf (.ref D) C (.ok .next) s') :
    wpAny (model X.prog X.w) X.A (comprehension (.SetComp elt [⟨tg, iter, ifs, 0⟩, ⟨tg1, iter1, ifs1, 0⟩] scope pos) scope X.env pos' (newSet (.type "set")) false (eval iter X.env) use) Qf X.xe s := by
  refine set_in fl hN I hi ok hs h fun J H2 H3 s3 s4 D it fp tn cl q none2 e3 F T st4 => ?_
  obtain ⟨W, ⟨m0, w0⟩, turn⟩ := q D none2
  rw [← e3] at w0
  have pg := hg s3 H3 s3.heap.objs.size cl fp
  have pt := ht s3 H3 s3.heap.objs.size cl fp
  have pe := he s3 H3 s3.heap.objs.size cl fp
  have pi1 := hi1 s3 H3 s3.heap.objs.size cl fp
  have pg1 := hg1 s3 H3 s3.heap.objs.size cl fp
  have pt1 := ht1 s3 H3 s3.heap.objs.size cl fp
  generalize compEnvC scope cl s3.heap.objs.size X.env = ce at F pg pt pe pi1 pg1 pt1 ⊢
  refine loop_first (hs1 ce) (fun n s' => ∃ i H', Inv (X.blk s3 H3 scope ce fp) [] (wipe σ (own.map (·.2))) H' s' ∧ tn i s'.heap ∧ (∀ b ∈ fp, H' b = none) ∧ W i n H') ?_ m0 ⟨0, H3, F.blk, st4, fun b hb => (F.fps b hb).1.1, w0⟩
  rintro n s5 ⟨i, H5, I5, st5, n5, w5⟩
  rcases turn i n H5 w5 with ⟨stop, qq⟩ | ⟨go, Z, hZ, step⟩
  · refine thnF (T.done (X.blk s3 H3 scope ce fp) rfl rfl rfl hc i [] s5 _ H5 (fun _ _ => False) I5 (F.stat I5 n5) st5 stop) fun r s6 ⟨hr, I6⟩ => ?_
    subst hr
    exact F.leave (Q := fun _ => True) I6 fun m I7 hn hf => fin D _ s6 m H5 I7 qq hn hf
  · refine thnF (T.item (X.blk s3 H3 scope ce fp) rfl rfl rfl hc i [] s5 _ H5 (fun _ _ => False) I5 (F.stat I5 n5) st5 go) fun r s6 ⟨u, hr, h6⟩ => ?_
    subst hr
    refine thnF h6 fun _ s7 ⟨x, H7, I7, r7, y7, st7, n7⟩ => ?_
    refine thnF (pg.run _ s7 _ H7 x u _ (I7.pinned (F.stat I7 n7) (T.obj _ _ st7)) r7 (step x H7 y7)) fun _ s8 ⟨σ8, H8, I8, hw8, q8⟩ => ?_
    refine thnF (pt.run _ s8 σ8 H8 _ I8 q8) fun b s9 ⟨H9, I9, q9⟩ => ?_
    have back : ∀ {σ9 : L2.St} {s' : Shared} {H' : Hp}, Inv (X.blk s3 H3 scope ce fp) ([] ++ pinsAt fp s7.heap) σ9 H' s' → (wipe σ (own.map (·.2))).length = σ9.length → (∀ (j : Nat) v, (wipe σ (own.map (·.2)))[j]? = some (some v) → σ9[j]? = some (some v)) → Z H' →
        ∃ m, m < n ∧ ∃ i H', Inv (X.blk s3 H3 scope ce fp) [] (wipe σ (own.map (·.2))) H' s' ∧ tn i s'.heap ∧ (∀ b ∈ fp, H' b = none) ∧ W i m H' := fun {σ9 s' H'} I' hl hk z => by
      obtain ⟨m', hm, w'⟩ := hZ H' z
      obtain ⟨a1, a2, a3⟩ := turn_end (Y := X.blk s3 H3 scope ce fp) T st7 I' hl hk
      exact ⟨m', hm, i + 1, H', a1, a2, a3, w'⟩
    have len8 : (wipe σ (own.map (·.2))).length = σ8.length := by rw [← hw8, wipe_length]
    have kept8 : ∀ (j : Nat) v, (wipe σ (own.map (·.2)))[j]? = some (some v) → σ8[j]? = some (some v) ∧ j ∉ vs1 := fun j v e => by
      rw [← hw8] at e
      obtain ⟨e1, e2⟩ := wipe_some e
      exact ⟨e1, fun z => e2 (hv j z)⟩
    cases b with
    | false =>
      simp only [Bool.false_eq_true, if_false] at q9 ⊢
      exact back I9 len8 (fun j v e => (kept8 j v e).1) q9
    | true =>
      simp only [if_true] at q9 ⊢
      refine thnF (pi1.run _ s9 σ8 H9 _ I9 q9) fun xv s10 hx => thnF hx fun itv s11 h11 => ?_
      obtain ⟨it1, fp1, tn1, J1, H11, rfl, I11, T1, st11, f11, W1, ⟨m1, w1⟩, turn1⟩ := h11
      have inner : codeAny (model X.prog X.w) X.A (.compLoop (.SetComp elt [⟨tg, iter, ifs, 0⟩, ⟨tg1, iter1, ifs1, 0⟩] scope pos) 1 (.ref it1) (.ref D) ce)
          (fun r s' => match r with
            | .ok _ => ∃ m, m < n ∧ ∃ i H', Inv (X.blk s3 H3 scope ce fp) [] (wipe σ (own.map (·.2))) H' s' ∧ tn i s'.heap ∧ (∀ b ∈ fp, H' b = none) ∧ W i m H'
            | .error _ => False) s11 := by
        have stat1 : ∀ {H' : Hp}, (∀ b ∈ fp1, H' b = none) → ∀ b ∈ fp1, FpOk (X.blk s3 H3 scope ce fp) ([] ++ pinsAt fp s7.heap) H' b := fun hn b hb => ⟨hn b hb, (f11 b hb).2⟩
        refine loop_second (fun k s' => ∃ j H', Inv (X.blk s3 H3 scope ce fp) ([] ++ pinsAt fp s7.heap) (wipe σ8 vs1) H' s' ∧ tn1 j s'.heap ∧ (∀ b ∈ fp1, H' b = none) ∧ W1 j k H') ?_ m1 ⟨0, H11, I11.weak (wipe_length _ _) (fun j v e => (wipe_some e).1), st11, fun b hb => (f11 b hb).1, w1⟩
        rintro k s12 ⟨j, H12, I12, st12, n12, w12⟩
        rcases turn1 j k H12 w12 with ⟨stop1, z1⟩ | ⟨go1, Z1, hZ1, step1⟩
        · refine thnF (T1.done (X.blk s3 H3 scope ce fp) rfl rfl rfl hc j _ s12 (wipe σ8 vs1) H12 (fun _ _ => False) I12 (stat1 n12) st12 stop1) fun r s13 ⟨hr, I13⟩ => ?_
          subst hr
          exact back I13 (len8.trans (wipe_length σ8 vs1).symm) (fun j v e => by rw [wipe_out (kept8 j v e).2]; exact (kept8 j v e).1) z1
        · refine thnF (T1.item (X.blk s3 H3 scope ce fp) rfl rfl rfl hc j _ s12 (wipe σ8 vs1) H12 (fun _ _ => False) I12 (stat1 n12) st12 go1) fun r s13 ⟨u1, hr, h13⟩ => ?_
          subst hr
          refine thnF h13 fun _ s14 ⟨x1, H14, I14, r14, y14, st14, n14⟩ => ?_
          refine thnF (pg1.run _ s14 (wipe σ8 vs1) H14 x1 u1 _ (I14.pinned (stat1 n14) (T1.obj _ _ st14)) r14 (step1 x1 H14 y14)) fun _ s15 ⟨σ15, H15, I15, hw15, q15⟩ => ?_
          refine thnF (pt1.run _ s15 σ15 H15 _ I15 q15) fun b1 s16 ⟨H16, I16, q16⟩ => ?_
          have back1 : ∀ {s' : Shared} {H' : Hp}, Inv (X.blk s3 H3 scope ce fp) (([] ++ pinsAt fp s7.heap) ++ pinsAt fp1 s14.heap) σ15 H' s' → Z1 H' → ∃ m, m < k ∧ ∃ j H', Inv (X.blk s3 H3 scope ce fp) ([] ++ pinsAt fp s7.heap) (wipe σ8 vs1) H' s' ∧ tn1 j s'.heap ∧ (∀ b ∈ fp1, H' b = none) ∧ W1 j m H' := fun {s' H'} I' z => by
            obtain ⟨m', hm, w'⟩ := hZ1 H' z
            obtain ⟨a1, a2, a3⟩ := turn_end (Y := X.blk s3 H3 scope ce fp) (σ0 := wipe σ8 vs1) T1 st14 I' (by rw [← hw15, wipe_length]) fun j v e => by
              rw [← hw15] at e
              exact (wipe_some e).1
            exact ⟨m', hm, j + 1, H', a1, a2, a3, w'⟩
          cases b1 with
          | false =>
            simp only [Bool.false_eq_true, if_false] at q16 ⊢
            exact back1 I16 q16
          | true =>
            simp only [if_true] at q16 ⊢
            refine thnF (pe.run _ s16 σ15 H16 _ I16 q16) fun z s17 ⟨y, H17, I17, r17, o, o', ho, hy, nx⟩ => ?_
            exact fl.add (X.blk s3 H3 scope ce fp) rfl rfl _ _ _ _ _ _ _ _ _ _ _ I17 ho hy r17 fun s18 I18 => back1 I18 nx
      exact start_second inner (T1.self X.A 0 _ _ _ st11 inner)
/-- as a value, one clause -/
theorem pe_set {elt tg iter : Expr} {ifs : List Expr} {scope : Scope} {own : List (PySem.Str × Nat)} {pos : Pos} {wi : TI} {g : TG} {tt : TT} {te : TE} (fl : Fill X.prog X.w nw ad) (hc : X.calm = true) (hN : X.N.Nodup) (hi : PI X tg iter wi) (ok : BlkOk X.N X.env.scope scope own)
    (hg : InBlk X scope fun Y => PG Y tg g) (ht : InBlk X scope fun Y => PTs Y ifs tt) (he : InBlk X scope fun Y => PE Y elt te) (hs : ∀ x, foldedSetIterable iter X.env x = pure x := by intro _; rfl) : PE X (.SetComp elt [⟨tg, iter, ifs, 0⟩] scope pos) (tSet nw ad wi g tt te (own.map (·.2))) := by
  refine ⟨fun pins s σ H Q I h => ?_⟩
  rw [PpSet.eval_SetComp]
  refine set_one fl hc hN I hi ok hg ht he hs h fun D C s' m H' I' q hn ⟨f0, f1, f2, f3, f4, f5⟩ => ⟨m, hn, fun h'' sb => ?_⟩
  exact ⟨.ref D, H', I'.turned (t' := s'.toks) (fun b o hb e => (sb.2 b hb).trans e) f0 f1 f3 f4 f5, rfl, q⟩
/-- as a value, two clauses -/
theorem pe_set2 {elt tg iter tg1 iter1 : Expr} {ifs ifs1 : List Expr} {scope : Scope} {own : List (PySem.Str × Nat)} {vs1 : List Nat} {pos : Pos} {wi wi1 : TI} {g g1 : TG} {tt tt1 : TT} {te : TE} (fl : Fill X.prog X.w nw ad) (hc : X.calm = true) (hN : X.N.Nodup) (hi : PI X tg iter wi) (ok : BlkOk X.N X.env.scope scope own) (hv : ∀ i ∈ vs1, i ∈ own.map (·.2))
    (hg : InBlk X scope fun Y => PG Y tg g) (ht : InBlk X scope fun Y => PTs Y ifs tt) (hi1 : InBlk X scope fun Y => PI Y tg1 iter1 wi1) (hg1 : InBlk X scope fun Y => PG Y tg1 g1) (ht1 : InBlk X scope fun Y => PTs Y ifs1 tt1) (he : InBlk X scope fun Y => PE Y elt te)
    (hs : ∀ x, foldedSetIterable iter X.env x = pure x := by intro _; rfl) (hs1 : ∀ env x, foldedSetIterable iter1 env x = pure x := by intro _ _; rfl) : PE X (.SetComp elt [⟨tg, iter, ifs, 0⟩, ⟨tg1, iter1, ifs1, 0⟩] scope pos) (tSet2 nw ad wi g tt wi1 g1 tt1 te (own.map (·.2)) vs1) := by
  refine ⟨fun pins s σ H Q I h => ?_⟩
  rw [PpSet.eval_SetComp]
  refine set_two fl hc hN I hi ok hv hg ht hi1 hg1 ht1 he hs hs1 h fun D C s' m H' I' q hn ⟨f0, f1, f2, f3, f4, f5⟩ => ⟨m, hn, fun h'' sb => ?_⟩
  exact ⟨.ref D, H', I'.turned (t' := s'.toks) (fun b o hb e => (sb.2 b hb).trans e) f0 f1 f3 f4 f5, rfl, q⟩
end
end Ws
set_option Elab.async false
set_option linter.all false
set_option maxRecDepth 100000
set_option maxHeartbeats 4000000
/-! set comprehensions of texts and of numbers; sorted of them; len of a set of texts; set(tuple of texts) -/
namespace Ws
open PySem PySem.Spec PyProof.Rows L2 Evl Wc Wt Wg Wd
/-- one text more, if it is not there yet -/
def addX (l : List Tx) (x : Tx) : List Tx := if x ∈ l then l else x :: l
def setX (l : List Tx) : List Tx := l.foldl addX []
theorem mem_addX {l : List Tx} {x y : Tx} : y ∈ addX l x ↔ y ∈ l ∨ y = x := by
  unfold addX
  split
  · rename_i h
    exact ⟨.inl, fun z => z.elim id fun e => e ▸ h⟩
  · rw [List.mem_cons]
    exact Or.comm
theorem addX_nodup {l : List Tx} {x : Tx} (h : l.Nodup) : (addX l x).Nodup := by
  unfold addX
  split
  · exact h
  · rename_i hx
    exact List.nodup_cons.mpr ⟨hx, h⟩
theorem addX_len (l : List Tx) (x : Tx) : (addX l x).length ≤ l.length + 1 := by
  unfold addX
  split
  · omega
  · simp
theorem fold_addX : ∀ (xs l : List Tx), (∀ y, y ∈ xs.foldl addX l ↔ y ∈ l ∨ y ∈ xs) ∧ (l.Nodup → (xs.foldl addX l).Nodup) ∧ (xs.foldl addX l).length ≤ l.length + xs.length
  | [], l => ⟨fun y => ⟨.inl, fun z => z.elim id fun h => nomatch h⟩, id, Nat.le_refl _⟩
  | x :: xs, l => by
    obtain ⟨h1, h2, h3⟩ := fold_addX xs (addX l x)
    refine ⟨fun y => ?_, fun h => h2 (addX_nodup h), ?_⟩
    · show y ∈ xs.foldl addX (addX l x) ↔ _
      rw [h1, mem_addX, List.mem_cons, or_assoc]
    · have := addX_len l x
      show (xs.foldl addX (addX l x)).length ≤ _
      rw [List.length_cons]
      omega
theorem mem_setX {l : List Tx} {y : Tx} : y ∈ setX l ↔ y ∈ l := ((fold_addX l []).1 y).trans ⟨fun z => z.elim (fun h => nomatch h) id, .inr⟩
theorem setX_nodup (l : List Tx) : (setX l).Nodup := (fold_addX l []).2.1 List.nodup_nil
theorem setX_len (l : List Tx) : (setX l).length ≤ l.length := by
  have := (fold_addX l []).2.2
  rwa [List.length_nil, Nat.zero_add] at this
theorem setX_snoc (l : List Tx) (x : Tx) : setX (l ++ [x]) = addX (setX l) x := List.foldl_append
/-- the texts without repetition, ascending -/
def setS (l : List Tx) : List Tx := sortT (setX l)
theorem mem_setS {l : List Tx} {y : Tx} : y ∈ setS l ↔ y ∈ l := sortT_mem.trans mem_setX
theorem setS_nodup (l : List Tx) : (setS l).Nodup := (sortT_perm _).nodup_iff.mpr (setX_nodup l)
theorem setS_len (l : List Tx) : (setS l).length ≤ l.length := by
  unfold setS
  rw [sortT_len]
  exact setX_len l
theorem sortT_of_perm {a b : List Tx} (h : a.Perm b) : sortT a = sortT b := (((sortT_perm a).trans h).trans (sortT_perm b).symm).eq_of_pairwise (fun x y _ _ h1 h2 => List.le_antisymm h1 h2) (sortT_pw a) (sortT_pw b)
theorem sortT_same {a b : List Tx} (ha : a.Nodup) (hb : b.Nodup) (h : ∀ x, x ∈ a ↔ x ∈ b) : sortT a = sortT b := sortT_of_perm ((List.perm_ext_iff_of_nodup ha hb).mpr h)
theorem setS_uniq {l ys : List Tx} (u : Uniq l ys) : sortT ys = setS l := sortT_same u.nd (setX_nodup l) fun x => (u.mem x).trans mem_setX.symm
theorem setS_same {a b : List Tx} (h : ∀ x, x ∈ a ↔ x ∈ b) : setS a = setS b := sortT_same (setX_nodup a) (setX_nodup b) fun x => mem_setX.trans ((h x).trans mem_setX.symm)
theorem setX_map_add (l : List Tx) (x : Tx) : (if SX.S x ∈ l.map SX.S then l.map SX.S else SX.S x :: l.map SX.S) = (addX l x).map SX.S := by
  have e : SX.S x ∈ l.map SX.S ↔ x ∈ l := by
    rw [List.mem_map]
    exact ⟨fun ⟨y, hy, q⟩ => S_inj q ▸ hy, fun h => ⟨x, h, rfl⟩⟩
  unfold addX
  by_cases h : x ∈ l
  · rw [if_pos (e.mpr h), if_pos h]
  · rw [if_neg fun z => h (e.mp z), if_neg h]
    rfl
section
variable {P : Program} {w : World} {A : Around} {E : Value → Shared → Prop} {s : Shared} {a : Addr} {l : List Str}
theorem SetX.typeIs (R : SetX P w s.heap a l) : s.TypeIs (.ref a) "set" := by
  obtain ⟨o, _, _, _, ho, hx, _⟩ := R
  exact ⟨o, ho, hx.1⟩
/-- a.add(k) -/
theorem addText {k : Str} {u : Tok} {Q : Value → Shared → Prop} (R : SetX P w s.heap a l) (room : l.length + 1 < scanBound)
    (hQ : ∀ h', Heap.SameBut a s.heap h' → SetX P w h' a (if k ∈ l then l else k :: l) → Q .none { s with heap := h', toks := s.toks + 1 }) : wpAny (model P w) A (call (.builtin "set.add") [.ref a, .str k u]) Q E s := by
  refine wpAny_call_entry F.slot_set_add (SetX.typeIs R) F.entry_set_add ?_ (F.args_set_add_2 _ _)
  unfold Builtin.«set.add» Builtin.Frozenset.oneOther
  simp only [List.isEmpty_nil, bind_assoc]
  unfold Builtin.Frozenset.addrOf setAdd
  refine wpAny_bind (wpAny_pure ?_)
  try dsimp only
  refine wpAny_bind (wpAny_pure ?_)
  try dsimp only
  refine wpAny_bind (wpAny_holding (wpAny_bind ((PySem.strKind P w).pyHash (k := k) (PySem.strKind_is _ _ _ _) ?_)))
  refine add_text (s := { s with toks := s.toks + 1 }) R room fun h' b sb r => ?_
  show wpAny _ _ (ret Value.none) _ _ _
  exact wpAny_pure ⟨_, rfl, hQ h' sb r⟩
end
def nwX (P : Program) (w : World) (D : Addr) : HO := SetXO P w D []
def adX (P : Program) (w : World) (D : Addr) (o : HO) (y : V) (o' : HO) : Prop := ∃ (l : List Tx) (x : Tx), o = SetXO P w D (l.map SX.S) ∧ y = T x ∧ l.length + 1 < scanBound ∧ o' = SetXO P w D ((addX l x).map SX.S)
theorem fillX (P : Program) (w : World) : Fill P w (nwX P w) (adX P w) := by
  refine ⟨fun H h => setXO_new (SetX.new (Heap.get?_push_size _ rfl)), ?_⟩
  rintro X rfl rfl pins σ H s E D o o' y v Q I hD ⟨l, x, rfl, rfl, room, rfl⟩ r k
  obtain ⟨t, rfl⟩ := r
  refine addText (I.hok D _ hD).1 (by rw [List.length_map]; exact room) fun h' sb R => ?_
  rw [setX_map_add] at R
  have he : ∃ u, h'.get? D = some u := by
    have ⟨o, _, _, _, ho, _⟩ := R
    exact ⟨o, ho⟩
  exact k _ (I.write (e := D) (t' := s.toks + 1) (by rw [hD]; trivial) (.inl rfl) (fun b u hb hu => (sb.2 b hb).trans hu) he (setXO_new R))
def nwN (w : World) (D : Addr) : HO := SetO w D (fun _ => false) 0
def adN (w : World) (D : Addr) (o : HO) (y : V) (o' : HO) : Prop := ∃ (S : Int → Bool) (n : Nat) (k : Int), o = SetO w D S n ∧ y = .int k ∧ n + 1 < scanBound ∧ o' = SetO w D (fun j => S j || decide (j = k)) (if S k = true then n else n + 1)
theorem fillN (P : Program) (w : World) : Fill P w (nwN w) (adN w) := by
  refine ⟨fun H h => setO_new (setR_fresh w), ?_⟩
  rintro X rfl rfl pins σ H s E D o o' y v Q I hD ⟨S, n, k, rfl, rfl, room, rfl⟩ r kk
  obtain ⟨t, rfl⟩ := r
  refine setR_add (setO_get I hD) room fun h' sb R => ?_
  have he : ∃ u, h'.get? D = some u := by
    have ⟨o, _, _, _, ho, _⟩ := R
    exact ⟨o, ho⟩
  exact kk _ (I.write (e := D) (t' := s.toks + 1) (by rw [hD]; trivial) (.inl rfl) (fun b u hb hu => (sb.2 b hb).trans hu) he (setO_new R))
section
variable {K : PySem.W.Frag} {P : Program} {w : World} {σ : L2.St} {H : Hp} {te : TE} {tt : TT} {Q : VK}
/-- what a comprehension of texts leaves, one clause, no test -/
theorem el_setX {α : Type} {wi : TI} {j : Nat} {vs : List Nat} {own : Addr → Prop} {f : α → V} {g : α → Tx} (xs : List α) (hs : Src wi σ H xs.length own (fun i v _ => (xs.map f)[i]? = some v)) (hz : xs.length ≤ 4000) (hw : ∀ x, wipe ((wipe σ vs).set j (some x)) vs = wipe σ vs)
    (he : ∀ a H1, Ex H H1 → a ∈ xs → Ev te ((wipe σ vs).set j (some (f a))) H1 (T (g a)))
    (k : ∀ d H2, H d = none → Ex H H2 → H2 d = some (SetXO P w d ((setX (xs.map g)).map SX.S)) → Q (.ref d) H2) : tSet (nwX P w) (adX P w) wi (gName j) tYes te vs σ H Q :=
  hs H (Ex.refl H) _ fun J H1 S e1 wk hS => fun D hD => by
    refine ⟨fun i m Hi => m = xs.length - i ∧ i ≤ xs.length ∧ Ex H1 Hi ∧ Hi D = some (SetXO P w D ((setX ((xs.take i).map g)).map SX.S)), ⟨xs.length, by simp, Nat.zero_le _, Ex.new hD, upd_same⟩, ?_⟩
    rintro i m Hi ⟨rfl, hi, hE, hL⟩
    have hG : S Hi := hS (fun _ => False) Hi (fun b z => z.elim) (.of hE)
    by_cases hlt : i < xs.length
    · refine .inr ⟨wk.goes i Hi hlt hG, fun H' => Ex H1 H' ∧ H' D = some (SetXO P w D ((setX ((xs.take (i + 1)).map g)).map SX.S)), fun H' p' => ⟨xs.length - (i + 1), by omega, rfl, hlt, p'.1, p'.2⟩, fun x H' y => ?_⟩
      obtain ⟨ey, hP⟩ := wk.yields i Hi x H' hlt hG y
      obtain ⟨a, ha, rfl⟩ := at_map hP
      refine ⟨hw _, ?_⟩
      unfold tYes
      dsimp only
      rw [if_pos rfl]
      refine he a H' ((e1.trans hE).trans ey) (List.mem_of_getElem? ha) H' (Ex.refl _) _ fun H4 e4 => ?_
      refine ⟨_, _, e4 _ _ (ey _ _ hL), ⟨_, _, rfl, rfl, ?_, rfl⟩, Ex.mut (hE.trans (ey.trans e4)) hD, ?_⟩
      · have := setX_len ((xs.take i).map g)
        rw [List.length_map, List.length_take] at this
        unfold scanBound
        omega
      · rw [upd_same, List.take_add_one, ha, List.map_append]
        show some (SetXO P w D ((addX (setX ((xs.take i).map g)) (g a)).map SX.S)) = some (SetXO P w D ((setX ((xs.take i).map g ++ [g a])).map SX.S))
        rw [setX_snoc]
    · have e : i = xs.length := by omega
      subst e
      rw [List.take_length] at hL
      exact .inl ⟨wk.stops Hi hG, k D Hi (fresh_back e1 hD) (e1.trans hE) hL⟩
/-- what a comprehension of numbers leaves, one clause, no test -/
theorem el_setN {α : Type} {wi : TI} {j : Nat} {vs : List Nat} {own : Addr → Prop} {f : α → V} {g : α → Int} (xs : List α) (hs : Src wi σ H xs.length own (fun i v _ => (xs.map f)[i]? = some v)) (hz : xs.length ≤ 4000) (hw : ∀ x, wipe ((wipe σ vs).set j (some x)) vs = wipe σ vs)
    (he : ∀ a H1, Ex H H1 → a ∈ xs → Ev te ((wipe σ vs).set j (some (f a))) H1 (.int (g a)))
    (k : ∀ d H2 S c, H d = none → Ex H H2 → (∀ z, S z = true ↔ z ∈ xs.map g) → c ≤ xs.length → H2 d = some (SetO w d S c) → Q (.ref d) H2) : tSet (nwN w) (adN w) wi (gName j) tYes te vs σ H Q :=
  hs H (Ex.refl H) _ fun J H1 S e1 wk hS => fun D hD => by
    refine ⟨fun i m Hi => m = xs.length - i ∧ i ≤ xs.length ∧ Ex H1 Hi ∧ ∃ B c, Hi D = some (SetO w D B c) ∧ c ≤ i ∧ ∀ z, B z = true ↔ z ∈ (xs.take i).map g, ⟨xs.length, by simp, Nat.zero_le _, Ex.new hD, _, _, upd_same, Nat.le_refl _, fun z => by simp⟩, ?_⟩
    rintro i m Hi ⟨rfl, hi, hE, B, c, hL, hc, hB⟩
    have hG : S Hi := hS (fun _ => False) Hi (fun b z => z.elim) (.of hE)
    by_cases hlt : i < xs.length
    · refine .inr ⟨wk.goes i Hi hlt hG, fun H' => Ex H1 H' ∧ ∃ B c, H' D = some (SetO w D B c) ∧ c ≤ i + 1 ∧ ∀ z, B z = true ↔ z ∈ (xs.take (i + 1)).map g, fun H' p' => ⟨xs.length - (i + 1), by omega, rfl, hlt, p'.1, p'.2⟩, fun x H' y => ?_⟩
      obtain ⟨ey, hP⟩ := wk.yields i Hi x H' hlt hG y
      obtain ⟨a, ha, rfl⟩ := at_map hP
      refine ⟨hw _, ?_⟩
      unfold tYes
      dsimp only
      rw [if_pos rfl]
      refine he a H' ((e1.trans hE).trans ey) (List.mem_of_getElem? ha) H' (Ex.refl _) _ fun H4 e4 => ?_
      refine ⟨_, _, e4 _ _ (ey _ _ hL), ⟨B, c, g a, rfl, rfl, by unfold scanBound; omega, rfl⟩, Ex.mut (hE.trans (ey.trans e4)) hD, _, _, upd_same, by split <;> omega, fun z => ?_⟩
      rw [List.take_add_one, ha, List.map_append, List.mem_append, Bool.or_eq_true, decide_eq_true_eq, hB]
      simp
    · have e : i = xs.length := by omega
      subst e
      rw [List.take_length] at hB
      exact .inl ⟨wk.stops Hi hG, k D Hi B c (fresh_back e1 hD) (e1.trans hE) hB hc hL⟩
/-- what a comprehension of texts leaves, two clauses, the second with a test -/
theorem el_setX2 {α β : Type} {wi wi1 : TI} {j j1 : Nat} {vs vs1 : List Nat} {own : Addr → Prop} {own1 : α → Addr → Prop} {f : α → V} {h : β → V} {p : α → β → Bool} {g : α → β → Tx} (xs : List α) (ys : α → List β) (hs : Src wi σ H xs.length own (fun i v _ => (xs.map f)[i]? = some v))
    (hs1 : ∀ a H1, Ex H H1 → a ∈ xs → Src wi1 ((wipe σ vs).set j (some (f a))) H1 (ys a).length (own1 a) (fun i v _ => ((ys a).map h)[i]? = some v))
    (ho : ∀ a c, own1 a c → H c ≠ none) (hz : (xs.map fun a => (ys a).length).sum ≤ 4000) (hw : ∀ x, wipe ((wipe σ vs).set j (some x)) vs = wipe σ vs) (hw1 : ∀ x y, wipe ((wipe ((wipe σ vs).set j (some x)) vs1).set j1 (some y)) vs1 = wipe ((wipe σ vs).set j (some x)) vs1)
    (ht : ∀ a b H1, Ex H H1 → a ∈ xs → b ∈ ys a → EvT tt ((wipe ((wipe σ vs).set j (some (f a))) vs1).set j1 (some (h b))) H1 (p a b))
    (he : ∀ a b H1, Ex H H1 → a ∈ xs → b ∈ ys a → p a b = true → Ev te ((wipe ((wipe σ vs).set j (some (f a))) vs1).set j1 (some (h b))) H1 (T (g a b)))
    (k : ∀ d H2, H d = none → Ex H H2 → H2 d = some (SetXO P w d ((setX (xs.flatMap fun a => ((ys a).filter (p a)).map (g a))).map SX.S)) → Q (.ref d) H2) :
    tSet2 (nwX P w) (adX P w) wi (gName j) tYes wi1 (gName j1) tt te vs vs1 σ H Q := hs H (Ex.refl H) _ fun J H1 S e1 wk hS => fun D hD => by
  let row := fun a => ((ys a).filter (p a)).map (g a)
  have hrow : ∀ i, ((xs.take i).flatMap row).length ≤ 4000 := fun i => by
    refine Nat.le_trans ?_ hz
    refine Nat.le_trans ?_ (sum_part (fun a => (ys a).length) xs i)
    rw [List.length_flatMap]
    induction xs.take i with
    | nil => exact Nat.le_refl _
    | cons a l ih =>
      rw [List.map_cons, List.map_cons, List.sum_cons, List.sum_cons]
      have h1 : (row a).length ≤ (ys a).length := by
        show (((ys a).filter (p a)).map (g a)).length ≤ _
        rw [List.length_map]
        exact List.length_filter_le _ _
      omega
  refine ⟨fun i m Hi => m = xs.length - i ∧ i ≤ xs.length ∧ Ex H1 Hi ∧ Hi D = some (SetXO P w D ((setX ((xs.take i).flatMap row)).map SX.S)), ⟨xs.length, by simp, Nat.zero_le _, Ex.new hD, upd_same⟩, ?_⟩
  rintro i m Hi ⟨rfl, hi, hE, hL⟩
  have hG : S Hi := hS (fun _ => False) Hi (fun b z => z.elim) (.of hE)
  by_cases hlt : i < xs.length
  · refine .inr ⟨wk.goes i Hi hlt hG, fun H' => Ex H1 H' ∧ H' D = some (SetXO P w D ((setX ((xs.take (i + 1)).flatMap row)).map SX.S)), fun H' p' => ⟨xs.length - (i + 1), by omega, rfl, hlt, p'.1, p'.2⟩, fun x H' y => ?_⟩
    obtain ⟨ey, hP⟩ := wk.yields i Hi x H' hlt hG y
    obtain ⟨a, ha, rfl⟩ := at_map hP
    have ham := List.mem_of_getElem? ha
    have hEy := hE.trans ey
    have htk : (xs.take (i + 1)).flatMap row = (xs.take i).flatMap row ++ row a := by
      rw [List.take_add_one, ha, List.flatMap_append]
      simp
    have hbig := hrow (i + 1)
    rw [htk] at hbig
    refine ⟨hw _, ?_⟩
    unfold tYes
    dsimp only
    rw [if_pos rfl]
    refine hs1 a H' ((e1.trans hE).trans ey) ham H' (Ex.refl _) _ fun J1 H4 S1 e4 w1 hS1 => ?_
    refine ⟨fun t m Ht => m = (ys a).length - t ∧ t ≤ (ys a).length ∧ Ex H1 Ht ∧ Exc (fun c => c = D) H4 Ht ∧ Ht D = some (SetXO P w D ((setX ((xs.take i).flatMap row ++ (((ys a).take t).filter (p a)).map (g a))).map SX.S)), ⟨(ys a).length, by simp, Nat.zero_le _, hEy.trans e4, Exc.refl _, by
      rw [e4 _ _ (ey _ _ hL), List.take_zero, List.filter_nil, List.map_nil, List.append_nil]⟩, ?_⟩
    rintro t m Ht ⟨rfl, htl, p1, p2, p3⟩
    have hG1 : S1 Ht := by
      refine hS1 (fun c => c = D) Ht (fun b z => ?_) p2
      subst z
      exact ⟨(by rw [ey _ _ hL]; exact fun z => nomatch z), fun z => ho a b z (fresh_back e1 hD)⟩
    by_cases hlt1 : t < (ys a).length
    · refine .inr ⟨w1.goes t Ht hlt1 hG1, fun Hn => Ex H1 Hn ∧ Exc (fun c => c = D) H4 Hn ∧ Hn D = some (SetXO P w D ((setX ((xs.take i).flatMap row ++ (((ys a).take (t + 1)).filter (p a)).map (g a))).map SX.S)), fun Hn q => ⟨(ys a).length - (t + 1), by omega, rfl, hlt1, q⟩, fun y Hu yy => ?_⟩
      obtain ⟨eu, hy⟩ := w1.yields t Ht y Hu hlt1 hG1 yy
      obtain ⟨b, hb, rfl⟩ := at_map hy
      have hbm := List.mem_of_getElem? hb
      have eH : Ex H Hu := e1.trans (p1.trans eu)
      refine ⟨hw1 _ _, ?_⟩
      refine ht a b Hu eH ham hbm Hu (Ex.refl _) _ fun H6 e6 => ?_
      by_cases hp : p a b = true
      · rw [if_pos hp]
        refine he a b H6 (eH.trans e6) ham hbm hp H6 (Ex.refl _) _ fun H7 e7 => ?_
        have e47 := eu.trans (e6.trans e7)
        refine ⟨_, _, e47 _ _ p3, ⟨_, _, rfl, rfl, ?_, rfl⟩, Ex.mut (p1.trans e47) hD, (p2.then e47).upd (.inl rfl), ?_⟩
        · refine Nat.lt_of_le_of_lt (Nat.succ_le_succ (Nat.le_trans (setX_len _) (Nat.le_trans ?_ hbig))) (by decide)
          rw [List.length_append, List.length_append, List.length_map]
          show _ ≤ _ + (((ys a).filter (p a)).map (g a)).length
          rw [List.length_map]
          exact Nat.add_le_add_left ((List.Sublist.filter _ (List.take_sublist _ _)).length_le) _
        · rw [upd_same, List.take_add_one, hb, List.filter_append, List.map_append, ← List.append_assoc]
          show some (SetXO P w D _) = some (SetXO P w D ((setX (_ ++ ((([b] : List β)).filter (p a)).map (g a))).map SX.S))
          rw [List.filter_cons_of_pos hp, List.filter_nil, List.map_cons, List.map_nil, setX_snoc]
      · rw [if_neg hp]
        have e46 := eu.trans e6
        refine ⟨p1.trans e46, p2.then e46, ?_⟩
        rw [e46 _ _ p3, List.take_add_one, hb, List.filter_append]
        show _ = some (SetXO P w D ((setX (_ ++ (_ ++ ([b] : List β).filter (p a)).map (g a))).map SX.S))
        rw [List.filter_cons_of_neg hp, List.filter_nil, List.append_nil]
    · have e : t = (ys a).length := by omega
      subst e
      rw [List.take_length] at p3
      exact .inl ⟨w1.stops Ht hG1, p1, by rw [p3, htk]⟩
  · have e : i = xs.length := by omega
    subst e
    rw [List.take_length] at hL
    exact .inl ⟨wk.stops Hi hG, k D Hi (fresh_back e1 hD) (e1.trans hE) hL⟩
/-- sorted(..) of a new set of texts -/
theorem el_sortX {ts : TE} {l : List Tx} (h : ∀ Q : VK, (∀ d H2, H d = none → Ex H H2 → H2 d = some (SetXO P w d ((setX l).map SX.S)) → Q (.ref d) H2) → ts σ H Q) (Q : VK) (k : ∀ q H2, H q = none → Ex H H2 → H2 q = some (.lst ((setS l).map T)) → Q (.ref q) H2) : tCB (rSortX K P w) (tCons ts tNil) σ H Q :=
  h _ fun d H2 hd e2 h2 => .inr ⟨d, _, rfl, h2, fun zs q pz hq => k q _ (fresh_back e2 hq) (e2.trans (Ex.new hq)) (by rw [upd_same, sortT_of_perm pz]; rfl)⟩
end
end Ws
set_option Elab.async false
set_option linter.all false
set_option maxRecDepth 100000
set_option maxHeartbeats 2000000
/-! zip(a, t) of a text and a tuple -/
namespace Ws
open PySem PySem.Spec PyProof.Rows L2 Evl Wc Wt Wg Wd
def ItzM (K : PySem.W.Frag) (a : Tx) (b : Addr) : It :=
  ⟨fun i H => i < a.length ∧ ∃ ys, SqT K H b ys ∧ i < ys.length, fun i H v H' => ∃ t c y, v = .ref t ∧ H t = none ∧ H' = upd H t (.tup [T [c], y]) ∧ a[i]? = some c ∧ ∀ ys, SqT K H b ys → ys[i]? = some y,
    fun i H => ∃ ys, SqT K H b ys ∧ i = min a.length ys.length⟩
theorem turn_zipM {P : Program} {w : World} {K : PySem.W.Frag} {elts : List Expr} {kk : Nat} {tpos : Pos} {a : Tx} {b : Addr} {ta : Tok} {z TI TO i1 i2 : Addr} (D : ZipSep2 z TI TO i1 i2 [i1] [i2, b]) (hne : b ≠ i2) :
    Turn P w K (.Tuple elts kk tpos) (ItzM K a b) [z, TI, TO, i1, i2] z (fun i h => IsZip h z TI TO .none ∧ IsTupOf2 h TI (.ref i1) (.ref i2) ∧ (∃ x y, IsTupOf2 h TO x y) ∧ h.IsStrIter i1 (strIterType (SX.S a)) (SX.S a) ta i ∧ h.IsTupleIter i2 b i) where
  mem := by simp
  obj := fun i h st c hc => by
    obtain ⟨hz, hTI, ⟨x, y, hTO⟩, ⟨o1, e1, _, d1⟩, ⟨o2, e2, _, d2⟩⟩ := st
    have e' : c = z ∨ c = TI ∨ c = TO ∨ c = i1 ∨ c = i2 := by simpa using hc
    rcases e' with q | q | q | q | q
    · rw [q]; exact ⟨_, hz, fun v q => nomatch q⟩
    · rw [q]; exact ⟨_, hTI, fun v q => nomatch q⟩
    · rw [q]; exact ⟨_, hTO, fun v q => nomatch q⟩
    · rw [q]; exact ⟨o1, e1, fun v q => by rw [d1] at q; cases q⟩
    · rw [q]; exact ⟨o2, e2, fun v q => by rw [d2] at q; cases q⟩
  keep := fun i h h' st k => by
    obtain ⟨hz, hTI, ⟨x, y, hTO⟩, ⟨o1, e1, f1⟩, h2⟩ := st
    exact ⟨k z (by simp) _ hz, k TI (by simp) _ hTI, ⟨x, y, k TO (by simp) _ hTO⟩, ⟨o1, k i1 (by simp) _ e1, f1⟩, h2.at fun o q => k i2 (by simp) o q⟩
  item := by
    intro X hP hw hK hc i pins s σ H E I hf st hg
    subst hP hw hK
    obtain ⟨hz, hTI, ⟨x0, y0, hTO⟩, h1, h2⟩ := st
    obtain ⟨hlt, ys, hqy, hly⟩ := hg
    obtain ⟨its, rv, p, _⟩ := I.tuple hqy
    have D1 := Draws.text (prog := X.prog) (w := X.w) (A := X.A.in1) (I.ok.hd hc) i1 (SX.S a) ta
    have D2 := Draws.tuple (prog := X.prog) (w := X.w) (A := X.A.in1) (I.ok.hd hc) i2 b hne its.toArray
    have s1 : (SX.S a).cps.size = a.length := by simp [SX.S]
    have s2 : its.toArray.size = ys.length := by simp [rv.length]
    have hzl : z < s.heap.objs.size := Heap.lt_size hz
    refine wpAny_pyNext_zipD2_item D D1 D2 hz hTI hTO h1 ⟨h2, p⟩ (by omega) (by omega) fun u u2 h' tk p1 p2 z' TO' h1' h2' hT hsz hk => ?_
    obtain ⟨c, hcx, ru⟩ := sgn p1
    obtain ⟨y, hy, ru2⟩ : ∃ y, ys[i]? = some y ∧ RelV y u2 := by
      obtain ⟨v, hv, rr⟩ := rv.get (List.getElem?_eq_getElem hly)
      have e : its.toArray[i]? = some v := by simpa using hv
      rw [p2] at e
      cases e
      exact ⟨_, List.getElem?_eq_getElem hly, rr⟩
    refine ⟨_, rfl, wpAny_letOwnedTupleGo_zip (s := { s with heap := h', toks := tk }) z' fun h'' z'' sb => ?_⟩
    have hT2 : h''.get? s.heap.objs.size = some { cls := .type "tuple", data := .seq #[u, u2] } := (sb.2 _ (Nat.ne_of_gt hzl)).trans hT
    have new : ObjOk X.prog X.w (upd H s.heap.objs.size (.tup [T [c], y])) h'' s.heap.objs.size (.tup [T [c], y]) :=
      ⟨by show 2 ≤ sizeLine; decide, [u, u2], .cons ru (.cons ru2 .nil), ⟨_, hT2, rfl, _, rfl⟩⟩
    have I1 : Inv X pins σ (upd H s.heap.objs.size (.tup [T [c], y])) { s with heap := h'', toks := tk } :=
      I.turnedNew (ch := [z, TI, TO, i1, i2]) (fun c o hb q => (sb.2 c (fun q' => hb (by simp [q']))).trans (hk c o (fun q' => hb (by simp [q'])) (fun q' => hb (by simp [q'])) (fun q' => hb (by simp [q'])) (fun q' => hb (by simp [q'])) q)) hf (Nat.le_refl _) new
    refine ⟨.ref s.heap.objs.size, _, I1, rfl, ⟨_, c, y, rfl, I.hok.fresh (Nat.le_refl _), rfl, hcx, fun l hl => by rw [I.tuple_inj hl hqy]; exact hy⟩, ⟨z'', ?_, ⟨u, u2, ?_⟩, ?_, ?_⟩, fun c hcm => ?_⟩
    · exact (sb.2 _ D.TIz).trans (hk _ _ D.TIz D.TITO D.TIi1 D.TIi2 hTI)
    · exact (sb.2 _ D.TOz).trans TO'
    · obtain ⟨o1, e1, f1⟩ := h1'
      exact ⟨o1, (sb.2 _ (Ne.symm D.zi1)).trans e1, f1⟩
    · exact h2'.1.at fun o q => (sb.2 _ (Ne.symm D.zi2)).trans q
    · have hlt : c < s.heap.objs.size := by
        have e' : c = z ∨ c = TI ∨ c = TO ∨ c = i1 ∨ c = i2 := by simpa using hcm
        rcases e' with q | q | q | q | q
        · rw [q]; exact hzl
        · rw [q]; exact Heap.lt_size hTI
        · rw [q]; exact Heap.lt_size hTO
        · rw [q]; obtain ⟨_, e1, _⟩ := h1; exact Heap.lt_size e1
        · rw [q]; obtain ⟨_, e2, _⟩ := h2; exact Heap.lt_size e2
      rw [upd_ne (Nat.ne_of_lt hlt)]
      exact (hf c hcm).1
  done := by
    intro X hP hw hK hc i pins s σ H E I hf st hg
    subst hP hw hK
    obtain ⟨hz, hTI, ⟨x0, y0, hTO⟩, h1, h2⟩ := st
    obtain ⟨ys, hqy, hend⟩ := hg
    obtain ⟨its, rv, p, _⟩ := I.tuple hqy
    have D1 := Draws.text (prog := X.prog) (w := X.w) (A := X.A.in1) (I.ok.hd hc) i1 (SX.S a) ta
    have D2 := Draws.tuple (prog := X.prog) (w := X.w) (A := X.A.in1) (I.ok.hd hc) i2 b hne its.toArray
    have s1 : (SX.S a).cps.size = a.length := by simp [SX.S]
    have s2 : its.toArray.size = ys.length := by simp [rv.length]
    exact wpAny_pyNext_zipD2_end D D1 D2 hz hTI hTO h1 ⟨h2, p⟩ (by omega) (by omega) (by omega) fun h' tk hk => ⟨rfl, I.turnedL (t' := tk) (ch := [z, TI, TO, i1, i2]) (fun c o hb q =>
      hk c o (fun q' => hb (by simp [q'])) (fun q' => hb (by simp [q'])) (fun q' => hb (by simp [q'])) (fun q' => hb (by simp [q'])) q) hf⟩
  self := fun A i s Q E st h => wpAny_pyIter_zip st.1 h
def iZipM (K : PySem.W.Frag) (ta : TA) : TI := fun σ H R => ta σ H fun vs H1 => ∃ (a : Tx) (b : Addr) (ys : List V), vs = [T a, .ref b] ∧ SqT K H1 b ys ∧ R (ItzM K a b) H1
theorem pi_zipM {X : Cx} {e e2 : Expr} {ta : TA} {p pos tpos : Pos} {elts : List Expr} {kk : Nat} (hg : Gl X "zip") (hm : X.mg "zip" = none) (ha : PA X [e, e2] ta)
    (hs : starEach [e, e2] X.env = (false, eval e X.env) :: starEach [e2] X.env := by rfl) (hpl : (backTo pos (starEach [e2] X.env)).any (·.1) = false := by rfl) :
    PI X (.Tuple elts kk tpos) (.Call (.Name "zip" p) [e, e2] [] pos) (iZipM X.K ta) := by
  refine ⟨fun pins s σ H R I h => ?_⟩
  refine Call_ (ld_blt I hg hm PyProof.Rows.boot_zip (PyProof.Rows.callWith_type1 (thn (ha.run pos pins s σ H _ I h) fun us s1 ⟨vs, H1, I1, r1, q1⟩ => ?_) hs hpl))
  obtain ⟨a, b, ys, ex, hqy, q⟩ := q1
  subst ex
  cases r1 with
  | cons r rr =>
    cases rr with
    | cons r' rr =>
      cases rr
      obtain ⟨ta, rfl⟩ := r
      cases r'
      obtain ⟨its, rv, p, _⟩ := I1.tuple hqy
      obtain ⟨o2, ho2, _⟩ := id p
      have hlt := Heap.lt_size ho2
      have fresh5 : ∀ c, c ∈ [s1.heap.objs.size + 4, s1.heap.objs.size + 2, s1.heap.objs.size + 3, s1.heap.objs.size, s1.heap.objs.size + 1] → FpOk X pins H1 c := fun c hcm => by
        have e' : c = s1.heap.objs.size + 4 ∨ c = s1.heap.objs.size + 2 ∨ c = s1.heap.objs.size + 3 ∨ c = s1.heap.objs.size ∨ c = s1.heap.objs.size + 1 := by simpa using hcm
        have hle : s1.heap.objs.size ≤ c := by omega
        exact I1.fpOk hle (I1.hok.fresh hle)
      refine zip_begins2 (begins_text (SX.S a) ta) (begins_tuple b its.toArray) trivial p fun h' hz hTI hTO h1 h2 hsz hk => wpAny_pyIter_zip hz ?_
      have I2 : Inv X pins σ H1 { s1 with heap := h' } := I1.kept (t' := s1.toks) hk
      exact ⟨s1.heap.objs.size + 4, [s1.heap.objs.size + 4, s1.heap.objs.size + 2, s1.heap.objs.size + 3, s1.heap.objs.size, s1.heap.objs.size + 1], _, _, H1, rfl, I2, turn_zipM (ta := ta) (zip_sep2 (fun b hb => by cases hb) (fun c hb => by rw [List.mem_singleton.mp hb]; exact hlt)) (Nat.ne_of_lt (Nat.lt_succ_of_lt hlt)), ⟨hz, hTI, ⟨_, _, hTO⟩, ⟨_, h1, rfl, rfl⟩, ⟨_, h2, rfl, rfl⟩⟩, fresh5, q⟩
section
variable {K : PySem.W.Frag} {σ : L2.St} {H : Hp}
theorem kizm {X : Cx} {tg iter : Expr} {ta : TA} (h : PI X tg iter (iZipM X.K ta)) (hK : X.K = K := by rfl) : PI X tg iter (iZipM K ta) := hK ▸ h
theorem src_zipM {a : Tx} {b : Addr} {ys : List V} {tl tr : TE} (h : Ev tl σ H (T a)) (h2 : Ev tr σ H (.ref b)) (hq : SqT K H b ys) : Src (iZipM K (tCons tl (tCons tr tNil))) σ H (min a.length ys.length) (fun c => c = b) (fun i v Hb => ∃ p c y, v = .ref p ∧ a[i]? = some c ∧ ys[i]? = some y ∧ Hb p = some (.tup [T [c], y])) := fun H1 e R q =>
  h H1 e _ fun H2 e2 => h2 H2 (e.trans e2) _ fun H3 e3 => by
    have e13 := e.trans (e2.trans e3)
    refine ⟨a, b, ys, rfl, ex_t e13 hq, q _ H3 (fun Ha => SqT K Ha b ys) (e2.trans e3) ⟨fun i Ha hi hs => ⟨by omega, ys, hs, by omega⟩, fun Ha hs => ⟨ys, hs, rfl⟩, fun i Ha v Hb hi hs y => ?_⟩ fun B Ha hB ea => ?_⟩
    · obtain ⟨t, c, y, rfl, hn, rfl, h1, h2⟩ := y
      exact ⟨Ex.new hn, t, c, y, rfl, h1, h2 ys hs, upd_same⟩
    · exact ea.tp (fun z => (hB b z).2 rfl) (ex_t e13 hq)
end
end Ws
set_option Elab.async false
set_option linter.all false
set_option maxRecDepth 100000
set_option maxHeartbeats 4000000
/-! dicts as sets of texts; set(tuple of texts), len of a set of texts -/
namespace Ws
open PySem PySem.Spec PyProof.Rows L2 Evl Wc Wt Wg Wd
/-- a text as a key -/
abbrev kx (t : Tx) : Key := Sum.inr (SX.S t)
def DX (ks : List Tx) : List (Key × V) := ks.map fun t => (kx t, V.bl true)
def addT (ks : List Tx) (t : Tx) : List Tx := if t ∈ ks then ks else ks ++ [t]
theorem mem_addT {ks : List Tx} {n m : Tx} : m ∈ addT ks n ↔ m ∈ ks ∨ m = n := by
  unfold addT
  split
  · rename_i h
    exact ⟨.inl, fun z => z.elim id fun e => e ▸ h⟩
  · rw [List.mem_append, List.mem_singleton]
theorem addT_nodup {ks : List Tx} {n : Tx} (h : ks.Nodup) : (addT ks n).Nodup := by
  unfold addT
  split
  · exact h
  · rename_i hn
    refine List.nodup_append.mpr ⟨h, List.pairwise_singleton _ _, fun a ha b hb => ?_⟩
    rw [List.mem_singleton.mp hb]
    exact fun z => hn (z ▸ ha)
theorem addT_len (ks : List Tx) (n : Tx) : (addT ks n).length ≤ ks.length + 1 := by
  unfold addT
  split
  · omega
  · simp
theorem kx_inj {a b : Tx} (h : kx a = kx b) : a = b := S_inj (Sum.inr.inj h)
theorem val_DX (ks : List Tx) (n : Tx) : valV (DX ks) (kx n) = if n ∈ ks then some (.bl true) else none := by
  induction ks with
  | nil => rfl
  | cons m ks ih =>
    by_cases h : m = n
    · subst h
      show valV ((kx m, V.bl true) :: DX ks) _ = _
      rw [valV_pos rfl, if_pos List.mem_cons_self]
    · show valV ((kx m, V.bl true) :: DX ks) _ = _
      rw [valV_neg (fun z => h (kx_inj z)), ih]
      by_cases h2 : n ∈ ks
      · rw [if_pos h2, if_pos (List.mem_cons_of_mem _ h2)]
      · rw [if_neg h2, if_neg fun z => (List.mem_cons.mp z).elim (fun e => h e.symm) h2]
theorem put_DX (ks : List Tx) (n : Tx) : putK (DX ks) (kx n) (.bl true) = DX (addT ks n) := by
  have ha := valV_any (kx n) (DX ks)
  rw [val_DX] at ha
  unfold putK addT
  by_cases h : n ∈ ks
  · rw [if_pos h] at ha
    rw [if_pos (show ((DX ks).any fun kv => decide (kv.1 = kx n)) = true from ha), if_pos h]
    unfold DX
    rw [List.map_map]
    refine List.map_congr_left fun m _ => ?_
    show (if kx m = kx n then _ else _) = _
    split <;> rfl
  · rw [if_neg h] at ha
    rw [if_neg (show ¬ ((DX ks).any fun kv => decide (kv.1 = kx n)) = true from fun z => Bool.false_ne_true (ha.symm.trans z)), if_neg h]
    unfold DX
    rw [List.map_append]
    rfl
theorem DX_len (ks : List Tx) : (DX ks).length = ks.length := by unfold DX; rw [List.length_map]
def addAllT (ks ns : List Tx) : List Tx := ns.foldl addT ks
theorem mem_addAllT {m : Tx} : ∀ {ns ks : List Tx}, m ∈ addAllT ks ns ↔ m ∈ ks ∨ m ∈ ns
  | [], ks => ⟨.inl, fun z => z.elim id fun h => nomatch h⟩
  | n :: ns, ks => by
    show m ∈ addAllT (addT ks n) ns ↔ _
    rw [mem_addAllT, mem_addT, List.mem_cons, or_assoc]
theorem addAllT_nodup : ∀ {ns ks : List Tx}, ks.Nodup → (addAllT ks ns).Nodup
  | [], _, h => h
  | n :: ns, ks, h => addAllT_nodup (ns := ns) (addT_nodup h)
theorem addAllT_len : ∀ (ns ks : List Tx), (addAllT ks ns).length ≤ ks.length + ns.length
  | [], _ => Nat.le_refl _
  | n :: ns, ks => by
    have h1 := addAllT_len ns (addT ks n)
    have h2 := addT_len ks n
    show (addAllT (addT ks n) ns).length ≤ _
    rw [List.length_cons]
    omega
theorem addAllT_succ {ns : List Tx} {i : Nat} {n : Tx} (h : ns[i]? = some n) : addAllT [] (ns.take (i + 1)) = addT (addAllT [] (ns.take i)) n := by
  rw [List.take_add_one, h]
  unfold addAllT
  rw [List.foldl_append]
  rfl
theorem addAllT_id : ∀ {ns ks : List Tx}, (ks ++ ns).Nodup → addAllT ks ns = ks ++ ns
  | [], ks, _ => (List.append_nil ks).symm
  | n :: ns, ks, h => by
    have hn : n ∉ ks := fun z => (List.nodup_append.mp h).2.2 n z n List.mem_cons_self rfl
    show addAllT (addT ks n) ns = _
    have e : addT ks n = ks ++ [n] := by unfold addT; rw [if_neg hn]
    rw [e, addAllT_id (by rw [List.append_assoc]; exact h), List.append_assoc]
    rfl
section
variable {K : PySem.W.Frag} {w : World} {P : Program} {σ : L2.St} {H : Hp} {ta td ty tv te : TE} {D : Ends} {Q : VK}
/-- d[t] = True -/
theorem s_putX {d : Addr} {ks : List Tx} {n : Tx} (hd : Ev td σ H (.ref d)) (hn : Ev ty σ H (T n)) (h : H d = some (.dK (DX ks))) (hl : ks.length ≤ 10000) (k : ∀ H1, Ex H H1 → D.nx σ (upd H1 d (.dK (DX (addT ks n))))) : sDPut td ty (tC (.bl true)) D σ H :=
  hd H (Ex.refl H) _ fun H2 e2 => hn H2 e2 _ fun H3 e3 => ⟨d, _, rfl, DPut.k (k := kx n) ((e2.trans e3) _ _ h) (by rw [DX_len]; unfold sizeLine; omega), by rw [put_DX]; exact k H3 (e2.trans e3)⟩
theorem q_putX {tz : TS} {d : Addr} {ks : List Tx} {n : Tx} (hd : Ev td σ H (.ref d)) (hn : Ev ty σ H (T n)) (h : H d = some (.dK (DX ks))) (hl : ks.length ≤ 10000) (k : ∀ H1, Ex H H1 → tz D σ (upd H1 d (.dK (DX (addT ks n))))) : tSeq (sDPut td ty (tC (.bl true))) tz D σ H := s_putX (D := { D with nx := tz D }) hd hn h hl k
theorem ev_inX {d : Addr} {ks : List Tx} {n : Tx} (hn : Ev ty σ H (T n)) (hd : Ev td σ H (.ref d)) (h : H d = some (.dK (DX ks))) : Ev (tDIn ty td) σ H (.bl (decide (n ∈ ks))) := fun H1 e Q q =>
  hn H1 e _ fun H2 e2 => hd H2 (e.trans e2) _ fun H3 e3 => ⟨d, _, rfl, DGet.k (k := kx n) (((e.trans e2).trans e3) _ _ h), by rw [val_DX, some_if]; exact q H3 (e2.trans e3)⟩
theorem ev_notinX {d : Addr} {ks : List Tx} {n : Tx} (hn : Ev ty σ H (T n)) (hd : Ev td σ H (.ref d)) (h : H d = some (.dK (DX ks))) : Ev (tDNotIn ty td) σ H (.bl (!decide (n ∈ ks))) := fun H1 e Q q =>
  hn H1 e _ fun H2 e2 => hd H2 (e.trans e2) _ fun H3 e3 => ⟨d, _, rfl, DGet.k (k := kx n) (((e.trans e2).trans e3) _ _ h), by rw [val_DX, some_if]; exact q H3 (e2.trans e3)⟩
/-- list(d) -/
theorem el_listX {d : Addr} {ks : List Tx} (hd : Ev td σ H (.ref d)) (h : H d = some (.dK (DX ks))) : EvL (tCB rListD (tCons td tNil)) σ H (ks.map T) := fun H1 e Q q =>
  hd H1 e _ fun H2 e2 => ⟨d, DX ks, rfl, (e.trans e2) _ _ h, fun r hr => q r _ (fresh_back e2 hr) (e2.trans (Ex.new hr)) (by
    rw [upd_same]
    unfold DX
    rw [List.map_map]
    rfl)⟩
/-- {t: True for t in ns} -/
theorem dc_texts {wi : TI} {j : Nat} {vs : List Nat} {own : Addr → Prop} (ns : List Tx) (hs : Src wi σ H ns.length own (fun i v _ => (ns.map T)[i]? = some v)) (hn : ns.length ≤ 4000) (hw : ∀ x, wipe ((wipe σ vs).set j (some x)) vs = wipe σ vs) (hj : ∀ x, ((wipe σ vs).set j (some x))[j]? = some (some x))
    (k : ∀ d H2, H d = none → Ex H H2 → H2 d = some (.dK (DX (addAllT [] ns))) → Q (.ref d) H2) : tDc wi (gName j) tYes (tVar j) (tC (.bl true)) vs σ H Q :=
  hs H (Ex.refl H) _ fun J H1 S e1 wk hS => fun Dl hD => by
    refine dc_it wk (Qd := fun H3 => Q (.ref Dl) H3) (fun i Hi => Ex H1 Hi ∧ Hi Dl = some (.dK (DX (addAllT [] (ns.take i))))) ?_ (fun i Hi hi p => hS (fun _ => False) Hi (fun b z => z.elim) (.of p.1)) ?_ ?_
    · exact ⟨Ex.new hD, upd_same⟩
    · rintro i x Ha Hb hi ⟨R, h1⟩ ⟨ey, hP⟩
      obtain ⟨n, hn1, rfl⟩ := at_map hP
      refine ⟨hw _, ?_⟩
      unfold tYes
      dsimp only
      rw [if_pos rfl]
      refine ⟨T n, hj _, ?_⟩
      have hl := addAllT_len (ns.take i) []
      refine ⟨DX (addAllT [] (ns.take i)), kx n, rfl, ey _ _ h1, ?_, Ex.mut (R.trans ey) hD, ?_⟩
      · rw [DX_len]
        rw [List.length_take] at hl
        have : ([] : List Tx).length = 0 := rfl
        unfold sizeLine
        omega
      · show (upd Hb Dl (.dK (putK (DX (addAllT [] (ns.take i))) (kx n) (.bl true)))) Dl = _
        rw [upd_same, put_DX, addAllT_succ hn1]
    · rintro H3 ⟨R, h1⟩
      rw [List.take_length] at h1
      exact k Dl H3 (fresh_back e1 hD) (e1.trans R) h1
theorem merge_DX : ∀ (xs : List Tx) (ks : List Tx), mergeK (DX ks) (xs.map fun x => (kx x, V.bl true)) = DX (addAllT ks xs)
  | [], ks => rfl
  | x :: xs, ks => by
    show mergeK (putK (DX ks) (kx x) (.bl true)) (xs.map fun x => (kx x, V.bl true)) = DX (addAllT (addT ks x) xs)
    rw [put_DX, merge_DX xs]
end
/-! ### set(tuple of texts), its len -/
section
variable {P : Program} {w : World} {A : Around} {E : Value → Shared → Prop} {s : Shared}
set_option maxHeartbeats 3200000 in
theorem call_setT {src : Addr} {its : Array Value} {xs : List Str} {Q : Value → Shared → Prop} (noH : A.handled = none) (isl : s.heap.IsTuple src its) (hit : StrsAre its.toList xs) (room : xs.length + 1 < scanBound)
    (fin : ∀ (h2 : Heap) (tk : Nat) (l : List Str), Met xs xs.length l → SetX P w h2 s.heap.objs.size l → (∀ b o, s.heap.get? b = some o → h2.get? b = some o) → Q (.ref s.heap.objs.size) { s with heap := h2, toks := tk }) :
    wpAny (model P w) A (call (.type "set") [.ref src]) Q E s := by
  have lx : xs.length = its.size := by rw [← Array.length_toList, hit.len_eq]
  obtain ⟨c, tl, q0⟩ := PySem.F.called_set.mro
  have q1 := PySem.F.called_set.made; have q2 := PySem.F.called_set.sub
  refine wpAny_call (codeAny_of_tree (wpAny_pure ⟨Code.quiet_builtin _ (by decide +kernel), codeAny_builtin PySem.F.entry_type_call ?_⟩))
  rw [Around.under_plain (weight_type_call_type "set" [.ref src] []) rfl]
  have q3 := PySem.F.called_set.notType; have q4 := PySem.F.called_set.canCreate
  have q5 := PySem.F.typeCall_set_1 (.ref src)
  repeat (any_goals (first | assumption | wp_step))
  refine codeAny_mono (code_set_led1 (.ref src) (E := E) (Q₁ := fun ob t1 => ob = .ref s.heap.objs.size ∧ t1 = { s with heap := s.heap.push (so w) }) ⟨rfl, rfl⟩) fun r t1 hr => ?_
  match r, hr with
  | .error e, hr => exact hr
  | .ok (.ret ob), hr =>
    obtain ⟨rfl, rfl⟩ := hr
    have atS : (s.heap.push (so w)).get? s.heap.objs.size = some (so w) := Heap.get?_push_size _ rfl
    have tyS : Shared.TypeIs { s with heap := s.heap.push (so w) } (.ref s.heap.objs.size) "set" := ⟨_, atS, rfl⟩
    have q6 := PySem.F.called_set.init.lookup
    have q7 := PySem.F.called_set.init.bind (.ref s.heap.objs.size)
    repeat (any_goals (first | assumption | wp_step))
    refine codeAny_mono (codeAny_call_builtin (R := wants (fun r t2 => r = .none ∧ ∃ h2 tk l, t2 = { s with heap := h2, toks := tk } ∧ Met xs xs.length l ∧ SetX P w h2 s.heap.objs.size l ∧ ∀ b o, s.heap.get? b = some o → h2.get? b = some o) E) PySem.F.called_set.init.plain PySem.F.entry_set_init (check_set_init_1 tyS ?_)) fun r2 t2 hr2 => ?_
    · obtain ⟨ol, atl, cl, nl, dl⟩ := isl
      obtain ⟨ocls, odict, odata, oslots⟩ := ol
      simp only at cl dl
      subst cl; subst dl
      have lt := Heap.lt_size atl
      have isl2 : (s.heap.push (so w)).IsTuple src its := ⟨_, Heap.get?_push_of_some _ atl, rfl, nl, rfl⟩
      have q8 := PySem.F.sub_tuple_set; have q9 := PySem.F.sub_tuple_frozenset
      have q10 : (Value.type "tuple" == Value.type "dict") = false := by decide
      have atl2 : (s.heap.push (so w)).get? src = some { cls := .type "tuple", dict := odict, data := .seq its nl, slots := oslots } := Heap.get?_push_of_some _ atl
      unfold Builtin.«set.__init__» noKeywords Builtin.Frozenset.updateFrom
      generalize hI : pyIter = iter
      wp_walk
      subst hI
      refine wpAny_pyIter_tuple isl2 (wpAny_bind (wpAny_runValue ?_))
      have no3 : A.in1.in1.in1.handled = none := by simp [noH]
      have zI : (s.heap.push (so w)).objs.size = s.heap.objs.size + 1 := Heap.size_push ..
      have ne1 : src ≠ (s.heap.push (so w)).objs.size := by rw [zI]; exact Nat.ne_of_lt (Nat.lt_succ_of_lt lt)
      have out1 : s.heap.objs.size ∉ [(s.heap.push (so w)).objs.size, src] := by
        rw [zI]
        intro z
        rcases List.mem_cons.mp z with z | z
        · exact absurd z (Nat.ne_of_lt (Nat.lt_succ_self _))
        · exact absurd (List.mem_singleton.mp z) (Nat.ne_of_gt lt)
      refine fill_texts (P := P) (xs := xs) ((Walks.tuple no3 _ src ne1 its).toS) out1 lx (by rw [← lx]; exact room) (fun i v hv => ?_) its.size 0 _ [] (by omega) ⟨⟨_, Heap.get?_push_size _ rfl, rfl, rfl⟩, isl2.push _⟩ ⟨List.nodup_nil, fun x => by simp, Nat.le_refl _⟩ (SetX.new (Heap.get?_push_of_some _ atS)) fun s2 l2 mv m2 X2 => ?_
      · obtain ⟨y, u, h1, h2⟩ := hit.item i v (by rw [Array.getElem?_toList]; exact hv)
        exact ⟨y, u, h2, h1⟩
      · obtain ⟨h2, g2, d2, tk2, os2⟩ := s2
        obtain rfl : g2 = s.gens := mv.gens
        obtain rfl : d2 = s.drawn := mv.drawn
        obtain rfl : os2 = s.os := mv.os
        rw [← lx] at m2
        show wpAny _ _ (Bind.bind (pure _) _) _ _ _
        refine wpAny_pure (wpAny_pure ⟨rfl, h2, tk2, l2, rfl, m2, X2, fun b o e => ?_⟩)
        have hb := Heap.lt_size e
        refine mv.heap b o (fun z => ?_) (Heap.get?_push_of_some _ (Heap.get?_push_of_some _ e))
        rw [zI] at z
        rcases List.mem_cons.mp z with z | z
        · exact absurd z (Nat.ne_of_lt hb)
        · exact absurd (List.mem_singleton.mp z) (Nat.ne_of_lt (Nat.lt_succ_of_lt hb))
    · match r2, hr2 with
      | .error e, hr2 => exact hr2
      | .ok (.ret v2), hr2 =>
        obtain ⟨rfl, h2, tk, l, rfl, m, X, k⟩ := hr2
        repeat (any_goals (first | assumption | wp_step))
        exact fin _ _ _ m X k
end
section
variable {X : Cx}
def rSetTup (K : PySem.W.Frag) (P : Program) (w : World) : List V → Hp → VK → Prop := fun vs H Q => ∃ (p : Addr) (xs : List Tx), vs = [.ref p] ∧ SqT K H p (xs.map T) ∧ xs.length ≤ 4000 ∧ ∀ q ys, Uniq xs ys → ys.length ≤ xs.length → H q = none → Q (.ref q) (upd H q (SetXO P w q (ys.map SX.S)))
theorem cr_setTup (hc : X.calm = true) : CallR X (.type "set") (rSetTup X.K X.prog X.w) := by
  intro pins s σ H vs us Q I r h
  obtain ⟨p, xs, rfl, hp, hl, q⟩ := h
  rw [Vals.ref1 r]
  obtain ⟨its, rv, pl, hz⟩ := I.tuple hp
  refine call_setT (P := X.prog) (xs := xs.map SX.S) (I.ok.hd hc) pl (by simpa using strs_of_each (each_of_vals rv)) (by rw [List.length_map]; unfold scanBound; omega) fun h2 tk l m R k => ?_
  obtain ⟨ys, rfl, u, hly⟩ := uniq_of m
  have hn : H s.heap.objs.size = none := I.hok.fresh (Nat.le_refl _)
  exact ⟨.ref _, upd H s.heap.objs.size (SetXO X.prog X.w s.heap.objs.size (ys.map SX.S)), I.laid (t' := tk) k (Nat.le_refl _) (setXO_new R), rfl, q _ ys u hly hn⟩
theorem ksetTup {K : PySem.W.Frag} {P : Program} {w : World} (hc : X.calm = true := by rfl) (hK : X.K = K := by rfl) (hP : X.prog = P := by rfl) (hw : X.w = w := by rfl) : CallR X (.type "set") (rSetTup K P w) := by
  subst hK hP hw
  exact cr_setTup hc
def rLenX (P : Program) (w : World) : List V → Hp → VK → Prop := fun vs H Q => ∃ (p : Addr) (l : List Tx), vs = [.ref p] ∧ H p = some (SetXO P w p (l.map SX.S)) ∧ l.length ≤ 4000 ∧ Q (.int (l.length : Int)) H
theorem cr_lenX : CallR X (.builtin "len") (rLenX X.prog X.w) := by
  intro pins s σ H vs us Q I r h
  obtain ⟨p, l, rfl, hp, hl, q⟩ := h
  rw [Vals.ref1 r]
  obtain ⟨o, es, ep, t, ho, hex, hd, py⟩ := (I.hok p _ hp).1
  have hn := py.size
  rw [List.length_map] at hn
  exact call_len_set ho hex hd py.fit (by omega) ⟨.int (l.length : Int), H, I.tok _, ⟨_, by rw [hn]⟩, q⟩
theorem kLenX {P : Program} {w : World} (hP : X.prog = P := by rfl) (hw : X.w = w := by rfl) : CallR X (.builtin "len") (rLenX P w) := by
  subst hP hw
  exact cr_lenX
end
section
variable {K : PySem.W.Frag} {w : World} {P : Program} {σ : L2.St} {H : Hp} {ta : TE}
theorem uniq_len {xs ys : List Tx} (u : Uniq xs ys) : ys.length = (setX xs).length := len_nodup' u.nd (setX_nodup xs) fun x => (u.mem x).trans mem_setX.symm
where len_nodup' {l l' : List Tx} (h1 : l.Nodup) (h2 : l'.Nodup) (h : ∀ a, a ∈ l ↔ a ∈ l') : l.length = l'.length := ((List.perm_ext_iff_of_nodup h1 h2).mpr h).length_eq
/-- len(set(tuple of texts)) -/
theorem ev_lenSetT {p : Addr} {xs : List Tx} (h : Ev ta σ H (.ref p)) (hp : SqT K H p (xs.map T)) (hl : xs.length ≤ 4000) : Ev (tCB (rLenX P w) (tCons (tCB (rSetTup K P w) (tCons ta tNil)) tNil)) σ H (.int ((setX xs).length : Int)) := fun H1 e Q q =>
  h H1 e _ fun H2 e2 => ⟨p, xs, rfl, ex_t (e.trans e2) hp, hl, fun r ys u hle hr => ⟨r, ys, rfl, upd_same, by omega, by rw [uniq_len u]; exact q _ (e2.trans (Ex.new hr))⟩⟩
end
end Ws
set_option Elab.async false
set_option linter.all false
set_option maxRecDepth 100000
set_option maxHeartbeats 4000000
/-! sorted(tuple of texts); the place of a sign in "abcd" -/
namespace Ws
open PySem PySem.Spec PyProof.Rows L2 Evl Wc Wt Wg Wd
section
variable {P : Program} {w : World} {A : Around} {E : Value → Shared → Prop} {s : Shared}
/-- the items of a tuple; the heap only grows -/
theorem collectTup {it : Addr} {items : Array Value} {Q : List Value → Shared → Prop} (hl : s.heap.IsTuple it items) (hsz : items.size ≤ sizeLine)
    (hQ : ∀ h', (∀ b o', s.heap.get? b = some o' → h'.get? b = some o') → s.heap.objs.size ≤ h'.objs.size → Q items.toList { s with heap := h' }) : wpAny (model P w) A (collect (.ref it)) Q E s := by
  obtain ⟨o, ho, hc, n, hd⟩ := hl
  have atL : (s.heap.push { cls := .type "list", data := .seq ([] : List Value).toArray }).get? s.heap.objs.size = some { cls := .type "list", data := .seq #[] 0 } := Heap.get?_push_size _ rfl
  have at2 := Heap.get?_update_self (Obj.mapSeq (· ++ items)) atL rfl
  have big : s.heap.objs.size ≤ ((s.heap.push { cls := .type "list", data := .seq ([] : List Value).toArray }).update s.heap.objs.size (Obj.mapSeq (· ++ items))).objs.size := by
    rw [Heap.size_update, Heap.size_push]
    exact Nat.le_succ _
  unfold collect
  refine wpAny_bind (wpAny_runValue (codeAny_builtin F.entry_proto_collect ?_))
  rw [Around.under_plainId F.plain_proto_collect _]
  show wpAny _ A.in1 (newList [] >>= fun l => again (.builtin "list.__iadd__" ⟨[l, .ref it], []⟩)) _ _ s
  refine wpAny_bind (wpAny_newObj_type (wpAny_pure ⟨plainId_quiet F.plain_list_iadd _, codeAny_builtin F.entry_list_iadd ?_⟩))
  rw [Around.under_plainId F.plain_list_iadd _]
  show wpAny _ A.in1 (Builtin.List.listExtendWith (.ref s.heap.objs.size) (.ref it) (.ref s.heap.objs.size)) _ _ _
  have last : wpAny (model P w) A (match Value.ref s.heap.objs.size with
      | Value.ref a => do
        match (← load a).data with
          | Data.seq xs _ => pure xs.toList
          | _ => unsupported "internal:collect"
      | _ => unsupported "internal:collect") Q E { s with heap := (s.heap.push { cls := .type "list", data := .seq ([] : List Value).toArray }).update s.heap.objs.size (Obj.mapSeq (· ++ items)) } := by
    show wpAny _ A (load s.heap.objs.size >>= _) _ _ _
    refine wpAny_bind (wpAny_load at2 (wpAny_pure ?_))
    show Q ((#[] : Array Value) ++ items).toList _
    rw [show ((#[] : Array Value) ++ items).toList = items.toList from by simp]
    exact hQ _ (fun b o' hb => (Heap.get?_update_other _ _ (Nat.ne_of_gt (Heap.lt_size hb))).trans (Heap.get?_push_of_some _ hb)) big
  refine wpAny_mono (wpAny_extend_seq (hsz := hsz) (A := A) (R := fun r s' => r = .ok (.ret (.ref s.heap.objs.size)) ∧ s' = { s with heap := (s.heap.push { cls := .type "list", data := .seq ([] : List Value).toArray }).update s.heap.objs.size (Obj.mapSeq (· ++ items)) })
    (s := { s with heap := s.heap.push { cls := .type "list", data := .seq ([] : List Value).toArray } }) _ it _ 0 (.inr rfl) atL (Heap.get?_push_of_some _ ho) hc hd ⟨rfl, rfl⟩) (fun fin s' h => ?_) (fun e s' h => absurd h.1 (by simp))
  cases fin with
  | done f =>
    obtain ⟨e, rfl⟩ := h
    cases e
    exact last
  | again c' => exact ⟨h.1, codeAny_mono h.2 fun r s'' hr => by obtain ⟨rfl, rfl⟩ := hr; exact last⟩
end
section
variable {X : Cx}
def rSortTup (K : PySem.W.Frag) : List V → Hp → VK → Prop := fun vs H Q => ∃ (p : Addr) (xs : List Tx), vs = [.ref p] ∧ SqT K H p (xs.map T) ∧ ∀ q, H q = none → Q (.ref q) (upd H q (.lst ((sortT xs).map T)))
theorem cr_sortTup (hu : X.A.units + 64 < cLine) : CallR X (.builtin "sorted") (rSortTup X.K) := by
  intro pins s σ H vs us Q I r h
  obtain ⟨p, xs, rfl, hp, q⟩ := h
  rw [Vals.ref1 r]
  obtain ⟨its, rv, pl, hz⟩ := I.tuple hp
  obtain ⟨o, ho, hc, n, hd⟩ := id pl
  have ez := each_of_vals rv
  rw [List.length_map] at hz
  have li := ez.length
  refine Calls.call_function_entry kind_sorted plain_sorted entry_sorted (args_sorted1 _) ?_
  unfold Builtin.«sorted»
  refine wpAny_bind (m := checkCount "sorted" 1 1 _) (wpAny_pure (wpAny_bind (collectTup (A := X.A.in1) pl (by simp; omega) fun h' k1 sz => ?_)))
  rw [List.toList_toArray]
  have small : its.length ≤ sizeLine := by omega
  refine wpAny_bind (wpAny_newList ?_ small)
  have atL : (h'.push (seqObj "list" its.toArray 0)).get? h'.objs.size = some (seqObj "list" its.toArray 0) := Heap.get?_push_size _ rfl
  refine wpAny_bind (wpAny_holding (PySem.W.list_sort_data (s := { s with heap := h'.push (seqObj "list" its.toArray 0) }) (R := IsT) (enc := fun b : Tx => PyData.str (SX.S b)) atL ez (reads_out ez) (alike_tx xs) (sortable_tx xs) (by omega) (fun b _ => ?_) fun out hlen eo => ?_))
  · show X.A.in1.units + 1 + _ < cLine
    have h1 : X.A.in1.units ≤ X.A.units + 8 := by
      show X.A.units + _ ≤ _
      first | omega | exact Nat.add_le_add_left (by decide) _
    have : (PyData.str (SX.S b)).depth ≤ 1 := by simp [PyData.depth]
    omega
  · rw [enc_le] at eo
    obtain ⟨c, hc2⟩ := sortedHeap_at (vs := its) (out := out.toArray) atL
    have kk : ∀ b u, s.heap.get? b = some u → (sortedHeap (h'.push (seqObj "list" its.toArray 0)) h'.objs.size its out.toArray).get? b = some u := fun b u e => by
      have lt := Heap.lt_size (k1 b u e)
      rw [sortedHeap_old (Nat.ne_of_lt lt) (by rw [size_push']; exact Nat.lt_succ_of_lt lt)]
      exact Heap.get?_push_of_some _ (k1 b u e)
    have hn : H h'.objs.size = none := I.hok.fresh sz
    refine wpAny_pure ⟨_, rfl, .ref h'.objs.size, _, ?_, rfl, q _ hn⟩
    exact I.laid (t' := s.toks) kk sz ⟨by rw [List.length_map, sortT_len]; omega, out, c, vals_of_each eo, hc2⟩
theorem ksortTup {K : PySem.W.Frag} (hu : X.A.units + 64 < cLine) (hK : X.K = K := by rfl) : CallR X (.builtin "sorted") (rSortTup K) := by
  subst hK
  exact cr_sortTup hu
/-- the letters -/
abbrev AB : Tx := [97, 98, 99, 100]
theorem at_AB {c : Nat} (h1 : 97 ≤ c) (h2 : c ≤ 100) : c = 97 ∨ c = 98 ∨ c = 99 ∨ c = 100 := by omega
def rIndexA : V → List V → Hp → VK → Prop := fun x xs H Q => ∃ c : Nat, 97 ≤ c ∧ c ≤ 100 ∧ x = T AB ∧ xs = [T [c]] ∧ Q (.int ((c - 97 : Nat) : Int)) H
theorem mt_indexA : MtR X "str.index" rIndexA := by
  intro pins s σ H x xs v us Q I rx r h
  obtain ⟨c, h1, h2, rfl, rfl, q⟩ := h
  refine mt_sindex pins s σ H _ _ v us Q I rx r ?_
  rcases at_AB h1 h2 with rfl | rfl | rfl | rfl
  · exact ⟨_, _, 0, [], rfl, rfl, by decide +kernel, q⟩
  · exact ⟨_, _, 1, [], rfl, rfl, by decide +kernel, q⟩
  · exact ⟨_, _, 2, [], rfl, rfl, by decide +kernel, q⟩
  · exact ⟨_, _, 3, [], rfl, rfl, by decide +kernel, q⟩
end
section
variable {K : PySem.W.Frag} {σ : L2.St} {H : Hp} {te : TE}
theorem rm_indexA {c : Nat} (h1 : 97 ≤ c) (h2 : c ≤ 100) : RM rIndexA (T AB) [T [c]] H (.int ((c - 97 : Nat) : Int)) := fun H1 e Q q => ⟨c, h1, h2, rfl, rfl, q H1 (Ex.refl _)⟩
theorem el_sortTup {p : Addr} {xs : List Tx} (h : Ev te σ H (.ref p)) (hp : SqT K H p (xs.map T)) : EvL (tCB (rSortTup K) (tCons te tNil)) σ H ((sortT xs).map T) := fun H1 e _ q => h H1 e _ fun H2 e2 => ⟨p, xs, rfl, ex_t (e.trans e2) hp, fun r hr => q r _ (fresh_back e2 hr) (e2.trans (Ex.new hr)) upd_same⟩
end
end Ws
set_option Elab.async false
set_option linter.all false
set_option maxRecDepth 100000
set_option maxHeartbeats 2000000
/-! startswith and endswith; comprehensions that make an object for some of the things; comprehensions over things that stand -/
namespace Ws
open PySem PySem.Spec PyProof.Rows L2 Evl Wc Wt Wg Wd
def rStartT : V → List V → Hp → VK → Prop := fun x xs H Q => ∃ (a b : Tx), x = T a ∧ xs = [T b] ∧ Q (.bl (decide (a.take b.length = b))) H
theorem mt_startT {X : Cx} : MtR X "str.startswith" rStartT := by
  intro pins s σ H x xs v us Q I rx r h
  obtain ⟨a, b, rfl, rfl, q⟩ := h
  refine mt_startswith pins s σ H _ _ v us Q I rx r ⟨_, _, rfl, rfl, ?_⟩
  unfold Txt.startswith
  rw [S_length, S_length, subAt_T, ← Bool.decide_and]
  have e : decide (0 + b.length ≤ a.length ∧ StAt a b 0) = decide (a.take b.length = b) := decide_eq_decide.mpr ⟨fun h => h.2, fun h => ⟨by have := congrArg List.length h; rw [List.length_take] at this; omega, h⟩⟩
  rw [e]
  exact q
def rEndT : V → List V → Hp → VK → Prop := fun x xs H Q => ∃ (a b : Tx), x = T a ∧ xs = [T b] ∧ Q (.bl (decide (b.length ≤ a.length ∧ a.drop (a.length - b.length) = b))) H
theorem mt_endT {X : Cx} : MtR X "str.endswith" rEndT := by
  intro pins s σ H x xs v us Q I rx r h
  obtain ⟨a, b, rfl, rfl, q⟩ := h
  refine mt_endswith pins s σ H _ _ v us Q I rx r ⟨_, _, rfl, rfl, ?_⟩
  unfold Txt.endswith
  rw [S_length, S_length, subAt_T, ← Bool.decide_and]
  have e : decide (0 + b.length ≤ a.length ∧ StAt a b (a.length - b.length)) = decide (b.length ≤ a.length ∧ a.drop (a.length - b.length) = b) := decide_eq_decide.mpr (by
    rw [Nat.zero_add]
    refine and_congr_right fun hl => ?_
    show (a.drop (a.length - b.length)).take b.length = b ↔ _
    rw [List.take_of_length_le (by rw [List.length_drop]; omega)])
  rw [e]
  exact q
section
variable {K : PySem.W.Frag} {σ : L2.St} {H : Hp} {te : TE} {t : TT}
theorem rm_startT {a b : Tx} : RM rStartT (T a) [T b] H (.bl (decide (a.take b.length = b))) := fun H1 _ _ q => ⟨a, b, rfl, rfl, q H1 (Ex.refl _)⟩
theorem rm_start3T {a b : Tx} {i : Nat} : RM rStart3T (T a) [T b, .int (i : Int)] H (.bl (decide (i + b.length ≤ a.length ∧ StAt a b i))) := fun H1 _ _ q => ⟨a, b, i, rfl, rfl, q H1 (Ex.refl _)⟩
theorem rm_endT {a b : Tx} : RM rEndT (T a) [T b] H (.bl (decide (b.length ≤ a.length ∧ a.drop (a.length - b.length) = b))) := fun H1 _ _ q => ⟨a, b, rfl, rfl, q H1 (Ex.refl _)⟩
/-- a new object for each thing that is kept -/
theorem lcO {α : Type} {wi : TI} {g : TG} {vs : List Nat} {n : Nat} {own : Addr → Prop} {P : Nat → V → Hp → Prop} {Q : VK} {p : α → Bool} (xs : List α) (st : α → L2.St) (o : α → HO) (R : α → V → Hp → Prop) (hs : Src wi σ H n own P) (hn : n ≤ 40000) (hx : xs.length = n)
    (hP : ∀ i x H1, Ex H H1 → P i x H1 → ∃ a, xs[i]? = some a ∧ R a x H1) (hg : ∀ a x H1 (Q' : L2.St → Hp → Prop), R a x H1 → Q' (st a) H1 → g x (wipe σ vs) H1 Q') (hw : ∀ a, wipe (st a) vs = wipe σ vs)
    (ht : ∀ a H1, Ex H H1 → a ∈ xs → EvT t (st a) H1 (p a)) (he : ∀ a H1, Ex H H1 → a ∈ xs → p a = true → ∀ Q' : VK, (∀ q H2, H1 q = none → Ex H1 H2 → H2 q = some (o a) → Q' (.ref q) H2) → te (st a) H1 Q')
    (k : ∀ q H2 ps, H q = none → Ex H H2 → H2 q = some (.lst (ps.map V.ref)) → All2 (fun b a => H2 b = some (o a) ∧ H b = none ∧ b ≠ q) ps (xs.filter p) → Q (.ref q) H2) : tLc wi g t te vs σ H Q :=
  hs H (Ex.refl H) _ fun J H1 S e1 w hS => fun Dl hD => by
    have hDH : H Dl = none := fresh_back e1 hD
    have ftk : ∀ {i a}, xs[i]? = some a → (xs.take (i + 1)).filter p = (xs.take i).filter p ++ if p a = true then [a] else [] := fun {i a} ha => by
      rw [List.take_add_one, ha, List.filter_append]
      congr 1
      cases z : p a with
      | true => simp [z]
      | false => simp [z]
    refine lc_it w (Qd := fun H3 => Q (.ref Dl) H3) (fun i Hi => Ex H1 Hi ∧ ∃ ps : List Addr, Hi Dl = some (.lst (ps.map V.ref)) ∧ ps.length ≤ i ∧ All2 (fun b a => Hi b = some (o a) ∧ H b = none ∧ b ≠ Dl) ps ((xs.take i).filter p)) ?_ (fun i Hi hi p => hS (fun _ => False) Hi (fun b z => z.elim) (.of p.1)) ?_ ?_
    · exact ⟨Ex.new hD, [], upd_same, Nat.le_refl _, .nil⟩
    · rintro i x Ha Hb hi ⟨R1, ps, h1, h2, h3⟩ ⟨ey, hPi⟩
      have eB : Ex H Hb := e1.trans (R1.trans ey)
      obtain ⟨a, ha, hr⟩ := hP i x Hb eB hPi
      have hm := List.mem_of_getElem? ha
      refine hg a x Hb _ hr ⟨hw a, ht a Hb eB hm Hb (Ex.refl _) _ fun H3 e3 => ?_⟩
      have hft := ftk ha
      cases hp : p a with
      | true =>
        rw [hp, if_pos rfl] at hft
        show te (st a) H3 fun y H4 => ∃ acc, H4 Dl = some (.lst acc) ∧ acc.length < sizeLine ∧ _
        refine he a H3 (eB.trans e3) hm hp _ fun q H4 hq e4 h4 => ?_
        have hDl4 : H4 Dl = some (.lst (ps.map V.ref)) := e4 _ _ (e3 _ _ (ey _ _ h1))
        have nqD : q ≠ Dl := fun z => by rw [z, e3 _ _ (ey _ _ h1)] at hq; cases hq
        have eM : Ex H1 (upd H4 Dl (.lst (ps.map V.ref ++ [.ref q]))) := Ex.mut (((R1.trans ey).trans e3).trans e4) hD
        refine ⟨ps.map V.ref, hDl4, sz_lt (by rw [List.length_map]; omega), eM, ps ++ [q], by rw [upd_same, List.map_append]; rfl, by rw [List.length_append, List.length_singleton]; omega, ?_⟩
        rw [hft]
        exact (h3.mono fun b a' r => ⟨by rw [upd_ne r.2.2]; exact e4 _ _ (e3 _ _ (ey _ _ r.1)), r.2⟩).push ⟨by rw [upd_ne nqD]; exact h4, fresh_back (eB.trans e3) hq, nqD⟩
      | false =>
        rw [hp, if_neg Bool.false_ne_true, List.append_nil] at hft
        show Ex H1 H3 ∧ _
        refine ⟨(R1.trans ey).trans e3, ps, e3 _ _ (ey _ _ h1), by omega, ?_⟩
        rw [hft]
        exact h3.mono fun b a' r => ⟨e3 _ _ (ey _ _ r.1), r.2⟩
    · rintro H3 ⟨R1, ps, h1, h2, h3⟩
      rw [← hx, List.take_length] at h3
      exact k Dl H3 ps hDH (e1.trans R1) h1 h3
/-- as el_lcG, the heap of each turn known to be a greater one -/
theorem el_lcE {α : Type} {wi : TI} {g : TG} {vs : List Nat} {n : Nat} {own : Addr → Prop} {P : Nat → V → Hp → Prop} {gv : α → V} {p : α → Bool} (xs : List α) (st : α → L2.St) (hs : Src wi σ H n own P) (hn : n ≤ 40000) (hx : xs.length = n)
    (hP : ∀ i x H1, Ex H H1 → P i x H1 → ∃ a, xs[i]? = some a ∧ ∀ Q' : L2.St → Hp → Prop, Q' (st a) H1 → g x (wipe σ vs) H1 Q') (hw : ∀ a, wipe (st a) vs = wipe σ vs)
    (ht : ∀ a H1, Ex H H1 → a ∈ xs → EvT t (st a) H1 (p a)) (he : ∀ a H1, Ex H H1 → a ∈ xs → p a = true → Ev te (st a) H1 (gv a)) : EvL (tLc wi g t te vs) σ H ((xs.filter p).map gv) := fun H0 e Q q => by
  have hgm := given_map xs p gv (fun i => match xs[i]? with | some a => p a | none => false) (fun i => match xs[i]? with | some a => gv a | none => .non) (fun i a ha => by simp only [ha]) (fun i a ha => by simp only [ha])
  rw [hx] at hgm
  generalize hf : (fun (i : Nat) => match xs[i]? with | some a => p a | none => false) = f at hgm
  generalize hv : (fun (i : Nat) => match xs[i]? with | some a => gv a | none => V.non) = v at hgm
  exact hs H0 e _ fun J H1 S e1 w hS => fun Dl hD =>
    lc_it w (Qd := fun H3 => Q (.ref Dl) H3) (Cw H1 f v Dl) ⟨hD, Ex.new hD, upd_same⟩ (fun i Hi _ c => hS (fun _ => False) Hi (fun _ z => z.elim) (.of c.2.1)) (fun i x Hi Hj hi c hy => by
      obtain ⟨ey, hPi⟩ := hy
      have c' : Cw H1 f v Dl i Hj := ⟨c.1, c.2.1.trans ey, ey _ _ c.2.2⟩
      have eAll : Ex H Hj := (e.trans e1).trans c'.2.1
      obtain ⟨a, ha, hg⟩ := hP i x Hj eAll hPi
      have hm : a ∈ xs := List.mem_of_getElem? ha
      have fa : f i = p a := by rw [← hf]; simp only [ha]
      have va : v i = gv a := by rw [← hv]; simp only [ha]
      obtain ⟨c1, c2, c3⟩ := c'
      refine hg _ ⟨hw a, ht a Hj eAll hm Hj (Ex.refl _) _ fun H3 e3 => ?_⟩
      cases hp : p a with
      | true =>
        show te (st a) H3 fun y H4 => ∃ acc, H4 Dl = some (.lst acc) ∧ acc.length < sizeLine ∧ Cw H1 f v Dl (i + 1) (upd H4 Dl (.lst (acc ++ [y])))
        refine he a Hj eAll hm hp H3 e3 _ fun H4 e4 => ⟨given i f v, e4 Dl _ (e3 Dl _ c3), sz_lt (by have := given_len i f v; omega), c1, Ex.mut ((c2.trans e3).trans e4) c1, ?_⟩
        rw [given_yes (fa.trans hp), va]
        exact upd_same
      | false =>
        show Cw H1 f v Dl (i + 1) H3
        refine ⟨c1, c2.trans e3, ?_⟩
        rw [given_no (fa.trans hp)]
        exact e3 Dl _ c3) (fun H3 c => by
      refine q Dl H3 (fresh_back e1 c.1) (e1.trans c.2.1) ?_
      rw [← hgm]
      exact c.2.2)
/-- x in ts, of texts -/
theorem inV_T (x : Tx) (ts : List Tx) : inV (T x) (ts.map T) = decide (x ∈ ts) := by
  unfold inV
  rw [List.any_map]
  rw [Bool.eq_iff_iff, List.any_eq_true, decide_eq_true_eq]
  constructor
  · rintro ⟨y, hy, h⟩
    have h : eqV (T y) (T x) = true := h
    unfold eqV at h
    have := eq_of_beq h
    rw [SX.S_inj this] at hy
    exact hy
  · intro h
    refine ⟨x, h, ?_⟩
    show eqV (T x) (T x) = true
    unfold eqV
    exact beq_self_eq_true _
theorem flat_T (ts : List Tx) : (ts.map T).all flatV = true := by
  rw [List.all_map, List.all_eq_true]
  intro x _
  rfl
end
end Ws
set_option Elab.async false
set_option linter.all false
set_option maxRecDepth 100000
set_option maxHeartbeats 2000000
/-! name = {k: v for ..} on one line, the name a local -/
namespace Ws
open PySem PySem.Spec PyProof.Rows L2 Evl Wc Wt Wg Wd
def rNotInT : R2 := fun x y H Q => ∃ (c : Nat) (z : Tx), x = T [c] ∧ y = T z ∧ Q (.bl (!decide (c ∈ z))) H
theorem op_notInT {X : Cx} : OpR X (compareOp .NotIn) rNotInT := by
  intro pins s σ H x y v u Q I rx ry h
  obtain ⟨c, z, rfl, rfl, q⟩ := h
  exact op_notIn_sign pins s σ H _ _ v u Q I rx ry ⟨c, SX.S z, rfl, rfl, q⟩
theorem rv_notInT {H : Hp} {c : Nat} {b : Tx} : RV rNotInT (T [c]) (T b) H (.bl (!decide (c ∈ b))) := rv_val fun H1 _ Q q => ⟨c, b, rfl, rfl, q⟩
/-- one named value -/
def sw1 {α : Type} : List α → List α → List α
  | [], [a] => [a]
  | _, _ => []
theorem sw1_rel {vs zs : List V} {us ws : List Value} (r : Vals vs us) (rz : Vals zs ws) : Vals (sw1 vs zs) (sw1 us ws) := by
  cases r with
  | cons => exact .nil
  | nil =>
    match zs, ws, rz with
    | [], _, .nil => exact .nil
    | [_], _, .cons h1 .nil => exact .cons h1 .nil
    | _ :: _ :: _, _, .cons _ (.cons _ _) => exact .nil
theorem kb1 {x : PySem.Str} {st : Stmt} {ps ks : List PySem.Str} (hp : ps.length = 1)
    (h : ∀ (kV doc pm : Value) (an : Option Addr) (cdv ct a : Value), bindArgs (PySem.W.fnOf x x (defArgs st) (defBody st) (defScope st) .none kV doc pm an cdv ct) ⟨[], ks.zip [a]⟩ = pure (ps.zip (sw1 [] [a]))) : KB x st 0 ps ks sw1 sw1 := by
  intro K f fd F
  obtain ⟨oc, od, kV, doc, pm, an, cdv, ct, osl, rfl, lk, hcd⟩ := F.ex
  refine ⟨fun s us ws _ hl => ?_, fun r rz => sw1_rel r rz⟩
  rw [hp] at hl
  match us, ws, hl with
  | [], [a], _ => exact .of_eq (h kV doc pm an cdv ct a)
  | [], [], hl => exact absurd hl (by simp [sw1])
  | [], _ :: _ :: _, hl => exact absurd hl (by simp [sw1])
  | _ :: _, ws, hl => exact absurd hl (by simp [sw1])
section
variable {X : Cx}
theorem sw_trueD {kx vx : Expr} {gs : List Comprehension} {scope : Scope} {pos py : Pos} {y : PySem.Str} {l : Nat} {env : Env} (hk : env.scope.kind = .function) (hy : env.scope.names.lookup y = some .local) (hl : (py.line == pos.line) = true)
    (ha : (scope.names.any fun (n, k) => n == y && (k == .local || k == .cell)) = false) : swapsWith (.DictComp kx vx gs scope pos) (some (.Name y py)) l env = pure true := by
  have ky : env.kindOf y = some .local := hy
  have hb : env.blockKind = .function := by unfold Env.blockKind; rw [hk]; rfl
  unfold swapsWith
  simp only [hb, ky, ha, Expr.pos, hl]
  rfl
theorem ps_setDc {i : Nat} {y : PySem.Str} {py : Pos} {kx vx tg iter : Expr} {ifs : List Expr} {scope : Scope} {own : List (PySem.Str × Nat)} {pos spos : Pos} {wi : TI} {g : TG} {tt : TT} {tk tv : TE} (hc : X.calm = true) (hN : X.N.Nodup) (hy : X.N[i]? = some y) (hyl : X.env.scope.names.lookup y = some .local)
    (hsw : swapsWith (.DictComp kx vx [⟨tg, iter, ifs, 0⟩] scope pos) (some (.Name y py)) spos.line X.env = pure true) (hi : PI X tg iter wi) (ok : BlkOk X.N X.env.scope scope own)
    (hg : ∀ (s : Shared) (H : Hp) (C : Addr) (cl : List (PySem.Str × Addr)) (fp : List Addr), PG (X.blk s H scope (compEnvC scope cl C X.env) fp) tg g) (ht : ∀ (s : Shared) (H : Hp) (C : Addr) (cl : List (PySem.Str × Addr)) (fp : List Addr), PTs (X.blk s H scope (compEnvC scope cl C X.env) fp) ifs tt)
    (hk : ∀ (s : Shared) (H : Hp) (C : Addr) (cl : List (PySem.Str × Addr)) (fp : List Addr), PE (X.blk s H scope (compEnvC scope cl C X.env) fp) kx tk)
    (he : ∀ (s : Shared) (H : Hp) (C : Addr) (cl : List (PySem.Str × Addr)) (fp : List Addr), PE (X.blk s H scope (compEnvC scope cl C X.env) fp) vx tv) (hs : ∀ x, foldedSetIterable iter X.env x = pure x := by intro _; rfl) :
    PS X (.Assign [.Name y py] (.DictComp kx vx [⟨tg, iter, ifs, 0⟩] scope pos) spos) (tAsg (tDc wi g tt tk tv (own.map (·.2))) (gName i)) := by
  refine ⟨fun pins s σ H D I h => ?_⟩
  rw [exec_Assign_Name_used _ _ _ _ hsw]
  refine wpAny_bind (wpAny_standAt (wpAny_bind ?_))
  show wpAny _ X.A (do let _ ← comprehension (.DictComp kx vx [⟨tg, iter, ifs, 0⟩] scope pos) scope X.env (firstIterPos [⟨tg, iter, ifs, 0⟩] pos) newDict false (eval iter X.env) (some (assign (.Name y py) X.env))) _ _ s
  have h : tDc wi g tt tk tv (own.map (·.2)) σ H (fun x H1 => gName i x σ H1 D.nx) := h
  refine wpAny_bind (thn (dc_core (Qf := fun _ s' => SP X pins D .next s') hc hN I hi ok hg ht hk he hs h fun L C s' m H' I' q hn f => ?_) fun _ s' hq => wpAny_pure (wpAny_pure hq))
  show wpAny _ _ (assign (.Name y py) X.env (.ref L)) _ _ _
  refine wpAny_assign_Name (store_ok2 (v := V.ref L) I' hN hy (.inl hyl) rfl (fun s2 I2 ⟨a, sb, ha⟩ => ?_) (.inr hyl))
  obtain ⟨f0, f1, f2, f3, f4, f5⟩ := f
  have haC : C ≠ a := by
    rcases ha with z | z
    · rw [z]; exact f1
    · exact fun e => f4 y a z e.symm
  refine ⟨m, hn.sameBut sb haC, fun h3 sb3 => ?_⟩
  exact ⟨_, H', I2.turned (t' := s2.toks) (fun b o hb e => (sb3.2 b hb).trans e) f0 f1 f3 f4 f5, q⟩
end
end Ws
set_option Elab.async false
set_option linter.all false
set_option maxRecDepth 100000
set_option maxHeartbeats 2000000
/-! list(text); a text or a list of one-sign texts -/
namespace Ws
open PySem PySem.Spec PyProof.Rows L2 Evl Wc Wt Wg Wd
def rListT : List V → Hp → VK → Prop := fun xs H Q => ∃ s : Tx, xs = [T s] ∧ s.length ≤ 16777216 ∧ ∀ l, H l = none → Q (.ref l) (upd H l (.lst (s.map fun c => T [c])))
theorem call_list_T {X : Cx} (hc : X.calm = true) : CallR X (.type "list") rListT := by
  intro pins s σ H xs us Q I r h
  obtain ⟨a, rfl, hz, q⟩ := h
  obtain ⟨u, rfl, t, rfl⟩ := vals1 r
  have hz' : a.length ≤ sizeLine := by rw [sizeLine_eq]; omega
  refine call_list_str (I.ok.hd hc) _ t (fun h' tk acc c' hk e hi => ?_) (by show (SX.S a).length ≤ _; rw [S_length]; exact hz')
  refine ⟨.ref s.heap.objs.size, upd H s.heap.objs.size (.lst (a.map fun c => T [c])), I.laid hk (Nat.le_refl _) ⟨by rw [List.length_map]; exact hz', acc.toList, c', ?_, by rw [Array.toArray_toList]; exact e⟩, rfl, q _ (I.hok.fresh (Nat.le_refl _))⟩
  refine vals_of_idx _ _ (by rw [List.length_map, Array.length_toList, hi.1]; exact S_length a) fun j u hj => ?_
  obtain ⟨c, t', hc, rfl⟩ := hi.2 j u (by rw [← Array.getElem?_toList]; exact hj)
  have hc' : a[j]? = some c := by
    have : (a.toArray)[j]? = some c := hc
    simpa using this
  exact ⟨T [c], by rw [List.getElem?_map, hc']; rfl, ⟨_, rfl⟩⟩
def rListAny (K : PySem.W.Frag) : List V → Hp → VK → Prop := fun xs H Q => rListT xs H Q ∨ rListS K xs H Q
theorem call_list_any {X : Cx} (hc : X.calm = true) : CallR X (.type "list") (fun xs H Q => rListT xs H Q ∨ (∃ p ys, xs = [.ref p] ∧ (SqL X.K H p ys ∨ SqT X.K H p ys) ∧ ∀ l, H l = none → Q (.ref l) (upd H l (.lst ys)))) := CallR.or (call_list_T hc) call_list_of
def iAny (K : PySem.W.Frag) (tl : TE) : TI := fun σ H R => iStr tl σ H R ∨ iList K tl σ H R
theorem pi_any {X : Cx} {K : PySem.W.Frag} {tg l : Expr} {tl : TE} (hl : PE X l tl) (hK : X.K = K := by rfl) : PI X tg l (iAny K tl) := hK ▸ pi_or (pi_str hl) (pi_list hl)
/-- signs, as a text or as a list of them -/
def Sgn (H : Hp) (fa : Addr) (v : V) (s : Tx) : Prop := v = T s ∨ ∃ p, v = .ref p ∧ H p = some (.lst (s.map fun c => T [c])) ∧ p ≠ fa
section
variable {K : PySem.W.Frag} {fa : Addr} {σ : L2.St} {H H1 : Hp} {te : TE} {v : V} {s : Tx} {m i : Nat} {Q : VK}
theorem Sgn.ex (h : Sgn H fa v s) (e : Ex H H1) : Sgn H1 fa v s := h.imp id fun ⟨p, h1, h2, h3⟩ => ⟨p, h1, e _ _ h2, h3⟩
theorem Sgn.rf (h : Sgn H fa v s) (R : Rf fa m H H1) : Sgn H1 fa v s := h.imp id fun ⟨p, h1, h2, h3⟩ => ⟨p, h1, R.at_ h2 h3, h3⟩
theorem Sgn.exc {B : Addr → Prop} (h : Sgn H fa v s) (R : Exc B H H1) (hB : ∀ c, c ≠ fa → H c ≠ none → ¬ B c) : Sgn H1 fa v s := h.imp id fun ⟨p, h1, h2, h3⟩ => ⟨p, h1, R p _ (hB p h3 (by rw [h2]; exact fun z => nomatch z)) h2, h3⟩
theorem ev_lenAny (h : Ev te σ H v) (hs : Sgn H fa v s) (hl : s.length ≤ 16777216) : Ev (tCB (rLenAny K) (tCons te tNil)) σ H (.int (s.length : Int)) := by
  rcases hs with rfl | ⟨p, rfl, h2, _⟩
  · exact fun H1 e Q q => h H1 e _ fun H2 e2 => .inl ⟨s, rfl, hl, q H2 e2⟩
  · refine fun H1 e Q q => h H1 e _ fun H2 e2 => .inr ⟨p, _, rfl, .inl (sq_of (e2 _ _ (e _ _ h2))), ?_⟩
    rw [List.length_map]
    exact q H2 e2
theorem el_listAny (h : Ev te σ H v) (hs : Sgn H fa v s) (hl : s.length ≤ 16777216) : EvL (tCB (rListAny K) (tCons te tNil)) σ H (s.map fun c => T [c]) := by
  rcases hs with rfl | ⟨p, rfl, h2, _⟩
  · exact fun H1 e Q q => h H1 e _ fun H2 e2 => .inl ⟨s, rfl, hl, fun l hl => q l _ (fresh_back e2 hl) (e2.trans (Ex.new hl)) upd_same⟩
  · exact fun H1 e Q q => h H1 e _ fun H2 e2 => .inr ⟨p, _, rfl, .inl (sq_of (e2 _ _ (e _ _ h2))), fun l hl => q l _ (fresh_back e2 hl) (e2.trans (Ex.new hl)) upd_same⟩
theorem Src.own {wi : TI} {n : Nat} {own own' : Addr → Prop} {P : Nat → V → Hp → Prop} (h : Src wi σ H n own P) (k : ∀ b, own b → own' b) : Src wi σ H n own' P := fun H1 e R q => h H1 e R fun J H2 S e2 w h2 => q J H2 S e2 w fun B Ha hB ea => h2 B Ha (fun b hb => ⟨(hB b hb).1, fun z => (hB b hb).2 (k b z)⟩) ea
theorem src_any (h : Ev te σ H v) (hs : Sgn H fa v s) (hl : s.length ≤ 40000) : Src (iAny K te) σ H s.length (fun b => v = .ref b) (fun i v _ => (s.map fun c => T [c])[i]? = some v) := by
  rcases hs with rfl | ⟨p, rfl, h2, _⟩
  · exact src_orL (Src.own (src_str h) fun b z => z.elim)
  · exact src_orR (by
      have := src_list (K := K) h (sq_of h2)
      rw [List.length_map] at this
      exact Src.own this fun b z => by rw [z])
theorem wp_oneAny {B : Nat} (h0 : σ[i]? = some (some (.ref fa))) (h : Ev te σ H v) (hs : Sgn H fa v s) (G : GF fa B H) (hn : s ≠ []) (hl : s.length ≤ 16777216) (k : ∀ c H', c ∈ s → Rf fa 1 H H' → Q (T [c]) H') (hB : 1 ≤ B := by omega) : tCall (sp_one K) [] E0 (tCons (tVar i) (tCons te tNil)) σ H Q := by
  rcases hs with rfl | ⟨p, rfl, h2, h3⟩
  · exact wp_oneT h0 h G hn hl k hB
  · refine wp_oneS h0 h (.inl (sq_of h2)) h3 G (fun z => hn (List.map_eq_nil_iff.mp z)) (by rw [List.length_map]; exact hl) (fun v H' hv R => ?_) hB
    obtain ⟨c, hc, rfl⟩ := List.mem_map.mp hv
    exact k c H' hc R
end
end Ws
set_option Elab.async false
set_option linter.all false
set_option maxRecDepth 100000
set_option maxHeartbeats 4000000
/-! t[::-1] of a tuple -/
namespace HT
open PySem PySem.Spec PyProof.Rows
section
variable {prog : Program} {w : World} {A : Around} {E : Value → Shared → Prop} {s : Shared}
theorem adjust_rev (n : Nat) (hn : 1 ≤ n) : Builtin.Slice.sliceAdjust none none (-1) (n : Int) = ((n : Int) - 1, -1) := by
  unfold Builtin.Slice.sliceAdjust
  simp
theorem places_rev (n : Nat) (hn : 1 ≤ n) : Builtin.Slice.slicePlaces ((n : Int) - 1) (-1) (-1) = n := by
  unfold Builtin.Slice.slicePlaces
  have h1 : ¬ ((-1 : Int) > 0) := by decide
  simp only [h1, if_false]
  rw [if_pos (by omega), show (- -1 : Int) = 1 by decide, Int.ediv_one]
  omega
theorem sliceApplied_rev {sl : Addr} {u : Tok} {n : Nat} {Q : Int × Int × Nat → Shared → Prop} (hn : 1 ≤ n) (hs : s.heap.IsSliceOf sl .none .none (.int (-1) u))
    (h : Q ((n : Int) - 1, -1, n) s) : wpAny (model prog w) A (Builtin.Slice.sliceApplied (.ref sl) (pure (n : Int))) Q E s := by
  obtain ⟨os, hos, hcs, hds⟩ := id hs
  unfold Builtin.Slice.sliceApplied Builtin.Slice.sliceFields
  refine wpAny_bind (wpAny_bind (wpAny_field hos hds (x := .none) rfl (wpAny_bind (wpAny_field hos hds (x := .none) rfl (wpAny_bind (wpAny_field hos hds (x := .int (-1) u) rfl (wpAny_pure ?_)))))))
  refine wpAny_bind (slicePart_int ?_)
  show wpAny _ _ (if ((-1 : Int) == 0) = true then _ else _) _ _ s
  rw [if_neg (by decide)]
  refine wpAny_bind (slicePart_none (wpAny_bind (slicePart_none (wpAny_bind (wpAny_pure ?_)))))
  show wpAny _ _ (match Builtin.Slice.sliceAdjust none none (-1) (n : Int) with | (lo, hi) => pure (lo, (-1 : Int), Builtin.Slice.slicePlaces lo hi (-1))) _ _ s
  rw [adjust_rev n hn]
  show wpAny _ _ (pure ((n : Int) - 1, (-1 : Int), Builtin.Slice.slicePlaces ((n : Int) - 1) (-1) (-1))) _ _ s
  rw [places_rev n hn]
  exact wpAny_pure h
theorem fmap_congr {α β : Type} {f g : α → Option β} : ∀ {l : List α}, (∀ a ∈ l, f a = g a) → l.filterMap f = l.filterMap g
  | [], _ => rfl
  | a :: l, h => by
    rw [List.filterMap_cons, List.filterMap_cons, h a List.mem_cons_self, fmap_congr fun b hb => h b (List.mem_cons_of_mem _ hb)]
theorem pick_rev (xs : Array Value) : ((List.range xs.size).filterMap fun (m : Nat) => xs[(((xs.size : Int) - 1) + (m : Int) * -1).toNat]?).toArray = xs.toList.reverse.toArray := by
  congr 1
  rw [← PySem.W.krv_all xs, ← List.filterMap_reverse, ← PySem.W.krv_range, List.filterMap_map]
  refine fmap_congr fun m hm => ?_
  show xs[_]? = xs[xs.size - 1 - m]?
  congr 1
  omega
theorem getItem_tuple_rev {t sl : Addr} {items : Array Value} {u : Tok} {Q : Value → Shared → Prop} (ht : IsTup s.heap t items) (hs : s.heap.IsSliceOf sl .none .none (.int (-1) u)) (hn : 1 ≤ items.size)
    (h : Q (.ref s.heap.objs.size) { s with heap := s.heap.push { cls := .type "tuple", data := .seq items.toList.reverse.toArray } })
    (hsz : items.size ≤ sizeLine) : wpAny (model prog w) A (getItem (.ref t) (.ref sl)) Q E s := by
  have htake : sizeOk (.seq items.toList.reverse.toArray) := by
    show items.toList.reverse.toArray.size ≤ sizeLine
    rw [List.size_toArray, List.length_reverse, Array.length_toList]
    omega
  obtain ⟨os, hos, hcs, hds⟩ := id hs
  have hTs : s.TypeIs (.ref sl) "slice" := ⟨os, hos, hcs⟩
  unfold getItem
  try with_reducible refine wpAny_holding ?_
  first | refine wpAny_bind (wpAny_pure ?_) | skip
  refine wpAny_bind (wpAny_sequenceKey ht.typeIs (by decide) ?_)
  refine wpAny_bind (wpAny_callSpecial?_slot (name := Str.ofString "__getitem__") ht.typeIs PyProof.Rows.slot_tuple_getitem
    (wpAny_call_entry PyProof.Rows.slot_tuple_getitem ht.typeIs entry_tuple_getitem ?_ (args_tuple_getitem _ _)))
  show wpAny _ _ (Builtin.Tuple.tupleItemsOf (.ref t) >>= _) _ _ s
  refine wpAny_bind (tupleItemsOf_ ht ?_)
  refine wpAny_bind (wpAny_typeOf hTs ?_)
  rw [if_pos (by decide)]
  refine wpAny_bind (sliceApplied_rev hn hs ?_)
  have hno : ¬ ((((items.size : Int) - 1) == 0 && (-1 : Int) == 1 && items.size == items.size) = true) := by
    intro q
    rw [Bool.and_eq_true, Bool.and_eq_true] at q
    exact absurd q.1.2 (by decide)
  show wpAny _ _ (if (((items.size : Int) - 1) == 0 && (-1 : Int) == 1 && items.size == items.size) = true then _ else _) _ _ s
  rw [if_neg hno, pick_rev]
  first
    | exact wpAny_bind (m := Builtin.Tuple.tupleExact _) (wpAny_newObj_type (wpAny_pure ⟨_, rfl, wpAny_pure h⟩) htake)
    | exact wpAny_bind (m := Builtin.Tuple.tupleExact _) (wpAny_newObj_type (wpAny_bind (wpAny_pure (wpAny_pure ⟨_, rfl, wpAny_pure h⟩))) htake)
    | exact wpAny_bind (wpAny_bind (m := Builtin.Tuple.tupleExact _) (wpAny_newObj_type (wpAny_pure (wpAny_pure ⟨_, rfl, wpAny_pure h⟩)) htake))
    | exact wpAny_bind (wpAny_bind (m := Builtin.Tuple.tupleExact _) (wpAny_newObj_type (wpAny_pure ⟨_, rfl, wpAny_pure h⟩) htake))
end
end HT
namespace Ws
open PySem PySem.Spec PyProof.Rows L2 Evl Wc Wt Wg Wd
def tRevU (K : PySem.W.Frag) (te : TE) : TE := fun σ H Q => te σ H fun x H1 => ∃ a xs, x = .ref a ∧ SqT K H1 a xs ∧ xs ≠ [] ∧ ∀ p, H1 p = none → Q (.ref p) (upd H1 p (.tup xs.reverse))
theorem pe_revU {X : Cx} {K : PySem.W.Frag} {e : Expr} {te : TE} {k : Nat} {p1 p2 p3 pos : Pos} (he : PE X e te) (hK : X.K = K := by rfl) : PE X (.Subscript e (.Slice none none (some (.UnaryOp .USub (.Constant (.int 1) k p1) p2)) p3) pos) (tRevU K te) := by
  subst hK
  refine ⟨fun pins s σ H Q I h => ?_⟩
  refine Subscript_ (thn (he.run pins s σ H _ I h) fun v s1 ⟨x, H1, I1, r1, q1⟩ => ?_)
  obtain ⟨a, xs, ex, hx, hne, q⟩ := q1
  subst ex
  cases r1
  have hst : PO X (some (.UnaryOp .USub (.Constant (.int 1) k p1) p2)) (tPart (tUn (rU fun i => .int (-i)) (tC (.int 1)))) := po_some (pe_un un_neg pe_int)
  refine wpAny_Slice (thn (po_none.run pins s1 σ H1 (fun o H2 => o = none ∧ H2 = H1) I1 ⟨rfl, rfl⟩) fun vl s2 ⟨l, H2, I2, pl, el, e2⟩ => ?_)
  subst el e2
  refine thn (po_none.run pins s2 σ H2 (fun o H3 => o = none ∧ H3 = H2) I2 ⟨rfl, rfl⟩) fun vu s3 ⟨u, H3, I3, pu, eu, e3⟩ => ?_
  subst eu e3
  refine thn (hst.run pins s3 σ H3 (fun o H4 => o = some (-1) ∧ H4 = H3) I3 ⟨1, rfl, -1, rfl, rfl, rfl⟩) fun vs s4 ⟨o, H4, I4, ps, eo, e4⟩ => ?_
  subst eo e4
  cases pl
  cases pu
  cases ps with
  | int i tk =>
  have I5 : Inv X pins σ H4 { s4 with heap := s4.heap.push { cls := .type "slice", data := .fields #[.none, .none, .int (-1) tk] } } := I4.kept (t' := s4.toks) fun b ob q => Heap.get?_push_of_some _ q
  obtain ⟨its, r, ht, hz⟩ := I5.tuple hx
  have hlen := r.length
  show wpAny (model X.prog X.w) X.A (subscriptTail e (.Slice none none (some (.UnaryOp .USub (.Constant (.int 1) k p1) p2)) p3) (.ref a) (.ref s4.heap.objs.size)) (EP X pins σ Q) X.xe { s4 with heap := s4.heap.push { cls := .type "slice", data := .fields #[.none, .none, .int (-1) tk] } }
  refine tail_any (ops := [.ref a, .ref s4.heap.objs.size]) ht.typeIs (PyProof.Rows.slot_tuple_getitem.lookup) ?_ (by with_unfolding_all rfl)
  refine HT.getItem_tuple_rev ht (Heap.IsSliceOf.new _ .none .none (.int (-1) tk)) (by rw [List.size_toArray, ← hlen]; exact List.length_pos_iff.mpr hne) ?_ (by rw [List.size_toArray]; omega)
  refine ⟨.ref _, _, I5.laid (t' := s4.toks) (o := .tup xs.reverse) (fun b ob q => Heap.get?_push_of_some _ q) (Nat.le_refl _) ?_, rfl, q _ (I5.hok.fresh (Nat.le_refl _))⟩
  exact ⟨by rw [List.length_reverse]; exact hz, _, r.reverse, IsTup.new _ _⟩
section
variable {K : PySem.W.Frag} {σ : L2.St} {H : Hp} {te tb : TE}
theorem eu_revU {p : Addr} {xs : List V} (h : Ev te σ H (.ref p)) (hp : H p = some (.tup xs)) (hne : xs ≠ []) : EvU (tRevU K te) σ H xs.reverse := fun H1 e Q q => h H1 e _ fun H2 e2 => ⟨p, xs, rfl, st_of ((e.trans e2) _ _ hp), hne, fun r hr => q r _ (fresh_back e2 hr) (e2.trans (Ex.new hr)) upd_same⟩
/-- t * 2 of a new tuple -/
theorem eu_mul {xs : List V} {n : Nat} (h : EvU te σ H xs) (hn : Ev tb σ H (.int (n : Int))) (hne : xs ≠ []) (h2 : 2 ≤ n) (h3 : n ≤ 1000) (hl : xs.length ≤ 1000) : EvU (tOp (rRepT K) te tb) σ H (List.replicate n xs).flatten := fun H1 e Q q => h H1 e _ fun p H2 hp e2 hp2 => hn H2 (e.trans e2) _ fun H3 e3 => ⟨p, (n : Int), xs, rfl, rfl, st_of (e3 _ _ hp2), hne, by omega, by omega, hl, fun r hr => by
  rw [Int.toNat_natCast]
  exact q r _ (fresh_back (e2.trans e3) hr) ((e2.trans e3).trans (Ex.new hr)) upd_same⟩
/-- t + u, both not empty, u new -/
theorem eu_catA {p : Addr} {xs ys : List V} (h : Ev te σ H (.ref p)) (hp : H p = some (.tup xs)) (hb : EvU tb σ H ys) (hx : xs ≠ []) (hy : ys ≠ []) (hl : xs.length + ys.length ≤ 100000) : EvU (tOp (rCatA K) te tb) σ H (xs ++ ys) := fun H1 e Q q => h H1 e _ fun H2 e2 => hb H2 (e.trans e2) _ fun r H3 hr e3 h3 => ⟨p, r, xs, ys, rfl, rfl, st_of (((e.trans e2).trans e3) _ _ hp), st_of h3, sz_of hl, fun z => absurd z hx, fun _ z => absurd z hy, fun _ _ n hn => q n _ (fresh_back (e2.trans e3) hn) ((e2.trans e3).trans (Ex.new hn)) upd_same⟩
/-- list(t) -/
theorem el_listU {p : Addr} {xs : List V} (h : Ev te σ H (.ref p)) (hp : H p = some (.tup xs)) : EvL (tCB (rListS K) (tCons te tNil)) σ H xs := fun H1 e Q q => h H1 e _ fun H2 e2 => ⟨p, xs, rfl, .inr (st_of ((e.trans e2) _ _ hp)), fun r hr => q r _ (fresh_back e2 hr) (e2.trans (Ex.new hr)) upd_same⟩
theorem krepT {X : Cx} {K : PySem.W.Frag} (hK : X.K = K := by rfl) : OpR X (binaryOp .Mult) (rRepT K) := hK ▸ op_repT
end
end Ws
set_option Elab.async false
set_option linter.all false
set_option maxRecDepth 100000
set_option maxHeartbeats 4000000
/-! an error that is kept behind its except suite; isinstance of it -/
namespace We
open PySem PySem.Spec PyProof.Rows L2 Evl Wc Wt Wg
/-- the error at a -/
def ExO (cls : Value) (d : Option Addr) (a : Addr) : HO := .ext fun h => ∃ (oe : Obj) (vs : Array Value), h.get? a = some oe ∧ oe.cls = cls ∧ oe.dict = d ∧ oe.data = .fields vs
section
variable {X : Cx} {pins : List (Addr × Obj)} {σ : L2.St} {H : Hp} {s : Shared} {a : Addr}
theorem exO_ok {P : Program} {w : World} {H : Hp} {h : Heap} {cls : Value} {d : Option Addr} {oe : Obj} (he : h.get? a = some oe) (hz : Zc cls d oe) (hd : ∃ vs, oe.data = .fields vs) : ObjOk P w H h a (ExO cls d a) := by
  obtain ⟨vs, hd⟩ := hd
  exact ⟨⟨oe, vs, he, hz.1, hz.2, hd⟩, ⟨oe, he⟩, fun h1 h2 ⟨o, v, x1, x2⟩ k => ⟨o, v, k o x1, x2⟩⟩
/-- an object that stands is looked after from now on -/
theorem track {o : HO} (I : Inv X pins σ H s) (na : H a = none) (nL : a ≠ X.env.locals) (nC : ∀ x c, X.env.cells.lookup x = some c → c ≠ a) (nP : ∀ p ∈ X.pn ++ pins, p.1 ≠ a) (n0 : X.s_0.heap.get? a = none) (new : ObjOk X.prog X.w (upd H a o) s.heap a o) : Inv X pins σ (upd H a o) s where
  ok := I.ok
  os := I.os
  bare := I.bare
  base := ⟨I.base.keep, I.base.slot, fun b u e n hx => by rw [upd_ne (fun z => by rw [z, n0] at e; cases e)]; exact I.base.free b u e n hx, I.base.there, fun b xs e => by have := I.base.tups b xs e; rw [upd_ne (fun z => by rw [z, na] at this; cases this)]; exact this, fun b u v e => by have := I.base.frzs b u v e; rw [upd_ne (fun z => by rw [z, na] at this; cases this)]; exact this, fun b ps e => by
    obtain ⟨more, hm⟩ := I.base.tbls b ps e
    exact ⟨more, by rw [upd_ne (fun z => by rw [z, na] at hm; cases hm)]; exact hm⟩⟩
  loc := I.loc
  cell := I.cell
  free := by rw [upd_ne (Ne.symm nL)]; exact I.free
  freeC := fun x c e => by rw [upd_ne (nC x c e)]; exact I.freeC x c e
  pin := fun p hp => by
    obtain ⟨h1, h2, h3⟩ := I.pin p hp
    exact ⟨h1, by rw [upd_ne (nP p hp)]; exact h2, h3⟩
  hok := fun b u e => by
    by_cases hb : b = a
    · subst hb
      rw [upd_same] at e
      cases e
      exact new
    · rw [upd_ne hb] at e
      exact (I.hok b u e).stay (fun c v _ q => q) (fun c q => by rw [upd_ne (ne_of_none q na)]; exact q) fun c xs q => by rw [upd_ne (ne_of_none q na)]; exact q
  len := I.len
/-- isinstance of a kept error -/
def rIsK (K : PySem.W.Frag) : List V → Hp → VK → Prop := fun xs H Q => ∃ (a D : Addr) (c : V) (cv : Value) (b : Bool), xs = [.ref a, c] ∧ H a = some (ExO (.ref D) none a) ∧ ExcC K D ∧ (∀ u, RelV c u → u = cv) ∧ PySem.W.kitOne K (.ref D) cv = some b ∧ Q (.bl b) H
theorem cr_isK : CallR X (.builtin "isinstance") (rIsK X.K) := by
  intro pins s σ H xs us Q I r h
  obtain ⟨a, D, c, cv, b, rfl, hx, C, hcv, e, q⟩ := h
  cases r with
  | cons rx rr =>
    cases rr with
    | cons rt rr =>
      cases rr
      cases rx
      have ec := hcv _ rt
      subst ec
      obtain ⟨⟨oe, vs, hget, h1, h2, hv⟩, _⟩ := (I.hok a _ hx : ObjOk X.prog X.w H s.heap a (ExO (.ref D) none a))
      have J : PySem.W.InstAt s.heap a oe D none := by
        obtain ⟨oc, od, oda, osl⟩ := oe
        dsimp only at h1 h2 hv
        subst h1 h2 hv
        exact ⟨hget, rfl, rfl, trivial⟩
      exact PySem.W.kia_one (PySem.W.handS_kitx_exc C.hg C.hk C.hs C.hd C.ha C.hn C.ht C.hm) I.kIn J e (fun z => nomatch z) fun tk => ⟨.bl b, H, I.kept (t' := tk) fun _ _ z => z, rfl, q⟩
end
theorem kisK {X : Cx} {K : PySem.W.Frag} (hK : X.K = K := by rfl) : CallR X (.builtin "isinstance") (rIsK K) := hK ▸ cr_isK
/-- as wAs of HandS, the error looked after behind the suite -/
def wKeep (K : PySem.W.Frag) (c : Value) (i : Nat) (ts : Addr → Value → Option Addr → TS) (Wout : WX) (D : Ends) : WX := fun cls d σ H =>
  ∃ b, PySem.W.exmOne K cls c = some b ∧ (b = true → ∀ a, H a = none → ts a cls d { nx := fun σ' H' => H' a = none → D.nx (σ'.set i none) (upd H' a (ExO cls d a)), rt := fun _ _ => False, bk := fun _ _ => False, ct := fun _ _ => False } (σ.set i (some (.ref a))) H) ∧ (b = false → Wout cls d σ H)
section
variable {X : Cx} {x n : Str} {c : Value} {i : Nat} {body suite : List Stmt} {b₀ : Stmt} {np pos pos' : Pos} {tb : WX → TS} {ts : Addr → Value → Option Addr → TS} {Wout : WX}
theorem ps_try_keep (hs : X.stack = X.env :: X.outer) (hf : X.env.frame = some X.env.locals) (hN : X.N.Nodup) (hi : X.N[i]? = some n) (hln : X.env.kindOf n = some .local) (hc : Names X x c) (tk : Takes X Wout) (hex : X.ex = [])
    (hb : ∀ (W : WX) (pn : List (Addr × Obj)) (xe : Value → Shared → Prop), Takes (X.tr pn xe) W → PassesOwn (model X.prog X.w) X.A X.env xe → PSs (X.tr pn xe) body (tb W))
    (hsu : ∀ (a : Addr) (oe : Obj) (cls : Value) (d : Option Addr) (pn : List (Addr × Obj)), Zc cls d oe → (∃ vs, oe.data = .fields vs) → PSs (X.suite a ((a, oe) :: pn)) (b₀ :: suite) (ts a cls d)) :
    PS X (.Try body [.ExceptHandler (some (.Name x np)) (some n) (b₀ :: suite) pos'] [] [] pos) (fun D σ H => tb (wKeep X.K c i ts Wout D) D σ H) := by
  refine ⟨fun pins s σ H D I h => ?_⟩
  have ok := I.ok
  have hfr : X.A.frames = some (X.env :: X.outer) := by rw [ok.frames, hs]
  refine wpAny_Try_except ?_
  refine wpAny_mono ((hb (wKeep X.K c i ts Wout D) (X.pn ++ pins) (fun e s₁ => wpAny (model X.prog X.w) X.A (noteFrame e X.env) (fun _ s₂ => wpAny (model X.prog X.w) X.A (setFlight e none) (fun _ s₃ =>
    wpAny (model X.prog X.w) X.A (handleBy e X.env [.ExceptHandler (some (.Name x np)) (some n) (b₀ :: suite) pos']) (SP X pins D) X.xe s₃) X.xe s₂) X.xe s₁) (fun u s' xx => ?_) PassesOwn.looking).run [] s σ H D (I.toTry _) h) (fun f s1 hsp => ?_) (fun e s1 he => he)
  · obtain ⟨a, B, sI, pins', σ', H', cls, d, rfl, J', nb, up, sky, na, os, ag, b, hb1, hyes, hno⟩ := xx
    have J : Inv X pins σ' H' sI := J'.ofTry ok
    show wpAny (model X.prog X.w) X.A (noteFrame (.ref a) X.env) _ _ _
    refine Sky.land Zc.steady hfr hf (by rw [← hs]; exact sky) fun h3 fl3 up3 => ?_
    have J3 : Inv X pins σ' H' { s' with heap := h3 } := J.landed nb fl3.1 (up.trans up3) os ag
    obtain ⟨oe3, vs3, he3, hz3, hd3⟩ := fl3.there
    have nfr : a ∉ frs (X.env :: X.outer) := fun hm => by
      obtain ⟨_, o', e', hnf⟩ := fl3.2.2.1.mem hm
      rw [he3] at e'
      cases e'
      exact hnf _ hd3
    have nI : sI.heap.get? a = none := by
      cases e : sI.heap.get? a with
      | none => rfl
      | some o =>
        have e1 := nb a o e (by rw [hs]; exact nfr)
        rw [fl3.2.1] at e1
        cases e1
    have n0 : X.s_0.heap.get? a = none := by
      cases e : X.s_0.heap.get? a with
      | none => rfl
      | some o =>
        obtain ⟨o', e1⟩ := J.base.there a o e (by rw [hex]; exact fun z => nomatch z)
        rw [nI] at e1
        cases e1
    have nL : a ≠ X.env.locals := fun z => nfr (List.mem_filterMap.mpr ⟨X.env, List.mem_cons_self, by rw [hf, z]⟩)
    have nF : a ∉ X.fs := fun hm => by
      obtain ⟨e, he, q⟩ := List.mem_filterMap.mp hm
      exact nfr (List.mem_filterMap.mpr ⟨e, List.mem_cons_of_mem _ he, q⟩)
    have nP : ∀ p ∈ X.pn ++ pins, p.1 ≠ a := fun p hp z => by
      have := (J.pin p hp).1
      rw [z, nI] at this
      cases this
    have S3 := J3.suite he3 hd3 na nL nF
    refine wpAny_handleBy_cons (codeAny_handlers_test ?_) (by intro q; cases q)
    have LM := PySem.W.exm_one (M := model X.prog X.w) (J3.kIn) (fun A Q E s k q => wpAny_typeOf_ref (k _ _ he3) (by rw [hz3.1]; exact q) : PySem.W.Looks (model X.prog X.w) h3 (typeOf (.ref a)) cls) hb1
    have test : ∀ {Q : Value → Shared → Prop} {E : Value → Shared → Prop}, Q c { s' with heap := h3 } → wpAny (model X.prog X.w) (X.A.mark (some (.ref a))) (eval (.Name x np) X.env) Q E { s' with heap := h3 } := fun {Q E} q => by
      obtain ⟨hg, hdbg, hm | ⟨hm, hv, hnn⟩⟩ := hc
      · exact ld_glob (X := X.suite a ((a, oe3) :: (X.pn ++ pins))) S3 hg hm q hdbg
      · exact ld_blt (X := X.suite a ((a, oe3) :: (X.pn ++ pins))) S3 hg hm hv q hnn hdbg
    refine test (LM.here ?_)
    cases b with
    | true =>
      refine codeAny_handlers_suite_as ?_
      refine HandSPX.lands_againZ fl3 fun h4 fl4 up4 => ?_
      have J4 : Inv X pins σ' H' { s' with heap := h4 } := J.landed nb fl4.1 ((up.trans up3).trans up4) os ag
      obtain ⟨oe4, vs4, he4, hz4, hd4⟩ := fl4.there
      have S4 := J4.suite he4 hd4 na nL nF
      refine store_ok (X := X.suite a ((a, oe4) :: (X.pn ++ pins))) (v := .ref a) S4 hN hi (.inl hln) rfl (fun s5 S5 => ?_) (.inr hln)
      refine wpAny_mono ((hsu a oe4 cls d (X.pn ++ pins) hz4 ⟨_, hd4⟩).run [] s5 _ H' _ S5 (hyes rfl a na)) (fun f s6 hsp => ?_) (fun _ _ z => False.elim z)
      cases f with
      | next =>
        obtain ⟨σ6, H6, S6, q6⟩ := hsp
        obtain ⟨g1, g2, _⟩ := S6.pin (a, oe4) (List.mem_append.mpr (.inl List.mem_cons_self))
        have U6 : Inv X pins σ6 H6 s6 := S6.unsuite ok
        have T6 := track U6 g2 nL (fun y cc hy z => by
          obtain ⟨v, hv⟩ := U6.cell y cc hy
          rw [z] at hv
          obtain ⟨ob, e1, e2⟩ := hv
          rw [g1] at e1
          cases e1
          rw [hd4] at e2
          cases e2) nP n0 (exO_ok (cls := cls) (d := d) g1 hz4 ⟨_, hd4⟩)
        exact gone_ok T6 hN hi hln fun s7 J7 => ⟨_, _, J7, q6 g2⟩
      | brk =>
        obtain ⟨σ6, H6, S6, q6⟩ := hsp
        exact False.elim q6
      | cont =>
        obtain ⟨σ6, H6, S6, q6⟩ := hsp
        exact False.elim q6
      | ret u =>
        obtain ⟨v6, σ6, H6, S6, r6, q6⟩ := hsp
        exact False.elim q6
    | false =>
      show wpAny _ X.A (handleBy (.ref a) X.env []) _ _ _
      refine wpAny_handleBy_nil ?_
      obtain ⟨k1, k2, k3, oe, vs, T, oT, ts', he, hz, hd, h1, hr⟩ := id fl3
      unfold PySem.passOn
      refine wpAny_bind (wpAny_field he hd h1 ?_)
      rw [if_neg (show ¬ ((Value.ref T == Value.none) = true) from by simp)]
      have fin : wpAny (model X.prog X.w) X.A (setFlight (.ref a) X.env.frame) (fun _ s4 => wpAny (model X.prog X.w) X.A (throw (.ref a) : Sem Flow) (SP X pins D) X.xe s4) X.xe { s' with heap := h3 } := by
        rw [hf]
        refine HandSPX.setFlight_upZ fl3 fun h4 hh4 up4 => wpAny_throw (tk _ _ ?_)
        exact ⟨a, B, sI, pins, σ', H', cls, d, rfl, J, nb, (up.trans up3).trans up4, .inr (.inr (by rw [hs]; exact hh4)), na, os, ag, hno rfl⟩
      first
        | exact wpAny_bind (wpAny_pure (wpAny_bind fin))
        | exact wpAny_bind fin
  · cases f with
    | next =>
      obtain ⟨σ', H', J', q⟩ := hsp
      exact wpAny_execs_nil ⟨σ', H', J'.ofTry ok, q⟩
    | brk =>
      obtain ⟨σ', H', J', q⟩ := hsp
      exact ⟨σ', H', J'.ofTry ok, q⟩
    | cont =>
      obtain ⟨σ', H', J', q⟩ := hsp
      exact ⟨σ', H', J'.ofTry ok, q⟩
    | ret u =>
      obtain ⟨v, σ', H', J', r, q⟩ := hsp
      exact ⟨v, σ', H', J'.ofTry ok, r, q⟩
end
section
variable {K : PySem.W.Frag} {σ : L2.St} {H : Hp}
theorem rc_isK {a D : Addr} {c : V} {cv : Value} {b : Bool} (hx : H a = some (ExO (.ref D) none a)) (C : ExcC K D) (hcv : ∀ u, RelV c u → u = cv) (e : PySem.W.kitOne K (.ref D) cv = some b) : RC (rIsK K) [.ref a, c] H (.bl b) := fun H1 e1 _ q => ⟨a, D, c, cv, b, rfl, e1 _ _ hx, C, hcv, e, q H1 (Ex.refl H1)⟩
end
end We
set_option Elab.async false
set_option linter.all false
set_option maxRecDepth 100000
set_option maxHeartbeats 4000000
/-! rests: what comes of ends of words by words; lists and dicts of texts -/
namespace Wr
open PySem PySem.Spec PyProof.Rows L2 Evl Wc Wt Wg Ws Wd
/-- what comes of the rest r by the word w -/
def behO (r w : Tx) : List Tx := if w.take r.length = r then [w.drop r.length] else if r.take w.length = w then [r.drop w.length] else []
def behT (lot : List Tx) (r : Tx) : List Tx := lot.flatMap (behO r)
/-- a first rest -/
def Fst (lot : List Tx) (x : Tx) : Prop := ∃ w ∈ lot, ∃ o ∈ lot, w ≠ o ∧ w.take o.length = o ∧ x = w.drop o.length
/-- what comes of those of F, by words -/
inductive Rch (lot : List Tx) (F : Tx → Prop) : Tx → Prop
  | base {x : Tx} : F x → Rch lot F x
  | step {r x : Tx} : Rch lot F r → r ≠ [] → x ∈ behT lot r → Rch lot F x
theorem Rch.mono {lot : List Tx} {F G : Tx → Prop} (h : ∀ x, F x → Rch lot G x) {x : Tx} (hx : Rch lot F x) : Rch lot G x := by
  induction hx with
  | base f => exact h _ f
  | step _ hn hb ih => exact .step ih hn hb
/-- the ends of words -/
def sufs (lot : List Tx) : List Tx := lot.flatMap fun w => (List.range (w.length + 1)).map fun n => w.drop n
theorem mem_sufs {lot : List Tx} {x : Tx} : x ∈ sufs lot ↔ ∃ w ∈ lot, ∃ n, x = w.drop n := by
  unfold sufs
  rw [List.mem_flatMap]
  constructor
  · rintro ⟨w, hw, hx⟩
    obtain ⟨n, _, rfl⟩ := List.mem_map.mp hx
    exact ⟨w, hw, n, rfl⟩
  · rintro ⟨w, hw, n, rfl⟩
    refine ⟨w, hw, List.mem_map.mpr ?_⟩
    by_cases hn : n ≤ w.length
    · exact ⟨n, List.mem_range.mpr (by omega), rfl⟩
    · exact ⟨w.length, List.mem_range.mpr (by omega), by rw [List.drop_length, List.drop_eq_nil_of_le (by omega)]⟩
theorem sufs_len {m : Nat} : ∀ {lot : List Tx}, (∀ w ∈ lot, w.length ≤ m) → (sufs lot).length ≤ lot.length * (m + 1)
  | [], _ => Nat.zero_le _
  | w :: lot, h => by
    have h1 := sufs_len (lot := lot) fun x hx => h x (List.mem_cons_of_mem _ hx)
    have h2 := h w List.mem_cons_self
    have e : sufs (w :: lot) = ((List.range (w.length + 1)).map fun n => w.drop n) ++ sufs lot := rfl
    rw [e, List.length_append, List.length_map, List.length_range, List.length_cons, Nat.succ_mul]
    omega
theorem beh_sufs {lot : List Tx} {r x : Tx} (hr : r ∈ sufs lot) (h : x ∈ behT lot r) : x ∈ sufs lot := by
  obtain ⟨w, hw, hx⟩ := List.mem_flatMap.mp h
  unfold behO at hx
  by_cases h1 : w.take r.length = r
  · rw [if_pos h1] at hx
    rw [List.mem_singleton.mp hx]
    exact mem_sufs.mpr ⟨w, hw, _, rfl⟩
  · rw [if_neg h1] at hx
    by_cases h2 : r.take w.length = w
    · rw [if_pos h2] at hx
      rw [List.mem_singleton.mp hx]
      obtain ⟨v, hv, n, rfl⟩ := mem_sufs.mp hr
      exact mem_sufs.mpr ⟨v, hv, n + w.length, by rw [List.drop_drop]⟩
    · rw [if_neg h2] at hx
      cases hx
theorem Rch.sufs {lot : List Tx} {F : Tx → Prop} (hF : ∀ x, F x → x ∈ sufs lot) {x : Tx} (h : Rch lot F x) : x ∈ sufs lot := by
  induction h with
  | base f => exact hF _ f
  | step _ _ hb ih => exact beh_sufs ih hb
theorem fst_sufs {lot : List Tx} {x : Tx} (h : Fst lot x) : x ∈ sufs lot := by
  obtain ⟨w, hw, o, _, _, _, rfl⟩ := h
  exact mem_sufs.mpr ⟨w, hw, _, rfl⟩
theorem fst_ne {lot : List Tx} {x : Tx} (h : Fst lot x) : x ≠ [] := by
  obtain ⟨w, hw, o, _, hn, ht, rfl⟩ := h
  intro z
  refine hn ?_
  have h1 : w.take o.length = w := List.take_of_length_le (List.drop_eq_nil_iff.mp z)
  rw [h1] at ht
  exact ht
theorem suf_le {lot : List Tx} {m : Nat} (h : ∀ w ∈ lot, w.length ≤ m) {x : Tx} (hx : x ∈ sufs lot) : x.length ≤ m := by
  obtain ⟨w, hw, n, rfl⟩ := mem_sufs.mp hx
  have := h w hw
  rw [List.length_drop]
  omega
theorem suf_sign {lot : List Tx} {p : Nat → Prop} (h : ∀ w ∈ lot, ∀ c ∈ w, p c) {x : Tx} (hx : x ∈ sufs lot) : ∀ c ∈ x, p c := by
  obtain ⟨w, hw, n, rfl⟩ := mem_sufs.mp hx
  exact fun c hc => h w hw c (List.mem_of_mem_drop hc)
theorem len_sub : ∀ {ks l : List Tx}, ks.Nodup → (∀ x ∈ ks, x ∈ l) → ks.length ≤ l.length
  | [], _, _, _ => Nat.zero_le _
  | x :: ks, l, hn, hs => by
    have hx := hs x List.mem_cons_self
    have h1 := len_sub (ks := ks) (l := l.erase x) (List.nodup_cons.mp hn).2 fun y hy => (List.mem_erase_of_ne (fun z => (List.nodup_cons.mp hn).1 (by rw [← z]; exact hy))).mpr (hs y (List.mem_cons_of_mem _ hy))
    rw [List.length_erase_of_mem hx] at h1
    have := List.length_pos_of_mem hx
    rw [List.length_cons]
    omega
/-- while rests are found: ks met, wk on the pile -/
structure MetX (lot : List Tx) (F : Tx → Prop) (ks wk : List Tx) : Prop where
  nd : ks.Nodup
  reach : ∀ x ∈ ks, Rch lot F x
  has : ∀ x, F x → x ∈ ks
  wk : ∀ x ∈ wk, x ∈ ks
theorem MetX.few {lot : List Tx} {F : Tx → Prop} {ks wk : List Tx} (h : MetX lot F ks wk) (hF : ∀ x, F x → x ∈ sufs lot) : ks.length ≤ (sufs lot).length := len_sub h.nd fun x hx => (h.reach x hx).sufs hF
def ClosedX (lot ks : List Tx) (r : Tx) : Prop := ∀ x ∈ behT lot r, x ∈ ks
theorem met_all {lot : List Tx} {F : Tx → Prop} {ks : List Tx} (h : MetX lot F ks []) (hc : ∀ x ∈ ks, x ≠ [] → ClosedX lot ks x) (x : Tx) : x ∈ ks ↔ Rch lot F x := by
  refine ⟨h.reach x, fun z => ?_⟩
  induction z with
  | base z => exact h.has _ z
  | step _ hn hb ih => exact hc _ ih hn _ hb
theorem addT_keep {ks : List Tx} {n m : Tx} (h : m ∈ ks) : m ∈ addT ks n := mem_addT.mpr (.inl h)
/-- one more rest y is met, behind r; it goes on the pile or not -/
theorem MetX.add {lot : List Tx} {F : Tx → Prop} {ks wk wk' : List Tx} {r y : Tx} (h : MetX lot F ks wk) (hr : r ∈ ks) (hrn : r ≠ []) (hy : y ∈ behT lot r) (hw : ∀ x ∈ wk', x ∈ wk ∨ x = y) : MetX lot F (addT ks y) wk' := ⟨addT_nodup h.nd, fun m hm => by
    rcases mem_addT.mp hm with z | z
    · exact h.reach m z
    · rw [z]; exact .step (h.reach r hr) hrn hy, fun m hm => addT_keep (h.has m hm), fun m hm => (hw m hm).elim (fun z => addT_keep (h.wk m z)) fun z => mem_addT.mpr (.inr z)⟩
/-! ### lists of texts in the heap -/
theorem sh_T {c : List Tx} (h : ∀ t ∈ c, LowT t) : SeqAt.shaped (.list (c.map dT)) = true := shaped_list (m := 0) (fun x hx => lay_T (h x hx)) (fun _ _ => Nat.le_refl _) (by decide)
section
variable {K : PySem.W.Frag} {σ : L2.St} {H : Hp} {ta : TE}
theorem dp_T {p : Addr} {c : List Tx} (h : H p = some (.lst (c.map T))) : Dp K H (.ref p) (.list (c.map dT)) := dp_list (sq_of h) fun _ _ => .str _
theorem et_eqNilT {p : Addr} {c : List Tx} (h : H p = some (.lst (c.map T))) (hl : ∀ t ∈ c, LowT t) (hv : Ev ta σ H (.ref p)) : EvT (tTest (tOp (rEqD K) ta (tLst tNil))) σ H (decide (c = [])) := fun H2 e2 Q q => by
  refine hv H2 e2 _ fun H3 e3 => ⟨Nat.zero_le _, fun r hr => ?_⟩
  have e4 := Ex.new (o := HO.lst []) hr
  refine ⟨_, .list [], dp_T (((e2.trans e3).trans e4) _ _ h), .lst (sq_of upd_same) .nil, sh_T hl, rfl, decide (c = []), ?_, q _ (e3.trans e4)⟩
  cases c <;> rfl
theorem et_neNilT {p : Addr} {c : List Tx} (h : H p = some (.lst (c.map T))) (hl : ∀ t ∈ c, LowT t) (hv : Ev ta σ H (.ref p)) : EvT (tTest (tOp (rNeD K) ta (tLst tNil))) σ H (!decide (c = [])) := fun H2 e2 Q q => by
  refine hv H2 e2 _ fun H3 e3 => ⟨Nat.zero_le _, fun r hr => ?_⟩
  have e4 := Ex.new (o := HO.lst []) hr
  refine rv_neD (b := decide (c = [])) (fun H5 e5 => dp_T (e5 _ _ (((e2.trans e3).trans e4) _ _ h))) (fun H5 e5 => .lst (sq_of (e5 _ _ upd_same)) .nil) (sh_T hl) (by decide) ?_ _ (Ex.refl _) _ fun H5 e5 => ⟨_, rfl, q _ ((e3.trans e4).trans e5)⟩
  cases c <;> rfl
theorem last_T (c : List Tx) (n : Tx) : ((c ++ [n]).map T)[((c ++ [n]).map T).length - 1]? = some (T n) := by
  rw [List.length_map, List.length_append, List.getElem?_map]
  simp
theorem wp_popT {i : Nat} {pw : Addr} {c : List Tx} {n : Tx} {Q : VK} (h0 : σ[i]? = some (some (.ref pw))) (h : H pw = some (.lst ((c ++ [n]).map T))) (k : Q (T n) (upd H pw (.lst (c.map T)))) : tBM0 K "list" rPop (tVar i) σ H Q := by
  refine ⟨.ref pw, h0, Or.inl ⟨rfl, _, sq_of h⟩, pw, _, T n, rfl, rfl, h, last_T c n, ?_⟩
  have e : ((c ++ [n]).map T).dropLast = c.map T := by rw [List.map_append]; exact List.dropLast_concat
  rw [e]
  exact k
theorem q_popT {i a : Nat} {pw : Addr} {c : List Tx} {n : Tx} {D : Ends} {tz : TS} (h0 : σ[i]? = some (some (.ref pw))) (h : H pw = some (.lst ((c ++ [n]).map T))) (k : tz D (σ.set a (some (T n))) (upd H pw (.lst (c.map T)))) : tSeq (tAsg (tBM0 K "list" rPop (tVar i)) (gName a)) tz D σ H := wp_popT (Q := fun v H1 => tz D (σ.set a (some v)) H1) h0 h k
theorem pairedX {H : Hp} : ∀ {ps : List Addr} {ns : List Tx}, ps.length = ns.length → (∀ (i : Nat) (p : Addr) (n : Tx), ps[i]? = some p → ns[i]? = some n → H p = some (.tup [T n, .bl true])) → Paired (fun p (kv : Key × V) => SqT K H p [kV kv.1, kv.2]) ps (DX ns)
  | [], [], _, _ => .nil
  | p :: ps, n :: ns, hl, h => .cons (st_of (h 0 p n rfl rfl)) (pairedX (by simpa using hl) fun i p' n' h1 h2 => h (i + 1) p' n' (by simpa using h1) (by simpa using h2))
/-- x = {t: True for t in ns} -/
theorem q_dcX {wi : TI} {i j : Nat} {vs : List Nat} {own : Addr → Prop} {D : Ends} {tz : TS} (ns : List Tx) (hs : Src wi σ H ns.length own (fun i v _ => (ns.map T)[i]? = some v)) (hn : ns.length ≤ 4000) (hw : ∀ x, wipe ((wipe σ vs).set j (some x)) vs = wipe σ vs) (hj : ∀ x, ((wipe σ vs).set j (some x))[j]? = some (some x))
    (k : ∀ d H2, H d = none → Ex H H2 → H2 d = some (.dK (DX (addAllT [] ns))) → tz D (σ.set i (some (.ref d))) H2) : tSeq (tAsg (tDc wi (gName j) tYes (tVar j) (tC (.bl true)) vs) (gName i)) tz D σ H := dc_texts (Q := fun v H1 => tz D (σ.set i (some v)) H1) ns hs hn hw hj k
/-- dict([(t, True) for t in ts]) -/
theorem wp_dictX {i j : Nat} {pp : Addr} {ns : List Tx} {Q : VK} (h0 : σ[i]? = some (some (.ref pp))) (h : H pp = some (.lst (ns.map T))) (hl : ns.length ≤ 4000) (hw : ∀ x, wipe ((wipe σ [j]).set j (some x)) [j] = wipe σ [j]) (hj : ∀ x, ((wipe σ [j]).set j (some x))[j]? = some (some x))
    (k : ∀ d H1, H d = none → Ex H H1 → H1 d = some (.dK (DX (addAllT [] ns))) → Q (.ref d) H1) : tCB (rDictP K) (tCons (tLc (iList K (tVar i)) (gName j) tYes (tTup (tCons (tVar j) (tCons (tC (.bl true)) tNil))) [j]) tNil) σ H Q := by
  have key : tLc (iList K (tVar i)) (gName j) tYes (tTup (tCons (tVar j) (tCons (tC (.bl true)) tNil))) [j] σ H (fun v H1 => rDictP K [v] H1 Q) := by
    refine lcN (n := ns.length) (fun t => .tup [T (ns.getD t []), .bl true]) (src_listM (f := T) (ev_var h0) (sq_of h)) (by omega) hw (fun t x H1 ht hx e1 Q' q' => ?_) fun q H2 ps hq e2 h2 hpl hn hnq => ?_
    · obtain ⟨n, hn, rfl⟩ := at_map hx
      refine ⟨_, hj _, by show 2 ≤ sizeLine; decide, fun p hp => q' p _ hp (Ex.new hp) ?_⟩
      rw [upd_same, List.getD_eq_getElem?_getD, hn]
      rfl
    · refine ⟨q, ps, DX ns, rfl, sq_of h2, pairedX hpl fun i p n h3 h4 => ?_, fun d hd => ?_⟩
      · have := hn.at_ i p h3
        rw [List.getD_eq_getElem?_getD, h4] at this
        exact this
      · have : mergeK [] (DX ns) = DX (addAllT [] ns) := merge_DX ns []
        rw [this]
        exact k d _ (fresh_back e2 hd) (e2.trans (Ex.new hd)) upd_same
  exact key
end
end Wr
set_option Elab.async false
set_option linter.all false
set_option maxRecDepth 100000
set_option maxHeartbeats 4000000
/-! dicts from texts to numbers; list(d.values()) -/
namespace Ws
open PySem PySem.Spec PyProof.Rows L2 Evl Wc Wt Wg Wd
def DC (kvs : List (Tx × Nat)) : List (Key × V) := kvs.map fun p => (kx p.1, V.int (p.2 : Int))
def getC (kvs : List (Tx × Nat)) (t : Tx) : Option Nat := (kvs.find? fun p => decide (p.1 = t)).map (·.2)
def putC (kvs : List (Tx × Nat)) (t : Tx) (n : Nat) : List (Tx × Nat) := if (getC kvs t).isSome = true then kvs.map (fun p => if p.1 = t then (p.1, n) else p) else kvs ++ [(t, n)]
theorem getC_pos {p : Tx × Nat} {r : List (Tx × Nat)} {t : Tx} (e : p.1 = t) : getC (p :: r) t = some p.2 := by simp [getC, List.find?_cons, e]
theorem getC_neg {p : Tx × Nat} {r : List (Tx × Nat)} {t : Tx} (e : ¬ p.1 = t) : getC (p :: r) t = getC r t := by simp [getC, List.find?_cons, e]
theorem DC_len (kvs : List (Tx × Nat)) : (DC kvs).length = kvs.length := List.length_map _
theorem val_DC (kvs : List (Tx × Nat)) (t : Tx) : valV (DC kvs) (kx t) = (getC kvs t).map fun (n : Nat) => V.int (n : Int) := by
  induction kvs with
  | nil => rfl
  | cons p kvs ih =>
    show valV ((kx p.1, V.int (p.2 : Int)) :: DC kvs) (kx t) = _
    by_cases h : p.1 = t
    · rw [valV_pos (congrArg kx h), getC_pos h]
      rfl
    · rw [valV_neg (fun z => h (kx_inj z)), getC_neg h, ih]
theorem put_DC (kvs : List (Tx × Nat)) (t : Tx) (n : Nat) : putK (DC kvs) (kx t) (.int (n : Int)) = DC (putC kvs t n) := by
  have ha := valV_any (kx t) (DC kvs)
  rw [val_DC, Option.isSome_map] at ha
  unfold putK putC
  cases hg : (getC kvs t).isSome with
  | true =>
    rw [hg] at ha
    rw [if_pos ha, if_pos rfl]
    unfold DC
    rw [List.map_map, List.map_map]
    refine List.map_congr_left fun p _ => ?_
    show (if kx p.1 = kx t then (kx p.1, V.int (n : Int)) else (kx p.1, V.int (p.2 : Int))) = ((fun p : Tx × Nat => (kx p.1, V.int (p.2 : Int))) (if p.1 = t then (p.1, n) else p))
    by_cases h : p.1 = t
    · rw [if_pos h, if_pos (congrArg kx h)]
    · rw [if_neg h, if_neg (fun z => h (kx_inj z))]
  | false =>
    rw [hg] at ha
    rw [if_neg (by rw [ha]; exact Bool.false_ne_true), if_neg Bool.false_ne_true]
    unfold DC
    rw [List.map_append]
    rfl
section
variable {K : PySem.W.Frag} {σ : L2.St} {H : Hp} {td ty tx tv : TE} {D : Ends} {tz : TS} {d : Addr} {kvs : List (Tx × Nat)} {t : Tx} {n : Nat}
/-- d[t] -/
theorem ev_getC (hd : Ev td σ H (.ref d)) (hk : Ev ty σ H (T t)) (h : H d = some (.dK (DC kvs))) (hg : getC kvs t = some n) : Ev (tDGet td ty) σ H (.int (n : Int)) := fun H1 e Q q =>
  hd H1 e _ fun H2 e2 => hk H2 (e.trans e2) _ fun H3 e3 => ⟨d, _, rfl, by
    have := DGet.k (H := H3) (a := d) (k := kx t) (((e.trans e2).trans e3) _ _ h)
    rw [val_DC, hg] at this
    exact this, q H3 (e2.trans e3)⟩
/-- d.get(t, i) -/
theorem ev_getC2 {i : Int} (hd : Ev td σ H (.ref d)) (hk : Ev ty σ H (T t)) (hx : Ev tx σ H (.int i)) (h : H d = some (.dK (DC kvs))) : Ev (tDGet2 td ty tx) σ H (.int (match getC kvs t with | none => i | some n => (n : Int))) := fun H1 e Q q =>
  hd H1 e _ fun H2 e2 => ⟨d, rfl, .inl ⟨_, Rd.of ((e.trans e2) _ _ h)⟩, hk H2 (e.trans e2) _ fun H3 e3 => hx H3 ((e.trans e2).trans e3) _ fun H4 e4 => ⟨_, DGet.k (k := kx t) ((((e.trans e2).trans e3).trans e4) _ _ h), by
    rw [val_DC]
    have := q H4 ((e2.trans e3).trans e4)
    cases hg : getC kvs t with
    | none => rw [hg] at this; exact this
    | some n => rw [hg] at this; exact this⟩⟩
/-- d[t] = n -/
theorem s_putC (hv : Ev tv σ H (.int (n : Int))) (hd : Ev td σ H (.ref d)) (hk : Ev ty σ H (T t)) (h : H d = some (.dK (DC kvs))) (hl : kvs.length ≤ 10000) (k : ∀ H1, Ex H H1 → D.nx σ (upd H1 d (.dK (DC (putC kvs t n))))) : sDPut td ty tv D σ H :=
  hv H (Ex.refl H) _ fun H1 e1 => hd H1 e1 _ fun H2 e2 => hk H2 (e1.trans e2) _ fun H3 e3 => ⟨d, _, rfl, DPut.k (k := kx t) (((e1.trans e2).trans e3) _ _ h) (by rw [DC_len]; unfold sizeLine; omega), by rw [put_DC]; exact k H3 ((e1.trans e2).trans e3)⟩
end
/-- list(d.values()) -/
def tListVals (te : TE) : TE := fun σ H Q => te σ H fun x H1 => ∃ d kvs, x = .ref d ∧ H1 d = some (.dK kvs) ∧ ∀ p, H1 p = none → Q (.ref p) (upd H1 p (.lst (kvs.map (·.2))))
section
variable {X : Cx} {e : Expr} {te : TE} {p apos cpos pos : Pos}
theorem pe_listVals (hc : X.calm = true) (he : PE X e te) (hg : Gl X "list") (hm : X.mg "list" = none) (hv : bootBuiltins "list" = some (.type "list")) (hbase : attributeBase e "values" X.env (eval e X.env) = eval e X.env := by rfl) (hline : (apos.endLine == cpos.line) = true := by rfl)
    (hs : starEach [.Call (.Attribute e "values" apos) [] [] cpos] X.env = (false, eval (.Call (.Attribute e "values" apos) [] [] cpos) X.env) :: starEach [] X.env := by rfl) :
    PE X (.Call (.Name "list" p) [.Call (.Attribute e "values" apos) [] [] cpos] [] pos) (tListVals te) := by
  refine ⟨fun pins s σ H Q I hq => ?_⟩
  refine wpAny_Call_Name_kw (ld_blt I hg hm hv ?_)
  refine PyProof.Rows.callWith_type1 ?_ hs rfl
  rw [hs]
  show wpAny _ _ (spliced ((false, eval (.Call (.Attribute e "values" apos) [] [] cpos) X.env) :: backTo pos (starEach [] X.env))) _ _ s
  refine Calls.spliced_cons ?_
  refine wpAny_Call_method (T := "dict") (id := "dict.values") hbase rfl hline PySem.F.plainAttrs_dict PySem.F.slot_dict_values PySem.F.type_dict_values (thn (he.run pins s σ H _ I hq) fun u s1 ⟨x, H1, I1, rx, d, kvs, ex, hd, q⟩ => ?_)
  subst ex
  obtain rfl : u = Value.ref d := rx
  obtain ⟨hz, hs0, vs, kv, hdo⟩ := I1.hok d _ hd
  obtain ⟨ep, hat⟩ := hdo.dictAt
  have lk : kvs.length = vs.length := Paired.length kv
  have I2 : Inv X pins σ H1 { s1 with heap := s1.heap.push { cls := .type "dict_values", data := .fields #[.ref d] } } := I1.kept (t' := s1.toks) fun b ob q => Heap.get?_push_of_some _ q
  refine ⟨hdo.typeIs, hdo.mapOf.noDict, ?_⟩
  show wpAny _ _ (callWith cpos (.builtin "dict.values") [.ref d] [] []) _ X.xe s1
  refine method_meetsIn PySem.F.slot_dict_values PySem.F.entry_dict_values rfl (PySem.evalArgs_none ⟨rfl, hdo.typeIs, PySem.F.args_dict_values_1 _, _, meets_dict_values (mixKind X.prog X.w) d hs0, ⟨vs, hdo⟩, ?_⟩)
  refine Calls.spliced_nil ?_
  refine PySem.W.kdl_call (PySem.W.kdl_values (knd := mixKind X.prog X.w) (kvs := vs) (ep := ep)) (I1.ok.hd hc) ⟨⟨_, Heap.get?_push_size _ rfl, rfl, rfl⟩, hat.push _⟩ (by rw [← lk]; exact hz) fun h' tk acc' c' hkeep hS hacc => ?_
  refine ⟨.ref _, upd H1 _ (.lst (kvs.map (·.2))), I2.laid hkeep (Nat.le_refl _) (show ObjOk X.prog X.w _ _ _ (.lst (kvs.map (·.2))) from ⟨?_, acc'.toList, c', ?_, ?_⟩), rfl, q _ (I2.hok.fresh (Nat.le_refl _))⟩
  · rw [List.length_map]; exact hz
  · have el : acc'.toList.length = acc'.size := by simp
    refine vals_of_at (by rw [List.length_map, el, hacc.1, lk]) fun j x w h1 h2 => ?_
    obtain ⟨k, hky⟩ := hacc.2 j w (by rw [← Array.getElem?_toList]; exact h2)
    obtain ⟨y, g1, g2⟩ := KV.at' kv hky
    rw [List.getElem?_map, g1] at h1
    cases h1
    exact g2
  · rw [Array.toArray_toList]; exact hS
end
section
variable {σ : L2.St} {H : Hp} {td : TE} {d : Addr} {kvs : List (Tx × Nat)}
theorem el_valsC (hd : Ev td σ H (.ref d)) (h : H d = some (.dK (DC kvs))) : EvL (tListVals td) σ H (kvs.map fun p => V.int (p.2 : Int)) := fun H1 e Q q => hd H1 e _ fun H2 e2 => ⟨d, _, rfl, (e.trans e2) _ _ h, fun r hr => q r _ (fresh_back e2 hr) (e2.trans (Ex.new hr)) (by
  rw [upd_same]
  unfold DC
  rw [List.map_map]
  rfl)⟩
theorem el_listC (hd : Ev td σ H (.ref d)) (h : H d = some (.dK (DC kvs))) : EvL (tCB rListD (tCons td tNil)) σ H (kvs.map fun p => T p.1) := fun H1 e Q q => hd H1 e _ fun H2 e2 => ⟨d, DC kvs, rfl, (e.trans e2) _ _ h, fun r hr => q r _ (fresh_back e2 hr) (e2.trans (Ex.new hr)) (by
  rw [upd_same]
  unfold DC
  rw [List.map_map]
  rfl)⟩
end
end Ws
set_option Elab.async false
set_option linter.all false
set_option maxRecDepth 100000
set_option maxHeartbeats 4000000
namespace Ws
open PySem PySem.Spec PyProof.Rows L2 Evl Wc Wt
section
variable {P : Program} {w : World} {A : Around} {E : Value → Shared → Prop} {s : Shared}
/-- the signs of a text, each a text -/
def signsOf (x : Str) : List Str := x.cps.toList.map fun c => ⟨#[c]⟩
theorem call_set_str {x : Str} {t : Tok} {Q : Value → Shared → Prop} (noH : A.handled = none) (room : x.cps.size + 1 < scanBound)
    (fin : ∀ (h2 : Heap) (tk : Nat) (l : List Str), Met (signsOf x) (signsOf x).length l → SetX P w h2 s.heap.objs.size l → (∀ b o, s.heap.get? b = some o → h2.get? b = some o) → Q (.ref s.heap.objs.size) { s with heap := h2, toks := tk }) :
    wpAny (model P w) A (call (.type "set") [.str x t]) Q E s := by
  have lx : (signsOf x).length = x.cps.size := by unfold signsOf; rw [List.length_map, Array.length_toList]
  obtain ⟨c, tl, q0⟩ := PySem.F.called_set.mro
  have q1 := PySem.F.called_set.made; have q2 := PySem.F.called_set.sub
  refine wpAny_call (codeAny_of_tree (wpAny_pure ⟨Code.quiet_builtin _ (by decide +kernel), codeAny_builtin PySem.F.entry_type_call ?_⟩))
  rw [Around.under_plain (weight_type_call_type "set" [.str x t] []) rfl]
  have q3 := PySem.F.called_set.notType; have q4 := PySem.F.called_set.canCreate
  have q5 := PySem.F.typeCall_set_1 (.str x t)
  repeat (any_goals (first | assumption | wp_step))
  refine codeAny_mono (code_set_led1 (.str x t) (E := E) (Q₁ := fun ob t1 => ob = .ref s.heap.objs.size ∧ t1 = { s with heap := s.heap.push (so w) }) ⟨rfl, rfl⟩) fun r t1 hr => ?_
  match r, hr with
  | .error e, hr => exact hr
  | .ok (.ret ob), hr =>
    obtain ⟨rfl, rfl⟩ := hr
    have atS : (s.heap.push (so w)).get? s.heap.objs.size = some (so w) := Heap.get?_push_size _ rfl
    have tyS : Shared.TypeIs { s with heap := s.heap.push (so w) } (.ref s.heap.objs.size) "set" := ⟨_, atS, rfl⟩
    have q6 := PySem.F.called_set.init.lookup
    have q7 := PySem.F.called_set.init.bind (.ref s.heap.objs.size)
    repeat (any_goals (first | assumption | wp_step))
    refine codeAny_mono (codeAny_call_builtin (R := wants (fun r t2 => r = .none ∧ ∃ h2 tk l, t2 = { s with heap := h2, toks := tk } ∧ Met (signsOf x) (signsOf x).length l ∧ SetX P w h2 s.heap.objs.size l ∧ ∀ b o, s.heap.get? b = some o → h2.get? b = some o) E) PySem.F.called_set.init.plain PySem.F.entry_set_init (check_set_init_1 tyS ?_)) fun r2 t2 hr2 => ?_
    · have q8 : isSubtype (.type "str") (.type "set") = pure false := by rw [isSubtype_type]; kernel_rfl
      have q9 : isSubtype (.type "str") (.type "frozenset") = pure false := by rw [isSubtype_type]; kernel_rfl
      have q10 : (Value.type "str" == Value.type "dict") = false := by decide
      unfold Builtin.«set.__init__» noKeywords Builtin.Frozenset.updateFrom
      generalize hI : pyIter = iter
      wp_walk
      subst hI
      refine wpAny_pyIter_str fun o St W hst => ?_
      refine wpAny_bind (wpAny_runValue ?_)
      have no3 : A.in1.in1.in1.handled = none := by simp [noH]
      have zI : (s.heap.push (so w)).objs.size = s.heap.objs.size + 1 := Heap.size_push ..
      have out1 : s.heap.objs.size ∉ [(s.heap.push (so w)).objs.size] := by
        rw [zI]
        intro z
        exact absurd (List.mem_singleton.mp z) (Nat.ne_of_lt (Nat.lt_succ_self _))
      refine fill_texts (P := P) (xs := signsOf x) ((W A.in1.in1.in1 no3).toS) out1 lx room (fun i v hv => ?_) x.cps.size 0 _ [] (by omega) hst ⟨List.nodup_nil, fun x => by simp, Nat.le_refl _⟩ (SetX.new (Heap.get?_push_of_some _ atS)) fun s2 l2 mv m2 X2 => ?_
      · obtain ⟨c, u, h1, h2⟩ := hv
        refine ⟨_, u, ?_, h2⟩
        unfold signsOf
        rw [List.getElem?_map, Array.getElem?_toList, h1]
        rfl
      · obtain ⟨h2, g2, d2, tk2, os2⟩ := s2
        obtain rfl : g2 = s.gens := mv.gens
        obtain rfl : d2 = s.drawn := mv.drawn
        obtain rfl : os2 = s.os := mv.os
        rw [← lx] at m2
        show wpAny _ _ (Bind.bind (pure _) _) _ _ _
        refine wpAny_pure (wpAny_pure ⟨rfl, h2, tk2, l2, rfl, m2, X2, fun b o e => ?_⟩)
        have hb := Heap.lt_size e
        refine mv.heap b o (fun z => ?_) (Heap.get?_push_of_some _ (Heap.get?_push_of_some _ e))
        rw [zI] at z
        rcases List.mem_cons.mp z with z | z
        · exact absurd z (Nat.ne_of_lt hb)
        · exact absurd (List.mem_singleton.mp z) (Nat.ne_of_lt (Nat.lt_succ_of_lt hb))
    · match r2, hr2 with
      | .error e, hr2 => exact hr2
      | .ok (.ret v2), hr2 =>
        obtain ⟨rfl, h2, tk, l, rfl, m, X, k⟩ := hr2
        repeat (any_goals (first | assumption | wp_step))
        exact fin _ _ _ m X k
end
section
variable {X : Cx}
/-- the signs of a text, as texts -/
def sgs (a : Tx) : List Tx := a.map fun c => [c]
theorem signs_S (a : Tx) : signsOf (SX.S a) = (sgs a).map SX.S := by
  unfold signsOf sgs
  rw [List.map_map]
  rfl
def rSetT (P : Program) (w : World) : List V → Hp → VK → Prop := fun vs H Q => ∃ (a : Tx), vs = [T a] ∧ a.length ≤ 4000 ∧ ∀ q ys, Uniq (sgs a) ys → ys.length ≤ a.length → H q = none → Q (.ref q) (upd H q (SetXO P w q (ys.map SX.S)))
theorem cr_setT (hc : X.calm = true) : CallR X (.type "set") (rSetT X.prog X.w) := by
  intro pins s σ H vs us Q I r h
  obtain ⟨a, rfl, hl, q⟩ := h
  obtain ⟨u, ru, rfl⟩ : ∃ u, RelV (T a) u ∧ us = [u] := by
    cases r with
    | cons h1 h2 => cases h2; exact ⟨_, h1, rfl⟩
  obtain ⟨tk0, rfl⟩ := ru
  have hsz : (SX.S a).cps.size = a.length := S_length a
  refine call_set_str (P := X.prog) (I.ok.hd hc) (by rw [hsz]; unfold scanBound; omega) fun h2 tk l m R k => ?_
  rw [signs_S] at m
  obtain ⟨ys, rfl, uq, hly⟩ := uniq_of m
  have hn : H s.heap.objs.size = none := I.hok.fresh (Nat.le_refl _)
  exact ⟨.ref _, upd H s.heap.objs.size (SetXO X.prog X.w s.heap.objs.size (ys.map SX.S)), I.laid (t' := tk) k (Nat.le_refl _) (setXO_new R), rfl, q _ ys uq (by unfold sgs at hly; rw [List.length_map] at hly; exact hly) hn⟩
theorem ksetT {P : Program} {w : World} (hc : X.calm = true := by rfl) (hP : X.prog = P := by rfl) (hw : X.w = w := by rfl) : CallR X (.type "set") (rSetT P w) := by
  subst hP hw
  exact cr_setT hc
/-- text <= text -/
def rLeT' : R2 := fun x y H Q => ∃ a b : Tx, x = T a ∧ y = T b ∧ Q (.bl (!decide (b < a))) H
theorem op_leT' : OpR X (compareOp .LtE) rLeT' := by
  intro pins s σ H x y v u Q I rx ry h
  obtain ⟨a, b, rfl, rfl, q⟩ := h
  exact op_le_str pins s σ H _ _ v u Q I rx ry ⟨_, _, rfl, rfl, q⟩
end
section
variable {K : PySem.W.Frag} {P : Program} {w : World} {σ : L2.St} {H : Hp} {te : TE} {a b : Tx}
theorem rv_leT' : RV rLeT' (T a) (T b) H (.bl (!decide (b < a))) := fun H1 _ Q q => ⟨a, b, rfl, rfl, q H1 (Ex.refl _)⟩
/-- sorted(set(text)) -/
theorem el_sortSetT (h : Ev te σ H (T a)) (hl : a.length ≤ 4000) : EvL (tCB (rSortX K P w) (tCons (tCB (rSetT P w) (tCons te tNil)) tNil)) σ H ((setS (sgs a)).map T) := fun H1 e1 Q k =>
  h H1 e1 _ fun H2 e2 => ⟨a, rfl, hl, fun q ys uq hly hq => .inr ⟨q, ys, rfl, upd_same, fun zs r pz hr => by
    have e3 : Ex H2 (upd H2 q (SetXO P w q (ys.map SX.S))) := Ex.new hq
    have hs : sortT zs = setS (sgs a) := by
      rw [sortT_of_perm pz]
      exact sortT_same uq.nd (setX_nodup _) fun x => by rw [uq.mem x, mem_setX]
    refine k r _ (fresh_back (e2.trans e3) hr) ((e2.trans e3).trans (Ex.new hr)) ?_
    rw [upd_same, hs]⟩⟩
end
end Ws
set_option Elab.async false
set_option linter.all false
set_option maxRecDepth 100000
set_option maxHeartbeats 2000000
/-! repr of any plain data -/
namespace Wd
open PySem PySem.Spec PyProof.Rows L2 Evl Wc Wt Wg
section
variable {X : Cx}
def rReprD (K : PySem.W.Frag) : List V → Hp → VK → Prop := fun xs H Q => ∃ (v : V) (d : PyData), xs = [v] ∧ Dp K H v d ∧ d.showable = true ∧ d.hasDict = false ∧ d.depth ≤ 50 ∧ d.shown.length ≤ sizeLine ∧ Q (T d.shown.cps.toList) H
theorem cr_reprD (hgd : X.A.guards = some []) (hu : X.A.units + 64 < cLine) : CallR X (.builtin "repr") (rReprD X.K) := by
  intro pins s σ H xs us Q I r h
  obtain ⟨v, d, rfl, hd, h1, h2, h3, h4, q⟩ := h
  obtain ⟨u, rfl, rv⟩ := vals1 r
  have fin : ∀ (tk : Nat) (t : Tok), EP X pins σ Q (.str d.shown t) { s with toks := tk } := fun tk t => ⟨T d.shown.cps.toList, H, I.tok _, ⟨t, congrArg (fun z => Value.str z t) (SX.S_tl d.shown).symm⟩, q⟩
  cases hd with
  | non =>
    obtain rfl : u = Value.none := rv
    exact PySem.P.repr_of_none (fin _ _)
  | bl b =>
    obtain rfl : u = Value.bool b := rv
    exact PySem.P.repr_of_bool (fin _ _)
  | int i =>
    obtain ⟨t, rfl⟩ := (show ∃ t, u = Value.int i t from rv)
    exact PySem.P.repr_of_int (of_decide_eq_true h1) (fin _ _)
  | str x =>
    obtain ⟨t, rfl⟩ := (show ∃ t, u = Value.str x t from rv)
    exact PySem.P.repr_of_str (fin _ _) h4
  | lst ha hs =>
    obtain ⟨as, rd⟩ := Dp.reads I _ _ _ (.lst ha hs) rv
    obtain rfl : u = Value.ref _ := rv
    refine repr_of_reads' rd h1 (fun z => by rw [h2] at z; cases z) hgd (by omega) (fun b o e => e) (fun h' u tk hk => ?_) h4
    exact ⟨T _, H, I.kept (t' := tk) hk, ⟨u, congrArg (fun z => Value.str z u) (SX.S_tl _).symm⟩, q⟩
  | tup ha hs =>
    obtain ⟨as, rd⟩ := Dp.reads I _ _ _ (.tup ha hs) rv
    obtain rfl : u = Value.ref _ := rv
    refine repr_of_reads' rd h1 (fun z => by rw [h2] at z; cases z) hgd (by omega) (fun b o e => e) (fun h' u tk hk => ?_) h4
    exact ⟨T _, H, I.kept (t' := tk) hk, ⟨u, congrArg (fun z => Value.str z u) (SX.S_tl _).symm⟩, q⟩
end
theorem rc_reprD {K : PySem.W.Frag} {H : Hp} {v : V} {d : PyData} (h : ∀ H1, Ex H H1 → Dp K H1 v d) (h1 : d.showable = true) (h2 : d.hasDict = false) (h3 : d.depth ≤ 50) (h4 : d.shown.length ≤ sizeLine) : RC (rReprD K) [v] H (T d.shown.cps.toList) := fun H1 e Q q => ⟨v, d, rfl, h H1 e, h1, h2, h3, h4, q H1 (Ex.refl _)⟩
end Wd
set_option Elab.async false
set_option linter.all false
set_option maxRecDepth 100000
set_option maxHeartbeats 4000000
namespace We
open PySem PySem.Spec PyProof.Rows L2 Evl Wc Wt Wg _root_.Wd
/-! ### small data, and readings that give it -/
structure Sd (k n : Nat) (d : PyData) : Prop where
  sh : d.showable = true
  nd : d.hasDict = false
  dp : d.depth ≤ k
  ln : d.shown.length ≤ n
theorem sd_all {k n : Nat} : ∀ {ds : List PyData}, (∀ d ∈ ds, Sd k n d) → PyData.showableAll ds = true ∧ PyData.hasDictAll ds = false ∧ PyData.depthAll ds ≤ k ∧ ((PyData.shownAll ds).map (·.length)).sum ≤ ds.length * n ∧ (PyData.shownAll ds).length = ds.length
  | [], _ => ⟨rfl, rfl, Nat.zero_le _, Nat.zero_le _, rfl⟩
  | d :: ds, h => by
    obtain ⟨h1, h2, h3, h4, h5⟩ := sd_all (ds := ds) (fun e he => h e (List.mem_cons_of_mem _ he))
    have g := h d List.mem_cons_self
    refine ⟨?_, ?_, ?_, ?_, ?_⟩
    · rw [PyData.showableAll, g.sh, h1]; rfl
    · rw [PyData.hasDictAll, g.nd, h2]; rfl
    · rw [PyData.depthAll]; exact Nat.max_le.mpr ⟨g.dp, h3⟩
    · rw [PyData.shownAll, List.map_cons, List.sum_cons, List.length_cons, Nat.succ_mul]
      have := g.ln
      omega
    · rw [PyData.shownAll, List.length_cons, List.length_cons, h5]
theorem sd_list {k n : Nat} {ds : List PyData} (h : ∀ d ∈ ds, Sd k n d) (hl : ds.length ≤ 12) : Sd (k + 1) (12 * n + 100) (.list ds) := by
  obtain ⟨h1, h2, h3, h4, h5⟩ := sd_all h
  have h6 : ds.length * n ≤ 12 * n := Nat.mul_le_mul hl (Nat.le_refl _)
  refine ⟨?_, ?_, ?_, ?_⟩
  · rw [PyData.showable]; exact h1
  · rw [PyData.hasDict]; exact h2
  · rw [PyData.depth]; omega
  · rw [PyData.shown]
    refine Nat.le_trans (PySem.listText_len_le _) ?_
    rw [h5]
    omega
theorem sd_tup {k n : Nat} {ds : List PyData} (h : ∀ d ∈ ds, Sd k n d) (hl : ds.length ≤ 12) : Sd (k + 1) (12 * n + 100) (.tuple ds) := by
  obtain ⟨h1, h2, h3, h4, h5⟩ := sd_all h
  have h6 : ds.length * n ≤ 12 * n := Nat.mul_le_mul hl (Nat.le_refl _)
  refine ⟨?_, ?_, ?_, ?_⟩
  · rw [PyData.showable]; exact h1
  · rw [PyData.hasDict]; exact h2
  · rw [PyData.depth]; omega
  · rw [PyData.shown]
    refine Nat.le_trans (PySem.tupleText_len_le _) ?_
    rw [h5]
    omega
theorem Sd.up {k n k' n' : Nat} {d : PyData} (h : Sd k n d) (hk : k ≤ k' := by omega) (hn : n ≤ n' := by omega) : Sd k' n' d := ⟨h.sh, h.nd, Nat.le_trans h.dp hk, Nat.le_trans h.ln hn⟩
theorem sd_list1 {k n : Nat} {d : PyData} (h : Sd k n d) : Sd (k + 1) (12 * n + 100) (.list [d]) := sd_list (fun e he => by rw [List.mem_singleton.mp he]; exact h) (by show 1 ≤ 12; decide)
theorem sd_list2 {k n : Nat} {d e : PyData} (h : Sd k n d) (h' : Sd k n e) : Sd (k + 1) (12 * n + 100) (.list [d, e]) := sd_list (fun x hx => by
  simp only [List.mem_cons, List.not_mem_nil, or_false] at hx
  rcases hx with rfl | rfl
  · exact h
  · exact h') (by show 2 ≤ 12; decide)
theorem sd_tup2 {k n : Nat} {d e : PyData} (h : Sd k n d) (h' : Sd k n e) : Sd (k + 1) (12 * n + 100) (.tuple [d, e]) := sd_tup (fun x hx => by
  simp only [List.mem_cons, List.not_mem_nil, or_false] at hx
  rcases hx with rfl | rfl
  · exact h
  · exact h') (by show 2 ≤ 12; decide)
/-- a number of at most 100 digits -/
theorem sd_big {n : Nat} (h : n < 10 ^ 100) : Sd 0 100 (.int (n : Int)) := by
  refine ⟨?_, rfl, Nat.zero_le _, ?_⟩
  · have h2 : n < 2 ^ 1920 := Nat.lt_trans h (by decide +kernel)
    rw [PyData.showable]
    refine decide_eq_true ?_
    show n.log2 < 1920
    rcases Nat.eq_zero_or_pos n with rfl | hp
    · decide
    · exact (Nat.log2_lt (by omega)).mpr h2
  · exact PyProof.Rows.toString_length_le (by omega) (by decide) (by exact_mod_cast h)
theorem sd_none : Sd 0 20 .none := ⟨rfl, rfl, Nat.zero_le _, by decide +kernel⟩
section
variable {K : PySem.W.Frag} {σ : L2.St} {H H1 : Hp} {te ta tb tc : TE} {tq : TA} {D : Ends} {tz : TS} {v : V} {xs : List V} {Q : VK} {R : List V → Hp → Prop} {d d1 d2 d3 e : PyData}
/-- a reading gives a thing with the data d -/
def EvD (K : PySem.W.Frag) (te : TE) (σ : L2.St) (H : Hp) (d : PyData) : Prop := ∀ H1, Ex H H1 → ∀ Q : VK, (∀ v H2, Ex H1 H2 → (∀ H3, Ex H2 H3 → Dp K H3 v d) → Q v H2) → te σ H1 Q
theorem EvD.ex (h : EvD K te σ H d) (e : Ex H H1) : EvD K te σ H1 d := fun H2 e2 => h H2 (e.trans e2)
theorem evd_ev (h : Ev te σ H v) (hd : ∀ H3, Ex H H3 → Dp K H3 v d) : EvD K te σ H d := fun H1 e Q q => h H1 e Q fun H2 e2 => q v H2 e2 fun H3 e3 => hd H3 ((e.trans e2).trans e3)
/-- a new tuple of things | a new list of things, all flat -/
theorem evd_tup {xs : List V} {ds : List PyData} (h : EvU te σ H xs) (hd : ∀ H3, Ex H H3 → DpAll K H3 xs ds) : EvD K te σ H (.tuple ds) := fun H1 e Q q => h H1 e Q fun p H2 hp e2 h2 => q _ H2 e2 fun H3 e3 => .tup (st_of (e3 _ _ h2)) (hd H3 ((e.trans e2).trans e3))
theorem evd_lst {xs : List V} {ds : List PyData} (h : EvL te σ H xs) (hd : ∀ H3, Ex H H3 → DpAll K H3 xs ds) : EvD K te σ H (.list ds) := fun H1 e Q q => h H1 e Q fun p H2 hp e2 h2 => q _ H2 e2 fun H3 e3 => .lst (sq_of (e3 _ _ h2)) (hd H3 ((e.trans e2).trans e3))
/-- displays -/
theorem evd_tup2 (h1 : EvD K ta σ H d1) (h2 : EvD K tb σ H d2) : EvD K (tTup (tCons ta (tCons tb tNil))) σ H (.tuple [d1, d2]) := fun H1 e Q q => h1 H1 e _ fun x H2 e2 x2 => h2 H2 (e.trans e2) _ fun y H3 e3 y3 => ⟨by show 2 ≤ sizeLine; decide, fun p hp => q _ _ ((e2.trans e3).trans (Ex.new hp)) fun H4 e4 => .tup (st_of (e4 _ _ upd_same)) (.cons (x2 H4 ((e3.trans (Ex.new hp)).trans e4)) (.cons (y3 H4 ((Ex.new hp).trans e4)) .nil))⟩
theorem evd_lst1 (h1 : EvD K ta σ H d1) : EvD K (tLst (tCons ta tNil)) σ H (.list [d1]) := fun H1 e Q q => h1 H1 e _ fun x H2 e2 x2 => ⟨by show 1 ≤ sizeLine; decide, fun p hp => q _ _ (e2.trans (Ex.new hp)) fun H4 e4 => .lst (sq_of (e4 _ _ upd_same)) (.cons (x2 H4 ((Ex.new hp).trans e4)) .nil)⟩
theorem evd_lst2 (h1 : EvD K ta σ H d1) (h2 : EvD K tb σ H d2) : EvD K (tLst (tCons ta (tCons tb tNil))) σ H (.list [d1, d2]) := fun H1 e Q q => h1 H1 e _ fun x H2 e2 x2 => h2 H2 (e.trans e2) _ fun y H3 e3 y3 => ⟨by show 2 ≤ sizeLine; decide, fun p hp => q _ _ ((e2.trans e3).trans (Ex.new hp)) fun H4 e4 => .lst (sq_of (e4 _ _ upd_same)) (.cons (x2 H4 ((e3.trans (Ex.new hp)).trans e4)) (.cons (y3 H4 ((Ex.new hp).trans e4)) .nil))⟩
theorem evd_lst3 (h1 : EvD K ta σ H d1) (h2 : EvD K tb σ H d2) (h3 : EvD K tc σ H d3) : EvD K (tLst (tCons ta (tCons tb (tCons tc tNil)))) σ H (.list [d1, d2, d3]) := fun H1 e Q q => h1 H1 e _ fun x H2 e2 x2 => h2 H2 (e.trans e2) _ fun y H3 e3 y3 => h3 H3 ((e.trans e2).trans e3) _ fun z H4 e4 z4 => ⟨by show 3 ≤ sizeLine; decide, fun p hp => q _ _ (((e2.trans e3).trans e4).trans (Ex.new hp)) fun H5 e5 => .lst (sq_of (e5 _ _ upd_same)) (.cons (x2 H5 (((e3.trans e4).trans (Ex.new hp)).trans e5)) (.cons (y3 H5 ((e4.trans (Ex.new hp)).trans e5)) (.cons (z4 H5 ((Ex.new hp).trans e5)) .nil)))⟩
/-- displays of any length -/
def EvDs (K : PySem.W.Frag) (tq : TA) (σ : L2.St) (H : Hp) (ds : List PyData) : Prop := ∀ H1, Ex H H1 → ∀ Q : List V → Hp → Prop, (∀ vs H2, Ex H1 H2 → (∀ H3, Ex H2 H3 → DpAll K H3 vs ds) → vs.length = ds.length → Q vs H2) → tq σ H1 Q
theorem evds_nil : EvDs K tNil σ H [] := fun H1 _ Q q => q [] H1 (Ex.refl _) (fun _ _ => .nil) rfl
theorem evds_cons {ds : List PyData} (h : EvD K ta σ H d) (hr : EvDs K tq σ H ds) : EvDs K (tCons ta tq) σ H (d :: ds) := fun H1 e Q q => h H1 e _ fun x H2 e2 x2 => hr H2 (e.trans e2) _ fun vs H3 e3 h3 hl => q _ H3 (e2.trans e3) (fun H4 e4 => .cons (x2 H4 (e3.trans e4)) (h3 H4 e4)) (by rw [List.length_cons, List.length_cons, hl])
theorem evd_tupN {ds : List PyData} (h : EvDs K tq σ H ds) (hl : ds.length ≤ 100000) : EvD K (tTup tq) σ H (.tuple ds) := fun H1 e Q q => h H1 e _ fun vs H2 e2 h2 hz => ⟨by rw [hz]; exact sz_of hl, fun p hp => q _ _ (e2.trans (Ex.new hp)) fun H3 e3 => .tup (st_of (e3 _ _ upd_same)) (h2 H3 ((Ex.new hp).trans e3))⟩
theorem evd_lstN {ds : List PyData} (h : EvDs K tq σ H ds) (hl : ds.length ≤ 100000) : EvD K (tLst tq) σ H (.list ds) := fun H1 e Q q => h H1 e _ fun vs H2 e2 h2 hz => ⟨by rw [hz]; exact sz_of hl, fun p hp => q _ _ (e2.trans (Ex.new hp)) fun H3 e3 => .lst (sq_of (e3 _ _ upd_same)) (h2 H3 ((Ex.new hp).trans e3))⟩
theorem evd_c (h : ∀ H3, Dp K H3 v d) : EvD K (tC v) σ H d := evd_ev ev_c fun H3 _ => h H3
theorem evd_var {i : Nat} (h0 : σ[i]? = some (some v)) (h : ∀ H3, Ex H H3 → Dp K H3 v d) : EvD K (tVar i) σ H d := evd_ev (ev_var h0) h
/-- repr(x) != repr(y), of like data -/
theorem et_reprNe {k n : Nat} (hs : Sd k n d) (hk : k ≤ 50) (hn : n ≤ 10000000) (ha : EvD K ta σ H d) (hb : EvD K tb σ H d) : EvT (tTest (tOp rNeT (tCB (rReprD K) (tCons ta tNil)) (tCB (rReprD K) (tCons tb tNil)))) σ H false := by
  have r : ∀ {te : TE}, EvD K te σ H d → Ev (tCB (rReprD K) (tCons te tNil)) σ H (T d.shown.cps.toList) := fun h H1 e Q q => h H1 e _ fun v H2 e2 hv => rc_reprD hv hs.sh hs.nd (Nat.le_trans hs.dp hk) (by have := hs.ln; rw [sizeLine_eq]; omega) H2 (Ex.refl _) Q fun H3 e3 => q H3 (e2.trans e3)
  refine et_is (et_test (ev_op (r ha) (r hb) rv_neT)) ?_
  rw [decide_eq_true rfl]
  rfl
/-! things one by one -/
theorem a_c (k : tq σ H fun vs H1 => R (v :: vs) H1) : tCons (tC v) tq σ H R := k
theorem a_ev (h : Ev te σ H v) (k : ∀ H1, Ex H H1 → tq σ H1 fun vs H2 => R (v :: vs) H2) : tCons te tq σ H R := h H (Ex.refl _) _ k
theorem a_el (h : EvL te σ H xs) (k : ∀ p H1, H p = none → Ex H H1 → H1 p = some (.lst xs) → tq σ H1 fun vs H2 => R (.ref p :: vs) H2) : tCons te tq σ H R := h H (Ex.refl _) _ k
theorem a_eu (h : EvU te σ H xs) (k : ∀ p H1, H p = none → Ex H H1 → H1 p = some (.tup xs) → tq σ H1 fun vs H2 => R (.ref p :: vs) H2) : tCons te tq σ H R := h H (Ex.refl _) _ k
theorem a_any (h : te σ H fun v H1 => tq σ H1 fun vs H2 => R (v :: vs) H2) : tCons te tq σ H R := h
theorem a_nil (k : R [] H) : tNil σ H R := k
theorem l_lst {ta : TA} (k : ta σ H fun vs H1 => vs.length ≤ sizeLine ∧ ∀ p, H1 p = none → Q (.ref p) (upd H1 p (.lst vs))) : tLst ta σ H Q := k
theorem l_tup {ta : TA} (k : ta σ H fun vs H1 => vs.length ≤ sizeLine ∧ ∀ p, H1 p = none → Q (.ref p) (upd H1 p (.tup vs))) : tTup ta σ H Q := k
theorem l_call {sp : Sp} {ta : TA} {E : XK} (k : ta σ H fun vs H1 => sp (vs ++ []) H1 Q E) : tCall sp [] E ta σ H Q := k
theorem q_asgD {i : Nat} (h : EvD K te σ H d) (k : ∀ v H1, Ex H H1 → (∀ H3, Ex H1 H3 → Dp K H3 v d) → tz D (σ.set i (some v)) H1) : tSeq (tAsg te (gName i)) tz D σ H := h H (Ex.refl _) _ k
theorem q_asgA {i : Nat} (k : te σ H fun v H1 => tz D (σ.set i (some v)) H1) : tSeq (tAsg te (gName i)) tz D σ H := k
theorem ev_eqDB {b : Bool} (ha : EvD K ta σ H d) (hb : EvD K tb σ H e) (s1 : SeqAt.shaped d = true) (s2 : SeqAt.shaped e = true) (he : PyData.eqv d e = b) : Ev (tOp (rEqD K) ta tb) σ H (.bl b) := fun H1 e1 Q q => ha H1 e1 _ fun x H2 e2 hx => hb H2 (e1.trans e2) _ fun y H3 e3 hy => rv_eqD (d := d) (e := e) (b := b) (fun H4 e4 => hx H4 (e3.trans e4)) (fun H4 e4 => hy H4 e4) s1 s2 he H3 (Ex.refl _) Q fun H4 e4 => q H4 ((e2.trans e3).trans e4)
theorem ev_neDB {b : Bool} (ha : EvD K ta σ H d) (hb : EvD K tb σ H e) (s1 : SeqAt.shaped d = true) (s2 : SeqAt.shaped e = true) (he : PyData.eqv d e = b) : Ev (tOp (rNeD K) ta tb) σ H (.bl (!b)) := fun H1 e1 Q q => ha H1 e1 _ fun x H2 e2 hx => hb H2 (e1.trans e2) _ fun y H3 e3 hy => rv_neD (d := d) (e := e) (b := b) (fun H4 e4 => hx H4 (e3.trans e4)) (fun H4 e4 => hy H4 e4) s1 s2 he H3 (Ex.refl _) Q fun H4 e4 => q H4 ((e2.trans e3).trans e4)
/-- zip of a new list and a standing one -/
theorem src_zipN {b : Addr} {xs ys : List V} {n : Nat} {tl tr : TE} (h : EvL tl σ H xs) (h2 : Ev tr σ H (.ref b)) (hs2 : SqL K H b ys) (hn : n = min xs.length ys.length) :
    Src (iZip K (tCons tl (tCons tr tNil))) σ H n (fun c => c = b) (fun i v Hb => ∃ p x y, v = .ref p ∧ xs[i]? = some x ∧ ys[i]? = some y ∧ Hb p = some (.tup [x, y])) := fun H1 e R q =>
  h H1 e _ fun a H2 ha e2 ha2 => h2 H2 (e.trans e2) _ fun H3 e3 => ⟨a, b, xs, ys, rfl, sq_of (e3 _ _ ha2), ex_l ((e.trans e2).trans e3) hs2, q _ H3 _ (e2.trans e3) ((walk_zip hn).mono (fun _ z => z) fun i Ha v Hb _ _ hy => by
    obtain ⟨p, x, y, rfl, hf, rfl, h1, h2⟩ := hy
    exact ⟨Ex.new hf, p, x, y, rfl, h1, h2, upd_same⟩) fun B Ha hB ea => ⟨ea.l (fun z => (hB a z).1 (fresh_back e ha)) (sq_of (e3 _ _ ha2)), ea.l (fun z => (hB b z).2 rfl) (ex_l ((e.trans e2).trans e3) hs2)⟩⟩
theorem op_neB {X : Cx} : OpR X (compareOp .NotEq) (rB0 fun i j => !decide (i = j)) := by
  intro pins s σ H x y v u Q I rx ry h
  obtain ⟨i, j, rfl, rfl, q⟩ := h
  refine op_ne pins s σ H _ _ v u Q I rx ry ⟨rfl, ?_⟩
  rw [Wc.dec_bl]
  exact q
/-! tuples that may be old ones -/
section
variable {K : PySem.W.Frag} {σ : L2.St} {H : Hp} {ta tb te : TE} {xs ys : List V}
def EvW (te : TE) (σ : L2.St) (H : Hp) (xs : List V) : Prop := ∀ H1, Ex H H1 → ∀ Q : VK, (∀ p H2, Ex H1 H2 → H2 p = some (.tup xs) → Q (.ref p) H2) → te σ H1 Q
theorem EvW.ex {H1 : Hp} (h : EvW te σ H xs) (e : Ex H H1) : EvW te σ H1 xs := fun H2 e2 => h H2 (e.trans e2)
theorem ew_of (h : EvU te σ H xs) : EvW te σ H xs := fun H1 e Q q => h H1 e Q fun p H2 _ e2 h2 => q p H2 e2 h2
theorem ew_ev {p : Addr} (h : Ev te σ H (.ref p)) (hp : H p = some (.tup xs)) : EvW te σ H xs := fun H1 e Q q => h H1 e Q fun H2 e2 => q p H2 e2 (e2 _ _ (e _ _ hp))
theorem ew_sl {tl th : TO} {lo hi : Option Int} (h : EvW te σ H xs) (h1 : ∀ H1, Ex H H1 → EvO tl σ H1 lo) (h2 : ∀ H1, Ex H H1 → EvO th σ H1 hi) : EvW (tSl (rSlA K) te tl th) σ H (cutV xs lo hi) := fun H1 e Q q =>
  h H1 e _ fun p H2 e2 g => h1 H2 (e.trans e2) H2 (Ex.refl _) _ fun H3 e3 => h2 H3 ((e.trans e2).trans e3) H3 (Ex.refl _) _ fun H4 e4 => ⟨p, xs, rfl, st_of ((e3.trans e4) _ _ g), fun z => by
    have hc : cutV xs lo hi = xs := by
      unfold cutV
      rw [z.1, z.2]
      simp
    rw [hc] at q
    exact q p H4 ((e2.trans e3).trans e4) ((e3.trans e4) _ _ g), fun _ r hr => q r _ (((e2.trans e3).trans e4).trans (Ex.new hr)) upd_same⟩
theorem ew_cat (h1 : EvW ta σ H xs) (h2 : ∀ H1, Ex H H1 → EvW tb σ H1 ys) (hl : xs.length + ys.length ≤ 100000) : EvW (tOp (rCatA K) ta tb) σ H (xs ++ ys) := fun H1 e Q q =>
  h1 H1 e _ fun p H2 e2 g => h2 H2 (e.trans e2) H2 (Ex.refl _) _ fun r H3 e3 g3 => ⟨p, r, xs, ys, rfl, rfl, st_of (e3 _ _ g), st_of g3, sz_of hl, fun z => by
    rw [z, List.nil_append] at q
    exact q r H3 (e2.trans e3) g3, fun _ z => by
    rw [z, List.append_nil] at q
    exact q p H3 (e2.trans e3) (e3 _ _ g), fun _ _ s hs => q s _ ((e2.trans e3).trans (Ex.new hs)) upd_same⟩
theorem evd_w {ds : List PyData} (h : EvW te σ H xs) (hd : ∀ H3, Ex H H3 → DpAll K H3 xs ds) : EvD K te σ H (.tuple ds) := fun H1 e Q q => h H1 e Q fun p H2 e2 h2 => q _ H2 e2 fun H3 e3 => .tup (st_of (e3 _ _ h2)) (hd H3 ((e.trans e2).trans e3))
/-- tuples in a row -/
abbrev Tups (H : Hp) (ps : List Addr) (os : List (List V)) : Prop := All2 (fun b o => H b = some (HO.tup o)) ps os
theorem Tups.ex {H1 : Hp} {ps : List Addr} {os : List (List V)} (h : Tups H ps os) (e : Ex H H1) : Tups H1 ps os := All2.mono h fun _ _ z => e _ _ z
def EvWs (tq : TA) (σ : L2.St) (H : Hp) (os : List (List V)) : Prop := ∀ H1, Ex H H1 → ∀ Q : List V → Hp → Prop, (∀ ps H2, Ex H1 H2 → Tups H2 ps os → Q (ps.map V.ref) H2) → tq σ H1 Q
theorem ews_nil : EvWs tNil σ H [] := fun H1 _ Q q => q [] H1 (Ex.refl _) .nil
theorem ews_cons {tq : TA} {os : List (List V)} (h : EvW te σ H xs) (hr : ∀ H1, Ex H H1 → EvWs tq σ H1 os) : EvWs (tCons te tq) σ H (xs :: os) := fun H1 e Q q => h H1 e _ fun p H2 e2 h2 => hr H2 (e.trans e2) H2 (Ex.refl _) _ fun ps H3 e3 h3 => q (p :: ps) H3 (e2.trans e3) (.cons (e3 _ _ h2) h3)
/-- x = [.., ..] of tuples -/
theorem q_asgW {D : Ends} {tz : TS} {tq : TA} {i : Nat} {os : List (List V)} (h : EvWs tq σ H os) (hl : os.length ≤ 100000) (k : ∀ q ps H1, H q = none → Ex H H1 → H1 q = some (.lst (ps.map V.ref)) → Tups H1 ps os → tz D (σ.set i (some (.ref q))) H1) : tSeq (tAsg (tLst tq) (gName i)) tz D σ H :=
  h H (Ex.refl _) _ fun ps H2 e2 h2 => ⟨by rw [List.length_map, All2.len h2]; exact sz_of hl, fun q hq => k q ps _ (fresh_back e2 hq) (e2.trans (Ex.new hq)) upd_same (Tups.ex h2 (Ex.new hq))⟩
theorem dp_tups {ps : List Addr} {α : Type} {o : α → List V} {ds : α → List PyData} (hd : ∀ a, DpAll K H (o a) (ds a)) : ∀ {ps : List Addr} {as : List α}, Tups H ps (as.map o) → DpAll K H (ps.map V.ref) (as.map fun a => .tuple (ds a))
  | [], [], _ => .nil
  | p :: ps, a :: as, .cons h r => .cons (.tup (st_of h) (hd a)) (dp_tups (ps := ps) hd r)
theorem src_newU {tl : TE} (h : EvU tl σ H xs) : Src (iTup K tl) σ H xs.length (fun _ => False) (fun i v _ => xs[i]? = some v) := fun H1 e R q =>
  h H1 e _ fun a H2 ha e2 h2 => ⟨a, rfl, ⟨xs, st_of h2⟩, q _ H2 _ e2 (walk_tup.mono (fun _ z => z) fun i Ha v Hb _ _ hy => by
    obtain ⟨rfl, hy⟩ := hy
    exact ⟨Ex.refl _, hy⟩) fun B Ha hB ea => ea.tp (fun z => (hB a z).1 (fresh_back e ha)) (st_of h2)⟩
/-- a comprehension whose items are tuples -/
theorem lcT {H0 : Hp} (e0 : Ex H0 H) {α : Type} {wi : TI} {g : TG} {t : TT} {vs : List Nat} {n : Nat} {own : Addr → Prop} {P : Nat → V → Hp → Prop} {Q : VK} {p : α → Bool} (xs : List α) (st : α → L2.St) (o : α → List V) (R : α → V → Hp → Prop) (hs : Src wi σ H0 n own P) (hn : n ≤ 40000) (hx : xs.length = n)
    (hP : ∀ i x H1, Ex H H1 → P i x H1 → ∃ a, xs[i]? = some a ∧ R a x H1) (hg : ∀ a x H1 (Q' : L2.St → Hp → Prop), R a x H1 → Q' (st a) H1 → g x (wipe σ vs) H1 Q') (hw : ∀ a, wipe (st a) vs = wipe σ vs)
    (ht : ∀ a H1, Ex H H1 → a ∈ xs → EvT t (st a) H1 (p a)) (he : ∀ a H1, Ex H H1 → a ∈ xs → p a = true → EvW te (st a) H1 (o a))
    (k : ∀ q H2 ps, H q = none → Ex H H2 → H2 q = some (.lst (ps.map V.ref)) → Tups H2 ps ((xs.filter p).map o) → Q (.ref q) H2) : tLc wi g t te vs σ H Q :=
  hs H e0 _ fun J H1 S e1 w hS => fun Dl hD => by
    have hDH : H Dl = none := fresh_back e1 hD
    have ftk : ∀ {i a}, xs[i]? = some a → ((xs.take (i + 1)).filter p).map o = ((xs.take i).filter p).map o ++ if p a = true then [o a] else [] := fun {i a} ha => by
      rw [List.take_add_one, ha, List.filter_append, List.map_append]
      congr 1
      cases z : p a with
      | true => simp [z]
      | false => simp [z]
    refine lc_it w (Qd := fun H3 => Q (.ref Dl) H3) (fun i Hi => Ex H1 Hi ∧ ∃ ps : List Addr, Hi Dl = some (.lst (ps.map V.ref)) ∧ ps.length ≤ i ∧ Tups Hi ps (((xs.take i).filter p).map o)) ?_ (fun i Hi hi p => hS (fun _ => False) Hi (fun b z => z.elim) (.of p.1)) ?_ ?_
    · exact ⟨Ex.new hD, [], upd_same, Nat.le_refl _, .nil⟩
    · rintro i x Ha Hb hi ⟨R1, ps, h1, h2, h3⟩ ⟨ey, hPi⟩
      have eB : Ex H Hb := e1.trans (R1.trans ey)
      obtain ⟨a, ha, hr⟩ := hP i x Hb eB hPi
      have hm := List.mem_of_getElem? ha
      refine hg a x Hb _ hr ⟨hw a, ht a Hb eB hm Hb (Ex.refl _) _ fun H3 e3 => ?_⟩
      have hft := ftk ha
      have up : ∀ {H4 : Hp}, Ex H3 H4 → ∀ {b : Addr} {u : List V}, Ha b = some (.tup u) → ∀ l, (upd H4 Dl (.lst l)) b = some (.tup u) := fun {H4} e4 {b u} hb l => by
        have : b ≠ Dl := fun z => by rw [z, h1] at hb; cases hb
        rw [upd_ne this]
        exact e4 _ _ (e3 _ _ (ey _ _ hb))
      cases hp : p a with
      | true =>
        rw [hp, if_pos rfl] at hft
        show te (st a) H3 fun y H4 => ∃ acc, H4 Dl = some (.lst acc) ∧ acc.length < sizeLine ∧ _
        refine he a H3 (eB.trans e3) hm hp H3 (Ex.refl _) _ fun q H4 e4 h4 => ?_
        have hDl4 : H4 Dl = some (.lst (ps.map V.ref)) := e4 _ _ (e3 _ _ (ey _ _ h1))
        have nqD : q ≠ Dl := fun z => by rw [z, hDl4] at h4; cases h4
        have eM : Ex H1 (upd H4 Dl (.lst (ps.map V.ref ++ [.ref q]))) := Ex.mut (((R1.trans ey).trans e3).trans e4) hD
        refine ⟨ps.map V.ref, hDl4, sz_lt (by rw [List.length_map]; omega), eM, ps ++ [q], by rw [upd_same, List.map_append]; rfl, by rw [List.length_append, List.length_singleton]; omega, ?_⟩
        rw [hft]
        exact All2.push (All2.mono h3 fun b u r => up e4 r _) (by rw [upd_ne nqD]; exact h4)
      | false =>
        rw [hp, if_neg Bool.false_ne_true, List.append_nil] at hft
        show Ex H1 H3 ∧ _
        refine ⟨(R1.trans ey).trans e3, ps, e3 _ _ (ey _ _ h1), by omega, ?_⟩
        rw [hft]
        exact All2.mono h3 fun b u r => e3 _ _ (ey _ _ r)
    · rintro H3 ⟨R1, ps, h1, h2, h3⟩
      rw [← hx, List.take_length] at h3
      exact k Dl H3 ps hDH (e1.trans R1) h1 h3
theorem evd_lcT {α : Type} {wi : TI} {g : TG} {t : TT} {vs : List Nat} {n : Nat} {own : Addr → Prop} {P : Nat → V → Hp → Prop} {p : α → Bool} (xs : List α) (st : α → L2.St) (o : α → List V) (ds : α → List PyData) (R : α → V → Hp → Prop) (hs : Src wi σ H n own P) (hn : n ≤ 40000) (hx : xs.length = n)
    (hP : ∀ i x H1, Ex H H1 → P i x H1 → ∃ a, xs[i]? = some a ∧ R a x H1) (hg : ∀ a x H1 (Q' : L2.St → Hp → Prop), R a x H1 → Q' (st a) H1 → g x (wipe σ vs) H1 Q') (hw : ∀ a, wipe (st a) vs = wipe σ vs)
    (ht : ∀ a H1, Ex H H1 → a ∈ xs → EvT t (st a) H1 (p a)) (he : ∀ a H1, Ex H H1 → a ∈ xs → p a = true → EvW te (st a) H1 (o a)) (hd : ∀ a H, DpAll K H (o a) (ds a)) : EvD K (tLc wi g t te vs) σ H (.list ((xs.filter p).map fun a => .tuple (ds a))) := fun H1 e Q q =>
  lcT e xs st o R hs hn hx (fun i x H2 e2 => hP i x H2 (e.trans e2)) hg hw (fun a H2 e2 => ht a H2 (e.trans e2)) (fun a H2 e2 => he a H2 (e.trans e2)) fun r H2 ps hr e2 h2 h3 => q _ H2 e2 fun H3 e3 => .lst (sq_of (e3 _ _ h2)) (dp_tups (ps := ps) (fun a => hd a H3) (Tups.ex h3 e3))
end
end
end We
set_option Elab.async false
set_option linter.all false
set_option maxRecDepth 100000
set_option maxHeartbeats 4000000
namespace We
open PySem PySem.Spec PyProof.Rows L2 Evl Wc Wt Wg _root_.Wd
/-- four named values, the last one first -/
def sw4 {α : Type} : List α → List α → List α
  | [], [a, b, c, d] => [d, c, b, a]
  | _, _ => []
theorem sw4_rel {vs zs : List V} {us ws : List Value} (r : Vals vs us) (rz : Vals zs ws) : Vals (sw4 vs zs) (sw4 us ws) := by
  cases r with
  | cons => exact .nil
  | nil =>
    match zs, ws, rz with
    | [], _, .nil => exact .nil
    | [_], _, .cons _ .nil => exact .nil
    | [_, _], _, .cons _ (.cons _ .nil) => exact .nil
    | [_, _, _], _, .cons _ (.cons _ (.cons _ .nil)) => exact .nil
    | [_, _, _, _], _, .cons h1 (.cons h2 (.cons h3 (.cons h4 .nil))) => exact .cons h4 (.cons h3 (.cons h2 (.cons h1 .nil)))
    | _ :: _ :: _ :: _ :: _ :: _, _, .cons _ (.cons _ (.cons _ (.cons _ (.cons _ _)))) => exact .nil
theorem kb4 {x : PySem.Str} {st : Stmt} {ps ks : List PySem.Str} (hp : ps.length = 4)
    (h : ∀ (kV doc pm : Value) (an : Option Addr) (cdv ct a b c d : Value), bindArgs (PySem.W.fnOf x x (defArgs st) (defBody st) (defScope st) .none kV doc pm an cdv ct) ⟨[], ks.zip [a, b, c, d]⟩ = pure (ps.zip (sw4 [] [a, b, c, d]))) : KB x st 0 ps ks sw4 sw4 := by
  intro K f fd F
  obtain ⟨oc, od, kV, doc, pm, an, cdv, ct, osl, rfl, lk, hcd⟩ := F.ex
  refine ⟨fun s us ws _ hl => ?_, fun r rz => sw4_rel r rz⟩
  rw [hp] at hl
  match us, ws, hl with
  | [], [a, b, c, d], _ => exact .of_eq (h kV doc pm an cdv ct a b c d)
  | [], [], hl => exact absurd hl (by simp [sw4])
  | [], [_], hl => exact absurd hl (by simp [sw4])
  | [], [_, _], hl => exact absurd hl (by simp [sw4])
  | [], [_, _, _], hl => exact absurd hl (by simp [sw4])
  | [], _ :: _ :: _ :: _ :: _ :: _, hl => exact absurd hl (by simp [sw4])
  | _ :: _, ws, hl => exact absurd hl (by simp [sw4])
section
variable {K : PySem.W.Frag} {σ : L2.St} {H : Hp} {te ta tb : TE} {tk : TA} {sp : Sp} {gV : List V → List V → List V} {vs xs : List V} {z : V} {d : PyData}
theorem ev_callK0 (h : EvA tk σ H vs) (hs : SpV sp (gV [] vs) H z) : Ev (tCallK0 sp gV tk) σ H z := fun H1 e Q q => h H1 e _ fun H2 e2 => hs H2 (e.trans e2) _ (fun H3 e3 => q H3 (e2.trans e3)) E0
theorem eu_callK0 (h : EvA tk σ H vs) (hs : ∀ H1, Ex H H1 → ∀ Q : VK, RetU xs H1 Q → ∀ E, sp (gV [] vs) H1 Q E) : EvU (tCallK0 sp gV tk) σ H xs := fun H1 e Q q => h H1 e _ fun H2 e2 => hs H2 (e.trans e2) _ (fun p H3 hp e3 h3 => q p H3 (fresh_back e2 hp) (e2.trans e3) h3) E0
/-- x = e, any target -/
theorem q_asgG {D : Ends} {tz : TS} {g : TG} (k : te σ H fun x H1 => g x σ H1 fun σ2 H2 => tz D σ2 H2) : tSeq (tAsg te g) tz D σ H := k
/-- an if whose test draws -/
theorem q_ifA {D : Ends} {tz tu : TS} {tt : TT} (k : tt σ H fun b H1 => if b = true then tu { D with nx := tz D } σ H1 else tz D σ H1) : tSeq (tIfS tt tu tNext) tz D σ H := k
theorem t_test (k : te σ H fun v H1 => ∃ b, v = .bl b ∧ Q b H1) : tTest te σ H Q := k
theorem t_op {r : R2} {Q : VK} (k : ta σ H fun x H1 => tb σ H1 fun y H2 => r x y H2 Q) : tOp r ta tb σ H Q := k
/-- the target a pair of names, the value a new pair -/
theorem g_pair {i j : Nat} {u v : V} {p : Addr} {Q : L2.St → Hp → Prop} (hp : H p = some (.tup [u, v])) (k : Q ((σ.set i (some u)).set j (some v)) H) : gTup K 2 (gCons (gName i) (gCons (gName j) gNil)) (.ref p) σ H Q := ⟨p, _, rfl, st_of hp, rfl, u, [v], rfl, v, [], rfl, rfl, k⟩
end
end We
set_option Elab.async false
set_option linter.all false
set_option maxRecDepth 100000
set_option maxHeartbeats 4000000
namespace K01
open PySem PySem.Spec PyProof.Rows L2 Evl Wc Wt Wg Ws We
def numV (c : List Nat) : List V := c.map fun (n : Nat) => V.int (n : Int)
theorem bordL_eq (t : Tx) : numV (bordL t) = ((List.range (t.length - 1)).filter fun i => decide (Bd t t.length (i + 1))).map fun (i : Nat) => V.int (1 + (i : Int)) := by
  unfold numV bordL
  rw [List.range'_eq_map_range, List.filter_map, List.map_map]
  have e : ((fun b => decide (Bd t t.length b)) ∘ fun x => 1 + x) = fun i => decide (Bd t t.length (i + 1)) := by
    funext i
    show decide (Bd t t.length (1 + i)) = _
    rw [Nat.add_comm]
  rw [e]
  refine List.map_congr_left fun i _ => ?_
  show V.int ((1 + i : Nat) : Int) = _
  congr 1
theorem bd_take {t : Tx} {b : Nat} (hb : b < t.length) : t.take b = t.drop (t.length - b) ↔ Bd t t.length b := by
  have hl : (t.drop (t.length - b)).length = b := by rw [List.length_drop]; omega
  have hd : ∀ j, j < b → (t.drop (t.length - b))[j]? = some (g t (t.length - b + j)) := fun j hj => by
    rw [List.getElem?_drop]
    exact g_at (by omega)
  constructor
  · intro h
    refine ⟨hb, fun j hj => ?_⟩
    have h1 := hd j hj
    rw [← h, List.getElem?_take_of_lt hj, g_at (by omega)] at h1
    exact Option.some.inj h1
  · intro h
    apply List.ext_getElem?
    intro j
    by_cases hj : j < b
    · rw [hd j hj, List.getElem?_take_of_lt hj, g_at (by omega), h.2 j hj]
    · rw [List.getElem?_eq_none (by rw [List.length_take]; omega), List.getElem?_eq_none (by omega)]
/-- all turns, in their order -/
def turnL (t : Tx) : List Tx := (List.range (max 1 t.length)).map fun i => t.drop i ++ t.take i
section
variable {P : Program} {w : World} {K : PySem.W.Frag} {mg : Str → Option Value} {base : Heap}
/-- a text of the signs -/
structure Ok (t : Tx) : Prop where
  len : t.length ≤ 400
  sg : ∀ c ∈ t, abcd c
def sp_borders : Sp := fun vs H Q _ => ∃ (t : Tx), vs = [T t] ∧ Ok t ∧ RetL (numV (bordL t)) H Q
theorem ok_border_lengths {f : Addr} {fd : FuncData} (F : Fun K "border_lengths" "border_lengths" st_border_lengths f fd) (M : Md K mg) : FnOk P w K mg base CX0 1 f fd ["text"] sp_borders := by
  have nd := sc_border_lengths.nd
  refine F.ok sc_border_lengths (fun vs H Q E h => ?_) (fun cdv A outer s H vs Q E hr h => ?_)
  · obtain ⟨_, rfl, _⟩ := h
    rfl
  · obtain ⟨t, rfl, hT, k⟩ := h
    refine ⟨_, (pss_one (ps_ret (pe_lc (own := [("many", 1)]) rfl nd (pi_range2 (by rfl) M.n_range (pa_cons pe_int (pa_cons (pe_callB cr_lenT (by rfl) M.n_len boot_len (pa_cons (pv 0) pa_nil)) pa_nil))) (blkOk_by (N := N_border_lengths) (sc := defScope st_border_lengths) (by decide +kernel)) (fun _ _ _ _ _ => (pg_name (i := 1) nd rfl (Or.inl rfl))) (fun _ _ _ _ _ => (pts_one (pt_cmpR op_eqT (pe_slice sl_T (pv 0) po_none (po_some (pv 1))) (pe_slice sl_T (pv 0) (po_some (pe_op op_sub (pe_callB cr_lenT (by rfl) M.n_len boot_len (pa_cons (pv 0) pa_nil)) (pv 1))) po_none) (nomark _)))) (fun _ _ _ _ _ => (pv 1))))), ?_⟩
    have hl := hT.len
    rw [bordL_eq] at k
    refine s_retL (el_lcF (j := 1) (vs := [1]) (f := fun (i : Nat) => V.int (1 + (i : Int))) (g := fun (i : Nat) => V.int (1 + (i : Int))) (p := fun i => decide (Bd t t.length (i + 1))) (List.range (t.length - 1)) (src_range2L (lo := 1) (hi := (t.length : Int)) (n := t.length - 1) (ea_cons ev_c (ea_cons (ev_cb (ea_cons (ev_var rfl) ea_nil) (rc_lenT (by omega))) ea_nil)) (by decide) (by decide) (by omega) (by omega) (by omega)) (by rw [List.length_range]; omega) (fun _ => rfl) (fun i H1 e1 hi => ?_) (fun i H1 e1 hi _ => ev_var rfl)) k
    have hi := List.mem_range.mp hi
    have e1 : (1 + (i : Int)) = ((i + 1 : Nat) : Int) := by omega
    have e2 : (t.length : Int) - (1 + (i : Int)) = ((t.length - (i + 1) : Nat) : Int) := by omega
    refine et_is (et_test (ev_op (ev_slT (hi := some ((i + 1 : Nat) : Int)) (ev_var rfl) eo_none (eo_some (ev_is (ev_var rfl) (by rw [e1]))) (by omega)) (ev_slT (lo := some ((t.length - (i + 1) : Nat) : Int)) (ev_var rfl) (eo_some (ev_is (ev_op (ev_cb (ea_cons (ev_var rfl) ea_nil) (rc_lenT (by omega))) (ev_var rfl) rv_I0) (by rw [e2]))) eo_none (by omega)) rv_eqT)) ?_
    rw [cutT_to, cutT_from]
    exact decide_eq_decide.mpr (bd_take (by omega))
def sp_root : Sp := fun vs H Q _ => ∃ (t : Tx), vs = [T t] ∧ Ok t ∧ t ≠ [] ∧ ∀ m, IsRoot t m → RetU [T (t.take m), .int ((t.length / m : Nat) : Int)] H Q
theorem ok_root_in {f : Addr} {fd : FuncData} (F : Fun K "root_in" "root_in" st_root_in f fd) (M : Md K mg) : FnOk P w K mg base CX0 1 f fd ["text"] sp_root := by
  have nd := sc_root_in.nd
  refine F.ok sc_root_in (fun vs H Q E h => ?_) (fun cdv A outer s H vs Q E hr h => ?_)
  · obtain ⟨_, rfl, _⟩ := h
    rfl
  · obtain ⟨t, rfl, hT, hne, k⟩ := h
    refine ⟨_, (pss_cons (ps_for PassesOwn.never rfl (pi_range2 (by rfl) M.n_range (pa_cons pe_int (pa_cons (pe_op op_add (pe_callB cr_lenT (by rfl) M.n_len boot_len (pa_cons (pv 0) pa_nil)) pe_int) pa_nil))) (pg_name (i := 1) nd rfl (Or.inl rfl))
  (pss_one (ps_if (PW.pt (pw_and (pt_cmpR op_eqI (pe_op op_modP (pe_callB cr_lenT (by rfl) M.n_len boot_len (pa_cons (pv 0) pa_nil)) (pv 1)) pe_int (nomark _)) (pw_and1 (pt_cmpR op_eqT (pe_op op_mulT (pe_slice sl_T (pv 0) po_none (po_some (pv 1))) (pe_op op_fdivW (pe_callB cr_lenT (by rfl) M.n_len boot_len (pa_cons (pv 0) pa_nil)) (pv 1))) (pv 0) (nomark _)))))
  (pss_one (ps_ret (pe_tup (pa_cons (pe_slice sl_T (pv 0) po_none (po_some (pv 1))) (pa_cons (pe_op op_fdivW (pe_callB cr_lenT (by rfl) M.n_len boot_len (pa_cons (pv 0) pa_nil)) (pv 1)) pa_nil)))))
  pss_nil)))
  (pss_one (ps_ret (pe_tup (pa_cons (pv 0) (pa_cons pe_int pa_nil)))))), ?_⟩
    have hl := hT.len
    have hpos := List.length_pos_iff.mpr hne
    have hlen : ∀ {σ : L2.St} {H1 : Hp}, σ[0]? = some (some (T t)) → Ev (tCB rLenT (tCons (tVar 0) tNil)) σ H1 (.int (t.length : Int)) := fun h0 => ev_cb (ea_cons (ev_var h0) ea_nil) (rc_lenT (by omega))
    have hdiv : ∀ {σ : L2.St} {H1 : Hp} {i : Nat}, σ[0]? = some (some (T t)) → σ[1]? = some (some (.int (1 + (i : Int)))) → i < t.length → Ev (tOp (rI CDivW fun i j => .int (i / j)) (tCB rLenT (tCons (tVar 0) tNil)) (tVar 1)) σ H1 (.int ((t.length / (i + 1) : Nat) : Int)) := fun {σ H1 i} h0 h1 hi => ev_is (ev_op (hlen h0) (ev_var h1) (rv_I (divW (by omega) (by omega)))) (by
      congr 1
      rw [show (1 + (i : Int)) = ((i + 1 : Nat) : Int) by omega]
      exact (Int.natCast_ediv _ _).symm)
    have htk : ∀ {σ : L2.St} {H1 : Hp} {i : Nat}, σ[0]? = some (some (T t)) → σ[1]? = some (some (.int (1 + (i : Int)))) → Ev (tSl rSlT (tVar 0) tNoPart (tPart (tVar 1))) σ H1 (T (t.take (i + 1))) := fun {σ H1 i} h0 h1 => ev_is (ev_slT (hi := some ((i + 1 : Nat) : Int)) (ev_var h0) eo_none (eo_some (ev_is (ev_var h1) (by rw [show (1 + (i : Int)) = ((i + 1 : Nat) : Int) by omega]))) (by omega)) (by rw [cutT_to])
    refine q_search (n := t.length) (j := 1) (src_range2 (lo := 1) (hi := (t.length : Int) + 1) (n := t.length) (ea_cons ev_c (ea_cons (ev_op (hlen rfl) ev_c rv_I0) ea_nil)) (by decide) (by decide) (by omega) (by omega) (by omega)) (by show 1 < 2; decide) (fun i => decide (t.length % (i + 1) = 0 ∧ repT (t.length / (i + 1)) (t.take (i + 1)) = t)) (fun i x H1 e1 hi hx hk => ?_) (fun i x H1 H2 e1 hi hx e2 hk hf D' hD => ?_) (fun y H1 e1 hk => ?_)
    · subst hx
      refine et_andG (a := decide (t.length % (i + 1) = 0)) (et_is (et_test (ev_op (ev_op (hlen rfl) (ev_var rfl) (rv_I (by omega))) ev_c rv_I0)) ?_) (fun ha => ?_) (fun ha => ?_)
      · refine decide_eq_decide.mpr ?_
        rw [show (1 + (i : Int)) = ((i + 1 : Nat) : Int) by omega, ← Int.natCast_emod]
        omega
      · have ha := of_decide_eq_true ha
        refine et_is (et_test (ev_op (ev_op (htk rfl rfl) (hdiv rfl rfl hi) (rv_mulT (n := ((t.length / (i + 1) : Nat) : Int)) (Int.le_trans (by decide) (Int.natCast_nonneg _)) (Int.le_trans (Int.ofNat_le.mpr (Nat.div_le_self t.length (i + 1))) (by omega)) ?_)) (ev_var rfl) rv_eqT)) (decide_eq_decide.mpr ?_)
        · rw [Int.toNat_natCast, List.length_take]
          have h1 : min (i + 1) t.length * (t.length / (i + 1)) ≤ t.length * t.length := Nat.mul_le_mul (by omega) (Nat.div_le_self _ _)
          have h2 : t.length * t.length ≤ 400 * 400 := Nat.mul_le_mul hl hl
          omega
        · rw [Int.toNat_natCast]
          exact ⟨fun z => ⟨ha, z⟩, fun z => z.2⟩
      · have ha := of_decide_eq_false ha
        exact decide_eq_false fun z => ha z.1
    · subst hx
      obtain ⟨h1, h2⟩ := of_decide_eq_true hf
      have hR : IsRoot t (i + 1) := root_try (by omega) (by omega) h1 h2 fun k k0 k1 => by
        have := of_decide_eq_false (hk (k - 1) (by omega))
        rw [show k - 1 + 1 = k by omega] at this
        exact this
      refine s_retU (eu_tup (ea_cons (htk rfl rfl) (ea_cons (hdiv rfl rfl hi) ea_nil)) (by show 2 ≤ 100000; decide)) fun p H3 hp e3 h3 => ?_
      rw [hD]
      exact k (i + 1) hR p H3 (fresh_back (e1.trans e2) hp) ((e1.trans e2).trans e3) h3
    · exfalso
      have := of_decide_eq_false (hk (t.length - 1) (by omega))
      rw [show t.length - 1 + 1 = t.length by omega] at this
      refine this ⟨Nat.mod_self _, ?_⟩
      rw [Nat.div_self hpos, List.take_length, repT_succ, repT_zero, List.append_nil]
def sp_turns : Sp := fun vs H Q _ => ∃ (t : Tx), vs = [T t] ∧ Ok t ∧ RetL ((setS (turnL t)).map T) H Q
theorem ok_turns_in {f : Addr} {fd : FuncData} (F : Fun K "turns_in" "turns_in" st_turns_in f fd) (M : Md K mg) : FnOk P w K mg base CX0 1 f fd ["text"] sp_turns := by
  have nd := sc_turns_in.nd
  refine F.ok sc_turns_in (fun vs H Q E h => ?_) (fun cdv A outer s H vs Q E hr h => ?_)
  · obtain ⟨_, rfl, _⟩ := h
    rfl
  · obtain ⟨t, rfl, hT, k⟩ := h
    refine ⟨_, (pss_one (ps_ret (pe_callB (ksorted P w K hr.units) (by rfl) M.n_sorted boot_sorted (pa_cons (pe_set (own := [("many", 1)]) (fillX P w) rfl nd (pi_range1 (by rfl) M.n_range (pa_cons (pe_callB (kcr K (r := rMax) (cr_max rfl)) (by rfl) M.n_max boot_max (pa_cons (pe_lst (pa_cons pe_int (pa_cons (pe_callB cr_lenT (by rfl) M.n_len boot_len (pa_cons (pv 0) pa_nil)) pa_nil))) pa_nil)) pa_nil)) (blkOk_by (N := N_turns_in) (sc := defScope st_turns_in) (by decide +kernel)) (fun _ _ _ _ _ => (pg_name (i := 1) nd rfl (Or.inl rfl))) (fun _ _ _ _ _ => pts_nil) (fun _ _ _ _ _ => (pe_op op_addT (pe_slice sl_T (pv 0) (po_some (pv 1)) po_none) (pe_slice sl_T (pv 0) po_none (po_some (pv 1)))))) pa_nil)))), ?_⟩
    have hl := hT.len
    have hmax : Ev (tCB (rMax K) (tCons (tLst (tCons (tC (.int 1)) (tCons (tCB rLenT (tCons (tVar 0) tNil)) tNil))) tNil)) (start N_turns_in [T t]) H (.int ((max 1 t.length : Nat) : Int)) := by
      refine ev_cbL (xs := [.int 1, .int (t.length : Int)]) (el_lst (ea_cons ev_c (ea_cons (ev_cb (ea_cons (ev_var rfl) ea_nil) (rc_lenT (by omega))) ea_nil)) (by show 2 ≤ 100000; decide)) fun q H1 hq e1 H2 e2 Q2 k2 => ⟨q, [1, (t.length : Int)], rfl, ex_l e2 (sq_of hq), by show 0 < 2; decide, fun m h1 h2 => ?_⟩
      have hm : m = ((max 1 t.length : Nat) : Int) := by
        have a1 := h2 1 (by simp)
        have a2 := h2 (t.length : Int) (by simp)
        simp only [List.mem_cons, List.not_mem_nil, or_false] at h1
        rcases h1 with rfl | rfl <;> omega
      rw [hm]
      exact k2 H2 (Ex.refl _)
    refine el_sortX (l := turnL t) (fun Q' k' => ?_) _ k
    refine el_setX (P := P) (w := w) (j := 1) (vs := [1]) (f := fun (i : Nat) => V.int (i : Int)) (g := fun i => t.drop i ++ t.take i) (List.range (max 1 t.length)) (src_range1L (n := max 1 t.length) (ea_cons hmax ea_nil) (by omega)) (by rw [List.length_range]; omega) (fun _ => rfl) (fun i H1 e1 hi => ?_) k'
    exact ev_op (ev_is (ev_slT (ev_var rfl) (eo_some (i := (i : Int)) (ev_var rfl)) eo_none (by omega)) (by rw [cutT_from])) (ev_is (ev_slT (ev_var rfl) eo_none (eo_some (i := (i : Int)) (ev_var rfl)) (by omega)) (by rw [cutT_to])) (rv_addT (by rw [List.length_drop, List.length_take]; omega))
end
end K01
set_option Elab.async false
set_option linter.all false
set_option maxRecDepth 100000
set_option maxHeartbeats 4000000
namespace K01
open PySem PySem.Spec PyProof.Rows L2 Evl Wc Wt Wg Ws We
theorem q_parVV {σ : L2.St} {H : Hp} {ta tb : TE} {D : Ends} {tz : TS} {i j : Nat} {v w : V} (ha : Ev ta σ H v) (hb : Ev tb σ H w) (k : ∀ H1, Ex H H1 → tz D ((σ.set i (some v)).set j (some w)) H1) : tSeq (tPar i j (tCons ta (tCons tb tNil))) tz D σ H := ha H (Ex.refl _) _ fun H1 e1 => hb H1 e1 _ fun H2 e2 => ⟨v, w, rfl, k H2 (e1.trans e2)⟩
theorem sg_lt {x y : Nat} : ([x] : Tx) < [y] ↔ x < y := by
  rw [List.cons_lt_cons_iff]
  constructor
  · rintro (h | ⟨_, h⟩)
    · exact h
    · exact absurd h (List.lt_irrefl _)
  · exact .inl
section
variable {P : Program} {w : World} {K : PySem.W.Frag} {mg : Str → Option Value} {base : Heap}
def sp_lyndon : Sp := fun vs H Q _ => ∃ (t : Tx), vs = [T t] ∧ Ok t ∧ ∀ fs, IsLyn t fs → fs.length ≤ 400 → RetL (fs.map T) H Q
theorem ok_lyndon_parts {f : Addr} {fd : FuncData} (F : Fun K "lyndon_parts" "lyndon_parts" st_lyndon_parts f fd) (M : Md K mg) : FnOk P w K mg base CX0 1 f fd ["text"] sp_lyndon := by
  have nd := sc_lyndon_parts.nd
  refine F.ok sc_lyndon_parts (fun vs H Q E h => ?_) (fun cdv A outer s H vs Q E hr h => ?_)
  · obtain ⟨_, rfl, _⟩ := h
    rfl
  · obtain ⟨t, rfl, hT, k⟩ := h
    refine ⟨_, (pss_cons (ps_par (i := 1) (j := 2) rfl nd rfl rfl (by decide) rfl rfl (pa_cons (pe_lst pa_nil) (pa_cons pe_int pa_nil)) (by rfl))
  (pss_cons (ps_while PassesOwn.never (pt_cmpR op_lt (pv 2) (pe_callB cr_lenT (by rfl) M.n_len boot_len (pa_cons (pv 0) pa_nil)) (nomark _))
  (pss_cons (ps_par (i := 3) (j := 4) rfl nd rfl rfl (by decide) rfl rfl (pa_cons (pe_op op_add (pv 2) pe_int) (pa_cons (pv 2) pa_nil)) (by rfl))
  (pss_cons (ps_while PassesOwn.never (PW.pt (pw_and (pt_cmpR op_lt (pv 3) (pe_callB cr_lenT (by rfl) M.n_len boot_len (pa_cons (pv 0) pa_nil)) (nomark _)) (pw_and1 (pt_cmpR op_leT' (pe_ix ix_T (pv 0) (pv 4) (fun _ _ => rfl)) (pe_ix ix_T (pv 0) (pv 3) (fun _ _ => rfl)) (nomark _)))))
  (pss_cons (ps_set (i := 4) nd rfl (Or.inl rfl) (pe_ifExp (pt_cmpR op_ltT' (pe_ix ix_T (pv 0) (pv 4) (fun _ _ => rfl)) (pe_ix ix_T (pv 0) (pv 3) (fun _ _ => rfl)) (nomark _)) (pv 2) (pe_op op_add (pv 4) pe_int)))
  (pss_one (ps_aug (i := 3) nd rfl (Or.inl rfl) pe_int ip_add))))
  (pss_one (ps_while PassesOwn.never (pt_cmpR op_le (pv 2) (pv 4) (nomark _))
  (pss_cons (ps_expr (kbm K (pe_bm PySem.F.plainAttrs_list PySem.F.slot_list_append PySem.F.type_list_append mt_append (pv 1) (pa_cons (pe_slice sl_T (pv 0) (po_some (pv 2)) (po_some (pe_op op_sub (pe_op op_add (pv 2) (pv 3)) (pv 4)))) pa_nil))))
  (pss_one (ps_aug (i := 2) nd rfl (Or.inl rfl) (pe_op op_sub (pv 3) (pv 4)) ip_add))))))))
  (pss_one (ps_ret (pv 1))))), ?_⟩
    have hl := hT.len
    have hlen : ∀ {σ : L2.St} {H1 : Hp}, σ[0]? = some (some (T t)) → Ev (tCB rLenT (tCons (tVar 0) tNil)) σ H1 (.int (t.length : Int)) := fun h0 => ev_cb (ea_cons (ev_var h0) ea_nil) (rc_lenT (by omega))
    have hix : ∀ {σ : L2.St} {H1 : Hp} {j i : Nat}, σ[0]? = some (some (T t)) → σ[j]? = some (some (.int (i : Int))) → i < t.length → Ev (tOp rIxT (tVar 0) (tVar j)) σ H1 (T [g t i]) := fun h0 hj hi => ev_op (ev_var h0) (ev_var hj) (Wc.rv_ixT (by omega) (atI_nat (g_at hi)))
    refine q_parLC (el_lst ea_nil (by decide)) fun pf H1 hpf e1 h1 => ?_
    show tSeq _ _ _ [some (T t), some (.ref pf), some (.int 0), none, none] H1
    refine q_while (fun m σ' H' => ∃ (s : Nat) (fs : List Tx) (v3 v4 : Option V), σ' = [some (T t), some (.ref pf), some (.int (s : Int)), v3, v4] ∧ m = t.length - s ∧ s ≤ t.length ∧ Ex H H' ∧ H' pf = some (.lst (fs.map T)) ∧ fs.length ≤ s ∧ LynTo t s fs) t.length ?_ fun m σ' H' hw => ?_
    · exact ⟨0, [], none, none, rfl, rfl, Nat.zero_le _, e1, h1, Nat.le_refl _, ⟨rfl, (fun w hw => nomatch hw), (fun q hq => by simp at hq), (fun w hw => by simp at hw)⟩⟩
    obtain ⟨s, fs, v3, v4, rfl, hm, hs, e2, h2, hfl, hF⟩ := hw
    refine ⟨decide (s < t.length), et_is (et_test (ev_op (ev_var rfl) (hlen rfl) rv_I0)) (decide_eq_decide.mpr Int.ofNat_lt), fun hb H3 e3 => ?_, fun hb H3 e3 => ?_⟩
    · have hst := of_decide_eq_true hb
      refine ⟨fun σ2 H2 => ∃ m', m' < m ∧ ∃ (s : Nat) (fs : List Tx) (v3 v4 : Option V), σ2 = [some (T t), some (.ref pf), some (.int (s : Int)), v3, v4] ∧ m' = t.length - s ∧ s ≤ t.length ∧ Ex H H2 ∧ H2 pf = some (.lst (fs.map T)) ∧ fs.length ≤ s ∧ LynTo t s fs, fun _ _ z => z, ?_⟩
      have e23 := e2.trans e3
      have h3 := e3 _ _ h2
      refine q_parVV (v := .int ((s + 1 : Nat) : Int)) (ev_is (ev_op (ev_var rfl) ev_c rv_I0) (by congr 1)) (ev_var (i := 2) rfl) fun H4 e4 => ?_
      show tSeq _ _ _ [some (T t), some (.ref pf), some (.int (s : Int)), some (.int ((s + 1 : Nat) : Int)), some (.int (s : Int))] H4
      refine q_while (fun m2 σ2 H2 => ∃ (a b : Nat), σ2 = [some (T t), some (.ref pf), some (.int (s : Int)), some (.int (a : Int)), some (.int (b : Int))] ∧ m2 = t.length - a ∧ Duv t s b a ∧ Ex H4 H2) (t.length - (s + 1)) ⟨s + 1, s, rfl, rfl, Duv.first hst, Ex.refl _⟩ fun m2 σ2 H5 hw2 => ?_
      obtain ⟨a, b, rfl, hm2, hD, e5⟩ := hw2
      have hD' := hD
      obtain ⟨d1, d2, d3, d4, d5⟩ := hD'
      refine ⟨decide (a < t.length) && decide (g t b ≤ g t a), ?_, fun hb2 H6 e6 => ?_, fun hb2 H6 e6 => ?_⟩
      · refine et_and (et_is (et_test (ev_op (ev_var rfl) (hlen rfl) rv_I0)) (decide_eq_decide.mpr Int.ofNat_lt)) fun ha => ?_
        have ha := of_decide_eq_true ha
        refine et_is (et_test (ev_op (hix (j := 4) rfl rfl (by omega)) (hix (j := 3) rfl rfl ha) rv_leT')) ?_
        by_cases hc : g t a < g t b
        · rw [decide_eq_true (sg_lt.mpr hc), decide_eq_false (show ¬ g t b ≤ g t a by omega)]
          rfl
        · rw [decide_eq_false (fun z => hc (sg_lt.mp z)), decide_eq_true (show g t b ≤ g t a by omega)]
          rfl
      · obtain ⟨ha, hc⟩ := Bool.and_eq_true_iff.mp hb2
        have ha := of_decide_eq_true ha
        have hc := of_decide_eq_true hc
        refine ⟨fun σ2 H2 => ∃ m', m' < m2 ∧ ∃ (a b : Nat), σ2 = [some (T t), some (.ref pf), some (.int (s : Int)), some (.int (a : Int)), some (.int (b : Int))] ∧ m' = t.length - a ∧ Duv t s b a ∧ Ex H4 H2, fun _ _ z => z, ?_⟩
        refine q_asg (v := .int ((if g t b < g t a then s else b + 1 : Nat) : Int)) (ev_if (b := decide (g t b < g t a)) (et_is (et_test (ev_op (hix (j := 4) rfl rfl (by omega)) (hix (j := 3) rfl rfl ha) rv_ltT)) (decide_eq_decide.mpr sg_lt)) (fun hb3 => ?_) (fun hb3 => ?_)) fun H7 e7 => ?_
        · rw [if_pos (of_decide_eq_true hb3)]
          exact ev_var rfl
        · rw [if_neg (of_decide_eq_false hb3)]
          exact ev_is (ev_op (ev_var rfl) ev_c rv_I0) (by congr 1)
        · refine s_aug (a := (a : Int)) (b := 1) rfl ev_c fun H8 e8 => ⟨t.length - (a + 1), by omega, a + 1, (if g t b < g t a then s else b + 1), by
            show [_, _, _, some (V.int ((a : Int) + 1)), _] = _
            rw [show ((a : Int) + 1) = ((a + 1 : Nat) : Int) by omega], rfl, ?_, ((e5.trans e6).trans e7).trans e8⟩
          split
          · rename_i hlt
            exact hD.lt ha hlt
          · rename_i hlt
            exact hD.eq ha (by omega)
      · have hend : a = t.length ∨ g t a < g t b := by
          by_cases ha : a < t.length
          · rw [decide_eq_true ha, Bool.true_and] at hb2
            have := of_decide_eq_false hb2
            exact .inr (by omega)
          · exact .inl (by omega)
        have e46 := e5.trans e6
        have h6 := (e4.trans e46) _ _ h3
        have eH6 := e23.trans (e4.trans e46)
        clear hb2
        refine s_while (fun m3 σ2 H2 => ∃ k : Nat, σ2 = [some (T t), some (.ref pf), some (.int ((s + k * (a - b) : Nat) : Int)), some (.int (a : Int)), some (.int (b : Int))] ∧ m3 = t.length + 1 - (s + k * (a - b)) ∧ Ex H H2 ∧ H2 pf = some (.lst ((fs ++ List.replicate k ((t.drop s).take (a - b))).map T)) ∧ (k = 0 ∨ s + (k - 1) * (a - b) ≤ b) ∧ k ≤ k * (a - b)) (t.length + 1 - s) ⟨0, by rw [Nat.zero_mul, Nat.add_zero], by rw [Nat.zero_mul]; rfl, eH6, by rw [List.replicate_zero, List.append_nil]; exact h6, .inl rfl, Nat.zero_le _⟩ fun m3 σ2 H7 hw3 => ?_
        obtain ⟨k2, rfl, hm3, e7, h7, hk, hk2⟩ := hw3
        refine ⟨decide (s + k2 * (a - b) ≤ b), et_is (et_test (ev_op (ev_var rfl) (ev_var rfl) rv_I0)) (decide_eq_decide.mpr Int.ofNat_le), fun hb3 H8 e8 => ?_, fun hb3 H8 e8 => ?_⟩
        · have hsb := of_decide_eq_true hb3
          refine ⟨fun σ2 H2 => ∃ m', m' < m3 ∧ ∃ k : Nat, σ2 = [some (T t), some (.ref pf), some (.int ((s + k * (a - b) : Nat) : Int)), some (.int (a : Int)), some (.int (b : Int))] ∧ m' = t.length + 1 - (s + k * (a - b)) ∧ Ex H H2 ∧ H2 pf = some (.lst ((fs ++ List.replicate k ((t.drop s).take (a - b))).map T)) ∧ (k = 0 ∨ s + (k - 1) * (a - b) ≤ b) ∧ k ≤ k * (a - b), fun _ _ z => z, ?_⟩
          have hlo : ((s + k2 * (a - b) : Nat) : Int) + (a : Int) - (b : Int) = ((s + k2 * (a - b) + (a - b) : Nat) : Int) := by omega
          refine q_app (v := T ((t.drop s).take (a - b))) (e8 _ _ h7) (ev_var rfl) (ev_is (ev_slT (lo := some ((s + k2 * (a - b) : Nat) : Int)) (hi := some ((s + k2 * (a - b) + (a - b) : Nat) : Int)) (ev_var rfl) (eo_some (ev_var rfl)) (eo_some (ev_is (ev_op (ev_op (ev_var rfl) (ev_var rfl) rv_I0) (ev_var rfl) rv_I0) (by rw [← hlo]))) (by omega)) ?_) ?_ fun H9 e9 => ?_
          · rw [cutT_mid, show s + k2 * (a - b) + (a - b) - (s + k2 * (a - b)) = a - b by omega, hD.same hsb]
          · rw [List.length_map, List.length_append, List.length_replicate]
            omega
          · refine s_aug (σ := [some (T t), some (.ref pf), some (.int ((s + k2 * (a - b) : Nat) : Int)), some (.int (a : Int)), some (.int (b : Int))]) (a := ((s + k2 * (a - b) : Nat) : Int)) (b := (a : Int) - (b : Int)) rfl (ev_op (ev_var rfl) (ev_var rfl) rv_I0) fun H10 e10 => ⟨t.length + 1 - (s + (k2 + 1) * (a - b)), by rw [Nat.succ_mul]; omega, k2 + 1, ?_, rfl, ?_, ?_, .inr (by rw [Nat.add_sub_cancel]; exact hsb), by rw [Nat.succ_mul]; omega⟩
            · show [_, _, some (V.int (((s + k2 * (a - b) : Nat) : Int) + ((a : Int) - (b : Int)))), _, _] = _
              rw [show ((s + k2 * (a - b) : Nat) : Int) + ((a : Int) - (b : Int)) = ((s + (k2 + 1) * (a - b) : Nat) : Int) by rw [Nat.succ_mul]; omega]
            · exact (Ex.mut ((e7.trans e8).trans e9) hpf).trans e10
            · refine e10 _ _ ?_
              rw [upd_same, List.replicate_succ', ← List.append_assoc, List.map_append (l₂ := [_])]
              rfl
        · have hsb := of_decide_eq_false hb3
          have hk1 : k2 ≠ 0 := fun z => by
            rw [z, Nat.zero_mul] at hsb
            omega
          obtain ⟨k3, rfl⟩ : ∃ k3, k2 = k3 + 1 := ⟨k2 - 1, by omega⟩
          have hk3 : s + k3 * (a - b) ≤ b := by
            rcases hk with h | h
            · omega
            · simpa using h
          have hcl := hD.close hend hF hk3 (by omega)
          have hle : s + (k3 + 1) * (a - b) ≤ a := by rw [Nat.succ_mul]; omega
          exact ⟨t.length - (s + (k3 + 1) * (a - b)), by rw [Nat.succ_mul]; omega, _, _, _, _, rfl, rfl, by omega, e7.trans e8, e8 _ _ h7, by rw [List.length_append, List.length_replicate]; omega, hcl⟩
    · have hsl := of_decide_eq_false hb
      exact s_ret (ev_var rfl) fun H4 e4 => k fs (hF.done (by omega)) (by omega) pf H4 hpf ((e2.trans e3).trans e4) ((e3.trans e4) _ _ h2)
end
end K01
set_option Elab.async false
set_option linter.all false
set_option maxRecDepth 100000
set_option maxHeartbeats 4000000
namespace K01
open PySem PySem.Spec PyProof.Rows L2 Evl Wc Wt Wg Ws We
def put (lot : List Tx) (c : List Nat) : Tx := (c.map fun i => lot.getD i []).flatten
theorem put_cons (lot : List Tx) (i : Nat) (c : List Nat) : put lot (i :: c) = lot.getD i [] ++ put lot c := rfl
def Ixs (lot : List Tx) (c : List Nat) : Prop := ∀ i ∈ c, i < lot.length
/-- the length of the longest word -/
def longL (lot : List Tx) : Nat := (lot.map List.length).foldr max 0
theorem foldr_max {l : List Nat} {x : Nat} (h : x ∈ l) : x ≤ l.foldr max 0 := by
  induction l with
  | nil => cases h
  | cons a l ih =>
    show x ≤ max a (l.foldr max 0)
    rcases List.mem_cons.mp h with rfl | h
    · omega
    · have := ih h
      omega
theorem foldr_mem : ∀ {l : List Nat}, l ≠ [] → l.foldr max 0 ∈ l
  | [], h => absurd rfl h
  | [a], _ => by simp
  | a :: b :: l, _ => by
    have := foldr_mem (l := b :: l) (by simp)
    have e : (a :: b :: l).foldr max 0 = max a ((b :: l).foldr max 0) := rfl
    rw [e]
    by_cases h : a ≤ (b :: l).foldr max 0
    · rw [Nat.max_eq_right h]
      exact List.mem_cons_of_mem _ this
    · rw [Nat.max_eq_left (by omega)]
      exact List.mem_cons_self
/-- the signs of the words, ascending -/
def signL (lot : List Tx) : Tx := (setS (sgs lot.flatten)).flatten
theorem flat_bound {lot : List Tx} (h : IsLot lot) : lot.flatten.length ≤ 144 := by
  have h1 : ∀ (l : List Tx), (∀ t ∈ l, t.length ≤ 12) → l.flatten.length ≤ l.length * 12 := by
    intro l
    induction l with
    | nil => intro _; exact Nat.le_refl _
    | cons t l ih =>
      intro hl
      rw [List.flatten_cons, List.length_append, List.length_cons, Nat.succ_mul]
      have a1 := hl t List.mem_cons_self
      have a2 := ih fun x hx => hl x (List.mem_cons_of_mem _ hx)
      omega
  have h2 := h1 lot fun t ht => (h.wd t ht).1
  have := h.few
  omega
section
variable {K : PySem.W.Frag} {σ : L2.St} {H : Hp} {te : TE}
theorem el_sortNat {ns ms : List Nat} (h : EvL te σ H (numV ns)) (hp : ns.Perm ms) (hs : ms.Pairwise (· < ·)) : EvL (tCB (rSortedI K) (tCons te tNil)) σ H (numV ms) := fun H1 e Q k =>
  h H1 e _ fun p H2 hp2 e2 h2 => ⟨p, ns.map fun (n : Nat) => (n : Int), rfl, sq_of (by rw [h2]; unfold numV; rw [List.map_map]; rfl), fun ns' q pn pw hq => by
    have : ns' = ms.map fun (n : Nat) => (n : Int) := _root_.Wd.sorted_is pw (List.pairwise_map.mpr (hs.imp fun h => by omega)) (pn.trans (hp.map _))
    rw [this]
    refine k q _ (fresh_back e2 hq) (e2.trans (Ex.new hq)) ?_
    rw [upd_same]
    unfold numV
    rw [List.map_map]
    rfl⟩
/-- ''.join(lot) -/
theorem ev_joinU {i : Nat} {p : Addr} {lot : List Tx} (h0 : σ[i]? = some (some (.ref p))) (hp : H p = some (.tup (lot.map T))) (hl : lot.flatten.length ≤ 16777216) : Ev (tBM K "str" (rJoinT K) (tC (T [])) (tCons (tVar i) tNil)) σ H (T lot.flatten) :=
  ev_bmT ev_c (ea_cons (ev_var h0) ea_nil) (rm_join (.inr (st_of hp)) (by rw [← flat_len]; exact hl))
end
section
variable {P : Program} {w : World} {K : PySem.W.Frag} {mg : Str → Option Value} {base : Heap}
def sp_is_integer : Sp := fun vs H Q _ => ∃ (i : Int), vs = [.int i] ∧ RetV (.bl true) H Q
theorem ok_is_integer {f : Addr} {fd : FuncData} (F : Fun K "is_integer" "is_integer" st_is_integer f fd) (M : Md K mg) : FnOk P w K mg base CX0 1 f fd ["thing"] sp_is_integer := by
  have nd := sc_is_integer.nd
  refine F.ok sc_is_integer (fun vs H Q E h => ?_) (fun cdv A outer s H vs Q E hr h => ?_)
  · obtain ⟨_, rfl, _⟩ := h
    rfl
  · obtain ⟨i, rfl, k⟩ := h
    refine ⟨_, (pss_one (ps_ret (pe_and (pe_callB (kcr K (r := rIsiB) cr_isi) (by rfl) M.n_isinstance boot_isinstance (pa_cons (pv 0) (pa_cons (pe_bltn (v := .ty "int") rfl M.n_int boot_int rfl) pa_nil))) (pe_one (pe_not (pe_callB (kcr K (r := rIsiB) cr_isi) (by rfl) M.n_isinstance boot_isinstance (pa_cons (pv 0) (pa_cons (pe_bltn (v := .ty "bool") rfl M.n_bool boot_bool rfl) pa_nil)))))))), ?_⟩
    exact s_ret (ev_andV (ev_cb (ea_cons (ev_var rfl) (ea_cons ev_c ea_nil)) (rc_isi (fun _ _ => .base (.int _)) k_int_int)) fun _ => ev_notV (ev_cb (ea_cons (ev_var rfl) (ea_cons ev_c ea_nil)) (rc_isi (fun _ _ => .base (.int _)) k_int_bool))) k
def sp_is_within : Sp := fun vs H Q _ => ∃ (i a b : Int), vs = [.int i, .int a, .int b] ∧ RetV (.bl (decide (a ≤ i) && decide (i ≤ b))) H Q
theorem ok_is_within {f : Addr} {fd : FuncData} (F : Fun K "is_within" "is_within" st_is_within f fd) (M : Md K mg) (C_is_integer : Cal P w K mg base "is_integer" st_is_integer 1 ["thing"] sp_is_integer) : FnOk P w K mg base CX0 2 f fd ["thing", "least", "most"] sp_is_within := by
  have nd := sc_is_within.nd
  refine F.ok sc_is_within (fun vs H Q E h => ?_) (fun cdv A outer s H vs Q E hr h => ?_)
  · obtain ⟨_, _, _, rfl, _⟩ := h
    rfl
  · obtain ⟨i, a, b, rfl, k⟩ := h
    refine ⟨_, (pss_one (ps_ret (pe_and (pe_cl C_is_integer hr (pa_cons (pv 0) pa_nil)) (pe_one (pe_chain op_le op_le (pv 1) (pv 0) (pv 2)))))), ?_⟩
    exact s_ret (v := .bl (decide (a ≤ i) && decide (i ≤ b))) (ev_is (ev_andV (ev_call (ea_cons (ev_var rfl) ea_nil) fun H1 e1 Q q E => ⟨i, rfl, q⟩) fun _ => ev_chain (ev_var rfl) (ev_var rfl) rv_I0 (ev_var rfl) rv_I0) (by simp)) k
def sp_indexes : Sp := fun vs H Q _ => ∃ (pl pc : Addr) (lot : List Tx) (c : List Nat), vs = [.ref pl, .ref pc] ∧ LotAt pl lot H ∧ H pc = some (.lst (numV c)) ∧ Ixs lot c ∧ c.length ≤ 400 ∧ RetV (.bl true) H Q
theorem ok_are_indexes {f : Addr} {fd : FuncData} (F : Fun K "are_indexes" "are_indexes" st_are_indexes f fd) (M : Md K mg) (C_is_within : Cal P w K mg base "is_within" st_is_within 2 ["thing", "least", "most"] sp_is_within) : FnOk P w K mg base CX0 3 f fd ["lot", "thing"] sp_indexes := by
  have nd := sc_are_indexes.nd
  refine F.ok sc_are_indexes (fun vs H Q E h => ?_) (fun cdv A outer s H vs Q E hr h => ?_)
  · obtain ⟨_, _, _, _, rfl, _⟩ := h
    rfl
  · obtain ⟨pl, pc, lot, c, rfl, hL, hc, hix, hcl, k⟩ := h
    refine ⟨_, (pss_cons (ps_if (PW.pt (pw_or (pt_not (pt_val (pe_callB (kcr K (r := rIsiB) cr_isi) (by rfl) M.n_isinstance boot_isinstance (pa_cons (pv 1) (pa_cons (pe_bltn (v := .ty "list") rfl M.n_list boot_list rfl) pa_nil))))) (pw_or1 (pt_cmpR op_gt (pe_callB (kcr K (r := rLenS) call_len_seq) (by rfl) M.n_len boot_len (pa_cons (pv 1) pa_nil)) (pe_gI M.c_MOST_INDEXES) (nomark _)))))
  (pss_one (ps_ret pe_bl))
  pss_nil)
  (pss_one (ps_ret (pe_callB (kcr K (r := rAll) (cr_all rfl)) (by rfl) M.n_all boot_all (pa_cons (pe_lc (own := [("index", 2)]) rfl nd (kil K (pi_list (pv 1))) (blkOk_by (N := N_are_indexes) (sc := defScope st_are_indexes) (by decide +kernel)) (fun _ _ _ _ _ => (pg_name (i := 2) nd rfl (Or.inl rfl))) (fun _ _ _ _ _ => pts_nil) (fun _ _ _ _ _ => (pe_cl C_is_within hr (pa_cons (pv 2) (pa_cons pe_int (pa_cons (pe_op op_sub (pe_callB (kcr K (r := rLenS) call_len_seq) (by rfl) M.n_len boot_len (pa_cons (pv 0) pa_nil)) pe_int) pa_nil)))))) pa_nil))))), ?_⟩
    refine q_when (b := false) (et_is (et_or (et_not (et_B (ev_cb (ea_cons (ev_var rfl) (ea_cons ev_c ea_nil)) (rc_isi (b := true) (fun H1 e => .base (.lst (e _ _ hc))) k_list_list)))) fun _ => et_test (ev_op (ev_len (ev_var rfl) (sq_of hc)) ev_c rv_I0)) ?_) (fun z => by cases z) (fun _ H1 e1 => ?_)
    · unfold numV
      rw [List.length_map]
      simp
      omega
    have hc1 := e1 _ _ hc
    have hfew := hL.2.few
    refine s_ret (v := .bl true) (ev_is (ev_cbL (el_lcM (j := 2) (vs := [2]) (f := fun (n : Nat) => V.int (n : Int)) (g := fun _ => V.bl true) c (src_listM (ev_var rfl) (sq_of hc1)) (by omega) (fun _ => rfl) fun i H2 e2 hi => ?_) fun p H2 hp e2 => rc_allM (f := fun _ => true) (sq_of hp)) (by simp)) (RetV.mono k e1)
    have hil := hix i hi
    refine ev_is (ev_call (ea_cons (ev_var rfl) (ea_cons ev_c (ea_cons (ev_op (ev_lenU (ev_var rfl) (st_of ((e1.trans e2) _ _ hL.1))) ev_c rv_I0) ea_nil))) fun H3 e3 Q q E => ⟨(i : Int), 0, ((lot.map T).length : Int) - 1, rfl, q⟩) ?_
    rw [List.length_map, decide_eq_true (by omega), decide_eq_true (by omega)]
    rfl
def sp_need_indexes : Sp := fun vs H Q _ => ∃ (pl pc : Addr) (lot : List Tx) (c : List Nat), vs = [.ref pl, .ref pc] ∧ LotAt pl lot H ∧ H pc = some (.lst (numV c)) ∧ Ixs lot c ∧ c.length ≤ 400 ∧ RetV .non H Q
theorem ok_need_indexes {f : Addr} {fd : FuncData} (F : Fun K "need_indexes" "need_indexes" st_need_indexes f fd) (M : Md K mg) (C_are_indexes : Cal P w K mg base "are_indexes" st_are_indexes 3 ["lot", "thing"] sp_indexes) : FnOk P w K mg base CX0 4 f fd ["lot", "indexes"] sp_need_indexes := by
  have nd := sc_need_indexes.nd
  refine F.ok sc_need_indexes (fun vs H Q E h => ?_) (fun cdv A outer s H vs Q E hr h => ?_)
  · obtain ⟨_, _, _, _, rfl, _⟩ := h
    rfl
  · obtain ⟨pl, pc, lot, c, rfl, hL, hc, hix, hcl, k⟩ := h
    refine ⟨_, (pss_one (ps_if (pt_not (pt_val (pe_cl C_are_indexes hr (pa_cons (pv 0) (pa_cons (pv 1) pa_nil)))))
  (pss_one ps_never)
  pss_nil)), ?_⟩
    exact s_when (b := false) (et_is (et_not (et_B (ev_call (ea_cons (ev_var rfl) (ea_cons (ev_var rfl) ea_nil)) fun H1 e1 Q q E => ⟨pl, pc, lot, c, rfl, hL.ex e1, e1 _ _ hc, hix, hcl, q⟩))) rfl) (fun z => by cases z) (fun _ => k)
theorem put_bound {lot : List Tx} (hL : IsLot lot) : ∀ c : List Nat, (put lot c).length ≤ 12 * c.length := fun c => by
  induction c with
  | nil => exact Nat.le_refl _
  | cons i c ih =>
    have : (lot.getD i []).length ≤ 12 := by
      rw [List.getD_eq_getElem?_getD]
      cases h : lot[i]? with
      | none => simp
      | some wd => exact (hL.wd wd (List.mem_of_getElem? h)).1
    rw [put_cons, List.length_append, List.length_cons]
    omega
theorem put_abcd {lot : List Tx} (hL : IsLot lot) : ∀ c : List Nat, ∀ s ∈ put lot c, abcd s := fun c => by
  induction c with
  | nil => exact fun s hs => nomatch hs
  | cons i c ih =>
    intro s hs
    rw [put_cons] at hs
    rcases List.mem_append.mp hs with z | z
    · rw [List.getD_eq_getElem?_getD] at z
      cases h : lot[i]? with
      | none => rw [h] at z; cases z
      | some wd =>
        rw [h] at z
        exact (hL.wd wd (List.mem_of_getElem? h)).2 s z
    · exact ih s z
/-- the words of a list of indexes, one behind the other -/
theorem ev_put {i j l : Nat} {pl pc : Addr} {lot : List Tx} {c : List Nat} {σ : L2.St} {H : Hp} (hL : LotAt pl lot H) (hc : H pc = some (.lst (numV c))) (hix : Ixs lot c) (hcl : c.length ≤ 1000) (hi : σ[i]? = some (some (.ref pl))) (hj : σ[j]? = some (some (.ref pc))) (hw : ∀ x, wipe ((wipe σ [l]).set l (some x)) [l] = wipe σ [l]) (hil : ∀ x, ((wipe σ [l]).set l (some x))[i]? = some (some (.ref pl))) (hll : ∀ x, ((wipe σ [l]).set l (some x))[l]? = some (some x)) :
    Ev (tBM K "str" (rJoinT K) (tC (T [])) (tCons (tLc (iList K (tVar j)) (gName l) tYes (tOp (L2.rIxT K) (tVar i) (tVar l)) [l]) tNil)) σ H (T (put lot c)) := by
  refine ev_bmTL ev_c (xs := (c.map fun i => lot.getD i []).map T) ?_ fun p H1 hp e1 => rm_join (.inl (sq_of hp)) ?_
  · rw [List.map_map]
    refine el_lcM (j := l) (vs := [l]) (f := fun (n : Nat) => V.int (n : Int)) (g := fun i => T (lot.getD i [])) c (src_listM (ev_var hj) (sq_of hc)) (by omega) hw fun t H2 e2 ht => ?_
    have htl := hix t ht
    exact ev_op (ev_var (hil _)) (ev_var (hll _)) (rv_ixT (st_of (e2 _ _ hL.1)) (atI_nat (by rw [List.getElem?_map, List.getD_eq_getElem?_getD, List.getElem?_eq_getElem htl]; rfl)))
  · have := put_bound hL.2 c
    unfold put at this
    rw [List.length_flatten] at this
    omega
def sp_need_few (CE : Addr) : Sp := fun vs H Q E => ∃ (t : Tx), vs = [T t] ∧ t.length ≤ 16000000 ∧ (t.length ≤ 400 → RetV (T t) H Q) ∧ (400 < t.length → ∀ H', Ex H H' → E (.ref CE) none H')
theorem ok_need_few_signs {f CE : Addr} {fd : FuncData} (F : Fun K "need_few_signs" "need_few_signs" st_need_few_signs f fd) (M : Md K mg) (E_TooMany : Err K mg "TooMany" CE) : FnOk P w K mg base (L2.CX P w) 1 f fd ["text"] (sp_need_few CE) := by
  have nd := sc_need_few_signs.nd
  refine F.okX sc_need_few_signs (fun vs H Q E h => ?_) (fun cdv A outer s H vs Q E hr h => ?_)
  · obtain ⟨_, rfl, _⟩ := h
    rfl
  · obtain ⟨t, rfl, hl, k1, k2⟩ := h
    refine ⟨_, (pss_cons (ps_if (pt_cmpR op_gt (pe_callB cr_lenT (by rfl) M.n_len boot_len (pa_cons (pv 0) pa_nil)) (pe_gI M.c_MOST_SIGNS) (nomark _))
  (pss_one (ps_raiseE rfl (takes_of rfl rfl rfl rfl) E_TooMany))
  pss_nil)
  (pss_one (ps_ret (pv 0)))), ?_⟩
    refine q_when (b := decide (400 < t.length)) (et_is (et_test (ev_op (ev_cb (ea_cons (ev_var rfl) ea_nil) (rc_lenT (by omega))) ev_c rv_I0)) (decide_eq_decide.mpr (by omega))) (fun hb H1 e1 => k2 (of_decide_eq_true hb) H1 e1) (fun hb H1 e1 => ?_)
    have := of_decide_eq_false hb
    exact s_ret (ev_var rfl) (RetV.mono (k1 (by omega)) e1)
def sp_together (CE : Addr) : Sp := fun vs H Q E => ∃ (pl pc : Addr) (lot : List Tx) (c : List Nat), vs = [.ref pl, .ref pc] ∧ LotAt pl lot H ∧ H pc = some (.lst (numV c)) ∧ Ixs lot c ∧ c.length ≤ 400 ∧ ((put lot c).length ≤ 400 → RetV (T (put lot c)) H Q) ∧ (400 < (put lot c).length → ∀ H', Ex H H' → E (.ref CE) none H')
theorem ok_put_together {f CE : Addr} {fd : FuncData} (F : Fun K "put_together" "put_together" st_put_together f fd) (M : Md K mg) (C_need_lot : Cal P w K mg base "need_lot" st_need_lot 4 ["lot"] sp_need_lot) (C_need_indexes : Cal P w K mg base "need_indexes" st_need_indexes 4 ["lot", "indexes"] sp_need_indexes) (S_need_few_signs : CalS P w K mg base "need_few_signs" st_need_few_signs 1 ["text"] (sp_need_few CE)) : FnOk P w K mg base (L2.CX P w) 5 f fd ["lot", "indexes"] (sp_together CE) := by
  have nd := sc_put_together.nd
  refine F.okX sc_put_together (fun vs H Q E h => ?_) (fun cdv A outer s H vs Q E hr h => ?_)
  · obtain ⟨_, _, _, _, rfl, _⟩ := h
    rfl
  · obtain ⟨pl, pc, lot, c, rfl, hL, hc, hix, hcl, k1, k2⟩ := h
    refine ⟨_, (pss_cons (ps_expr (pe_cl C_need_lot hr (pa_cons (pv 0) pa_nil)))
  (pss_cons (ps_expr (pe_cl C_need_indexes hr (pa_cons (pv 0) (pa_cons (pv 1) pa_nil))))
  (pss_one (ps_ret (pe_clS S_need_few_signs hr (takes_of rfl rfl rfl rfl) (pa_cons (kbm K (pe_bm PySem.F.plainAttrs_str PySem.F.slot_str_join PySem.F.type_str_join (kmt K (r := rJoinT) mt_joinT) (pe_sT []) (pa_cons (pe_lc (own := [("index", 2)]) rfl nd (kil K (pi_list (pv 1))) (blkOk_by (N := N_put_together) (sc := defScope st_put_together) (by decide +kernel)) (fun _ _ _ _ _ => (pg_name (i := 2) nd rfl (Or.inl rfl))) (fun _ _ _ _ _ => pts_nil) (fun _ _ _ _ _ => (pe_ix (kix K (r := L2.rIxT) ix_tup) (pv 0) (pv 2) (fun _ _ => rfl)))) pa_nil))) pa_nil)))))), ?_⟩
    refine q_drop (ev_call (ea_cons (ev_var rfl) ea_nil) fun H1 e1 Q q E => ⟨pl, lot, rfl, hL.ex e1, q⟩) fun H1 e1 => ?_
    refine q_drop (ev_call (ea_cons (ev_var rfl) (ea_cons (ev_var rfl) ea_nil)) fun H2 e2 Q q E => ⟨pl, pc, lot, c, rfl, hL.ex (e1.trans e2), (e1.trans e2) _ _ hc, hix, hcl, q⟩) fun H2 e2 => ?_
    have e12 := e1.trans e2
    refine (ev_put (i := 0) (j := 1) (l := 2) (hL.ex e12) (e12 _ _ hc) hix (by omega) rfl rfl (fun _ => rfl) (fun _ => rfl) (fun _ => rfl) : Ev (tBM K "str" (rJoinT K) (tC (T [])) (tCons (tLc (iList K (tVar 1)) (gName 2) tYes (tOp (L2.rIxT K) (tVar 0) (tVar 2)) [2]) tNil)) (start N_put_together [.ref pl, .ref pc]) H2 (T (put lot c))) H2 (Ex.refl _) _ fun H3 e3 => ?_
    have := put_bound hL.2 c
    exact ⟨put lot c, rfl, by omega, fun z => RetV.mono (k1 z) (e12.trans e3), fun z H' e' => k2 z H' ((e12.trans e3).trans e')⟩

theorem ok_is_lot {f : Addr} {fd : FuncData} (F : Fun K "is_lot" "is_lot" st_is_lot f fd) (M : Md K mg) (C_is_lot_form : Cal P w K mg base "is_lot_form" st_is_lot_form 3 ["thing"] sp_lot_form) : FnOk P w K mg base CX0 4 f fd ["thing"] sp_lot_form := by
  have nd := sc_is_lot.nd
  refine F.ok sc_is_lot (fun vs H Q E h => ?_) (fun cdv A outer s H vs Q E hr h => ?_)
  · obtain ⟨_, _, rfl, _⟩ := h
    rfl
  · obtain ⟨v, o, rfl, ht, hs, k⟩ := h
    refine ⟨_, (pss_one (ps_ret (pe_cl C_is_lot_form hr (pa_cons (pv 0) pa_nil)))), ?_⟩
    exact s_ret (ev_call (ea_cons (ev_var rfl) ea_nil) fun H1 e1 Q q E => ⟨v, o, rfl, ht.ex e1, hs, q⟩) k
def sp_signs_of : Sp := fun vs H Q _ => ∃ (p : Addr) (lot : List Tx), vs = [.ref p] ∧ LotAt p lot H ∧ RetV (T (signL lot)) H Q
theorem ok_signs_of {f : Addr} {fd : FuncData} (F : Fun K "signs_of" "signs_of" st_signs_of f fd) (M : Md K mg) (C_need_lot : Cal P w K mg base "need_lot" st_need_lot 4 ["lot"] sp_need_lot) : FnOk P w K mg base CX0 5 f fd ["lot"] sp_signs_of := by
  have nd := sc_signs_of.nd
  refine F.ok sc_signs_of (fun vs H Q E h => ?_) (fun cdv A outer s H vs Q E hr h => ?_)
  · obtain ⟨_, _, rfl, _⟩ := h
    rfl
  · obtain ⟨p, lot, rfl, hL, k⟩ := h
    refine ⟨_, (pss_cons (ps_expr (pe_cl C_need_lot hr (pa_cons (pv 0) pa_nil)))
  (pss_one (ps_ret (kbm K (pe_bm PySem.F.plainAttrs_str PySem.F.slot_str_join PySem.F.type_str_join (kmt K (r := rJoinT) mt_joinT) (pe_sT []) (pa_cons (pe_callB (ksorted P w K hr.units) (by rfl) M.n_sorted boot_sorted (pa_cons (pe_callTy (ksetT (P := P) (w := w)) (by rfl) M.n_set boot_set (pa_cons (kbm K (pe_bm PySem.F.plainAttrs_str PySem.F.slot_str_join PySem.F.type_str_join (kmt K (r := rJoinT) mt_joinT) (pe_sT []) (pa_cons (pv 0) pa_nil))) pa_nil)) pa_nil)) pa_nil)))))), ?_⟩
    have hb := flat_bound hL.2
    refine q_drop (ev_call (ea_cons (ev_var rfl) ea_nil) fun H1 e1 Q q E => ⟨p, lot, rfl, hL.ex e1, q⟩) fun H1 e1 => ?_
    refine s_ret (ev_bmTL ev_c (el_sortSetT (ev_joinU (i := 0) rfl (hL.ex e1).1 (by omega)) (by omega)) fun q H2 hq e2 => rm_join (.inl (sq_of hq)) ?_) (RetV.mono k e1)
    rw [← flat_len]
    have h1 : ∀ l : List Tx, (∀ t ∈ l, t.length ≤ 1) → l.flatten.length ≤ l.length := by
      intro l
      induction l with
      | nil => intro _; exact Nat.le_refl _
      | cons t l ih =>
        intro hl
        rw [List.flatten_cons, List.length_append, List.length_cons]
        have a1 := hl t List.mem_cons_self
        have a2 := ih fun x hx => hl x (List.mem_cons_of_mem _ hx)
        omega
    have h2 := h1 (setS (sgs lot.flatten)) fun t ht => by
      obtain ⟨c, _, rfl⟩ := List.mem_map.mp (mem_setS.mp ht)
      exact Nat.le_refl _
    have h3 := setS_len (sgs lot.flatten)
    have h4 : (sgs lot.flatten).length = lot.flatten.length := List.length_map _
    omega
def sp_longest : Sp := fun vs H Q _ => ∃ (p : Addr) (lot : List Tx), vs = [.ref p] ∧ LotAt p lot H ∧ RetV (.int ((longL lot : Nat) : Int)) H Q
/-- max of the lengths -/
theorem ev_maxLen {σ : L2.St} {H : Hp} {i j : Nat} {vs : List Nat} {p : Addr} {lot : List Tx} (h0 : σ[i]? = some (some (.ref p))) (hL : LotAt p lot H) (hw : ∀ x, wipe ((wipe σ vs).set j (some x)) vs = wipe σ vs) (hj : ∀ x, ((wipe σ vs).set j (some x))[j]? = some (some x)) : Ev (tCB (rMax K) (tCons (tLc (iTup K (tVar i)) (gName j) tYes (tCB rLenT (tCons (tVar j) tNil)) vs) tNil)) σ H (.int ((longL lot : Nat) : Int)) := by
  refine ev_cbL (xs := lot.map fun t => V.int (t.length : Int)) (el_lcM lot (src_tupM (ev_var h0) (st_of hL.1)) (by have := hL.2.few; omega) hw fun t H1 e1 ht => ev_cb (ea_cons (ev_var (hj _)) ea_nil) (rc_lenT (by have := (hL.2.wd t ht).1; omega))) fun q H1 hq e1 H2 e2 Q k => ?_
  refine ⟨q, lot.map fun t => (t.length : Int), rfl, ex_l e2 (sq_of (by rw [hq, List.map_map]; rfl)), by rw [List.length_map]; exact List.length_pos_iff.mpr hL.2.ne, fun m h1 h2 => ?_⟩
  have hm : m = ((longL lot : Nat) : Int) := by
    obtain ⟨t, ht, rfl⟩ := List.mem_map.mp h1
    have a1 : t.length ≤ longL lot := foldr_max (List.mem_map.mpr ⟨t, ht, rfl⟩)
    have hne : lot.map List.length ≠ [] := fun z => hL.2.ne (List.map_eq_nil_iff.mp z)
    obtain ⟨u, hu, he⟩ := List.mem_map.mp (foldr_mem hne)
    have a2 := h2 (u.length : Int) (List.mem_map.mpr ⟨u, hu, rfl⟩)
    have a3 : longL lot = u.length := he.symm
    omega
  rw [hm]
  exact k H2 (Ex.refl _)
theorem ok_longest {f : Addr} {fd : FuncData} (F : Fun K "longest" "longest" st_longest f fd) (M : Md K mg) (C_need_lot : Cal P w K mg base "need_lot" st_need_lot 4 ["lot"] sp_need_lot) : FnOk P w K mg base CX0 5 f fd ["lot"] sp_longest := by
  have nd := sc_longest.nd
  refine F.ok sc_longest (fun vs H Q E h => ?_) (fun cdv A outer s H vs Q E hr h => ?_)
  · obtain ⟨_, _, rfl, _⟩ := h
    rfl
  · obtain ⟨p, lot, rfl, hL, k⟩ := h
    refine ⟨_, (pss_cons (ps_expr (pe_cl C_need_lot hr (pa_cons (pv 0) pa_nil)))
  (pss_one (ps_ret (pe_callB (kcr K (r := rMax) (cr_max rfl)) (by rfl) M.n_max boot_max (pa_cons (pe_lc (own := [("word", 1)]) rfl nd (kit K (pi_tup (pv 0))) (blkOk_by (N := N_longest) (sc := defScope st_longest) (by decide +kernel)) (fun _ _ _ _ _ => (pg_name (i := 1) nd rfl (Or.inl rfl))) (fun _ _ _ _ _ => pts_nil) (fun _ _ _ _ _ => (pe_callB cr_lenT (by rfl) M.n_len boot_len (pa_cons (pv 1) pa_nil)))) pa_nil))))), ?_⟩
    refine q_drop (ev_call (ea_cons (ev_var rfl) ea_nil) fun H1 e1 Q q E => ⟨p, lot, rfl, hL.ex e1, q⟩) fun H1 e1 => ?_
    exact s_ret (ev_maxLen rfl (hL.ex e1) (fun _ => rfl) (fun _ => rfl)) (RetV.mono k e1)
theorem need_ok {t : Tx} (hT : Ok t) {H1 : Hp} {Q : VK} {E : XK} (q : RetV .non H1 Q) : sp_need_text [T t] H1 Q E := ⟨t, rfl, hT.len, hT.sg, q⟩
theorem need_some {t : Tx} (hT : Ok t) (hne : t ≠ []) {H1 : Hp} {Q : VK} {E : XK} (q : RetV .non H1 Q) : sp_need_some [T t] H1 Q E := ⟨t, rfl, hT.len, hT.sg, hne, q⟩
theorem ok_borders {f : Addr} {fd : FuncData} (F : Fun K "borders" "borders" st_borders f fd) (M : Md K mg) (C_need_text : Cal P w K mg base "need_text" st_need_text 3 ["text"] sp_need_text) (C_border_lengths : Cal P w K mg base "border_lengths" st_border_lengths 1 ["text"] sp_borders) : FnOk P w K mg base CX0 4 f fd ["text"] sp_borders := by
  have nd := sc_borders.nd
  refine F.ok sc_borders (fun vs H Q E h => ?_) (fun cdv A outer s H vs Q E hr h => ?_)
  · obtain ⟨_, rfl, _⟩ := h
    rfl
  · obtain ⟨t, rfl, hT, k⟩ := h
    refine ⟨_, (pss_cons (ps_expr (pe_cl C_need_text hr (pa_cons (pv 0) pa_nil)))
  (pss_one (ps_ret (pe_cl C_border_lengths hr (pa_cons (pv 0) pa_nil))))), ?_⟩
    refine q_drop (ev_call (ea_cons (ev_var rfl) ea_nil) fun H1 e1 Q q E => need_ok hT q) fun H1 e1 => ?_
    exact s_retL (el_call (ea_cons (ev_var rfl) ea_nil) fun H2 e2 Q q E => ⟨t, rfl, hT, q⟩) (RetL.mono k e1)
def sp_periods : Sp := fun vs H Q _ => ∃ (t : Tx), vs = [T t] ∧ Ok t ∧ RetL (numV (perL t)) H Q
theorem ok_periods {f : Addr} {fd : FuncData} (F : Fun K "periods" "periods" st_periods f fd) (M : Md K mg) (C_need_text : Cal P w K mg base "need_text" st_need_text 3 ["text"] sp_need_text) (C_border_lengths : Cal P w K mg base "border_lengths" st_border_lengths 1 ["text"] sp_borders) : FnOk P w K mg base CX0 4 f fd ["text"] sp_periods := by
  have nd := sc_periods.nd
  refine F.ok sc_periods (fun vs H Q E h => ?_) (fun cdv A outer s H vs Q E hr h => ?_)
  · obtain ⟨_, rfl, _⟩ := h
    rfl
  · obtain ⟨t, rfl, hT, k⟩ := h
    refine ⟨_, (pss_cons (ps_expr (pe_cl C_need_text hr (pa_cons (pv 0) pa_nil)))
  (pss_cons (ps_set (i := 1) nd rfl (Or.inl rfl) (pe_op op_cat (pe_lc (own := [("many", 2)]) rfl nd (kil K (pi_list (pe_cl C_border_lengths hr (pa_cons (pv 0) pa_nil)))) (blkOk_by (N := N_periods) (sc := defScope st_periods) (by decide +kernel)) (fun _ _ _ _ _ => (pg_name (i := 2) nd rfl (Or.inl rfl))) (fun _ _ _ _ _ => pts_nil) (fun _ _ _ _ _ => (pe_op op_sub (pe_callB cr_lenT (by rfl) M.n_len boot_len (pa_cons (pv 0) pa_nil)) (pv 2)))) (pe_lst (pa_cons (pe_callB cr_lenT (by rfl) M.n_len boot_len (pa_cons (pv 0) pa_nil)) pa_nil))))
  (pss_one (ps_ret (pe_ifExp (pt_cmpR op_neT (pv 0) (pe_sT []) (nomark _)) (pe_callB (kcr K (r := rSortedI) cr_sortedI) (by rfl) M.n_sorted boot_sorted (pa_cons (pv 1) pa_nil)) (pe_lst pa_nil)))))), ?_⟩
    have hl := hT.len
    have hbl : (bordL t).length ≤ 400 := by
      unfold bordL
      exact Nat.le_trans (List.length_filter_le _ _) (by rw [List.length_range']; omega)
    have hlen : ∀ {σ : L2.St} {H1 : Hp}, σ[0]? = some (some (T t)) → Ev (tCB rLenT (tCons (tVar 0) tNil)) σ H1 (.int (t.length : Int)) := fun h0 => ev_cb (ea_cons (ev_var h0) ea_nil) (rc_lenT (by omega))
    refine q_drop (ev_call (ea_cons (ev_var rfl) ea_nil) fun H1 e1 Q q E => need_ok hT q) fun H1 e1 => ?_
    have hc : EvL (tOp rCat (tLc (iList K (tCall sp_borders [] E0 (tCons (tVar 0) tNil))) (gName 2) tYes (tOp (rI0 fun i j => .int (i - j)) (tCB rLenT (tCons (tVar 0) tNil)) (tVar 2)) [2]) (tLst (tCons (tCB rLenT (tCons (tVar 0) tNil)) tNil))) (start N_periods [T t]) H1 (numV ((bordL t).map (fun b => t.length - b) ++ [t.length])) := by
      have e : numV ((bordL t).map (fun b => t.length - b) ++ [t.length]) = ((bordL t).map fun (b : Nat) => V.int ((t.length : Int) - (b : Int))) ++ [.int (t.length : Int)] := by
        unfold numV
        rw [List.map_append, List.map_map]
        congr 1
        refine List.map_congr_left fun b hb => ?_
        have := (bordL_mem.mp hb).2.1
        show V.int ((t.length - b : Nat) : Int) = _
        congr 1
        omega
      rw [e]
      exact el_catNN (el_lcM (j := 2) (vs := [2]) (f := fun (b : Nat) => V.int (b : Int)) (g := fun (b : Nat) => V.int ((t.length : Int) - (b : Int))) (bordL t) (src_newLM (el_call (xs := numV (bordL t)) (ea_cons (ev_var rfl) ea_nil) fun H2 e2 Q q E => ⟨t, rfl, hT, q⟩)) (by omega) (fun _ => rfl) fun b H2 e2 hb => ev_op (hlen rfl) (ev_var rfl) rv_I0) (el_lst (ea_cons (hlen rfl) ea_nil) (by show 1 ≤ 100000; decide)) (by rw [List.length_map]; show _ + 1 ≤ _; omega)
    refine q_asgL hc fun pf H2 hpf e2 h2 => ?_
    show tRet _ _ [some (T t), some (.ref pf), none] H2
    have e12 := e1.trans e2
    have key : EvL (tIf (tTest (tOp rNeT (tVar 0) (tC (T [])))) (tCB (rSortedI K) (tCons (tVar 1) tNil)) (tLst tNil)) [some (T t), some (.ref pf), none] H2 (numV (perL t)) := by
      intro H3 e3 Q3 q3
      by_cases hne : t = []
      · refine (et_is (et_test (ev_op (ev_var rfl) ev_c rv_neT)) (by rw [decide_eq_true hne]; rfl) : EvT _ _ H3 false) H3 (Ex.refl _) _ fun H4 e4 => ?_
        rw [if_neg Bool.false_ne_true]
        have hp0 : perL t = [] := by rw [hne]; rfl
        rw [hp0] at q3
        exact (el_lst ea_nil (by decide) : EvL _ _ H4 _) H4 (Ex.refl _) _ fun p H5 hp e5 h5 => q3 p H5 (fresh_back e4 hp) (e4.trans e5) h5
      · refine (et_is (et_test (ev_op (ev_var rfl) ev_c rv_neT)) (by rw [decide_eq_false hne]; rfl) : EvT _ _ H3 true) H3 (Ex.refl _) _ fun H4 e4 => ?_
        rw [if_pos rfl]
        refine ⟨.ref pf, rfl, pf, ((bordL t).map (fun b => t.length - b) ++ [t.length]).map fun (n : Nat) => (n : Int), rfl, sq_of (by rw [(e3.trans e4) _ _ h2]; unfold numV; rw [List.map_map (g := V.int)]; rfl), fun ns' q pn pw hq => ?_⟩
        have : ns' = (perL t).map fun (n : Nat) => (n : Int) := _root_.Wd.sorted_is pw (List.pairwise_map.mpr ((perL_asc t).imp fun h => by omega)) (pn.trans ((per_perm hne).map _))
        rw [this]
        refine q3 q _ (fresh_back e4 hq) (e4.trans (Ex.new hq)) ?_
        rw [upd_same]
        unfold numV
        rw [List.map_map]
        rfl
    exact s_retL key (RetL.mono k e12)
theorem ok_root_of {f : Addr} {fd : FuncData} (F : Fun K "root_of" "root_of" st_root_of f fd) (M : Md K mg) (C_need_some_text : Cal P w K mg base "need_some_text" st_need_some_text 3 ["text"] sp_need_some) (C_root_in : Cal P w K mg base "root_in" st_root_in 1 ["text"] sp_root) : FnOk P w K mg base CX0 4 f fd ["text"] sp_root := by
  have nd := sc_root_of.nd
  refine F.ok sc_root_of (fun vs H Q E h => ?_) (fun cdv A outer s H vs Q E hr h => ?_)
  · obtain ⟨_, rfl, _⟩ := h
    rfl
  · obtain ⟨t, rfl, hT, hne, k⟩ := h
    refine ⟨_, (pss_cons (ps_expr (pe_cl C_need_some_text hr (pa_cons (pv 0) pa_nil)))
  (pss_one (ps_ret (pe_cl C_root_in hr (pa_cons (pv 0) pa_nil))))), ?_⟩
    refine q_drop (ev_call (ea_cons (ev_var rfl) ea_nil) fun H1 e1 Q q E => need_some hT hne q) fun H1 e1 => ?_
    exact s_retC (ea_cons (ev_var rfl) ea_nil) fun H2 e2 => ⟨t, rfl, hT, hne, fun m hm => RetU.mono (k m hm) (e1.trans e2)⟩
def sp_primitive : Sp := fun vs H Q _ => ∃ (t : Tx), vs = [T t] ∧ Ok t ∧ t ≠ [] ∧ ∀ m, IsRoot t m → RetV (.bl (decide (m = t.length))) H Q
theorem ok_is_primitive {f : Addr} {fd : FuncData} (F : Fun K "is_primitive" "is_primitive" st_is_primitive f fd) (M : Md K mg) (C_need_some_text : Cal P w K mg base "need_some_text" st_need_some_text 3 ["text"] sp_need_some) (C_root_in : Cal P w K mg base "root_in" st_root_in 1 ["text"] sp_root) : FnOk P w K mg base CX0 4 f fd ["text"] sp_primitive := by
  have nd := sc_is_primitive.nd
  refine F.ok sc_is_primitive (fun vs H Q E h => ?_) (fun cdv A outer s H vs Q E hr h => ?_)
  · obtain ⟨_, rfl, _⟩ := h
    rfl
  · obtain ⟨t, rfl, hT, hne, k⟩ := h
    refine ⟨_, (pss_cons (ps_expr (pe_cl C_need_some_text hr (pa_cons (pv 0) pa_nil)))
  (pss_one (ps_ret (pe_cmpR op_eqI (pe_ix (kix K (r := L2.rIxT) ix_tup) (pe_cl C_root_in hr (pa_cons (pv 0) pa_nil)) pe_int (fun _ _ => rfl)) pe_int (nomark _))))), ?_⟩
    refine q_drop (ev_call (ea_cons (ev_var rfl) ea_nil) fun H1 e1 Q q E => need_some hT hne q) fun H1 e1 => ?_
    refine ⟨T t, rfl, t, rfl, hT, hne, fun m hm p H2 hp e2 h2 => ?_⟩
    refine ⟨p, _, _, _, rfl, rfl, st_of h2, atI_nat (j := 1) rfl, (_ : Int), 1, rfl, rfl, ?_⟩
    have hmm : decide (((t.length / m : Nat) : Int) = 1) = decide (m = t.length) := by
      obtain ⟨m0, m1, m2, _⟩ := hm
      have hmul : t.length / m * m = t.length := Nat.div_mul_cancel (Nat.dvd_of_mod_eq_zero m2)
      refine decide_eq_decide.mpr ⟨fun z => ?_, fun z => ?_⟩
      · have z : t.length / m = 1 := by omega
        rw [z] at hmul
        omega
      · rw [← z, Nat.div_self m0]
        rfl
    show Q (.bl (decide (((t.length / m : Nat) : Int) = 1))) H2
    rw [hmm]
    exact k m hm H2 (e1.trans e2)
theorem ok_turns_of {f : Addr} {fd : FuncData} (F : Fun K "turns_of" "turns_of" st_turns_of f fd) (M : Md K mg) (C_need_text : Cal P w K mg base "need_text" st_need_text 3 ["text"] sp_need_text) (C_turns_in : Cal P w K mg base "turns_in" st_turns_in 1 ["text"] sp_turns) : FnOk P w K mg base CX0 4 f fd ["text"] sp_turns := by
  have nd := sc_turns_of.nd
  refine F.ok sc_turns_of (fun vs H Q E h => ?_) (fun cdv A outer s H vs Q E hr h => ?_)
  · obtain ⟨_, rfl, _⟩ := h
    rfl
  · obtain ⟨t, rfl, hT, k⟩ := h
    refine ⟨_, (pss_cons (ps_expr (pe_cl C_need_text hr (pa_cons (pv 0) pa_nil)))
  (pss_one (ps_ret (pe_cl C_turns_in hr (pa_cons (pv 0) pa_nil))))), ?_⟩
    refine q_drop (ev_call (ea_cons (ev_var rfl) ea_nil) fun H1 e1 Q q E => need_ok hT q) fun H1 e1 => ?_
    exact s_retL (el_call (ea_cons (ev_var rfl) ea_nil) fun H2 e2 Q q E => ⟨t, rfl, hT, q⟩) (RetL.mono k e1)
theorem turns_ne (t : Tx) : setS (turnL t) ≠ [] := fun z => by
  have : t.drop 0 ++ t.take 0 ∈ setS (turnL t) := mem_setS.mpr (List.mem_map.mpr ⟨0, List.mem_range.mpr (by omega), rfl⟩)
  rw [z] at this
  cases this
def sp_least : Sp := fun vs H Q _ => ∃ (t : Tx), vs = [T t] ∧ Ok t ∧ RetV (T ((setS (turnL t)).headD [])) H Q
theorem ok_least_turn {f : Addr} {fd : FuncData} (F : Fun K "least_turn" "least_turn" st_least_turn f fd) (M : Md K mg) (C_need_text : Cal P w K mg base "need_text" st_need_text 3 ["text"] sp_need_text) (C_turns_in : Cal P w K mg base "turns_in" st_turns_in 1 ["text"] sp_turns) : FnOk P w K mg base CX0 4 f fd ["text"] sp_least := by
  have nd := sc_least_turn.nd
  refine F.ok sc_least_turn (fun vs H Q E h => ?_) (fun cdv A outer s H vs Q E hr h => ?_)
  · obtain ⟨_, rfl, _⟩ := h
    rfl
  · obtain ⟨t, rfl, hT, k⟩ := h
    refine ⟨_, (pss_cons (ps_expr (pe_cl C_need_text hr (pa_cons (pv 0) pa_nil)))
  (pss_one (ps_ret (pe_ix (kix K (r := L2.rIxL) ix_list) (pe_cl C_turns_in hr (pa_cons (pv 0) pa_nil)) pe_int (fun _ _ => rfl))))), ?_⟩
    refine q_drop (ev_call (ea_cons (ev_var rfl) ea_nil) fun H1 e1 Q q E => need_ok hT q) fun H1 e1 => ?_
    refine s_ret (ev_opL1 (y := .int 0) (el_call (xs := (setS (turnL t)).map T) (ea_cons (ev_var rfl) ea_nil) fun H2 e2 Q q E => ⟨t, rfl, hT, q⟩) (fun H2 _ => ev_c) fun p H2 h2 e2 => rv_ixL (sq_of h2) ?_) (RetV.mono k e1)
    have := turns_ne t
    cases h : setS (turnL t) with
    | nil => exact absurd h this
    | cons a l => exact atI_nat (j := 0) rfl
theorem ok_lyndon {f : Addr} {fd : FuncData} (F : Fun K "lyndon" "lyndon" st_lyndon f fd) (M : Md K mg) (C_need_text : Cal P w K mg base "need_text" st_need_text 3 ["text"] sp_need_text) (C_lyndon_parts : Cal P w K mg base "lyndon_parts" st_lyndon_parts 1 ["text"] sp_lyndon) : FnOk P w K mg base CX0 4 f fd ["text"] sp_lyndon := by
  have nd := sc_lyndon.nd
  refine F.ok sc_lyndon (fun vs H Q E h => ?_) (fun cdv A outer s H vs Q E hr h => ?_)
  · obtain ⟨_, rfl, _⟩ := h
    rfl
  · obtain ⟨t, rfl, hT, k⟩ := h
    refine ⟨_, (pss_cons (ps_expr (pe_cl C_need_text hr (pa_cons (pv 0) pa_nil)))
  (pss_one (ps_ret (pe_cl C_lyndon_parts hr (pa_cons (pv 0) pa_nil))))), ?_⟩
    refine q_drop (ev_call (ea_cons (ev_var rfl) ea_nil) fun H1 e1 Q q E => need_ok hT q) fun H1 e1 => ?_
    exact s_retC (ea_cons (ev_var rfl) ea_nil) fun H2 e2 => ⟨t, rfl, hT, fun fs h1 h2 => RetL.mono (k fs h1 h2) (e1.trans e2)⟩
end
end K01
set_option Elab.async false
set_option linter.all false
set_option maxRecDepth 100000
set_option maxHeartbeats 4000000
namespace K01
open PySem PySem.Spec PyProof.Rows L2 Evl Wc Wt Wg Ws We
section
variable {K : PySem.W.Frag} {σ : L2.St} {H : Hp} {te ta tb : TE} {tq : TA}
/-- range(z), nothing below 0 -/
theorem src_range1Z {n : Nat} {z : Int} (h : EvA tq σ H [.int z]) (hz : z.toNat = n) (h0 : -1000000000 ≤ z) (h1 : z ≤ 1000000000) : Src (iRng1 tq) σ H n (fun _ => False) (fun i v _ => v = .int (i : Int)) := fun H1 e R q =>
  h H1 e _ fun H2 e2 => ⟨_, rfl, by omega, by omega, by
    rw [hz]
    have w := (walk_range (lo := 0) (n := n)).mono (fun _ z => z) (Y' := fun i Ha v Hb => Ex Ha Hb ∧ v = .int (i : Int)) (fun i Ha v Hb _ _ hy => by
      obtain ⟨rfl, rfl⟩ := hy
      exact ⟨Ex.refl _, by show V.int (0 + (i : Int)) = V.int (i : Int); rw [Int.zero_add]⟩)
    exact q _ H2 _ e2 w fun _ _ _ _ => True.intro⟩
/-- xs == [], xs != [], of flat things -/
theorem et_eqNilF {α : Type} {f : α → V} {d : α → PyData} {xs : List α} (hv : EvL te σ H (xs.map f)) (hd : ∀ x ∈ xs, ∀ H1 : Hp, Dp K H1 (f x) (d x)) (hl : ∀ x ∈ xs, (d x).canLay0 = true) (hp : ∀ x ∈ xs, (d x).depth ≤ 0) : EvT (tTest (tOp (rEqD K) te (tLst tNil))) σ H (decide (xs = [])) := fun H2 e2 Q q => by
  refine hv H2 e2 _ fun p H3 hp3 e3 h3 => ⟨Nat.zero_le _, fun r hr => ?_⟩
  have e4 := Ex.new (o := HO.lst []) hr
  refine ⟨.list (xs.map d), .list [], dp_list (sq_of (e4 _ _ h3)) (fun x hx => hd x hx _), .lst (sq_of upd_same) .nil, shaped_list (m := 0) hl hp (by decide), rfl, decide (xs = []), ?_, q _ (e3.trans e4)⟩
  cases xs <;> rfl
theorem et_neNilF {α : Type} {f : α → V} {d : α → PyData} {xs : List α} (hv : EvL te σ H (xs.map f)) (hd : ∀ x ∈ xs, ∀ H1 : Hp, Dp K H1 (f x) (d x)) (hl : ∀ x ∈ xs, (d x).canLay0 = true) (hp : ∀ x ∈ xs, (d x).depth ≤ 0) : EvT (tTest (tOp (rNeD K) te (tLst tNil))) σ H (!decide (xs = [])) := fun H2 e2 Q q => by
  refine hv H2 e2 _ fun p H3 hp3 e3 h3 => ⟨Nat.zero_le _, fun r hr => ?_⟩
  have e4 := Ex.new (o := HO.lst []) hr
  refine rv_neD (b := decide (xs = [])) (d := .list (xs.map d)) (e := .list []) (fun H5 e5 => dp_list (sq_of (e5 _ _ (e4 _ _ h3))) (fun x hx => hd x hx _)) (fun H5 e5 => .lst (sq_of (e5 _ _ upd_same)) .nil) (shaped_list (m := 0) hl hp (by decide)) (by decide) ?_ _ (Ex.refl _) _ fun H5 e5 => ⟨_, rfl, q _ ((e3.trans e4).trans e5)⟩
  cases xs <;> rfl
theorem et_eqNilN {c : List Nat} (hv : EvL te σ H (numV c)) : EvT (tTest (tOp (rEqD K) te (tLst tNil))) σ H (decide (c = [])) := et_eqNilF (f := fun (n : Nat) => V.int (n : Int)) (d := fun n => PyData.int (n : Int)) (xs := c) hv (fun _ _ _ => .int _) (fun _ _ => rfl) (fun _ _ => Nat.le_refl _)
theorem et_neNilN {c : List Nat} (hv : EvL te σ H (numV c)) : EvT (tTest (tOp (rNeD K) te (tLst tNil))) σ H (!decide (c = [])) := et_neNilF (f := fun (n : Nat) => V.int (n : Int)) (d := fun n => PyData.int (n : Int)) (xs := c) hv (fun _ _ _ => .int _) (fun _ _ => rfl) (fun _ _ => Nat.le_refl _)
theorem et_neNilT {c : List Tx} (hv : EvL te σ H (c.map T)) (hl : ∀ t ∈ c, LowT t) : EvT (tTest (tOp (rNeD K) te (tLst tNil))) σ H (!decide (c = [])) := et_neNilF (f := T) (d := dT) (xs := c) hv (fun _ _ _ => .str _) (fun t ht => lay_T (hl t ht)) (fun _ _ => Nat.le_refl _)
end
theorem flat_num (c : List Nat) : ∀ v ∈ numV c, ∃ d, FlatV v d := fun v hv => by
  obtain ⟨n, _, rfl⟩ := List.mem_map.mp hv
  exact ⟨_, .int _⟩
section
variable {P : Program} {w : World} {K : PySem.W.Frag} {mg : Str → Option Value} {base : Heap}
def sp_law_so : Sp := fun vs H Q _ => ∃ (a b : Bool), vs = [.bl a, .bl b] ∧ RetV (.bl (decide (a = b))) H Q
def sp_law_is : Sp := fun vs H Q _ => ∃ (a b : Int), vs = [.int a, .int b] ∧ RetV (.bl (decide (a = b))) H Q
theorem ok__law_so {f : Addr} {fd : FuncData} (F : Fun K "_law_so" "_law_so" st__law_so f fd) (M : Md K mg) : FnOk P w K mg base CX0 1 f fd ["actual", "due"] sp_law_so := by
  have nd := sc__law_so.nd
  refine F.ok sc__law_so (fun vs H Q E h => ?_) (fun cdv A outer s H vs Q E hr h => ?_)
  · obtain ⟨_, _, rfl, _⟩ := h
    rfl
  · obtain ⟨a, b, rfl, k⟩ := h
    refine ⟨_, (pss_one (ps_ret (pe_and (pe_callB (kcr K (r := rIsiB) cr_isi) (by rfl) M.n_isinstance boot_isinstance (pa_cons (pv 0) (pa_cons (pe_bltn (v := .ty "bool") rfl M.n_bool boot_bool rfl) pa_nil))) (pe_one (pe_cmpR op_eqB (pv 0) (pv 1) (nomark _)))))), ?_⟩
    exact s_ret (ev_andV (ev_cb (ea_cons (ev_var rfl) (ea_cons ev_c ea_nil)) (rc_isi (fun _ _ => .base (.bl _)) k_bool_bool)) fun _ => ev_op (ev_var rfl) (ev_var rfl) rv_eqB) k
theorem ok__law_is {f : Addr} {fd : FuncData} (F : Fun K "_law_is" "_law_is" st__law_is f fd) (M : Md K mg) : FnOk P w K mg base CX0 1 f fd ["actual", "due"] sp_law_is := by
  have nd := sc__law_is.nd
  refine F.ok sc__law_is (fun vs H Q E h => ?_) (fun cdv A outer s H vs Q E hr h => ?_)
  · obtain ⟨_, _, rfl, _⟩ := h
    rfl
  · obtain ⟨a, b, rfl, k⟩ := h
    refine ⟨_, (pss_one (ps_ret (pe_and (pe_callB (kcr K (r := rIsiB) cr_isi) (by rfl) M.n_isinstance boot_isinstance (pa_cons (pv 0) (pa_cons (pe_bltn (v := .ty "int") rfl M.n_int boot_int rfl) pa_nil))) (pe_and (pe_not (pe_callB (kcr K (r := rIsiB) cr_isi) (by rfl) M.n_isinstance boot_isinstance (pa_cons (pv 0) (pa_cons (pe_bltn (v := .ty "bool") rfl M.n_bool boot_bool rfl) pa_nil)))) (pe_one (pe_cmpR op_eqI (pv 0) (pv 1) (nomark _))))))), ?_⟩
    exact s_ret (ev_andV (ev_cb (ea_cons (ev_var rfl) (ea_cons ev_c ea_nil)) (rc_isi (fun _ _ => .base (.int _)) k_int_int)) fun _ => ev_andV (ev_notV (ev_cb (ea_cons (ev_var rfl) (ea_cons ev_c ea_nil)) (rc_isi (fun _ _ => .base (.int _)) k_int_bool))) fun _ => ev_op (ev_var rfl) (ev_var rfl) rv_I0) k
theorem ok__law_list {f : Addr} {fd : FuncData} (F : Fun K "_law_list" "_law_list" st__law_list f fd) (M : Md K mg) : FnOk P w K mg base CX0 1 f fd ["actual", "due"] (sp_list_same K) := by
  have nd := sc__law_list.nd
  refine F.ok sc__law_list (fun vs H Q E h => ?_) (fun cdv A outer s H vs Q E hr h => ?_)
  · obtain ⟨_, _, _, rfl, _⟩ := h
    rfl
  · obtain ⟨p, q, xs, rfl, hp, hq, hx, hl, k⟩ := h
    refine ⟨_, (pss_cons (ps_if (PW.pt (pw_or (pt_not (pt_val (pe_callB (kcr K (r := rIsiB) cr_isi) (by rfl) M.n_isinstance boot_isinstance (pa_cons (pv 0) (pa_cons (pe_bltn (v := .ty "list") rfl M.n_list boot_list rfl) pa_nil))))) (pw_or1 (pt_cmpR (kop K (r := rNeD) (op_neD hr.units)) (pv 0) (pv 1) (nomark _)))))
  (pss_one (ps_ret pe_bl))
  pss_nil)
  (pss_one (ps_ret (pe_cmpR (kop K (r := rEqD) (op_eqD hr.units)) (pe_lc (own := [("part", 2)]) rfl nd (kil K (pi_list (pv 0))) (blkOk_by (N := N__law_list) (sc := defScope st__law_list) (by decide +kernel)) (fun _ _ _ _ _ => (pg_name (i := 2) nd rfl (Or.inl rfl))) (fun _ _ _ _ _ => (pts_one (pt_val (pe_callB (kcr K (r := rIsiB) cr_isi) (by rfl) M.n_isinstance boot_isinstance (pa_cons (pv 2) (pa_cons (pe_bltn (v := .ty "bool") rfl M.n_bool boot_bool rfl) pa_nil)))))) (fun _ _ _ _ _ => (pv 2))) (pe_lst pa_nil) (nomark _))))), ?_⟩
    obtain ⟨ds, hd, hlay, hdep⟩ := flat_data (K := K) (H := H) hx
    have hsh : SeqAt.shaped (.list ds) = true := shaped_of hlay (by show PyData.depthAll ds + 1 ≤ 64; omega)
    have hrefl : PyData.eqv (.list ds) (.list ds) = true := SeqAt.eqv_refl _ hlay
    refine q_when (b := false) (et_is (et_or (et_not (et_B (ev_cb (ea_cons (ev_var rfl) (ea_cons ev_c ea_nil)) (rc_isi (b := true) (fun H1 e => .base (.lst (e _ _ hp))) k_list_list)))) fun _ => et_test (ev_op (ev_var rfl) (ev_var rfl) (rv_neD (d := .list ds) (e := .list ds) (b := true) (fun H1 e => .lst (ex_l e (sq_of hp)) (DpAll.ex e hd)) (fun H1 e => .lst (ex_l e hq) (DpAll.ex e hd)) hsh hsh hrefl))) rfl) (fun z => by cases z) (fun _ H1 e1 => ?_)
    have hpart : ∀ v ∈ xs, ∃ t, kitB t "bool" = some false ∧ ∀ H2 : Hp, TyX K H2 v (.type t) := fun v hv => by
      obtain ⟨d, hd⟩ := hx v hv
      cases hd with
      | int i => exact ⟨"int", k_int_bool, fun H2 => .base (.int i)⟩
      | str _ => exact ⟨"str", k_str_bool, fun H2 => .base (.str _)⟩
    refine s_ret (ev_opLL (xs := []) (ys := []) ?_ (el_lst ea_nil (by decide)) (fun p1 q1 H2 h1 h2 e2 => rv_eqD (d := .list []) (e := .list []) (b := true) (fun H3 e3 => .lst (ex_l e3 (sq_of h1)) .nil) (fun H3 e3 => .lst (ex_l e3 (sq_of h2)) .nil) (by decide) (by decide) (by decide))) (RetV.mono k e1)
    have h0 := el_lcX (j := 2) (te := tVar 2) (t := tB (tCB (rIsiB K) (tCons (tVar 2) (tCons (tC (.ty "bool")) tNil)))) (σ := start N__law_list [.ref p, .ref q]) (H := H1) (vs := [2]) (p := fun _ => false) (g := fun v => v) xs (fun a x _ => x = a) (src_list (ev_var rfl : Ev (tVar 0) (start N__law_list [.ref p, .ref q]) H1 (.ref p)) (sq_of (K := K) (e1 _ _ hp))) (by omega) (fun _ => rfl) rfl (fun i x _ hi => ⟨x, hi, rfl⟩) (fun v x H2 e2 hv hr => by
      subst hr
      obtain ⟨t, ht, hty⟩ := hpart x hv
      exact et_B (ev_cb (ea_cons (ev_var rfl) (ea_cons ev_c ea_nil)) (rc_isi (fun H3 _ => hty H3) ht))) (fun _ _ _ _ _ _ z => by cases z)
    rw [List.filter_eq_nil_iff.mpr (fun _ _ z => by cases z)] at h0
    exact h0

/-- told up to e -/
def FailTo (t : Tx) (F : List Nat) (e : Nat) : Prop := F.length = t.length + 1 ∧ F[0]? = some 0 ∧ ∀ i, 1 ≤ i → i ≤ e → i ≤ t.length → ∃ b, F[i]? = some b ∧ Gr t i b
theorem numV_at {c : List Nat} {i n : Nat} (h : c[i]? = some n) : (numV c)[i]? = some (.int (n : Int)) := by
  unfold numV
  rw [List.getElem?_map, h]
  rfl
theorem numV_len (c : List Nat) : (numV c).length = c.length := List.length_map _
theorem numV_set (c : List Nat) (i n : Nat) : (numV c).set i (.int (n : Int)) = numV (c.set i n) := by
  unfold numV
  rw [List.map_set]
theorem ok__law_borders {f : Addr} {fd : FuncData} (F : Fun K "_law_borders" "_law_borders" st__law_borders f fd) (M : Md K mg) : FnOk P w K mg base CX0 1 f fd ["text"] sp_borders := by
  have nd := sc__law_borders.nd
  refine F.ok sc__law_borders (fun vs H Q E h => ?_) (fun cdv A outer s H vs Q E hr h => ?_)
  · obtain ⟨_, rfl, _⟩ := h
    rfl
  · obtain ⟨t, rfl, hT, k⟩ := h
    refine ⟨_, (pss_cons (ps_par (i := 1) (j := 2) rfl nd rfl rfl (by decide) rfl rfl (pa_cons (pe_op op_rep (pe_lst (pa_cons pe_int pa_nil)) (pe_op op_add (pe_callB cr_lenT (by rfl) M.n_len boot_len (pa_cons (pv 0) pa_nil)) pe_int)) (pa_cons (pe_lst pa_nil) pa_nil)) (by rfl))
  (pss_cons (ps_for PassesOwn.never rfl (pi_range2 (by rfl) M.n_range (pa_cons pe_int (pa_cons (pe_callB cr_lenT (by rfl) M.n_len boot_len (pa_cons (pv 0) pa_nil)) pa_nil))) (pg_name (i := 3) nd rfl (Or.inl rfl))
  (pss_cons (ps_set (i := 4) nd rfl (Or.inl rfl) (pe_ix (kix K (r := L2.rIxL) ix_list) (pv 1) (pv 3) (fun _ _ => rfl)))
  (pss_cut (ps_for PassesOwn.never rfl (pi_range1 (by rfl) M.n_range (pa_cons (pe_callB cr_lenT (by rfl) M.n_len boot_len (pa_cons (pv 0) pa_nil)) pa_nil)) (pg_name (i := 5) nd rfl (Or.inl rfl))
  (pss_cons (ps_if (PW.pt (pw_or (pt_cmpR op_eqI (pv 4) pe_int (nomark _)) (pw_or1 (pt_cmpR op_eqT (pe_ix ix_T (pv 0) (pv 4) (fun _ _ => rfl)) (pe_ix ix_T (pv 0) (pv 3) (fun _ _ => rfl)) (nomark _)))))
  (pss_one ps_break)
  pss_nil)
  (pss_one (ps_set (i := 4) nd rfl (Or.inl rfl) (pe_ix (kix K (r := L2.rIxL) ix_list) (pv 1) (pv 4) (fun _ _ => rfl))))))
  (pss_one (ps_asg (pe_ifExp (pt_cmpR op_eqT (pe_ix ix_T (pv 0) (pv 4) (fun _ _ => rfl)) (pe_ix ix_T (pv 0) (pv 3) (fun _ _ => rfl)) (nomark _)) (pe_op op_add (pv 4) pe_int) pe_int) (pg_sub (pv 1) (pe_op op_add (pv 3) pe_int) set_list))))))
  (pss_cons (ps_set (i := 4) nd rfl (Or.inl rfl) (pe_ix (kix K (r := L2.rIxL) ix_list) (pv 1) (pe_callB cr_lenT (by rfl) M.n_len boot_len (pa_cons (pv 0) pa_nil)) (fun _ _ => rfl)))
  (pss_cut (ps_for PassesOwn.never rfl (pi_range1 (by rfl) M.n_range (pa_cons (pe_callB cr_lenT (by rfl) M.n_len boot_len (pa_cons (pv 0) pa_nil)) pa_nil)) (pg_name (i := 5) nd rfl (Or.inl rfl))
  (pss_cons (ps_if (pt_cmpR op_eqI (pv 4) pe_int (nomark _))
  (pss_one ps_break)
  pss_nil)
  (pss_cons (ps_expr (kbm K (pe_bm PySem.F.plainAttrs_list PySem.F.slot_list_append PySem.F.type_list_append mt_append (pv 2) (pa_cons (pv 4) pa_nil))))
  (pss_one (ps_set (i := 4) nd rfl (Or.inl rfl) (pe_ix (kix K (r := L2.rIxL) ix_list) (pv 1) (pv 4) (fun _ _ => rfl)))))))
  (pss_one (ps_ret (pe_callB (kcr K (r := rSortedI) cr_sortedI) (by rfl) M.n_sorted boot_sorted (pa_cons (pv 2) pa_nil)))))))), ?_⟩
    have hl := hT.len
    have hlen : ∀ {σ : L2.St} {H1 : Hp}, σ[0]? = some (some (T t)) → Ev (tCB rLenT (tCons (tVar 0) tNil)) σ H1 (.int (t.length : Int)) := fun h0 => ev_cb (ea_cons (ev_var h0) ea_nil) (rc_lenT (by omega))
    have hix : ∀ {σ : L2.St} {H1 : Hp} {j i : Nat}, σ[0]? = some (some (T t)) → σ[j]? = some (some (.int (i : Int))) → i < t.length → Ev (tOp rIxT (tVar 0) (tVar j)) σ H1 (T [g t i]) := fun h0 hj hi => ev_op (ev_var h0) (ev_var hj) (Wc.rv_ixT (by omega) (atI_nat (g_at hi)))
    refine (el_rep (xs := [.int 0]) (n := t.length + 1) (el_lst (ea_cons ev_c ea_nil) (by show 1 ≤ 100000; decide)) (ev_is (ev_op (hlen rfl) ev_c rv_I0) (by congr 1)) (by show 1 * (t.length + 1) ≤ 100000; omega) (by omega) : EvL _ _ H _) H (Ex.refl _) _ fun pf H1 hpf e1 h1 => (el_lst ea_nil (by decide) : EvL _ _ H1 _) H1 (Ex.refl _) _ fun pg H2 hpg e2 h2 => ⟨_, _, rfl, ?_⟩
    have hpf2 := e2 _ _ h1
    have nfg : pf ≠ pg := fun z => by rw [z, hpg] at h1; cases h1
    have e12 := e1.trans e2
    have hpg0 := fresh_back e1 hpg
    have h0 : H2 pf = some (.lst (numV (List.replicate (t.length + 1) 0))) := by
      rw [hpf2, rep_one]
      unfold numV
      rw [List.map_replicate]
      rfl
    clear hpf2 h1
    show tSeq _ _ _ [some (T t), some (.ref pf), some (.ref pg), none, none, none] H2
    refine q_forW (fun c => c = pf) (src_range2 (lo := 1) (hi := (t.length : Int)) (n := t.length - 1) (ea_cons ev_c (ea_cons (hlen rfl) ea_nil)) (by decide) (by decide) (by omega) (by omega) (by omega)) ?_
      (fun Hs i σ' H' => ∃ (F : List Nat) (v3 v4 v5 : Option V), σ' = [some (T t), some (.ref pf), some (.ref pg), v3, v4, v5] ∧ Exc (fun c => c = pf) Hs H' ∧ Exc (fun c => c = pf) H2 H' ∧ H' pf = some (.lst (numV F)) ∧ FailTo t F (i + 1)) ?_ ?_ ?_ ?_ ?_
    · rintro c rfl
      exact ⟨by rw [h0]; exact fun z => (nomatch z), fun z => z⟩
    · intro Hs e
      refine ⟨_, none, none, none, rfl, Exc.refl _, Exc.of e, e _ _ h0, by rw [List.length_replicate], by simp, fun i i1 i2 i3 => ⟨0, by rw [List.getElem?_replicate, if_pos (by omega)], ?_⟩⟩
      rw [show i = 1 by omega]
      exact gr_one
    · rintro Hs i σ' H' ⟨_, _, _, _, _, h, _⟩
      exact h
    · rintro Hs i σ' Ha Hb ⟨F, v3, v4, v5, g0, g1, g2, g3, g4⟩ e
      exact ⟨F, v3, v4, v5, g0, g1.then e, g2.then e, e _ _ g3, g4⟩
    · rintro Hs i x σ' H' e hi ⟨F, v3, v4, v5, rfl, g1, g2, g3, g4⟩ rfl
      obtain ⟨f1, f2, f3⟩ := g4
      have hii : (1 + (i : Int)) = ((i + 1 : Nat) : Int) := by omega
      show tSeq _ _ _ [some (T t), some (.ref pf), some (.ref pg), some (.int (1 + (i : Int))), v4, v5] H'
      rw [hii]
      obtain ⟨b, hb, hG⟩ := f3 (i + 1) (by omega) (Nat.le_refl _) (by omega)
      refine q_asg (v := .int (b : Int)) (ev_op (ev_var rfl) (ev_var rfl) (rv_ixL (sq_of g3) (atI_nat (numV_at hb)))) fun H3 e3 => ?_
      have h3 := e3 _ _ g3
      show tCut _ _ _ [some (T t), some (.ref pf), some (.ref pg), some (.int ((i + 1 : Nat) : Int)), some (.int (b : Int)), v5] H3
      refine q_cut (M := fun σ' H' => ∃ (m : Nat) (v5 : Option V), σ' = [some (T t), some (.ref pf), some (.ref pg), some (.int ((i + 1 : Nat) : Int)), some (.int (m : Int)), v5] ∧ Ex H3 H' ∧ Look t (i + 1) m ∧ (m = 0 ∨ g t m = g t (i + 1))) ?_ ?_
      · refine s_forW (fun _ => False) (src_range1 (n := t.length) (ea_cons (hlen rfl) ea_nil) (by omega)) (fun _ z => z.elim)
          (fun Hs2 j σ' H' => ∃ (m : Nat) (v5 : Option V), σ' = [some (T t), some (.ref pf), some (.ref pg), some (.int ((i + 1 : Nat) : Int)), some (.int (m : Int)), v5] ∧ Ex Hs2 H' ∧ Look t (i + 1) m ∧ m + j ≤ i) ?_ ?_ ?_ ?_ ?_
        · intro Hs2 e4
          exact ⟨b, v5, rfl, Ex.refl _, hG.look, by have := hG.1.1; omega⟩
        · rintro Hs2 j σ' H' ⟨_, _, _, h, _⟩
          exact .of h
        · rintro Hs2 j σ' Ha Hb ⟨m, v5, a0, a1, a2⟩ e4
          exact ⟨m, v5, a0, a1.trans e4, a2⟩
        · rintro Hs2 j x σ' H' e4 hj ⟨m, v5, rfl, a1, a2, a3⟩ rfl
          have e34 := e4.trans a1
          show tSeq _ _ _ [some (T t), some (.ref pf), some (.ref pg), some (.int ((i + 1 : Nat) : Int)), some (.int (m : Int)), some (.int (j : Int))] H'
          refine q_when (b := decide (m = 0) || decide (g t m = g t (i + 1))) (et_or (et_is (et_test (ev_op (ev_var rfl) ev_c rv_I0)) (decide_eq_decide.mpr (by omega))) fun _ => et_is (et_test (ev_op (hix (j := 4) rfl rfl (by omega)) (hix (j := 3) rfl rfl (by omega)) rv_eqT)) (decide_eq_decide.mpr ⟨fun z => by simpa using z, fun z => by rw [z]⟩)) (fun hb H4 e5 => ?_) (fun hb H4 e5 => ?_)
          · refine ⟨m, _, rfl, e34.trans e5, a2, ?_⟩
            rcases Bool.or_eq_true_iff.mp hb with h | h
            · exact .inl (of_decide_eq_true h)
            · exact .inr (of_decide_eq_true h)
          · have hb := Bool.or_eq_false_iff.mp hb
            have hm0 := of_decide_eq_false hb.1
            have hne := of_decide_eq_false hb.2
            obtain ⟨c, hc, hGc⟩ := f3 m (by omega) (by omega) (by omega)
            obtain ⟨hL2, hlt⟩ := a2.next hne hm0 hGc
            exact s_asg (σ := [some (T t), some (.ref pf), some (.ref pg), some (.int ((i + 1 : Nat) : Int)), some (.int (m : Int)), some (.int (j : Int))]) (v := .int (c : Int)) (ev_op (ev_var rfl) (ev_var rfl) (rv_ixL (sq_of ((e34.trans e5) _ _ h3)) (atI_nat (numV_at hc)))) fun H5 e6 => ⟨c, _, rfl, (a1.trans e5).trans e6, hL2, by omega⟩
        · rintro Hs2 σ' H' e4 ⟨m, v5, rfl, a1, a2, a3⟩
          omega
      · rintro σ' H4 ⟨m, v5, rfl, e4, hLk, hst⟩
        have h4 := e4 _ _ h3
        have hGn := hLk.done hst
        have hmt : m < t.length := by have := hLk.1.1; omega
        refine s_setL (j := i + 2) (v := .int ((if g t m = g t (i + 1) then m + 1 else 0 : Nat) : Int)) h4 (ev_if (b := decide (g t m = g t (i + 1))) (et_is (et_test (ev_op (hix (j := 4) rfl rfl hmt) (hix (j := 3) rfl rfl (by omega)) rv_eqT)) (decide_eq_decide.mpr ⟨fun z => by simpa using z, fun z => by rw [z]⟩)) (fun hb => ?_) (fun hb => ?_)) (ev_var rfl) (ev_is (ev_op (ev_var rfl) ev_c rv_I0) (by congr 1)) (by rw [numV_len, f1]; omega) fun H5 e5 => ⟨F.set (i + 2) (if g t m = g t (i + 1) then m + 1 else 0), _, _, _, rfl, ((g1.then (e3.trans e4)).then e5).upd (.inl rfl), ((g2.then (e3.trans e4)).then e5).upd (.inl rfl), by rw [upd_same, numV_set], by rw [List.length_set]; exact f1, by rw [List.getElem?_set_ne (by omega)]; exact f2, fun j j1 j2 j3 => ?_⟩
        · rw [if_pos (of_decide_eq_true hb)]
          exact ev_is (ev_op (ev_var rfl) ev_c rv_I0) (by congr 1)
        · rw [if_neg (of_decide_eq_false hb)]
          exact ev_c
        · by_cases hj : j = i + 2
          · rw [hj]
            exact ⟨_, List.getElem?_set_self (by rw [f1]; omega), hGn⟩
          · rw [List.getElem?_set_ne (by omega)]
            exact f3 j j1 (by omega) j3
    · rintro Hs σ' H3 e ⟨F, v3, v4, v5, rfl, g1, g2, g3, f1, f2, f3⟩
      have h3g : H3 pg = some (.lst []) := g2 _ _ (fun z => nfg z.symm) h2
      have hx3 : ∀ {p : Addr} {o : HO}, H p = some o → H3 p = some o := fun {p o} hp => g2 _ _ (fun z => by rw [z, hpf] at hp; cases hp) (e12 _ _ hp)
      obtain ⟨b, hb, hb0, hbG⟩ : ∃ b, F[t.length]? = some b ∧ (t.length = 0 → b = 0) ∧ (0 < t.length → Gr t t.length b) := by
        rcases Nat.eq_zero_or_pos t.length with h | h
        · exact ⟨0, by rw [h]; exact f2, fun _ => rfl, fun z => by omega⟩
        · obtain ⟨b, h1, h2⟩ := f3 t.length h (by omega) (Nat.le_refl _)
          exact ⟨b, h1, fun z => by omega, fun _ => h2⟩
      refine q_asg (v := .int (b : Int)) (ev_op (ev_var rfl) (hlen rfl) (rv_ixL (sq_of g3) (atI_nat (numV_at hb)))) fun H4 e4 => ?_
      have h4 := e4 _ _ g3
      have h4g := e4 _ _ h3g
      show tCut _ _ _ [some (T t), some (.ref pf), some (.ref pg), v3, some (.int (b : Int)), v5] H4
      refine q_cut (M := fun σ' H' => ∃ (acc : List Nat) (m : Nat) (v5 : Option V), σ' = [some (T t), some (.ref pf), some (.ref pg), v3, some (.int (m : Int)), v5] ∧ Exc (fun c => c = pg) H4 H' ∧ H' pg = some (.lst (numV acc)) ∧ acc.Perm (bordL t)) ?_ ?_
      · refine s_forW (fun c => c = pg) (src_range1 (n := t.length) (ea_cons (hlen rfl) ea_nil) (by omega)) ?_
          (fun Hs2 j σ' H' => ∃ (acc : List Nat) (m : Nat) (v5 : Option V), σ' = [some (T t), some (.ref pf), some (.ref pg), v3, some (.int (m : Int)), v5] ∧ Exc (fun c => c = pg) Hs2 H' ∧ Exc (fun c => c = pg) H4 H' ∧ H' pg = some (.lst (numV acc)) ∧ acc.length ≤ j ∧ m + j ≤ t.length - 1 ∧ (0 < t.length → Chn t m acc ∧ Bd t t.length m) ∧ (t.length = 0 → acc = [])) ?_ ?_ ?_ ?_ ?_
        · rintro c rfl
          exact ⟨by rw [h4g]; exact fun z => (nomatch z), fun z => z⟩
        · intro Hs2 e5
          refine ⟨[], b, v5, rfl, Exc.refl _, Exc.of e5, e5 _ _ h4g, Nat.le_refl _, ?_, fun z => ⟨Chn.first (hbG z), (hbG z).1⟩, fun _ => rfl⟩
          rcases Nat.eq_zero_or_pos t.length with h | h
          · have := hb0 h
            omega
          · have := (hbG h).1.1
            omega
        · rintro Hs2 j σ' H' ⟨_, _, _, _, h, _⟩
          exact h
        · rintro Hs2 j σ' Ha Hb ⟨acc, m, v5, a0, a1, a2, a3, a4⟩ e5
          exact ⟨acc, m, v5, a0, a1.then e5, a2.then e5, e5 _ _ a3, a4⟩
        · rintro Hs2 j x σ' H' e5 hj ⟨acc, m, v5, rfl, a1, a2, a3, a4, a5, a6, a7⟩ rfl
          obtain ⟨hC, hB⟩ := a6 (by omega)
          show tSeq _ _ _ [some (T t), some (.ref pf), some (.ref pg), v3, some (.int (m : Int)), some (.int (j : Int))] H'
          refine q_when (b := decide (m = 0)) (et_is (et_test (ev_op (ev_var rfl) ev_c rv_I0)) (decide_eq_decide.mpr (by omega))) (fun hb H5 e6 => ?_) (fun hb H5 e6 => ?_)
          · have hm := of_decide_eq_true hb
            subst hm
            exact ⟨acc, 0, _, rfl, a2.then e6, e6 _ _ a3, hC.perm⟩
          · have hm := of_decide_eq_false hb
            have hmN := hB.1
            obtain ⟨c, hc, hGc⟩ := f3 m (by omega) (by omega) (by omega)
            have h5f : H5 pf = some (.lst (numV F)) := e6 _ _ (a2 _ _ nfg h4)
            refine q_app (v := .int (m : Int)) (e6 _ _ a3) (ev_var rfl) (ev_var rfl) (by rw [numV_len]; omega) fun H6 e7 => ?_
            have h6f : (upd H6 pg (.lst (numV acc ++ [.int (m : Int)]))) pf = some (.lst (numV F)) := by
              rw [upd_ne nfg]
              exact e7 _ _ h5f
            refine s_asg (σ := [some (T t), some (.ref pf), some (.ref pg), v3, some (.int (m : Int)), some (.int (j : Int))]) (v := .int (c : Int)) (ev_op (ev_var rfl) (ev_var rfl) (rv_ixL (sq_of h6f) (atI_nat (numV_at hc)))) fun H7 e8 => ⟨acc ++ [m], c, _, rfl, (((a1.then e6).then e7).upd (.inl rfl)).then e8, (((a2.then e6).then e7).upd (.inl rfl)).then e8, e8 _ _ (by rw [upd_same]; unfold numV; rw [List.map_append]; rfl), by rw [List.length_append, List.length_singleton]; omega, by have := hGc.1.1; omega, fun _ => ⟨hC.next hm hB hGc, (bd_in hB hGc.1.1).mpr hGc.1⟩, fun z => by omega⟩
        · rintro Hs2 σ' H' e5 ⟨acc, m, v5, rfl, a1, a2, a3, a4, a5, a6, a7⟩
          refine ⟨acc, m, v5, rfl, a2, a3, ?_⟩
          rcases Nat.eq_zero_or_pos t.length with h | h
          · rw [a7 h]
            have : bordL t = [] := by unfold bordL; rw [h]; rfl
            rw [this]
          · omega
      · rintro σ' H5 ⟨acc, m, v5, rfl, a2, a3, a4⟩
        have hsrt : EvL (tCB (rSortedI K) (tCons (tVar 2) tNil)) [some (T t), some (.ref pf), some (.ref pg), v3, some (.int (m : Int)), v5] H5 (numV (bordL t)) := fun H6 e6 Q6 q6 => ⟨.ref pg, rfl, pg, acc.map fun (n : Nat) => (n : Int), rfl, sq_of (by rw [e6 _ _ a3]; unfold numV; rw [List.map_map]; rfl), fun ns' q pn pw hq => by
          have : ns' = (bordL t).map fun (n : Nat) => (n : Int) := _root_.Wd.sorted_is pw (List.pairwise_map.mpr ((bordL_asc t).imp fun h => by omega)) (pn.trans (a4.map _))
          rw [this]
          refine q6 q _ hq (Ex.new hq) ?_
          rw [upd_same]
          unfold numV
          rw [List.map_map]
          rfl⟩
        refine s_retL hsrt fun p H6 hp e6 h6 => k p H6 ?_ ?_ h6
        · cases hH : H p with
          | none => rfl
          | some o =>
            have := a2 p o (fun z => by rw [z, hpg0] at hH; cases hH) (e4 _ _ (hx3 hH))
            rw [hp] at this
            cases this
        · intro p o hH
          exact e6 _ _ (a2 p o (fun z => by rw [z, hpg0] at hH; cases hH) (e4 _ _ (hx3 hH)))
end
end K01
set_option Elab.async false
set_option linter.all false
set_option maxRecDepth 100000
set_option maxHeartbeats 4000000
namespace K01
open PySem PySem.Spec PyProof.Rows L2 Evl Wc Wt Wg Ws We
section
variable {K : PySem.W.Frag} {P : Program} {w : World} {σ : L2.St} {H : Hp} {te ta tb tl tr : TE} {tq : TA}
/-- zip of a standing list and a new one -/
theorem src_zipR {a : Addr} {xs ys : List V} {n : Nat} (h : Ev tl σ H (.ref a)) (h2 : EvL tr σ H ys) (hs : SqL K H a xs) (hn : n = min xs.length ys.length) :
    Src (iZip K (tCons tl (tCons tr tNil))) σ H n (fun c => c = a) (fun i v Hb => ∃ p x y, v = .ref p ∧ xs[i]? = some x ∧ ys[i]? = some y ∧ Hb p = some (.tup [x, y])) := fun H1 e R q =>
  h H1 e _ fun H2 e2 => h2 H2 (e.trans e2) _ fun b H3 hb e3 hb2 => ⟨a, b, xs, ys, rfl, ex_l ((e.trans e2).trans e3) hs, sq_of hb2, q _ H3 _ (e2.trans e3) ((walk_zip hn).mono (fun _ z => z) fun i Ha v Hb _ _ hy => by
    obtain ⟨p, x, y, rfl, hf, rfl, h1, h2⟩ := hy
    exact ⟨Ex.new hf, p, x, y, rfl, h1, h2, upd_same⟩) fun B Ha hB ea => ⟨ea.l (fun z => (hB a z).2 rfl) (ex_l ((e.trans e2).trans e3) hs), ea.l (fun z => (hB b z).1 (fresh_back (e.trans e2) hb)) (sq_of hb2)⟩⟩
theorem el_sortSetE {xs : List Tx} (h : EvL te σ H (xs.map T)) (hl : xs.length ≤ 4000) : EvL (tCB (rSortX K P w) (tCons (tCB (rSetTx K P w) (tCons te tNil)) tNil)) σ H ((setS xs).map T) := fun H1 e Q k =>
  el_sortSet (fun H2 e2 => h H2 (e.trans e2)) hl Q fun p ys H2 u hly hp e2 h2 => k p H2 hp e2 (by rw [h2, setS_uniq u])
theorem el_sortSetP {p : Addr} {xs : List Tx} (h : Ev te σ H (.ref p)) (hp : H p = some (.lst (xs.map T))) (hl : xs.length ≤ 4000) : EvL (tCB (rSortX K P w) (tCons (tCB (rSetTx K P w) (tCons te tNil)) tNil)) σ H ((setS xs).map T) := fun H1 e Q k =>
  h H1 e _ fun H2 e2 => ⟨p, xs, rfl, sq_of ((e.trans e2) _ _ hp), hl, fun q ys u hly hq => .inr ⟨q, ys, rfl, upd_same, fun zs r pz hr => by
    have hr1 : H2 r = none := fresh_back (Ex.new hq) hr
    exact k r _ (fresh_back e2 hr1) ((e2.trans (Ex.new hq)).trans (Ex.new hr)) (by rw [upd_same, setS_uniq (l := xs) ⟨pz.nodup_iff.mpr u.nd, fun x => (pz.mem_iff).trans (u.mem x)⟩])⟩⟩
theorem el_take1N {c : List Nat} (h : EvL te σ H (numV c)) : EvL (tSl (rSlL K) te tNoPart (tPart (tC (.int 1)))) σ H (numV (c.take 1)) := by
  have h1 := el_slN (K := K) (lo := none) (hi := some ((1 : Nat) : Int)) h eo_none (eo_some ev_c)
  rw [cutV_to] at h1
  unfold numV at h1 ⊢
  rw [← List.map_take] at h1
  exact h1
theorem q_parVL {D : Ends} {tz : TS} {i j : Nat} {v : V} {xs : List V} (ha : Ev ta σ H v) (hb : EvL tb σ H xs) (k : ∀ q H1, H q = none → Ex H H1 → H1 q = some (.lst xs) → tz D ((σ.set i (some v)).set j (some (.ref q))) H1) : tSeq (tPar i j (tCons ta (tCons tb tNil))) tz D σ H := ha H (Ex.refl _) _ fun H1 e1 => hb H1 e1 _ fun q H2 hq e2 h2 => ⟨v, .ref q, rfl, k q H2 (fresh_back e1 hq) (e1.trans e2) h2⟩
end
/-- the periods up to i -/
def perTo (t : Tx) (i : Nat) : List Nat := (List.range' 1 i).filter fun p => decide (∀ j, j < t.length - p → g t j = g t (j + p))
theorem perTo_succ (t : Tx) (i : Nat) : perTo t (i + 1) = perTo t i ++ (if (∀ j, j < t.length - (i + 1) → g t j = g t (j + (i + 1))) then [i + 1] else []) := by
  unfold perTo
  rw [List.range'_1_concat, List.filter_append, List.filter_cons, List.filter_nil, Nat.add_comm 1 i]
  congr 1
  by_cases h : (∀ j, j < t.length - (i + 1) → g t j = g t (j + (i + 1)))
  · rw [if_pos h, if_pos (decide_eq_true h)]
  · rw [if_neg h, decide_eq_false h, if_neg Bool.false_ne_true]
theorem perTo_len (t : Tx) (i : Nat) : (perTo t i).length ≤ i := by
  unfold perTo
  refine Nat.le_trans (List.length_filter_le _ _) ?_
  rw [List.length_range']
  exact Nat.le_refl _
theorem none_unlike {t : Tx} {p : Nat} : (((List.range (t.length - p)).filter fun j => !decide (g t j = g t (j + p))).take 1 = []) ↔ ∀ j, j < t.length - p → g t j = g t (j + p) := by
  rw [List.take_eq_nil_iff, List.filter_eq_nil_iff]
  constructor
  · intro h j hj
    rcases h with h | h
    · omega
    · have := h j (List.mem_range.mpr hj)
      simpa using this
  · intro h
    right
    intro j hj
    rw [decide_eq_true (h j (List.mem_range.mp hj))]
    exact Bool.false_ne_true
theorem turn_next {t : Tx} {i : Nat} (hi : i < t.length) : (t.drop i ++ t.take i).drop 1 ++ (t.drop i ++ t.take i).take 1 = t.drop (i + 1) ++ t.take (i + 1) := by
  rw [List.drop_eq_getElem_cons hi]
  show t.drop (i + 1) ++ t.take i ++ [t[i]] = _
  rw [List.append_assoc, List.take_append_getElem]
section
variable {P : Program} {w : World} {K : PySem.W.Frag} {mg : Str → Option Value} {base : Heap}
theorem ok__law_periods {f : Addr} {fd : FuncData} (F : Fun K "_law_periods" "_law_periods" st__law_periods f fd) (M : Md K mg) : FnOk P w K mg base CX0 1 f fd ["text"] sp_periods := by
  have nd := sc__law_periods.nd
  refine F.ok sc__law_periods (fun vs H Q E h => ?_) (fun cdv A outer s H vs Q E hr h => ?_)
  · obtain ⟨_, rfl, _⟩ := h
    rfl
  · obtain ⟨t, rfl, hT, k⟩ := h
    refine ⟨_, (pss_cons (ps_set (i := 1) nd rfl (Or.inl rfl) (pe_lst pa_nil))
  (pss_cons (ps_for PassesOwn.never rfl (pi_range2 (by rfl) M.n_range (pa_cons pe_int (pa_cons (pe_op op_add (pe_callB cr_lenT (by rfl) M.n_len boot_len (pa_cons (pv 0) pa_nil)) pe_int) pa_nil))) (pg_name (i := 2) nd rfl (Or.inr rfl))
  (pss_one (ps_if (pt_cmpR (kop K (r := rEqD) (op_eqD hr.units)) (pe_slice (ksl K (r := rSlL) sl_list) (pe_lc (own := [("place", 3)]) rfl nd (pi_range1 (by rfl) M.n_range (pa_cons (pe_op op_sub (pe_callB cr_lenT (by rfl) M.n_len boot_len (pa_cons (pv 0) pa_nil)) (pv 2)) pa_nil)) (blkOk_by (N := N__law_periods) (sc := defScope st__law_periods) (by decide +kernel)) (fun _ _ _ _ _ => (pg_name (i := 3) nd rfl (Or.inl rfl))) (fun _ _ _ _ _ => (pts_one (pt_cmpR op_neT (pe_ix ix_T (pv 0) (pv 3) (fun _ _ => rfl)) (pe_ix ix_T (pv 0) (pe_op op_add (pv 3) (pv 2)) (fun _ _ => rfl)) (nomark _)))) (fun _ _ _ _ _ => (pv 3))) po_none (po_some pe_int)) (pe_lst pa_nil) (nomark _))
  (pss_one (ps_expr (kbm K (pe_bm PySem.F.plainAttrs_list PySem.F.slot_list_append PySem.F.type_list_append mt_append (pv 1) (pa_cons (pv 2) pa_nil)))))
  pss_nil)))
  (pss_one (ps_ret (pv 1))))), ?_⟩
    have hl := hT.len
    have hlen : ∀ {σ : L2.St} {H1 : Hp}, σ[0]? = some (some (T t)) → Ev (tCB rLenT (tCons (tVar 0) tNil)) σ H1 (.int (t.length : Int)) := fun h0 => ev_cb (ea_cons (ev_var h0) ea_nil) (rc_lenT (by omega))
    refine q_asgL (el_lst ea_nil (by decide)) fun pg H1 hpg e1 h1 => ?_
    show tSeq _ _ _ [some (T t), some (.ref pg), none, none] H1
    refine q_forW (fun c => c = pg) (src_range2 (lo := 1) (hi := (t.length : Int) + 1) (n := t.length) (ea_cons ev_c (ea_cons (ev_op (hlen rfl) ev_c rv_I0) ea_nil)) (by decide) (by decide) (by omega) (by omega) (by omega)) ?_
      (fun Hs i σ' H' => ∃ (v2 v3 : Option V), σ' = [some (T t), some (.ref pg), v2, v3] ∧ Exc (fun c => c = pg) Hs H' ∧ Exc (fun c => c = pg) H1 H' ∧ H' pg = some (.lst (numV (perTo t i)))) ?_ ?_ ?_ ?_ ?_
    · rintro c rfl
      exact ⟨by rw [h1]; exact fun z => (nomatch z), fun z => z⟩
    · intro Hs e
      exact ⟨none, none, rfl, Exc.refl _, Exc.of e, e _ _ h1⟩
    · rintro Hs i σ' H' ⟨_, _, _, h, _⟩
      exact h
    · rintro Hs i σ' Ha Hb ⟨v2, v3, g0, g1, g2, g3⟩ e
      exact ⟨v2, v3, g0, g1.then e, g2.then e, e _ _ g3⟩
    · rintro Hs i x σ' H' e hi ⟨v2, v3, rfl, g1, g2, g3⟩ rfl
      have hii : (1 + (i : Int)) = ((i + 1 : Nat) : Int) := by omega
      show tIfS _ _ _ _ [some (T t), some (.ref pg), some (.int (1 + (i : Int))), v3] H'
      rw [hii]
      have hlc := el_lcF (σ := [some (T t), some (.ref pg), some (.int ((i + 1 : Nat) : Int)), v3]) (H := H') (te := tVar 3) (t := tTest (tOp rNeT (tOp rIxT (tVar 0) (tVar 3)) (tOp rIxT (tVar 0) (tOp (rI0 fun i j => .int (i + j)) (tVar 3) (tVar 2))))) (j := 3) (vs := [3]) (f := fun (j : Nat) => V.int (j : Int)) (g := fun (j : Nat) => V.int (j : Int)) (p := fun j => !decide (g t j = g t (j + (i + 1)))) (List.range (t.length - (i + 1))) (src_range1L (n := t.length - (i + 1)) (ea_cons (ev_is (ev_op (hlen rfl) (ev_var (i := 2) rfl) (rv_I0 (g := fun i j => .int (i - j)))) (by congr 1; omega)) ea_nil) (by omega)) (by rw [List.length_range]; omega) (fun _ => rfl) (fun j H2 e2 hj => by
          have hj := List.mem_range.mp hj
          refine et_is (et_test (ev_op (ev_op (ev_var rfl) (ev_var rfl) (Wc.rv_ixT (by omega) (atI_nat (g_at (t := t) (i := j) (by omega))))) (ev_op (ev_var rfl) (ev_is (ev_op (ev_var rfl) (ev_var rfl) rv_I0) (show V.int ((j : Int) + ((i + 1 : Nat) : Int)) = .int ((j + (i + 1) : Nat) : Int) by congr 1)) (Wc.rv_ixT (by omega) (atI_nat (g_at (t := t) (i := j + (i + 1)) (by omega))))) rv_neT)) ?_
          congr 1
          exact decide_eq_decide.mpr ⟨fun z => by simpa using z, fun z => by rw [z]⟩) (fun j H2 e2 hj _ => ev_var rfl)
      refine s_when (b := decide (∀ j, j < t.length - (i + 1) → g t j = g t (j + (i + 1)))) (et_is (et_eqNilN (el_take1N hlc)) (decide_eq_decide.mpr none_unlike)) (fun hb H2 e2 => ?_) (fun hb H2 e2 => ?_)
      · have hb := of_decide_eq_true hb
        have := perTo_len t i
        refine s_app (v := .int ((i + 1 : Nat) : Int)) (e2 _ _ g3) (ev_var rfl) (ev_var rfl) (by rw [numV_len]; omega) fun H3 e3 => ⟨_, _, rfl, ((g1.then e2).then e3).upd (.inl rfl), ((g2.then e2).then e3).upd (.inl rfl), ?_⟩
        rw [upd_same, perTo_succ, if_pos hb]
        unfold numV
        rw [List.map_append]
        rfl
      · have hb := of_decide_eq_false hb
        refine ⟨_, _, rfl, g1.then e2, g2.then e2, ?_⟩
        rw [perTo_succ, if_neg hb, List.append_nil]
        exact e2 _ _ g3
    · rintro Hs σ' H' e ⟨v2, v3, rfl, g1, g2, g3⟩
      refine s_ret (ev_var rfl) fun H2 e2 => k pg H2 hpg ?_ (e2 _ _ g3)
      intro p o hH
      exact e2 _ _ (g2 p o (fun z => by rw [z, hpg] at hH; cases hH) (e1 _ _ hH))
theorem ok__law_turns {f : Addr} {fd : FuncData} (F : Fun K "_law_turns" "_law_turns" st__law_turns f fd) (M : Md K mg) : FnOk P w K mg base CX0 1 f fd ["text"] sp_turns := by
  have nd := sc__law_turns.nd
  refine F.ok sc__law_turns (fun vs H Q E h => ?_) (fun cdv A outer s H vs Q E hr h => ?_)
  · obtain ⟨_, rfl, _⟩ := h
    rfl
  · obtain ⟨t, rfl, hT, k⟩ := h
    refine ⟨_, (pss_cons (ps_par (i := 1) (j := 2) rfl nd rfl rfl (by decide) rfl rfl (pa_cons (pv 0) (pa_cons (pe_lst (pa_cons (pv 0) pa_nil)) pa_nil)) (by rfl))
  (pss_cons (ps_for PassesOwn.never rfl (pi_range1 (by rfl) M.n_range (pa_cons (pe_op op_sub (pe_callB cr_lenT (by rfl) M.n_len boot_len (pa_cons (pv 0) pa_nil)) pe_int) pa_nil)) (pg_name (i := 3) nd rfl (Or.inl rfl))
  (pss_cons (ps_set (i := 1) nd rfl (Or.inl rfl) (pe_op op_addT (pe_slice sl_T (pv 1) (po_some pe_int) po_none) (pe_slice sl_T (pv 1) po_none (po_some pe_int))))
  (pss_one (ps_expr (kbm K (pe_bm PySem.F.plainAttrs_list PySem.F.slot_list_append PySem.F.type_list_append mt_append (pv 2) (pa_cons (pv 1) pa_nil)))))))
  (pss_one (ps_ret (pe_callB (ksorted P w K hr.units) (by rfl) M.n_sorted boot_sorted (pa_cons (pe_callTy (kset P w K) (by rfl) M.n_set boot_set (pa_cons (pv 2) pa_nil)) pa_nil)))))), ?_⟩
    have hl := hT.len
    have hlen : ∀ {σ : L2.St} {H1 : Hp}, σ[0]? = some (some (T t)) → Ev (tCB rLenT (tCons (tVar 0) tNil)) σ H1 (.int (t.length : Int)) := fun h0 => ev_cb (ea_cons (ev_var h0) ea_nil) (rc_lenT (by omega))
    refine q_parVL (v := T t) (xs := [T t]) (ev_var rfl) (el_lst (ea_cons (ev_var rfl) ea_nil) (by show 1 ≤ 100000; decide)) fun pg H1 hpg e1 h1 => ?_
    show tSeq _ _ _ [some (T t), some (T t), some (.ref pg), none] H1
    refine q_forW (fun c => c = pg) (src_range1Z (n := t.length - 1) (z := (t.length : Int) - 1) (ea_cons (ev_op (hlen rfl) ev_c rv_I0) ea_nil) (by omega) (by omega) (by omega)) ?_
      (fun Hs i σ' H' => ∃ (v3 : Option V), σ' = [some (T t), some (T (t.drop i ++ t.take i)), some (.ref pg), v3] ∧ Exc (fun c => c = pg) Hs H' ∧ Exc (fun c => c = pg) H1 H' ∧ H' pg = some (.lst (((List.range (i + 1)).map fun i => t.drop i ++ t.take i).map T))) ?_ ?_ ?_ ?_ ?_
    · rintro c rfl
      exact ⟨by rw [h1]; exact fun z => (nomatch z), fun z => z⟩
    · intro Hs e
      refine ⟨none, ?_, Exc.refl _, Exc.of e, ?_⟩
      · show _ = [some (T t), some (T (t ++ [])), _, _]
        rw [List.append_nil]
      · rw [e _ _ h1]
        show _ = some (HO.lst [T (t ++ [])])
        rw [List.append_nil]
    · rintro Hs i σ' H' ⟨_, _, h, _⟩
      exact h
    · rintro Hs i σ' Ha Hb ⟨v3, g0, g1, g2, g3⟩ e
      exact ⟨v3, g0, g1.then e, g2.then e, e _ _ g3⟩
    · rintro Hs i x σ' H' e hi ⟨v3, rfl, g1, g2, g3⟩ rfl
      show tSeq _ _ _ [some (T t), some (T (t.drop i ++ t.take i)), some (.ref pg), some (.int (i : Int))] H'
      have hwl : (t.drop i ++ t.take i).length = t.length := by rw [List.length_append, List.length_drop, List.length_take]; omega
      refine q_asg (v := T (t.drop (i + 1) ++ t.take (i + 1))) (ev_is (ev_op (ev_slT (lo := some ((1 : Nat) : Int)) (ev_var rfl) (eo_some ev_c) eo_none (by omega)) (ev_slT (hi := some ((1 : Nat) : Int)) (ev_var rfl) eo_none (eo_some ev_c) (by omega)) (rv_addT ?_)) ?_) fun H2 e2 => ?_
      · rw [cutT_from, cutT_to, List.length_drop, List.length_take]
        omega
      · rw [cutT_from, cutT_to, turn_next (by omega)]
      · refine s_app (v := T (t.drop (i + 1) ++ t.take (i + 1))) (e2 _ _ g3) (ev_var rfl) (ev_var rfl) (by rw [List.length_map, List.length_map, List.length_range]; omega) fun H3 e3 => ⟨_, rfl, ((g1.then e2).then e3).upd (.inl rfl), ((g2.then e2).then e3).upd (.inl rfl), ?_⟩
        rw [upd_same, List.range_succ (n := i + 1), List.map_append, List.map_append]
        rfl
    · rintro Hs σ' H' e ⟨v3, rfl, g1, g2, g3⟩
      have hr : (List.range (t.length - 1 + 1)).map (fun i => t.drop i ++ t.take i) = turnL t := by
        unfold turnL
        congr 2
        omega
      rw [hr] at g3
      refine s_retL (el_sortSetP (xs := turnL t) (ev_var rfl) g3 (by unfold turnL; rw [List.length_map, List.length_range]; omega)) fun p H2 hp e2 h2 => k p H2 ?_ ?_ h2
      · cases hH : H p with
        | none => rfl
        | some o =>
          have := g2 p o (fun z => by rw [z, hpg] at hH; cases hH) (e1 _ _ hH)
          rw [hp] at this
          cases this
      · intro p o hH
        exact e2 _ _ (g2 p o (fun z => by rw [z, hpg] at hH; cases hH) (e1 _ _ hH))
def sp_law_lyndon : Sp := fun vs H Q _ => ∃ (t : Tx) (p : Addr) (fs : List Tx), vs = [T t, .ref p] ∧ H p = some (.lst (fs.map T)) ∧ t.length ≤ 400 ∧ fs.length ≤ 400 ∧ IsLyn t fs ∧ RetV (.bl true) H Q
theorem lyn_len {t : Tx} {fs : List Tx} (h : IsLyn t fs) : ∀ w ∈ fs, w.length ≤ t.length := fun w hw => by
  rw [← h.all]
  exact (List.sublist_flatten_of_mem hw).length_le
theorem ok__law_is_lyndon {f : Addr} {fd : FuncData} (F : Fun K "_law_is_lyndon" "_law_is_lyndon" st__law_is_lyndon f fd) (M : Md K mg) : FnOk P w K mg base CX0 1 f fd ["text", "thing"] sp_law_lyndon := by
  have nd := sc__law_is_lyndon.nd
  refine F.ok sc__law_is_lyndon (fun vs H Q E h => ?_) (fun cdv A outer s H vs Q E hr h => ?_)
  · obtain ⟨_, _, _, rfl, _⟩ := h
    rfl
  · obtain ⟨t, p, fs, rfl, hp, hl, hfl, hF, k⟩ := h
    refine ⟨_, (pss_cons (ps_if (PW.pt (pw_or (pt_not (pt_val (pe_callB (kcr K (r := rIsiB) cr_isi) (by rfl) M.n_isinstance boot_isinstance (pa_cons (pv 1) (pa_cons (pe_bltn (v := .ty "list") rfl M.n_list boot_list rfl) pa_nil))))) (pw_or (pt_cmpR (kop K (r := rNeD) (op_neD hr.units)) (pe_lc (own := [("part", 2)]) rfl nd (kil K (pi_list (pv 1))) (blkOk_by (N := N__law_is_lyndon) (sc := defScope st__law_is_lyndon) (by decide +kernel)) (fun _ _ _ _ _ => (pg_name (i := 2) nd rfl (Or.inl rfl))) (fun _ _ _ _ _ => (pts_one (PW.pt (pw_or (pt_not (pt_val (pe_callB (kcr K (r := rIsiB) cr_isi) (by rfl) M.n_isinstance boot_isinstance (pa_cons (pv 2) (pa_cons (pe_bltn (v := .ty "str") rfl M.n_str boot_str rfl) pa_nil))))) (pw_or1 (pt_cmpR op_eqT (pv 2) (pe_sT []) (nomark _))))))) (fun _ _ _ _ _ => (pv 2))) (pe_lst pa_nil) (nomark _)) (pw_or1 (pt_cmpR op_neT (kbm K (pe_bm PySem.F.plainAttrs_str PySem.F.slot_str_join PySem.F.type_str_join (kmt K (r := rJoinT) mt_joinT) (pe_sT []) (pa_cons (pv 1) pa_nil))) (pv 0) (nomark _))))))
  (pss_one (ps_ret pe_bl))
  pss_nil)
  (pss_cons (ps_for PassesOwn.never rfl (kiz K (pi_zip (by rfl) M.n_zip (pa_cons (pv 1) (pa_cons (pe_slice (ksl K (r := rSlL) sl_list) (pv 1) (po_some pe_int) po_none) pa_nil)))) (kgt K (n := 2) (pg_tup rfl (pgs_cons (pg_name (i := 2) nd rfl (Or.inr rfl)) (pgs_cons (pg_name (i := 3) nd rfl (Or.inl rfl)) pgs_nil))))
  (pss_one (ps_if (pt_cmpR op_ltT' (pv 2) (pv 3) (nomark _))
  (pss_one (ps_ret pe_bl))
  pss_nil)))
  (pss_cons (ps_for PassesOwn.never rfl (kil K (pi_list (pv 1))) (pg_name (i := 2) nd rfl (Or.inr rfl))
  (pss_one (ps_if (pt_cmpR (kop K (r := rNeD) (op_neD hr.units)) (pe_slice (ksl K (r := rSlL) sl_list) (pe_lc (own := [("place", 4)]) rfl nd (pi_range2 (by rfl) M.n_range (pa_cons pe_int (pa_cons (pe_callB cr_lenT (by rfl) M.n_len boot_len (pa_cons (pv 2) pa_nil)) pa_nil))) (blkOk_by (N := N__law_is_lyndon) (sc := defScope st__law_is_lyndon) (by decide +kernel)) (fun _ _ _ _ _ => (pg_name (i := 4) nd rfl (Or.inl rfl))) (fun _ _ _ _ _ => (pts_one (pt_not (pt_cmpR op_ltT' (pv 2) (pe_op op_addT (pe_slice sl_T (pv 2) (po_some (pv 4)) po_none) (pe_slice sl_T (pv 2) po_none (po_some (pv 4)))) (nomark _))))) (fun _ _ _ _ _ => (pv 4))) po_none (po_some pe_int)) (pe_lst pa_nil) (nomark _))
  (pss_one (ps_ret pe_bl))
  pss_nil)))
  (pss_one (ps_ret pe_bl))))), ?_⟩
    have hlw : ∀ w ∈ fs, w.length ≤ 400 := fun w hw => Nat.le_trans (lyn_len hF w hw) hl
    refine q_when (b := false) (et_is (et_or (a := false) (b := false) (et_not (et_B (ev_cb (ea_cons (ev_var rfl) (ea_cons ev_c ea_nil)) (rc_isi (b := true) (fun H1 e => .base (.lst (e _ _ hp))) k_list_list)))) fun _ => et_is (et_or (a := false) (b := false) (et_is (et_neNilT (c := fs.filter fun _ => false) (el_lcF (j := 2) (vs := [2]) (f := T) (g := T) (p := fun _ => false) fs (src_listM (ev_var rfl) (sq_of hp)) (by omega) (fun _ => rfl) (fun u H1 e1 hu => ?_) (fun u H1 e1 hu _ => ev_var rfl)) ?_) ?_) fun _ => ?_) rfl) rfl) (fun z => by cases z) (fun _ H1 e1 => ?_)
    · exact et_is (et_or (a := false) (b := false) (et_is (et_not (et_B (ev_cb (ea_cons (ev_var rfl) (ea_cons ev_c ea_nil)) (rc_isi (b := true) (fun _ _ => .base (.str _)) k_str_str)))) rfl) fun _ => et_is (et_test (ev_op (ev_var rfl) ev_c rv_eqT)) (decide_eq_false (hF.lyn u hu).1)) rfl
    · intro u hu
      rw [List.mem_filter] at hu
      exact absurd hu.2 Bool.false_ne_true
    · rw [List.filter_eq_nil_iff.mpr (fun _ _ z => Bool.false_ne_true z)]
      rfl
    · refine et_is (et_test (ev_op (ev_bmT ev_c (ea_cons (ev_var rfl) ea_nil) (rm_join (.inl (sq_of hp)) ?_)) (ev_var rfl) rv_neT)) ?_
      · rw [← flat_len, hF.all]
        omega
      · rw [hF.all, decide_eq_true rfl]
        rfl
    · have hp1 := e1 _ _ hp
      have hsl : EvL (tSl (rSlL K) (tVar 1) (tPart (tC (.int 1))) tNoPart) (start N__law_is_lyndon [T t, .ref p]) H1 ((fs.drop 1).map T) := by
        have h1 := el_sl (K := K) (σ := start N__law_is_lyndon [T t, .ref p]) (H := H1) (te := tVar 1) (lo := some ((1 : Nat) : Int)) (hi := none) (tl := tPart (tC (.int 1))) (th := tNoPart) (xs := fs.map T) (ev_var rfl) (eo_some ev_c) eo_none (sq_of hp1)
        rw [cutV_from, ← List.map_drop] at h1
        exact h1
      refine q_forW (fun _ => False) (src_zipR (n := min (fs.map T).length ((fs.drop 1).map T).length) (ev_var rfl) hsl (sq_of hp1) rfl) (fun _ z => z.elim)
        (fun Hs i σ' H' => ∃ (v2 v3 v4 : Option V), σ' = [some (T t), some (.ref p), v2, v3, v4] ∧ Ex Hs H') ?_ ?_ ?_ ?_ ?_
      · intro Hs e
        exact ⟨none, none, none, rfl, Ex.refl _⟩
      · rintro Hs i σ' H' ⟨_, _, _, _, h⟩
        exact .of h
      · rintro Hs i σ' Ha Hb ⟨v2, v3, v4, g0, g1⟩ e
        exact ⟨v2, v3, v4, g0, g1.trans e⟩
      · rintro Hs i x σ' H' e hi ⟨v2, v3, v4, rfl, g1⟩ ⟨q, y, z, rfl, hy, hz, hq⟩
        obtain ⟨a, ha, rfl⟩ := at_map hy
        obtain ⟨b, hb, rfl⟩ := at_map hz
        have hd : ¬ a < b := hF.desc (a, b) (List.mem_of_getElem? (i := i) (by rw [List.getElem?_zip_eq_some]; exact ⟨ha, hb⟩))
        refine g_pair hq ?_
        show tIfS _ _ _ _ [some (T t), some (.ref p), some (T a), some (T b), v4] H'
        exact s_when (b := false) (et_is (et_test (ev_op (ev_var rfl) (ev_var rfl) rv_ltT)) (decide_eq_false hd)) (fun z => by cases z) (fun _ H2 e2 => ⟨_, _, _, rfl, g1.trans e2⟩)
      · rintro Hs σ' H2 e ⟨v2, v3, v4, rfl, g1⟩
        have e12 := (e1.trans e).trans g1
        refine q_search (n := fs.length) (j := 2) (src_listM (ev_var rfl) (sq_of (e12 _ _ hp))) (by show 2 < 5; decide) (fun _ => false) (fun i x H3 e3 hi hx _ => ?_) (fun i x H3 H4 e3 hi hx e4 _ z => by cases z) (fun y H3 e3 _ => s_ret ev_c (RetV.mono k (e12.trans e3)))
        obtain ⟨u, hu, rfl⟩ := at_map hx
        have hum := List.mem_of_getElem? hu
        have hul := hlw u hum
        show EvT _ [some (T t), some (.ref p), some (T u), v3, v4] H3 false
        have hlc := el_lcF (σ := [some (T t), some (.ref p), some (T u), v3, v4]) (H := H3) (te := tVar 4) (t := tNot (tTest (tOp rLtT (tVar 2) (tOp rAddT (tSl rSlT (tVar 2) (tPart (tVar 4)) tNoPart) (tSl rSlT (tVar 2) tNoPart (tPart (tVar 4))))))) (j := 4) (vs := [4]) (f := fun (j : Nat) => V.int (1 + (j : Int))) (g := fun (j : Nat) => V.int (1 + (j : Int))) (p := fun _ => false) (List.range (u.length - 1)) (src_range2L (lo := 1) (hi := (u.length : Int)) (n := u.length - 1) (ea_cons ev_c (ea_cons (ev_cb (ea_cons (ev_var (i := 2) rfl) ea_nil) (rc_lenT (by omega))) ea_nil)) (by decide) (by decide) (by omega) (by omega) (by omega)) (by rw [List.length_range]; omega) (fun _ => rfl) (fun j H5 e5 hj => by
          have hj := List.mem_range.mp hj
          refine et_is (et_not (et_test (ev_op (ev_var rfl) (ev_op (ev_slT (lo := some ((j + 1 : Nat) : Int)) (ev_var rfl) (eo_some (ev_is (ev_var rfl) (show V.int (1 + (j : Int)) = .int ((j + 1 : Nat) : Int) by congr 1; omega))) eo_none (by omega)) (ev_slT (hi := some ((j + 1 : Nat) : Int)) (ev_var rfl) eo_none (eo_some (ev_is (ev_var rfl) (show V.int (1 + (j : Int)) = .int ((j + 1 : Nat) : Int) by congr 1; omega))) (by omega)) (rv_addT ?_)) rv_ltT))) ?_
          · rw [cutT_from, cutT_to, List.length_drop, List.length_take]
            omega
          · rw [cutT_from, cutT_to, decide_eq_true ((hF.lyn u hum).2 (j + 1) (by omega) (by omega))]
            rfl) (fun j H5 e5 hj _ => ev_var rfl)
        rw [List.filter_eq_nil_iff.mpr (fun _ _ z => Bool.false_ne_true z)] at hlc
        exact et_is (et_neNilN (c := []) (el_take1N (c := []) hlc)) rfl
end
end K01
set_option Elab.async false
set_option linter.all false
set_option maxRecDepth 100000
set_option maxHeartbeats 4000000
namespace K01
open PySem PySem.Spec PyProof.Rows L2 Evl Wc Wt Wg Ws We
/-! what is in a thing, and its bounds -/
def up (a : Tx) : Tx := a.map fun c => if 97 ≤ c ∧ c ≤ 122 then c - 32 else c
theorem S_cons (c : Nat) (a : Tx) : SX.S (c :: a) = (⟨#[c]⟩ : PySem.Str) ++ SX.S a := by
  apply PySem.Str.ext'
  rw [PySem.Str.cps_append]
  show (c :: a).toArray = #[c] ++ a.toArray
  simp
theorem upper_T : ∀ {a : Tx}, (∀ c ∈ a, c < 128) → PySem.Txt.upper (SX.S a) = SX.S (up a)
  | [], _ => by decide +kernel
  | c :: a, h => by
    rw [S_cons, PySem.W.KOpn.upper_app, PySem.W.KOpn.upper_one (h c List.mem_cons_self), upper_T fun d hd => h d (List.mem_cons_of_mem _ hd)]
    show _ = SX.S ((if 97 ≤ c ∧ c ≤ 122 then c - 32 else c) :: up a)
    rw [S_cons]
theorem asc_pw : ∀ {l : List Tx}, (∀ a ∈ List.zip l (l.drop 1), a.1 < a.2) → l.Pairwise (· < ·)
  | [], _ => .nil
  | [x], _ => List.pairwise_singleton _ _
  | x :: y :: r, h => by
    have hr : (y :: r).Pairwise (· < ·) := asc_pw fun a ha => h a (by
      simp only [List.drop_succ_cons, List.drop_zero, List.zip_cons_cons, List.mem_cons] at ha ⊢
      exact .inr ha)
    have hxy : x < y := h (x, y) (by simp)
    refine List.pairwise_cons.mpr ⟨fun z hz => ?_, hr⟩
    rcases List.mem_cons.mp hz with rfl | hz
    · exact hxy
    · exact List.lt_trans hxy ((List.pairwise_cons.mp hr).1 z hz)
theorem setS_lt (l : List Tx) : (setS l).Pairwise (· < ·) := pw_lt (sortT_pw _) (setS_nodup l)
theorem asc_set (l : List Tx) : ascB l = decide (l = setS l) := by
  rw [Bool.eq_iff_iff, decide_eq_true_eq]
  constructor
  · intro h
    have hp : l.Pairwise (· < ·) := asc_pw fun a ha => of_decide_eq_true (List.all_eq_true.mp h a ha)
    have hn : l.Nodup := hp.imp fun {a b} h1 => (fun (h2 : a = b) => List.lt_irrefl b (by rw [h2] at h1; exact h1))
    have h1 : sortT l = setS l := setS_uniq (l := l) (ys := l) ⟨hn, fun x => Iff.rfl⟩
    have h2 : l = sortT l := ((sortT_perm l).symm).eq_of_pairwise (fun x y _ _ h1 h2 => List.le_antisymm h1 h2) (hp.imp fun h => List.le_of_lt h) (sortT_pw l)
    exact h2.trans h1
  · intro h
    rw [h]
    exact List.all_eq_true.mpr fun a ha => decide_eq_true (zip_lt (setS_lt l) a ha)
theorem word_law (t : Tx) : (!(decide ((1 : Int) ≤ t.length) && decide ((t.length : Int) ≤ 12)) || !decide (t.filter (fun c => !decide (c ∈ ([97, 98, 99, 100] : Tx))) = [])) = !wordB (some t) := by
  have h1 : decide (t.filter (fun c => !decide (c ∈ ([97, 98, 99, 100] : Tx))) = []) = t.all fun c => decide (c ∈ ([97, 98, 99, 100] : Tx)) := by
    rw [Bool.eq_iff_iff, decide_eq_true_eq, List.filter_eq_nil_iff, List.all_eq_true]
    refine ⟨fun h c hc => ?_, fun h c hc => ?_⟩
    · have := h c hc
      cases hd : decide (c ∈ ([97, 98, 99, 100] : Tx)) with
      | true => rfl
      | false => rw [hd] at this; exact absurd rfl this
    · rw [h c hc]
      exact Bool.false_ne_true
  have h2 : decide ((1 : Int) ≤ t.length) = !decide (t = []) := by
    cases t with
    | nil => rfl
    | cons a l => rw [decide_eq_false (List.cons_ne_nil _ _), decide_eq_true (by rw [List.length_cons]; omega)]; rfl
  show _ = !(((decide ((t.length : Int) ≤ (12 : Int))) && t.all fun c => decide (c ∈ ([97, 98, 99, 100] : Tx))) && !decide (t = []))
  rw [h1, h2]
  cases decide (t = []) <;> cases decide ((t.length : Int) ≤ (12 : Int)) <;> cases (t.all fun c => decide (c ∈ ([97, 98, 99, 100] : Tx))) <;> rfl
theorem word_low {t : Tx} (h : wordB (some t) = true) : LowT t := fun c hc => by
  have h1 := (Bool.and_eq_true_iff.mp h).1
  unfold areSigns at h1
  have h2 := List.all_eq_true.mp (Bool.and_eq_true_iff.mp h1).2 c hc
  have h3 := of_decide_eq_true h2
  simp only [List.mem_cons, List.not_mem_nil, or_false] at h3
  omega
/-- a size to be looked at, low signs -/
def SmT (t : Tx) : Prop := t.length ≤ 20000 ∧ LowT t
def SmL : Option (List (Option Tx)) → Prop
  | none => True
  | some os => os.length ≤ 1000 ∧ ∀ t, some t ∈ os → SmT t
theorem SmL.sm {o : Option (List (Option Tx))} (h : SmL o) : Sm o := by
  cases o with
  | none => trivial
  | some os => exact ⟨h.1, fun t ht => (h.2 t ht).1⟩
theorem txs_len (os : List (Option Tx)) : (txs os).length = os.length := List.length_map _
section
variable {P : Program} {w : World} {K : PySem.W.Frag} {mg : Str → Option Value} {base : Heap}
theorem el_sortSetU {σ : L2.St} {H : Hp} {te : TE} {p : Addr} {xs : List Tx} (h : Ev te σ H (.ref p)) (hp : H p = some (.tup (xs.map T))) (hl : xs.length ≤ 4000) : EvL (tCB (rSortX K P w) (tCons (tCB (rSetTup K P w) (tCons te tNil)) tNil)) σ H ((setS xs).map T) := fun H1 e Q k =>
  h H1 e _ fun H2 e2 => ⟨p, xs, rfl, st_of ((e.trans e2) _ _ hp), hl, fun q ys u hly hq => .inr ⟨q, ys, rfl, upd_same, fun zs r pz hr => by
    have hr1 : H2 r = none := fresh_back (Ex.new hq) hr
    exact k r _ (fresh_back e2 hr1) ((e2.trans (Ex.new hq)).trans (Ex.new hr)) (by rw [upd_same, setS_uniq (l := xs) ⟨pz.nodup_iff.mpr u.nd, fun x => (pz.mem_iff).trans (u.mem x)⟩])⟩⟩
def sp_law_right_lot : Sp := fun vs H Q _ => ∃ (v : V) (o : Option (List (Option Tx))), vs = [v] ∧ Th H v o ∧ SmL o ∧ RetV (.bl (lotB o)) H Q
theorem ok__law_is_right {f : Addr} {fd : FuncData} (F : Fun K "_law_is_right" "_law_is_right" st__law_is_right f fd) (M : Md K mg) : FnOk P w K mg base CX0 1 f fd ["thing"] sp_law_right_lot := by
  have nd := sc__law_is_right.nd
  refine F.ok sc__law_is_right (fun vs H Q E h => ?_) (fun cdv A outer s H vs Q E hr h => ?_)
  · obtain ⟨_, _, rfl, _⟩ := h
    rfl
  · obtain ⟨v, o, rfl, ht, hs, k⟩ := h
    refine ⟨_, (pss_cons (ps_if (PW.pt (pw_or (pt_not (pt_val (pe_callB (kcr K (r := rIsiB) cr_isi) (by rfl) M.n_isinstance boot_isinstance (pa_cons (pv 0) (pa_cons (pe_bltn (v := .ty "tuple") rfl M.n_tuple boot_tuple rfl) pa_nil))))) (pw_or1 (pt_not (pt_chain op_le op_le pe_int (pe_callB (kcr K (r := rLenS) call_len_seq) (by rfl) M.n_len boot_len (pa_cons (pv 0) pa_nil)) pe_int)))))
  (pss_one (ps_ret pe_bl))
  pss_nil)
  (pss_cons (ps_for PassesOwn.never rfl (kit K (pi_tup (pv 0))) (pg_name (i := 1) nd rfl (Or.inl rfl))
  (pss_one (ps_if (PW.pt (pw_or (pt_not (pt_val (pe_callB (kcr K (r := rIsiB) cr_isi) (by rfl) M.n_isinstance boot_isinstance (pa_cons (pv 1) (pa_cons (pe_bltn (v := .ty "str") rfl M.n_str boot_str rfl) pa_nil))))) (pw_or (pt_not (pt_chain op_le op_le pe_int (pe_callB cr_lenT (by rfl) M.n_len boot_len (pa_cons (pv 1) pa_nil)) pe_int)) (pw_or1 (pt_cmpR (kop K (r := rNeD) (op_neD hr.units)) (pe_lc (own := [("sign", 2)]) rfl nd (pi_str (pv 1)) (blkOk_by (N := N__law_is_right) (sc := defScope st__law_is_right) (by decide +kernel)) (fun _ _ _ _ _ => (pg_name (i := 2) nd rfl (Or.inl rfl))) (fun _ _ _ _ _ => (pts_one (pt_cmpR op_notInT (pv 2) (pe_sT [97, 98, 99, 100]) (by rfl)))) (fun _ _ _ _ _ => (pv 2))) (pe_lst pa_nil) (nomark _))))))
  (pss_one (ps_ret pe_bl))
  pss_nil)))
  (pss_one (ps_ret (pe_cmpR (kop K (r := rEqD) (op_eqD hr.units)) (pe_callTy (kcr K (r := rListS) call_list_of) (by rfl) M.n_list boot_list (pa_cons (pv 0) pa_nil)) (pe_callB (ksorted P w K hr.units) (by rfl) M.n_sorted boot_sorted (pa_cons (pe_callTy (ksetTup (K := K) (P := P) (w := w)) (by rfl) M.n_set boot_set (pa_cons (pv 0) pa_nil)) pa_nil)) (nomark _)))))), ?_⟩
    cases o with
    | none =>
      have hty : ∃ t, (∀ H1, Ex H H1 → TyX K H1 v (.type t)) ∧ kitB t "tuple" = some false := by
        cases ht with
        | lst h => exact ⟨"list", fun H1 e => .base (.lst (e _ _ h)), by decide +kernel⟩
        | non => exact ⟨"NoneType", fun _ _ => .base .non, by decide +kernel⟩
        | int i => exact ⟨"int", fun _ _ => .base (.int i), by decide +kernel⟩
        | str s => exact ⟨"str", fun _ _ => .base (.str _), by decide +kernel⟩
      obtain ⟨t, hty, hk⟩ := hty
      exact q_when (b := true) (et_is (et_or (a := true) (b := true) (et_not (et_B (ev_cb (ea_cons (ev_var rfl) (ea_cons ev_c ea_nil)) (rc_isi (b := false) hty hk)))) fun z => by cases z) rfl) (fun _ H1 e1 => s_ret (v := .bl (lotB none)) ev_c (RetV.mono k e1)) (fun z => by cases z)
    | some os =>
      cases ht with
      | @tup p vs _ hp h2 =>
      obtain ⟨hs1, hs2⟩ := hs
      have hlen := h2.len
      refine q_when (b := !(decide (1 ≤ os.length) && decide (os.length ≤ 12))) (et_is (et_or (a := false) (et_not (et_B (ev_cb (ea_cons (ev_var rfl) (ea_cons ev_c ea_nil)) (rc_isi (b := true) (fun H1 e => .base (.tup (e _ _ hp))) k_tuple_tuple)))) fun _ => et_not (et_test (ev_chain ev_c (ev_lenU (ev_var rfl) (st_of hp)) rv_I0 ev_c rv_I0))) ?_) (fun hb H1 e1 => s_ret (v := .bl (lotB (some os))) (ev_is ev_c ?_) (RetV.mono k e1)) (fun hb H1 e1 => ?_)
      · rw [Bool.false_or]
        congr 1
        rw [← hlen]
        congr 1
        · exact decide_eq_decide.mpr (by omega)
        · exact decide_eq_decide.mpr (by show ((vs.length : Int) ≤ 12) ↔ _; omega)
      · have : (decide (1 ≤ os.length) && decide (os.length ≤ 12)) = false := by
          cases h : (decide (1 ≤ os.length) && decide (os.length ≤ 12)) with
          | false => rfl
          | true => rw [h] at hb; cases hb
        rw [lotB_some, this]
        rfl
      · have hb' : (decide (1 ≤ os.length) && decide (os.length ≤ 12)) = true := by
          cases h : (decide (1 ≤ os.length) && decide (os.length ≤ 12)) with
          | true => rfl
          | false => rw [h] at hb; cases hb
        refine q_search (n := vs.length) (j := 1) (src_tup (ev_var rfl) (st_of (e1 _ _ hp))) (by show 1 < 3; decide) (fun i => !(os[i]?.elim true wordB)) (fun i x H2 e2 hi hx _ => ?_) (fun i x H2 H3 e2 hi hx e3 _ hf D' hD => ?_) (fun y H2 e2 hk => ?_)
        · obtain ⟨o, ho, hel⟩ := all2_at h2 hx
          have hm := List.mem_of_getElem? ho
          rw [ho]
          show EvT _ [some (.ref p), some x, none] H2 (!wordB o)
          cases o with
          | none =>
            have hel2 := (hel.ex e1).ex e2
            have hty : ∃ t, (∀ H3, Ex H2 H3 → TyX K H3 x (.type t)) ∧ kitB t "str" = some false := by
              cases hel2 with
              | lst h => exact ⟨"list", fun H1 e => .base (.lst (e _ _ h)), by decide +kernel⟩
              | tup h => exact ⟨"tuple", fun H1 e => .base (.tup (e _ _ h)), by decide +kernel⟩
              | non => exact ⟨"NoneType", fun _ _ => .base .non, by decide +kernel⟩
              | int i => exact ⟨"int", fun _ _ => .base (.int i), by decide +kernel⟩
              | bl b => exact ⟨"bool", fun _ _ => .base (.bl b), by decide +kernel⟩
            obtain ⟨t, hty, hkt⟩ := hty
            exact et_is (et_or (a := true) (b := true) (et_is (et_not (et_B (ev_cb (ea_cons (ev_var rfl) (ea_cons ev_c ea_nil)) (rc_isi (b := false) hty hkt)))) rfl) fun z => by cases z) rfl
          | some t =>
            obtain ⟨hl, hlow⟩ := hs2 t hm
            cases hel
            have hlc := el_lcF (σ := [some (.ref p), some (T t), none]) (H := H2) (te := tVar 2) (t := tTest (tOp rNotInT (tVar 2) (tC (T [97, 98, 99, 100])))) (j := 2) (vs := [2]) (f := fun c : Nat => T [c]) (g := fun c : Nat => T [c]) (p := fun c => !decide (c ∈ ([97, 98, 99, 100] : Tx))) t (src_str (ev_var (i := 1) rfl)) (by omega) (fun _ => rfl) (fun c H3 e3 hc => et_test (ev_op (ev_var rfl) ev_c rv_notInT)) (fun c H3 e3 hc _ => ev_var rfl)
            exact et_is (et_or (a := false) (et_is (et_not (et_B (ev_cb (ea_cons (ev_var rfl) (ea_cons ev_c ea_nil)) (rc_isi (b := true) (fun _ _ => .base (.str _)) k_str_str)))) rfl) fun _ => et_or (et_not (et_test (ev_chain ev_c (ev_cb (ea_cons (ev_var rfl) ea_nil) (rc_lenT (by omega))) rv_I0 ev_c rv_I0))) fun _ => et_neNilF (f := fun c : Nat => T [c]) (d := fun c : Nat => dT [c]) (xs := t.filter fun c => !decide (c ∈ ([97, 98, 99, 100] : Tx))) hlc (fun _ _ _ => .str _) (fun c hc => lay_T fun d hd => by
              rw [List.mem_singleton.mp hd]
              exact hlow c (List.mem_filter.mp hc).1) (fun _ _ => Nat.le_refl _)) (by rw [Bool.false_or]; exact word_law t)
        · obtain ⟨o, ho, hel⟩ := all2_at h2 hx
          rw [ho] at hf
          have hw : wordB o = false := by
            cases h : wordB o with
            | false => rfl
            | true =>
              have : (!wordB o) = true := hf
              rw [h] at this
              cases this
          refine s_ret (v := .bl (lotB (some os))) (ev_is ev_c ?_) (by rw [hD]; exact RetV.mono k ((e1.trans e2).trans e3))
          have : os.all wordB = false := by
            rw [List.all_eq_false]
            exact ⟨o, List.mem_of_getElem? ho, by rw [hw]; exact Bool.false_ne_true⟩
          rw [lotB_some, this, Bool.false_and, Bool.and_false]
        · have hall : os.all wordB = true := by
            rw [List.all_eq_true]
            intro o ho
            obtain ⟨i, hi, rfl⟩ := List.getElem_of_mem ho
            have := hk i (by omega)
            rw [List.getElem?_eq_getElem hi] at this
            have h3 : (!wordB os[i]) = false := this
            cases h : wordB os[i] with
            | true => rfl
            | false => rw [h] at h3; cases h3
          have hv := all_words h2 hall
          subst hv
          have hle : os.length ≤ 12 := of_decide_eq_true (Bool.and_eq_true_iff.mp hb').2
          have hlow : ∀ t ∈ txs os, LowT t := fun t ht => by
            obtain ⟨o, ho, rfl⟩ := List.mem_map.mp ht
            have hw := List.all_eq_true.mp hall o ho
            cases o with
            | none => exact absurd hw Bool.false_ne_true
            | some t => exact word_low hw
          have hp2 := (e1.trans e2) _ _ hp
          have hsl : (setS (txs os)).length ≤ 12 := Nat.le_trans (setS_len _) (by rw [txs_len]; exact hle)
          refine s_ret (ev_is (w := .bl (lotB (some os))) (ev_opLL (xs := (txs os).map T) (ys := (setS (txs os)).map T) (el_listU (ev_var rfl) hp2) (el_sortSetU (ev_var rfl) hp2 (by rw [txs_len]; omega)) (fun p1 q1 H3 h1 h3 e3 => rv_eqD (d := .list ((txs os).map dT)) (e := .list ((setS (txs os)).map dT)) (b := decide (txs os = setS (txs os))) (fun H4 e4 => dp_list (sq_of (e4 _ _ h1)) fun t ht => .str _) (fun H4 e4 => dp_list (sq_of (e4 _ _ h3)) fun t ht => .str _) (_root_.Wr.sh_T hlow) (_root_.Wr.sh_T fun t ht => hlow t (mem_setS.mp ht)) (eqv_list eqv_T _ _))) ?_) (RetV.mono k (e1.trans e2))
          rw [lotB_some, hb', hall, asc_set]
          rfl
end
end K01
set_option Elab.async false
set_option linter.all false
set_option maxRecDepth 100000
set_option maxHeartbeats 4000000
namespace K01
open PySem PySem.Spec PyProof.Rows L2 Evl Wc Wt Wg Ws We
/-! values of which something is told -/
section
variable {K : PySem.W.Frag} {P : Program} {w : World} {σ : L2.St} {H : Hp} {te ta tb ti : TE} {tq : TA} {tz : TS} {D : Ends} {v : V} {xs : List V} {good : Hp → V → Prop}
def EvG (good : Hp → V → Prop) (te : TE) (σ : L2.St) (H : Hp) : Prop := ∀ H1, Ex H H1 → ∀ Q : VK, (∀ v H2, Ex H1 H2 → good H2 v → Q v H2) → te σ H1 Q
def EvGs (good : Hp → V → Prop) (tq : TA) (σ : L2.St) (H : Hp) (n : Nat) : Prop := ∀ H1, Ex H H1 → ∀ Q : List V → Hp → Prop, (∀ vs H2, Ex H1 H2 → (∀ v ∈ vs, good H2 v) → vs.length = n → Q vs H2) → tq σ H1 Q
def Stays (good : Hp → V → Prop) : Prop := ∀ H1 H2 v, Ex H1 H2 → good H1 v → good H2 v
theorem evg_ev (h : Ev te σ H v) (hd : ∀ H2, Ex H H2 → good H2 v) : EvG good te σ H := fun H1 e Q q => h H1 e Q fun H2 e2 => q v H2 e2 (hd H2 (e.trans e2))
theorem evg_w (h : EvW te σ H xs) (hd : ∀ p H2, Ex H H2 → H2 p = some (.tup xs) → good H2 (.ref p)) : EvG good te σ H := fun H1 e Q q => h H1 e Q fun p H2 e2 h2 => q _ H2 e2 (hd p H2 (e.trans e2) h2)
theorem evg_l (h : EvL te σ H xs) (hd : ∀ p H2, H p = none → Ex H H2 → H2 p = some (.lst xs) → good H2 (.ref p)) : EvG good te σ H := fun H1 e Q q => h H1 e Q fun p H2 hp e2 h2 => q _ H2 e2 (hd p H2 (fresh_back e hp) (e.trans e2) h2)
theorem evgs_nil : EvGs good tNil σ H 0 := fun H1 e Q q => q [] H1 (Ex.refl _) (fun v hv => nomatch hv) rfl
theorem evgs_cons {n : Nat} (hm : Stays good) (h : EvG good te σ H) (hr : EvGs good tq σ H n) : EvGs good (tCons te tq) σ H (n + 1) := fun H1 e Q q => h H1 e _ fun v H2 e2 g2 => hr H2 (e.trans e2) _ fun vs H3 e3 g3 hl => q _ H3 (e2.trans e3) (fun u hu => by
  rcases List.mem_cons.mp hu with rfl | hu
  · exact hm _ _ _ e3 g2
  · exact g3 u hu) (by rw [List.length_cons, hl])
theorem q_asgGs {i n : Nat} (hm : Stays good) (h : EvGs good tq σ H n) (hn : n ≤ 100000) (k : ∀ p vs H1, H p = none → Ex H H1 → H1 p = some (.lst vs) → (∀ v ∈ vs, good H1 v) → vs.length = n → tz D (σ.set i (some (.ref p))) H1) : tSeq (tAsg (tLst tq) (gName i)) tz D σ H :=
  h H (Ex.refl _) _ fun vs H1 e1 g1 hl => ⟨by rw [hl]; exact sz_of hn, fun p hp => k p vs _ (fresh_back e1 hp) (e1.trans (Ex.new hp)) upd_same (fun v hv => hm _ _ _ (Ex.new hp) (g1 v hv)) hl⟩
theorem q_catGs {i j n : Nat} {p : Addr} (hm : Stays good) (h0 : σ[j]? = some (some (.ref p))) (hp : H p = some (.lst xs)) (hx : ∀ v ∈ xs, good H v) (h : EvGs good tq σ H n) (hn : xs.length + n ≤ 100000) (k : ∀ q vs H1, H q = none → Ex H H1 → H1 q = some (.lst vs) → (∀ v ∈ vs, good H1 v) → vs.length = xs.length + n → tz D (σ.set i (some (.ref q))) H1) : tSeq (tAsg (tOp rCat (tVar j) (tLst tq)) (gName i)) tz D σ H :=
  ⟨.ref p, h0, h H (Ex.refl _) _ fun vs H1 e1 g1 hl => ⟨by rw [hl]; exact sz_of (by omega), fun r hr => ⟨p, r, xs, vs, rfl, rfl, (e1.trans (Ex.new hr)) _ _ hp, upd_same, by rw [hl]; exact sz_of hn, fun q hq => k q (xs ++ vs) _ (fresh_back (e1.trans (Ex.new hr)) hq) ((e1.trans (Ex.new hr)).trans (Ex.new hq)) upd_same (fun v hv => by
    rcases List.mem_append.mp hv with h | h
    · exact hm _ _ _ ((e1.trans (Ex.new hr)).trans (Ex.new hq)) (hx v h)
    · exact hm _ _ _ ((Ex.new hr).trans (Ex.new hq)) (g1 v h)) (by rw [List.length_append, hl])⟩⟩⟩
/-- return (a, b, ..)[draw] -/
theorem s_ixGs {i n : Nat} {fa : Addr} {B : Nat} {tm : TE} (hm : Stays good) (h : EvGs good tq σ H n) (hn : n ≤ 100000) (h0 : σ[i]? = some (some (.ref fa))) (hd : ∀ H1, Ex H H1 → Ev tm σ H1 (.int (n : Int))) (G : GF fa B H) (hB : 1 ≤ B) (hn0 : 0 < n) (k : ∀ v H1 H2, Ex H H1 → good H1 v → Rf fa 1 H1 H2 → D.rt v H2) : tRet (tOp (L2.rIxL K) (tLst tq) (tCall sp_draw [] E0 (tCons (tVar i) (tCons tm tNil)))) D σ H :=
  h H (Ex.refl _) _ fun vs H1 e1 g1 hl => ⟨by rw [hl]; exact sz_of hn, fun p hp => wp_draw h0 (hd _ (e1.trans (Ex.new hp))) (G.ex (e1.trans (Ex.new hp))) (by omega) (by omega) (fun d H2 hd R => by
    have hdl : d < vs.length := by omega
    refine ⟨p, vs, (d : Int), vs[d], rfl, rfl, sq_of (R.at_ upd_same ((G.ex e1).new hp)), atI_nat (List.getElem?_eq_getElem hdl), ?_⟩
    exact k _ _ H2 (e1.trans (Ex.new hp)) (hm _ _ _ (Ex.new hp) (g1 _ (List.getElem_mem hdl))) R) hB⟩
/-! texts in a tuple -/
variable {ws us : List Tx} {n : Nat}
theorem ew_toT (h : EvW te σ H (ws.map T)) (hi : Ev ti σ H (.int (n : Int))) : EvW (tSl (rSlA K) te tNoPart (tPart ti)) σ H ((ws.take n).map T) := by
  have h1 := ew_sl (K := K) (lo := none) (hi := some (n : Int)) h (fun _ _ => eo_none) (fun H1 e => eo_some (hi.mono e))
  rw [cutV_to, ← List.map_take] at h1
  exact h1
theorem ew_fromT (h : EvW te σ H (ws.map T)) (hi : Ev ti σ H (.int (n : Int))) : EvW (tSl (rSlA K) te (tPart ti) tNoPart) σ H ((ws.drop n).map T) := by
  have h1 := ew_sl (K := K) (lo := some (n : Int)) (hi := none) h (fun H1 e => eo_some (hi.mono e)) (fun _ _ => eo_none)
  rw [cutV_from, ← List.map_drop] at h1
  exact h1
theorem ew_catT (h : EvW ta σ H (ws.map T)) (h2 : EvW tb σ H (us.map T)) (hl : ws.length + us.length ≤ 100000) : EvW (tOp (rCatA K) ta tb) σ H ((ws ++ us).map T) := by
  have h1 := ew_cat (K := K) h (fun H1 e => h2.ex e) (by rw [List.length_map, List.length_map]; exact hl)
  rw [← List.map_append] at h1
  exact h1
theorem el_toT (h : EvL te σ H (ws.map T)) (hi : Ev ti σ H (.int (n : Int))) : EvL (tSl (rSlL K) te tNoPart (tPart ti)) σ H ((ws.take n).map T) := by
  have h1 := el_slN (K := K) (lo := none) (hi := some (n : Int)) h eo_none (eo_some hi)
  rw [cutV_to, ← List.map_take] at h1
  exact h1
theorem el_toP {p : Addr} (h : Ev te σ H (.ref p)) (hp : H p = some (.lst (ws.map T))) (hi : Ev ti σ H (.int (n : Int))) : EvL (tSl (rSlL K) te tNoPart (tPart ti)) σ H ((ws.take n).map T) := by
  have h1 := el_sl (K := K) (lo := none) (hi := some (n : Int)) h eo_none (eo_some hi) (sq_of hp)
  rw [cutV_to, ← List.map_take] at h1
  exact h1
theorem ew_tupL (h : EvL te σ H xs) : EvW (tCB (rTupS K) (tCons te tNil)) σ H xs := fun H1 e Q q => h H1 e _ fun p H2 hp e2 h2 => ⟨p, xs, rfl, .inl ⟨sq_of h2, fun l hl => q l _ (e2.trans (Ex.new hl)) upd_same⟩⟩
theorem ev_upper {a : Tx} (h : Ev te σ H (T a)) (hl : a.length ≤ 5592405) (hc : ∀ c ∈ a, c < 128) : Ev (tBM0 K "str" (fun x xs H Q => ∃ a, x = .str a ∧ xs = [] ∧ a.length ≤ 5592405 ∧ Q (.str (PySem.Txt.upper a)) H) te) σ H (T (up a)) := fun H1 e Q q =>
  h H1 e _ fun H2 e2 => ⟨rfl, SX.S a, rfl, rfl, by rw [S_length]; exact hl, by rw [upper_T hc]; exact q H2 e2⟩
theorem q_par2 {i j : Nat} (h : ta σ H fun v H1 => tb σ H1 fun w H2 => ∃ v' w', [v, w] = [v', w'] ∧ tz D ((σ.set i (some v')).set j (some w')) H2) : tSeq (tPar i j (tCons ta (tCons tb tNil))) tz D σ H := h
theorem s_retA (k : te σ H D.rt) : tRet te D σ H := k
end
/-- the heap without the feed -/
def hidF (fa : Addr) (H : Hp) : Hp := fun a => if a = fa then none else H a
theorem hidF_at {fa a : Addr} {H : Hp} {o : HO} (n : a ≠ fa) (h : H a = some o) : hidF fa H a = some o := by
  unfold hidF
  rw [if_neg n]
  exact h
theorem hidF_ex (fa : Addr) (H : Hp) : Ex (hidF fa H) H := fun a o h => by
  unfold hidF at h
  split at h
  · cases h
  · exact h
theorem hidF_rf {fa : Addr} {m : Nat} {H H1 : Hp} (R : Rf fa m H H1) : Ex (hidF fa H) (hidF fa H1) := fun a o h => by
  unfold hidF at h ⊢
  split at h
  · cases h
  · rename_i n
    rw [if_neg n]
    exact R.keep a o n h
/-- parts, things, in a heap without the feed -/
def GE (fa : Addr) (H : Hp) (v : V) : Prop := ∃ o, El (hidF fa H) v o ∧ ∀ t, o = some t → SmT t
def GT (fa : Addr) (H : Hp) (v : V) : Prop := ∃ o, Th (hidF fa H) v o ∧ SmL o
theorem GE.rf {fa : Addr} {m : Nat} {H H1 : Hp} {v : V} (g : GE fa H v) (R : Rf fa m H H1) : GE fa H1 v := by
  obtain ⟨o, h, hs⟩ := g
  exact ⟨o, h.ex (hidF_rf R), hs⟩
theorem GT.rf {fa : Addr} {m : Nat} {H H1 : Hp} {v : V} (g : GT fa H v) (R : Rf fa m H H1) : GT fa H1 v := by
  obtain ⟨o, h, hs⟩ := g
  exact ⟨o, h.ex (hidF_rf R), hs⟩
theorem ge_stays (fa : Addr) : Stays (GE fa) := fun _ _ _ e g => g.rf (Rf.of_ex e)
theorem gt_stays (fa : Addr) : Stays (GT fa) := fun _ _ _ e g => g.rf (Rf.of_ex e)
theorem SmT.app {a b : Tx} (ha : SmT a) (hb : SmT b) (hl : a.length + b.length ≤ 20000) : SmT (a ++ b) := ⟨by rw [List.length_append]; exact hl, fun c hc => (List.mem_append.mp hc).elim (ha.2 c) (hb.2 c)⟩
section
variable {K : PySem.W.Frag} {P : Program} {w : World} {σ : L2.St} {H : Hp} {te : TE} {fa : Addr} {B : Nat} {ws as bs : List Tx} {xs : List V} {t : Tx}
theorem ge_t (h : Ev te σ H (T t)) (hs : SmT t) : EvG (GE fa) te σ H := evg_ev h fun _ _ => ⟨_, .str t, fun u hu => by cases hu; exact hs⟩
theorem ge_tup (h : EvW te σ H xs) (G : GF fa B H) : EvG (GE fa) te σ H := evg_w h fun p H2 e h2 => ⟨none, .tup (hidF_at ((G.ex e).ofTup h2) h2), fun u hu => by cases hu⟩
theorem ge_lst (h : EvL te σ H xs) (G : GF fa B H) : EvG (GE fa) te σ H := evg_l h fun p H2 hp e h2 => ⟨none, .lst (hidF_at (G.new hp) h2), fun u hu => by cases hu⟩
theorem gt_lst (h : EvL te σ H xs) (G : GF fa B H) : EvG (GT fa) te σ H := evg_l h fun p H2 hp e h2 => ⟨none, .lst (hidF_at (G.new hp) h2), trivial⟩
theorem gt_str (h : Ev te σ H (T t)) : EvG (GT fa) te σ H := evg_ev h fun _ _ => ⟨none, .str t, trivial⟩
theorem gt_w (h : EvW te σ H (ws.map T)) (G : GF fa B H) (hl : ws.length ≤ 1000) (hs : ∀ t ∈ ws, SmT t) : EvG (GT fa) te σ H := evg_w h fun p H2 e h2 => ⟨_, .tup (hidF_at ((G.ex e).ofTup h2) h2) (all2_some ws), by rw [List.length_map]; exact hl, fun t ht => by
  obtain ⟨u, hu, hz⟩ := List.mem_map.mp ht
  cases hz
  exact hs t hu⟩
theorem gt_mix {x : V} (h : EvW te σ H xs) (hx : xs = as.map T ++ [x] ++ bs.map T) (g : GE fa H x) (G : GF fa B H) (hl : as.length + bs.length ≤ 900) (ha : ∀ t ∈ as, SmT t) (hb : ∀ t ∈ bs, SmT t) : EvG (GT fa) te σ H := evg_w h fun p H2 e h2 => by
  obtain ⟨o, ho, hs⟩ := g.rf (Rf.of_ex e)
  rw [hx] at h2
  refine ⟨_, .tup (hidF_at ((G.ex e).ofTup h2) h2) (((all2_some as).app (.one ho)).app (all2_some bs)), ?_, fun t ht => ?_⟩
  · simp only [List.length_append, List.length_map, List.length_cons, List.length_nil]
    omega
  · simp only [List.mem_append, List.mem_map, List.mem_singleton] at ht
    rcases ht with (⟨u, hu, hz⟩ | hz) | ⟨u, hu, hz⟩
    · cases hz
      exact ha _ hu
    · exact hs t hz.symm
    · cases hz
      exact hb _ hu
end
theorem smT_abcd {t : Tx} (h : t.length ≤ 20000) (hs : ∀ c ∈ t, abcd c) : SmT t := ⟨h, fun c hc => by
  have := (hs c hc).2
  omega⟩
theorem smT_up {t : Tx} (h : t.length ≤ 20000) (hs : ∀ c ∈ t, abcd c) : SmT (up t) := ⟨by unfold up; rw [List.length_map]; exact h, fun c hc => by
  obtain ⟨d, hd, rfl⟩ := List.mem_map.mp hc
  have := (hs d hd).2
  split <;> omega⟩
section
variable {P : Program} {w : World} {K : PySem.W.Frag} {mg : Str → Option Value} {base : Heap}
def sp_near : Sp := fun vs H Q _ => ∃ (fa p : Addr) (lot : List Tx), vs = [.ref fa, .ref p] ∧ GF fa 10 H ∧ LotAt p lot H ∧ ∀ x H', GT fa H' x → Rf fa 10 H H' → Q x H'
theorem ok__law_near {f : Addr} {fd : FuncData} (F : Fun K "_law_near" "_law_near" st__law_near f fd) (M : Md K mg) (C__law_draw : Cal P w K mg base "_law_draw" st__law_draw 1 ["feed", "many"] sp_draw) (C__law_one : Cal P w K mg base "_law_one" st__law_one 2 ["feed", "things"] (sp_one K)) : FnOk P w K mg base CX0 3 f fd ["feed", "lot"] sp_near := by
  have nd := sc__law_near.nd
  refine F.ok sc__law_near (fun vs H Q E h => ?_) (fun cdv A outer s H vs Q E hr h => ?_)
  · obtain ⟨_, _, _, rfl, _⟩ := h
    rfl
  · obtain ⟨fa, p, lot, rfl, G, hL, k⟩ := h
    refine ⟨_, (pss_cons (ps_par (i := 2) (j := 3) rfl nd rfl rfl (by decide) rfl rfl (pa_cons (pe_cl C__law_draw hr (pa_cons (pv 0) (pa_cons (pe_callB (kcr K (r := rLenS) call_len_seq) (by rfl) M.n_len boot_len (pa_cons (pv 1) pa_nil)) pa_nil))) (pa_cons (pe_cl C__law_one hr (pa_cons (pv 0) (pa_cons (pv 1) pa_nil))) pa_nil)) (by rfl))
  (pss_cons (ps_set (i := 4) nd rfl (Or.inl rfl) (pe_lst (pa_cons (pe_sT []) (pa_cons (pe_op op_mulT (pe_sT [97]) pe_int) (pa_cons (pe_op op_mulT (pe_sT [97]) pe_int) (pa_cons (pe_op op_addT (pv 3) (pe_sT [101])) (pa_cons (kbm0 K (pe_bm0 PySem.F.plainAttrs_str PySem.F.slot_str_upper PySem.F.type_str_upper mt_upper (pv 3))) (pa_cons (pe_op op_addT (pe_sT [32]) (pv 3)) (pa_cons (pe_op op_addT (pv 3) (pe_sT [10])) (pa_cons pe_non (pa_cons pe_int (pa_cons (pe_tup (pa_cons (pv 3) pa_nil)) (pa_cons (pe_lst (pa_cons (pv 3) pa_nil)) (pa_cons pe_bl (pa_cons (pe_op op_addT (pv 3) (pe_sT [98])) (pa_cons (pe_slice sl_T (pv 3) po_none (po_some (pe_un un_neg pe_int))) (pa_cons (pe_op op_mulT (pe_sT [100]) pe_int) (pa_cons (pe_sT [49]) (pa_cons (pe_sT [97, 32, 98]) pa_nil)))))))))))))))))))
  (pss_cons (ps_set (i := 5) nd rfl (Or.inl rfl) (pe_lst (pa_cons (pe_callTy (kcr K (r := rListS) call_list_of) (by rfl) M.n_list boot_list (pa_cons (pv 1) pa_nil)) (pa_cons (pe_revU (K := K) (pv 1)) (pa_cons (pe_op (kop K (r := rCatA) op_catA) (pv 1) (pe_slice (ksl K (r := rSlA) sl_tupA) (pv 1) po_none (po_some pe_int))) (pa_cons (pe_op (kop K (r := rCatA) op_catA) (pe_op (kop K (r := rCatA) op_catA) (pe_slice (ksl K (r := rSlA) sl_tupA) (pv 1) po_none (po_some (pv 2))) (pe_tup (pa_cons (pv 3) pa_nil))) (pe_slice (ksl K (r := rSlA) sl_tupA) (pv 1) (po_some (pv 2)) po_none)) (pa_cons (pe_tup pa_nil) (pa_cons pe_non (pa_cons (kbm K (pe_bm PySem.F.plainAttrs_str PySem.F.slot_str_join PySem.F.type_str_join (kmt K (r := rJoinT) mt_joinT) (pe_sT []) (pa_cons (pv 1) pa_nil))) (pa_cons (pv 3) (pa_cons (pe_tup (pa_cons (pv 1) pa_nil)) (pa_cons pe_int (pa_cons (pe_op (kop K (r := rCatA) op_catA) (pe_slice (ksl K (r := rSlA) sl_tupA) (pv 1) po_none (po_some (pv 2))) (pe_slice (ksl K (r := rSlA) sl_tupA) (pv 1) (po_some (pe_op op_add (pv 2) pe_int)) po_none)) (pa_cons (pe_slice (ksl K (r := rSlA) sl_tupA) (pv 1) (po_some (pv 2)) po_none) pa_nil))))))))))))))
  (pss_cons (ps_set (i := 6) nd rfl (Or.inl rfl) (pe_lst pa_nil))
  (pss_cons (ps_for PassesOwn.never rfl (pi_str (pe_sT [97, 98, 99, 100])) (pg_name (i := 7) nd rfl (Or.inr rfl))
  (pss_one (ps_expr (kbm K (pe_bm PySem.F.plainAttrs_list PySem.F.slot_list_extend PySem.F.type_list_extend mt_extend (pv 6) (pa_cons (pe_lc (own := [("other", 8)]) rfl nd (pi_str (pe_sT [97, 98, 99, 100])) (blkOk_by (N := N__law_near) (sc := defScope st__law_near) (by decide +kernel)) (fun _ _ _ _ _ => (pg_name (i := 8) nd rfl (Or.inl rfl))) (fun _ _ _ _ _ => pts_nil) (fun _ _ _ _ _ => (pe_op op_addT (pv 7) (pv 8)))) pa_nil))))))
  (pss_cons (ps_set (i := 5) nd rfl (Or.inl rfl) (pe_op op_cat (pv 5) (pe_lst (pa_cons (pe_callTy (kcr K (r := rTupS) call_tuple_of) (by rfl) M.n_tuple boot_tuple (pa_cons (pe_slice (ksl K (r := rSlL) sl_list) (pv 6) po_none (po_some pe_int)) pa_nil)) (pa_cons (pe_callTy (kcr K (r := rTupS) call_tuple_of) (by rfl) M.n_tuple boot_tuple (pa_cons (pe_slice (ksl K (r := rSlL) sl_list) (pv 6) po_none (po_some pe_int)) pa_nil)) (pa_cons (pe_callTy (kcr K (r := rTupS) call_tuple_of) (by rfl) M.n_tuple boot_tuple (pa_cons (pe_slice (ksl K (r := rSlL) sl_list) (pe_callB (ksorted P w K hr.units) (by rfl) M.n_sorted boot_sorted (pa_cons (pe_callTy (kset P w K) (by rfl) M.n_set boot_set (pa_cons (pe_op op_cat (pe_callTy (kcr K (r := rListS) call_list_of) (by rfl) M.n_list boot_list (pa_cons (pv 1) pa_nil)) (pv 6)) pa_nil)) pa_nil)) po_none (po_some pe_int)) pa_nil)) (pa_cons (pe_callTy (kcr K (r := rTupS) call_tuple_of) (by rfl) M.n_tuple boot_tuple (pa_cons (pe_slice (ksl K (r := rSlL) sl_list) (pe_callB (ksorted P w K hr.units) (by rfl) M.n_sorted boot_sorted (pa_cons (pe_callTy (kset P w K) (by rfl) M.n_set boot_set (pa_cons (pe_op op_cat (pe_callTy (kcr K (r := rListS) call_list_of) (by rfl) M.n_list boot_list (pa_cons (pv 1) pa_nil)) (pv 6)) pa_nil)) pa_nil)) po_none (po_some pe_int)) pa_nil)) pa_nil)))))))
  (pss_cons (ps_if (pt_cmpR op_eqI (pe_cl C__law_draw hr (pa_cons (pv 0) (pa_cons pe_int pa_nil))) pe_int (nomark _))
  (pss_one (ps_ret (pe_cl C__law_one hr (pa_cons (pv 0) (pa_cons (pv 5) pa_nil)))))
  pss_nil)
  (pss_cons (ps_set (i := 9) nd rfl (Or.inl rfl) (pe_cl C__law_one hr (pa_cons (pv 0) (pa_cons (pv 4) pa_nil))))
  (pss_one (ps_ret (pe_ix (kix K (r := L2.rIxL) ix_list) (pe_lst (pa_cons (pe_op (kop K (r := rCatA) op_catA) (pe_op (kop K (r := rCatA) op_catA) (pe_slice (ksl K (r := rSlA) sl_tupA) (pv 1) po_none (po_some (pv 2))) (pe_tup (pa_cons (pv 9) pa_nil))) (pe_slice (ksl K (r := rSlA) sl_tupA) (pv 1) (po_some (pe_op op_add (pv 2) pe_int)) po_none)) (pa_cons (pe_op (kop K (r := rCatA) op_catA) (pe_op (kop K (r := rCatA) op_catA) (pe_slice (ksl K (r := rSlA) sl_tupA) (pv 1) po_none (po_some (pv 2))) (pe_tup (pa_cons (pv 9) pa_nil))) (pe_slice (ksl K (r := rSlA) sl_tupA) (pv 1) (po_some (pv 2)) po_none)) (pa_cons (pe_op (kop K (r := rCatA) op_catA) (pv 1) (pe_tup (pa_cons (pv 9) pa_nil))) (pa_cons (pe_tup (pa_cons (pv 9) pa_nil)) pa_nil))))) (pe_cl C__law_draw hr (pa_cons (pv 0) (pa_cons pe_int pa_nil))) (fun _ _ => rfl)))))))))))), ?_⟩
    have hfew := hL.2.few
    have hpos : 0 < lot.length := List.length_pos_iff.mpr hL.2.ne
    have npf := G.ofTup hL.1
    refine q_par2 (wp_draw (i := 0) (many := (lot.length : Int)) rfl (ev_is (ev_lenU (ev_var rfl) (st_of hL.1)) (by rw [List.length_map])) G (by omega) (by omega) fun at_ H1 hat R1 => wp_oneS (i := 0) (p := p) rfl (ev_var rfl) (.inr (st_of (R1.at_ hL.1 npf))) npf (G.go R1 (m' := 8) (by omega)) (by simpa using hL.2.ne) (by rw [List.length_map]; omega) fun v H2 hv R2 => ⟨_, _, rfl, ?_⟩)
    obtain ⟨wd, hwd, rfl⟩ := List.mem_map.mp hv
    have RA := R1.trans R2
    have h2 := RA.at_ hL.1 npf
    have GA : GF fa 8 H2 := G.go RA (by omega)
    obtain ⟨hwl, hwa⟩ := hL.2.wd wd hwd
    have hsw : SmT wd := smT_abcd (by omega) hwa
    have hsl : ∀ t ∈ lot, SmT t := fun t ht => smT_abcd (by have := (hL.2.wd t ht).1; omega) (hL.2.wd t ht).2
    have hflat := flat_bound hL.2
    show tSeq _ _ _ [some (.ref fa), some (.ref p), some (.int (at_ : Int)), some (T wd), none, none, none, none, none, none] H2
    refine q_asgGs (good := GE fa) (n := 17) (ge_stays fa) (evgs_cons (ge_stays fa) (ge_t ev_c (by unfold SmT LowT; decide)) (evgs_cons (ge_stays fa) (ge_t (ev_op ev_c ev_c (rv_mulT (a := [97]) (n := 13) (by decide) (by decide) (by decide))) (by unfold SmT LowT; decide)) (evgs_cons (ge_stays fa) (ge_t (ev_op ev_c ev_c (rv_mulT (a := [97]) (n := 12) (by decide) (by decide) (by decide))) (by unfold SmT LowT; decide))
      (evgs_cons (ge_stays fa) (ge_t (ev_op (ev_var rfl) ev_c (rv_addT (a := wd) (b := [101]) (by show wd.length + 1 ≤ _; omega))) (hsw.app (by unfold SmT LowT; decide) (by show wd.length + 1 ≤ _; omega))) (evgs_cons (ge_stays fa) (ge_t (ev_upper (ev_var rfl) (by omega) fun c hc => by have := (hwa c hc).2; omega) (smT_up (by omega) hwa)) (evgs_cons (ge_stays fa) (ge_t (ev_op ev_c (ev_var rfl) (rv_addT (a := [32]) (b := wd) (by show 1 + wd.length ≤ _; omega))) (SmT.app (by unfold SmT LowT; decide) hsw (by show 1 + wd.length ≤ _; omega))) (evgs_cons (ge_stays fa) (ge_t (ev_op (ev_var rfl) ev_c (rv_addT (a := wd) (b := [10]) (by show wd.length + 1 ≤ _; omega))) (hsw.app (by unfold SmT LowT; decide) (by show wd.length + 1 ≤ _; omega)))
      (evgs_cons (ge_stays fa) (evg_ev ev_c fun _ _ => ⟨none, .non, fun u hu => by cases hu⟩) (evgs_cons (ge_stays fa) (evg_ev ev_c fun _ _ => ⟨none, .int _, fun u hu => by cases hu⟩) (evgs_cons (ge_stays fa) (ge_tup (ew_of (eu_tup (ea_cons (ev_var rfl) ea_nil) (by show 1 ≤ 100000; decide))) GA) (evgs_cons (ge_stays fa) (ge_lst (el_lst (ea_cons (ev_var rfl) ea_nil) (by show 1 ≤ 100000; decide)) GA) (evgs_cons (ge_stays fa) (evg_ev ev_c fun _ _ => ⟨none, .bl _, fun u hu => by cases hu⟩)
      (evgs_cons (ge_stays fa) (ge_t (ev_op (ev_var rfl) ev_c (rv_addT (a := wd) (b := [98]) (by show wd.length + 1 ≤ _; omega))) (hsw.app (by unfold SmT LowT; decide) (by show wd.length + 1 ≤ _; omega))) (evgs_cons (ge_stays fa) (ge_t (ev_slT (lo := none) (hi := some (-1)) (ev_var rfl) eo_none (eo_some (ev_un ev_c ru_neg)) (by omega)) ⟨Nat.le_trans (cutT_len _ _ _) (by omega), fun c hc => hsw.2 c (cutT_mem hc)⟩) (evgs_cons (ge_stays fa) (ge_t (ev_op ev_c ev_c (rv_mulT (a := [100]) (n := 12) (by decide) (by decide) (by decide))) (by unfold SmT LowT; decide)) (evgs_cons (ge_stays fa) (ge_t ev_c (by unfold SmT LowT; decide)) (evgs_cons (ge_stays fa) (ge_t ev_c (by unfold SmT LowT; decide)) evgs_nil))))))))))))))))) (by decide) fun po odd H3 hpo e3 ho go hol => ?_
    have h3 := e3 _ _ h2
    have GB := GA.ex e3
    have npo := GA.new hpo
    show tSeq _ _ _ [some (.ref fa), some (.ref p), some (.int (at_ : Int)), some (T wd), some (.ref po), none, none, none, none, none] H3
    have hlotW : ∀ {i : Nat} {σ : L2.St} {H' : Hp}, σ[i]? = some (some (.ref p)) → Ex H3 H' → EvW (tVar i) σ H' (lot.map T) := fun h0 e => ew_ev (ev_var h0) (e _ _ h3)
    refine q_asgGs (good := GT fa) (n := 12) (gt_stays fa) (evgs_cons (gt_stays fa) (gt_lst (el_listU (ev_var rfl) h3) GB) (evgs_cons (gt_stays fa) (gt_w (ws := lot.reverse) (by rw [List.map_reverse]; exact ew_of (eu_revU (ev_var rfl) h3 (by simpa using hL.2.ne))) GB (by rw [List.length_reverse]; omega) fun t ht => hsl t (List.mem_reverse.mp ht))
      (evgs_cons (gt_stays fa) (gt_w (ew_catT (hlotW rfl (Ex.refl _)) (ew_toT (n := 1) (hlotW rfl (Ex.refl _)) ev_c) (by rw [List.length_take]; omega)) GB (by rw [List.length_append, List.length_take]; omega) fun t ht => (List.mem_append.mp ht).elim (hsl t) fun h => hsl t (List.mem_of_mem_take h))
      (evgs_cons (gt_stays fa) (gt_w (ws := lot.take at_ ++ [wd] ++ lot.drop at_) (ew_catT (ew_catT (us := [wd]) (ew_toT (n := at_) (hlotW rfl (Ex.refl _)) (ev_var rfl)) (ew_of (eu_tup (ea_cons (ev_var rfl) ea_nil) (by show 1 ≤ 100000; decide))) (by rw [List.length_take]; show _ + 1 ≤ _; omega)) (ew_fromT (n := at_) (hlotW rfl (Ex.refl _)) (ev_var rfl)) (by rw [List.length_append, List.length_take, List.length_drop]; show _ + 1 + _ ≤ _; omega)) GB (by rw [List.length_append, List.length_append, List.length_take, List.length_drop]; show _ + 1 + _ ≤ _; omega) fun t ht => by
          simp only [List.mem_append, List.mem_singleton] at ht
          rcases ht with (h | h) | h
          · exact hsl t (List.mem_of_mem_take h)
          · rw [h]; exact hsw
          · exact hsl t (List.mem_of_mem_drop h))
      (evgs_cons (gt_stays fa) (gt_w (ws := []) (ew_of (eu_tup ea_nil (by decide))) GB (by decide) fun t ht => nomatch ht) (evgs_cons (gt_stays fa) (evg_ev ev_c fun _ _ => ⟨none, .non, trivial⟩) (evgs_cons (gt_stays fa) (gt_str (ev_joinU (i := 1) rfl h3 (by omega))) (evgs_cons (gt_stays fa) (gt_str (ev_var rfl))
      (evgs_cons (gt_stays fa) (evg_w (ew_of (eu_tup (ea_cons (ev_var (v := .ref p) rfl) ea_nil) (by show 1 ≤ 100000; decide))) fun q H' e hq => ⟨_, .tup (hidF_at ((GB.ex e).ofTup hq) hq) (.cons (.tup (hidF_at npf (e _ _ h3))) .nil), by show 1 ≤ 1000; decide, fun t ht => by simp at ht⟩) (evgs_cons (gt_stays fa) (evg_ev ev_c fun _ _ => ⟨none, .int _, trivial⟩)
      (evgs_cons (gt_stays fa) (gt_w (ws := lot.take at_ ++ lot.drop (at_ + 1)) (ew_catT (ew_toT (n := at_) (hlotW rfl (Ex.refl _)) (ev_var rfl)) (ew_fromT (n := at_ + 1) (hlotW rfl (Ex.refl _)) (ev_op (ev_var rfl) ev_c rv_I0)) (by rw [List.length_take, List.length_drop]; omega)) GB (by rw [List.length_append, List.length_take, List.length_drop]; omega) fun t ht => (List.mem_append.mp ht).elim (fun h => hsl t (List.mem_of_mem_take h)) fun h => hsl t (List.mem_of_mem_drop h)) (evgs_cons (gt_stays fa) (gt_w (ew_fromT (n := at_) (hlotW rfl (Ex.refl _)) (ev_var rfl)) GB (by rw [List.length_drop]; omega) fun t ht => hsl t (List.mem_of_mem_drop ht)) evgs_nil)))))))))))) (by decide) fun ps some_ H4 hps e4 hs4 gs hsl4 => ?_
    have h4 := e4 _ _ h3
    have nps := GB.new hps
    show tSeq _ _ _ [some (.ref fa), some (.ref p), some (.int (at_ : Int)), some (T wd), some (.ref po), some (.ref ps), none, none, none, none] H4
    refine q_asgL (el_lst ea_nil (by decide)) fun pe H5 hpe e5 h5 => ?_
    show tSeq _ _ _ [some (.ref fa), some (.ref p), some (.int (at_ : Int)), some (T wd), some (.ref po), some (.ref ps), some (.ref pe), none, none, none] H5
    refine q_forW (fun c => c = pe) (src_str (a := [97, 98, 99, 100]) ev_c) ?_
      (fun Hs i σ' H' => ∃ (ws : List Tx) (v7 v8 : Option V), σ' = [some (.ref fa), some (.ref p), some (.int (at_ : Int)), some (T wd), some (.ref po), some (.ref ps), some (.ref pe), v7, v8, none] ∧ Exc (fun c => c = pe) Hs H' ∧ Exc (fun c => c = pe) H5 H' ∧ H' pe = some (.lst (ws.map T)) ∧ ws.length = 4 * i ∧ ∀ t ∈ ws, SmT t) ?_ ?_ ?_ ?_ ?_
    · rintro c rfl
      exact ⟨by rw [h5]; exact fun z => (nomatch z), fun z => z⟩
    · intro Hs e
      exact ⟨[], none, none, rfl, Exc.refl _, Exc.of e, e _ _ h5, rfl, fun t ht => nomatch ht⟩
    · rintro Hs i σ' H' ⟨_, _, _, _, h, _⟩
      exact h
    · rintro Hs i σ' Ha Hb ⟨ws, v7, v8, g0, g1, g2, g3, g4⟩ e
      exact ⟨ws, v7, v8, g0, g1.then e, g2.then e, e _ _ g3, g4⟩
    · rintro Hs i x σ' H' e hi ⟨ws, v7, v8, rfl, g1, g2, g3, g4, g5⟩ hx
      obtain ⟨c, hc, rfl⟩ := at_map (f := fun c : Nat => T [c]) hx
      have hcm : c < 1000 := by
        have := List.mem_of_getElem? hc
        simp only [List.mem_cons, List.not_mem_nil, or_false] at this
        omega
      have hi4 : i < 4 := hi
      show tDrop _ _ [some (.ref fa), some (.ref p), some (.int (at_ : Int)), some (T wd), some (.ref po), some (.ref ps), some (.ref pe), some (T [c]), v8, none] H'
      refine s_ext g3 (ev_var rfl) (el_lcM (j := 8) (vs := [8]) (f := fun d : Nat => T [d]) (g := fun d : Nat => T [c, d]) ([97, 98, 99, 100] : Tx) (src_str (a := [97, 98, 99, 100]) ev_c) (by decide) (fun _ => rfl) fun d H6 e6 hd => ev_op (ev_var rfl) (ev_var rfl) (rv_addT (a := [c]) (b := [d]) (by show 1 + 1 ≤ _; decide))) (by rw [List.length_map, List.length_map, g4]; show _ + 4 ≤ _; omega) fun H6 e6 => ⟨ws ++ ([97, 98, 99, 100] : Tx).map fun d => [c, d], _, _, rfl, (g1.then e6).upd (.inl rfl), (g2.then e6).upd (.inl rfl), by rw [upd_same, List.map_append, List.map_map]; rfl, by rw [List.length_append, List.length_map, g4]; show _ + 4 = _; omega, fun t ht => ?_⟩
      rcases List.mem_append.mp ht with h | h
      · exact g5 t h
      · obtain ⟨d, hd, rfl⟩ := List.mem_map.mp h
        refine ⟨by show 2 ≤ 20000; decide, fun x hx => ?_⟩
        simp only [List.mem_cons, List.not_mem_nil, or_false] at hx hd
        omega
    · rintro Hs σ' H6 e ⟨ws, v7, v8, rfl, g1, g2, g3, g4, g5⟩
      have hwsl : ws.length = 16 := g4
      have e46 : Ex H4 H6 := fun q o hq => g2 q o (fun z => by rw [z, hpe] at hq; cases hq) (e5 _ _ hq)
      have h6 := e46 _ _ h4
      have hs6 := e46 _ _ hs4
      have GC : GF fa 8 H6 := ((GB.ex e4).ex e46)
      have hboth : ∀ t ∈ lot ++ ws, SmT t := fun t ht => (List.mem_append.mp ht).elim (hsl t) (g5 t)
      have hset : EvL (tCB (rSortX K P w) (tCons (tCB (rSetTx K P w) (tCons (tOp rCat (tCB (rListS K) (tCons (tVar 1) tNil)) (tVar 6)) tNil)) tNil)) [some (.ref fa), some (.ref p), some (.int (at_ : Int)), some (T wd), some (.ref po), some (.ref ps), some (.ref pe), v7, v8, none] H6 ((setS (lot ++ ws)).map T) := el_sortSetE (by rw [List.map_append]; exact el_catNV (el_listU (ev_var rfl) h6) (ev_var rfl) g3 (by rw [List.length_map, List.length_map]; omega)) (by rw [List.length_append]; omega)
      have hsetl : (setS (lot ++ ws)).length ≤ 28 := Nat.le_trans (setS_len _) (by rw [List.length_append]; omega)
      refine q_catGs (good := GT fa) (n := 4) (gt_stays fa) rfl hs6 (fun v hv => gt_stays fa _ _ _ e46 (gs v hv)) (evgs_cons (gt_stays fa) (gt_w (ew_tupL (el_toP (n := 12) (ev_var rfl) g3 ev_c)) GC (by rw [List.length_take]; omega) fun t ht => g5 t (List.mem_of_mem_take ht)) (evgs_cons (gt_stays fa) (gt_w (ew_tupL (el_toP (n := 13) (ev_var rfl) g3 ev_c)) GC (by rw [List.length_take]; omega) fun t ht => g5 t (List.mem_of_mem_take ht)) (evgs_cons (gt_stays fa) (gt_w (ew_tupL (el_toT (n := 12) hset ev_c)) GC (by rw [List.length_take]; omega) fun t ht => hboth t (mem_setS.mp (List.mem_of_mem_take ht))) (evgs_cons (gt_stays fa) (gt_w (ew_tupL (el_toT (n := 13) hset ev_c)) GC (by rw [List.length_take]; omega) fun t ht => hboth t (mem_setS.mp (List.mem_of_mem_take ht))) evgs_nil)))) (by omega) fun pq all H7 hpq e7 hq7 gq hql => ?_
      have e37 : Ex H3 H7 := (e4.trans e46).trans e7
      have h7 := e37 _ _ h3
      have GD : GF fa 8 H7 := GC.ex e7
      have npq := GC.new hpq
      have RD : Rf fa 2 H H7 := RA.then (e3.trans e37)
      show tSeq _ _ _ [some (.ref fa), some (.ref p), some (.int (at_ : Int)), some (T wd), some (.ref po), some (.ref pq), some (.ref pe), v7, v8, none] H7
      have hgo : ∀ v ∈ odd, GE fa H7 v := fun v hv => ge_stays fa _ _ _ e37 (go v hv)
      have ho7 := e37 _ _ ho
      clear hset gs hs6 hs4 h5 hpe e5 g1 g2 hpo hps hpq go
      refine q_ifA (t_test (t_op (wp_draw (i := 0) (many := 2) rfl ev_c GD (by decide) (by decide) fun d H8 hd R8 => ⟨(d : Int), 0, rfl, rfl, _, rfl, ?_⟩)))
      have RE := RD.trans R8
      have G8 : GF fa 7 H8 := G.go RE (by omega)
      by_cases h0 : ((d : Int) = 0)
      · rw [if_pos (decide_eq_true h0)]
        exact s_retA (wp_oneS (i := 0) (p := pq) (xs := all) rfl (ev_var rfl) (.inl (sq_of (R8.at_ hq7 npq))) npq G8 (fun z => by rw [z] at hql; simp at hql) (by omega) fun v H9 hv R9 => k v H9 (((gq v hv).rf R8).rf R9) ((RE.trans R9).mono (by omega)))
      · rw [if_neg (by rw [decide_eq_false h0]; exact Bool.false_ne_true)]
        refine q_asgA (wp_oneS (i := 0) (p := po) (xs := odd) rfl (ev_var rfl) (.inl (sq_of (R8.at_ ho7 npo))) npo G8 (fun z => by rw [z] at hol; simp at hol) (by omega) fun v H9 hv R9 => ?_)
        have gv := ((hgo v hv).rf R8).rf R9
        have RF := RE.trans R9
        have G9 : GF fa 6 H9 := G.go RF (by omega)
        have h9 := R9.at_ (R8.at_ h7 npf) npf
        show tRet _ _ [some (.ref fa), some (.ref p), some (.int (at_ : Int)), some (T wd), some (.ref po), some (.ref pq), some (.ref pe), v7, v8, some v] H9
        have hlw : ∀ {σ : L2.St} {i : Nat}, σ[i]? = some (some (.ref p)) → EvW (tVar i) σ H9 (lot.map T) := fun h0 => ew_ev (ev_var h0) h9
        have hto : ∀ t ∈ lot.take at_, SmT t := fun t ht => hsl t (List.mem_of_mem_take ht)
        have hfr : ∀ n, ∀ t ∈ lot.drop n, SmT t := fun n t ht => hsl t (List.mem_of_mem_drop ht)
        refine s_ixGs (i := 0) (fa := fa) (good := GT fa) (n := 4) (gt_stays fa) (evgs_cons (gt_stays fa) (gt_mix (as := lot.take at_) (bs := lot.drop (at_ + 1)) (x := v) (ew_cat (ew_cat (ew_toT (n := at_) (hlw rfl) (ev_var rfl)) (fun H1 e => ew_of (eu_tup (ea_cons (ev_var rfl) ea_nil) (by show 1 ≤ 100000; decide))) (by rw [List.length_map, List.length_take]; show _ + 1 ≤ _; omega)) (fun H1 e => (ew_fromT (n := at_ + 1) (hlw rfl) (ev_op (ev_var rfl) ev_c rv_I0)).ex e) (by simp; omega)) rfl gv G9 (by rw [List.length_take, List.length_drop]; omega) hto (hfr _))
          (evgs_cons (gt_stays fa) (gt_mix (as := lot.take at_) (bs := lot.drop at_) (x := v) (ew_cat (ew_cat (ew_toT (n := at_) (hlw rfl) (ev_var rfl)) (fun H1 e => ew_of (eu_tup (ea_cons (ev_var rfl) ea_nil) (by show 1 ≤ 100000; decide))) (by rw [List.length_map, List.length_take]; show _ + 1 ≤ _; omega)) (fun H1 e => (ew_fromT (n := at_) (hlw rfl) (ev_var rfl)).ex e) (by simp; omega)) rfl gv G9 (by rw [List.length_take, List.length_drop]; omega) hto (hfr _))
          (evgs_cons (gt_stays fa) (gt_mix (as := lot) (bs := []) (x := v) (ew_cat (hlw rfl) (fun H1 e => ew_of (eu_tup (ea_cons (ev_var rfl) ea_nil) (by show 1 ≤ 100000; decide))) (by rw [List.length_map]; show _ + 1 ≤ _; omega)) (by simp) gv G9 (by show _ + 0 ≤ _; omega) hsl (fun t ht => nomatch ht))
          (evgs_cons (gt_stays fa) (gt_mix (as := []) (bs := []) (x := v) (ew_of (eu_tup (ea_cons (ev_var rfl) ea_nil) (by show 1 ≤ 100000; decide))) rfl gv G9 (by decide) (fun t ht => nomatch ht) (fun t ht => nomatch ht)) evgs_nil)))) (by decide) rfl (fun H1 e => ev_c) G9 (by decide) (by decide) fun x H10 H11 e10 gx R11 => k x H11 (gx.rf R11) (((RF.then e10).trans R11).mono (by omega))
end
end K01
set_option Elab.async false
set_option linter.all false
set_option maxRecDepth 100000
set_option maxHeartbeats 4000000
namespace K01
open PySem PySem.Spec PyProof.Rows L2 Evl Wc Wt Wg Ws We
section
variable {K : PySem.W.Frag} {σ : L2.St} {H : Hp} {te ta tb : TE} {fa : Addr} {m m1 m2 B : Nat} {ok : Nat → Prop} {D : Ends}
/-- te[:n], n at i -/
theorem dT_to {a b n i : Nat} (h : Dw fa σ m te (GdT ok a b)) (h0 : σ[i]? = some (some (.int (n : Int)))) (hb : b ≤ 16777216 := by omega) : Dw fa σ m (tSl rSlT te tNoPart (tPart (tVar i))) (GdT ok 0 n) := fun H G Q q =>
  h H G _ fun v H1 ⟨s, hs, h3, h4, h5⟩ R => ⟨.int (n : Int), h0, (n : Int), rfl, s, hs, by omega, q _ H1 ⟨cutT s none (some (n : Int)), rfl, Nat.zero_le _, by rw [cutT_to, List.length_take]; omega, fun c hc => h5 c (cutT_mem hc)⟩ R⟩
theorem dI_max2 {a b c d : Int} (h1 : Dw fa σ m1 ta (GdI a b)) (h2 : Dw fa σ m2 tb (GdI c d)) : Dw fa σ (m1 + m2) (tCB rMax2 (tCons ta (tCons tb tNil))) (GdI a (if d > b then d else b)) := fun H G Q q =>
  h1 H (G.mono (by omega)) _ fun x H1 ⟨i, hi, h3, h4⟩ R1 => h2 H1 (G.go R1 (by omega)) _ fun y H2 ⟨j, hj, h5, h6⟩ R2 => ⟨i, j, by rw [hi, hj], q _ H2 ⟨_, rfl, by split <;> omega, by split <;> split <;> omega⟩ (R1.trans R2)⟩
theorem s_retDw {g : V → Prop} (h : Dw fa σ m te g) (G : GF fa B H) (k : ∀ v H1, g v → Rf fa m H H1 → D.rt v H1) (hm : m ≤ B := by omega) : tRet te D σ H := h H (G.mono hm) _ k
theorem s_dw {g : V → Prop} {i : Nat} (h : Dw fa σ m te g) (G : GF fa B H) (k : ∀ v H1, g v → Rf fa m H H1 → D.nx (σ.set i (some v)) H1) (hm : m ≤ B := by omega) : tAsg te (gName i) D σ H := h H (G.mono hm) _ k
theorem find_two {c : Nat} {r : Int} (h : FindT ([97, 98] : Tx) [c] 0 r) : r = -1 ∨ r = 0 ∨ r = 1 := by
  cases h with
  | at_ k _ hk _ _ =>
    simp only [List.length_cons, List.length_nil] at hk
    omega
  | no _ => exact .inl rfl
end
section
variable {P : Program} {w : World} {K : PySem.W.Frag} {mg : Str → Option Value} {base : Heap}
def sp_grown : Sp := fun vs H Q _ => ∃ (fa : Addr) (most : Nat), vs = [.ref fa, .int (most : Int)] ∧ GF fa 1000 H ∧ most ≤ 400 ∧ ∀ t H', Ok t → Rf fa 1000 H H' → Q (T t) H'
theorem ok__law_grown {f : Addr} {fd : FuncData} (F : Fun K "_law_grown" "_law_grown" st__law_grown f fd) (M : Md K mg) (C__law_draw : Cal P w K mg base "_law_draw" st__law_draw 1 ["feed", "many"] sp_draw) (C__law_one : Cal P w K mg base "_law_one" st__law_one 2 ["feed", "things"] (sp_one K)) (C__law_text : Cal P w K mg base "_law_text" st__law_text 3 ["feed", "signs", "most"] sp_text) : FnOk P w K mg base CX0 4 f fd ["feed", "most"] sp_grown := by
  have nd := sc__law_grown.nd
  refine F.ok sc__law_grown (fun vs H Q E h => ?_) (fun cdv A outer s H vs Q E hr h => ?_)
  · obtain ⟨_, _, rfl, _⟩ := h
    rfl
  · obtain ⟨fa, most, rfl, G, hm, k⟩ := h
    refine ⟨_, (pss_cons (ps_par (i := 2) (j := 3) rfl nd rfl rfl (by decide) rfl rfl (pa_cons (pe_slice sl_T (pe_sT [97, 98, 99, 100]) po_none (po_some (pe_cl C__law_one hr (pa_cons (pv 0) (pa_cons (pe_lst (pa_cons pe_int (pa_cons pe_int (pa_cons pe_int (pa_cons pe_int (pa_cons pe_int pa_nil)))))) pa_nil))))) (pa_cons (pe_cl C__law_draw hr (pa_cons (pv 0) (pa_cons pe_int pa_nil))) pa_nil)) (by rfl))
  (pss_cons (ps_set (i := 4) nd rfl (Or.inl rfl) (pe_cl C__law_text hr (pa_cons (pv 0) (pa_cons (pv 2) (pa_cons (pe_cl C__law_one hr (pa_cons (pv 0) (pa_cons (pe_lst (pa_cons pe_int (pa_cons pe_int (pa_cons pe_int (pa_cons pe_int (pa_cons pe_int (pa_cons pe_int pa_nil))))))) pa_nil))) pa_nil)))))
  (pss_cons (ps_if (pt_cmpR op_lt (pv 3) pe_int (nomark _))
  (pss_one (ps_ret (pe_slice sl_T (pe_op op_mulT (pv 4) (pe_op op_add pe_int (pe_cl C__law_draw hr (pa_cons (pv 0) (pa_cons pe_int pa_nil))))) po_none (po_some (pv 1)))))
  pss_nil)
  (pss_cons (ps_if (pt_cmpR op_eqI (pv 3) pe_int (nomark _))
  (pss_cons (ps_set (i := 5) nd rfl (Or.inl rfl) (pe_op op_mulT (pv 4) (pe_op op_add pe_int (pe_cl C__law_draw hr (pa_cons (pv 0) (pa_cons pe_int pa_nil))))))
  (pss_one (ps_ret (pe_slice sl_T (pe_slice sl_T (pv 5) po_none (po_some (pe_callB (call_max2 rfl) (by rfl) M.n_max boot_max (pa_cons pe_int (pa_cons (pe_op op_sub (pe_callB cr_lenT (by rfl) M.n_len boot_len (pa_cons (pv 5) pa_nil)) (pe_cl C__law_draw hr (pa_cons (pv 0) (pa_cons (pe_op op_add (pe_callB cr_lenT (by rfl) M.n_len boot_len (pa_cons (pv 4) pa_nil)) pe_int) pa_nil)))) pa_nil))))) po_none (po_some (pv 1))))))
  pss_nil)
  (pss_cons (ps_if (pt_cmpR op_eqI (pv 3) pe_int (nomark _))
  (pss_cons (ps_asg (pe_tup (pa_cons (pe_lc (own := [("letter", 8)]) rfl nd (pi_str (pe_sT [97, 98])) (blkOk_by (N := N__law_grown) (sc := defScope st__law_grown) (by decide +kernel)) (fun _ _ _ _ _ => (pg_name (i := 8) nd rfl (Or.inl rfl))) (fun _ _ _ _ _ => pts_nil) (fun _ _ _ _ _ => (pe_cl C__law_text hr (pa_cons (pv 0) (pa_cons (pe_sT [97, 98]) (pa_cons pe_int pa_nil)))))) (pa_cons (pe_sT [97]) pa_nil))) (kgt K (n := 2) (pg_tup rfl (pgs_cons (pg_name (i := 6) nd rfl (Or.inr rfl)) (pgs_cons (pg_name (i := 7) nd rfl (Or.inl rfl)) pgs_nil)))))
  (pss_cons (ps_for PassesOwn.never rfl (pi_range1 (by rfl) M.n_range (pa_cons (pe_op op_add pe_int (pe_cl C__law_draw hr (pa_cons (pv 0) (pa_cons pe_int pa_nil)))) pa_nil)) (pg_name (i := 9) nd rfl (Or.inl rfl))
  (pss_one (ps_set (i := 7) nd rfl (Or.inl rfl) (pe_slice sl_T (kbm K (pe_bm PySem.F.plainAttrs_str PySem.F.slot_str_join PySem.F.type_str_join (kmt K (r := rJoinT) mt_joinT) (pe_sT []) (pa_cons (pe_lc (own := [("sign", 10)]) rfl nd (pi_str (pv 7)) (blkOk_by (N := N__law_grown) (sc := defScope st__law_grown) (by decide +kernel)) (fun _ _ _ _ _ => (pg_name (i := 10) nd rfl (Or.inl rfl))) (fun _ _ _ _ _ => pts_nil) (fun _ _ _ _ _ => (pe_ix (kix K (r := L2.rIxL) ix_list) (pv 6) (kbm K (pe_bm PySem.F.plainAttrs_str PySem.F.slot_str_find PySem.F.type_str_find mt_findT (pe_sT [97, 98]) (pa_cons (pv 10) pa_nil))) (fun _ _ => rfl)))) pa_nil))) po_none (po_some (pv 1))))))
  (pss_one (ps_ret (pv 7)))))
  pss_nil)
  (pss_cons (ps_if (pt_cmpR op_eqI (pv 3) pe_int (nomark _))
  (pss_one (ps_ret (pe_slice sl_T (pe_op op_addT (pe_op op_addT (pv 4) (pe_cl C__law_text hr (pa_cons (pv 0) (pa_cons (pv 2) (pa_cons pe_int pa_nil))))) (pv 4)) po_none (po_some (pv 1)))))
  pss_nil)
  (pss_one (ps_ret (pe_cl C__law_text hr (pa_cons (pv 0) (pa_cons (pv 2) (pa_cons (pe_cl C__law_one hr (pa_cons (pv 0) (pa_cons (pe_lst (pa_cons pe_int (pa_cons pe_int (pa_cons pe_int (pa_cons (pv 1) pa_nil))))) pa_nil))) pa_nil)))))))))))), ?_⟩
    have hsg : Dw fa (start N__law_grown [.ref fa, .int (most : Int)]) 1 (tSl rSlT (tC (T [97, 98, 99, 100])) tNoPart (tPart (tCall (sp_one K) [] E0 (tCons (tVar 0) (tCons (tLst (tCons (tC (.int 1)) (tCons (tC (.int 2)) (tCons (tC (.int 2)) (tCons (tC (.int 3)) (tCons (tC (.int 4)) tNil)))))) tNil))))) (GdT abcd 1 4) := fun H G Q q =>
      dI_oneL (ns := [1, 2, 2, 3, 4]) (lo := 1) (hi := 4) rfl (fun H => el_lst (ea_cons ev_c (ea_cons ev_c (ea_cons ev_c (ea_cons ev_c (ea_cons ev_c ea_nil))))) (by show 5 ≤ 100000; decide)) (by decide) (by simp) (by decide) H G _ fun v H' ⟨i, hi, h1, h2⟩ R => by
        obtain ⟨n, rfl⟩ := Int.eq_ofNat_of_zero_le (show 0 ≤ i by omega)
        subst hi
        have hn : n = 1 ∨ n = 2 ∨ n = 3 ∨ n = 4 := by omega
        refine ⟨(n : Int), rfl, _, rfl, by show 4 ≤ 16777216; decide, q _ H' ⟨_, rfl, ?_, ?_, ?_⟩ R⟩
        · rw [cutT_to]
          rcases hn with rfl | rfl | rfl | rfl <;> decide
        · rw [cutT_to]
          rcases hn with rfl | rfl | rfl | rfl <;> decide
        · intro c hc
          have := cutT_mem hc
          simp at this
          unfold abcd
          omega
    refine q_par2 (hsg H (G.mono (by omega)) _ fun v1 H1 ⟨sg, hv1, hs1, hs2, hs3⟩ R1 => (dI_draw (lo := 7) (hi := 7) rfl dI_c : Dw fa (start N__law_grown [.ref fa, .int (most : Int)]) _ _ _) H1 (G.go R1 (m' := 1) (by omega)) _ fun v2 H2 ⟨way, hv2, hw1, hw2⟩ R2 => ⟨_, _, rfl, ?_⟩)
    subst hv1 hv2
    have RA := R1.trans R2
    clear R1 R2 hsg
    show tSeq _ _ _ [some (.ref fa), some (.int (most : Int)), some (T sg), some (.int way), none, none, none, none, none, none, none] H2
    have dsg : ∀ {σ : L2.St}, σ[2]? = some (some (T sg)) → Dw fa σ 0 (tVar 2) (GdT abcd 1 4) := fun h0 => dT_var h0 hs1 hs2 hs3
    refine q_dw (dT_text (c := 20) rfl (dsg rfl) (dI_wk (dI_oneL (ns := [1, 2, 3, 5, 9, 20]) (lo := 1) (hi := 20) rfl (fun H => el_lst (ea_cons ev_c (ea_cons ev_c (ea_cons ev_c (ea_cons ev_c (ea_cons ev_c (ea_cons ev_c ea_nil)))))) (by show 6 ≤ 100000; decide)) (by decide) (by simp) (by decide)))) (G.go RA (m' := 900) (by omega)) fun v H3 ⟨root, hv, hr1, hr2, hr3⟩ R3 => ?_
    subst hv
    have RB : Rf fa 30 H H3 := (RA.trans R3).mono (by omega)
    clear RA R3
    show tSeq _ _ _ [some (.ref fa), some (.int (most : Int)), some (T sg), some (.int way), some (T root), none, none, none, none, none, none] H3
    have dro : ∀ {σ : L2.St}, σ[4]? = some (some (T root)) → Dw fa σ 0 (tVar 4) (GdT abcd 0 20) := fun h0 => dT_var h0 hr1 hr2 hr3
    have fin : ∀ {m0 m : Nat} {HA : Hp}, Rf fa m0 H HA → m0 + m ≤ 1000 → ∀ v H', GdT abcd 0 most v → Rf fa m HA H' → Q v H' := fun RC hb v H' ⟨t, hv, _, h2, h3⟩ R2 => by
      rw [hv]
      exact k t H' ⟨by omega, h3⟩ ((RC.trans R2).mono hb)
    -- way < 2
    refine q_when (et_test (ev_op (ev_var rfl) ev_c rv_I0)) (fun hb H4 e4 => ?_) (fun hb H4 e4 => ?_)
    · exact s_retDw (dT_to (dT_mul (c := 1) (d := 9) (dro rfl) (dI_wk (dI_add dI_c (dI_draw (lo := 9) (hi := 9) rfl dI_c)))) rfl) (G.go (RB.then e4) (m' := 900) (by omega)) (fun v H' hv R => fin (RB.then e4) (by omega) v H' hv R)
    have RC := RB.then e4
    clear RB e4 hb
    -- way == 2
    refine q_when (et_test (ev_op (ev_var rfl) ev_c rv_I0)) (fun hb H5 e5 => ?_) (fun hb H5 e5 => ?_)
    · have RD := RC.then e5
      refine q_dw (dT_mul (c := 2) (d := 6) (dro rfl) (dI_wk (dI_add dI_c (dI_draw (lo := 5) (hi := 5) rfl dI_c)))) (G.go RD (m' := 900) (by omega)) fun v H6 ⟨whole, hv, hx1, hx2, hx3⟩ R6 => ?_
      subst hv
      have RE := RD.trans R6
      show tRet _ _ [some (.ref fa), some (.int (most : Int)), some (T sg), some (.int way), some (T root), some (T whole), none, none, none, none, none] H6
      have dwh : ∀ {σ : L2.St}, σ[5]? = some (some (T whole)) → Dw fa σ 0 (tVar 5) (GdT abcd 0 120) := fun h0 => dT_var h0 (Nat.zero_le _) (by omega) hx3
      exact s_retDw (dT_to (dT_sl (dwh rfl) do_none (do_some (dI_max2 dI_c (dI_sub (dI_len (dwh rfl)) (dI_draw (lo := 1) (hi := 21) rfl (dI_wk (dI_add (dI_len (dro rfl)) dI_c))))))) rfl) (G.go RE (m' := 900) (by omega)) (fun v H' hv R => fin RE (by omega) v H' hv R)
    have RD := RC.then e5
    clear RC e5 hb
    -- way == 3
    refine q_when (et_test (ev_op (ev_var rfl) ev_c rv_I0)) (fun hb H6 e6 => ?_) (fun hb H6 e6 => ?_)
    · have RE := RD.then e6
      have GE : GF fa 900 H6 := G.go RE (by omega)
      refine q_asgG (l_tup (a_any ?_))
      refine lcD (fa := fa) (n := 2) (own := fun _ => False) (P := fun i v _ => (([97, 98] : Tx).map fun c => T [c])[i]? = some v) (GdT abcd 0 3) 4 GE.is (src_str (a := [97, 98]) ev_c) (fun z => z) (by decide) (fun _ => rfl) (fun i x H7 hi hx R7 Q2 q2 => ?_) fun pm H7 acc hpm R7 h7 hal hg => a_c (a_nil ⟨by show 2 ≤ sizeLine; decide, fun pt hpt => g_pair upd_same ?_⟩)
      · exact (dT_text (fa := fa) (ok := abcd) (a := 2) (b := 2) (c := 3) (i := 0) rfl (dT_c (s := [97, 98]) (fun c hc => by simp at hc; unfold abcd; omega)) (dI_wk dI_c) : Dw fa [some (.ref fa), some (.int (most : Int)), some (T sg), some (.int way), some (T root), none, none, none, some x, none, none] _ _ _) H7 (GE.go R7 (m' := 800) (by omega) |>.mono (by omega)) Q2 fun y H8 hy R8 => q2 y H8 hy (R8.mono (by omega))
      obtain ⟨ms, rfl, hms⟩ := texts_GdT hg
      rw [List.length_map] at hal
      have npm := GE.new hpm
      have RF : Rf fa 38 H (upd H7 pt (.tup [.ref pm, T [97]])) := ((RE.trans R7).then (Ex.new hpt)).mono (by omega)
      have h8 : (upd H7 pt (.tup [.ref pm, T [97]])) pm = some (.lst (ms.map T)) := Ex.new hpt _ _ h7
      generalize upd H7 pt (.tup [.ref pm, T [97]]) = H8 at RF h8 ⊢
      clear hpt h7 R7 RE RD hpm hg
      show tSeq _ _ _ [some (.ref fa), some (.int (most : Int)), some (T sg), some (.int way), some (T root), none, some (.ref pm), some (T [97]), none, none, none] H8
      refine q_forD (dI_add dI_c (dI_draw (lo := 6) (hi := 6) rfl dI_c)) (G.go RF (m' := 900) (by omega)) fun n H9 hn1 hn2 R9 => ?_
      obtain ⟨n, rfl⟩ := Int.eq_ofNat_of_zero_le (show 0 ≤ n by omega)
      have RG := RF.trans R9
      have h9 := R9.at_ h8 npm
      refine q_forW (fun c => c = fa) (src_range1 (n := n) (fun H2 e2 Q2 q2 => q2 H2 (Ex.refl _)) (by omega)) ?_
        (fun Hs i σ' H' => ∃ (t : Tx) (v10 v9 : Option V), σ' = [some (.ref fa), some (.int (most : Int)), some (T sg), some (.int way), some (T root), none, some (.ref pm), some (T t), none, v9, v10] ∧ Exc (fun c => c = fa) Hs H' ∧ Rf fa 45 H H' ∧ H' pm = some (.lst (ms.map T)) ∧ Ok t) ?_ ?_ ?_ ?_ ?_
      · rintro c rfl
        exact ⟨(G.go RG (m' := 0) (by omega)).is, fun z => z⟩
      · intro Hs e
        exact ⟨[97], none, none, rfl, Exc.refl _, (RG.then e).mono (by omega), e _ _ h9, by decide, fun c hc => by simp at hc; unfold abcd; omega⟩
      · rintro Hs i σ' H' ⟨_, _, _, _, h, _⟩
        exact h
      · rintro Hs i σ' Ha Hb ⟨t, v10, v9, g0, g1, g2, g3, g4⟩ e
        exact ⟨t, v10, v9, g0, g1.then e, g2.then e, e _ _ g3, g4⟩
      · rintro Hs i x σ' H' e hi ⟨t, v10, v9, rfl, g1, g2, g3, g4⟩ rfl
        show tAsg _ _ _ [some (.ref fa), some (.int (most : Int)), some (T sg), some (.int way), some (T root), none, some (.ref pm), some (T t), none, some (.int (i : Int)), v10] H'
        have GH : GF fa 900 H' := G.go g2 (by omega)
        have hl := g4.len
        have dj : ∀ Q' : VK, (∀ v H2, GdT abcd 0 most v → Rf fa 0 H' H2 → Q' v H2) → tSl rSlT (tBM K "str" (rJoinT K) (tC (T [])) (tCons (tLc (iStr (tVar 7)) (gName 10) tYes (tOp (L2.rIxL K) (tVar 6) (tBM K "str" rFindT (tC (T [97, 98])) (tCons (tVar 10) tNil))) [10]) tNil)) tNoPart (tPart (tVar 1)) [some (.ref fa), some (.int (most : Int)), some (T sg), some (.int way), some (T root), none, some (.ref pm), some (T t), none, some (.int (i : Int)), v10] H' Q' := fun Q' q' => ⟨rfl, by
          refine lcD (fa := fa) (n := t.length) (own := fun _ => False) (P := fun i v _ => (t.map fun c => T [c])[i]? = some v) (GdT abcd 0 3) 0 GH.is (src_str (ev_var rfl)) (fun z => z) (by omega) (fun _ => rfl) (fun j y H2 hj hy R2 Q2 q2 => ?_) fun p H2 acc hp R2 h2 hal2 hg2 => ?_
          · obtain ⟨c, hc, rfl⟩ := at_map (f := fun c : Nat => T [c]) hy
            have hpm2 := R2.at_ g3 npm
            refine ⟨.ref pm, rfl, rfl, T [c], rfl, _, _, rfl, rfl, fun r hr => ?_⟩
            obtain ⟨u, hu, hum⟩ : ∃ u : Tx, atI (ms.map T) r = some (T u) ∧ u ∈ ms := by
              obtain ⟨a, b, rfl⟩ : ∃ a b, ms = [a, b] := by
                match ms, hal with
                | [a, b], _ => exact ⟨a, b, rfl⟩
              rcases find_two hr with rfl | rfl | rfl
              · exact ⟨b, atI_last [T a] (T b), by simp⟩
              · exact ⟨a, atI_nat (j := 0) rfl, by simp⟩
              · exact ⟨b, atI_nat (j := 1) rfl, by simp⟩
            have hum2 := hms u hum
            exact ⟨pm, _, r, T u, rfl, rfl, sq_of hpm2, hu, q2 _ H2 ⟨u, rfl, Nat.zero_le _, hum2.2.1, hum2.2.2⟩ (Rf.refl _)⟩
          · obtain ⟨ts, rfl, hts⟩ := texts_GdT hg2
            rw [List.length_map] at hal2
            have hsum := sum_le (m := 3) fun t ht => (hts t ht).2.1
            refine ⟨[], p, ts, rfl, rfl, .inl (sq_of h2), by simp; omega, ?_⟩
            rw [joinL_nil]
            refine ⟨.int (most : Int), rfl, (most : Int), rfl, ts.flatten, rfl, by rw [flat_len]; omega, q' _ H2 ⟨_, rfl, Nat.zero_le _, by rw [cutT_to, List.length_take]; omega, fun c hc => ?_⟩ (R2.mono (by omega))⟩
            obtain ⟨t', ht, hct⟩ := List.mem_flatten.mp (cutT_mem hc)
            exact (hts t' ht).2.2 c hct⟩
        exact dj _ fun v H2 ⟨t', hv, _, ht2, ht3⟩ R2 => ⟨t', v10, some (.int (i : Int)), by rw [hv]; rfl, g1.trans R2.keep, (g2.trans R2).mono (by omega), R2.at_ g3 npm, by omega, ht3⟩
      · rintro Hs σ' H' e ⟨t, v10, v9, rfl, g1, g2, g3, g4⟩
        exact s_ret (ev_var rfl) fun H'' e'' => k t H'' g4 ((g2.then e'').mono (by omega))
    have RE := RD.then e6
    clear RD e6 hb
    refine q_when (et_test (ev_op (ev_var rfl) ev_c rv_I0)) (fun hb H7 e7 => ?_) (fun hb H7 e7 => ?_)
    · exact s_retDw (dT_to (dT_add (dT_add (dro rfl) (dT_text (c := 9) rfl (dsg rfl) (dI_wk dI_c))) (dro rfl)) rfl) (G.go (RE.then e7) (m' := 900) (by omega)) (fun v H' hv R => fin (RE.then e7) (by omega) v H' hv R)
    · have RF := RE.then e7
      have dL : Dw fa [some (.ref fa), some (.int (most : Int)), some (T sg), some (.int way), some (T root), none, none, none, none, none, none] 1 (tCall (sp_one K) [] E0 (tCons (tVar 0) (tCons (tLst (tCons (tC (.int 3)) (tCons (tC (.int 8)) (tCons (tC (.int 30)) (tCons (tVar 1) tNil))))) tNil))) (GdI 0 400) := dI_oneL (ns := [3, 8, 30, (most : Int)]) (lo := 0) (hi := 400) rfl (fun H => el_lst (ea_cons ev_c (ea_cons ev_c (ea_cons ev_c (ea_cons (ev_var rfl) ea_nil)))) (by show 4 ≤ 100000; decide)) (fun n hn => by
        simp only [List.mem_cons, List.not_mem_nil, or_false] at hn
        omega) (by simp) (by show 4 ≤ 1000; decide)
      exact s_retDw (dT_text (c := 400) rfl (dsg rfl) dL) (G.go RF (m' := 900) (by omega)) (fun v H' ⟨t, hv, _, h2, h3⟩ R => by
        rw [hv]
        exact k t H' ⟨h2, h3⟩ ((RF.trans R).mono (by omega)))
end
end K01
set_option Elab.async false
set_option linter.all false
set_option maxRecDepth 100000
set_option maxHeartbeats 4000000
namespace K01
open PySem PySem.Spec PyProof.Rows L2 Evl Wc Wt Wg Ws We
theorem kb_borders_0 : KB "borders" st_borders 0 ["text"] ["text"] sw1 sw1 := kb1 rfl (fun _ _ _ _ _ _ a => rfl)
theorem kb_least_turn_0 : KB "least_turn" st_least_turn 0 ["text"] ["text"] sw1 sw1 := kb1 rfl (fun _ _ _ _ _ _ a => rfl)
theorem kb_lyndon_0 : KB "lyndon" st_lyndon 0 ["text"] ["text"] sw1 sw1 := kb1 rfl (fun _ _ _ _ _ _ a => rfl)
theorem kb_root_of_0 : KB "root_of" st_root_of 0 ["text"] ["text"] sw1 sw1 := kb1 rfl (fun _ _ _ _ _ _ a => rfl)
section
variable {σ : L2.St} {H : Hp} {t u : TT} {te : TE} {Q : Bool → Hp → Prop}
theorem t_orD (h : t σ H fun b H1 => if b = true then Q true H1 else u σ H1 Q) : tOr t u σ H Q := h
theorem t_notA (h : t σ H fun b H1 => Q (!b) H1) : tNot t σ H Q := h
theorem t_B (h : te σ H fun v H1 => ∃ b, v = .bl b ∧ Q b H1) : tB te σ H Q := h
end
section
variable {K : PySem.W.Frag} {P : Program} {w : World} {σ : L2.St} {H : Hp} {te ta tb ti : TE} {tq tk : TA} {tz : TS} {D : Ends} {v : V} {xs : List V} {sp : Sp} {gV : List V → List V → List V} {vs : List V}
/-- a list, new or not -/
def EvS (te : TE) (σ : L2.St) (H : Hp) (xs : List V) : Prop := ∀ H1, Ex H H1 → ∀ Q : VK, (∀ p H2, Ex H1 H2 → H2 p = some (.lst xs) → Q (.ref p) H2) → te σ H1 Q
theorem es_l (h : EvL te σ H xs) : EvS te σ H xs := fun H1 e Q q => h H1 e Q fun p H2 _ e2 h2 => q p H2 e2 h2
theorem es_v {p : Addr} (h : Ev te σ H (.ref p)) (hp : H p = some (.lst xs)) : EvS te σ H xs := fun H1 e Q q => h H1 e Q fun H2 e2 => q p H2 e2 ((e.trans e2) _ _ hp)
theorem EvS.ex {H1 : Hp} (h : EvS te σ H xs) (e : Ex H H1) : EvS te σ H1 xs := fun H2 e2 => h H2 (e.trans e2)
theorem ev_same (ha : EvS ta σ H xs) (hb : EvS tb σ H xs) (hf : ∀ v ∈ xs, ∃ d, FlatV v d) (hl : xs.length ≤ 30000) : Ev (tCall (sp_list_same K) [] E0 (tCons ta (tCons tb tNil))) σ H (.bl true) := fun H1 e Q q =>
  ha H1 e _ fun p H2 e2 h2 => hb H2 (e.trans e2) _ fun r H3 e3 h3 => ⟨p, r, xs, rfl, e3 _ _ h2, sq_of h3, hf, hl, fun H4 e4 => q H4 ((e2.trans e3).trans e4)⟩
theorem el_callK0 (h : EvA tk σ H vs) (hs : ∀ H1, Ex H H1 → ∀ Q : VK, RetL xs H1 Q → ∀ E, sp (gV [] vs) H1 Q E) : EvL (tCallK0 sp gV tk) σ H xs := fun H1 e Q q => h H1 e _ fun H2 e2 => hs H2 (e.trans e2) _ (fun p H3 hp e3 h3 => q p H3 (fresh_back e2 hp) (e2.trans e3) h3) E0
end
theorem bordL_len (t : Tx) : (bordL t).length ≤ t.length := by
  unfold bordL
  refine Nat.le_trans (List.length_filter_le _ _) ?_
  rw [List.length_range']
  omega
theorem perL_len (t : Tx) : (perL t).length ≤ t.length := perTo_len t t.length
theorem turnL_low {t : Tx} (h : Ok t) : ∀ u ∈ setS (turnL t), LowT u := fun u hu c hc => by
  obtain ⟨i, _, rfl⟩ := List.mem_map.mp (mem_setS.mp hu)
  have : c ∈ t := (List.mem_append.mp hc).elim List.mem_of_mem_drop List.mem_of_mem_take
  have := (h.sg c this).2
  omega
theorem turns_len (t : Tx) : (setS (turnL t)).length ≤ t.length + 1 := Nat.le_trans (setS_len _) (by unfold turnL; rw [List.length_map, List.length_range]; omega)
theorem rc_err {K : PySem.W.Frag} {D a B : Addr} {b : Bool} {H : Hp} (h : PySem.W.kitOne K (.ref D) (.ref B) = some b) : RC (rIsE2 K D a (.ref D) none) [.ref a, .ref B] H (.bl b) := fun H1 _ _ q => is_err h (q H1 (Ex.refl _))
/-- the error and its base -/
structure ErrO (K : PySem.W.Frag) (mg : Str → Option Value) (CE CB : Addr) : Prop where
  xE : Err K mg "TooMany" CE
  iE : ErrI K CE
  gE : ∃ u, mg "TooMany" = some u ∧ RelV (.ref CE) u
  gB : ∃ u, mg "CutError" = some u ∧ RelV (.ref CB) u
  eb : PySem.W.kitOne K (.ref CE) (.ref CB) = some true
section
variable {P : Program} {w : World} {K : PySem.W.Frag} {mg : Str → Option Value} {base : Heap}
def sp_told : Sp := fun vs H Q _ => ∃ (pl pc : Addr) (lot : List Tx) (c : List Nat), vs = [.ref pl, .ref pc] ∧ LotAt pl lot H ∧ H pc = some (.lst (numV c)) ∧ Ixs lot c ∧ c.length ≤ 400 ∧ ((put lot c).length ≤ 400 → RetV (T (put lot c)) H Q) ∧ (400 < (put lot c).length → RetV (.bl true) H Q)
theorem ok__law_told {f CE CB : Addr} {fd : FuncData} (F : Fun K "_law_told" "_law_told" st__law_told f fd) (M : Md K mg) (X : ErrO K mg CE CB) (S_put_together : CalS P w K mg base "put_together" st_put_together 5 ["lot", "indexes"] (sp_together CE)) : FnOk P w K mg base CX0 6 f fd ["lot", "indexes"] sp_told := by
  have nd := sc__law_told.nd
  refine F.ok sc__law_told (fun vs H Q E h => ?_) (fun cdv A outer s H vs Q E hr h => ?_)
  · obtain ⟨_, _, _, _, rfl, _⟩ := h
    rfl
  · obtain ⟨pl, pc, lot, c, rfl, hL, hc, hix, hcl, k1, k2⟩ := h
    refine ⟨_, pss_cons (ps_set (i := 2) nd rfl (Or.inl rfl) pe_bl)
      (pss_cons (ps_try_as (i := 3) (tb := fun W => tAsg (tCallS (sp_together CE) (WE W) (tCons (tVar 0) (tCons (tVar 1) tNil))) (gName 2)) (ts := fun a cls d => tAsg (tCB (rIsE2 K CE a cls d) (tCons (tVar 3) (tCons (tC (.ref CB)) tNil))) (gName 2)) (Wout := fun _ _ _ _ => False) rfl rfl nd rfl rfl ⟨rfl, by decide, Or.inl X.xE.gP⟩ takes0
          (fun W pn xe tk _ => pss_one (ps_set (i := 2) nd rfl (Or.inl rfl) (by exact (pe_clS S_put_together hr tk (by exact (pa_cons (pv 0) (pa_cons (pv 1) pa_nil)))))))
          (fun a oe cls d pn hz hf => pss_one (ps_set (i := 2) nd rfl (Or.inl rfl) (by exact (pe_callB (call_isE2 X.iE.cl hz hf) (by rfl) M.n_isinstance boot_isinstance (pa_cons (pv 3) (pa_cons (C8.pe_gc rfl X.gB) pa_nil)))))))
      (pss_one (ps_ret (pv 2)))), ?_⟩
    refine q_asg ev_c fun H1 e1 => ?_
    show tSeq _ _ _ [some (.ref pl), some (.ref pc), some (.bl false), none] H1
    refine ⟨.ref pl, rfl, .ref pc, rfl, pl, pc, lot, c, rfl, hL.ex e1, e1 _ _ hc, hix, hcl, fun hle H2 e2 => ⟨_, rfl, k1 hle H2 (e1.trans e2)⟩, fun hgt H' e' => ?_⟩
    refine ⟨true, X.iE.te, fun _ a ha => ?_, fun z => Bool.noConfusion z⟩
    exact s_asg (v := .bl true) (ev_cb (ea_cons (ev_var rfl) (ea_cons ev_c ea_nil)) (rc_err X.eb)) fun H3 e3 => ⟨.bl true, rfl, k2 hgt H3 ((e1.trans e').trans e3)⟩
def sp_text_right : Sp := fun vs H Q _ => ∃ (t : Tx), vs = [T t] ∧ Ok t ∧ RetV (.bl true) H Q
theorem ok__law_text_right {f : Addr} {fd : FuncData} (F : Fun K "_law_text_right" "_law_text_right" st__law_text_right f fd) (M : Md K mg) (C__law_so : Cal P w K mg base "_law_so" st__law_so 1 ["actual", "due"] sp_law_so) (C__law_is : Cal P w K mg base "_law_is" st__law_is 1 ["actual", "due"] sp_law_is) (C__law_list : Cal P w K mg base "_law_list" st__law_list 1 ["actual", "due"] (sp_list_same K)) (C_borders : Cal P w K mg base "borders" st_borders 4 ["text"] sp_borders) (C__law_borders : Cal P w K mg base "_law_borders" st__law_borders 1 ["text"] sp_borders) (C_periods : Cal P w K mg base "periods" st_periods 4 ["text"] sp_periods) (C__law_periods : Cal P w K mg base "_law_periods" st__law_periods 1 ["text"] sp_periods)
    (C_turns_of : Cal P w K mg base "turns_of" st_turns_of 4 ["text"] sp_turns) (C__law_turns : Cal P w K mg base "_law_turns" st__law_turns 1 ["text"] sp_turns) (C_least_turn : Cal P w K mg base "least_turn" st_least_turn 4 ["text"] sp_least) (C_lyndon : Cal P w K mg base "lyndon" st_lyndon 4 ["text"] sp_lyndon) (C__law_is_lyndon : Cal P w K mg base "_law_is_lyndon" st__law_is_lyndon 1 ["text", "thing"] sp_law_lyndon) (C_root_of : Cal P w K mg base "root_of" st_root_of 4 ["text"] sp_root) (C_is_primitive : Cal P w K mg base "is_primitive" st_is_primitive 4 ["text"] sp_primitive) : FnOk P w K mg base CX0 5 f fd ["text"] sp_text_right := by
  have nd := sc__law_text_right.nd
  refine F.ok sc__law_text_right (fun vs H Q E h => ?_) (fun cdv A outer s H vs Q E hr h => ?_)
  · obtain ⟨_, rfl, _⟩ := h
    rfl
  · obtain ⟨t, rfl, hT, k⟩ := h
    refine ⟨_, (pss_cons (ps_set (i := 1) nd rfl (Or.inl rfl) (pe_cl C_borders hr (pa_cons (pv 0) pa_nil)))
  (pss_cons (ps_if (PW.pt (pw_or (pt_not (pt_val (pe_cl C__law_list hr (pa_cons (pv 1) (pa_cons (pe_cl C__law_borders hr (pa_cons (pv 0) pa_nil)) pa_nil))))) (pw_or1 (pt_not (pt_val (pe_cl C__law_list hr (pa_cons (pe_cl C_periods hr (pa_cons (pv 0) pa_nil)) (pa_cons (pe_cl C__law_periods hr (pa_cons (pv 0) pa_nil)) pa_nil))))))))
  (pss_one (ps_ret pe_bl))
  pss_nil)
  (pss_cons (ps_expr (kbm K (pe_bm PySem.F.plainAttrs_list PySem.F.slot_list_append PySem.F.type_list_append mt_append (pv 1) (pa_cons pe_int pa_nil))))
  (pss_cons (ps_set (i := 2) nd rfl (Or.inl rfl) (pe_cl C__law_turns hr (pa_cons (pv 0) pa_nil)))
  (pss_cons (ps_if (PW.pt (pw_or (pt_not (pt_val (pe_cl C__law_list hr (pa_cons (pe_clK0 C_borders (kb_borders_0) hr (pk_cons (pv 0) pk_nil)) (pa_cons (pe_cl C__law_borders hr (pa_cons (pv 0) pa_nil)) pa_nil))))) (pw_or (pt_not (pt_val (pe_cl C__law_list hr (pa_cons (pe_cl C_turns_of hr (pa_cons (pv 0) pa_nil)) (pa_cons (pv 2) pa_nil))))) (pw_or1 (pt_cmpR op_neT (pe_clK0 C_least_turn (kb_least_turn_0) hr (pk_cons (pv 0) pk_nil)) (pe_ix (kix K (r := L2.rIxL) ix_list) (pv 2) pe_int (fun _ _ => rfl)) (nomark _))))))
  (pss_one (ps_ret pe_bl))
  pss_nil)
  (pss_cons (ps_set (i := 3) nd rfl (Or.inl rfl) (pe_cl C_lyndon hr (pa_cons (pv 0) pa_nil)))
  (pss_cons (ps_if (pt_not (pt_val (pe_cl C__law_is_lyndon hr (pa_cons (pv 0) (pa_cons (pv 3) pa_nil)))))
  (pss_one (ps_ret pe_bl))
  pss_nil)
  (pss_cons (ps_expr (kbm K (pe_bm PySem.F.plainAttrs_list PySem.F.slot_list_append PySem.F.type_list_append mt_append (pv 3) (pa_cons (pe_sT [115, 112, 111, 105, 108, 116]) pa_nil))))
  (pss_cons (ps_if (pt_not (pt_val (pe_cl C__law_is_lyndon hr (pa_cons (pv 0) (pa_cons (pe_clK0 C_lyndon (kb_lyndon_0) hr (pk_cons (pv 0) pk_nil)) pa_nil)))))
  (pss_one (ps_ret pe_bl))
  pss_nil)
  (pss_cons (ps_if (pt_cmpR op_eqT (pv 0) (pe_sT []) (nomark _))
  (pss_one (ps_ret pe_bl))
  pss_nil)
  (pss_cons (ps_set (i := 4) nd rfl (Or.inl rfl) (kbm K (pe_bm PySem.F.plainAttrs_str PySem.F.slot_str_find PySem.F.type_str_find mt_find3T (pe_op op_addT (pv 0) (pv 0)) (pa_cons (pv 0) (pa_cons pe_int pa_nil)))))
  (pss_cons (ps_set (i := 5) nd rfl (Or.inl rfl) (pe_clK0 C_root_of (kb_root_of_0) hr (pk_cons (pv 0) pk_nil)))
  (pss_cons (ps_if (PW.pt (pw_or (pt_not (pt_val (pe_callB (kcr K (r := rIsiB) cr_isi) (by rfl) M.n_isinstance boot_isinstance (pa_cons (pv 5) (pa_cons (pe_bltn (v := .ty "tuple") rfl M.n_tuple boot_tuple rfl) pa_nil))))) (pw_or (pt_cmpR op_neI (pe_callB (kcr K (r := rLenS) call_len_seq) (by rfl) M.n_len boot_len (pa_cons (pv 5) pa_nil)) pe_int (nomark _)) (pw_or (pt_cmpR op_neT (pe_ix (kix K (r := L2.rIxT) ix_tup) (pv 5) pe_int (fun _ _ => rfl)) (pe_slice sl_T (pv 0) po_none (po_some (pv 4))) (nomark _)) (pw_or1 (pt_not (pt_val (pe_cl C__law_is hr (pa_cons (pe_ix (kix K (r := L2.rIxT) ix_tup) (pv 5) pe_int (fun _ _ => rfl)) (pa_cons (pe_op op_fdivW (pe_callB cr_lenT (by rfl) M.n_len boot_len (pa_cons (pv 0) pa_nil)) (pv 4)) pa_nil))))))))))
  (pss_one (ps_ret pe_bl))
  pss_nil)
  (pss_one (ps_ret (pe_cl C__law_so hr (pa_cons (pe_cl C_is_primitive hr (pa_cons (pv 0) pa_nil)) (pa_cons (pe_cmpR op_eqI (pv 4) (pe_callB cr_lenT (by rfl) M.n_len boot_len (pa_cons (pv 0) pa_nil)) (nomark _)) pa_nil)))))))))))))))))), ?_⟩
    have hl := hT.len
    have cb : ∀ {σ : L2.St} {H : Hp}, σ[0]? = some (some (T t)) → EvL (tCall sp_borders [] E0 (tCons (tVar 0) tNil)) σ H (numV (bordL t)) := fun h0 => el_call (ea_cons (ev_var h0) ea_nil) fun H2 e2 Q q E => ⟨t, rfl, hT, q⟩
    have cp : ∀ {σ : L2.St} {H : Hp}, σ[0]? = some (some (T t)) → EvL (tCall sp_periods [] E0 (tCons (tVar 0) tNil)) σ H (numV (perL t)) := fun h0 => el_call (ea_cons (ev_var h0) ea_nil) fun H2 e2 Q q E => ⟨t, rfl, hT, q⟩
    have ct : ∀ {σ : L2.St} {H : Hp}, σ[0]? = some (some (T t)) → EvL (tCall sp_turns [] E0 (tCons (tVar 0) tNil)) σ H ((setS (turnL t)).map T) := fun h0 => el_call (ea_cons (ev_var h0) ea_nil) fun H2 e2 Q q E => ⟨t, rfl, hT, q⟩
    have lb : (numV (bordL t)).length ≤ 30000 := by rw [numV_len]; have := bordL_len t; omega
    have lp : (numV (perL t)).length ≤ 30000 := by rw [numV_len]; have := perL_len t; omega
    have ft : ∀ v ∈ (setS (turnL t)).map T, ∃ d, FlatV v d := fun v hv => by
      obtain ⟨u, hu, rfl⟩ := List.mem_map.mp hv
      exact ⟨_, .str (turnL_low hT u hu)⟩
    have lt : ((setS (turnL t)).map T).length ≤ 30000 := by rw [List.length_map]; have := turns_len t; omega
    refine q_asgL (cb rfl) fun pf H1 hpf e1 h1 => ?_
    show tSeq _ _ _ [some (T t), some (.ref pf), none, none, none, none] H1
    refine q_when (b := false) (et_is (et_or (a := false) (b := false) (et_is (et_not (et_B (ev_same (es_v (ev_var rfl) h1) (es_l (cb rfl)) (flat_num _) lb))) rfl) fun _ => et_is (et_not (et_B (ev_same (es_l (cp rfl)) (es_l (cp rfl)) (flat_num _) lp))) rfl) rfl) (fun z => by cases z) (fun _ H2 e2 => ?_)
    refine q_app (v := .int 0) (e2 _ _ h1) (ev_var rfl) ev_c (by rw [numV_len]; have := bordL_len t; omega) fun H3 e3 => ?_
    have eA : Ex H (upd H3 pf (.lst (numV (bordL t) ++ [.int 0]))) := Ex.mut ((e1.trans e2).trans e3) hpf
    generalize upd H3 pf (.lst (numV (bordL t) ++ [.int 0])) = H4 at eA
    clear h1 e3 e2 e1
    refine q_asgL (ct rfl) fun pt H5 hpt e5 h5 => ?_
    show tSeq _ _ _ [some (T t), some (.ref pf), some (.ref pt), none, none, none] H5
    have hhd : (((setS (turnL t)).map T))[0]? = some (T ((setS (turnL t)).headD [])) := by
      have := turns_ne t
      cases h : setS (turnL t) with
      | nil => exact absurd h this
      | cons a l => rfl
    refine q_when (b := false) (et_is (et_or (a := false) (b := false) (et_is (et_not (et_B (ev_same (es_l (el_callK0 (xs := numV (bordL t)) (ea_cons (ev_var rfl) ea_nil) fun H2 e2 Q q E => ⟨t, rfl, hT, q⟩)) (es_l (cb rfl)) (flat_num _) lb))) rfl) fun _ => et_is (et_or (a := false) (b := false) (et_is (et_not (et_B (ev_same (es_l (ct rfl)) (es_v (ev_var rfl) h5) ft lt))) rfl) fun _ => et_is (et_test (ev_op (ev_callK0 (z := T ((setS (turnL t)).headD [])) (ea_cons (ev_var rfl) ea_nil) fun H2 e2 Q q E => ⟨t, rfl, hT, q⟩) (ev_op (ev_var rfl) ev_c (rv_ixL (sq_of h5) (atI_nat (j := 0) hhd))) rv_neT)) (by rw [decide_eq_true rfl]; rfl)) rfl) rfl) (fun z => by cases z) (fun _ H6 e6 => ?_)
    have eB := (eA.trans e5).trans e6
    refine q_asgA (l_call (a_ev (ev_var rfl) fun Ha ea => a_nil ⟨t, rfl, hT, fun fs hF hfl pp H7 hpp e7 h7 => ?_⟩))
    show tSeq _ _ _ [some (T t), some (.ref pf), some (.ref pt), some (.ref pp), none, none] H7
    have hpp' := fresh_back (eB.trans ea) hpp
    have eC := eB.trans (ea.trans e7)
    refine q_when (b := false) (et_is (et_not (et_B (ev_call (ea_cons (ev_var rfl) (ea_cons (ev_var rfl) ea_nil)) fun H8 e8 Q q E => ⟨t, pp, fs, rfl, e8 _ _ h7, hl, hfl, hF, q⟩))) rfl) (fun z => by cases z) (fun _ H8 e8 => ?_)
    refine q_app (v := T [115, 112, 111, 105, 108, 116]) (e8 _ _ h7) (ev_var rfl) ev_c (by rw [List.length_map]; omega) fun H9 e9 => ?_
    have eD : Ex H (upd H9 pp (.lst (fs.map T ++ [T [115, 112, 111, 105, 108, 116]]))) := Ex.mut ((eC.trans e8).trans e9) hpp'
    generalize upd H9 pp (.lst (fs.map T ++ [T [115, 112, 111, 105, 108, 116]])) = H10 at eD
    clear e9 e8 h7 eC eB hpp e7 ea hF hfl
    refine q_ifA (t_notA (t_B (l_call (a_ev (ev_var rfl) fun Ha ea => a_any ?_))))
    refine (ea_cons (ev_var (i := 0) rfl) ea_nil : EvA (tCons (tVar 0) tNil) [some (T t), some (.ref pf), some (.ref pt), some (.ref pp), none, none] Ha [T t]) Ha (Ex.refl _) _ fun Hb eb => ⟨t, rfl, hT, fun fs2 hF2 hfl2 p2 H11 hp2 e11 h11 => a_nil ⟨t, p2, fs2, rfl, h11, hl, hfl2, hF2, fun H12 e12 => ⟨true, rfl, ?_⟩⟩⟩
    rw [if_neg (by decide)]
    have eE := eD.trans (((ea.trans eb).trans e11).trans e12)
    refine q_when (b := decide (t = [])) (et_test (ev_op (ev_var rfl) ev_c rv_eqT)) (fun _ H13 e13 => s_ret ev_c (RetV.mono k (eE.trans e13))) (fun hb H13 e13 => ?_)
    have hne := of_decide_eq_false hb
    have eF := eE.trans e13
    refine q_asgA ((ev_op (ev_var rfl) (ev_var rfl) (rv_addT (by omega)) : Ev (tOp rAddT (tVar 0) (tVar 0)) _ H13 (T (t ++ t))) H13 (Ex.refl _) _ fun Hc ec => ⟨rfl, a_ev (ev_var rfl) fun Hd ed => a_c (a_nil ⟨t ++ t, t, 1, rfl, rfl, fun r hr => ?_⟩)⟩)
    obtain ⟨m, rfl, hm⟩ := root_find hne hr
    obtain ⟨m0, m1, m2, _⟩ := id hm
    show tSeq _ _ _ [some (T t), some (.ref pf), some (.ref pt), some (.ref pp), some (.int (m : Int)), none] Hd
    have eG := eF.trans (ec.trans ed)
    refine q_asgU (xs := [T (t.take m), .int ((t.length / m : Nat) : Int)]) (eu_callK0 (ea_cons (ev_var rfl) ea_nil) fun H2 e2 Q q E => ⟨t, rfl, hT, hne, fun m' hm' => by rw [hm'.uniq hm]; exact q⟩) fun pr H14 hpr e14 h14 => ?_
    show tSeq _ _ _ [some (T t), some (.ref pf), some (.ref pt), some (.ref pp), some (.int (m : Int)), some (.ref pr)] H14
    have hlen : ∀ {σ : L2.St} {H1 : Hp}, σ[0]? = some (some (T t)) → Ev (tCB rLenT (tCons (tVar 0) tNil)) σ H1 (.int (t.length : Int)) := fun h0 => ev_cb (ea_cons (ev_var h0) ea_nil) (rc_lenT (by omega))
    refine q_when (b := false) (et_is (et_or (a := false) (b := false) (et_is (et_not (et_B (ev_cb (ea_cons (ev_var rfl) (ea_cons ev_c ea_nil)) (rc_isi (b := true) (fun H1 e => .base (.tup (e _ _ h14))) k_tuple_tuple)))) rfl) fun _ => et_is (et_or (a := false) (b := false) (et_is (et_test (ev_op (ev_lenU (ev_var rfl) (st_of h14)) ev_c rv_I0)) rfl) fun _ => et_is (et_or (a := false) (b := false) (et_is (et_test (ev_op (ev_op (ev_var rfl) ev_c (Evl.rv_ixT (st_of h14) (atI_nat (j := 0) rfl))) (ev_slT (hi := some (m : Int)) (ev_var rfl) eo_none (eo_some (ev_var rfl)) (by omega)) rv_neT)) ?_) fun _ => et_is (et_not (et_B (ev_call (ea_cons (ev_op (ev_var rfl) ev_c (Evl.rv_ixT (st_of h14) (atI_nat (j := 1) rfl))) (ea_cons (ev_op (hlen rfl) (ev_var rfl) (rv_I (divW (by omega) (by omega)))) ea_nil)) fun H15 e15 Q q E => ⟨_, _, rfl, q⟩))) ?_) rfl) rfl) rfl) (fun z => by cases z) (fun _ H15 e15 => ?_)
    · rw [cutT_to, decide_eq_true rfl]
      rfl
    · rw [decide_eq_true (Int.natCast_ediv _ _)]
      rfl
    · refine s_ret (ev_is (w := .bl true) (ev_call (z := .bl (decide (decide (m = t.length) = decide ((m : Int) = (t.length : Int))))) (ea_cons (ev_call (z := .bl (decide (m = t.length))) (ea_cons (ev_var rfl) ea_nil) fun H16 e16 Q q E => ⟨t, rfl, hT, hne, fun m' hm' => by rw [hm'.uniq hm]; exact q⟩) (ea_cons (ev_op (ev_var rfl) (hlen rfl) rv_I0) ea_nil)) fun H16 e16 Q q E => ⟨_, _, rfl, q⟩) ?_) (RetV.mono k ((eG.trans e14).trans e15))
      congr 1
      exact decide_eq_true (decide_eq_decide.mpr (by omega))
end
end K01
set_option Elab.async false
set_option linter.all false
set_option maxRecDepth 100000
set_option maxHeartbeats 2000000
namespace K01
open PySem PySem.Spec PyProof.Rows L2 Evl Wc Wt
theorem Wd.mono {m n : Nat} {ws : List Tx} (h : Wd m ws) (hm : m ≤ n) : Wd n ws := fun t ht => ⟨Nat.le_trans (h t ht).1 hm, (h t ht).2⟩
theorem Wd.sub {m : Nat} {ws vs : List Tx} (h : Wd m ws) (hs : ∀ t ∈ vs, t ∈ ws) : Wd m vs := fun t ht => h t (hs t ht)
theorem Wd.app {m : Nat} {ws vs : List Tx} (h : Wd m ws) (h2 : Wd m vs) : Wd m (ws ++ vs) := fun t ht => by
  rcases List.mem_append.mp ht with z | z
  · exact h t z
  · exact h2 t z
section
variable {K : PySem.W.Frag}
def sp_split : Sp := fun vs H Q _ => ∃ (fa : Addr) (s : Tx) (turns : Nat), vs = [.ref fa, T s, .int (turns : Int)] ∧ GF fa turns H ∧ turns ≤ 100 ∧ s ≠ [] ∧ s.length ≤ 4 ∧ (∀ c ∈ s, abcd c) ∧
  ∀ q ws H', ws ≠ [] → ws.length ≤ 13 → Wd 12 ws → H q = none → Rf fa turns H H' → H' q = some (.lst (ws.map T)) → Q (.ref q) H'
def sp_joined : Sp := fun vs H Q _ => ∃ (fa p : Addr) (ws : List Tx) (turns : Nat), vs = [.ref fa, .ref p, .int (turns : Int)] ∧ H p = some (.lst (ws.map T)) ∧ p ≠ fa ∧ GF fa (3 * turns) H ∧ turns ≤ 10 ∧ ws ≠ [] ∧ ws.length ≤ 13 ∧ Wd 12 ws ∧
  ∀ q ws' H', ws' ≠ [] → ws'.length ≤ 30 → Wd 100000 ws' → q ≠ fa → Rf fa (3 * turns) H H' → H' q = some (.lst (ws'.map T)) → Q (.ref q) H'
def sp_made (K : PySem.W.Frag) : Sp := fun vs H Q _ => ∃ (fa c p : Addr) (cs ws : List Tx), vs = [.ref fa, .ref c, .ref p] ∧ GF fa 0 H ∧ H c = some (.lst (cs.map T)) ∧ SqL K H p (ws.map T) ∧ c ≠ fa ∧ p ≠ fa ∧ cs.length ≤ 100 ∧ Wd 10 cs ∧ ws ≠ [] ∧ ws.length ≤ 100 ∧ Wd 1000 ws ∧
  ∀ q vs' H', vs'.length ≤ 100 → Wd 100000 vs' → H q = none → Rf fa 0 H H' → H' q = some (.lst (vs'.map T)) → Q (.ref q) H'
end
section
variable {P : Program} {w : World} {K : PySem.W.Frag} {mg : Str → Option Value} {base : Heap}
theorem ok__law_split {f : Addr} {fd : FuncData} (F : Fun K "_law_split" "_law_split" st__law_split f fd) (M : Md K mg) (C__law_draw : Cal P w K mg base "_law_draw" st__law_draw 1 ["feed", "many"] sp_draw) : FnOk P w K mg base CX0 2 f fd ["feed", "signs", "turns"] sp_split := by
  have nd := sc__law_split.nd
  refine F.ok sc__law_split (fun vs H Q E h => ?_) (fun cdv A outer s H vs Q E hr h => ?_)
  · obtain ⟨_, _, _, rfl, _⟩ := h
    rfl
  · obtain ⟨fa, sg, turns, rfl, G, ht, hs0, hs4, hsc, k⟩ := h
    refine ⟨_, (pss_cons (ps_set (i := 3) nd rfl (Or.inr rfl) (pe_lst (pa_cons (pe_sT []) pa_nil)))
  (pss_cons (ps_for PassesOwn.never rfl (pi_range1 (by rfl) M.n_range (pa_cons (pv 2) pa_nil)) (pg_name (i := 4) nd rfl (Or.inl rfl))
  (pss_cons (ps_set (i := 5) nd rfl (Or.inr rfl) (pe_cl C__law_draw hr (pa_cons (pv 0) (pa_cons (pe_callB (kcr K (r := rLenS) call_len_seq) (by rfl) M.n_len boot_len (pa_cons (pv 3) pa_nil)) pa_nil))))
  (pss_one (ps_if (PW.pt (pw_and (pt_cmpR op_lt (pe_op op_add (pe_callB (kcr K (r := rLenS) call_len_seq) (by rfl) M.n_len boot_len (pa_cons (pv 3) pa_nil)) (pe_callB cr_lenT (by rfl) M.n_len boot_len (pa_cons (pv 1) pa_nil))) pe_int (nomark _)) (pw_and1 (pt_cmpR op_lt (pe_callB cr_lenT (by rfl) M.n_len boot_len (pa_cons (pe_ix (kix K (r := L2.rIxL) ix_list) (pv 3) (pv 5) (fun _ _ => rfl)) pa_nil)) pe_int (nomark _)))))
  (pss_one (ps_set (i := 3) nd rfl (Or.inr rfl) (pe_op op_cat (pe_op op_cat (pe_slice (ksl K (r := rSlL) sl_list) (pv 3) po_none (po_some (pv 5))) (pe_slice (ksl K (r := rSlL) sl_list) (pv 3) (po_some (pe_op op_add (pv 5) pe_int)) po_none)) (pe_lc (own := [("sign", 6)]) rfl nd (pi_str (pv 1)) (blkOk_by (N := N__law_split) (sc := defScope st__law_split) (by decide +kernel)) (fun _ _ _ _ _ => (pg_name (i := 6) nd rfl (Or.inl rfl))) (fun _ _ _ _ _ => pts_nil) (fun _ _ _ _ _ => (pe_op op_addT (pe_ix (kix K (r := L2.rIxL) ix_list) (pv 3) (pv 5) (fun _ _ => rfl)) (pv 6)))))))
  pss_nil))))
  (pss_one (ps_ret (pv 3))))), ?_⟩
    refine q_asgL (xs := [T []]) (el_lst (ea_cons ev_c ea_nil) (by show 1 ≤ 100000; decide)) fun p0 H1 hp0 e1 h1 => ?_
    have n0 : p0 ≠ fa := G.new hp0
    show tSeq _ _ _ [some (.ref fa), some (T sg), some (.int (turns : Int)), some (.ref p0), none, none, none] H1
    refine q_forW (fun c => c = fa) (src_range1 (n := turns) (ea_cons (ev_var rfl) ea_nil) (by omega)) ?_
      (fun Hs i σ' H' => ∃ (p : Addr) (ws : List Tx) (v4 v5 : Option V), σ' = [some (.ref fa), some (T sg), some (.int (turns : Int)), some (.ref p), v4, v5, none] ∧ Exc (fun c => c = fa) Hs H' ∧ Rf fa i H H' ∧ H p = none ∧ H' p = some (.lst (ws.map T)) ∧ ws ≠ [] ∧ ws.length ≤ 13 ∧ Wd 12 ws) ?_ ?_ ?_ ?_ ?_
    · rintro c rfl
      exact ⟨(G.ex e1).is, fun z => z⟩
    · intro Hs e
      exact ⟨p0, [[]], none, none, rfl, Exc.refl _, Rf.of_ex (e1.trans e), hp0, e _ _ h1, by simp, by simp, fun t ht => by simp at ht; subst ht; exact ⟨Nat.zero_le _, fun c hc => nomatch hc⟩⟩
    · rintro Hs i σ' H' ⟨_, _, _, _, _, h, _⟩
      exact h
    · rintro Hs i σ' Ha Hb ⟨p, ws, v4, v5, h0, h2, h3, h4, h5, h6⟩ e
      exact ⟨p, ws, v4, v5, h0, h2.then e, h3.then e, h4, e _ _ h5, h6⟩
    · rintro Hs i x σ' H' e hi ⟨p, ws, v4, v5, rfl, h2, h3, h4, h5, h6, h7, h8⟩ rfl
      have hpos : 0 < ws.length := List.length_pos_iff.mpr h6
      have np : p ≠ fa := G.new h4
      have hlen : ∀ {σ : L2.St} {H' : Hp}, σ[3]? = some (some (.ref p)) → H' p = some (.lst (ws.map T)) → Ev (tCB (rLenS K) (tCons (tVar 3) tNil)) σ H' (.int (ws.length : Int)) := fun h0 hh => ev_is (ev_len (ev_var h0) (sq_of hh)) (by rw [List.length_map])
      show tSeq _ _ _ [some (.ref fa), some (T sg), some (.int (turns : Int)), some (.ref p), some (.int (i : Int)), v5, none] H'
      refine wp_draw (many := (ws.length : Int)) rfl (hlen rfl h5) (G.go h3 (m' := 1) (by omega)) (by omega) (by omega) fun d H3 hd R3 => ?_
      have hd' : d < ws.length := by omega
      have h53 := R3.at_ h5 np
      have h33 : Rf fa (i + 1) H H3 := h3.trans R3
      have hex : Exc (fun c => c = fa) Hs H3 := h2.trans R3.keep
      have hw := h8 ws[d] (List.getElem_mem hd')
      have hix : ∀ {σ : L2.St} {H' : Hp}, σ[3]? = some (some (.ref p)) → σ[5]? = some (some (.int (d : Int))) → H' p = some (.lst (ws.map T)) → Ev (tOp (L2.rIxL K) (tVar 3) (tVar 5)) σ H' (T ws[d]) := fun h0 h1 hh => ev_op (ev_var h0) (ev_var h1) (rv_ixL (sq_of hh) (atI_nat (by rw [List.getElem?_map, List.getElem?_eq_getElem hd']; rfl)))
      refine s_when (σ := [some (.ref fa), some (T sg), some (.int (turns : Int)), some (.ref p), some (.int (i : Int)), some (.int (d : Int)), none]) (et_and (et_test (ev_op (ev_op (hlen rfl h53) (ev_cb (ea_cons (ev_var rfl) ea_nil) (rc_lenT (by omega))) rv_I0) ev_c rv_I0)) fun _ => et_test (ev_op (ev_cb (ea_cons (hix rfl rfl h53) ea_nil) (rc_lenT (by omega))) ev_c rv_I0)) (fun hb H4 e4 => ?_) (fun hb H4 e4 => ?_)
      · rw [Bool.and_eq_true, decide_eq_true_eq, decide_eq_true_eq] at hb
        have h54 := e4 _ _ h53
        have hcat : EvL (tOp rCat (tOp rCat (tSl (rSlL K) (tVar 3) tNoPart (tPart (tVar 5))) (tSl (rSlL K) (tVar 3) (tPart (tOp (rI0 fun i j => .int (i + j)) (tVar 5) (tC (.int 1)))) tNoPart)) (tLc (iStr (tVar 1)) (gName 6) tYes (tOp rAddT (tOp (L2.rIxL K) (tVar 3) (tVar 5)) (tVar 6)) [6])) [some (.ref fa), some (T sg), some (.int (turns : Int)), some (.ref p), some (.int (i : Int)), some (.int (d : Int)), none] H4 ((ws.take d ++ ws.drop (d + 1) ++ sg.map fun c => ws[d] ++ [c]).map T) := by
          have l1 : EvL (tSl (rSlL K) (tVar 3) tNoPart (tPart (tVar 5))) [some (.ref fa), some (T sg), some (.int (turns : Int)), some (.ref p), some (.int (i : Int)), some (.int (d : Int)), none] H4 ((ws.take d).map T) := by
            have := el_sl (K := K) (σ := [some (.ref fa), some (T sg), some (.int (turns : Int)), some (.ref p), some (.int (i : Int)), some (.int (d : Int)), none]) (H := H4) (te := tVar 3) (ev_var rfl) eo_none (eo_some (te := tVar 5) (i := (d : Int)) (ev_var rfl)) (sq_of h54)
            rw [cutV_to, ← List.map_take] at this
            exact this
          have l2 : EvL (tSl (rSlL K) (tVar 3) (tPart (tOp (rI0 fun i j => .int (i + j)) (tVar 5) (tC (.int 1)))) tNoPart) [some (.ref fa), some (T sg), some (.int (turns : Int)), some (.ref p), some (.int (i : Int)), some (.int (d : Int)), none] H4 ((ws.drop (d + 1)).map T) := by
            have := el_sl (K := K) (σ := [some (.ref fa), some (T sg), some (.int (turns : Int)), some (.ref p), some (.int (i : Int)), some (.int (d : Int)), none]) (H := H4) (te := tVar 3) (ev_var rfl) (eo_some (te := tOp (rI0 fun i j => .int (i + j)) (tVar 5) (tC (.int 1))) (i := ((d + 1 : Nat) : Int)) (ev_op (ev_var rfl) ev_c rv_I0)) eo_none (sq_of h54)
            rw [cutV_from, ← List.map_drop] at this
            exact this
          have l3 : EvL (tLc (iStr (tVar 1)) (gName 6) tYes (tOp rAddT (tOp (L2.rIxL K) (tVar 3) (tVar 5)) (tVar 6)) [6]) [some (.ref fa), some (T sg), some (.int (turns : Int)), some (.ref p), some (.int (i : Int)), some (.int (d : Int)), none] H4 (sg.map fun c => T (ws[d] ++ [c])) := el_lcM (j := 6) (vs := [6]) (f := fun c => T [c]) sg (src_str (ev_var rfl)) (by omega) (fun _ => rfl) fun c H5 e5 hc => ev_op (hix rfl rfl (e5 _ _ h54)) (ev_var rfl) (rv_addT (by show _ + 1 ≤ _; omega))
          have := el_catNN (el_catNN l1 l2 (by simp; omega)) l3 (by simp; omega)
          rw [List.map_append, List.map_append, List.map_map]
          exact this
        refine s_asgL hcat fun q H5 hq e5 h5' => ?_
        refine ⟨q, _, _, _, rfl, hex.then (e4.trans e5), (h33.then e4).then e5, ?_, h5', ?_, ?_, ?_⟩
        · exact (h33.then e4).free G.is hq ((G.go (h33.then e4) (m' := 0) (by omega)).is)
        · intro z
          have := congrArg List.length z
          simp at this
          exact hs0 this.2.2
        · simp
          omega
        · refine Wd.app (Wd.app (h8.sub fun t ht => List.mem_of_mem_take ht) (h8.sub fun t ht => List.mem_of_mem_drop ht)) fun t ht => ?_
          obtain ⟨c, hc, rfl⟩ := List.mem_map.mp ht
          refine ⟨by rw [List.length_append]; show _ + 1 ≤ 12; omega, fun c' hc' => ?_⟩
          rcases List.mem_append.mp hc' with z | z
          · exact hw.2 c' z
          · rw [List.mem_singleton.mp z]
            exact hsc c hc
      · exact ⟨p, ws, _, _, rfl, hex.then e4, h33.then e4, h4, e4 _ _ h53, h6, h7, h8⟩
    · rintro Hs σ' H' e ⟨p, ws, v4, v5, rfl, h2, h3, h4, h5, h6, h7, h8⟩
      exact s_ret (ev_var rfl) fun H3 e3 => k p ws H3 h6 h7 h8 h4 (h3.then e3) (e3 _ _ h5)
theorem ok__law_joined {f : Addr} {fd : FuncData} (F : Fun K "_law_joined" "_law_joined" st__law_joined f fd) (M : Md K mg) (C__law_draw : Cal P w K mg base "_law_draw" st__law_draw 1 ["feed", "many"] sp_draw) (C__law_one : Cal P w K mg base "_law_one" st__law_one 2 ["feed", "things"] (sp_one K)) : FnOk P w K mg base CX0 3 f fd ["feed", "words", "turns"] sp_joined := by
  have nd := sc__law_joined.nd
  refine F.ok sc__law_joined (fun vs H Q E h => ?_) (fun cdv A outer s H vs Q E hr h => ?_)
  · obtain ⟨_, _, _, _, rfl, _⟩ := h
    rfl
  · obtain ⟨fa, p0, ws0, turns, rfl, hp0, np0, G, ht, hne0, hl0, hw0, k⟩ := h
    refine ⟨_, (pss_cons (ps_for PassesOwn.never rfl (pi_range1 (by rfl) M.n_range (pa_cons (pv 2) pa_nil)) (pg_name (i := 3) nd rfl (Or.inl rfl))
  (pss_cons (ps_asg (pe_tup (pa_cons (pe_cl C__law_one hr (pa_cons (pv 0) (pa_cons (pv 1) pa_nil))) (pa_cons (pe_cl C__law_one hr (pa_cons (pv 0) (pa_cons (pv 1) pa_nil))) pa_nil))) (kgt K (n := 2) (pg_tup rfl (pgs_cons (pg_name (i := 4) nd rfl (Or.inr rfl)) (pgs_cons (pg_name (i := 5) nd rfl (Or.inl rfl)) pgs_nil)))))
  (pss_cons (ps_set (i := 6) nd rfl (Or.inl rfl) (pe_cl C__law_draw hr (pa_cons (pv 0) (pa_cons pe_int pa_nil))))
  (pss_one (ps_if (pt_cmpR op_eqI (pv 6) pe_int (nomark _))
  (pss_one (ps_set (i := 1) nd rfl (Or.inl rfl) (pe_op op_cat (pv 1) (pe_lst (pa_cons (pe_op op_addT (pv 4) (pv 5)) pa_nil)))))
  (pss_one (ps_if (pt_cmpR op_eqI (pv 6) pe_int (nomark _))
  (pss_one (ps_set (i := 1) nd rfl (Or.inl rfl) (pe_op op_cat (pe_lc (own := [("word", 7)]) rfl nd (kil K (pi_list (pv 1))) (blkOk_by (N := N__law_joined) (sc := defScope st__law_joined) (by decide +kernel)) (fun _ _ _ _ _ => (pg_name (i := 7) nd rfl (Or.inl rfl))) (fun _ _ _ _ _ => (pts_one (pt_cmpR op_neT (pv 7) (pv 4) (nomark _)))) (fun _ _ _ _ _ => (pv 7))) (pe_lst (pa_cons (pe_op op_addT (pv 4) (pv 5)) pa_nil)))))
  (pss_one (ps_if (pt_cmpR op_lt (pe_callB (kcr K (r := rLenS) call_len_seq) (by rfl) M.n_len boot_len (pa_cons (pv 1) pa_nil)) pe_int (nomark _))
  (pss_one (ps_set (i := 1) nd rfl (Or.inl rfl) (pe_op op_cat (pe_lc (own := [("word", 7)]) rfl nd (kil K (pi_list (pv 1))) (blkOk_by (N := N__law_joined) (sc := defScope st__law_joined) (by decide +kernel)) (fun _ _ _ _ _ => (pg_name (i := 7) nd rfl (Or.inl rfl))) (fun _ _ _ _ _ => (pts_one (pt_cmpR op_neT (pv 7) (pv 4) (nomark _)))) (fun _ _ _ _ _ => (pv 7))) (pe_lc (own := [("word", 7)]) rfl nd (kil K (pi_list (pv 1))) (blkOk_by (N := N__law_joined) (sc := defScope st__law_joined) (by decide +kernel)) (fun _ _ _ _ _ => (pg_name (i := 7) nd rfl (Or.inl rfl))) (fun _ _ _ _ _ => pts_nil) (fun _ _ _ _ _ => (pe_op op_addT (pv 4) (pv 7)))))))
  pss_nil)))))))))
  (pss_one (ps_ret (pv 1)))), ?_⟩
    refine q_forW (fun c => c = fa) (src_range1 (n := turns) (ea_cons (ev_var rfl) ea_nil) (by omega)) ?_
      (fun Hs i σ' H' => ∃ (p : Addr) (ws : List Tx) (v3 v4 v5 v6 : Option V), σ' = [some (.ref fa), some (.ref p), some (.int (turns : Int)), v3, v4, v5, v6, none] ∧ Exc (fun c => c = fa) Hs H' ∧ Rf fa (3 * i) H H' ∧ p ≠ fa ∧ H' p = some (.lst (ws.map T)) ∧ ws ≠ [] ∧ ws.length ≤ 13 + i ∧ Wd (12 * 2 ^ i) ws) ?_ ?_ ?_ ?_ ?_
    · rintro c rfl
      exact ⟨G.is, fun z => z⟩
    · intro Hs e
      exact ⟨p0, ws0, none, none, none, none, rfl, Exc.refl _, Rf.of_ex e, np0, e _ _ hp0, hne0, hl0, hw0⟩
    · rintro Hs i σ' H' ⟨_, _, _, _, _, _, _, h, _⟩
      exact h
    · rintro Hs i σ' Ha Hb ⟨p, ws, v3, v4, v5, v6, h0, h2, h3, h4, h5, h6⟩ e
      exact ⟨p, ws, v3, v4, v5, v6, h0, h2.then e, h3.then e, h4, e _ _ h5, h6⟩
    · rintro Hs i x σ' H' e hi ⟨p, ws, v3, v4, v5, v6, rfl, h2, h3, np, h5, h6, h7, h8⟩ rfl
      have hpw : (2 : Nat) ^ i ≤ 1024 := Nat.le_trans (Nat.pow_le_pow_right (by decide) (show i ≤ 10 by omega)) (by decide)
      have hpe : (2 : Nat) ^ (i + 1) = 2 ^ i * 2 := Nat.pow_succ ..
      have hpp : 1 ≤ (2 : Nat) ^ i := Nat.pow_pos (by decide)
      have hxs : ws.map T ≠ [] := fun z => h6 (List.map_eq_nil_iff.mp z)
      have G1 : GF fa 3 H' := G.go h3 (by omega)
      show tSeq _ _ _ [some (.ref fa), some (.ref p), some (.int (turns : Int)), some (.int (i : Int)), v4, v5, v6, none] H'
      refine wp_oneS (xs := ws.map T) rfl (ev_var rfl) (.inl (sq_of h5)) np G1 hxs (by rw [List.length_map]; omega) fun x1 Ha hx1 Ra => wp_oneS (xs := ws.map T) rfl (ev_var rfl) (.inl (sq_of (Ra.at_ h5 np))) np (G1.go Ra (m' := 2) (by omega)) hxs (by rw [List.length_map]; omega) fun x2 Hb hx2 Rb => ⟨by show 2 ≤ sizeLine; decide, fun pt hpt => ⟨pt, _, rfl, st_of upd_same, rfl, x1, [x2], rfl, x2, [], rfl, rfl, ?_⟩⟩
      obtain ⟨a, ha, rfl⟩ := List.mem_map.mp hx1
      obtain ⟨b, hb, rfl⟩ := List.mem_map.mp hx2
      have R2 : Rf fa 2 H' (upd Hb pt (.tup [T a, T b])) := (Ra.trans Rb).then (Ex.new hpt)
      generalize upd Hb pt (.tup [T a, T b]) = H2 at R2 ⊢
      have h52 := R2.at_ h5 np
      show tSeq _ _ _ [some (.ref fa), some (.ref p), some (.int (turns : Int)), some (.int (i : Int)), some (T a), some (T b), v6, none] H2
      refine wp_draw (many := 3) rfl ev_c (G1.go R2 (m' := 1) (by omega)) (by decide) (by decide) fun d H3 hd R3 => ?_
      have h53 := R3.at_ h52 np
      have RR : Rf fa (3 * (i + 1)) H H3 := ((h3.trans R2).trans R3).mono (by omega)
      have XX : Exc (fun c => c = fa) Hs H3 := (h2.trans R2.keep).trans R3.keep
      clear R2 R3 Ra Rb hpt
      have wa := h8 a ha
      have wb := h8 b hb
      have hup : Wd (12 * 2 ^ (i + 1)) ws := h8.mono (by omega)
      have hab : Wd (12 * 2 ^ (i + 1)) [a ++ b] := fun t ht => by
        rw [List.mem_singleton.mp ht]
        exact ⟨by rw [List.length_append]; omega, fun c hc => by
          rcases List.mem_append.mp hc with z | z
          · exact wa.2 c z
          · exact wb.2 c z⟩
      have ab : ∀ {H' : Hp}, EvL (tLst (tCons (tOp rAddT (tVar 4) (tVar 5)) tNil)) [some (.ref fa), some (.ref p), some (.int (turns : Int)), some (.int (i : Int)), some (T a), some (T b), some (.int (d : Int)), none] H' ([a ++ b].map T) := el_lst (ea_cons (ev_op (ev_var rfl) (ev_var rfl) (rv_addT (by omega))) ea_nil) (by show 1 ≤ 100000; decide)
      have but : ∀ {H' : Hp}, H' p = some (.lst (ws.map T)) → EvL (tLc (iList K (tVar 1)) (gName 7) (tTest (tOp rNeT (tVar 7) (tVar 4))) (tVar 7) [7]) [some (.ref fa), some (.ref p), some (.int (turns : Int)), some (.int (i : Int)), some (T a), some (T b), some (.int (d : Int)), none] H' ((ws.filter fun t => !decide (t = a)).map T) := fun hh => el_lcF (j := 7) (vs := [7]) (f := T) (g := T) ws (src_listM (ev_var rfl) (sq_of hh)) (by omega) (fun _ => rfl) (fun t H1 e1 _ => et_test (ev_op (ev_var rfl) (ev_var rfl) rv_neT)) (fun t H1 e1 _ _ => ev_var rfl)
      have hfl := List.length_filter_le (fun t : Tx => !decide (t = a)) ws
      -- a new list of words
      have put : ∀ (vs : List Tx) q H5, Ex H3 H5 → H3 q = none → H5 q = some (.lst (vs.map T)) → vs ≠ [] → vs.length ≤ 13 + (i + 1) → Wd (12 * 2 ^ (i + 1)) vs → ∃ (p' : Addr) (ws' : List Tx) (v3 v4 v5 v6 : Option V), [some (V.ref fa), some (.ref q), some (.int (turns : Int)), some (.int (i : Int)), some (T a), some (T b), some (.int (d : Int)), none] = [some (.ref fa), some (.ref p'), some (.int (turns : Int)), v3, v4, v5, v6, none] ∧ Exc (fun c => c = fa) Hs H5 ∧ Rf fa (3 * (i + 1)) H H5 ∧ p' ≠ fa ∧ H5 p' = some (.lst (ws'.map T)) ∧ ws' ≠ [] ∧ ws'.length ≤ 13 + (i + 1) ∧ Wd (12 * 2 ^ (i + 1)) ws' := fun vs q H5 e5 hq h5' y1 y2 y3 => ⟨q, vs, _, _, _, _, rfl, XX.then e5, RR.then e5, (G.go RR (m' := 0) (by omega)).new hq, h5', y1, y2, y3⟩
      refine s_if (σ := [some (.ref fa), some (.ref p), some (.int (turns : Int)), some (.int (i : Int)), some (T a), some (T b), some (.int (d : Int)), none]) (et_test (ev_op (ev_var rfl) ev_c rv_I0)) (fun hb1 H4 e4 => ?_) (fun hb1 H4 e4 => ?_)
      · have hc := el_catVN (ta := tVar 1) (ev_var (σ := [some (.ref fa), some (.ref p), some (.int (turns : Int)), some (.int (i : Int)), some (T a), some (T b), some (.int (d : Int)), none]) rfl) (e4 _ _ h53) ab (by simp; omega)
        rw [← List.map_append] at hc
        exact s_asgL hc fun q H5 hq e5 h5' => put (ws ++ [a ++ b]) q H5 (e4.trans e5) (fresh_back e4 hq) h5' (by simp) (by simp; omega) (hup.app hab)
      · refine s_if (et_test (ev_op (ev_var rfl) ev_c rv_I0)) (fun hb2 H5 e5 => ?_) (fun hb2 H5 e5 => ?_)
        · have hc := el_catNN (but (e5 _ _ (e4 _ _ h53))) ab (by simp; omega)
          rw [← List.map_append] at hc
          exact s_asgL hc fun q H6 hq e6 h6' => put (ws.filter (fun t => !decide (t = a)) ++ [a ++ b]) q H6 ((e4.trans e5).trans e6) (fresh_back (e4.trans e5) hq) h6' (by simp) (by simp; omega) ((hup.sub fun t ht => (List.mem_filter.mp ht).1).app hab)
        · have h55 := e5 _ _ (e4 _ _ h53)
          refine s_when (et_test (ev_op (ev_len (ev_var rfl) (sq_of h55)) ev_c rv_I0)) (fun hb3 H6 e6 => ?_) (fun hb3 H6 e6 => ?_)
          · have h56 := e6 _ _ h55
            rw [decide_eq_true_eq, List.length_map] at hb3
            have l2 : EvL (tLc (iList K (tVar 1)) (gName 7) tYes (tOp rAddT (tVar 4) (tVar 7)) [7]) [some (.ref fa), some (.ref p), some (.int (turns : Int)), some (.int (i : Int)), some (T a), some (T b), some (.int (d : Int)), none] H6 (ws.map fun t => T (a ++ t)) := el_lcM (j := 7) (vs := [7]) (f := T) ws (src_listM (ev_var rfl) (sq_of h56)) (by omega) (fun _ => rfl) fun t H1 e1 ht => ev_op (ev_var rfl) (ev_var rfl) (rv_addT (by have := (h8 t ht).1; omega))
            have hc := el_catNN (but h56) l2 (by simp; omega)
            have em : ws.map (fun t => T (a ++ t)) = (ws.map fun t => a ++ t).map T := by rw [List.map_map]; rfl
            rw [em, ← List.map_append] at hc
            refine s_asgL hc fun q H7 hq e7 h7' => put _ q H7 (((e4.trans e5).trans e6).trans e7) (fresh_back ((e4.trans e5).trans e6) hq) h7' (fun z => ?_) (by simp; omega) ((hup.sub fun t ht => (List.mem_filter.mp ht).1).app fun t ht => ?_)
            · have := (List.append_eq_nil_iff.mp z).2
              exact h6 (List.map_eq_nil_iff.mp this)
            · obtain ⟨y, hy, rfl⟩ := List.mem_map.mp ht
              have wy := h8 y hy
              exact ⟨by rw [List.length_append]; omega, fun c hc => by
                rcases List.mem_append.mp hc with z | z
                · exact wa.2 c z
                · exact wy.2 c z⟩
          · have h56 := e6 _ _ h55
            exact ⟨p, ws, _, _, _, _, rfl, XX.then ((e4.trans e5).trans e6), RR.then ((e4.trans e5).trans e6), np, h56, h6, by omega, hup⟩
    · rintro Hs σ' H' e ⟨p, ws, v3, v4, v5, v6, rfl, h2, h3, np, h5, h6, h7, h8⟩
      have hpw : (2 : Nat) ^ turns ≤ 1024 := Nat.le_trans (Nat.pow_le_pow_right (by decide) ht) (by decide)
      exact s_ret (ev_var rfl) fun H3 e3 => k p ws H3 h6 (by omega) (h8.mono (by omega)) np (h3.then e3) (e3 _ _ h5)
theorem flat_mem {ts : List Tx} {c : Nat} (h : c ∈ ts.flatten) : ∃ t ∈ ts, c ∈ t := List.mem_flatten.mp h
theorem ok__law_made {f : Addr} {fd : FuncData} (F : Fun K "_law_made" "_law_made" st__law_made f fd) (M : Md K mg) : FnOk P w K mg base CX0 1 f fd ["feed", "code", "words"] (sp_made K) := by
  have nd := sc__law_made.nd
  refine F.ok sc__law_made (fun vs H Q E h => ?_) (fun cdv A outer s H vs Q E hr h => ?_)
  · obtain ⟨_, _, _, _, _, rfl, _⟩ := h
    rfl
  · obtain ⟨fa, pc, pw, cs, ws, rfl, G, hc, hp, nc, np, hcl, hcw, hne, hwl, hww, k⟩ := h
    refine ⟨_, (pss_cons (ps_set (i := 3) nd rfl (Or.inl rfl) (pe_lst pa_nil))
  (pss_cons (ps_for PassesOwn.never rfl (kil K (pi_list (pv 1))) (pg_name (i := 4) nd rfl (Or.inl rfl))
  (pss_one (ps_expr (kbm K (pe_bm PySem.F.plainAttrs_list PySem.F.slot_list_append PySem.F.type_list_append mt_append (pv 3) (pa_cons (kbm K (pe_bm PySem.F.plainAttrs_str PySem.F.slot_str_join PySem.F.type_str_join (kmt K (r := rJoinT) mt_joinT) (pe_sT []) (pa_cons (pe_lc (own := [("sign", 5)]) rfl nd (pi_str (pv 4)) (blkOk_by (N := N__law_made) (sc := defScope st__law_made) (by decide +kernel)) (fun _ _ _ _ _ => (pg_name (i := 5) nd rfl (Or.inl rfl))) (fun _ _ _ _ _ => pts_nil) (fun _ _ _ _ _ => (pe_ix (kix K (r := L2.rIxL) ix_list) (pv 2) (pe_op op_modP (pe_callTy call_int1 (by rfl) M.n_int boot_int (pa_cons (kbm K (pe_bm PySem.F.plainAttrs_str PySem.F.slot_str_find PySem.F.type_str_find mt_findT (pe_sT [97, 98, 99, 100]) (pa_cons (pv 5) pa_nil))) pa_nil)) (pe_callB (kcr K (r := rLenS) call_len_seq) (by rfl) M.n_len boot_len (pa_cons (pv 2) pa_nil))) (fun _ _ => rfl)))) pa_nil))) pa_nil))))))
  (pss_one (ps_ret (pv 3))))), ?_⟩
    have hpos : 0 < ws.length := List.length_pos_iff.mpr hne
    refine q_asgL (xs := []) (el_lst ea_nil (by decide)) fun pm H1 hpm e1 h1 => ?_
    have nm : pm ≠ fa := G.new hpm
    show tSeq _ _ _ [some (.ref fa), some (.ref pc), some (.ref pw), some (.ref pm), none, none] H1
    have nmc : pm ≠ pc := fun z => by rw [z, hc] at hpm; cases hpm
    refine q_forW (fun c => c = fa ∨ c = pm) (own := fun b => b = pc) (n := cs.length) (P := fun i v _ => (cs.map T)[i]? = some v) (src_listM (ev_var rfl) (sq_of (e1 _ _ hc))) ?_
      (fun Hs i σ' H' => ∃ (vs : List Tx) (v4 v5 : Option V), σ' = [some (.ref fa), some (.ref pc), some (.ref pw), some (.ref pm), v4, none] ∧ Exc (fun c => c = fa ∨ c = pm) Hs H' ∧ Rf fa 0 H H' ∧ H' pm = some (.lst (vs.map T)) ∧ vs.length = i ∧ Wd 100000 vs) ?_ ?_ ?_ ?_ ?_
    · rintro c (rfl | rfl)
      · exact ⟨(G.ex e1).is, fun z => nc z.symm⟩
      · exact ⟨by rw [h1]; exact fun z => (nomatch z), nmc⟩
    · intro Hs e
      exact ⟨[], none, none, rfl, Exc.refl _, Rf.of_ex (e1.trans e), e _ _ h1, rfl, fun t ht => nomatch ht⟩
    · rintro Hs i σ' H' ⟨_, _, _, _, h, _⟩
      exact h
    · rintro Hs i σ' Ha Hb ⟨vs, v4, v5, h0, h2, h3, h4, h5⟩ e
      exact ⟨vs, v4, v5, h0, h2.then e, h3.then e, e _ _ h4, h5⟩
    · rintro Hs i x σ' H' e hi ⟨vs, v4, v5, rfl, h2, h3, h4, h5, h6⟩ hx
      obtain ⟨cd, hcd, rfl⟩ := at_map hx
      have hm := hcw cd (List.mem_of_getElem? hcd)
      have G1 : GF fa 0 H' := G.go h3 (by omega)
      have hpw : SqL K H' pw (ws.map T) := h3.l np hp
      show tDrop _ _ [some (.ref fa), some (.ref pc), some (.ref pw), some (.ref pm), some (T cd), none] H'
      refine ⟨.ref pm, rfl, .inl ⟨rfl, vs.map T, sq_of h4⟩, rfl, ?_⟩
      refine lcD (fa := fa) (own := fun _ => False) (n := cd.length) (P := fun i v _ => (cd.map fun c => T [c])[i]? = some v) (fun v => ∃ t, v = T t ∧ (t.length ≤ 1000 ∧ ∀ c ∈ t, abcd c)) 0 G1.is (src_str (ev_var rfl)) (fun z => z) (by omega) (fun _ => rfl) (fun j y H2 hj hy R2 Q2 q2 => ?_) fun p H2 acc hp2 R2 h2' hal hg => ?_
      · obtain ⟨c, hc', rfl⟩ := at_map hy
        have hpw2 := R2.l np hpw
        refine ⟨.ref pw, rfl, rfl, T [c], rfl, _, _, rfl, rfl, fun r hr => .inl ⟨r, rfl, ?_⟩⟩
        refine (ev_len (ev_var rfl) hpw2 : Ev (tCB (rLenS K) (tCons (tVar 2) tNil)) _ H2 _) H2 (Ex.refl _) _ fun H3 e3 => ?_
        rw [List.length_map]
        have h0 : 0 ≤ r % (ws.length : Int) := Int.emod_nonneg _ (by omega)
        have h1 : r % (ws.length : Int) < (ws.length : Int) := Int.emod_lt_of_pos _ (by omega)
        obtain ⟨m, hm'⟩ := Int.eq_ofNat_of_zero_le h0
        have hml : m < ws.length := by omega
        refine ⟨r, _, rfl, rfl, by show (0 : Int) < _; omega, pw, _, _, T ws[m], rfl, rfl, ex_l e3 hpw2, ?_, q2 _ H3 ⟨_, rfl, hww _ (List.getElem_mem hml)⟩ (Rf.of_ex e3)⟩
        rw [hm']
        exact atI_nat (by rw [List.getElem?_map, List.getElem?_eq_getElem hml]; rfl)
      · obtain ⟨ts, rfl, hts⟩ := texts_of hg
        rw [List.length_map] at hal
        have hsum := sum_le (m := 1000) fun t ht => (hts t ht).1
        have hfl : ts.flatten.length ≤ 10000 := by rw [flat_len]; omega
        have h42 := R2.at_ h4 nm
        refine ⟨[], p, ts, rfl, rfl, .inl (sq_of h2'), by simp; omega, ?_⟩
        rw [joinL_nil]
        refine ⟨pm, vs.map T, T ts.flatten, rfl, rfl, h42, sz_lt (by rw [List.length_map]; omega), ?_⟩
        refine ⟨vs ++ [ts.flatten], _, none, rfl, ?_, ((h3.trans R2).upd hpm G.is).mono (by omega), by rw [upd_same, List.map_append]; rfl, by simp [h5], h6.app fun t ht => ?_⟩
        · exact (h2.trans (fun b o nb hb => R2.keep b o (fun z => nb (.inl z)) hb)).upd (.inl (.inr rfl))
        · rw [List.mem_singleton.mp ht]
          refine ⟨by omega, fun c hc' => ?_⟩
          obtain ⟨t, ht, hct⟩ := flat_mem hc'
          exact (hts t ht).2 c hct
    · rintro Hs σ' H' e ⟨vs, v4, v5, rfl, h2, h3, h4, h5, h6⟩
      exact s_ret (ev_var rfl) fun H3 e3 => k pm vs H3 (by omega) h6 hpm (h3.then e3) (e3 _ _ h4)
end
end K01
set_option Elab.async false
set_option linter.all false
set_option maxRecDepth 100000
set_option maxHeartbeats 2000000
namespace K01
open PySem PySem.Spec PyProof.Rows L2 Evl Wc Wt
/-- a displayed list of texts that is good -/
def goodT (v : V) : Bool := match v with
  | .str x => decide (x.cps.toList.length ≤ 5) && x.cps.toList.all fun c => decide (97 ≤ c) && decide (c ≤ 100)
  | _ => false
def goodL (xs : List V) : Bool := decide (1 ≤ xs.length) && decide (xs.length ≤ 6) && xs.all goodT
theorem goodL_is {xs : List V} (h : goodL xs = true) : ∃ ts : List Tx, xs = ts.map T ∧ ts ≠ [] ∧ ts.length ≤ 6 ∧ Wd 5 ts := by
  unfold goodL at h
  rw [Bool.and_eq_true, Bool.and_eq_true, decide_eq_true_eq, decide_eq_true_eq, List.all_eq_true] at h
  obtain ⟨⟨h1, h2⟩, h3⟩ := h
  obtain ⟨ts, rfl, ht⟩ := texts_of (acc := xs) (g := fun t => t.length ≤ 5 ∧ ∀ c ∈ t, abcd c) fun v hv => by
    have hg := h3 v hv
    cases v with
    | str x =>
      have hg' : (decide (x.cps.toList.length ≤ 5) && x.cps.toList.all fun c => decide (97 ≤ c) && decide (c ≤ 100)) = true := hg
      rw [Bool.and_eq_true, decide_eq_true_eq, List.all_eq_true] at hg'
      refine ⟨x.cps.toList, rfl, hg'.1, fun c hc => ?_⟩
      have := hg'.2 c hc
      rw [Bool.and_eq_true, decide_eq_true_eq, decide_eq_true_eq] at this
      exact this
    | _ => exact absurd hg (by simp [goodT])
  rw [List.length_map] at h1 h2
  exact ⟨ts, rfl, fun z => by rw [z] at h1; simp at h1, h2, ht⟩
/-- references to new lists of texts -/
def ListsAt (xs : List V) (H0 H : Hp) : Prop := ∀ v ∈ xs, ∃ (q : Addr) (ts : List Tx), v = .ref q ∧ H q = some (.lst (ts.map T)) ∧ (ts ≠ [] ∧ ts.length ≤ 6 ∧ Wd 5 ts) ∧ H0 q = none
def LA (ta : TA) (σ : L2.St) (n : Nat) : Prop := ∀ H (Q : List V → Hp → Prop), (∀ xs H1, Ex H H1 → xs.length = n → ListsAt xs H H1 → Q xs H1) → ta σ H Q
theorem la_nil {σ : L2.St} : LA tNil σ 0 := fun H Q q => q [] H (Ex.refl _) rfl fun v hv => nomatch hv
theorem la_cons {σ : L2.St} {te : TE} {tr : TA} {xs : List V} {n : Nat} (h : ∀ H, EvL te σ H xs) (hg : goodL xs = true) (hr : LA tr σ n) : LA (tCons te tr) σ (n + 1) := fun H Q q =>
  h H H (Ex.refl _) _ fun p H1 hp e1 h1 => hr H1 _ fun vs H2 e2 hl hA => q _ H2 (e1.trans e2) (by rw [List.length_cons, hl]) fun v hv => by
    rcases List.mem_cons.mp hv with rfl | hv
    · obtain ⟨ts, rfl, hts⟩ := goodL_is hg
      exact ⟨p, ts, rfl, e2 _ _ h1, hts, hp⟩
    · obtain ⟨r, ts, rfl, h3, h4, h5⟩ := hA v hv
      exact ⟨r, ts, rfl, h3, h4, fresh_back e1 h5⟩
theorem LA.lst {σ : L2.St} {ta : TA} {n : Nat} (h : LA ta σ n) (hn : n ≤ 1000) {H : Hp} (Q : VK) (k : ∀ p xs H1, Ex H H1 → xs.length = n → H p = none → H1 p = some (.lst xs) → ListsAt xs H H1 → Q (.ref p) H1) : tLst ta σ H Q :=
  h H _ fun xs H1 e1 hl A => ⟨by rw [hl]; exact sz_of (by omega), fun p hp => k p xs _ (e1.trans (Ex.new hp)) hl (fresh_back e1 hp) upd_same fun v hv => by
    obtain ⟨r, ts, rfl, h3, h4, h5⟩ := A v hv
    exact ⟨r, ts, rfl, Ex.new hp _ _ h3, h4, h5⟩⟩
theorem LA.cat {σ : L2.St} {ta : TA} {n j : Nat} {p : Addr} {xs : List V} (h : LA ta σ n) (hn : n ≤ 1000) (hx : xs.length ≤ 1000) {H : Hp} (h0 : σ[j]? = some (some (.ref p))) (hp : H p = some (.lst xs)) (Q : VK) (k : ∀ q ys H1, Ex H H1 → ys.length = n → H q = none → H1 q = some (.lst (xs ++ ys)) → ListsAt ys H H1 → Q (.ref q) H1) : tOp rCat (tVar j) (tLst ta) σ H Q :=
  ⟨.ref p, h0, h.lst hn _ fun r ys H1 e1 hl hr h1 A => ⟨p, r, xs, ys, rfl, rfl, e1 _ _ hp, h1, by rw [hl]; exact sz_of (by omega), fun q hq => k q ys _ (e1.trans (Ex.new hq)) hl (fresh_back e1 hq) upd_same fun v hv => by
    obtain ⟨r, ts, rfl, h3, h4, h5⟩ := A v hv
    exact ⟨r, ts, rfl, Ex.new hq _ _ h3, h4, h5⟩⟩⟩
theorem ListsAt.go {xs : List V} {H0 H H1 : Hp} (A : ListsAt xs H0 H) (e : Ex H H1) : ListsAt xs H0 H1 := fun v hv => by
  obtain ⟨r, ts, rfl, h3, h4, h5⟩ := A v hv
  exact ⟨r, ts, rfl, e _ _ h3, h4, h5⟩
theorem ListsAt.back {xs : List V} {H0 H1 H : Hp} (A : ListsAt xs H1 H) (e : Ex H0 H1) : ListsAt xs H0 H := fun v hv => by
  obtain ⟨r, ts, rfl, h3, h4, h5⟩ := A v hv
  exact ⟨r, ts, rfl, h3, h4, fresh_back e h5⟩
theorem ListsAt.app {xs ys : List V} {H0 H : Hp} (A : ListsAt xs H0 H) (B : ListsAt ys H0 H) : ListsAt (xs ++ ys) H0 H := fun v hv => (List.mem_append.mp hv).elim (A v) (B v)
theorem q_LA {σ : L2.St} {ta : TA} {n i : Nat} {tz : TS} {D : Ends} {H : Hp} (h : LA ta σ n) (hn : n ≤ 1000) (k : ∀ p xs H1, Ex H H1 → xs.length = n → H p = none → H1 p = some (.lst xs) → ListsAt xs H H1 → tz D (σ.set i (some (.ref p))) H1) : tSeq (tAsg (tLst ta) (gName i)) tz D σ H := h.lst hn (fun v H1 => tz D (σ.set i (some v)) H1) k
theorem q_catLA {σ : L2.St} {ta : TA} {n i j : Nat} {tz : TS} {D : Ends} {H : Hp} {p : Addr} {xs : List V} (h : LA ta σ n) (hn : n ≤ 1000) (hx : xs.length ≤ 1000) (h0 : σ[j]? = some (some (.ref p))) (hp : H p = some (.lst xs)) (k : ∀ q ys H1, Ex H H1 → ys.length = n → H q = none → H1 q = some (.lst (xs ++ ys)) → ListsAt ys H H1 → tz D (σ.set i (some (.ref q))) H1) : tSeq (tAsg (tOp rCat (tVar j) (tLst ta)) (gName i)) tz D σ H := h.cat hn hx h0 hp (fun v H1 => tz D (σ.set i (some v)) H1) k
theorem s_oneLA {K : PySem.W.Frag} {σ : L2.St} {ta : TA} {n i j : Nat} {D : Ends} {H : Hp} {p fa : Addr} {xs : List V} (h : LA ta σ n) (hn : n ≤ 1000) (hx : xs.length ≤ 1000) (hx0 : xs ≠ []) (hf : σ[i]? = some (some (.ref fa))) (h0 : σ[j]? = some (some (.ref p))) (hp : H p = some (.lst xs)) (G : GF fa 1 H) (k : ∀ v ys H1 H2, Ex H H1 → ListsAt ys H H1 → v ∈ xs ++ ys → Rf fa 1 H1 H2 → D.rt v H2) :
    tRet (tCall (sp_one K) [] E0 (tCons (tVar i) (tCons (tOp rCat (tVar j) (tLst ta)) tNil))) D σ H :=
  ⟨.ref fa, hf, h.cat hn hx h0 hp _ fun q ys H1 e1 hl hq h1 A => ⟨fa, G.ex e1, .inr ⟨q, xs ++ ys, rfl, .inl (sq_of h1), G.new hq, fun z => hx0 (List.append_eq_nil_iff.mp z).1, by rw [List.length_append, hl]; omega, fun v H2 hv R => k v ys H1 H2 e1 A hv R⟩⟩⟩
section
variable {P : Program} {w : World} {K : PySem.W.Frag} {mg : Str → Option Value} {base : Heap}
def sp_code : Sp := fun vs H Q _ => ∃ (fa : Addr), vs = [.ref fa] ∧ GF fa 1 H ∧ ∀ q ts H', ts ≠ [] → ts.length ≤ 6 → Wd 5 ts → H q = none → Rf fa 1 H H' → H' q = some (.lst (ts.map T)) → Q (.ref q) H'
theorem ok__law_code {f : Addr} {fd : FuncData} (F : Fun K "_law_code" "_law_code" st__law_code f fd) (M : Md K mg) (C__law_one : Cal P w K mg base "_law_one" st__law_one 2 ["feed", "things"] (sp_one K)) : FnOk P w K mg base CX0 3 f fd ["feed"] sp_code := by
  have nd := sc__law_code.nd
  refine F.ok sc__law_code (fun vs H Q E h => ?_) (fun cdv A outer s H vs Q E hr h => ?_)
  · obtain ⟨_, rfl, _⟩ := h
    rfl
  · obtain ⟨fa, rfl, G, k⟩ := h
    refine ⟨_, (pss_cons (ps_set (i := 1) nd rfl (Or.inl rfl) (pe_lst (pa_cons (pe_lst (pa_cons (pe_sT [97]) (pa_cons (pe_sT [97, 98]) (pa_cons (pe_sT [98, 98]) pa_nil)))) (pa_cons (pe_lst (pa_cons (pe_sT [97]) (pa_cons (pe_sT [97, 98]) (pa_cons (pe_sT [98, 97]) pa_nil)))) (pa_cons (pe_lst (pa_cons (pe_sT [97, 97]) (pa_cons (pe_sT [97, 98]) (pa_cons (pe_sT [98]) pa_nil)))) (pa_cons (pe_lst (pa_cons (pe_sT [97]) (pa_cons (pe_sT [98, 97]) (pa_cons (pe_sT [98, 98]) pa_nil)))) (pa_cons (pe_lst (pa_cons (pe_sT [97]) (pa_cons (pe_sT [97, 98, 97]) (pa_cons (pe_sT [98, 98]) pa_nil)))) (pa_cons (pe_lst (pa_cons (pe_sT [97, 98]) (pa_cons (pe_sT [97, 98, 98]) (pa_cons (pe_sT [98, 97, 97]) pa_nil)))) (pa_cons (pe_lst (pa_cons (pe_sT [97, 97]) (pa_cons (pe_sT [98, 97]) (pa_cons (pe_sT [98, 98]) (pa_cons (pe_sT [98, 97, 97]) (pa_cons (pe_sT [98, 98, 97]) pa_nil)))))) pa_nil)))))))))
  (pss_cons (ps_set (i := 1) nd rfl (Or.inl rfl) (pe_op op_cat (pv 1) (pe_lst (pa_cons (pe_lst (pa_cons (pe_sT [97, 98]) (pa_cons (pe_sT [98, 97]) (pa_cons (pe_sT [97, 97, 98]) (pa_cons (pe_sT [98, 98, 97]) (pa_cons (pe_sT [97, 98, 98, 97]) pa_nil)))))) (pa_cons (pe_lst (pa_cons (pe_sT [97]) (pa_cons (pe_sT [97, 97]) pa_nil))) (pa_cons (pe_lst (pa_cons (pe_sT [97, 97]) (pa_cons (pe_sT [97, 97, 97]) pa_nil))) (pa_cons (pe_lst (pa_cons (pe_sT [97, 98, 99]) (pa_cons (pe_sT [98, 99, 97]) (pa_cons (pe_sT [99]) (pa_cons (pe_sT [97, 98]) pa_nil))))) (pa_cons (pe_lst (pa_cons (pe_sT [97]) (pa_cons (pe_sT [99]) (pa_cons (pe_sT [97, 100]) (pa_cons (pe_sT [97, 98, 98]) (pa_cons (pe_sT [98, 97, 100]) (pa_cons (pe_sT [100, 98, 98]) pa_nil))))))) (pa_cons (pe_lst (pa_cons (pe_sT [98]) (pa_cons (pe_sT [97, 98, 98]) (pa_cons (pe_sT [97, 98, 98, 97]) (pa_cons (pe_sT [98, 98, 97]) pa_nil))))) pa_nil)))))))))
  (pss_one (ps_ret (pe_cl C__law_one hr (pa_cons (pv 0) (pa_cons (pe_op op_cat (pv 1) (pe_lst (pa_cons (pe_lst (pa_cons (pe_sT [97, 98]) (pa_cons (pe_sT [97, 97, 98]) (pa_cons (pe_sT [97, 97, 98, 98]) (pa_cons (pe_sT [98, 98, 97, 97]) (pa_cons (pe_sT [97, 98, 97, 98]) pa_nil)))))) (pa_cons (pe_lst (pa_cons (pe_sT [97]) (pa_cons (pe_sT [98]) (pa_cons (pe_sT [99]) (pa_cons (pe_sT [100]) pa_nil))))) (pa_cons (pe_lst (pa_cons (pe_sT [97]) (pa_cons (pe_sT [98]) (pa_cons (pe_sT [97, 98]) pa_nil)))) (pa_cons (pe_lst (pa_cons (pe_sT [97, 98, 97, 98]) (pa_cons (pe_sT [97, 98]) (pa_cons (pe_sT [98, 97]) pa_nil)))) (pa_cons (pe_lst (pa_cons (pe_sT [97, 97, 98]) (pa_cons (pe_sT [97, 98]) (pa_cons (pe_sT [97, 98, 97, 97, 98]) pa_nil)))) pa_nil))))))) pa_nil))))))), ?_⟩
    have l1 : LA _ (start N__law_code [.ref fa]) 7 := (la_cons (fun _ => el_lst (ea_cons (ev_c (v := T [97])) (ea_cons (ev_c (v := T [97, 98])) (ea_cons (ev_c (v := T [98, 98])) ea_nil))) (by show 3 ≤ 100000; decide)) (by rfl) (la_cons (fun _ => el_lst (ea_cons (ev_c (v := T [97])) (ea_cons (ev_c (v := T [97, 98])) (ea_cons (ev_c (v := T [98, 97])) ea_nil))) (by show 3 ≤ 100000; decide)) (by rfl) (la_cons (fun _ => el_lst (ea_cons (ev_c (v := T [97, 97])) (ea_cons (ev_c (v := T [97, 98])) (ea_cons (ev_c (v := T [98])) ea_nil))) (by show 3 ≤ 100000; decide)) (by rfl) (la_cons (fun _ => el_lst (ea_cons (ev_c (v := T [97])) (ea_cons (ev_c (v := T [98, 97])) (ea_cons (ev_c (v := T [98, 98])) ea_nil))) (by show 3 ≤ 100000; decide)) (by rfl) (la_cons (fun _ => el_lst (ea_cons (ev_c (v := T [97])) (ea_cons (ev_c (v := T [97, 98, 97])) (ea_cons (ev_c (v := T [98, 98])) ea_nil))) (by show 3 ≤ 100000; decide)) (by rfl) (la_cons (fun _ => el_lst (ea_cons (ev_c (v := T [97, 98])) (ea_cons (ev_c (v := T [97, 98, 98])) (ea_cons (ev_c (v := T [98, 97, 97])) ea_nil))) (by show 3 ≤ 100000; decide)) (by rfl) (la_cons (fun _ => el_lst (ea_cons (ev_c (v := T [97, 97])) (ea_cons (ev_c (v := T [98, 97])) (ea_cons (ev_c (v := T [98, 98])) (ea_cons (ev_c (v := T [98, 97, 97])) (ea_cons (ev_c (v := T [98, 98, 97])) ea_nil))))) (by show 5 ≤ 100000; decide)) (by rfl) la_nil)))))))
    refine q_LA l1 (by decide) fun p1 xs H1 e1 n1 hp1 h1 A1 => ?_
    show tSeq _ _ _ [some (.ref fa), some (.ref p1)] H1
    have l2 : LA _ [some (.ref fa), some (.ref p1)] 6 := (la_cons (fun _ => el_lst (ea_cons (ev_c (v := T [97, 98])) (ea_cons (ev_c (v := T [98, 97])) (ea_cons (ev_c (v := T [97, 97, 98])) (ea_cons (ev_c (v := T [98, 98, 97])) (ea_cons (ev_c (v := T [97, 98, 98, 97])) ea_nil))))) (by show 5 ≤ 100000; decide)) (by rfl) (la_cons (fun _ => el_lst (ea_cons (ev_c (v := T [97])) (ea_cons (ev_c (v := T [97, 97])) ea_nil)) (by show 2 ≤ 100000; decide)) (by rfl) (la_cons (fun _ => el_lst (ea_cons (ev_c (v := T [97, 97])) (ea_cons (ev_c (v := T [97, 97, 97])) ea_nil)) (by show 2 ≤ 100000; decide)) (by rfl) (la_cons (fun _ => el_lst (ea_cons (ev_c (v := T [97, 98, 99])) (ea_cons (ev_c (v := T [98, 99, 97])) (ea_cons (ev_c (v := T [99])) (ea_cons (ev_c (v := T [97, 98])) ea_nil)))) (by show 4 ≤ 100000; decide)) (by rfl) (la_cons (fun _ => el_lst (ea_cons (ev_c (v := T [97])) (ea_cons (ev_c (v := T [99])) (ea_cons (ev_c (v := T [97, 100])) (ea_cons (ev_c (v := T [97, 98, 98])) (ea_cons (ev_c (v := T [98, 97, 100])) (ea_cons (ev_c (v := T [100, 98, 98])) ea_nil)))))) (by show 6 ≤ 100000; decide)) (by rfl) (la_cons (fun _ => el_lst (ea_cons (ev_c (v := T [98])) (ea_cons (ev_c (v := T [97, 98, 98])) (ea_cons (ev_c (v := T [97, 98, 98, 97])) (ea_cons (ev_c (v := T [98, 98, 97])) ea_nil)))) (by show 4 ≤ 100000; decide)) (by rfl) la_nil))))))
    refine q_catLA l2 (by decide) (by rw [n1]; decide) rfl h1 fun p3 ys H2 e2 n2 hp3 h3 A2 => ?_
    show tRet _ _ [some (.ref fa), some (.ref p3)] H2
    have l3 : LA _ [some (.ref fa), some (.ref p3)] 5 := (la_cons (fun _ => el_lst (ea_cons (ev_c (v := T [97, 98])) (ea_cons (ev_c (v := T [97, 97, 98])) (ea_cons (ev_c (v := T [97, 97, 98, 98])) (ea_cons (ev_c (v := T [98, 98, 97, 97])) (ea_cons (ev_c (v := T [97, 98, 97, 98])) ea_nil))))) (by show 5 ≤ 100000; decide)) (by rfl) (la_cons (fun _ => el_lst (ea_cons (ev_c (v := T [97])) (ea_cons (ev_c (v := T [98])) (ea_cons (ev_c (v := T [99])) (ea_cons (ev_c (v := T [100])) ea_nil)))) (by show 4 ≤ 100000; decide)) (by rfl) (la_cons (fun _ => el_lst (ea_cons (ev_c (v := T [97])) (ea_cons (ev_c (v := T [98])) (ea_cons (ev_c (v := T [97, 98])) ea_nil))) (by show 3 ≤ 100000; decide)) (by rfl) (la_cons (fun _ => el_lst (ea_cons (ev_c (v := T [97, 98, 97, 98])) (ea_cons (ev_c (v := T [97, 98])) (ea_cons (ev_c (v := T [98, 97])) ea_nil))) (by show 3 ≤ 100000; decide)) (by rfl) (la_cons (fun _ => el_lst (ea_cons (ev_c (v := T [97, 97, 98])) (ea_cons (ev_c (v := T [97, 98])) (ea_cons (ev_c (v := T [97, 98, 97, 97, 98])) ea_nil))) (by show 3 ≤ 100000; decide)) (by rfl) la_nil)))))
    have e12 := e1.trans e2
    refine s_oneLA l3 (by decide) (by rw [List.length_append, n1, n2]; decide) (fun z => by have := congrArg List.length z; rw [List.length_append, n1, n2] at this; cases this) rfl rfl h3 (G.ex e12) fun v zs H3 H4 e3 A3 hv R => ?_
    have AA := (((A1.go e2).app (A2.back e1)).go e3).app (A3.back e12)
    obtain ⟨q, ts, rfl, h4, ⟨h5, h6, h7⟩, h8⟩ := AA v hv
    exact k q ts H4 h5 h6 h7 h8 (.pre (e12.trans e3) R) (R.at_ h4 (G.new h8))
end
end K01
set_option Elab.async false
set_option linter.all false
set_option maxRecDepth 100000
set_option maxHeartbeats 4000000
namespace K01
open PySem PySem.Spec PyProof.Rows L2 Evl Wc Wt
section
variable {K : PySem.W.Frag} {fa : Addr} {m : Nat} {H : Hp} {σ : L2.St}
def sp_lot : Sp := fun vs H Q _ => ∃ (fa : Addr) (most : Nat), vs = [.ref fa, .int (most : Int)] ∧ 1 ≤ most ∧ most ≤ 12 ∧ GF fa 20000 H ∧ ∀ q lot H', IsLot lot → lot.length ≤ most → H q = none → Rf fa 20000 H H' → H' q = some (.tup (lot.map T)) → Q (.ref q) H'
/-- words are made -/
def WL (fa : Addr) (σ : L2.St) (H : Hp) (m : Nat) (te : TE) : Prop := ∀ Q' : VK, (∀ p ws H1, Wd 100000 ws → ws.length ≤ 1000 → p ≠ fa → Rf fa m H H1 → H1 p = some (.lst (ws.map T)) → Q' (.ref p) H1) → te σ H Q'
theorem s_kept {D : Ends} {tw : TE} {most : Nat} (hW : WL fa σ H m tw) (h0 : σ[0]? = some (some (.ref fa))) (h1 : σ[1]? = some (some (.int (most : Int)))) (hm1 : 1 ≤ most) (hm2 : most ≤ 12) (G : GF fa (m + 1000) H)
    (k : ∀ q lot H2, IsLot lot → lot.length ≤ most → H q = none → Rf fa (m + 1000) H H2 → H2 q = some (.tup (lot.map T)) → D.rt (.ref q) H2) : tRet (tCall (sp_kept K) [] E0 (tCons (tVar 0) (tCons tw (tCons (tVar 1) tNil)))) D σ H :=
  ⟨.ref fa, h0, hW _ fun p ws H1 hw hl hp R h1' => ⟨.int (most : Int), h1, fa, p, ws, most, rfl, sq_of h1', hp, hl, hw, hm1, hm2, G.go R (Nat.le_refl _), fun q lot H2 hL hlen hq R2 h2 => k q lot H2 hL hlen (R.free G.is hq (G.go R (m' := 0) (by omega)).is) (R.trans R2) h2⟩⟩
theorem wl_texts {acc : List V} {lo n : Nat} (h : ∀ v ∈ acc, GdT abcd lo n v) (hn : n ≤ 100000) : ∃ ws : List Tx, acc = ws.map T ∧ Wd 100000 ws ∧ ∀ t ∈ ws, lo ≤ t.length ∧ t.length ≤ n := by
  obtain ⟨ws, rfl, hw⟩ := texts_GdT h
  exact ⟨ws, rfl, fun t ht => ⟨by have := (hw t ht).2.1; omega, (hw t ht).2.2⟩, fun t ht => ⟨(hw t ht).1, (hw t ht).2.1⟩⟩
/-- words by a comprehension over a range -/
theorem wl_range {te0 te : TE} {j : Nat} {vs : List Nat} {lo N c m0 lo' n : Nat} (hc : Dw fa σ m0 te0 (GdI (lo : Int) (N : Int))) (hN : N ≤ 1000) (G : GF fa (m0 + N * c) H) (hw : ∀ x, wipe ((wipe σ vs).set j (some x)) vs = wipe σ vs)
    (he : ∀ x k H1, Rf fa k H H1 → GF fa c H1 → ∀ Q' : VK, (∀ y H2, GdT abcd lo' n y → Rf fa c H1 H2 → Q' y H2) → te ((wipe σ vs).set j (some x)) H1 Q') (hn : n ≤ 100000) : WL fa σ H (m0 + N * c) (tLc (iRng1 (tCons te0 tNil)) (gName j) tYes te vs) := fun Q' q' =>
  lcRD (GdT abcd lo' n) hc hN G hw he Q' fun p H2 acc hp R h2 hl1 hl2 hg => by
    obtain ⟨ws, rfl, hws, _⟩ := wl_texts hg hn
    rw [List.length_map] at hl2
    exact q' p ws H2 hws (by omega) (G.new hp) R h2
theorem q_lcRD {D : Ends} {tz : TS} {te te0 : TE} {i j : Nat} {vs : List Nat} {lo N c m0 : Nat} (good : V → Prop) (hc : Dw fa σ m0 te0 (GdI (lo : Int) (N : Int))) (hN : N ≤ 1000) (G : GF fa (m0 + N * c) H) (hw : ∀ x, wipe ((wipe σ vs).set j (some x)) vs = wipe σ vs)
    (he : ∀ x n H1, Rf fa n H H1 → GF fa c H1 → ∀ Q' : VK, (∀ y H2, good y → Rf fa c H1 H2 → Q' y H2) → te ((wipe σ vs).set j (some x)) H1 Q')
    (k : ∀ p H2 acc, H p = none → Rf fa (m0 + N * c) H H2 → H2 p = some (.lst acc) → lo ≤ acc.length → acc.length ≤ N → (∀ v ∈ acc, good v) → tz D (σ.set i (some (.ref p))) H2) : tSeq (tAsg (tLc (iRng1 (tCons te0 tNil)) (gName j) tYes te vs) (gName i)) tz D σ H :=
  lcRD good hc hN G hw he (fun v H1 => tz D (σ.set i (some v)) H1) k
theorem WL.mono {te : TE} {m' : Nat} (h : WL fa σ H m te) (hm : m ≤ m') : WL fa σ H m' te := fun Q' q' => h Q' fun p ws H1 a b c R d => q' p ws H1 a b c (R.mono hm) d
theorem dw_at {te : TE} {c : Nat} {g : V → Prop} (h : Dw fa σ c te g) : ∀ k H1, Rf fa k H H1 → GF fa c H1 → ∀ Q' : VK, (∀ y H2, g y → Rf fa c H1 H2 → Q' y H2) → te σ H1 Q' := fun _ H1 _ G Q' q' => h H1 G Q' q'
end
section
variable {P : Program} {w : World} {K : PySem.W.Frag} {mg : Str → Option Value} {base : Heap}
/-- the scope of the outer comprehension of the last way -/
abbrev sc_place : Scope := { kind := .function, names := [(".0", .local), ("turn", .local), ("range", .globalImplicit), ("feed", .cell), ("long", .cell), ("signs", .cell)], isGenerator := false, isCoroutine := false }
theorem ok__law_lot {f : Addr} {fd : FuncData} (F : Fun K "_law_lot" "_law_lot" st__law_lot f fd) (M : Md K mg) (C__law_draw : Cal P w K mg base "_law_draw" st__law_draw 1 ["feed", "many"] sp_draw) (C__law_one : Cal P w K mg base "_law_one" st__law_one 2 ["feed", "things"] (sp_one K)) (C__law_text : Cal P w K mg base "_law_text" st__law_text 3 ["feed", "signs", "most"] sp_text) (C__law_kept : Cal P w K mg base "_law_kept" st__law_kept 3 ["feed", "words", "most"] (sp_kept K)) (C__law_split : Cal P w K mg base "_law_split" st__law_split 2 ["feed", "signs", "turns"] sp_split) (C__law_joined : Cal P w K mg base "_law_joined" st__law_joined 3 ["feed", "words", "turns"] sp_joined) (C__law_made : Cal P w K mg base "_law_made" st__law_made 1 ["feed", "code", "words"] (sp_made K)) (C__law_code : Cal P w K mg base "_law_code" st__law_code 3 ["feed"] sp_code) : FnOk P w K mg base CX0 4 f fd ["feed", "most"] sp_lot := by
  have nd := sc__law_lot.nd
  refine F.ok sc__law_lot (fun vs H Q E h => ?_) (fun cdv A outer s H vs Q E hr h => ?_)
  · obtain ⟨_, _, rfl, _⟩ := h
    rfl
  · obtain ⟨fa, most, rfl, hm1, hm2, G, k⟩ := h
    refine ⟨_, (pss_cons (ps_asg (pe_tup (pa_cons (pe_slice sl_T (pe_sT [97, 98, 99, 100]) po_none (po_some (pe_cl C__law_one hr (pa_cons (pv 0) (pa_cons (pe_lst (pa_cons pe_int (pa_cons pe_int (pa_cons pe_int (pa_cons pe_int (pa_cons pe_int (pa_cons pe_int pa_nil))))))) pa_nil))))) (pa_cons (pe_cl C__law_draw hr (pa_cons (pv 0) (pa_cons pe_int pa_nil))) pa_nil))) (kgt K (n := 2) (pg_tup rfl (pgs_cons (pg_name (i := 2) nd rfl (Or.inr rfl)) (pgs_cons (pg_name (i := 3) nd rfl (Or.inl rfl)) pgs_nil)))))
  (pss_cons (ps_if (pt_cmpR op_lt (pv 3) pe_int (nomark _))
  (pss_cons (ps_set (i := 4) nd rfl (Or.inr rfl) (pe_cl C__law_one hr (pa_cons (pv 0) (pa_cons (pe_lst (pa_cons pe_int (pa_cons pe_int (pa_cons pe_int (pa_cons pe_int (pa_cons pe_int pa_nil)))))) pa_nil))))
  (pss_one (ps_ret (pe_cl C__law_kept hr (pa_cons (pv 0) (pa_cons (pe_lc (own := [("turn", 5)]) rfl nd (pi_range1 (by rfl) M.n_range (pa_cons (pe_op op_add pe_int (pe_cl C__law_draw hr (pa_cons (pv 0) (pa_cons (pv 1) pa_nil)))) pa_nil)) (blkOk_by (N := N__law_lot) (sc := defScope st__law_lot) (by decide +kernel)) (fun _ _ _ _ _ => (pg_name (i := 5) nd rfl (Or.inl rfl))) (fun _ _ _ _ _ => pts_nil) (fun _ _ _ _ _ => (pe_op op_addT (pe_cl C__law_one hr (pa_cons (pv 0) (pa_cons (pv 2) pa_nil))) (pe_cl C__law_text hr (pa_cons (pv 0) (pa_cons (pv 2) (pa_cons (pe_op op_sub (pv 4) pe_int) pa_nil))))))) (pa_cons (pv 1) pa_nil)))))))
  pss_nil)
  (pss_cons (ps_if (pt_cmpR op_eqI (pv 3) pe_int (nomark _))
  (pss_one (ps_ret (pe_cl C__law_kept hr (pa_cons (pv 0) (pa_cons (pe_lc (own := [("word", 6)]) rfl nd (kil K (pi_list (pe_cl C__law_split hr (pa_cons (pv 0) (pa_cons (pv 2) (pa_cons (pe_cl C__law_draw hr (pa_cons (pv 0) (pa_cons pe_int pa_nil))) pa_nil)))))) (blkOk_by (N := N__law_lot) (sc := defScope st__law_lot) (by decide +kernel)) (fun _ _ _ _ _ => (pg_name (i := 6) nd rfl (Or.inl rfl))) (fun _ _ _ _ _ => (pts_one (pt_cmpR op_gt (pe_cl C__law_draw hr (pa_cons (pv 0) (pa_cons pe_int pa_nil))) pe_int (nomark _)))) (fun _ _ _ _ _ => (pv 6))) (pa_cons (pv 1) pa_nil))))))
  pss_nil)
  (pss_cons (ps_if (pt_cmpR op_eqI (pv 3) pe_int (nomark _))
  (pss_one (ps_ret (pe_cl C__law_kept hr (pa_cons (pv 0) (pa_cons (pe_lc (own := [("word", 6)]) rfl nd (kil K (pi_list (pe_cl C__law_split hr (pa_cons (pv 0) (pa_cons (pv 2) (pa_cons (pe_op op_add pe_int (pe_cl C__law_draw hr (pa_cons (pv 0) (pa_cons pe_int pa_nil)))) pa_nil)))))) (blkOk_by (N := N__law_lot) (sc := defScope st__law_lot) (by decide +kernel)) (fun _ _ _ _ _ => (pg_name (i := 6) nd rfl (Or.inl rfl))) (fun _ _ _ _ _ => pts_nil) (fun _ _ _ _ _ => (pe_revT (pv 6)))) (pa_cons (pv 1) pa_nil))))))
  pss_nil)
  (pss_cons (ps_if (pt_cmpR op_eqI (pv 3) pe_int (nomark _))
  (pss_one (ps_ret (pe_cl C__law_kept hr (pa_cons (pv 0) (pa_cons (pe_cl C__law_joined hr (pa_cons (pv 0) (pa_cons (pe_cl C__law_split hr (pa_cons (pv 0) (pa_cons (pv 2) (pa_cons (pe_op op_add pe_int (pe_cl C__law_draw hr (pa_cons (pv 0) (pa_cons pe_int pa_nil)))) pa_nil)))) (pa_cons (pe_op op_add pe_int (pe_cl C__law_draw hr (pa_cons (pv 0) (pa_cons pe_int pa_nil)))) pa_nil)))) (pa_cons (pv 1) pa_nil))))))
  pss_nil)
  (pss_cons (ps_if (pt_cmpR op_eqI (pv 3) pe_int (nomark _))
  (pss_cons (ps_set (i := 7) nd rfl (Or.inr rfl) (pe_op op_addT (pe_cl C__law_one hr (pa_cons (pv 0) (pa_cons (pv 2) pa_nil))) (pe_cl C__law_text hr (pa_cons (pv 0) (pa_cons (pv 2) (pa_cons (pe_cl C__law_one hr (pa_cons (pv 0) (pa_cons (pe_lst (pa_cons pe_int (pa_cons pe_int (pa_cons pe_int (pa_cons pe_int pa_nil))))) pa_nil))) pa_nil))))))
  (pss_one (ps_ret (pe_cl C__law_kept hr (pa_cons (pv 0) (pa_cons (pe_lc (own := [("turn", 5)]) rfl nd (pi_range1 (by rfl) M.n_range (pa_cons (pe_op op_add pe_int (pe_cl C__law_draw hr (pa_cons (pv 0) (pa_cons pe_int pa_nil)))) pa_nil)) (blkOk_by (N := N__law_lot) (sc := defScope st__law_lot) (by decide +kernel)) (fun _ _ _ _ _ => (pg_name (i := 5) nd rfl (Or.inl rfl))) (fun _ _ _ _ _ => pts_nil) (fun _ _ _ _ _ => (pe_op op_mulT (pv 7) (pe_op op_add pe_int (pe_cl C__law_draw hr (pa_cons (pv 0) (pa_cons (pe_op op_fdivW pe_int (pe_callB cr_lenT (by rfl) M.n_len boot_len (pa_cons (pv 7) pa_nil))) pa_nil))))))) (pa_cons (pv 1) pa_nil)))))))
  pss_nil)
  (pss_cons (ps_if (pt_cmpR op_eqI (pv 3) pe_int (nomark _))
  (pss_cons (ps_set (i := 8) nd rfl (Or.inr rfl) (pe_lc (own := [("turn", 5)]) rfl nd (pi_range1 (by rfl) M.n_range (pa_cons pe_int pa_nil)) (blkOk_by (N := N__law_lot) (sc := defScope st__law_lot) (by decide +kernel)) (fun _ _ _ _ _ => (pg_name (i := 5) nd rfl (Or.inl rfl))) (fun _ _ _ _ _ => pts_nil) (fun _ _ _ _ _ => (pe_cl C__law_text hr (pa_cons (pv 0) (pa_cons (pv 2) (pa_cons pe_int pa_nil)))))))
  (pss_one (ps_ret (pe_cl C__law_kept hr (pa_cons (pv 0) (pa_cons (pe_lc (own := [("turn", 5)]) rfl nd (pi_range1 (by rfl) M.n_range (pa_cons (pe_op op_add pe_int (pe_cl C__law_draw hr (pa_cons (pv 0) (pa_cons (pv 1) pa_nil)))) pa_nil)) (blkOk_by (N := N__law_lot) (sc := defScope st__law_lot) (by decide +kernel)) (fun _ _ _ _ _ => (pg_name (i := 5) nd rfl (Or.inl rfl))) (fun _ _ _ _ _ => pts_nil) (fun _ _ _ _ _ => (pe_op op_addT (pe_op op_addT (pe_cl C__law_one hr (pa_cons (pv 0) (pa_cons (pv 8) pa_nil))) (pe_cl C__law_text hr (pa_cons (pv 0) (pa_cons (pv 2) (pa_cons pe_int pa_nil))))) (pe_cl C__law_one hr (pa_cons (pv 0) (pa_cons (pv 8) pa_nil)))))) (pa_cons (pv 1) pa_nil)))))))
  pss_nil)
  (pss_cons (ps_if (pt_cmpR op_eqI (pv 3) pe_int (nomark _))
  (pss_one (ps_ret (pe_cl C__law_kept hr (pa_cons (pv 0) (pa_cons (pe_cl C__law_code hr (pa_cons (pv 0) pa_nil)) (pa_cons (pv 1) pa_nil))))))
  pss_nil)
  (pss_cons (ps_if (pt_cmpR op_eqI (pv 3) pe_int (nomark _))
  (pss_cons (ps_setLc (i := 9) (own := [("turn", 5)]) rfl nd rfl rfl (sw_true rfl rfl rfl (by decide +kernel)) (pi_range1 (by rfl) M.n_range (pa_cons pe_int pa_nil)) (blkOk_by (N := N__law_lot) (sc := defScope st__law_lot) (by decide +kernel)) (fun _ _ _ _ _ => (pg_name (i := 5) nd rfl (Or.inl rfl))) (fun _ _ _ _ _ => pts_nil) (fun _ _ _ _ _ => (pe_op op_addT (pe_cl C__law_one hr (pa_cons (pv 0) (pa_cons (pe_sT [97, 98, 99, 100]) pa_nil))) (pe_cl C__law_text hr (pa_cons (pv 0) (pa_cons (pv 2) (pa_cons pe_int pa_nil)))))))
  (pss_one (ps_ret (pe_cl C__law_kept hr (pa_cons (pv 0) (pa_cons (pe_cl C__law_made hr (pa_cons (pv 0) (pa_cons (pe_cl C__law_code hr (pa_cons (pv 0) pa_nil)) (pa_cons (pv 9) pa_nil)))) (pa_cons (pv 1) pa_nil)))))))
  pss_nil)
  (pss_cons (ps_if (pt_cmpR op_eqI (pv 3) pe_int (nomark _))
  (pss_one (ps_ret (pe_cl C__law_kept hr (pa_cons (pv 0) (pa_cons (pe_cl C__law_made hr (pa_cons (pv 0) (pa_cons (pe_cl C__law_code hr (pa_cons (pv 0) pa_nil)) (pa_cons (pe_lc (own := [("word", 6)]) rfl nd (kil K (pi_list (pe_cl C__law_code hr (pa_cons (pv 0) pa_nil)))) (blkOk_by (N := N__law_lot) (sc := defScope st__law_lot) (by decide +kernel)) (fun _ _ _ _ _ => (pg_name (i := 6) nd rfl (Or.inl rfl))) (fun _ _ _ _ _ => pts_nil) (fun _ _ _ _ _ => (pv 6))) pa_nil)))) (pa_cons (pv 1) pa_nil))))))
  pss_nil)
  (pss_cons (ps_set (i := 4) nd rfl (Or.inr rfl) (pe_op op_add pe_int (pe_cl C__law_draw hr (pa_cons (pv 0) (pa_cons pe_int pa_nil)))))
  (pss_one (ps_ret (pe_cl C__law_kept hr (pa_cons (pv 0) (pa_cons (pe_lc (own := [("turn", 5)]) rfl nd (pi_range1 (by rfl) M.n_range (pa_cons (pe_op op_add pe_int (pe_cl C__law_draw hr (pa_cons (pv 0) (pa_cons (pv 1) pa_nil)))) pa_nil)) (blkOk_by (N := N__law_lot) (sc := defScope st__law_lot) (by decide +kernel)) (fun _ _ _ _ _ => (pg_name (i := 5) nd rfl (Or.inl rfl))) (fun _ _ _ _ _ => pts_nil) (fun _ _ _ _ _ => (kbm K (pe_bm PySem.F.plainAttrs_str PySem.F.slot_str_join PySem.F.type_str_join (kmt K (r := rJoinT) mt_joinT) (pe_sT []) (pa_cons (pe_lc (own := [("place", 10)]) rfl nd (pi_range1 (by rfl) M.n_range (pa_cons (pv 4) pa_nil)) (blkOk_by (N := N__law_lot) (sc := sc_place) (by decide +kernel)) (fun _ _ _ _ _ => (pg_name (i := 10) nd rfl (Or.inl rfl))) (fun _ _ _ _ _ => pts_nil) (fun _ _ _ _ _ => (pe_cl C__law_one hr (pa_cons (pv 0) (pa_cons (pv 2) pa_nil))))) pa_nil))))) (pa_cons (pv 1) pa_nil))))))))))))))))), ?_⟩
    -- signs, way
    have hsg : Dw fa (start N__law_lot [.ref fa, .int (most : Int)]) 1 (tSl rSlT (tC (T [97, 98, 99, 100])) tNoPart (tPart (tCall (sp_one K) [] E0 (tCons (tVar 0) (tCons (tLst (tCons (tC (.int 1)) (tCons (tC (.int 2)) (tCons (tC (.int 2)) (tCons (tC (.int 2)) (tCons (tC (.int 3)) (tCons (tC (.int 4)) tNil))))))) tNil))))) (GdT abcd 1 4) := fun H G Q q =>
      dI_oneL (ns := [1, 2, 2, 2, 3, 4]) (lo := 1) (hi := 4) rfl (fun H => el_lst (ea_cons ev_c (ea_cons ev_c (ea_cons ev_c (ea_cons ev_c (ea_cons ev_c (ea_cons ev_c ea_nil)))))) (by show 6 ≤ 100000; decide)) (by decide) (by simp) (by decide) H G _ fun v H' ⟨i, hi, h1, h2⟩ R => by
        obtain ⟨n, rfl⟩ := Int.eq_ofNat_of_zero_le (show 0 ≤ i by omega)
        subst hi
        have hn : n = 1 ∨ n = 2 ∨ n = 3 ∨ n = 4 := by omega
        refine ⟨(n : Int), rfl, _, rfl, by show 4 ≤ 16777216; decide, q _ H' ⟨_, rfl, ?_, ?_, ?_⟩ R⟩
        · rw [cutT_to]
          rcases hn with rfl | rfl | rfl | rfl <;> decide
        · rw [cutT_to]
          rcases hn with rfl | rfl | rfl | rfl <;> decide
        · intro c hc
          have := cutT_mem hc
          simp at this
          unfold abcd
          omega
    refine hsg H (G.mono (by omega)) _ fun v1 H1 ⟨sg, hv1, hs1, hs2, hs3⟩ R1 => (dI_draw (lo := 11) (hi := 11) rfl dI_c : Dw fa (start N__law_lot [.ref fa, .int (most : Int)]) _ _ _) H1 (G.go R1 (m' := 1) (by omega)) _ fun v2 H2 ⟨way, hv2, hw1, hw2⟩ R2 => ⟨by show 2 ≤ sizeLine; decide, fun pt hpt => ⟨pt, _, rfl, st_of upd_same, rfl, v1, [v2], rfl, v2, [], rfl, rfl, ?_⟩⟩
    subst hv1 hv2
    have RA : Rf fa 2 H (upd H2 pt (.tup [T sg, .int way])) := (R1.trans R2).then (Ex.new hpt)
    generalize upd H2 pt (.tup [T sg, .int way]) = H3 at RA
    clear R1 R2 hpt hsg
    have hsn : sg ≠ [] := fun z => by rw [z] at hs1; simp at hs1
    show tSeq _ _ _ [some (.ref fa), some (.int (most : Int)), some (T sg), some (.int way), none, none, none, none, none, none, none] H3
    have dsg : ∀ {σ : L2.St}, σ[2]? = some (some (T sg)) → Dw fa σ 0 (tVar 2) (GdT abcd 1 4) := fun h0 => dT_var h0 hs1 hs2 hs3
    have dmo : ∀ {σ : L2.St}, σ[1]? = some (some (.int (most : Int))) → Dw fa σ 0 (tVar 1) (GdI 1 12) := fun h0 => dI_var h0 (by omega) (by omega)
    have fin : ∀ {m0 m : Nat} {HA : Hp}, Rf fa m0 H HA → m0 + (m + 1000) ≤ 20000 → ∀ q lot H2, IsLot lot → lot.length ≤ most → HA q = none → Rf fa (m + 1000) HA H2 → H2 q = some (.tup (lot.map T)) → Q (.ref q) H2 := fun {m0 m HA} RB hb q lot H2 hL hlen hq R2 h2 => k q lot H2 hL hlen (RB.free G.is hq (G.go RB (m' := 0) (by omega)).is) ((RB.trans R2).mono hb) h2
    -- way < 2
    refine q_when (et_test (ev_op (ev_var rfl) ev_c rv_I0)) (fun hb H4 e4 => ?_) (fun hb H4 e4 => ?_)
    · have RB := RA.then e4
      refine q_dw (dI_oneL (ns := [2, 3, 4, 6, 12]) (lo := 2) (hi := 12) rfl (fun H => el_lst (ea_cons ev_c (ea_cons ev_c (ea_cons ev_c (ea_cons ev_c (ea_cons ev_c ea_nil))))) (by show 5 ≤ 100000; decide)) (by decide) (by simp) (by decide)) (G.go RB (m' := 10000) (by omega)) fun v H5 ⟨long, hv, hl1, hl2⟩ R5 => ?_
      subst hv
      have RC := RB.trans R5
      show tRet _ _ [some (.ref fa), some (.int (most : Int)), some (T sg), some (.int way), some (.int long), none, none, none, none, none, none] H5
      refine s_kept (m := 1000) (WL.mono (wl_range (lo := 1) (N := 12) (c := 13) (lo' := 1) (n := 12) (dI_add dI_c (dI_draw rfl (dmo rfl))) (by decide) (G.go RC (by omega)) (fun _ => rfl) (fun x => dw_at (dT_add (dT_one rfl (dsg rfl)) (dT_text (c := 11) rfl (dsg rfl) (dI_wk (dI_sub (dI_var rfl hl1 hl2) dI_c))))) (by decide)) (by decide)) rfl rfl hm1 hm2 (G.go RC (by omega)) (fin RC (by omega))
    have RB : Rf fa 2 H H4 := RA.then e4
    clear RA e4 hb
    -- way == 2
    refine q_when (et_test (ev_op (ev_var rfl) ev_c rv_I0)) (fun hb H5 e5 => ?_) (fun hb H5 e5 => ?_)
    · have RC := RB.then e5
      have GC : GF fa 10000 H5 := G.go RC (by omega)
      refine s_kept (m := 1000) (fun Q' q' => lc_of ?_) rfl rfl hm1 hm2 (G.go RC (by omega)) (fin RC (by omega))
      refine ⟨.ref fa, rfl, T sg, rfl, (dI_draw (lo := 5) (hi := 5) rfl dI_c : Dw fa [some (.ref fa), some (.int (most : Int)), some (T sg), some (.int way), none, none, none, none, none, none, none] _ _ _) H5 (GC.mono (by omega)) _ fun v H6 ⟨tn, hv, ht1, ht2⟩ R6 => ?_⟩
      obtain ⟨tn, rfl⟩ := Int.eq_ofNat_of_zero_le ht1
      subst hv
      refine ⟨fa, sg, tn, rfl, GC.go R6 (by omega), by omega, hsn, hs2, hs3, fun q ws H7 hne hlen hwd hq R7 h7 => ?_⟩
      have R67 : Rf fa 10 H5 H7 := (R6.trans R7).mono (by omega)
      have G7 : GF fa 100 H7 := GC.go R67 (by omega)
      refine lcDT (fa := fa) (n := ws.length) (own := fun b => b = q) (P := fun i v _ => (ws.map T)[i]? = some v) (GdT abcd 0 12) 1 G7.is (src_listM (tl := fun _ H' Q' => Q' (.ref q) H') (fun H2 e2 Q2 q2 => q2 H2 (Ex.refl _)) (sq_of h7)) (fun z => ((GC.go R6 (m' := 0) (by omega)).new hq) z.symm) (by omega) (fun _ => rfl) (fun i x H8 hi hx R8 Q2 q2 => ?_) (fun i x H8 H9 hi hx R9 Q2 q2 => ?_) fun p H8 acc hp R8 h8 hl hg => ?_
      · refine dw_test (m1 := 1) (m2 := 0) (dI_draw (lo := 6) (hi := 6) rfl dI_c) dI_c (G7.go R8 (m' := 1) (by omega)) Q2 (fun b H9 R9 => q2 b H9 R9)
      · obtain ⟨t, ht, rfl⟩ := at_map hx
        have := hwd t (List.mem_of_getElem? ht)
        exact ⟨T t, rfl, q2 _ H9 ⟨t, rfl, Nat.zero_le _, this.1, this.2⟩ (Ex.refl _)⟩
      · obtain ⟨vs, rfl, hvs, _⟩ := wl_texts hg (by decide)
        rw [List.length_map] at hl
        exact q' p vs H8 hvs (by omega) (G7.new hp) ((R67.trans R8).mono (by omega)) h8
    have RC : Rf fa 2 H H5 := RB.then e5
    clear RB e5 hb
    have spl : ∀ {σ : L2.St} {HA : Hp} {te0 : TE} {m0 : Nat}, σ[0]? = some (some (.ref fa)) → σ[2]? = some (some (T sg)) → Dw fa σ m0 te0 (GdI 0 10) → GF fa (m0 + 10) HA → ∀ Q' : VK, (∀ q ws H1, ws ≠ [] → ws.length ≤ 13 → Wd 12 ws → HA q = none → Rf fa (m0 + 10) HA H1 → H1 q = some (.lst (ws.map T)) → Q' (.ref q) H1) → tCall sp_split [] E0 (tCons (tVar 0) (tCons (tVar 2) (tCons te0 tNil))) σ HA Q' := fun {σ HA te0 m0} h0 h2 hd GA Q' q' =>
      ⟨.ref fa, h0, T sg, h2, hd HA (GA.mono (by omega)) _ fun v H6 ⟨tn, hv, ht1, ht2⟩ R6 => by
        obtain ⟨tn, rfl⟩ := Int.eq_ofNat_of_zero_le ht1
        subst hv
        exact ⟨fa, sg, tn, rfl, GA.go R6 (by omega), by omega, hsn, hs2, hs3, fun q ws H7 hne hlen hwd hq R7 h7 => q' q ws H7 hne hlen hwd (R6.free GA.is hq (GA.go R6 (m' := 0) (by omega)).is) ((R6.trans R7).mono (by omega)) h7⟩⟩
    have cod : ∀ {σ : L2.St} {HA : Hp}, σ[0]? = some (some (.ref fa)) → GF fa 1 HA → ∀ Q' : VK, (∀ q ts H', ts ≠ [] → ts.length ≤ 6 → Wd 5 ts → HA q = none → Rf fa 1 HA H' → H' q = some (.lst (ts.map T)) → Q' (.ref q) H') → tCall sp_code [] E0 (tCons (tVar 0) tNil) σ HA Q' := fun h0 GA Q' q' => ⟨.ref fa, h0, fa, rfl, GA, q'⟩
    -- way == 3
    refine q_when (et_test (ev_op (ev_var rfl) ev_c rv_I0)) (fun hb H6 e6 => ?_) (fun hb H6 e6 => ?_)
    · have RD := RC.then e6
      have GD : GF fa 10000 H6 := G.go RD (by omega)
      refine s_kept (m := 1000) (fun Q' q' => lc_of (spl (m0 := 1) rfl rfl (dI_wk (dI_add dI_c (dI_draw (lo := 5) (hi := 5) rfl dI_c))) (GD.mono (by omega)) _ fun q ws H7 hne hlen hwd hq R7 h7 => ?_)) rfl rfl hm1 hm2 (G.go RD (by omega)) (fin RD (by omega))
      have G7 : GF fa 100 H7 := GD.go R7 (by omega)
      refine lcD (fa := fa) (n := ws.length) (own := fun b => b = q) (P := fun i v _ => (ws.map T)[i]? = some v) (GdT abcd 0 12) 0 G7.is (src_listM (tl := fun _ H' Q' => Q' (.ref q) H') (fun H2 e2 Q2 q2 => q2 H2 (Ex.refl _)) (sq_of h7)) (fun z => (GD.new hq) z.symm) (by omega) (fun _ => rfl) (fun i x H8 hi hx R8 Q2 q2 => ?_) fun p H8 acc hp R8 h8 hl hg => ?_
      · obtain ⟨t, ht, rfl⟩ := at_map hx
        have := hwd t (List.mem_of_getElem? ht)
        exact ⟨T t, rfl, t, rfl, by omega, q2 _ H8 ⟨t.reverse, rfl, Nat.zero_le _, by rw [List.length_reverse]; exact this.1, fun c hc => this.2 c (List.mem_reverse.mp hc)⟩ (Rf.refl _)⟩
      · obtain ⟨vs, rfl, hvs, _⟩ := wl_texts hg (by decide)
        rw [List.length_map] at hl
        exact q' p vs H8 hvs (by omega) (G7.new hp) ((R7.trans R8).mono (by omega)) h8
    have RD : Rf fa 2 H H6 := RC.then e6
    clear RC e6 hb
    -- way == 4
    refine q_when (et_test (ev_op (ev_var rfl) ev_c rv_I0)) (fun hb H7 e7 => ?_) (fun hb H7 e7 => ?_)
    · have RE := RD.then e7
      have GE : GF fa 10000 H7 := G.go RE (by omega)
      refine s_kept (m := 1000) (fun Q' q' => ⟨.ref fa, rfl, spl (m0 := 1) rfl rfl (dI_wk (dI_add dI_c (dI_draw (lo := 3) (hi := 3) rfl dI_c))) (GE.mono (by omega)) _ fun q ws H8 hne hlen hwd hq R8 h8 => (dI_add dI_c (dI_draw (lo := 3) (hi := 3) rfl dI_c) : Dw fa [some (.ref fa), some (.int (most : Int)), some (T sg), some (.int way), none, none, none, none, none, none, none] _ _ _) H8 (GE.go R8 (m' := 1) (by omega)) _ fun v H9 ⟨tn, hv, ht1, ht2⟩ R9 => ?_⟩) rfl rfl hm1 hm2 (G.go RE (by omega)) (fin RE (by omega))
      obtain ⟨tn, rfl⟩ := Int.eq_ofNat_of_zero_le (show 0 ≤ tn by omega)
      subst hv
      have nq : q ≠ fa := GE.new hq
      exact ⟨fa, q, ws, tn, rfl, R9.at_ h8 nq, nq, (GE.go R8 (m' := 1000) (by omega)).go R9 (by omega), by omega, hne, hlen, hwd, fun p ws' H10 hne' hl' hw' hp' R10 h10 => q' p ws' H10 hw' (by omega) hp' (((R8.trans R9).trans R10).mono (by omega)) h10⟩
    have RE : Rf fa 2 H H7 := RD.then e7
    clear RD e7 hb
    -- way == 5
    refine q_when (et_test (ev_op (ev_var rfl) ev_c rv_I0)) (fun hb H8 e8 => ?_) (fun hb H8 e8 => ?_)
    · have RF := RE.then e8
      refine q_dw (dT_add (dT_one rfl (dsg rfl)) (dT_text (c := 3) rfl (dsg rfl) (dI_oneL (ns := [0, 0, 1, 3]) (lo := 0) (hi := 3) rfl (fun H => el_lst (ea_cons ev_c (ea_cons ev_c (ea_cons ev_c (ea_cons ev_c ea_nil)))) (by show 4 ≤ 100000; decide)) (by decide) (by simp) (by decide)))) (G.go RF (m' := 10000) (by omega)) fun v H9 ⟨root, hv, hr1, hr2, hr3⟩ R9 => ?_
      subst hv
      have RG : Rf fa 100 H H9 := (RF.trans R9).mono (by omega)
      show tRet _ _ [some (.ref fa), some (.int (most : Int)), some (T sg), some (.int way), none, none, none, some (T root), none, none, none] H9
      have dro : ∀ {σ : L2.St}, σ[7]? = some (some (T root)) → Dw fa σ 0 (tVar 7) (GdT abcd 1 4) := fun h0 => dT_var h0 (by omega) (by omega) hr3
      have dfl : ∀ {σ : L2.St}, σ[7]? = some (some (T root)) → Dw fa σ 0 (tOp (rI CDivW fun i j => .int (i / j)) (tC (.int 12)) (tCB rLenT (tCons (tVar 7) tNil))) (GdI 1 12) := fun h0 H' G' Q' q' => ⟨T root, h0, root, rfl, by omega, 12, (root.length : Int), rfl, rfl, divW (by omega) (by omega), q' _ H' ⟨12 / (root.length : Int), rfl, by
          have h4 : root.length = 1 ∨ root.length = 2 ∨ root.length = 3 ∨ root.length = 4 := by omega
          rcases h4 with h | h | h | h <;> rw [h] <;> decide, by
          have h4 : root.length = 1 ∨ root.length = 2 ∨ root.length = 3 ∨ root.length = 4 := by omega
          rcases h4 with h | h | h | h <;> rw [h] <;> decide⟩ (Rf.refl _)⟩
      refine s_kept (m := 1000) (WL.mono (wl_range (lo := 1) (N := 4) (c := 1) (lo' := 1) (n := 48) (dI_add dI_c (dI_draw (lo := 4) (hi := 4) rfl dI_c)) (by decide) (G.go RG (by omega)) (fun _ => rfl) (fun x => dw_at (dw_mono (dT_wk (dT_mul (c := 1) (d := 12) (dro rfl) (dI_wk (dI_add dI_c (dI_draw rfl (dfl rfl)))))) (by omega))) (by decide)) (by decide)) rfl rfl hm1 hm2 (G.go RG (by omega)) (fin RG (by omega))
    have RF : Rf fa 2 H H8 := RE.then e8
    clear RE e8 hb
    -- way == 6
    refine q_when (et_test (ev_op (ev_var rfl) ev_c rv_I0)) (fun hb H9 e9 => ?_) (fun hb H9 e9 => ?_)
    · have RG := RF.then e9
      have GG : GF fa 10000 H9 := G.go RG (by omega)
      refine q_lcRD (lo := 3) (N := 3) (c := 4) (m0 := 0) (GdT abcd 0 3) (dI_c (x := 3)) (by decide) (GG.mono (by omega)) (fun _ => rfl) (fun x => dw_at (dT_text (c := 3) rfl (dsg rfl) (dI_wk dI_c))) fun pe H10 acc hpe R10 h10 hl1 hl2 hg => ?_
      obtain ⟨ends, rfl, hws, hwl⟩ := wl_texts hg (by decide)
      rw [List.length_map] at hl1 hl2
      have npe : pe ≠ fa := GG.new hpe
      have RH : Rf fa 100 H H10 := (RG.trans R10).mono (by omega)
      show tRet _ _ [some (.ref fa), some (.int (most : Int)), some (T sg), some (.int way), none, none, none, none, some (.ref pe), none, none] H10
      have one : ∀ {σ : L2.St} (kk : Nat) (H11 : Hp), σ[0]? = some (some (.ref fa)) → σ[8]? = some (some (.ref pe)) → Rf fa kk H10 H11 → GF fa 1 H11 → ∀ Q' : VK, (∀ y H12, GdT abcd 0 3 y → Rf fa 1 H11 H12 → Q' y H12) → tCall (sp_one K) [] E0 (tCons (tVar 0) (tCons (tVar 8) tNil)) σ H11 Q' := fun {σ} kk H11 h0 h8 R11 G11 Q' q' =>
        wp_oneS (xs := ends.map T) h0 (ev_var h8) (.inl (sq_of (R11.at_ h10 npe))) npe G11 (fun z => by have := congrArg List.length z; rw [List.length_map] at this; simp at this; rw [this] at hl1; simp at hl1) (by rw [List.length_map]; omega) fun v H12 hv R12 => by
          obtain ⟨t, ht, rfl⟩ := List.mem_map.mp hv
          exact q' _ H12 ⟨t, rfl, Nat.zero_le _, (hwl t ht).2, (hws t ht).2⟩ R12
      refine s_kept (m := 1000) (WL.mono (wl_range (lo := 2) (N := 13) (c := 5) (lo' := 0) (n := 8) (dI_wk (dI_add dI_c (dI_draw rfl (dmo rfl)))) (by decide) (G.go RH (by omega)) (fun _ => rfl) (fun x kk H11 R11 G11 Q' q' => ?_) (by decide)) (by decide)) rfl rfl hm1 hm2 (G.go RH (by omega)) (fin RH (by omega))
      refine one kk H11 rfl rfl R11 (G11.mono (by omega)) _ fun y1 H12 ⟨s1, hy1, a1, a2, a3⟩ R12 => (dT_text (c := 2) rfl (dsg rfl) (dI_wk dI_c) : Dw fa ((wipe [some (.ref fa), some (.int (most : Int)), some (T sg), some (.int way), none, none, none, none, some (.ref pe), none, none] [5]).set 5 (some x)) _ _ _) H12 (G11.go R12 (m' := 3) (by omega)) _ fun y2 H13 ⟨s2, hy2, b1, b2, b3⟩ R13 => ⟨s1, s2, hy1, hy2, by omega, one (kk + 1 + 3) H13 rfl rfl ((R11.trans R12).trans R13) (G11.go (R12.trans R13) (m' := 1) (by omega)) _ fun y3 H14 ⟨s3, hy3, c1, c2, c3⟩ R14 => ⟨s1 ++ s2, s3, rfl, hy3, by rw [List.length_append]; omega, q' _ H14 ⟨s1 ++ s2 ++ s3, rfl, Nat.zero_le _, by rw [List.length_append, List.length_append]; omega, fun c hc => ?_⟩ (((R12.trans R13).trans R14).mono (by omega))⟩⟩
      rcases List.mem_append.mp hc with z | z
      · rcases List.mem_append.mp z with z | z
        · exact a3 c z
        · exact b3 c z
      · exact c3 c z
    have RG : Rf fa 2 H H9 := RF.then e9
    clear RF e9 hb
    -- way == 7
    refine q_when (et_test (ev_op (ev_var rfl) ev_c rv_I0)) (fun hb H10 e10 => ?_) (fun hb H10 e10 => ?_)
    · have RH := RG.then e10
      have GH : GF fa 10000 H10 := G.go RH (by omega)
      exact s_kept (m := 1000) (fun Q' q' => cod rfl (GH.mono (by omega)) _ fun q ts H11 hne hlen hwd hq R11 h11 => q' q ts H11 (hwd.mono (by decide)) (by omega) (GH.new hq) (R11.mono (by omega)) h11) rfl rfl hm1 hm2 (G.go RH (by omega)) (fin RH (by omega))
    have RH : Rf fa 2 H H10 := RG.then e10
    clear RG e10 hb
    -- way == 8
    refine q_when (et_test (ev_op (ev_var rfl) ev_c rv_I0)) (fun hb H11 e11 => ?_) (fun hb H11 e11 => ?_)
    · have RI := RH.then e11
      have GI : GF fa 10000 H11 := G.go RI (by omega)
      refine q_lcRD (lo := 4) (N := 4) (c := 5) (m0 := 0) (GdT abcd 1 4) (dI_c (x := 4)) (by decide) (GI.mono (by omega)) (fun _ => rfl) (fun x => dw_at (dT_add (dT_one (lo := 4) (n := 4) rfl (dT_c (ok := abcd) (s := [97, 98, 99, 100]) (fun c hc => by simp at hc; unfold abcd; omega))) (dT_text (c := 3) rfl (dsg rfl) (dI_wk dI_c)))) fun pw H12 acc hpw R12 h12 hl1 hl2 hg => ?_
      obtain ⟨ws, rfl, hws, hwl⟩ := wl_texts hg (by decide)
      rw [List.length_map] at hl1 hl2
      have npw : pw ≠ fa := GI.new hpw
      have RJ : Rf fa 100 H H12 := (RI.trans R12).mono (by omega)
      have GJ : GF fa 9000 H12 := G.go RJ (by omega)
      show tRet _ _ [some (.ref fa), some (.int (most : Int)), some (T sg), some (.int way), none, none, none, none, none, some (.ref pw), none] H12
      exact s_kept (m := 1000) (fun Q' q' => ⟨.ref fa, rfl, cod rfl (GJ.mono (by omega)) _ fun q ts H13 hne hlen hwd hq R13 h13 => ⟨.ref pw, rfl, fa, q, pw, ts, ws, rfl, GJ.go R13 (by omega), h13, sq_of (R13.at_ h12 npw), GJ.new hq, npw, by omega, hwd.mono (by decide), fun z => by rw [z] at hl1; simp at hl1, by omega, fun t ht => ⟨by have := (hwl t ht).2; omega, (hws t ht).2⟩, fun p vs H14 hvl hvw hp R14 h14 => q' p vs H14 hvw (by omega) ((GJ.go R13 (m' := 0) (by omega)).new hp) ((R13.trans R14).mono (by omega)) h14⟩⟩) rfl rfl hm1 hm2 (G.go RJ (by omega)) (fin RJ (by omega))
    have RI : Rf fa 2 H H11 := RH.then e11
    clear RH e11 hb
    -- way == 9
    refine q_when (et_test (ev_op (ev_var rfl) ev_c rv_I0)) (fun hb H12 e12 => ?_) (fun hb H12 e12 => ?_)
    · have RJ := RI.then e12
      have GJ : GF fa 9000 H12 := G.go RJ (by omega)
      refine s_kept (m := 1000) (fun Q' q' => ⟨.ref fa, rfl, cod rfl (GJ.mono (by omega)) _ fun q ts H13 hne hlen hwd hq R13 h13 => lc_of (cod rfl (GJ.go R13 (m' := 1) (by omega)) _ fun r us H14 hne2 hlen2 hwd2 hr R14 h14 => ?_)⟩) rfl rfl hm1 hm2 (G.go RJ (by omega)) (fin RJ (by omega))
      have nq : q ≠ fa := GJ.new hq
      have GK : GF fa 100 H14 := GJ.go (R13.trans R14) (by omega)
      refine (el_lcM (j := 6) (vs := [6]) (f := T) (g := T) us (src_listM (tl := fun _ H' Q' => Q' (.ref r) H') (fun H2 e2 Q2 q2 => q2 H2 (Ex.refl _)) (sq_of h14)) (by omega) (fun _ => rfl) fun t H15 e15 ht => ev_var rfl : EvL (tLc (iList K (fun _ H' Q' => Q' (.ref r) H')) (gName 6) tYes (tVar 6) [6]) [some (.ref fa), some (.int (most : Int)), some (T sg), some (.int way), none, none, none, none, none, none, none] H14 (us.map T)) H14 (Ex.refl _) _ fun pw H15 hpw e15 h15 => ?_
      have npw : pw ≠ fa := GK.new hpw
      exact ⟨fa, q, pw, ts, us, rfl, (GK.ex e15).mono (by omega), e15 _ _ (R14.at_ h13 nq), sq_of h15, nq, npw, by omega, hwd.mono (by decide), hne2, by omega, hwd2.mono (by decide), fun p vs H16 hvl hvw hp R16 h16 => q' p vs H16 hvw (by omega) ((GK.ex e15).new hp) ((((R13.trans R14).then e15).trans R16).mono (by omega)) h16⟩
    have RJ : Rf fa 2 H H12 := RI.then e12
    clear RI e12 hb
    refine q_dw (dI_add dI_c (dI_draw (lo := 5) (hi := 5) rfl dI_c)) (G.go RJ (m' := 10000) (by omega)) fun v H13 ⟨long, hv, hl1, hl2⟩ R13 => ?_
    subst hv
    have RK := RJ.trans R13
    show tRet _ _ [some (.ref fa), some (.int (most : Int)), some (T sg), some (.int way), some (.int long), none, none, none, none, none, none] H13
    refine s_kept (m := 1000) (WL.mono (wl_range (lo := 1) (N := 12) (c := 5) (lo' := 0) (n := 5) (dI_add dI_c (dI_draw rfl (dmo rfl))) (by decide) (G.go RK (by omega)) (fun _ => rfl) (fun x kk H14 R14 G14 Q' q' => ?_) (by decide)) (by decide)) rfl rfl hm1 hm2 (G.go RK (by omega)) (fin RK (by omega))
    refine ⟨rfl, lcRD (lo := 1) (N := 5) (c := 1) (m0 := 0) (GdT abcd 1 1) (dI_wk (dI_var rfl hl1 hl2)) (by decide) (G14.mono (by omega)) (fun _ => rfl) (fun x => dw_at (dT_one rfl (dsg rfl))) _ fun p H15 acc hp R15 h15 hl1 hl2 hg => ?_⟩
    obtain ⟨ws, rfl, hws, hwl⟩ := wl_texts hg (by decide)
    rw [List.length_map] at hl2
    have hsum := sum_le (m := 1) fun t ht => (hwl t ht).2
    refine ⟨[], p, ws, rfl, rfl, .inl (sq_of h15), by simp; omega, ?_⟩
    rw [joinL_nil]
    refine q' _ H15 ⟨ws.flatten, rfl, Nat.zero_le _, by rw [flat_len]; omega, fun c hc => ?_⟩ (R15.mono (by omega))
    obtain ⟨t, ht, hct⟩ := flat_mem hc
    exact (hws t ht).2 c hct
end
end K01
set_option Elab.async false
set_option linter.all false
set_option maxRecDepth 100000
set_option maxHeartbeats 4000000
namespace K01
open PySem PySem.Spec PyProof.Rows L2 Evl Wc Wt Wg Ws We _root_.Wd
theorem kb_put_together_1_0 : KB "put_together" st_put_together 0 ["lot", "indexes"] ["indexes", "lot"] (sw2 true) (sw2 true) := kb2 true rfl (fun _ _ _ _ _ _ a b => rfl)
/-- x is not a truth: a text, or a truth -/
def rNotB : R2 := fun x y H Q => ∃ b, y = .bl b ∧ ((∃ a, x = T a ∧ Q (.bl true) H) ∨ (∃ c, x = .bl c ∧ Q (.bl (!decide (c = b))) H))
theorem op_isnotB {X : Cx} : OpR X (compareOp .IsNot) rNotB := by
  intro pins s σ H x y v u Q I rx ry h
  obtain ⟨b, rfl, h⟩ := h
  cases (show u = Value.bool b from ry)
  rcases h with ⟨a, rfl, q⟩ | ⟨c, rfl, q⟩
  · obtain ⟨t, rfl⟩ := rx
    exact wpAny_isNot_other rfl (fun z => nomatch z) (fin_bl I q rfl)
  · cases (show v = Value.bool c from rx)
    exact wpAny_isNot_plain rfl (fin_bl I q (by cases c <;> cases b <;> rfl))
theorem rv_notB {H : Hp} {b c : Bool} : RV rNotB (.bl c) (.bl b) H (.bl (!decide (c = b))) := fun H1 _ Q q => ⟨b, rfl, .inr ⟨c, rfl, q H1 (Ex.refl _)⟩⟩
abbrev dN (n : Nat) : PyData := .int (n : Int)
theorem shown_small : ∀ n < 400, (PyData.shown (dN n)).length ≤ 20 := by decide +kernel
theorem sd_nums {c : List Nat} (h : ∀ n ∈ c, n < 400) (hl : c.length ≤ 400) : Sd 1 20000 (.list (c.map dN)) := by
  obtain ⟨h1, h2, h3, h4, h5⟩ := sd_all (k := 0) (n := 20) (ds := c.map dN) fun d hd => by
    obtain ⟨n, hn, rfl⟩ := List.mem_map.mp hd
    exact ⟨(sd_big (n := n) (Nat.lt_trans (h n hn) (by decide +kernel))).sh, rfl, Nat.zero_le _, shown_small n (h n hn)⟩
  rw [List.length_map] at h4 h5
  refine ⟨?_, ?_, ?_, ?_⟩
  · rw [PyData.showable]; exact h1
  · rw [PyData.hasDict]; exact h2
  · rw [PyData.depth]; omega
  · rw [PyData.shown]
    refine Nat.le_trans (PySem.listText_len_le _) ?_
    rw [h5]
    omega
theorem dp_numV {K : PySem.W.Frag} {H : Hp} : ∀ (c : List Nat), DpAll K H (numV c) (c.map dN)
  | [] => .nil
  | n :: c => .cons (.int _) (dp_numV c)
theorem ixs_of {acc : List V} {lot : List Tx} (h : ∀ v ∈ acc, GdI 0 ((lot.length : Int) - 1) v) : ∃ c : List Nat, acc = numV c ∧ Ixs lot c := by
  induction acc with
  | nil => exact ⟨[], rfl, fun i hi => nomatch hi⟩
  | cons v acc ih =>
    obtain ⟨c, hc, hx⟩ := ih fun u hu => h u (List.mem_cons_of_mem _ hu)
    obtain ⟨i, hi, h1, h2⟩ := h v List.mem_cons_self
    obtain ⟨n, rfl⟩ := Int.eq_ofNat_of_zero_le h1
    refine ⟨n :: c, by rw [hi, hc]; rfl, fun j hj => ?_⟩
    rcases List.mem_cons.mp hj with rfl | hj
    · omega
    · exact hx j hj
theorem put_le {lot : List Tx} (h : IsLot lot) (c : List Nat) : (put lot c).length ≤ c.length * 12 := by
  unfold put
  rw [List.length_flatten]
  refine Nat.le_trans (sum_le (m := 12) (ts := c.map fun i => lot.getD i []) fun t ht => ?_) (by rw [List.length_map]; exact Nat.le_refl _)
  obtain ⟨i, hi, rfl⟩ := List.mem_map.mp ht
  rw [List.getD_eq_getElem?_getD]
  cases hq : lot[i]? with
  | none => exact Nat.zero_le _
  | some t => exact (h.wd t (List.mem_of_getElem? hq)).1
theorem long_12 {lot : List Tx} (h : IsLot lot) : 1 ≤ longL lot ∧ longL lot ≤ 12 := by
  have hm : longL lot ∈ lot.map List.length := foldr_mem fun z => h.ne (List.map_eq_nil_iff.mp z)
  obtain ⟨t, ht, he⟩ := List.mem_map.mp hm
  rw [← he]
  exact ⟨List.length_pos_iff.mpr (h.pos t ht), (h.wd t ht).1⟩
/-- what _law_told hands back -/
def toldV (lot : List Tx) (c : List Nat) : V := if (put lot c).length ≤ 400 then T (put lot c) else .bl true
section
variable {P : Program} {w : World} {K : PySem.W.Frag} {mg : Str → Option Value} {base : Heap}
def sp_law_together : Sp := fun vs H Q _ => ∃ (fa p : Addr) (lot : List Tx), vs = [.ref fa, .ref p] ∧ GF fa 100 H ∧ LotAt p lot H ∧ ∀ H', Rf fa 100 H H' → Q (.bl true) H'
theorem ok__law_together {f CE : Addr} {fd : FuncData} (F : Fun K "_law_together" "_law_together" st__law_together f fd) (M : Md K mg) (C__law_draw : Cal P w K mg base "_law_draw" st__law_draw 1 ["feed", "many"] sp_draw) (C__law_one : Cal P w K mg base "_law_one" st__law_one 2 ["feed", "things"] (sp_one K)) (C__law_told : Cal P w K mg base "_law_told" st__law_told 6 ["lot", "indexes"] sp_told) (C_put_together : Cal P w K mg base "put_together" st_put_together 5 ["lot", "indexes"] (calm (sp_together CE))) : FnOkG P w K mg base 7 f fd ["feed", "lot"] sp_law_together := by
  have nd := sc__law_together.nd
  refine Fun.okG F sc__law_together (fun vs H Q E h => ?_) (fun cdv A outer s H vs Q E hr hgd h => ?_)
  · obtain ⟨_, _, _, rfl, _⟩ := h
    rfl
  · obtain ⟨fa, p, lot, rfl, G, hL, k⟩ := h
    refine ⟨_, (pss_cons (ps_set (i := 2) nd rfl (Or.inl rfl) (pe_callB (kcr K (r := rMax) (cr_max rfl)) (by rfl) M.n_max boot_max (pa_cons (pe_lc (own := [("word", 3)]) rfl nd (kit K (pi_tup (pv 1))) (blkOk_by (N := N__law_together) (sc := defScope st__law_together) (by decide +kernel)) (fun _ _ _ _ _ => (pg_name (i := 3) nd rfl (Or.inl rfl))) (fun _ _ _ _ _ => pts_nil) (fun _ _ _ _ _ => (pe_callB cr_lenT (by rfl) M.n_len boot_len (pa_cons (pv 3) pa_nil)))) pa_nil)))
  (pss_cons (ps_for PassesOwn.never rfl (pi_range1 (by rfl) M.n_range (pa_cons pe_int pa_nil)) (pg_name (i := 4) nd rfl (Or.inl rfl))
  (pss_cons (ps_setLc (i := 5) (own := [("place", 6)]) rfl nd rfl rfl (sw_true rfl rfl rfl (by decide +kernel)) (pi_range1 (by rfl) M.n_range (pa_cons (pe_cl C__law_draw hr (pa_cons (pv 0) (pa_cons pe_int pa_nil))) pa_nil)) (blkOk_by (N := N__law_together) (sc := defScope st__law_together) (by decide +kernel)) (fun _ _ _ _ _ => (pg_name (i := 6) nd rfl (Or.inl rfl))) (fun _ _ _ _ _ => pts_nil) (fun _ _ _ _ _ => (pe_cl C__law_draw hr (pa_cons (pv 0) (pa_cons (pe_callB (kcr K (r := rLenS) call_len_seq) (by rfl) M.n_len boot_len (pa_cons (pv 1) pa_nil)) pa_nil)))))
  (pss_cut (ps_if (pt_cmpR op_eqI (pv 4) pe_int (nomark _))
  (pss_cons (ps_setLc (i := 7) (own := [("place", 6)]) rfl nd rfl rfl (sw_true rfl rfl rfl (by decide +kernel)) (pi_range1 (by rfl) M.n_range (pa_cons pe_int pa_nil)) (blkOk_by (N := N__law_together) (sc := defScope st__law_together) (by decide +kernel)) (fun _ _ _ _ _ => (pg_name (i := 6) nd rfl (Or.inl rfl))) (fun _ _ _ _ _ => pts_nil) (fun _ _ _ _ _ => (pe_cl C__law_draw hr (pa_cons (pv 0) (pa_cons (pe_callB (kcr K (r := rLenS) call_len_seq) (by rfl) M.n_len boot_len (pa_cons (pv 1) pa_nil)) pa_nil)))))
  (pss_one (ps_set (i := 5) nd rfl (Or.inl rfl) (pe_slice (ksl K (r := rSlL) sl_list) (pe_op op_rep (pv 7) pe_int) po_none (po_some (pe_cl C__law_one hr (pa_cons (pv 0) (pa_cons (pe_lst (pa_cons pe_int (pa_cons pe_int (pa_cons (pe_op op_fdivW pe_int (pv 2)) (pa_cons (pe_op op_add (pe_op op_fdivW pe_int (pv 2)) pe_int) (pa_cons pe_int (pa_cons pe_int (pa_cons pe_int pa_nil)))))))) pa_nil))))))))
  pss_nil)
  (pss_cons (ps_par (i := 8) (j := 9) rfl nd rfl rfl (by decide) rfl rfl (pa_cons (kbm K (pe_bm PySem.F.plainAttrs_str PySem.F.slot_str_join PySem.F.type_str_join (kmt K (r := rJoinT) mt_joinT) (pe_sT []) (pa_cons (pe_lc (own := [("index", 10)]) rfl nd (kil K (pi_list (pv 5))) (blkOk_by (N := N__law_together) (sc := defScope st__law_together) (by decide +kernel)) (fun _ _ _ _ _ => (pg_name (i := 10) nd rfl (Or.inl rfl))) (fun _ _ _ _ _ => pts_nil) (fun _ _ _ _ _ => (pe_ix (kix K (r := L2.rIxT) ix_tup) (pv 1) (pv 10) (fun _ _ => rfl)))) pa_nil))) (pa_cons (pe_callB (kcr K (r := rReprD) (cr_reprD hgd hr.units)) (by rfl) M.n_repr boot_repr (pa_cons (pv 5) pa_nil)) pa_nil)) (by rfl))
  (pss_cons (ps_set (i := 11) nd rfl (Or.inl rfl) (pe_cl C__law_told hr (pa_cons (pv 1) (pa_cons (pv 5) pa_nil))))
  (pss_one (ps_if (PW.pt (pw_or (pt_cmpR op_neT (pe_callB (kcr K (r := rReprD) (cr_reprD hgd hr.units)) (by rfl) M.n_repr boot_repr (pa_cons (pv 5) pa_nil)) (pv 9) (nomark _)) (pw_or (PW.pt (pw_and (pt_cmpR op_gt (pe_callB cr_lenT (by rfl) M.n_len boot_len (pa_cons (pv 8) pa_nil)) pe_int (nomark _)) (pw_and1 (pt_cmpR op_isnotB (pv 11) pe_bl (nomark _))))) (pw_or1 (PW.pt (pw_and (pt_cmpR op_le (pe_callB cr_lenT (by rfl) M.n_len boot_len (pa_cons (pv 8) pa_nil)) pe_int (nomark _)) (pw_and1 (PW.pt (pw_or (pt_not (pt_val (pe_callB (kcr K (r := rIsiB) cr_isi) (by rfl) M.n_isinstance boot_isinstance (pa_cons (pv 11) (pa_cons (pe_bltn (v := .ty "str") rfl M.n_str boot_str rfl) pa_nil))))) (pw_or1 (pt_cmpR op_neT (pv 11) (pv 8) (nomark _))))))))))))
  (pss_one (ps_ret pe_bl))
  pss_nil)))))))
  (pss_one (ps_ret (pe_cmpR op_eqT (pe_clK0 C_put_together (kb_put_together_1_0) hr (pk_cons (pe_lst pa_nil) (pk_cons (pv 1) pk_nil))) (pe_sT []) (nomark _)))))), ?_⟩
    have hfew := hL.2.few
    have hpos : 0 < lot.length := List.length_pos_iff.mpr hL.2.ne
    have npf := G.ofTup hL.1
    obtain ⟨hg1, hg2⟩ := long_12 hL.2
    refine q_asg (ev_maxLen rfl hL (fun _ => rfl) (fun _ => rfl)) fun H1 e1 => ?_
    show tSeq _ _ _ [some (.ref fa), some (.ref p), some (.int ((longL lot : Nat) : Int)), none, none, none, none, none, none, none, none, none] H1
    refine q_forW (fun c => c = fa) (src_range1 (n := 3) (ea_cons ev_c ea_nil) (by decide)) ?_
      (fun Hs i σ' H' => ∃ (v4 v5 v7 v8 v9 v11 : Option V), σ' = [some (.ref fa), some (.ref p), some (.int ((longL lot : Nat) : Int)), none, v4, v5, none, v7, v8, v9, none, v11] ∧ Exc (fun c => c = fa) Hs H' ∧ Rf fa (20 * i) H H') ?_ ?_ ?_ ?_ ?_
    · rintro c rfl
      exact ⟨(G.ex e1).is, fun z => z⟩
    · intro Hs e
      exact ⟨none, none, none, none, none, none, rfl, Exc.refl _, Rf.of_ex (e1.trans e)⟩
    · rintro Hs i σ' H' ⟨_, _, _, _, _, _, _, h, _⟩
      exact h
    · rintro Hs i σ' Ha Hb ⟨v4, v5, v7, v8, v9, v11, g0, g1, g2⟩ e
      exact ⟨v4, v5, v7, v8, v9, v11, g0, g1.then e, g2.then e⟩
    · rintro Hs i x σ' H2 e hi ⟨v4, v5, v7, v8, v9, v11, rfl, g1, g2⟩ rfl
      show tSeq _ _ _ [some (.ref fa), some (.ref p), some (.int ((longL lot : Nat) : Int)), none, some (.int (i : Int)), v5, none, v7, v8, v9, none, v11] H2
      have G2 : GF fa 40 H2 := G.go g2 (by omega)
      have hL2 : LotAt p lot H2 := ⟨g2.at_ hL.1 npf, hL.2⟩
      have dlen : ∀ {σ : L2.St} {H0 : Hp}, H0 p = some (.tup (lot.map T)) → σ[1]? = some (some (.ref p)) → Ev (tCB (rLenS K) (tCons (tVar 1) tNil)) σ H0 (.int (lot.length : Int)) := fun h h0 => ev_is (ev_lenU (ev_var h0) (st_of h)) (by rw [List.length_map])
      refine q_lcRD (lo := 0) (N := 8) (c := 1) (m0 := 1) (GdI 0 ((lot.length : Int) - 1)) (dI_draw (lo := 9) (hi := 9) rfl dI_c) (by decide) (G2.mono (by omega)) (fun _ => rfl) (fun x n H3 R3 G3 Q' q' => wp_draw (i := 0) (many := (lot.length : Int)) rfl (dlen (R3.at_ hL2.1 npf) rfl) G3 (by omega) (by omega) fun d H4 hd R4 => q' _ H4 ⟨_, rfl, by omega, by omega⟩ R4) fun pc H3 acc hpc R3 h3 hl1 hl2 hg => ?_
      obtain ⟨c0, rfl, hix0⟩ := ixs_of hg
      rw [numV_len] at hl2
      have npc : pc ≠ fa := G2.new hpc
      have RA := g2.trans R3
      have XA : Exc (fun c => c = fa) Hs H3 := g1.trans R3.keep
      show tCut _ _ _ [some (.ref fa), some (.ref p), some (.int ((longL lot : Nat) : Int)), none, some (.int (i : Int)), some (.ref pc), none, v7, v8, v9, none, v11] H3
      refine q_cut (M := fun σ' H' => ∃ (pc : Addr) (c : List Nat) (v7 : Option V), σ' = [some (.ref fa), some (.ref p), some (.int ((longL lot : Nat) : Int)), none, some (.int (i : Int)), some (.ref pc), none, v7, v8, v9, none, v11] ∧ H' pc = some (.lst (numV c)) ∧ Ixs lot c ∧ c.length ≤ 400 ∧ Exc (fun c => c = fa) Hs H' ∧ Rf fa (20 * i + 20) H H') ?_ ?_
      · refine s_when (b := decide ((i : Int) = 0)) (et_test (ev_op (ev_var rfl) ev_c rv_I0)) (fun hb H4 e4 => ?_) (fun hb H4 e4 => ?_)
        · have G4 : GF fa 30 H4 := (G2.go R3 (by omega)).ex e4
          have h4p := e4 _ _ (R3.at_ hL2.1 npf)
          refine q_lcRD (lo := 4) (N := 4) (c := 1) (m0 := 0) (GdI 0 ((lot.length : Int) - 1)) dI_c (by decide) (G4.mono (by omega)) (fun _ => rfl) (fun x n H5 R5 G5 Q' q' => wp_draw (i := 0) (many := (lot.length : Int)) rfl (dlen (R5.at_ h4p npf) rfl) G5 (by omega) (by omega) fun d H6 hd R6 => q' _ H6 ⟨_, rfl, by omega, by omega⟩ R6) fun pr H5 acc hpr R5 h5 hl1 hl2 hg => ?_
          obtain ⟨row, rfl, hixr⟩ := ixs_of hg
          rw [numV_len] at hl1 hl2
          have npr := G4.new hpr
          have G5 : GF fa 20 H5 := G4.go R5 (by omega)
          show tAsg _ _ _ [some (.ref fa), some (.ref p), some (.int ((longL lot : Nat) : Int)), none, some (.int (i : Int)), some (.ref pc), none, some (.ref pr), v8, v9, none, v11] H5
          refine ⟨.ref pr, rfl, pr, 100, _, rfl, rfl, h5, by decide, by decide, ?_, fun pq hpq => ?_⟩
          · have h4 : row.length = 4 := by omega
            rw [numV_len, h4]
            decide
          have npq := G5.new hpq
          have hq6 : (upd H5 pq (.lst (List.replicate (100 : Int).toNat (numV row)).flatten)) pq = some (.lst (List.replicate 100 (numV row)).flatten) := upd_same
          have e6 : Ex H5 (upd H5 pq (.lst (List.replicate (100 : Int).toNat (numV row)).flatten)) := Ex.new hpq
          generalize upd H5 pq (.lst (List.replicate (100 : Int).toNat (numV row)).flatten) = H6 at hq6 e6 ⊢
          obtain ⟨qq, dv, hdv⟩ : ∃ qq : Nat, (∀ (σ : L2.St) (H0 : Hp), σ[2]? = some (some (.int ((longL lot : Nat) : Int))) → Ev (tOp (rI CDivW fun i j => .int (i / j)) (tC (.int 400)) (tVar 2)) σ H0 (.int (qq : Int))) ∧ qq ≤ 400 := ⟨400 / longL lot, fun σ H0 h0 => ev_is (ev_op ev_c (ev_var h0) (rv_I (divW (by omega) (by omega)))) (by congr 1), Nat.div_le_self _ _⟩
          refine (dI_oneL (ns := [400, 399, (qq : Int), (qq : Int) + 1, 34, 35, 100]) (lo := 0) (hi := 401) rfl (fun H => el_lst (ea_cons ev_c (ea_cons ev_c (ea_cons (dv _ _ rfl) (ea_cons (ev_op (dv _ _ rfl) ev_c rv_I0) (ea_cons ev_c (ea_cons ev_c (ea_cons ev_c ea_nil))))))) (by show 7 ≤ 100000; decide)) (fun n hn => by
            simp only [List.mem_cons, List.not_mem_nil, or_false] at hn
            omega) (by simp) (by show 7 ≤ 1000; decide) : Dw fa [some (.ref fa), some (.ref p), some (.int ((longL lot : Nat) : Int)), none, some (.int (i : Int)), some (.ref pc), none, some (.ref pr), v8, v9, none, v11] 1 _ (GdI 0 401)) H6 ((G5.ex e6).mono (by omega)) _ fun v H7 ⟨m, hv, hm1, hm2⟩ R7 => ?_
          obtain ⟨m, rfl⟩ := Int.eq_ofNat_of_zero_le hm1
          subst hv
          refine ⟨(m : Int), rfl, pq, _, rfl, sq_of (R7.at_ hq6 npq), fun pz hpz => ⟨pz, ((List.replicate 100 row).flatten).take m, some (.ref pr), rfl, ?_, fun j hj => ?_, ?_, ?_, ?_⟩⟩
          · rw [upd_same, cutV_to]
            congr 2
            unfold numV
            rw [List.map_take, List.map_flatten, List.map_replicate]
          · obtain ⟨l, hl, hjl⟩ := List.mem_flatten.mp (List.mem_of_mem_take hj)
            rw [(List.mem_replicate.mp hl).2] at hjl
            exact hixr j hjl
          · refine Nat.le_trans (List.length_take_le' _ _) ?_
            rw [List.length_flatten, List.map_replicate, List.sum_replicate_nat]
            omega
          · exact (((((XA.then e4).trans R5.keep).then e6).trans R7.keep).then (Ex.new hpz))
          · exact (((((RA.then e4).trans R5).then e6).trans R7).then (Ex.new hpz)).mono (by omega)
        · exact ⟨pc, c0, v7, rfl, e4 _ _ h3, hix0, by omega, XA.then e4, (RA.then e4).mono (by omega)⟩
      · rintro σ' H4 ⟨pc, c, v7, rfl, h4, hix, hcl, X4, R4⟩
        have hL4 : LotAt p lot H4 := ⟨R4.at_ hL.1 npf, hL.2⟩
        have hsd := sd_nums (c := c) (fun n hn => by have := hix n hn; omega) hcl
        have hput := put_le hL.2 c
        have hrep : ∀ {σ : L2.St} {H0 H1 : Hp}, Ex H4 H0 → σ[5]? = some (some (.ref pc)) → Ev (tCB (rReprD K) (tCons (tVar 5) tNil)) σ H0 (T (PyData.shown (.list (c.map dN))).cps.toList) := fun {σ H0 H1} e h0 => ev_cb (ea_cons (ev_var h0) ea_nil) (rc_reprD (fun H5 e5 => .lst (sq_of (e5 _ _ (e _ _ h4))) (dp_numV c)) hsd.sh hsd.nd (Nat.le_trans hsd.dp (by decide)) (by have := hsd.ln; rw [sizeLine_eq]; omega))
        refine q_parVV (ev_put (i := 1) (j := 5) (l := 10) hL4 h4 hix (by omega) rfl rfl (fun _ => rfl) (fun _ => rfl) (fun _ => rfl)) (hrep (H1 := H4) (Ex.refl _) rfl) fun H5 e5 => ?_
        show tSeq _ _ _ [some (.ref fa), some (.ref p), some (.int ((longL lot : Nat) : Int)), none, some (.int (i : Int)), some (.ref pc), none, v7, some (T (put lot c)), some (T (PyData.shown (.list (c.map dN))).cps.toList), none, v11] H5
        refine q_asg (v := toldV lot c) (ev_call (ea_cons (ev_var rfl) (ea_cons (ev_var rfl) ea_nil)) fun H6 e6 Q q E => ⟨p, pc, lot, c, rfl, hL4.ex (e5.trans e6), (e5.trans e6) _ _ h4, hix, hcl, fun hle => by
          unfold toldV at q
          rw [if_pos hle] at q
          exact q, fun hgt => by
          unfold toldV at q
          rw [if_neg (by omega)] at q
          exact q⟩) fun H6 e6 => ?_
        have e46 := e5.trans e6
        have hlen : ∀ {σ : L2.St} {H1 : Hp}, σ[8]? = some (some (T (put lot c))) → Ev (tCB rLenT (tCons (tVar 8) tNil)) σ H1 (.int ((put lot c).length : Int)) := fun h0 => ev_cb (ea_cons (ev_var h0) ea_nil) (rc_lenT (by omega))
        refine s_when (b := false) (et_is (et_or (a := false) (b := false) (et_is (et_test (ev_op (hrep (H1 := H6) e46 rfl) (ev_var rfl) rv_neT)) (by rw [decide_eq_true rfl]; rfl)) fun _ => ?_) rfl) (fun z => by cases z) (fun _ H7 e7 => ⟨_, _, _, _, _, _, rfl, (X4.then e46).then e7, ((R4.then e46).then e7).mono (by omega)⟩)
        unfold toldV
        by_cases hle : (put lot c).length ≤ 400
        · rw [if_pos hle]
          refine et_is (et_or (a := false) (b := false) (et_is (et_and (a := false) (b := false) (et_is (et_test (ev_op (hlen rfl) ev_c rv_I0)) (decide_eq_false (by omega))) fun z => by cases z) rfl) fun _ => et_is (et_and (a := true) (b := false) (et_is (et_test (ev_op (hlen rfl) ev_c rv_I0)) (decide_eq_true (by omega))) fun _ => et_is (et_or (a := false) (b := false) (et_is (et_not (et_B (ev_cb (ea_cons (ev_var rfl) (ea_cons ev_c ea_nil)) (rc_isi (b := true) (fun _ _ => .base (.str _)) k_str_str)))) rfl) fun _ => et_is (et_test (ev_op (ev_var rfl) (ev_var rfl) rv_neT)) (by rw [decide_eq_true rfl]; rfl)) rfl) rfl) rfl
        · rw [if_neg hle]
          refine et_is (et_or (a := false) (b := false) (et_is (et_and (a := true) (b := false) (et_is (et_test (ev_op (hlen rfl) ev_c rv_I0)) (decide_eq_true (by omega))) fun _ => et_is (et_test (ev_op (ev_var rfl) ev_c rv_notB)) rfl) rfl) fun _ => et_is (et_and (a := false) (b := false) (et_is (et_test (ev_op (hlen rfl) ev_c rv_I0)) (decide_eq_false (by omega))) fun z => by cases z) rfl) rfl
    · rintro Hs σ' H2 e ⟨v4, v5, v7, v8, v9, v11, rfl, g1, g2⟩
      have hL2 : LotAt p lot H2 := ⟨g2.at_ hL.1 npf, hL.2⟩
      refine s_ret (ev_is (w := .bl true) (ev_op (x := T []) (y := T []) ?_ ev_c rv_eqT) (by rw [decide_eq_true rfl])) fun H3 e3 => k H3 ((g2.then e3).mono (by omega))
      intro H3 e3 Q q
      exact a_el ((el_lst ea_nil (by decide) : EvL _ _ H3 _)) fun pe H4 hpe e4 h4 => a_ev (ev_var rfl) fun H5 e5 => a_nil ⟨p, pe, lot, [], rfl, hL2.ex ((e3.trans e4).trans e5), e5 _ _ h4, (fun j hj => nomatch hj), (by decide), fun _ H6 e6 => q H6 ((e4.trans e5).trans e6), fun z => absurd z (by show ¬ 400 < 0; decide)⟩
end
end K01
set_option Elab.async false
set_option linter.all false
set_option maxRecDepth 100000
set_option maxHeartbeats 4000000
namespace K01
open PySem PySem.Spec PyProof.Rows L2 Evl Wc Wt Wg Ws We _root_.Wd
theorem s_ifA {σ : L2.St} {H : Hp} {D : Ends} {tt : TT} {tu tw : TS} (k : tt σ H fun b H1 => if b = true then tu D σ H1 else tw D σ H1) : tIfS tt tu tw D σ H := k
theorem kb_is_lot_0 : KB "is_lot" st_is_lot 0 ["thing"] ["thing"] sw1 sw1 := kb1 rfl (fun _ _ _ _ _ _ a => rfl)
theorem kb_signs_of_0 : KB "signs_of" st_signs_of 0 ["lot"] ["lot"] sw1 sw1 := kb1 rfl (fun _ _ _ _ _ _ a => rfl)
theorem kb_longest_0 : KB "longest" st_longest 0 ["lot"] ["lot"] sw1 sw1 := kb1 rfl (fun _ _ _ _ _ _ a => rfl)
theorem sign_row {a : Tx} (h : ∀ c ∈ a, abcd c) : ((([97, 98, 99, 100] : Tx).filter fun c => decide (c ∈ a)).map fun c : Nat => ([c] : Tx)) = setS (sgs a) := by
  have hpw : ((([97, 98, 99, 100] : Tx).filter fun c => decide (c ∈ a)).map fun c : Nat => ([c] : Tx)).Pairwise (· < ·) := by
    refine List.pairwise_map.mpr (List.Pairwise.filter _ ?_)
    decide
  have hn : ((([97, 98, 99, 100] : Tx).filter fun c => decide (c ∈ a)).map fun c : Nat => ([c] : Tx)).Nodup := hpw.imp fun {x y} h1 => (fun (h2 : x = y) => List.lt_irrefl y (by rw [h2] at h1; exact h1))
  have hu : Uniq (sgs a) ((([97, 98, 99, 100] : Tx).filter fun c => decide (c ∈ a)).map fun c : Nat => ([c] : Tx)) := ⟨hn, fun x => by
    constructor
    · intro hx
      obtain ⟨c, hc, rfl⟩ := List.mem_map.mp hx
      exact List.mem_map.mpr ⟨c, of_decide_eq_true (List.mem_filter.mp hc).2, rfl⟩
    · intro hx
      obtain ⟨c, hc, rfl⟩ := List.mem_map.mp hx
      refine List.mem_map.mpr ⟨c, List.mem_filter.mpr ⟨?_, decide_eq_true hc⟩, rfl⟩
      have := h c hc
      unfold abcd at this
      have h4 : c = 97 ∨ c = 98 ∨ c = 99 ∨ c = 100 := by omega
      rcases h4 with rfl | rfl | rfl | rfl <;> decide⟩
  have h1 := setS_uniq hu
  have h2 := ((sortT_perm ((([97, 98, 99, 100] : Tx).filter fun c => decide (c ∈ a)).map fun c : Nat => ([c] : Tx))).symm).eq_of_pairwise (fun x y _ _ h1 h2 => List.le_antisymm h1 h2) (hpw.imp fun h => List.le_of_lt h) (sortT_pw _)
  exact h2.trans h1
section
variable {P : Program} {w : World} {K : PySem.W.Frag} {mg : Str → Option Value} {base : Heap}
def sp_law_right : Sp := fun vs H Q _ => ∃ (fa : Addr), vs = [.ref fa] ∧ GF fa 24000 H ∧ ∀ H', Rf fa 24000 H H' → Q (.bl true) H'
theorem ok__law_right {f : Addr} {fd : FuncData} (F : Fun K "_law_right" "_law_right" st__law_right f fd) (M : Md K mg) (C__law_lot : Cal P w K mg base "_law_lot" st__law_lot 4 ["feed", "most"] sp_lot) (C__law_so : Cal P w K mg base "_law_so" st__law_so 1 ["actual", "due"] sp_law_so) (C__law_is : Cal P w K mg base "_law_is" st__law_is 1 ["actual", "due"] sp_law_is) (C_is_lot : Cal P w K mg base "is_lot" st_is_lot 4 ["thing"] sp_lot_form) (C__law_is_right : Cal P w K mg base "_law_is_right" st__law_is_right 1 ["thing"] sp_law_right_lot) (C__law_near : Cal P w K mg base "_law_near" st__law_near 3 ["feed", "lot"] sp_near)
    (C_signs_of : Cal P w K mg base "signs_of" st_signs_of 5 ["lot"] sp_signs_of) (C_longest : Cal P w K mg base "longest" st_longest 5 ["lot"] sp_longest) (C__law_together : CalG P w K mg base "_law_together" st__law_together 7 ["feed", "lot"] sp_law_together) (C__law_text_right : Cal P w K mg base "_law_text_right" st__law_text_right 5 ["text"] sp_text_right) (C__law_grown : Cal P w K mg base "_law_grown" st__law_grown 4 ["feed", "most"] sp_grown) : FnOkG P w K mg base 8 f fd ["feed"] sp_law_right := by
  have nd := sc__law_right.nd
  refine Fun.okG F sc__law_right (fun vs H Q E h => ?_) (fun cdv A outer s H vs Q E hr hgd h => ?_)
  · obtain ⟨_, rfl, _⟩ := h
    rfl
  · obtain ⟨fa, rfl, G, k⟩ := h
    refine ⟨_, (pss_cons (ps_set (i := 1) nd rfl (Or.inr rfl) (pe_cl C__law_lot hr (pa_cons (pv 0) (pa_cons pe_int pa_nil))))
  (pss_cons (ps_if (PW.pt (pw_or (pt_not (pt_val (pe_cl C__law_so hr (pa_cons (pe_cl C_is_lot hr (pa_cons (pv 1) pa_nil)) (pa_cons pe_bl pa_nil))))) (pw_or1 (pt_not (pt_val (pe_cl C__law_is_right hr (pa_cons (pv 1) pa_nil)))))))
  (pss_one (ps_ret pe_bl))
  pss_nil)
  (pss_cons (ps_for PassesOwn.never rfl (pi_range1 (by rfl) M.n_range (pa_cons pe_int pa_nil)) (pg_name (i := 2) nd rfl (Or.inl rfl))
  (pss_cons (ps_set (i := 3) nd rfl (Or.inl rfl) (pe_cl C__law_near hr (pa_cons (pv 0) (pa_cons (pv 1) pa_nil))))
  (pss_one (ps_if (pt_not (pt_val (pe_cl C__law_so hr (pa_cons (pe_clK0 C_is_lot (kb_is_lot_0) hr (pk_cons (pv 3) pk_nil)) (pa_cons (pe_cl C__law_is_right hr (pa_cons (pv 3) pa_nil)) pa_nil)))))
  (pss_one (ps_ret pe_bl))
  pss_nil))))
  (pss_cons (ps_set (i := 4) nd rfl (Or.inl rfl) (kbm K (pe_bm PySem.F.plainAttrs_str PySem.F.slot_str_join PySem.F.type_str_join (kmt K (r := rJoinT) mt_joinT) (pe_sT []) (pa_cons (pe_lc (own := [("sign", 5)]) rfl nd (pi_str (pe_sT [97, 98, 99, 100])) (blkOk_by (N := N__law_right) (sc := defScope st__law_right) (by decide +kernel)) (fun _ _ _ _ _ => (pg_name (i := 5) nd rfl (Or.inl rfl))) (fun _ _ _ _ _ => (pts_one (pt_cmpR op_inT (pv 5) (kbm K (pe_bm PySem.F.plainAttrs_str PySem.F.slot_str_join PySem.F.type_str_join (kmt K (r := rJoinT) mt_joinT) (pe_sT []) (pa_cons (pv 1) pa_nil))) (by rfl)))) (fun _ _ _ _ _ => (pv 5))) pa_nil))))
  (pss_cons (ps_if (PW.pt (pw_or (pt_cmpR op_neT (pe_cl C_signs_of hr (pa_cons (pv 1) pa_nil)) (pv 4) (nomark _)) (pw_or (pt_cmpR op_neT (pe_clK0 C_signs_of (kb_signs_of_0) hr (pk_cons (pv 1) pk_nil)) (pv 4) (nomark _)) (pw_or1 (pt_not (pt_val (pe_cl C__law_is hr (pa_cons (pe_clK0 C_longest (kb_longest_0) hr (pk_cons (pv 1) pk_nil)) (pa_cons (pe_callB (kcr K (r := rMax) (cr_max rfl)) (by rfl) M.n_max boot_max (pa_cons (pe_lc (own := [("word", 6)]) rfl nd (kit K (pi_tup (pv 1))) (blkOk_by (N := N__law_right) (sc := defScope st__law_right) (by decide +kernel)) (fun _ _ _ _ _ => (pg_name (i := 6) nd rfl (Or.inl rfl))) (fun _ _ _ _ _ => pts_nil) (fun _ _ _ _ _ => (pe_callB cr_lenT (by rfl) M.n_len boot_len (pa_cons (pv 6) pa_nil)))) pa_nil)) pa_nil)))))))))
  (pss_one (ps_ret pe_bl))
  pss_nil)
  (pss_cons (ps_if (pt_not (pt_val (pe_clG C__law_together hr hgd (pa_cons (pv 0) (pa_cons (pv 1) pa_nil)))))
  (pss_one (ps_ret pe_bl))
  pss_nil)
  (pss_cons (ps_for PassesOwn.never rfl (pi_range1 (by rfl) M.n_range (pa_cons pe_int pa_nil)) (pg_name (i := 2) nd rfl (Or.inl rfl))
  (pss_one (ps_if (pt_not (pt_val (pe_cl C__law_text_right hr (pa_cons (pe_cl C__law_grown hr (pa_cons (pv 0) (pa_cons (pe_ifExp (pt_cmpR op_eqI (pv 2) pe_int (nomark _)) pe_int pe_int) pa_nil))) pa_nil))))
  (pss_one (ps_ret pe_bl))
  pss_nil)))
  (pss_one (ps_ret (pe_cl C__law_text_right hr (pa_cons (pe_sT []) pa_nil))))))))))), ?_⟩
    refine q_asgA (l_call (a_ev (ev_var rfl) fun Ha ea => a_c (a_nil ⟨fa, 12, rfl, by decide, by decide, (G.ex ea).mono (by omega), fun p lot H1 hLot hlen hp R1 h1 => ?_⟩)))
    have RA := Rf.pre ea R1
    have GA : GF fa 4000 H1 := G.go RA (by omega)
    have npf : p ≠ fa := (G.ex ea).new hp
    clear hp R1 ea
    have hfew := hLot.few
    have hsl : ∀ t ∈ lot, SmT t := fun t ht => smT_abcd (by have := (hLot.wd t ht).1; omega) (hLot.wd t ht).2
    have hSmL : SmL (some (lot.map some)) := ⟨by rw [List.length_map]; omega, fun t ht => by
      obtain ⟨u, hu, hz⟩ := List.mem_map.mp ht
      cases hz
      exact hsl t hu⟩
    show tSeq _ _ _ [some (.ref fa), some (.ref p), none, none, none, none, none] H1
    refine q_when (b := false) (et_is (et_or (a := false) (b := false) (et_is (et_not (et_B (ev_call (z := .bl (decide (lotB (some (lot.map some)) = true))) (ea_cons (ev_call (z := .bl (lotB (some (lot.map some)))) (ea_cons (ev_var rfl) ea_nil) fun H2 e2 Q q E => ⟨.ref p, some (lot.map some), rfl, .tup (e2 _ _ h1) (all2_some lot), hSmL.sm, q⟩) (ea_cons ev_c ea_nil)) fun H2 e2 Q q E => ⟨_, _, rfl, q⟩))) (by rw [decide_eq_true (lot_lotB hLot)]; rfl)) fun _ => et_is (et_not (et_B (ev_call (z := .bl (lotB (some (lot.map some)))) (ea_cons (ev_var rfl) ea_nil) fun H2 e2 Q q E => ⟨.ref p, some (lot.map some), rfl, .tup (e2 _ _ h1) (all2_some lot), hSmL, q⟩))) (by rw [lot_lotB hLot]; rfl)) rfl) (fun z => by cases z) (fun _ H2 e2 => ?_)
    have RB := RA.then e2
    have h2 := e2 _ _ h1
    clear h1 RA e2
    refine q_forW (fun c => c = fa) (src_range1 (n := 9) (ea_cons ev_c ea_nil) (by decide)) ?_
      (fun Hs i σ' H' => ∃ (v2 v3 : Option V), σ' = [some (.ref fa), some (.ref p), v2, v3, none, none, none] ∧ Exc (fun c => c = fa) Hs H' ∧ Rf fa (20000 + 10 * i) H H') ?_ ?_ ?_ ?_ ?_
    · rintro c rfl
      exact ⟨(G.go RB (m' := 0) (by omega)).is, fun z => z⟩
    · intro Hs e
      exact ⟨none, none, rfl, Exc.refl _, RB.then e⟩
    · rintro Hs i σ' H' ⟨_, _, _, h, _⟩
      exact h
    · rintro Hs i σ' Ha Hb ⟨v2, v3, g0, g1, g2⟩ e
      exact ⟨v2, v3, g0, g1.then e, g2.then e⟩
    · rintro Hs i x σ' H3 e hi ⟨v2, v3, rfl, g1, g2⟩ rfl
      have h3 : H3 p = some (.tup (lot.map T)) := g1 _ _ npf (e _ _ h2)
      refine q_asgA (l_call (a_ev (ev_var rfl) fun Ha ea => a_ev (ev_var rfl) fun Hb eb => a_nil ⟨fa, p, lot, rfl, ((G.go g2 (m' := 100) (by omega)).ex (ea.trans eb)).mono (by omega), ⟨(ea.trans eb) _ _ h3, hLot⟩, fun v H4 gx R4 => ?_⟩))
      obtain ⟨o, ho, hso⟩ := gx
      have hv : Th H4 v o := ho.ex (hidF_ex fa H4)
      show tIfS _ _ _ _ [some (.ref fa), some (.ref p), some (.int (i : Int)), some v, none, none, none] H4
      refine s_when (b := false) (et_is (et_not (et_B (ev_call (z := .bl (decide (lotB o = lotB o))) (ea_cons (ev_callK0 (z := .bl (lotB o)) (ea_cons (ev_var rfl) ea_nil) fun H5 e5 Q q E => ⟨v, o, rfl, hv.ex e5, hso.sm, q⟩) (ea_cons (ev_call (z := .bl (lotB o)) (ea_cons (ev_var rfl) ea_nil) fun H5 e5 Q q E => ⟨v, o, rfl, hv.ex e5, hso, q⟩) ea_nil)) fun H5 e5 Q q E => ⟨_, _, rfl, q⟩))) (by rw [decide_eq_true rfl]; rfl)) (fun z => by cases z) (fun _ H5 e5 => ?_)
      exact ⟨_, _, rfl, ((g1.then (ea.trans eb)).trans R4.keep).then e5, (((g2.then (ea.trans eb)).trans R4).then e5).mono (by omega)⟩
    rintro Hs σ' H3 e ⟨v2, v3, rfl, g1, g2⟩
    have h3 : H3 p = some (.tup (lot.map T)) := g1 _ _ npf (e _ _ h2)
    have hb := flat_bound hLot
    have hfl : ∀ c ∈ lot.flatten, abcd c := fun c hc => by
      obtain ⟨t, ht, hct⟩ := List.mem_flatten.mp hc
      exact (hLot.wd t ht).2 c hct
    have hsgl : Ev (tBM K "str" (rJoinT K) (tC (T [])) (tCons (tLc (iStr (tC (T [97, 98, 99, 100]))) (gName 5) (tTest (tOp rInT (tVar 5) (tBM K "str" (rJoinT K) (tC (T [])) (tCons (tVar 1) tNil)))) (tVar 5) [5]) tNil)) [some (.ref fa), some (.ref p), v2, v3, none, none, none] H3 (T (signL lot)) := by
      refine ev_is (w := T (signL lot)) (ev_bmTL ev_c (xs := ((([97, 98, 99, 100] : Tx).filter fun c => decide (c ∈ lot.flatten)).map fun c : Nat => ([c] : Tx)).map T) ?_ fun q H4 hq e4 => rm_join (.inl (sq_of hq)) ?_) ?_
      · rw [List.map_map]
        exact el_lcF (j := 5) (vs := [5]) (f := fun c : Nat => T [c]) (g := fun c : Nat => T [c]) (p := fun c => decide (c ∈ lot.flatten)) ([97, 98, 99, 100] : Tx) (src_str (a := [97, 98, 99, 100]) ev_c) (by decide) (fun _ => rfl) (fun c H4 e4 hc => et_test (ev_op (ev_var rfl) (ev_joinU (i := 1) rfl (e4 _ _ h3) (by omega)) rv_inT)) (fun c H4 e4 hc _ => ev_var rfl)
      · refine Nat.le_trans (sum_le (m := 1) fun x hx => ?_) ?_
        · obtain ⟨c, _, rfl⟩ := List.mem_map.mp hx
          exact Nat.le_refl _
        · rw [List.length_map]
          have : (([97, 98, 99, 100] : Tx).filter fun c => decide (c ∈ lot.flatten)).length ≤ 4 := List.length_filter_le _ _
          omega
      · rw [sign_row hfl]
        rfl
    refine q_asg hsgl fun H4 e4 => ?_
    have h4 := e4 _ _ h3
    have hL4 : LotAt p lot H4 := ⟨h4, hLot⟩
    show tSeq _ _ _ [some (.ref fa), some (.ref p), v2, v3, some (T (signL lot)), none, none] H4
    refine q_when (b := false) (et_is (et_or (a := false) (b := false) (et_is (et_test (ev_op (ev_call (z := T (signL lot)) (ea_cons (ev_var rfl) ea_nil) fun H5 e5 Q q E => ⟨p, lot, rfl, hL4.ex e5, q⟩) (ev_var rfl) rv_neT)) (by rw [decide_eq_true rfl]; rfl)) fun _ => et_is (et_or (a := false) (b := false) (et_is (et_test (ev_op (ev_callK0 (z := T (signL lot)) (ea_cons (ev_var rfl) ea_nil) fun H5 e5 Q q E => ⟨p, lot, rfl, hL4.ex e5, q⟩) (ev_var rfl) rv_neT)) (by rw [decide_eq_true rfl]; rfl)) fun _ => et_is (et_not (et_B (ev_call (z := .bl (decide (((longL lot : Nat) : Int) = ((longL lot : Nat) : Int)))) (ea_cons (ev_callK0 (z := .int ((longL lot : Nat) : Int)) (ea_cons (ev_var rfl) ea_nil) fun H5 e5 Q q E => ⟨p, lot, rfl, hL4.ex e5, q⟩) (ea_cons (ev_maxLen (i := 1) (j := 6) rfl hL4 (fun _ => rfl) (fun _ => rfl)) ea_nil)) fun H5 e5 Q q E => ⟨_, _, rfl, q⟩))) (by rw [decide_eq_true rfl]; rfl)) rfl) rfl) (fun z => by cases z) (fun _ H5 e5 => ?_)
    have RC := (g2.then e4).then e5
    have h5 := e5 _ _ h4
    refine q_ifA (t_notA (t_B (l_call (a_ev (ev_var rfl) fun Ha ea => a_ev (ev_var rfl) fun Hb eb => a_nil ⟨fa, p, lot, rfl, ((G.go RC (m' := 200) (by omega)).ex (ea.trans eb)).mono (by omega), ⟨(ea.trans eb) _ _ h5, hLot⟩, fun H6 R6 => ⟨true, rfl, ?_⟩⟩))))
    rw [if_neg (by decide)]
    have RD : Rf fa 20200 H H6 := ((RC.then (ea.trans eb)).trans R6).mono (by omega)
    clear R6 eb ea RC h5 h4 hL4 e5 e4 hsgl g1 g2 h3 h2 RB e
    refine q_forW (fun c => c = fa) (src_range1 (n := 3) (ea_cons ev_c ea_nil) (by decide)) ?_
      (fun Hs i σ' H' => ∃ (v2 : Option V), σ' = [some (.ref fa), some (.ref p), v2, v3, some (T (signL lot)), none, none] ∧ Exc (fun c => c = fa) Hs H' ∧ Rf fa (20200 + 1000 * i) H H') ?_ ?_ ?_ ?_ ?_
    · rintro c rfl
      exact ⟨(G.go RD (m' := 0) (by omega)).is, fun z => z⟩
    · intro Hs e
      exact ⟨v2, rfl, Exc.refl _, RD.then e⟩
    · rintro Hs i σ' H' ⟨_, _, h, _⟩
      exact h
    · rintro Hs i σ' Ha Hb ⟨v2, g0, g1, g2⟩ e
      exact ⟨v2, g0, g1.then e, g2.then e⟩
    · rintro Hs i x σ' H7 e hi ⟨v2, rfl, g1, g2⟩ rfl
      show tIfS _ _ _ _ [some (.ref fa), some (.ref p), some (.int (i : Int)), v3, some (T (signL lot)), none, none] H7
      refine s_ifA (t_notA (t_B (l_call (a_any (l_call (a_ev (ev_var rfl) fun Ha ea => a_ev (ev_if (v := .int ((if i = 0 then 400 else 40 : Nat) : Int)) (b := decide ((i : Int) = 0)) (et_test (ev_op (ev_var rfl) ev_c rv_I0)) (fun hb => ?_) (fun hb => ?_)) fun Hb eb => a_nil ⟨fa, (if i = 0 then 400 else 40), rfl, ((G.go g2 (m' := 1000) (by omega)).ex (ea.trans eb)), by split <;> omega, fun t H8 ht R8 => a_nil ⟨t, rfl, ht, fun H9 e9 => ⟨true, rfl, ?_⟩⟩⟩))))))
      · have := of_decide_eq_true hb
        rw [if_pos (by omega)]
        exact ev_c
      · have := of_decide_eq_false hb
        rw [if_neg (by omega)]
        exact ev_c
      · rw [if_neg (by decide)]
        exact ⟨_, rfl, ((g1.then (ea.trans eb)).trans R8.keep).then e9, (((g2.then (ea.trans eb)).trans R8).then e9).mono (by omega)⟩
    · rintro Hs σ' H7 e ⟨v2, rfl, g1, g2⟩
      exact s_ret (ev_call (ea_cons ev_c ea_nil) fun H8 e8 Q q E => ⟨[], rfl, ⟨Nat.zero_le _, fun c hc => (nomatch hc)⟩, q⟩) fun H8 e8 => k H8 ((g2.then e8).mono (by omega))
def sp_law (K : PySem.W.Frag) : Sp := fun vs H Q _ => ∃ (a : Addr) (ns : List Int) (e : Nat), vs = [.ref a] ∧ SqL K H a (ns.map V.int) ∧ ns.length ≤ 63 ∧ 1 ≤ e ∧ e ≤ 1100000 ∧ (∀ z ∈ ns, z.natAbs < 2 ^ e) ∧ ∀ H', Q (.bl true) H'
theorem ok_law {f : Addr} {fd : FuncData} (F : Fun K "law" "law" st_law f fd) (M : Md K mg) (C__law_feed : Cal P w K mg base "_law_feed" st__law_feed 1 ["script", "k"] (sp_feed K)) (C__law_right : CalG P w K mg base "_law_right" st__law_right 8 ["feed"] sp_law_right) : FnOkG P w K mg base 9 f fd ["script"] (sp_law K) := by
  have nd := sc_law.nd
  refine Fun.okG F sc_law (fun vs H Q E h => ?_) (fun cdv A outer s H vs Q E hr hgd h => ?_)
  · obtain ⟨_, _, _, rfl, _⟩ := h
    rfl
  · obtain ⟨a, ns, e, rfl, hS, hlen, he1, he2, hz, k⟩ := h
    refine ⟨_, (pss_cons (ps_for PassesOwn.never rfl (pi_range1 (by rfl) M.n_range (pa_cons (pe_callB (call_max2 rfl) (by rfl) M.n_max boot_max (pa_cons pe_int (pa_cons (pe_callB (call_min2 rfl) (by rfl) M.n_min boot_min (pa_cons (pe_callB (kcr K (r := rLenS) call_len_seq) (by rfl) M.n_len boot_len (pa_cons (pv 0) pa_nil)) (pa_cons pe_int pa_nil))) pa_nil))) pa_nil)) (pg_name (i := 1) nd rfl (Or.inl rfl))
  (pss_one (ps_if (pt_not (pt_val (pe_clG C__law_right hr hgd (pa_cons (pe_cl C__law_feed hr (pa_cons (pv 0) (pa_cons (pv 1) pa_nil))) pa_nil))))
  (pss_one (ps_ret pe_bl))
  pss_nil)))
  (pss_one (ps_ret pe_bl))), ?_⟩
    obtain ⟨n, hn6, hn⟩ : ∃ n : Nat, n ≤ 4 ∧ (if (if (4 : Int) < ((ns.map V.int).length : Int) then (4 : Int) else ((ns.map V.int).length : Int)) > 1 then (if (4 : Int) < ((ns.map V.int).length : Int) then (4 : Int) else ((ns.map V.int).length : Int)) else 1) = (n : Int) := by
      refine ⟨max 1 (min ns.length 4), by omega, ?_⟩
      rw [List.length_map]
      split <;> split <;> omega
    have hcnt : EvA (tCons (tCB rMax2 (tCons (tC (.int 1)) (tCons (tCB rMin2 (tCons (tCB (rLenS K) (tCons (tVar 0) tNil)) (tCons (tC (.int 4)) tNil))) tNil))) tNil) (start N_law [.ref a]) H [.int (n : Int)] :=
      ea_cons (ev_is (ev_max2 ev_c (ev_min2 (ev_len (ev_var rfl) hS) ev_c)) (by rw [hn])) ea_nil
    refine q_forW (fun _ => False) (src_range1 (n := n) hcnt (by omega)) (fun _ z => z.elim)
      (fun Hs i σ' H' => ∃ v1 : Option V, σ' = [some (.ref a), v1] ∧ Ex Hs H') ?_ ?_ ?_ ?_ ?_
    · intro Hs e
      exact ⟨none, rfl, Ex.refl _⟩
    · rintro Hs i σ' H' ⟨_, _, h1⟩
      exact .of h1
    · rintro Hs i σ' Ha Hb ⟨v1, h0, h1⟩ e
      exact ⟨v1, h0, h1.trans e⟩
    · rintro Hs i x σ' H' e0 hi ⟨v1, rfl, h1⟩ rfl
      have eA : Ex H H' := e0.trans h1
      show tIfS _ _ _ _ [some (.ref a), some (.int (i : Int))] H'
      refine s_ifA (t_notA (t_B (l_call (a_any (l_call (a_ev (ev_var rfl) fun Ha ea => a_ev (ev_var rfl) fun Hb eb => a_nil ⟨a, ns, i, e, rfl, ex_l (eA.trans (ea.trans eb)) hS, by omega, he1, he2, hz, fun fa H2 hfa e2 hF => a_nil ⟨fa, rfl, ⟨0, by decide, hF⟩, fun H3 R3 => ⟨true, rfl, ?_⟩⟩⟩))))))
      rw [if_neg (by decide)]
      have eB := (ea.trans eb).trans e2
      have hfa' : H' fa = none := fresh_back (ea.trans eb) hfa
      exact ⟨_, rfl, h1.trans (ex_of_exc eB hfa' R3.keep)⟩
    · rintro Hs σ' H' e0 ⟨v1, rfl, h1⟩
      exact s_ret ev_c fun H2 e2 => k H2
end
end K01
set_option Elab.async false
set_option linter.all false
set_option maxRecDepth 100000
set_option maxHeartbeats 2000000
set_option exponentiation.threshold 5000
namespace K01
open PySem PySem.Spec PyProof.Rows L2 Evl Wc
section
variable {P : Program} {w : World} {K : PySem.W.Frag} {mg : Str → Option Value} {base : Heap}
theorem ok__law_feed {f : Addr} {fd : FuncData} (F : Fun K "_law_feed" "_law_feed" st__law_feed f fd) (M : Md K mg) : FnOk P w K mg base CX0 1 f fd ["script", "k"] (sp_feed K) := by
  have nd := sc__law_feed.nd
  refine F.ok sc__law_feed (fun vs H Q E h => ?_) (fun cdv A outer s H vs Q E hr h => ?_)
  · obtain ⟨_, _, _, _, rfl, _⟩ := h
    rfl
  · obtain ⟨a, ns, k, e, rfl, hS, hk, he1, he2, hz, kk⟩ := h
    refine ⟨_, (pss_cons (ps_set (i := 2) nd rfl (Or.inl rfl) (pe_op op_add (pe_op op_mulB pe_int (pv 1)) (pe_callB (kcr K (r := rSum) (cr_sum rfl)) (by rfl) M.n_sum boot_sum (pa_cons (pe_slice (ksl K (r := rSlL) sl_list) (pv 0) po_none (po_some pe_int)) pa_nil))))
  (pss_cons (ps_if (pt_cmpR op_lt (pv 1) (pe_callB (kcr K (r := rLenS) call_len_seq) (by rfl) M.n_len boot_len (pa_cons (pv 0) pa_nil)) (nomark _))
  (pss_one (ps_set (i := 2) nd rfl (Or.inl rfl) (pe_ix (kix K (r := L2.rIxL) ix_list) (pv 0) (pv 1) (fun _ _ => rfl))))
  pss_nil)
  (pss_one (ps_ret (pe_lst (pa_cons (pe_callB (call_max2 rfl) (by rfl) M.n_max boot_max (pa_cons pe_int (pa_cons (pe_op op_sub (pv 2) (pe_op op_pow pe_int pe_int)) pa_nil))) (pa_cons (pe_op op_modP (pe_callTy call_int1 (by rfl) M.n_int boot_int (pa_cons (pe_op op_add (pe_op op_mulB (pv 2) pe_int) (pe_op op_mulB pe_int (pv 1))) pa_nil)) (pe_op op_add (pe_op op_pow pe_int pe_int) pe_int)) (pa_cons pe_int pa_nil)))))))), ?_⟩
    have hsum : Ev (tCB (rSum K) (tCons (tSl (rSlL K) (tVar 0) tNoPart (tPart (tC (.int 1)))) tNil)) (start N__law_feed [.ref a, .int (k : Int)]) H (.int (ns.take 1).sum) := by
      refine ev_cbL (el_sl (ev_var rfl) eo_none (eo_some ev_c) hS) fun p H1 hp e1 => rc_sum (ns := ns.take 1) (sq_of ?_)
      have ec : cutV (ns.map V.int) none (some 1) = (ns.take 1).map V.int := by
        rw [List.map_take]
        exact cutV_to _ 1
      rw [hp, ec]
    have hs1 : (ns.take 1).sum.natAbs < 2 ^ e := by
      cases ns with
      | nil => exact Nat.pow_pos (by decide)
      | cons z r =>
        have := hz z List.mem_cons_self
        simpa using this
    refine q_asg (ev_op (ev_op ev_c (ev_var rfl) (rv_I (mulB (a := 20) (b := 20) (by decide) (by simp; omega) (by decide) (by decide) (by decide)))) hsum rv_I0) fun H1 e1 => ?_
    -- what cell is behind the if
    have rest : ∀ (cell : Int) H2, Ex H H2 → cell.natAbs < 2 ^ (e + 72) → ∀ {tz : TS}, (∀ {te : TE}, EvL te [some (.ref a), some (.int (k : Int)), some (.int cell)] H2 [.int (if cell - 10 ^ (18 : Int).toNat > 0 then cell - 10 ^ (18 : Int).toNat else 0), .int ((cell * 19 + 7 * (k : Int)) % (10 ^ (39 : Int).toNat + 23)), .int 0] → tRet te { nx := fun _ H' => Q .non H', rt := Q } [some (.ref a), some (.int (k : Int)), some (.int cell)] H2) := fun cell H2 e2 hc {tz te} h => by
      refine s_retL h fun fa H3 nfa e3 hfa => kk fa H3 (fresh_back e2 nfa) (e2.trans e3) ?_
      have hd : (cell + -(10 : Int) ^ (18 : Int).toNat).natAbs < 2 ^ (e + 72 + 72) := pow_add_small hc (by decide)
      refine ⟨_, _, _, e + 144, hfa, ?_, by omega, by omega, ?_, Int.emod_nonneg _ (by decide), Int.lt_trans (Int.emod_lt_of_pos _ (by decide)) (by decide), Int.le_refl _, Int.le_refl _⟩
      · split
        · omega
        · exact Int.le_refl _
      · split
        · rw [Int.sub_eq_add_neg]
          exact hd
        · exact Nat.pow_pos (by decide)
    have hfin : ∀ (cell : Int) H2, Ex H H2 → cell.natAbs < 2 ^ (e + 72) → EvL _ [some (.ref a), some (.int (k : Int)), some (.int cell)] H2 [.int (if cell - 10 ^ (18 : Int).toNat > 0 then cell - 10 ^ (18 : Int).toNat else 0), .int ((cell * 19 + 7 * (k : Int)) % (10 ^ (39 : Int).toNat + 23)), .int 0] := fun cell H2 e2 hc =>
      el_lst (ea_cons (ev_max2 ev_c (ev_op (ev_var (i := 2) rfl) (ev_op ev_c ev_c (rv_I (C := CPow) (g := fun i j => .int (i ^ j.toNat)) ⟨by decide, by decide, by decide⟩)) (rv_I0 (g := fun i j => .int (i - j))))) (ea_cons (ev_op (ev_cb (ea_cons (ev_op (ev_op (ev_var (i := 2) rfl) ev_c (rv_I (C := CMulB) (g := fun i j => .int (i * j)) (mulB hc (b := 10) (by decide) (by omega) (by decide) (by omega)))) (ev_op ev_c (ev_var (i := 1) rfl) (rv_I (C := CMulB) (g := fun i j => .int (i * j)) (mulB (a := 20) (b := 20) (by decide) (by simp; omega) (by decide) (by decide) (by decide)))) (rv_I0 (g := fun i j => .int (i + j)))) ea_nil) rc_int)
        (ev_op (ev_op ev_c ev_c (rv_I (C := CPow) (g := fun i j => .int (i ^ j.toNat)) ⟨by decide, by decide, by decide⟩)) ev_c (rv_I0 (g := fun i j => .int (i + j)))) (rv_I (C := fun _ j => 0 < j) (g := fun i j => .int (i % j)) (by decide))) (ea_cons ev_c ea_nil))) (by show 3 ≤ 100000; decide)
    refine q_when (et_test (ev_op (ev_var rfl) (ev_len (ev_var rfl) (ex_l e1 hS)) rv_I0)) (fun hb H2 e2 => ?_) (fun hb H2 e2 => ?_)
    · have hlt : k < ns.length := by
        have := of_decide_eq_true hb
        rw [List.length_map] at this
        omega
      refine s_asg (v := .int ns[k]) (ev_op (ev_var rfl) (ev_var rfl) (rv_ixL (ex_l (e1.trans e2) hS) (atI_nat (by rw [List.getElem?_map, List.getElem?_eq_getElem hlt]; rfl)))) fun H3 e3 => ?_
      exact rest ns[k] H3 ((e1.trans e2).trans e3) (Nat.lt_of_lt_of_le (hz _ (List.getElem_mem hlt)) (Nat.pow_le_pow_right (by decide) (by omega))) (tz := tNext) (hfin ns[k] H3 ((e1.trans e2).trans e3) (Nat.lt_of_lt_of_le (hz _ (List.getElem_mem hlt)) (Nat.pow_le_pow_right (by decide) (by omega))))
    · have hc : (977 * (k : Int) + (ns.take 1).sum).natAbs < 2 ^ (e + 72) := by
        rw [Int.add_comm]
        refine pow_add_small hs1 (Nat.le_trans (show (977 * (k : Int)).natAbs ≤ 1000000 by omega) (by decide))
      exact rest _ H2 (e1.trans e2) hc (tz := tNext) (hfin _ H2 (e1.trans e2) hc)
end
end K01
set_option Elab.async false
set_option linter.all false
set_option maxRecDepth 100000
set_option maxHeartbeats 2000000
namespace K01
open PySem PySem.Spec PyProof.Rows L2 Evl Wc Wt Wg Ws Wr We _root_.Wd
/-- a def of the top, as it stands -/
def Top (K : PySem.W.Frag) (x : Str) (st : Stmt) : Prop := ∃ (f : Addr) (oc : Value) (od an : Option Addr) (osl : Array (Option Value)) (kV doc pm cdv ct : Value), PySem.W.nsIn K mainGlobals x = some (some (.ref f)) ∧ K.lookup f = some ⟨oc, od, .func (PySem.W.fnOf x x (defArgs st) (defBody st) (defScope st) .none kV doc pm an cdv ct), osl⟩ ∧ PySem.W.codeIn K cdv x = true ∧ PySem.W.keepIn K (.ref f) = true
theorem top_mk {K : PySem.W.Frag} {x : Str} {st : Stmt} {f : Addr} {oc : Value} {od an : Option Addr} {osl : Array (Option Value)} {kV doc pm cdv ct : Value} (a : PySem.W.nsIn K mainGlobals x = some (some (.ref f))) (l : K.lookup f = some ⟨oc, od, .func (PySem.W.fnOf x x (defArgs st) (defBody st) (defScope st) .none kV doc pm an cdv ct), osl⟩) (c : PySem.W.codeIn K cdv x = true) (k : PySem.W.keepIn K (.ref f) = true) : Top K x st := ⟨f, oc, od, an, osl, kV, doc, pm, cdv, ct, a, l, c, k⟩
section
variable {P : Program} {w : World} {K : PySem.W.Frag} {mg : Str → Option Value} {base h : Heap} {x : Str} {st : Stmt} {k : Nat} {ps : List Str} {sp : Sp}
theorem Top.cal (T : Top K x st) (X : K.In h) (G : h.Ns mainGlobals mg)
    (hb : ∀ (kV doc pm : Value) (an : Option Addr) (cdv ct : Value) (us : List Value), us.length = ps.length → bindArgs (PySem.W.fnOf x x (defArgs st) (defBody st) (defScope st) .none kV doc pm an cdv ct) ⟨us, []⟩ = pure (ps.zip us))
    (ok : ∀ f fd, Fun K x x st f fd → FnOk P w K mg base CX0 k f fd ps sp) : Cal P w K mg base x st k ps sp := by
  obtain ⟨f, oc, od, an, osl, kV, doc, pm, cdv, ct, a, l, c, k⟩ := T
  have F := fun_mk (st := st) l c k
  exact ⟨f, _, ok _ _ F, PySem.W.mg_of X G a, F, F.binds hb⟩
theorem Top.calG (T : Top K x st) (X : K.In h) (G : h.Ns mainGlobals mg)
    (hb : ∀ (kV doc pm : Value) (an : Option Addr) (cdv ct : Value) (us : List Value), us.length = ps.length → bindArgs (PySem.W.fnOf x x (defArgs st) (defBody st) (defScope st) .none kV doc pm an cdv ct) ⟨us, []⟩ = pure (ps.zip us))
    (ok : ∀ f fd, Fun K x x st f fd → FnOkG P w K mg base k f fd ps sp) : CalG P w K mg base x st k ps sp := by
  obtain ⟨f, oc, od, an, osl, kV, doc, pm, cdv, ct, a, l, c, k⟩ := T
  have F := fun_mk (st := st) l c k
  exact ⟨f, _, ok _ _ F, PySem.W.mg_of X G a, F, F.binds hb⟩
theorem Top.calS (T : Top K x st) (X : K.In h) (G : h.Ns mainGlobals mg)
    (hb : ∀ (kV doc pm : Value) (an : Option Addr) (cdv ct : Value) (us : List Value), us.length = ps.length → bindArgs (PySem.W.fnOf x x (defArgs st) (defBody st) (defScope st) .none kV doc pm an cdv ct) ⟨us, []⟩ = pure (ps.zip us))
    (ok : ∀ f fd, Fun K x x st f fd → FnOk P w K mg base (L2.CX P w) k f fd ps sp) : CalS P w K mg base x st k ps sp := by
  obtain ⟨f, oc, od, an, osl, kV, doc, pm, cdv, ct, a, l, c, k⟩ := T
  have F := fun_mk (st := st) l c k
  exact ⟨f, _, ok _ _ F, PySem.W.mg_of X G a, F, F.binds hb⟩
/-- .. by its address, its name a value -/
theorem Top.at_ (T : Top K x st) (X : K.In h) (G : h.Ns mainGlobals mg)
    (hb : ∀ (kV doc pm : Value) (an : Option Addr) (cdv ct : Value) (us : List Value), us.length = ps.length → bindArgs (PySem.W.fnOf x x (defArgs st) (defBody st) (defScope st) .none kV doc pm an cdv ct) ⟨us, []⟩ = pure (ps.zip us))
    (ok : ∀ f fd, Fun K x x st f fd → FnOk P w K mg base CX0 k f fd ps sp) : ∃ f, C8.CalAt P w K mg base k f sp ∧ ∃ u, mg x = some u ∧ RelV (.ref f) u := by
  obtain ⟨f, oc, od, an, osl, kV, doc, pm, cdv, ct, a, l, c, k⟩ := T
  have F := fun_mk (st := st) l c k
  exact ⟨f, ⟨_, ps, ok _ _ F, k, F.binds hb⟩, _, PySem.W.mg_of X G a, rfl⟩
/-- .. whatever its context -/
theorem Top.fn {CX : CXT} (T : Top K x st) (X : K.In h) (G : h.Ns mainGlobals mg)
    (hb : ∀ (kV doc pm : Value) (an : Option Addr) (cdv ct : Value) (us : List Value), us.length = ps.length → bindArgs (PySem.W.fnOf x x (defArgs st) (defBody st) (defScope st) .none kV doc pm an cdv ct) ⟨us, []⟩ = pure (ps.zip us))
    (ok : ∀ f fd, Fun K x x st f fd → FnOk P w K mg base CX k f fd ps sp) : ∃ f fd, FnOk P w K mg base CX k f fd ps sp ∧ Binds K fd ps [] ∧ mg x = some (.ref f) ∧ PySem.W.keepIn K (.ref f) = true := by
  obtain ⟨f, oc, od, an, osl, kV, doc, pm, cdv, ct, a, l, c, k⟩ := T
  have F := fun_mk (st := st) l c k
  exact ⟨f, _, ok _ _ F, F.binds hb, PySem.W.mg_of X G a, k⟩
/-- a method, as it stands -/
def TopM (K : PySem.W.Frag) (C : Addr) (m q : Str) (st : Stmt) : Prop := ∃ (f : Addr) (oc : Value) (od an : Option Addr) (osl : Array (Option Value)) (kV doc pm cdv ct : Value), PySem.W.findIn K (.ref C) m = some (some (.ref f)) ∧ PySem.W.isFn K (.ref f) = true ∧ K.lookup f = some ⟨oc, od, .func (PySem.W.fnOf m q (defArgs st) (defBody st) (defScope st) .none kV doc pm an cdv ct), osl⟩ ∧ PySem.W.codeIn K cdv q = true ∧ PySem.W.keepIn K (.ref f) = true
theorem topm_mk {C : Addr} {m q : Str} {f : Addr} {oc : Value} {od an : Option Addr} {osl : Array (Option Value)} {kV doc pm cdv ct : Value} (a : PySem.W.findIn K (.ref C) m = some (some (.ref f))) (i : PySem.W.isFn K (.ref f) = true) (l : K.lookup f = some ⟨oc, od, .func (PySem.W.fnOf m q (defArgs st) (defBody st) (defScope st) .none kV doc pm an cdv ct), osl⟩) (c : PySem.W.codeIn K cdv q = true) (k : PySem.W.keepIn K (.ref f) = true) : TopM K C m q st := ⟨f, oc, od, an, osl, kV, doc, pm, cdv, ct, a, i, l, c, k⟩
theorem TopM.met {C : Addr} {m q : Str} (T : TopM K C m q st) (cl : Cls K C)
    (hb : ∀ (kV doc pm : Value) (an : Option Addr) (cdv ct : Value) (us : List Value), us.length = ps.length → bindArgs (PySem.W.fnOf m q (defArgs st) (defBody st) (defScope st) .none kV doc pm an cdv ct) ⟨us, []⟩ = pure (ps.zip us))
    (ok : ∀ f fd, Fun K m q st f fd → FnOk P w K mg base CX0 k f fd ps sp) : C8.Met P w K mg base k C m sp [] := by
  obtain ⟨f, oc, od, an, osl, kV, doc, pm, cdv, ct, a, i, l, c, k⟩ := T
  have F := fun_mk (st := st) l c k
  exact ⟨f, _, ps, [], cl, ⟨a, i, k⟩, ok _ _ F, F.binds hb, .nil⟩
theorem TopM.mak {C : Addr} {q : Str} (T : TopM K C "__init__" q st) (X : K.In h) (G : h.Ns mainGlobals mg) (n : PySem.W.nsIn K mainGlobals x = some (some (.ref C))) (mk : PySem.W.makesIn K C = true) (kc : PySem.W.keepIn K (.ref C) = true)
    (hb : ∀ (kV doc pm : Value) (an : Option Addr) (cdv ct : Value) (us : List Value), us.length = ps.length → bindArgs (PySem.W.fnOf "__init__" q (defArgs st) (defBody st) (defScope st) .none kV doc pm an cdv ct) ⟨us, []⟩ = pure (ps.zip us))
    (ok : ∀ f fd, Fun K "__init__" q st f fd → FnOk P w K mg base CX0 k f fd ps sp) : Mak P w K mg base k C x sp := by
  obtain ⟨f, oc, od, an, osl, kV, doc, pm, cdv, ct, a, i, l, c, k⟩ := T
  have F := fun_mk (st := st) l c k
  exact ⟨f, _, ps, ⟨mk, a, i, kc⟩, ok _ _ F, F.binds hb, PySem.W.mg_of X G n⟩
end
theorem all_mk {l : PySem.W.OpenLaw} {w : World} {K : PySem.W.Frag} {h : Heap} {mg : Str → Option Value} {fa : Addr} (X : K.In h) (G : h.Ns mainGlobals mg) (hfa : mg "law" = some (.ref fa))
    (n_ValueError : PySem.W.nsIn K mainGlobals "ValueError" = some none)
    (n_all : PySem.W.nsIn K mainGlobals "all" = some none)
    (n_bool : PySem.W.nsIn K mainGlobals "bool" = some none)
    (n_int : PySem.W.nsIn K mainGlobals "int" = some none)
    (n_isinstance : PySem.W.nsIn K mainGlobals "isinstance" = some none)
    (n_len : PySem.W.nsIn K mainGlobals "len" = some none)
    (n_list : PySem.W.nsIn K mainGlobals "list" = some none)
    (n_max : PySem.W.nsIn K mainGlobals "max" = some none)
    (n_min : PySem.W.nsIn K mainGlobals "min" = some none)
    (n_range : PySem.W.nsIn K mainGlobals "range" = some none)
    (n_repr : PySem.W.nsIn K mainGlobals "repr" = some none)
    (n_set : PySem.W.nsIn K mainGlobals "set" = some none)
    (n_sorted : PySem.W.nsIn K mainGlobals "sorted" = some none)
    (n_str : PySem.W.nsIn K mainGlobals "str" = some none)
    (n_sum : PySem.W.nsIn K mainGlobals "sum" = some none)
    (n_tuple : PySem.W.nsIn K mainGlobals "tuple" = some none)
    (n_zip : PySem.W.nsIn K mainGlobals "zip" = some none)
    {t_c_SIGNS : Tok} (c_SIGNS : PySem.W.nsIn K mainGlobals "SIGNS" = some (some (.str (Str.ofString "abcd") t_c_SIGNS)))
    {t_c_MOST_SIGNS : Tok} (c_MOST_SIGNS : PySem.W.nsIn K mainGlobals "MOST_SIGNS" = some (some (.int 400 t_c_MOST_SIGNS)))
    {t_c_MOST_LETTERS : Tok} (c_MOST_LETTERS : PySem.W.nsIn K mainGlobals "MOST_LETTERS" = some (some (.int 12 t_c_MOST_LETTERS)))
    {t_c_MOST_WORDS : Tok} (c_MOST_WORDS : PySem.W.nsIn K mainGlobals "MOST_WORDS" = some (some (.int 12 t_c_MOST_WORDS)))
    {t_c_MOST_INDEXES : Tok} (c_MOST_INDEXES : PySem.W.nsIn K mainGlobals "MOST_INDEXES" = some (some (.int 400 t_c_MOST_INDEXES)))
    {CE CB : Addr}
    (aB : PySem.W.nsIn K mainGlobals "CutError" = some (some (.ref CB)))
    (aE : PySem.W.nsIn K mainGlobals "TooMany" = some (some (.ref CE)))
    (Ex1 : PySem.W.excIn K CE [.type "ValueError", .type "Exception", .type "BaseException", .type "object"] "ValueError.__new__" = true)
    (Ex2 : PySem.W.keepIn K (.ref CE) = true)
    (Ex3 : PySem.W.subIn K (.ref CE) (.type "BaseException") = some true)
    (Ex4 : PySem.W.typeIn K (.ref CE) = some (.type "type"))
    (Ex5 : PySem.W.subIn K (.ref CE) (.ref CE) = some true)
    (Ey1 : PySem.W.findIn K (.ref CE) "__getattribute__" = some (some (.builtin "BaseException.__getattribute__")))
    (Ey2 : PySem.W.findIn K (.ref CE) "__getattr__" = some none)
    (Ey3 : PySem.W.hasDictIn K CE = true)
    (Ey4 : PySem.W.findIn K (.ref CE) "__class__" = some (some (.builtin "object.__class__")))
    (Ey5 : PySem.W.specialIn K (.builtin "object.__class__") "__get__" = some (some (.builtin "getset_descriptor.__get__")))
    (Ey6 : PySem.W.takesIn K (.builtin "object.__class__") = some true)
    (Ey7 : PySem.W.mroIn K CE (.type "object") = some true)
    (keb : PySem.W.kitOne K (.ref CE) (.ref CB) = some true)
    (T__law_draw : Top K "_law_draw" st__law_draw)
    (T__law_one : Top K "_law_one" st__law_one)
    (T__law_text : Top K "_law_text" st__law_text)
    (T__law_feed : Top K "_law_feed" st__law_feed)
    (T__law_mixed : Top K "_law_mixed" st__law_mixed)
    (T__law_kept : Top K "_law_kept" st__law_kept)
    (T__law_split : Top K "_law_split" st__law_split)
    (T__law_joined : Top K "_law_joined" st__law_joined)
    (T__law_made : Top K "_law_made" st__law_made)
    (T__law_code : Top K "_law_code" st__law_code)
    (T__law_lot : Top K "_law_lot" st__law_lot)
    (T_are_signs : Top K "are_signs" st_are_signs)
    (T_is_text : Top K "is_text" st_is_text)
    (T_need_text : Top K "need_text" st_need_text)
    (T_need_some_text : Top K "need_some_text" st_need_some_text)
    (T_is_word : Top K "is_word" st_is_word)
    (T_is_ascending : Top K "is_ascending" st_is_ascending)
    (T_is_lot_form : Top K "is_lot_form" st_is_lot_form)
    (T_need_lot : Top K "need_lot" st_need_lot)
    (T_border_lengths : Top K "border_lengths" st_border_lengths)
    (T_root_in : Top K "root_in" st_root_in)
    (T_turns_in : Top K "turns_in" st_turns_in)
    (T_lyndon_parts : Top K "lyndon_parts" st_lyndon_parts)
    (T_is_integer : Top K "is_integer" st_is_integer)
    (T_is_within : Top K "is_within" st_is_within)
    (T_are_indexes : Top K "are_indexes" st_are_indexes)
    (T_need_indexes : Top K "need_indexes" st_need_indexes)
    (T_need_few_signs : Top K "need_few_signs" st_need_few_signs)
    (T_put_together : Top K "put_together" st_put_together)
    (T_is_lot : Top K "is_lot" st_is_lot)
    (T_signs_of : Top K "signs_of" st_signs_of)
    (T_longest : Top K "longest" st_longest)
    (T_borders : Top K "borders" st_borders)
    (T_periods : Top K "periods" st_periods)
    (T_root_of : Top K "root_of" st_root_of)
    (T_is_primitive : Top K "is_primitive" st_is_primitive)
    (T_turns_of : Top K "turns_of" st_turns_of)
    (T_least_turn : Top K "least_turn" st_least_turn)
    (T_lyndon : Top K "lyndon" st_lyndon)
    (T__law_so : Top K "_law_so" st__law_so)
    (T__law_is : Top K "_law_is" st__law_is)
    (T__law_list : Top K "_law_list" st__law_list)
    (T__law_borders : Top K "_law_borders" st__law_borders)
    (T__law_periods : Top K "_law_periods" st__law_periods)
    (T__law_turns : Top K "_law_turns" st__law_turns)
    (T__law_is_lyndon : Top K "_law_is_lyndon" st__law_is_lyndon)
    (T__law_is_right : Top K "_law_is_right" st__law_is_right)
    (T__law_near : Top K "_law_near" st__law_near)
    (T__law_grown : Top K "_law_grown" st__law_grown)
    (T__law_told : Top K "_law_told" st__law_told)
    (T__law_text_right : Top K "_law_text_right" st__law_text_right)
    (T__law_together : Top K "_law_together" st__law_together)
    (T__law_right : Top K "_law_right" st__law_right)
    (T_law : Top K "law" st_law)
    : ∃ fd : FuncData, (∀ (s : Shared) (v : Value), BindsTo s fd ⟨[v], []⟩ [("script", v)]) ∧ ∀ base : Heap, K.In base → base.Ns mainGlobals mg → FnOkG l.prog w K mg base 9 fa fd ["script"] (sp_law K) := by
  have M : Md K mg := ⟨PySem.W.mg_none_of X G n_ValueError, PySem.W.mg_none_of X G n_all, PySem.W.mg_none_of X G n_bool, PySem.W.mg_none_of X G n_int, PySem.W.mg_none_of X G n_isinstance, PySem.W.mg_none_of X G n_len, PySem.W.mg_none_of X G n_list, PySem.W.mg_none_of X G n_max, PySem.W.mg_none_of X G n_min, PySem.W.mg_none_of X G n_range, PySem.W.mg_none_of X G n_repr, PySem.W.mg_none_of X G n_set, PySem.W.mg_none_of X G n_sorted, PySem.W.mg_none_of X G n_str, PySem.W.mg_none_of X G n_sum, PySem.W.mg_none_of X G n_tuple, PySem.W.mg_none_of X G n_zip, ⟨_, PySem.W.mg_of X G c_SIGNS⟩, ⟨_, PySem.W.mg_of X G c_MOST_SIGNS⟩, ⟨_, PySem.W.mg_of X G c_MOST_LETTERS⟩, ⟨_, PySem.W.mg_of X G c_MOST_WORDS⟩, ⟨_, PySem.W.mg_of X G c_MOST_INDEXES⟩⟩
  have E_TooMany : Err K mg "TooMany" CE := ⟨PySem.W.mg_of X G aE, Ex1, Ex2, Ex3, Ex4⟩
  have I_TooMany : ErrI K CE := ⟨PySem.W.exm_ref Ex3 Ey3 Ex4 Ex5, ⟨Ey1, Ey2, Ex3, Ey3, Ey4, Ey5, Ey6, Ey7⟩⟩
  have ET : ErrO K mg CE CB := ⟨E_TooMany, I_TooMany, ⟨_, PySem.W.mg_of X G aE, rfl⟩, ⟨_, PySem.W.mg_of X G aB, rfl⟩, keb⟩
  obtain ⟨f, oc, od, an, osl, kV, doc, pm, cdv, ct, a, lk, c, k⟩ := T_law
  have e := hfa.symm.trans (PySem.W.mg_of X G a)
  cases e
  have F := fun_mk (st := st_law) lk c k
  refine ⟨PySem.W.fnOf "law" "law" (defArgs st_law) (defBody st_law) (defScope st_law) .none kV doc pm an cdv ct, fun s v => .of_eq rfl, fun base _ _ => ?_⟩
  have C__law_draw : Cal l.prog w K mg base "_law_draw" st__law_draw 1 ["feed", "many"] sp_draw := T__law_draw.cal X G (fun _ _ _ _ _ _ us hl => match us, hl with | [_, _], _ => rfl) fun _ _ F => ok__law_draw F M
  have C__law_one : Cal l.prog w K mg base "_law_one" st__law_one 2 ["feed", "things"] (sp_one K) := T__law_one.cal X G (fun _ _ _ _ _ _ us hl => match us, hl with | [_, _], _ => rfl) fun _ _ F => ok__law_one F M C__law_draw
  have C__law_text : Cal l.prog w K mg base "_law_text" st__law_text 3 ["feed", "signs", "most"] sp_text := T__law_text.cal X G (fun _ _ _ _ _ _ us hl => match us, hl with | [_, _, _], _ => rfl) fun _ _ F => ok__law_text F M C__law_draw C__law_one
  have C__law_feed : Cal l.prog w K mg base "_law_feed" st__law_feed 1 ["script", "k"] (sp_feed K) := T__law_feed.cal X G (fun _ _ _ _ _ _ us hl => match us, hl with | [_, _], _ => rfl) fun _ _ F => ok__law_feed F M
  have C__law_mixed : Cal l.prog w K mg base "_law_mixed" st__law_mixed 2 ["feed", "things"] (sp_mixed K) := T__law_mixed.cal X G (fun _ _ _ _ _ _ us hl => match us, hl with | [_, _], _ => rfl) fun _ _ F => ok__law_mixed F M C__law_draw
  have C__law_kept : Cal l.prog w K mg base "_law_kept" st__law_kept 3 ["feed", "words", "most"] (sp_kept K) := T__law_kept.cal X G (fun _ _ _ _ _ _ us hl => match us, hl with | [_, _, _], _ => rfl) fun _ _ F => ok__law_kept F M C__law_mixed
  have C__law_split : Cal l.prog w K mg base "_law_split" st__law_split 2 ["feed", "signs", "turns"] sp_split := T__law_split.cal X G (fun _ _ _ _ _ _ us hl => match us, hl with | [_, _, _], _ => rfl) fun _ _ F => ok__law_split F M C__law_draw
  have C__law_joined : Cal l.prog w K mg base "_law_joined" st__law_joined 3 ["feed", "words", "turns"] sp_joined := T__law_joined.cal X G (fun _ _ _ _ _ _ us hl => match us, hl with | [_, _, _], _ => rfl) fun _ _ F => ok__law_joined F M C__law_draw C__law_one
  have C__law_made : Cal l.prog w K mg base "_law_made" st__law_made 1 ["feed", "code", "words"] (sp_made K) := T__law_made.cal X G (fun _ _ _ _ _ _ us hl => match us, hl with | [_, _, _], _ => rfl) fun _ _ F => ok__law_made F M
  have C__law_code : Cal l.prog w K mg base "_law_code" st__law_code 3 ["feed"] sp_code := T__law_code.cal X G (fun _ _ _ _ _ _ us hl => match us, hl with | [_], _ => rfl) fun _ _ F => ok__law_code F M C__law_one
  have C__law_lot : Cal l.prog w K mg base "_law_lot" st__law_lot 4 ["feed", "most"] sp_lot := T__law_lot.cal X G (fun _ _ _ _ _ _ us hl => match us, hl with | [_, _], _ => rfl) fun _ _ F => ok__law_lot F M C__law_draw C__law_one C__law_text C__law_kept C__law_split C__law_joined C__law_made C__law_code
  have C_are_signs : Cal l.prog w K mg base "are_signs" st_are_signs 1 ["thing", "most"] sp_are_signs := T_are_signs.cal X G (fun _ _ _ _ _ _ us hl => match us, hl with | [_, _], _ => rfl) fun _ _ F => ok_are_signs F M
  have C_is_text : Cal l.prog w K mg base "is_text" st_is_text 2 ["thing"] sp_is_text := T_is_text.cal X G (fun _ _ _ _ _ _ us hl => match us, hl with | [_], _ => rfl) fun _ _ F => ok_is_text F M C_are_signs
  have C_need_text : Cal l.prog w K mg base "need_text" st_need_text 3 ["text"] sp_need_text := T_need_text.cal X G (fun _ _ _ _ _ _ us hl => match us, hl with | [_], _ => rfl) fun _ _ F => ok_need_text F M C_is_text
  have C_need_some_text : Cal l.prog w K mg base "need_some_text" st_need_some_text 3 ["text"] sp_need_some := T_need_some_text.cal X G (fun _ _ _ _ _ _ us hl => match us, hl with | [_], _ => rfl) fun _ _ F => ok_need_some_text F M C_is_text
  have C_is_word : Cal l.prog w K mg base "is_word" st_is_word 2 ["thing"] sp_is_word := T_is_word.cal X G (fun _ _ _ _ _ _ us hl => match us, hl with | [_], _ => rfl) fun _ _ F => ok_is_word F M C_are_signs
  have C_is_ascending : Cal l.prog w K mg base "is_ascending" st_is_ascending 1 ["things"] sp_ascending := T_is_ascending.cal X G (fun _ _ _ _ _ _ us hl => match us, hl with | [_], _ => rfl) fun _ _ F => ok_is_ascending F M
  have C_is_lot_form : Cal l.prog w K mg base "is_lot_form" st_is_lot_form 3 ["thing"] sp_lot_form := T_is_lot_form.cal X G (fun _ _ _ _ _ _ us hl => match us, hl with | [_], _ => rfl) fun _ _ F => ok_is_lot_form F M C_is_word C_is_ascending
  have C_need_lot : Cal l.prog w K mg base "need_lot" st_need_lot 4 ["lot"] sp_need_lot := T_need_lot.cal X G (fun _ _ _ _ _ _ us hl => match us, hl with | [_], _ => rfl) fun _ _ F => ok_need_lot F M C_is_lot_form
  have C_border_lengths : Cal l.prog w K mg base "border_lengths" st_border_lengths 1 ["text"] sp_borders := T_border_lengths.cal X G (fun _ _ _ _ _ _ us hl => match us, hl with | [_], _ => rfl) fun _ _ F => ok_border_lengths F M
  have C_root_in : Cal l.prog w K mg base "root_in" st_root_in 1 ["text"] sp_root := T_root_in.cal X G (fun _ _ _ _ _ _ us hl => match us, hl with | [_], _ => rfl) fun _ _ F => ok_root_in F M
  have C_turns_in : Cal l.prog w K mg base "turns_in" st_turns_in 1 ["text"] sp_turns := T_turns_in.cal X G (fun _ _ _ _ _ _ us hl => match us, hl with | [_], _ => rfl) fun _ _ F => ok_turns_in F M
  have C_lyndon_parts : Cal l.prog w K mg base "lyndon_parts" st_lyndon_parts 1 ["text"] sp_lyndon := T_lyndon_parts.cal X G (fun _ _ _ _ _ _ us hl => match us, hl with | [_], _ => rfl) fun _ _ F => ok_lyndon_parts F M
  have C_is_integer : Cal l.prog w K mg base "is_integer" st_is_integer 1 ["thing"] sp_is_integer := T_is_integer.cal X G (fun _ _ _ _ _ _ us hl => match us, hl with | [_], _ => rfl) fun _ _ F => ok_is_integer F M
  have C_is_within : Cal l.prog w K mg base "is_within" st_is_within 2 ["thing", "least", "most"] sp_is_within := T_is_within.cal X G (fun _ _ _ _ _ _ us hl => match us, hl with | [_, _, _], _ => rfl) fun _ _ F => ok_is_within F M C_is_integer
  have C_are_indexes : Cal l.prog w K mg base "are_indexes" st_are_indexes 3 ["lot", "thing"] sp_indexes := T_are_indexes.cal X G (fun _ _ _ _ _ _ us hl => match us, hl with | [_, _], _ => rfl) fun _ _ F => ok_are_indexes F M C_is_within
  have C_need_indexes : Cal l.prog w K mg base "need_indexes" st_need_indexes 4 ["lot", "indexes"] sp_need_indexes := T_need_indexes.cal X G (fun _ _ _ _ _ _ us hl => match us, hl with | [_, _], _ => rfl) fun _ _ F => ok_need_indexes F M C_are_indexes
  have S_need_few_signs : CalS l.prog w K mg base "need_few_signs" st_need_few_signs 1 ["text"] (sp_need_few CE) := T_need_few_signs.calS X G (fun _ _ _ _ _ _ us hl => match us, hl with | [_], _ => rfl) fun _ _ F => ok_need_few_signs F M E_TooMany
  have C_need_few_signs : Cal l.prog w K mg base "need_few_signs" st_need_few_signs 1 ["text"] (calm (sp_need_few CE)) := S_need_few_signs.calm
  have S_put_together : CalS l.prog w K mg base "put_together" st_put_together 5 ["lot", "indexes"] (sp_together CE) := T_put_together.calS X G (fun _ _ _ _ _ _ us hl => match us, hl with | [_, _], _ => rfl) fun _ _ F => ok_put_together F M C_need_lot C_need_indexes S_need_few_signs
  have C_put_together : Cal l.prog w K mg base "put_together" st_put_together 5 ["lot", "indexes"] (calm (sp_together CE)) := S_put_together.calm
  have C_is_lot : Cal l.prog w K mg base "is_lot" st_is_lot 4 ["thing"] sp_lot_form := T_is_lot.cal X G (fun _ _ _ _ _ _ us hl => match us, hl with | [_], _ => rfl) fun _ _ F => ok_is_lot F M C_is_lot_form
  have C_signs_of : Cal l.prog w K mg base "signs_of" st_signs_of 5 ["lot"] sp_signs_of := T_signs_of.cal X G (fun _ _ _ _ _ _ us hl => match us, hl with | [_], _ => rfl) fun _ _ F => ok_signs_of F M C_need_lot
  have C_longest : Cal l.prog w K mg base "longest" st_longest 5 ["lot"] sp_longest := T_longest.cal X G (fun _ _ _ _ _ _ us hl => match us, hl with | [_], _ => rfl) fun _ _ F => ok_longest F M C_need_lot
  have C_borders : Cal l.prog w K mg base "borders" st_borders 4 ["text"] sp_borders := T_borders.cal X G (fun _ _ _ _ _ _ us hl => match us, hl with | [_], _ => rfl) fun _ _ F => ok_borders F M C_need_text C_border_lengths
  have C_periods : Cal l.prog w K mg base "periods" st_periods 4 ["text"] sp_periods := T_periods.cal X G (fun _ _ _ _ _ _ us hl => match us, hl with | [_], _ => rfl) fun _ _ F => ok_periods F M C_need_text C_border_lengths
  have C_root_of : Cal l.prog w K mg base "root_of" st_root_of 4 ["text"] sp_root := T_root_of.cal X G (fun _ _ _ _ _ _ us hl => match us, hl with | [_], _ => rfl) fun _ _ F => ok_root_of F M C_need_some_text C_root_in
  have C_is_primitive : Cal l.prog w K mg base "is_primitive" st_is_primitive 4 ["text"] sp_primitive := T_is_primitive.cal X G (fun _ _ _ _ _ _ us hl => match us, hl with | [_], _ => rfl) fun _ _ F => ok_is_primitive F M C_need_some_text C_root_in
  have C_turns_of : Cal l.prog w K mg base "turns_of" st_turns_of 4 ["text"] sp_turns := T_turns_of.cal X G (fun _ _ _ _ _ _ us hl => match us, hl with | [_], _ => rfl) fun _ _ F => ok_turns_of F M C_need_text C_turns_in
  have C_least_turn : Cal l.prog w K mg base "least_turn" st_least_turn 4 ["text"] sp_least := T_least_turn.cal X G (fun _ _ _ _ _ _ us hl => match us, hl with | [_], _ => rfl) fun _ _ F => ok_least_turn F M C_need_text C_turns_in
  have C_lyndon : Cal l.prog w K mg base "lyndon" st_lyndon 4 ["text"] sp_lyndon := T_lyndon.cal X G (fun _ _ _ _ _ _ us hl => match us, hl with | [_], _ => rfl) fun _ _ F => ok_lyndon F M C_need_text C_lyndon_parts
  have C__law_so : Cal l.prog w K mg base "_law_so" st__law_so 1 ["actual", "due"] sp_law_so := T__law_so.cal X G (fun _ _ _ _ _ _ us hl => match us, hl with | [_, _], _ => rfl) fun _ _ F => ok__law_so F M
  have C__law_is : Cal l.prog w K mg base "_law_is" st__law_is 1 ["actual", "due"] sp_law_is := T__law_is.cal X G (fun _ _ _ _ _ _ us hl => match us, hl with | [_, _], _ => rfl) fun _ _ F => ok__law_is F M
  have C__law_list : Cal l.prog w K mg base "_law_list" st__law_list 1 ["actual", "due"] (sp_list_same K) := T__law_list.cal X G (fun _ _ _ _ _ _ us hl => match us, hl with | [_, _], _ => rfl) fun _ _ F => ok__law_list F M
  have C__law_borders : Cal l.prog w K mg base "_law_borders" st__law_borders 1 ["text"] sp_borders := T__law_borders.cal X G (fun _ _ _ _ _ _ us hl => match us, hl with | [_], _ => rfl) fun _ _ F => ok__law_borders F M
  have C__law_periods : Cal l.prog w K mg base "_law_periods" st__law_periods 1 ["text"] sp_periods := T__law_periods.cal X G (fun _ _ _ _ _ _ us hl => match us, hl with | [_], _ => rfl) fun _ _ F => ok__law_periods F M
  have C__law_turns : Cal l.prog w K mg base "_law_turns" st__law_turns 1 ["text"] sp_turns := T__law_turns.cal X G (fun _ _ _ _ _ _ us hl => match us, hl with | [_], _ => rfl) fun _ _ F => ok__law_turns F M
  have C__law_is_lyndon : Cal l.prog w K mg base "_law_is_lyndon" st__law_is_lyndon 1 ["text", "thing"] sp_law_lyndon := T__law_is_lyndon.cal X G (fun _ _ _ _ _ _ us hl => match us, hl with | [_, _], _ => rfl) fun _ _ F => ok__law_is_lyndon F M
  have C__law_is_right : Cal l.prog w K mg base "_law_is_right" st__law_is_right 1 ["thing"] sp_law_right_lot := T__law_is_right.cal X G (fun _ _ _ _ _ _ us hl => match us, hl with | [_], _ => rfl) fun _ _ F => ok__law_is_right F M
  have C__law_near : Cal l.prog w K mg base "_law_near" st__law_near 3 ["feed", "lot"] sp_near := T__law_near.cal X G (fun _ _ _ _ _ _ us hl => match us, hl with | [_, _], _ => rfl) fun _ _ F => ok__law_near F M C__law_draw C__law_one
  have C__law_grown : Cal l.prog w K mg base "_law_grown" st__law_grown 4 ["feed", "most"] sp_grown := T__law_grown.cal X G (fun _ _ _ _ _ _ us hl => match us, hl with | [_, _], _ => rfl) fun _ _ F => ok__law_grown F M C__law_draw C__law_one C__law_text
  have C__law_told : Cal l.prog w K mg base "_law_told" st__law_told 6 ["lot", "indexes"] sp_told := T__law_told.cal X G (fun _ _ _ _ _ _ us hl => match us, hl with | [_, _], _ => rfl) fun _ _ F => ok__law_told F M ET S_put_together
  have C__law_text_right : Cal l.prog w K mg base "_law_text_right" st__law_text_right 5 ["text"] sp_text_right := T__law_text_right.cal X G (fun _ _ _ _ _ _ us hl => match us, hl with | [_], _ => rfl) fun _ _ F => ok__law_text_right F M C__law_so C__law_is C__law_list C_borders C__law_borders C_periods C__law_periods C_turns_of C__law_turns C_least_turn C_lyndon C__law_is_lyndon C_root_of C_is_primitive
  have C__law_together : CalG l.prog w K mg base "_law_together" st__law_together 7 ["feed", "lot"] sp_law_together := T__law_together.calG X G (fun _ _ _ _ _ _ us hl => match us, hl with | [_, _], _ => rfl) fun _ _ F => ok__law_together F M C__law_draw C__law_one C__law_told C_put_together
  have C__law_right : CalG l.prog w K mg base "_law_right" st__law_right 8 ["feed"] sp_law_right := T__law_right.calG X G (fun _ _ _ _ _ _ us hl => match us, hl with | [_], _ => rfl) fun _ _ F => ok__law_right F M C__law_lot C__law_so C__law_is C_is_lot C__law_is_right C__law_near C_signs_of C_longest C__law_together C__law_text_right C__law_grown
  exact ok_law F M C__law_feed C__law_right
theorem walk {l : PySem.W.OpenLaw} {q : Program} {loose : List Str} {XP : (Str → Option Value) → Heap → Prop} {YP : World → Heap → Prop} {d : DefRec} {K : Params → PySem.W.Frag} (hn : l.most = some 63) (hdf : d.params.defaults = [])
    (hY : ∀ (w : World) (h : Heap), YP w h → (K w.params).In h)
    (F : ∀ (w : World) (mg : Str → Option Value) (fa : Addr) (h : Heap), (K w.params).In h → h.Ns mainGlobals mg → mg d.name = some (.ref fa) →
      ∃ fd : FuncData, (∀ (s : Shared) (u : Value), BindsTo s fd ⟨[u], []⟩ [("script", u)]) ∧ ∀ base : Heap, (K w.params).In base → base.Ns mainGlobals mg → FnOkG l.prog w (K w.params) mg base 9 fa fd ["script"] (sp_law (K w.params))) :
    PySem.W.WalkO q loose XP YP l.row.toRowW d [] (fun f vs => PySem.call f vs) :=
  Wg.walk_ofG (n := 63) (k := 9) (x := "script") (sp := fun w => sp_law (K w.params)) hn (by decide) hdf ⟨rfl, by decide, by decide⟩ hY F (fun _ _ a ns hl hb _ hS => ⟨a, ns, 1048576, rfl, hS, hl, by decide, by decide, fun z hz => PySem.intBits_le_iff.mp (hb z hz), fun _ => rfl⟩)
end K01
open PySem PySem.W PyProof.Rows
set_option maxRecDepth 100000 in
set_option maxHeartbeats 0 in
theorem PySem.Challenge.cw_wordscut_k01_whole_lots_and_single_texts_holds : PySem.Challenge.rw_wordscut_k01_whole_lots_and_single_texts.Holds := by
  w_on; o_law; k_head; (case hw => w_witness2)
  k_fill
  refine K01.walk (l := PySem.Challenge.rw_wordscut_k01_whole_lots_and_single_texts) rfl rfl (fun w h Y => PySem.W.kIn_of Y) ?F
  case F =>
    intro w mg fa h KX G hmg
    refine' K01.all_mk KX G hmg ?n_ValueError ?n_all ?n_bool ?n_int ?n_isinstance ?n_len ?n_list ?n_max ?n_min ?n_range ?n_repr ?n_set ?n_sorted ?n_str ?n_sum ?n_tuple ?n_zip ?c_SIGNS ?c_MOST_SIGNS ?c_MOST_LETTERS ?c_MOST_WORDS ?c_MOST_INDEXES ?aB ?aE ?Ex1 ?Ex2 ?Ex3 ?Ex4 ?Ex5 ?Ey1 ?Ey2 ?Ey3 ?Ey4 ?Ey5 ?Ey6 ?Ey7 ?keb ?T__law_draw ?T__law_one ?T__law_text ?T__law_feed ?T__law_mixed ?T__law_kept ?T__law_split ?T__law_joined ?T__law_made ?T__law_code ?T__law_lot ?T_are_signs ?T_is_text ?T_need_text ?T_need_some_text ?T_is_word ?T_is_ascending ?T_is_lot_form ?T_need_lot ?T_border_lengths ?T_root_in ?T_turns_in ?T_lyndon_parts ?T_is_integer ?T_is_within ?T_are_indexes ?T_need_indexes ?T_need_few_signs ?T_put_together ?T_is_lot ?T_signs_of ?T_longest ?T_borders ?T_periods ?T_root_of ?T_is_primitive ?T_turns_of ?T_least_turn ?T_lyndon ?T__law_so ?T__law_is ?T__law_list ?T__law_borders ?T__law_periods ?T__law_turns ?T__law_is_lyndon ?T__law_is_right ?T__law_near ?T__law_grown ?T__law_told ?T__law_text_right ?T__law_together ?T__law_right ?T_law
    (case n_ValueError => k_is)
    (case n_all => k_is)
    (case n_bool => k_is)
    (case n_int => k_is)
    (case n_isinstance => k_is)
    (case n_len => k_is)
    (case n_list => k_is)
    (case n_max => k_is)
    (case n_min => k_is)
    (case n_range => k_is)
    (case n_repr => k_is)
    (case n_set => k_is)
    (case n_sorted => k_is)
    (case n_str => k_is)
    (case n_sum => k_is)
    (case n_tuple => k_is)
    (case n_zip => k_is)
    (case c_SIGNS => k_is)
    (case c_MOST_SIGNS => k_is)
    (case c_MOST_LETTERS => k_is)
    (case c_MOST_WORDS => k_is)
    (case c_MOST_INDEXES => k_is)
    (case aB => k_is)
    (case aE => k_is)
    (case Ex1 => k_exc)
    (case Ex2 => k_is)
    (case Ex3 => k_is)
    (case Ex4 => k_is)
    (case Ex5 => first | rfl | k_is)
    (case Ey1 => k_is)
    (case Ey2 => k_is)
    (case Ey3 => k_is)
    (case Ey4 => k_is)
    (case Ey5 => k_is)
    (case Ey6 => k_is)
    (case Ey7 => k_is)
    (case keb => kit_is)
    (case T__law_draw => refine' K01.top_mk ?a ?l ?c ?k; (case a => k_is); (case l => k_is); (case c => k_is); (case k => k_is))
    (case T__law_one => refine' K01.top_mk ?a ?l ?c ?k; (case a => k_is); (case l => k_is); (case c => k_is); (case k => k_is))
    (case T__law_text => refine' K01.top_mk ?a ?l ?c ?k; (case a => k_is); (case l => k_is); (case c => k_is); (case k => k_is))
    (case T__law_feed => refine' K01.top_mk ?a ?l ?c ?k; (case a => k_is); (case l => k_is); (case c => k_is); (case k => k_is))
    (case T__law_mixed => refine' K01.top_mk ?a ?l ?c ?k; (case a => k_is); (case l => k_is); (case c => k_is); (case k => k_is))
    (case T__law_kept => refine' K01.top_mk ?a ?l ?c ?k; (case a => k_is); (case l => k_is); (case c => k_is); (case k => k_is))
    (case T__law_split => refine' K01.top_mk ?a ?l ?c ?k; (case a => k_is); (case l => k_is); (case c => k_is); (case k => k_is))
    (case T__law_joined => refine' K01.top_mk ?a ?l ?c ?k; (case a => k_is); (case l => k_is); (case c => k_is); (case k => k_is))
    (case T__law_made => refine' K01.top_mk ?a ?l ?c ?k; (case a => k_is); (case l => k_is); (case c => k_is); (case k => k_is))
    (case T__law_code => refine' K01.top_mk ?a ?l ?c ?k; (case a => k_is); (case l => k_is); (case c => k_is); (case k => k_is))
    (case T__law_lot => refine' K01.top_mk ?a ?l ?c ?k; (case a => k_is); (case l => k_is); (case c => k_is); (case k => k_is))
    (case T_are_signs => refine' K01.top_mk ?a ?l ?c ?k; (case a => k_is); (case l => k_is); (case c => k_is); (case k => k_is))
    (case T_is_text => refine' K01.top_mk ?a ?l ?c ?k; (case a => k_is); (case l => k_is); (case c => k_is); (case k => k_is))
    (case T_need_text => refine' K01.top_mk ?a ?l ?c ?k; (case a => k_is); (case l => k_is); (case c => k_is); (case k => k_is))
    (case T_need_some_text => refine' K01.top_mk ?a ?l ?c ?k; (case a => k_is); (case l => k_is); (case c => k_is); (case k => k_is))
    (case T_is_word => refine' K01.top_mk ?a ?l ?c ?k; (case a => k_is); (case l => k_is); (case c => k_is); (case k => k_is))
    (case T_is_ascending => refine' K01.top_mk ?a ?l ?c ?k; (case a => k_is); (case l => k_is); (case c => k_is); (case k => k_is))
    (case T_is_lot_form => refine' K01.top_mk ?a ?l ?c ?k; (case a => k_is); (case l => k_is); (case c => k_is); (case k => k_is))
    (case T_need_lot => refine' K01.top_mk ?a ?l ?c ?k; (case a => k_is); (case l => k_is); (case c => k_is); (case k => k_is))
    (case T_border_lengths => refine' K01.top_mk ?a ?l ?c ?k; (case a => k_is); (case l => k_is); (case c => k_is); (case k => k_is))
    (case T_root_in => refine' K01.top_mk ?a ?l ?c ?k; (case a => k_is); (case l => k_is); (case c => k_is); (case k => k_is))
    (case T_turns_in => refine' K01.top_mk ?a ?l ?c ?k; (case a => k_is); (case l => k_is); (case c => k_is); (case k => k_is))
    (case T_lyndon_parts => refine' K01.top_mk ?a ?l ?c ?k; (case a => k_is); (case l => k_is); (case c => k_is); (case k => k_is))
    (case T_is_integer => refine' K01.top_mk ?a ?l ?c ?k; (case a => k_is); (case l => k_is); (case c => k_is); (case k => k_is))
    (case T_is_within => refine' K01.top_mk ?a ?l ?c ?k; (case a => k_is); (case l => k_is); (case c => k_is); (case k => k_is))
    (case T_are_indexes => refine' K01.top_mk ?a ?l ?c ?k; (case a => k_is); (case l => k_is); (case c => k_is); (case k => k_is))
    (case T_need_indexes => refine' K01.top_mk ?a ?l ?c ?k; (case a => k_is); (case l => k_is); (case c => k_is); (case k => k_is))
    (case T_need_few_signs => refine' K01.top_mk ?a ?l ?c ?k; (case a => k_is); (case l => k_is); (case c => k_is); (case k => k_is))
    (case T_put_together => refine' K01.top_mk ?a ?l ?c ?k; (case a => k_is); (case l => k_is); (case c => k_is); (case k => k_is))
    (case T_is_lot => refine' K01.top_mk ?a ?l ?c ?k; (case a => k_is); (case l => k_is); (case c => k_is); (case k => k_is))
    (case T_signs_of => refine' K01.top_mk ?a ?l ?c ?k; (case a => k_is); (case l => k_is); (case c => k_is); (case k => k_is))
    (case T_longest => refine' K01.top_mk ?a ?l ?c ?k; (case a => k_is); (case l => k_is); (case c => k_is); (case k => k_is))
    (case T_borders => refine' K01.top_mk ?a ?l ?c ?k; (case a => k_is); (case l => k_is); (case c => k_is); (case k => k_is))
    (case T_periods => refine' K01.top_mk ?a ?l ?c ?k; (case a => k_is); (case l => k_is); (case c => k_is); (case k => k_is))
    (case T_root_of => refine' K01.top_mk ?a ?l ?c ?k; (case a => k_is); (case l => k_is); (case c => k_is); (case k => k_is))
    (case T_is_primitive => refine' K01.top_mk ?a ?l ?c ?k; (case a => k_is); (case l => k_is); (case c => k_is); (case k => k_is))
    (case T_turns_of => refine' K01.top_mk ?a ?l ?c ?k; (case a => k_is); (case l => k_is); (case c => k_is); (case k => k_is))
    (case T_least_turn => refine' K01.top_mk ?a ?l ?c ?k; (case a => k_is); (case l => k_is); (case c => k_is); (case k => k_is))
    (case T_lyndon => refine' K01.top_mk ?a ?l ?c ?k; (case a => k_is); (case l => k_is); (case c => k_is); (case k => k_is))
    (case T__law_so => refine' K01.top_mk ?a ?l ?c ?k; (case a => k_is); (case l => k_is); (case c => k_is); (case k => k_is))
    (case T__law_is => refine' K01.top_mk ?a ?l ?c ?k; (case a => k_is); (case l => k_is); (case c => k_is); (case k => k_is))
    (case T__law_list => refine' K01.top_mk ?a ?l ?c ?k; (case a => k_is); (case l => k_is); (case c => k_is); (case k => k_is))
    (case T__law_borders => refine' K01.top_mk ?a ?l ?c ?k; (case a => k_is); (case l => k_is); (case c => k_is); (case k => k_is))
    (case T__law_periods => refine' K01.top_mk ?a ?l ?c ?k; (case a => k_is); (case l => k_is); (case c => k_is); (case k => k_is))
    (case T__law_turns => refine' K01.top_mk ?a ?l ?c ?k; (case a => k_is); (case l => k_is); (case c => k_is); (case k => k_is))
    (case T__law_is_lyndon => refine' K01.top_mk ?a ?l ?c ?k; (case a => k_is); (case l => k_is); (case c => k_is); (case k => k_is))
    (case T__law_is_right => refine' K01.top_mk ?a ?l ?c ?k; (case a => k_is); (case l => k_is); (case c => k_is); (case k => k_is))
    (case T__law_near => refine' K01.top_mk ?a ?l ?c ?k; (case a => k_is); (case l => k_is); (case c => k_is); (case k => k_is))
    (case T__law_grown => refine' K01.top_mk ?a ?l ?c ?k; (case a => k_is); (case l => k_is); (case c => k_is); (case k => k_is))
    (case T__law_told => refine' K01.top_mk ?a ?l ?c ?k; (case a => k_is); (case l => k_is); (case c => k_is); (case k => k_is))
    (case T__law_text_right => refine' K01.top_mk ?a ?l ?c ?k; (case a => k_is); (case l => k_is); (case c => k_is); (case k => k_is))
    (case T__law_together => refine' K01.top_mk ?a ?l ?c ?k; (case a => k_is); (case l => k_is); (case c => k_is); (case k => k_is))
    (case T__law_right => refine' K01.top_mk ?a ?l ?c ?k; (case a => k_is); (case l => k_is); (case c => k_is); (case k => k_is))
    (case T_law => refine' K01.top_mk ?a ?l ?c ?k; (case a => k_is); (case l => k_is); (case c => k_is); (case k => k_is))
