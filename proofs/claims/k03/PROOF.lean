import PyProof.Rows.All
import Wide.All
import OpenK.AllK
import Wide.FinOn
import HandS.ForMost
import HandS.Walk
import HandS.IsInst
import HandS.Gcd
import HandS.Wide
import HandS.StrMore
import HandS.Codes
import HandS.EndBits
import HandS.TryOnly
import HandS.Style
import HandS.SortKw
import HandS.TupAny
import KE.SortKeyHeap
import KE.SortData
import HandS.Evl
import HandS.Set
import HandS.SetFor
import KE.GoesEnum
import HandS.Zip
import HandS.TupLe
import PyProof.ReprRoads
import HandS.RevRange
import HandS.ForExc
import HandS.ExcIs
import HandS.Strs
import KE.IntBitsLaws
import KE.RegKIsAll
import PySem.Challenge.RW_wordscut_k03_whole_cuts_and_their_number
set_option Elab.async false
set_option linter.all false
set_option maxRecDepth 100000
set_option maxHeartbeats 2000000
/-! rules over texts as lists of code points; called defs as bundles -/
namespace Wc
open PySem PySem.Spec PyProof.Rows L2

abbrev Tx := List Nat
/-- a text as a value -/
abbrev T (l : Tx) : V := .str (SX.S l)
theorem T_inj {a b : Tx} (h : T a = T b) : a = b := SX.S_inj (V.str.inj h)
theorem T_str (x : Str) : V.str x = T x.cps.toList := congrArg V.str (SX.S_tl x).symm
theorem dec_T (a b : Tx) : decide (T a = T b) = decide (a = b) := by
  by_cases h : a = b
  · subst h
    rw [decide_eq_true rfl, decide_eq_true rfl]
  · rw [decide_eq_false h, decide_eq_false fun e => h (T_inj e)]
theorem S_length (a : Tx) : (SX.S a).length = a.length := SX.S_len a

/-- text + text -/
def rAddT : R2 := fun x y H Q => ∃ a b : Tx, x = T a ∧ y = T b ∧ a.length + b.length ≤ 16777216 ∧ Q (T (a ++ b)) H
theorem op_addT {X : Cx} : OpR X (binaryOp .Add) rAddT := by
  intro pins s σ H x y v u Q I rx ry h
  obtain ⟨a, b, rfl, rfl, hl, q⟩ := h
  refine op_add_str pins s σ H _ _ v u Q I rx ry ⟨_, _, rfl, rfl, ?_, ?_⟩
  · rw [S_length, S_length]
    exact hl
  · rw [SX.S_cat]
    exact q
/-- text * int -/
def repT (n : Nat) (a : Tx) : Tx := (List.replicate n a).flatten
theorem repT_zero (a : Tx) : repT 0 a = [] := rfl
theorem repT_succ (n : Nat) (a : Tx) : repT (n + 1) a = a ++ repT n a := by
  unfold repT
  rw [List.replicate_succ, List.flatten_cons]
theorem repT_len (n : Nat) (a : Tx) : (repT n a).length = n * a.length := by
  induction n with
  | zero => simp [repT]
  | succ n ih => rw [repT_succ, List.length_append, ih, Nat.succ_mul]; omega
theorem fold_app : ∀ (l : List (Array Nat)) (acc : Array Nat), (l.foldl (· ++ ·) acc).toList = acc.toList ++ (l.map Array.toList).flatten
  | [], acc => by simp
  | x :: l, acc => by
    show (l.foldl (· ++ ·) (acc ++ x)).toList = _
    rw [fold_app l (acc ++ x)]
    simp
theorem mul_S (a : Tx) (n : Int) : Txt.mul (SX.S a) n = SX.S (repT n.toNat a) := by
  unfold Txt.mul
  by_cases h1 : n < 1
  · rw [if_pos h1]
    have e : n.toNat = 0 := by omega
    rw [e]
    rfl
  · rw [if_neg h1]
    by_cases h2 : (n == 1 || (SX.S a).length == 0) = true
    · rw [if_pos h2]
      rw [Bool.or_eq_true] at h2
      rcases h2 with h2 | h2
      · have e : n.toNat = 1 := by
          have := eq_of_beq h2
          omega
        rw [e]
        simp [repT]
      · have e := eq_of_beq h2
        rw [S_length] at e
        have e2 := List.length_eq_zero_iff.mp e
        subst e2
        have : repT n.toNat [] = [] := List.length_eq_zero_iff.mp (by rw [repT_len]; simp)
        rw [this]
    · rw [if_neg h2]
      refine TL.ext_tl ?_
      show (List.foldl (· ++ ·) #[] (List.replicate n.toNat a.toArray)).toList = repT n.toNat a
      rw [fold_app]
      simp [repT, List.map_replicate]
def rMulT : R2 := fun x y H Q => ∃ (a : Tx) (n : Int), x = T a ∧ y = .int n ∧ -1000000000 ≤ n ∧ n ≤ 1000000000 ∧ a.length * n.toNat ≤ 16777216 ∧ Q (T (repT n.toNat a)) H
theorem mulOk {a : Tx} {n : Int} (h0 : -1000000000 ≤ n) (h1 : n ≤ 1000000000) (h : a.length * n.toNat ≤ 16777216) : MulOk (SX.S a) n := by
  refine ⟨?_, fun hn _ => ?_, fun hn _ => ?_⟩
  · rw [Bool.or_eq_false_iff]
    exact ⟨decide_eq_false (by omega), decide_eq_false (by omega)⟩
  · rw [S_length]
    intro hgt
    have h2 : (a.length : Int) ≤ 16777216 := by
      have : a.length * 1 ≤ a.length * n.toNat := Nat.mul_le_mul_left _ (by omega)
      omega
    have h3 : (16777216 : Int) ≤ (2 ^ 63 - 1) / n := by
      rw [Int.le_ediv_iff_mul_le (by omega)]
      have : (16777216 : Int) * n ≤ 16777216 * 1000000000 := Int.mul_le_mul_of_nonneg_left h1 (by decide)
      omega
    omega
  · rw [S_length]
    unfold Builtin.Str.tooLong
    have : ¬ (a.length * n.toNat > 16777216) := by omega
    exact decide_eq_false (by first | exact this | (simp; omega))
theorem op_mulT {X : Cx} : OpR X (binaryOp .Mult) rMulT := by
  intro pins s σ H x y v u Q I rx ry h
  obtain ⟨a, n, rfl, rfl, h0, h1, hl, q⟩ := h
  obtain ⟨t, rfl⟩ := rx
  obtain ⟨t', rfl⟩ := ry
  refine SB.mul (mulOk h0 h1 hl) fun t2 k => ?_
  rw [mul_S]
  exact ⟨T (repT n.toNat a), H, I.tok _, ⟨_, rfl⟩, q⟩

/-! ### subscripts, slices, length, comparisons -/
def rIxT : R2 := fun x y H Q => ∃ (a : Tx) (i : Int) (c : Nat), x = T a ∧ y = .int i ∧ a.length ≤ 16777216 ∧ atI a i = some c ∧ Q (T [c]) H
theorem ix_T {X : Cx} : IxR X rIxT := by
  intro value slice pins s σ H x y v u Q I rx ry h hs
  obtain ⟨a, i, c, rfl, rfl, hl, ha, q⟩ := h
  exact ix_str value slice pins s σ H _ _ v u Q I rx ry ⟨_, i, c, rfl, rfl, by rw [S_length]; exact hl, ha, q⟩ hs
def cutT (a : Tx) (lo hi : Option Int) : Tx := (a.drop (HT.sIx a.length 0 lo)).take (HT.sIx a.length a.length hi - HT.sIx a.length 0 lo)
theorem cutS_T (a : Tx) (lo hi : Option Int) : cutS (SX.S a) lo hi = SX.S (cutT a lo hi) := by
  unfold cutS cutT
  rw [S_length]
def rSlT : V → Option Int → Option Int → Hp → VK → Prop := fun x lo hi H Q => ∃ a : Tx, x = T a ∧ a.length ≤ 16777216 ∧ Q (T (cutT a lo hi)) H
theorem sl_T {X : Cx} : SlR X rSlT := by
  intro pins s σ H x v vl vu lo hi sl Q I rx hs pl pu h
  obtain ⟨a, rfl, hl, q⟩ := h
  refine sl_str pins s σ H _ v vl vu lo hi sl Q I rx hs pl pu ⟨_, rfl, by rw [S_length]; exact hl, ?_⟩
  rw [cutS_T]
  exact q
theorem cutT_to (a : Tx) (n : Nat) : cutT a none (some (n : Int)) = a.take n := by
  unfold cutT
  rw [HT.sIx_none, HT.sIx_nat, List.drop_zero, Nat.sub_zero]
  by_cases h : n ≤ a.length
  · rw [Nat.min_eq_left h]
  · rw [Nat.min_eq_right (by omega), List.take_of_length_le (Nat.le_refl _), List.take_of_length_le (by omega)]
theorem cutT_from (a : Tx) (n : Nat) : cutT a (some (n : Int)) none = a.drop n := by
  unfold cutT
  rw [HT.sIx_none, HT.sIx_nat]
  by_cases h : n ≤ a.length
  · rw [Nat.min_eq_left h]
    exact List.take_of_length_le (by rw [List.length_drop]; exact Nat.le_refl _)
  · rw [Nat.min_eq_right (by omega), List.drop_eq_nil_of_le (Nat.le_refl _), List.drop_eq_nil_of_le (by omega), List.take_nil]
theorem cutT_mid (a : Tx) (m n : Nat) : cutT a (some (m : Int)) (some (n : Int)) = (a.drop m).take (n - m) := by
  unfold cutT
  rw [HT.sIx_nat, HT.sIx_nat]
  by_cases h : m ≤ a.length
  · rw [Nat.min_eq_left h]
    by_cases h2 : n ≤ a.length
    · rw [Nat.min_eq_left h2]
    · rw [Nat.min_eq_right (by omega), List.take_of_length_le (by rw [List.length_drop]; exact Nat.le_refl _), List.take_of_length_le (by rw [List.length_drop]; omega)]
  · rw [Nat.min_eq_right (show a.length ≤ m by omega), List.drop_eq_nil_of_le (Nat.le_refl _), List.drop_eq_nil_of_le (show a.length ≤ m by omega), List.take_nil, List.take_nil]
/-- without the last so many -/
theorem cutT_but (a : Tx) (k : Nat) : cutT a none (some (-((k : Int) + 1))) = a.take (a.length - (k + 1)) := by
  unfold cutT
  rw [HT.sIx_none, List.drop_zero, Nat.sub_zero]
  have e : HT.sIx a.length a.length (some (-((k : Int) + 1))) = a.length - (k + 1) := by
    show (if (-((k : Int) + 1)) < 0 then ((-((k : Int) + 1)) + (a.length : Int)).toNat else min (-((k : Int) + 1)).toNat a.length) = _
    rw [if_pos (by omega)]
    omega
  rw [e]
/-- the last so many -/
theorem cutT_last (a : Tx) (k : Nat) : cutT a (some (-((k : Int) + 1))) none = a.drop (a.length - (k + 1)) := by
  unfold cutT
  rw [HT.sIx_none]
  have e : HT.sIx a.length 0 (some (-((k : Int) + 1))) = a.length - (k + 1) := by
    show (if (-((k : Int) + 1)) < 0 then ((-((k : Int) + 1)) + (a.length : Int)).toNat else min (-((k : Int) + 1)).toNat a.length) = _
    rw [if_pos (by omega)]
    omega
  rw [e]
  exact List.take_of_length_le (by rw [List.length_drop]; exact Nat.le_refl _)
theorem cutT_len (a : Tx) (lo hi : Option Int) : (cutT a lo hi).length ≤ a.length := by
  unfold cutT
  rw [List.length_take, List.length_drop]
  omega
theorem cutT_mem {a : Tx} {lo hi : Option Int} {c : Nat} (h : c ∈ cutT a lo hi) : c ∈ a := List.mem_of_mem_drop (List.mem_of_mem_take h)
def rLenT : List V → Hp → VK → Prop := fun vs H Q => ∃ a : Tx, vs = [T a] ∧ a.length ≤ 16777216 ∧ Q (.int (a.length : Int)) H
theorem cr_lenT {X : Cx} : CallR X (.builtin "len") rLenT := by
  intro pins s σ H vs us Q I r h
  obtain ⟨a, rfl, hl, q⟩ := h
  refine call_len_str pins s σ H _ us Q I r ⟨_, rfl, by rw [S_length]; exact hl, ?_⟩
  rw [S_length]
  exact q
def rEqT : R2 := fun x y H Q => ∃ a b : Tx, x = T a ∧ y = T b ∧ Q (.bl (decide (a = b))) H
theorem op_eqT {X : Cx} : OpR X (compareOp .Eq) rEqT := by
  intro pins s σ H x y v u Q I rx ry h
  obtain ⟨a, b, rfl, rfl, q⟩ := h
  refine op_eq pins s σ H _ _ v u Q I rx ry ⟨rfl, ?_⟩
  rw [dec_T]
  exact q
def rNeT : R2 := fun x y H Q => ∃ a b : Tx, x = T a ∧ y = T b ∧ Q (.bl (!decide (a = b))) H
theorem op_neT {X : Cx} : OpR X (compareOp .NotEq) rNeT := by
  intro pins s σ H x y v u Q I rx ry h
  obtain ⟨a, b, rfl, rfl, q⟩ := h
  refine op_ne pins s σ H _ _ v u Q I rx ry ⟨rfl, ?_⟩
  rw [dec_T]
  exact q
theorem dec_int (i j : Int) : decide (V.int i = V.int j) = decide (i = j) := by
  by_cases h : i = j
  · subst h
    rw [decide_eq_true rfl, decide_eq_true rfl]
  · rw [decide_eq_false h, decide_eq_false fun e => h (V.int.inj e)]
theorem dec_bl (i j : Bool) : decide (V.bl i = V.bl j) = decide (i = j) := by
  cases i <;> cases j <;> decide
theorem op_eqI {X : Cx} : OpR X (compareOp .Eq) (rI0 fun i j => .bl (decide (i = j))) := by
  intro pins s σ H x y v u Q I rx ry h
  obtain ⟨i, j, rfl, rfl, q⟩ := h
  refine op_eq pins s σ H _ _ v u Q I rx ry ⟨rfl, ?_⟩
  rw [dec_int]
  exact q
theorem op_neI {X : Cx} : OpR X (compareOp .NotEq) (rI0 fun i j => .bl (!decide (i = j))) := by
  intro pins s σ H x y v u Q I rx ry h
  obtain ⟨i, j, rfl, rfl, q⟩ := h
  refine op_ne pins s σ H _ _ v u Q I rx ry ⟨rfl, ?_⟩
  rw [dec_int]
  exact q
def rB0 (g : Bool → Bool → Bool) : R2 := fun x y H Q => ∃ i j, x = .bl i ∧ y = .bl j ∧ Q (.bl (g i j)) H
theorem op_eqB {X : Cx} : OpR X (compareOp .Eq) (rB0 fun i j => decide (i = j)) := by
  intro pins s σ H x y v u Q I rx ry h
  obtain ⟨i, j, rfl, rfl, q⟩ := h
  refine op_eq pins s σ H _ _ v u Q I rx ry ⟨rfl, ?_⟩
  rw [dec_bl]
  exact q
def rInT : R2 := fun x y H Q => ∃ (c : Nat) (z : Tx), x = T [c] ∧ y = T z ∧ Q (.bl (decide (c ∈ z))) H
theorem op_inT {X : Cx} : OpR X (compareOp .In) rInT := by
  intro pins s σ H x y v u Q I rx ry h
  obtain ⟨c, z, rfl, rfl, q⟩ := h
  exact op_in_sign pins s σ H _ _ v u Q I rx ry ⟨c, SX.S z, rfl, rfl, q⟩
def rLtT : R2 := fun x y H Q => ∃ a b : Tx, x = T a ∧ y = T b ∧ Q (.bl (decide (a < b))) H
theorem op_ltT' {X : Cx} : OpR X (compareOp .Lt) rLtT := by
  intro pins s σ H x y v u Q I rx ry h
  obtain ⟨a, b, rfl, rfl, q⟩ := h
  exact op_lt_str pins s σ H _ _ v u Q I rx ry ⟨_, _, rfl, rfl, q⟩
/-! ### % and // by a positive number -/
theorem op_modP {X : Cx} : OpR X (binaryOp .Mod) (rI (fun _ j => 0 < j) fun i j => .int (i % j)) := op_mod
/-- * of any two whose bits together are below the line -/
def CMulB (i j : Int) : Prop := i.natAbs.log2 + j.natAbs.log2 < 100000000
theorem CMulB.ok {i j : Int} (h : CMulB i j) : IntMulOk i j := by
  have b : ∀ x : Int, Builtin.Int.intBits x ≤ x.natAbs.log2 + 1 := fun x => by
    unfold Builtin.Int.intBits
    split <;> omega
  have h1 := b i
  have h2 := b j
  have h3 : i.natAbs.log2 + j.natAbs.log2 < 100000000 := h
  have e : bitsLine = 134217728 := by decide
  unfold IntMulOk
  intro z
  rw [Bool.and_eq_true] at z
  have z2 := z.2
  unfold Builtin.Int.intTooBig at z2
  have z3 := of_decide_eq_true z2
  rw [e] at z3
  omega
theorem op_mulB {X : Cx} : OpR X (binaryOp .Mult) (rI CMulB fun i j => .int (i * j)) := opI fun _ _ _ _ _ _ _ hc q => mul_int q hc.ok
theorem mulB {i j : Int} {a b : Nat} (ha : i.natAbs < 2 ^ a) (hb : j.natAbs < 2 ^ b) (h0 : 0 < a) (h1 : 0 < b) (h : a + b ≤ 100000000) : CMulB i j := by
  have x := PySem.Flt.log2_lt_of h0 ha
  have y := PySem.Flt.log2_lt_of h1 hb
  unfold CMulB
  omega
/-! ### str.join, find, startswith -/
def rJoinT (K : PySem.W.Frag) : V → List V → Hp → VK → Prop := fun x xs H Q => ∃ (a : Tx) (p : Addr) (ys : List Tx), x = T a ∧ xs = [.ref p] ∧ (SqL K H p (ys.map T) ∨ SqT K H p (ys.map T)) ∧ (ys.map List.length).sum + ys.length * a.length ≤ 16777216 ∧ Q (T (TL.joinL a ys)) H
theorem mt_joinT {X : Cx} : MtR X "str.join" (rJoinT X.K) := by
  intro pins s σ H x xs v us Q I rx r h
  obtain ⟨a, p, ys, rfl, rfl, hs, hl, q⟩ := h
  have em : ys.map T = (ys.map SX.S).map V.str := by rw [List.map_map]; rfl
  rw [em] at hs
  refine mt_join pins s σ H _ _ v us Q I rx r ⟨_, p, ys.map SX.S, rfl, rfl, hs, ?_, ?_⟩
  · rw [SX.lens, List.length_map, S_length]
    exact hl
  · rw [SX.join_S]
    exact q
theorem joinL_nil : ∀ ys : List Tx, TL.joinL [] ys = ys.flatten
  | [] => rfl
  | [p] => by simp [TL.joinL]
  | p :: q :: r => by
    show p ++ ([] ++ TL.joinL [] (q :: r)) = _
    rw [joinL_nil (q :: r)]
    rfl
/-- b stands in a at i -/
abbrev StAt (a b : Tx) (i : Nat) : Prop := (a.drop i).take b.length = b
theorem subAt_T (a b : Tx) (i : Nat) : Builtin.Str.subAt (SX.S a) (SX.S b) i = decide (StAt a b i) := by
  rw [StrLaws.subAt_eq, S_length]
  show ((a.drop i).take b.length == b) = decide _
  by_cases h : StAt a b i
  · rw [decide_eq_true h]
    exact beq_iff_eq.mpr h
  · rw [decide_eq_false h]
    exact beq_eq_false_iff_ne.mpr h
/-- where b stands first in a, from i on -/
inductive FindT (a b : Tx) (i : Nat) : Int → Prop where
  | at_ (k : Nat) : i ≤ k → k + b.length ≤ a.length → StAt a b k → (∀ j, i ≤ j → j < k → ¬ StAt a b j) → FindT a b i (k : Int)
  | no : (∀ j, i ≤ j → j + b.length ≤ a.length → ¬ StAt a b j) → FindT a b i (-1)
theorem fromIndex_nat (n i : Nat) : fromIndex n (i : Int) = i := by
  unfold fromIndex
  rw [if_neg (by omega)]
  omega
theorem range'_pre {s n : Nat} {pre post : List Nat} {a : Nat} (h : List.range' s n = pre ++ a :: post) : s ≤ a ∧ ∀ k, s ≤ k → k < a → k ∈ pre := by
  have hl : n = pre.length + (post.length + 1) := by
    have e := congrArg List.length h
    simpa using e
  have ha : s + pre.length = a := by
    have h1 : (List.range' s n)[pre.length]? = some a := by rw [h]; simp
    rw [List.getElem?_range' (by omega)] at h1
    have := Option.some.inj h1
    omega
  refine ⟨by omega, fun k h1 h2 => ?_⟩
  have h3 : (List.range' s n)[k - s]? = some k := by
    rw [List.getElem?_range' (by omega)]
    congr 1
    omega
  rw [h, List.getElem?_append_left (by omega)] at h3
  exact List.mem_of_getElem? h3
theorem find3_spec (a b : Tx) (i : Nat) : FindT a b i (Txt.find3 (SX.S a) (SX.S b) (i : Int)) := by
  have hAt : ∀ j, StrLaws.At (SX.S a) (SX.S b) a.length j ↔ (j + b.length ≤ a.length ∧ StAt a b j) := fun j => by
    unfold StrLaws.At
    rw [subAt_T, S_length, decide_eq_true_eq]
  unfold Txt.find3
  rw [S_length, fromIndex_nat, StrLaws.occ_eq]
  rcases StrLaws.occ_first (SX.S a) (SX.S b) a.length 1 (Nat.le_refl _) (List.range' i (a.length + 1 - i)) i (fun k hk => (List.mem_range'_1.mp hk).1) with ⟨h0, hn⟩ | ⟨pre, k, post, e, h0, hk, hn⟩
  · rw [h0]
    refine .no fun j h1 h2 h3 => hn j ?_ ((hAt j).mpr ⟨h2, h3⟩)
    exact List.mem_range'_1.mpr ⟨h1, by omega⟩
  · have hp := range'_pre e
    have hk' := (hAt k).mp hk
    generalize hL : (forIn (List.range' i (a.length + 1 - i)) ((#[] : Array Nat), i) (StrLaws.occBody (SX.S a) (SX.S b) a.length 1)).run.fst = L at h0 ⊢
    have e2 : ∃ r, L.toList = k :: r := by
      have h1 : L.toList[0]? = some k := by rw [Array.getElem?_toList]; exact h0
      cases hh : L.toList with
      | nil => rw [hh] at h1; simp at h1
      | cons y r => rw [hh] at h1; exact ⟨r, by rw [show y = k from Option.some.inj h1]⟩
    obtain ⟨r, e2⟩ := e2
    rw [e2]
    exact .at_ k hp.1 hk'.1 hk'.2 fun j h1 h2 h3 => hn j (hp.2 j h1 h2) ((hAt j).mpr ⟨by omega, h3⟩)
def rFind3T : V → List V → Hp → VK → Prop := fun x xs H Q => ∃ (a b : Tx) (i : Nat), x = T a ∧ xs = [T b, .int (i : Int)] ∧ ∀ r, FindT a b i r → Q (.int r) H
theorem mt_find3T {X : Cx} : MtR X "str.find" rFind3T := by
  intro pins s σ H x xs v us Q I rx r h
  obtain ⟨a, b, i, rfl, rfl, q⟩ := h
  exact mt_find3 pins s σ H _ _ v us Q I rx r ⟨_, _, _, rfl, rfl, q _ (find3_spec a b i)⟩
def rFindT : V → List V → Hp → VK → Prop := fun x xs H Q => ∃ (a b : Tx), x = T a ∧ xs = [T b] ∧ ∀ r, FindT a b 0 r → Q (.int r) H
theorem find_spec (a b : Tx) : FindT a b 0 (Txt.find (SX.S a) (SX.S b)) := by
  have h := find3_spec a b 0
  unfold Txt.find3 at h
  rw [S_length, fromIndex_nat] at h
  unfold Txt.find
  rw [S_length]
  exact h
theorem mt_findT {X : Cx} : MtR X "str.find" rFindT := by
  intro pins s σ H x xs v us Q I rx r h
  obtain ⟨a, b, rfl, rfl, q⟩ := h
  exact mt_find pins s σ H _ _ v us Q I rx r ⟨_, _, rfl, rfl, q _ (find_spec a b)⟩
def rStart3T : V → List V → Hp → VK → Prop := fun x xs H Q => ∃ (a b : Tx) (i : Nat), x = T a ∧ xs = [T b, .int (i : Int)] ∧ Q (.bl (decide (i + b.length ≤ a.length ∧ StAt a b i))) H
theorem mt_start3T {X : Cx} : MtR X "str.startswith" rStart3T := by
  intro pins s σ H x xs v us Q I rx r h
  obtain ⟨a, b, i, rfl, rfl, q⟩ := h
  refine mt_startswith3 pins s σ H _ _ v us Q I rx r ⟨_, _, _, rfl, rfl, ?_⟩
  unfold Txt.startswith3
  rw [S_length, S_length, fromIndex_nat, subAt_T, ← Bool.decide_and]
  exact q
end Wc
set_option Elab.async false
set_option linter.all false
set_option maxRecDepth 100000
set_option maxHeartbeats 2000000
namespace Wc
open PySem PySem.Spec PyProof.Rows L2
/-! ### constants -/
theorem pe_sT {X : Cx} (l : Tx) {x : Str} {j pos} (e : x = SX.S l := by decide +kernel) : PE X (.Constant (.str x) j pos) (tC (T l)) := by
  rw [e]
  exact pe_str
theorem pe_gT {X : Cx} {x : Str} {z : Str} {pos : Pos} (h : ∃ t, X.mg x = some (.str z t)) (l : Tx) (hg : Gl X x := by rfl) (e : z = SX.S l := by decide +kernel) (hd : (x == ("__debug__" : Str)) = false := by decide) : PE X (.Name x pos) (tC (T l)) := by
  obtain ⟨t, h⟩ := h
  subst e
  exact pe_glob hg h ⟨t, rfl⟩ hd
theorem pe_gI {X : Cx} {x : Str} {i : Int} {pos : Pos} (h : ∃ t, X.mg x = some (.int i t)) (hg : Gl X x := by rfl) (hd : (x == ("__debug__" : Str)) = false := by decide) : PE X (.Name x pos) (tC (.int i)) := by
  obtain ⟨t, h⟩ := h
  exact pe_glob hg h ⟨t, rfl⟩ hd
/-! ### a def that is called -/
structure Cal (P : Program) (w : World) (K : PySem.W.Frag) (mg : Str → Option Value) (base : Heap) (x : Str) (st : Stmt) (k : Nat) (ps : List Str) (sp : Sp) : Prop where
  ex : ∃ f fd, FnOk P w K mg base CX0 k f fd ps sp ∧ mg x = some (.ref f) ∧ Fun K x x st f fd ∧ Binds K fd ps []
section
variable {X : Cx} {x : Str} {st : Stmt} {k n : Nat} {ps ks : List Str} {sp : Sp} {p pos : Pos} {e : Expr} {es : List Expr} {kws : List Keyword} {t tk : TA}
theorem pe_cl (C : Cal X.prog X.w X.K X.mg X.base x st k ps sp) (hr : Room n X.A) (ha : PA X (e :: es) t) (hkn : k ≤ n := by decide) (hg : Gl X x := by rfl) (hdb : (x == ("__debug__" : Str)) = false := by decide)
    (he : starEach (e :: es) X.env = (false, eval e X.env) :: starEach es X.env := by rfl) (hpl : (backTo pos (starEach es X.env)).any (·.1) = false := by rfl) : PE X (.Call (.Name x p) (e :: es) [] pos) (tCall sp [] E0 t) := by
  obtain ⟨f, fd, F, hm, hF, hb⟩ := C.ex
  exact pe_call F (hr.mono hkn) hg hm hF.kp hb .nil pass0 ha hdb he hpl
theorem pe_cl0 (C : Cal X.prog X.w X.K X.mg X.base x st k ps sp) (hr : Room n X.A) (hkn : k ≤ n := by decide) (hg : Gl X x := by rfl) (hdb : (x == ("__debug__" : Str)) = false := by decide) : PE X (.Call (.Name x p) [] [] pos) (tCall sp [] E0 tNil) := by
  obtain ⟨f, fd, F, hm, hF, hb⟩ := C.ex
  exact pe_call0 F (hr.mono hkn) hg hm hF.kp hb .nil pass0 hdb
/-- the values of the parameters out of the named ones -/
def KB (x : Str) (st : Stmt) (n : Nat) (ps ks : List Str) (g : List Value → List Value → List Value) (gV : List V → List V → List V) : Prop :=
  ∀ (K : PySem.W.Frag) (f : Addr) (fd : FuncData), Fun K x x st f fd → KBinds K fd ps ks g gV
def tCallK0 (sp : Sp) (gV : List V → List V → List V) (tk : TA) : TE := fun σ H Q => tk σ H fun zs H2 => sp (gV [] zs) H2 Q E0
theorem pe_clK0 {g : List Value → List Value → List Value} {gV : List V → List V → List V} (C : Cal X.prog X.w X.K X.mg X.base x st k ps sp) (kb : KB x st 0 ps ks g gV) (hr : Room n X.A) (hkw : PK X kws tk) (hkn : k ≤ n := by decide) (hg : Gl X x := by rfl) (hdb : (x == ("__debug__" : Str)) = false := by decide)
    (hall : (backToKw pos (keywordEach kws X.env)).all (·.1.isSome) = true := by rfl) (hks : (backToKw pos (keywordEach kws X.env)).filterMap (·.1) = ks := by rfl)
    (hpl : ((backTo pos (starEach [] X.env)).any (·.1) || (backToKw pos (keywordEach kws X.env)).any (·.1.isNone)) = false := by rfl) : PE X (.Call (.Name x p) [] kws pos) (tCallK0 sp gV tk) := by
  obtain ⟨f, fd, F, hm, hF, hb⟩ := C.ex
  refine ⟨fun pins s σ H Q I h => ?_⟩
  refine wpAny_Call_Name_kw (ld_glob I hg hm ?_ hdb)
  refine PySem.W.callWith_KW0 (h₀ := X.base) I.ok.mod.kin hF.kp hall (thn (hkw.run pos pins s σ H _ I h) fun ws s2 ⟨zs, H2, I2, rz, q2⟩ => ⟨I2.kIn, ?_⟩) hpl
  rw [hks]
  exact run_fnk (us := []) (vs := []) F (hr.mono hkn) (kb _ _ _ hF) pass0 I2 .nil rz q2
theorem pe_clK {g : List Value → List Value → List Value} {gV : List V → List V → List V} (C : Cal X.prog X.w X.K X.mg X.base x st k ps sp) (kb : KB x st 0 ps ks g gV) (hr : Room n X.A) (ha : PA X (e :: es) t) (hkw : PK X kws tk) (hkn : k ≤ n := by decide) (hg : Gl X x := by rfl)
    (hall : (backToKw pos (keywordEach kws X.env)).all (·.1.isSome) = true := by rfl) (hks : (backToKw pos (keywordEach kws X.env)).filterMap (·.1) = ks := by rfl)
    (hdb : (x == ("__debug__" : Str)) = false := by decide) (he : starEach (e :: es) X.env = (false, eval e X.env) :: starEach es X.env := by rfl)
    (hpl : ((backTo pos (starEach (e :: es) X.env)).any (·.1) || (backToKw pos (keywordEach kws X.env)).any (·.1.isNone)) = false := by rfl) : PE X (.Call (.Name x p) (e :: es) kws pos) (tCallK sp gV E0 t tk) := by
  obtain ⟨f, fd, F, hm, hF, hb⟩ := C.ex
  exact pe_callK F (hr.mono hkn) hg hm hF.kp (kb _ _ _ hF) pass0 ha hkw hall hks hdb he hpl
end
/-- two named values, in their sequence, or turned -/
def sw2 {α : Type} (turn : Bool) : List α → List α → List α
  | [], [a, b] => if turn then [b, a] else [a, b]
  | _, _ => []
theorem sw2_rel {turn : Bool} {vs zs : List V} {us ws : List Value} (r : Vals vs us) (rz : Vals zs ws) : Vals (sw2 turn vs zs) (sw2 turn us ws) := by
  cases r with
  | cons => exact .nil
  | nil =>
    cases rz with
    | nil => exact .nil
    | cons h1 r1 =>
      cases r1 with
      | nil => exact .nil
      | cons h2 r2 =>
        cases r2 with
        | cons => exact .nil
        | nil => cases turn with
          | true => exact .cons h2 (.cons h1 .nil)
          | false => exact .cons h1 (.cons h2 .nil)
theorem kb2 {x : Str} {st : Stmt} {ps ks : List Str} (turn : Bool) (hp : ps.length = 2)
    (h : ∀ (kV doc pm : Value) (an : Option Addr) (cdv ct a b : Value), bindArgs (PySem.W.fnOf x x (defArgs st) (defBody st) (defScope st) .none kV doc pm an cdv ct) ⟨[], ks.zip [a, b]⟩ = pure (ps.zip (sw2 turn [] [a, b]))) : KB x st 0 ps ks (sw2 turn) (sw2 turn) := by
  intro K f fd F
  obtain ⟨oc, od, kV, doc, pm, an, cdv, ct, osl, rfl, lk, hcd⟩ := F.ex
  refine ⟨fun s us ws _ hl => ?_, fun r rz => sw2_rel r rz⟩
  rw [hp] at hl
  match us, ws, hl with
  | [], [a, b], _ => exact .of_eq (h kV doc pm an cdv ct a b)
  | [], [], hl => exact absurd hl (by simp [sw2])
  | [], [_], hl => exact absurd hl (by simp [sw2])
  | [], _ :: _ :: _ :: _, hl => exact absurd hl (by simp [sw2])
  | _ :: _, ws, hl => exact absurd hl (by simp [sw2])

/-! ### isinstance with a built-in class -/
def rIsiB (K : PySem.W.Frag) : List V → Hp → VK → Prop := fun vs H Q => ∃ (x : V) (n t : String) (b : Bool), vs = [x, .ty n] ∧ TyX K H x (.type t) ∧ kitB t n = some b ∧ Q (.bl b) H
theorem cr_isi {X : Cx} : CallR X (.builtin "isinstance") (rIsiB X.K) := by
  intro pins s σ H vs us Q I r h
  obtain ⟨x, n, t, b, rfl, ty, hk, q⟩ := h
  exact call_isi pins s σ H _ us Q I r ⟨x, .ty n, .type t, .type n, b, rfl, .ty n, ty, kit_ty hk, q⟩
theorem k_str_str : kitB "str" "str" = some true := by decide +kernel
theorem k_bool_bool : kitB "bool" "bool" = some true := by decide +kernel
theorem k_int_int : kitB "int" "int" = some true := by decide +kernel
theorem k_int_bool : kitB "int" "bool" = some false := by decide +kernel
theorem k_bool_int : kitB "bool" "int" = some true := by decide +kernel
theorem k_list_list : kitB "list" "list" = some true := by decide +kernel
theorem k_tuple_tuple : kitB "tuple" "tuple" = some true := by decide +kernel
theorem k_str_bool : kitB "str" "bool" = some false := by decide +kernel

/-! ### sorted(xs, key=len) of texts -/
noncomputable def sortLen (xs : List Tx) : List Tx := xs.mergeSort (PySem.W.dataLe false fun a => PyData.int (a.length : Int))
def rSortLen (K : PySem.W.Frag) : List V → Hp → VK → Prop := fun vs H Q => ∃ (p : Addr) (xs : List Tx), vs = [.ref p] ∧ SqL K H p (xs.map T) ∧ (∀ a ∈ xs, a.length ≤ 16777216) ∧ ∀ q, H q = none → Q (.ref q) (upd H q (.lst ((sortLen xs).map T)))
def tSortLen (K : PySem.W.Frag) (t : TA) : TE := fun σ H Q => t σ H fun vs H1 => rSortLen K vs H1 Q
abbrev IsT (v : Value) (a : Tx) : Prop := ∃ t, v = .str (SX.S a) t
theorem each_of_vals : ∀ {xs : List Tx} {us : List Value}, Vals (xs.map T) us → PySem.W.EachIs IsT us xs
  | [], [], _ => .nil
  | a :: xs, u :: us, .cons h r => .cons h (each_of_vals r)
theorem vals_of_each : ∀ {xs : List Tx} {us : List Value}, PySem.W.EachIs IsT us xs → Vals (xs.map T) us
  | [], [], _ => .nil
  | a :: xs, u :: us, .cons h r => .cons h (vals_of_each r)
theorem pe_sortLen {X : Cx} {p p2 kp pos : Pos} {e : Expr} {t : TA} (hu : X.A.units + 64 < cLine) (hm : X.mg "sorted" = none) (hm2 : X.mg "len" = none) (ha : PA X [e] t) (hg : Gl X "sorted" := by rfl) (hg2 : Gl X "len" := by rfl)
    (he : backTo pos (starEach [e] X.env) = (false, eval e X.env) :: backTo pos (starEach [] X.env) := by rfl) (hpl : (backTo pos (starEach [e] X.env)).any (·.1) = false := by rfl) :
    PE X (.Call (.Name "sorted" p) [e] [⟨some "key", .Name "len" p2, kp⟩] pos) (tSortLen X.K t) := by
  refine ⟨fun pins s σ H Q I h => ?_⟩
  refine wpAny_Call_Name_kw (ld_blt I hg hm boot_sorted ?_)
  refine PyProof.Rows.callWith_kw (thn (ha.run pos pins s σ H _ I h) fun us s1 ⟨vs, H1, I1, r1, q1⟩ => ?_) he hpl
  show wpAny _ _ (evalAll ((do let v ← eval (.Name "len" p2) X.env; standAt pos; pure v) :: [])) _ _ s1
  refine wpAny_evalAll_cons (wpAny_bind (ld_blt I1 hg2 hm2 PySem.boot_len (wpAny_bind (wpAny_standAt (wpAny_pure ?_)))))
  refine wpAny_evalAll_nil ?_
  obtain ⟨q, xs, rfl, hs, hb, k⟩ := q1
  obtain rfl := Vals.ref1 r1
  obtain ⟨its, rv, hl, hz⟩ := I1.list hs
  show wpAny _ _ (call (.builtin "sorted") [.ref q] [(Str.ofString "key", .builtin "len")]) _ _ s1
  rw [List.length_map] at hz
  refine PySem.W.sorted_key_data (R := IsT) (bs := xs) (b := false) (fun a => PyData.int (a.length : Int)) hl.isList (each_of_vals rv) ?_ ?_ hz ?_ (PyProof.Rows.ksk_s1 _ _) (fun _ => PyProof.Rows.ksk_l1 _ _) (fun x => PyProof.Rows.ksk_t4 "len" x) ?_ ?_
  · intro d hd d' hd'
    obtain ⟨a, _, rfl⟩ := List.mem_map.mp hd
    obtain ⟨b, _, rfl⟩ := List.mem_map.mp hd'
    rfl
  · refine .inr fun d hd => ?_
    obtain ⟨a, _, rfl⟩ := List.mem_map.mp hd
    exact ⟨fun z => (nomatch z), fun _ z => (nomatch z)⟩
  · intro a _
    show X.A.units + 2 + _ < cLine
    have : (PyData.int (a.length : Int)).depth ≤ 1 := by simp [PyData.depth]
    omega
  · rintro v a ⟨t, rfl⟩ hm h tk hk
    have hla := hb a hm
    refine PyProof.Rows.len_str ?_ ?_
    · rw [S_length]
      omega
    · rw [S_length]
      exact ⟨h, _, rfl, fun _ _ z => z, .int _ _⟩
  · intro out c h' tk hk hn ho hlen eo
    have fr : H1 (s1.heap.objs.size + 1) = none := I1.hok.fresh (Nat.le_succ _)
    refine ⟨.ref _, upd H1 (s1.heap.objs.size + 1) (.lst ((sortLen xs).map T)), I1.laid (t' := tk) hk (Nat.le_succ _) ⟨?_, out, c, vals_of_each eo, ho⟩, rfl, k _ fr⟩
    rw [List.length_map]
    unfold sortLen
    rw [List.length_mergeSort]
    exact hz
theorem sortLen_pair (a b : Tx) : sortLen [a, b] = if b.length < a.length then [b, a] else [a, b] := by
  have e := PySem.W.dataLe_int (fun a : Tx => (a.length : Int))
  unfold sortLen
  rw [e]
  by_cases h : b.length < a.length
  · rw [if_pos h]
    simp [List.mergeSort, List.MergeSort.Internal.splitInTwo, List.merge, show ¬ a.length ≤ b.length by omega]
  · rw [if_neg h]
    simp [List.mergeSort, List.MergeSort.Internal.splitInTwo, List.merge, show a.length ≤ b.length by omega]
end Wc
set_option Elab.async false
set_option linter.all false
set_option maxRecDepth 100000
set_option maxHeartbeats 2000000
/-! what the new readings evaluate to (over HandS.Evl) -/
namespace Wc
open PySem PySem.Spec PyProof.Rows L2 Evl
section
variable {K : PySem.W.Frag} {σ : L2.St} {H H' : Hp} {ta tb te : TE} {t : TT} {x y z v : V}
theorem rv_addT {a b : Tx} (h : a.length + b.length ≤ 16777216) : RV rAddT (T a) (T b) H (T (a ++ b)) := fun H1 _ _ q => ⟨a, b, rfl, rfl, h, q H1 (Ex.refl H1)⟩
theorem rv_mulT {a : Tx} {n : Int} (h0 : -1000000000 ≤ n) (h1 : n ≤ 1000000000) (h : a.length * n.toNat ≤ 16777216) : RV rMulT (T a) (.int n) H (T (repT n.toNat a)) := fun H1 _ _ q => ⟨a, n, rfl, rfl, h0, h1, h, q H1 (Ex.refl H1)⟩
theorem rv_eqT {a b : Tx} : RV rEqT (T a) (T b) H (.bl (decide (a = b))) := fun H1 _ _ q => ⟨a, b, rfl, rfl, q H1 (Ex.refl H1)⟩
theorem rv_neT {a b : Tx} : RV rNeT (T a) (T b) H (.bl (!decide (a = b))) := fun H1 _ _ q => ⟨a, b, rfl, rfl, q H1 (Ex.refl H1)⟩
theorem rv_ltT {a b : Tx} : RV rLtT (T a) (T b) H (.bl (decide (a < b))) := fun H1 _ _ q => ⟨a, b, rfl, rfl, q H1 (Ex.refl H1)⟩
theorem rv_inT {c : Nat} {b : Tx} : RV rInT (T [c]) (T b) H (.bl (decide (c ∈ b))) := fun H1 _ _ q => ⟨c, b, rfl, rfl, q H1 (Ex.refl H1)⟩
theorem rv_eqB {a b : Bool} {g : Bool → Bool → Bool} : RV (rB0 g) (.bl a) (.bl b) H (.bl (g a b)) := fun H1 _ _ q => ⟨a, b, rfl, rfl, q H1 (Ex.refl H1)⟩
theorem rv_ixT {a : Tx} {i : Int} {c : Nat} (hl : a.length ≤ 16777216) (h : atI a i = some c) : RV rIxT (T a) (.int i) H (T [c]) := fun H1 _ _ q => ⟨a, i, c, rfl, rfl, hl, h, q H1 (Ex.refl H1)⟩
theorem rv_isN : RV (fun x y H Q => y = .non ∧ Q (.bl (decide (x = .non))) H) x .non H (.bl (decide (x = .non))) := fun H1 _ _ q => ⟨rfl, q H1 (Ex.refl H1)⟩
theorem rv_notN : RV (fun x y H Q => y = .non ∧ Q (.bl (!decide (x = .non))) H) x .non H (.bl (!decide (x = .non))) := fun H1 _ _ q => ⟨rfl, q H1 (Ex.refl H1)⟩
theorem rc_lenT {a : Tx} (h : a.length ≤ 16777216) : RC rLenT [T a] H (.int (a.length : Int)) := fun H1 _ _ q => ⟨a, rfl, h, q H1 (Ex.refl H1)⟩
theorem rc_isi {n t : String} {b : Bool} (ty : ∀ H1, Ex H H1 → TyX K H1 x (.type t)) (h : kitB t n = some b) : RC (rIsiB K) [x, .ty n] H (.bl b) := fun H1 e _ q => ⟨x, n, t, b, rfl, ty H1 e, h, q H1 (Ex.refl H1)⟩
theorem rc_int {i : Int} : RC (fun xs H Q => (∃ i, xs = [.int i] ∧ Q (.int i) H) ∨ ∃ k, xs = [.bl k] ∧ Q (.int (if k then 1 else 0)) H) [.int i] H (.int i) := fun H1 _ _ q => .inl ⟨i, rfl, q H1 (Ex.refl H1)⟩
theorem rc_gcd {a b : Int} : RC rGcd [.int a, .int b] H (.int ((Nat.gcd a.natAbs b.natAbs : Nat) : Int)) := fun H1 _ _ q => ⟨a, b, rfl, q H1 (Ex.refl H1)⟩
/-- a reading that is given by another one -/
theorem ev_slT {a : Tx} {tl th : TO} {lo hi : Option Int} (h : Ev te σ H (T a)) (h1 : EvO tl σ H lo) (h2 : EvO th σ H hi) (hl : a.length ≤ 16777216) : Ev (tSl rSlT te tl th) σ H (T (cutT a lo hi)) := fun H1 e _ q =>
  h H1 e _ fun H2 e2 => h1 H2 (e.trans e2) _ fun H3 e3 => h2 H3 ((e.trans e2).trans e3) _ fun H4 e4 => ⟨a, rfl, hl, q H4 ((e2.trans e3).trans e4)⟩
/-- a method of a text -/
def RM (r : V → List V → Hp → VK → Prop) (x : V) (vs : List V) (H : Hp) (z : V) : Prop := ∀ H1, Ex H H1 → ∀ Q : VK, (∀ H2, Ex H1 H2 → Q z H2) → r x vs H1 Q
theorem ev_bmT {r : V → List V → Hp → VK → Prop} {tq : TA} {a : Tx} {vs : List V} (h : Ev te σ H (T a)) (ha : EvA tq σ H vs) (hr : RM r (T a) vs H z) : Ev (tBM K "str" r te tq) σ H z := fun H1 e Q q =>
  h H1 e _ fun H2 e2 => ⟨rfl, ha H2 (e.trans e2) _ fun H3 e3 => hr H3 ((e.trans e2).trans e3) Q fun H4 e4 => q H4 ((e2.trans e3).trans e4)⟩
theorem ev_bmTL {r : V → List V → Hp → VK → Prop} {a : Tx} {xs : List V} (h : Ev te σ H (T a)) (ha : EvL tb σ H xs) (hr : ∀ p H1, H1 p = some (.lst xs) → Ex H H1 → RM r (T a) [.ref p] H1 z) : Ev (tBM K "str" r te (tCons tb tNil)) σ H z := fun H1 e Q q =>
  h H1 e _ fun H2 e2 => ⟨rfl, ha H2 (e.trans e2) _ fun p H3 _ e3 hp => hr p H3 hp ((e.trans e2).trans e3) H3 (Ex.refl H3) Q fun H4 e4 => q H4 ((e2.trans e3).trans e4)⟩
/-- a call of a built-in on one new list -/
theorem ev_cbL {r : List V → Hp → VK → Prop} {xs : List V} (h : EvL te σ H xs) (hr : ∀ p H1, H1 p = some (.lst xs) → Ex H H1 → RC r [.ref p] H1 z) : Ev (tCB r (tCons te tNil)) σ H z := fun H1 e Q q =>
  h H1 e _ fun p H2 _ e2 hp => hr p H2 hp (e.trans e2) H2 (Ex.refl H2) Q fun H3 e3 => q H3 (e2.trans e3)
theorem rc_all {p : Addr} {bs : List Bool} (h : SqL K H p (bs.map V.bl)) : RC (rAll K) [.ref p] H (.bl (bs.all id)) := fun H1 e _ q => ⟨p, bs, rfl, ex_l e h, q H1 (Ex.refl H1)⟩
theorem rc_any {p : Addr} {bs : List Bool} (h : SqL K H p (bs.map V.bl)) : RC (rAny K) [.ref p] H (.bl (bs.any id)) := fun H1 e _ q => ⟨p, bs, rfl, ex_l e h, q H1 (Ex.refl H1)⟩
theorem rc_sum {p : Addr} {ns : List Int} (h : SqL K H p (ns.map V.int)) : RC (rSum K) [.ref p] H (.int ns.sum) := fun H1 e _ q => ⟨p, ns, rfl, ex_l e h, q H1 (Ex.refl H1)⟩
theorem rm_join {p : Addr} {ys : List Tx} (h : SqL K H p (ys.map T) ∨ SqT K H p (ys.map T)) (hl : (ys.map List.length).sum ≤ 16777216) : RM (rJoinT K) (T []) [.ref p] H (T ys.flatten) := fun H1 e _ q =>
  ⟨[], p, ys, rfl, rfl, h.imp (ex_l e) (ex_t e), by simpa using hl, by rw [joinL_nil]; exact q H1 (Ex.refl H1)⟩

/-! ### heaps: all but some stand -/
def Exc (B : Addr → Prop) (H H' : Hp) : Prop := ∀ b o, ¬ B b → H b = some o → H' b = some o
theorem Exc.refl {B : Addr → Prop} (H : Hp) : Exc B H H := fun _ _ _ h => h
theorem Exc.trans {B : Addr → Prop} {H H1 H2 : Hp} (a : Exc B H H1) (b : Exc B H1 H2) : Exc B H H2 := fun x o n h => b x o n (a x o n h)
theorem Exc.of {B : Addr → Prop} {H H1 : Hp} (a : Ex H H1) : Exc B H H1 := fun x o _ h => a x o h
theorem Exc.ex {H H1 : Hp} (a : Exc (fun _ => False) H H1) : Ex H H1 := fun x o h => a x o (fun z => z) h
theorem Exc.then {B : Addr → Prop} {H H1 H2 : Hp} (a : Exc B H H1) (b : Ex H1 H2) : Exc B H H2 := a.trans (.of b)
theorem Exc.mono {B B' : Addr → Prop} {H H1 : Hp} (a : Exc B H H1) (h : ∀ b, B b → B' b) : Exc B' H H1 := fun x o n e => a x o (fun z => n (h x z)) e
theorem Exc.upd {B : Addr → Prop} {H H1 : Hp} {p : Addr} {o : HO} (a : Exc B H H1) (h : B p ∨ H p = none) : Exc B H (upd H1 p o) := fun x u n e => by
  have hx : x ≠ p := by
    rintro rfl
    rcases h with h | h
    · exact n h
    · rw [h] at e; cases e
  rw [upd_ne hx]
  exact a x u n e
theorem Exc.l {B : Addr → Prop} {K : PySem.W.Frag} {H H1 : Hp} {p : Addr} {xs : List V} (a : Exc B H H1) (n : ¬ B p) (h : SqL K H p xs) : SqL K H1 p xs := by
  rcases h with (h | ⟨o, h⟩) | h
  · exact .inl (.inl (a _ _ n h))
  · exact .inl (.inr ⟨o, a _ _ n h⟩)
  · exact .inr h
theorem Exc.tp {B : Addr → Prop} {K : PySem.W.Frag} {H H1 : Hp} {p : Addr} {xs : List V} (a : Exc B H H1) (n : ¬ B p) (h : SqT K H p xs) : SqT K H1 p xs := by
  rcases h with (h | ⟨o, h⟩) | h
  · exact .inl (.inl (a _ _ n h))
  · exact .inl (.inr ⟨o, a _ _ n h⟩)
  · exact .inr h
theorem Exc.fresh {B : Addr → Prop} {H H1 : Hp} {p : Addr} (a : Exc B H H1) (n : ¬ B p) (h : H1 p = none) : H p = none := by
  cases e : H p with
  | none => rfl
  | some o => rw [a _ _ n e] at h; cases h

/-! ### what is walked: the values, one by one -/
/-- wi gives n values; the i-th is such that P i of it and the heap holds; own: what must stand meanwhile -/
def Src (wi : TI) (σ : L2.St) (H : Hp) (n : Nat) (own : Addr → Prop) (P : Nat → V → Hp → Prop) : Prop :=
  ∀ H1, Ex H H1 → ∀ R : It → Hp → Prop, (∀ J H2 S, Ex H1 H2 → Walk J n S (fun i Ha v Hb => Ex Ha Hb ∧ P i v Hb) → (∀ (B : Addr → Prop) Ha, (∀ b, B b → H b ≠ none ∧ ¬ own b) → Exc B H2 Ha → S Ha) → R J H2) → wi σ H1 R
theorem src_list {a : Addr} {xs : List V} {tl : TE} (h : Ev tl σ H (.ref a)) (hs : SqL K H a xs) : Src (iList K tl) σ H xs.length (fun b => b = a) (fun i v _ => xs[i]? = some v) := fun H1 e R q =>
  h H1 e _ fun H2 e2 => ⟨a, rfl, ⟨xs, ex_l (e.trans e2) hs⟩, q _ H2 _ e2 (walk_list.mono (fun _ z => z) fun i Ha v Hb _ _ hy => by
    obtain ⟨rfl, hy⟩ := hy
    exact ⟨Ex.refl _, hy⟩) fun B Ha hB ea => ea.l (fun z => (hB a z).2 rfl) (ex_l (e.trans e2) hs)⟩
theorem src_listM {α : Type} {f : α → V} {a : Addr} {xs : List α} {tl : TE} (h : Ev tl σ H (.ref a)) (hs : SqL K H a (xs.map f)) : Src (iList K tl) σ H xs.length (fun b => b = a) (fun i v _ => (xs.map f)[i]? = some v) := by
  have h1 := src_list h hs
  rw [List.length_map] at h1
  exact h1
/-- over a new list -/
theorem src_newL {xs : List V} {tl : TE} (h : EvL tl σ H xs) : Src (iList K tl) σ H xs.length (fun _ => False) (fun i v _ => xs[i]? = some v) := fun H1 e R q =>
  h H1 e _ fun a H2 ha e2 h2 => ⟨a, rfl, ⟨xs, sq_of h2⟩, q _ H2 _ e2 (walk_list.mono (fun _ z => z) fun i Ha v Hb _ _ hy => by
    obtain ⟨rfl, hy⟩ := hy
    exact ⟨Ex.refl _, hy⟩) fun B Ha hB ea => ea.l (fun z => (hB a z).1 (fresh_back e ha)) (sq_of h2)⟩
theorem src_newLM {α : Type} {f : α → V} {xs : List α} {tl : TE} (h : EvL tl σ H (xs.map f)) : Src (iList K tl) σ H xs.length (fun _ => False) (fun i v _ => (xs.map f)[i]? = some v) := by
  have h1 := src_newL (K := K) h
  rw [List.length_map] at h1
  exact h1
theorem src_tup {a : Addr} {xs : List V} {tl : TE} (h : Ev tl σ H (.ref a)) (hs : SqT K H a xs) : Src (iTup K tl) σ H xs.length (fun b => b = a) (fun i v _ => xs[i]? = some v) := fun H1 e R q =>
  h H1 e _ fun H2 e2 => ⟨a, rfl, ⟨xs, ex_t (e.trans e2) hs⟩, q _ H2 _ e2 (walk_tup.mono (fun _ z => z) fun i Ha v Hb _ _ hy => by
    obtain ⟨rfl, hy⟩ := hy
    exact ⟨Ex.refl _, hy⟩) fun B Ha hB ea => ea.tp (fun z => (hB a z).2 rfl) (ex_t (e.trans e2) hs)⟩
theorem src_tupM {α : Type} {f : α → V} {a : Addr} {xs : List α} {tl : TE} (h : Ev tl σ H (.ref a)) (hs : SqT K H a (xs.map f)) : Src (iTup K tl) σ H xs.length (fun b => b = a) (fun i v _ => (xs.map f)[i]? = some v) := by
  have h1 := src_tup h hs
  rw [List.length_map] at h1
  exact h1
theorem src_str {a : Tx} {tl : TE} (h : Ev tl σ H (T a)) : Src (iStr tl) σ H a.length (fun _ => False) (fun i v _ => (a.map fun c => T [c])[i]? = some v) := fun H1 e R q =>
  h H1 e _ fun H2 e2 => ⟨_, rfl, q _ H2 (fun _ => True) e2 (by
    have w := (walk_str (z := SX.S a)).mono (fun _ z => z) (Y' := fun i Ha v Hb => Ex Ha Hb ∧ (a.map fun c => T [c])[i]? = some v) (fun i Ha v Hb _ _ hy => by
      obtain ⟨rfl, c, hc, rfl⟩ := hy
      refine ⟨Ex.refl _, ?_⟩
      have hc' : a[i]? = some c := by
        have : (a.toArray)[i]? = some c := hc
        simpa using this
      rw [List.getElem?_map, hc']
      rfl)
    have e3 : (SX.S a).cps.size = a.length := S_length a
    rw [e3] at w
    exact w) fun _ _ _ _ => True.intro⟩
theorem src_range1 {tq : TA} {n : Nat} (h : EvA tq σ H [.int (n : Int)]) (hn : n ≤ 1000000000) : Src (iRng1 tq) σ H n (fun _ => False) (fun i v _ => v = .int (i : Int)) := fun H1 e R q =>
  h H1 e _ fun H2 e2 => ⟨_, rfl, by omega, by omega, by
    have w := (walk_range (lo := 0) (n := n)).mono (fun _ z => z) (Y' := fun i Ha v Hb => Ex Ha Hb ∧ v = .int (i : Int)) (fun i Ha v Hb _ _ hy => by
      obtain ⟨rfl, rfl⟩ := hy
      exact ⟨Ex.refl _, by show V.int (0 + (i : Int)) = V.int (i : Int); rw [Int.zero_add]⟩)
    exact q _ H2 _ e2 w fun _ _ _ _ => True.intro⟩
theorem src_range2 {tq : TA} {lo hi : Int} {n : Nat} (h : EvA tq σ H [.int lo, .int hi]) (h0 : -1000000000 ≤ lo) (h1 : lo ≤ 1000000000) (h2 : -1000000000 ≤ hi) (h3 : hi ≤ 1000000000) (hn : n = (hi - lo).toNat) : Src (iRng2 tq) σ H n (fun _ => False) (fun i v _ => v = .int (lo + (i : Int))) := fun H1 e R q =>
  h H1 e _ fun H2 e2 => ⟨lo, hi, rfl, ⟨by omega, by omega, by omega, by omega⟩, by
    subst hn
    have w := (walk_range (lo := lo) (n := (hi - lo).toNat)).mono (fun _ z => z) (Y' := fun i Ha v Hb => Ex Ha Hb ∧ v = .int (lo + (i : Int))) (fun i Ha v Hb _ _ hy => by
      obtain ⟨rfl, rfl⟩ := hy
      exact ⟨Ex.refl _, rfl⟩)
    exact q _ H2 _ e2 w fun _ _ _ _ => True.intro⟩
theorem src_enum {a : Addr} {xs : List V} {tl : TE} (h : Ev tl σ H (.ref a)) (hs : SqL K H a xs) : Src (iEnum K (tCons tl tNil)) σ H xs.length (fun b => b = a) (fun i v Hb => ∃ p x, v = .ref p ∧ xs[i]? = some x ∧ Hb p = some (.tup [.int (i : Nat), x])) := fun H1 e R q =>
  h H1 e _ fun H2 e2 => ⟨a, xs, rfl, ex_l (e.trans e2) hs, q _ H2 _ e2 (walk_enum.mono (fun _ z => z) fun i Ha v Hb _ _ hy => by
    obtain ⟨p, y, x, rfl, hn, rfl, h1, h2⟩ := hy
    refine ⟨Ex.new hn, p, x, rfl, h2, ?_⟩
    rw [← Option.some.inj h1]
    exact upd_same) fun B Ha hB ea => ea.l (fun z => (hB a z).2 rfl) (ex_l (e.trans e2) hs)⟩
theorem src_zip {a b : Addr} {xs ys : List V} {n : Nat} {tl tr : TE} (h : Ev tl σ H (.ref a)) (h2 : Ev tr σ H (.ref b)) (hs : SqL K H a xs) (hs2 : SqL K H b ys) (hn : n = min xs.length ys.length) :
    Src (iZip K (tCons tl (tCons tr tNil))) σ H n (fun c => c = a ∨ c = b) (fun i v Hb => ∃ p x y, v = .ref p ∧ xs[i]? = some x ∧ ys[i]? = some y ∧ Hb p = some (.tup [x, y])) := fun H1 e R q =>
  h H1 e _ fun H2 e2 => h2 H2 (e.trans e2) _ fun H3 e3 => ⟨a, b, xs, ys, rfl, ex_l ((e.trans e2).trans e3) hs, ex_l ((e.trans e2).trans e3) hs2, q _ H3 _ (e2.trans e3) ((walk_zip hn).mono (fun _ z => z) fun i Ha v Hb _ _ hy => by
    obtain ⟨p, x, y, rfl, hf, rfl, h1, h2⟩ := hy
    exact ⟨Ex.new hf, p, x, y, rfl, h1, h2, upd_same⟩) fun B Ha hB ea => ⟨ea.l (fun z => (hB a z).2 (.inl rfl)) (ex_l ((e.trans e2).trans e3) hs), ea.l (fun z => (hB b z).2 (.inr rfl)) (ex_l ((e.trans e2).trans e3) hs2)⟩⟩
theorem src_as {wi : TI} {n : Nat} {own : Addr → Prop} {P P' : Nat → V → Hp → Prop} (h : Src wi σ H n own P) (hp : ∀ i v H', i < n → P i v H' → P' i v H') : Src wi σ H n own P' := fun H1 e R q => h H1 e R fun J H2 S e2 w hS => q J H2 S e2 ⟨w.goes, w.stops, fun i Ha v Hb hi hg hy => ⟨(w.yields i Ha v Hb hi hg hy).1, hp i v Hb hi (w.yields i Ha v Hb hi hg hy).2⟩⟩ hS
theorem src_range1L {tq : TA} {n : Nat} (h : EvA tq σ H [.int (n : Int)]) (hn : n ≤ 1000000000) : Src (iRng1 tq) σ H (List.range n).length (fun _ => False) (fun i v _ => ((List.range n).map fun (i : Nat) => V.int (i : Int))[i]? = some v) := by
  have h1 := src_as (P' := fun i v _ => ((List.range n).map fun (i : Nat) => V.int (i : Int))[i]? = some v) (src_range1 h hn) fun i v _ hi hp => by
    subst hp
    show ((List.range n).map fun (i : Nat) => V.int (i : Int))[i]? = _
    rw [List.getElem?_map, List.getElem?_range hi]
    rfl
  have e : (List.range n).length = n := List.length_range
  rw [e]
  exact h1
theorem src_range2L {tq : TA} {lo hi : Int} {n : Nat} (h : EvA tq σ H [.int lo, .int hi]) (h0 : -1000000000 ≤ lo) (h1 : lo ≤ 1000000000) (h2 : -1000000000 ≤ hi) (h3 : hi ≤ 1000000000) (hn : n = (hi - lo).toNat) : Src (iRng2 tq) σ H (List.range n).length (fun _ => False) (fun i v _ => ((List.range n).map fun (i : Nat) => V.int (lo + (i : Int)))[i]? = some v) := by
  have h1 := src_as (P' := fun i v _ => ((List.range n).map fun (i : Nat) => V.int (lo + (i : Int)))[i]? = some v) (src_range2 h h0 h1 h2 h3 hn) fun i v _ hi hp => by
    subst hp
    show ((List.range n).map fun (i : Nat) => V.int (lo + (i : Int)))[i]? = _
    rw [List.getElem?_map, List.getElem?_range hi]
    rfl
  have e : (List.range n).length = n := List.length_range
  rw [e]
  exact h1

/-! ### comprehensions over such -/
/-- the target a name -/
theorem el_lcW {wi : TI} {j : Nat} {vs : List Nat} {n : Nat} {own : Addr → Prop} {P : Nat → V → Hp → Prop} (f : Nat → Bool) (v : Nat → V) (hs : Src wi σ H n own P) (hn : n ≤ 40000) (hw : ∀ x, wipe ((wipe σ vs).set j (some x)) vs = wipe σ vs)
    (ht : ∀ (i : Nat) (x : V) H1, Ex H H1 → i < n → P i x H1 → EvT t ((wipe σ vs).set j (some x)) H1 (f i)) (he : ∀ (i : Nat) (x : V) H1, Ex H H1 → i < n → P i x H1 → f i = true → Ev te ((wipe σ vs).set j (some x)) H1 (v i)) :
    EvL (tLc wi (gName j) t te vs) σ H (given n f v) := fun H0 e Q q => hs H0 e _ fun J H1 S e1 w hS => fun Dl hD =>
  lc_it w (Qd := fun H3 => Q (.ref Dl) H3) (Cw H1 f v Dl) ⟨hD, Ex.new hD, upd_same⟩ (fun i Hi _ p => hS (fun _ => False) Hi (fun _ z => z.elim) (.of p.2.1)) (fun i x Hi Hj hi p hy => by
    obtain ⟨ey, hP⟩ := hy
    have p' : Cw H1 f v Dl i Hj := ⟨p.1, p.2.1.trans ey, ey _ _ p.2.2⟩
    have eAll : Ex H Hj := (e.trans e1).trans p'.2.1
    refine ⟨hw x, ?_⟩
    have p2 : Cw H1 f v Dl i Hj := p'
    obtain ⟨p1, p3, p4⟩ := p2
    refine ht i x Hj eAll hi hP Hj (Ex.refl _) _ fun H3 e3 => ?_
    cases hf : f i with
    | true =>
      show te _ H3 fun y H4 => ∃ acc, H4 Dl = some (.lst acc) ∧ acc.length < sizeLine ∧ Cw H1 f v Dl (i + 1) (upd H4 Dl (.lst (acc ++ [y])))
      refine he i x Hj eAll hi hP hf H3 e3 _ fun H4 e4 => ⟨given i f v, e4 Dl _ (e3 Dl _ p4), sz_lt (by have := given_len i f v; omega), p1, Ex.mut ((p3.trans e3).trans e4) p1, ?_⟩
      rw [given_yes hf]
      exact upd_same
    | false =>
      show Cw H1 f v Dl (i + 1) H3
      refine ⟨p1, p3.trans e3, ?_⟩
      rw [given_no hf]
      exact e3 Dl _ p4) (fun H3 p => q Dl H3 (fresh_back e1 p.1) (e1.trans p.2.1) p.2.2)
theorem given_map {α : Type} (xs : List α) (p : α → Bool) (g : α → V) (f : Nat → Bool) (v : Nat → V) (hf : ∀ i a, xs[i]? = some a → f i = p a) (hv : ∀ i a, xs[i]? = some a → v i = g a) : given xs.length f v = (xs.filter p).map g := by
  have key : ∀ n, n ≤ xs.length → given n f v = ((xs.take n).filter p).map g := fun n => by
    induction n with
    | zero => intro _; rfl
    | succ n ih =>
      intro hn
      have ha : xs[n]? = some xs[n] := List.getElem?_eq_getElem (by omega)
      rw [List.take_add_one, ha, List.filter_append, List.map_append, ← ih (by omega)]
      cases hp : p xs[n] with
      | true =>
        rw [given_yes ((hf n _ ha).trans hp), hv n _ ha]
        simp [hp]
      | false =>
        rw [given_no ((hf n _ ha).trans hp)]
        simp [hp]
  have := key xs.length (Nat.le_refl _)
  rw [List.take_length] at this
  exact this
/-- over values that stand for xs, one by one; the target a name -/
theorem el_lcX {α : Type} {wi : TI} {j : Nat} {vs : List Nat} {n : Nat} {own : Addr → Prop} {P : Nat → V → Hp → Prop} {g : α → V} {p : α → Bool} (xs : List α) (R : α → V → Hp → Prop) (hs : Src wi σ H n own P) (hn : n ≤ 40000) (hw : ∀ x, wipe ((wipe σ vs).set j (some x)) vs = wipe σ vs)
    (hx : xs.length = n) (hP : ∀ i x H1, P i x H1 → ∃ a, xs[i]? = some a ∧ R a x H1)
    (ht : ∀ (a : α) (x : V) H1, Ex H H1 → a ∈ xs → R a x H1 → EvT t ((wipe σ vs).set j (some x)) H1 (p a)) (he : ∀ (a : α) (x : V) H1, Ex H H1 → a ∈ xs → R a x H1 → p a = true → Ev te ((wipe σ vs).set j (some x)) H1 (g a)) :
    EvL (tLc wi (gName j) t te vs) σ H ((xs.filter p).map g) := by
  subst hx
  have h0 := el_lcW (te := te) (t := t) (fun i => match xs[i]? with | some a => p a | none => false) (fun i => match xs[i]? with | some a => g a | none => .non) hs hn hw
    (fun i x H1 e hi hp => by
      obtain ⟨a, ha, hr⟩ := hP i x H1 hp
      simp only [ha]
      exact ht a x H1 e (List.mem_of_getElem? ha) hr)
    (fun i x H1 e hi hp hf => by
      obtain ⟨a, ha, hr⟩ := hP i x H1 hp
      simp only [ha] at hf ⊢
      exact he a x H1 e (List.mem_of_getElem? ha) hr hf)
  rw [given_map xs p g _ _ (fun i a ha => by simp only [ha]) (fun i a ha => by simp only [ha])] at h0
  exact h0
theorem et_yes : EvT tYes σ H true := fun H1 _ _ q => q H1 (Ex.refl H1)
theorem at_map {α : Type} {xs : List α} {f : α → V} {i : Nat} {x : V} (h : (xs.map f)[i]? = some x) : ∃ a, xs[i]? = some a ∧ x = f a := by
  rw [List.getElem?_map] at h
  cases e : xs[i]? with
  | none => rw [e] at h; cases h
  | some a => rw [e] at h; exact ⟨a, rfl, (Option.some.inj h).symm⟩
/-- over a list of values f a; no test -/
theorem el_lcM {α : Type} {wi : TI} {j : Nat} {vs : List Nat} {own : Addr → Prop} {f g : α → V} (xs : List α) (hs : Src wi σ H xs.length own (fun i v _ => (xs.map f)[i]? = some v)) (hn : xs.length ≤ 40000) (hw : ∀ x, wipe ((wipe σ vs).set j (some x)) vs = wipe σ vs)
    (he : ∀ (a : α) H1, Ex H H1 → a ∈ xs → Ev te ((wipe σ vs).set j (some (f a))) H1 (g a)) : EvL (tLc wi (gName j) tYes te vs) σ H (xs.map g) := by
  have h := el_lcX (te := te) (t := tYes) (p := fun _ => true) (g := g) xs (fun a x _ => x = f a) hs hn hw rfl (fun i x _ hp => at_map hp) (fun _ _ _ _ _ _ => et_yes) (fun a x H1 e hm hr _ => by rw [hr]; exact he a H1 e hm)
  rw [List.filter_eq_self.mpr (fun _ _ => rfl)] at h
  exact h
/-- .. with a test -/
theorem el_lcF {α : Type} {wi : TI} {j : Nat} {vs : List Nat} {own : Addr → Prop} {f g : α → V} {p : α → Bool} (xs : List α) (hs : Src wi σ H xs.length own (fun i v _ => (xs.map f)[i]? = some v)) (hn : xs.length ≤ 40000) (hw : ∀ x, wipe ((wipe σ vs).set j (some x)) vs = wipe σ vs)
    (ht : ∀ (a : α) H1, Ex H H1 → a ∈ xs → EvT t ((wipe σ vs).set j (some (f a))) H1 (p a)) (he : ∀ (a : α) H1, Ex H H1 → a ∈ xs → p a = true → Ev te ((wipe σ vs).set j (some (f a))) H1 (g a)) : EvL (tLc wi (gName j) t te vs) σ H ((xs.filter p).map g) :=
  el_lcX (te := te) (t := t) xs (fun a x _ => x = f a) hs hn hw rfl (fun i x _ hp => at_map hp) (fun a x H1 e hm hr => by rw [hr]; exact ht a H1 e hm) (fun a x H1 e hm hr hf => by rw [hr]; exact he a H1 e hm hf)

/-! ### for loops over such; B: what the turns may change; the word speaks of the heap Hs at the loop's start -/
variable {D : Ends} {tu tz : TS}
theorem s_forW {wi : TI} {g : TG} {n : Nat} {own : Addr → Prop} {P : Nat → V → Hp → Prop} (B : Addr → Prop) (hs : Src wi σ H n own P) (hB : ∀ b, B b → H b ≠ none ∧ ¬ own b) (Pv : Hp → Nat → L2.St → Hp → Prop)
    (h0 : ∀ Hs, Ex H Hs → Pv Hs 0 σ Hs) (hE : ∀ Hs i σ' H', Pv Hs i σ' H' → Exc B Hs H') (hst : ∀ Hs i σ' Ha Hb, Pv Hs i σ' Ha → Ex Ha Hb → Pv Hs i σ' Hb)
    (hb : ∀ Hs i x σ' H', Ex H Hs → i < n → Pv Hs i σ' H' → P i x H' → g x σ' H' fun σ2 H2 => tu { D with nx := Pv Hs (i + 1), ct := Pv Hs (i + 1), bk := D.nx } σ2 H2) (hd : ∀ Hs σ' H', Ex H Hs → Pv Hs n σ' H' → D.nx σ' H') : tFor wi g tu D σ H :=
  hs H (Ex.refl H) _ fun J Hs S e w hS => for_it w (Pv Hs) (h0 Hs e) (fun i σ' H' _ p => hS B H' hB (hE Hs i σ' H' p)) (fun i x σ' Ha Hb hi p hy => hb Hs i x σ' Hb e hi (hst Hs i σ' Ha Hb p hy.1) hy.2) (fun σ' H' p => hd Hs σ' H' e p)
theorem q_forW {wi : TI} {g : TG} {n : Nat} {own : Addr → Prop} {P : Nat → V → Hp → Prop} (B : Addr → Prop) (hs : Src wi σ H n own P) (hB : ∀ b, B b → H b ≠ none ∧ ¬ own b) (Pv : Hp → Nat → L2.St → Hp → Prop)
    (h0 : ∀ Hs, Ex H Hs → Pv Hs 0 σ Hs) (hE : ∀ Hs i σ' H', Pv Hs i σ' H' → Exc B Hs H') (hst : ∀ Hs i σ' Ha Hb, Pv Hs i σ' Ha → Ex Ha Hb → Pv Hs i σ' Hb)
    (hb : ∀ Hs i x σ' H', Ex H Hs → i < n → Pv Hs i σ' H' → P i x H' → g x σ' H' fun σ2 H2 => tu { D with nx := Pv Hs (i + 1), ct := Pv Hs (i + 1), bk := tz D } σ2 H2) (hd : ∀ Hs σ' H', Ex H Hs → Pv Hs n σ' H' → tz D σ' H') : tSeq (tFor wi g tu) tz D σ H :=
  s_forW (D := { D with nx := tz D }) B hs hB Pv h0 hE hst hb hd
end
end Wc
set_option Elab.async false
set_option linter.all false
set_option maxRecDepth 100000
set_option maxHeartbeats 2000000
/-! loops that search, calls of promises -/
namespace Wc
open PySem PySem.Spec PyProof.Rows L2 Evl
section
variable {K : PySem.W.Frag} {σ : L2.St} {H H' : Hp} {ta tb te : TE} {t : TT} {x y z v : V} {D : Ends} {tu tr tz : TS}
theorem set_self {σ : L2.St} {j : Nat} (hj : j < σ.length) : ∃ y, σ = σ.set j y := ⟨σ[j], by simp⟩
/-- for x in ..: if t: return .. -/
theorem q_search {wi : TI} {j : Nat} {n : Nat} {own : Addr → Prop} {P : Nat → V → Hp → Prop} (hs : Src wi σ H n own P) (hj : j < σ.length) (f : Nat → Bool)
    (ht : ∀ i x H1, Ex H H1 → i < n → P i x H1 → (∀ k, k < i → f k = false) → EvT t (σ.set j (some x)) H1 (f i))
    (hr : ∀ i x H1 H2, Ex H H1 → i < n → P i x H1 → Ex H1 H2 → (∀ k, k < i → f k = false) → f i = true → ∀ D' : Ends, D'.rt = D.rt → tr D' (σ.set j (some x)) H2)
    (hd : ∀ y H1, Ex H H1 → (∀ i, i < n → f i = false) → tz D (σ.set j y) H1) : tSeq (tFor wi (gName j) (tIfS t tr tNext)) tz D σ H := by
  refine q_forW (fun _ => False) hs (fun _ z => z.elim) (fun Hs i σ' H' => (∃ y, σ' = σ.set j y) ∧ Ex Hs H' ∧ ∀ k, k < i → f k = false) ?_ ?_ ?_ ?_ ?_
  · intro Hs e
    exact ⟨set_self hj, Ex.refl _, fun k hk => absurd hk (Nat.not_lt_zero _)⟩
  · intro Hs i σ' H' p
    exact .of p.2.1
  · intro Hs i σ' Ha Hb p e
    exact ⟨p.1, p.2.1.trans e, p.2.2⟩
  · rintro Hs i x σ' H' e hi ⟨⟨y, rfl⟩, e2, hk⟩ hP
    have eA : Ex H H' := e.trans e2
    show tIfS t tr tNext _ ((σ.set j y).set j (some x)) H'
    rw [List.set_set]
    refine s_when (ht i x H' eA hi hP hk) (fun hb H1 e1 => ?_) (fun hb H1 e1 => ?_)
    · exact hr i x H' H1 eA hi hP e1 hk hb _ rfl
    · exact ⟨⟨_, rfl⟩, e2.trans e1, fun k hk' => by
        rcases Nat.lt_succ_iff_lt_or_eq.mp hk' with h | h
        · exact hk k h
        · rw [h]; exact hb⟩
  · rintro Hs σ' H' e ⟨⟨y, rfl⟩, e2, hk⟩
    exact hd y H' (e.trans e2) hk
theorem rc_allM {α : Type} {p : Addr} {xs : List α} {f : α → Bool} (h : SqL K H p (xs.map fun a => V.bl (f a))) : RC (rAll K) [.ref p] H (.bl (xs.all f)) := by
  have h2 : SqL K H p ((xs.map f).map V.bl) := by
    rw [List.map_map]
    exact h
  have e := rc_all h2
  rw [List.all_map] at e
  exact e
theorem rc_anyM {α : Type} {p : Addr} {xs : List α} {f : α → Bool} (h : SqL K H p (xs.map fun a => V.bl (f a))) : RC (rAny K) [.ref p] H (.bl (xs.any f)) := by
  have h2 : SqL K H p ((xs.map f).map V.bl) := by
    rw [List.map_map]
    exact h
  have e := rc_any h2
  rw [List.any_map] at e
  exact e
theorem rc_sumM {α : Type} {p : Addr} {xs : List α} {f : α → Int} (h : SqL K H p (xs.map fun a => V.int (f a))) : RC (rSum K) [.ref p] H (.int (xs.map f).sum) := by
  have h2 : SqL K H p ((xs.map f).map V.int) := by
    rw [List.map_map]
    exact h
  exact rc_sum h2
theorem divW {i j : Int} (h : 0 < j) (h1 : j ≤ 1000000000) : CDivW i j := wide_div (b := 31) h (by omega) (by decide) (by decide)
theorem et_andI {u : TT} {a b : Bool} (h1 : EvT t σ H a) (h2 : a = true → EvT u σ H b) : EvT (tAnd t u) σ H (a && b) := et_and h1 h2
/-- and: what stands behind is asked only where the first holds -/
theorem et_andG {u : TT} {a : Bool} {b : Bool} (h1 : EvT t σ H a) (h2 : a = true → EvT u σ H b) (h3 : a = false → b = false) : EvT (tAnd t u) σ H b := by
  have h := et_and h1 h2
  cases a with
  | true => exact h
  | false =>
    rw [h3 rfl] at h ⊢
    exact h
/-- a slice of a new list -/
theorem el_slN {xs : List V} {tl th : TO} {lo hi : Option Int} (h : EvL te σ H xs) (h1 : EvO tl σ H lo) (h2 : EvO th σ H hi) : EvL (tSl (rSlL K) te tl th) σ H (cutV xs lo hi) := fun H1 e _ q =>
  h H1 e _ fun a H2 ha e2 hx => h1 H2 (e.trans e2) _ fun H3 e3 => h2 H3 ((e.trans e2).trans e3) _ fun H4 e4 =>
    ⟨a, xs, rfl, ex_l (e3.trans e4) (sq_of hx), fun p hp => q p _ (fresh_back ((e2.trans e3).trans e4) hp) (((e2.trans e3).trans e4).trans (Ex.new hp)) upd_same⟩
theorem cutV_to (xs : List V) (n : Nat) : cutV xs none (some (n : Int)) = xs.take n := by
  unfold cutV
  rw [HT.sIx_none, HT.sIx_nat, List.drop_zero, Nat.sub_zero]
  by_cases h : n ≤ xs.length
  · rw [Nat.min_eq_left h]
  · rw [Nat.min_eq_right (by omega), List.take_of_length_le (Nat.le_refl _), List.take_of_length_le (by omega)]
theorem cutV_from (xs : List V) (n : Nat) : cutV xs (some (n : Int)) none = xs.drop n := by
  unfold cutV
  rw [HT.sIx_none, HT.sIx_nat]
  by_cases h : n ≤ xs.length
  · rw [Nat.min_eq_left h]
    exact List.take_of_length_le (by rw [List.length_drop]; exact Nat.le_refl _)
  · rw [Nat.min_eq_right (by omega), List.drop_eq_nil_of_le (Nat.le_refl _), List.drop_eq_nil_of_le (by omega), List.take_nil]
/-- xs.extend(ys), ys a new list -/
theorem s_ext {l : Addr} {xs ys : List V} (hl : H l = some (.lst xs)) (ha : Ev ta σ H (.ref l)) (h : EvL te σ H ys) (hz : xs.length + ys.length ≤ 1000000) (k : ∀ H1, Ex H H1 → D.nx σ (upd H1 l (.lst (xs ++ ys)))) :
    tDrop (tBM K "list" rExtend ta (tCons te tNil)) D σ H := ha H (Ex.refl H) _ fun H1 e1 =>
  ⟨Or.inl ⟨rfl, xs, sq_of (e1 l _ hl)⟩, h H1 e1 _ fun p H2 hp e2 h2 => ⟨l, p, xs, ys, rfl, rfl, e2 l _ (e1 l _ hl), h2, Nat.le_trans hz (by decide), k H2 (e1.trans e2)⟩⟩
/-- return f(..), x = f(..), whatever f hands back -/
theorem s_retC {sp : Sp} {dvs vs : List V} {E : XK} {tq : TA} (h : EvA tq σ H vs) (k : ∀ H1, Ex H H1 → sp (vs ++ dvs) H1 D.rt E) : tRet (tCall sp dvs E tq) D σ H := h H (Ex.refl H) _ fun H1 e1 => k H1 e1
theorem q_asgC {i : Nat} {sp : Sp} {dvs vs : List V} {E : XK} {tq : TA} (h : EvA tq σ H vs) (k : ∀ H1, Ex H H1 → sp (vs ++ dvs) H1 (fun v H2 => tz D (σ.set i (some v)) H2) E) : tSeq (tAsg (tCall sp dvs E tq) (gName i)) tz D σ H := h H (Ex.refl H) _ fun H1 e1 => k H1 e1
/-- a promise that hands back a value | a new list | a new tuple, all else kept -/
def RetU (xs : List V) (H : Hp) (Q : VK) : Prop := ∀ p H2, H p = none → Ex H H2 → H2 p = some (.tup xs) → Q (.ref p) H2
theorem RetV.mono {v : V} {H H1 : Hp} {Q : VK} (k : RetV v H Q) (e : Ex H H1) : RetV v H1 Q := fun H2 e2 => k H2 (e.trans e2)
theorem RetL.mono {xs : List V} {H H1 : Hp} {Q : VK} (k : RetL xs H Q) (e : Ex H H1) : RetL xs H1 Q := fun p H2 hp e2 h2 => k p H2 (fresh_back e hp) (e.trans e2) h2
theorem RetU.mono {xs : List V} {H H1 : Hp} {Q : VK} (k : RetU xs H Q) (e : Ex H H1) : RetU xs H1 Q := fun p H2 hp e2 h2 => k p H2 (fresh_back e hp) (e.trans e2) h2
theorem RetV.is {v w : V} {H : Hp} {Q : VK} (k : RetV v H Q) (e : v = w) : RetV w H Q := e ▸ k
end
end Wc
set_option Elab.async false
set_option linter.all false
set_option maxRecDepth 100000
set_option maxHeartbeats 2000000
/-! the feed of draws: a list of three ints at fa; how often it has been stirred -/
namespace Wc
open PySem PySem.Spec PyProof.Rows L2 Evl
def capF : Nat := 1000000000000000000
/-- a feed that has been stirred n times at most -/
def Fd (fa : Addr) (n : Nat) (H : Hp) : Prop := ∃ (a b c : Int) (e : Nat), H fa = some (.lst [.int a, .int b, .int c]) ∧ 0 ≤ a ∧ 1 ≤ e ∧ e ≤ 2000000 ∧ a.natAbs < 2 ^ e ∧ 0 ≤ b ∧ b < 10 ^ 40 ∧ 0 ≤ c ∧ c ≤ (n : Int)
theorem Fd.mono {fa : Addr} {n m : Nat} {H : Hp} (h : Fd fa n H) (hm : n ≤ m) : Fd fa m H := by
  obtain ⟨a, b, c, e, h1, h2, h3, h4, h5, h6, h7, h8, h9⟩ := h
  exact ⟨a, b, c, e, h1, h2, h3, h4, h5, h6, h7, h8, by omega⟩
/-- so many draws may be made -/
def GF (fa : Addr) (B : Nat) (H : Hp) : Prop := ∃ n, n + B ≤ capF ∧ Fd fa n H
/-- at most m draws behind: all else stands -/
structure Rf (fa : Addr) (m : Nat) (H H' : Hp) : Prop where
  keep : Exc (fun c => c = fa) H H'
  feed : ∀ n, n + m ≤ capF → Fd fa n H → Fd fa (n + m) H'
section
variable {K : PySem.W.Frag} {fa p : Addr} {m m' B : Nat} {H H1 H2 : Hp} {o : HO} {xs : List V}
theorem Fd.is (h : Fd fa m H) : H fa ≠ none := by
  obtain ⟨a, b, c, e, h1, _⟩ := h
  rw [h1]
  exact fun z => nomatch z
theorem GF.is (h : GF fa B H) : H fa ≠ none := by
  obtain ⟨n, _, h⟩ := h
  exact h.is
theorem GF.new (h : GF fa B H) (hp : H p = none) : p ≠ fa := fun z => h.is (z ▸ hp)
theorem GF.ofTup (h : GF fa B H) (hp : H p = Option.some (HO.tup xs)) : p ≠ fa := by
  rintro rfl
  obtain ⟨n, _, a, b, c, e, h1, _⟩ := h
  rw [hp] at h1
  cases h1
theorem Rf.refl (H : Hp) : Rf fa 0 H H := ⟨Exc.refl _, fun _ _ h => h⟩
theorem Rf.of_ex (e : Ex H H1) : Rf fa 0 H H1 := ⟨.of e, fun n _ h => by
  obtain ⟨a, b, c, e', h1, h2⟩ := h
  exact ⟨a, b, c, e', e _ _ h1, h2⟩⟩
theorem Rf.trans (a : Rf fa m H H1) (b : Rf fa m' H1 H2) : Rf fa (m + m') H H2 := ⟨a.keep.trans b.keep, fun n hn h => by
  have h1 := b.feed (n + m) (by omega) (a.feed n (by omega) h)
  rw [← Nat.add_assoc]
  exact h1⟩
theorem Rf.mono (a : Rf fa m H H1) (h : m ≤ m') : Rf fa m' H H1 := ⟨a.keep, fun n hn hf => (a.feed n (by omega) hf).mono (by omega)⟩
theorem Rf.then (a : Rf fa m H H1) (e : Ex H1 H2) : Rf fa m H H2 := (a.trans (.of_ex e)).mono (Nat.le_refl _)
theorem Rf.pre (e : Ex H H1) (a : Rf fa m H1 H2) : Rf fa m H H2 := ((Rf.of_ex e).trans a).mono (by omega)
theorem Rf.upd (a : Rf fa m H H1) (h : H p = none) (hf : H fa ≠ none) : Rf fa m H (upd H1 p o) := by
  have hne : fa ≠ p := fun z => hf (z ▸ h)
  refine ⟨a.keep.upd (.inr h), fun n hn hF => ?_⟩
  obtain ⟨x, b, c, e', h1, h2⟩ := a.feed n hn hF
  exact ⟨x, b, c, e', by rw [upd_ne hne]; exact h1, h2⟩
theorem GF.go (g : GF fa B H) (a : Rf fa m H H1) (h : m + m' ≤ B) : GF fa m' H1 := by
  obtain ⟨n, hn, hf⟩ := g
  exact ⟨n + m, by omega, a.feed n (by omega) hf⟩
theorem GF.mono (g : GF fa B H) (h : m ≤ B) : GF fa m H := by
  obtain ⟨n, hn, hf⟩ := g
  exact ⟨n, by omega, hf⟩
theorem GF.ex (g : GF fa B H) (e : Ex H H1) : GF fa B H1 := g.go (Rf.of_ex e) (by omega)
theorem Rf.at_ (a : Rf fa m H H1) (h : H p = some o) (hp : p ≠ fa) : H1 p = some o := a.keep _ _ hp h
theorem Rf.l (a : Rf fa m H H1) (hp : p ≠ fa) (h : SqL K H p xs) : SqL K H1 p xs := a.keep.l hp h
theorem Rf.t (a : Rf fa m H H1) (hp : p ≠ fa) (h : SqT K H p xs) : SqT K H1 p xs := a.keep.tp hp h
theorem Rf.free (a : Rf fa m H H1) (g : H fa ≠ none) (h : H1 p = none) (g1 : H1 fa ≠ none) : H p = none := by
  refine a.keep.fresh ?_ h
  rintro rfl
  exact g1 h
end
/-! ### draw -/
def sp_draw : Sp := fun vs H Q _ => ∃ (fa : Addr) (many : Int), vs = [.ref fa, .int many] ∧ GF fa 1 H ∧ 0 < many ∧ many ≤ 10 ^ 61 ∧ ∀ (d : Nat) H', (d : Int) < many → Rf fa 1 H H' → Q (.int (d : Int)) H'
/-- one of a text's signs, of a list's or a tuple's items -/
def sp_one (K : PySem.W.Frag) : Sp := fun vs H Q _ => ∃ (fa : Addr), GF fa 1 H ∧
  ((∃ (s : Tx), vs = [.ref fa, T s] ∧ s ≠ [] ∧ s.length ≤ 16777216 ∧ ∀ c H', c ∈ s → Rf fa 1 H H' → Q (T [c]) H') ∨
   (∃ (p : Addr) (xs : List V), vs = [.ref fa, .ref p] ∧ (SqL K H p xs ∨ SqT K H p xs) ∧ p ≠ fa ∧ xs ≠ [] ∧ xs.length ≤ 16777216 ∧ ∀ v H', v ∈ xs → Rf fa 1 H H' → Q v H'))
/-- a text of at most so many signs of some -/
def sp_text : Sp := fun vs H Q _ => ∃ (fa : Addr) (s : Tx) (most : Nat), vs = [.ref fa, T s, .int (most : Int)] ∧ GF fa (most + 1) H ∧ most ≤ 30000 ∧ s ≠ [] ∧ s.length ≤ 16777216 ∧ ∀ (t : Tx) H', t.length ≤ most → (∀ c ∈ t, c ∈ s) → Rf fa (most + 1) H H' → Q (T t) H'
/-! ### things and draws in a comprehension; the element a value that is good -/
section
variable {K : PySem.W.Frag} {fa : Addr} {σ : L2.St} {H : Hp} {te : TE}
theorem lcD {wi : TI} {j : Nat} {vs : List Nat} {n : Nat} {own : Addr → Prop} {P : Nat → V → Hp → Prop} {Q : VK} (good : V → Prop) (c : Nat) (hf : H fa ≠ none) (hs : Src wi σ H n own P) (ho : ¬ own fa) (hn : n ≤ 40000) (hw : ∀ x, wipe ((wipe σ vs).set j (some x)) vs = wipe σ vs)
    (he : ∀ (i : Nat) (x : V) H1, i < n → P i x H1 → Rf fa (i * c) H H1 → ∀ Q' : VK, (∀ y H2, good y → Rf fa c H1 H2 → Q' y H2) → te ((wipe σ vs).set j (some x)) H1 Q')
    (k : ∀ p H2 acc, H p = none → Rf fa (n * c) H H2 → H2 p = some (.lst acc) → acc.length = n → (∀ v ∈ acc, good v) → Q (.ref p) H2) : tLc wi (gName j) tYes te vs σ H Q :=
  hs H (Ex.refl H) _ fun J H1 S e1 w hS => fun Dl hD => by
    have hDH : H Dl = none := fresh_back e1 hD
    have hne : Dl ≠ fa := fun z => hf (z ▸ hDH)
    have hf1 : H1 fa ≠ none := by
      cases hq : H fa with
      | none => exact absurd hq hf
      | some o => rw [e1 _ _ hq]; exact fun z => nomatch z
    refine lc_it w (Qd := fun H3 => Q (.ref Dl) H3) (fun i Hi => Rf fa (i * c) H1 Hi ∧ ∃ acc, Hi Dl = some (.lst acc) ∧ acc.length = i ∧ ∀ v ∈ acc, good v) ?_ (fun i Hi hi p => hS (fun b => b = fa) Hi (by rintro b rfl; exact ⟨hf, ho⟩) p.1.keep) ?_ ?_
    · refine ⟨?_, [], upd_same, rfl, fun v hv => nomatch hv⟩
      exact ((Rf.refl H1).upd hD hf1).mono (Nat.zero_le _)
    · rintro i x Ha Hb hi ⟨R, acc, h1, h2, h3⟩ ⟨ey, hP⟩
      refine ⟨hw x, ?_⟩
      show te ((wipe σ vs).set j (some x)) Hb fun y H4 => _
      have Rb : Rf fa (i * c) H1 Hb := R.then ey
      refine he i x Hb hi hP (Rf.pre e1 Rb) _ fun y H4 hy R4 => ?_
      have h4 : H4 Dl = some (.lst acc) := R4.at_ (ey _ _ h1) hne
      refine ⟨acc, h4, sz_lt (by omega), ?_, acc ++ [y], upd_same, by rw [List.length_append, h2]; rfl, fun v hv => ?_⟩
      · have := (Rb.trans R4).upd (p := Dl) (o := .lst (acc ++ [y])) hD hf1
        exact this.mono (by rw [Nat.succ_mul]; exact Nat.le_refl _)
      · rcases List.mem_append.mp hv with hv | hv
        · exact h3 v hv
        · rw [List.mem_singleton.mp hv]
          exact hy
    · rintro H3 ⟨R, acc, h1, h2, h3⟩
      exact k Dl H3 acc hDH (Rf.pre e1 R) h1 h2 h3
end
theorem ix_any {X : Cx} : IxR X (fun x y H Q => (L2.rIxL X.K x y H Q ∨ L2.rIxT X.K x y H Q) ∨ Wc.rIxT x y H Q) := (ix_list.or ix_tup).or ix_T
theorem cr_lenAny {X : Cx} : CallR X (.builtin "len") (fun xs H Q => rLenT xs H Q ∨ (∃ p ys, xs = [.ref p] ∧ (SqL X.K H p ys ∨ SqT X.K H p ys) ∧ Q (.int ys.length) H)) := CallR.or cr_lenT call_len_seq
theorem atI_mem {α : Type} {xs : List α} {d : Nat} (h : d < xs.length) : ∃ v, atI xs (d : Int) = some v ∧ v ∈ xs := ⟨xs[d], atI_nat (List.getElem?_eq_getElem h), List.getElem_mem h⟩
/-- a list of texts -/
theorem texts_of {acc : List V} {g : Tx → Prop} (h : ∀ v ∈ acc, ∃ t, v = T t ∧ g t) : ∃ ts : List Tx, acc = ts.map T ∧ ∀ t ∈ ts, g t := by
  induction acc with
  | nil => exact ⟨[], rfl, fun _ h => nomatch h⟩
  | cons v acc ih =>
    obtain ⟨t, rfl, ht⟩ := h v List.mem_cons_self
    obtain ⟨ts, rfl, hts⟩ := ih fun v hv => h v (List.mem_cons_of_mem _ hv)
    exact ⟨t :: ts, rfl, fun x hx => by
      rcases List.mem_cons.mp hx with rfl | hx
      · exact ht
      · exact hts x hx⟩
end Wc
set_option Elab.async false
set_option linter.all false
set_option maxRecDepth 100000
set_option maxHeartbeats 2000000
/-! data at any depth: texts, ints, lists, tuples -/
namespace Wc
open PySem PySem.Spec PyProof.Rows L2 Evl
/-- a text of low signs -/
def LowT (a : Tx) : Prop := ∀ c ∈ a, c < 1000
abbrev dT (a : Tx) : PyData := .str (SX.S a)
theorem lay_T {a : Tx} (h : LowT a) : (dT a).canLay0 = true := by
  show (SX.S a).cps.all (· < 0x110000) = true
  rw [← Array.all_toList, List.all_eq_true]
  intro c hc
  have := h c hc
  exact decide_eq_true (by omega)
theorem lay_all {α : Type} {g : α → PyData} : ∀ {xs : List α}, (∀ x ∈ xs, (g x).canLay0 = true) → PyData.canLayAll0 (xs.map g) = true
  | [], _ => rfl
  | x :: xs, h => by
    show ((g x).canLay0 && PyData.canLayAll0 (xs.map g)) = true
    rw [h x List.mem_cons_self, lay_all fun y hy => h y (List.mem_cons_of_mem _ hy)]
    rfl
theorem lay_list {α : Type} {g : α → PyData} {xs : List α} (h : ∀ x ∈ xs, (g x).canLay0 = true) : (PyData.list (xs.map g)).canLay0 = true := by
  show PyData.canLayAll0 _ = true
  exact lay_all h
theorem depth_all {α : Type} {g : α → PyData} {m : Nat} : ∀ {xs : List α}, (∀ x ∈ xs, (g x).depth ≤ m) → PyData.depthAll (xs.map g) ≤ m
  | [], _ => Nat.zero_le _
  | x :: xs, h => Nat.max_le.mpr ⟨h x List.mem_cons_self, depth_all fun y hy => h y (List.mem_cons_of_mem _ hy)⟩
theorem shaped_of {d : PyData} (h : d.canLay0 = true) (hd : d.depth ≤ 64) : SeqAt.shaped d = true := by
  unfold SeqAt.shaped
  rw [h, decide_eq_true hd]
  rfl
theorem shaped_list {α : Type} {g : α → PyData} {xs : List α} {m : Nat} (h : ∀ x ∈ xs, (g x).canLay0 = true) (hd : ∀ x ∈ xs, (g x).depth ≤ m) (hm : m + 1 ≤ 64) : SeqAt.shaped (.list (xs.map g)) = true :=
  shaped_of (lay_list h) (by
    show PyData.depthAll _ + 1 ≤ 64
    have := depth_all hd
    omega)
theorem dp_all {α : Type} {K : PySem.W.Frag} {H : Hp} {f : α → V} {g : α → PyData} : ∀ {xs : List α}, (∀ x ∈ xs, Dp K H (f x) (g x)) → DpAll K H (xs.map f) (xs.map g)
  | [], _ => .nil
  | x :: xs, h => .cons (h x List.mem_cons_self) (dp_all fun y hy => h y (List.mem_cons_of_mem _ hy))
theorem dp_list {α : Type} {K : PySem.W.Frag} {H : Hp} {f : α → V} {g : α → PyData} {xs : List α} {p : Addr} (hp : SqL K H p (xs.map f)) (h : ∀ x ∈ xs, Dp K H (f x) (g x)) : Dp K H (.ref p) (.list (xs.map g)) := .lst hp (dp_all h)
theorem eqv_list {α : Type} [DecidableEq α] {g : α → PyData} (h : ∀ x y, PyData.eqv (g x) (g y) = decide (x = y)) : ∀ (xs ys : List α), PyData.eqv (.list (xs.map g)) (.list (ys.map g)) = decide (xs = ys) := by
  intro xs ys
  show PyData.eqvAll _ _ = _
  induction xs generalizing ys with
  | nil => cases ys with
    | nil => rfl
    | cons y ys => rfl
  | cons x xs ih => cases ys with
    | nil => rfl
    | cons y ys =>
      show (PyData.eqv (g x) (g y) && PyData.eqvAll _ _) = _
      rw [h, ih]
      by_cases e : x = y
      · by_cases e2 : xs = ys
        · simp [e, e2]
        · simp [e, e2]
      · simp [e]
theorem eqv_T (a b : Tx) : PyData.eqv (dT a) (dT b) = decide (a = b) := by
  show (SX.S a == SX.S b) = _
  exact SX.S_beq_eq
theorem eqv_int (a b : Int) : PyData.eqv (.int a) (.int b) = decide (a = b) := by
  show (a == b) = _
  by_cases h : a = b
  · simp [h]
  · simp [h]
section
variable {K : PySem.W.Frag} {H : Hp} {x y : V} {d e : PyData}
theorem rv_eqD {b : Bool} (h : ∀ H1, Ex H H1 → Dp K H1 x d) (h2 : ∀ H1, Ex H H1 → Dp K H1 y e) (s1 : SeqAt.shaped d = true) (s2 : SeqAt.shaped e = true) (hb : PyData.eqv d e = b) : RV (rEqD K) x y H (.bl b) := fun H1 e1 _ q => ⟨d, e, h H1 e1, h2 H1 e1, s1, s2, by rw [hb]; exact q H1 (Ex.refl H1)⟩
theorem rv_neD {b : Bool} (h : ∀ H1, Ex H H1 → Dp K H1 x d) (h2 : ∀ H1, Ex H H1 → Dp K H1 y e) (s1 : SeqAt.shaped d = true) (s2 : SeqAt.shaped e = true) (hb : PyData.eqv d e = b) : RV (rNeD K) x y H (.bl (!b)) := fun H1 e1 _ q => ⟨d, e, h H1 e1, h2 H1 e1, s1, s2, by rw [hb]; exact q H1 (Ex.refl H1)⟩
mutual
theorem Dp.ex {H1 : Hp} (e : Ex H H1) : ∀ {v : V} {d : PyData}, Dp K H v d → Dp K H1 v d
  | _, _, .non => .non
  | _, _, .bl b => .bl b
  | _, _, .int i => .int i
  | _, _, .str x => .str x
  | _, _, .lst h a => .lst (ex_l e h) (DpAll.ex e a)
  | _, _, .tup h a => .tup (ex_t e h) (DpAll.ex e a)
theorem DpAll.ex {H1 : Hp} (e : Ex H H1) : ∀ {vs : List V} {ds : List PyData}, DpAll K H vs ds → DpAll K H1 vs ds
  | _, _, .nil => .nil
  | _, _, .cons h a => .cons (Dp.ex e h) (DpAll.ex e a)
end
end
/-- values that are ints or texts, none a truth -/
inductive FlatV : V → PyData → Prop
  | int (i : Int) : FlatV (.int i) (.int i)
  | str {a : Tx} (h : LowT a) : FlatV (T a) (dT a)
/-- a list of such -/
def sp_list_same (K : PySem.W.Frag) : Sp := fun vs H Q _ => ∃ (p q : Addr) (xs : List V), vs = [.ref p, .ref q] ∧ H p = some (.lst xs) ∧ SqL K H q xs ∧ (∀ v ∈ xs, ∃ d, FlatV v d) ∧ xs.length ≤ 30000 ∧ RetV (.bl true) H Q
theorem flat_data {K : PySem.W.Frag} {H : Hp} {xs : List V} (h : ∀ v ∈ xs, ∃ d, FlatV v d) : ∃ ds : List PyData, DpAll K H xs ds ∧ PyData.canLayAll0 ds = true ∧ PyData.depthAll ds ≤ 0 := by
  induction xs with
  | nil => exact ⟨[], .nil, rfl, Nat.le_refl _⟩
  | cons v xs ih =>
    obtain ⟨ds, h1, h2, h3⟩ := ih fun v hv => h v (List.mem_cons_of_mem _ hv)
    obtain ⟨d, hd⟩ := h v List.mem_cons_self
    cases hd with
    | int i => exact ⟨.int i :: ds, .cons (.int i) h1, by show (true && PyData.canLayAll0 ds) = true; rw [h2]; rfl, Nat.max_le.mpr ⟨Nat.le_refl _, h3⟩⟩
    | str ha => exact ⟨_ :: ds, .cons (.str _) h1, by show ((dT _).canLay0 && PyData.canLayAll0 ds) = true; rw [h2, lay_T ha]; rfl, Nat.max_le.mpr ⟨Nat.le_refl _, h3⟩⟩
end Wc
set_option Elab.async false
set_option linter.all false
set_option maxRecDepth 100000
set_option maxHeartbeats 2000000
/-! the rules that name the written part: with the part K given -/
namespace Wc
open PySem PySem.Spec PyProof.Rows L2 Evl
def rLenAny (K : PySem.W.Frag) : List V → Hp → VK → Prop := fun xs H Q => rLenT xs H Q ∨ (∃ p ys, xs = [.ref p] ∧ (SqL K H p ys ∨ SqT K H p ys) ∧ Q (.int ys.length) H)
def rIxAny (K : PySem.W.Frag) : R2 := fun x y H Q => (L2.rIxL K x y H Q ∨ L2.rIxT K x y H Q) ∨ Wc.rIxT x y H Q
def rTupS (K : PySem.W.Frag) : List V → Hp → VK → Prop := fun xs H Q => ∃ p ys, xs = [.ref p] ∧ ((SqL K H p ys ∧ ∀ l, H l = none → Q (.ref l) (upd H l (.tup ys))) ∨ (SqT K H p ys ∧ Q (.ref p) H))
section
variable {X : Cx} (K : PySem.W.Frag)
theorem kcr {f : Value} {r : PySem.W.Frag → List V → Hp → VK → Prop} (h : CallR X f (r X.K)) (hK : X.K = K := by rfl) : CallR X f (r K) := hK ▸ h
theorem kop {f : Value → Value → Sem Value} {r : PySem.W.Frag → R2} (h : OpR X f (r X.K)) (hK : X.K = K := by rfl) : OpR X f (r K) := hK ▸ h
theorem kix {r : PySem.W.Frag → R2} (h : IxR X (r X.K)) (hK : X.K = K := by rfl) : IxR X (r K) := hK ▸ h
theorem ksl {r : PySem.W.Frag → V → Option Int → Option Int → Hp → VK → Prop} (h : SlR X (r X.K)) (hK : X.K = K := by rfl) : SlR X (r K) := hK ▸ h
theorem kmt {id : String} {r : PySem.W.Frag → V → List V → Hp → VK → Prop} (h : MtR X id (r X.K)) (hK : X.K = K := by rfl) : MtR X id (r K) := hK ▸ h
theorem kbm {e : Expr} {T : String} {r : V → List V → Hp → VK → Prop} {to : TE} {t : TA} (h : PE X e (tBM X.K T r to t)) (hK : X.K = K := by rfl) : PE X e (tBM K T r to t) := hK ▸ h
theorem kbm0 {e : Expr} {T : String} {r : V → List V → Hp → VK → Prop} {to : TE} (h : PE X e (tBM0 X.K T r to)) (hK : X.K = K := by rfl) : PE X e (tBM0 K T r to) := hK ▸ h
theorem kil {tg it : Expr} {tl : TE} (h : PI X tg it (iList X.K tl)) (hK : X.K = K := by rfl) : PI X tg it (iList K tl) := hK ▸ h
theorem kit {tg it : Expr} {tl : TE} (h : PI X tg it (iTup X.K tl)) (hK : X.K = K := by rfl) : PI X tg it (iTup K tl) := hK ▸ h
theorem kie {tg it : Expr} {ta : TA} (h : PI X tg it (iEnum X.K ta)) (hK : X.K = K := by rfl) : PI X tg it (iEnum K ta) := hK ▸ h
theorem kiz {tg it : Expr} {ta : TA} (h : PI X tg it (iZip X.K ta)) (hK : X.K = K := by rfl) : PI X tg it (iZip K ta) := hK ▸ h
theorem kgt {tg : Expr} {n : Nat} {t : TGs} (h : PG X tg (gTup X.K n t)) (hK : X.K = K := by rfl) : PG X tg (gTup K n t) := hK ▸ h
theorem kgl {tg : Expr} {n : Nat} {t : TGs} (h : PG X tg (gLst X.K n t)) (hK : X.K = K := by rfl) : PG X tg (gLst K n t) := hK ▸ h
theorem kso {e : Expr} {t : TA} (h : PE X e (tSortLen X.K t)) (hK : X.K = K := by rfl) : PE X e (tSortLen K t) := hK ▸ h
end
end Wc
set_option Elab.async false
set_option linter.all false
set_option maxRecDepth 100000
set_option maxHeartbeats 2000000
/-! draws by their promises -/
namespace Wc
open PySem PySem.Spec PyProof.Rows L2 Evl
section
variable {K : PySem.W.Frag} {σ : L2.St} {H : Hp} {te tm : TE} {fa : Addr} {i : Nat} {Q : VK} {B : Nat}
theorem wp_draw {many : Int} (h0 : σ[i]? = some (some (.ref fa))) (h : Ev te σ H (.int many)) (G : GF fa B H) (h1 : 0 < many) (h2 : many ≤ 10 ^ 61) (k : ∀ (d : Nat) H', (d : Int) < many → Rf fa 1 H H' → Q (.int (d : Int)) H') (hB : 1 ≤ B := by omega) : tCall sp_draw [] E0 (tCons (tVar i) (tCons te tNil)) σ H Q :=
  ⟨.ref fa, h0, h H (Ex.refl _) _ fun H1 e1 => ⟨fa, many, rfl, (G.ex e1).mono hB, h1, h2, fun d H' hd R => k d H' hd (.pre e1 R)⟩⟩
theorem wp_oneT {s : Tx} (h0 : σ[i]? = some (some (.ref fa))) (h : Ev te σ H (T s)) (G : GF fa B H) (hs : s ≠ []) (hl : s.length ≤ 16777216) (k : ∀ c H', c ∈ s → Rf fa 1 H H' → Q (T [c]) H') (hB : 1 ≤ B := by omega) : tCall (sp_one K) [] E0 (tCons (tVar i) (tCons te tNil)) σ H Q :=
  ⟨.ref fa, h0, h H (Ex.refl _) _ fun H1 e1 => ⟨fa, (G.ex e1).mono hB, .inl ⟨s, rfl, hs, hl, fun c H' hc R => k c H' hc (.pre e1 R)⟩⟩⟩
/-- of a new list -/
theorem wp_oneL {vs : List V} (h0 : σ[i]? = some (some (.ref fa))) (h : EvL te σ H vs) (G : GF fa B H) (hs : vs ≠ []) (hl : vs.length ≤ 16777216) (k : ∀ v H', v ∈ vs → Rf fa 1 H H' → Q v H') (hB : 1 ≤ B := by omega) : tCall (sp_one K) [] E0 (tCons (tVar i) (tCons te tNil)) σ H Q :=
  ⟨.ref fa, h0, h H (Ex.refl _) _ fun p H1 hp e1 h1 => ⟨fa, (G.ex e1).mono hB, .inr ⟨p, vs, rfl, .inl (sq_of h1), G.new hp, hs, hl, fun v H' hv R => k v H' hv (.pre e1 R)⟩⟩⟩
/-- of a list or tuple that stands -/
theorem wp_oneS {p : Addr} {xs : List V} (h0 : σ[i]? = some (some (.ref fa))) (h : Ev te σ H (.ref p)) (hS : SqL K H p xs ∨ SqT K H p xs) (hp : p ≠ fa) (G : GF fa B H) (hs : xs ≠ []) (hl : xs.length ≤ 16777216) (k : ∀ v H', v ∈ xs → Rf fa 1 H H' → Q v H') (hB : 1 ≤ B := by omega) : tCall (sp_one K) [] E0 (tCons (tVar i) (tCons te tNil)) σ H Q :=
  ⟨.ref fa, h0, h H (Ex.refl _) _ fun H1 e1 => ⟨fa, (G.ex e1).mono hB, .inr ⟨p, xs, rfl, hS.imp (ex_l e1) (ex_t e1), hp, hs, hl, fun v H' hv R => k v H' hv (.pre e1 R)⟩⟩⟩
theorem wp_text {s : Tx} {most : Nat} (h0 : σ[i]? = some (some (.ref fa))) (h : Ev te σ H (T s)) (hm : Ev tm σ H (.int (most : Int))) (G : GF fa B H) (hm1 : most ≤ 30000) (hs : s ≠ []) (hl : s.length ≤ 16777216) (k : ∀ (t : Tx) H', t.length ≤ most → (∀ c ∈ t, c ∈ s) → Rf fa (most + 1) H H' → Q (T t) H') (hB : most + 1 ≤ B := by omega) :
    tCall sp_text [] E0 (tCons (tVar i) (tCons te (tCons tm tNil))) σ H Q :=
  ⟨.ref fa, h0, h H (Ex.refl _) _ fun H1 e1 => hm H1 e1 _ fun H2 e2 => ⟨fa, s, most, rfl, (G.ex (e1.trans e2)).mono hB, hm1, hs, hl, fun t H' h1 h2 R => k t H' h1 h2 (.pre (e1.trans e2) R)⟩⟩
end
/-- a feed out of a cell of the script -/
def sp_feed (K : PySem.W.Frag) : Sp := fun vs H Q _ => ∃ (a : Addr) (ns : List Int) (k e : Nat), vs = [.ref a, .int (k : Int)] ∧ SqL K H a (ns.map V.int) ∧ k ≤ 1000 ∧ 1 ≤ e ∧ e ≤ 1100000 ∧ (∀ z ∈ ns, z.natAbs < 2 ^ e) ∧
  ∀ fa H', H fa = none → Ex H H' → Fd fa 0 H' → Q (.ref fa) H'
theorem pow_add_small {x c : Int} {e : Nat} (hx : x.natAbs < 2 ^ e) (hc : c.natAbs ≤ 2 ^ 70) : (x + c).natAbs < 2 ^ (e + 72) := by
  have h1 : (x + c).natAbs ≤ x.natAbs + c.natAbs := Int.natAbs_add_le _ _
  have h2 : 1 ≤ 2 ^ e := Nat.pow_pos (by decide)
  have h3 : (2 : Nat) ^ (e + 72) = 2 ^ e * (4 * 2 ^ 70) := by rw [Nat.pow_add]
  have hA : 1 ≤ (2 : Nat) ^ 70 := Nat.pow_pos (by decide)
  rw [h3]
  generalize (2 : Nat) ^ e = E at hx h2 ⊢
  generalize (2 : Nat) ^ 70 = A at hc hA ⊢
  have h5 : E ≤ E * A := Nat.le_mul_of_pos_right _ hA
  have h6 : A ≤ E * A := Nat.le_mul_of_pos_left _ h2
  rw [Nat.mul_left_comm]
  omega
end Wc
set_option Elab.async false
set_option linter.all false
set_option maxRecDepth 100000
set_option maxHeartbeats 2000000
/-! words: powers, turns, roots, two words that change places; plain lists of numbers -/
namespace Wm
open Wc
def isRootLen (a : Tx) (m : Nat) : Bool := decide (a.length % m = 0) && decide (repT (a.length / m) (a.take m) = a)
def rootLen (a : Tx) : Nat := ((List.range' 1 a.length).find? (isRootLen a)).getD a.length
def aroot (a : Tx) : Tx := a.take (rootLen a)
def cyc (a : Tx) (i : Nat) : Nat := a.getD (i % a.length) 0
def Per (a : Tx) (k : Nat) : Prop := ∀ i, cyc a (i + k) = cyc a i
theorem repT_one (a : Tx) : repT 1 a = a := by rw [repT_succ, repT_zero, List.append_nil]
theorem repT_add (m n : Nat) (a : Tx) : repT (m + n) a = repT m a ++ repT n a := by
  induction m with
  | zero => rw [Nat.zero_add, repT_zero, List.nil_append]
  | succ m ih => rw [Nat.succ_add, repT_succ, repT_succ, ih, List.append_assoc]
theorem repT_mul (m n : Nat) (a : Tx) : repT m (repT n a) = repT (m * n) a := by
  induction m with
  | zero => rw [Nat.zero_mul, repT_zero, repT_zero]
  | succ m ih => rw [repT_succ, ih, Nat.succ_mul, Nat.add_comm, repT_add]
theorem repT_nil (n : Nat) : repT n [] = [] := List.length_eq_zero_iff.mp (by rw [repT_len]; simp)
theorem repT_ne {n : Nat} {a : Tx} (hn : 1 ≤ n) (ha : a ≠ []) : repT n a ≠ [] := by
  intro h
  have h1 := congrArg List.length h
  rw [repT_len] at h1
  have h2 : 0 < a.length := List.length_pos_iff.mpr ha
  have h3 : 0 < n * a.length := Nat.mul_pos hn h2
  rw [List.length_nil] at h1
  omega
theorem repT_get {a : Tx} (n : Nat) : ∀ (j : Nat), j < n * a.length → (repT n a)[j]? = a[j % a.length]? := by
  induction n with
  | zero =>
    intro j h
    rw [Nat.zero_mul] at h
    exact absurd h (Nat.not_lt_zero _)
  | succ n ih =>
    intro j h
    rw [repT_succ]
    by_cases hj : j < a.length
    · rw [List.getElem?_append_left hj, Nat.mod_eq_of_lt hj]
    · rw [List.getElem?_append_right (by omega), ih (j - a.length) (by rw [Nat.succ_mul] at h; omega)]
      have : j % a.length = (j - a.length) % a.length := Nat.mod_eq_sub_mod (by omega)
      rw [this]
theorem cyc_len (a : Tx) (i : Nat) : cyc a (i + a.length) = cyc a i := by
  unfold cyc
  rw [Nat.add_mod_right]
theorem cyc_mod (a : Tx) (i : Nat) : cyc a (i % a.length) = cyc a i := by
  unfold cyc
  rw [Nat.mod_mod]
theorem cyc_lt {a : Tx} {i : Nat} (h : i < a.length) : a[i]? = some (cyc a i) := by
  unfold cyc
  rw [Nat.mod_eq_of_lt h, List.getD_eq_getElem?_getD, List.getElem?_eq_getElem h]
  rfl
theorem cyc_repT {a : Tx} {n : Nat} (hn : 1 ≤ n) (ha : a ≠ []) (i : Nat) : cyc (repT n a) i = cyc a i := by
  have hp : 0 < a.length := List.length_pos_iff.mpr ha
  have hN : 0 < n * a.length := Nat.mul_pos hn hp
  unfold cyc
  rw [List.getD_eq_getElem?_getD, List.getD_eq_getElem?_getD, repT_len, repT_get n _ (Nat.mod_lt _ hN), Nat.mod_mod_of_dvd _ (Nat.dvd_mul_left _ _)]
theorem ext_cyc {a b : Tx} (hl : a.length = b.length) (h : ∀ i, i < a.length → cyc a i = cyc b i) : a = b := by
  apply List.ext_getElem?
  intro i
  by_cases hi : i < a.length
  · rw [cyc_lt hi, cyc_lt (by omega), h i hi]
  · rw [List.getElem?_eq_none (by omega), List.getElem?_eq_none (by omega)]
/-! ### turns -/
theorem turn_get {w : Tx} {k i : Nat} (hk : k ≤ w.length) (hi : i < w.length) : (w.drop k ++ w.take k)[i]? = some (cyc w (i + k)) := by
  by_cases h : i + k < w.length
  · rw [List.getElem?_append_left (by rw [List.length_drop]; omega), List.getElem?_drop, Nat.add_comm k i, cyc_lt h]
  · rw [List.getElem?_append_right (by rw [List.length_drop]; omega), List.length_drop, List.getElem?_take, if_pos (by omega), cyc_lt (by omega)]
    have e : i + k = (i - (w.length - k)) + w.length := by omega
    rw [e, cyc_len]
theorem turn_iff {w : Tx} {k : Nat} (hk : k ≤ w.length) : w.drop k ++ w.take k = w ↔ Per w k := by
  constructor
  · intro h i
    by_cases h0 : w.length = 0
    · have : w = [] := List.length_eq_zero_iff.mp h0
      subst this
      rfl
    · have hi : i % w.length < w.length := Nat.mod_lt _ (by omega)
      have h1 := turn_get hk hi
      rw [h, cyc_lt hi] at h1
      have h2 := Option.some.inj h1
      rw [cyc_mod] at h2
      rw [h2]
      unfold cyc
      rw [Nat.mod_add_mod]
  · intro h
    apply List.ext_getElem?
    intro i
    by_cases hi : i < w.length
    · rw [turn_get hk hi, cyc_lt hi, h i]
    · rw [List.getElem?_eq_none (by rw [List.length_append, List.length_drop, List.length_take]; omega), List.getElem?_eq_none (by omega)]
theorem twice_at {w : Tx} {k : Nat} (hk : k ≤ w.length) : ((w ++ w).drop k).take w.length = w.drop k ++ w.take k := by
  rw [List.drop_append_of_le_length hk, List.take_append, List.take_of_length_le (by rw [List.length_drop]; omega), List.length_drop]
  congr 2
  omega
theorem stAt_twice {w : Tx} {k : Nat} (hk : k ≤ w.length) : StAt (w ++ w) w k ↔ Per w k := by
  unfold StAt
  rw [twice_at hk, turn_iff hk]
/-! ### periods of the round -/
theorem Per.mul {w : Tx} {k : Nat} (h : Per w k) (n : Nat) : Per w (n * k) := by
  induction n with
  | zero => intro i; rw [Nat.zero_mul, Nat.add_zero]
  | succ n ih => intro i; rw [Nat.succ_mul, ← Nat.add_assoc, h, ih]
theorem Per.sub {w : Tx} {k m : Nat} (h : Per w k) (h2 : Per w m) (hm : m ≤ k) : Per w (k - m) := fun i => by
  rw [← h2 (i + (k - m)), show i + (k - m) + m = i + k by omega, h]
theorem Per.mod {w : Tx} {k m : Nat} (h : Per w k) (h2 : Per w m) : Per w (k % m) := by
  have := h.sub (h2.mul (k / m)) (Nat.div_mul_le_self k m)
  have e : k - k / m * m = k % m := by
    have := Nat.div_add_mod k m
    rw [Nat.mul_comm]
    omega
  rw [e] at this
  exact this
theorem Per.gcd {w : Tx} (k m : Nat) : Per w k → Per w m → Per w (Nat.gcd k m) := by
  induction k, m using Nat.gcd.induction with
  | H0 n => intro _ h; rwa [Nat.gcd_zero_left]
  | H1 m n hm ih => intro h1 h2; rw [Nat.gcd_rec]; exact ih (h2.mod h1) h1
theorem per_len (w : Tx) : Per w w.length := cyc_len w
theorem isRoot_iff {w : Tx} {m : Nat} (h1 : 1 ≤ m) (h2 : m ≤ w.length) : isRootLen w m = true ↔ m ∣ w.length ∧ Per w m := by
  unfold isRootLen
  rw [Bool.and_eq_true, decide_eq_true_eq, decide_eq_true_eq, ← Nat.dvd_iff_mod_eq_zero]
  have hlt : (w.take m).length = m := by rw [List.length_take]; omega
  have hne : w.take m ≠ [] := fun z => by rw [z] at hlt; simp at hlt; omega
  constructor
  · rintro ⟨hd, he⟩
    refine ⟨hd, fun i => ?_⟩
    have hn : 1 ≤ w.length / m := (Nat.le_div_iff_mul_le h1).mpr (by omega)
    have hc : ∀ j, cyc w j = cyc (w.take m) j := fun j => by
      conv => lhs; rw [← he]
      exact cyc_repT hn hne j
    rw [hc, hc]
    have := cyc_len (w.take m) i
    rw [hlt] at this
    exact this
  · rintro ⟨hd, hp⟩
    refine ⟨hd, ?_⟩
    obtain ⟨n, hn⟩ := hd
    have e1 : w.length / m = n := by rw [hn]; exact Nat.mul_div_cancel_left _ (by omega)
    have hL : (repT n (w.take m)).length = w.length := by rw [repT_len, hlt, Nat.mul_comm]; exact hn.symm
    rw [e1]
    apply List.ext_getElem?
    intro j
    by_cases hj : j < w.length
    · rw [repT_get n j (by rw [hlt, Nat.mul_comm]; omega), hlt]
      have hjm : j % m < m := Nat.mod_lt _ (by omega)
      rw [List.getElem?_take, if_pos hjm, cyc_lt (by omega), cyc_lt hj]
      have h3 := (hp.mul (j / m)) (j % m)
      rw [show j % m + j / m * m = j by rw [Nat.mul_comm]; exact Nat.mod_add_div j m] at h3
      rw [h3]
    · rw [List.getElem?_eq_none (by omega), List.getElem?_eq_none (by omega)]
theorem root_self {a : Tx} (ha : a ≠ []) : isRootLen a a.length = true := by
  have hp : 0 < a.length := List.length_pos_iff.mpr ha
  exact (isRoot_iff hp (Nat.le_refl _)).mpr ⟨Nat.dvd_refl _, per_len a⟩
/-- the root's length: the least period of the round -/
theorem rootLen_spec {a : Tx} (ha : a ≠ []) : 1 ≤ rootLen a ∧ rootLen a ≤ a.length ∧ rootLen a ∣ a.length ∧ Per a (rootLen a) ∧ ∀ k, 1 ≤ k → Per a k → rootLen a ≤ k := by
  have hp : 0 < a.length := List.length_pos_iff.mpr ha
  have hs : ∃ m, (List.range' 1 a.length).find? (isRootLen a) = some m := by
    cases h : (List.range' 1 a.length).find? (isRootLen a) with
    | some m => exact ⟨m, rfl⟩
    | none =>
      rw [List.find?_eq_none] at h
      have := h a.length (by rw [List.mem_range'_1]; omega)
      exact absurd (root_self ha) this
  obtain ⟨m, hm⟩ := hs
  have er : rootLen a = m := by unfold rootLen; rw [hm]; rfl
  rw [List.find?_range'_eq_some] at hm
  obtain ⟨h1, h2, h3⟩ := hm
  rw [List.mem_range'_1] at h2
  rw [er]
  have h4 := (isRoot_iff h2.1 (by omega)).mp h1
  refine ⟨h2.1, by omega, h4.1, h4.2, fun k hk hkp => ?_⟩
  have hg := hkp.gcd k a.length (per_len a)
  have g1 : 0 < Nat.gcd k a.length := Nat.gcd_pos_of_pos_left _ hk
  have g2 : Nat.gcd k a.length ≤ k := Nat.gcd_le_left _ hk
  have g3 : Nat.gcd k a.length ≤ a.length := Nat.gcd_le_right _ hp
  have hr := (isRoot_iff g1 g3).mpr ⟨Nat.gcd_dvd_right _ _, hg⟩
  by_cases hlt : Nat.gcd k a.length < m
  · have := h3 (Nat.gcd k a.length) g1 hlt
    rw [hr] at this
    cases this
  · omega
theorem find_root {a : Tx} (ha : a ≠ []) {r : Int} (h : FindT (a ++ a) a 1 r) : r = (rootLen a : Int) := by
  obtain ⟨h1, h2, h3, h4, h5⟩ := rootLen_spec ha
  cases h with
  | at_ k hk hl hs hn =>
    have hl2 : k ≤ a.length := by rw [List.length_append] at hl; omega
    have g1 := h5 k hk ((stAt_twice hl2).mp hs)
    have g2 : ¬ rootLen a < k := fun z => hn _ h1 z ((stAt_twice h2).mpr h4)
    have : k = rootLen a := by omega
    rw [this]
  | no hn =>
    exact absurd ((stAt_twice h2).mpr h4) (hn _ h1 (by rw [List.length_append]; omega))
theorem per_repT {a : Tx} {n : Nat} (hn : 1 ≤ n) (ha : a ≠ []) (k : Nat) : Per (repT n a) k ↔ Per a k := by
  unfold Per
  constructor
  · intro h i
    rw [← cyc_repT hn ha, ← cyc_repT hn ha, h]
  · intro h i
    rw [cyc_repT hn ha, cyc_repT hn ha, h]
theorem rootLen_repT {a : Tx} {n : Nat} (hn : 1 ≤ n) (ha : a ≠ []) : rootLen (repT n a) = rootLen a := by
  obtain ⟨h1, h2, h3, h4, h5⟩ := rootLen_spec ha
  obtain ⟨g1, g2, g3, g4, g5⟩ := rootLen_spec (repT_ne hn ha)
  have x := g5 _ h1 ((per_repT hn ha _).mpr h4)
  have y := h5 _ g1 ((per_repT hn ha _).mp g4)
  omega
theorem aroot_repT {a : Tx} {n : Nat} (hn : 1 ≤ n) (ha : a ≠ []) : aroot (repT n a) = aroot a := by
  unfold aroot
  rw [rootLen_repT hn ha]
  obtain ⟨h1, h2, _⟩ := rootLen_spec ha
  obtain ⟨m, rfl⟩ : ∃ m, n = m + 1 := ⟨n - 1, by omega⟩
  rw [repT_succ, List.take_append_of_le_length h2]
theorem aroot_pow {a : Tx} (ha : a ≠ []) : ∃ n, 1 ≤ n ∧ a = repT n (aroot a) := by
  obtain ⟨h1, h2, h3, h4, h5⟩ := rootLen_spec ha
  have := (isRoot_iff h1 h2).mpr ⟨h3, h4⟩
  unfold isRootLen at this
  rw [Bool.and_eq_true, decide_eq_true_eq, decide_eq_true_eq] at this
  exact ⟨a.length / rootLen a, (Nat.le_div_iff_mul_le h1).mpr (by omega), this.2.symm⟩
/-! ### two words that change places -/
theorem comm_cyc {a b : Tx} (ha : a ≠ []) (hb : b ≠ []) (h : ∀ i, i < a.length + b.length → cyc a i = cyc b i) : a ++ b = b ++ a := by
  have key : ∀ x y : Tx, x ≠ [] → (∀ i, i < x.length + y.length → cyc x i = cyc y i) → ∀ i, i < x.length + y.length → (x ++ y)[i]? = some (cyc x i) := fun x y hx h i hi => by
    by_cases h1 : i < x.length
    · rw [List.getElem?_append_left h1, cyc_lt h1]
    · rw [List.getElem?_append_right (by omega), cyc_lt (by omega), ← h (i - x.length) (by omega)]
      have e : i = i - x.length + x.length := by omega
      conv => rhs; rw [e, cyc_len]
  apply List.ext_getElem?
  intro i
  by_cases hi : i < a.length + b.length
  · rw [key a b ha h i hi, key b a hb (fun j hj => (h j (by omega)).symm) i (by omega), h i hi]
  · rw [List.getElem?_eq_none (by rw [List.length_append]; omega), List.getElem?_eq_none (by rw [List.length_append]; omega)]
/-- powers of one -/
theorem comm_pow : ∀ (n : Nat) (u v : Tx), u.length + v.length ≤ n → u ++ v = v ++ u → ∃ r i j, u = repT i r ∧ v = repT j r
  | n, [], v, _, _ => ⟨v, 0, 1, rfl, (repT_one v).symm⟩
  | n, u, [], _, _ => ⟨u, 1, 0, (repT_one u).symm, rfl⟩
  | 0, x :: u, y :: v, h, _ => by simp at h
  | n + 1, x :: u, y :: v, hl, h => by
    by_cases hle : (x :: u).length ≤ (y :: v).length
    · have hpre : (y :: v).take (x :: u).length = x :: u := by
        have := congrArg (List.take (x :: u).length) h
        rw [List.take_left, List.take_append_of_le_length hle] at this
        exact this.symm
      obtain ⟨v', hv⟩ : ∃ v', y :: v = (x :: u) ++ v' := ⟨(y :: v).drop (x :: u).length, by rw [← hpre, List.length_take, Nat.min_eq_left hle]; exact (List.take_append_drop _ _).symm⟩
      rw [hv] at h hl ⊢
      have h2 : (x :: u) ++ v' = v' ++ (x :: u) := by
        rw [List.append_assoc] at h
        exact List.append_cancel_left h
      obtain ⟨r, i, j, e1, e2⟩ := comm_pow n (x :: u) v' (by rw [List.length_append] at hl; simp only [List.length_cons] at hl ⊢; omega) h2
      exact ⟨r, i, i + j, e1, by rw [repT_add, ← e1, ← e2]⟩
    · have hle2 : (y :: v).length ≤ (x :: u).length := by omega
      have hpre : (x :: u).take (y :: v).length = y :: v := by
        have := congrArg (List.take (y :: v).length) h
        rw [List.take_left, List.take_append_of_le_length hle2] at this
        exact this
      obtain ⟨u', hu⟩ : ∃ u', x :: u = (y :: v) ++ u' := ⟨(x :: u).drop (y :: v).length, by rw [← hpre, List.length_take, Nat.min_eq_left hle2]; exact (List.take_append_drop _ _).symm⟩
      rw [hu] at h hl ⊢
      have h2 : (y :: v) ++ u' = u' ++ (y :: v) := by
        rw [List.append_assoc] at h
        exact (List.append_cancel_left h).symm
      obtain ⟨r, i, j, e1, e2⟩ := comm_pow n (y :: v) u' (by rw [List.length_append] at hl; simp only [List.length_cons] at hl ⊢; omega) h2
      exact ⟨r, i + j, i, by rw [repT_add, ← e1, ← e2], e1⟩
theorem pow_comm (i j : Nat) (r : Tx) : repT i r ++ repT j r = repT j r ++ repT i r := by rw [← repT_add, ← repT_add, Nat.add_comm]
theorem cyc_comm {a b : Tx} (ha : a ≠ []) (hb : b ≠ []) (h : a ++ b = b ++ a) (i : Nat) : cyc a i = cyc b i := by
  obtain ⟨r, m, n, rfl, rfl⟩ := comm_pow _ a b (Nat.le_refl _) h
  have hr : r ≠ [] := fun z => ha (by rw [z, repT_nil])
  have hm : 1 ≤ m := Nat.pos_of_ne_zero fun z => ha (by rw [z, repT_zero])
  have hn : 1 ≤ n := Nat.pos_of_ne_zero fun z => hb (by rw [z, repT_zero])
  rw [cyc_repT hm hr, cyc_repT hn hr]
theorem aroot_comm {a b : Tx} (ha : a ≠ []) (hb : b ≠ []) (h : a ++ b = b ++ a) : aroot a = aroot b := by
  obtain ⟨r, m, n, rfl, rfl⟩ := comm_pow _ a b (Nat.le_refl _) h
  have hr : r ≠ [] := fun z => ha (by rw [z, repT_nil])
  have hm : 1 ≤ m := Nat.pos_of_ne_zero fun z => ha (by rw [z, repT_zero])
  have hn : 1 ≤ n := Nat.pos_of_ne_zero fun z => hb (by rw [z, repT_zero])
  rw [aroot_repT hm hr, aroot_repT hn hr]
end Wm
set_option Elab.async false
set_option linter.all false
set_option maxRecDepth 100000
set_option maxHeartbeats 2000000
/-! readings that draw: what is told of the value alone -/
namespace Wc
open PySem PySem.Spec PyProof.Rows L2 Evl
/-- te draws m times at most and gives a value that is good -/
def Dw (fa : Addr) (σ : L2.St) (m : Nat) (te : TE) (g : V → Prop) : Prop := ∀ H, GF fa m H → ∀ Q : VK, (∀ v H', g v → Rf fa m H H' → Q v H') → te σ H Q
def GdT (ok : Nat → Prop) (lo n : Nat) (v : V) : Prop := ∃ s : Tx, v = T s ∧ lo ≤ s.length ∧ s.length ≤ n ∧ ∀ c ∈ s, ok c
def GdI (lo hi : Int) (v : V) : Prop := ∃ i : Int, v = .int i ∧ lo ≤ i ∧ i ≤ hi
section
variable {K : PySem.W.Frag} {σ : L2.St} {ta tb te : TE} {fa : Addr} {m m1 m2 : Nat} {g g1 g2 : V → Prop} {ok : Nat → Prop}
theorem dw_mono {m' : Nat} (h : Dw fa σ m te g) (hm : m ≤ m') : Dw fa σ m' te g := fun H G Q q => h H (G.mono hm) Q fun v H' hg R => q v H' hg (R.mono hm)
theorem dw_as {g' : V → Prop} (h : Dw fa σ m te g) (hg : ∀ v, g v → g' v) : Dw fa σ m te g' := fun H G Q q => h H G Q fun v H' hv R => q v H' (hg v hv) R
theorem dw_var {i : Nat} {v : V} (h : σ[i]? = some (some v)) (hg : g v) : Dw fa σ 0 (tVar i) g := fun H G Q q => ⟨v, h, q v H hg (Rf.refl H)⟩
theorem dw_c {v : V} (hg : g v) : Dw fa σ 0 (tC v) g := fun H G Q q => q v H hg (Rf.refl H)
theorem dw_op {r : R2} (h1 : Dw fa σ m1 ta g1) (h2 : Dw fa σ m2 tb g2) (hr : ∀ x y, g1 x → g2 y → ∃ z, g z ∧ ∀ H (Q : VK), Q z H → r x y H Q) : Dw fa σ (m1 + m2) (tOp r ta tb) g := fun H G Q q =>
  h1 H (G.mono (by omega)) _ fun x H1 hx R1 => h2 H1 (G.go R1 (by omega)) _ fun y H2 hy R2 => by
    obtain ⟨z, hz, hk⟩ := hr x y hx hy
    exact hk H2 Q (q z H2 hz (R1.trans R2))
theorem dI_var {i : Nat} {x lo hi : Int} (h : σ[i]? = some (some (.int x))) (h1 : lo ≤ x) (h2 : x ≤ hi) : Dw fa σ 0 (tVar i) (GdI lo hi) := dw_var h ⟨x, rfl, h1, h2⟩
theorem dI_c {x : Int} : Dw fa σ 0 (tC (.int x)) (GdI x x) := dw_c ⟨x, rfl, Int.le_refl _, Int.le_refl _⟩
theorem dT_var {i : Nat} {s : Tx} {lo n : Nat} (h : σ[i]? = some (some (T s))) (h1 : lo ≤ s.length) (h2 : s.length ≤ n) (h3 : ∀ c ∈ s, ok c) : Dw fa σ 0 (tVar i) (GdT ok lo n) := dw_var h ⟨s, rfl, h1, h2, h3⟩
theorem dT_c {s : Tx} (h3 : ∀ c ∈ s, ok c) : Dw fa σ 0 (tC (T s)) (GdT ok s.length s.length) := dw_c ⟨s, rfl, Nat.le_refl _, Nat.le_refl _, h3⟩
theorem dI_add {a b c d : Int} (h1 : Dw fa σ m1 ta (GdI a b)) (h2 : Dw fa σ m2 tb (GdI c d)) : Dw fa σ (m1 + m2) (tOp (rI0 fun i j => .int (i + j)) ta tb) (GdI (a + c) (b + d)) := dw_op h1 h2 fun x y ⟨i, hi, h3, h4⟩ ⟨j, hj, h5, h6⟩ => ⟨.int (i + j), ⟨i + j, rfl, by omega, by omega⟩, fun H Q q => ⟨i, j, hi, hj, q⟩⟩
theorem dT_add {a b c d : Nat} (h1 : Dw fa σ m1 ta (GdT ok a b)) (h2 : Dw fa σ m2 tb (GdT ok c d)) (hb : b + d ≤ 16777216 := by omega) : Dw fa σ (m1 + m2) (tOp rAddT ta tb) (GdT ok (a + c) (b + d)) := dw_op h1 h2 fun x y ⟨s, hs, h3, h4, h5⟩ ⟨t, ht, h6, h7, h8⟩ => ⟨T (s ++ t), ⟨s ++ t, rfl, by rw [List.length_append]; omega, by rw [List.length_append]; omega, fun c hc => by
  rcases List.mem_append.mp hc with hc | hc
  · exact h5 c hc
  · exact h8 c hc⟩, fun H Q q => ⟨s, t, hs, ht, by omega, q⟩⟩
theorem repT_mem {n : Nat} {a : Tx} {c : Nat} (h : c ∈ repT n a) : c ∈ a := by
  unfold repT at h
  obtain ⟨l, hl, hc⟩ := List.mem_flatten.mp h
  rw [List.eq_of_mem_replicate hl] at hc
  exact hc
theorem dT_mul {a b c d : Nat} (h1 : Dw fa σ m1 ta (GdT ok a b)) (h2 : Dw fa σ m2 tb (GdI (c : Int) (d : Int))) (hb : b * d ≤ 16777216 := by omega) (hd : d ≤ 1000000000 := by omega) : Dw fa σ (m1 + m2) (tOp rMulT ta tb) (GdT ok (c * a) (d * b)) := dw_op h1 h2 fun x y ⟨s, hs, h3, h4, h5⟩ ⟨j, hj, h6, h7⟩ => ⟨T (repT j.toNat s), ⟨repT j.toNat s, rfl, by
    rw [repT_len]
    exact Nat.mul_le_mul (by omega) h3, by
    rw [repT_len]
    exact Nat.mul_le_mul (by omega) h4, fun c hc => h5 c (repT_mem hc)⟩, fun H Q q => ⟨s, j, hs, hj, by omega, by omega, Nat.le_trans (Nat.mul_le_mul h4 (show j.toNat ≤ d by omega)) hb, q⟩⟩
theorem dI_len {a b : Nat} (h1 : Dw fa σ m te (GdT ok a b)) (hb : b ≤ 16777216 := by omega) : Dw fa σ m (tCB rLenT (tCons te tNil)) (GdI a b) := fun H G Q q => h1 H G _ fun v H1 ⟨s, hs, h3, h4, h5⟩ R => ⟨s, by rw [hs], by omega, q _ H1 ⟨_, rfl, by omega, by omega⟩ R⟩
/-- the ends of a slice -/
def Dwo (fa : Addr) (σ : L2.St) (m : Nat) (to : TO) : Prop := ∀ H, GF fa m H → ∀ Q : Option Int → Hp → Prop, (∀ v H', Rf fa m H H' → Q v H') → to σ H Q
theorem do_none : Dwo fa σ 0 tNoPart := fun H G Q q => q none H (Rf.refl H)
theorem do_some {a b : Int} (h : Dw fa σ m te (GdI a b)) : Dwo fa σ m (tPart te) := fun H G Q q => h H G _ fun v H1 ⟨i, hi, _, _⟩ R => ⟨i, hi, q (some i) H1 R⟩
theorem dT_sl {a b m3 : Nat} {tl th : TO} (h : Dw fa σ m1 te (GdT ok a b)) (h1 : Dwo fa σ m2 tl) (h2 : Dwo fa σ m3 th) (hb : b ≤ 16777216 := by omega) : Dw fa σ (m1 + (m2 + m3)) (tSl rSlT te tl th) (GdT ok 0 b) := fun H G Q q =>
  h H (G.mono (by omega)) _ fun v H1 ⟨s, hs, h3, h4, h5⟩ R1 => h1 H1 (G.go R1 (by omega)) _ fun l H2 R2 => h2 H2 (G.go (R1.trans R2) (by omega)) _ fun u H3 R3 =>
    ⟨s, hs, by omega, q _ H3 ⟨cutT s l u, rfl, Nat.zero_le _, Nat.le_trans (cutT_len s l u) h4, fun c hc => h5 c (cutT_mem hc)⟩ ((R1.trans (R2.trans R3)).mono (by omega))⟩
theorem dI_draw {i : Nat} {lo hi : Int} (h0 : σ[i]? = some (some (.ref fa))) (h : Dw fa σ m te (GdI lo hi)) (h1 : 0 < lo := by omega) (h2 : hi ≤ 10 ^ 61 := by decide) : Dw fa σ (m + 1) (tCall sp_draw [] E0 (tCons (tVar i) (tCons te tNil))) (GdI 0 (hi - 1)) := fun H G Q q =>
  ⟨.ref fa, h0, h H (G.mono (by omega)) _ fun v H1 ⟨j, hj, h3, h4⟩ R => ⟨fa, j, by rw [hj]; rfl, G.go R (Nat.le_refl _), by omega, by omega, fun d H' hd R2 => q _ H' ⟨(d : Int), rfl, by omega, by omega⟩ (R.trans R2)⟩⟩
theorem dT_one {i : Nat} {lo n : Nat} (h0 : σ[i]? = some (some (.ref fa))) (h : Dw fa σ m te (GdT ok lo n)) (h1 : 0 < lo := by omega) (h2 : n ≤ 16777216 := by omega) : Dw fa σ (m + 1) (tCall (sp_one K) [] E0 (tCons (tVar i) (tCons te tNil))) (GdT ok 1 1) := fun H G Q q =>
  ⟨.ref fa, h0, h H (G.mono (by omega)) _ fun v H1 ⟨s, hs, h3, h4, h5⟩ R => ⟨fa, G.go R (Nat.le_refl _), .inl ⟨s, by rw [hs]; rfl, fun z => by rw [z] at h3; simp at h3; omega, by omega, fun c H' hc R2 => q _ H' ⟨[c], rfl, Nat.le_refl _, Nat.le_refl _, fun d hd => by rw [List.mem_singleton.mp hd]; exact h5 c hc⟩ (R.trans R2)⟩⟩⟩
/-- of a list that is displayed -/
theorem dw_oneL {i : Nat} {vs : List V} (h0 : σ[i]? = some (some (.ref fa))) (h : ∀ H, EvL te σ H vs) (hg : ∀ v ∈ vs, g v) (hs : vs ≠ []) (hl : vs.length ≤ 16777216) : Dw fa σ 1 (tCall (sp_one K) [] E0 (tCons (tVar i) (tCons te tNil))) g := fun H G Q q => wp_oneL h0 (h H) G hs hl fun v H' hv R => q v H' (hg v hv) R
theorem dT_text {i : Nat} {a b c : Nat} {tm : TE} (h0 : σ[i]? = some (some (.ref fa))) (h : Dw fa σ m1 te (GdT ok a b)) (hm : Dw fa σ m2 tm (GdI 0 (c : Int))) (h1 : 0 < a := by omega) (h2 : b ≤ 16777216 := by omega) (h3 : c ≤ 30000 := by omega) : Dw fa σ (m1 + m2 + (c + 1)) (tCall sp_text [] E0 (tCons (tVar i) (tCons te (tCons tm tNil)))) (GdT ok 0 c) := fun H G Q q =>
  ⟨.ref fa, h0, h H (G.mono (by omega)) _ fun v H1 ⟨s, hs, h4, h5, h6⟩ R1 => hm H1 (G.go R1 (by omega)) _ fun y H2 ⟨j, hj, h7, h8⟩ R2 => by
    obtain ⟨n, rfl⟩ := Int.eq_ofNat_of_zero_le h7
    exact ⟨fa, s, n, by rw [hs, hj]; rfl, (G.go (R1.trans R2) (m' := n + 1) (by omega)), by omega, fun z => by rw [z] at h4; simp at h4; omega, by omega, fun t H' ht hc R3 => q _ H' ⟨t, rfl, Nat.zero_le _, by omega, fun c hc' => h6 c (hc c hc')⟩ (((R1.trans R2).trans R3).mono (by omega))⟩⟩
/-- a statement that draws -/
theorem q_dw {i : Nat} {D : Ends} {tz : TS} {H : Hp} {B : Nat} (h : Dw fa σ m te g) (G : GF fa B H) (k : ∀ v H1, g v → Rf fa m H H1 → tz D (σ.set i (some v)) H1) (hm : m ≤ B := by omega) : tSeq (tAsg te (gName i)) tz D σ H := h H (G.mono hm) _ fun v H1 hv R => k v H1 hv R
/-- a displayed pair, returned -/
theorem s_pair {D : Ends} {H : Hp} {B : Nat} (h1 : Dw fa σ m1 ta g1) (h2 : Dw fa σ m2 tb g2) (G : GF fa B H) (k : ∀ x y p H1, g1 x → g2 y → H p = none → Rf fa (m1 + m2) H H1 → H1 p = some (.lst [x, y]) → D.rt (.ref p) H1) (hm : m1 + m2 ≤ B := by omega) : tRet (tLst (tCons ta (tCons tb tNil))) D σ H :=
  h1 H (G.mono (by omega)) _ fun x H1 hx R1 => h2 H1 (G.go R1 (by omega)) _ fun y H2 hy R2 => ⟨by show 2 ≤ sizeLine; decide, fun p np => by
    have R := R1.trans R2
    have G2 : GF fa 0 H2 := G.go R (by omega)
    exact k x y p _ hx hy (R.free G.is np G2.is) (R.upd (R.free G.is np G2.is) G.is) upd_same⟩
/-- a test -/
theorem s_dif {D : Ends} {H : Hp} {tt ts : TS} {tu : TT} (h : ∀ Q : Bool → Hp → Prop, (∀ b H1, Rf fa m H H1 → Q b H1) → tu σ H Q) (k : ∀ b H1, Rf fa m H H1 → if b = true then tt D σ H1 else ts D σ H1) : tIfS tu tt ts D σ H := h _ k
theorem dw_test {H : Hp} {B : Nat} {a b c d : Int} {f : Int → Int → Bool} (h1 : Dw fa σ m1 ta (GdI a b)) (h2 : Dw fa σ m2 tb (GdI c d)) (G : GF fa B H) (Q : Bool → Hp → Prop) (k : ∀ b H1, Rf fa (m1 + m2) H H1 → Q b H1) (hm : m1 + m2 ≤ B := by omega) : tTest (tOp (rI0 fun i j => .bl (f i j)) ta tb) σ H Q :=
  h1 H (G.mono (by omega)) _ fun x H1 ⟨i, hi, _, _⟩ R1 => h2 H1 (G.go R1 (by omega)) _ fun y H2 ⟨j, hj, _, _⟩ R2 => ⟨i, j, hi, hj, f i j, rfl, k _ H2 (R1.trans R2)⟩
/-- a displayed pair -/
theorem wp_pair {H : Hp} {Q : VK} {B : Nat} (h1 : Dw fa σ m1 ta g1) (h2 : Dw fa σ m2 tb g2) (G : GF fa B H) (k : ∀ x y p H1, g1 x → g2 y → H p = none → Rf fa (m1 + m2) H H1 → H1 p = some (.lst [x, y]) → Q (.ref p) H1) (hm : m1 + m2 ≤ B := by omega) : tLst (tCons ta (tCons tb tNil)) σ H Q := s_pair (D := { nx := fun _ _ => False, bk := fun _ _ => False, ct := fun _ _ => False, rt := Q }) h1 h2 G k hm
/-- a loop of so many turns as are drawn -/
theorem q_forD {D : Ends} {tz tu : TS} {gg : TG} {H : Hp} {B : Nat} {a b : Int} (h : Dw fa σ m te (GdI a b)) (G : GF fa B H) (k : ∀ n H1, a ≤ n → n ≤ b → Rf fa m H H1 → tSeq (tFor (iRng1 fun _ H' Q' => Q' [.int n] H') gg tu) tz D σ H1) (hm : m ≤ B := by omega) : tSeq (tFor (iRng1 (tCons te tNil)) gg tu) tz D σ H := h H (G.mono hm) _ fun v H1 ⟨n, hn, h1, h2⟩ R => by
  subst hn
  exact k n H1 h1 h2 R
theorem s_retIf {D : Ends} {H : Hp} {b : Bool} {tu : TT} (h : EvT tu σ H b) (h1 : b = true → ∀ H1, Ex H H1 → tRet ta D σ H1) (h2 : b = false → ∀ H1, Ex H H1 → tRet tb D σ H1) : tRet (tIf tu ta tb) D σ H := h H (Ex.refl H) _ fun H1 e1 => by
  cases b with
  | true => exact h1 rfl H1 e1
  | false => exact h2 rfl H1 e1
theorem s_retIfD {D : Ends} {H : Hp} {B : Nat} {tc td : TE} {a b c d : Int} {f : Int → Int → Bool} (h : Dw fa σ m1 tc (GdI a b)) (h' : Dw fa σ m2 td (GdI c d)) (G : GF fa B H) (h1 : ∀ H1, Rf fa (m1 + m2) H H1 → tRet ta D σ H1) (h2 : ∀ H1, Rf fa (m1 + m2) H H1 → tRet tb D σ H1) (hm : m1 + m2 ≤ B := by omega) : tRet (tIf (tTest (tOp (rI0 fun i j => .bl (f i j)) tc td)) ta tb) D σ H := dw_test h h' G _ (fun b H1 R => by
  cases b with
  | true => exact h1 H1 R
  | false => exact h2 H1 R) hm
/-- a fresh list is written at -/
theorem Rf.exc {H H1 H2 : Hp} {p : Addr} (a : Rf fa m H H1) (h : Exc (fun c => c = p) H1 H2) (hp : H p = none) (hne : p ≠ fa) : Rf fa m H H2 := ⟨fun c o hc hs => h c o (fun z => by rw [z, hp] at hs; cases hs) (a.keep c o hc hs), fun n hn hF => by
  obtain ⟨x, b, c, e', h1, h2⟩ := a.feed n hn hF
  exact ⟨x, b, c, e', h _ _ (Ne.symm hne) h1, h2⟩⟩
theorem atI_back2 {α : Type} (xs : List α) (a b : α) : atI (xs ++ [a] ++ [b]) (-2) = some a := by
  have hl : (xs ++ [a] ++ [b]).length = xs.length + 2 := by simp
  have e : ixN (xs ++ [a] ++ [b]).length (-2) = some xs.length := by
    unfold ixN
    rw [if_neg (by decide), hl, if_pos (by omega)]
    congr 1
    omega
  unfold atI
  rw [e]
  simp
/-- [.., .., ..][i], returned -/
theorem s_ix3 {D : Ends} {H : Hp} {t1 t2 t3 tw : TE} (h : t1 σ H fun v1 H1 => t2 σ H1 fun v2 H2 => t3 σ H2 fun v3 H3 => [v1, v2, v3].length ≤ sizeLine ∧ ∀ p, H3 p = none → tw σ (upd H3 p (.lst [v1, v2, v3])) fun i H4 => L2.rIxL K (.ref p) i H4 D.rt) : tRet (tOp (L2.rIxL K) (tLst (tCons t1 (tCons t2 (tCons t3 tNil)))) tw) D σ H := h
end
end Wc
set_option Elab.async false
set_option linter.all false
set_option maxRecDepth 100000
set_option maxHeartbeats 4000000
/-! sets of texts: filled out of a list, sorted -/
namespace Wt
open PySem PySem.Spec PyProof.Rows L2
/-- the text that a value is -/
def txOf : Value → Str
  | .str k _ => k
  | _ => Str.empty
/-- an entry whose value is a text -/
def Ent (P : Program) (w : World) (e : Int × Value) : Prop := ∃ (k : Str) (u : Tok), e.2 = .str k u ∧ e.1 = (PySem.strKind P w).hash k
def ek (e : Int × Value) : Str := txOf e.2
/-- entries and table hold just the texts l -/
structure Pay (P : Program) (w : World) (es : Array (Int × Value)) (t : SetTable) (l : List Str) : Prop where
  ents : ∀ e ∈ es.toList, Ent P w e
  keys : (es.toList.map ek).Perm l
  nd : l.Nodup
  few : es.size < scanBound
  fit : t.fits es.size = true
  ris : Ris t.place.toList
  led : w.params.followText "set-order" = true ∨ t.led = true
def SetX (P : Program) (w : World) (h : Heap) (a : Addr) (l : List Str) : Prop := ∃ o es ep t, h.get? a = some o ∧ o.ExactSet ∧ o.data = .set es ep t ∧ Pay P w es t l
section
variable {P : Program} {w : World} {h h' : Heap} {a : Addr} {l : List Str} {es es1 : Array (Int × Value)} {t t1 : SetTable}
theorem SetX.at (R : SetX P w h a l) (k : ∀ o, h.get? a = some o → h'.get? a = some o) : SetX P w h' a l := by
  obtain ⟨o, es, ep, t, ho, r⟩ := R
  exact ⟨o, es, ep, t, k o ho, r⟩
theorem ent_is {e : Int × Value} (g : Ent P w e) (k : Str) : (PySem.strKind P w).is k e.2 = true ↔ ek e = k := by
  obtain ⟨k0, u, h1, _⟩ := g
  unfold ek
  rw [h1]
  show (Value.isStrOf k (.str k0 u) = true) ↔ k0 = k
  simp [Value.isStrOf]
theorem Pay.size (p : Pay P w es t l) : es.size = l.length := by
  have := p.keys.length_eq
  rw [List.length_map, Array.length_toList] at this
  exact this
theorem Pay.elems (p : Pay P w es t l) : ElemsOf (PySem.strKind P w) es.toList := fun e he => by
  obtain ⟨k, u, h1, h2⟩ := p.ents e he
  exact ⟨⟨k, by rw [h1]; exact PySem.strKind_is P w k u, h2⟩, by rw [h1]; rfl⟩
theorem Pay.mem (p : Pay P w es t l) (k : Str) : k ∈ l ↔ ∃ e ∈ es.toList, (PySem.strKind P w).is k e.2 = true := by
  rw [← p.keys.mem_iff, List.mem_map]
  exact ⟨fun ⟨e, he, q⟩ => ⟨e, he, (ent_is (p.ents e he) k).mpr q⟩, fun ⟨e, he, q⟩ => ⟨e, he, (ent_is (p.ents e he) k).mp q⟩⟩
/-- laid anew -/
theorem Pay.anew (p : Pay P w es t l) (pm : es1.toList.Perm es.toList) (hf : t1.fits es1.size = true) (hr : Ris t1.place.toList) (hl : t1.led = t.led) : Pay P w es1 t1 l where
  ents := fun e he => p.ents e (pm.mem_iff.mp he)
  keys := (pm.map ek).trans p.keys
  nd := p.nd
  few := by
    have := pm.length_eq
    rw [Array.length_toList, Array.length_toList] at this
    rw [this]
    exact p.few
  fit := hf
  ris := hr
  led := p.led.imp id fun z => hl.trans z
/-- one more -/
theorem Pay.more {k : Str} {u : Tok} (p : Pay P w es t l) (hk : k ∉ l) (room : l.length + 1 < scanBound) (pm : es1.toList.Perm (es.push ((PySem.strKind P w).hash k, .str k u)).toList) (hf : t1.fits es1.size = true) (hr : Ris t1.place.toList) (hl : t1.led = t.led) : Pay P w es1 t1 (k :: l) := by
  rw [Array.toList_push] at pm
  have pc := pm.trans (List.perm_append_singleton _ _)
  have pk : (es1.toList.map ek).Perm (k :: es.toList.map ek) := pc.map ek
  refine ⟨fun e he => ?_, pk.trans (p.keys.cons k), List.nodup_cons.mpr ⟨hk, p.nd⟩, ?_, hf, hr, p.led.imp id fun z => hl.trans z⟩
  · rcases List.mem_cons.mp (pc.mem_iff.mp he) with z | z
    · rw [z]
      exact ⟨k, u, rfl, rfl⟩
    · exact p.ents e z
  · have := pc.length_eq
    rw [List.length_cons, Array.length_toList, Array.length_toList, p.size] at this
    rw [this]
    exact room
end
section
variable {P : Program} {w : World} {A : Around} {E : Value → Shared → Prop} {s : Shared} {a : Addr} {l : List Str}
/-- behind the table's own step -/
theorem add_end {g : Bool → Sem Unit} (hg : ∀ (b : Bool) (s1 : Shared) (Q' : Unit → Shared → Prop), Q' () s1 → wpAny (model P w) A (g b) Q' E s1) {o : Obj} {es es1 : Array (Int × Value)} {ep : Nat} {t t2 : SetTable} {l2 : List Str}
    (ho : s.heap.get? a = some o) (hex : o.ExactSet) (hd : o.data = .set es ep t) (p : Pay P w es1 t2 l2) {dm : Bool} {R : Option Bool → Shared → Prop} (hR : ∀ h', Heap.SameBut a s.heap h' → SetX P w h' a l2 → R (some true) { s with heap := h' }) :
    wpAny (model P w) A (do
        storeSet a es1 t2
        if (!dm && t2.tooFull) = true then do
            g (relayAll t2 es1 (SetTable.grown es1.size)).2.2
            storeSet a (relayAll t2 es1 (SetTable.grown es1.size)).1 (relayAll t2 es1 (SetTable.grown es1.size)).2.1
            pure (some true)
          else pure (some true)) R E s := by
  have hz := fits_of_scanBound p.few
  refine wpAny_bind (wpAny_storeSet_of ho hd ?_ hz)
  have at1 := store_at (es' := es1) (t' := t2) ho hd
  have same1 := Heap.SameBut.update s.heap a (Obj.putSet es1 t2)
  by_cases c : (!dm && t2.tooFull) = true
  · rw [if_pos c]
    have p2 := p.anew (relayAll_perm t2 es1 (SetTable.grown es1.size)) (relayAll_fits t2 es1 _) (relayAll_ris t2 es1 _) (relayAll_led t2 es1 _)
    generalize relayAll t2 es1 (SetTable.grown es1.size) = Z at p2 ⊢
    refine wpAny_bind (hg _ _ _ ?_)
    refine wpAny_bind (wpAny_storeSet_of at1 rfl ?_ (fits_of_scanBound p2.few))
    exact wpAny_pure (hR _ (same1.trans (Heap.SameBut.update _ a _)) ⟨_, Z.1, _, Z.2.1, store_at (es' := Z.1) (t' := Z.2.1) at1 rfl, hex, rfl, p2⟩)
  · rw [if_neg c]
    exact wpAny_pure (hR _ same1 ⟨_, es1, _, t2, at1, hex, rfl, p⟩)
theorem add_text {k : Str} {u : Tok} {Q : Bool → Shared → Prop} (R : SetX P w s.heap a l) (room : l.length + 1 < scanBound)
    (hQ : ∀ h' b, Heap.SameBut a s.heap h' → SetX P w h' a (if k ∈ l then l else k :: l) → Q b { s with heap := h' }) : wpAny (model P w) A (setAddHashed a (.str k u) ((PySem.strKind P w).hash k)) Q E s := by
  obtain ⟨o, es, ep, t, ho, hex, hd, p⟩ := id R
  have is1 : (PySem.strKind P w).is k (.str k u) = true := PySem.strKind_is P w k u
  unfold setAddHashed setAddHashedIn
  refine wpAny_holding (wpAny_bind (wpAny_setState_of ho hd p.fit ?_))
  dsimp only
  rw [byScan_of (x := Value.str k u) rfl p.few p.elems, if_pos rfl]
  unfold setAddByScan
  refine wpAny_bind (wpAny_bind (wpAny_rule (wpAny_bind (wpAny_setScan_of is1 ho hd p.fit p.elems ?_))))
  cases hfi : List.findIdx? (fun e => (PySem.strKind P w).is k e.2) es.toList with
  | some j =>
    obtain ⟨hj, pj, _⟩ := List.findIdx?_eq_some_iff_getElem.mp hfi
    have hin : k ∈ l := (p.mem k).mpr ⟨es.toList[j], List.getElem_mem hj, pj⟩
    dsimp only
    refine wpAny_pure (wpAny_pure ?_)
    have q := hQ s.heap false (Heap.SameBut.refl a s.heap)
    rw [if_pos hin] at q
    exact q R
  | none =>
    have hno : k ∉ l := fun z => by
      obtain ⟨e, he, q⟩ := (p.mem k).mp z
      have c := List.findIdx?_eq_none_iff.mp hfi e he
      rw [q] at c
      cases c
    dsimp only
    have p1 := p.more (u := u) hno room (layNew_perm t es _ _) (layNew_fits t es _ _) (layNew_ris t es _ _ p.ris) (layNew_led t es _ _)
    generalize layNew t es ((PySem.strKind P w).hash k) (.str k u) = Z at p1 ⊢
    obtain ⟨es1, t1, dm, gave⟩ := Z
    dsimp only at p1 ⊢
    have both : ∀ (g : Bool) {s1 : Shared} {Q' : Unit → Shared → Prop}, Q' () s1 → wpAny (model P w) A (match g with | true => rule "set.scan.the-table-gave-way" | false => pure ()) Q' E s1 := fun g s1 Q' q => by
      cases g
      · exact wpAny_pure q
      · exact wpAny_rule q
    have fin : ∀ h', Heap.SameBut a s.heap h' → SetX P w h' a (k :: l) → Q true { s with heap := h' } := fun h' sb r => hQ h' true sb (by rw [if_neg hno]; exact r)
    refine wpAny_bind (both _ ?_)
    by_cases hp : t1.plain = true
    · rw [if_pos hp]
      refine wpAny_bind ?_
      rw [hashByValue_scannable 8 (x := Value.str k u) rfl]
      refine wpAny_pure ?_
      have p2 : Pay P w es1 { t1 with plain := false } (k :: l) := ⟨p1.ents, p1.keys, p1.nd, p1.few, SetTable.fits_plain_off p1.fit, p1.ris, p1.led⟩
      refine add_end (l2 := k :: l) ?_ ho hex hd (by split <;> first | exact p1 | exact p2) fun h' sb r => wpAny_pure (fin h' sb r)
      exact fun b s1 Q' q => by cases b <;> first | exact wpAny_pure q | exact wpAny_rule q
    · rw [if_neg hp]
      refine wpAny_bind (wpAny_pure ?_)
      refine add_end (l2 := k :: l) ?_ ho hex hd (by rw [if_pos rfl]; exact p1) fun h' sb r => wpAny_pure (fin h' sb r)
      exact fun b s1 Q' q => by cases b <;> first | exact wpAny_pure q | exact wpAny_rule q
/-- the set as set() makes it -/
abbrev so (w : World) : Obj := { cls := .type "set", dict := none, data := .set #[] 0 (.fresh 0 0 (!w.params.followText "set-order")) }
theorem SetX.new {h : Heap} (ho : h.get? a = some (so w)) : SetX P w h a [] := ⟨_, #[], 0, _, ho, ⟨rfl, rfl, rfl⟩, rfl, fun e he => by simp at he, List.Perm.refl _, List.nodup_nil, by decide, by rfl, List.Pairwise.nil, by
  show _ ∨ (!w.params.followText "set-order") = true
  cases w.params.followText "set-order" <;> simp⟩
/-- what is met among the first ones -/
structure Met (xs : List Str) (i : Nat) (l : List Str) : Prop where
  nd : l.Nodup
  mem : ∀ x, x ∈ l ↔ x ∈ xs.take i
  len : l.length ≤ i
theorem Met.next {xs l : List Str} {i : Nat} {x : Str} (m : Met xs i l) (h : xs[i]? = some x) : Met xs (i + 1) (if x ∈ l then l else x :: l) := by
  have e : xs.take (i + 1) = xs.take i ++ [x] := by rw [List.take_add_one, h]; rfl
  by_cases hx : x ∈ l
  · rw [if_pos hx]
    refine ⟨m.nd, fun y => ?_, Nat.le_succ_of_le m.len⟩
    rw [e, List.mem_append, m.mem y]
    exact ⟨.inl, fun z => z.elim id fun z => by rw [List.mem_singleton.mp z]; exact (m.mem x).mp hx⟩
  · rw [if_neg hx]
    refine ⟨List.nodup_cons.mpr ⟨hx, m.nd⟩, fun y => ?_, Nat.succ_le_succ m.len⟩
    rw [e, List.mem_append, List.mem_cons, List.mem_singleton, m.mem y]
    exact Or.comm
theorem fill_texts {I S : Addr} {fp wr : List Addr} {G : Array GenState → Array GenState → Prop} {n : Nat} {Pv : Nat → Value → Prop} {St : Nat → Shared → Prop} {R : Result → Shared → Prop} {xs : List Str}
    (W : WalksS P w A.in1 I fp wr G n Pv St) (hS : S ∉ fp) (hn : xs.length = n) (hb : n + 1 < scanBound) (hv : ∀ i v, Pv i v → ∃ x u, xs[i]? = some x ∧ v = .str x u) :
    ∀ (d i : Nat) (s : Shared) (l : List Str), n = i + d → St i s → Met xs i l → SetX P w s.heap S l → (∀ s2 l2, Moved (S :: wr) G s s2 → Met xs n l2 → SetX P w s2.heap S l2 → R (.ok (.ret .none)) s2) →
      codeAny (model P w) A (.builtin "set.update.loop" ⟨[.ref S, .ref I], []⟩) R s := by
  have hw : S ∉ wr := fun z => hS (W.sub _ z)
  have wide : ∀ b ∈ wr, b ∈ S :: wr := fun b z => List.mem_cons_of_mem _ z
  intro d
  induction d with
  | zero =>
    intro i s l hd st m X hR
    obtain rfl : i = n := by omega
    refine codeAny_builtin F.entry_set_update_loop (by
      rw [Around.under_plainId F.plain_set_update_loop _]
      exact wpAny_bind (W.done s _ _ st fun s2 mv => wpAny_pure (hR s2 l (mv.mono wide) m (X.at fun o e => mv.heap S o hw e))))
  | succ d ih =>
    intro i s l hd st m X hR
    refine codeAny_builtin F.entry_set_update_loop (by
      rw [Around.under_plainId F.plain_set_update_loop _]
      refine wpAny_bind (W.item i s _ _ (by omega) st fun v s2 hP st2 mv => ?_)
      obtain ⟨x, u, hx, rfl⟩ := hv i v hP
      have X2 : SetX P w s2.heap S l := X.at fun o e => mv.heap S o hw e
      have hl := m.len
      refine wpAny_bind (m := holding [Value.str x u] (setAdd S (.str x u))) (wpAny_holding ?_)
      unfold setAdd
      refine wpAny_holding (wpAny_bind ((PySem.strKind P w).pyHash (k := x) (PySem.strKind_is _ _ _ _) ?_))
      refine add_text (s := { s2 with toks := s2.toks + 1 }) X2 (by omega) fun h' b sb X3 => wpAny_pure ⟨plainId_quiet F.plain_set_update_loop _, ?_⟩
      refine ih (i + 1) _ _ (by omega) (W.frame _ s2 _ _ st2 (Nat.le_succ _) fun c hc o e => ?_) (m.next hx) X3 fun s3 l3 mv3 m3 X4 => hR s3 l3 (Moved.trans W.gtrans ((mv.mono wide).then_heap (Nat.le_succ _) fun c o hc e => ?_) mv3) m3 X4
      · rw [sb.2 c fun z => hS (z ▸ hc)]
        exact e
      · rw [sb.2 c fun z => hc (z ▸ List.mem_cons_self)]
        exact e)
set_option maxHeartbeats 3200000 in
theorem call_set_texts {src : Addr} {its : Array Value} {xs : List Str} {Q : Value → Shared → Prop} (noH : A.handled = none) (isl : s.heap.IsList src its) (hit : StrsAre its.toList xs) (room : xs.length + 1 < scanBound)
    (fin : ∀ (h2 : Heap) (tk : Nat) (l : List Str), Met xs xs.length l → SetX P w h2 s.heap.objs.size l → (∀ b o, s.heap.get? b = some o → h2.get? b = some o) → Q (.ref s.heap.objs.size) { s with heap := h2, toks := tk }) :
    wpAny (model P w) A (call (.type "set") [.ref src]) Q E s := by
  have lx : xs.length = its.size := by rw [← Array.length_toList, hit.len_eq]
  obtain ⟨c, tl, q0⟩ := PySem.F.called_set.mro
  have q1 := PySem.F.called_set.made; have q2 := PySem.F.called_set.sub
  refine wpAny_call (codeAny_of_tree (wpAny_pure ⟨Code.quiet_builtin _ (by decide +kernel), codeAny_builtin PySem.F.entry_type_call ?_⟩))
  rw [Around.under_plain (weight_type_call_type "set" [.ref src] []) rfl]
  have q3 := PySem.F.called_set.notType; have q4 := PySem.F.called_set.canCreate
  have q5 := PySem.F.typeCall_set_1 (.ref src)
  repeat (any_goals (first | assumption | wp_step))
  refine codeAny_mono (code_set_led1 (.ref src) (E := E) (Q₁ := fun ob t1 => ob = .ref s.heap.objs.size ∧ t1 = { s with heap := s.heap.push (so w) }) ⟨rfl, rfl⟩) fun r t1 hr => ?_
  match r, hr with
  | .error e, hr => exact hr
  | .ok (.ret ob), hr =>
    obtain ⟨rfl, rfl⟩ := hr
    have atS : (s.heap.push (so w)).get? s.heap.objs.size = some (so w) := Heap.get?_push_size _ rfl
    have tyS : Shared.TypeIs { s with heap := s.heap.push (so w) } (.ref s.heap.objs.size) "set" := ⟨_, atS, rfl⟩
    have q6 := PySem.F.called_set.init.lookup
    have q7 := PySem.F.called_set.init.bind (.ref s.heap.objs.size)
    repeat (any_goals (first | assumption | wp_step))
    refine codeAny_mono (codeAny_call_builtin (R := wants (fun r t2 => r = .none ∧ ∃ h2 tk l, t2 = { s with heap := h2, toks := tk } ∧ Met xs xs.length l ∧ SetX P w h2 s.heap.objs.size l ∧ ∀ b o, s.heap.get? b = some o → h2.get? b = some o) E) PySem.F.called_set.init.plain PySem.F.entry_set_init (check_set_init_1 tyS ?_)) fun r2 t2 hr2 => ?_
    · obtain ⟨ol, atl, cl, nl, dl⟩ := isl
      obtain ⟨ocls, odict, odata, oslots⟩ := ol
      simp only at cl dl
      subst cl; subst dl
      have lt := Heap.lt_size atl
      have isl2 : (s.heap.push (so w)).IsList src its := ⟨_, Heap.get?_push_of_some _ atl, rfl, nl, rfl⟩
      have q8 := PySem.F.sub_list_set; have q9 := PySem.F.sub_list_frozenset
      have q10 : (Value.type "list" == Value.type "dict") = false := by decide
      have atl2 : (s.heap.push (so w)).get? src = some { cls := .type "list", dict := odict, data := .seq its nl, slots := oslots } := Heap.get?_push_of_some _ atl
      unfold Builtin.«set.__init__» noKeywords Builtin.Frozenset.updateFrom
      generalize hI : pyIter = iter
      wp_walk
      subst hI
      refine wpAny_pyIter_list isl2 (wpAny_bind (wpAny_runValue ?_))
      have no3 : A.in1.in1.in1.handled = none := by simp [noH]
      have zI : (s.heap.push (so w)).objs.size = s.heap.objs.size + 1 := Heap.size_push ..
      have ne1 : src ≠ (s.heap.push (so w)).objs.size := by rw [zI]; exact Nat.ne_of_lt (Nat.lt_succ_of_lt lt)
      have out1 : s.heap.objs.size ∉ [(s.heap.push (so w)).objs.size, src] := by
        rw [zI]
        intro z
        rcases List.mem_cons.mp z with z | z
        · exact absurd z (Nat.ne_of_lt (Nat.lt_succ_self _))
        · exact absurd (List.mem_singleton.mp z) (Nat.ne_of_gt lt)
      refine fill_texts (P := P) (xs := xs) ((Walks.list no3 _ src ne1 its).toS) out1 lx (by rw [← lx]; exact room) (fun i v hv => ?_) its.size 0 _ [] (by omega) ⟨⟨_, Heap.get?_push_size _ rfl, rfl, rfl⟩, isl2.push _⟩ ⟨List.nodup_nil, fun x => by simp, Nat.le_refl _⟩ (SetX.new (Heap.get?_push_of_some _ atS)) fun s2 l2 mv m2 X2 => ?_
      · obtain ⟨y, u, h1, h2⟩ := hit.item i v (by rw [Array.getElem?_toList]; exact hv)
        exact ⟨y, u, h2, h1⟩
      · obtain ⟨h2, g2, d2, tk2, os2⟩ := s2
        obtain rfl : g2 = s.gens := mv.gens
        obtain rfl : d2 = s.drawn := mv.drawn
        obtain rfl : os2 = s.os := mv.os
        rw [← lx] at m2
        show wpAny _ _ (Bind.bind (pure _) _) _ _ _
        refine wpAny_pure (wpAny_pure ⟨rfl, h2, tk2, l2, rfl, m2, X2, fun b o e => ?_⟩)
        have hb := Heap.lt_size e
        refine mv.heap b o (fun z => ?_) (Heap.get?_push_of_some _ (Heap.get?_push_of_some _ e))
        rw [zI] at z
        rcases List.mem_cons.mp z with z | z
        · exact absurd z (Nat.ne_of_lt hb)
        · exact absurd (List.mem_singleton.mp z) (Nat.ne_of_lt (Nat.lt_succ_of_lt hb))
    · match r2, hr2 with
      | .error e, hr2 => exact hr2
      | .ok (.ret v2), hr2 =>
        obtain ⟨rfl, h2, tk, l, rfl, m, X, k⟩ := hr2
        repeat (any_goals (first | assumption | wp_step))
        exact fin _ _ _ m X k
end
end Wt
set_option Elab.async false
set_option linter.all false
set_option maxRecDepth 100000
set_option maxHeartbeats 4000000
/-! sorted(texts), set(texts), sorted(set) as rules -/
namespace Wt
open PySem PySem.Spec PyProof.Rows L2 Wc
/-- texts in the sequence of their signs -/
def sortT (xs : List Tx) : List Tx := xs.mergeSort (fun a b => decide (a ≤ b))
theorem sortT_perm (xs : List Tx) : (sortT xs).Perm xs := List.mergeSort_perm _ _
theorem sortT_len (xs : List Tx) : (sortT xs).length = xs.length := List.length_mergeSort _
theorem sortT_mem {xs : List Tx} {t : Tx} : t ∈ sortT xs ↔ t ∈ xs := (sortT_perm xs).mem_iff
theorem sortT_pw (xs : List Tx) : (sortT xs).Pairwise (· ≤ ·) := by
  have h := List.pairwise_mergeSort (le := fun a b : Tx => decide (a ≤ b)) (fun a b c h1 h2 => decide_eq_true (List.le_trans (of_decide_eq_true h1) (of_decide_eq_true h2))) (fun a b => by
    rcases List.le_total a b with h | h
    · simp [h]
    · simp [h]) xs
  exact h.imp fun z => of_decide_eq_true z
theorem enc_le : (PySem.W.dataLe false fun b : Tx => PyData.str (SX.S b)) = fun a b => decide (a ≤ b) := by
  rw [PySem.W.dataLe_str]
theorem alike_tx (xs : List Tx) : PySem.W.AllAlike (xs.map fun b => PyData.str (SX.S b)) := by
  intro d hd d' hd'
  obtain ⟨a, _, rfl⟩ := List.mem_map.mp hd
  obtain ⟨b, _, rfl⟩ := List.mem_map.mp hd'
  rfl
theorem sortable_tx (xs : List Tx) : PySem.W.Sortable (xs.map fun b => PyData.str (SX.S b)) := by
  refine .inr fun d hd => ?_
  obtain ⟨a, _, rfl⟩ := List.mem_map.mp hd
  exact ⟨fun z => (nomatch z), fun _ z => (nomatch z)⟩
theorem reads_tx {h : Heap} {vs : List Value} {xs : List Tx} (e : PySem.W.EachIs IsT vs xs) : PySem.W.EachIs (fun v b => ∃ as, Reads h v (PyData.str (SX.S b)) as) vs xs := e.mono fun v b ⟨t, hv⟩ => ⟨[], by rw [hv]; exact .str _ _⟩
theorem reads_out {h : Heap} {a : Addr} {vs : List Value} {xs : List Tx} (e : PySem.W.EachIs IsT vs xs) : PySem.W.EachIs (fun v b => ∃ as, Reads h v (PyData.str (SX.S b)) as ∧ a ∉ as) vs xs := e.mono fun v b ⟨t, hv⟩ => ⟨[], by rw [hv]; exact .str _ _, fun z => nomatch z⟩
theorem strs_of_each : ∀ {vs : List Value} {xs : List Tx}, PySem.W.EachIs IsT vs xs → StrsAre vs (xs.map SX.S)
  | _, _, .nil => .nil
  | _, _, .cons ⟨t, rfl⟩ r => .cons _ t (strs_of_each r)
section
variable {X : Cx}
def rSortTx (K : PySem.W.Frag) : List V → Hp → VK → Prop := fun vs H Q => ∃ (p : Addr) (xs : List Tx), vs = [.ref p] ∧ SqL K H p (xs.map T) ∧ ∀ q, H q = none → Q (.ref q) (upd H q (.lst ((sortT xs).map T)))
theorem cr_sortTx (hu : X.A.units + 64 < cLine) : CallR X (.builtin "sorted") (rSortTx X.K) := by
  intro pins s σ H vs us Q I r h
  obtain ⟨p, xs, rfl, hp, q⟩ := h
  rw [Vals.ref1 r]
  obtain ⟨its, rv, pl, hz⟩ := I.list hp
  rw [List.length_map] at hz
  have ev := each_of_vals rv
  refine PySem.W.sorted_data (R := IsT) (enc := fun b : Tx => PyData.str (SX.S b)) pl.isList ev (reads_tx ev) (alike_tx xs) (sortable_tx xs) hz (fun b _ => ?_) fun out hlen eo => ?_
  · show X.A.units + 2 + _ < cLine
    have : (PyData.str (SX.S b)).depth ≤ 1 := by simp [PyData.depth]
    omega
  · rw [enc_le] at eo
    obtain ⟨c, hc⟩ := sortedAll_at s.heap its out.toArray
    have hn : H (s.heap.objs.size + 1) = none := I.hok.fresh (Nat.le_succ _)
    refine ⟨.ref _, upd H (s.heap.objs.size + 1) (.lst ((sortT xs).map T)), I.laid (t' := s.toks) (fun b u e => sortedAll_old e) (Nat.le_succ _) ⟨?_, out, c, vals_of_each eo, hc⟩, rfl, q _ hn⟩
    rw [List.length_map, sortT_len]
    exact hz
/-- the set of these texts -/
def SetXO (P : Program) (w : World) (a : Addr) (l : List Str) : HO := .ext fun h => SetX P w h a l
theorem setXO_new {w : World} {P : Program} {H : Hp} {h : Heap} {a : Addr} {l : List Str} (R : SetX P w h a l) : ObjOk P w H h a (SetXO P w a l) := by
  have ⟨o, _, _, _, ho, _⟩ := R
  exact ⟨R, ⟨o, ho⟩, fun h1 h2 p k => SetX.at p k⟩
/-- the texts without repetition -/
structure Uniq (xs ys : List Tx) : Prop where
  nd : ys.Nodup
  mem : ∀ x, x ∈ ys ↔ x ∈ xs
def rSetTx (K : PySem.W.Frag) (P : Program) (w : World) : List V → Hp → VK → Prop := fun vs H Q => ∃ (p : Addr) (xs : List Tx), vs = [.ref p] ∧ SqL K H p (xs.map T) ∧ xs.length ≤ 4000 ∧ ∀ q ys, Uniq xs ys → ys.length ≤ xs.length → H q = none → Q (.ref q) (upd H q (SetXO P w q (ys.map SX.S)))
theorem tx_back (l : List Str) : l = (l.map fun x => x.cps.toList).map SX.S := by
  rw [List.map_map]
  conv => lhs; rw [← List.map_id l]
  apply List.map_congr_left
  intro x _
  rfl
theorem S_inj {a b : Tx} (h : SX.S a = SX.S b) : a = b := by
  have := congrArg (fun x : Str => x.cps.toList) h
  simpa using this
theorem uniq_of {xs : List Tx} {l : List Str} (m : Met (xs.map SX.S) (xs.map SX.S).length l) : ∃ ys, l = ys.map SX.S ∧ Uniq xs ys ∧ ys.length ≤ xs.length := by
  refine ⟨_, tx_back l, ⟨?_, fun x => ?_⟩, ?_⟩
  · have nd := m.nd
    rw [tx_back l] at nd
    exact List.Pairwise.of_map SX.S (fun a b hne e => hne (congrArg SX.S e)) nd
  · have h := m.mem (SX.S x)
    rw [List.take_length] at h
    constructor
    · intro hx
      obtain ⟨y, hy, rfl⟩ := List.mem_map.mp hx
      obtain ⟨z, hz, e⟩ := List.mem_map.mp (h.mp hy)
      rw [← S_inj e]
      exact hz
    · intro hx
      have h2 := h.mpr (List.mem_map.mpr ⟨x, hx, rfl⟩)
      exact List.mem_map.mpr ⟨_, h2, rfl⟩
  · rw [List.length_map]
    have := m.len
    rw [List.length_map] at this
    exact this
theorem cr_setTx (hc : X.calm = true) : CallR X (.type "set") (rSetTx X.K X.prog X.w) := by
  intro pins s σ H vs us Q I r h
  obtain ⟨p, xs, rfl, hp, hl, q⟩ := h
  rw [Vals.ref1 r]
  obtain ⟨its, rv, pl, hz⟩ := I.list hp
  refine call_set_texts (P := X.prog) (xs := xs.map SX.S) (I.ok.hd hc) pl.isList (by simpa using strs_of_each (each_of_vals rv)) (by rw [List.length_map]; unfold scanBound; omega) fun h2 tk l m R k => ?_
  obtain ⟨ys, rfl, u, hly⟩ := uniq_of m
  have hn : H s.heap.objs.size = none := I.hok.fresh (Nat.le_refl _)
  exact ⟨.ref _, upd H s.heap.objs.size (SetXO X.prog X.w s.heap.objs.size (ys.map SX.S)), I.laid (t' := tk) k (Nat.le_refl _) (setXO_new R), rfl, q _ ys u hly hn⟩
def rSortSet (P : Program) (w : World) : List V → Hp → VK → Prop := fun vs H Q => ∃ (a : Addr) (ys : List Tx), vs = [.ref a] ∧ H a = some (SetXO P w a (ys.map SX.S)) ∧ ∀ zs q, zs.Perm ys → H q = none → Q (.ref q) (upd H q (.lst ((sortT zs).map T)))
theorem ents_texts {P : Program} {w : World} : ∀ {l : List (Int × Value)}, (∀ e ∈ l, Ent P w e) → PySem.W.EachIs IsT (l.map (·.2)) (l.map fun e => (ek e).cps.toList)
  | [], _ => .nil
  | e :: l, h => .cons (by
      obtain ⟨k, u, h1, _⟩ := h e List.mem_cons_self
      refine ⟨u, ?_⟩
      show e.2 = .str (SX.S (ek e).cps.toList) u
      unfold ek
      rw [h1]
      rfl) (ents_texts fun x hx => h x (List.mem_cons_of_mem _ hx))
theorem each_perm {vs ws : List Value} {xs : List Tx} (e : PySem.W.EachIs IsT ws xs) (p : vs.Perm ws) : ∃ zs, zs.Perm xs ∧ PySem.W.EachIs IsT vs zs := by
  have key : ∀ {us : List Value} {zs : List Tx}, PySem.W.EachIs IsT us zs → zs = us.map (fun v => (txOf v).cps.toList) := by
    intro us zs h
    induction h with
    | nil => rfl
    | cons h1 _ ih =>
      obtain ⟨t, rfl⟩ := h1
      rw [List.map_cons, ← ih]
      rfl
  have all : ∀ {us : List Value} {zs : List Tx}, PySem.W.EachIs IsT us zs → ∀ v ∈ us, ∃ k t, v = Value.str k t := by
    intro us zs h
    induction h with
    | nil => intro v hv; cases hv
    | cons h1 _ ih =>
      intro v hv
      obtain ⟨t, rfl⟩ := h1
      rcases List.mem_cons.mp hv with rfl | hv
      · exact ⟨_, t, rfl⟩
      · exact ih v hv
  have hv : ∀ v ∈ vs, ∃ k t, v = Value.str k t := fun v h => all e v (p.mem_iff.mp h)
  refine ⟨vs.map fun v => (txOf v).cps.toList, ?_, ?_⟩
  · rw [key e]
    exact p.map _
  · clear p
    induction vs with
    | nil => exact .nil
    | cons v vs ih =>
      refine .cons ?_ (ih fun x hx => hv x (List.mem_cons_of_mem _ hx))
      obtain ⟨k, t, rfl⟩ := hv v List.mem_cons_self
      exact ⟨t, rfl⟩
theorem cr_sortSet (hc : X.calm = true) (hu : X.A.units + 64 < cLine) : CallR X (.builtin "sorted") (rSortSet X.prog X.w) := by
  intro pins s σ H vs us Q I r h
  obtain ⟨a, ys, rfl, ha, q⟩ := h
  rw [Vals.ref1 r]
  obtain ⟨o, es, ep, t, ho, hex, hd, py⟩ := (I.hok a _ ha).1
  refine Calls.call_function_entry kind_sorted plain_sorted entry_sorted (args_sorted1 _) ?_
  unfold Builtin.«sorted»
  refine wpAny_bind (m := checkCount "sorted" 1 1 _) (wpAny_pure (wpAny_bind (collect_set (A := X.A.in1) (I.ok.hd hc) ⟨o, ho, hex.1, hd⟩ py.fit py.few py.ris py.led fun s1 ws k1 sz g1 o1 pm => ?_)))
  obtain ⟨zs, pz, ez⟩ := each_perm (ents_texts py.ents) pm
  have few := py.few
  have lw : ws.length = es.size := by rw [pm.length_eq, List.length_map, Array.length_toList]
  have small : ws.length ≤ sizeLine := by
    rw [lw]
    exact fits_of_scanBound few
  refine wpAny_bind (wpAny_newList ?_ small)
  have atL : (s1.heap.push (seqObj "list" ws.toArray 0)).get? s1.heap.objs.size = some (seqObj "list" ws.toArray 0) := Heap.get?_push_size _ rfl
  refine wpAny_bind (wpAny_holding (PySem.W.list_sort_data (s := { s1 with heap := s1.heap.push (seqObj "list" ws.toArray 0) }) (R := IsT) (enc := fun b : Tx => PyData.str (SX.S b)) atL ez (reads_out ez) (alike_tx zs) (sortable_tx zs) (by rw [← ez.length]; exact small) (fun b _ => ?_) fun out hlen eo => ?_))
  · show X.A.in1.units + 1 + _ < cLine
    have h1 : X.A.in1.units ≤ X.A.units + 8 := by
      show X.A.units + _ ≤ _
      first | omega | exact Nat.add_le_add_left (by decide) _
    have : (PyData.str (SX.S b)).depth ≤ 1 := by simp [PyData.depth]
    omega
  · rw [enc_le] at eo
    obtain ⟨c, hc2⟩ := sortedHeap_at (vs := ws) (out := out.toArray) atL
    have pzy : zs.Perm ys := by
      refine pz.trans ?_
      have h1 := py.keys.map (fun x : Str => x.cps.toList)
      rw [List.map_map, List.map_map] at h1
      exact h1.trans (by rw [show ((fun x : Str => x.cps.toList) ∘ SX.S) = (fun x : Tx => x) from by funext x; simp, List.map_id'])
    have kk : ∀ b u, s.heap.get? b = some u → (sortedHeap (s1.heap.push (seqObj "list" ws.toArray 0)) s1.heap.objs.size ws out.toArray).get? b = some u := fun b u e => by
      have lt := Heap.lt_size (k1 b u e)
      rw [sortedHeap_old (Nat.ne_of_lt lt) (by rw [size_push']; exact Nat.lt_succ_of_lt lt)]
      exact Heap.get?_push_of_some _ (k1 b u e)
    have hn : H s1.heap.objs.size = none := I.hok.fresh sz
    have J := I.call (ch := []) (g' := s1.gens) (d' := s1.drawn) (t' := s1.toks) (Un.laid kk sz hn) (I.hok.laid kk sz (o := .lst ((sortT zs).map T)) ⟨by rw [List.length_map, sortT_len, ← ez.length]; exact small, out, c, vals_of_each eo, hc2⟩) (by rw [g1]; exact I.bare) (fun _ z => nomatch z)
    refine wpAny_pure ⟨_, rfl, .ref s1.heap.objs.size, _, ?_, rfl, q zs _ pzy hn⟩
    have e : ({ s1 with heap := sortedHeap (s1.heap.push (seqObj "list" ws.toArray 0)) s1.heap.objs.size ws out.toArray } : Shared) = { s with heap := sortedHeap (s1.heap.push (seqObj "list" ws.toArray 0)) s1.heap.objs.size ws out.toArray, gens := s1.gens, drawn := s1.drawn, toks := s1.toks } := by
      cases s1
      cases s
      cases o1
      rfl
    rw [e]
    exact J
end
end Wt
set_option Elab.async false
set_option linter.all false
set_option maxRecDepth 100000
set_option maxHeartbeats 2000000
/-! text[::-1]; rules with the part given; lists put behind one another -/
namespace Wt
open PySem PySem.Spec PyProof.Rows L2 Evl Wc
theorem rev_range (a : Tx) : (List.range a.length).map (fun k => a.getD (a.length - 1 - k) 0) = a.reverse := by
  apply List.ext_getElem
  · simp
  · intro i h1 h2
    have hl : i < a.length := by simpa using h1
    rw [List.getElem_map, List.getElem_range, List.getElem_reverse, List.getD_eq_getElem?_getD, List.getElem?_eq_getElem (by omega)]
    rfl
theorem made_rev (a : Tx) (t u : Tok) : sliceMade (SX.S a) t none none (some ((-1 : Int), u)) = .str (SX.S a.reverse) := by
  unfold sliceMade slicePicked
  rw [if_neg (by
    rw [show ((((some ((-1 : Int), u)).map (·.1)).getD 1 == 1)) = false from rfl]
    simp)]
  show Made.str ⟨((Builtin.Str.strSliceIndices none none (-1) (SX.S a).length).filterMap ((SX.S a).cps[·]?)).toArray⟩ = _
  rw [picked_rev, filterMap_get, List.map_map]
  · have e : (SX.S a).length = a.length := S_length a
    rw [e]
    congr 1
    show (⟨((List.range a.length).map fun k => (SX.S a).cps.getD (a.length - 1 - k) 0).toArray⟩ : Str) = SX.S a.reverse
    rw [← rev_range]
    congr 2
    apply List.map_congr_left
    intro k hk
    show a.toArray.getD _ 0 = _
    simp [Array.getD, List.getD_eq_getElem?_getD]
    split
    · rename_i h
      rw [List.getElem?_eq_getElem h]
      rfl
    · rename_i h
      rw [List.getElem?_eq_none (by omega)]
      rfl
  · intro i hi
    obtain ⟨k, hk, rfl⟩ := List.mem_map.mp hi
    have := List.mem_range.mp hk
    show _ < (SX.S a).length
    omega
def tRevT (te : TE) : TE := fun σ H Q => te σ H fun x H1 => ∃ a : Tx, x = T a ∧ a.length ≤ 16777216 ∧ Q (T a.reverse) H1
section
variable {X : Cx}
theorem pe_revT {e : Expr} {te : TE} {k : Nat} {p1 p2 p3 pos : Pos} (he : PE X e te) : PE X (.Subscript e (.Slice none none (some (.UnaryOp .USub (.Constant (.int 1) k p1) p2)) p3) pos) (tRevT te) := by
  refine ⟨fun pins s σ H Q I h => Subscript_ (thn (he.run pins s σ H _ I h) fun v s1 ⟨x, H1, I1, r1, q1⟩ => ?_)⟩
  obtain ⟨a, ex, hz, q⟩ := q1
  subst ex
  obtain ⟨t, rfl⟩ := r1
  have neg : PO X (some (.UnaryOp .USub (.Constant (.int 1) k p1) p2)) (tPart (tUn (rU fun i => .int (-i)) (tC (.int 1)))) := po_some (pe_un un_neg pe_int)
  refine wpAny_Slice (thn (po_none.run pins s1 σ H1 (fun o G => o = none ∧ G = H1) I1 ⟨rfl, rfl⟩) fun vl s2 ⟨l, H2, I2, pl, el, e2⟩ => ?_)
  subst el e2
  refine thn (po_none.run pins s2 σ H2 (fun o G => o = none ∧ G = H2) I2 ⟨rfl, rfl⟩) fun vu s3 ⟨u, H3, I3, pu, eu, e3⟩ => ?_
  subst eu e3
  refine thn (neg.run pins s3 σ H3 (fun o G => o = some (-1) ∧ G = H3) I3 ⟨1, rfl, -1, rfl, rfl, rfl⟩) fun vs s4 ⟨o, H4, I4, ps, eo, e4⟩ => ?_
  subst eo e4
  obtain ⟨l', rfl, hl⟩ := IsPart.raw pl
  obtain ⟨u', rfl, hu⟩ := IsPart.raw pu
  obtain ⟨st, rfl, hst⟩ := IsPart.raw ps
  cases l' with
  | some z => cases hl
  | none => cases u' with
    | some z => cases hu
    | none => cases st with
      | none => cases hst
      | some z =>
        obtain ⟨n, w⟩ := z
        have hn : n = -1 := Option.some.inj hst
        subst hn
        have I5 : Inv X pins σ H4 { s4 with heap := s4.heap.push { cls := .type "slice", data := .fields #[partValue none, partValue none, partValue (some (-1, w))] } } := I4.kept (t' := s4.toks) fun b ob q => Heap.get?_push_of_some _ q
        refine tail_any (T := "str") (ops := [.str (SX.S a) t, .ref s4.heap.objs.size]) (typeIs_str _ _ _) (PySem.F.slot_str_getitem.lookup) ?_ (by with_unfolding_all rfl)
        refine wpAny_getItem_str_slice (l := none) (u := none) (st := some (-1, w)) ⟨_, Heap.get?_push_size _ rfl, rfl, rfl⟩ rfl ?_
        rw [made_rev]
        refine ⟨?_, .str _, _, I5.tok _, ⟨_, rfl⟩, q⟩
        rw [S_length, List.length_reverse]
        exact Nat.le_trans hz (by decide)
end
section
variable {X : Cx} (P : Program) (w : World) (K : PySem.W.Frag)
def rSortX (K : PySem.W.Frag) (P : Program) (w : World) : List V → Hp → VK → Prop := fun vs H Q => rSortTx K vs H Q ∨ rSortSet P w vs H Q
theorem kset (hc : X.calm = true := by rfl) (hK : X.K = K := by rfl) (hP : X.prog = P := by rfl) (hw : X.w = w := by rfl) : CallR X (.type "set") (rSetTx K P w) := by
  subst hK hP hw
  exact cr_setTx hc
theorem ksorted (hu : X.A.units + 64 < cLine) (hc : X.calm = true := by rfl) (hK : X.K = K := by rfl) (hP : X.prog = P := by rfl) (hw : X.w = w := by rfl) : CallR X (.builtin "sorted") (rSortX K P w) := by
  subst hK hP hw
  exact CallR.or (cr_sortTx hu) (cr_sortSet hc hu)
theorem krev {e : Expr} {te : TE} (h : PE X e (tRevL X.K te)) (hK : X.K = K := by rfl) : PE X e (tRevL K te) := hK ▸ h
end
section
variable {K : PySem.W.Frag} {P : Program} {w : World} {σ : L2.St} {H : Hp} {te : TE}
theorem ev_revT {a : Tx} (h : Ev te σ H (T a)) (hl : a.length ≤ 16777216) : Ev (tRevT te) σ H (T a.reverse) := fun H1 e _ q => h H1 e _ fun H2 e2 => ⟨a, rfl, hl, q H2 e2⟩
theorem el_revL {p : Addr} {xs : List V} (h : Ev te σ H (.ref p)) (hp : SqL K H p xs) : EvL (tRevL K te) σ H xs.reverse := fun H1 e _ q => h H1 e _ fun H2 e2 => ⟨p, xs, rfl, ex_l (e.trans e2) hp, fun r hr => q r _ (fresh_back e2 hr) (e2.trans (Ex.new hr)) upd_same⟩
theorem el_revN {xs : List V} (h : EvL te σ H xs) : EvL (tRevL K te) σ H xs.reverse := fun H1 e _ q => h H1 e _ fun p H2 hp e2 h2 => ⟨p, xs, rfl, sq_of h2, fun r hr => q r _ (fresh_back e2 hr) (e2.trans (Ex.new hr)) upd_same⟩
/-- sorted(set(..)), of a new list of texts -/
theorem el_sortSet {xs : List Tx} (h : EvL te σ H (xs.map T)) (hl : xs.length ≤ 4000) (Q : VK) (k : ∀ p ys H1, Uniq xs ys → ys.length ≤ xs.length → H p = none → Ex H H1 → H1 p = some (.lst ((sortT ys).map T)) → Q (.ref p) H1) :
    tCB (rSortX K P w) (tCons (tCB (rSetTx K P w) (tCons te tNil)) tNil) σ H Q := h H (Ex.refl _) _ fun p H1 hp e1 h1 => ⟨p, xs, rfl, sq_of h1, hl, fun q ys u hly hq => .inr ⟨q, ys, rfl, upd_same, fun zs r pz hr => by
  have hr1 : H1 r = none := fresh_back (Ex.new hq) hr
  exact k r zs _ ⟨pz.nodup_iff.mpr u.nd, fun x => (pz.mem_iff).trans (u.mem x)⟩ (by rw [pz.length_eq]; exact hly) (fresh_back e1 hr1) ((e1.trans (Ex.new hq)).trans (Ex.new hr)) upd_same⟩⟩
/-- sorted(..) of a standing list of texts -/
theorem el_sorted {p : Addr} {xs : List Tx} (h : Ev te σ H (.ref p)) (hp : SqL K H p (xs.map T)) : EvL (tCB (rSortX K P w) (tCons te tNil)) σ H ((sortT xs).map T) := fun H1 e _ q => h H1 e _ fun H2 e2 => .inl ⟨p, xs, rfl, ex_l (e.trans e2) hp, fun r hr => q r _ (fresh_back e2 hr) (e2.trans (Ex.new hr)) upd_same⟩
end
end Wt
set_option Elab.async false
set_option linter.all false
set_option maxRecDepth 100000
set_option maxHeartbeats 2000000
/-! small things for lists and tests -/
namespace Wt
open PySem PySem.Spec PyProof.Rows L2 Evl Wc
section
variable {K : PySem.W.Frag} {σ : L2.St} {H : Hp} {ta tb tc te : TE} {x y z : V}
theorem ev_chain {r r' : R2} {b1 b2 : Bool} (ha : Ev ta σ H x) (hb : Ev tb σ H y) (h1 : RV r x y H (.bl b1)) (hc : Ev tc σ H z) (h2 : RV r' y z H (.bl b2)) : Ev (tChain r r' ta tb tc) σ H (.bl (b1 && b2)) := fun H1 e1 Q q =>
  ha H1 e1 _ fun H2 e2 => hb H2 (e1.trans e2) _ fun H3 e3 => h1 H3 ((e1.trans e2).trans e3) _ fun H4 e4 => ⟨b1, rfl, by
    have e14 := (e2.trans e3).trans e4
    cases b1 with
    | true =>
      show tc σ H4 _
      exact hc H4 (e1.trans e14) _ fun H5 e5 => h2 H5 ((e1.trans e14).trans e5) _ fun H6 e6 => q H6 ((e14.trans e5).trans e6)
    | false => exact q H4 e14⟩
theorem erase_perm {α : Type} {xs : List α} {d : Nat} (h : d < xs.length) : (xs[d] :: xs.eraseIdx d).Perm xs := by
  rw [List.eraseIdx_eq_take_drop_succ]
  have e : xs = xs.take d ++ xs[d] :: xs.drop (d + 1) := by
    rw [List.getElem_cons_drop, List.take_append_drop]
  conv => rhs; rw [e]
  exact List.perm_middle.symm
/-- the signs of a text's value -/
def unT : V → Tx
  | .str x => x.cps.toList
  | _ => []
theorem map_unT (xs : List Tx) : (xs.map T).map unT = xs := by
  rw [List.map_map]
  conv => rhs; rw [← List.map_id xs]
  rfl
theorem perm_texts {ys : List V} {xs : List Tx} (h : ys.Perm (xs.map T)) : ∃ zs : List Tx, ys = zs.map T ∧ zs.Perm xs := by
  obtain ⟨zs, rfl, _⟩ := texts_of (acc := ys) (g := fun _ => True) fun v hv => by
    obtain ⟨t, _, rfl⟩ := List.mem_map.mp (h.mem_iff.mp hv)
    exact ⟨t, rfl, trivial⟩
  have := h.map unT
  rw [map_unT, map_unT] at this
  exact ⟨zs, rfl, this⟩
theorem seqIx_nat {d n : Nat} (h : d < n) : seqIndex? (d : Int) n = some d := by
  have : ¬ (d : Int) < 0 := by omega
  unfold seqIndex?
  simp [this, h]
/-- lists put behind one another: both new | the first stands -/
theorem el_catNN {xs ys : List V} (ha : EvL ta σ H xs) (hb : EvL tb σ H ys) (hz : xs.length + ys.length ≤ 100000) : EvL (tOp rCat ta tb) σ H (xs ++ ys) := fun H1 e1 Q q =>
  ha H1 e1 _ fun p H2 hp e2 h2 => hb H2 (e1.trans e2) _ fun r H3 hr e3 h3 => ⟨p, r, xs, ys, rfl, rfl, e3 _ _ h2, h3, sz_of hz, fun n hn => q n _ (fresh_back (e2.trans e3) hn) ((e2.trans e3).trans (Ex.new hn)) upd_same⟩
theorem el_catVN {p : Addr} {xs ys : List V} (ha : Ev ta σ H (.ref p)) (hp : H p = some (.lst xs)) (hb : EvL tb σ H ys) (hz : xs.length + ys.length ≤ 100000) : EvL (tOp rCat ta tb) σ H (xs ++ ys) := fun H1 e1 Q q =>
  ha H1 e1 _ fun H2 e2 => hb H2 (e1.trans e2) _ fun r H3 hr e3 h3 => ⟨p, r, xs, ys, rfl, rfl, ((e1.trans e2).trans e3) _ _ hp, h3, sz_of hz, fun n hn => q n _ (fresh_back (e2.trans e3) hn) ((e2.trans e3).trans (Ex.new hn)) upd_same⟩
theorem ev_lenU {p : Addr} {xs : List V} (h : Ev ta σ H (.ref p)) (hp : SqT K H p xs) : Ev (tCB (rLenS K) (tCons ta tNil)) σ H (.int (xs.length : Int)) := fun H1 e Q q => h H1 e _ fun H2 e2 => ⟨p, xs, rfl, .inr (ex_t (e.trans e2) hp), q H2 e2⟩
end
end Wt
set_option Elab.async false
set_option linter.all false
set_option maxRecDepth 100000
set_option maxHeartbeats 2000000
/-! comprehensions of so many turns as are drawn -/
namespace Wt
open PySem PySem.Spec PyProof.Rows L2 Evl Wc
section
variable {K : PySem.W.Frag} {fa : Addr} {σ : L2.St} {H : Hp} {te te0 : TE}
theorem lcRD {j : Nat} {vs : List Nat} {lo N c m0 : Nat} (good : V → Prop) (hc : Dw fa σ m0 te0 (GdI (lo : Int) (N : Int))) (hN : N ≤ 1000) (G : GF fa (m0 + N * c) H) (hw : ∀ x, wipe ((wipe σ vs).set j (some x)) vs = wipe σ vs)
    (he : ∀ x n H1, Rf fa n H H1 → GF fa c H1 → ∀ Q' : VK, (∀ y H2, good y → Rf fa c H1 H2 → Q' y H2) → te ((wipe σ vs).set j (some x)) H1 Q') (Q : VK)
    (k : ∀ p H2 acc, H p = none → Rf fa (m0 + N * c) H H2 → H2 p = some (.lst acc) → lo ≤ acc.length → acc.length ≤ N → (∀ v ∈ acc, good v) → Q (.ref p) H2) : tLc (iRng1 (tCons te0 tNil)) (gName j) tYes te vs σ H Q :=
  hc H (G.mono (by omega)) _ fun v H1 ⟨n, hv, h0, h1⟩ R1 => by
    obtain ⟨n, rfl⟩ := Int.eq_ofNat_of_zero_le (show 0 ≤ n by omega)
    subst hv
    have hn : n ≤ N := by omega
    have hnc : n * c ≤ N * c := Nat.mul_le_mul_right c hn
    have G1 : GF fa (N * c) H1 := G.go R1 (by omega)
    have h : tLc (iRng1 fun _ H' Q' => Q' [.int (n : Int)] H') (gName j) tYes te vs σ H1 Q := by
      refine lcD good c G1.is (src_range1 (n := n) (fun H2 e2 Q2 q => q H2 (Ex.refl _)) (by omega)) (fun z => z) (by omega) hw (fun i x H2 hi _ R2 Q2 q2 => ?_) fun p H2 acc hp R2 h2 hl hg => k p H2 acc (R1.free G.is hp G1.is) ((R1.trans R2).mono (by omega)) h2 (by omega) (by omega) hg
      have hic : i * c + c ≤ N * c := by
        have := Nat.mul_le_mul_right c (show i + 1 ≤ N by omega)
        rw [Nat.succ_mul] at this
        exact this
      exact he x _ H2 (R1.trans R2) (G1.go R2 hic) Q2 q2
    exact h
/-- over a standing list of texts, with a test that draws; what is kept is of the list -/
theorem texts_GdT {acc : List V} {ok : Nat → Prop} {lo n : Nat} (h : ∀ v ∈ acc, GdT ok lo n v) : ∃ ws : List Tx, acc = ws.map T ∧ ∀ t ∈ ws, lo ≤ t.length ∧ t.length ≤ n ∧ ∀ c ∈ t, ok c := texts_of fun v hv => by
  obtain ⟨s, rfl, h1, h2, h3⟩ := h v hv
  exact ⟨s, rfl, h1, h2, h3⟩
theorem dI_sub {ta tb : TE} {m1 m2 : Nat} {a b c d : Int} (h1 : Dw fa σ m1 ta (GdI a b)) (h2 : Dw fa σ m2 tb (GdI c d)) : Dw fa σ (m1 + m2) (tOp (rI0 fun i j => .int (i - j)) ta tb) (GdI (a - d) (b - c)) := dw_op h1 h2 fun x y ⟨i, hi, h3, h4⟩ ⟨j, hj, h5, h6⟩ => ⟨.int (i - j), ⟨i - j, rfl, by omega, by omega⟩, fun H Q q => ⟨i, j, hi, hj, q⟩⟩
theorem dI_wk {m : Nat} {a b c d : Int} (h : Dw fa σ m te (GdI a b)) (h1 : c ≤ a := by omega) (h2 : b ≤ d := by omega) : Dw fa σ m te (GdI c d) := dw_as h fun v ⟨i, hi, h3, h4⟩ => ⟨i, hi, by omega, by omega⟩
theorem dT_wk {m : Nat} {ok : Nat → Prop} {a b c d : Nat} (h : Dw fa σ m te (GdT ok a b)) (h1 : c ≤ a := by omega) (h2 : b ≤ d := by omega) : Dw fa σ m te (GdT ok c d) := dw_as h fun v ⟨i, hi, h3, h4, h5⟩ => ⟨i, hi, by omega, by omega, h5⟩
/-- one of displayed numbers -/
theorem dI_oneL {i : Nat} {ns : List Int} {lo hi : Int} (h0 : σ[i]? = some (some (.ref fa))) (h : ∀ H, EvL te σ H (ns.map V.int)) (hg : ∀ n ∈ ns, lo ≤ n ∧ n ≤ hi) (hs : ns ≠ []) (hl : ns.length ≤ 1000) : Dw fa σ 1 (tCall (sp_one K) [] E0 (tCons (tVar i) (tCons te tNil))) (GdI lo hi) :=
  dw_oneL h0 h (fun v hv => by
    obtain ⟨n, hn, rfl⟩ := List.mem_map.mp hv
    exact ⟨n, rfl, (hg n hn).1, (hg n hn).2⟩) (fun z => hs (List.map_eq_nil_iff.mp z)) (by rw [List.length_map]; omega)
/-- a list comprehension over a list, at which draws are made: test and step -/
theorem lcDT {wi : TI} {tt : TT} {j : Nat} {vs : List Nat} {n : Nat} {own : Addr → Prop} {P : Nat → V → Hp → Prop} {Q : VK} (good : V → Prop) (c : Nat) (hf : H fa ≠ none) (hs : Src wi σ H n own P) (ho : ¬ own fa) (hn : n ≤ 40000) (hw : ∀ x, wipe ((wipe σ vs).set j (some x)) vs = wipe σ vs)
    (ht : ∀ (i : Nat) (x : V) H1, i < n → P i x H1 → Rf fa (i * c) H H1 → ∀ Q' : Bool → Hp → Prop, (∀ b H2, Rf fa c H1 H2 → Q' b H2) → tt ((wipe σ vs).set j (some x)) H1 Q')
    (he : ∀ (i : Nat) (x : V) H0 H1, i < n → P i x H0 → Rf fa c H0 H1 → ∀ Q' : VK, (∀ y H2, good y → Ex H1 H2 → Q' y H2) → te ((wipe σ vs).set j (some x)) H1 Q')
    (k : ∀ p H2 acc, H p = none → Rf fa (n * c) H H2 → H2 p = some (.lst acc) → acc.length ≤ n → (∀ v ∈ acc, good v) → Q (.ref p) H2) : tLc wi (gName j) tt te vs σ H Q :=
  hs H (Ex.refl H) _ fun J H1 S e1 w hS => fun Dl hD => by
    have hDH : H Dl = none := fresh_back e1 hD
    have hne : Dl ≠ fa := fun z => hf (z ▸ hDH)
    have hf1 : H1 fa ≠ none := by
      cases hq : H fa with
      | none => exact absurd hq hf
      | some o => rw [e1 _ _ hq]; exact fun z => nomatch z
    refine lc_it w (Qd := fun H3 => Q (.ref Dl) H3) (fun i Hi => Rf fa (i * c) H1 Hi ∧ ∃ acc, Hi Dl = some (.lst acc) ∧ acc.length ≤ i ∧ ∀ v ∈ acc, good v) ?_ (fun i Hi hi p => hS (fun b => b = fa) Hi (by rintro b rfl; exact ⟨hf, ho⟩) p.1.keep) ?_ ?_
    · exact ⟨((Rf.refl H1).upd hD hf1).mono (Nat.zero_le _), [], upd_same, Nat.le_refl _, fun v hv => nomatch hv⟩
    · rintro i x Ha Hb hi ⟨R, acc, h1, h2, h3⟩ ⟨ey, hP⟩
      refine ⟨hw x, ?_⟩
      have Rb : Rf fa (i * c) H1 Hb := R.then ey
      refine ht i x Hb hi hP (Rf.pre e1 Rb) _ fun b H3 R3 => ?_
      have h13 : H3 Dl = some (.lst acc) := R3.at_ (ey _ _ h1) hne
      have Rc : Rf fa ((i + 1) * c) H1 H3 := (Rb.trans R3).mono (by rw [Nat.succ_mul]; exact Nat.le_refl _)
      cases b with
      | true =>
        show te ((wipe σ vs).set j (some x)) H3 fun y H4 => _
        refine he i x Hb H3 hi hP R3 _ fun y H4 hy e4 => ⟨acc, e4 _ _ h13, sz_lt (by omega), (Rc.then e4).upd hD hf1, acc ++ [y], upd_same, by rw [List.length_append]; exact Nat.succ_le_succ h2, fun v hv => ?_⟩
        rcases List.mem_append.mp hv with hv | hv
        · exact h3 v hv
        · rw [List.mem_singleton.mp hv]
          exact hy
      | false => exact ⟨Rc, acc, h13, Nat.le_succ_of_le h2, h3⟩
    · rintro H3 ⟨R, acc, h1, h2, h3⟩
      exact k Dl H3 acc hDH (Rf.pre e1 R) h1 h2 h3
/-- the list is the value of a reading -/
theorem lc_of {te0 : TE} {g : TG} {tt : TT} {vs : List Nat} {Q : VK} (h : te0 σ H fun v H1 => tLc (iList K (fun _ H' Q' => Q' v H')) g tt te vs σ H1 Q) : tLc (iList K te0) g tt te vs σ H Q := h
end
end Wt
set_option Elab.async false
set_option linter.all false
set_option maxRecDepth 100000
set_option maxHeartbeats 2000000
/-! enumerate(t), t a tuple -/
namespace Wt
open PySem PySem.Spec PyProof.Rows L2 Evl Wc
theorem meets_enum1 {v : Value} {o : Obj} {Hh : Heap → Prop} (B : Begins v o Hh) :
    Meets (Builtin.«enumerate.__new__» ⟨[.type "enumerate", v], []⟩) (fun _ R s => Hh s.heap ∧ R (.ok (.ret (.ref (s.heap.push o).objs.size))) { s with heap := (s.heap.push o).push { cls := .type "enumerate", data := .fields #[.none, .bool false, .ref s.heap.objs.size, rawInt 0, .none, .none] } }) :=
  .of_wp fun P w A R s h => by
    obtain ⟨hp, g, d, tk, os⟩ := s
    obtain ⟨h1, h2⟩ := h
    have hsub := sub_enumerate
    have begin_ : ∀ {A' : Around} {E : Value → Shared → Prop} {Q : Value → Shared → Prop}, Q (.ref hp.objs.size) ⟨hp.push o, g, d, tk, os⟩ → wpAny (model P w) A' (pyIter v) Q E ⟨hp, g, d, tk, os⟩ := fun q => B.iter P w _ _ ⟨hp, g, d, tk, os⟩ _ h1 q
    wp_walk
    refine wpAny_stack_any fun st => wpAny_pure ?_
    split
    · rename_i c _ _ _ _ _
      cases (c == Value.type "enumerate")
      · wp_walk using begin_
        exact ⟨_, rfl, h2⟩
      · wp_walk using begin_
        exact ⟨_, rfl, h2⟩
    · wp_walk using begin_
      exact ⟨_, rfl, h2⟩
section
variable {P : Program} {w : World} {A : Around} {E : Value → Shared → Prop} {s : Shared}
theorem call_enum1 {v : Value} {o : Obj} {Hh : Heap → Prop} {Q : Value → Shared → Prop} (B : Begins v o Hh) (h1 : Hh s.heap)
    (h : ∀ h', IsEnum h' (s.heap.objs.size + 1) s.heap.objs.size 0 .none → h'.get? s.heap.objs.size = some o → (∀ b o, s.heap.get? b = some o → h'.get? b = some o) → Q (.ref (s.heap.objs.size + 1)) { s with heap := h' }) :
    wpAny (model P w) A (call (.type "enumerate") [v]) Q E s := by
  refine callType_new F.called_enumerate (by decide) (F.typeCall_enumerate_1 _) (F.newCall_enumerate_1 _) (fun obj => F.args_object_init_2 obj _) F.entry_enumerate_new (meets_enum1 B) ⟨h1, ?_⟩
  have z : (s.heap.push o).objs.size = s.heap.objs.size + 1 := Heap.size_push ..
  show _ ∧ _
  rw [z]
  have he : IsEnum ((s.heap.push o).push { cls := .type "enumerate", data := .fields #[.none, .bool false, .ref s.heap.objs.size, rawInt 0, .none, .none] }) (s.heap.objs.size + 1) s.heap.objs.size 0 .none := by
    rw [← z]
    exact Heap.get?_push_size (s.heap.push o) rfl
  exact ⟨⟨_, he, rfl⟩, h _ he (Heap.get?_push_of_some _ (Heap.get?_push_size _ B.free)) fun b u x => Heap.get?_push_of_some _ (Heap.get?_push_of_some _ x)⟩
end
/-- the tuple at a, each item in a new pair with its number -/
def ItEt (K : PySem.W.Frag) (a : Addr) : It :=
  ⟨fun i H => ∃ (xs : List V) (x : V), SqT K H a xs ∧ xs[i]? = some x, fun i H v H' => ∃ T x, v = .ref T ∧ H T = none ∧ H' = upd H T (.tup [.int (i : Nat), x]) ∧ ∀ xs, SqT K H a xs → xs[i]? = some x, fun i H => ∃ xs : List V, SqT K H a xs ∧ xs.length ≤ i⟩
theorem turn_enumT {P : Program} {w : World} {K : PySem.W.Frag} {elts : List Expr} {kk : Nat} {tpos : Pos} (a e it : Addr) (hne : e ≠ it) (ha1 : a ≠ it) (ha2 : a ≠ e) :
    Turn P w K (.Tuple elts kk tpos) (ItEt K a) [e, it] e (fun i h => (∃ old, IsEnum h e it ((i : Nat) : Int) old) ∧ h.IsTupleIter it a i) where
  mem := List.mem_cons_self
  obj := fun i h st b hb => by
    obtain ⟨⟨old, he⟩, o, ho, hc, hd⟩ := st
    rcases List.mem_cons.mp hb with z | z
    · rw [z]
      exact ⟨_, he, fun v q => nomatch q⟩
    · rw [List.mem_singleton.mp z]
      exact ⟨o, ho, fun v q => by rw [hd] at q; cases q⟩
  keep := fun i h h' st k => let ⟨⟨old, he⟩, hi⟩ := st; ⟨⟨old, k e List.mem_cons_self _ he⟩, hi.at fun o q => k it (by simp) o q⟩
  item := by
    intro X hP hw hK hc i pins s σ H E I hf st hg
    subst hP hw hK
    obtain ⟨⟨old, he⟩, hit⟩ := st
    obtain ⟨xs, x, hq, hx⟩ := hg
    obtain ⟨its, rv, p, hz⟩ := I.tuple hq
    obtain ⟨u, hu, ru⟩ := rv.get hx
    have le : e < s.heap.objs.size := Heap.lt_size he
    have li : it < s.heap.objs.size := by obtain ⟨_, q, _⟩ := hit; exact Heap.lt_size q
    have hlt : i < its.toArray.size := by
      rw [List.size_toArray]
      exact (List.getElem?_eq_some_iff.mp hu).1
    have D := Draws.tuple (prog := X.prog) (w := X.w) (A := X.A.in1) (I.ok.hd hc) it a ha1 its.toArray
    refine wpAny_pyNext_enum_itemD D he ⟨hit, p⟩ hlt hne (by simp [hne, ha2.symm]) fun y h' tk hP2 ho hst hT hsz hk => ?_
    have hyu : y = u := by
      have e1 : its.toArray[i]? = some u := by simpa using hu
      rw [e1] at hP2
      exact (Option.some.inj hP2).symm
    subst hyu
    refine ⟨_, rfl, wpAny_letOwnedTupleGo_enum (s := { s with heap := h', toks := tk + 1 }) ho fun h2 he2 sb => ?_⟩
    have hT2 : h2.get? s.heap.objs.size = some { cls := .type "tuple", data := .seq #[.int i tk, y] } := (sb.2 _ (Nat.ne_of_gt le)).trans hT
    have new : ObjOk X.prog X.w (upd H s.heap.objs.size (.tup [.int (i : Nat), x])) h2 s.heap.objs.size (.tup [.int (i : Nat), x]) := ⟨by show 2 ≤ sizeLine; decide, [.int i tk, y], .cons ⟨_, rfl⟩ (.cons ru .nil), ⟨_, hT2, rfl, _, rfl⟩⟩
    have I1 : Inv X pins σ (upd H s.heap.objs.size (.tup [.int (i : Nat), x])) { s with heap := h2, toks := tk + 1 } :=
      I.turnedNew (ch := [e, it]) (fun b ob hb q => (sb.2 b (fun z => hb (by simp [z]))).trans (hk b ob (fun z => hb (by simp [z])) (fun z => hb (by simp [z])) q)) hf (Nat.le_refl _) new
    refine ⟨.ref s.heap.objs.size, _, I1, rfl, ⟨_, x, rfl, I.hok.fresh (Nat.le_refl _), rfl, fun ys hy => by rw [I.tuple_inj hy hq]; exact hx⟩, ⟨⟨y, ?_⟩, hst.1.at fun o q => (sb.2 it (Ne.symm hne)).trans q⟩, fun b hb => ?_⟩
    · rw [show ((i + 1 : Nat) : Int) = (i : Int) + 1 by omega]
      exact he2
    · have lb : b < s.heap.objs.size := by
        rcases List.mem_cons.mp hb with z | z
        · rw [z]; exact le
        · rw [List.mem_singleton.mp z]; exact li
      rw [upd_ne (Nat.ne_of_lt lb)]
      exact (hf b hb).1
  done := by
    intro X hP hw hK hc i pins s σ H E I hf st hg
    subst hP hw hK
    obtain ⟨⟨old, he⟩, hit⟩ := st
    obtain ⟨xs, hq, hx⟩ := hg
    obtain ⟨its, rv, p, hz⟩ := I.tuple hq
    obtain ⟨f0, f1, f2, f3, f4, f5⟩ := hf it (by simp)
    have hl := rv.length
    have none_ : its.toArray[i]? = none := by simp; omega
    have D : Draws X.prog X.w X.A.in1 it [it, a] 0 (fun _ _ => False) (fun _ h => h.IsTupleIter it a i ∧ h.IsTuple a its.toArray) := ⟨fun _ _ st => let ⟨o, ho, _⟩ := st.1; ⟨o, ho⟩, fun _ _ _ st k => ⟨st.1.at fun o q => k it (by simp) o q, st.2.at fun o q => k a (by simp) o q⟩, fun _ _ _ _ z => absurd z (Nat.not_lt_zero _), fun s Q E st hE => wpAny_nextOf_tuple_end (I.ok.hd hc) st.1 st.2 none_ hE⟩
    exact wpAny_pyNext_enum_endD D he ⟨hit, p⟩ fun h' eb => ⟨rfl, I.turned (t' := s.toks) (fun b o hb q => eb b o hb q) f0 f1 f3 f4 f5⟩
  self := fun A i s Q E st h => let ⟨⟨_, he⟩, _⟩ := st; wpAny_pyIter_enum he h
def iEnumT (K : PySem.W.Frag) (ta : TA) : TI := fun σ H R => ta σ H fun vs H1 => ∃ a xs, vs = [.ref a] ∧ SqT K H1 a xs ∧ R (ItEt K a) H1
theorem pi_enumT {X : Cx} {e : Expr} {ta : TA} {p pos tpos : Pos} {elts : List Expr} {kk : Nat} (hg : Gl X "enumerate") (hm : X.mg "enumerate" = none) (ha : PA X [e] ta) (hs : starEach [e] X.env = [(false, eval e X.env)] := by rfl) : PI X (.Tuple elts kk tpos) (.Call (.Name "enumerate" p) [e] [] pos) (iEnumT X.K ta) := by
  refine ⟨fun pins s σ H R I h => Call_ (ld_blt I hg hm boot_enumerate (PyProof.Rows.callWith_type1 (thn (ha.run pos pins s σ H _ I h) fun us s1 ⟨vs, H1, I1, r1, q1⟩ => ?_) hs rfl))⟩
  obtain ⟨a, xs, ex, hq, q⟩ := q1
  subst ex
  obtain rfl := Vals.ref1 r1
  obtain ⟨its, rv, pt, hz⟩ := I1.tuple hq
  have la : a < s1.heap.objs.size := by obtain ⟨o, ho, _⟩ := pt; exact Heap.lt_size ho
  refine call_enum1 (begins_tuple a its.toArray) pt fun h' he hi hk => wpAny_pyIter_enum he ?_
  have I2 : Inv X pins σ H1 { s1 with heap := h' } := I1.kept (t' := s1.toks) hk
  refine ⟨s1.heap.objs.size + 1, [s1.heap.objs.size + 1, s1.heap.objs.size], _, _, H1, rfl, I2, turn_enumT a (s1.heap.objs.size + 1) s1.heap.objs.size (Nat.succ_ne_self _) (Nat.ne_of_lt la) (Nat.ne_of_lt (Nat.lt_succ_of_lt la)), ⟨⟨.none, he⟩, ⟨_, hi, rfl, rfl⟩⟩, fun b hb => ?_, q⟩
  have hle : s1.heap.objs.size ≤ b := by
    rcases List.mem_cons.mp hb with z | z
    · rw [z]; exact Nat.le_succ _
    · rw [List.mem_singleton.mp z]; exact Nat.le_refl _
  exact I1.fpOk hle (I1.hok.fresh hle)
section
variable {K : PySem.W.Frag} {σ : L2.St} {H : Hp}
theorem walk_enumT {a : Addr} {xs : List V} : Walk (ItEt K a) xs.length (fun H => SqT K H a xs) (YPair (fun i => some (.int (i : Nat))) (fun i => xs[i]?)) := by
  refine ⟨fun i _ hi q => ⟨xs, xs[i], q, by simp [hi]⟩, fun _ q => ⟨xs, q, Nat.le_refl _⟩, fun i H v H' _ q y => ?_⟩
  obtain ⟨t, x, y1, y2, y3, y4⟩ := y
  exact ⟨t, .int (i : Nat), x, y1, y2, y3, rfl, y4 xs q⟩
theorem src_enumT {a : Addr} {xs : List V} {tl : TE} (h : Ev tl σ H (.ref a)) (hs : SqT K H a xs) : Src (iEnumT K (tCons tl tNil)) σ H xs.length (fun b => b = a) (fun i v Hb => ∃ p x, v = .ref p ∧ xs[i]? = some x ∧ Hb p = some (.tup [.int (i : Nat), x])) := fun H1 e R q =>
  h H1 e _ fun H2 e2 => ⟨a, xs, rfl, ex_t (e.trans e2) hs, q _ H2 _ e2 (walk_enumT.mono (fun _ z => z) fun i Ha v Hb _ _ hy => by
    obtain ⟨p, y, x, rfl, hn, rfl, h1, h2⟩ := hy
    refine ⟨Ex.new hn, p, x, rfl, h2, ?_⟩
    rw [← Option.some.inj h1]
    exact upd_same) fun B Ha hB ea => ea.tp (fun z => (hB a z).2 rfl) (ex_t (e.trans e2) hs)⟩
theorem kiet {X : Cx} (K : PySem.W.Frag) {tg it : Expr} {ta : TA} (h : PI X tg it (iEnumT X.K ta)) (hK : X.K = K := by rfl) : PI X tg it (iEnumT K ta) := hK ▸ h
theorem kiza {X : Cx} (K : PySem.W.Frag) {tg it : Expr} {ta : TA} (h : PI X tg it (RZ.iZipA X.K ta)) (hK : X.K = K := by rfl) : PI X tg it (RZ.iZipA K ta) := hK ▸ h
theorem kfl {X : Cx} (K : PySem.W.Frag) {e : Expr} {ta : TE} {f : Str} (h : PE X e (tFld X.K ta f)) (hK : X.K = K := by rfl) : PE X e (tFld K ta f) := hK ▸ h
theorem walk_zipT {a b : Addr} {xs ys : List V} {n : Nat} (hn : n = min xs.length ys.length) : Walk (RZ.ItzT K a b) n (fun H => SqT K H a xs ∧ SqT K H b ys) (YPair (fun i => xs[i]?) (fun i => ys[i]?)) := by
  subst hn
  refine ⟨fun i _ hi q => ⟨xs, ys, xs[i]'(by omega), ys[i]'(by omega), q.1, q.2, by simp [show i < xs.length by omega], by simp [show i < ys.length by omega]⟩, fun _ q => ⟨xs, ys, q.1, q.2, by omega⟩, fun i H v H' _ q y => ?_⟩
  obtain ⟨t, x, z, y1, y2, y3, y4, y5⟩ := y
  exact ⟨t, x, z, y1, y2, y3, y4 xs q.1, y5 ys q.2⟩
theorem src_zipT {a : Addr} {xs ys : List V} {n : Nat} {tl tr : TE} (h : Ev tl σ H (.ref a)) (h2 : EvU tr σ H ys) (hs : SqT K H a xs) (hn : n = min xs.length ys.length) :
    Src (RZ.iZipA K (tCons tl (tCons tr tNil))) σ H n (fun c => c = a ∨ H c = none) (fun i v Hb => ∃ p x y, v = .ref p ∧ xs[i]? = some x ∧ ys[i]? = some y ∧ Hb p = some (.tup [x, y])) := fun H1 e R q =>
  h H1 e _ fun H2 e2 => h2 H2 (e.trans e2) _ fun b H3 hb e3 hb3 => ⟨a, b, xs, ys, rfl, .inr ⟨ex_t ((e.trans e2).trans e3) hs, st_of hb3, q _ H3 _ (e2.trans e3) ((walk_zipT hn).mono (fun _ z => z) fun i Ha v Hb _ _ hy => by
    obtain ⟨p, x, y, rfl, hf, rfl, h1, h2⟩ := hy
    exact ⟨Ex.new hf, p, x, y, rfl, h1, h2, upd_same⟩) fun B Ha hB ea => ⟨ea.tp (fun z => (hB a z).2 (.inl rfl)) (ex_t ((e.trans e2).trans e3) hs), ea.tp (fun z => (hB b z).2 (.inr (fresh_back (e.trans e2) hb))) (st_of hb3)⟩⟩⟩
end
end Wt
set_option Elab.async false
set_option linter.all false
set_option maxRecDepth 100000
set_option maxHeartbeats 2000000
/-! comprehensions with any target -/
namespace Wt
open PySem PySem.Spec PyProof.Rows L2 Evl Wc
section
variable {K : PySem.W.Frag} {σ : L2.St} {H : Hp} {te : TE} {t : TT}
theorem el_lcG {α : Type} {wi : TI} {g : TG} {vs : List Nat} {n : Nat} {own : Addr → Prop} {P : Nat → V → Hp → Prop} {gv : α → V} {p : α → Bool} (xs : List α) (st : α → L2.St) (R : α → V → Hp → Prop) (hs : Src wi σ H n own P) (hn : n ≤ 40000) (hx : xs.length = n)
    (hP : ∀ i x H1, P i x H1 → ∃ a, xs[i]? = some a ∧ R a x H1) (hg : ∀ a x H1 (Q' : L2.St → Hp → Prop), R a x H1 → Q' (st a) H1 → g x (wipe σ vs) H1 Q') (hw : ∀ a, wipe (st a) vs = wipe σ vs)
    (ht : ∀ a H1, Ex H H1 → a ∈ xs → EvT t (st a) H1 (p a)) (he : ∀ a H1, Ex H H1 → a ∈ xs → p a = true → Ev te (st a) H1 (gv a)) : EvL (tLc wi g t te vs) σ H ((xs.filter p).map gv) := fun H0 e Q q => by
  have hgm := given_map xs p gv (fun i => match xs[i]? with | some a => p a | none => false) (fun i => match xs[i]? with | some a => gv a | none => .non) (fun i a ha => by simp only [ha]) (fun i a ha => by simp only [ha])
  rw [hx] at hgm
  generalize hf : (fun (i : Nat) => match xs[i]? with | some a => p a | none => false) = f at hgm
  generalize hv : (fun (i : Nat) => match xs[i]? with | some a => gv a | none => V.non) = v at hgm
  exact hs H0 e _ fun J H1 S e1 w hS => fun Dl hD =>
    lc_it w (Qd := fun H3 => Q (.ref Dl) H3) (Cw H1 f v Dl) ⟨hD, Ex.new hD, upd_same⟩ (fun i Hi _ c => hS (fun _ => False) Hi (fun _ z => z.elim) (.of c.2.1)) (fun i x Hi Hj hi c hy => by
      obtain ⟨ey, hPi⟩ := hy
      obtain ⟨a, ha, hr⟩ := hP i x Hj hPi
      have hm : a ∈ xs := List.mem_of_getElem? ha
      have fa : f i = p a := by rw [← hf]; simp only [ha]
      have va : v i = gv a := by rw [← hv]; simp only [ha]
      have c' : Cw H1 f v Dl i Hj := ⟨c.1, c.2.1.trans ey, ey _ _ c.2.2⟩
      have eAll : Ex H Hj := (e.trans e1).trans c'.2.1
      obtain ⟨c1, c2, c3⟩ := c'
      refine hg a x Hj _ hr ⟨hw a, ht a Hj eAll hm Hj (Ex.refl _) _ fun H3 e3 => ?_⟩
      cases hp : p a with
      | true =>
        show te (st a) H3 fun y H4 => ∃ acc, H4 Dl = some (.lst acc) ∧ acc.length < sizeLine ∧ Cw H1 f v Dl (i + 1) (upd H4 Dl (.lst (acc ++ [y])))
        refine he a Hj eAll hm hp H3 e3 _ fun H4 e4 => ⟨given i f v, e4 Dl _ (e3 Dl _ c3), sz_lt (by have := given_len i f v; omega), c1, Ex.mut ((c2.trans e3).trans e4) c1, ?_⟩
        rw [given_yes (fa.trans hp), va]
        exact upd_same
      | false =>
        show Cw H1 f v Dl (i + 1) H3
        refine ⟨c1, c2.trans e3, ?_⟩
        rw [given_no (fa.trans hp)]
        exact e3 Dl _ c3) (fun H3 c => by
      refine q Dl H3 (fresh_back e1 c.1) (e1.trans c.2.1) ?_
      rw [← hgm]
      exact c.2.2)
theorem rc_allT {α : Type} {q : Addr} {xs : List α} (h : SqL K H q (xs.map fun _ => V.bl true)) : RC (rAll K) [.ref q] H (.bl true) := by
  have e := rc_allM (f := fun _ : α => true) h
  rw [show (xs.all fun _ => true) = true by simp] at e
  exact e
/-- t[1:] -/
theorem el_dropU {p : Addr} {xs : List V} (h : Ev te σ H (.ref p)) (hp : SqT K H p xs) (hn : 0 < xs.length) : EvU (tSl (rSlA K) te (tPart (tC (.int 1))) tNoPart) σ H (xs.drop 1) := fun H1 e Q q => h H1 e _ fun H2 e2 => ⟨1, rfl, p, xs, rfl, ex_t (e.trans e2) hp, fun z => by
    have := z.1
    rw [show (1 : Int) = ((1 : Nat) : Int) from rfl, HT.sIx_nat] at this
    omega, fun _ r hr => by
    have := q r _ (fresh_back e2 hr) (e2.trans (Ex.new (o := .tup (cutV xs (some ((1 : Nat) : Int)) none)) hr)) (by rw [upd_same, cutV_from])
    exact this⟩
end
end Wt
set_option Elab.async false
set_option linter.all false
set_option maxRecDepth 100000
set_option maxHeartbeats 2000000
/-! objects of an own class; ranges downwards; repeated lists -/
namespace Wt
open PySem PySem.Spec PyProof.Rows L2 Evl Wc
/-- the class at C, as it is made by a call -/
structure Mak (P : Program) (w : World) (K : PySem.W.Frag) (mg : Str → Option Value) (base : Heap) (k : Nat) (C : Addr) (x : Str) (sp : Sp) : Prop where
  ex : ∃ (f : Addr) (fd : FuncData) (ps : List Str), Mk K C f ∧ FnOk P w K mg base CX0 k f fd ps sp ∧ Binds K fd ps [] ∧ mg x = some (.ref C)
theorem pe_mkM {X : Cx} {k n : Nat} {C : Addr} {x : Str} {sp : Sp} {p pos : Pos} {e : Expr} {es : List Expr} {t : TA} (c : Mak X.prog X.w X.K X.mg X.base k C x sp) (hr : Room n X.A) (ha : PA X (e :: es) t) (hk : k + 1 ≤ n := by decide) (hg : Gl X x := by rfl)
    (hdb : (x == ("__debug__" : Str)) = false := by decide) (he : starEach (e :: es) X.env = (false, eval e X.env) :: starEach es X.env := by rfl) (hpl : (backTo pos (starEach es X.env)).any (·.1) = false := by rfl) : PE X (.Call (.Name x p) (e :: es) [] pos) (tMake C sp [] E0 t) := by
  obtain ⟨f, fd, ps, M, F, b, hm⟩ := c.ex
  exact pe_make M F (hr.mono hk) hg hm b .nil pass0 ha hdb he hpl
section
variable {K : PySem.W.Frag} {σ : L2.St} {H : Hp} {te ta tb : TE} {C x dx : Addr} {fs : List (Str × V)} {f : Str} {v : V}
theorem ev_fld (h : Ev te σ H (.ref x)) (hx : H x = some (.ins C dx fs)) (c : Cls K C) (n : NoAttr K C f) (l : fs.lookup f = some v) : Ev (tFld K te f) σ H v := fun H1 e Q q => h H1 e _ fun H2 e2 => ⟨x, C, dx, fs, v, rfl, (e.trans e2) _ _ hx, c, n, l, q H2 e2⟩
/-- a field is stored -/
theorem q_fld {D : Ends} {tz : TS} (h : Ev te σ H v) (hx : σ[0]? = some (some (.ref x))) (hH : H x = some (.ins C dx fs)) (c : Cls K C) (n : NoAttr K C f) (hl : fs.length < 1000) (k : ∀ H1, Ex H H1 → tz D σ (upd H1 x (.ins C dx (putF f v fs)))) : tSeq (sFld K (tVar 0) te f) tz D σ H :=
  h H (Ex.refl _) _ fun H1 e1 => ⟨_, hx, x, C, dx, fs, rfl, e1 _ _ hH, c, n, hl, k H1 e1⟩
theorem q_fldL {D : Ends} {tz : TS} {xs : List V} (h : EvL te σ H xs) (hx : σ[0]? = some (some (.ref x))) (hH : H x = some (.ins C dx fs)) (c : Cls K C) (n : NoAttr K C f) (hl : fs.length < 1000) (k : ∀ p H1, H p = none → Ex H H1 → H1 p = some (.lst xs) → tz D σ (upd H1 x (.ins C dx (putF f (.ref p) fs)))) : tSeq (sFld K (tVar 0) te f) tz D σ H :=
  h H (Ex.refl _) _ fun p H1 hp e1 h1 => ⟨_, hx, x, C, dx, fs, rfl, e1 _ _ hH, c, n, hl, k p H1 hp e1 h1⟩
theorem el_rep {xs : List V} {n : Nat} (h : EvL ta σ H xs) (h2 : Ev tb σ H (.int (n : Int))) (hz : xs.length * n ≤ 100000) (hn : n ≤ 1000000) : EvL (tOp rRep ta tb) σ H (List.replicate n xs).flatten := fun H1 e Q q => h H1 e _ fun p H2 hp e2 hp2 => h2 H2 (e.trans e2) _ fun H3 e3 => ⟨p, (n : Int), xs, rfl, rfl, e3 _ _ hp2, by omega, by omega, sz_of hz, fun r hr => by
  have := q r _ (fresh_back (e2.trans e3) hr) ((e2.trans e3).trans (Ex.new (o := .lst (List.replicate (n : Int).toNat xs).flatten) hr)) upd_same
  exact this⟩
theorem rep_one (n : Nat) (v : V) : (List.replicate n [v]).flatten = List.replicate n v := by
  induction n with
  | zero => rfl
  | succ n ih => rw [List.replicate_succ, List.flatten_cons, ih, List.replicate_succ]; rfl
theorem el_catNV {p : Addr} {xs ys : List V} (ha : EvL ta σ H xs) (hb : Ev tb σ H (.ref p)) (hp : H p = some (.lst ys)) (hz : xs.length + ys.length ≤ 100000) : EvL (tOp rCat ta tb) σ H (xs ++ ys) := fun H1 e1 Q q =>
  ha H1 e1 _ fun r H2 hr e2 h2 => hb H2 (e1.trans e2) _ fun H3 e3 => ⟨r, p, xs, ys, rfl, rfl, e3 _ _ h2, ((e1.trans e2).trans e3) _ _ hp, sz_of hz, fun n hn => q n _ (fresh_back (e2.trans e3) hn) ((e2.trans e3).trans (Ex.new hn)) upd_same⟩
/-- n - 1, n - 2, .. 0 -/
theorem src_down {tq : TA} {n : Nat} (h : EvA tq σ H [.int ((n : Int) - 1), .int (-1), .int (-1)]) (hn : n ≤ 1000000000) : Src (iRng3 tq) σ H n (fun _ => False) (fun i v _ => v = .int ((n : Int) - 1 - (i : Int))) := fun H1 e R q =>
  h H1 e _ fun H2 e2 => ⟨_, _, _, n, rfl, by
    have := RgC.neg (i := (n : Int) - 1) (j := -1) (by omega) (by omega) (by decide) (by decide)
    have e : ((n : Int) - 1 - -1).toNat = n := by omega
    rw [e] at this
    exact this, by
    have w := (walk_rangeC (lo := (n : Int) - 1) (c := -1) (n := n)).mono (fun _ z => z) (Y' := fun i Ha v Hb => Ex Ha Hb ∧ v = .int ((n : Int) - 1 - (i : Int))) (fun i Ha v Hb _ _ hy => by
      obtain ⟨rfl, rfl⟩ := hy
      exact ⟨Ex.refl _, by show V.int ((n : Int) - 1 + ((i : Nat) : Int) * -1) = _; congr 1; omega⟩)
    exact q _ H2 _ e2 w fun _ _ _ _ => True.intro⟩
end
/-- xs[k], by values -/
def rGetN (K : PySem.W.Frag) : V → V → Hp → VK → Prop := fun o i H Q => ∃ (p : Addr) (xs : List V) (k : Nat) (z : V), o = .ref p ∧ i = .int (k : Int) ∧ SqL K H p xs ∧ xs[k]? = some z ∧ Q z H
theorem get_listN {X : Cx} : PGet X (rGetN X.K) := by
  intro pins s σ H o i ov iv Q I ro ri h
  obtain ⟨p, xs, k, z, rfl, rfl, hp, hz, q⟩ := h
  cases ro
  obtain ⟨t, rfl⟩ := ri
  obtain ⟨its, rv, pl, hs⟩ := I.list hp
  obtain ⟨u, hu, ru⟩ := rv.get hz
  have hk := (List.getElem?_eq_some_iff.mp hz).1
  have h63 : ((k : Int) < 2 ^ 63) := by
    have : sizeLine < 2 ^ 63 := by decide
    omega
  exact wpAny_getItem_list pl.isList (by omega) h63 (x := u) (by simpa using hu) ⟨z, H, I, ru, q⟩
theorem kget {X : Cx} (K : PySem.W.Frag) (hK : X.K = K := by rfl) : PGet X (rGetN K) := hK ▸ get_listN
end Wt
set_option Elab.async false
set_option linter.all false
set_option maxRecDepth 100000
set_option maxHeartbeats 2000000
namespace Wt
open PySem PySem.Spec PyProof.Rows L2 Evl Wc
/-! ### (number, text) < (number, text) -/
def rLtIT (K : PySem.W.Frag) : R2 := fun x y H Q => ∃ (a b : Addr) (m n : Int) (s t : Tx), x = .ref a ∧ y = .ref b ∧ SqT K H a [.int m, T s] ∧ SqT K H b [.int n, T t] ∧ Q (.bl (decide (m < n ∨ (m = n ∧ s < t)))) H
theorem op_ltIT {X : Cx} (hu0 : X.A.units + 64 < cLine) : OpR X (compareOp .Lt) (rLtIT X.K) := by
  intro pins s σ H x y v u Q I rx ry h
  have hu : X.A.units < cLine := Nat.lt_of_le_of_lt (Nat.le_add_right _ _) hu0
  obtain ⟨a, b, m, n, c, d, rfl, rfl, ha, hb, q⟩ := h
  cases rx
  cases ry
  obtain ⟨its, r1, p1, _⟩ := I.tuple ha
  obtain ⟨its2, r2, p2, _⟩ := I.tuple hb
  cases r1 with
  | cons rm r1 =>
  cases r1 with
  | cons rc r1 =>
  cases r1
  cases r2 with
  | cons rn r2 =>
  cases r2 with
  | cons rd r2 =>
  cases r2
  obtain ⟨_, rfl⟩ := rm
  obtain ⟨_, rfl⟩ := rc
  obtain ⟨_, rfl⟩ := rn
  obtain ⟨_, rfl⟩ := rd
  have R := Ob.RcOp.tuples_lt (A := X.A) (s := s) (e := fun j => if j = 0 then decide (m = n) else decide (c = d)) (r := fun j => if j = 0 then decide (m < n) else decide (c < d)) p1 p2 hu (fun j h1 h2 => by
    have h1' : j < 2 := h1
    have hj : j = 0 ∨ j = 1 := by omega
    rcases hj with rfl | rfl
    · have z : (m == n) = decide (m = n) := by
        by_cases q : m = n
        · rw [decide_eq_true q]; exact beq_iff_eq.mpr q
        · rw [decide_eq_false q]; exact beq_eq_false_iff_ne.mpr q
      show SeqAt.EqAt X.A.in1 s _ _ (decide (m = n))
      rw [← z]
      exact SeqAt.EqAt.int_int _ _ _ _
    · have z : (SX.S c == SX.S d) = decide (c = d) := by
        by_cases q : c = d
        · rw [decide_eq_true q, q]; exact beq_iff_eq.mpr rfl
        · rw [decide_eq_false q]; exact beq_eq_false_iff_ne.mpr fun e => q (congrArg (fun z : Str => z.cps.toList) e)
      show SeqAt.EqAt X.A.in1 s _ _ (decide (c = d))
      rw [← z]
      exact SeqAt.EqAt.str_str _ _ _ _) (fun j h1 h2 _ => by
    have h1' : j < 2 := h1
    have hj : j = 0 ∨ j = 1 := by omega
    rcases hj with rfl | rfl
    · exact Ob.RcOp.lt_int _ _ _ _
    · exact fun prog w E Q h => lt_str h)
  have e : Ob.lexAt (fun j => if j = 0 then decide (m = n) else decide (c = d)) (fun j => if j = 0 then decide (m < n) else decide (c < d)) (decide (2 < 2)) 0 2 = decide (m < n ∨ (m = n ∧ c < d)) := by
    simp only [Ob.lexAt]
    by_cases h1 : m = n
    · subst h1
      by_cases h2 : c = d
      · subst h2
        simp [List.lt_irrefl]
      · simp [h2]
    · simp [h1]
  have z : wpAny (model X.prog X.w) X.A (compareOp .Lt (.ref a) (.ref b)) (EP X pins σ Q) X.xe s := R X.prog X.w X.xe (EP X pins σ Q) ⟨.bl _, H, I, rfl, by
    show Q (.bl (Ob.lexAt _ _ (decide (2 < 2)) 0 2)) H
    rw [e]
    exact q⟩
  exact z
end Wt
set_option Elab.async false
set_option linter.all false
set_option maxRecDepth 100000
set_option maxHeartbeats 2000000
/-! zip(a, b) of two texts -/
namespace Wt
open PySem PySem.Spec PyProof.Rows L2 Evl Wc
def ItzS (a b : Tx) : It :=
  ⟨fun i _ => i < min a.length b.length, fun i H v H' => ∃ t c d, v = .ref t ∧ H t = none ∧ H' = upd H t (.tup [T [c], T [d]]) ∧ a[i]? = some c ∧ b[i]? = some d, fun i _ => i = min a.length b.length⟩
theorem sgn {a : Tx} {i : Nat} {v : Value} (h : ∃ c u, (SX.S a).cps[i]? = some c ∧ v = .str ⟨#[c]⟩ u) : ∃ c, a[i]? = some c ∧ RelV (T [c]) v := by
  obtain ⟨c, u, h1, rfl⟩ := h
  exact ⟨c, by simpa [SX.S] using h1, u, rfl⟩
theorem turn_zipS {P : Program} {w : World} {K : PySem.W.Frag} {elts : List Expr} {kk : Nat} {tpos : Pos} {a b : Tx} {ta tb : Tok} {z TI TO i1 i2 : Addr} (D : ZipSep2 z TI TO i1 i2 [i1] [i2]) :
    Turn P w K (.Tuple elts kk tpos) (ItzS a b) [z, TI, TO, i1, i2] z (fun i h => IsZip h z TI TO .none ∧ IsTupOf2 h TI (.ref i1) (.ref i2) ∧ (∃ x y, IsTupOf2 h TO x y) ∧ h.IsStrIter i1 (strIterType (SX.S a)) (SX.S a) ta i ∧ h.IsStrIter i2 (strIterType (SX.S b)) (SX.S b) tb i) where
  mem := by simp
  obj := fun i h st c hc => by
    obtain ⟨hz, hTI, ⟨x, y, hTO⟩, ⟨o1, e1, _, d1⟩, ⟨o2, e2, _, d2⟩⟩ := st
    have e' : c = z ∨ c = TI ∨ c = TO ∨ c = i1 ∨ c = i2 := by simpa using hc
    rcases e' with q | q | q | q | q
    · rw [q]; exact ⟨_, hz, fun v q => nomatch q⟩
    · rw [q]; exact ⟨_, hTI, fun v q => nomatch q⟩
    · rw [q]; exact ⟨_, hTO, fun v q => nomatch q⟩
    · rw [q]; exact ⟨o1, e1, fun v q => by rw [d1] at q; cases q⟩
    · rw [q]; exact ⟨o2, e2, fun v q => by rw [d2] at q; cases q⟩
  keep := fun i h h' st k => by
    obtain ⟨hz, hTI, ⟨x, y, hTO⟩, ⟨o1, e1, f1⟩, ⟨o2, e2, f2⟩⟩ := st
    exact ⟨k z (by simp) _ hz, k TI (by simp) _ hTI, ⟨x, y, k TO (by simp) _ hTO⟩, ⟨o1, k i1 (by simp) _ e1, f1⟩, ⟨o2, k i2 (by simp) _ e2, f2⟩⟩
  item := by
    intro X hP hw hK hc i pins s σ H E I hf st hg
    subst hP hw hK
    obtain ⟨hz, hTI, ⟨x0, y0, hTO⟩, h1, h2⟩ := st
    have hlt : i < min a.length b.length := hg
    have D1 := Draws.text (prog := X.prog) (w := X.w) (A := X.A.in1) (I.ok.hd hc) i1 (SX.S a) ta
    have D2 := Draws.text (prog := X.prog) (w := X.w) (A := X.A.in1) (I.ok.hd hc) i2 (SX.S b) tb
    have s1 : (SX.S a).cps.size = a.length := by simp [SX.S]
    have s2 : (SX.S b).cps.size = b.length := by simp [SX.S]
    have hzl : z < s.heap.objs.size := Heap.lt_size hz
    refine wpAny_pyNext_zipD2_item D D1 D2 hz hTI hTO h1 h2 (by omega) (by omega) fun u u2 h' tk p1 p2 z' TO' h1' h2' hT hsz hk => ?_
    obtain ⟨c, hcx, ru⟩ := sgn p1
    obtain ⟨d, hdy, ru2⟩ := sgn p2
    refine ⟨_, rfl, wpAny_letOwnedTupleGo_zip (s := { s with heap := h', toks := tk }) z' fun h'' z'' sb => ?_⟩
    have hT2 : h''.get? s.heap.objs.size = some { cls := .type "tuple", data := .seq #[u, u2] } := (sb.2 _ (Nat.ne_of_gt hzl)).trans hT
    have new : ObjOk X.prog X.w (upd H s.heap.objs.size (.tup [T [c], T [d]])) h'' s.heap.objs.size (.tup [T [c], T [d]]) :=
      ⟨by show 2 ≤ sizeLine; decide, [u, u2], .cons ru (.cons ru2 .nil), ⟨_, hT2, rfl, _, rfl⟩⟩
    have I1 : Inv X pins σ (upd H s.heap.objs.size (.tup [T [c], T [d]])) { s with heap := h'', toks := tk } :=
      I.turnedNew (ch := [z, TI, TO, i1, i2]) (fun c o hb q => (sb.2 c (fun q' => hb (by simp [q']))).trans (hk c o (fun q' => hb (by simp [q'])) (fun q' => hb (by simp [q'])) (fun q' => hb (by simp [q'])) (fun q' => hb (by simp [q'])) q)) hf (Nat.le_refl _) new
    refine ⟨.ref s.heap.objs.size, _, I1, rfl, ⟨_, c, d, rfl, I.hok.fresh (Nat.le_refl _), rfl, hcx, hdy⟩, ⟨z'', ?_, ⟨u, u2, ?_⟩, ?_, ?_⟩, fun c hcm => ?_⟩
    · exact (sb.2 _ D.TIz).trans (hk _ _ D.TIz D.TITO D.TIi1 D.TIi2 hTI)
    · exact (sb.2 _ D.TOz).trans TO'
    · obtain ⟨o1, e1, f1⟩ := h1'
      exact ⟨o1, (sb.2 _ (Ne.symm D.zi1)).trans e1, f1⟩
    · obtain ⟨o2, e2, f2⟩ := h2'
      exact ⟨o2, (sb.2 _ (Ne.symm D.zi2)).trans e2, f2⟩
    · have hlt : c < s.heap.objs.size := by
        have e' : c = z ∨ c = TI ∨ c = TO ∨ c = i1 ∨ c = i2 := by simpa using hcm
        rcases e' with q | q | q | q | q
        · rw [q]; exact hzl
        · rw [q]; exact Heap.lt_size hTI
        · rw [q]; exact Heap.lt_size hTO
        · rw [q]; obtain ⟨_, e1, _⟩ := h1; exact Heap.lt_size e1
        · rw [q]; obtain ⟨_, e2, _⟩ := h2; exact Heap.lt_size e2
      rw [upd_ne (Nat.ne_of_lt hlt)]
      exact (hf c hcm).1
  done := by
    intro X hP hw hK hc i pins s σ H E I hf st hg
    subst hP hw hK
    obtain ⟨hz, hTI, ⟨x0, y0, hTO⟩, h1, h2⟩ := st
    have hend : i = min a.length b.length := hg
    have D1 := Draws.text (prog := X.prog) (w := X.w) (A := X.A.in1) (I.ok.hd hc) i1 (SX.S a) ta
    have D2 := Draws.text (prog := X.prog) (w := X.w) (A := X.A.in1) (I.ok.hd hc) i2 (SX.S b) tb
    have s1 : (SX.S a).cps.size = a.length := by simp [SX.S]
    have s2 : (SX.S b).cps.size = b.length := by simp [SX.S]
    exact wpAny_pyNext_zipD2_end D D1 D2 hz hTI hTO h1 h2 (by omega) (by omega) (by omega) fun h' tk hk => ⟨rfl, I.turnedL (t' := tk) (ch := [z, TI, TO, i1, i2]) (fun c o hb q =>
      hk c o (fun q' => hb (by simp [q'])) (fun q' => hb (by simp [q'])) (fun q' => hb (by simp [q'])) (fun q' => hb (by simp [q'])) q) hf⟩
  self := fun A i s Q E st h => wpAny_pyIter_zip st.1 h
def iZipS (ta : TA) : TI := fun σ H R => ta σ H fun vs H1 => ∃ a b : Tx, vs = [T a, T b] ∧ R (ItzS a b) H1
theorem pi_zipS {X : Cx} {e e2 : Expr} {ta : TA} {p pos tpos : Pos} {elts : List Expr} {kk : Nat} (hg : Gl X "zip") (hm : X.mg "zip" = none) (ha : PA X [e, e2] ta)
    (hs : starEach [e, e2] X.env = (false, eval e X.env) :: starEach [e2] X.env := by rfl) (hpl : (backTo pos (starEach [e2] X.env)).any (·.1) = false := by rfl) :
    PI X (.Tuple elts kk tpos) (.Call (.Name "zip" p) [e, e2] [] pos) (iZipS ta) := by
  refine ⟨fun pins s σ H R I h => ?_⟩
  refine Call_ (ld_blt I hg hm PyProof.Rows.boot_zip (PyProof.Rows.callWith_type1 (thn (ha.run pos pins s σ H _ I h) fun us s1 ⟨vs, H1, I1, r1, q1⟩ => ?_) hs hpl))
  obtain ⟨a, b, ex, q⟩ := q1
  subst ex
  cases r1 with
  | cons r rr =>
    cases rr with
    | cons r' rr =>
      cases rr
      obtain ⟨ta, rfl⟩ := r
      obtain ⟨tb, rfl⟩ := r'
      have fresh5 : ∀ c, c ∈ [s1.heap.objs.size + 4, s1.heap.objs.size + 2, s1.heap.objs.size + 3, s1.heap.objs.size, s1.heap.objs.size + 1] → FpOk X pins H1 c := fun c hcm => by
        have e' : c = s1.heap.objs.size + 4 ∨ c = s1.heap.objs.size + 2 ∨ c = s1.heap.objs.size + 3 ∨ c = s1.heap.objs.size ∨ c = s1.heap.objs.size + 1 := by simpa using hcm
        have hle : s1.heap.objs.size ≤ c := by
          rcases e' with z | z | z | z | z
          · rw [z]; exact Nat.le_add_right _ _
          · rw [z]; exact Nat.le_add_right _ _
          · rw [z]; exact Nat.le_add_right _ _
          · rw [z]; exact Nat.le_refl _
          · rw [z]; exact Nat.le_add_right _ _
        exact I1.fpOk hle (I1.hok.fresh hle)
      refine zip_begins2 (begins_text (SX.S a) ta) (begins_text (SX.S b) tb) trivial trivial fun h' hz hTI hTO h1 h2 hsz hk => wpAny_pyIter_zip hz ?_
      have I2 : Inv X pins σ H1 { s1 with heap := h' } := I1.kept (t' := s1.toks) hk
      exact ⟨s1.heap.objs.size + 4, [s1.heap.objs.size + 4, s1.heap.objs.size + 2, s1.heap.objs.size + 3, s1.heap.objs.size, s1.heap.objs.size + 1], _, _, H1, rfl, I2, turn_zipS (ta := ta) (tb := tb) (zip_sep2 (fun b hb => by cases hb) (fun b hb => by cases hb)), ⟨hz, hTI, ⟨_, _, hTO⟩, ⟨_, h1, rfl, rfl⟩, ⟨_, h2, rfl, rfl⟩⟩, fresh5, q⟩
section
variable {K : PySem.W.Frag} {σ : L2.St} {H : Hp}
theorem walk_zipS {a b : Tx} : Walk (ItzS a b) (min a.length b.length) (fun _ => True) (YPair (fun i => (a[i]?).map fun c => T [c]) (fun i => (b[i]?).map fun c => T [c])) := by
  refine ⟨fun i _ hi _ => hi, fun _ _ => rfl, fun i H v H' _ _ y => ?_⟩
  obtain ⟨t, c, d, y1, y2, y3, y4, y5⟩ := y
  exact ⟨t, _, _, y1, y2, y3, by show (a[i]?).map _ = _; rw [y4]; rfl, by show (b[i]?).map _ = _; rw [y5]; rfl⟩
theorem src_zipS {a b : Tx} {tl tr : TE} (h : Ev tl σ H (T a)) (h2 : Ev tr σ H (T b)) : Src (iZipS (tCons tl (tCons tr tNil))) σ H (min a.length b.length) (fun _ => False) (fun i v Hb => ∃ p c d, v = .ref p ∧ a[i]? = some c ∧ b[i]? = some d ∧ Hb p = some (.tup [T [c], T [d]])) := fun H1 e R q =>
  h H1 e _ fun H2 e2 => h2 H2 (e.trans e2) _ fun H3 e3 => ⟨a, b, rfl, q _ H3 _ (e2.trans e3) (walk_zipS.mono (fun _ z => z) fun i Ha v Hb _ _ hy => by
    obtain ⟨p, x, y, rfl, hn, rfl, h1, h2⟩ := hy
    have h1 : (a[i]?).map (fun c => T [c]) = some x := h1
    have h2 : (b[i]?).map (fun c => T [c]) = some y := h2
    cases ha : a[i]? with
    | none => rw [ha] at h1; cases h1
    | some c =>
      cases hb : b[i]? with
      | none => rw [hb] at h2; cases h2
      | some d =>
        rw [ha] at h1
        rw [hb] at h2
        cases h1
        cases h2
        exact ⟨Ex.new hn, p, c, d, rfl, by first | rfl | exact ha, by first | rfl | exact hb, upd_same⟩) fun B Ha hB ea => trivial⟩
end
end Wt
set_option Elab.async false
set_option linter.all false
set_option maxRecDepth 100000
set_option maxHeartbeats 2000000
/-! defs that are called while no repr runs: their promises, their calls, repr itself, and a law's end by them -/
namespace Wg
open PySem PySem.Spec PyProof.Rows L2 Evl Wc
/-- a promise for calls around which no repr runs -/
structure FnOkG (P : Program) (w : World) (K : PySem.W.Frag) (mg : Str → Option Value) (base : Heap) (k : Nat) (f : Addr) (fd : FuncData) (ps : List Str) (sp : Sp) : Prop where
  len : ∀ vs H Q E, sp vs H Q E → vs.length = ps.length
  run : ∀ (A : Around) (outer : List Env) (s : Shared) (H : Hp) (args : Args) (us : List Value) (vs : List V) (Q : VK) (E : XK), Room k A → A.guards = some [] →
    Env0 P w K mg base A outer s H → BindsTo s fd args (ps.zip us) → Vals vs us → sp vs H Q E → codeAny (model P w) A (.call (.ref f) args) (CR CX0 outer P w H s Q E) s
section
variable {P : Program} {w : World} {K : PySem.W.Frag} {mg : Str → Option Value} {base : Heap} {k : Nat} {f : Addr} {fd : FuncData} {ps : List Str} {sp : Sp}
theorem FnOkG.of (F : FnOk P w K mg base CX0 k f fd ps sp) : FnOkG P w K mg base k f fd ps sp := ⟨F.len, fun A outer s H args us vs Q E hr _ => F.run A outer s H args us vs Q E hr⟩
/-- what ends a body ends the call -/
theorem ends_call {X : Cx} {s s' : Shared} {H : Hp} {Q : VK} {fl : Flow} {outer : List Env} (hp : X.prog = P) (hw : X.w = w)
    (fin : ∀ {σ' : L2.St} {H' : Hp} {v : V} {u : Value}, Inv X [] σ' H' s' → RelV v u → Q v H' → CE outer P w H s Q u s')
    (h : SP X [] { nx := fun _ H' => Q .non H', rt := Q } fl s') : match fl with
      | .ret u => CE outer P w H s Q u s'
      | .next => CE outer P w H s Q .none s'
      | _ => False := by
  cases fl with
  | next => obtain ⟨σ', H', J, q⟩ := h; exact fin (v := V.non) J rfl q
  | ret u => obtain ⟨v, σ', H', J, rv, q⟩ := h; exact fin J rv q
  | brk => obtain ⟨_, _, _, q⟩ := h; exact q.elim
  | cont => obtain ⟨_, _, _, q⟩ := h; exact q.elim
theorem Fun.okG {x qual : Str} {st : Stmt} {N : List Str} (F : Fun K x qual st f fd) (S : FnScope N ps (defScope st)) (len : ∀ vs H Q E, sp vs H Q E → vs.length = ps.length)
    (hbody : ∀ (cdv : Value) (A : Around) (outer : List Env) (s : Shared) (H : Hp) (vs : List V) (Q : VK) (E : XK), Room k (A.deeper (envOfC qual (defScope st) s.heap.objs.size f cdv)) → A.guards = some [] → sp vs H Q E →
      ∃ t, PSs (cxOf CX0 P w K mg base N qual (defScope st) f cdv A outer s H E).nox (defBody st) t ∧ t { nx := fun _ H' => Q .non H', rt := Q } (start N vs) H) : FnOkG P w K mg base (k + 1) f fd ps sp := by
  obtain ⟨oc, od, kV, doc, pm, an, cdv, ct, osl, rfl, lk, hcd⟩ := F.ex
  refine ⟨len, fun A outer s H args us vs Q E hr hgd e0 hb r hsp => ?_⟩
  have stay : ∀ b o, base.get? b = some o → s.heap.get? b = some o := fun b o e => (e0.bs b o e).1
  have KX := e0.mod.kin.keeps stay
  refine codeAny_call_function hr.depth (KX _ _ lk) rfl S.co S.gen rfl (PySem.W.codeRec_of KX hcd) (hb _ _ _ _ (wpAny_newFunctionEnv_cells S.kind (fun y hy => ?_) fun env he s1 new => ?_))
  · obtain ⟨n, v⟩ := y
    rcases S.par n (List.of_mem_zip hy).1 with q | q
    · exact .inl q
    · exact .inr ⟨q, PySem.W.cellsFrom_some _ _ _ (.inl q)⟩
  · subst he
    obtain ⟨t, ht, hq⟩ := hbody cdv A outer s H vs Q E (hr.deeper _) hgd hsp
    have I := inv_start (CX := CX0) (E := E) S hr.hd e0 (len _ _ _ _ hsp) r new
    refine ⟨(e0.mod.nolimit.keeps stay).keeps new.toInCall.keep, codeAny_func (wpAny_mono (ht.nox.run [] s1 (start N vs) H _ I hq) (fun fl s' hs => ?_) fun e s' hs => hs)⟩
    have done := ends_call (outer := outer) (s := s) (H := H) rfl rfl (fun J rv q => ⟨_, _, J.os, J.bare, J.base, J.hok, rv, q⟩) hs
    cases fl <;> first
      | exact done
      | exact False.elim done
end
/-- a def that may be called by its name while no repr runs -/
structure CalG (P : Program) (w : World) (K : PySem.W.Frag) (mg : Str → Option Value) (base : Heap) (x : Str) (st : Stmt) (k : Nat) (ps : List Str) (sp : Sp) : Prop where
  ex : ∃ f fd, FnOkG P w K mg base k f fd ps sp ∧ mg x = some (.ref f) ∧ Fun K x x st f fd ∧ Binds K fd ps []
section
variable {X : Cx} {x : Str} {st : Stmt} {k n : Nat} {ps : List Str} {sp : Sp} {p pos : Pos} {e : Expr} {es : List Expr} {t : TA}
theorem pe_clG (C : CalG X.prog X.w X.K X.mg X.base x st k ps sp) (hr : Room n X.A) (hgd : X.A.guards = some []) (ha : PA X (e :: es) t) (hkn : k ≤ n := by decide) (hg : Gl X x := by rfl) (hdb : (x == ("__debug__" : Str)) = false := by decide)
    (he : starEach (e :: es) X.env = (false, eval e X.env) :: starEach es X.env := by rfl) (hpl : (backTo pos (starEach es X.env)).any (·.1) = false := by rfl) : PE X (.Call (.Name x p) (e :: es) [] pos) (tCall sp [] E0 t) := by
  obtain ⟨f, fd, F, hm, hF, hb⟩ := C.ex
  refine ⟨fun pins s σ H Q I h => wpAny_Call_Name_kw (ld_glob I hg hm (PySem.W.callWith_K (h₀ := X.base) I.ok.mod.kin hF.kp (thn (ha.run pos pins s σ H _ I h) fun us s1 got => ?_) he hpl) hdb)⟩
  obtain ⟨vs, H1, I1, r, q⟩ := got
  rw [List.append_nil] at q
  refine ⟨I1.kIn, wpAny_call (codeAny_mono (F.run X.A X.stack s1 H1 ⟨us, []⟩ us vs Q E0 (hr.mono hkn) hgd I1.env0 ?_ r q) fun z s' hz => ?_)⟩
  · have := hb s1 us I1.kIn (by rw [List.append_nil, ← r.length]; exact F.len _ _ _ _ q)
    rwa [List.append_nil] at this
  · cases z with
    | error e => exact hz.elim
    | ok fl => cases fl with
      | ret u => exact I1.after hz
      | _ => exact hz.elim
/-- repr of a list or tuple of plain data -/
def rRepr (K : PySem.W.Frag) : List V → Hp → VK → Prop := fun xs H Q => ∃ (p : Addr) (d : PyData), xs = [.ref p] ∧ Dp K H (.ref p) d ∧ d.showable = true ∧ d.hasDict = false ∧ d.depth ≤ 50 ∧ d.shown.length ≤ sizeLine ∧ Q (T d.shown.cps.toList) H
theorem cr_repr (hgd : X.A.guards = some []) (hu : X.A.units + 64 < cLine) : CallR X (.builtin "repr") (rRepr X.K) := by
  intro pins s σ H xs us Q I r h
  obtain ⟨p, d, rfl, hd, h1, h2, h3, h4, q⟩ := h
  rw [Vals.ref1 r]
  obtain ⟨as, rd⟩ := Dp.reads I d _ _ hd rfl
  refine repr_of_reads' rd h1 (fun z => by rw [h2] at z; cases z) hgd (by omega) (fun b o e => e) (fun h' u tk hk => ?_) h4
  exact ⟨T d.shown.cps.toList, H, I.kept (t' := tk) hk, ⟨u, congrArg (fun z => Value.str z u) (SX.S_tl d.shown).symm⟩, q⟩
end
section
variable {P : Program} {w : World} {K : PySem.W.Frag} {mg mb : Str → Option Value} {k : Nat} {fa a : Addr} {fd : FuncData} {x : Str} {sp : Sp} {s₁ : Shared} {vs : List Value} {ns : List Int}
/-- the law's def at the heap behind the top, H telling of the script at most -/
theorem call_at (KX : K.In s₁.heap) (hns : s₁.heap.Ns mainGlobals mg) (hb : s₁.heap.Ns builtinsNs mb) (hbb : ∀ x : Str, x ≠ "__name__" → mb x = bootBuiltins x) (hlim : s₁.heap.NoLimit) (hg : s₁.gens = #[])
    (ha : s₁.heap.get? a = some { cls := .type "list", data := .seq vs.toArray }) (hr : Room k callerA) (F : ∀ base : Heap, K.In base → base.Ns mainGlobals mg → FnOkG P w K mg base k fa fd [x] sp) (hbind : ∀ (s : Shared) (u : Value), BindsTo s fd ⟨[u], []⟩ [(x, u)])
    (H : Hp) (hO : Only H) (hok : HOk P w H s₁.heap) (hA : ∀ b u, H b = some u → b = a ∧ K.lookup a = none) (hsp : sp [.ref a] H (fun v _ => v = .bl true) fun _ _ _ => False) :
    codeAny (model P w) callerA (.call (.ref fa) ⟨[.ref a], []⟩) (fun r s' => r = .ok (.ret (.bool true)) ∧ OldK s₁.heap s'.heap ∧ s'.os = s₁.os ∧ AllBare s'.gens) s₁ := by
  have free : ∀ {b : Addr}, (b = a → K.lookup a = none → False) → H b = none := fun {b} no => by
    cases q : H b with
    | none => rfl
    | some u => exact (no (hA b u q).1 (hA b u q).2).elim
  have dict : ∀ {b : Addr} {m : Str → Option Value}, s₁.heap.Ns b m → (hidT s₁.heap H).Ns b m := fun {b m} got => by
    obtain ⟨o, es, ep, e, d, r⟩ := got
    refine ⟨o, es, ep, hidT_get e (free fun z _ => ?_), d, r⟩
    subst z
    rw [ha] at e
    cases e
    cases d
  have own : K.In (hidT s₁.heap H) := fun b o e => hidT_get (KX b o e) (free fun z q => by subst z; rw [q] at e; cases e)
  have mod : Mod K mg (hidT s₁.heap H) := by
    obtain ⟨mc, l1, l2⟩ := hlim
    exact ⟨own, dict hns, ⟨mb, dict hb, hbb⟩, ⟨mc, dict l1, l2⟩⟩
  have none_in : ∀ {b : Addr}, b ∉ ([] : List Addr) := fun {b} z => nomatch z
  have e0 : Env0 P w K mg (hidT s₁.heap H) callerA [] s₁ H := ⟨rfl, mod, fun b o e => of_hidT e, Nat.le_of_eq (hidT_size _ _), trivial, fun b hb => (none_in hb).elim, hok, .of_eq hg⟩
  refine codeAny_mono ((F _ own (dict hns)).run callerA [] s₁ H ⟨[.ref a], []⟩ [.ref a] [.ref a] _ _ hr rfl e0 (hbind s₁ (.ref a)) (.cons rfl .nil) hsp) fun r s' h => ?_
  match r, h with
  | .ok (.ret u), ⟨v, H', os, bare, un, hok', rel, q⟩ =>
    have q' : v = .bl true := q
    subst q'
    have rel' : u = Value.bool true := rel
    subst rel'
    refine ⟨rfl, OldK.of_keep fun b o e => ?_, os, bare⟩
    rcases hO b with z | ⟨ob, xs, z⟩
    · exact un.keep b o e z none_in none_in
    · have e1 := (hok b _ z).1
      rw [e] at e1
      cases e1
      exact (hok' b _ (un.frzs b _ _ z)).1
theorem law_callG (KX : K.In s₁.heap) (hns : s₁.heap.Ns mainGlobals mg) (hb : s₁.heap.Ns builtinsNs mb) (hbb : ∀ x : Str, x ≠ "__name__" → mb x = bootBuiltins x) (hlim : s₁.heap.NoLimit) (hg : s₁.gens = #[])
    (ha : s₁.heap.get? a = some { cls := .type "list", data := .seq vs.toArray }) (hi : IntsAre vs ns) (hl : ns.length ≤ sizeLine) (hr : Room k callerA) (F : ∀ base : Heap, K.In base → base.Ns mainGlobals mg → FnOkG P w K mg base k fa fd [x] sp) (hbind : ∀ (s : Shared) (u : Value), BindsTo s fd ⟨[u], []⟩ [(x, u)])
    (hsp : ∀ H : Hp, Only H → SqL K H a (ns.map V.int) → sp [.ref a] H (fun v _ => v = .bl true) fun _ _ _ => False) :
    codeAny (model P w) callerA (.call (.ref fa) ⟨[.ref a], []⟩) (fun r s' => r = .ok (.ret (.bool true)) ∧ OldK s₁.heap s'.heap ∧ s'.os = s₁.os ∧ AllBare s'.gens) s₁ := by
  have rv := vals_ints hi
  have go := call_at (x := x) (sp := sp) KX hns hb hbb hlim hg ha hr F hbind
  cases hk : K.lookup a with
  | some o =>
    have e := KX a o hk
    rw [ha] at e
    cases e
    exact go (fun _ => none) (fun _ => .inl rfl) (fun b u z => nomatch (show (none : Option HO) = some u from z)) (fun b u z => nomatch (show (none : Option HO) = some u from z)) (hsp _ (fun _ => .inl rfl) (.inr ⟨_, vs.toArray, _, hk, rfl, rfl, rfl, by rw [List.size_toArray, hi.length]; exact hl, by simpa using rv⟩))
  | none =>
    obtain ⟨H, hH1, hH2⟩ : ∃ H : Hp, H a = some (.frz { cls := .type "list", data := .seq vs.toArray } (.lst (ns.map V.int))) ∧ ∀ b, b ≠ a → H b = none := ⟨fun b => if b = a then some (.frz { cls := .type "list", data := .seq vs.toArray } (.lst (ns.map V.int))) else none, if_pos rfl, fun b hb => if_neg hb⟩
    have only : Only H := fun b => by
      by_cases h : b = a
      · subst h; exact .inr ⟨_, _, hH1⟩
      · exact .inl (hH2 b h)
    refine go H only (fun b u z => ?_) (fun b u z => ?_) (hsp H only (.inl (.inr ⟨_, hH1⟩)))
    · by_cases h : b = a
      · subst h
        rw [hH1] at z
        cases z
        exact ⟨ha, by rw [List.length_map]; exact hl, vs, _, rv, ha⟩
      · rw [hH2 b h] at z
        cases z
    · by_cases h : b = a
      · exact ⟨h, hk⟩
      · rw [hH2 b h] at z
        cases z
end
theorem walk_ofG {l : PySem.W.OpenLaw} {n k : Nat} {q : Program} {loose : List Str} {XP : (Str → Option Value) → Heap → Prop} {YP : World → Heap → Prop} {d : DefRec} {K : Params → PySem.W.Frag} {sp : World → Sp} {x : Str}
    (hn : l.most = some n) (hn2 : n ≤ sizeLine) (hdf : d.params.defaults = []) (hr : Room k callerA) (hY : ∀ (w : World) (h : Heap), YP w h → (K w.params).In h)
    (F : ∀ (w : World) (mg : Str → Option Value) (fa : Addr) (h : Heap), (K w.params).In h → h.Ns mainGlobals mg → mg d.name = some (.ref fa) →
      ∃ fd : FuncData, (∀ (s : Shared) (u : Value), BindsTo s fd ⟨[u], []⟩ [(x, u)]) ∧ ∀ base : Heap, (K w.params).In base → base.Ns mainGlobals mg → FnOkG l.prog w (K w.params) mg base k fa fd [x] (sp w))
    (hsp : ∀ (w : World) (H : Hp) (a : Addr) (ns : List Int), ns.length ≤ n → (∀ z ∈ ns, Builtin.Int.intBits z ≤ 1048576) → Only H → SqL (K w.params) H a (ns.map V.int) → sp w [.ref a] H (fun v _ => v = .bl true) fun _ _ _ => False) :
    PySem.W.WalkO q loose XP YP l.row.toRowW d [] (fun f vs => PySem.call f vs) :=
  Att.attach_callB hn hdf fun w s₀ s₁ mg mb fa o pm cd doc a vs ns G Y _ _ _ hmg hobj hints hlen hbits hg => by
    obtain ⟨fd, hb, hF⟩ := F w mg fa _ (hY w _ Y) G.T.g hmg
    exact law_callG (hY w _ Y) G.T.g G.T.b G.T.builtins G.T.nolimit hg hobj hints (Nat.le_trans hlen hn2) hr hF hb fun H hO hS => hsp w H a ns hlen hbits hO hS
end Wg
set_option Elab.async false
set_option linter.all false
set_option maxRecDepth 100000
set_option maxHeartbeats 2000000
/-! a loop over a list or a tuple -/
namespace Wg
open PySem PySem.Spec PyProof.Rows L2 Evl Wc
theorem pi_or {X : Cx} {tg it : Expr} {w1 w2 : TI} (h1 : PI X tg it w1) (h2 : PI X tg it w2) : PI X tg it (fun σ H R => w1 σ H R ∨ w2 σ H R) := ⟨fun pins s σ H R I h => h.elim (h1.run pins s σ H R I) (h2.run pins s σ H R I)⟩
def iSeq (K : PySem.W.Frag) (tl : TE) : TI := fun σ H R => iList K tl σ H R ∨ iTup K tl σ H R
theorem pi_seq {X : Cx} {K : PySem.W.Frag} {tg l : Expr} {tl : TE} (hl : PE X l tl) (hK : X.K = K := by rfl) : PI X tg l (iSeq K tl) := hK ▸ pi_or (pi_list hl) (pi_tup hl)
section
variable {w1 w2 : TI} {σ : L2.St} {H : Hp} {n : Nat} {own : Addr → Prop} {P : Nat → V → Hp → Prop}
theorem src_orL (h : Src w1 σ H n own P) : Src (fun σ H R => w1 σ H R ∨ w2 σ H R) σ H n own P := fun H1 e R q => .inl (h H1 e R q)
theorem src_orR (h : Src w2 σ H n own P) : Src (fun σ H R => w1 σ H R ∨ w2 σ H R) σ H n own P := fun H1 e R q => .inr (h H1 e R q)
end
end Wg
set_option Elab.async false
set_option linter.all false
set_option maxRecDepth 100000
set_option maxHeartbeats 2000000
/-! comprehensions that make new objects, ranges backwards, smaller rules -/
namespace Wg
open PySem PySem.Spec PyProof.Rows L2 Evl Wc
section
variable {K : PySem.W.Frag} {σ : L2.St} {H : Hp} {te ta tb : TE}
theorem ex_of_exc {fa : Addr} {H H1 H2 : Hp} (e : Ex H H1) (hf : H fa = none) (x : Exc (fun c => c = fa) H1 H2) : Ex H H2 := fun c o hc => x c o (fun z => by rw [z, hf] at hc; cases hc) (e c o hc)
/-- new objects, one for each o i, in p -/
structure News (H H' : Hp) (o : Nat → HO) (ps : List Addr) : Prop where
  new : ∀ p ∈ ps, H p = none
  at_ : ∀ i p, ps[i]? = some p → H' p = some (o i)
  nd : ps.Nodup
theorem lcN {wi : TI} {j : Nat} {vs : List Nat} {n : Nat} {own : Addr → Prop} {P : Nat → V → Hp → Prop} {Q : VK} (o : Nat → HO) (hs : Src wi σ H n own P) (hn : n ≤ 40000) (hw : ∀ x, wipe ((wipe σ vs).set j (some x)) vs = wipe σ vs)
    (he : ∀ (i : Nat) (x : V) H1, i < n → P i x H1 → Ex H H1 → ∀ Q' : VK, (∀ p H2, H1 p = none → Ex H1 H2 → H2 p = some (o i) → Q' (.ref p) H2) → te ((wipe σ vs).set j (some x)) H1 Q')
    (k : ∀ q H2 ps, H q = none → Ex H H2 → H2 q = some (.lst (ps.map V.ref)) → ps.length = n → News H H2 o ps → q ∉ ps → Q (.ref q) H2) : tLc wi (gName j) tYes te vs σ H Q :=
  hs H (Ex.refl H) _ fun J H1 S e1 w hS => fun Dl hD => by
    have hDH : H Dl = none := fresh_back e1 hD
    refine lc_it w (Qd := fun H3 => Q (.ref Dl) H3) (fun i Hi => Ex H1 Hi ∧ ∃ ps : List Addr, Hi Dl = some (.lst (ps.map V.ref)) ∧ ps.length = i ∧ News H1 Hi o ps ∧ Dl ∉ ps) ?_ (fun i Hi hi p => hS (fun _ => False) Hi (fun b z => z.elim) (.of p.1)) ?_ ?_
    · exact ⟨Ex.new hD, [], upd_same, rfl, ⟨fun p hp => (nomatch hp), fun i p hp => (by rw [List.getElem?_nil] at hp; cases hp), List.Pairwise.nil⟩, fun hp => (nomatch hp)⟩
    · rintro i x Ha Hb hi ⟨R, ps, h1, h2, h3, h4⟩ ⟨ey, hP⟩
      refine ⟨hw x, ?_⟩
      show te ((wipe σ vs).set j (some x)) Hb fun y H4 => _
      refine he i x Hb hi hP (e1.trans (R.trans ey)) _ fun p H4 hp e4 hp4 => ?_
      have hDl4 : H4 Dl = some (.lst (ps.map V.ref)) := e4 _ _ (ey _ _ h1)
      have npD : p ≠ Dl := fun z => by rw [z, ey _ _ h1] at hp; cases hp
      refine ⟨ps.map V.ref, hDl4, sz_lt (by rw [List.length_map]; omega), Ex.mut ((R.trans ey).trans e4) hD, ps ++ [p], by rw [upd_same, List.map_append]; rfl, by rw [List.length_append, h2]; rfl, ⟨fun q hq => ?_, fun t q hq => ?_, ?_⟩, fun hq => ?_⟩
      · rcases List.mem_append.mp hq with hq | hq
        · exact h3.new q hq
        · rw [List.mem_singleton.mp hq]
          exact fresh_back (R.trans ey) hp
      · by_cases ht : t < ps.length
        · rw [List.getElem?_append_left ht] at hq
          have hne : q ≠ Dl := fun z => h4 (z ▸ List.mem_of_getElem? hq)
          rw [upd_ne hne]
          exact e4 _ _ (ey _ _ (h3.at_ t q hq))
        · rw [List.getElem?_append_right (by omega)] at hq
          have ht0 : t - ps.length = 0 := by
            by_cases z : t - ps.length = 0
            · exact z
            · rw [List.getElem?_eq_none (by simp; omega)] at hq
              cases hq
          rw [ht0] at hq
          cases hq
          rw [upd_ne npD, hp4]
          congr 2
          omega
      · refine List.nodup_append.mpr ⟨h3.nd, List.pairwise_singleton _ _, fun a ha b hb => ?_⟩
        rw [List.mem_singleton.mp hb]
        rintro rfl
        obtain ⟨t, ht⟩ := List.mem_iff_getElem?.mp ha
        have := ey _ _ (h3.at_ t _ ht)
        rw [hp] at this
        cases this
      · rcases List.mem_append.mp hq with hq | hq
        · exact h4 hq
        · exact npD (List.mem_singleton.mp hq).symm
    · rintro H3 ⟨R, ps, h1, h2, h3, h4⟩
      exact k Dl H3 ps hDH (e1.trans R) h1 h2 ⟨fun p hp => fresh_back e1 (h3.new p hp), h3.at_, h3.nd⟩ h4
/-- from the end of a range -/
theorem src_revR {n : Nat} (h : Ev te σ H (.int (n : Int))) (hn : n ≤ 1000000000) : Src (iRevR (tRg1 te)) σ H n (fun _ => False) (fun i v _ => v = .int ((n : Int) - 1 - (i : Int))) := fun H1 e R q =>
  h H1 e _ fun H2 e2 => ⟨(n : Int), rfl, by omega, by omega, by omega, by omega, by
    have e0 : ((n : Int) - 0).toNat = n := by omega
    rw [e0, show (0 : Int) + (n : Int) - 1 = (n : Int) - 1 by omega]
    have w := (walk_rangeC (lo := (n : Int) - 1) (c := -1) (n := n)).mono (fun _ z => z) (Y' := fun i Ha v Hb => Ex Ha Hb ∧ v = .int ((n : Int) - 1 - (i : Int))) (fun i Ha v Hb _ _ hy => by
      obtain ⟨rfl, rfl⟩ := hy
      exact ⟨Ex.refl _, by show V.int ((n : Int) - 1 + ((i : Nat) : Int) * -1) = _; congr 1; omega⟩)
    exact q _ H2 _ e2 w fun _ _ _ _ => True.intro⟩
theorem q_parLC {i j : Nat} {c : V} {tz : TS} {D : Ends} {xs : List V} (h : EvL ta σ H xs) (k : ∀ p H1, H p = none → Ex H H1 → H1 p = some (.lst xs) → tz D ((σ.set i (some (.ref p))).set j (some c)) H1) : tSeq (tPar i j (tCons ta (tCons (tC c) tNil))) tz D σ H :=
  h H (Ex.refl _) _ fun p H1 hp e1 h1 => ⟨.ref p, c, rfl, k p H1 hp e1 h1⟩
theorem q_parCC {i j : Nat} {c d : V} {tz : TS} {D : Ends} (k : tz D ((σ.set i (some c)).set j (some d)) H) : tSeq (tPar i j (tCons (tC c) (tCons (tC d) tNil))) tz D σ H := ⟨c, d, rfl, k⟩
/-- two names, two constants -/
theorem q_asg2C {i j : Nat} {c d : V} {tz : TS} {D : Ends} (k : ∀ H1, Ex H H1 → tz D ((σ.set i (some c)).set j (some d)) H1) : tSeq (tAsg (tTup (tCons (tC c) (tCons (tC d) tNil))) (gTup K 2 (gCons (gName i) (gCons (gName j) gNil)))) tz D σ H :=
  ⟨by show 2 ≤ sizeLine; decide, fun pt hpt => ⟨pt, _, rfl, st_of upd_same, rfl, c, [d], rfl, d, [], rfl, rfl, k _ (Ex.new hpt)⟩⟩
theorem q_asgIf {i : Nat} {tu : TT} {tz : TS} {D : Ends} {b : Bool} (h : EvT tu σ H b) (h1 : b = true → ∀ H1, Ex H H1 → ta σ H1 fun v H2 => tz D (σ.set i (some v)) H2) (h2 : b = false → ∀ H1, Ex H H1 → tb σ H1 fun v H2 => tz D (σ.set i (some v)) H2) : tSeq (tAsg (tIf tu ta tb) (gName i)) tz D σ H := h H (Ex.refl H) _ fun H1 e1 => by
  cases b with
  | true => exact h1 rfl H1 e1
  | false => exact h2 rfl H1 e1
theorem hix {i : Nat} {x : Addr} {xs : List V} {j : Int} {v : V} (hx : H x = some (.tup xs)) (h0 : σ[i]? = some (some (.ref x))) (ha : atI xs j = some v) : Ev (tOp (rIxAny K) (tVar i) (tC (.int j))) σ H v := ev_op (ev_var h0) ev_c fun H3 e3 Q3 q3 => .inl (.inr (rv_ixT (K := K) (st_of hx) ha H3 e3 Q3 q3))
def rMin2 : List V → Hp → VK → Prop := fun xs H Q => ∃ i j, xs = [.int i, .int j] ∧ Q (.int (if j < i then j else i)) H
theorem ev_min2 {i j : Int} (ha : Ev ta σ H (.int i)) (hb : Ev tb σ H (.int j)) : Ev (tCB rMin2 (tCons ta (tCons tb tNil))) σ H (.int (if j < i then j else i)) := fun H1 e Q q =>
  ha H1 e _ fun H2 e2 => hb H2 (e.trans e2) _ fun H3 e3 => ⟨i, j, rfl, q H3 (e2.trans e3)⟩
end
end Wg
set_option Elab.async false
set_option linter.all false
set_option maxRecDepth 100000
set_option maxHeartbeats 2000000
/-! errors of own classes: raised, passed on, caught; three named values -/
namespace Wg
open PySem PySem.Spec PyProof.Rows L2 Evl Wc
/-- an own class of errors under ValueError, by its name -/
structure Err (K : PySem.W.Frag) (mg : Str → Option Value) (x : Str) (C : Addr) : Prop where
  gP : mg x = some (.ref C)
  xP : PySem.W.excIn K C [.type "ValueError", .type "Exception", .type "BaseException", .type "object"] "ValueError.__new__" = true
  kP : PySem.W.keepIn K (.ref C) = true
  bP : PySem.W.subIn K (.ref C) (.type "BaseException") = some true
  tP : PySem.W.typeIn K (.ref C) = some (.type "type")
/-- .. caught by its own name, asked for its kind -/
structure ErrI (K : PySem.W.Frag) (C : Addr) : Prop where
  te : PySem.W.exmOne K (.ref C) (.ref C) = some true
  cl : ExcC K C
/-- isinstance of the error that the suite holds, of whatever class -/
def rIsE2 (K : PySem.W.Frag) (D a : Addr) (cls : Value) (d : Option Addr) : List V → Hp → VK → Prop := fun xs H Q => cls = .ref D ∧ d = none ∧ rIsE K D a xs H Q
theorem call_isE2 {X : Cx} {a D : Addr} {oe : Obj} {pn : List (Addr × Obj)} {cls : Value} {d : Option Addr} (C : ExcC X.K D) (hz : Zc cls d oe) (hf : ∃ vs, oe.data = .fields vs) : CallR (X.suite a ((a, oe) :: pn)) (.builtin "isinstance") (rIsE2 X.K D a cls d) := by
  intro pins s σ H xs us Q I r h
  obtain ⟨rfl, rfl, h⟩ := h
  exact (call_isE C hz hf) pins s σ H xs us Q I r h
theorem is_err {K : PySem.W.Frag} {D a B : Addr} {b : Bool} {H : Hp} {Q : VK} (h : PySem.W.kitOne K (.ref D) (.ref B) = some b) (q : Q (.bl b) H) : rIsE2 K D a (.ref D) none [.ref a, .ref B] H Q := ⟨rfl, rfl, .ref B, .ref B, b, rfl, fun u hu => by cases hu; rfl, h, q⟩
section
variable {P : Program} {w : World} {K : PySem.W.Frag} {mg : Str → Option Value} {base : Heap}
/-- a def that may raise, called by its name -/
structure CalS (P : Program) (w : World) (K : PySem.W.Frag) (mg : Str → Option Value) (base : Heap) (x : Str) (st : Stmt) (k : Nat) (ps : List Str) (sp : Sp) : Prop where
  ex : ∃ f fd, FnOk P w K mg base (L2.CX P w) k f fd ps sp ∧ mg x = some (.ref f) ∧ Fun K x x st f fd ∧ Binds K fd ps []
/-- .. where it raises nothing -/
def calm (sp : Sp) : Sp := fun vs H Q _ => sp vs H Q E0
theorem CalS.calm {x : Str} {st : Stmt} {k : Nat} {ps : List Str} {sp : Sp} (C : CalS P w K mg base x st k ps sp) : Cal P w K mg base x st k ps (calm sp) := by
  obtain ⟨f, fd, F, hm, hF, hb⟩ := C.ex
  refine ⟨f, fd, ⟨fun vs H Q E h => F.len _ _ _ _ h, fun A outer s H args us vs Q E hr he hb r h => codeAny_mono (F.run A outer s H args us vs Q E0 hr he hb r h) fun z s' hz => ?_⟩, hm, hF, hb⟩
  cases z with
  | ok fl => cases fl <;> exact hz
  | error e =>
    obtain ⟨_, _, _, _, _, _, _, _, _, _, _, _, no⟩ := hz
    exact no
end
section
variable {X : Cx} {x : Str} {st : Stmt} {k n : Nat} {ps : List Str} {sp : Sp} {p pos pos' p2 : Pos} {e : Expr} {es : List Expr} {t : TA} {W : WX} {m : Str} {j : Nat} {C : Addr}
theorem pe_clS (Cl : CalS X.prog X.w X.K X.mg X.base x st k ps sp) (hr : Room n X.A) (tk : Takes X W) (ha : PA X (e :: es) t) (hkn : k ≤ n := by decide) (hg : Gl X x := by rfl) (hdb : (x == ("__debug__" : Str)) = false := by decide)
    (he : starEach (e :: es) X.env = (false, eval e X.env) :: starEach es X.env := by rfl) (hpl : (backTo pos (starEach es X.env)).any (·.1) = false := by rfl) : PE X (.Call (.Name x p) (e :: es) [] pos) (tCallS sp (WE W) t) := by
  obtain ⟨f, fd, F, hm, hF, hb⟩ := Cl.ex
  exact pe_callS F (hr.mono hkn) hg hm hF.kp hb (fun σ => passAt tk σ) ha hdb he hpl
theorem ps_raiseE (hc : X.calm = true) (tk : Takes X W) (Er : Err X.K X.mg x C) (hg : Gl X x := by rfl) (hdb : (x == ("__debug__" : Str)) = false := by decide) : PS X (.Raise (some (.Call (.Name x p) [.Constant (.str m) j p2] [] pos)) none pos') (fun _ σ H => W (.ref C) none σ H) :=
  ps_raise hc tk (pmk_own PySem.F.excBase_ValueError Er.xP Er.gP Er.kP (raises_own Er.bP Er.tP) hg hdb)
end
/-- three named values, the last one first -/
def sw3 {α : Type} : List α → List α → List α
  | [], [a, b, c] => [c, b, a]
  | _, _ => []
theorem sw3_rel {vs zs : List V} {us ws : List Value} (r : Vals vs us) (rz : Vals zs ws) : Vals (sw3 vs zs) (sw3 us ws) := by
  cases r with
  | cons => exact .nil
  | nil =>
    match zs, ws, rz with
    | [], _, .nil => exact .nil
    | [_], _, .cons _ .nil => exact .nil
    | [_, _], _, .cons _ (.cons _ .nil) => exact .nil
    | [_, _, _], _, .cons h1 (.cons h2 (.cons h3 .nil)) => exact .cons h3 (.cons h2 (.cons h1 .nil))
    | _ :: _ :: _ :: _ :: _, _, .cons _ (.cons _ (.cons _ (.cons _ _))) => exact .nil
theorem kb3 {x : Str} {st : Stmt} {ps ks : List Str} (hp : ps.length = 3)
    (h : ∀ (kV doc pm : Value) (an : Option Addr) (cdv ct a b c : Value), bindArgs (PySem.W.fnOf x x (defArgs st) (defBody st) (defScope st) .none kV doc pm an cdv ct) ⟨[], ks.zip [a, b, c]⟩ = pure (ps.zip (sw3 [] [a, b, c]))) : KB x st 0 ps ks sw3 sw3 := by
  intro K f fd F
  obtain ⟨oc, od, kV, doc, pm, an, cdv, ct, osl, rfl, lk, hcd⟩ := F.ex
  refine ⟨fun s us ws _ hl => ?_, fun r rz => sw3_rel r rz⟩
  rw [hp] at hl
  match us, ws, hl with
  | [], [a, b, c], _ => exact .of_eq (h kV doc pm an cdv ct a b c)
  | [], [], hl => exact absurd hl (by simp [sw3])
  | [], [_], hl => exact absurd hl (by simp [sw3])
  | [], [_, _], hl => exact absurd hl (by simp [sw3])
  | [], _ :: _ :: _ :: _ :: _, hl => exact absurd hl (by simp [sw3])
  | _ :: _, ws, hl => exact absurd hl (by simp [sw3])
end Wg
set_option Elab.async false
set_option linter.all false
set_option maxRecDepth 100000
set_option maxHeartbeats 2000000
/-! two lists, item by item; a pair popped off a list -/
namespace Wg
open PySem PySem.Spec PyProof.Rows L2 Evl Wc
inductive All2 {α β : Type} (R : α → β → Prop) : List α → List β → Prop
  | nil : All2 R [] []
  | cons {a : α} {b : β} {as : List α} {bs : List β} : R a b → All2 R as bs → All2 R (a :: as) (b :: bs)
namespace All2
variable {α β : Type} {R R' : α → β → Prop} {as as' : List α} {bs bs' : List β}
theorem mono (h : All2 R as bs) (k : ∀ a b, R a b → R' a b) : All2 R' as bs := by
  induction h with
  | nil => exact .nil
  | cons r _ ih => exact .cons (k _ _ r) ih
theorem len (h : All2 R as bs) : as.length = bs.length := by
  induction h with
  | nil => rfl
  | cons _ _ ih => rw [List.length_cons, List.length_cons, ih]
theorem app (h : All2 R as bs) (h' : All2 R as' bs') : All2 R (as ++ as') (bs ++ bs') := by
  induction h with
  | nil => exact h'
  | cons r _ ih => exact .cons r ih
theorem one {a : α} {b : β} (r : R a b) : All2 R [a] [b] := .cons r .nil
theorem push {a : α} {b : β} (h : All2 R as bs) (r : R a b) : All2 R (as ++ [a]) (bs ++ [b]) := h.app (one r)
theorem pop : ∀ {as : List α} {bs : List β} {b : β}, All2 R as (bs ++ [b]) → ∃ as' a, as = as' ++ [a] ∧ All2 R as' bs ∧ R a b
  | [], [], _, h => nomatch h
  | [], _ :: _, _, h => nomatch h
  | a :: as, [], b, h => by
    cases h with
    | cons r h' => cases h' with
      | nil => exact ⟨[], a, rfl, .nil, r⟩
  | a :: as, b0 :: bs, b, h => by
    cases h with
    | cons r h' =>
      obtain ⟨as', x, rfl, h1, h2⟩ := pop h'
      exact ⟨a :: as', x, rfl, .cons r h1, h2⟩
theorem at_ (h : All2 R as bs) : ∀ {i : Nat} {b : β}, bs[i]? = some b → ∃ a, as[i]? = some a ∧ R a b := by
  induction h with
  | nil => intro i b h; simp at h
  | cons r _ ih =>
    intro i b h
    cases i with
    | zero =>
      rw [List.getElem?_cons_zero] at h
      cases h
      exact ⟨_, rfl, r⟩
    | succ i => exact ih (by rwa [List.getElem?_cons_succ] at h)
theorem take (h : All2 R as bs) (n : Nat) : All2 R (as.take n) (bs.take n) := by
  induction h generalizing n with
  | nil => simp; exact .nil
  | cons r _ ih => cases n with
    | zero => exact .nil
    | succ n => exact .cons r (ih n)
end All2
section
variable {K : PySem.W.Frag} {σ : L2.St} {H : Hp}
theorem q_popP {i a b : Nat} {pw t : Addr} {xs : List V} {u v : V} {D : Ends} {tz : TS} (h0 : σ[i]? = some (some (.ref pw))) (h : H pw = some (.lst (xs ++ [.ref t]))) (ht : H t = some (.tup [u, v])) (k : tz D ((σ.set a (some u)).set b (some v)) (upd H pw (.lst xs))) :
    tSeq (tAsg (tBM0 K "list" rPop (tVar i)) (gTup K 2 (gCons (gName a) (gCons (gName b) gNil)))) tz D σ H := by
  have hne : t ≠ pw := fun z => by rw [z, h] at ht; cases ht
  refine ⟨.ref pw, h0, Or.inl ⟨rfl, _, sq_of h⟩, pw, xs ++ [.ref t], .ref t, rfl, rfl, h, by simp, ?_⟩
  rw [List.dropLast_concat]
  exact ⟨t, _, rfl, st_of (by rw [upd_ne hne]; exact ht), rfl, u, [v], rfl, v, [], rfl, rfl, k⟩
theorem s_appT {i : Nat} {l : Addr} {xs : List V} {te : TE} {D : Ends} (h0 : σ[i]? = some (some (.ref l))) (hl : H l = some (.lst xs)) (h : te σ H fun v H2 => rAppend (.ref l) [v] H2 fun _ H3 => D.nx σ H3) : tDrop (tBM K "list" rAppend (tVar i) (tCons te tNil)) D σ H := ⟨.ref l, h0, Or.inl ⟨rfl, xs, sq_of hl⟩, h⟩
end
end Wg
set_option Elab.async false
set_option linter.all false
set_option maxRecDepth 100000
set_option maxHeartbeats 4000000
/-! sets of numbers out of a list, sorted -/
namespace Wt
open PySem PySem.Spec PyProof.Rows L2 Evl Wc
section
variable {P : Program} {w : World} {A : Around} {E : Value → Shared → Prop} {s : Shared}
set_option maxHeartbeats 3200000 in
theorem call_set_ints {src : Addr} {its : Array Value} {xs : List Int} {Q : Value → Shared → Prop} (noH : A.handled = none) (isl : s.heap.IsList src its) (hit : IntsAre its.toList xs) (room : xs.length + 1 < scanBound)
    (fin : ∀ (h2 : Heap) (tk c : Nat), SetR w h2 s.heap.objs.size (fun j => decide (j ∈ xs)) c → c ≤ xs.length → (∀ b o, s.heap.get? b = some o → h2.get? b = some o) → Q (.ref s.heap.objs.size) { s with heap := h2, toks := tk }) :
    wpAny (model P w) A (call (.type "set") [.ref src]) Q E s := by
  have lx : xs.length = its.size := by rw [← Array.length_toList, IntsAre.length hit]
  obtain ⟨c, tl, q0⟩ := PySem.F.called_set.mro
  have q1 := PySem.F.called_set.made; have q2 := PySem.F.called_set.sub
  refine wpAny_call (codeAny_of_tree (wpAny_pure ⟨Code.quiet_builtin _ (by decide +kernel), codeAny_builtin PySem.F.entry_type_call ?_⟩))
  rw [Around.under_plain (weight_type_call_type "set" [.ref src] []) rfl]
  have q3 := PySem.F.called_set.notType; have q4 := PySem.F.called_set.canCreate
  have q5 := PySem.F.typeCall_set_1 (.ref src)
  repeat (any_goals (first | assumption | wp_step))
  refine codeAny_mono (code_set_led1 (.ref src) (E := E) (Q₁ := fun ob t1 => ob = .ref s.heap.objs.size ∧ t1 = { s with heap := s.heap.push (so w) }) ⟨rfl, rfl⟩) fun r t1 hr => ?_
  match r, hr with
  | .error e, hr => exact hr
  | .ok (.ret ob), hr =>
    obtain ⟨rfl, rfl⟩ := hr
    have atS : (s.heap.push (so w)).get? s.heap.objs.size = some (so w) := Heap.get?_push_size _ rfl
    have tyS : Shared.TypeIs { s with heap := s.heap.push (so w) } (.ref s.heap.objs.size) "set" := ⟨_, atS, rfl⟩
    have q6 := PySem.F.called_set.init.lookup
    have q7 := PySem.F.called_set.init.bind (.ref s.heap.objs.size)
    repeat (any_goals (first | assumption | wp_step))
    refine codeAny_mono (codeAny_call_builtin (R := wants (fun r t2 => r = .none ∧ ∃ h2 tk c, t2 = { s with heap := h2, toks := tk } ∧ SetR w h2 s.heap.objs.size (fun j => decide (j ∈ xs)) c ∧ c ≤ xs.length ∧ ∀ b o, s.heap.get? b = some o → h2.get? b = some o) E) PySem.F.called_set.init.plain PySem.F.entry_set_init (check_set_init_1 tyS ?_)) fun r2 t2 hr2 => ?_
    · obtain ⟨ol, atl, cl, nl, dl⟩ := isl
      obtain ⟨ocls, odict, odata, oslots⟩ := ol
      simp only at cl dl
      subst cl; subst dl
      have lt := Heap.lt_size atl
      have isl2 : (s.heap.push (so w)).IsList src its := ⟨_, Heap.get?_push_of_some _ atl, rfl, nl, rfl⟩
      have q8 := PySem.F.sub_list_set; have q9 := PySem.F.sub_list_frozenset
      have q10 : (Value.type "list" == Value.type "dict") = false := by decide
      have atl2 : (s.heap.push (so w)).get? src = some { cls := .type "list", dict := odict, data := .seq its nl, slots := oslots } := Heap.get?_push_of_some _ atl
      unfold Builtin.«set.__init__» noKeywords Builtin.Frozenset.updateFrom
      generalize hI : pyIter = iter
      wp_walk
      subst hI
      refine wpAny_pyIter_list isl2 (wpAny_bind (wpAny_runValue ?_))
      have no3 : A.in1.in1.in1.handled = none := by simp [noH]
      have zI : (s.heap.push (so w)).objs.size = s.heap.objs.size + 1 := Heap.size_push ..
      have ne1 : src ≠ (s.heap.push (so w)).objs.size := by rw [zI]; exact Nat.ne_of_lt (Nat.lt_succ_of_lt lt)
      have out1 : s.heap.objs.size ∉ [(s.heap.push (so w)).objs.size, src] := by
        rw [zI]
        intro z
        rcases List.mem_cons.mp z with z | z
        · exact absurd z (Nat.ne_of_lt (Nat.lt_succ_self _))
        · exact absurd (List.mem_singleton.mp z) (Nat.ne_of_gt lt)
      refine set_update_ints (P := P) ((Walks.list no3 _ src ne1 its).toS) s.heap.objs.size out1 xs lx.symm room (fun i v hv => ?_) its.size 0 _ (Nat.sub_zero _) (Nat.zero_le _) ⟨⟨_, Heap.get?_push_size _ rfl, rfl, rfl⟩, isl2.push _⟩ ⟨0, Nat.le_refl _, setR_new_at (ns := xs) (Heap.get?_push_of_some _ atS)⟩ fun s2 l2 mv hc2 X2 => ?_
      · have hv2 : its.toList[i]? = some v := by rw [Array.getElem?_toList]; exact hv
        obtain ⟨t, e⟩ := IntsAre.int_at hit i v hv2
        have hi : i < xs.length := by
          have := (List.getElem?_eq_some_iff.mp hv2).1
          rw [Array.length_toList] at this
          omega
        exact ⟨xs[i], t, List.getElem?_eq_getElem hi, by rw [e, List.getD_eq_getElem?_getD, List.getElem?_eq_getElem hi]; rfl⟩
      · obtain ⟨h2, g2, d2, tk2, os2⟩ := s2
        obtain rfl : g2 = s.gens := mv.gens
        obtain rfl : d2 = s.drawn := mv.drawn
        obtain rfl : os2 = s.os := mv.os
        show wpAny _ _ (Bind.bind (pure _) _) _ _ _
        refine wpAny_pure (wpAny_pure ⟨rfl, h2, tk2, l2, rfl, X2, by omega, fun b o e => ?_⟩)
        have hb := Heap.lt_size e
        refine mv.heap b o (fun z => ?_) (Heap.get?_push_of_some _ (Heap.get?_push_of_some _ e))
        rw [zI] at z
        rcases List.mem_cons.mp z with z | z
        · exact absurd z (Nat.ne_of_lt hb)
        · exact absurd (List.mem_singleton.mp z) (Nat.ne_of_lt (Nat.lt_succ_of_lt hb))
    · match r2, hr2 with
      | .error e, hr2 => exact hr2
      | .ok (.ret v2), hr2 =>
        obtain ⟨rfl, h2, tk, l, rfl, X, m, k⟩ := hr2
        repeat (any_goals (first | assumption | wp_step))
        exact fin _ _ _ X m k
end
section
variable {X : Cx}
def rSetI (K : PySem.W.Frag) (w : World) : List V → Hp → VK → Prop := fun vs H Q => ∃ (p : Addr) (ns : List Int), vs = [.ref p] ∧ SqL K H p (ns.map V.int) ∧ ns.length ≤ 60 ∧ ∀ q c, c ≤ ns.length → H q = none → Q (.ref q) (upd H q (SetO w q (fun j => decide (j ∈ ns)) c))
theorem cr_setI (hc : X.calm = true) : CallR X (.type "set") (rSetI X.K X.w) := by
  intro pins s σ H vs us Q I r h
  obtain ⟨p, ns, rfl, hp, hl, q⟩ := h
  rw [Vals.ref1 r]
  obtain ⟨its, rv, pl, hz⟩ := I.list hp
  refine call_set_ints (P := X.prog) (xs := ns) (I.ok.hd hc) pl.isList (ints_of_vals rv) (by unfold scanBound; omega) fun h2 tk c R m k => ?_
  have hn : H s.heap.objs.size = none := I.hok.fresh (Nat.le_refl _)
  exact ⟨.ref _, upd H s.heap.objs.size (SetO X.w s.heap.objs.size (fun j => decide (j ∈ ns)) c), I.laid (t' := tk) k (Nat.le_refl _) (setO_new R), rfl, q _ c m hn⟩
theorem ksetI {K : PySem.W.Frag} {w : World} (hc : X.calm = true := by rfl) (hK : X.K = K := by rfl) (hw : X.w = w := by rfl) : CallR X (.type "set") (rSetI K w) := by
  subst hK hw
  exact cr_setI hc
theorem ksortI {w : World} (hc : X.calm = true := by rfl) (hw : X.w = w := by rfl) : CallR X (.builtin "sorted") (rSortedSet w) := by
  subst hw
  exact cr_sortedSet hc
end
/-- sorted(set(..)) of the numbers of a standing list -/
theorem sortIntsAt {K : PySem.W.Frag} {w : World} {p : Addr} {ns : List Int} {H : Hp} {Q : VK} (hp : H p = some (.lst (ns.map V.int))) (hl : ns.length ≤ 60) (k : ∀ (r : Addr) (zs : List Int) (H3 : Hp), zs.Pairwise (· < ·) → (∀ z, z ∈ zs ↔ z ∈ ns) → H r = none → Ex H H3 → H3 r = some (.lst (zs.map V.int)) → Q (.ref r) H3) : rSetI K w [.ref p] H fun s H2 => rSortedSet w [s] H2 Q :=
  ⟨p, ns, rfl, Evl.sq_of hp, hl, fun q c hc hq => ⟨q, _, c, rfl, upd_same, by omega, fun zs r ha hm hz hr => k r zs _ ha (fun z => (hm z).trans decide_eq_true_iff) (fresh_back (Ex.new hq) hr) ((Ex.new hq).trans (Ex.new hr)) upd_same⟩⟩
end Wt
set_option Elab.async false
set_option linter.all false
set_option maxRecDepth 100000
set_option maxHeartbeats 2000000
namespace K03
open PySem PySem.Spec PyProof.Rows L2 Evl Wc
def topS (i : Nat) : Stmt := PySem.Challenge.pw_wordscut_k03_whole_cuts_and_their_number.main.body.getD i (.Pass ⟨0, 0, 0, 0⟩)
abbrev st__wall : Stmt := topS 0
abbrev st_is_integer : Stmt := topS 15
abbrev st_is_within : Stmt := topS 16
abbrev st_need_number : Stmt := topS 17
abbrev st_are_signs : Stmt := topS 18
abbrev st_is_text : Stmt := topS 19
abbrev st_need_text : Stmt := topS 20
abbrev st_is_word : Stmt := topS 21
abbrev st_is_ascending : Stmt := topS 22
abbrev st_is_lot_form : Stmt := topS 23
abbrev st_need_lot : Stmt := topS 24
abbrev st_need_few_signs : Stmt := topS 25
abbrev st_are_indexes : Stmt := topS 28
abbrev st_need_indexes : Stmt := topS 29
abbrev st_put_together : Stmt := topS 30
abbrev st_need_both : Stmt := topS 33
abbrev st_cut_of : Stmt := topS 34
abbrev st_count_cuts : Stmt := topS 35
abbrev st_cuts_of : Stmt := topS 36
abbrev st_cut_at : Stmt := topS 37
abbrev st_cut_number : Stmt := topS 38
abbrev st__law_feed : Stmt := topS 40
abbrev st__law_draw : Stmt := topS 41
abbrev st__law_one : Stmt := topS 42
abbrev st__law_mixed : Stmt := topS 43
abbrev st__law_text : Stmt := topS 44
abbrev st__law_kept : Stmt := topS 45
abbrev st__law_split : Stmt := topS 46
abbrev st__law_joined : Stmt := topS 47
abbrev st__law_made : Stmt := topS 48
abbrev st__law_code : Stmt := topS 49
abbrev st__law_lot : Stmt := topS 50
abbrev st__law_put : Stmt := topS 51
abbrev st__law_near_text : Stmt := topS 52
abbrev st__law_so : Stmt := topS 53
abbrev st__law_is : Stmt := topS 54
abbrev st__law_list : Stmt := topS 55
abbrev st__law_ahead : Stmt := topS 56
abbrev st__law_behind : Stmt := topS 57
abbrev st__law_all : Stmt := topS 58
abbrev st__law_is_cut : Stmt := topS 59
abbrev st__law_case : Stmt := topS 60
abbrev st__law_rank : Stmt := topS 61
abbrev st__law_told : Stmt := topS 62
abbrev st__law_beyond : Stmt := topS 63
abbrev st__law_too_long : Stmt := topS 64
abbrev st__law_lists : Stmt := topS 65
abbrev st__law_drawn : Stmt := topS 66
abbrev st__law_right : Stmt := topS 67
abbrev st_law : Stmt := topS 68
abbrev st_Ways_init : Stmt := inClass (topS 2) 0
abbrev st_Ways_words_at : Stmt := inClass (topS 2) 1
abbrev st_Ways_cut : Stmt := inClass (topS 2) 2
abbrev st_Ways_number : Stmt := inClass (topS 2) 3
abbrev st_Ways_cuts : Stmt := inClass (topS 2) 4
abbrev st_Ways_places : Stmt := inClass (topS 2) 5
abbrev st_Ways_led_to : Stmt := inClass (topS 2) 6
abbrev st_Ways_used : Stmt := inClass (topS 2) 7
abbrev st_Ways_best : Stmt := inClass (topS 2) 8
/-- what the top has left of names that are no defs -/
structure Md (K : PySem.W.Frag) (mg : Str → Option Value) : Prop where
  n_ValueError : mg "ValueError" = none
  n_all : mg "all" = none
  n_bool : mg "bool" = none
  n_enumerate : mg "enumerate" = none
  n_int : mg "int" = none
  n_isinstance : mg "isinstance" = none
  n_len : mg "len" = none
  n_list : mg "list" = none
  n_max : mg "max" = none
  n_min : mg "min" = none
  n_range : mg "range" = none
  n_repr : mg "repr" = none
  n_reversed : mg "reversed" = none
  n_set : mg "set" = none
  n_sorted : mg "sorted" = none
  n_str : mg "str" = none
  n_sum : mg "sum" = none
  n_tuple : mg "tuple" = none
  n_zip : mg "zip" = none
  c_SIGNS : ∃ t, mg "SIGNS" = some (.str (Str.ofString "abcd") t)
  c_MOST_SIGNS : ∃ t, mg "MOST_SIGNS" = some (.int 400 t)
  c_MOST_LETTERS : ∃ t, mg "MOST_LETTERS" = some (.int 12 t)
  c_MOST_WORDS : ∃ t, mg "MOST_WORDS" = some (.int 12 t)
  c_MOST_INDEXES : ∃ t, mg "MOST_INDEXES" = some (.int 400 t)
  c_MOST_TOLD : ∃ t, mg "MOST_TOLD" = some (.int 300 t)
abbrev N__wall : List Str := ["k"]
theorem sc__wall : FnScope N__wall ["k"] (defScope st__wall) := ⟨rfl, rfl, rfl, by decide +kernel, rfl, by decide +kernel, by decide +kernel⟩
abbrev N_is_integer : List Str := ["thing"]
theorem sc_is_integer : FnScope N_is_integer ["thing"] (defScope st_is_integer) := ⟨rfl, rfl, rfl, by decide +kernel, rfl, by decide +kernel, by decide +kernel⟩
abbrev N_is_within : List Str := ["thing", "least", "most"]
theorem sc_is_within : FnScope N_is_within ["thing", "least", "most"] (defScope st_is_within) := ⟨rfl, rfl, rfl, by decide +kernel, rfl, by decide +kernel, by decide +kernel⟩
abbrev N_need_number : List Str := ["thing", "least", "most"]
theorem sc_need_number : FnScope N_need_number ["thing", "least", "most"] (defScope st_need_number) := ⟨rfl, rfl, rfl, by decide +kernel, rfl, by decide +kernel, by decide +kernel⟩
abbrev N_are_signs : List Str := ["thing", "most", "sign"]
theorem sc_are_signs : FnScope N_are_signs ["thing", "most"] (defScope st_are_signs) := ⟨rfl, rfl, rfl, by decide +kernel, rfl, by decide +kernel, by decide +kernel⟩
abbrev N_is_text : List Str := ["thing"]
theorem sc_is_text : FnScope N_is_text ["thing"] (defScope st_is_text) := ⟨rfl, rfl, rfl, by decide +kernel, rfl, by decide +kernel, by decide +kernel⟩
abbrev N_need_text : List Str := ["text"]
theorem sc_need_text : FnScope N_need_text ["text"] (defScope st_need_text) := ⟨rfl, rfl, rfl, by decide +kernel, rfl, by decide +kernel, by decide +kernel⟩
abbrev N_is_word : List Str := ["thing"]
theorem sc_is_word : FnScope N_is_word ["thing"] (defScope st_is_word) := ⟨rfl, rfl, rfl, by decide +kernel, rfl, by decide +kernel, by decide +kernel⟩
abbrev N_is_ascending : List Str := ["things", "one", "other"]
theorem sc_is_ascending : FnScope N_is_ascending ["things"] (defScope st_is_ascending) := ⟨rfl, rfl, rfl, by decide +kernel, rfl, by decide +kernel, by decide +kernel⟩
abbrev N_is_lot_form : List Str := ["thing", "word"]
theorem sc_is_lot_form : FnScope N_is_lot_form ["thing"] (defScope st_is_lot_form) := ⟨rfl, rfl, rfl, by decide +kernel, rfl, by decide +kernel, by decide +kernel⟩
abbrev N_need_lot : List Str := ["lot"]
theorem sc_need_lot : FnScope N_need_lot ["lot"] (defScope st_need_lot) := ⟨rfl, rfl, rfl, by decide +kernel, rfl, by decide +kernel, by decide +kernel⟩
abbrev N_need_few_signs : List Str := ["text"]
theorem sc_need_few_signs : FnScope N_need_few_signs ["text"] (defScope st_need_few_signs) := ⟨rfl, rfl, rfl, by decide +kernel, rfl, by decide +kernel, by decide +kernel⟩
abbrev N_are_indexes : List Str := ["lot", "thing", "index"]
theorem sc_are_indexes : FnScope N_are_indexes ["lot", "thing"] (defScope st_are_indexes) := ⟨rfl, rfl, rfl, by decide +kernel, rfl, by decide +kernel, by decide +kernel⟩
abbrev N_need_indexes : List Str := ["lot", "indexes"]
theorem sc_need_indexes : FnScope N_need_indexes ["lot", "indexes"] (defScope st_need_indexes) := ⟨rfl, rfl, rfl, by decide +kernel, rfl, by decide +kernel, by decide +kernel⟩
abbrev N_put_together : List Str := ["lot", "indexes", "index"]
theorem sc_put_together : FnScope N_put_together ["lot", "indexes"] (defScope st_put_together) := ⟨rfl, rfl, rfl, by decide +kernel, rfl, by decide +kernel, by decide +kernel⟩
abbrev N_need_both : List Str := ["lot", "text"]
theorem sc_need_both : FnScope N_need_both ["lot", "text"] (defScope st_need_both) := ⟨rfl, rfl, rfl, by decide +kernel, rfl, by decide +kernel, by decide +kernel⟩
abbrev N_cut_of : List Str := ["lot", "text", "ways"]
theorem sc_cut_of : FnScope N_cut_of ["lot", "text"] (defScope st_cut_of) := ⟨rfl, rfl, rfl, by decide +kernel, rfl, by decide +kernel, by decide +kernel⟩
abbrev N_count_cuts : List Str := ["lot", "text"]
theorem sc_count_cuts : FnScope N_count_cuts ["lot", "text"] (defScope st_count_cuts) := ⟨rfl, rfl, rfl, by decide +kernel, rfl, by decide +kernel, by decide +kernel⟩
abbrev N_cuts_of : List Str := ["lot", "text", "ways"]
theorem sc_cuts_of : FnScope N_cuts_of ["lot", "text"] (defScope st_cuts_of) := ⟨rfl, rfl, rfl, by decide +kernel, rfl, by decide +kernel, by decide +kernel⟩
abbrev N_cut_at : List Str := ["lot", "text", "number", "ways"]
theorem sc_cut_at : FnScope N_cut_at ["lot", "text", "number"] (defScope st_cut_at) := ⟨rfl, rfl, rfl, by decide +kernel, rfl, by decide +kernel, by decide +kernel⟩
abbrev N_cut_number : List Str := ["lot", "indexes"]
theorem sc_cut_number : FnScope N_cut_number ["lot", "indexes"] (defScope st_cut_number) := ⟨rfl, rfl, rfl, by decide +kernel, rfl, by decide +kernel, by decide +kernel⟩
abbrev N__law_feed : List Str := ["script", "k", "cell"]
theorem sc__law_feed : FnScope N__law_feed ["script", "k"] (defScope st__law_feed) := ⟨rfl, rfl, rfl, by decide +kernel, rfl, by decide +kernel, by decide +kernel⟩
abbrev N__law_draw : List Str := ["feed", "many", "rest", "got", "stir"]
theorem sc__law_draw : FnScope N__law_draw ["feed", "many"] (defScope st__law_draw) := ⟨rfl, rfl, rfl, by decide +kernel, rfl, by decide +kernel, by decide +kernel⟩
abbrev N__law_one : List Str := ["feed", "things"]
theorem sc__law_one : FnScope N__law_one ["feed", "things"] (defScope st__law_one) := ⟨rfl, rfl, rfl, by decide +kernel, rfl, by decide +kernel, by decide +kernel⟩
abbrev N__law_mixed : List Str := ["feed", "things", "pool", "got", "turn"]
theorem sc__law_mixed : FnScope N__law_mixed ["feed", "things"] (defScope st__law_mixed) := ⟨rfl, rfl, rfl, by decide +kernel, rfl, by decide +kernel, by decide +kernel⟩
abbrev N__law_text : List Str := ["feed", "signs", "most", "turn"]
theorem sc__law_text : FnScope N__law_text ["feed", "signs", "most"] (defScope st__law_text) := ⟨rfl, rfl, rfl, by decide +kernel, rfl, by decide +kernel, by decide +kernel⟩
abbrev N__law_kept : List Str := ["feed", "words", "most", "good", "word", "some"]
theorem sc__law_kept : FnScope N__law_kept ["feed", "words", "most"] (defScope st__law_kept) := ⟨rfl, rfl, rfl, by decide +kernel, rfl, by decide +kernel, by decide +kernel⟩
abbrev N__law_split : List Str := ["feed", "signs", "turns", "words", "turn", "at", "sign"]
theorem sc__law_split : FnScope N__law_split ["feed", "signs", "turns"] (defScope st__law_split) := ⟨rfl, rfl, rfl, by decide +kernel, rfl, by decide +kernel, by decide +kernel⟩
abbrev N__law_joined : List Str := ["feed", "words", "turns", "turn", "one", "other", "way", "word"]
theorem sc__law_joined : FnScope N__law_joined ["feed", "words", "turns"] (defScope st__law_joined) := ⟨rfl, rfl, rfl, by decide +kernel, rfl, by decide +kernel, by decide +kernel⟩
abbrev N__law_made : List Str := ["feed", "code", "words", "made", "word", "sign"]
theorem sc__law_made : FnScope N__law_made ["feed", "code", "words"] (defScope st__law_made) := ⟨rfl, rfl, rfl, by decide +kernel, rfl, by decide +kernel, by decide +kernel⟩
abbrev N__law_code : List Str := ["feed", "some"]
theorem sc__law_code : FnScope N__law_code ["feed"] (defScope st__law_code) := ⟨rfl, rfl, rfl, by decide +kernel, rfl, by decide +kernel, by decide +kernel⟩
abbrev N__law_lot : List Str := ["feed", "most", "signs", "way", "long", "turn", "word", "root", "ends", "words", "place"]
theorem sc__law_lot : FnScope N__law_lot ["feed", "most"] (defScope st__law_lot) := ⟨rfl, rfl, rfl, by decide +kernel, rfl, by decide +kernel, by decide +kernel⟩
abbrev N__law_put : List Str := ["feed", "lot", "most", "turn"]
theorem sc__law_put : FnScope N__law_put ["feed", "lot", "most"] (defScope st__law_put) := ⟨rfl, rfl, rfl, by decide +kernel, rfl, by decide +kernel, by decide +kernel⟩
abbrev N__law_near_text : List Str := ["feed", "lot", "most", "text", "way", "at", "sign", "near"]
theorem sc__law_near_text : FnScope N__law_near_text ["feed", "lot", "most"] (defScope st__law_near_text) := ⟨rfl, rfl, rfl, by decide +kernel, rfl, by decide +kernel, by decide +kernel⟩
abbrev N__law_so : List Str := ["actual", "due"]
theorem sc__law_so : FnScope N__law_so ["actual", "due"] (defScope st__law_so) := ⟨rfl, rfl, rfl, by decide +kernel, rfl, by decide +kernel, by decide +kernel⟩
abbrev N__law_is : List Str := ["actual", "due"]
theorem sc__law_is : FnScope N__law_is ["actual", "due"] (defScope st__law_is) := ⟨rfl, rfl, rfl, by decide +kernel, rfl, by decide +kernel, by decide +kernel⟩
abbrev N__law_list : List Str := ["actual", "due", "part"]
theorem sc__law_list : FnScope N__law_list ["actual", "due"] (defScope st__law_list) := ⟨rfl, rfl, rfl, by decide +kernel, rfl, by decide +kernel, by decide +kernel⟩
abbrev N__law_ahead : List Str := ["lot", "text", "ahead", "end", "word", "begin"]
theorem sc__law_ahead : FnScope N__law_ahead ["lot", "text"] (defScope st__law_ahead) := ⟨rfl, rfl, rfl, by decide +kernel, rfl, by decide +kernel, by decide +kernel⟩
abbrev N__law_behind : List Str := ["lot", "text", "word"]
theorem sc__law_behind : FnScope N__law_behind ["lot", "text"] (defScope st__law_behind) := ⟨rfl, rfl, rfl, by decide +kernel, rfl, by decide +kernel, by decide +kernel⟩
abbrev N__law_all : List Str := ["lot", "text", "behind", "most", "found", "work", "turn", "cut", "place", "index", "end"]
theorem sc__law_all : FnScope N__law_all ["lot", "text", "behind", "most"] (defScope st__law_all) := ⟨rfl, rfl, rfl, by decide +kernel, rfl, by decide +kernel, by decide +kernel⟩
abbrev N__law_is_cut : List Str := ["lot", "text", "thing", "index"]
theorem sc__law_is_cut : FnScope N__law_is_cut ["lot", "text", "thing"] (defScope st__law_is_cut) := ⟨rfl, rfl, rfl, by decide +kernel, rfl, by decide +kernel, by decide +kernel⟩
abbrev N__law_case : List Str := ["feed", "lot", "sign", "long", "turn"]
theorem sc__law_case : FnScope N__law_case ["feed"] (defScope st__law_case) := ⟨rfl, rfl, rfl, by decide +kernel, rfl, by decide +kernel, by decide +kernel⟩
abbrev N__law_rank : List Str := ["lot", "text", "behind", "cut", "found", "place", "told", "index", "end"]
theorem sc__law_rank : FnScope N__law_rank ["lot", "text", "behind", "cut"] (defScope st__law_rank) := ⟨rfl, rfl, rfl, by decide +kernel, rfl, by decide +kernel, by decide +kernel⟩
abbrev N__law_told : List Str := ["lot", "text", "found", "error"]
theorem sc__law_told : FnScope N__law_told ["lot", "text"] (defScope st__law_told) := ⟨rfl, rfl, rfl, by decide +kernel, rfl, by decide +kernel, by decide +kernel⟩
abbrev N__law_beyond : List Str := ["lot", "text", "number", "found", "error"]
theorem sc__law_beyond : FnScope N__law_beyond ["lot", "text", "number"] (defScope st__law_beyond) := ⟨rfl, rfl, rfl, by decide +kernel, rfl, by decide +kernel, by decide +kernel⟩
abbrev N__law_too_long : List Str := ["lot", "indexes", "found", "error"]
theorem sc__law_too_long : FnScope N__law_too_long ["lot", "indexes"] (defScope st__law_too_long) := ⟨rfl, rfl, rfl, by decide +kernel, rfl, by decide +kernel, by decide +kernel⟩
abbrev N__law_lists : List Str := ["actual", "due", "one", "other"]
theorem sc__law_lists : FnScope N__law_lists ["actual", "due"] (defScope st__law_lists) := ⟨rfl, rfl, rfl, by decide +kernel, rfl, by decide +kernel, by decide +kernel⟩
abbrev N__law_drawn : List Str := ["feed", "lot", "turn", "cut", "place", "text", "held", "index"]
theorem sc__law_drawn : FnScope N__law_drawn ["feed", "lot"] (defScope st__law_drawn) := ⟨rfl, rfl, rfl, by decide +kernel, rfl, by decide +kernel, by decide +kernel⟩
abbrev N__law_right : List Str := ["feed", "lot", "text", "behind", "total", "found", "due", "first", "some", "number", "turn", "cut"]
theorem sc__law_right : FnScope N__law_right ["feed"] (defScope st__law_right) := ⟨rfl, rfl, rfl, by decide +kernel, rfl, by decide +kernel, by decide +kernel⟩
abbrev N_law : List Str := ["script", "k"]
theorem sc_law : FnScope N_law ["script"] (defScope st_law) := ⟨rfl, rfl, rfl, by decide +kernel, rfl, by decide +kernel, by decide +kernel⟩
abbrev N_Ways_init : List Str := ["self", "lot", "text", "place", "index"]
theorem sc_Ways_init : FnScope N_Ways_init ["self", "lot", "text"] (defScope st_Ways_init) := ⟨rfl, rfl, rfl, by decide +kernel, rfl, by decide +kernel, by decide +kernel⟩
abbrev N_Ways_words_at : List Str := ["self", "place", "index", "word"]
theorem sc_Ways_words_at : FnScope N_Ways_words_at ["self", "place"] (defScope st_Ways_words_at) := ⟨rfl, rfl, rfl, by decide +kernel, rfl, by decide +kernel, by decide +kernel⟩
abbrev N_Ways_cut : List Str := ["self", "number", "found", "place", "index", "many"]
theorem sc_Ways_cut : FnScope N_Ways_cut ["self", "number"] (defScope st_Ways_cut) := ⟨rfl, rfl, rfl, by decide +kernel, rfl, by decide +kernel, by decide +kernel⟩
abbrev N_Ways_number : List Str := ["self", "indexes", "found", "place", "told", "index"]
theorem sc_Ways_number : FnScope N_Ways_number ["self", "indexes"] (defScope st_Ways_number) := ⟨rfl, rfl, rfl, by decide +kernel, rfl, by decide +kernel, by decide +kernel⟩
abbrev N_Ways_cuts : List Str := ["self", "number"]
theorem sc_Ways_cuts : FnScope N_Ways_cuts ["self"] (defScope st_Ways_cuts) := ⟨rfl, rfl, rfl, by decide +kernel, rfl, by decide +kernel, by decide +kernel⟩
abbrev N_Ways_places : List Str := ["self"]
theorem sc_Ways_places : FnScope N_Ways_places ["self"] (defScope st_Ways_places) := ⟨rfl, rfl, rfl, by decide +kernel, rfl, by decide +kernel, by decide +kernel⟩
abbrev N_Ways_led_to : List Str := ["self"]
theorem sc_Ways_led_to : FnScope N_Ways_led_to ["self"] (defScope st_Ways_led_to) := ⟨rfl, rfl, rfl, by decide +kernel, rfl, by decide +kernel, by decide +kernel⟩
abbrev N_Ways_used : List Str := ["self"]
theorem sc_Ways_used : FnScope N_Ways_used ["self"] (defScope st_Ways_used) := ⟨rfl, rfl, rfl, by decide +kernel, rfl, by decide +kernel, by decide +kernel⟩
abbrev N_Ways_best : List Str := ["self", "is_better"]
theorem sc_Ways_best : FnScope N_Ways_best ["self", "is_better"] (defScope st_Ways_best) := ⟨rfl, rfl, rfl, by decide +kernel, rfl, by decide +kernel, by decide +kernel⟩
end K03
set_option Elab.async false
set_option linter.all false
set_option maxRecDepth 100000
set_option maxHeartbeats 2000000
set_option exponentiation.threshold 5000
namespace K03
open PySem PySem.Spec PyProof.Rows L2 Evl Wc
section
variable {P : Program} {w : World} {K : PySem.W.Frag} {mg : Str → Option Value} {base : Heap}
theorem ok__law_draw {f : Addr} {fd : FuncData} (F : Fun K "_law_draw" "_law_draw" st__law_draw f fd) (M : Md K mg) : FnOk P w K mg base CX0 1 f fd ["feed", "many"] sp_draw := by
  have nd := sc__law_draw.nd
  refine F.ok sc__law_draw (fun vs H Q E h => ?_) (fun cdv A outer s H vs Q E hr h => ?_)
  · obtain ⟨_, _, rfl, _⟩ := h
    rfl
  · obtain ⟨fa, many, rfl, ⟨n0, hn0, a, b, c, e, hfa, ha0, he1, he2, hae, hb0, hb1, hc0, hc1⟩, hm0, hm1, k⟩ := h
    refine ⟨_, (pss_cons (ps_if (pt_cmpR op_gt (pe_ix (kix K (r := L2.rIxL) ix_list) (pv 0) pe_int (fun _ _ => rfl)) pe_int (nomark _))
  (pss_cons (ps_set (i := 2) nd rfl (Or.inl rfl) (pe_op op_fdivW (pe_ix (kix K (r := L2.rIxL) ix_list) (pv 0) pe_int (fun _ _ => rfl)) (pv 1)))
  (pss_cons (ps_set (i := 3) nd rfl (Or.inl rfl) (pe_op op_sub (pe_ix (kix K (r := L2.rIxL) ix_list) (pv 0) pe_int (fun _ _ => rfl)) (pe_op op_mulB (pv 2) (pv 1))))
  (pss_cons (ps_asg (pv 2) (pg_sub (pv 0) pe_int set_list))
  (pss_one (ps_ret (pv 3))))))
  pss_nil)
  (pss_cons (ps_asg (pe_op op_add (pe_ix (kix K (r := L2.rIxL) ix_list) (pv 0) pe_int (fun _ _ => rfl)) pe_int) (pg_sub (pv 0) pe_int set_list))
  (pss_cons (ps_set (i := 4) nd rfl (Or.inl rfl) (pe_op op_add (pe_ix (kix K (r := L2.rIxL) ix_list) (pv 0) pe_int (fun _ _ => rfl)) (pe_op op_mulB pe_int (pe_ix (kix K (r := L2.rIxL) ix_list) (pv 0) pe_int (fun _ _ => rfl)))))
  (pss_cons (ps_set (i := 4) nd rfl (Or.inl rfl) (pe_op op_modP (pe_callTy call_int1 (by rfl) M.n_int boot_int (pa_cons (pe_op op_add (pe_op op_mulB (pe_op op_mulB (pv 4) (pv 4)) (pv 4)) (pe_op op_mulB pe_int (pe_ix (kix K (r := L2.rIxL) ix_list) (pv 0) pe_int (fun _ _ => rfl)))) pa_nil)) (pe_op op_add (pe_op op_pow pe_int pe_int) pe_int)))
  (pss_cons (ps_set (i := 4) nd rfl (Or.inl rfl) (pe_op op_modP (pe_callTy call_int1 (by rfl) M.n_int boot_int (pa_cons (pe_op op_add (pe_op op_mulB (pv 4) (pv 4)) pe_int) pa_nil)) (pe_op op_add (pe_op op_pow pe_int pe_int) pe_int)))
  (pss_one (ps_ret (pe_op op_modP (pe_callTy call_int1 (by rfl) M.n_int boot_int (pa_cons (pe_op op_fdivW (pv 4) (pe_op op_pow pe_int pe_int)) pa_nil)) (pv 1))))))))), ?_⟩
    have hcap : (n0 : Int) + 1 ≤ 1000000000000000000 := by
      have : n0 + 1 ≤ 1000000000000000000 := hn0
      omega
    have hmany : many.natAbs < 2 ^ 300 := Nat.lt_of_le_of_lt (show many.natAbs ≤ 10 ^ 61 by omega) (by decide)
    have hdm : CDivW a many := wide_div (b := 300) hm0 hmany (by decide) (by decide)
    have ge0 : ∀ H1, Ex H H1 → Ev (tOp (L2.rIxL K) (tVar 0) (tC (.int 0))) (start N__law_draw [.ref fa, .int many]) H1 (.int a) := fun H1 e1 => ev_op (ev_var rfl) ev_c (rv_ixL (sq_of (e1 _ _ hfa)) rfl)
    refine q_when (et_test (ev_op (ge0 H (Ex.refl _)) ev_c rv_I0)) (fun h1 H1 e1 => ?_) (fun h1 H1 e1 => ?_)
    · have hap : 0 < a := of_decide_eq_true h1
      refine q_asg (ev_op (ev_op (ev_var rfl) ev_c (rv_ixL (sq_of (e1 _ _ hfa)) rfl)) (ev_var rfl) (rv_I hdm)) fun H2 e2 => ?_
      have hr0 : 0 ≤ a / many := Int.ediv_nonneg ha0 (by omega)
      have hr1 : a / many ≤ a := Int.ediv_le_self _ ha0
      have hrn : (a / many).natAbs < 2 ^ e := Nat.lt_of_le_of_lt (by omega) hae
      have hg : a - a / many * many = a % many := by
        rw [Int.emod_def, Int.mul_comm]
      have hg0 : 0 ≤ a % many := Int.emod_nonneg _ (by omega)
      have hg1 : a % many < many := Int.emod_lt_of_pos _ hm0
      refine q_asg (v := .int (((a % many).toNat : Nat) : Int)) (ev_is (ev_op (ev_op (ev_var rfl) ev_c (rv_ixL (sq_of (e2 _ _ (e1 _ _ hfa))) rfl)) (ev_op (ev_var rfl) (ev_var rfl) (rv_I (mulB hrn hmany (by omega) (by decide) (by omega)))) rv_I0) (by rw [hg]; congr 1; omega)) fun H3 e3 => ?_
      have hf3 := e3 _ _ (e2 _ _ (e1 _ _ hfa))
      refine q_setL (j := 0) hf3 (ev_var rfl) (ev_var rfl) ev_c (by show 0 < 3; decide) fun H4 e4 => ?_
      refine s_ret (ev_var rfl) fun H5 e5 => k (a % many).toNat H5 (by omega) ⟨?_, fun n hn hF => ?_⟩
      · exact Exc.then (Exc.upd (B := fun c => c = fa) (Exc.of (((e1.trans e2).trans e3).trans e4)) (.inl rfl)) e5
      · obtain ⟨a', b', c', e', g1, g2, g3, g4, g5, g6, g7, g8, g9⟩ := hF
        rw [hfa] at g1
        injection g1 with g1
        injection g1 with g1
        injection g1 with x1 g1
        injection g1 with x2 g1
        injection g1 with x3 g1
        injection x1 with x1
        injection x2 with x2
        injection x3 with x3
        subst x1 x2 x3
        exact ⟨a / many, b, c, e, e5 _ _ upd_same, hr0, he1, he2, hrn, hb0, hb1, hc0, by omega⟩
    · have ha : a = 0 := by
        have := of_decide_eq_false h1
        omega
      subst ha
      -- feed[2] = feed[2] + 1
      refine q_setL (j := 2) (e1 _ _ hfa) (ev_op (ev_op (ev_var rfl) ev_c (rv_ixL (sq_of (e1 _ _ hfa)) rfl)) ev_c rv_I0) (ev_var rfl) ev_c (by show 2 < 3; decide) fun H2 e2 => ?_
      have hf2 : (upd H2 fa (.lst ([V.int 0, V.int b, V.int c].set 2 (V.int (c + 1))))) fa = some (.lst [.int 0, .int b, .int (c + 1)]) := upd_same
      generalize hH3 : upd H2 fa (.lst ([V.int 0, V.int b, V.int c].set 2 (V.int (c + 1)))) = H3 at hf2 ⊢
      have g1 : ∀ H4, Ex H3 H4 → ∀ σ : L2.St, σ[0]? = some (some (.ref fa)) → Ev (tOp (L2.rIxL K) (tVar 0) (tC (.int 1))) σ H4 (.int b) := fun H4 e4 σ h0 => ev_op (ev_var h0) ev_c (rv_ixL (sq_of (e4 _ _ hf2)) rfl)
      have g2 : ∀ H4, Ex H3 H4 → ∀ σ : L2.St, σ[0]? = some (some (.ref fa)) → Ev (tOp (L2.rIxL K) (tVar 0) (tC (.int 2))) σ H4 (.int (c + 1)) := fun H4 e4 σ h0 => ev_op (ev_var h0) ev_c (rv_ixL (sq_of (e4 _ _ hf2)) rfl)
      have lit : ∀ {i : Int} {k : Nat}, 0 ≤ i → i ≤ k → k < 2 ^ 600 → i.natAbs < 2 ^ 600 := fun h1 h2 h3 => Nat.lt_of_le_of_lt (by omega) h3
      -- stir = feed[1] + 6700417 * feed[2]
      have hc9 : (c + 1).natAbs < 2 ^ 600 := lit (k := 1000000000000000000) (by omega) (by omega) (by decide)
      refine q_asg (ev_op (g1 _ (Ex.refl _) _ rfl) (ev_op ev_c (g2 _ (Ex.refl _) _ rfl) (rv_I (mulB (a := 600) (b := 600) (by decide) hc9 (by decide) (by decide) (by decide)))) rv_I0) fun H4 e4 => ?_
      have hs0 : 0 ≤ b + 6700417 * (c + 1) := by omega
      have hs1 : b + 6700417 * (c + 1) ≤ 10 ^ 41 := by omega
      generalize b + 6700417 * (c + 1) = x at hs0 hs1 ⊢
      have hx : x.natAbs < 2 ^ 600 := lit (k := 10 ^ 41) hs0 hs1 (by decide)
      have hxx : (x * x).natAbs < 2 ^ 1200 := wide_lt hx hx
      -- stir = int(stir * stir * stir + 15485863 * feed[2]) % (10 ** 43 + 57)
      refine q_asg (ev_op (ev_cb (ea_cons (ev_op (ev_op (ev_op (ev_var rfl) (ev_var rfl) (rv_I (mulB hx hx (by decide) (by decide) (by decide)))) (ev_var rfl) (rv_I (mulB hxx hx (by decide) (by decide) (by decide)))) (ev_op ev_c (g2 _ e4 _ rfl) (rv_I (mulB (a := 600) (b := 600) (by decide) hc9 (by decide) (by decide) (by decide)))) rv_I0) ea_nil) rc_int)
        (ev_op (ev_op ev_c ev_c (rv_I ⟨by decide, by decide, by decide⟩)) ev_c rv_I0) (rv_I (by decide))) fun H5 e5 => ?_
      have hy0 : 0 ≤ (x * x * x + 15485863 * (c + 1)) % ((10 : Int) ^ (43 : Int).toNat + 57) := Int.emod_nonneg _ (by decide)
      have hy1 : (x * x * x + 15485863 * (c + 1)) % ((10 : Int) ^ (43 : Int).toNat + 57) < (10 : Int) ^ 43 + 57 := Int.emod_lt_of_pos _ (by decide)
      generalize (x * x * x + 15485863 * (c + 1)) % ((10 : Int) ^ (43 : Int).toNat + 57) = y at hy0 hy1 ⊢
      have hy : y.natAbs < 2 ^ 600 := lit (k := 10 ^ 44) hy0 (by omega) (by decide)
      refine q_asg (ev_op (ev_cb (ea_cons (ev_op (ev_op (ev_var rfl) (ev_var rfl) (rv_I (mulB hy hy (by decide) (by decide) (by decide)))) ev_c rv_I0) ea_nil) rc_int) (ev_op (ev_op ev_c ev_c (rv_I ⟨by decide, by decide, by decide⟩)) ev_c rv_I0) (rv_I (by decide))) fun H6 e6 => ?_
      have hz0 : 0 ≤ (y * y + 32452843) % ((10 : Int) ^ (38 : Int).toNat + 133) := Int.emod_nonneg _ (by decide)
      generalize (y * y + 32452843) % ((10 : Int) ^ (38 : Int).toNat + 133) = z at hz0 ⊢
      have hq0 : 0 ≤ (z / (10 : Int) ^ (9 : Int).toNat) % many := Int.emod_nonneg _ (by omega)
      have hq1 : (z / (10 : Int) ^ (9 : Int).toNat) % many < many := Int.emod_lt_of_pos _ hm0
      refine s_ret (v := .int ((((z / (10 : Int) ^ (9 : Int).toNat) % many).toNat : Nat) : Int)) (ev_is (ev_op (ev_cb (ea_cons (ev_op (ev_var rfl) (ev_op ev_c ev_c (rv_I ⟨by decide, by decide, by decide⟩)) (rv_I (divW (by decide) (by decide)))) ea_nil) rc_int) (ev_var rfl) (rv_I hm0)) (by congr 1; omega)) fun H7 e7 => k _ H7 (by omega) ⟨?_, fun n hn hF => ?_⟩
      · have : Exc (fun c => c = fa) H H3 := by
          rw [← hH3]
          exact (Exc.of (e1.trans e2)).upd (.inl rfl)
        exact this.then (((e4.trans e5).trans e6).trans e7)
      · obtain ⟨a', b', c', e', g1, g2, g3, g4, g5, g6, g7, g8, g9⟩ := hF
        rw [hfa] at g1
        injection g1 with g1
        injection g1 with g1
        injection g1 with x1 g1
        injection g1 with x2 g1
        injection g1 with x3 g1
        injection x2 with x2
        injection x3 with x3
        subst x2 x3
        exact ⟨0, b, c + 1, 1, (((e4.trans e5).trans e6).trans e7) _ _ hf2, Int.le_refl _, Nat.le_refl _, by decide, by decide, hb0, hb1, by omega, by omega⟩
theorem ok__law_one {f : Addr} {fd : FuncData} (F : Fun K "_law_one" "_law_one" st__law_one f fd) (M : Md K mg) (C__law_draw : Cal P w K mg base "_law_draw" st__law_draw 1 ["feed", "many"] sp_draw) : FnOk P w K mg base CX0 2 f fd ["feed", "things"] (sp_one K) := by
  have nd := sc__law_one.nd
  refine F.ok sc__law_one (fun vs H Q E h => ?_) (fun cdv A outer s H vs Q E hr h => ?_)
  · obtain ⟨_, _, ⟨_, rfl, _⟩ | ⟨_, _, rfl, _⟩⟩ := h <;> rfl
  · obtain ⟨fa, G, h⟩ := h
    rcases h with ⟨s, rfl, hs, hl, k⟩ | ⟨p, xs, rfl, hS, hp, hx, hl, k⟩
    · refine ⟨_, (pss_one (ps_ret (pe_ix (kix K (r := rIxAny) ix_any) (pv 1) (pe_cl C__law_draw hr (pa_cons (pv 0) (pa_cons (pe_callB (kcr K (r := rLenAny) cr_lenAny) (by rfl) M.n_len boot_len (pa_cons (pv 1) pa_nil)) pa_nil))) (fun _ _ => rfl)))), ?_⟩
      have hpos : 0 < s.length := List.length_pos_iff.mpr hs
      refine ⟨T s, rfl, .ref fa, rfl, T s, rfl, .inl ⟨s, rfl, hl, fa, (s.length : Int), rfl, G, by omega, by omega, fun d H1 hd R => ?_⟩⟩
      obtain ⟨c, hc, hm⟩ := atI_mem (xs := s) (d := d) (by omega)
      exact .inr ⟨s, d, c, rfl, rfl, hl, hc, k c H1 hm R⟩
    · refine ⟨_, (pss_one (ps_ret (pe_ix (kix K (r := rIxAny) ix_any) (pv 1) (pe_cl C__law_draw hr (pa_cons (pv 0) (pa_cons (pe_callB (kcr K (r := rLenAny) cr_lenAny) (by rfl) M.n_len boot_len (pa_cons (pv 1) pa_nil)) pa_nil))) (fun _ _ => rfl)))), ?_⟩
      have hpos : 0 < xs.length := List.length_pos_iff.mpr hx
      refine ⟨.ref p, rfl, .ref fa, rfl, .ref p, rfl, .inr ⟨p, xs, rfl, hS, fa, (xs.length : Int), rfl, G, by omega, by omega, fun d H1 hd R => ?_⟩⟩
      obtain ⟨v, hv, hm⟩ := atI_mem (xs := xs) (d := d) (by omega)
      rcases hS with hS | hS
      · exact .inl (.inl ⟨p, xs, d, v, rfl, rfl, R.l hp hS, hv, k v H1 hm R⟩)
      · exact .inl (.inr ⟨p, xs, d, v, rfl, rfl, R.t hp hS, hv, k v H1 hm R⟩)
theorem sum_le {ts : List Tx} {m : Nat} (h : ∀ t ∈ ts, t.length ≤ m) : (ts.map List.length).sum ≤ ts.length * m := by
  induction ts with
  | nil => simp
  | cons t ts ih =>
    have h1 := h t List.mem_cons_self
    have h2 := ih fun x hx => h x (List.mem_cons_of_mem _ hx)
    simp only [List.map_cons, List.sum_cons, List.length_cons, Nat.succ_mul]
    omega
theorem flat_len {ts : List Tx} : ts.flatten.length = (ts.map List.length).sum := by
  simp [List.length_flatten]
theorem ok__law_text {f : Addr} {fd : FuncData} (F : Fun K "_law_text" "_law_text" st__law_text f fd) (M : Md K mg) (C__law_draw : Cal P w K mg base "_law_draw" st__law_draw 1 ["feed", "many"] sp_draw) (C__law_one : Cal P w K mg base "_law_one" st__law_one 2 ["feed", "things"] (sp_one K)) : FnOk P w K mg base CX0 3 f fd ["feed", "signs", "most"] sp_text := by
  have nd := sc__law_text.nd
  refine F.ok sc__law_text (fun vs H Q E h => ?_) (fun cdv A outer s H vs Q E hr h => ?_)
  · obtain ⟨_, _, _, rfl, _⟩ := h
    rfl
  · obtain ⟨fa, s, most, rfl, G, hm, hs, hl, k⟩ := h
    refine ⟨_, (pss_one (ps_ret (kbm K (pe_bm PySem.F.plainAttrs_str PySem.F.slot_str_join PySem.F.type_str_join (kmt K (r := rJoinT) mt_joinT) (pe_sT []) (pa_cons (pe_lc (own := [("turn", 3)]) rfl nd (pi_range1 (by rfl) M.n_range (pa_cons (pe_cl C__law_draw hr (pa_cons (pv 0) (pa_cons (pe_op op_add (pv 2) pe_int) pa_nil))) pa_nil)) (blkOk_by (N := N__law_text) (sc := defScope st__law_text) (by decide +kernel)) (fun _ _ _ _ _ => (pg_name (i := 3) nd rfl (Or.inl rfl))) (fun _ _ _ _ _ => pts_nil) (fun _ _ _ _ _ => (pe_cl C__law_one hr (pa_cons (pv 0) (pa_cons (pv 1) pa_nil))))) pa_nil))))), ?_⟩
    refine ⟨rfl, ?_⟩
    refine ⟨.ref fa, rfl, .int (most : Int), rfl, (most : Int), 1, rfl, rfl, fa, (most : Int) + 1, rfl, G.mono (by omega), by omega, by omega, fun d H1 hd R1 => ?_⟩
    have G1 : GF fa most H1 := G.go R1 (by omega)
    have hw : ∀ Q' : VK, (∀ p H2 acc, H1 p = none → Rf fa (d * 1) H1 H2 → H2 p = some (.lst acc) → acc.length = d → (∀ v ∈ acc, ∃ t, v = T t ∧ (t.length ≤ 1 ∧ ∀ c ∈ t, c ∈ s)) → Q' (.ref p) H2) →
        tLc (iRng1 (fun _ H Q => Q [.int (d : Int)] H)) (gName 3) tYes (tCall (sp_one K) [] E0 (tCons (tVar 0) (tCons (tVar 1) tNil))) [3] (start N__law_text [.ref fa, T s, .int (most : Int)]) H1 Q' := fun Q' k' => by
      refine lcD (fun v => ∃ t, v = T t ∧ (t.length ≤ 1 ∧ ∀ c ∈ t, c ∈ s)) 1 G1.is (src_range1 (n := d) (fun H2 e2 Q2 q => q H2 (Ex.refl _)) (by omega)) (fun z => z) (by omega) (fun _ => rfl) ?_ k'
      intro i x H2 hi _ R2 Q2 q
      refine ⟨.ref fa, rfl, T s, rfl, fa, G1.go R2 (by omega), .inl ⟨s, rfl, hs, hl, fun c H3 hc R3 => q _ _ ⟨[c], rfl, Nat.le_refl _, fun c' hc' => ?_⟩ R3⟩⟩
      rw [List.mem_singleton.mp hc']
      exact hc
    refine hw (fun x H2 => rJoinT K (T []) [x] H2 Q) fun p H2 acc hp R2 h2 hal hg => ?_
    obtain ⟨ts, rfl, hts⟩ := texts_of hg
    rw [List.length_map] at hal
    have hsum := sum_le fun t ht => (hts t ht).1
    refine ⟨[], p, ts, rfl, rfl, .inl (sq_of h2), by simp; omega, ?_⟩
    rw [joinL_nil]
    refine k ts.flatten H2 (by rw [flat_len]; omega) (fun c hc => ?_) ((R1.trans R2).mono (by omega))
    obtain ⟨t, ht, hct⟩ := List.mem_flatten.mp hc
    exact (hts t ht).2 c hct
end
end K03
set_option Elab.async false
set_option linter.all false
set_option maxRecDepth 100000
set_option maxHeartbeats 2000000
set_option exponentiation.threshold 5000
namespace K03
open PySem PySem.Spec PyProof.Rows L2 Evl Wc
section
variable {P : Program} {w : World} {K : PySem.W.Frag} {mg : Str → Option Value} {base : Heap}
theorem ok__law_feed {f : Addr} {fd : FuncData} (F : Fun K "_law_feed" "_law_feed" st__law_feed f fd) (M : Md K mg) : FnOk P w K mg base CX0 1 f fd ["script", "k"] (sp_feed K) := by
  have nd := sc__law_feed.nd
  refine F.ok sc__law_feed (fun vs H Q E h => ?_) (fun cdv A outer s H vs Q E hr h => ?_)
  · obtain ⟨_, _, _, _, rfl, _⟩ := h
    rfl
  · obtain ⟨a, ns, k, e, rfl, hS, hk, he1, he2, hz, kk⟩ := h
    refine ⟨_, (pss_cons (ps_set (i := 2) nd rfl (Or.inl rfl) (pe_op op_add (pe_op op_mulB pe_int (pv 1)) (pe_callB (kcr K (r := rSum) (cr_sum rfl)) (by rfl) M.n_sum boot_sum (pa_cons (pe_slice (ksl K (r := rSlL) sl_list) (pv 0) po_none (po_some pe_int)) pa_nil))))
  (pss_cons (ps_if (pt_cmpR op_lt (pv 1) (pe_callB (kcr K (r := rLenS) call_len_seq) (by rfl) M.n_len boot_len (pa_cons (pv 0) pa_nil)) (nomark _))
  (pss_one (ps_set (i := 2) nd rfl (Or.inl rfl) (pe_ix (kix K (r := L2.rIxL) ix_list) (pv 0) (pv 1) (fun _ _ => rfl))))
  pss_nil)
  (pss_one (ps_ret (pe_lst (pa_cons (pe_callB (call_max2 rfl) (by rfl) M.n_max boot_max (pa_cons pe_int (pa_cons (pe_op op_sub (pv 2) (pe_op op_pow pe_int pe_int)) pa_nil))) (pa_cons (pe_op op_modP (pe_callTy call_int1 (by rfl) M.n_int boot_int (pa_cons (pe_op op_add (pe_op op_mulB (pv 2) pe_int) (pe_op op_mulB pe_int (pv 1))) pa_nil)) (pe_op op_add (pe_op op_pow pe_int pe_int) pe_int)) (pa_cons pe_int pa_nil)))))))), ?_⟩
    have hsum : Ev (tCB (rSum K) (tCons (tSl (rSlL K) (tVar 0) tNoPart (tPart (tC (.int 1)))) tNil)) (start N__law_feed [.ref a, .int (k : Int)]) H (.int (ns.take 1).sum) := by
      refine ev_cbL (el_sl (ev_var rfl) eo_none (eo_some ev_c) hS) fun p H1 hp e1 => rc_sum (ns := ns.take 1) (sq_of ?_)
      have ec : cutV (ns.map V.int) none (some 1) = (ns.take 1).map V.int := by
        rw [List.map_take]
        exact cutV_to _ 1
      rw [hp, ec]
    have hs1 : (ns.take 1).sum.natAbs < 2 ^ e := by
      cases ns with
      | nil => exact Nat.pow_pos (by decide)
      | cons z r =>
        have := hz z List.mem_cons_self
        simpa using this
    refine q_asg (ev_op (ev_op ev_c (ev_var rfl) (rv_I (mulB (a := 20) (b := 20) (by decide) (by simp; omega) (by decide) (by decide) (by decide)))) hsum rv_I0) fun H1 e1 => ?_
    -- what cell is behind the if
    have rest : ∀ (cell : Int) H2, Ex H H2 → cell.natAbs < 2 ^ (e + 72) → ∀ {tz : TS}, (∀ {te : TE}, EvL te [some (.ref a), some (.int (k : Int)), some (.int cell)] H2 [.int (if cell - 10 ^ (18 : Int).toNat > 0 then cell - 10 ^ (18 : Int).toNat else 0), .int ((cell * 19 + 7 * (k : Int)) % (10 ^ (39 : Int).toNat + 23)), .int 0] → tRet te { nx := fun _ H' => Q .non H', rt := Q } [some (.ref a), some (.int (k : Int)), some (.int cell)] H2) := fun cell H2 e2 hc {tz te} h => by
      refine s_retL h fun fa H3 nfa e3 hfa => kk fa H3 (fresh_back e2 nfa) (e2.trans e3) ?_
      have hd : (cell + -(10 : Int) ^ (18 : Int).toNat).natAbs < 2 ^ (e + 72 + 72) := pow_add_small hc (by decide)
      refine ⟨_, _, _, e + 144, hfa, ?_, by omega, by omega, ?_, Int.emod_nonneg _ (by decide), Int.lt_trans (Int.emod_lt_of_pos _ (by decide)) (by decide), Int.le_refl _, Int.le_refl _⟩
      · split
        · omega
        · exact Int.le_refl _
      · split
        · rw [Int.sub_eq_add_neg]
          exact hd
        · exact Nat.pow_pos (by decide)
    have hfin : ∀ (cell : Int) H2, Ex H H2 → cell.natAbs < 2 ^ (e + 72) → EvL _ [some (.ref a), some (.int (k : Int)), some (.int cell)] H2 [.int (if cell - 10 ^ (18 : Int).toNat > 0 then cell - 10 ^ (18 : Int).toNat else 0), .int ((cell * 19 + 7 * (k : Int)) % (10 ^ (39 : Int).toNat + 23)), .int 0] := fun cell H2 e2 hc =>
      el_lst (ea_cons (ev_max2 ev_c (ev_op (ev_var (i := 2) rfl) (ev_op ev_c ev_c (rv_I (C := CPow) (g := fun i j => .int (i ^ j.toNat)) ⟨by decide, by decide, by decide⟩)) (rv_I0 (g := fun i j => .int (i - j))))) (ea_cons (ev_op (ev_cb (ea_cons (ev_op (ev_op (ev_var (i := 2) rfl) ev_c (rv_I (C := CMulB) (g := fun i j => .int (i * j)) (mulB hc (b := 10) (by decide) (by omega) (by decide) (by omega)))) (ev_op ev_c (ev_var (i := 1) rfl) (rv_I (C := CMulB) (g := fun i j => .int (i * j)) (mulB (a := 20) (b := 20) (by decide) (by simp; omega) (by decide) (by decide) (by decide)))) (rv_I0 (g := fun i j => .int (i + j)))) ea_nil) rc_int)
        (ev_op (ev_op ev_c ev_c (rv_I (C := CPow) (g := fun i j => .int (i ^ j.toNat)) ⟨by decide, by decide, by decide⟩)) ev_c (rv_I0 (g := fun i j => .int (i + j)))) (rv_I (C := fun _ j => 0 < j) (g := fun i j => .int (i % j)) (by decide))) (ea_cons ev_c ea_nil))) (by show 3 ≤ 100000; decide)
    refine q_when (et_test (ev_op (ev_var rfl) (ev_len (ev_var rfl) (ex_l e1 hS)) rv_I0)) (fun hb H2 e2 => ?_) (fun hb H2 e2 => ?_)
    · have hlt : k < ns.length := by
        have := of_decide_eq_true hb
        rw [List.length_map] at this
        omega
      refine s_asg (v := .int ns[k]) (ev_op (ev_var rfl) (ev_var rfl) (rv_ixL (ex_l (e1.trans e2) hS) (atI_nat (by rw [List.getElem?_map, List.getElem?_eq_getElem hlt]; rfl)))) fun H3 e3 => ?_
      exact rest ns[k] H3 ((e1.trans e2).trans e3) (Nat.lt_of_lt_of_le (hz _ (List.getElem_mem hlt)) (Nat.pow_le_pow_right (by decide) (by omega))) (tz := tNext) (hfin ns[k] H3 ((e1.trans e2).trans e3) (Nat.lt_of_lt_of_le (hz _ (List.getElem_mem hlt)) (Nat.pow_le_pow_right (by decide) (by omega))))
    · have hc : (977 * (k : Int) + (ns.take 1).sum).natAbs < 2 ^ (e + 72) := by
        rw [Int.add_comm]
        refine pow_add_small hs1 (Nat.le_trans (show (977 * (k : Int)).natAbs ≤ 1000000 by omega) (by decide))
      exact rest _ H2 (e1.trans e2) hc (tz := tNext) (hfin _ H2 (e1.trans e2) hc)
end
end K03
set_option Elab.async false
set_option linter.all false
set_option maxRecDepth 100000
set_option maxHeartbeats 2000000
namespace K03
open PySem PySem.Spec PyProof.Rows L2 Evl Wc Wt
def abcd (c : Nat) : Prop := 97 ≤ c ∧ c ≤ 100
/-- texts of the signs, none longer than m -/
def Wd (m : Nat) (ws : List Tx) : Prop := ∀ t ∈ ws, t.length ≤ m ∧ ∀ c ∈ t, abcd c
structure IsLot (lot : List Tx) : Prop where
  ne : lot ≠ []
  few : lot.length ≤ 12
  wd : Wd 12 lot
  pos : ∀ t ∈ lot, t ≠ []
  asc : lot.Pairwise (· < ·)
theorem pw_lt {xs : List Tx} (h : xs.Pairwise (· ≤ ·)) (d : xs.Nodup) : xs.Pairwise (· < ·) := (h.and d).imp fun ⟨a, b⟩ => by
  rcases List.le_iff_lt_or_eq.mp a with z | z
  · exact z
  · exact absurd z b
section
variable {K : PySem.W.Frag} {fa : Addr} {m : Nat} {H H1 H2 : Hp}
def sp_mixed (K : PySem.W.Frag) : Sp := fun vs H Q _ => ∃ (fa p : Addr) (xs : List V), vs = [.ref fa, .ref p] ∧ SqL K H p xs ∧ p ≠ fa ∧ xs.length ≤ 1000 ∧ GF fa xs.length H ∧ ∀ q ys H', ys.Perm xs → H q = none → Rf fa xs.length H H' → H' q = some (.lst ys) → Q (.ref q) H'
def sp_kept (K : PySem.W.Frag) : Sp := fun vs H Q _ => ∃ (fa p : Addr) (ws : List Tx) (most : Nat), vs = [.ref fa, .ref p, .int (most : Int)] ∧ SqL K H p (ws.map T) ∧ p ≠ fa ∧ ws.length ≤ 1000 ∧ Wd 100000 ws ∧ 1 ≤ most ∧ most ≤ 12 ∧ GF fa 1000 H ∧
  ∀ q lot H', IsLot lot → lot.length ≤ most → H q = none → Rf fa 1000 H H' → H' q = some (.tup (lot.map T)) → Q (.ref q) H'
end
section
variable {P : Program} {w : World} {K : PySem.W.Frag} {mg : Str → Option Value} {base : Heap}
theorem ok__law_mixed {f : Addr} {fd : FuncData} (F : Fun K "_law_mixed" "_law_mixed" st__law_mixed f fd) (M : Md K mg) (C__law_draw : Cal P w K mg base "_law_draw" st__law_draw 1 ["feed", "many"] sp_draw) : FnOk P w K mg base CX0 2 f fd ["feed", "things"] (sp_mixed K) := by
  have nd := sc__law_mixed.nd
  refine F.ok sc__law_mixed (fun vs H Q E h => ?_) (fun cdv A outer s H vs Q E hr h => ?_)
  · obtain ⟨_, _, _, rfl, _⟩ := h
    rfl
  · obtain ⟨fa, p, xs, rfl, hp, hne, hl, G, k⟩ := h
    refine ⟨_, (pss_cons (ps_par (i := 2) (j := 3) rfl nd rfl rfl (by decide) rfl rfl (pa_cons (pe_callTy (kcr K (r := rListS) call_list_of) (by rfl) M.n_list boot_list (pa_cons (pv 1) pa_nil)) (pa_cons (pe_lst pa_nil) pa_nil)) (by rfl))
  (pss_cons (ps_for PassesOwn.never rfl (pi_range1 (by rfl) M.n_range (pa_cons (pe_callB (kcr K (r := rLenS) call_len_seq) (by rfl) M.n_len boot_len (pa_cons (pv 1) pa_nil)) pa_nil)) (pg_name (i := 4) nd rfl (Or.inl rfl))
  (pss_one (ps_expr (kbm K (pe_bm PySem.F.plainAttrs_list PySem.F.slot_list_append PySem.F.type_list_append mt_append (pv 3) (pa_cons (kbm K (pe_bm PySem.F.plainAttrs_list PySem.F.slot_list_pop PySem.F.type_list_pop mt_popAt (pv 2) (pa_cons (pe_cl C__law_draw hr (pa_cons (pv 0) (pa_cons (pe_callB (kcr K (r := rLenS) call_len_seq) (by rfl) M.n_len boot_len (pa_cons (pv 2) pa_nil)) pa_nil))) pa_nil))) pa_nil))))))
  (pss_one (ps_ret (pv 3))))), ?_⟩
    refine (el_list (ev_var rfl) hp : EvL _ (start N__law_mixed [.ref fa, .ref p]) H xs) H (Ex.refl _) _ fun pool H1 hpool e1 h1 => ⟨by decide, fun got hgot => ⟨_, _, rfl, ?_⟩⟩
    have npg : pool ≠ got := ne_of_none h1 hgot
    have ngot : H got = none := fresh_back e1 hgot
    have n1 : pool ≠ fa := G.new hpool
    have n2 : got ≠ fa := G.new ngot
    have e2 : Ex H (upd H1 got (.lst [])) := e1.trans (Ex.new hgot)
    have h1' : (upd H1 got (.lst [])) pool = some (.lst xs) := by rw [upd_ne npg]; exact h1
    have h2' : (upd H1 got (.lst [])) got = some (.lst []) := upd_same
    generalize upd H1 got (.lst []) = H2 at e2 h1' h2'
    show tSeq _ _ _ [some (.ref fa), some (.ref p), some (.ref pool), some (.ref got), none] H2
    refine q_forW (fun c => c = fa ∨ c = pool ∨ c = got) (src_range1 (n := xs.length) (ea_cons (ev_len (ev_var rfl) (ex_l e2 hp)) ea_nil) (by omega)) ?_
      (fun Hs i σ' H' => ∃ (ys zs : List V) (v : Option V), σ' = [some (.ref fa), some (.ref p), some (.ref pool), some (.ref got), v] ∧ Exc (fun c => c = fa ∨ c = pool ∨ c = got) Hs H' ∧ Rf fa i H H' ∧ H' pool = some (.lst ys) ∧ H' got = some (.lst zs) ∧ zs.length = i ∧ (zs ++ ys).Perm xs) ?_ ?_ ?_ ?_ ?_
    · rintro c (rfl | rfl | rfl)
      · exact ⟨(G.ex e2).is, fun z => z⟩
      · exact ⟨by rw [h1']; exact fun z => (nomatch z), fun z => z⟩
      · exact ⟨by rw [h2']; exact fun z => (nomatch z), fun z => z⟩
    · intro Hs e
      exact ⟨xs, [], none, rfl, Exc.refl _, Rf.of_ex (e2.trans e), e _ _ h1', e _ _ h2', rfl, List.Perm.refl _⟩
    · rintro Hs i σ' H' ⟨_, _, _, _, h, _⟩
      exact h
    · rintro Hs i σ' Ha Hb ⟨ys, zs, v, h0, h3, h4, h5, h6, h7⟩ e
      exact ⟨ys, zs, v, h0, h3.then e, h4.then e, e _ _ h5, e _ _ h6, h7⟩
    · rintro Hs i x σ' H' e hi ⟨ys, zs, v, rfl, h3, h4, h5, h6, h7, h8⟩ rfl
      have hly := h8.length_eq
      rw [List.length_append] at hly
      show tDrop _ _ [some (.ref fa), some (.ref p), some (.ref pool), some (.ref got), some (.int (i : Int))] H'
      refine ⟨.ref got, rfl, .inl ⟨rfl, zs, sq_of h6⟩, .ref pool, rfl, .inl ⟨rfl, ys, sq_of h5⟩, ?_⟩
      refine wp_draw (many := (ys.length : Int)) rfl (ev_len (ev_var rfl) (sq_of h5)) (G.go h4 (m' := 1) (by omega)) (by omega) (by omega) fun d H3 hd R3 => ?_
      have hd' : d < ys.length := by omega
      have h53 := R3.at_ h5 n1
      refine ⟨pool, ys, (d : Int), d, ys[d], rfl, rfl, h53, by omega, by omega, seqIx_nat hd', List.getElem?_eq_getElem hd', ?_⟩
      · have h63 := R3.at_ h6 n2
        refine ⟨got, zs, ys[d], rfl, rfl, by rw [upd_ne (Ne.symm npg)]; exact h63, sz_lt (by omega), ?_⟩
        have hpm : (ys[d] :: ys.eraseIdx d).Perm ys := erase_perm hd'
        refine ⟨ys.eraseIdx d, zs ++ [ys[d]], _, rfl, ?_, ?_, by rw [upd_ne npg, upd_same], upd_same, by simp [h7], ?_⟩
        · exact ((h3.trans (fun b o nb hb => R3.keep b o (fun z => nb (.inl z)) hb)).upd (.inl (.inr (.inl rfl)))).upd (.inl (.inr (.inr rfl)))
        · exact ((h4.trans R3).upd (fresh_back (Ex.refl H) hpool) G.is).upd ngot G.is
        · refine List.Perm.trans ?_ h8
          rw [List.append_assoc]
          exact List.Perm.append_left zs hpm
    · rintro Hs σ' H' e ⟨ys, zs, v, rfl, h3, h4, h5, h6, h7, h8⟩
      have hly := h8.length_eq
      rw [List.length_append] at hly
      have hy : ys = [] := List.length_eq_zero_iff.mp (by omega)
      subst hy
      rw [List.append_nil] at h8
      exact s_ret (ev_var rfl) fun H3 e3 => k got zs H3 h8 ngot (h4.then e3) (e3 _ _ h6)
theorem ok__law_kept {f : Addr} {fd : FuncData} (F : Fun K "_law_kept" "_law_kept" st__law_kept f fd) (M : Md K mg) (C__law_mixed : Cal P w K mg base "_law_mixed" st__law_mixed 2 ["feed", "things"] (sp_mixed K)) : FnOk P w K mg base CX0 3 f fd ["feed", "words", "most"] (sp_kept K) := by
  have nd := sc__law_kept.nd
  refine F.ok sc__law_kept (fun vs H Q E h => ?_) (fun cdv A outer s H vs Q E hr h => ?_)
  · obtain ⟨_, _, _, _, rfl, _⟩ := h
    rfl
  · obtain ⟨fa, p, ws, most, rfl, hp, hne, hl, hw, hm1, hm2, G, k⟩ := h
    refine ⟨_, (pss_cons (ps_set (i := 3) nd rfl (Or.inl rfl) (pe_callB (ksorted P w K hr.units) (by rfl) M.n_sorted boot_sorted (pa_cons (pe_callTy (kset P w K) (by rfl) M.n_set boot_set (pa_cons (pe_lc (own := [("word", 4)]) rfl nd (kil K (pi_list (pv 1))) (blkOk_by (N := N__law_kept) (sc := defScope st__law_kept) (by decide +kernel)) (fun _ _ _ _ _ => (pg_name (i := 4) nd rfl (Or.inl rfl))) (fun _ _ _ _ _ => (pts_one (pt_chain op_le op_le pe_int (pe_callB cr_lenT (by rfl) M.n_len boot_len (pa_cons (pv 4) pa_nil)) pe_int))) (fun _ _ _ _ _ => (pv 4))) pa_nil)) pa_nil)))
  (pss_cons (ps_set (i := 5) nd rfl (Or.inl rfl) (pe_ifExp (pt_cmpR op_gt (pe_callB (kcr K (r := rLenS) call_len_seq) (by rfl) M.n_len boot_len (pa_cons (pv 3) pa_nil)) (pv 2) (nomark _)) (pe_slice (ksl K (r := rSlL) sl_list) (pe_cl C__law_mixed hr (pa_cons (pv 0) (pa_cons (pv 3) pa_nil))) po_none (po_some (pv 2))) (pv 3)))
  (pss_one (ps_ret (pe_ifExp (pt_cmpR (kop K (r := rNeD) (op_neD hr.units)) (pv 5) (pe_lst pa_nil) (nomark _)) (pe_callTy (kcr K (r := rTupS) call_tuple_of) (by rfl) M.n_tuple boot_tuple (pa_cons (pe_callB (ksorted P w K hr.units) (by rfl) M.n_sorted boot_sorted (pa_cons (pv 5) pa_nil)) pa_nil)) (pe_tup (pa_cons (pe_sT [97, 98]) pa_nil))))))), ?_⟩
    -- good
    have hlc : EvL (tLc (iList K (tVar 1)) (gName 4) (tTest (tChain (rI0 fun i j => .bl (decide (i ≤ j))) (rI0 fun i j => .bl (decide (i ≤ j))) (tC (.int 1)) (tCB rLenT (tCons (tVar 4) tNil)) (tC (.int 12)))) (tVar 4) [4]) (start N__law_kept [.ref fa, .ref p, .int (most : Int)]) H ((ws.filter fun t => decide (1 ≤ (t.length : Int)) && decide ((t.length : Int) ≤ 12)).map T) := by
      refine el_lcF (j := 4) (vs := [4]) (f := T) (g := T) ws (src_listM (ev_var rfl) hp) (by omega) (fun _ => rfl) (fun t H1 e1 ht => ?_) (fun t H1 e1 ht _ => ev_var rfl)
      have := (hw t ht).1
      exact et_test (ev_chain ev_c (ev_cb (ea_cons (ev_var rfl) ea_nil) (rc_lenT (by omega))) rv_I0 ev_c rv_I0)
    have hfl := List.length_filter_le (fun t : Tx => decide (1 ≤ (t.length : Int)) && decide ((t.length : Int) ≤ 12)) ws
    refine el_sortSet hlc (by omega) _ fun pg ys H1 u hly hpg e1 h1 => ?_
    have hys : ∀ t ∈ ys, 1 ≤ t.length ∧ t.length ≤ 12 ∧ ∀ c ∈ t, abcd c := fun t ht => by
      have h := (u.mem t).mp ht
      rw [List.mem_filter, Bool.and_eq_true, decide_eq_true_eq, decide_eq_true_eq] at h
      exact ⟨by omega, by omega, (hw t h.1).2⟩
    have hgl : (sortT ys).length = ys.length := sortT_len ys
    have hgd : (sortT ys).Nodup := (sortT_perm ys).nodup_iff.mpr u.nd
    have hgm : ∀ t ∈ sortT ys, 1 ≤ t.length ∧ t.length ≤ 12 ∧ ∀ c ∈ t, abcd c := fun t ht => hys t (sortT_mem.mp ht)
    generalize sortT ys = good at h1 hgl hgd hgm
    have hn1 : pg ≠ fa := G.new hpg
    show tSeq _ _ _ [some (.ref fa), some (.ref p), some (.int (most : Int)), some (.ref pg), none, none] H1
    -- behind some
    have rest : ∀ (ps : Addr) (some_ : List Tx) H2, Rf fa 1000 H H2 → H2 ps = some (.lst (some_.map T)) → some_.Nodup → some_.length ≤ most → (∀ t ∈ some_, 1 ≤ t.length ∧ t.length ≤ 12 ∧ ∀ c ∈ t, abcd c) → tRet (tIf (tTest (tOp (rNeD K) (tVar 5) (tLst tNil))) (tCB (rTupS K) (tCons (tCB (rSortX K P w) (tCons (tVar 5) tNil)) tNil)) (tTup (tCons (tC (T [97, 98])) tNil))) { nx := fun _ H' => Q .non H', rt := Q } [some (.ref fa), some (.ref p), some (.int (most : Int)), some (.ref pg), none, some (.ref ps)] H2 := fun ps sm H2 R2 h2 hd hlen hg => by
      have G2 : GF fa 0 H2 := G.go R2 (by omega)
      have hdp : ∀ H3, Ex H2 H3 → Dp K H3 (.ref ps) (.list (sm.map dT)) := fun H3 e3 => dp_list (sq_of (e3 _ _ h2)) fun x _ => .str _
      have hlay : (PyData.list (sm.map dT)).canLay0 = true := lay_list fun x hx => lay_T fun c hc => by
        have := ((hg x hx).2.2 c hc).2
        omega
      have heq : PyData.eqv (.list (sm.map dT)) (.list []) = decide (sm = []) := by
        cases sm <;> rfl
      refine s_retIf (b := !decide (sm = [])) (et_test (fun H3 e3 Q3 q3 => (ev_var rfl : Ev (tVar 5) [some (.ref fa), some (.ref p), some (.int (most : Int)), some (.ref pg), none, some (.ref ps)] H2 (.ref ps)) H3 e3 _ fun H4 e4 => (el_lst ea_nil (by decide) : EvL (tLst tNil) [some (.ref fa), some (.ref p), some (.int (most : Int)), some (.ref pg), none, some (.ref ps)] H4 []) H4 (Ex.refl _) _ fun pe H5 hpe e5 h5 => ⟨_, .list [], (hdp H5 ((e3.trans e4).trans e5)), .lst (sq_of h5) .nil, shaped_of hlay (by
        show PyData.depthAll (sm.map dT) + 1 ≤ 64
        have := depth_all (g := dT) (m := 0) (xs := sm) fun x _ => Nat.le_refl _
        omega), by decide, by rw [heq]; exact q3 H5 (e4.trans e5)⟩)) (fun hb H3 e3 => ?_) (fun hb H3 e3 => ?_)
      · have hnn : sm ≠ [] := by simpa using hb
        refine (el_sorted (ev_var rfl) (sq_of (e3 _ _ h2)) : EvL (tCB (rSortX K P w) (tCons (tVar 5) tNil)) [some (.ref fa), some (.ref p), some (.int (most : Int)), some (.ref pg), none, some (.ref ps)] H3 ((sortT sm).map T)) H3 (Ex.refl _) _ fun pq H4 hpq e4 h4 => ⟨pq, _, rfl, .inl ⟨sq_of h4, fun l hl => ?_⟩⟩
        have RR := (R2.then e3).then e4
        refine k l (sortT sm) _ ⟨fun z => hnn ?_, by rw [sortT_len]; omega, fun t ht => ⟨(hg t (sortT_mem.mp ht)).2.1, (hg t (sortT_mem.mp ht)).2.2⟩, fun t ht z => ?_, pw_lt (sortT_pw sm) ((sortT_perm sm).nodup_iff.mpr hd)⟩ (by rw [sortT_len]; exact hlen) (RR.free G.is hl ((G2.ex e3).ex e4).is) (RR.then (Ex.new hl)) upd_same
        · have := sortT_len sm
          rw [z] at this
          exact List.length_eq_zero_iff.mp this.symm
        · have := (hg t (sortT_mem.mp ht)).1
          rw [z] at this
          simp at this
      · refine ⟨by decide, fun l hl => ?_⟩
        have RR := R2.then e3
        refine k l [[97, 98]] _ ⟨by simp, by simp, fun t ht => ?_, fun t ht z => ?_, by simp⟩ hm1 (RR.free G.is hl (G2.ex e3).is) (RR.then (Ex.new hl)) upd_same
        · simp at ht
          subst ht
          exact ⟨by decide, fun c hc => by simp at hc; unfold abcd; omega⟩
        · simp at ht
          rw [z] at ht
          cases ht
    -- some
    have hL : EvT (tTest (tOp (rI0 fun i j => .bl (decide (i > j))) (tCB (rLenS K) (tCons (tVar 3) tNil)) (tVar 2))) [some (.ref fa), some (.ref p), some (.int (most : Int)), some (.ref pg), none, none] H1 (decide ((((good.map T).length : Nat) : Int) > (most : Int))) := et_test (ev_op (ev_len (ev_var rfl) (sq_of h1)) (ev_var rfl) rv_I0)
    refine hL H1 (Ex.refl _) _ fun H2 e2 => ?_
    have e12 : Ex H H2 := e1.trans e2
    have hgl2 : good.length ≤ 1000 := by omega
    by_cases hb : (((good.map T).length : Nat) : Int) > (most : Int)
    · rw [decide_eq_true hb, if_pos rfl]
      refine ⟨.ref fa, rfl, .ref pg, rfl, fa, pg, good.map T, rfl, sq_of (e2 _ _ h1), hn1, by rw [List.length_map]; exact hgl2, (G.ex e12).mono (by rw [List.length_map]; exact hgl2), fun q xs H3 pm hq R3 h3 => ?_⟩
      obtain ⟨zs, rfl, pz⟩ := perm_texts pm
      have R3' : Rf fa 1000 H H3 := (Rf.pre e12 R3).mono (by rw [List.length_map]; exact hgl2)
      have hgz : ∀ t ∈ zs, 1 ≤ t.length ∧ t.length ≤ 12 ∧ ∀ c ∈ t, abcd c := fun t ht => hgm t (pz.mem_iff.mp ht)
      refine ⟨.int (most : Int), rfl, (most : Int), rfl, q, zs.map T, rfl, sq_of h3, fun r hr => ?_⟩
      rw [cutV_to, ← List.map_take]
      exact rest r (zs.take most) _ (R3'.then (Ex.new hr)) upd_same ((pz.nodup_iff.mpr hgd).sublist (List.take_sublist _ _)) (by rw [List.length_take]; omega) fun t ht => hgz t (List.mem_of_mem_take ht)
    · rw [decide_eq_false hb, if_neg Bool.false_ne_true]
      rw [List.length_map] at hb
      exact ⟨.ref pg, rfl, rest pg good H2 ((Rf.of_ex e12).mono (Nat.zero_le _)) (e2 _ _ h1) hgd (by omega) hgm⟩
end
end K03
set_option Elab.async false
set_option linter.all false
set_option maxRecDepth 100000
set_option maxHeartbeats 2000000
namespace K03
open PySem PySem.Spec PyProof.Rows L2 Evl Wc Wt
theorem Wd.mono {m n : Nat} {ws : List Tx} (h : Wd m ws) (hm : m ≤ n) : Wd n ws := fun t ht => ⟨Nat.le_trans (h t ht).1 hm, (h t ht).2⟩
theorem Wd.sub {m : Nat} {ws vs : List Tx} (h : Wd m ws) (hs : ∀ t ∈ vs, t ∈ ws) : Wd m vs := fun t ht => h t (hs t ht)
theorem Wd.app {m : Nat} {ws vs : List Tx} (h : Wd m ws) (h2 : Wd m vs) : Wd m (ws ++ vs) := fun t ht => by
  rcases List.mem_append.mp ht with z | z
  · exact h t z
  · exact h2 t z
section
variable {K : PySem.W.Frag}
def sp_split : Sp := fun vs H Q _ => ∃ (fa : Addr) (s : Tx) (turns : Nat), vs = [.ref fa, T s, .int (turns : Int)] ∧ GF fa turns H ∧ turns ≤ 100 ∧ s ≠ [] ∧ s.length ≤ 4 ∧ (∀ c ∈ s, abcd c) ∧
  ∀ q ws H', ws ≠ [] → ws.length ≤ 13 → Wd 12 ws → H q = none → Rf fa turns H H' → H' q = some (.lst (ws.map T)) → Q (.ref q) H'
def sp_joined : Sp := fun vs H Q _ => ∃ (fa p : Addr) (ws : List Tx) (turns : Nat), vs = [.ref fa, .ref p, .int (turns : Int)] ∧ H p = some (.lst (ws.map T)) ∧ p ≠ fa ∧ GF fa (3 * turns) H ∧ turns ≤ 10 ∧ ws ≠ [] ∧ ws.length ≤ 13 ∧ Wd 12 ws ∧
  ∀ q ws' H', ws' ≠ [] → ws'.length ≤ 30 → Wd 100000 ws' → q ≠ fa → Rf fa (3 * turns) H H' → H' q = some (.lst (ws'.map T)) → Q (.ref q) H'
def sp_made (K : PySem.W.Frag) : Sp := fun vs H Q _ => ∃ (fa c p : Addr) (cs ws : List Tx), vs = [.ref fa, .ref c, .ref p] ∧ GF fa 0 H ∧ H c = some (.lst (cs.map T)) ∧ SqL K H p (ws.map T) ∧ c ≠ fa ∧ p ≠ fa ∧ cs.length ≤ 100 ∧ Wd 10 cs ∧ ws ≠ [] ∧ ws.length ≤ 100 ∧ Wd 1000 ws ∧
  ∀ q vs' H', vs'.length ≤ 100 → Wd 100000 vs' → H q = none → Rf fa 0 H H' → H' q = some (.lst (vs'.map T)) → Q (.ref q) H'
end
section
variable {P : Program} {w : World} {K : PySem.W.Frag} {mg : Str → Option Value} {base : Heap}
theorem ok__law_split {f : Addr} {fd : FuncData} (F : Fun K "_law_split" "_law_split" st__law_split f fd) (M : Md K mg) (C__law_draw : Cal P w K mg base "_law_draw" st__law_draw 1 ["feed", "many"] sp_draw) : FnOk P w K mg base CX0 2 f fd ["feed", "signs", "turns"] sp_split := by
  have nd := sc__law_split.nd
  refine F.ok sc__law_split (fun vs H Q E h => ?_) (fun cdv A outer s H vs Q E hr h => ?_)
  · obtain ⟨_, _, _, rfl, _⟩ := h
    rfl
  · obtain ⟨fa, sg, turns, rfl, G, ht, hs0, hs4, hsc, k⟩ := h
    refine ⟨_, (pss_cons (ps_set (i := 3) nd rfl (Or.inr rfl) (pe_lst (pa_cons (pe_sT []) pa_nil)))
  (pss_cons (ps_for PassesOwn.never rfl (pi_range1 (by rfl) M.n_range (pa_cons (pv 2) pa_nil)) (pg_name (i := 4) nd rfl (Or.inl rfl))
  (pss_cons (ps_set (i := 5) nd rfl (Or.inr rfl) (pe_cl C__law_draw hr (pa_cons (pv 0) (pa_cons (pe_callB (kcr K (r := rLenS) call_len_seq) (by rfl) M.n_len boot_len (pa_cons (pv 3) pa_nil)) pa_nil))))
  (pss_one (ps_if (PW.pt (pw_and (pt_cmpR op_lt (pe_op op_add (pe_callB (kcr K (r := rLenS) call_len_seq) (by rfl) M.n_len boot_len (pa_cons (pv 3) pa_nil)) (pe_callB cr_lenT (by rfl) M.n_len boot_len (pa_cons (pv 1) pa_nil))) pe_int (nomark _)) (pw_and1 (pt_cmpR op_lt (pe_callB cr_lenT (by rfl) M.n_len boot_len (pa_cons (pe_ix (kix K (r := L2.rIxL) ix_list) (pv 3) (pv 5) (fun _ _ => rfl)) pa_nil)) pe_int (nomark _)))))
  (pss_one (ps_set (i := 3) nd rfl (Or.inr rfl) (pe_op op_cat (pe_op op_cat (pe_slice (ksl K (r := rSlL) sl_list) (pv 3) po_none (po_some (pv 5))) (pe_slice (ksl K (r := rSlL) sl_list) (pv 3) (po_some (pe_op op_add (pv 5) pe_int)) po_none)) (pe_lc (own := [("sign", 6)]) rfl nd (pi_str (pv 1)) (blkOk_by (N := N__law_split) (sc := defScope st__law_split) (by decide +kernel)) (fun _ _ _ _ _ => (pg_name (i := 6) nd rfl (Or.inl rfl))) (fun _ _ _ _ _ => pts_nil) (fun _ _ _ _ _ => (pe_op op_addT (pe_ix (kix K (r := L2.rIxL) ix_list) (pv 3) (pv 5) (fun _ _ => rfl)) (pv 6)))))))
  pss_nil))))
  (pss_one (ps_ret (pv 3))))), ?_⟩
    refine q_asgL (xs := [T []]) (el_lst (ea_cons ev_c ea_nil) (by show 1 ≤ 100000; decide)) fun p0 H1 hp0 e1 h1 => ?_
    have n0 : p0 ≠ fa := G.new hp0
    show tSeq _ _ _ [some (.ref fa), some (T sg), some (.int (turns : Int)), some (.ref p0), none, none, none] H1
    refine q_forW (fun c => c = fa) (src_range1 (n := turns) (ea_cons (ev_var rfl) ea_nil) (by omega)) ?_
      (fun Hs i σ' H' => ∃ (p : Addr) (ws : List Tx) (v4 v5 : Option V), σ' = [some (.ref fa), some (T sg), some (.int (turns : Int)), some (.ref p), v4, v5, none] ∧ Exc (fun c => c = fa) Hs H' ∧ Rf fa i H H' ∧ H p = none ∧ H' p = some (.lst (ws.map T)) ∧ ws ≠ [] ∧ ws.length ≤ 13 ∧ Wd 12 ws) ?_ ?_ ?_ ?_ ?_
    · rintro c rfl
      exact ⟨(G.ex e1).is, fun z => z⟩
    · intro Hs e
      exact ⟨p0, [[]], none, none, rfl, Exc.refl _, Rf.of_ex (e1.trans e), hp0, e _ _ h1, by simp, by simp, fun t ht => by simp at ht; subst ht; exact ⟨Nat.zero_le _, fun c hc => nomatch hc⟩⟩
    · rintro Hs i σ' H' ⟨_, _, _, _, _, h, _⟩
      exact h
    · rintro Hs i σ' Ha Hb ⟨p, ws, v4, v5, h0, h2, h3, h4, h5, h6⟩ e
      exact ⟨p, ws, v4, v5, h0, h2.then e, h3.then e, h4, e _ _ h5, h6⟩
    · rintro Hs i x σ' H' e hi ⟨p, ws, v4, v5, rfl, h2, h3, h4, h5, h6, h7, h8⟩ rfl
      have hpos : 0 < ws.length := List.length_pos_iff.mpr h6
      have np : p ≠ fa := G.new h4
      have hlen : ∀ {σ : L2.St} {H' : Hp}, σ[3]? = some (some (.ref p)) → H' p = some (.lst (ws.map T)) → Ev (tCB (rLenS K) (tCons (tVar 3) tNil)) σ H' (.int (ws.length : Int)) := fun h0 hh => ev_is (ev_len (ev_var h0) (sq_of hh)) (by rw [List.length_map])
      show tSeq _ _ _ [some (.ref fa), some (T sg), some (.int (turns : Int)), some (.ref p), some (.int (i : Int)), v5, none] H'
      refine wp_draw (many := (ws.length : Int)) rfl (hlen rfl h5) (G.go h3 (m' := 1) (by omega)) (by omega) (by omega) fun d H3 hd R3 => ?_
      have hd' : d < ws.length := by omega
      have h53 := R3.at_ h5 np
      have h33 : Rf fa (i + 1) H H3 := h3.trans R3
      have hex : Exc (fun c => c = fa) Hs H3 := h2.trans R3.keep
      have hw := h8 ws[d] (List.getElem_mem hd')
      have hix : ∀ {σ : L2.St} {H' : Hp}, σ[3]? = some (some (.ref p)) → σ[5]? = some (some (.int (d : Int))) → H' p = some (.lst (ws.map T)) → Ev (tOp (L2.rIxL K) (tVar 3) (tVar 5)) σ H' (T ws[d]) := fun h0 h1 hh => ev_op (ev_var h0) (ev_var h1) (rv_ixL (sq_of hh) (atI_nat (by rw [List.getElem?_map, List.getElem?_eq_getElem hd']; rfl)))
      refine s_when (σ := [some (.ref fa), some (T sg), some (.int (turns : Int)), some (.ref p), some (.int (i : Int)), some (.int (d : Int)), none]) (et_and (et_test (ev_op (ev_op (hlen rfl h53) (ev_cb (ea_cons (ev_var rfl) ea_nil) (rc_lenT (by omega))) rv_I0) ev_c rv_I0)) fun _ => et_test (ev_op (ev_cb (ea_cons (hix rfl rfl h53) ea_nil) (rc_lenT (by omega))) ev_c rv_I0)) (fun hb H4 e4 => ?_) (fun hb H4 e4 => ?_)
      · rw [Bool.and_eq_true, decide_eq_true_eq, decide_eq_true_eq] at hb
        have h54 := e4 _ _ h53
        have hcat : EvL (tOp rCat (tOp rCat (tSl (rSlL K) (tVar 3) tNoPart (tPart (tVar 5))) (tSl (rSlL K) (tVar 3) (tPart (tOp (rI0 fun i j => .int (i + j)) (tVar 5) (tC (.int 1)))) tNoPart)) (tLc (iStr (tVar 1)) (gName 6) tYes (tOp rAddT (tOp (L2.rIxL K) (tVar 3) (tVar 5)) (tVar 6)) [6])) [some (.ref fa), some (T sg), some (.int (turns : Int)), some (.ref p), some (.int (i : Int)), some (.int (d : Int)), none] H4 ((ws.take d ++ ws.drop (d + 1) ++ sg.map fun c => ws[d] ++ [c]).map T) := by
          have l1 : EvL (tSl (rSlL K) (tVar 3) tNoPart (tPart (tVar 5))) [some (.ref fa), some (T sg), some (.int (turns : Int)), some (.ref p), some (.int (i : Int)), some (.int (d : Int)), none] H4 ((ws.take d).map T) := by
            have := el_sl (K := K) (σ := [some (.ref fa), some (T sg), some (.int (turns : Int)), some (.ref p), some (.int (i : Int)), some (.int (d : Int)), none]) (H := H4) (te := tVar 3) (ev_var rfl) eo_none (eo_some (te := tVar 5) (i := (d : Int)) (ev_var rfl)) (sq_of h54)
            rw [cutV_to, ← List.map_take] at this
            exact this
          have l2 : EvL (tSl (rSlL K) (tVar 3) (tPart (tOp (rI0 fun i j => .int (i + j)) (tVar 5) (tC (.int 1)))) tNoPart) [some (.ref fa), some (T sg), some (.int (turns : Int)), some (.ref p), some (.int (i : Int)), some (.int (d : Int)), none] H4 ((ws.drop (d + 1)).map T) := by
            have := el_sl (K := K) (σ := [some (.ref fa), some (T sg), some (.int (turns : Int)), some (.ref p), some (.int (i : Int)), some (.int (d : Int)), none]) (H := H4) (te := tVar 3) (ev_var rfl) (eo_some (te := tOp (rI0 fun i j => .int (i + j)) (tVar 5) (tC (.int 1))) (i := ((d + 1 : Nat) : Int)) (ev_op (ev_var rfl) ev_c rv_I0)) eo_none (sq_of h54)
            rw [cutV_from, ← List.map_drop] at this
            exact this
          have l3 : EvL (tLc (iStr (tVar 1)) (gName 6) tYes (tOp rAddT (tOp (L2.rIxL K) (tVar 3) (tVar 5)) (tVar 6)) [6]) [some (.ref fa), some (T sg), some (.int (turns : Int)), some (.ref p), some (.int (i : Int)), some (.int (d : Int)), none] H4 (sg.map fun c => T (ws[d] ++ [c])) := el_lcM (j := 6) (vs := [6]) (f := fun c => T [c]) sg (src_str (ev_var rfl)) (by omega) (fun _ => rfl) fun c H5 e5 hc => ev_op (hix rfl rfl (e5 _ _ h54)) (ev_var rfl) (rv_addT (by show _ + 1 ≤ _; omega))
          have := el_catNN (el_catNN l1 l2 (by simp; omega)) l3 (by simp; omega)
          rw [List.map_append, List.map_append, List.map_map]
          exact this
        refine s_asgL hcat fun q H5 hq e5 h5' => ?_
        refine ⟨q, _, _, _, rfl, hex.then (e4.trans e5), (h33.then e4).then e5, ?_, h5', ?_, ?_, ?_⟩
        · exact (h33.then e4).free G.is hq ((G.go (h33.then e4) (m' := 0) (by omega)).is)
        · intro z
          have := congrArg List.length z
          simp at this
          exact hs0 this.2.2
        · simp
          omega
        · refine Wd.app (Wd.app (h8.sub fun t ht => List.mem_of_mem_take ht) (h8.sub fun t ht => List.mem_of_mem_drop ht)) fun t ht => ?_
          obtain ⟨c, hc, rfl⟩ := List.mem_map.mp ht
          refine ⟨by rw [List.length_append]; show _ + 1 ≤ 12; omega, fun c' hc' => ?_⟩
          rcases List.mem_append.mp hc' with z | z
          · exact hw.2 c' z
          · rw [List.mem_singleton.mp z]
            exact hsc c hc
      · exact ⟨p, ws, _, _, rfl, hex.then e4, h33.then e4, h4, e4 _ _ h53, h6, h7, h8⟩
    · rintro Hs σ' H' e ⟨p, ws, v4, v5, rfl, h2, h3, h4, h5, h6, h7, h8⟩
      exact s_ret (ev_var rfl) fun H3 e3 => k p ws H3 h6 h7 h8 h4 (h3.then e3) (e3 _ _ h5)
theorem ok__law_joined {f : Addr} {fd : FuncData} (F : Fun K "_law_joined" "_law_joined" st__law_joined f fd) (M : Md K mg) (C__law_draw : Cal P w K mg base "_law_draw" st__law_draw 1 ["feed", "many"] sp_draw) (C__law_one : Cal P w K mg base "_law_one" st__law_one 2 ["feed", "things"] (sp_one K)) : FnOk P w K mg base CX0 3 f fd ["feed", "words", "turns"] sp_joined := by
  have nd := sc__law_joined.nd
  refine F.ok sc__law_joined (fun vs H Q E h => ?_) (fun cdv A outer s H vs Q E hr h => ?_)
  · obtain ⟨_, _, _, _, rfl, _⟩ := h
    rfl
  · obtain ⟨fa, p0, ws0, turns, rfl, hp0, np0, G, ht, hne0, hl0, hw0, k⟩ := h
    refine ⟨_, (pss_cons (ps_for PassesOwn.never rfl (pi_range1 (by rfl) M.n_range (pa_cons (pv 2) pa_nil)) (pg_name (i := 3) nd rfl (Or.inl rfl))
  (pss_cons (ps_asg (pe_tup (pa_cons (pe_cl C__law_one hr (pa_cons (pv 0) (pa_cons (pv 1) pa_nil))) (pa_cons (pe_cl C__law_one hr (pa_cons (pv 0) (pa_cons (pv 1) pa_nil))) pa_nil))) (kgt K (n := 2) (pg_tup rfl (pgs_cons (pg_name (i := 4) nd rfl (Or.inr rfl)) (pgs_cons (pg_name (i := 5) nd rfl (Or.inl rfl)) pgs_nil)))))
  (pss_cons (ps_set (i := 6) nd rfl (Or.inl rfl) (pe_cl C__law_draw hr (pa_cons (pv 0) (pa_cons pe_int pa_nil))))
  (pss_one (ps_if (pt_cmpR op_eqI (pv 6) pe_int (nomark _))
  (pss_one (ps_set (i := 1) nd rfl (Or.inl rfl) (pe_op op_cat (pv 1) (pe_lst (pa_cons (pe_op op_addT (pv 4) (pv 5)) pa_nil)))))
  (pss_one (ps_if (pt_cmpR op_eqI (pv 6) pe_int (nomark _))
  (pss_one (ps_set (i := 1) nd rfl (Or.inl rfl) (pe_op op_cat (pe_lc (own := [("word", 7)]) rfl nd (kil K (pi_list (pv 1))) (blkOk_by (N := N__law_joined) (sc := defScope st__law_joined) (by decide +kernel)) (fun _ _ _ _ _ => (pg_name (i := 7) nd rfl (Or.inl rfl))) (fun _ _ _ _ _ => (pts_one (pt_cmpR op_neT (pv 7) (pv 4) (nomark _)))) (fun _ _ _ _ _ => (pv 7))) (pe_lst (pa_cons (pe_op op_addT (pv 4) (pv 5)) pa_nil)))))
  (pss_one (ps_if (pt_cmpR op_lt (pe_callB (kcr K (r := rLenS) call_len_seq) (by rfl) M.n_len boot_len (pa_cons (pv 1) pa_nil)) pe_int (nomark _))
  (pss_one (ps_set (i := 1) nd rfl (Or.inl rfl) (pe_op op_cat (pe_lc (own := [("word", 7)]) rfl nd (kil K (pi_list (pv 1))) (blkOk_by (N := N__law_joined) (sc := defScope st__law_joined) (by decide +kernel)) (fun _ _ _ _ _ => (pg_name (i := 7) nd rfl (Or.inl rfl))) (fun _ _ _ _ _ => (pts_one (pt_cmpR op_neT (pv 7) (pv 4) (nomark _)))) (fun _ _ _ _ _ => (pv 7))) (pe_lc (own := [("word", 7)]) rfl nd (kil K (pi_list (pv 1))) (blkOk_by (N := N__law_joined) (sc := defScope st__law_joined) (by decide +kernel)) (fun _ _ _ _ _ => (pg_name (i := 7) nd rfl (Or.inl rfl))) (fun _ _ _ _ _ => pts_nil) (fun _ _ _ _ _ => (pe_op op_addT (pv 4) (pv 7)))))))
  pss_nil)))))))))
  (pss_one (ps_ret (pv 1)))), ?_⟩
    refine q_forW (fun c => c = fa) (src_range1 (n := turns) (ea_cons (ev_var rfl) ea_nil) (by omega)) ?_
      (fun Hs i σ' H' => ∃ (p : Addr) (ws : List Tx) (v3 v4 v5 v6 : Option V), σ' = [some (.ref fa), some (.ref p), some (.int (turns : Int)), v3, v4, v5, v6, none] ∧ Exc (fun c => c = fa) Hs H' ∧ Rf fa (3 * i) H H' ∧ p ≠ fa ∧ H' p = some (.lst (ws.map T)) ∧ ws ≠ [] ∧ ws.length ≤ 13 + i ∧ Wd (12 * 2 ^ i) ws) ?_ ?_ ?_ ?_ ?_
    · rintro c rfl
      exact ⟨G.is, fun z => z⟩
    · intro Hs e
      exact ⟨p0, ws0, none, none, none, none, rfl, Exc.refl _, Rf.of_ex e, np0, e _ _ hp0, hne0, hl0, hw0⟩
    · rintro Hs i σ' H' ⟨_, _, _, _, _, _, _, h, _⟩
      exact h
    · rintro Hs i σ' Ha Hb ⟨p, ws, v3, v4, v5, v6, h0, h2, h3, h4, h5, h6⟩ e
      exact ⟨p, ws, v3, v4, v5, v6, h0, h2.then e, h3.then e, h4, e _ _ h5, h6⟩
    · rintro Hs i x σ' H' e hi ⟨p, ws, v3, v4, v5, v6, rfl, h2, h3, np, h5, h6, h7, h8⟩ rfl
      have hpw : (2 : Nat) ^ i ≤ 1024 := Nat.le_trans (Nat.pow_le_pow_right (by decide) (show i ≤ 10 by omega)) (by decide)
      have hpe : (2 : Nat) ^ (i + 1) = 2 ^ i * 2 := Nat.pow_succ ..
      have hpp : 1 ≤ (2 : Nat) ^ i := Nat.pow_pos (by decide)
      have hxs : ws.map T ≠ [] := fun z => h6 (List.map_eq_nil_iff.mp z)
      have G1 : GF fa 3 H' := G.go h3 (by omega)
      show tSeq _ _ _ [some (.ref fa), some (.ref p), some (.int (turns : Int)), some (.int (i : Int)), v4, v5, v6, none] H'
      refine wp_oneS (xs := ws.map T) rfl (ev_var rfl) (.inl (sq_of h5)) np G1 hxs (by rw [List.length_map]; omega) fun x1 Ha hx1 Ra => wp_oneS (xs := ws.map T) rfl (ev_var rfl) (.inl (sq_of (Ra.at_ h5 np))) np (G1.go Ra (m' := 2) (by omega)) hxs (by rw [List.length_map]; omega) fun x2 Hb hx2 Rb => ⟨by show 2 ≤ sizeLine; decide, fun pt hpt => ⟨pt, _, rfl, st_of upd_same, rfl, x1, [x2], rfl, x2, [], rfl, rfl, ?_⟩⟩
      obtain ⟨a, ha, rfl⟩ := List.mem_map.mp hx1
      obtain ⟨b, hb, rfl⟩ := List.mem_map.mp hx2
      have R2 : Rf fa 2 H' (upd Hb pt (.tup [T a, T b])) := (Ra.trans Rb).then (Ex.new hpt)
      generalize upd Hb pt (.tup [T a, T b]) = H2 at R2 ⊢
      have h52 := R2.at_ h5 np
      show tSeq _ _ _ [some (.ref fa), some (.ref p), some (.int (turns : Int)), some (.int (i : Int)), some (T a), some (T b), v6, none] H2
      refine wp_draw (many := 3) rfl ev_c (G1.go R2 (m' := 1) (by omega)) (by decide) (by decide) fun d H3 hd R3 => ?_
      have h53 := R3.at_ h52 np
      have RR : Rf fa (3 * (i + 1)) H H3 := ((h3.trans R2).trans R3).mono (by omega)
      have XX : Exc (fun c => c = fa) Hs H3 := (h2.trans R2.keep).trans R3.keep
      clear R2 R3 Ra Rb hpt
      have wa := h8 a ha
      have wb := h8 b hb
      have hup : Wd (12 * 2 ^ (i + 1)) ws := h8.mono (by omega)
      have hab : Wd (12 * 2 ^ (i + 1)) [a ++ b] := fun t ht => by
        rw [List.mem_singleton.mp ht]
        exact ⟨by rw [List.length_append]; omega, fun c hc => by
          rcases List.mem_append.mp hc with z | z
          · exact wa.2 c z
          · exact wb.2 c z⟩
      have ab : ∀ {H' : Hp}, EvL (tLst (tCons (tOp rAddT (tVar 4) (tVar 5)) tNil)) [some (.ref fa), some (.ref p), some (.int (turns : Int)), some (.int (i : Int)), some (T a), some (T b), some (.int (d : Int)), none] H' ([a ++ b].map T) := el_lst (ea_cons (ev_op (ev_var rfl) (ev_var rfl) (rv_addT (by omega))) ea_nil) (by show 1 ≤ 100000; decide)
      have but : ∀ {H' : Hp}, H' p = some (.lst (ws.map T)) → EvL (tLc (iList K (tVar 1)) (gName 7) (tTest (tOp rNeT (tVar 7) (tVar 4))) (tVar 7) [7]) [some (.ref fa), some (.ref p), some (.int (turns : Int)), some (.int (i : Int)), some (T a), some (T b), some (.int (d : Int)), none] H' ((ws.filter fun t => !decide (t = a)).map T) := fun hh => el_lcF (j := 7) (vs := [7]) (f := T) (g := T) ws (src_listM (ev_var rfl) (sq_of hh)) (by omega) (fun _ => rfl) (fun t H1 e1 _ => et_test (ev_op (ev_var rfl) (ev_var rfl) rv_neT)) (fun t H1 e1 _ _ => ev_var rfl)
      have hfl := List.length_filter_le (fun t : Tx => !decide (t = a)) ws
      -- a new list of words
      have put : ∀ (vs : List Tx) q H5, Ex H3 H5 → H3 q = none → H5 q = some (.lst (vs.map T)) → vs ≠ [] → vs.length ≤ 13 + (i + 1) → Wd (12 * 2 ^ (i + 1)) vs → ∃ (p' : Addr) (ws' : List Tx) (v3 v4 v5 v6 : Option V), [some (V.ref fa), some (.ref q), some (.int (turns : Int)), some (.int (i : Int)), some (T a), some (T b), some (.int (d : Int)), none] = [some (.ref fa), some (.ref p'), some (.int (turns : Int)), v3, v4, v5, v6, none] ∧ Exc (fun c => c = fa) Hs H5 ∧ Rf fa (3 * (i + 1)) H H5 ∧ p' ≠ fa ∧ H5 p' = some (.lst (ws'.map T)) ∧ ws' ≠ [] ∧ ws'.length ≤ 13 + (i + 1) ∧ Wd (12 * 2 ^ (i + 1)) ws' := fun vs q H5 e5 hq h5' y1 y2 y3 => ⟨q, vs, _, _, _, _, rfl, XX.then e5, RR.then e5, (G.go RR (m' := 0) (by omega)).new hq, h5', y1, y2, y3⟩
      refine s_if (σ := [some (.ref fa), some (.ref p), some (.int (turns : Int)), some (.int (i : Int)), some (T a), some (T b), some (.int (d : Int)), none]) (et_test (ev_op (ev_var rfl) ev_c rv_I0)) (fun hb1 H4 e4 => ?_) (fun hb1 H4 e4 => ?_)
      · have hc := el_catVN (ta := tVar 1) (ev_var (σ := [some (.ref fa), some (.ref p), some (.int (turns : Int)), some (.int (i : Int)), some (T a), some (T b), some (.int (d : Int)), none]) rfl) (e4 _ _ h53) ab (by simp; omega)
        rw [← List.map_append] at hc
        exact s_asgL hc fun q H5 hq e5 h5' => put (ws ++ [a ++ b]) q H5 (e4.trans e5) (fresh_back e4 hq) h5' (by simp) (by simp; omega) (hup.app hab)
      · refine s_if (et_test (ev_op (ev_var rfl) ev_c rv_I0)) (fun hb2 H5 e5 => ?_) (fun hb2 H5 e5 => ?_)
        · have hc := el_catNN (but (e5 _ _ (e4 _ _ h53))) ab (by simp; omega)
          rw [← List.map_append] at hc
          exact s_asgL hc fun q H6 hq e6 h6' => put (ws.filter (fun t => !decide (t = a)) ++ [a ++ b]) q H6 ((e4.trans e5).trans e6) (fresh_back (e4.trans e5) hq) h6' (by simp) (by simp; omega) ((hup.sub fun t ht => (List.mem_filter.mp ht).1).app hab)
        · have h55 := e5 _ _ (e4 _ _ h53)
          refine s_when (et_test (ev_op (ev_len (ev_var rfl) (sq_of h55)) ev_c rv_I0)) (fun hb3 H6 e6 => ?_) (fun hb3 H6 e6 => ?_)
          · have h56 := e6 _ _ h55
            rw [decide_eq_true_eq, List.length_map] at hb3
            have l2 : EvL (tLc (iList K (tVar 1)) (gName 7) tYes (tOp rAddT (tVar 4) (tVar 7)) [7]) [some (.ref fa), some (.ref p), some (.int (turns : Int)), some (.int (i : Int)), some (T a), some (T b), some (.int (d : Int)), none] H6 (ws.map fun t => T (a ++ t)) := el_lcM (j := 7) (vs := [7]) (f := T) ws (src_listM (ev_var rfl) (sq_of h56)) (by omega) (fun _ => rfl) fun t H1 e1 ht => ev_op (ev_var rfl) (ev_var rfl) (rv_addT (by have := (h8 t ht).1; omega))
            have hc := el_catNN (but h56) l2 (by simp; omega)
            have em : ws.map (fun t => T (a ++ t)) = (ws.map fun t => a ++ t).map T := by rw [List.map_map]; rfl
            rw [em, ← List.map_append] at hc
            refine s_asgL hc fun q H7 hq e7 h7' => put _ q H7 (((e4.trans e5).trans e6).trans e7) (fresh_back ((e4.trans e5).trans e6) hq) h7' (fun z => ?_) (by simp; omega) ((hup.sub fun t ht => (List.mem_filter.mp ht).1).app fun t ht => ?_)
            · have := (List.append_eq_nil_iff.mp z).2
              exact h6 (List.map_eq_nil_iff.mp this)
            · obtain ⟨y, hy, rfl⟩ := List.mem_map.mp ht
              have wy := h8 y hy
              exact ⟨by rw [List.length_append]; omega, fun c hc => by
                rcases List.mem_append.mp hc with z | z
                · exact wa.2 c z
                · exact wy.2 c z⟩
          · have h56 := e6 _ _ h55
            exact ⟨p, ws, _, _, _, _, rfl, XX.then ((e4.trans e5).trans e6), RR.then ((e4.trans e5).trans e6), np, h56, h6, by omega, hup⟩
    · rintro Hs σ' H' e ⟨p, ws, v3, v4, v5, v6, rfl, h2, h3, np, h5, h6, h7, h8⟩
      have hpw : (2 : Nat) ^ turns ≤ 1024 := Nat.le_trans (Nat.pow_le_pow_right (by decide) ht) (by decide)
      exact s_ret (ev_var rfl) fun H3 e3 => k p ws H3 h6 (by omega) (h8.mono (by omega)) np (h3.then e3) (e3 _ _ h5)
theorem flat_mem {ts : List Tx} {c : Nat} (h : c ∈ ts.flatten) : ∃ t ∈ ts, c ∈ t := List.mem_flatten.mp h
theorem ok__law_made {f : Addr} {fd : FuncData} (F : Fun K "_law_made" "_law_made" st__law_made f fd) (M : Md K mg) : FnOk P w K mg base CX0 1 f fd ["feed", "code", "words"] (sp_made K) := by
  have nd := sc__law_made.nd
  refine F.ok sc__law_made (fun vs H Q E h => ?_) (fun cdv A outer s H vs Q E hr h => ?_)
  · obtain ⟨_, _, _, _, _, rfl, _⟩ := h
    rfl
  · obtain ⟨fa, pc, pw, cs, ws, rfl, G, hc, hp, nc, np, hcl, hcw, hne, hwl, hww, k⟩ := h
    refine ⟨_, (pss_cons (ps_set (i := 3) nd rfl (Or.inl rfl) (pe_lst pa_nil))
  (pss_cons (ps_for PassesOwn.never rfl (kil K (pi_list (pv 1))) (pg_name (i := 4) nd rfl (Or.inl rfl))
  (pss_one (ps_expr (kbm K (pe_bm PySem.F.plainAttrs_list PySem.F.slot_list_append PySem.F.type_list_append mt_append (pv 3) (pa_cons (kbm K (pe_bm PySem.F.plainAttrs_str PySem.F.slot_str_join PySem.F.type_str_join (kmt K (r := rJoinT) mt_joinT) (pe_sT []) (pa_cons (pe_lc (own := [("sign", 5)]) rfl nd (pi_str (pv 4)) (blkOk_by (N := N__law_made) (sc := defScope st__law_made) (by decide +kernel)) (fun _ _ _ _ _ => (pg_name (i := 5) nd rfl (Or.inl rfl))) (fun _ _ _ _ _ => pts_nil) (fun _ _ _ _ _ => (pe_ix (kix K (r := L2.rIxL) ix_list) (pv 2) (pe_op op_modP (pe_callTy call_int1 (by rfl) M.n_int boot_int (pa_cons (kbm K (pe_bm PySem.F.plainAttrs_str PySem.F.slot_str_find PySem.F.type_str_find mt_findT (pe_sT [97, 98, 99, 100]) (pa_cons (pv 5) pa_nil))) pa_nil)) (pe_callB (kcr K (r := rLenS) call_len_seq) (by rfl) M.n_len boot_len (pa_cons (pv 2) pa_nil))) (fun _ _ => rfl)))) pa_nil))) pa_nil))))))
  (pss_one (ps_ret (pv 3))))), ?_⟩
    have hpos : 0 < ws.length := List.length_pos_iff.mpr hne
    refine q_asgL (xs := []) (el_lst ea_nil (by decide)) fun pm H1 hpm e1 h1 => ?_
    have nm : pm ≠ fa := G.new hpm
    show tSeq _ _ _ [some (.ref fa), some (.ref pc), some (.ref pw), some (.ref pm), none, none] H1
    have nmc : pm ≠ pc := fun z => by rw [z, hc] at hpm; cases hpm
    refine q_forW (fun c => c = fa ∨ c = pm) (own := fun b => b = pc) (n := cs.length) (P := fun i v _ => (cs.map T)[i]? = some v) (src_listM (ev_var rfl) (sq_of (e1 _ _ hc))) ?_
      (fun Hs i σ' H' => ∃ (vs : List Tx) (v4 v5 : Option V), σ' = [some (.ref fa), some (.ref pc), some (.ref pw), some (.ref pm), v4, none] ∧ Exc (fun c => c = fa ∨ c = pm) Hs H' ∧ Rf fa 0 H H' ∧ H' pm = some (.lst (vs.map T)) ∧ vs.length = i ∧ Wd 100000 vs) ?_ ?_ ?_ ?_ ?_
    · rintro c (rfl | rfl)
      · exact ⟨(G.ex e1).is, fun z => nc z.symm⟩
      · exact ⟨by rw [h1]; exact fun z => (nomatch z), nmc⟩
    · intro Hs e
      exact ⟨[], none, none, rfl, Exc.refl _, Rf.of_ex (e1.trans e), e _ _ h1, rfl, fun t ht => nomatch ht⟩
    · rintro Hs i σ' H' ⟨_, _, _, _, h, _⟩
      exact h
    · rintro Hs i σ' Ha Hb ⟨vs, v4, v5, h0, h2, h3, h4, h5⟩ e
      exact ⟨vs, v4, v5, h0, h2.then e, h3.then e, e _ _ h4, h5⟩
    · rintro Hs i x σ' H' e hi ⟨vs, v4, v5, rfl, h2, h3, h4, h5, h6⟩ hx
      obtain ⟨cd, hcd, rfl⟩ := at_map hx
      have hm := hcw cd (List.mem_of_getElem? hcd)
      have G1 : GF fa 0 H' := G.go h3 (by omega)
      have hpw : SqL K H' pw (ws.map T) := h3.l np hp
      show tDrop _ _ [some (.ref fa), some (.ref pc), some (.ref pw), some (.ref pm), some (T cd), none] H'
      refine ⟨.ref pm, rfl, .inl ⟨rfl, vs.map T, sq_of h4⟩, rfl, ?_⟩
      refine lcD (fa := fa) (own := fun _ => False) (n := cd.length) (P := fun i v _ => (cd.map fun c => T [c])[i]? = some v) (fun v => ∃ t, v = T t ∧ (t.length ≤ 1000 ∧ ∀ c ∈ t, abcd c)) 0 G1.is (src_str (ev_var rfl)) (fun z => z) (by omega) (fun _ => rfl) (fun j y H2 hj hy R2 Q2 q2 => ?_) fun p H2 acc hp2 R2 h2' hal hg => ?_
      · obtain ⟨c, hc', rfl⟩ := at_map hy
        have hpw2 := R2.l np hpw
        refine ⟨.ref pw, rfl, rfl, T [c], rfl, _, _, rfl, rfl, fun r hr => .inl ⟨r, rfl, ?_⟩⟩
        refine (ev_len (ev_var rfl) hpw2 : Ev (tCB (rLenS K) (tCons (tVar 2) tNil)) _ H2 _) H2 (Ex.refl _) _ fun H3 e3 => ?_
        rw [List.length_map]
        have h0 : 0 ≤ r % (ws.length : Int) := Int.emod_nonneg _ (by omega)
        have h1 : r % (ws.length : Int) < (ws.length : Int) := Int.emod_lt_of_pos _ (by omega)
        obtain ⟨m, hm'⟩ := Int.eq_ofNat_of_zero_le h0
        have hml : m < ws.length := by omega
        refine ⟨r, _, rfl, rfl, by show (0 : Int) < _; omega, pw, _, _, T ws[m], rfl, rfl, ex_l e3 hpw2, ?_, q2 _ H3 ⟨_, rfl, hww _ (List.getElem_mem hml)⟩ (Rf.of_ex e3)⟩
        rw [hm']
        exact atI_nat (by rw [List.getElem?_map, List.getElem?_eq_getElem hml]; rfl)
      · obtain ⟨ts, rfl, hts⟩ := texts_of hg
        rw [List.length_map] at hal
        have hsum := sum_le (m := 1000) fun t ht => (hts t ht).1
        have hfl : ts.flatten.length ≤ 10000 := by rw [flat_len]; omega
        have h42 := R2.at_ h4 nm
        refine ⟨[], p, ts, rfl, rfl, .inl (sq_of h2'), by simp; omega, ?_⟩
        rw [joinL_nil]
        refine ⟨pm, vs.map T, T ts.flatten, rfl, rfl, h42, sz_lt (by rw [List.length_map]; omega), ?_⟩
        refine ⟨vs ++ [ts.flatten], _, none, rfl, ?_, ((h3.trans R2).upd hpm G.is).mono (by omega), by rw [upd_same, List.map_append]; rfl, by simp [h5], h6.app fun t ht => ?_⟩
        · exact (h2.trans (fun b o nb hb => R2.keep b o (fun z => nb (.inl z)) hb)).upd (.inl (.inr rfl))
        · rw [List.mem_singleton.mp ht]
          refine ⟨by omega, fun c hc' => ?_⟩
          obtain ⟨t, ht, hct⟩ := flat_mem hc'
          exact (hts t ht).2 c hct
    · rintro Hs σ' H' e ⟨vs, v4, v5, rfl, h2, h3, h4, h5, h6⟩
      exact s_ret (ev_var rfl) fun H3 e3 => k pm vs H3 (by omega) h6 hpm (h3.then e3) (e3 _ _ h4)
end
end K03
set_option Elab.async false
set_option linter.all false
set_option maxRecDepth 100000
set_option maxHeartbeats 2000000
namespace K03
open PySem PySem.Spec PyProof.Rows L2 Evl Wc Wt
/-- a displayed list of texts that is good -/
def goodT (v : V) : Bool := match v with
  | .str x => decide (x.cps.toList.length ≤ 5) && x.cps.toList.all fun c => decide (97 ≤ c) && decide (c ≤ 100)
  | _ => false
def goodL (xs : List V) : Bool := decide (1 ≤ xs.length) && decide (xs.length ≤ 6) && xs.all goodT
theorem goodL_is {xs : List V} (h : goodL xs = true) : ∃ ts : List Tx, xs = ts.map T ∧ ts ≠ [] ∧ ts.length ≤ 6 ∧ Wd 5 ts := by
  unfold goodL at h
  rw [Bool.and_eq_true, Bool.and_eq_true, decide_eq_true_eq, decide_eq_true_eq, List.all_eq_true] at h
  obtain ⟨⟨h1, h2⟩, h3⟩ := h
  obtain ⟨ts, rfl, ht⟩ := texts_of (acc := xs) (g := fun t => t.length ≤ 5 ∧ ∀ c ∈ t, abcd c) fun v hv => by
    have hg := h3 v hv
    cases v with
    | str x =>
      have hg' : (decide (x.cps.toList.length ≤ 5) && x.cps.toList.all fun c => decide (97 ≤ c) && decide (c ≤ 100)) = true := hg
      rw [Bool.and_eq_true, decide_eq_true_eq, List.all_eq_true] at hg'
      refine ⟨x.cps.toList, rfl, hg'.1, fun c hc => ?_⟩
      have := hg'.2 c hc
      rw [Bool.and_eq_true, decide_eq_true_eq, decide_eq_true_eq] at this
      exact this
    | _ => exact absurd hg (by simp [goodT])
  rw [List.length_map] at h1 h2
  exact ⟨ts, rfl, fun z => by rw [z] at h1; simp at h1, h2, ht⟩
/-- references to new lists of texts -/
def ListsAt (xs : List V) (H0 H : Hp) : Prop := ∀ v ∈ xs, ∃ (q : Addr) (ts : List Tx), v = .ref q ∧ H q = some (.lst (ts.map T)) ∧ (ts ≠ [] ∧ ts.length ≤ 6 ∧ Wd 5 ts) ∧ H0 q = none
def LA (ta : TA) (σ : L2.St) (n : Nat) : Prop := ∀ H (Q : List V → Hp → Prop), (∀ xs H1, Ex H H1 → xs.length = n → ListsAt xs H H1 → Q xs H1) → ta σ H Q
theorem la_nil {σ : L2.St} : LA tNil σ 0 := fun H Q q => q [] H (Ex.refl _) rfl fun v hv => nomatch hv
theorem la_cons {σ : L2.St} {te : TE} {tr : TA} {xs : List V} {n : Nat} (h : ∀ H, EvL te σ H xs) (hg : goodL xs = true) (hr : LA tr σ n) : LA (tCons te tr) σ (n + 1) := fun H Q q =>
  h H H (Ex.refl _) _ fun p H1 hp e1 h1 => hr H1 _ fun vs H2 e2 hl hA => q _ H2 (e1.trans e2) (by rw [List.length_cons, hl]) fun v hv => by
    rcases List.mem_cons.mp hv with rfl | hv
    · obtain ⟨ts, rfl, hts⟩ := goodL_is hg
      exact ⟨p, ts, rfl, e2 _ _ h1, hts, hp⟩
    · obtain ⟨r, ts, rfl, h3, h4, h5⟩ := hA v hv
      exact ⟨r, ts, rfl, h3, h4, fresh_back e1 h5⟩
theorem LA.lst {σ : L2.St} {ta : TA} {n : Nat} (h : LA ta σ n) (hn : n ≤ 1000) {H : Hp} (Q : VK) (k : ∀ p xs H1, Ex H H1 → xs.length = n → H p = none → H1 p = some (.lst xs) → ListsAt xs H H1 → Q (.ref p) H1) : tLst ta σ H Q :=
  h H _ fun xs H1 e1 hl A => ⟨by rw [hl]; exact sz_of (by omega), fun p hp => k p xs _ (e1.trans (Ex.new hp)) hl (fresh_back e1 hp) upd_same fun v hv => by
    obtain ⟨r, ts, rfl, h3, h4, h5⟩ := A v hv
    exact ⟨r, ts, rfl, Ex.new hp _ _ h3, h4, h5⟩⟩
theorem LA.cat {σ : L2.St} {ta : TA} {n j : Nat} {p : Addr} {xs : List V} (h : LA ta σ n) (hn : n ≤ 1000) (hx : xs.length ≤ 1000) {H : Hp} (h0 : σ[j]? = some (some (.ref p))) (hp : H p = some (.lst xs)) (Q : VK) (k : ∀ q ys H1, Ex H H1 → ys.length = n → H q = none → H1 q = some (.lst (xs ++ ys)) → ListsAt ys H H1 → Q (.ref q) H1) : tOp rCat (tVar j) (tLst ta) σ H Q :=
  ⟨.ref p, h0, h.lst hn _ fun r ys H1 e1 hl hr h1 A => ⟨p, r, xs, ys, rfl, rfl, e1 _ _ hp, h1, by rw [hl]; exact sz_of (by omega), fun q hq => k q ys _ (e1.trans (Ex.new hq)) hl (fresh_back e1 hq) upd_same fun v hv => by
    obtain ⟨r, ts, rfl, h3, h4, h5⟩ := A v hv
    exact ⟨r, ts, rfl, Ex.new hq _ _ h3, h4, h5⟩⟩⟩
theorem ListsAt.go {xs : List V} {H0 H H1 : Hp} (A : ListsAt xs H0 H) (e : Ex H H1) : ListsAt xs H0 H1 := fun v hv => by
  obtain ⟨r, ts, rfl, h3, h4, h5⟩ := A v hv
  exact ⟨r, ts, rfl, e _ _ h3, h4, h5⟩
theorem ListsAt.back {xs : List V} {H0 H1 H : Hp} (A : ListsAt xs H1 H) (e : Ex H0 H1) : ListsAt xs H0 H := fun v hv => by
  obtain ⟨r, ts, rfl, h3, h4, h5⟩ := A v hv
  exact ⟨r, ts, rfl, h3, h4, fresh_back e h5⟩
theorem ListsAt.app {xs ys : List V} {H0 H : Hp} (A : ListsAt xs H0 H) (B : ListsAt ys H0 H) : ListsAt (xs ++ ys) H0 H := fun v hv => (List.mem_append.mp hv).elim (A v) (B v)
theorem q_LA {σ : L2.St} {ta : TA} {n i : Nat} {tz : TS} {D : Ends} {H : Hp} (h : LA ta σ n) (hn : n ≤ 1000) (k : ∀ p xs H1, Ex H H1 → xs.length = n → H p = none → H1 p = some (.lst xs) → ListsAt xs H H1 → tz D (σ.set i (some (.ref p))) H1) : tSeq (tAsg (tLst ta) (gName i)) tz D σ H := h.lst hn (fun v H1 => tz D (σ.set i (some v)) H1) k
theorem q_catLA {σ : L2.St} {ta : TA} {n i j : Nat} {tz : TS} {D : Ends} {H : Hp} {p : Addr} {xs : List V} (h : LA ta σ n) (hn : n ≤ 1000) (hx : xs.length ≤ 1000) (h0 : σ[j]? = some (some (.ref p))) (hp : H p = some (.lst xs)) (k : ∀ q ys H1, Ex H H1 → ys.length = n → H q = none → H1 q = some (.lst (xs ++ ys)) → ListsAt ys H H1 → tz D (σ.set i (some (.ref q))) H1) : tSeq (tAsg (tOp rCat (tVar j) (tLst ta)) (gName i)) tz D σ H := h.cat hn hx h0 hp (fun v H1 => tz D (σ.set i (some v)) H1) k
theorem s_oneLA {K : PySem.W.Frag} {σ : L2.St} {ta : TA} {n i j : Nat} {D : Ends} {H : Hp} {p fa : Addr} {xs : List V} (h : LA ta σ n) (hn : n ≤ 1000) (hx : xs.length ≤ 1000) (hx0 : xs ≠ []) (hf : σ[i]? = some (some (.ref fa))) (h0 : σ[j]? = some (some (.ref p))) (hp : H p = some (.lst xs)) (G : GF fa 1 H) (k : ∀ v ys H1 H2, Ex H H1 → ListsAt ys H H1 → v ∈ xs ++ ys → Rf fa 1 H1 H2 → D.rt v H2) :
    tRet (tCall (sp_one K) [] E0 (tCons (tVar i) (tCons (tOp rCat (tVar j) (tLst ta)) tNil))) D σ H :=
  ⟨.ref fa, hf, h.cat hn hx h0 hp _ fun q ys H1 e1 hl hq h1 A => ⟨fa, G.ex e1, .inr ⟨q, xs ++ ys, rfl, .inl (sq_of h1), G.new hq, fun z => hx0 (List.append_eq_nil_iff.mp z).1, by rw [List.length_append, hl]; omega, fun v H2 hv R => k v ys H1 H2 e1 A hv R⟩⟩⟩
section
variable {P : Program} {w : World} {K : PySem.W.Frag} {mg : Str → Option Value} {base : Heap}
def sp_code : Sp := fun vs H Q _ => ∃ (fa : Addr), vs = [.ref fa] ∧ GF fa 1 H ∧ ∀ q ts H', ts ≠ [] → ts.length ≤ 6 → Wd 5 ts → H q = none → Rf fa 1 H H' → H' q = some (.lst (ts.map T)) → Q (.ref q) H'
theorem ok__law_code {f : Addr} {fd : FuncData} (F : Fun K "_law_code" "_law_code" st__law_code f fd) (M : Md K mg) (C__law_one : Cal P w K mg base "_law_one" st__law_one 2 ["feed", "things"] (sp_one K)) : FnOk P w K mg base CX0 3 f fd ["feed"] sp_code := by
  have nd := sc__law_code.nd
  refine F.ok sc__law_code (fun vs H Q E h => ?_) (fun cdv A outer s H vs Q E hr h => ?_)
  · obtain ⟨_, rfl, _⟩ := h
    rfl
  · obtain ⟨fa, rfl, G, k⟩ := h
    refine ⟨_, (pss_cons (ps_set (i := 1) nd rfl (Or.inl rfl) (pe_lst (pa_cons (pe_lst (pa_cons (pe_sT [97]) (pa_cons (pe_sT [97, 98]) (pa_cons (pe_sT [98, 98]) pa_nil)))) (pa_cons (pe_lst (pa_cons (pe_sT [97]) (pa_cons (pe_sT [97, 98]) (pa_cons (pe_sT [98, 97]) pa_nil)))) (pa_cons (pe_lst (pa_cons (pe_sT [97, 97]) (pa_cons (pe_sT [97, 98]) (pa_cons (pe_sT [98]) pa_nil)))) (pa_cons (pe_lst (pa_cons (pe_sT [97]) (pa_cons (pe_sT [98, 97]) (pa_cons (pe_sT [98, 98]) pa_nil)))) (pa_cons (pe_lst (pa_cons (pe_sT [97]) (pa_cons (pe_sT [97, 98, 97]) (pa_cons (pe_sT [98, 98]) pa_nil)))) (pa_cons (pe_lst (pa_cons (pe_sT [97, 98]) (pa_cons (pe_sT [97, 98, 98]) (pa_cons (pe_sT [98, 97, 97]) pa_nil)))) (pa_cons (pe_lst (pa_cons (pe_sT [97, 97]) (pa_cons (pe_sT [98, 97]) (pa_cons (pe_sT [98, 98]) (pa_cons (pe_sT [98, 97, 97]) (pa_cons (pe_sT [98, 98, 97]) pa_nil)))))) pa_nil)))))))))
  (pss_cons (ps_set (i := 1) nd rfl (Or.inl rfl) (pe_op op_cat (pv 1) (pe_lst (pa_cons (pe_lst (pa_cons (pe_sT [97, 98]) (pa_cons (pe_sT [98, 97]) (pa_cons (pe_sT [97, 97, 98]) (pa_cons (pe_sT [98, 98, 97]) (pa_cons (pe_sT [97, 98, 98, 97]) pa_nil)))))) (pa_cons (pe_lst (pa_cons (pe_sT [97]) (pa_cons (pe_sT [97, 97]) pa_nil))) (pa_cons (pe_lst (pa_cons (pe_sT [97, 97]) (pa_cons (pe_sT [97, 97, 97]) pa_nil))) (pa_cons (pe_lst (pa_cons (pe_sT [97, 98, 99]) (pa_cons (pe_sT [98, 99, 97]) (pa_cons (pe_sT [99]) (pa_cons (pe_sT [97, 98]) pa_nil))))) (pa_cons (pe_lst (pa_cons (pe_sT [97]) (pa_cons (pe_sT [99]) (pa_cons (pe_sT [97, 100]) (pa_cons (pe_sT [97, 98, 98]) (pa_cons (pe_sT [98, 97, 100]) (pa_cons (pe_sT [100, 98, 98]) pa_nil))))))) (pa_cons (pe_lst (pa_cons (pe_sT [98]) (pa_cons (pe_sT [97, 98, 98]) (pa_cons (pe_sT [97, 98, 98, 97]) (pa_cons (pe_sT [98, 98, 97]) pa_nil))))) pa_nil)))))))))
  (pss_one (ps_ret (pe_cl C__law_one hr (pa_cons (pv 0) (pa_cons (pe_op op_cat (pv 1) (pe_lst (pa_cons (pe_lst (pa_cons (pe_sT [97, 98]) (pa_cons (pe_sT [97, 97, 98]) (pa_cons (pe_sT [97, 97, 98, 98]) (pa_cons (pe_sT [98, 98, 97, 97]) (pa_cons (pe_sT [97, 98, 97, 98]) pa_nil)))))) (pa_cons (pe_lst (pa_cons (pe_sT [97]) (pa_cons (pe_sT [98]) (pa_cons (pe_sT [99]) (pa_cons (pe_sT [100]) pa_nil))))) (pa_cons (pe_lst (pa_cons (pe_sT [97]) (pa_cons (pe_sT [98]) (pa_cons (pe_sT [97, 98]) pa_nil)))) (pa_cons (pe_lst (pa_cons (pe_sT [97, 98, 97, 98]) (pa_cons (pe_sT [97, 98]) (pa_cons (pe_sT [98, 97]) pa_nil)))) (pa_cons (pe_lst (pa_cons (pe_sT [97, 97, 98]) (pa_cons (pe_sT [97, 98]) (pa_cons (pe_sT [97, 98, 97, 97, 98]) pa_nil)))) pa_nil))))))) pa_nil))))))), ?_⟩
    have l1 : LA _ (start N__law_code [.ref fa]) 7 := (la_cons (fun _ => el_lst (ea_cons (ev_c (v := T [97])) (ea_cons (ev_c (v := T [97, 98])) (ea_cons (ev_c (v := T [98, 98])) ea_nil))) (by show 3 ≤ 100000; decide)) (by rfl) (la_cons (fun _ => el_lst (ea_cons (ev_c (v := T [97])) (ea_cons (ev_c (v := T [97, 98])) (ea_cons (ev_c (v := T [98, 97])) ea_nil))) (by show 3 ≤ 100000; decide)) (by rfl) (la_cons (fun _ => el_lst (ea_cons (ev_c (v := T [97, 97])) (ea_cons (ev_c (v := T [97, 98])) (ea_cons (ev_c (v := T [98])) ea_nil))) (by show 3 ≤ 100000; decide)) (by rfl) (la_cons (fun _ => el_lst (ea_cons (ev_c (v := T [97])) (ea_cons (ev_c (v := T [98, 97])) (ea_cons (ev_c (v := T [98, 98])) ea_nil))) (by show 3 ≤ 100000; decide)) (by rfl) (la_cons (fun _ => el_lst (ea_cons (ev_c (v := T [97])) (ea_cons (ev_c (v := T [97, 98, 97])) (ea_cons (ev_c (v := T [98, 98])) ea_nil))) (by show 3 ≤ 100000; decide)) (by rfl) (la_cons (fun _ => el_lst (ea_cons (ev_c (v := T [97, 98])) (ea_cons (ev_c (v := T [97, 98, 98])) (ea_cons (ev_c (v := T [98, 97, 97])) ea_nil))) (by show 3 ≤ 100000; decide)) (by rfl) (la_cons (fun _ => el_lst (ea_cons (ev_c (v := T [97, 97])) (ea_cons (ev_c (v := T [98, 97])) (ea_cons (ev_c (v := T [98, 98])) (ea_cons (ev_c (v := T [98, 97, 97])) (ea_cons (ev_c (v := T [98, 98, 97])) ea_nil))))) (by show 5 ≤ 100000; decide)) (by rfl) la_nil)))))))
    refine q_LA l1 (by decide) fun p1 xs H1 e1 n1 hp1 h1 A1 => ?_
    show tSeq _ _ _ [some (.ref fa), some (.ref p1)] H1
    have l2 : LA _ [some (.ref fa), some (.ref p1)] 6 := (la_cons (fun _ => el_lst (ea_cons (ev_c (v := T [97, 98])) (ea_cons (ev_c (v := T [98, 97])) (ea_cons (ev_c (v := T [97, 97, 98])) (ea_cons (ev_c (v := T [98, 98, 97])) (ea_cons (ev_c (v := T [97, 98, 98, 97])) ea_nil))))) (by show 5 ≤ 100000; decide)) (by rfl) (la_cons (fun _ => el_lst (ea_cons (ev_c (v := T [97])) (ea_cons (ev_c (v := T [97, 97])) ea_nil)) (by show 2 ≤ 100000; decide)) (by rfl) (la_cons (fun _ => el_lst (ea_cons (ev_c (v := T [97, 97])) (ea_cons (ev_c (v := T [97, 97, 97])) ea_nil)) (by show 2 ≤ 100000; decide)) (by rfl) (la_cons (fun _ => el_lst (ea_cons (ev_c (v := T [97, 98, 99])) (ea_cons (ev_c (v := T [98, 99, 97])) (ea_cons (ev_c (v := T [99])) (ea_cons (ev_c (v := T [97, 98])) ea_nil)))) (by show 4 ≤ 100000; decide)) (by rfl) (la_cons (fun _ => el_lst (ea_cons (ev_c (v := T [97])) (ea_cons (ev_c (v := T [99])) (ea_cons (ev_c (v := T [97, 100])) (ea_cons (ev_c (v := T [97, 98, 98])) (ea_cons (ev_c (v := T [98, 97, 100])) (ea_cons (ev_c (v := T [100, 98, 98])) ea_nil)))))) (by show 6 ≤ 100000; decide)) (by rfl) (la_cons (fun _ => el_lst (ea_cons (ev_c (v := T [98])) (ea_cons (ev_c (v := T [97, 98, 98])) (ea_cons (ev_c (v := T [97, 98, 98, 97])) (ea_cons (ev_c (v := T [98, 98, 97])) ea_nil)))) (by show 4 ≤ 100000; decide)) (by rfl) la_nil))))))
    refine q_catLA l2 (by decide) (by rw [n1]; decide) rfl h1 fun p3 ys H2 e2 n2 hp3 h3 A2 => ?_
    show tRet _ _ [some (.ref fa), some (.ref p3)] H2
    have l3 : LA _ [some (.ref fa), some (.ref p3)] 5 := (la_cons (fun _ => el_lst (ea_cons (ev_c (v := T [97, 98])) (ea_cons (ev_c (v := T [97, 97, 98])) (ea_cons (ev_c (v := T [97, 97, 98, 98])) (ea_cons (ev_c (v := T [98, 98, 97, 97])) (ea_cons (ev_c (v := T [97, 98, 97, 98])) ea_nil))))) (by show 5 ≤ 100000; decide)) (by rfl) (la_cons (fun _ => el_lst (ea_cons (ev_c (v := T [97])) (ea_cons (ev_c (v := T [98])) (ea_cons (ev_c (v := T [99])) (ea_cons (ev_c (v := T [100])) ea_nil)))) (by show 4 ≤ 100000; decide)) (by rfl) (la_cons (fun _ => el_lst (ea_cons (ev_c (v := T [97])) (ea_cons (ev_c (v := T [98])) (ea_cons (ev_c (v := T [97, 98])) ea_nil))) (by show 3 ≤ 100000; decide)) (by rfl) (la_cons (fun _ => el_lst (ea_cons (ev_c (v := T [97, 98, 97, 98])) (ea_cons (ev_c (v := T [97, 98])) (ea_cons (ev_c (v := T [98, 97])) ea_nil))) (by show 3 ≤ 100000; decide)) (by rfl) (la_cons (fun _ => el_lst (ea_cons (ev_c (v := T [97, 97, 98])) (ea_cons (ev_c (v := T [97, 98])) (ea_cons (ev_c (v := T [97, 98, 97, 97, 98])) ea_nil))) (by show 3 ≤ 100000; decide)) (by rfl) la_nil)))))
    have e12 := e1.trans e2
    refine s_oneLA l3 (by decide) (by rw [List.length_append, n1, n2]; decide) (fun z => by have := congrArg List.length z; rw [List.length_append, n1, n2] at this; cases this) rfl rfl h3 (G.ex e12) fun v zs H3 H4 e3 A3 hv R => ?_
    have AA := (((A1.go e2).app (A2.back e1)).go e3).app (A3.back e12)
    obtain ⟨q, ts, rfl, h4, ⟨h5, h6, h7⟩, h8⟩ := AA v hv
    exact k q ts H4 h5 h6 h7 h8 (.pre (e12.trans e3) R) (R.at_ h4 (G.new h8))
end
end K03
set_option Elab.async false
set_option linter.all false
set_option maxRecDepth 100000
set_option maxHeartbeats 4000000
namespace K03
open PySem PySem.Spec PyProof.Rows L2 Evl Wc Wt
section
variable {K : PySem.W.Frag} {fa : Addr} {m : Nat} {H : Hp} {σ : L2.St}
def sp_lot : Sp := fun vs H Q _ => ∃ (fa : Addr) (most : Nat), vs = [.ref fa, .int (most : Int)] ∧ 1 ≤ most ∧ most ≤ 12 ∧ GF fa 20000 H ∧ ∀ q lot H', IsLot lot → lot.length ≤ most → H q = none → Rf fa 20000 H H' → H' q = some (.tup (lot.map T)) → Q (.ref q) H'
/-- words are made -/
def WL (fa : Addr) (σ : L2.St) (H : Hp) (m : Nat) (te : TE) : Prop := ∀ Q' : VK, (∀ p ws H1, Wd 100000 ws → ws.length ≤ 1000 → p ≠ fa → Rf fa m H H1 → H1 p = some (.lst (ws.map T)) → Q' (.ref p) H1) → te σ H Q'
theorem s_kept {D : Ends} {tw : TE} {most : Nat} (hW : WL fa σ H m tw) (h0 : σ[0]? = some (some (.ref fa))) (h1 : σ[1]? = some (some (.int (most : Int)))) (hm1 : 1 ≤ most) (hm2 : most ≤ 12) (G : GF fa (m + 1000) H)
    (k : ∀ q lot H2, IsLot lot → lot.length ≤ most → H q = none → Rf fa (m + 1000) H H2 → H2 q = some (.tup (lot.map T)) → D.rt (.ref q) H2) : tRet (tCall (sp_kept K) [] E0 (tCons (tVar 0) (tCons tw (tCons (tVar 1) tNil)))) D σ H :=
  ⟨.ref fa, h0, hW _ fun p ws H1 hw hl hp R h1' => ⟨.int (most : Int), h1, fa, p, ws, most, rfl, sq_of h1', hp, hl, hw, hm1, hm2, G.go R (Nat.le_refl _), fun q lot H2 hL hlen hq R2 h2 => k q lot H2 hL hlen (R.free G.is hq (G.go R (m' := 0) (by omega)).is) (R.trans R2) h2⟩⟩
theorem wl_texts {acc : List V} {lo n : Nat} (h : ∀ v ∈ acc, GdT abcd lo n v) (hn : n ≤ 100000) : ∃ ws : List Tx, acc = ws.map T ∧ Wd 100000 ws ∧ ∀ t ∈ ws, lo ≤ t.length ∧ t.length ≤ n := by
  obtain ⟨ws, rfl, hw⟩ := texts_GdT h
  exact ⟨ws, rfl, fun t ht => ⟨by have := (hw t ht).2.1; omega, (hw t ht).2.2⟩, fun t ht => ⟨(hw t ht).1, (hw t ht).2.1⟩⟩
/-- words by a comprehension over a range -/
theorem wl_range {te0 te : TE} {j : Nat} {vs : List Nat} {lo N c m0 lo' n : Nat} (hc : Dw fa σ m0 te0 (GdI (lo : Int) (N : Int))) (hN : N ≤ 1000) (G : GF fa (m0 + N * c) H) (hw : ∀ x, wipe ((wipe σ vs).set j (some x)) vs = wipe σ vs)
    (he : ∀ x k H1, Rf fa k H H1 → GF fa c H1 → ∀ Q' : VK, (∀ y H2, GdT abcd lo' n y → Rf fa c H1 H2 → Q' y H2) → te ((wipe σ vs).set j (some x)) H1 Q') (hn : n ≤ 100000) : WL fa σ H (m0 + N * c) (tLc (iRng1 (tCons te0 tNil)) (gName j) tYes te vs) := fun Q' q' =>
  lcRD (GdT abcd lo' n) hc hN G hw he Q' fun p H2 acc hp R h2 hl1 hl2 hg => by
    obtain ⟨ws, rfl, hws, _⟩ := wl_texts hg hn
    rw [List.length_map] at hl2
    exact q' p ws H2 hws (by omega) (G.new hp) R h2
theorem q_lcRD {D : Ends} {tz : TS} {te te0 : TE} {i j : Nat} {vs : List Nat} {lo N c m0 : Nat} (good : V → Prop) (hc : Dw fa σ m0 te0 (GdI (lo : Int) (N : Int))) (hN : N ≤ 1000) (G : GF fa (m0 + N * c) H) (hw : ∀ x, wipe ((wipe σ vs).set j (some x)) vs = wipe σ vs)
    (he : ∀ x n H1, Rf fa n H H1 → GF fa c H1 → ∀ Q' : VK, (∀ y H2, good y → Rf fa c H1 H2 → Q' y H2) → te ((wipe σ vs).set j (some x)) H1 Q')
    (k : ∀ p H2 acc, H p = none → Rf fa (m0 + N * c) H H2 → H2 p = some (.lst acc) → lo ≤ acc.length → acc.length ≤ N → (∀ v ∈ acc, good v) → tz D (σ.set i (some (.ref p))) H2) : tSeq (tAsg (tLc (iRng1 (tCons te0 tNil)) (gName j) tYes te vs) (gName i)) tz D σ H :=
  lcRD good hc hN G hw he (fun v H1 => tz D (σ.set i (some v)) H1) k
theorem WL.mono {te : TE} {m' : Nat} (h : WL fa σ H m te) (hm : m ≤ m') : WL fa σ H m' te := fun Q' q' => h Q' fun p ws H1 a b c R d => q' p ws H1 a b c (R.mono hm) d
theorem dw_at {te : TE} {c : Nat} {g : V → Prop} (h : Dw fa σ c te g) : ∀ k H1, Rf fa k H H1 → GF fa c H1 → ∀ Q' : VK, (∀ y H2, g y → Rf fa c H1 H2 → Q' y H2) → te σ H1 Q' := fun _ H1 _ G Q' q' => h H1 G Q' q'
end
section
variable {P : Program} {w : World} {K : PySem.W.Frag} {mg : Str → Option Value} {base : Heap}
/-- the scope of the outer comprehension of the last way -/
abbrev sc_place : Scope := { kind := .function, names := [(".0", .local), ("turn", .local), ("range", .globalImplicit), ("feed", .cell), ("long", .cell), ("signs", .cell)], isGenerator := false, isCoroutine := false }
theorem ok__law_lot {f : Addr} {fd : FuncData} (F : Fun K "_law_lot" "_law_lot" st__law_lot f fd) (M : Md K mg) (C__law_draw : Cal P w K mg base "_law_draw" st__law_draw 1 ["feed", "many"] sp_draw) (C__law_one : Cal P w K mg base "_law_one" st__law_one 2 ["feed", "things"] (sp_one K)) (C__law_text : Cal P w K mg base "_law_text" st__law_text 3 ["feed", "signs", "most"] sp_text) (C__law_kept : Cal P w K mg base "_law_kept" st__law_kept 3 ["feed", "words", "most"] (sp_kept K)) (C__law_split : Cal P w K mg base "_law_split" st__law_split 2 ["feed", "signs", "turns"] sp_split) (C__law_joined : Cal P w K mg base "_law_joined" st__law_joined 3 ["feed", "words", "turns"] sp_joined) (C__law_made : Cal P w K mg base "_law_made" st__law_made 1 ["feed", "code", "words"] (sp_made K)) (C__law_code : Cal P w K mg base "_law_code" st__law_code 3 ["feed"] sp_code) : FnOk P w K mg base CX0 4 f fd ["feed", "most"] sp_lot := by
  have nd := sc__law_lot.nd
  refine F.ok sc__law_lot (fun vs H Q E h => ?_) (fun cdv A outer s H vs Q E hr h => ?_)
  · obtain ⟨_, _, rfl, _⟩ := h
    rfl
  · obtain ⟨fa, most, rfl, hm1, hm2, G, k⟩ := h
    refine ⟨_, (pss_cons (ps_asg (pe_tup (pa_cons (pe_slice sl_T (pe_sT [97, 98, 99, 100]) po_none (po_some (pe_cl C__law_one hr (pa_cons (pv 0) (pa_cons (pe_lst (pa_cons pe_int (pa_cons pe_int (pa_cons pe_int (pa_cons pe_int (pa_cons pe_int (pa_cons pe_int pa_nil))))))) pa_nil))))) (pa_cons (pe_cl C__law_draw hr (pa_cons (pv 0) (pa_cons pe_int pa_nil))) pa_nil))) (kgt K (n := 2) (pg_tup rfl (pgs_cons (pg_name (i := 2) nd rfl (Or.inr rfl)) (pgs_cons (pg_name (i := 3) nd rfl (Or.inl rfl)) pgs_nil)))))
  (pss_cons (ps_if (pt_cmpR op_lt (pv 3) pe_int (nomark _))
  (pss_cons (ps_set (i := 4) nd rfl (Or.inr rfl) (pe_cl C__law_one hr (pa_cons (pv 0) (pa_cons (pe_lst (pa_cons pe_int (pa_cons pe_int (pa_cons pe_int (pa_cons pe_int (pa_cons pe_int pa_nil)))))) pa_nil))))
  (pss_one (ps_ret (pe_cl C__law_kept hr (pa_cons (pv 0) (pa_cons (pe_lc (own := [("turn", 5)]) rfl nd (pi_range1 (by rfl) M.n_range (pa_cons (pe_op op_add pe_int (pe_cl C__law_draw hr (pa_cons (pv 0) (pa_cons (pv 1) pa_nil)))) pa_nil)) (blkOk_by (N := N__law_lot) (sc := defScope st__law_lot) (by decide +kernel)) (fun _ _ _ _ _ => (pg_name (i := 5) nd rfl (Or.inl rfl))) (fun _ _ _ _ _ => pts_nil) (fun _ _ _ _ _ => (pe_op op_addT (pe_cl C__law_one hr (pa_cons (pv 0) (pa_cons (pv 2) pa_nil))) (pe_cl C__law_text hr (pa_cons (pv 0) (pa_cons (pv 2) (pa_cons (pe_op op_sub (pv 4) pe_int) pa_nil))))))) (pa_cons (pv 1) pa_nil)))))))
  pss_nil)
  (pss_cons (ps_if (pt_cmpR op_eqI (pv 3) pe_int (nomark _))
  (pss_one (ps_ret (pe_cl C__law_kept hr (pa_cons (pv 0) (pa_cons (pe_lc (own := [("word", 6)]) rfl nd (kil K (pi_list (pe_cl C__law_split hr (pa_cons (pv 0) (pa_cons (pv 2) (pa_cons (pe_cl C__law_draw hr (pa_cons (pv 0) (pa_cons pe_int pa_nil))) pa_nil)))))) (blkOk_by (N := N__law_lot) (sc := defScope st__law_lot) (by decide +kernel)) (fun _ _ _ _ _ => (pg_name (i := 6) nd rfl (Or.inl rfl))) (fun _ _ _ _ _ => (pts_one (pt_cmpR op_gt (pe_cl C__law_draw hr (pa_cons (pv 0) (pa_cons pe_int pa_nil))) pe_int (nomark _)))) (fun _ _ _ _ _ => (pv 6))) (pa_cons (pv 1) pa_nil))))))
  pss_nil)
  (pss_cons (ps_if (pt_cmpR op_eqI (pv 3) pe_int (nomark _))
  (pss_one (ps_ret (pe_cl C__law_kept hr (pa_cons (pv 0) (pa_cons (pe_lc (own := [("word", 6)]) rfl nd (kil K (pi_list (pe_cl C__law_split hr (pa_cons (pv 0) (pa_cons (pv 2) (pa_cons (pe_op op_add pe_int (pe_cl C__law_draw hr (pa_cons (pv 0) (pa_cons pe_int pa_nil)))) pa_nil)))))) (blkOk_by (N := N__law_lot) (sc := defScope st__law_lot) (by decide +kernel)) (fun _ _ _ _ _ => (pg_name (i := 6) nd rfl (Or.inl rfl))) (fun _ _ _ _ _ => pts_nil) (fun _ _ _ _ _ => (pe_revT (pv 6)))) (pa_cons (pv 1) pa_nil))))))
  pss_nil)
  (pss_cons (ps_if (pt_cmpR op_eqI (pv 3) pe_int (nomark _))
  (pss_one (ps_ret (pe_cl C__law_kept hr (pa_cons (pv 0) (pa_cons (pe_cl C__law_joined hr (pa_cons (pv 0) (pa_cons (pe_cl C__law_split hr (pa_cons (pv 0) (pa_cons (pv 2) (pa_cons (pe_op op_add pe_int (pe_cl C__law_draw hr (pa_cons (pv 0) (pa_cons pe_int pa_nil)))) pa_nil)))) (pa_cons (pe_op op_add pe_int (pe_cl C__law_draw hr (pa_cons (pv 0) (pa_cons pe_int pa_nil)))) pa_nil)))) (pa_cons (pv 1) pa_nil))))))
  pss_nil)
  (pss_cons (ps_if (pt_cmpR op_eqI (pv 3) pe_int (nomark _))
  (pss_cons (ps_set (i := 7) nd rfl (Or.inr rfl) (pe_op op_addT (pe_cl C__law_one hr (pa_cons (pv 0) (pa_cons (pv 2) pa_nil))) (pe_cl C__law_text hr (pa_cons (pv 0) (pa_cons (pv 2) (pa_cons (pe_cl C__law_one hr (pa_cons (pv 0) (pa_cons (pe_lst (pa_cons pe_int (pa_cons pe_int (pa_cons pe_int (pa_cons pe_int pa_nil))))) pa_nil))) pa_nil))))))
  (pss_one (ps_ret (pe_cl C__law_kept hr (pa_cons (pv 0) (pa_cons (pe_lc (own := [("turn", 5)]) rfl nd (pi_range1 (by rfl) M.n_range (pa_cons (pe_op op_add pe_int (pe_cl C__law_draw hr (pa_cons (pv 0) (pa_cons pe_int pa_nil)))) pa_nil)) (blkOk_by (N := N__law_lot) (sc := defScope st__law_lot) (by decide +kernel)) (fun _ _ _ _ _ => (pg_name (i := 5) nd rfl (Or.inl rfl))) (fun _ _ _ _ _ => pts_nil) (fun _ _ _ _ _ => (pe_op op_mulT (pv 7) (pe_op op_add pe_int (pe_cl C__law_draw hr (pa_cons (pv 0) (pa_cons (pe_op op_fdivW pe_int (pe_callB cr_lenT (by rfl) M.n_len boot_len (pa_cons (pv 7) pa_nil))) pa_nil))))))) (pa_cons (pv 1) pa_nil)))))))
  pss_nil)
  (pss_cons (ps_if (pt_cmpR op_eqI (pv 3) pe_int (nomark _))
  (pss_cons (ps_set (i := 8) nd rfl (Or.inr rfl) (pe_lc (own := [("turn", 5)]) rfl nd (pi_range1 (by rfl) M.n_range (pa_cons pe_int pa_nil)) (blkOk_by (N := N__law_lot) (sc := defScope st__law_lot) (by decide +kernel)) (fun _ _ _ _ _ => (pg_name (i := 5) nd rfl (Or.inl rfl))) (fun _ _ _ _ _ => pts_nil) (fun _ _ _ _ _ => (pe_cl C__law_text hr (pa_cons (pv 0) (pa_cons (pv 2) (pa_cons pe_int pa_nil)))))))
  (pss_one (ps_ret (pe_cl C__law_kept hr (pa_cons (pv 0) (pa_cons (pe_lc (own := [("turn", 5)]) rfl nd (pi_range1 (by rfl) M.n_range (pa_cons (pe_op op_add pe_int (pe_cl C__law_draw hr (pa_cons (pv 0) (pa_cons (pv 1) pa_nil)))) pa_nil)) (blkOk_by (N := N__law_lot) (sc := defScope st__law_lot) (by decide +kernel)) (fun _ _ _ _ _ => (pg_name (i := 5) nd rfl (Or.inl rfl))) (fun _ _ _ _ _ => pts_nil) (fun _ _ _ _ _ => (pe_op op_addT (pe_op op_addT (pe_cl C__law_one hr (pa_cons (pv 0) (pa_cons (pv 8) pa_nil))) (pe_cl C__law_text hr (pa_cons (pv 0) (pa_cons (pv 2) (pa_cons pe_int pa_nil))))) (pe_cl C__law_one hr (pa_cons (pv 0) (pa_cons (pv 8) pa_nil)))))) (pa_cons (pv 1) pa_nil)))))))
  pss_nil)
  (pss_cons (ps_if (pt_cmpR op_eqI (pv 3) pe_int (nomark _))
  (pss_one (ps_ret (pe_cl C__law_kept hr (pa_cons (pv 0) (pa_cons (pe_cl C__law_code hr (pa_cons (pv 0) pa_nil)) (pa_cons (pv 1) pa_nil))))))
  pss_nil)
  (pss_cons (ps_if (pt_cmpR op_eqI (pv 3) pe_int (nomark _))
  (pss_cons (ps_setLc (i := 9) (own := [("turn", 5)]) rfl nd rfl rfl (sw_true rfl rfl rfl (by decide +kernel)) (pi_range1 (by rfl) M.n_range (pa_cons pe_int pa_nil)) (blkOk_by (N := N__law_lot) (sc := defScope st__law_lot) (by decide +kernel)) (fun _ _ _ _ _ => (pg_name (i := 5) nd rfl (Or.inl rfl))) (fun _ _ _ _ _ => pts_nil) (fun _ _ _ _ _ => (pe_op op_addT (pe_cl C__law_one hr (pa_cons (pv 0) (pa_cons (pe_sT [97, 98, 99, 100]) pa_nil))) (pe_cl C__law_text hr (pa_cons (pv 0) (pa_cons (pv 2) (pa_cons pe_int pa_nil)))))))
  (pss_one (ps_ret (pe_cl C__law_kept hr (pa_cons (pv 0) (pa_cons (pe_cl C__law_made hr (pa_cons (pv 0) (pa_cons (pe_cl C__law_code hr (pa_cons (pv 0) pa_nil)) (pa_cons (pv 9) pa_nil)))) (pa_cons (pv 1) pa_nil)))))))
  pss_nil)
  (pss_cons (ps_if (pt_cmpR op_eqI (pv 3) pe_int (nomark _))
  (pss_one (ps_ret (pe_cl C__law_kept hr (pa_cons (pv 0) (pa_cons (pe_cl C__law_made hr (pa_cons (pv 0) (pa_cons (pe_cl C__law_code hr (pa_cons (pv 0) pa_nil)) (pa_cons (pe_lc (own := [("word", 6)]) rfl nd (kil K (pi_list (pe_cl C__law_code hr (pa_cons (pv 0) pa_nil)))) (blkOk_by (N := N__law_lot) (sc := defScope st__law_lot) (by decide +kernel)) (fun _ _ _ _ _ => (pg_name (i := 6) nd rfl (Or.inl rfl))) (fun _ _ _ _ _ => pts_nil) (fun _ _ _ _ _ => (pv 6))) pa_nil)))) (pa_cons (pv 1) pa_nil))))))
  pss_nil)
  (pss_cons (ps_set (i := 4) nd rfl (Or.inr rfl) (pe_op op_add pe_int (pe_cl C__law_draw hr (pa_cons (pv 0) (pa_cons pe_int pa_nil)))))
  (pss_one (ps_ret (pe_cl C__law_kept hr (pa_cons (pv 0) (pa_cons (pe_lc (own := [("turn", 5)]) rfl nd (pi_range1 (by rfl) M.n_range (pa_cons (pe_op op_add pe_int (pe_cl C__law_draw hr (pa_cons (pv 0) (pa_cons (pv 1) pa_nil)))) pa_nil)) (blkOk_by (N := N__law_lot) (sc := defScope st__law_lot) (by decide +kernel)) (fun _ _ _ _ _ => (pg_name (i := 5) nd rfl (Or.inl rfl))) (fun _ _ _ _ _ => pts_nil) (fun _ _ _ _ _ => (kbm K (pe_bm PySem.F.plainAttrs_str PySem.F.slot_str_join PySem.F.type_str_join (kmt K (r := rJoinT) mt_joinT) (pe_sT []) (pa_cons (pe_lc (own := [("place", 10)]) rfl nd (pi_range1 (by rfl) M.n_range (pa_cons (pv 4) pa_nil)) (blkOk_by (N := N__law_lot) (sc := sc_place) (by decide +kernel)) (fun _ _ _ _ _ => (pg_name (i := 10) nd rfl (Or.inl rfl))) (fun _ _ _ _ _ => pts_nil) (fun _ _ _ _ _ => (pe_cl C__law_one hr (pa_cons (pv 0) (pa_cons (pv 2) pa_nil))))) pa_nil))))) (pa_cons (pv 1) pa_nil))))))))))))))))), ?_⟩
    -- signs, way
    have hsg : Dw fa (start N__law_lot [.ref fa, .int (most : Int)]) 1 (tSl rSlT (tC (T [97, 98, 99, 100])) tNoPart (tPart (tCall (sp_one K) [] E0 (tCons (tVar 0) (tCons (tLst (tCons (tC (.int 1)) (tCons (tC (.int 2)) (tCons (tC (.int 2)) (tCons (tC (.int 2)) (tCons (tC (.int 3)) (tCons (tC (.int 4)) tNil))))))) tNil))))) (GdT abcd 1 4) := fun H G Q q =>
      dI_oneL (ns := [1, 2, 2, 2, 3, 4]) (lo := 1) (hi := 4) rfl (fun H => el_lst (ea_cons ev_c (ea_cons ev_c (ea_cons ev_c (ea_cons ev_c (ea_cons ev_c (ea_cons ev_c ea_nil)))))) (by show 6 ≤ 100000; decide)) (by decide) (by simp) (by decide) H G _ fun v H' ⟨i, hi, h1, h2⟩ R => by
        obtain ⟨n, rfl⟩ := Int.eq_ofNat_of_zero_le (show 0 ≤ i by omega)
        subst hi
        have hn : n = 1 ∨ n = 2 ∨ n = 3 ∨ n = 4 := by omega
        refine ⟨(n : Int), rfl, _, rfl, by show 4 ≤ 16777216; decide, q _ H' ⟨_, rfl, ?_, ?_, ?_⟩ R⟩
        · rw [cutT_to]
          rcases hn with rfl | rfl | rfl | rfl <;> decide
        · rw [cutT_to]
          rcases hn with rfl | rfl | rfl | rfl <;> decide
        · intro c hc
          have := cutT_mem hc
          simp at this
          unfold abcd
          omega
    refine hsg H (G.mono (by omega)) _ fun v1 H1 ⟨sg, hv1, hs1, hs2, hs3⟩ R1 => (dI_draw (lo := 11) (hi := 11) rfl dI_c : Dw fa (start N__law_lot [.ref fa, .int (most : Int)]) _ _ _) H1 (G.go R1 (m' := 1) (by omega)) _ fun v2 H2 ⟨way, hv2, hw1, hw2⟩ R2 => ⟨by show 2 ≤ sizeLine; decide, fun pt hpt => ⟨pt, _, rfl, st_of upd_same, rfl, v1, [v2], rfl, v2, [], rfl, rfl, ?_⟩⟩
    subst hv1 hv2
    have RA : Rf fa 2 H (upd H2 pt (.tup [T sg, .int way])) := (R1.trans R2).then (Ex.new hpt)
    generalize upd H2 pt (.tup [T sg, .int way]) = H3 at RA
    clear R1 R2 hpt hsg
    have hsn : sg ≠ [] := fun z => by rw [z] at hs1; simp at hs1
    show tSeq _ _ _ [some (.ref fa), some (.int (most : Int)), some (T sg), some (.int way), none, none, none, none, none, none, none] H3
    have dsg : ∀ {σ : L2.St}, σ[2]? = some (some (T sg)) → Dw fa σ 0 (tVar 2) (GdT abcd 1 4) := fun h0 => dT_var h0 hs1 hs2 hs3
    have dmo : ∀ {σ : L2.St}, σ[1]? = some (some (.int (most : Int))) → Dw fa σ 0 (tVar 1) (GdI 1 12) := fun h0 => dI_var h0 (by omega) (by omega)
    have fin : ∀ {m0 m : Nat} {HA : Hp}, Rf fa m0 H HA → m0 + (m + 1000) ≤ 20000 → ∀ q lot H2, IsLot lot → lot.length ≤ most → HA q = none → Rf fa (m + 1000) HA H2 → H2 q = some (.tup (lot.map T)) → Q (.ref q) H2 := fun {m0 m HA} RB hb q lot H2 hL hlen hq R2 h2 => k q lot H2 hL hlen (RB.free G.is hq (G.go RB (m' := 0) (by omega)).is) ((RB.trans R2).mono hb) h2
    -- way < 2
    refine q_when (et_test (ev_op (ev_var rfl) ev_c rv_I0)) (fun hb H4 e4 => ?_) (fun hb H4 e4 => ?_)
    · have RB := RA.then e4
      refine q_dw (dI_oneL (ns := [2, 3, 4, 6, 12]) (lo := 2) (hi := 12) rfl (fun H => el_lst (ea_cons ev_c (ea_cons ev_c (ea_cons ev_c (ea_cons ev_c (ea_cons ev_c ea_nil))))) (by show 5 ≤ 100000; decide)) (by decide) (by simp) (by decide)) (G.go RB (m' := 10000) (by omega)) fun v H5 ⟨long, hv, hl1, hl2⟩ R5 => ?_
      subst hv
      have RC := RB.trans R5
      show tRet _ _ [some (.ref fa), some (.int (most : Int)), some (T sg), some (.int way), some (.int long), none, none, none, none, none, none] H5
      refine s_kept (m := 1000) (WL.mono (wl_range (lo := 1) (N := 12) (c := 13) (lo' := 1) (n := 12) (dI_add dI_c (dI_draw rfl (dmo rfl))) (by decide) (G.go RC (by omega)) (fun _ => rfl) (fun x => dw_at (dT_add (dT_one rfl (dsg rfl)) (dT_text (c := 11) rfl (dsg rfl) (dI_wk (dI_sub (dI_var rfl hl1 hl2) dI_c))))) (by decide)) (by decide)) rfl rfl hm1 hm2 (G.go RC (by omega)) (fin RC (by omega))
    have RB : Rf fa 2 H H4 := RA.then e4
    clear RA e4 hb
    -- way == 2
    refine q_when (et_test (ev_op (ev_var rfl) ev_c rv_I0)) (fun hb H5 e5 => ?_) (fun hb H5 e5 => ?_)
    · have RC := RB.then e5
      have GC : GF fa 10000 H5 := G.go RC (by omega)
      refine s_kept (m := 1000) (fun Q' q' => lc_of ?_) rfl rfl hm1 hm2 (G.go RC (by omega)) (fin RC (by omega))
      refine ⟨.ref fa, rfl, T sg, rfl, (dI_draw (lo := 5) (hi := 5) rfl dI_c : Dw fa [some (.ref fa), some (.int (most : Int)), some (T sg), some (.int way), none, none, none, none, none, none, none] _ _ _) H5 (GC.mono (by omega)) _ fun v H6 ⟨tn, hv, ht1, ht2⟩ R6 => ?_⟩
      obtain ⟨tn, rfl⟩ := Int.eq_ofNat_of_zero_le ht1
      subst hv
      refine ⟨fa, sg, tn, rfl, GC.go R6 (by omega), by omega, hsn, hs2, hs3, fun q ws H7 hne hlen hwd hq R7 h7 => ?_⟩
      have R67 : Rf fa 10 H5 H7 := (R6.trans R7).mono (by omega)
      have G7 : GF fa 100 H7 := GC.go R67 (by omega)
      refine lcDT (fa := fa) (n := ws.length) (own := fun b => b = q) (P := fun i v _ => (ws.map T)[i]? = some v) (GdT abcd 0 12) 1 G7.is (src_listM (tl := fun _ H' Q' => Q' (.ref q) H') (fun H2 e2 Q2 q2 => q2 H2 (Ex.refl _)) (sq_of h7)) (fun z => ((GC.go R6 (m' := 0) (by omega)).new hq) z.symm) (by omega) (fun _ => rfl) (fun i x H8 hi hx R8 Q2 q2 => ?_) (fun i x H8 H9 hi hx R9 Q2 q2 => ?_) fun p H8 acc hp R8 h8 hl hg => ?_
      · refine dw_test (m1 := 1) (m2 := 0) (dI_draw (lo := 6) (hi := 6) rfl dI_c) dI_c (G7.go R8 (m' := 1) (by omega)) Q2 (fun b H9 R9 => q2 b H9 R9)
      · obtain ⟨t, ht, rfl⟩ := at_map hx
        have := hwd t (List.mem_of_getElem? ht)
        exact ⟨T t, rfl, q2 _ H9 ⟨t, rfl, Nat.zero_le _, this.1, this.2⟩ (Ex.refl _)⟩
      · obtain ⟨vs, rfl, hvs, _⟩ := wl_texts hg (by decide)
        rw [List.length_map] at hl
        exact q' p vs H8 hvs (by omega) (G7.new hp) ((R67.trans R8).mono (by omega)) h8
    have RC : Rf fa 2 H H5 := RB.then e5
    clear RB e5 hb
    have spl : ∀ {σ : L2.St} {HA : Hp} {te0 : TE} {m0 : Nat}, σ[0]? = some (some (.ref fa)) → σ[2]? = some (some (T sg)) → Dw fa σ m0 te0 (GdI 0 10) → GF fa (m0 + 10) HA → ∀ Q' : VK, (∀ q ws H1, ws ≠ [] → ws.length ≤ 13 → Wd 12 ws → HA q = none → Rf fa (m0 + 10) HA H1 → H1 q = some (.lst (ws.map T)) → Q' (.ref q) H1) → tCall sp_split [] E0 (tCons (tVar 0) (tCons (tVar 2) (tCons te0 tNil))) σ HA Q' := fun {σ HA te0 m0} h0 h2 hd GA Q' q' =>
      ⟨.ref fa, h0, T sg, h2, hd HA (GA.mono (by omega)) _ fun v H6 ⟨tn, hv, ht1, ht2⟩ R6 => by
        obtain ⟨tn, rfl⟩ := Int.eq_ofNat_of_zero_le ht1
        subst hv
        exact ⟨fa, sg, tn, rfl, GA.go R6 (by omega), by omega, hsn, hs2, hs3, fun q ws H7 hne hlen hwd hq R7 h7 => q' q ws H7 hne hlen hwd (R6.free GA.is hq (GA.go R6 (m' := 0) (by omega)).is) ((R6.trans R7).mono (by omega)) h7⟩⟩
    have cod : ∀ {σ : L2.St} {HA : Hp}, σ[0]? = some (some (.ref fa)) → GF fa 1 HA → ∀ Q' : VK, (∀ q ts H', ts ≠ [] → ts.length ≤ 6 → Wd 5 ts → HA q = none → Rf fa 1 HA H' → H' q = some (.lst (ts.map T)) → Q' (.ref q) H') → tCall sp_code [] E0 (tCons (tVar 0) tNil) σ HA Q' := fun h0 GA Q' q' => ⟨.ref fa, h0, fa, rfl, GA, q'⟩
    -- way == 3
    refine q_when (et_test (ev_op (ev_var rfl) ev_c rv_I0)) (fun hb H6 e6 => ?_) (fun hb H6 e6 => ?_)
    · have RD := RC.then e6
      have GD : GF fa 10000 H6 := G.go RD (by omega)
      refine s_kept (m := 1000) (fun Q' q' => lc_of (spl (m0 := 1) rfl rfl (dI_wk (dI_add dI_c (dI_draw (lo := 5) (hi := 5) rfl dI_c))) (GD.mono (by omega)) _ fun q ws H7 hne hlen hwd hq R7 h7 => ?_)) rfl rfl hm1 hm2 (G.go RD (by omega)) (fin RD (by omega))
      have G7 : GF fa 100 H7 := GD.go R7 (by omega)
      refine lcD (fa := fa) (n := ws.length) (own := fun b => b = q) (P := fun i v _ => (ws.map T)[i]? = some v) (GdT abcd 0 12) 0 G7.is (src_listM (tl := fun _ H' Q' => Q' (.ref q) H') (fun H2 e2 Q2 q2 => q2 H2 (Ex.refl _)) (sq_of h7)) (fun z => (GD.new hq) z.symm) (by omega) (fun _ => rfl) (fun i x H8 hi hx R8 Q2 q2 => ?_) fun p H8 acc hp R8 h8 hl hg => ?_
      · obtain ⟨t, ht, rfl⟩ := at_map hx
        have := hwd t (List.mem_of_getElem? ht)
        exact ⟨T t, rfl, t, rfl, by omega, q2 _ H8 ⟨t.reverse, rfl, Nat.zero_le _, by rw [List.length_reverse]; exact this.1, fun c hc => this.2 c (List.mem_reverse.mp hc)⟩ (Rf.refl _)⟩
      · obtain ⟨vs, rfl, hvs, _⟩ := wl_texts hg (by decide)
        rw [List.length_map] at hl
        exact q' p vs H8 hvs (by omega) (G7.new hp) ((R7.trans R8).mono (by omega)) h8
    have RD : Rf fa 2 H H6 := RC.then e6
    clear RC e6 hb
    -- way == 4
    refine q_when (et_test (ev_op (ev_var rfl) ev_c rv_I0)) (fun hb H7 e7 => ?_) (fun hb H7 e7 => ?_)
    · have RE := RD.then e7
      have GE : GF fa 10000 H7 := G.go RE (by omega)
      refine s_kept (m := 1000) (fun Q' q' => ⟨.ref fa, rfl, spl (m0 := 1) rfl rfl (dI_wk (dI_add dI_c (dI_draw (lo := 3) (hi := 3) rfl dI_c))) (GE.mono (by omega)) _ fun q ws H8 hne hlen hwd hq R8 h8 => (dI_add dI_c (dI_draw (lo := 3) (hi := 3) rfl dI_c) : Dw fa [some (.ref fa), some (.int (most : Int)), some (T sg), some (.int way), none, none, none, none, none, none, none] _ _ _) H8 (GE.go R8 (m' := 1) (by omega)) _ fun v H9 ⟨tn, hv, ht1, ht2⟩ R9 => ?_⟩) rfl rfl hm1 hm2 (G.go RE (by omega)) (fin RE (by omega))
      obtain ⟨tn, rfl⟩ := Int.eq_ofNat_of_zero_le (show 0 ≤ tn by omega)
      subst hv
      have nq : q ≠ fa := GE.new hq
      exact ⟨fa, q, ws, tn, rfl, R9.at_ h8 nq, nq, (GE.go R8 (m' := 1000) (by omega)).go R9 (by omega), by omega, hne, hlen, hwd, fun p ws' H10 hne' hl' hw' hp' R10 h10 => q' p ws' H10 hw' (by omega) hp' (((R8.trans R9).trans R10).mono (by omega)) h10⟩
    have RE : Rf fa 2 H H7 := RD.then e7
    clear RD e7 hb
    -- way == 5
    refine q_when (et_test (ev_op (ev_var rfl) ev_c rv_I0)) (fun hb H8 e8 => ?_) (fun hb H8 e8 => ?_)
    · have RF := RE.then e8
      refine q_dw (dT_add (dT_one rfl (dsg rfl)) (dT_text (c := 3) rfl (dsg rfl) (dI_oneL (ns := [0, 0, 1, 3]) (lo := 0) (hi := 3) rfl (fun H => el_lst (ea_cons ev_c (ea_cons ev_c (ea_cons ev_c (ea_cons ev_c ea_nil)))) (by show 4 ≤ 100000; decide)) (by decide) (by simp) (by decide)))) (G.go RF (m' := 10000) (by omega)) fun v H9 ⟨root, hv, hr1, hr2, hr3⟩ R9 => ?_
      subst hv
      have RG : Rf fa 100 H H9 := (RF.trans R9).mono (by omega)
      show tRet _ _ [some (.ref fa), some (.int (most : Int)), some (T sg), some (.int way), none, none, none, some (T root), none, none, none] H9
      have dro : ∀ {σ : L2.St}, σ[7]? = some (some (T root)) → Dw fa σ 0 (tVar 7) (GdT abcd 1 4) := fun h0 => dT_var h0 (by omega) (by omega) hr3
      have dfl : ∀ {σ : L2.St}, σ[7]? = some (some (T root)) → Dw fa σ 0 (tOp (rI CDivW fun i j => .int (i / j)) (tC (.int 12)) (tCB rLenT (tCons (tVar 7) tNil))) (GdI 1 12) := fun h0 H' G' Q' q' => ⟨T root, h0, root, rfl, by omega, 12, (root.length : Int), rfl, rfl, divW (by omega) (by omega), q' _ H' ⟨12 / (root.length : Int), rfl, by
          have h4 : root.length = 1 ∨ root.length = 2 ∨ root.length = 3 ∨ root.length = 4 := by omega
          rcases h4 with h | h | h | h <;> rw [h] <;> decide, by
          have h4 : root.length = 1 ∨ root.length = 2 ∨ root.length = 3 ∨ root.length = 4 := by omega
          rcases h4 with h | h | h | h <;> rw [h] <;> decide⟩ (Rf.refl _)⟩
      refine s_kept (m := 1000) (WL.mono (wl_range (lo := 1) (N := 4) (c := 1) (lo' := 1) (n := 48) (dI_add dI_c (dI_draw (lo := 4) (hi := 4) rfl dI_c)) (by decide) (G.go RG (by omega)) (fun _ => rfl) (fun x => dw_at (dw_mono (dT_wk (dT_mul (c := 1) (d := 12) (dro rfl) (dI_wk (dI_add dI_c (dI_draw rfl (dfl rfl)))))) (by omega))) (by decide)) (by decide)) rfl rfl hm1 hm2 (G.go RG (by omega)) (fin RG (by omega))
    have RF : Rf fa 2 H H8 := RE.then e8
    clear RE e8 hb
    -- way == 6
    refine q_when (et_test (ev_op (ev_var rfl) ev_c rv_I0)) (fun hb H9 e9 => ?_) (fun hb H9 e9 => ?_)
    · have RG := RF.then e9
      have GG : GF fa 10000 H9 := G.go RG (by omega)
      refine q_lcRD (lo := 3) (N := 3) (c := 4) (m0 := 0) (GdT abcd 0 3) (dI_c (x := 3)) (by decide) (GG.mono (by omega)) (fun _ => rfl) (fun x => dw_at (dT_text (c := 3) rfl (dsg rfl) (dI_wk dI_c))) fun pe H10 acc hpe R10 h10 hl1 hl2 hg => ?_
      obtain ⟨ends, rfl, hws, hwl⟩ := wl_texts hg (by decide)
      rw [List.length_map] at hl1 hl2
      have npe : pe ≠ fa := GG.new hpe
      have RH : Rf fa 100 H H10 := (RG.trans R10).mono (by omega)
      show tRet _ _ [some (.ref fa), some (.int (most : Int)), some (T sg), some (.int way), none, none, none, none, some (.ref pe), none, none] H10
      have one : ∀ {σ : L2.St} (kk : Nat) (H11 : Hp), σ[0]? = some (some (.ref fa)) → σ[8]? = some (some (.ref pe)) → Rf fa kk H10 H11 → GF fa 1 H11 → ∀ Q' : VK, (∀ y H12, GdT abcd 0 3 y → Rf fa 1 H11 H12 → Q' y H12) → tCall (sp_one K) [] E0 (tCons (tVar 0) (tCons (tVar 8) tNil)) σ H11 Q' := fun {σ} kk H11 h0 h8 R11 G11 Q' q' =>
        wp_oneS (xs := ends.map T) h0 (ev_var h8) (.inl (sq_of (R11.at_ h10 npe))) npe G11 (fun z => by have := congrArg List.length z; rw [List.length_map] at this; simp at this; rw [this] at hl1; simp at hl1) (by rw [List.length_map]; omega) fun v H12 hv R12 => by
          obtain ⟨t, ht, rfl⟩ := List.mem_map.mp hv
          exact q' _ H12 ⟨t, rfl, Nat.zero_le _, (hwl t ht).2, (hws t ht).2⟩ R12
      refine s_kept (m := 1000) (WL.mono (wl_range (lo := 2) (N := 13) (c := 5) (lo' := 0) (n := 8) (dI_wk (dI_add dI_c (dI_draw rfl (dmo rfl)))) (by decide) (G.go RH (by omega)) (fun _ => rfl) (fun x kk H11 R11 G11 Q' q' => ?_) (by decide)) (by decide)) rfl rfl hm1 hm2 (G.go RH (by omega)) (fin RH (by omega))
      refine one kk H11 rfl rfl R11 (G11.mono (by omega)) _ fun y1 H12 ⟨s1, hy1, a1, a2, a3⟩ R12 => (dT_text (c := 2) rfl (dsg rfl) (dI_wk dI_c) : Dw fa ((wipe [some (.ref fa), some (.int (most : Int)), some (T sg), some (.int way), none, none, none, none, some (.ref pe), none, none] [5]).set 5 (some x)) _ _ _) H12 (G11.go R12 (m' := 3) (by omega)) _ fun y2 H13 ⟨s2, hy2, b1, b2, b3⟩ R13 => ⟨s1, s2, hy1, hy2, by omega, one (kk + 1 + 3) H13 rfl rfl ((R11.trans R12).trans R13) (G11.go (R12.trans R13) (m' := 1) (by omega)) _ fun y3 H14 ⟨s3, hy3, c1, c2, c3⟩ R14 => ⟨s1 ++ s2, s3, rfl, hy3, by rw [List.length_append]; omega, q' _ H14 ⟨s1 ++ s2 ++ s3, rfl, Nat.zero_le _, by rw [List.length_append, List.length_append]; omega, fun c hc => ?_⟩ (((R12.trans R13).trans R14).mono (by omega))⟩⟩
      rcases List.mem_append.mp hc with z | z
      · rcases List.mem_append.mp z with z | z
        · exact a3 c z
        · exact b3 c z
      · exact c3 c z
    have RG : Rf fa 2 H H9 := RF.then e9
    clear RF e9 hb
    -- way == 7
    refine q_when (et_test (ev_op (ev_var rfl) ev_c rv_I0)) (fun hb H10 e10 => ?_) (fun hb H10 e10 => ?_)
    · have RH := RG.then e10
      have GH : GF fa 10000 H10 := G.go RH (by omega)
      exact s_kept (m := 1000) (fun Q' q' => cod rfl (GH.mono (by omega)) _ fun q ts H11 hne hlen hwd hq R11 h11 => q' q ts H11 (hwd.mono (by decide)) (by omega) (GH.new hq) (R11.mono (by omega)) h11) rfl rfl hm1 hm2 (G.go RH (by omega)) (fin RH (by omega))
    have RH : Rf fa 2 H H10 := RG.then e10
    clear RG e10 hb
    -- way == 8
    refine q_when (et_test (ev_op (ev_var rfl) ev_c rv_I0)) (fun hb H11 e11 => ?_) (fun hb H11 e11 => ?_)
    · have RI := RH.then e11
      have GI : GF fa 10000 H11 := G.go RI (by omega)
      refine q_lcRD (lo := 4) (N := 4) (c := 5) (m0 := 0) (GdT abcd 1 4) (dI_c (x := 4)) (by decide) (GI.mono (by omega)) (fun _ => rfl) (fun x => dw_at (dT_add (dT_one (lo := 4) (n := 4) rfl (dT_c (ok := abcd) (s := [97, 98, 99, 100]) (fun c hc => by simp at hc; unfold abcd; omega))) (dT_text (c := 3) rfl (dsg rfl) (dI_wk dI_c)))) fun pw H12 acc hpw R12 h12 hl1 hl2 hg => ?_
      obtain ⟨ws, rfl, hws, hwl⟩ := wl_texts hg (by decide)
      rw [List.length_map] at hl1 hl2
      have npw : pw ≠ fa := GI.new hpw
      have RJ : Rf fa 100 H H12 := (RI.trans R12).mono (by omega)
      have GJ : GF fa 9000 H12 := G.go RJ (by omega)
      show tRet _ _ [some (.ref fa), some (.int (most : Int)), some (T sg), some (.int way), none, none, none, none, none, some (.ref pw), none] H12
      exact s_kept (m := 1000) (fun Q' q' => ⟨.ref fa, rfl, cod rfl (GJ.mono (by omega)) _ fun q ts H13 hne hlen hwd hq R13 h13 => ⟨.ref pw, rfl, fa, q, pw, ts, ws, rfl, GJ.go R13 (by omega), h13, sq_of (R13.at_ h12 npw), GJ.new hq, npw, by omega, hwd.mono (by decide), fun z => by rw [z] at hl1; simp at hl1, by omega, fun t ht => ⟨by have := (hwl t ht).2; omega, (hws t ht).2⟩, fun p vs H14 hvl hvw hp R14 h14 => q' p vs H14 hvw (by omega) ((GJ.go R13 (m' := 0) (by omega)).new hp) ((R13.trans R14).mono (by omega)) h14⟩⟩) rfl rfl hm1 hm2 (G.go RJ (by omega)) (fin RJ (by omega))
    have RI : Rf fa 2 H H11 := RH.then e11
    clear RH e11 hb
    -- way == 9
    refine q_when (et_test (ev_op (ev_var rfl) ev_c rv_I0)) (fun hb H12 e12 => ?_) (fun hb H12 e12 => ?_)
    · have RJ := RI.then e12
      have GJ : GF fa 9000 H12 := G.go RJ (by omega)
      refine s_kept (m := 1000) (fun Q' q' => ⟨.ref fa, rfl, cod rfl (GJ.mono (by omega)) _ fun q ts H13 hne hlen hwd hq R13 h13 => lc_of (cod rfl (GJ.go R13 (m' := 1) (by omega)) _ fun r us H14 hne2 hlen2 hwd2 hr R14 h14 => ?_)⟩) rfl rfl hm1 hm2 (G.go RJ (by omega)) (fin RJ (by omega))
      have nq : q ≠ fa := GJ.new hq
      have GK : GF fa 100 H14 := GJ.go (R13.trans R14) (by omega)
      refine (el_lcM (j := 6) (vs := [6]) (f := T) (g := T) us (src_listM (tl := fun _ H' Q' => Q' (.ref r) H') (fun H2 e2 Q2 q2 => q2 H2 (Ex.refl _)) (sq_of h14)) (by omega) (fun _ => rfl) fun t H15 e15 ht => ev_var rfl : EvL (tLc (iList K (fun _ H' Q' => Q' (.ref r) H')) (gName 6) tYes (tVar 6) [6]) [some (.ref fa), some (.int (most : Int)), some (T sg), some (.int way), none, none, none, none, none, none, none] H14 (us.map T)) H14 (Ex.refl _) _ fun pw H15 hpw e15 h15 => ?_
      have npw : pw ≠ fa := GK.new hpw
      exact ⟨fa, q, pw, ts, us, rfl, (GK.ex e15).mono (by omega), e15 _ _ (R14.at_ h13 nq), sq_of h15, nq, npw, by omega, hwd.mono (by decide), hne2, by omega, hwd2.mono (by decide), fun p vs H16 hvl hvw hp R16 h16 => q' p vs H16 hvw (by omega) ((GK.ex e15).new hp) ((((R13.trans R14).then e15).trans R16).mono (by omega)) h16⟩
    have RJ : Rf fa 2 H H12 := RI.then e12
    clear RI e12 hb
    refine q_dw (dI_add dI_c (dI_draw (lo := 5) (hi := 5) rfl dI_c)) (G.go RJ (m' := 10000) (by omega)) fun v H13 ⟨long, hv, hl1, hl2⟩ R13 => ?_
    subst hv
    have RK := RJ.trans R13
    show tRet _ _ [some (.ref fa), some (.int (most : Int)), some (T sg), some (.int way), some (.int long), none, none, none, none, none, none] H13
    refine s_kept (m := 1000) (WL.mono (wl_range (lo := 1) (N := 12) (c := 5) (lo' := 0) (n := 5) (dI_add dI_c (dI_draw rfl (dmo rfl))) (by decide) (G.go RK (by omega)) (fun _ => rfl) (fun x kk H14 R14 G14 Q' q' => ?_) (by decide)) (by decide)) rfl rfl hm1 hm2 (G.go RK (by omega)) (fin RK (by omega))
    refine ⟨rfl, lcRD (lo := 1) (N := 5) (c := 1) (m0 := 0) (GdT abcd 1 1) (dI_wk (dI_var rfl hl1 hl2)) (by decide) (G14.mono (by omega)) (fun _ => rfl) (fun x => dw_at (dT_one rfl (dsg rfl))) _ fun p H15 acc hp R15 h15 hl1 hl2 hg => ?_⟩
    obtain ⟨ws, rfl, hws, hwl⟩ := wl_texts hg (by decide)
    rw [List.length_map] at hl2
    have hsum := sum_le (m := 1) fun t ht => (hwl t ht).2
    refine ⟨[], p, ws, rfl, rfl, .inl (sq_of h15), by simp; omega, ?_⟩
    rw [joinL_nil]
    refine q' _ H15 ⟨ws.flatten, rfl, Nat.zero_le _, by rw [flat_len]; omega, fun c hc => ?_⟩ (R15.mono (by omega))
    obtain ⟨t, ht, hct⟩ := flat_mem hc
    exact (hws t ht).2 c hct
end
end K03
set_option Elab.async false
set_option linter.all false
set_option maxRecDepth 100000
set_option maxHeartbeats 4000000
namespace K03
open PySem PySem.Spec PyProof.Rows L2 Evl Wc Wt
section
variable {P : Program} {w : World} {K : PySem.W.Frag} {mg : Str → Option Value} {base : Heap}
def sp_put : Sp := fun vs H Q _ => ∃ (fa p : Addr) (lot : List Tx) (most : Nat), vs = [.ref fa, .ref p, .int (most : Int)] ∧ most ≤ 100 ∧ GF fa (most + 1) H ∧ H p = some (.tup (lot.map T)) ∧ IsLot lot ∧ ∀ t H', t.length ≤ 400 → (∀ c ∈ t, abcd c) → Rf fa (most + 1) H H' → Q (T t) H'
def sp_near_text : Sp := fun vs H Q _ => ∃ (fa p : Addr) (lot : List Tx) (most : Nat), vs = [.ref fa, .ref p, .int (most : Int)] ∧ most ≤ 100 ∧ GF fa 500 H ∧ H p = some (.tup (lot.map T)) ∧ IsLot lot ∧ ∀ t H', t.length ≤ 400 → (∀ c ∈ t, abcd c) → Rf fa 500 H H' → Q (T t) H'
theorem IsLot.sum {lot : List Tx} (h : IsLot lot) : lot.flatten.length ≤ 144 ∧ 1 ≤ lot.flatten.length := by
  have h1 := sum_le (m := 12) fun t ht => (h.wd t ht).1
  have h2 := h.few
  refine ⟨by rw [flat_len]; omega, ?_⟩
  cases lot with
  | nil => exact absurd rfl h.ne
  | cons a l =>
    have := List.length_pos_iff.mpr (h.pos a List.mem_cons_self)
    simp
    omega
theorem ok__law_put {f : Addr} {fd : FuncData} (F : Fun K "_law_put" "_law_put" st__law_put f fd) (M : Md K mg) (C__law_draw : Cal P w K mg base "_law_draw" st__law_draw 1 ["feed", "many"] sp_draw) (C__law_one : Cal P w K mg base "_law_one" st__law_one 2 ["feed", "things"] (sp_one K)) : FnOk P w K mg base CX0 3 f fd ["feed", "lot", "most"] sp_put := by
  have nd := sc__law_put.nd
  refine F.ok sc__law_put (fun vs H Q E h => ?_) (fun cdv A outer s H vs Q E hr h => ?_)
  · obtain ⟨_, _, _, _, rfl, _⟩ := h
    rfl
  · obtain ⟨fa, p, lot, most, rfl, hm, G, hp, hL, k⟩ := h
    refine ⟨_, (pss_one (ps_ret (pe_slice sl_T (kbm K (pe_bm PySem.F.plainAttrs_str PySem.F.slot_str_join PySem.F.type_str_join (kmt K (r := rJoinT) mt_joinT) (pe_sT []) (pa_cons (pe_lc (own := [("turn", 3)]) rfl nd (pi_range1 (by rfl) M.n_range (pa_cons (pe_cl C__law_draw hr (pa_cons (pv 0) (pa_cons (pe_op op_add (pv 2) pe_int) pa_nil))) pa_nil)) (blkOk_by (N := N__law_put) (sc := defScope st__law_put) (by decide +kernel)) (fun _ _ _ _ _ => (pg_name (i := 3) nd rfl (Or.inl rfl))) (fun _ _ _ _ _ => pts_nil) (fun _ _ _ _ _ => (pe_cl C__law_one hr (pa_cons (pv 0) (pa_cons (pv 1) pa_nil))))) pa_nil))) po_none (po_some pe_int)))), ?_⟩
    have np : p ≠ fa := G.ofTup hp
    refine ⟨rfl, ?_⟩
    refine lcRD (lo := 0) (N := most) (c := 1) (m0 := 1) (GdT abcd 1 12) (dI_wk (dI_draw rfl (dI_add (dI_var rfl (Int.le_refl (most : Int)) (Int.le_refl _)) dI_c) (by omega) (Int.le_trans (show (most : Int) + 1 ≤ 1000 by omega) (by decide)))) (by omega) (G.mono (by omega)) (fun _ => rfl) (fun x kk H1 R1 G1 Q' q' => ?_) _ fun pl H1 acc hpl R1 h1 hl1 hl2 hg => ?_
    · refine wp_oneS (xs := lot.map T) rfl (ev_var rfl) (.inr (st_of (R1.at_ hp np))) np G1 (fun z => hL.ne (List.map_eq_nil_iff.mp z)) (by rw [List.length_map]; have := hL.few; omega) fun v H2 hv R2 => ?_
      obtain ⟨t, ht, rfl⟩ := List.mem_map.mp hv
      exact q' _ H2 ⟨t, rfl, List.length_pos_iff.mpr (hL.pos t ht), (hL.wd t ht).1, (hL.wd t ht).2⟩ R2
    · obtain ⟨ws, rfl, hws, hwl⟩ := wl_texts hg (by decide)
      rw [List.length_map] at hl2
      have hsum := sum_le (m := 12) fun t ht => (hwl t ht).2
      have hfl : ws.flatten.length ≤ 1200 := by rw [flat_len]; omega
      refine ⟨[], pl, ws, rfl, rfl, .inl (sq_of h1), by simp; omega, ?_⟩
      rw [joinL_nil]
      refine ⟨400, rfl, ws.flatten, rfl, by omega, k _ H1 ?_ (fun c hc => ?_) (R1.mono (by omega))⟩
      · rw [show (400 : Int) = ((400 : Nat) : Int) from rfl, cutT_to, List.length_take]
        omega
      · obtain ⟨t, ht, hct⟩ := flat_mem (cutT_mem hc)
        exact (hws t ht).2 c hct
theorem ok__law_near_text {f : Addr} {fd : FuncData} (F : Fun K "_law_near_text" "_law_near_text" st__law_near_text f fd) (M : Md K mg) (C__law_draw : Cal P w K mg base "_law_draw" st__law_draw 1 ["feed", "many"] sp_draw) (C__law_one : Cal P w K mg base "_law_one" st__law_one 2 ["feed", "things"] (sp_one K)) (C__law_text : Cal P w K mg base "_law_text" st__law_text 3 ["feed", "signs", "most"] sp_text) (C__law_put : Cal P w K mg base "_law_put" st__law_put 3 ["feed", "lot", "most"] sp_put) : FnOk P w K mg base CX0 4 f fd ["feed", "lot", "most"] sp_near_text := by
  have nd := sc__law_near_text.nd
  refine F.ok sc__law_near_text (fun vs H Q E h => ?_) (fun cdv A outer s H vs Q E hr h => ?_)
  · obtain ⟨_, _, _, _, rfl, _⟩ := h
    rfl
  · obtain ⟨fa, p, lot, most, rfl, hm, G, hp, hL, k⟩ := h
    refine ⟨_, (pss_cons (ps_par (i := 3) (j := 4) rfl nd rfl rfl (by decide) rfl rfl (pa_cons (pe_cl C__law_put hr (pa_cons (pv 0) (pa_cons (pv 1) (pa_cons (pv 2) pa_nil)))) (pa_cons (pe_cl C__law_draw hr (pa_cons (pv 0) (pa_cons pe_int pa_nil))) pa_nil)) (by rfl))
  (pss_cons (ps_par (i := 5) (j := 6) rfl nd rfl rfl (by decide) rfl rfl (pa_cons (pe_cl C__law_draw hr (pa_cons (pv 0) (pa_cons (pe_op op_add (pe_callB cr_lenT (by rfl) M.n_len boot_len (pa_cons (pv 3) pa_nil)) pe_int) pa_nil))) (pa_cons (pe_cl C__law_one hr (pa_cons (pv 0) (pa_cons (pe_ifExp (pt_cmpR op_eqI (pe_cl C__law_draw hr (pa_cons (pv 0) (pa_cons pe_int pa_nil))) pe_int (nomark _)) (pe_sT [97, 98, 99, 100]) (kbm K (pe_bm PySem.F.plainAttrs_str PySem.F.slot_str_join PySem.F.type_str_join (kmt K (r := rJoinT) mt_joinT) (pe_sT []) (pa_cons (pv 1) pa_nil)))) pa_nil))) pa_nil)) (by rfl))
  (pss_cons (ps_set (i := 7) nd rfl (Or.inl rfl) (pe_lst (pa_cons (pe_op op_addT (pe_op op_addT (pe_slice sl_T (pv 3) po_none (po_some (pv 5))) (pv 6)) (pe_slice sl_T (pv 3) (po_some (pe_op op_add (pv 5) pe_int)) po_none)) (pa_cons (pe_op op_addT (pe_op op_addT (pe_slice sl_T (pv 3) po_none (po_some (pv 5))) (pv 6)) (pe_slice sl_T (pv 3) (po_some (pv 5)) po_none)) (pa_cons (pe_op op_addT (pe_slice sl_T (pv 3) po_none (po_some (pv 5))) (pe_slice sl_T (pv 3) (po_some (pe_op op_add (pv 5) pe_int)) po_none)) (pa_cons (pe_cl C__law_text hr (pa_cons (pv 0) (pa_cons (kbm K (pe_bm PySem.F.plainAttrs_str PySem.F.slot_str_join PySem.F.type_str_join (kmt K (r := rJoinT) mt_joinT) (pe_sT []) (pa_cons (pv 1) pa_nil))) (pa_cons (pv 2) pa_nil)))) pa_nil))))))
  (pss_one (ps_ret (pe_ifExp (pt_cmpR op_lt (pv 4) pe_int (nomark _)) (pv 3) (pe_slice sl_T (pe_ix (kix K (r := L2.rIxL) ix_list) (pv 7) (pe_op op_sub (pv 4) pe_int) (fun _ _ => rfl)) po_none (po_some pe_int)))))))), ?_⟩
    have np : p ≠ fa := G.ofTup hp
    have hLs := hL.sum
    have hLc : ∀ c ∈ lot.flatten, abcd c := fun c hc => by
      obtain ⟨t, ht, hct⟩ := flat_mem hc
      exact (hL.wd t ht).2 c hct
    have hsum : (lot.map List.length).sum ≤ 144 := by rw [← flat_len]; exact hLs.1
    have hjoin : ∀ {σ : L2.St} {H' : Hp}, σ[1]? = some (some (.ref p)) → H' p = some (.tup (lot.map T)) → Ev (tBM K "str" (rJoinT K) (tC (T [])) (tCons (tVar 1) tNil)) σ H' (T lot.flatten) := fun h1 hh => ev_bmT ev_c (ea_cons (ev_var h1) ea_nil) (rm_join (.inr (st_of hh)) (by omega))
    -- text, way
    refine ⟨.ref fa, rfl, .ref p, rfl, .int (most : Int), rfl, fa, p, lot, most, rfl, hm, G.mono (by omega), hp, hL, fun text H1 ht1 ht2 R1 => (dI_draw (lo := 8) (hi := 8) rfl dI_c : Dw fa (start N__law_near_text [.ref fa, .ref p, .int (most : Int)]) _ _ _) H1 (G.go R1 (m' := 1) (by omega)) _ fun v2 H2 ⟨way, hv2, hw1, hw2⟩ R2 => ⟨_, _, rfl, ?_⟩⟩
    subst hv2
    have RA : Rf fa 102 H H2 := (R1.trans R2).mono (by omega)
    have GA : GF fa 398 H2 := G.go RA (by omega)
    have hpA := RA.at_ hp np
    clear R1 R2
    show tSeq _ _ _ [some (.ref fa), some (.ref p), some (.int (most : Int)), some (T text), some (.int way), none, none, none] H2
    have dte : ∀ {σ : L2.St}, σ[3]? = some (some (T text)) → Dw fa σ 0 (tVar 3) (GdT abcd 0 400) := fun h0 => dT_var h0 (Nat.zero_le _) ht1 ht2
    -- at, sign
    have hsign : ∀ (H4 : Hp), H4 p = some (.tup (lot.map T)) → GF fa 2 H4 → ∀ Q' : VK, (∀ sg H5, sg.length = 1 → (∀ c ∈ sg, abcd c) → Rf fa 2 H4 H5 → Q' (T sg) H5) → tCall (sp_one K) [] E0 (tCons (tVar 0) (tCons (tIf (tTest (tOp (rI0 fun i j => .bl (decide (i = j))) (tCall sp_draw [] E0 (tCons (tVar 0) (tCons (tC (.int 3)) tNil))) (tC (.int 0)))) (tC (T [97, 98, 99, 100])) (tBM K "str" (rJoinT K) (tC (T [])) (tCons (tVar 1) tNil))) tNil)) [some (.ref fa), some (.ref p), some (.int (most : Int)), some (T text), some (.int way), none, none, none] H4 Q' := fun H4 hp4 G4 Q' q' => by
      refine ⟨.ref fa, rfl, ?_⟩
      refine dw_test (m1 := 1) (m2 := 0) (dI_draw (lo := 3) (hi := 3) rfl dI_c) dI_c G4 _ fun b H5 R5 => ?_
      have hp5 := R5.at_ hp4 np
      have G5 : GF fa 1 H5 := G4.go R5 (by omega)
      cases b with
      | true => exact ⟨fa, G5, .inl ⟨[97, 98, 99, 100], rfl, by simp, by simp, fun c H6 hc R6 => q' [c] H6 rfl (fun d hd => by
          rw [List.mem_singleton.mp hd]
          simp at hc
          unfold abcd
          omega) ((R5.trans R6).mono (by omega))⟩⟩
      | false => exact (hjoin rfl hp5 : Ev _ [some (.ref fa), some (.ref p), some (.int (most : Int)), some (T text), some (.int way), none, none, none] H5 _) H5 (Ex.refl _) _ fun H6 e6 => ⟨fa, G5.ex e6, .inl ⟨lot.flatten, rfl, fun z => by rw [z] at hLs; simp at hLs, by omega, fun c H7 hc R7 => q' [c] H7 rfl (fun d hd => by
          rw [List.mem_singleton.mp hd]
          exact hLc c hc) (((R5.then e6).trans R7).mono (by omega))⟩⟩
    refine (dI_draw rfl (dI_wk (c := 1) (d := 401) (dI_add (dI_len (dte rfl)) dI_c)) : Dw fa [some (.ref fa), some (.ref p), some (.int (most : Int)), some (T text), some (.int way), none, none, none] _ _ _) H2 (GA.mono (by omega)) _ fun v3 H3 ⟨at_, hv3, ha1, ha2⟩ R3 => hsign H3 (R3.at_ hpA np) (GA.go R3 (m' := 2) (by omega)) _ fun sign H4 hsl hsc R4 => ⟨_, _, rfl, ?_⟩
    subst hv3
    have RB : Rf fa 105 H H4 := (RA.trans (R3.trans R4)).mono (by omega)
    have GB : GF fa 395 H4 := G.go RB (by omega)
    have hpB := RB.at_ hp np
    clear R3 R4 RA GA hpA hsign
    show tSeq _ _ _ [some (.ref fa), some (.ref p), some (.int (most : Int)), some (T text), some (.int way), some (.int at_), some (T sign), none] H4
    have dsi : ∀ {σ : L2.St}, σ[6]? = some (some (T sign)) → Dw fa σ 0 (tVar 6) (GdT abcd 1 1) := fun h0 => dT_var h0 (by omega) (by omega) hsc
    have dat : ∀ {σ : L2.St}, σ[5]? = some (some (.int at_)) → Dw fa σ 0 (tVar 5) (GdI 0 400) := fun h0 => dI_var h0 (by omega) (by omega)
    have lo_ : ∀ {σ : L2.St}, σ[3]? = some (some (T text)) → σ[5]? = some (some (.int at_)) → Dw fa σ 0 (tSl rSlT (tVar 3) tNoPart (tPart (tVar 5))) (GdT abcd 0 400) := fun h3 h5 => dw_mono (dT_sl (dte h3) do_none (do_some (dat h5))) (by omega)
    have hi1 : ∀ {σ : L2.St}, σ[3]? = some (some (T text)) → σ[5]? = some (some (.int at_)) → Dw fa σ 0 (tSl rSlT (tVar 3) (tPart (tOp (rI0 fun i j => .int (i + j)) (tVar 5) (tC (.int 1)))) tNoPart) (GdT abcd 0 400) := fun h3 h5 => dw_mono (dT_sl (dte h3) (do_some (dI_add (dat h5) dI_c)) do_none) (by omega)
    have hi0 : ∀ {σ : L2.St}, σ[3]? = some (some (T text)) → σ[5]? = some (some (.int at_)) → Dw fa σ 0 (tSl rSlT (tVar 3) (tPart (tVar 5)) tNoPart) (GdT abcd 0 400) := fun h3 h5 => dw_mono (dT_sl (dte h3) (do_some (dat h5)) do_none) (by omega)
    -- near
    refine (dT_add (dT_add (lo_ rfl rfl) (dsi rfl)) (hi1 rfl rfl) : Dw fa [some (.ref fa), some (.ref p), some (.int (most : Int)), some (T text), some (.int way), some (.int at_), some (T sign), none] _ _ _) H4 (GB.mono (by omega)) _ fun w1 H5 g1 R5 => (dT_add (dT_add (lo_ rfl rfl) (dsi rfl)) (hi0 rfl rfl) : Dw fa [some (.ref fa), some (.ref p), some (.int (most : Int)), some (T text), some (.int way), some (.int at_), some (T sign), none] _ _ _) H5 (GB.go R5 (m' := 0) (by omega)) _ fun w2 H6 g2 R6 => (dT_add (lo_ rfl rfl) (hi1 rfl rfl) : Dw fa [some (.ref fa), some (.ref p), some (.int (most : Int)), some (T text), some (.int way), some (.int at_), some (T sign), none] _ _ _) H6 (GB.go (R5.trans R6) (m' := 0) (by omega)) _ fun w3 H7 g3 R7 => ⟨.ref fa, rfl, (hjoin rfl ((((R5.trans R6).trans R7)).at_ hpB np) : Ev _ [some (.ref fa), some (.ref p), some (.int (most : Int)), some (T text), some (.int way), some (.int at_), some (T sign), none] H7 _) H7 (Ex.refl _) _ fun H8 e8 => ⟨.int (most : Int), rfl, fa, lot.flatten, most, rfl, (GB.go (((R5.trans R6).trans R7).then e8) (m' := most + 1) (by omega)), by omega, fun z => by rw [z] at hLs; simp at hLs, by omega, fun t4 H9 ht4 hc4 R9 => ⟨by show 4 ≤ sizeLine; decide, fun pn hpn => ?_⟩⟩⟩
    have R59 : Rf fa (most + 1) H4 H9 := ((((R5.trans R6).trans R7).then e8).trans R9).mono (by omega)
    have RC : Rf fa 500 H (upd H9 pn (.lst [w1, w2, w3, T t4])) := ((RB.trans R59).mono (by omega)).then (Ex.new hpn)
    have hn : (upd H9 pn (.lst [w1, w2, w3, T t4])) pn = some (.lst [w1, w2, w3, T t4]) := upd_same
    generalize upd H9 pn (.lst [w1, w2, w3, T t4]) = HC at RC hn
    have g4 : GdT abcd 0 900 (T t4) := ⟨t4, rfl, Nat.zero_le _, by omega, fun c hc => hLc c (hc4 c hc)⟩
    have wk : ∀ {v : V} {a b : Nat}, GdT abcd a b v → b ≤ 900 → GdT abcd 0 900 v := fun ⟨s, h1, h2, h3, h4⟩ hb => ⟨s, h1, Nat.zero_le _, by omega, h4⟩
    have gall : ∀ v ∈ [w1, w2, w3, T t4], GdT abcd 0 900 v := fun v hv => by
      simp only [List.mem_cons, List.not_mem_nil, or_false] at hv
      rcases hv with rfl | rfl | rfl | rfl
      · exact wk g1 (by omega)
      · exact wk g2 (by omega)
      · exact wk g3 (by omega)
      · exact g4
    refine s_retIf (σ := [some (.ref fa), some (.ref p), some (.int (most : Int)), some (T text), some (.int way), some (.int at_), some (T sign), some (.ref pn)]) (H := HC) (et_test (ev_op (ev_var rfl) ev_c rv_I0)) (fun hb HD eD => s_ret (ev_var rfl) fun HE eE => k text HE ht1 ht2 ((RC.then eD).then eE)) (fun hb HD eD => ?_)
    have hw4 : ¬ way < 4 := by simpa using hb
    obtain ⟨j, hj⟩ := Int.eq_ofNat_of_zero_le (show 0 ≤ way - 4 by omega)
    have hj4 : j < [w1, w2, w3, T t4].length := by show j < 4; omega
    obtain ⟨s, hs, _, hs2, hs3⟩ := gall _ (List.getElem_mem hj4)
    refine s_ret (v := T (s.take 400)) (ev_is (ev_slT (a := s) (ev_op (ev_var rfl) (ev_op (ev_var rfl) ev_c rv_I0) (rv_ixL (sq_of (eD _ _ hn)) (by rw [hj, ← hs]; exact atI_nat (List.getElem?_eq_getElem hj4)))) eo_none (eo_some ev_c) (by omega)) (by rw [show (400 : Int) = ((400 : Nat) : Int) from rfl, cutT_to])) fun HE eE => k _ HE (by rw [List.length_take]; omega) (fun c hc => hs3 c (List.mem_of_mem_take hc)) ((RC.then eD).then eE)
end
end K03
set_option Elab.async false
set_option linter.all false
set_option maxRecDepth 100000
set_option maxHeartbeats 2000000
namespace K03
open PySem PySem.Spec PyProof.Rows L2 Evl Wc Wt
def areSigns (a : Tx) (most : Int) : Bool := decide ((a.length : Int) ≤ most) && a.all fun c => decide (c ∈ [97, 98, 99, 100])
def sp_are_signs : Sp := fun vs H Q _ => ∃ (a : Tx) (most : Int), vs = [T a, .int most] ∧ a.length ≤ 20000 ∧ RetV (.bl (areSigns a most)) H Q
def sp_is_text : Sp := fun vs H Q _ => ∃ (a : Tx), vs = [T a] ∧ a.length ≤ 20000 ∧ RetV (.bl (areSigns a 400)) H Q
def sp_need_text : Sp := fun vs H Q _ => ∃ (a : Tx), vs = [T a] ∧ a.length ≤ 20000 ∧ areSigns a 400 = true ∧ RetV .non H Q
theorem areSigns_ok {a : Tx} {m : Nat} (h1 : a.length ≤ m) (h2 : ∀ c ∈ a, abcd c) : areSigns a (m : Int) = true := by
  unfold areSigns
  rw [Bool.and_eq_true, decide_eq_true_eq, List.all_eq_true]
  refine ⟨by omega, fun c hc => decide_eq_true ?_⟩
  have := h2 c hc
  unfold abcd at this
  have h4 : c = 97 ∨ c = 98 ∨ c = 99 ∨ c = 100 := by omega
  rcases h4 with rfl | rfl | rfl | rfl <;> decide
section
variable {P : Program} {w : World} {K : PySem.W.Frag} {mg : Str → Option Value} {base : Heap}
theorem ok_are_signs {f : Addr} {fd : FuncData} (F : Fun K "are_signs" "are_signs" st_are_signs f fd) (M : Md K mg) : FnOk P w K mg base CX0 1 f fd ["thing", "most"] sp_are_signs := by
  have nd := sc_are_signs.nd
  refine F.ok sc_are_signs (fun vs H Q E h => ?_) (fun cdv A outer s H vs Q E hr h => ?_)
  · obtain ⟨_, _, rfl, _⟩ := h
    rfl
  · obtain ⟨a, most, rfl, ha, k⟩ := h
    refine ⟨_, (pss_one (ps_ret (pe_and (pe_callB (kcr K (r := rIsiB) cr_isi) (by rfl) M.n_isinstance boot_isinstance (pa_cons (pv 0) (pa_cons (pe_bltn (v := .ty "str") rfl M.n_str boot_str rfl) pa_nil))) (pe_and (pe_cmpR op_le (pe_callB cr_lenT (by rfl) M.n_len boot_len (pa_cons (pv 0) pa_nil)) (pv 1) (nomark _)) (pe_one (pe_callB (kcr K (r := rAll) (cr_all rfl)) (by rfl) M.n_all boot_all (pa_cons (pe_lc (own := [("sign", 2)]) rfl nd (pi_str (pv 0)) (blkOk_by (N := N_are_signs) (sc := defScope st_are_signs) (by decide +kernel)) (fun _ _ _ _ _ => (pg_name (i := 2) nd rfl (Or.inl rfl))) (fun _ _ _ _ _ => pts_nil) (fun _ _ _ _ _ => (pe_cmpR op_inT (pv 2) (pe_gT M.c_SIGNS [97, 98, 99, 100]) (by rfl)))) pa_nil))))))), ?_⟩
    exact s_ret (ev_andV (ev_cb (ea_cons (ev_var rfl) (ea_cons ev_c ea_nil)) (rc_isi (fun _ _ => .base (.str _)) k_str_str)) fun _ => ev_andV (ev_op (ev_cb (ea_cons (ev_var rfl) ea_nil) (rc_lenT (by omega))) (ev_var rfl) rv_I0) fun _ =>
      ev_cbL (el_lcM a (src_str (ev_var rfl)) (by omega) (fun _ => rfl) fun c H1 e1 hc => ev_op (ev_var rfl) ev_c rv_inT) fun p H1 hp e1 => rc_allM (sq_of hp)) k
theorem ok_is_text {f : Addr} {fd : FuncData} (F : Fun K "is_text" "is_text" st_is_text f fd) (M : Md K mg) (C_are_signs : Cal P w K mg base "are_signs" st_are_signs 1 ["thing", "most"] sp_are_signs) : FnOk P w K mg base CX0 2 f fd ["thing"] sp_is_text := by
  have nd := sc_is_text.nd
  refine F.ok sc_is_text (fun vs H Q E h => ?_) (fun cdv A outer s H vs Q E hr h => ?_)
  · obtain ⟨_, rfl, _⟩ := h
    rfl
  · obtain ⟨a, rfl, ha, k⟩ := h
    refine ⟨_, (pss_one (ps_ret (pe_cl C_are_signs hr (pa_cons (pv 0) (pa_cons (pe_gI M.c_MOST_SIGNS) pa_nil))))), ?_⟩
    exact s_ret (ev_call (ea_cons (ev_var rfl) (ea_cons ev_c ea_nil)) fun H1 e1 Q q E => ⟨a, 400, rfl, ha, q⟩) k
theorem ok_need_text {f : Addr} {fd : FuncData} (F : Fun K "need_text" "need_text" st_need_text f fd) (M : Md K mg) (C_is_text : Cal P w K mg base "is_text" st_is_text 2 ["thing"] sp_is_text) : FnOk P w K mg base CX0 3 f fd ["text"] sp_need_text := by
  have nd := sc_need_text.nd
  refine F.ok sc_need_text (fun vs H Q E h => ?_) (fun cdv A outer s H vs Q E hr h => ?_)
  · obtain ⟨_, rfl, _⟩ := h
    rfl
  · obtain ⟨a, rfl, ha, hs, k⟩ := h
    refine ⟨_, (pss_one (ps_if (pt_not (pt_val (pe_cl C_is_text hr (pa_cons (pv 0) pa_nil))))
  (pss_one ps_never)
  pss_nil)), ?_⟩
    refine s_when (et_not (et_B (ev_call (ea_cons (ev_var rfl) ea_nil) fun H1 e1 Q q E => ⟨a, rfl, ha, q⟩))) (fun hb => ?_) (fun _ => k)
    rw [hs] at hb
    cases hb

def sp_is_word : Sp := fun vs H Q _ => ∃ (a : Tx), vs = [T a] ∧ a.length ≤ 20000 ∧ RetV (.bl (areSigns a 12 && !decide (a = []))) H Q
/-- a lot at p -/
def LotAt (p : Addr) (lot : List Tx) (H : Hp) : Prop := H p = some (.tup (lot.map T)) ∧ IsLot lot
def sp_ascending : Sp := fun vs H Q _ => ∃ (p : Addr) (lot : List Tx), vs = [.ref p] ∧ LotAt p lot H ∧ RetV (.bl true) H Q
def sp_lot_form : Sp := fun vs H Q _ => ∃ (p : Addr) (lot : List Tx), vs = [.ref p] ∧ LotAt p lot H ∧ RetV (.bl true) H Q
def sp_need_lot : Sp := fun vs H Q _ => ∃ (p : Addr) (lot : List Tx), vs = [.ref p] ∧ LotAt p lot H ∧ RetV .non H Q
def sp_need_both : Sp := fun vs H Q _ => ∃ (p : Addr) (lot : List Tx) (a : Tx), vs = [.ref p, T a] ∧ LotAt p lot H ∧ a.length ≤ 400 ∧ (∀ c ∈ a, abcd c) ∧ RetV .non H Q
theorem LotAt.ex {p : Addr} {lot : List Tx} {H H1 : Hp} (h : LotAt p lot H) (e : Ex H H1) : LotAt p lot H1 := ⟨e _ _ h.1, h.2⟩
theorem zip_lt : ∀ {lot : List Tx}, lot.Pairwise (· < ·) → ∀ a ∈ List.zip lot (lot.drop 1), a.1 < a.2
  | [], _, a, h => by simp at h
  | [x], _, a, h => by simp at h
  | x :: y :: r, hp, a, h => by
    rw [List.pairwise_cons] at hp
    simp only [List.drop_succ_cons, List.drop_zero, List.zip_cons_cons, List.mem_cons] at h
    rcases h with rfl | h
    · exact hp.1 y List.mem_cons_self
    · have := zip_lt hp.2 a
      simp only [List.drop_succ_cons, List.drop_zero] at this
      exact this h
theorem ok_is_word {f : Addr} {fd : FuncData} (F : Fun K "is_word" "is_word" st_is_word f fd) (M : Md K mg) (C_are_signs : Cal P w K mg base "are_signs" st_are_signs 1 ["thing", "most"] sp_are_signs) : FnOk P w K mg base CX0 2 f fd ["thing"] sp_is_word := by
  have nd := sc_is_word.nd
  refine F.ok sc_is_word (fun vs H Q E h => ?_) (fun cdv A outer s H vs Q E hr h => ?_)
  · obtain ⟨_, rfl, _⟩ := h
    rfl
  · obtain ⟨a, rfl, ha, k⟩ := h
    refine ⟨_, (pss_one (ps_ret (pe_and (pe_cl C_are_signs hr (pa_cons (pv 0) (pa_cons (pe_gI M.c_MOST_LETTERS) pa_nil))) (pe_one (pe_cmpR op_neT (pv 0) (pe_sT []) (nomark _)))))), ?_⟩
    exact s_ret (ev_andV (ev_call (ea_cons (ev_var rfl) (ea_cons ev_c ea_nil)) fun H1 e1 Q q E => ⟨a, 12, rfl, ha, q⟩) fun _ => ev_op (ev_var rfl) ev_c rv_neT) k
theorem ok_is_ascending {f : Addr} {fd : FuncData} (F : Fun K "is_ascending" "is_ascending" st_is_ascending f fd) (M : Md K mg) : FnOk P w K mg base CX0 1 f fd ["things"] sp_ascending := by
  have nd := sc_is_ascending.nd
  refine F.ok sc_is_ascending (fun vs H Q E h => ?_) (fun cdv A outer s H vs Q E hr h => ?_)
  · obtain ⟨_, _, rfl, _⟩ := h
    rfl
  · obtain ⟨p, lot, rfl, ⟨hp, hL⟩, k⟩ := h
    refine ⟨_, (pss_one (ps_ret (pe_callB (kcr K (r := rAll) (cr_all rfl)) (by rfl) M.n_all boot_all (pa_cons (pe_lc (own := [("one", 1), ("other", 2)]) rfl nd (kiza K (RZ.pi_zipA (by rfl) M.n_zip (pa_cons (pv 0) (pa_cons (pe_slice (ksl K (r := rSlA) sl_tupA) (pv 0) (po_some pe_int) po_none) pa_nil)))) (blkOk_by (N := N_is_ascending) (sc := defScope st_is_ascending) (by decide +kernel)) (fun _ _ _ _ _ => (kgt K (n := 2) (pg_tup rfl (pgs_cons (pg_name (i := 1) nd rfl (Or.inl rfl)) (pgs_cons (pg_name (i := 2) nd rfl (Or.inl rfl)) pgs_nil))))) (fun _ _ _ _ _ => pts_nil) (fun _ _ _ _ _ => (pe_cmpR op_ltT' (pv 1) (pv 2) (nomark _)))) pa_nil)))), ?_⟩
    have hsl : EvU (tSl (rSlA K) (tVar 0) (tPart (tC (.int 1))) tNoPart) (start N_is_ascending [.ref p]) H ((lot.drop 1).map T) := by
      have := el_dropU (K := K) (σ := start N_is_ascending [.ref p]) (H := H) (te := tVar 0) (xs := lot.map T) (ev_var rfl) (st_of hp) (by rw [List.length_map]; exact List.length_pos_iff.mpr hL.ne)
      rw [← List.map_drop] at this
      exact this
    have hz : ∀ (i : Nat) (x : V) (H1 : Hp), (∃ q y z, x = .ref q ∧ (lot.map T)[i]? = some y ∧ ((lot.drop 1).map T)[i]? = some z ∧ H1 q = some (.tup [y, z])) → ∃ a, (List.zip lot (lot.drop 1))[i]? = some a ∧ (∃ q, x = .ref q ∧ H1 q = some (.tup [T a.1, T a.2])) := fun i x H1 ⟨q, y, z, h1, h2, h3, h4⟩ => by
      obtain ⟨a, ha, rfl⟩ := at_map h2
      obtain ⟨b, hb, rfl⟩ := at_map h3
      exact ⟨(a, b), by rw [List.getElem?_zip_eq_some]; exact ⟨ha, hb⟩, q, h1, h4⟩
    have hlt : ∀ a ∈ List.zip lot (lot.drop 1), a.1 < a.2 := zip_lt hL.asc
    refine s_ret (ev_is (ev_cbL (el_lcG (p := fun _ => true) (gv := fun _ => V.bl true) (List.zip lot (lot.drop 1)) (fun a => [some (.ref p), some (T a.1), some (T a.2)]) (fun a x H1 => ∃ q, x = .ref q ∧ H1 q = some (.tup [T a.1, T a.2])) (src_zipT (n := min (lot.map T).length ((lot.drop 1).map T).length) (ev_var rfl) hsl (st_of hp) rfl) ?_ ?_ hz ?_ (fun _ => rfl) (fun a H1 e1 ha => et_yes) (fun a H1 e1 ha _ => ev_is (ev_op (ev_var rfl) (ev_var rfl) rv_ltT) (by rw [decide_eq_true (hlt a ha)]))) fun q H2 hq e2 => ?_) rfl) k
    · rw [List.length_map]
      have := hL.few
      omega
    · simp
    · rintro a x H1 Q' ⟨q, rfl, hq⟩ k'
      exact ⟨q, _, rfl, st_of hq, rfl, T a.1, [T a.2], rfl, T a.2, [], rfl, rfl, k'⟩
    · exact rc_allT (sq_of hq)
theorem ok_is_lot_form {f : Addr} {fd : FuncData} (F : Fun K "is_lot_form" "is_lot_form" st_is_lot_form f fd) (M : Md K mg) (C_is_word : Cal P w K mg base "is_word" st_is_word 2 ["thing"] sp_is_word) (C_is_ascending : Cal P w K mg base "is_ascending" st_is_ascending 1 ["things"] sp_ascending) : FnOk P w K mg base CX0 3 f fd ["thing"] sp_lot_form := by
  have nd := sc_is_lot_form.nd
  refine F.ok sc_is_lot_form (fun vs H Q E h => ?_) (fun cdv A outer s H vs Q E hr h => ?_)
  · obtain ⟨_, _, rfl, _⟩ := h
    rfl
  · obtain ⟨p, lot, rfl, ⟨hp, hL⟩, k⟩ := h
    refine ⟨_, (pss_cons (ps_if (PW.pt (pw_or (pt_not (pt_val (pe_callB (kcr K (r := rIsiB) cr_isi) (by rfl) M.n_isinstance boot_isinstance (pa_cons (pv 0) (pa_cons (pe_bltn (v := .ty "tuple") rfl M.n_tuple boot_tuple rfl) pa_nil))))) (pw_or1 (pt_not (pt_chain op_le op_le pe_int (pe_callB (kcr K (r := rLenS) call_len_seq) (by rfl) M.n_len boot_len (pa_cons (pv 0) pa_nil)) (pe_gI M.c_MOST_WORDS))))))
  (pss_one (ps_ret pe_bl))
  pss_nil)
  (pss_one (ps_ret (pe_and (pe_callB (kcr K (r := rAll) (cr_all rfl)) (by rfl) M.n_all boot_all (pa_cons (pe_lc (own := [("word", 1)]) rfl nd (kit K (pi_tup (pv 0))) (blkOk_by (N := N_is_lot_form) (sc := defScope st_is_lot_form) (by decide +kernel)) (fun _ _ _ _ _ => (pg_name (i := 1) nd rfl (Or.inl rfl))) (fun _ _ _ _ _ => pts_nil) (fun _ _ _ _ _ => (pe_cl C_is_word hr (pa_cons (pv 1) pa_nil)))) pa_nil)) (pe_one (pe_cl C_is_ascending hr (pa_cons (pv 0) pa_nil))))))), ?_⟩
    have hpos : 0 < lot.length := List.length_pos_iff.mpr hL.ne
    have hfew := hL.few
    refine q_when (b := false) (et_is (et_or (et_not (et_B (ev_cb (ea_cons (ev_var rfl) (ea_cons ev_c ea_nil)) (rc_isi (b := true) (fun H1 e => .base (.tup (e _ _ hp))) k_tuple_tuple)))) fun _ => et_not (et_test (ev_chain ev_c (ev_lenU (ev_var rfl) (st_of hp)) rv_I0 ev_c rv_I0))) ?_) (fun z => by cases z) (fun _ H1 e1 => ?_)
    · rw [List.length_map]
      simp
      omega
    · refine s_ret (ev_is (w := .bl true) (ev_andV (a := true) (b := true) (ev_cbL (el_lcM (g := fun _ => V.bl true) lot (src_tupM (ev_var rfl) (st_of (e1 _ _ hp))) (by omega) (fun _ => rfl) fun t H2 e2 ht => ev_is (ev_call (ea_cons (ev_var rfl) ea_nil) fun H3 e3 Q3 q3 E => ⟨t, rfl, by have := (hL.wd t ht).1; omega, q3⟩) (by rw [show areSigns t 12 = true from areSigns_ok (m := 12) (hL.wd t ht).1 (hL.wd t ht).2, decide_eq_false (hL.pos t ht)]; rfl)) fun q H2 hq e2 => rc_allT (sq_of hq)) fun _ => ev_call (ea_cons (ev_var rfl) ea_nil) fun H3 e3 Q3 q3 E => ⟨p, lot, rfl, ⟨(e1.trans e3) _ _ hp, hL⟩, q3⟩) rfl) (RetV.mono k e1)
theorem ok_need_lot {f : Addr} {fd : FuncData} (F : Fun K "need_lot" "need_lot" st_need_lot f fd) (M : Md K mg) (C_is_lot_form : Cal P w K mg base "is_lot_form" st_is_lot_form 3 ["thing"] sp_lot_form) : FnOk P w K mg base CX0 4 f fd ["lot"] sp_need_lot := by
  have nd := sc_need_lot.nd
  refine F.ok sc_need_lot (fun vs H Q E h => ?_) (fun cdv A outer s H vs Q E hr h => ?_)
  · obtain ⟨_, _, rfl, _⟩ := h
    rfl
  · obtain ⟨p, lot, rfl, hL, k⟩ := h
    refine ⟨_, (pss_one (ps_if (pt_not (pt_val (pe_cl C_is_lot_form hr (pa_cons (pv 0) pa_nil))))
  (pss_one ps_never)
  pss_nil)), ?_⟩
    exact s_when (b := false) (et_is (et_not (et_B (ev_call (ea_cons (ev_var rfl) ea_nil) fun H1 e1 Q q E => ⟨p, lot, rfl, hL.ex e1, q⟩))) rfl) (fun z => by cases z) (fun _ => k)
theorem ok_need_both {f : Addr} {fd : FuncData} (F : Fun K "need_both" "need_both" st_need_both f fd) (M : Md K mg) (C_need_lot : Cal P w K mg base "need_lot" st_need_lot 4 ["lot"] sp_need_lot) (C_need_text : Cal P w K mg base "need_text" st_need_text 3 ["text"] sp_need_text) : FnOk P w K mg base CX0 5 f fd ["lot", "text"] sp_need_both := by
  have nd := sc_need_both.nd
  refine F.ok sc_need_both (fun vs H Q E h => ?_) (fun cdv A outer s H vs Q E hr h => ?_)
  · obtain ⟨_, _, _, rfl, _⟩ := h
    rfl
  · obtain ⟨p, lot, a, rfl, hL, ha, hc, k⟩ := h
    refine ⟨_, (pss_cons (ps_expr (pe_cl C_need_lot hr (pa_cons (pv 0) pa_nil)))
  (pss_one (ps_expr (pe_cl C_need_text hr (pa_cons (pv 1) pa_nil))))), ?_⟩
    refine q_drop (ev_call (ea_cons (ev_var rfl) ea_nil) fun H1 e1 Q q E => ⟨p, lot, rfl, hL.ex e1, q⟩) fun H1 e1 => ?_
    exact s_drop (ev_call (ea_cons (ev_var rfl) ea_nil) fun H2 e2 Q q E => ⟨a, rfl, by omega, areSigns_ok ha hc, q⟩) fun H2 e2 => k H2 (e1.trans e2)
end
end K03
set_option Elab.async false
set_option linter.all false
set_option maxRecDepth 100000
set_option maxHeartbeats 4000000
namespace K03
open PySem PySem.Spec PyProof.Rows L2 Evl Wc Wt
section
variable {P : Program} {w : World} {K : PySem.W.Frag} {mg : Str → Option Value} {base : Heap}
/-- sorted(set(..)) of the texts of a standing list -/
theorem sortSetAt {p : Addr} {xs : List Tx} {H : Hp} {Q : VK} (hp : H p = some (.lst (xs.map T))) (hl : xs.length ≤ 4000) (k : ∀ r zs H3, Uniq xs zs → zs.length ≤ xs.length → H r = none → Ex H H3 → H3 r = some (.lst ((sortT zs).map T)) → Q (.ref r) H3) : rSetTx K P w [.ref p] H fun s H2 => rSortX K P w [s] H2 Q :=
  ⟨p, xs, rfl, sq_of hp, hl, fun q ys u hly hq => .inr ⟨q, ys, rfl, upd_same, fun zs r pz hr => by
    have hr1 : H r = none := fresh_back (Ex.new hq) hr
    exact k r zs _ ⟨pz.nodup_iff.mpr u.nd, fun x => (pz.mem_iff).trans (u.mem x)⟩ (by rw [pz.length_eq]; exact hly) hr1 ((Ex.new hq).trans (Ex.new hr)) upd_same⟩⟩
theorem s_many {tl t3 tm : TE} {D : Ends} {σ : L2.St} {H : Hp} (h : tl σ H fun v1 H1 => t3 σ H1 fun v2 H2 => rCat v1 v2 H2 fun v3 H3 => rSetTx K P w [v3] H3 fun v4 H4 => rSortX K P w [v4] H4 fun v5 H5 => rTupS K [v5] H5 fun v6 H6 => tm σ H6 fun v7 H7 => [v6, v7].length ≤ sizeLine ∧ ∀ q, H7 q = none → D.rt (.ref q) (upd H7 q (.lst [v6, v7]))) : tRet (tLst (tCons (tCB (rTupS K) (tCons (tCB (rSortX K P w) (tCons (tCB (rSetTx K P w) (tCons (tOp rCat tl t3) tNil)) tNil)) tNil)) (tCons tm tNil))) D σ H := h
def sp_case : Sp := fun vs H Q _ => ∃ (fa : Addr), vs = [.ref fa] ∧ GF fa 22000 H ∧ ∀ q pl lot text H', Rf fa 22000 H H' → LotAt pl lot H' → text.length ≤ 400 → (∀ c ∈ text, abcd c) → H' q = some (.lst [.ref pl, T text]) → Q (.ref q) H'
theorem ok__law_case {f : Addr} {fd : FuncData} (F : Fun K "_law_case" "_law_case" st__law_case f fd) (M : Md K mg) (C__law_draw : Cal P w K mg base "_law_draw" st__law_draw 1 ["feed", "many"] sp_draw) (C__law_one : Cal P w K mg base "_law_one" st__law_one 2 ["feed", "things"] (sp_one K)) (C__law_lot : Cal P w K mg base "_law_lot" st__law_lot 4 ["feed", "most"] sp_lot) (C__law_near_text : Cal P w K mg base "_law_near_text" st__law_near_text 4 ["feed", "lot", "most"] sp_near_text) : FnOk P w K mg base CX0 5 f fd ["feed"] sp_case := by
  have nd := sc__law_case.nd
  refine F.ok sc__law_case (fun vs H Q E h => ?_) (fun cdv A outer s H vs Q E hr h => ?_)
  · obtain ⟨_, rfl, _⟩ := h
    rfl
  · obtain ⟨fa, rfl, G, k⟩ := h
    refine ⟨_, (pss_cons (ps_set (i := 1) nd rfl (Or.inl rfl) (pe_cl C__law_lot hr (pa_cons (pv 0) (pa_cons pe_int pa_nil))))
  (pss_cons (ps_if (pt_cmpR op_eqI (pe_cl C__law_draw hr (pa_cons (pv 0) (pa_cons pe_int pa_nil))) pe_int (nomark _))
  (pss_cons (ps_asg (pe_tup (pa_cons (pe_cl C__law_one hr (pa_cons (pv 0) (pa_cons (pe_sT [97, 98]) pa_nil))) (pa_cons (pe_cl C__law_one hr (pa_cons (pv 0) (pa_cons (pe_lst (pa_cons pe_int (pa_cons pe_int (pa_cons pe_int pa_nil)))) pa_nil))) pa_nil))) (kgt K (n := 2) (pg_tup rfl (pgs_cons (pg_name (i := 2) nd rfl (Or.inr rfl)) (pgs_cons (pg_name (i := 3) nd rfl (Or.inl rfl)) pgs_nil)))))
  (pss_one (ps_ret (pe_lst (pa_cons (pe_callTy (kcr K (r := rTupS) call_tuple_of) (by rfl) M.n_tuple boot_tuple (pa_cons (pe_callB (ksorted P w K hr.units) (by rfl) M.n_sorted boot_sorted (pa_cons (pe_callTy (kset P w K) (by rfl) M.n_set boot_set (pa_cons (pe_op op_cat (pe_lc (own := [("turn", 4)]) rfl nd (pi_range1 (by rfl) M.n_range (pa_cons (pe_op op_add pe_int (pe_cl C__law_draw hr (pa_cons (pv 0) (pa_cons pe_int pa_nil)))) pa_nil)) (blkOk_by (N := N__law_case) (sc := defScope st__law_case) (by decide +kernel)) (fun _ _ _ _ _ => (pg_name (i := 4) nd rfl (Or.inl rfl))) (fun _ _ _ _ _ => pts_nil) (fun _ _ _ _ _ => (pe_op op_mulT (pv 2) (pe_op op_add pe_int (pe_cl C__law_draw hr (pa_cons (pv 0) (pa_cons pe_int pa_nil))))))) (pe_lst (pa_cons (pv 2) pa_nil))) pa_nil)) pa_nil)) pa_nil)) (pa_cons (pe_op op_mulT (pv 2) (pv 3)) pa_nil))))))
  pss_nil)
  (pss_one (ps_ret (pe_lst (pa_cons (pv 1) (pa_cons (pe_cl C__law_near_text hr (pa_cons (pv 0) (pa_cons (pv 1) (pa_cons (pe_cl C__law_one hr (pa_cons (pv 0) (pa_cons (pe_lst (pa_cons pe_int (pa_cons pe_int (pa_cons pe_int (pa_cons pe_int (pa_cons pe_int pa_nil)))))) pa_nil))) pa_nil)))) pa_nil))))))), ?_⟩
    refine ⟨.ref fa, rfl, fa, 12, rfl, by decide, by decide, G.mono (by omega), fun pl lot H1 hL hlen hpl R1 hp1 => ?_⟩
    have G1 : GF fa 2000 H1 := G.go R1 (by omega)
    have npl : pl ≠ fa := G1.ofTup hp1
    show tSeq _ _ _ [some (.ref fa), some (.ref pl), none, none, none] H1
    refine (show tIfS _ _ _ _ _ _ from s_dif (m := 1) (fun Q' q' => dw_test (m1 := 1) (m2 := 0) (dI_draw (lo := 7) (hi := 7) rfl dI_c) dI_c G1 Q' q') fun b H2 R2 => ?_)
    have G2 : GF fa 1900 H2 := G1.go R2 (by omega)
    have hp2 := R2.at_ hp1 npl
    have RA : Rf fa 20001 H H2 := R1.trans R2
    cases b with
    | true =>
      rw [if_pos rfl]
      refine (dT_one (lo := 2) (n := 2) (ok := abcd) rfl (dT_wk (dT_c (s := [97, 98]) fun c hc => by simp at hc; unfold abcd; omega) (by decide) (by decide)) : Dw fa [some (.ref fa), some (.ref pl), none, none, none] _ _ _) H2 (G2.mono (by omega)) _ fun v1 H3 ⟨sg, hv1, hs1, hs2, hs3⟩ R3 => (dI_oneL (ns := [12, 40, 400]) (lo := 12) (hi := 400) rfl (fun H => el_lst (ea_cons ev_c (ea_cons ev_c (ea_cons ev_c ea_nil))) (by show 3 ≤ 100000; decide)) (by decide) (by simp) (by decide) : Dw fa [some (.ref fa), some (.ref pl), none, none, none] _ _ _) H3 (G2.go R3 (m' := 1) (by omega)) _ fun v2 H4 ⟨long, hv2, hw1, hw2⟩ R4 => ⟨by show 2 ≤ sizeLine; decide, fun pt hpt => ⟨pt, _, rfl, st_of upd_same, rfl, v1, [v2], rfl, v2, [], rfl, rfl, ?_⟩⟩
      subst hv1 hv2
      obtain ⟨n, rfl⟩ := Int.eq_ofNat_of_zero_le (show 0 ≤ long by omega)
      have RB : Rf fa 20100 H (upd H4 pt (.tup [T sg, .int (n : Int)])) := ((RA.trans (R3.trans R4)).mono (by omega)).then (Ex.new hpt)
      generalize upd H4 pt (.tup [T sg, .int (n : Int)]) = H5 at RB
      have G5 : GF fa 1000 H5 := G.go RB (by omega)
      clear R3 R4 hpt
      dsimp only
      show tRet _ _ [some (.ref fa), some (.ref pl), some (T sg), some (.int (n : Int)), none] H5
      refine s_many ?_
      refine lcRD (lo := 1) (N := 4) (c := 1) (m0 := 1) (GdT abcd 1 5) (dI_wk (dI_add dI_c (dI_draw (lo := 4) (hi := 4) rfl dI_c))) (by omega) (G5.mono (by omega)) (fun _ => rfl) (fun x kk H6 R6 G6 Q' q' => ?_) _ fun pc H6 acc hpc R6 h6 hl1 hl2 hg => ?_
      · exact (dT_wk (dT_mul (c := 1) (d := 5) (a := 1) (b := 1) (dT_var rfl hs1 hs2 hs3) (dI_wk (dI_add dI_c (dI_draw (lo := 5) (hi := 5) rfl dI_c)))) : Dw fa [some (.ref fa), some (.ref pl), some (T sg), some (.int (n : Int)), some x] 1 _ (GdT abcd 1 5)) H6 G6 Q' q'
      · obtain ⟨ws, rfl, hws, hwl⟩ := wl_texts hg (by decide)
        rw [List.length_map] at hl1 hl2
        refine ⟨T sg, rfl, by show 1 ≤ sizeLine; decide, fun p3 hp3 => ?_⟩
        refine ⟨pc, p3, _, _, rfl, rfl, (Ex.new hp3) _ _ h6, upd_same, sz_of (by show _ + 1 ≤ 100000; rw [List.length_map]; omega), fun p4 hp4 => ?_⟩
        have eC : Ex H6 (upd (upd H6 p3 (.lst [T sg])) p4 (.lst (ws.map T ++ [T sg]))) := (Ex.new hp3).trans (Ex.new hp4)
        have h7 : (upd (upd H6 p3 (.lst [T sg])) p4 (.lst (ws.map T ++ [T sg]))) p4 = some (.lst ((ws ++ [sg]).map T)) := by rw [upd_same, List.map_append]; rfl
        generalize upd (upd H6 p3 (.lst [T sg])) p4 (.lst (ws.map T ++ [T sg])) = H7 at eC h7
        refine sortSetAt h7 (by rw [List.length_append, List.length_singleton]; omega) fun r zs H8 u hzl hr e8 h8 => ⟨r, _, rfl, .inl ⟨sq_of h8, fun l hl => ?_⟩⟩
        rw [List.length_append, List.length_singleton] at hzl
        have hin : ∀ t ∈ zs, t ∈ ws ∨ t = sg := fun t ht => by
          rcases List.mem_append.mp ((u.mem t).mp ht) with z | z
          · exact .inl z
          · exact .inr (List.mem_singleton.mp z)
        have hgood : ∀ t ∈ zs, 1 ≤ t.length ∧ t.length ≤ 12 ∧ ∀ c ∈ t, abcd c := fun t ht => by
          rcases hin t ht with z | rfl
          · have := hwl t z
            exact ⟨this.1, by omega, (hws t z).2⟩
          · exact ⟨hs1, by omega, hs3⟩
        have hsgz : sg ∈ sortT zs := sortT_mem.mpr ((u.mem sg).mpr (List.mem_append_right _ (List.mem_singleton.mpr rfl)))
        have RD : Rf fa 21000 H H8 := (((RB.trans R6).mono (by omega)).then eC).then e8
        have hIs : IsLot (sortT zs) := ⟨(fun z => by rw [z] at hsgz; cases hsgz), by rw [sortT_len]; omega, fun t ht => ⟨(hgood t (sortT_mem.mp ht)).2.1, (hgood t (sortT_mem.mp ht)).2.2⟩, (fun t ht z => by
          have := (hgood t (sortT_mem.mp ht)).1
          rw [z] at this
          simp at this), pw_lt (sortT_pw zs) ((sortT_perm zs).nodup_iff.mpr u.nd)⟩
        have hsl : sg.length = 1 := by omega
        have hmul : Ev (tOp rMulT (tVar 2) (tVar 3)) [some (.ref fa), some (.ref pl), some (T sg), some (.int (n : Int)), none] (upd H8 l (.tup ((sortT zs).map T))) (T (repT (n : Int).toNat sg)) := ev_op (ev_var rfl) (ev_var rfl) (rv_mulT (by omega) (by omega) (by rw [hsl]; omega))
        refine hmul _ (Ex.refl _) _ fun H9 e9 => ⟨by show 2 ≤ sizeLine; decide, fun q hq => k q l (sortT zs) _ _ (((RD.then (Ex.new hl)).then e9).then (Ex.new hq) |>.mono (by omega)) ⟨(e9.trans (Ex.new hq)) _ _ upd_same, hIs⟩ ?_ (fun c hc => hs3 c (repT_mem hc)) upd_same⟩
        rw [repT_len, hsl]
        omega
    | false =>
      rw [if_neg Bool.false_ne_true]
      unfold tNext
      dsimp only
      show tRet _ _ [some (.ref fa), some (.ref pl), none, none, none] H2
      refine ⟨.ref pl, rfl, .ref fa, rfl, .ref pl, rfl, ?_⟩
      refine (dI_oneL (ns := [2, 4, 8, 12, 60]) (lo := 2) (hi := 60) rfl (fun H => el_lst (ea_cons ev_c (ea_cons ev_c (ea_cons ev_c (ea_cons ev_c (ea_cons ev_c ea_nil))))) (by show 5 ≤ 100000; decide)) (by decide) (by simp) (by decide) : Dw fa [some (.ref fa), some (.ref pl), none, none, none] _ _ _) H2 (G2.mono (by omega)) _ fun v2 H4 ⟨long, hv2, hw1, hw2⟩ R4 => ?_
      subst hv2
      obtain ⟨n, rfl⟩ := Int.eq_ofNat_of_zero_le (show 0 ≤ long by omega)
      refine ⟨fa, pl, lot, n, rfl, by omega, G2.go R4 (by omega), R4.at_ hp2 npl, hL, fun t H5 ht hc R5 => ⟨by show 2 ≤ sizeLine; decide, fun q hq => ?_⟩⟩
      exact k q pl lot t _ ((((RA.trans R4).trans R5).mono (by omega)).then (Ex.new hq)) ⟨(Ex.new hq) _ _ (R5.at_ (R4.at_ hp2 npl) npl), hL⟩ ht hc upd_same
end
end K03
set_option Elab.async false
set_option linter.all false
set_option maxRecDepth 100000
set_option maxHeartbeats 2000000
namespace K03
open PySem PySem.Spec PyProof.Rows L2 Evl Wc Wt
/-- the word i stands at place -/
def stands (lot : List Tx) (text : Tx) (place i : Nat) : Bool := match lot[i]? with
  | some wd => decide (place + wd.length ≤ text.length ∧ StAt text wd place)
  | none => false
/-- the indexes of the words that stand at place -/
def wordsAt (lot : List Tx) (text : Tx) (place : Nat) : List Nat := (List.range lot.length).filter (stands lot text place)
theorem wordsAt_is {lot : List Tx} {text : Tx} {place i : Nat} (h : i ∈ wordsAt lot text place) : ∃ wd, lot[i]? = some wd ∧ place + wd.length ≤ text.length ∧ StAt text wd place := by
  unfold wordsAt at h
  obtain ⟨_, h2⟩ := List.mem_filter.mp h
  unfold stands at h2
  cases hw : lot[i]? with
  | none => rw [hw] at h2; cases h2
  | some wd =>
    rw [hw] at h2
    exact ⟨wd, rfl, (of_decide_eq_true h2).1, (of_decide_eq_true h2).2⟩
theorem wordsAt_mk {lot : List Tx} {text : Tx} {place i : Nat} {wd : Tx} (h : lot[i]? = some wd) (h1 : place + wd.length ≤ text.length) (h2 : StAt text wd place) : i ∈ wordsAt lot text place :=
  List.mem_filter.mpr ⟨List.mem_range.mpr (List.getElem?_eq_some_iff.mp h).1, by unfold stands; rw [h]; exact decide_eq_true ⟨h1, h2⟩⟩
theorem wordsAt_len (lot : List Tx) (text : Tx) (place : Nat) : (wordsAt lot text place).length ≤ lot.length := by
  unfold wordsAt
  have := List.length_filter_le (stands lot text place) (List.range lot.length)
  rw [List.length_range] at this
  exact this
theorem words_lt (lot : List Tx) (text : Tx) (p : Nat) : (wordsAt lot text p).Pairwise (· < ·) := List.Pairwise.filter _ List.pairwise_lt_range
def wl (lot : List Tx) (i : Nat) : Nat := (lot.getD i []).length
theorem wl_of {lot : List Tx} {i : Nat} {wd : Tx} (h : lot[i]? = some wd) : wl lot i = wd.length := by
  unfold wl
  rw [List.getD_eq_getElem?_getD, h]
  rfl
/-! ### all cuts of what is behind a place, ascending -/
def cutsF (lot : List Tx) (text : Tx) : Nat → Nat → List (List Nat)
  | 0, p => if p = text.length then [[]] else []
  | d + 1, p => if p = text.length then [[]] else (wordsAt lot text p).flatMap fun i => (cutsF lot text d (p + wl lot i)).map (i :: ·)
def cutsAt (lot : List Tx) (text : Tx) (p : Nat) : List (List Nat) := cutsF lot text (text.length - p) p
theorem flatMap_same {α β : Type} {l : List α} {f g : α → List β} (h : ∀ a ∈ l, f a = g a) : l.flatMap f = l.flatMap g := by
  rw [List.flatMap_def, List.flatMap_def, List.map_congr_left h]
def Pos (lot : List Tx) : Prop := ∀ wd ∈ lot, wd ≠ []
theorem word_pos {lot : List Tx} (hL : Pos lot) {text : Tx} {p i : Nat} (h : i ∈ wordsAt lot text p) : 0 < wl lot i ∧ p + wl lot i ≤ text.length ∧ i < lot.length := by
  obtain ⟨wd, h1, h2, _⟩ := wordsAt_is h
  rw [wl_of h1]
  exact ⟨List.length_pos_iff.mpr (hL wd (List.mem_of_getElem? h1)), h2, (List.getElem?_eq_some_iff.mp h1).1⟩
theorem cutsF_fuel {lot : List Tx} (hL : Pos lot) {text : Tx} : ∀ d d' p, p ≤ text.length → text.length - p ≤ d → text.length - p ≤ d' → cutsF lot text d p = cutsF lot text d' p := fun d => by
  induction d with
  | zero =>
    intro d' p hp h1 h2
    have : p = text.length := by omega
    cases d' with
    | zero => rfl
    | succ d' =>
      unfold cutsF
      rw [if_pos this, if_pos this]
  | succ d ih =>
    intro d' p hp h1 h2
    by_cases h : p = text.length
    · cases d' with
      | zero =>
        unfold cutsF
        rw [if_pos h, if_pos h]
      | succ d' =>
        unfold cutsF
        rw [if_pos h, if_pos h]
    · cases d' with
      | zero => omega
      | succ d' =>
        unfold cutsF
        rw [if_neg h, if_neg h]
        refine flatMap_same fun i hi => ?_
        have := word_pos hL hi
        rw [ih d' (p + wl lot i) (by omega) (by omega) (by omega)]
theorem cuts_last (lot : List Tx) (text : Tx) : cutsAt lot text text.length = [[]] := by
  unfold cutsAt
  rw [Nat.sub_self]
  unfold cutsF
  rw [if_pos rfl]
theorem cuts_step {lot : List Tx} (hL : Pos lot) {text : Tx} {p : Nat} (hp : p < text.length) : cutsAt lot text p = (wordsAt lot text p).flatMap fun i => (cutsAt lot text (p + wl lot i)).map (i :: ·) := by
  obtain ⟨d, hd⟩ : ∃ d, text.length - p = d + 1 := ⟨text.length - p - 1, by omega⟩
  have e : cutsAt lot text p = cutsF lot text (d + 1) p := by unfold cutsAt; rw [hd]
  rw [e]
  unfold cutsF
  rw [if_neg (by omega)]
  refine flatMap_same fun i hi => ?_
  have := word_pos hL hi
  unfold cutsAt
  rw [cutsF_fuel hL d (text.length - (p + wl lot i)) (p + wl lot i) (by omega) (by omega) (by omega)]
/-- the words of these indexes, one behind the other -/
def put (lot : List Tx) (c : List Nat) : Tx := (c.map fun i => lot.getD i []).flatten
theorem put_cons (lot : List Tx) (i : Nat) (c : List Nat) : put lot (i :: c) = lot.getD i [] ++ put lot c := rfl
theorem put_app (lot : List Tx) (c d : List Nat) : put lot (c ++ d) = put lot c ++ put lot d := by
  unfold put
  rw [List.map_append, List.flatten_append]
def Ixs (lot : List Tx) (c : List Nat) : Prop := ∀ i ∈ c, i < lot.length
theorem stAt_drop {text wd : Tx} {p : Nat} : StAt text wd p ↔ (text.drop p).take wd.length = wd := Iff.rfl
theorem mem_cuts {lot : List Tx} (hL : Pos lot) {text : Tx} : ∀ d p, p + d = text.length → ∀ c, c ∈ cutsAt lot text p ↔ Ixs lot c ∧ put lot c = text.drop p := by
  intro d
  induction d using Nat.strongRecOn with
  | _ d ih =>
    intro p hp c
    by_cases hd : d = 0
    · have : p = text.length := by omega
      subst this
      rw [cuts_last, List.mem_singleton, List.drop_length]
      constructor
      · rintro rfl
        exact ⟨fun i hi => (nomatch hi), rfl⟩
      · rintro ⟨h1, h2⟩
        cases c with
        | nil => rfl
        | cons i c =>
          rw [put_cons] at h2
          have hi := h1 i List.mem_cons_self
          have hz := (List.append_eq_nil_iff.mp h2).1
          rw [List.getD_eq_getElem?_getD, List.getElem?_eq_getElem hi] at hz
          exact absurd hz (hL _ (List.getElem_mem hi))
    · rw [cuts_step hL (by omega), List.mem_flatMap]
      constructor
      · rintro ⟨i, hi, hc⟩
        obtain ⟨c', hc', rfl⟩ := List.mem_map.mp hc
        have hw := word_pos hL hi
        obtain ⟨h1, h2⟩ := (ih (d - wl lot i) (by omega) (p + wl lot i) (by omega) c').mp hc'
        obtain ⟨wd, w1, w2, w3⟩ := wordsAt_is hi
        refine ⟨fun j hj => ?_, ?_⟩
        · rcases List.mem_cons.mp hj with rfl | hj
          · exact hw.2.2
          · exact h1 j hj
        · rw [put_cons, h2, wl_of w1]
          have e : lot.getD i [] = wd := by rw [List.getD_eq_getElem?_getD, w1]; rfl
          rw [e, ← List.drop_drop]
          conv => rhs; rw [← List.take_append_drop wd.length (text.drop p)]
          rw [stAt_drop.mp w3]
      · rintro ⟨h1, h2⟩
        cases c with
        | nil =>
          have := congrArg List.length h2
          rw [List.length_drop] at this
          simp [put] at this
          omega
        | cons i c' =>
          have hi := h1 i List.mem_cons_self
          have w1 := List.getElem?_eq_getElem hi
          have e : lot.getD i [] = lot[i] := by rw [List.getD_eq_getElem?_getD, w1]; rfl
          rw [put_cons, e] at h2
          have hl := congrArg List.length h2
          rw [List.length_append, List.length_drop] at hl
          have hpos := List.length_pos_iff.mpr (hL _ (List.getElem_mem hi))
          have hst : StAt text lot[i] p := stAt_drop.mpr (by rw [← h2, List.take_left])
          refine ⟨i, wordsAt_mk w1 (by omega) hst, List.mem_map.mpr ⟨c', ?_, rfl⟩⟩
          rw [wl_of w1]
          refine (ih (d - lot[i].length) (by omega) (p + lot[i].length) (by omega) c').mpr ⟨fun j hj => h1 j (List.mem_cons_of_mem _ hj), ?_⟩
          rw [← List.drop_drop, ← h2, List.drop_left]
theorem nodup_cuts {lot : List Tx} (hL : Pos lot) {text : Tx} : ∀ d p, p + d = text.length → (cutsAt lot text p).Nodup := by
  intro d
  induction d using Nat.strongRecOn with
  | _ d ih =>
    intro p hp
    by_cases hd : d = 0
    · have : p = text.length := by omega
      subst this
      rw [cuts_last]
      exact List.pairwise_singleton _ _
    · rw [cuts_step hL (by omega)]
      show List.Pairwise _ _
      rw [List.pairwise_flatMap]
      refine ⟨fun i hi => ?_, List.Pairwise.imp_of_mem (fun {a b} ha hb hab x hx y hy => ?_) (words_lt lot text p)⟩
      · have := word_pos hL hi
        rw [List.pairwise_map]
        exact List.Pairwise.imp (fun {a b} h z => h (List.cons.inj z).2) (ih (d - wl lot i) (by omega) (p + wl lot i) (by omega))
      · obtain ⟨x', _, rfl⟩ := List.mem_map.mp hx
        obtain ⟨y', _, rfl⟩ := List.mem_map.mp hy
        intro z
        have := (List.cons.inj z).1
        omega
/-! ### the cut with a number, the number of a cut -/
def sumL {β : Type} (f : Nat → List β) (l : List Nat) : Nat := (l.map fun i => (f i).length).sum
theorem sumL_take {β : Type} {f : Nat → List β} {l : List Nat} {j i : Nat} (h : l[j]? = some i) : sumL f (l.take (j + 1)) = sumL f (l.take j) + (f i).length := by
  unfold sumL
  rw [List.take_add_one, h, List.map_append, List.sum_append]
  simp
theorem sumL_all {β : Type} (f : Nat → List β) (l : List Nat) : (l.flatMap f).length = sumL f l := by
  unfold sumL
  rw [List.length_flatMap]
theorem pick_at {β : Type} {f : Nat → List β} : ∀ {l : List Nat} {j i k : Nat}, l[j]? = some i → k < (f i).length → (l.flatMap f)[sumL f (l.take j) + k]? = (f i)[k]? := fun {l} => by
  induction l with
  | nil => intro j i k h; simp at h
  | cons a l ih =>
    intro j i k h hk
    rw [List.flatMap_cons]
    cases j with
    | zero =>
      rw [List.getElem?_cons_zero] at h
      cases h
      have : sumL f ((a :: l).take 0) + k = k := by unfold sumL; simp
      rw [this, List.getElem?_append_left hk]
    | succ j =>
      rw [List.getElem?_cons_succ] at h
      have : sumL f ((a :: l).take (j + 1)) = (f a).length + sumL f (l.take j) := by unfold sumL; simp
      rw [this, List.getElem?_append_right (by omega), ← ih h hk]
      congr 1
      omega
theorem pick_ex {β : Type} {f : Nat → List β} : ∀ {l : List Nat} {k : Nat}, k < sumL f l → ∃ j i k', l[j]? = some i ∧ k' < (f i).length ∧ sumL f (l.take j) + k' = k := fun {l} => by
  induction l with
  | nil => intro k h; unfold sumL at h; simp at h
  | cons a l ih =>
    intro k h
    have e : sumL f (a :: l) = (f a).length + sumL f l := by unfold sumL; simp
    by_cases hk : k < (f a).length
    · exact ⟨0, a, k, rfl, hk, by unfold sumL; simp⟩
    · obtain ⟨j, i, k', h1, h2, h3⟩ := ih (k := k - (f a).length) (by omega)
      refine ⟨j + 1, i, k', h1, h2, ?_⟩
      have : sumL f ((a :: l).take (j + 1)) = (f a).length + sumL f (l.take j) := by unfold sumL; simp
      omega
/-- how many cuts begin with a lesser word at p -/
def before (lot : List Tx) (text : Tx) (p t : Nat) : Nat := sumL (fun i => cutsAt lot text (p + wl lot i)) ((List.range t).filter (stands lot text p))
def rankF (lot : List Tx) (text : Tx) : Nat → List Nat → Nat
  | _, [] => 0
  | p, t :: c => before lot text p t + rankF lot text (p + wl lot t) c
theorem filter_pre {q : Nat → Bool} {n : Nat} : ∀ {j t : Nat}, ((List.range n).filter q)[j]? = some t → ((List.range n).filter q).take j = (List.range t).filter q := by
  induction n with
  | zero => intro j t h; simp at h
  | succ n ih =>
    intro j t h
    rw [List.range_succ, List.filter_append] at h ⊢
    by_cases hj : j < ((List.range n).filter q).length
    · rw [List.getElem?_append_left hj] at h
      rw [List.take_append_of_le_length (by omega)]
      exact ih h
    · rw [List.getElem?_append_right (by omega)] at h
      cases hq : q n with
      | false =>
        rw [List.filter_cons_of_neg (by rw [hq]; exact Bool.false_ne_true)] at h
        simp at h
      | true =>
        rw [List.filter_cons_of_pos hq] at h ⊢
        have hl := (List.getElem?_eq_some_iff.mp h).1
        simp at hl
        have hj0 : j = ((List.range n).filter q).length := by omega
        rw [hj0, Nat.sub_self] at h
        simp at h
        subst h
        rw [hj0, List.take_left]
theorem words_pre {lot : List Tx} {text : Tx} {p j t : Nat} (h : (wordsAt lot text p)[j]? = some t) : (wordsAt lot text p).take j = (List.range t).filter (stands lot text p) := filter_pre h
theorem cuts_nth {lot : List Tx} (hL : Pos lot) {text : Tx} {p j i k : Nat} (hp : p < text.length) (h : (wordsAt lot text p)[j]? = some i) (hk : k < (cutsAt lot text (p + wl lot i)).length) : (cutsAt lot text p)[sumL (fun i => cutsAt lot text (p + wl lot i)) ((wordsAt lot text p).take j) + k]? = (cutsAt lot text (p + wl lot i))[k]?.map (i :: ·) := by
  rw [cuts_step hL hp]
  have e : sumL (fun i => cutsAt lot text (p + wl lot i)) ((wordsAt lot text p).take j) = sumL (fun i => (cutsAt lot text (p + wl lot i)).map (i :: ·)) ((wordsAt lot text p).take j) := by
    unfold sumL
    simp
  rw [e, pick_at (f := fun i => (cutsAt lot text (p + wl lot i)).map (i :: ·)) h (by rw [List.length_map]; exact hk), List.getElem?_map]
theorem cuts_count {lot : List Tx} (hL : Pos lot) {text : Tx} {p : Nat} (hp : p < text.length) : (cutsAt lot text p).length = sumL (fun i => cutsAt lot text (p + wl lot i)) (wordsAt lot text p) := by
  rw [cuts_step hL hp, sumL_all]
  unfold sumL
  simp
theorem rank_nth {lot : List Tx} (hL : Pos lot) {text : Tx} : ∀ d p, p + d = text.length → ∀ k c, (cutsAt lot text p)[k]? = some c → rankF lot text p c = k := by
  intro d
  induction d using Nat.strongRecOn with
  | _ d ih =>
    intro p hp k c hc
    by_cases hd : d = 0
    · have : p = text.length := by omega
      subst this
      rw [cuts_last] at hc
      cases k with
      | zero =>
        cases hc
        rfl
      | succ k => simp at hc
    · have hk := (List.getElem?_eq_some_iff.mp hc).1
      rw [cuts_count hL (by omega)] at hk
      obtain ⟨j, i, k', h1, h2, h3⟩ := pick_ex hk
      have hw := word_pos hL (List.mem_of_getElem? h1)
      rw [← h3, cuts_nth hL (by omega) h1 h2] at hc
      cases e : (cutsAt lot text (p + wl lot i))[k']? with
      | none => rw [e] at hc; cases hc
      | some c' =>
        rw [e] at hc
        cases hc
        show before lot text p i + rankF lot text (p + wl lot i) c' = k
        rw [ih (d - wl lot i) (by omega) (p + wl lot i) (by omega) k' c' e]
        unfold before
        rw [← words_pre h1]
        exact h3
/-! ### cuts of beginnings, by their last words -/
def endsAt (lot : List Tx) (text : Tx) (e : Nat) : List Nat := (List.range lot.length).filter fun i => decide (wl lot i ≤ e) && stands lot text (e - wl lot i) i
def preF (lot : List Tx) (text : Tx) : Nat → Nat → List (List Nat)
  | 0, e => if e = 0 then [[]] else []
  | d + 1, e => if e = 0 then [[]] else (endsAt lot text e).flatMap fun i => (preF lot text d (e - wl lot i)).map (· ++ [i])
def preAt (lot : List Tx) (text : Tx) (e : Nat) : List (List Nat) := preF lot text e e
theorem ends_is {lot : List Tx} (hL : Pos lot) {text : Tx} {e i : Nat} (h : i ∈ endsAt lot text e) : ∃ wd, lot[i]? = some wd ∧ wl lot i = wd.length ∧ 0 < wd.length ∧ wd.length ≤ e ∧ e ≤ text.length ∧ StAt text wd (e - wd.length) := by
  obtain ⟨h1, h2⟩ := List.mem_filter.mp h
  rw [Bool.and_eq_true, decide_eq_true_eq] at h2
  obtain ⟨h2, h3⟩ := h2
  unfold stands at h3
  cases hw : lot[i]? with
  | none => rw [hw] at h3; cases h3
  | some wd =>
    rw [hw, wl_of hw] at h3
    rw [wl_of hw] at h2
    have := of_decide_eq_true h3
    exact ⟨wd, rfl, wl_of hw, List.length_pos_iff.mpr (hL wd (List.mem_of_getElem? hw)), h2, by omega, this.2⟩
theorem preF_fuel {lot : List Tx} (hL : Pos lot) {text : Tx} : ∀ d d' e, e ≤ d → e ≤ d' → preF lot text d e = preF lot text d' e := fun d => by
  induction d with
  | zero =>
    intro d' e h1 h2
    have : e = 0 := by omega
    cases d' with
    | zero => rfl
    | succ d' =>
      unfold preF
      rw [if_pos this, if_pos this]
  | succ d ih =>
    intro d' e h1 h2
    by_cases h : e = 0
    · cases d' with
      | zero =>
        unfold preF
        rw [if_pos h, if_pos h]
      | succ d' =>
        unfold preF
        rw [if_pos h, if_pos h]
    · cases d' with
      | zero => omega
      | succ d' =>
        unfold preF
        rw [if_neg h, if_neg h]
        refine flatMap_same fun i hi => ?_
        obtain ⟨wd, _, w2, w3, _⟩ := ends_is hL hi
        rw [ih d' (e - wl lot i) (by omega) (by omega)]
theorem pre_first (lot : List Tx) (text : Tx) : preAt lot text 0 = [[]] := by
  unfold preAt preF
  rw [if_pos rfl]
theorem pre_step {lot : List Tx} (hL : Pos lot) {text : Tx} {e : Nat} (he : 0 < e) : preAt lot text e = (endsAt lot text e).flatMap fun i => (preAt lot text (e - wl lot i)).map (· ++ [i]) := by
  obtain ⟨d, rfl⟩ : ∃ d, e = d + 1 := ⟨e - 1, by omega⟩
  unfold preAt
  rw [preF, if_neg (by omega)]
  refine flatMap_same fun i hi => ?_
  obtain ⟨wd, _, w2, w3, _⟩ := ends_is hL hi
  rw [preF_fuel hL d (d + 1 - wl lot i) (d + 1 - wl lot i) (by omega) (by omega)]
theorem mem_pre {lot : List Tx} (hL : Pos lot) {text : Tx} : ∀ e, e ≤ text.length → ∀ c, c ∈ preAt lot text e ↔ Ixs lot c ∧ put lot c = text.take e := by
  intro e
  induction e using Nat.strongRecOn with
  | _ e ih =>
    intro he c
    by_cases h0 : e = 0
    · subst h0
      rw [pre_first, List.mem_singleton, List.take_zero]
      constructor
      · rintro rfl
        exact ⟨fun i hi => (nomatch hi), rfl⟩
      · rintro ⟨h1, h2⟩
        cases c with
        | nil => rfl
        | cons i c =>
          rw [put_cons] at h2
          have hi := h1 i List.mem_cons_self
          have hz := (List.append_eq_nil_iff.mp h2).1
          rw [List.getD_eq_getElem?_getD, List.getElem?_eq_getElem hi] at hz
          exact absurd hz (hL _ (List.getElem_mem hi))
    · rw [pre_step hL (by omega), List.mem_flatMap]
      constructor
      · rintro ⟨i, hi, hc⟩
        obtain ⟨c', hc', rfl⟩ := List.mem_map.mp hc
        obtain ⟨wd, w1, w2, w3, w4, w5, w6⟩ := ends_is hL hi
        rw [w2] at hc'
        obtain ⟨h1, h2⟩ := (ih (e - wd.length) (by omega) (by omega) c').mp hc'
        refine ⟨fun j hj => ?_, ?_⟩
        · rcases List.mem_append.mp hj with hj | hj
          · exact h1 j hj
          · rw [List.mem_singleton.mp hj]
            exact (List.getElem?_eq_some_iff.mp w1).1
        · have e1 : put lot [i] = wd := by
            unfold put
            simp [w1]
          rw [put_app, h2, e1]
          obtain ⟨b, hb⟩ : ∃ b, b + wd.length = e := ⟨e - wd.length, by omega⟩
          subst hb
          rw [Nat.add_sub_cancel] at w6 ⊢
          rw [List.take_add, stAt_drop.mp w6]
      · rintro ⟨h1, h2⟩
        have hne : c ≠ [] := fun z => by
          subst z
          have := congrArg List.length h2
          rw [List.length_take] at this
          simp [put] at this
          omega
        obtain ⟨c', i, rfl⟩ : ∃ c' i, c = c' ++ [i] := ⟨c.dropLast, c.getLast hne, (List.dropLast_concat_getLast hne).symm⟩
        have hi := h1 i (List.mem_append_right _ (List.mem_singleton.mpr rfl))
        have w1 := List.getElem?_eq_getElem hi
        have e1 : put lot [i] = lot[i] := by
          unfold put
          simp [w1]
        rw [put_app, e1] at h2
        have hl := congrArg List.length h2
        rw [List.length_append, List.length_take] at hl
        have hpos := List.length_pos_iff.mpr (hL _ (List.getElem_mem hi))
        have hb : (put lot c').length + lot[i].length = e := by omega
        have h3 : text.take e = text.take (put lot c').length ++ (text.drop (put lot c').length).take lot[i].length := by rw [← hb, List.take_add]
        rw [h3] at h2
        obtain ⟨a1, a2⟩ := List.append_inj h2 (by rw [List.length_take]; omega)
        refine ⟨i, List.mem_filter.mpr ⟨List.mem_range.mpr hi, ?_⟩, List.mem_map.mpr ⟨c', ?_, rfl⟩⟩
        · rw [Bool.and_eq_true, decide_eq_true_eq, wl_of w1]
          refine ⟨by omega, ?_⟩
          unfold stands
          rw [w1]
          refine decide_eq_true ⟨by omega, ?_⟩
          rw [show e - lot[i].length = (put lot c').length by omega]
          exact stAt_drop.mpr a2.symm
        · rw [wl_of w1]
          refine (ih (e - lot[i].length) (by omega) (by omega) c').mpr ⟨fun j hj => h1 j (List.mem_append_left _ hj), ?_⟩
          rw [show e - lot[i].length = (put lot c').length by omega]
          exact a1
theorem nodup_pre {lot : List Tx} (hL : Pos lot) {text : Tx} : ∀ e, (preAt lot text e).Nodup := by
  intro e
  induction e using Nat.strongRecOn with
  | _ e ih =>
    by_cases h0 : e = 0
    · subst h0
      rw [pre_first]
      exact List.pairwise_singleton _ _
    · rw [pre_step hL (by omega)]
      show List.Pairwise _ _
      rw [List.pairwise_flatMap]
      refine ⟨fun i hi => ?_, List.Pairwise.imp_of_mem (fun {a b} ha hb hab x hx y hy => ?_) (List.Pairwise.filter _ List.pairwise_lt_range)⟩
      · obtain ⟨wd, w1, w2, w3, w4, _⟩ := ends_is hL hi
        rw [List.pairwise_map]
        exact List.Pairwise.imp (fun {a b} h z => h (List.append_cancel_right z)) (ih (e - wl lot i) (by omega))
      · obtain ⟨x', _, rfl⟩ := List.mem_map.mp hx
        obtain ⟨y', _, rfl⟩ := List.mem_map.mp hy
        intro z
        have := congrArg List.getLast? z
        simp at this
        omega
theorem len_same {α : Type} {l l' : List α} (h1 : l.Nodup) (h2 : l'.Nodup) (h : ∀ a, a ∈ l ↔ a ∈ l') : l.length = l'.length := ((List.perm_ext_iff_of_nodup h1 h2).mpr h).length_eq
/-- as many from the beginning on as from the end -/
theorem count_pre {lot : List Tx} (hL : Pos lot) (text : Tx) : (preAt lot text text.length).length = (cutsAt lot text 0).length :=
  len_same (nodup_pre hL _) (nodup_cuts hL text.length 0 (by omega)) fun c => by
    rw [mem_pre hL _ (Nat.le_refl _), mem_cuts hL text.length 0 (by omega), List.take_length, List.drop_zero]
theorem put_rev (lot : List Tx) (c : List Nat) : put (lot.map List.reverse) c = (put lot c.reverse).reverse := by
  induction c with
  | nil => rfl
  | cons i c ih =>
    rw [put_cons, ih, List.reverse_cons, put_app, List.reverse_append]
    congr 1
    unfold put
    simp only [List.map_cons, List.map_nil, List.flatten_cons, List.flatten_nil, List.append_nil]
    rw [List.getD_eq_getElem?_getD, List.getD_eq_getElem?_getD, List.getElem?_map]
    cases lot[i]? with
    | none => rfl
    | some wd => rfl
theorem pos_rev {lot : List Tx} (hL : Pos lot) : Pos (lot.map List.reverse) := fun wd h z => by
  obtain ⟨x, hx, rfl⟩ := List.mem_map.mp h
  exact hL x hx (List.reverse_eq_nil_iff.mp z)
/-- .. and of the words and the text read backwards -/
theorem count_rev {lot : List Tx} (hL : Pos lot) {text : Tx} {p : Nat} (hp : p ≤ text.length) : (preAt (lot.map List.reverse) text.reverse (text.length - p)).length = (cutsAt lot text p).length := by
  have h := len_same (l := (preAt (lot.map List.reverse) text.reverse (text.length - p)).map List.reverse) (l' := cutsAt lot text p) ?_ (nodup_cuts hL (text.length - p) p (by omega)) fun c => ?_
  · rw [List.length_map] at h
    exact h
  · show List.Pairwise _ _
    rw [List.pairwise_map]
    exact List.Pairwise.imp (fun {a b} h z => h (List.reverse_inj.mp z)) (nodup_pre (pos_rev hL) _)
  · have key : ∀ d, d ∈ preAt (lot.map List.reverse) text.reverse (text.length - p) ↔ d.reverse ∈ cutsAt lot text p := fun d => by
      rw [mem_pre (pos_rev hL) _ (by rw [List.length_reverse]; omega), mem_cuts hL (text.length - p) p (by omega), put_rev]
      have e : text.reverse.take (text.length - p) = (text.drop p).reverse := by
        rw [List.take_reverse]
        congr 2
        omega
      rw [e, List.reverse_inj]
      refine and_congr_left fun _ => ?_
      unfold Ixs
      rw [List.length_map]
      exact ⟨fun h i hi => h i (List.mem_reverse.mp hi), fun h i hi => h i (List.mem_reverse.mpr hi)⟩
    rw [List.mem_map]
    constructor
    · rintro ⟨d, hd, rfl⟩
      exact (key d).mp hd
    · intro hc
      exact ⟨c.reverse, (key _).mpr (by rw [List.reverse_reverse]; exact hc), List.reverse_reverse c⟩
end K03
set_option Elab.async false
set_option linter.all false
set_option maxRecDepth 100000
set_option maxHeartbeats 2000000
namespace K03
open PySem PySem.Spec PyProof.Rows L2 Evl Wc Wt
/-- the class Ways -/
structure WC (K : PySem.W.Frag) (C : Addr) : Prop where
  cl : Cls K C
  n_lot : NoAttr K C "lot"
  n_text : NoAttr K C "text"
  n_behind : NoAttr K C "behind"
  n_ahead : NoAttr K C "ahead"
/-- no method's name is a field -/
def NoM (fs : List (Str × V)) : Prop := fs.lookup ("cut" : Str) = none ∧ fs.lookup ("number" : Str) = none ∧ fs.lookup ("cuts" : Str) = none
/-- how many cuts there are behind each place -/
def behL (lot : List Tx) (text : Tx) : List V := (List.range (text.length + 1)).map fun p => V.int ((cutsAt lot text p).length : Int)
/-- an object of ways stands at x -/
structure WaysAt (C x : Addr) (lot : List Tx) (text : Tx) (fs : List (Str × V)) (H : Hp) : Prop where
  ob : ∃ dx, H x = some (.ins C dx fs)
  flot : ∃ pl, fs.lookup ("lot" : Str) = some (.ref pl) ∧ LotAt pl lot H
  ftext : fs.lookup ("text" : Str) = some (T text)
  len : text.length ≤ 400
  signs : ∀ c ∈ text, abcd c
  no1 : fs.lookup ("words_at" : Str) = none
  no2 : NoM fs
theorem WaysAt.ex {C x : Addr} {lot : List Tx} {text : Tx} {fs : List (Str × V)} {H H1 : Hp} (W : WaysAt C x lot text fs H) (e : Ex H H1) : WaysAt C x lot text fs H1 := by
  obtain ⟨⟨dx, h1⟩, ⟨pl, h2, h3⟩, h4, h5, h6, h7, h8⟩ := W
  exact ⟨⟨dx, e _ _ h1⟩, ⟨pl, h2, h3.ex e⟩, h4, h5, h6, h7, h8⟩
/-- .. its numbers made -/
structure WaysB (C x : Addr) (lot : List Tx) (text : Tx) (fs : List (Str × V)) (H : Hp) : Prop where
  w : WaysAt C x lot text fs H
  fb : ∃ pb, fs.lookup ("behind" : Str) = some (.ref pb) ∧ H pb = some (.lst (behL lot text))
theorem WaysB.ex {C x : Addr} {lot : List Tx} {text : Tx} {fs : List (Str × V)} {H H1 : Hp} (W : WaysB C x lot text fs H) (e : Ex H H1) : WaysB C x lot text fs H1 := by
  obtain ⟨w, pb, h1, h2⟩ := W
  exact ⟨w.ex e, pb, h1, e _ _ h2⟩
theorem int_sum (l : List Nat) (f : Nat → Nat) : (l.map fun i => (f i : Int)).sum = (((l.map f).sum : Nat) : Int) := by
  induction l with
  | nil => rfl
  | cons a l ih => simp [ih]
section
variable {P : Program} {w : World} {K : PySem.W.Frag} {mg : Str → Option Value} {base : Heap}
def sp_words_at (C : Addr) : Sp := fun vs H Q _ => ∃ (x : Addr) (lot : List Tx) (text : Tx) (fs : List (Str × V)) (place : Nat), vs = [.ref x, .int (place : Int)] ∧ WaysAt C x lot text fs H ∧ RetL ((wordsAt lot text place).map fun (n : Nat) => V.int (n : Int)) H Q
theorem ok_words_at {f C : Addr} {fd : FuncData} (F : Fun K "words_at" "Ways.words_at" st_Ways_words_at f fd) (M : Md K mg) (W : WC K C) : FnOk P w K mg base CX0 1 f fd ["self", "place"] (sp_words_at C) := by
  have nd := sc_Ways_words_at.nd
  refine F.ok sc_Ways_words_at (fun vs H Q E h => ?_) (fun cdv A outer s H vs Q E hr h => ?_)
  · obtain ⟨_, _, _, _, _, rfl, _⟩ := h
    rfl
  · obtain ⟨x, lot, text, fs, place, rfl, ⟨⟨dx, hx⟩, ⟨pl, hl, hp, hL⟩, ht, hlen, _, _, _⟩, k⟩ := h
    refine ⟨_, (pss_one (ps_ret (pe_lc (own := [("index", 2), ("word", 3)]) rfl nd (kiet K (pi_enumT (by rfl) M.n_enumerate (pa_cons (kfl K (pe_fld (pv 0) rfl)) pa_nil))) (blkOk_by (N := N_Ways_words_at) (sc := defScope st_Ways_words_at) (by decide +kernel)) (fun _ _ _ _ _ => (kgt K (n := 2) (pg_tup rfl (pgs_cons (pg_name (i := 2) nd rfl (Or.inl rfl)) (pgs_cons (pg_name (i := 3) nd rfl (Or.inl rfl)) pgs_nil))))) (fun _ _ _ _ _ => (pts_one (pt_val (kbm K (pe_bm PySem.F.plainAttrs_str PySem.F.slot_str_startswith PySem.F.type_str_startswith mt_start3T (kfl K (pe_fld (pv 0) rfl)) (pa_cons (pv 3) (pa_cons (pv 1) pa_nil))))))) (fun _ _ _ _ _ => (pv 2))))), ?_⟩
    have hfew := hL.few
    have hlc := el_lcG (σ := start N_Ways_words_at [.ref x, .int (place : Int)]) (H := H) (te := tVar 2) (t := tB (tBM K "str" rStart3T (tFld K (tVar 0) "text") (tCons (tVar 3) (tCons (tVar 1) tNil)))) (g := gTup K 2 (gCons (gName 2) (gCons (gName 3) gNil))) (vs := [2, 3]) (wi := iEnumT K (tCons (tFld K (tVar 0) "lot") tNil))
      (p := stands lot text place) (gv := fun (n : Nat) => V.int (n : Int)) (List.range lot.length) (fun i => [some (.ref x), some (.int (place : Int)), some (.int (i : Int)), some (T (lot.getD i []))]) (fun i v H1 => i < lot.length ∧ ∃ q, v = .ref q ∧ H1 q = some (.tup [.int (i : Int), T (lot.getD i [])])) (src_enumT (ev_fld (ev_var rfl) hx W.cl W.n_lot hl) (st_of hp)) (by rw [List.length_map]; omega) (by simp) ?_ ?_ (fun _ => rfl) ?_ (fun i H1 e1 hi _ => ev_var rfl)
    · exact s_retL hlc k
    · rintro i v H1 ⟨q, y, rfl, hy, hq⟩
      obtain ⟨t, ht', rfl⟩ := at_map hy
      have hi : i < lot.length := (List.getElem?_eq_some_iff.mp ht').1
      refine ⟨i, List.getElem?_range hi, hi, q, rfl, ?_⟩
      rw [List.getD_eq_getElem?_getD, ht']
      exact hq
    · rintro i v H1 Q' ⟨hi, q, rfl, hq⟩ k'
      exact ⟨q, _, rfl, st_of hq, rfl, .int (i : Int), [T (lot.getD i [])], rfl, T (lot.getD i []), [], rfl, rfl, k'⟩
    · intro i H1 e1 hi
      have hi' : i < lot.length := List.mem_range.mp hi
      have hgi : lot.getD i [] = lot[i] := by rw [List.getD_eq_getElem?_getD, List.getElem?_eq_getElem hi']; rfl
      have hs : stands lot text place i = decide (place + lot[i].length ≤ text.length ∧ StAt text lot[i] place) := by
        unfold stands
        rw [List.getElem?_eq_getElem hi']
      rw [hs, hgi]
      exact et_B (ev_bmT (ev_fld (ev_var rfl) (e1 _ _ hx) W.cl W.n_text ht) (ea_cons (ev_var rfl) (ea_cons (ev_var rfl) ea_nil)) fun H2 e2 Q2 q2 => ⟨text, lot[i], place, rfl, rfl, q2 H2 (Ex.refl _)⟩)
def sp_Ways (C : Addr) : Sp := fun vs H Q _ => ∃ (x dx pl : Addr) (lot : List Tx) (text : Tx), vs = [.ref x, .ref pl, T text] ∧ H x = some (.ins C dx []) ∧ LotAt pl lot H ∧ text.length ≤ 400 ∧ (∀ c ∈ text, abcd c) ∧
  ∀ fs H', WaysB C x lot text fs H' → (∀ b o, H b = some o → b ≠ x → H' b = some o) → Q .non H'
/-- self.words_at(place) -/
theorem el_words {C x : Addr} {lot : List Tx} {text : Tx} {fs : List (Str × V)} {place i j : Nat} {σ : L2.St} {H : Hp} (W : WaysAt C x lot text fs H) (h0 : σ[i]? = some (some (.ref x))) (h3 : σ[j]? = some (some (.int (place : Int)))) : EvL (tMeth C "words_at" (sp_words_at C) [] E0 (tVar i) (tCons (tVar j) tNil)) σ H ((wordsAt lot text place).map fun (n : Nat) => V.int (n : Int)) := fun H1 e1 Q q => by
  have W1 := W.ex e1
  obtain ⟨dx, hx⟩ := W1.ob
  exact ⟨.ref x, h0, x, dx, fs, rfl, hx, W.no1, .int (place : Int), h3, x, lot, text, fs, place, rfl, W1, q⟩
theorem putF_len (f : Str) (v : V) : ∀ fs : List (Str × V), (putF f v fs).length ≤ fs.length + 1
  | [] => Nat.le_refl _
  | (g, u) :: fs => by
    unfold putF
    split
    · simp
    · have := putF_len f v fs
      simp
      omega
theorem ok_Ways_init {f C : Addr} {fd : FuncData} (F : Fun K "__init__" "Ways.__init__" st_Ways_init f fd) (M : Md K mg) (W : WC K C) (MT_Ways_words_at : C8.Met P w K mg base 1 C "words_at" (sp_words_at C) []) : FnOk P w K mg base CX0 2 f fd ["self", "lot", "text"] (sp_Ways C) := by
  have nd := sc_Ways_init.nd
  refine F.ok sc_Ways_init (fun vs H Q E h => ?_) (fun cdv A outer s H vs Q E hr h => ?_)
  · obtain ⟨_, _, _, _, _, rfl, _⟩ := h
    rfl
  · obtain ⟨x, dx, pl, lot, text, rfl, hx, hlot, hlen, hsg, k⟩ := h
    refine ⟨_, (pss_cons (ps_fld (pv 0) (pv 1) rfl)
  (pss_cons (ps_fld (pv 0) (pv 2) rfl)
  (pss_cons (ps_fld (pv 0) (pe_op op_cat (pe_op op_rep (pe_lst (pa_cons pe_int pa_nil)) (pe_callB cr_lenT (by rfl) M.n_len boot_len (pa_cons (pv 2) pa_nil))) (pe_lst (pa_cons pe_int pa_nil))) rfl)
  (pss_cons (ps_for PassesOwn.never rfl (pi_range3 (by rfl) M.n_range (pa_cons (pe_op op_sub (pe_callB cr_lenT (by rfl) M.n_len boot_len (pa_cons (pv 2) pa_nil)) pe_int) (pa_cons (pe_un un_neg pe_int) (pa_cons (pe_un un_neg pe_int) pa_nil)))) (pg_name (i := 3) nd rfl (Or.inr rfl))
  (pss_one (ps_asg (pe_callB (kcr K (r := rSum) (cr_sum rfl)) (by rfl) M.n_sum boot_sum (pa_cons (pe_lc (own := [("index", 4)]) rfl nd (kil K (pi_list (C8.pe_mt MT_Ways_words_at hr (by decide) (pv 0) (pa_cons (pv 3) pa_nil)))) (blkOk_by (N := N_Ways_init) (sc := defScope st_Ways_init) (by decide +kernel)) (fun _ _ _ _ _ => (pg_name (i := 4) nd rfl (Or.inl rfl))) (fun _ _ _ _ _ => pts_nil) (fun _ _ _ _ _ => (pe_ix (kix K (r := L2.rIxL) ix_list) (kfl K (pe_fld (pv 0) rfl)) (pe_op op_add (pv 3) (pe_callB cr_lenT (by rfl) M.n_len boot_len (pa_cons (pe_ix (kix K (r := L2.rIxT) ix_tup) (pv 1) (pv 4) (fun _ _ => rfl)) pa_nil))) (fun _ _ => rfl)))) pa_nil)) (pg_sub (kfl K (pe_fld (pv 0) rfl)) (pv 3) set_list))))
  (pss_cons (ps_fld (pv 0) (pe_op op_cat (pe_lst (pa_cons pe_int pa_nil)) (pe_op op_rep (pe_lst (pa_cons pe_int pa_nil)) (pe_callB cr_lenT (by rfl) M.n_len boot_len (pa_cons (pv 2) pa_nil)))) rfl)
  (pss_one (ps_for PassesOwn.never rfl (pi_range1 (by rfl) M.n_range (pa_cons (pe_callB cr_lenT (by rfl) M.n_len boot_len (pa_cons (pv 2) pa_nil)) pa_nil)) (pg_name (i := 3) nd rfl (Or.inr rfl))
  (pss_one (ps_for PassesOwn.never rfl (kil K (pi_list (C8.pe_mt MT_Ways_words_at hr (by decide) (pv 0) (pa_cons (pv 3) pa_nil)))) (pg_name (i := 4) nd rfl (Or.inl rfl))
  (pss_one (ps_augS (kfl K (pe_fld (pv 0) rfl)) (pe_op op_add (pv 3) (pe_callB cr_lenT (by rfl) M.n_len boot_len (pa_cons (pe_ix (kix K (r := L2.rIxT) ix_tup) (pv 1) (pv 4) (fun _ _ => rfl)) pa_nil))) (kget K) (pe_ix (kix K (r := L2.rIxL) ix_list) (kfl K (pe_fld (pv 0) rfl)) (pv 3) (fun _ _ => rfl)) ip_add set_list))))))))))), ?_⟩
    have npx : pl ≠ x := fun z => by
      have h1 := hlot.1
      rw [z, hx] at h1
      cases h1
    -- self.lot, self.text
    refine q_fld (ev_var rfl) rfl hx W.cl W.n_lot (by decide) fun H1 e1 => ?_
    refine q_fld (ev_var rfl) rfl upd_same W.cl W.n_text (by show 1 < 1000; decide) fun H2 e2 => ?_
    have hx2 : (upd H2 x (.ins C dx (putF ("text" : Str) (T text) (putF ("lot" : Str) (.ref pl) [])))) x = some (.ins C dx (putF ("text" : Str) (T text) (putF ("lot" : Str) (.ref pl) []))) := upd_same
    have kp2 : ∀ b o, H b = some o → b ≠ x → (upd H2 x (.ins C dx (putF ("text" : Str) (T text) (putF ("lot" : Str) (.ref pl) [])))) b = some o := fun b o hb hne => by
      rw [upd_ne hne]
      exact e2 _ _ (by rw [upd_ne hne]; exact e1 _ _ hb)
    generalize upd H2 x (.ins C dx (putF ("text" : Str) (T text) (putF ("lot" : Str) (.ref pl) []))) = H3 at hx2 kp2 ⊢
    clear e1 e2
    have hlp : H3 pl = some (.tup (lot.map T)) := kp2 _ _ hlot.1 npx
    have hL := hlot.2
    have hfew := hL.few
    have fl : (putF ("text" : Str) (T text) (putF ("lot" : Str) (.ref pl) [])).length ≤ 2 := by
      have := putF_len ("text" : Str) (T text) (putF ("lot" : Str) (.ref pl) [])
      have h2 := putF_len ("lot" : Str) (.ref pl) []
      simp at h2
      omega
    have f1 : (putF ("text" : Str) (T text) (putF ("lot" : Str) (.ref pl) [])).lookup ("lot" : Str) = some (.ref pl) := by
      rw [lookup_putF, if_neg (by decide +kernel), lookup_putF, if_pos rfl]
    have f2 : (putF ("text" : Str) (T text) (putF ("lot" : Str) (.ref pl) [])).lookup ("text" : Str) = some (T text) := by
      rw [lookup_putF, if_pos rfl]
    have f3 : (putF ("text" : Str) (T text) (putF ("lot" : Str) (.ref pl) [])).lookup ("words_at" : Str) = none := by
      rw [lookup_putF, if_neg (by decide +kernel), lookup_putF, if_neg (by decide +kernel)]
      rfl
    have f4 : NoM (putF ("text" : Str) (T text) (putF ("lot" : Str) (.ref pl) [])) := by
      refine ⟨?_, ?_, ?_⟩ <;> (rw [lookup_putF, if_neg (by decide +kernel), lookup_putF, if_neg (by decide +kernel)]; rfl)
    generalize putF ("text" : Str) (T text) (putF ("lot" : Str) (.ref pl) []) = fs at hx2 fl f1 f2 f3 f4
    have lenT : ∀ {σ : L2.St} {H' : Hp}, σ[2]? = some (some (T text)) → Ev (tCB rLenT (tCons (tVar 2) tNil)) σ H' (.int (text.length : Int)) := fun h0 => ev_cb (ea_cons (ev_var h0) ea_nil) (rc_lenT (by omega))
    -- self.behind
    show tSeq _ _ _ [some (.ref x), some (.ref pl), some (T text), none, none] H3
    refine q_fldL (xs := List.replicate text.length (V.int 0) ++ [V.int 1]) ?_ rfl hx2 W.cl W.n_behind (by omega) fun pb H4 hpb e4 h4 => ?_
    · have := el_catNN (el_rep (el_lst (ea_cons (ev_c (v := V.int 0)) ea_nil) (by show 1 ≤ 100000; decide) : EvL _ [some (.ref x), some (.ref pl), some (T text), none, none] H3 [V.int 0]) (lenT rfl) (by simp; omega) (by omega)) (el_lst (ea_cons (ev_c (v := V.int 1)) ea_nil) (by show 1 ≤ 100000; decide)) (by rw [rep_one]; simp; omega)
      rw [rep_one] at this
      exact this
    have nbx : pb ≠ x := fun z => by rw [z, hx2] at hpb; cases hpb
    have nbp : pb ≠ pl := fun z => by rw [z, hlp] at hpb; cases hpb
    have nxl : pl ≠ x := npx
    have hpb0 : ∀ b o, H b = some o → b ≠ pb := fun b o hb z => by
      by_cases hbx : b = x
      · exact nbx (z.symm.trans hbx)
      · have := kp2 b o hb hbx
        rw [z, hpb] at this
        cases this
    have lk : ∀ {g : Str} {v : V} {fs : List (Str × V)} {m : Str}, ¬ m = g → (putF g v fs).lookup m = fs.lookup m := fun h => by rw [lookup_putF, if_neg h]
    have g1 := (lk (g := "behind") (v := .ref pb) (fs := fs) (m := "lot") (by decide +kernel)).trans f1
    have g2 := (lk (g := "behind") (v := .ref pb) (fs := fs) (m := "text") (by decide +kernel)).trans f2
    have g3 := (lk (g := "behind") (v := .ref pb) (fs := fs) (m := "words_at") (by decide +kernel)).trans f3
    have g4 : NoM (putF ("behind" : Str) (.ref pb) fs) := ⟨(lk (by decide +kernel)).trans f4.1, (lk (by decide +kernel)).trans f4.2.1, (lk (by decide +kernel)).trans f4.2.2⟩
    have g5 : (putF ("behind" : Str) (.ref pb) fs).lookup ("behind" : Str) = some (.ref pb) := by rw [lookup_putF, if_pos rfl]
    have gl : (putF ("behind" : Str) (.ref pb) fs).length ≤ 3 := by have := putF_len ("behind" : Str) (.ref pb) fs; omega
    generalize putF ("behind" : Str) (.ref pb) fs = fs5 at g1 g2 g3 g4 g5 gl
    have hx5 : (upd H4 x (.ins C dx fs5)) x = some (.ins C dx fs5) := upd_same
    have hb5 : (upd H4 x (.ins C dx fs5)) pb = some (.lst (List.replicate text.length (V.int 0) ++ [V.int 1])) := by rw [upd_ne nbx]; exact h4
    have hl5 : (upd H4 x (.ins C dx fs5)) pl = some (.tup (lot.map T)) := by rw [upd_ne npx]; exact e4 _ _ hlp
    have kp5 : ∀ b o, H b = some o → b ≠ x → (upd H4 x (.ins C dx fs5)) b = some o := fun b o hb hne => by
      rw [upd_ne hne]
      exact e4 _ _ (kp2 b o hb hne)
    generalize upd H4 x (.ins C dx fs5) = H5 at hx5 hb5 hl5 kp5 ⊢
    clear e4 h4 hx2 kp2 hlp hpb f1 f2 f3 f4 fl
    show tSeq _ _ _ [some (.ref x), some (.ref pl), some (T text), none, none] H5
    have way : ∀ {fsx : List (Str × V)} {H' : Hp}, H' x = some (.ins C dx fsx) → H' pl = some (.tup (lot.map T)) → fsx.lookup ("lot" : Str) = some (.ref pl) → fsx.lookup ("text" : Str) = some (T text) → fsx.lookup ("words_at" : Str) = none → NoM fsx → WaysAt C x lot text fsx H' := fun h1 h2 h3 h4 h5 h6 => ⟨⟨dx, h1⟩, ⟨pl, h3, h2, hL⟩, h4, hlen, hsg, h5, h6⟩
    -- the loop downwards
    refine q_forW (fun c => c = pb) (src_down (n := text.length) (ea_cons (ev_op (lenT rfl) ev_c rv_I0) (ea_cons (ev_un ev_c ru_neg) (ea_cons (ev_un ev_c ru_neg) ea_nil))) (by omega)) ?_
      (fun Hs i σ' H' => ∃ (zs : List Int) (v3 : Option V), σ' = [some (.ref x), some (.ref pl), some (T text), v3, none] ∧ Exc (fun c => c = pb) Hs H' ∧ H' pb = some (.lst (zs.map V.int)) ∧ zs.length = text.length + 1 ∧ ∀ p, text.length ≤ p + i → p ≤ text.length → zs[p]? = some ((cutsAt lot text p).length : Int)) ?_ ?_ ?_ ?_ ?_
    · rintro c rfl
      exact ⟨by rw [hb5]; exact fun z => (nomatch z), fun z => z⟩
    · intro Hs e
      refine ⟨List.replicate text.length 0 ++ [1], none, rfl, Exc.refl _, ?_, by simp, fun p h1 h2 => ?_⟩
      · rw [e _ _ hb5]
        simp
      · have : p = text.length := by omega
        subst this
        rw [cuts_last, List.getElem?_append_right (by simp)]
        simp
    · rintro Hs i σ' H' ⟨_, _, _, h, _⟩
      exact h
    · rintro Hs i σ' Ha Hb ⟨zs, v3, h0, h1, h2, h3, h4⟩ e
      exact ⟨zs, v3, h0, h1.then e, e _ _ h2, h3, h4⟩
    · rintro Hs i y σ' H' e hi ⟨zs, v3, rfl, h1, h2, h3, h4⟩ rfl
      obtain ⟨place, hpl⟩ : ∃ place : Nat, (text.length : Int) - 1 - (i : Int) = (place : Int) := ⟨text.length - 1 - i, by omega⟩
      have hplt : place < text.length := by omega
      have hx6 : H' x = some (.ins C dx fs5) := h1 _ _ (Ne.symm nbx) (e _ _ hx5)
      have hl6 : H' pl = some (.tup (lot.map T)) := h1 _ _ (Ne.symm nbp) (e _ _ hl5)
      have W6 := way hx6 hl6 g1 g2 g3 g4
      show tAsg _ _ _ [some (.ref x), some (.ref pl), some (T text), some (.int ((text.length : Int) - 1 - (i : Int))), none] H'
      rw [hpl]
      have hlist : EvL (tLc (iList K (tMeth C "words_at" (sp_words_at C) [] E0 (tVar 0) (tCons (tVar 3) tNil))) (gName 4) tYes (tOp (L2.rIxL K) (tFld K (tVar 0) "behind") (tOp (rI0 fun i j => .int (i + j)) (tVar 3) (tCB rLenT (tCons (tOp (L2.rIxT K) (tVar 1) (tVar 4)) tNil)))) [4]) [some (.ref x), some (.ref pl), some (T text), some (.int (place : Int)), none] H' ((wordsAt lot text place).map fun i => V.int (zs.getD (place + (lot.getD i []).length) 0)) :=
        el_lcM (j := 4) (vs := [4]) (f := fun (n : Nat) => V.int (n : Int)) (wordsAt lot text place) (src_newLM (el_words W6 rfl rfl)) (by have := wordsAt_len lot text place; omega) (fun _ => rfl) fun j H7 e7 hj => by
          obtain ⟨wd, hw1, hw2, _⟩ := wordsAt_is hj
          have hgw : lot.getD j [] = wd := by rw [List.getD_eq_getElem?_getD, hw1]; rfl
          rw [hgw]
          have hlw : wd.length ≤ 12 := (hL.wd wd (List.mem_of_getElem? hw1)).1
          have hz : place + wd.length < zs.length := by omega
          have hzv : (zs.map V.int)[place + wd.length]? = some (V.int (zs.getD (place + wd.length) 0)) := by
            rw [List.getElem?_map, List.getD_eq_getElem?_getD, List.getElem?_eq_getElem hz]
            rfl
          exact ev_op (x := .ref pb) (y := .int ((place + wd.length : Nat) : Int)) (ev_fld (ev_var rfl) (e7 _ _ hx6) W.cl W.n_behind g5) (ev_op (ev_var rfl) (ev_cb (ea_cons (ev_op (ev_var rfl) (ev_var rfl) (rv_ixT (st_of (e7 _ _ hl6)) (atI_nat (by rw [List.getElem?_map, hw1]; rfl)))) ea_nil) (rc_lenT (by omega))) rv_I0) (rv_ixL (sq_of (e7 _ _ h2)) (atI_nat hzv))
      have hs : ((wordsAt lot text place).map fun i => zs.getD (place + (lot.getD i []).length) 0).sum = ((cutsAt lot text place).length : Int) := by
        rw [cuts_count hL.pos hplt]
        unfold sumL
        rw [← int_sum]
        congr 1
        refine List.map_congr_left fun j hj => ?_
        have hw := word_pos hL.pos hj
        have := h4 (place + wl lot j) (by omega) hw.2.1
        rw [List.getD_eq_getElem?_getD]
        show (zs[place + wl lot j]?).getD 0 = _
        rw [this]
        rfl
      refine s_setL (v := .int ((cutsAt lot text place).length : Int)) (j := place) (xs := zs.map V.int) h2 (ev_is (ev_cbL hlist fun q H7 hq e7 => rc_sumM (sq_of hq)) (congrArg V.int hs)) (ev_fld (ev_var rfl) hx6 W.cl W.n_behind g5) (ev_var rfl) (by rw [List.length_map]; omega) fun H7 e7 => ?_
      rw [← List.map_set]
      refine ⟨_, _, rfl, (h1.then e7).upd (.inl rfl), upd_same, by rw [List.length_set]; exact h3, fun p y1 y2 => ?_⟩
      by_cases hp : p = place
      · subst hp
        rw [List.getElem?_set_self (by omega)]
      · rw [List.getElem?_set_ne (Ne.symm hp)]
        exact h4 p (by omega) y2
    · rintro Hs σ' H' e ⟨zs, v3, rfl, h1, h2, h3, h4⟩
      have hbeh : H' pb = some (.lst (behL lot text)) := by
        rw [h2]
        congr 2
        unfold behL
        apply List.ext_getElem?
        intro p
        rw [List.getElem?_map, List.getElem?_map]
        by_cases hp : p < text.length + 1
        · rw [h4 p (by omega) (by omega), List.getElem?_range hp]
          rfl
        · rw [List.getElem?_eq_none (by omega), List.getElem?_eq_none (by rw [List.length_range]; omega)]
          rfl
      have hx6 : H' x = some (.ins C dx fs5) := h1 _ _ (Ne.symm nbx) (e _ _ hx5)
      have hl6 : H' pl = some (.tup (lot.map T)) := h1 _ _ (Ne.symm nbp) (e _ _ hl5)
      have kp6 : ∀ b o, H b = some o → b ≠ x → H' b = some o := fun b o hb hne => h1 _ _ (hpb0 b o hb) (e _ _ (kp5 b o hb hne))
      refine q_fldL (xs := [V.int 1] ++ List.replicate text.length (V.int 0)) ?_ rfl hx6 W.cl W.n_ahead (by omega) fun pa H6 hpa e6 h6 => ?_
      · have := el_catNN (el_lst (ea_cons (ev_c (v := V.int 1)) ea_nil) (by show 1 ≤ 100000; decide) : EvL _ [some (.ref x), some (.ref pl), some (T text), v3, none] H' [V.int 1]) (el_rep (el_lst (ea_cons (ev_c (v := V.int 0)) ea_nil) (by show 1 ≤ 100000; decide)) (lenT rfl) (by simp; omega) (by omega)) (by rw [rep_one]; simp; omega)
        rw [rep_one] at this
        exact this
      have nax : pa ≠ x := fun z => by rw [z, hx6] at hpa; cases hpa
      have nap : pa ≠ pl := fun z => by rw [z, hl6] at hpa; cases hpa
      have nab : pb ≠ pa := ne_of_none hbeh hpa
      have hpa0 : ∀ b o, H b = some o → b ≠ pa := fun b o hb z => by
        by_cases hbx : b = x
        · exact nax (z.symm.trans hbx)
        · have := kp6 b o hb hbx
          rw [z, hpa] at this
          cases this
      have i1 := (lk (g := "ahead") (v := .ref pa) (fs := fs5) (m := "lot") (by decide +kernel)).trans g1
      have i2 := (lk (g := "ahead") (v := .ref pa) (fs := fs5) (m := "text") (by decide +kernel)).trans g2
      have i3 := (lk (g := "ahead") (v := .ref pa) (fs := fs5) (m := "words_at") (by decide +kernel)).trans g3
      have i4 : NoM (putF ("ahead" : Str) (.ref pa) fs5) := ⟨(lk (by decide +kernel)).trans g4.1, (lk (by decide +kernel)).trans g4.2.1, (lk (by decide +kernel)).trans g4.2.2⟩
      have i6 := (lk (g := "ahead") (v := .ref pa) (fs := fs5) (m := "behind") (by decide +kernel)).trans g5
      have i5 : (putF ("ahead" : Str) (.ref pa) fs5).lookup ("ahead" : Str) = some (.ref pa) := by rw [lookup_putF, if_pos rfl]
      generalize putF ("ahead" : Str) (.ref pa) fs5 = fs7 at i1 i2 i3 i4 i5 i6
      have hx7 : (upd H6 x (.ins C dx fs7)) x = some (.ins C dx fs7) := upd_same
      have ha7 : (upd H6 x (.ins C dx fs7)) pa = some (.lst (([1] ++ List.replicate text.length 0 : List Int).map V.int)) := by
        rw [upd_ne nax, h6]
        simp
      have hl7 : (upd H6 x (.ins C dx fs7)) pl = some (.tup (lot.map T)) := by rw [upd_ne npx]; exact e6 _ _ hl6
      have hbeh7 : (upd H6 x (.ins C dx fs7)) pb = some (.lst (behL lot text)) := by rw [upd_ne nbx]; exact e6 _ _ hbeh
      have kp7 : ∀ b o, H b = some o → b ≠ x → (upd H6 x (.ins C dx fs7)) b = some o := fun b o hb hne => by
        rw [upd_ne hne]
        exact e6 _ _ (kp6 b o hb hne)
      generalize upd H6 x (.ins C dx fs7) = H7 at hx7 ha7 hl7 kp7 hbeh7 ⊢
      show tFor _ _ _ _ [some (.ref x), some (.ref pl), some (T text), v3, none] H7
      refine s_forW (fun c => c = pa) (src_range1 (n := text.length) (ea_cons (lenT rfl) ea_nil) (by omega)) ?_
        (fun Hs i σ' H' => ∃ (zs : List Int) (v3 v4 : Option V), σ' = [some (.ref x), some (.ref pl), some (T text), v3, v4] ∧ Exc (fun c => c = pa) Hs H' ∧ H' pa = some (.lst (zs.map V.int)) ∧ zs.length = text.length + 1) ?_ ?_ ?_ ?_ ?_
      · rintro c rfl
        exact ⟨by rw [ha7]; exact fun z => (nomatch z), fun z => z⟩
      · intro Hs2 e7
        exact ⟨_, v3, none, rfl, Exc.refl _, e7 _ _ ha7, by simp⟩
      · rintro Hs2 i σ' H8 ⟨_, _, _, _, h, _⟩
        exact h
      · rintro Hs2 i σ' Ha Hb ⟨zs, v3, v4, h0, h1, h2, h3⟩ e
        exact ⟨zs, v3, v4, h0, h1.then e, e _ _ h2, h3⟩
      · rintro Hs2 i y σ' H8 e8 hi ⟨zs, v3', v4', rfl, j1, j2, j3⟩ rfl
        have hx8 : H8 x = some (.ins C dx fs7) := j1 _ _ (Ne.symm nax) (e8 _ _ hx7)
        have hl8 : H8 pl = some (.tup (lot.map T)) := j1 _ _ (Ne.symm nap) (e8 _ _ hl7)
        have W8 := way hx8 hl8 i1 i2 i3 i4
        show tFor _ _ _ _ [some (.ref x), some (.ref pl), some (T text), some (.int (i : Int)), v4'] H8
        refine s_forW (fun c => c = pa) (src_newLM (f := fun (n : Nat) => V.int (n : Int)) (xs := wordsAt lot text i) (el_words W8 rfl rfl)) ?_
          (fun Ht j σ' H9 => ∃ (zs : List Int) (v4 : Option V), σ' = [some (.ref x), some (.ref pl), some (T text), some (.int (i : Int)), v4] ∧ Exc (fun c => c = pa) Ht H9 ∧ H9 pa = some (.lst (zs.map V.int)) ∧ zs.length = text.length + 1) ?_ ?_ ?_ ?_ ?_
        · rintro c rfl
          exact ⟨by rw [j2]; exact fun z => (nomatch z), fun z => z⟩
        · intro Ht e9
          exact ⟨zs, v4', rfl, Exc.refl _, e9 _ _ j2, j3⟩
        · rintro Ht j σ' H9 ⟨_, _, _, h, _⟩
          exact h
        · rintro Ht j σ' Ha Hb ⟨zs, v4, h0, h1, h2, h3⟩ e
          exact ⟨zs, v4, h0, h1.then e, e _ _ h2, h3⟩
        · rintro Ht j y σ' H9 e9 hj ⟨zs, v4, rfl, k1, k2, k3⟩ hy
          obtain ⟨idx, hidx, rfl⟩ := at_map hy
          obtain ⟨wd, hw1, hw2, _⟩ := wordsAt_is (List.mem_of_getElem? hidx)
          have hlw : wd.length ≤ 12 := (hL.wd wd (List.mem_of_getElem? hw1)).1
          have hx9 : H9 x = some (.ins C dx fs7) := k1 _ _ (Ne.symm nax) (e9 _ _ hx8)
          have hl9 : H9 pl = some (.tup (lot.map T)) := k1 _ _ (Ne.symm nap) (e9 _ _ hl8)
          have hz : i + wd.length < zs.length := by omega
          have hz2 : i < zs.length := by omega
          have ifl : ∀ {H' : Hp}, Ex H9 H' → Ev (tFld K (tVar 0) "ahead") [some (.ref x), some (.ref pl), some (T text), some (.int (i : Int)), some (.int (idx : Int))] H' (.ref pa) := fun e => ev_fld (ev_var rfl) (e _ _ hx9) W.cl W.n_ahead i5
          show tAugS _ _ _ _ _ _ _ [some (.ref x), some (.ref pl), some (T text), some (.int (i : Int)), some (.int (idx : Int))] H9
          refine ifl (Ex.refl _) H9 (Ex.refl _) _ fun Ha ea => ?_
          refine (ev_op (ev_var rfl) (ev_cb (ea_cons (ev_op (ev_var rfl) (ev_var rfl) (rv_ixT (st_of (ea _ _ hl9)) (atI_nat (by rw [List.getElem?_map, hw1]; rfl)))) ea_nil) (rc_lenT (by omega))) rv_I0 : Ev _ [some (.ref x), some (.ref pl), some (T text), some (.int (i : Int)), some (.int (idx : Int))] Ha (.int ((i : Int) + (wd.length : Int)))) Ha (Ex.refl _) _ fun Hb eb => ?_
          refine ⟨pa, zs.map V.int, i + wd.length, .int zs[i + wd.length], rfl, by rw [Int.natCast_add], sq_of (eb _ _ (ea _ _ k2)), by rw [List.getElem?_map, List.getElem?_eq_getElem hz]; rfl, ?_⟩
          refine (ev_op (ifl (ea.trans eb)) (ev_var rfl) (rv_ixL (sq_of (eb _ _ (ea _ _ k2))) (atI_nat (v := V.int zs[i]) (by rw [List.getElem?_map, List.getElem?_eq_getElem hz2]; rfl))) : Ev _ [some (.ref x), some (.ref pl), some (T text), some (.int (i : Int)), some (.int (idx : Int))] Hb (.int zs[i])) Hb (Ex.refl _) _ fun Hc ec => ?_
          refine ⟨_, _, rfl, rfl, pa, zs.map V.int, (i : Int) + (wd.length : Int), i + wd.length, rfl, rfl, ec _ _ (eb _ _ (ea _ _ k2)), ?_, ?_⟩
          · rw [← Int.natCast_add]
            exact ixN_nat (by rw [List.length_map]; exact hz)
          · exact ⟨zs.set (i + wd.length) (zs[i + wd.length] + zs[i]), _, rfl, (k1.then ((ea.trans eb).trans ec)).upd (.inl rfl), by rw [upd_same, List.map_set], by rw [List.length_set]; exact k3⟩
        · rintro Ht σ' H9 e9 ⟨zs, v4, rfl, k1, k2, k3⟩
          refine ⟨zs, _, _, rfl, fun b o nb hb => k1 b o nb (e9 b o (j1 b o nb hb)), k2, k3⟩
      · rintro Hs2 σ' H8 e8 ⟨zs, v3', v4', rfl, j1, j2, j3⟩
        exact k fs7 H8 ⟨way (j1 _ _ (Ne.symm nax) (e8 _ _ hx7)) (j1 _ _ (Ne.symm nap) (e8 _ _ hl7)) i1 i2 i3 i4, pb, i6, j1 _ _ nab (e8 _ _ hbeh7)⟩ fun b o hb hne => j1 _ _ (hpa0 b o hb) (e8 _ _ (kp7 b o hb hne))
end
end K03
set_option Elab.async false
set_option linter.all false
set_option maxRecDepth 100000
set_option maxHeartbeats 2000000
namespace K03
open PySem PySem.Spec PyProof.Rows L2 Evl Wc Wt Wg
def numV (c : List Nat) : List V := c.map fun (n : Nat) => V.int (n : Int)
theorem numV_app (c d : List Nat) : numV (c ++ d) = numV c ++ numV d := List.map_append
theorem beh_at {lot : List Tx} {text : Tx} {p : Nat} (hp : p ≤ text.length) : (behL lot text)[p]? = some (.int ((cutsAt lot text p).length : Int)) := by
  unfold behL
  rw [List.getElem?_map, List.getElem?_range (by omega)]
  rfl
theorem put_len {lot : List Tx} {text : Tx} {c : List Nat} (h : put lot c = text) : ∀ i, i ≤ c.length → (put lot (c.take i)).length ≤ text.length := fun i hi => by
  have := congrArg List.length h
  rw [← List.take_append_drop i c, put_app, List.length_append] at this
  omega
theorem pre_filter {q : Nat → Bool} {n t : Nat} (h : t ≤ n) : ((List.range n).filter q).filter (fun i => decide (i < t)) = (List.range t).filter q := by
  induction n with
  | zero =>
    have : t = 0 := by omega
    subst this
    rfl
  | succ n ih =>
    by_cases ht : t ≤ n
    · rw [List.range_succ, List.filter_append, List.filter_append, ih ht]
      have : ([n].filter q).filter (fun i => decide (i < t)) = [] := by
        rw [List.filter_eq_nil_iff]
        intro a ha
        have := List.mem_singleton.mp (List.mem_filter.mp ha).1
        subst this
        simp
        omega
      rw [this, List.append_nil]
    · have : t = n + 1 := by omega
      subst this
      rw [List.filter_eq_self.mpr]
      intro a ha
      have := List.mem_range.mp (List.mem_filter.mp ha).1
      exact decide_eq_true this
section
variable {P : Program} {w : World} {K : PySem.W.Frag} {mg : Str → Option Value} {base : Heap}
/-- self.behind[place + len(self.lot[index])] -/
theorem ev_behind {C x : Addr} {lot : List Tx} {text : Tx} {fs : List (Str × V)} {place idx i0 i3 i4 : Nat} {σ : L2.St} {H : Hp} (Wk : WC K C) (W : WaysB C x lot text fs H) (hi : idx ∈ wordsAt lot text place) (h0 : σ[i0]? = some (some (.ref x))) (h3 : σ[i3]? = some (some (.int (place : Int)))) (h4 : σ[i4]? = some (some (.int (idx : Int)))) :
    Ev (tOp (L2.rIxL K) (tFld K (tVar i0) "behind") (tOp (rI0 fun i j => .int (i + j)) (tVar i3) (tCB rLenT (tCons (tOp (L2.rIxT K) (tFld K (tVar i0) "lot") (tVar i4)) tNil)))) σ H (.int ((cutsAt lot text (place + wl lot idx)).length : Int)) := by
  obtain ⟨⟨⟨dx, hx⟩, ⟨pl, f1, hp, hL⟩, f2, hlen, hsg, _, _⟩, pb, f3, hb⟩ := W
  obtain ⟨wd, hw1, hw2, _⟩ := wordsAt_is hi
  have hlw : wd.length ≤ 12 := (hL.wd wd (List.mem_of_getElem? hw1)).1
  rw [wl_of hw1]
  exact ev_op (x := .ref pb) (y := .int ((place + wd.length : Nat) : Int)) (ev_fld (ev_var h0) hx Wk.cl Wk.n_behind f3) (ev_op (ev_var h3) (ev_cb (ea_cons (ev_op (ev_fld (ev_var h0) hx Wk.cl Wk.n_lot f1) (ev_var h4) (rv_ixT (st_of hp) (atI_nat (by rw [List.getElem?_map, hw1]; rfl)))) ea_nil) (rc_lenT (by omega))) rv_I0) (rv_ixL (sq_of hb) (atI_nat (beh_at hw2)))
/-- place + len(self.lot[index]) -/
theorem ev_next {C x : Addr} {lot : List Tx} {text : Tx} {fs : List (Str × V)} {place idx i0 i3 i4 : Nat} {σ : L2.St} {H : Hp} (Wk : WC K C) (W : WaysB C x lot text fs H) (hi : idx < lot.length) (h0 : σ[i0]? = some (some (.ref x))) (h3 : σ[i3]? = some (some (.int (place : Int)))) (h4 : σ[i4]? = some (some (.int (idx : Int)))) :
    Ev (tOp (rI0 fun i j => .int (i + j)) (tVar i3) (tCB rLenT (tCons (tOp (L2.rIxT K) (tFld K (tVar i0) "lot") (tVar i4)) tNil))) σ H (.int ((place + wl lot idx : Nat) : Int)) := by
  obtain ⟨⟨⟨dx, hx⟩, ⟨pl, f1, hp, hL⟩, f2, hlen, hsg, _, _⟩, pb, f3, hb⟩ := W
  have hw1 := List.getElem?_eq_getElem hi
  have hlw : lot[idx].length ≤ 12 := (hL.wd _ (List.getElem_mem hi)).1
  rw [wl_of hw1]
  exact ev_op (ev_var h3) (ev_cb (ea_cons (ev_op (ev_fld (ev_var h0) hx Wk.cl Wk.n_lot f1) (ev_var h4) (rv_ixT (st_of hp) (atI_nat (by rw [List.getElem?_map, hw1]; rfl)))) ea_nil) (rc_lenT (by omega))) rv_I0
def sp_cut (C : Addr) : Sp := fun vs H Q _ => ∃ (x : Addr) (lot : List Tx) (text : Tx) (fs : List (Str × V)) (k : Nat) (c : List Nat), vs = [.ref x, .int (k : Int)] ∧ WaysB C x lot text fs H ∧ (cutsAt lot text 0)[k]? = some c ∧ RetL (numV c) H Q
theorem ok_Ways_cut {f C : Addr} {fd : FuncData} (F : Fun K "cut" "Ways.cut" st_Ways_cut f fd) (M : Md K mg) (W : WC K C) (MT_Ways_words_at : C8.Met P w K mg base 1 C "words_at" (sp_words_at C) []) : FnOk P w K mg base CX0 2 f fd ["self", "number"] (sp_cut C) := by
  have nd := sc_Ways_cut.nd
  refine F.ok sc_Ways_cut (fun vs H Q E h => ?_) (fun cdv A outer s H vs Q E hr h => ?_)
  · obtain ⟨_, _, _, _, _, _, rfl, _⟩ := h
    rfl
  · obtain ⟨x, lot, text, fs, k, c, rfl, hW, hk, ret⟩ := h
    refine ⟨_, (pss_cons (ps_par (i := 2) (j := 3) rfl nd rfl rfl (by decide) rfl rfl (pa_cons (pe_lst pa_nil) (pa_cons pe_int pa_nil)) (by rfl))
  (pss_cons (ps_while PassesOwn.never (pt_cmpR op_lt (pv 3) (pe_callB cr_lenT (by rfl) M.n_len boot_len (pa_cons (kfl K (pe_fld (pv 0) rfl)) pa_nil)) (nomark _))
  (pss_cons (ps_for PassesOwn.never rfl (kil K (pi_list (C8.pe_mt MT_Ways_words_at hr (by decide) (pv 0) (pa_cons (pv 3) pa_nil)))) (pg_name (i := 4) nd rfl (Or.inl rfl))
  (pss_cons (ps_set (i := 5) nd rfl (Or.inl rfl) (pe_ix (kix K (r := L2.rIxL) ix_list) (kfl K (pe_fld (pv 0) rfl)) (pe_op op_add (pv 3) (pe_callB cr_lenT (by rfl) M.n_len boot_len (pa_cons (pe_ix (kix K (r := L2.rIxT) ix_tup) (kfl K (pe_fld (pv 0) rfl)) (pv 4) (fun _ _ => rfl)) pa_nil))) (fun _ _ => rfl)))
  (pss_cons (ps_if (pt_cmpR op_lt (pv 1) (pv 5) (nomark _))
  (pss_one ps_break)
  pss_nil)
  (pss_one (ps_set (i := 1) nd rfl (Or.inl rfl) (pe_op op_sub (pv 1) (pv 5)))))))
  (pss_cons (ps_expr (kbm K (pe_bm PySem.F.plainAttrs_list PySem.F.slot_list_append PySem.F.type_list_append mt_append (pv 2) (pa_cons (pv 4) pa_nil))))
  (pss_one (ps_set (i := 3) nd rfl (Or.inl rfl) (pe_op op_add (pv 3) (pe_callB cr_lenT (by rfl) M.n_len boot_len (pa_cons (pe_ix (kix K (r := L2.rIxT) ix_tup) (kfl K (pe_fld (pv 0) rfl)) (pv 4) (fun _ _ => rfl)) pa_nil))))))))
  (pss_one (ps_ret (pv 2))))), ?_⟩
    obtain ⟨pl, f1, hp, hL⟩ := hW.w.flot
    have hlen := hW.w.len
    refine q_parLC (el_lst ea_nil (by decide)) fun pf H1 hpf e1 h1 => ?_
    show tSeq _ _ _ [some (.ref x), some (.int (k : Int)), some (.ref pf), some (.int 0), none, none] H1
    obtain ⟨Wp, hWp⟩ : ∃ Wp : Nat → L2.St → Hp → Prop, Wp = fun m σ' H' => ∃ (place num : Nat) (done : List Nat) (v4 v5 : Option V), σ' = [some (.ref x), some (.int (num : Int)), some (.ref pf), some (.int (place : Int)), v4, v5] ∧ m + place = text.length ∧ Ex H H' ∧ H' pf = some (.lst (numV done)) ∧ done.length ≤ place ∧ num < (cutsAt lot text place).length ∧ (cutsAt lot text 0)[k]? = ((cutsAt lot text place)[num]?).map (done ++ ·) := ⟨_, rfl⟩
    refine q_while Wp text.length ?_ fun m σ' H' hw => ?_
    · rw [hWp]
      refine ⟨0, k, [], none, none, rfl, rfl, e1, h1, Nat.le_refl _, (List.getElem?_eq_some_iff.mp hk).1, ?_⟩
      rw [hk]
      rfl
    rw [hWp] at hw
    obtain ⟨place, num, done, v4, v5, rfl, hm, e2, h2, hdl, hnum, hgo⟩ := hw
    have W2 := hW.ex e2
    obtain ⟨dx, hx⟩ := W2.w.ob
    refine ⟨decide (place < text.length), et_is (et_test (ev_op (ev_var rfl) (ev_cb (ea_cons (ev_fld (ev_var rfl) hx W.cl W.n_text W2.w.ftext) ea_nil) (rc_lenT (by omega))) rv_I0)) (decide_eq_decide.mpr Int.ofNat_lt), fun hb H3 e3 => ?_, fun hb H3 e3 => ?_⟩
    · have hplt := of_decide_eq_true hb
      refine ⟨fun σ2 H2 => ∃ m', m' < m ∧ Wp m' σ2 H2, fun _ _ z => z, ?_⟩
      have W3 := W2.ex e3
      have e23 := e2.trans e3
      have h3 := e3 _ _ h2
      clear hb
      refine q_forW (fun _ => False) (src_newLM (f := fun (n : Nat) => V.int (n : Int)) (xs := wordsAt lot text place) (el_words W3.w rfl rfl)) (fun _ z => z.elim)
        (fun Ht j σ' H9 => ∃ (r : Nat) (v4 v5 : Option V), σ' = [some (.ref x), some (.int (r : Int)), some (.ref pf), some (.int (place : Int)), v4, v5] ∧ Ex Ht H9 ∧ sumL (fun i => cutsAt lot text (place + wl lot i)) ((wordsAt lot text place).take j) + r = num) ?_ ?_ ?_ ?_ ?_
      · intro Ht e9
        exact ⟨num, _, _, rfl, Ex.refl _, by unfold sumL; simp⟩
      · rintro Ht j σ' H9 ⟨_, _, _, _, z, _⟩
        exact .of z
      · rintro Ht j σ' Ha Hb ⟨r, v4, v5, z0, z1, z2⟩ e
        exact ⟨r, v4, v5, z0, z1.trans e, z2⟩
      · rintro Ht j y σ' H9 e9 hj ⟨r, v4, v5, rfl, z1, z2⟩ hy
        obtain ⟨idx, hidx, rfl⟩ := at_map hy
        have him := List.mem_of_getElem? hidx
        have hwp := word_pos hL.pos him
        have e39 := e9.trans z1
        show tSeq _ _ _ [some (.ref x), some (.int (r : Int)), some (.ref pf), some (.int (place : Int)), some (.int (idx : Int)), v5] H9
        refine q_asg (ev_behind W (W3.ex e39) him rfl rfl rfl) fun H4 e4 => ?_
        show tSeq _ _ _ [some (.ref x), some (.int (r : Int)), some (.ref pf), some (.int (place : Int)), some (.int (idx : Int)), some (.int ((cutsAt lot text (place + wl lot idx)).length : Int))] H4
        have eT := e39.trans e4
        refine q_when (b := decide (r < (cutsAt lot text (place + wl lot idx)).length)) (et_is (et_test (ev_op (ev_var rfl) (ev_var rfl) rv_I0)) (decide_eq_decide.mpr Int.ofNat_lt)) (fun hb H5 e5 => ?_) (fun hb H5 e5 => ?_)
        · have hr := of_decide_eq_true hb
          have h5 := (eT.trans e5) _ _ h3
          have hnth := cuts_nth hL.pos hplt hidx hr
          rw [z2] at hnth
          show tSeq _ _ _ [some (.ref x), some (.int (r : Int)), some (.ref pf), some (.int (place : Int)), some (.int (idx : Int)), some (.int ((cutsAt lot text (place + wl lot idx)).length : Int))] H5
          refine q_app h5 (ev_var rfl) (ev_var rfl) (by unfold numV; rw [List.length_map]; omega) fun H6 e6 => ?_
          have eA : Ex H (upd H6 pf (.lst (numV done ++ [.int (idx : Int)]))) := Ex.mut (e23.trans (eT.trans (e5.trans e6))) hpf
          have h7 : (upd H6 pf (.lst (numV done ++ [.int (idx : Int)]))) pf = some (.lst (numV (done ++ [idx]))) := by rw [upd_same, numV_app]; rfl
          generalize upd H6 pf (.lst (numV done ++ [.int (idx : Int)])) = H7 at eA h7
          refine s_asg (ev_next W (hW.ex eA) hwp.2.2 rfl rfl rfl) fun H8 e8 => ⟨text.length - (place + wl lot idx), by omega, ?_⟩
          rw [hWp]
          refine ⟨place + wl lot idx, r, done ++ [idx], _, _, rfl, by omega, eA.trans e8, e8 _ _ h7, by rw [List.length_append, List.length_singleton]; omega, hr, ?_⟩
          rw [hgo, hnth, Option.map_map]
          congr 1
          funext t
          show done ++ (idx :: t) = (done ++ [idx]) ++ t
          rw [List.append_assoc]
          rfl
        · have hr := of_decide_eq_false hb
          refine s_asg (v := .int ((r - (cutsAt lot text (place + wl lot idx)).length : Nat) : Int)) (ev_is (ev_op (ev_var rfl) (ev_var rfl) rv_I0) (by congr 1; omega)) fun H6 e6 => ?_
          refine ⟨_, _, _, rfl, z1.trans (e4.trans (e5.trans e6)), ?_⟩
          rw [sumL_take hidx]
          omega
      · rintro Ht σ' H9 e9 ⟨r, v4, v5, rfl, z1, z2⟩
        rw [List.take_length, ← cuts_count hL.pos hplt] at z2
        omega
    · have hple := of_decide_eq_false hb
      have hpe : place = text.length := by omega
      subst hpe
      rw [cuts_last] at hnum hgo
      have hn0 : num = 0 := by simp at hnum; omega
      subst hn0
      have hc : c = done := by
        rw [hk] at hgo
        have := Option.some.inj hgo
        simpa using this
      subst hc
      exact s_ret (ev_var rfl) fun H4 e4 => ret pf H4 hpf ((e2.trans e3).trans e4) ((e3.trans e4) _ _ h2)
def sp_number (C : Addr) : Sp := fun vs H Q _ => ∃ (x pc : Addr) (lot : List Tx) (text : Tx) (fs : List (Str × V)) (c : List Nat), vs = [.ref x, .ref pc] ∧ WaysB C x lot text fs H ∧ H pc = some (.lst (numV c)) ∧ Ixs lot c ∧ put lot c = text ∧ RetV (.int (rankF lot text 0 c : Int)) H Q
theorem ok_Ways_number {f C : Addr} {fd : FuncData} (F : Fun K "number" "Ways.number" st_Ways_number f fd) (M : Md K mg) (W : WC K C) (MT_Ways_words_at : C8.Met P w K mg base 1 C "words_at" (sp_words_at C) []) : FnOk P w K mg base CX0 2 f fd ["self", "indexes"] (sp_number C) := by
  have nd := sc_Ways_number.nd
  refine F.ok sc_Ways_number (fun vs H Q E h => ?_) (fun cdv A outer s H vs Q E hr h => ?_)
  · obtain ⟨_, _, _, _, _, _, rfl, _⟩ := h
    rfl
  · obtain ⟨x, pc, lot, text, fs, c, rfl, hW, hpc, hix, hput, ret⟩ := h
    refine ⟨_, (pss_cons (ps_asg (pe_tup (pa_cons pe_int (pa_cons pe_int pa_nil))) (kgt K (n := 2) (pg_tup rfl (pgs_cons (pg_name (i := 2) nd rfl (Or.inl rfl)) (pgs_cons (pg_name (i := 3) nd rfl (Or.inl rfl)) pgs_nil)))))
  (pss_cons (ps_for PassesOwn.never rfl (kil K (pi_list (pv 1))) (pg_name (i := 4) nd rfl (Or.inl rfl))
  (pss_cons (ps_for PassesOwn.never rfl (kil K (pi_list (C8.pe_mt MT_Ways_words_at hr (by decide) (pv 0) (pa_cons (pv 3) pa_nil)))) (pg_name (i := 5) nd rfl (Or.inl rfl))
  (pss_one (ps_if (pt_cmpR op_lt (pv 5) (pv 4) (nomark _))
  (pss_one (ps_set (i := 2) nd rfl (Or.inl rfl) (pe_op op_add (pv 2) (pe_ix (kix K (r := L2.rIxL) ix_list) (kfl K (pe_fld (pv 0) rfl)) (pe_op op_add (pv 3) (pe_callB cr_lenT (by rfl) M.n_len boot_len (pa_cons (pe_ix (kix K (r := L2.rIxT) ix_tup) (kfl K (pe_fld (pv 0) rfl)) (pv 5) (fun _ _ => rfl)) pa_nil))) (fun _ _ => rfl)))))
  pss_nil)))
  (pss_one (ps_set (i := 3) nd rfl (Or.inl rfl) (pe_op op_add (pv 3) (pe_callB cr_lenT (by rfl) M.n_len boot_len (pa_cons (pe_ix (kix K (r := L2.rIxT) ix_tup) (kfl K (pe_fld (pv 0) rfl)) (pv 4) (fun _ _ => rfl)) pa_nil)))))))
  (pss_one (ps_ret (pv 2))))), ?_⟩
    obtain ⟨pl, f1, hp, hL⟩ := hW.w.flot
    refine q_asg2C fun H0 e0 => ?_
    show tSeq _ _ _ [some (.ref x), some (.ref pc), some (.int 0), some (.int 0), none, none] H0
    refine q_forW (fun _ => False) (src_listM (f := fun (n : Nat) => V.int (n : Int)) (xs := c) (ev_var rfl) (sq_of (e0 _ _ hpc))) (fun _ z => z.elim)
      (fun Hs i σ' H' => ∃ (found : Nat) (v4 v5 : Option V), σ' = [some (.ref x), some (.ref pc), some (.int (found : Int)), some (.int ((put lot (c.take i)).length : Int)), v4, v5] ∧ Ex Hs H' ∧ found + rankF lot text (put lot (c.take i)).length (c.drop i) = rankF lot text 0 c) ?_ ?_ ?_ ?_ ?_
    · intro Hs e
      exact ⟨0, none, none, rfl, Ex.refl _, by rw [List.drop_zero, Nat.zero_add]; rfl⟩
    · rintro Hs i σ' H' ⟨_, _, _, _, h, _⟩
      exact .of h
    · rintro Hs i σ' Ha Hb ⟨found, v4, v5, h0, h1, h2⟩ e
      exact ⟨found, v4, v5, h0, h1.trans e, h2⟩
    · rintro Hs i y σ' H' e hi ⟨found, v4, v5, rfl, h1, h2⟩ hy
      obtain ⟨t, ht, rfl⟩ := at_map hy
      have htl : t < lot.length := hix t (List.mem_of_getElem? ht)
      have eA := e0.trans (e.trans h1)
      have hW2 := hW.ex eA
      have hdr : c.drop i = t :: c.drop (i + 1) := by
        obtain ⟨hl, h3⟩ := List.getElem?_eq_some_iff.mp ht
        rw [← h3]
        exact List.drop_eq_getElem_cons hl
      have hwt : wl lot t = (lot.getD t []).length := rfl
      have htk : put lot (c.take (i + 1)) = put lot (c.take i) ++ lot.getD t [] := by
        rw [List.take_add_one, ht, put_app]
        congr 1
        unfold put
        simp
      have hbound := put_len hput (i + 1) (by omega)
      rw [htk, List.length_append] at hbound
      generalize hpl : (put lot (c.take i)).length = place at h2 htk hbound ⊢
      rw [hdr] at h2
      show tSeq _ _ _ [some (.ref x), some (.ref pc), some (.int (found : Int)), some (.int (place : Int)), some (.int (t : Int)), v5] H'
      refine q_forW (fun _ => False) (src_newLM (f := fun (n : Nat) => V.int (n : Int)) (xs := wordsAt lot text place) (el_words hW2.w rfl rfl)) (fun _ z => z.elim)
        (fun Ht j σ' H9 => ∃ (v5 : Option V), σ' = [some (.ref x), some (.ref pc), some (.int ((found + sumL (fun i => cutsAt lot text (place + wl lot i)) (((wordsAt lot text place).take j).filter fun i => decide (i < t)) : Nat) : Int)), some (.int (place : Int)), some (.int (t : Int)), v5] ∧ Ex Ht H9) ?_ ?_ ?_ ?_ ?_
      · intro Ht e9
        exact ⟨v5, rfl, Ex.refl _⟩
      · rintro Ht j σ' H9 ⟨_, _, z⟩
        exact .of z
      · rintro Ht j σ' Ha Hb ⟨v5, z0, z1⟩ e
        exact ⟨v5, z0, z1.trans e⟩
      · rintro Ht j y σ' H9 e9 hj ⟨v5, rfl, z1⟩ hy
        obtain ⟨idx, hidx, rfl⟩ := at_map hy
        have him := List.mem_of_getElem? hidx
        have e39 := e9.trans z1
        have htj : (((wordsAt lot text place).take (j + 1)).filter fun i => decide (i < t)) = (((wordsAt lot text place).take j).filter fun i => decide (i < t)) ++ if idx < t then [idx] else [] := by
          rw [List.take_add_one, hidx, List.filter_append]
          congr 1
          by_cases z : idx < t
          · rw [if_pos z]
            simp [z]
          · rw [if_neg z]
            simp [z]
        have hsm : sumL (fun i => cutsAt lot text (place + wl lot i)) (((wordsAt lot text place).take (j + 1)).filter fun i => decide (i < t)) = sumL (fun i => cutsAt lot text (place + wl lot i)) (((wordsAt lot text place).take j).filter fun i => decide (i < t)) + if idx < t then (cutsAt lot text (place + wl lot idx)).length else 0 := by
          rw [htj]
          unfold sumL
          rw [List.map_append, List.sum_append]
          congr 1
          by_cases z : idx < t
          · rw [if_pos z, if_pos z]
            simp
          · rw [if_neg z, if_neg z]
            rfl
        generalize sumL (fun i => cutsAt lot text (place + wl lot i)) (((wordsAt lot text place).take j).filter fun i => decide (i < t)) = s0 at hsm ⊢
        show tIfS _ _ _ _ [some (.ref x), some (.ref pc), some (.int ((found + s0 : Nat) : Int)), some (.int (place : Int)), some (.int (t : Int)), some (.int (idx : Int))] H9
        refine s_when (b := decide (idx < t)) (et_is (et_test (ev_op (ev_var rfl) (ev_var rfl) rv_I0)) (decide_eq_decide.mpr Int.ofNat_lt)) (fun hb H5 e5 => ?_) (fun hb H5 e5 => ?_)
        · rw [if_pos (of_decide_eq_true hb)] at hsm
          refine s_asg (v := .int ((found + (s0 + (cutsAt lot text (place + wl lot idx)).length) : Nat) : Int)) (ev_is (ev_op (ev_var rfl) (ev_behind W (hW2.ex (e39.trans e5)) him rfl rfl rfl) rv_I0) (by congr 1; omega)) fun H6 e6 => ?_
          rw [hsm]
          exact ⟨_, rfl, z1.trans (e5.trans e6)⟩
        · rw [if_neg (of_decide_eq_false hb)] at hsm
          rw [hsm]
          exact ⟨_, rfl, z1.trans e5⟩
      · rintro Ht σ' H9 e9 ⟨v5, rfl, z1⟩
        rw [List.take_length]
        have hbe : sumL (fun i => cutsAt lot text (place + wl lot i)) ((wordsAt lot text place).filter fun i => decide (i < t)) = before lot text place t := by
          unfold before wordsAt
          rw [pre_filter (by omega)]
        rw [hbe]
        have e39 := e9.trans z1
        refine s_asg (ev_next W (hW2.ex e39) htl rfl rfl rfl) fun H6 e6 => ?_
        refine ⟨found + before lot text place t, some (.int (t : Int)), v5, ?_, h1.trans (e39.trans e6), ?_⟩
        · rw [htk, List.length_append, hpl, hwt]
          rfl
        · rw [htk, List.length_append, hpl, ← h2]
          show _ = found + (before lot text place t + rankF lot text (place + wl lot t) (c.drop (i + 1)))
          rw [hwt]
          omega
    · rintro Hs σ' H' e ⟨found, v4, v5, rfl, h1, h2⟩
      rw [List.drop_length] at h2
      have h2' : found = rankF lot text 0 c := h2
      subst h2'
      exact s_ret (ev_var rfl) fun H4 e4 => ret H4 ((e0.trans (e.trans h1)).trans e4)
def sp_cuts (C : Addr) : Sp := fun vs H Q _ => ∃ (x : Addr) (lot : List Tx) (text : Tx) (fs : List (Str × V)), vs = [.ref x] ∧ WaysB C x lot text fs H ∧ (cutsAt lot text 0).length ≤ 300 ∧
  ∀ q H' ps, H q = none → Ex H H' → H' q = some (.lst (ps.map V.ref)) → ps.length = (cutsAt lot text 0).length → News H H' (fun i => .lst (numV ((cutsAt lot text 0).getD i []))) ps → q ∉ ps → Q (.ref q) H'
theorem ok_Ways_cuts {f C : Addr} {fd : FuncData} (F : Fun K "cuts" "Ways.cuts" st_Ways_cuts f fd) (M : Md K mg) (W : WC K C) (MT_Ways_cut : C8.Met P w K mg base 2 C "cut" (sp_cut C) []) : FnOk P w K mg base CX0 3 f fd ["self"] (sp_cuts C) := by
  have nd := sc_Ways_cuts.nd
  refine F.ok sc_Ways_cuts (fun vs H Q E h => ?_) (fun cdv A outer s H vs Q E hr h => ?_)
  · obtain ⟨_, _, _, _, rfl, _⟩ := h
    rfl
  · obtain ⟨x, lot, text, fs, rfl, hW, h300, ret⟩ := h
    refine ⟨_, (pss_one (ps_ret (pe_lc (own := [("number", 1)]) rfl nd (pi_range1 (by rfl) M.n_range (pa_cons (pe_ix (kix K (r := L2.rIxL) ix_list) (kfl K (pe_fld (pv 0) rfl)) pe_int (fun _ _ => rfl)) pa_nil)) (blkOk_by (N := N_Ways_cuts) (sc := defScope st_Ways_cuts) (by decide +kernel)) (fun _ _ _ _ _ => (pg_name (i := 1) nd rfl (Or.inl rfl))) (fun _ _ _ _ _ => pts_nil) (fun _ _ _ _ _ => (C8.pe_mt MT_Ways_cut hr (by decide) (pv 0) (pa_cons (pv 1) pa_nil)))))), ?_⟩
    obtain ⟨dx, hx⟩ := hW.w.ob
    obtain ⟨pb, f3, hb⟩ := hW.fb
    refine lcN (n := (cutsAt lot text 0).length) (fun i => .lst (numV ((cutsAt lot text 0).getD i []))) (src_range1 (ea_cons (ev_op (ev_fld (ev_var rfl) hx W.cl W.n_behind f3) ev_c (rv_ixL (sq_of hb) (atI_nat (j := 0) (beh_at (Nat.zero_le _))))) ea_nil) (by omega)) (by omega) (fun _ => rfl) (fun i y H1 hi hy e1 Q' q' => ?_) ret
    subst hy
    have W1 := hW.ex e1
    obtain ⟨dx1, hx1⟩ := W1.w.ob
    exact ⟨.ref x, rfl, x, dx1, fs, rfl, hx1, W1.w.no2.1, .int (i : Int), rfl, x, lot, text, fs, i, _, rfl, W1, List.getElem?_eq_getElem hi, fun p H2 hp e2 h2 => q' p H2 hp e2 (by rw [h2, List.getD_eq_getElem?_getD, List.getElem?_eq_getElem hi]; rfl)⟩
end
end K03
set_option Elab.async false
set_option linter.all false
set_option maxRecDepth 100000
set_option maxHeartbeats 2000000
namespace K03
open PySem PySem.Spec PyProof.Rows L2 Evl Wc Wt Wg
section
variable {P : Program} {w : World} {K : PySem.W.Frag} {mg : Str → Option Value} {base : Heap}
def sp_is_integer : Sp := fun vs H Q _ => ∃ (i : Int), vs = [.int i] ∧ RetV (.bl true) H Q
theorem ok_is_integer {f : Addr} {fd : FuncData} (F : Fun K "is_integer" "is_integer" st_is_integer f fd) (M : Md K mg) : FnOk P w K mg base CX0 1 f fd ["thing"] sp_is_integer := by
  have nd := sc_is_integer.nd
  refine F.ok sc_is_integer (fun vs H Q E h => ?_) (fun cdv A outer s H vs Q E hr h => ?_)
  · obtain ⟨_, rfl, _⟩ := h
    rfl
  · obtain ⟨i, rfl, k⟩ := h
    refine ⟨_, (pss_one (ps_ret (pe_and (pe_callB (kcr K (r := rIsiB) cr_isi) (by rfl) M.n_isinstance boot_isinstance (pa_cons (pv 0) (pa_cons (pe_bltn (v := .ty "int") rfl M.n_int boot_int rfl) pa_nil))) (pe_one (pe_not (pe_callB (kcr K (r := rIsiB) cr_isi) (by rfl) M.n_isinstance boot_isinstance (pa_cons (pv 0) (pa_cons (pe_bltn (v := .ty "bool") rfl M.n_bool boot_bool rfl) pa_nil)))))))), ?_⟩
    exact s_ret (ev_andV (ev_cb (ea_cons (ev_var rfl) (ea_cons ev_c ea_nil)) (rc_isi (fun _ _ => .base (.int _)) k_int_int)) fun _ => ev_notV (ev_cb (ea_cons (ev_var rfl) (ea_cons ev_c ea_nil)) (rc_isi (fun _ _ => .base (.int _)) k_int_bool))) k
def sp_is_within : Sp := fun vs H Q _ => ∃ (i a b : Int), vs = [.int i, .int a, .int b] ∧ RetV (.bl (decide (a ≤ i) && decide (i ≤ b))) H Q
theorem ok_is_within {f : Addr} {fd : FuncData} (F : Fun K "is_within" "is_within" st_is_within f fd) (M : Md K mg) (C_is_integer : Cal P w K mg base "is_integer" st_is_integer 1 ["thing"] sp_is_integer) : FnOk P w K mg base CX0 2 f fd ["thing", "least", "most"] sp_is_within := by
  have nd := sc_is_within.nd
  refine F.ok sc_is_within (fun vs H Q E h => ?_) (fun cdv A outer s H vs Q E hr h => ?_)
  · obtain ⟨_, _, _, rfl, _⟩ := h
    rfl
  · obtain ⟨i, a, b, rfl, k⟩ := h
    refine ⟨_, (pss_one (ps_ret (pe_and (pe_cl C_is_integer hr (pa_cons (pv 0) pa_nil)) (pe_one (pe_chain op_le op_le (pv 1) (pv 0) (pv 2)))))), ?_⟩
    exact s_ret (v := .bl (decide (a ≤ i) && decide (i ≤ b))) (ev_is (ev_andV (ev_call (ea_cons (ev_var rfl) ea_nil) fun H1 e1 Q q E => ⟨i, rfl, q⟩) fun _ => ev_chain (ev_var rfl) (ev_var rfl) rv_I0 (ev_var rfl) rv_I0) (by simp)) k
def sp_need_number (CN : Addr) : Sp := fun vs H Q E => ∃ (i a b : Int), vs = [.int i, .int a, .int b] ∧ (a ≤ i ∧ i ≤ b → RetV .non H Q) ∧ (¬ (a ≤ i ∧ i ≤ b) → ∀ H', Ex H H' → E (.ref CN) none H')
theorem ok_need_number {f CN : Addr} {fd : FuncData} (F : Fun K "need_number" "need_number" st_need_number f fd) (M : Md K mg) (E_BadNumber : Err K mg "BadNumber" CN) (C_is_within : Cal P w K mg base "is_within" st_is_within 2 ["thing", "least", "most"] sp_is_within) : FnOk P w K mg base (L2.CX P w) 3 f fd ["thing", "least", "most"] (sp_need_number CN) := by
  have nd := sc_need_number.nd
  refine F.okX sc_need_number (fun vs H Q E h => ?_) (fun cdv A outer s H vs Q E hr h => ?_)
  · obtain ⟨_, _, _, rfl, _⟩ := h
    rfl
  · obtain ⟨i, a, b, rfl, k1, k2⟩ := h
    refine ⟨_, (pss_one (ps_if (pt_not (pt_val (pe_cl C_is_within hr (pa_cons (pv 0) (pa_cons (pv 1) (pa_cons (pv 2) pa_nil))))))
  (pss_one (ps_raiseE rfl (takes_of rfl rfl rfl rfl) E_BadNumber))
  pss_nil)), ?_⟩
    refine s_when (et_not (et_B (ev_call (ea_cons (ev_var rfl) (ea_cons (ev_var rfl) (ea_cons (ev_var rfl) ea_nil))) fun H1 e1 Q q E => ⟨i, a, b, rfl, q⟩))) (fun hb H1 e1 => k2 ?_ H1 e1) (fun hb H1 e1 => k1 ?_ H1 e1)
    · rintro ⟨z1, z2⟩
      rw [decide_eq_true z1, decide_eq_true z2] at hb
      cases hb
    · by_cases z1 : a ≤ i
      · by_cases z2 : i ≤ b
        · exact ⟨z1, z2⟩
        · rw [decide_eq_false z2, Bool.and_false] at hb
          cases hb
      · rw [decide_eq_false z1] at hb
        cases hb
def sp_need_few (CE : Addr) : Sp := fun vs H Q E => ∃ (t : Tx), vs = [T t] ∧ t.length ≤ 16000000 ∧ (t.length ≤ 400 → RetV (T t) H Q) ∧ (400 < t.length → ∀ H', Ex H H' → E (.ref CE) none H')
theorem ok_need_few_signs {f CE : Addr} {fd : FuncData} (F : Fun K "need_few_signs" "need_few_signs" st_need_few_signs f fd) (M : Md K mg) (E_TooMany : Err K mg "TooMany" CE) : FnOk P w K mg base (L2.CX P w) 1 f fd ["text"] (sp_need_few CE) := by
  have nd := sc_need_few_signs.nd
  refine F.okX sc_need_few_signs (fun vs H Q E h => ?_) (fun cdv A outer s H vs Q E hr h => ?_)
  · obtain ⟨_, rfl, _⟩ := h
    rfl
  · obtain ⟨t, rfl, hl, k1, k2⟩ := h
    refine ⟨_, (pss_cons (ps_if (pt_cmpR op_gt (pe_callB cr_lenT (by rfl) M.n_len boot_len (pa_cons (pv 0) pa_nil)) (pe_gI M.c_MOST_SIGNS) (nomark _))
  (pss_one (ps_raiseE rfl (takes_of rfl rfl rfl rfl) E_TooMany))
  pss_nil)
  (pss_one (ps_ret (pv 0)))), ?_⟩
    refine q_when (b := decide (400 < t.length)) (et_is (et_test (ev_op (ev_cb (ea_cons (ev_var rfl) ea_nil) (rc_lenT (by omega))) ev_c rv_I0)) (decide_eq_decide.mpr (by omega))) (fun hb H1 e1 => k2 (of_decide_eq_true hb) H1 e1) (fun hb H1 e1 => ?_)
    have := of_decide_eq_false hb
    exact s_ret (ev_var rfl) (RetV.mono (k1 (by omega)) e1)
def sp_indexes : Sp := fun vs H Q _ => ∃ (pl pc : Addr) (lot : List Tx) (c : List Nat), vs = [.ref pl, .ref pc] ∧ LotAt pl lot H ∧ H pc = some (.lst (numV c)) ∧ Ixs lot c ∧ c.length ≤ 400 ∧ RetV (.bl true) H Q
theorem ok_are_indexes {f : Addr} {fd : FuncData} (F : Fun K "are_indexes" "are_indexes" st_are_indexes f fd) (M : Md K mg) (C_is_within : Cal P w K mg base "is_within" st_is_within 2 ["thing", "least", "most"] sp_is_within) : FnOk P w K mg base CX0 3 f fd ["lot", "thing"] sp_indexes := by
  have nd := sc_are_indexes.nd
  refine F.ok sc_are_indexes (fun vs H Q E h => ?_) (fun cdv A outer s H vs Q E hr h => ?_)
  · obtain ⟨_, _, _, _, rfl, _⟩ := h
    rfl
  · obtain ⟨pl, pc, lot, c, rfl, hL, hc, hix, hcl, k⟩ := h
    refine ⟨_, (pss_cons (ps_if (PW.pt (pw_or (pt_not (pt_val (pe_callB (kcr K (r := rIsiB) cr_isi) (by rfl) M.n_isinstance boot_isinstance (pa_cons (pv 1) (pa_cons (pe_bltn (v := .ty "list") rfl M.n_list boot_list rfl) pa_nil))))) (pw_or1 (pt_cmpR op_gt (pe_callB (kcr K (r := rLenS) call_len_seq) (by rfl) M.n_len boot_len (pa_cons (pv 1) pa_nil)) (pe_gI M.c_MOST_INDEXES) (nomark _)))))
  (pss_one (ps_ret pe_bl))
  pss_nil)
  (pss_one (ps_ret (pe_callB (kcr K (r := rAll) (cr_all rfl)) (by rfl) M.n_all boot_all (pa_cons (pe_lc (own := [("index", 2)]) rfl nd (kil K (pi_list (pv 1))) (blkOk_by (N := N_are_indexes) (sc := defScope st_are_indexes) (by decide +kernel)) (fun _ _ _ _ _ => (pg_name (i := 2) nd rfl (Or.inl rfl))) (fun _ _ _ _ _ => pts_nil) (fun _ _ _ _ _ => (pe_cl C_is_within hr (pa_cons (pv 2) (pa_cons pe_int (pa_cons (pe_op op_sub (pe_callB (kcr K (r := rLenS) call_len_seq) (by rfl) M.n_len boot_len (pa_cons (pv 0) pa_nil)) pe_int) pa_nil)))))) pa_nil))))), ?_⟩
    refine q_when (b := false) (et_is (et_or (et_not (et_B (ev_cb (ea_cons (ev_var rfl) (ea_cons ev_c ea_nil)) (rc_isi (b := true) (fun H1 e => .base (.lst (e _ _ hc))) k_list_list)))) fun _ => et_test (ev_op (ev_len (ev_var rfl) (sq_of hc)) ev_c rv_I0)) ?_) (fun z => by cases z) (fun _ H1 e1 => ?_)
    · unfold numV
      rw [List.length_map]
      simp
      omega
    have hc1 := e1 _ _ hc
    have hfew := hL.2.few
    refine s_ret (v := .bl true) (ev_is (ev_cbL (el_lcM (j := 2) (vs := [2]) (f := fun (n : Nat) => V.int (n : Int)) (g := fun _ => V.bl true) c (src_listM (ev_var rfl) (sq_of hc1)) (by omega) (fun _ => rfl) fun i H2 e2 hi => ?_) fun p H2 hp e2 => rc_allM (f := fun _ => true) (sq_of hp)) (by simp)) (RetV.mono k e1)
    have hil := hix i hi
    refine ev_is (ev_call (ea_cons (ev_var rfl) (ea_cons ev_c (ea_cons (ev_op (ev_lenU (ev_var rfl) (st_of ((e1.trans e2) _ _ hL.1))) ev_c rv_I0) ea_nil))) fun H3 e3 Q q E => ⟨(i : Int), 0, ((lot.map T).length : Int) - 1, rfl, q⟩) ?_
    rw [List.length_map, decide_eq_true (by omega), decide_eq_true (by omega)]
    rfl
def sp_need_indexes : Sp := fun vs H Q _ => ∃ (pl pc : Addr) (lot : List Tx) (c : List Nat), vs = [.ref pl, .ref pc] ∧ LotAt pl lot H ∧ H pc = some (.lst (numV c)) ∧ Ixs lot c ∧ c.length ≤ 400 ∧ RetV .non H Q
theorem ok_need_indexes {f : Addr} {fd : FuncData} (F : Fun K "need_indexes" "need_indexes" st_need_indexes f fd) (M : Md K mg) (C_are_indexes : Cal P w K mg base "are_indexes" st_are_indexes 3 ["lot", "thing"] sp_indexes) : FnOk P w K mg base CX0 4 f fd ["lot", "indexes"] sp_need_indexes := by
  have nd := sc_need_indexes.nd
  refine F.ok sc_need_indexes (fun vs H Q E h => ?_) (fun cdv A outer s H vs Q E hr h => ?_)
  · obtain ⟨_, _, _, _, rfl, _⟩ := h
    rfl
  · obtain ⟨pl, pc, lot, c, rfl, hL, hc, hix, hcl, k⟩ := h
    refine ⟨_, (pss_one (ps_if (pt_not (pt_val (pe_cl C_are_indexes hr (pa_cons (pv 0) (pa_cons (pv 1) pa_nil)))))
  (pss_one ps_never)
  pss_nil)), ?_⟩
    exact s_when (b := false) (et_is (et_not (et_B (ev_call (ea_cons (ev_var rfl) (ea_cons (ev_var rfl) ea_nil)) fun H1 e1 Q q E => ⟨pl, pc, lot, c, rfl, hL.ex e1, e1 _ _ hc, hix, hcl, q⟩))) rfl) (fun z => by cases z) (fun _ => k)
theorem put_bound {lot : List Tx} (hL : IsLot lot) : ∀ c : List Nat, (put lot c).length ≤ 12 * c.length := fun c => by
  induction c with
  | nil => exact Nat.le_refl _
  | cons i c ih =>
    have : (lot.getD i []).length ≤ 12 := by
      rw [List.getD_eq_getElem?_getD]
      cases h : lot[i]? with
      | none => simp
      | some wd => exact (hL.wd wd (List.mem_of_getElem? h)).1
    rw [put_cons, List.length_append, List.length_cons]
    omega
theorem put_abcd {lot : List Tx} (hL : IsLot lot) : ∀ c : List Nat, ∀ s ∈ put lot c, abcd s := fun c => by
  induction c with
  | nil => exact fun s hs => nomatch hs
  | cons i c ih =>
    intro s hs
    rw [put_cons] at hs
    rcases List.mem_append.mp hs with z | z
    · rw [List.getD_eq_getElem?_getD] at z
      cases h : lot[i]? with
      | none => rw [h] at z; cases z
      | some wd =>
        rw [h] at z
        exact (hL.wd wd (List.mem_of_getElem? h)).2 s z
    · exact ih s z
/-- the words of a list of indexes, one behind the other -/
theorem ev_put {i j l : Nat} {pl pc : Addr} {lot : List Tx} {c : List Nat} {σ : L2.St} {H : Hp} (hL : LotAt pl lot H) (hc : H pc = some (.lst (numV c))) (hix : Ixs lot c) (hcl : c.length ≤ 1000) (hi : σ[i]? = some (some (.ref pl))) (hj : σ[j]? = some (some (.ref pc))) (hw : ∀ x, wipe ((wipe σ [l]).set l (some x)) [l] = wipe σ [l]) (hil : ∀ x, ((wipe σ [l]).set l (some x))[i]? = some (some (.ref pl))) (hll : ∀ x, ((wipe σ [l]).set l (some x))[l]? = some (some x)) :
    Ev (tBM K "str" (rJoinT K) (tC (T [])) (tCons (tLc (iList K (tVar j)) (gName l) tYes (tOp (L2.rIxT K) (tVar i) (tVar l)) [l]) tNil)) σ H (T (put lot c)) := by
  refine ev_bmTL ev_c (xs := (c.map fun i => lot.getD i []).map T) ?_ fun p H1 hp e1 => rm_join (.inl (sq_of hp)) ?_
  · rw [List.map_map]
    refine el_lcM (j := l) (vs := [l]) (f := fun (n : Nat) => V.int (n : Int)) (g := fun i => T (lot.getD i [])) c (src_listM (ev_var hj) (sq_of hc)) (by omega) hw fun t H2 e2 ht => ?_
    have htl := hix t ht
    exact ev_op (ev_var (hil _)) (ev_var (hll _)) (rv_ixT (st_of (e2 _ _ hL.1)) (atI_nat (by rw [List.getElem?_map, List.getD_eq_getElem?_getD, List.getElem?_eq_getElem htl]; rfl)))
  · have := put_bound hL.2 c
    unfold put at this
    rw [List.length_flatten] at this
    omega
def sp_together (CE : Addr) : Sp := fun vs H Q E => ∃ (pl pc : Addr) (lot : List Tx) (c : List Nat), vs = [.ref pl, .ref pc] ∧ LotAt pl lot H ∧ H pc = some (.lst (numV c)) ∧ Ixs lot c ∧ c.length ≤ 400 ∧ ((put lot c).length ≤ 400 → RetV (T (put lot c)) H Q) ∧ (400 < (put lot c).length → ∀ H', Ex H H' → E (.ref CE) none H')
theorem ok_put_together {f CE : Addr} {fd : FuncData} (F : Fun K "put_together" "put_together" st_put_together f fd) (M : Md K mg) (C_need_lot : Cal P w K mg base "need_lot" st_need_lot 4 ["lot"] sp_need_lot) (C_need_indexes : Cal P w K mg base "need_indexes" st_need_indexes 4 ["lot", "indexes"] sp_need_indexes) (S_need_few_signs : CalS P w K mg base "need_few_signs" st_need_few_signs 1 ["text"] (sp_need_few CE)) : FnOk P w K mg base (L2.CX P w) 5 f fd ["lot", "indexes"] (sp_together CE) := by
  have nd := sc_put_together.nd
  refine F.okX sc_put_together (fun vs H Q E h => ?_) (fun cdv A outer s H vs Q E hr h => ?_)
  · obtain ⟨_, _, _, _, rfl, _⟩ := h
    rfl
  · obtain ⟨pl, pc, lot, c, rfl, hL, hc, hix, hcl, k1, k2⟩ := h
    refine ⟨_, (pss_cons (ps_expr (pe_cl C_need_lot hr (pa_cons (pv 0) pa_nil)))
  (pss_cons (ps_expr (pe_cl C_need_indexes hr (pa_cons (pv 0) (pa_cons (pv 1) pa_nil))))
  (pss_one (ps_ret (pe_clS S_need_few_signs hr (takes_of rfl rfl rfl rfl) (pa_cons (kbm K (pe_bm PySem.F.plainAttrs_str PySem.F.slot_str_join PySem.F.type_str_join (kmt K (r := rJoinT) mt_joinT) (pe_sT []) (pa_cons (pe_lc (own := [("index", 2)]) rfl nd (kil K (pi_list (pv 1))) (blkOk_by (N := N_put_together) (sc := defScope st_put_together) (by decide +kernel)) (fun _ _ _ _ _ => (pg_name (i := 2) nd rfl (Or.inl rfl))) (fun _ _ _ _ _ => pts_nil) (fun _ _ _ _ _ => (pe_ix (kix K (r := L2.rIxT) ix_tup) (pv 0) (pv 2) (fun _ _ => rfl)))) pa_nil))) pa_nil)))))), ?_⟩
    refine q_drop (ev_call (ea_cons (ev_var rfl) ea_nil) fun H1 e1 Q q E => ⟨pl, lot, rfl, hL.ex e1, q⟩) fun H1 e1 => ?_
    refine q_drop (ev_call (ea_cons (ev_var rfl) (ea_cons (ev_var rfl) ea_nil)) fun H2 e2 Q q E => ⟨pl, pc, lot, c, rfl, hL.ex (e1.trans e2), (e1.trans e2) _ _ hc, hix, hcl, q⟩) fun H2 e2 => ?_
    have e12 := e1.trans e2
    refine (ev_put (i := 0) (j := 1) (l := 2) (hL.ex e12) (e12 _ _ hc) hix (by omega) rfl rfl (fun _ => rfl) (fun _ => rfl) (fun _ => rfl) : Ev (tBM K "str" (rJoinT K) (tC (T [])) (tCons (tLc (iList K (tVar 1)) (gName 2) tYes (tOp (L2.rIxT K) (tVar 0) (tVar 2)) [2]) tNil)) (start N_put_together [.ref pl, .ref pc]) H2 (T (put lot c))) H2 (Ex.refl _) _ fun H3 e3 => ?_
    have := put_bound hL.2 c
    exact ⟨put lot c, rfl, by omega, fun z => RetV.mono (k1 z) (e12.trans e3), fun z H' e' => k2 z H' ((e12.trans e3).trans e')⟩
end
end K03
set_option Elab.async false
set_option linter.all false
set_option maxRecDepth 100000
set_option maxHeartbeats 2000000
namespace K03
open PySem PySem.Spec PyProof.Rows L2 Evl Wc Wt Wg
section
variable {P : Program} {w : World} {K : PySem.W.Frag} {mg : Str → Option Value} {base : Heap}
theorem made {C pl : Addr} {lot : List Tx} {text : Tx} {H : Hp} {Q : VK} (hL : LotAt pl lot H) (h1 : text.length ≤ 400) (h2 : ∀ c ∈ text, abcd c) (k : ∀ x fs H2, Ex H H2 → WaysB C x lot text fs H2 → Q (.ref x) H2) :
    ∀ x dx, H x = none → H dx = none → dx ≠ x → sp_Ways C (.ref x :: ([.ref pl, T text] ++ [])) (upd (upd H dx (.own x)) x (.ins C dx [])) (fun v H2 => v = .non ∧ Q (.ref x) H2) E0 := fun x dx hx hdx hne => by
  have e1 : Ex H (upd (upd H dx (.own x)) x (.ins C dx [])) := fun b o hb => by
    rw [upd_ne (ne_of_none hb hx), upd_ne (ne_of_none hb hdx)]
    exact hb
  exact ⟨x, dx, pl, lot, text, rfl, upd_same, hL.ex e1, h1, h2, fun fs H2 W kp => ⟨rfl, k x fs H2 (fun b o hb => kp b o (e1 _ _ hb) (ne_of_none hb hx)) W⟩⟩
theorem wp_ways {C pl : Addr} {lot : List Tx} {text : Tx} {H : Hp} {Q : VK} {σ : L2.St} {ta : TA} (ha : EvA ta σ H [.ref pl, T text]) (hL : LotAt pl lot H) (h1 : text.length ≤ 400) (h2 : ∀ c ∈ text, abcd c) (k : ∀ x fs H2, Ex H H2 → WaysB C x lot text fs H2 → Q (.ref x) H2) : tMake C (sp_Ways C) [] E0 ta σ H Q :=
  ha H (Ex.refl _) _ fun H1 e1 => made (hL.ex e1) h1 h2 fun x fs H2 e2 W => k x fs H2 (e1.trans e2) W
theorem q_ways {C pl : Addr} {lot : List Tx} {text : Tx} {H : Hp} {σ : L2.St} {ta : TA} {i : Nat} {D : Ends} {tz : TS} (ha : EvA ta σ H [.ref pl, T text]) (hL : LotAt pl lot H) (h1 : text.length ≤ 400) (h2 : ∀ c ∈ text, abcd c) (k : ∀ x fs H2, Ex H H2 → WaysB C x lot text fs H2 → tz D (σ.set i (some (.ref x))) H2) : tSeq (tAsg (tMake C (sp_Ways C) [] E0 ta) (gName i)) tz D σ H := wp_ways (C := C) (Q := fun v H2 => tz D (σ.set i (some v)) H2) ha hL h1 h2 k
theorem s_waysF {C pl : Addr} {lot : List Tx} {text : Tx} {H : Hp} {σ : L2.St} {ta : TA} {g : Str} {r : R2} {te : TE} {D : Ends} (ha : EvA ta σ H [.ref pl, T text]) (hL : LotAt pl lot H) (h1 : text.length ≤ 400) (h2 : ∀ c ∈ text, abcd c) (k : ∀ x fs H2, Ex H H2 → WaysB C x lot text fs H2 → tRet (tOp r (tFld K (fun _ H' Q' => Q' (.ref x) H') g) te) D σ H2) : tRet (tOp r (tFld K (tMake C (sp_Ways C) [] E0 ta) g) te) D σ H := wp_ways (C := C) (Q := fun v H2 => tRet (tOp r (tFld K (fun _ H' Q' => Q' v H') g) te) D σ H2) ha hL h1 h2 k
/-- ways.behind[0] -/
theorem ev_all {C x : Addr} {lot : List Tx} {text : Tx} {fs : List (Str × V)} {i : Nat} {σ : L2.St} {H : Hp} (Wk : WC K C) (W : WaysB C x lot text fs H) (h0 : σ[i]? = some (some (.ref x))) : Ev (tOp (L2.rIxL K) (tFld K (tVar i) "behind") (tC (.int 0))) σ H (.int ((cutsAt lot text 0).length : Int)) := by
  obtain ⟨⟨⟨dx, hx⟩, _⟩, pb, f3, hb⟩ := W
  exact ev_op (ev_fld (ev_var h0) hx Wk.cl Wk.n_behind f3) ev_c (rv_ixL (sq_of hb) (atI_nat (j := 0) (beh_at (Nat.zero_le _))))
/-- ways.cut(..) -/
theorem el_cut {C x : Addr} {lot : List Tx} {text : Tx} {fs : List (Str × V)} {i k : Nat} {c : List Nat} {σ : L2.St} {H : Hp} {te : TE} (W : WaysB C x lot text fs H) (h0 : σ[i]? = some (some (.ref x))) (hk : Ev te σ H (.int (k : Int))) (hc : (cutsAt lot text 0)[k]? = some c) : EvL (tMeth C "cut" (sp_cut C) [] E0 (tVar i) (tCons te tNil)) σ H (numV c) := fun H1 e1 Q q => by
  have W1 := W.ex e1
  obtain ⟨dx, hx⟩ := W1.w.ob
  refine ⟨.ref x, h0, x, dx, fs, rfl, hx, W1.w.no2.1, hk H1 e1 _ fun H2 e2 => ⟨x, lot, text, fs, k, c, rfl, W1.ex e2, hc, fun p H3 hp e3 h3 => q p H3 (fresh_back e2 hp) (e2.trans e3) h3⟩⟩
def sp_count : Sp := fun vs H Q _ => ∃ (pl : Addr) (lot : List Tx) (text : Tx), vs = [.ref pl, T text] ∧ LotAt pl lot H ∧ text.length ≤ 400 ∧ (∀ c ∈ text, abcd c) ∧ RetV (.int ((cutsAt lot text 0).length : Int)) H Q
theorem ok_count_cuts {f C : Addr} {fd : FuncData} (F : Fun K "count_cuts" "count_cuts" st_count_cuts f fd) (M : Md K mg) (W : WC K C) (C_need_both : Cal P w K mg base "need_both" st_need_both 5 ["lot", "text"] sp_need_both) (MK_Ways : Mak P w K mg base 2 C "Ways" (sp_Ways C)) : FnOk P w K mg base CX0 6 f fd ["lot", "text"] sp_count := by
  have nd := sc_count_cuts.nd
  refine F.ok sc_count_cuts (fun vs H Q E h => ?_) (fun cdv A outer s H vs Q E hr h => ?_)
  · obtain ⟨_, _, _, rfl, _⟩ := h
    rfl
  · obtain ⟨pl, lot, text, rfl, hL, h1, h2, k⟩ := h
    refine ⟨_, (pss_cons (ps_expr (pe_cl C_need_both hr (pa_cons (pv 0) (pa_cons (pv 1) pa_nil))))
  (pss_one (ps_ret (pe_ix (kix K (r := L2.rIxL) ix_list) (kfl K (pe_fld (pe_mkM MK_Ways hr (pa_cons (pv 0) (pa_cons (pv 1) pa_nil))) rfl)) pe_int (fun _ _ => rfl))))), ?_⟩
    refine q_drop (ev_call (ea_cons (ev_var rfl) (ea_cons (ev_var rfl) ea_nil)) fun H1 e1 Q q E => ⟨pl, lot, text, rfl, hL.ex e1, h1, h2, q⟩) fun H1 e1 => ?_
    refine s_waysF (ea_cons (ev_var rfl) (ea_cons (ev_var rfl) ea_nil)) (hL.ex e1) h1 h2 fun x fs H2 e2 W2 => ?_
    obtain ⟨⟨⟨dx, hx⟩, _⟩, pb, f3, hb⟩ := W2
    refine ⟨x, C, dx, fs, .ref pb, rfl, hx, W.cl, W.n_behind, f3, ?_⟩
    exact rv_ixL (K := K) (sq_of hb) (atI_nat (j := 0) (beh_at (Nat.zero_le _))) H2 (Ex.refl _) _ fun H3 e3 => k H3 ((e1.trans e2).trans e3)
def sp_cut_of : Sp := fun vs H Q _ => ∃ (pl : Addr) (lot : List Tx) (text : Tx), vs = [.ref pl, T text] ∧ LotAt pl lot H ∧ text.length ≤ 400 ∧ (∀ c ∈ text, abcd c) ∧ (cutsAt lot text 0 = [] → RetV .non H Q) ∧ (∀ c, (cutsAt lot text 0)[0]? = some c → RetL (numV c) H Q)
theorem ok_cut_of {f C : Addr} {fd : FuncData} (F : Fun K "cut_of" "cut_of" st_cut_of f fd) (M : Md K mg) (W : WC K C) (C_need_both : Cal P w K mg base "need_both" st_need_both 5 ["lot", "text"] sp_need_both) (MK_Ways : Mak P w K mg base 2 C "Ways" (sp_Ways C)) (MT_Ways_cut : C8.Met P w K mg base 2 C "cut" (sp_cut C) []) : FnOk P w K mg base CX0 6 f fd ["lot", "text"] sp_cut_of := by
  have nd := sc_cut_of.nd
  refine F.ok sc_cut_of (fun vs H Q E h => ?_) (fun cdv A outer s H vs Q E hr h => ?_)
  · obtain ⟨_, _, _, rfl, _⟩ := h
    rfl
  · obtain ⟨pl, lot, text, rfl, hL, h1, h2, k1, k2⟩ := h
    refine ⟨_, (pss_cons (ps_expr (pe_cl C_need_both hr (pa_cons (pv 0) (pa_cons (pv 1) pa_nil))))
  (pss_cons (ps_set (i := 2) nd rfl (Or.inl rfl) (pe_mkM MK_Ways hr (pa_cons (pv 0) (pa_cons (pv 1) pa_nil))))
  (pss_one (ps_ret (pe_ifExp (pt_cmpR op_gt (pe_ix (kix K (r := L2.rIxL) ix_list) (kfl K (pe_fld (pv 2) rfl)) pe_int (fun _ _ => rfl)) pe_int (nomark _)) (C8.pe_mt MT_Ways_cut hr (by decide) (pv 2) (pa_cons pe_int pa_nil)) pe_non))))), ?_⟩
    refine q_drop (ev_call (ea_cons (ev_var rfl) (ea_cons (ev_var rfl) ea_nil)) fun H1 e1 Q q E => ⟨pl, lot, text, rfl, hL.ex e1, h1, h2, q⟩) fun H1 e1 => ?_
    refine q_ways (ea_cons (ev_var rfl) (ea_cons (ev_var rfl) ea_nil)) (hL.ex e1) h1 h2 fun x fs H2 e2 W2 => ?_
    have e12 := e1.trans e2
    show tRet _ _ [some (.ref pl), some (T text), some (.ref x)] H2
    cases hc : cutsAt lot text 0 with
    | nil =>
      refine s_retIf (b := false) (et_is (et_test (ev_op (ev_all W W2 rfl) ev_c rv_I0)) (by rw [hc]; rfl)) (fun z => by cases z) (fun _ H3 e3 => ?_)
      exact s_ret ev_c (RetV.mono (k1 hc) (e12.trans e3))
    | cons c cs =>
      refine s_retIf (b := true) (et_is (et_test (ev_op (ev_all W W2 rfl) ev_c rv_I0)) (by rw [hc, List.length_cons]; exact decide_eq_true (by omega))) (fun _ H3 e3 => ?_) (fun z => by cases z)
      have h0 : (cutsAt lot text 0)[0]? = some c := by rw [hc]; rfl
      exact s_retL (el_cut (k := 0) (W2.ex e3) rfl ev_c h0) (RetL.mono (k2 c h0) (e12.trans e3))
/-- new lists of all cuts -/
def RetCuts (lot : List Tx) (text : Tx) (H : Hp) (Q : VK) : Prop := ∀ q H' ps, H q = none → Ex H H' → H' q = some (.lst (ps.map V.ref)) → ps.length = (cutsAt lot text 0).length → News H H' (fun i => .lst (numV ((cutsAt lot text 0).getD i []))) ps → q ∉ ps → Q (.ref q) H'
theorem news_back {H H1 H2 : Hp} {o : Nat → HO} {ps : List Addr} (n : News H1 H2 o ps) (e : Ex H H1) : News H H2 o ps := ⟨fun p hp => fresh_back e (n.new p hp), n.at_, n.nd⟩
def sp_cuts_of (CE : Addr) : Sp := fun vs H Q E => ∃ (pl : Addr) (lot : List Tx) (text : Tx), vs = [.ref pl, T text] ∧ LotAt pl lot H ∧ text.length ≤ 400 ∧ (∀ c ∈ text, abcd c) ∧ ((cutsAt lot text 0).length ≤ 300 → RetCuts lot text H Q) ∧ (300 < (cutsAt lot text 0).length → ∀ H', Ex H H' → E (.ref CE) none H')
theorem ok_cuts_of {f C CE : Addr} {fd : FuncData} (F : Fun K "cuts_of" "cuts_of" st_cuts_of f fd) (M : Md K mg) (W : WC K C) (E_TooMany : Err K mg "TooMany" CE) (C_need_both : Cal P w K mg base "need_both" st_need_both 5 ["lot", "text"] sp_need_both) (MK_Ways : Mak P w K mg base 2 C "Ways" (sp_Ways C)) (MT_Ways_cuts : C8.Met P w K mg base 3 C "cuts" (sp_cuts C) []) : FnOk P w K mg base (L2.CX P w) 6 f fd ["lot", "text"] (sp_cuts_of CE) := by
  have nd := sc_cuts_of.nd
  refine F.okX sc_cuts_of (fun vs H Q E h => ?_) (fun cdv A outer s H vs Q E hr h => ?_)
  · obtain ⟨_, _, _, rfl, _⟩ := h
    rfl
  · obtain ⟨pl, lot, text, rfl, hL, h1, h2, k1, k2⟩ := h
    refine ⟨_, (pss_cons (ps_expr (pe_cl C_need_both hr (pa_cons (pv 0) (pa_cons (pv 1) pa_nil))))
  (pss_cons (ps_set (i := 2) nd rfl (Or.inl rfl) (pe_mkM MK_Ways hr (pa_cons (pv 0) (pa_cons (pv 1) pa_nil))))
  (pss_cons (ps_if (pt_cmpR op_gt (pe_ix (kix K (r := L2.rIxL) ix_list) (kfl K (pe_fld (pv 2) rfl)) pe_int (fun _ _ => rfl)) (pe_gI M.c_MOST_TOLD) (nomark _))
  (pss_one (ps_raiseE rfl (takes_of rfl rfl rfl rfl) E_TooMany))
  pss_nil)
  (pss_one (ps_ret (C8.pe_mt0 MT_Ways_cuts hr (by decide) (pv 2))))))), ?_⟩
    refine q_drop (ev_call (ea_cons (ev_var rfl) (ea_cons (ev_var rfl) ea_nil)) fun H1 e1 Q q E => ⟨pl, lot, text, rfl, hL.ex e1, h1, h2, q⟩) fun H1 e1 => ?_
    refine q_ways (ea_cons (ev_var rfl) (ea_cons (ev_var rfl) ea_nil)) (hL.ex e1) h1 h2 fun x fs H2 e2 W2 => ?_
    have e12 := e1.trans e2
    show tSeq _ _ _ [some (.ref pl), some (T text), some (.ref x)] H2
    refine q_when (b := decide (300 < (cutsAt lot text 0).length)) (et_is (et_test (ev_op (ev_all W W2 rfl) ev_c rv_I0)) (decide_eq_decide.mpr (by omega))) (fun hb H3 e3 => k2 (of_decide_eq_true hb) H3 (e12.trans e3)) (fun hb H3 e3 => ?_)
    have hle := of_decide_eq_false hb
    have W3 := W2.ex e3
    obtain ⟨dx, hx⟩ := W3.w.ob
    exact ⟨.ref x, rfl, x, dx, fs, rfl, hx, W3.w.no2.2.2, x, lot, text, fs, rfl, W3, by omega, fun q H' ps hq e4 h4 hl hn hnq => k1 (by omega) q H' ps (fresh_back (e12.trans e3) hq) ((e12.trans e3).trans e4) h4 hl (news_back hn (e12.trans e3)) hnq⟩
def sp_cut_at (CN : Addr) : Sp := fun vs H Q E => ∃ (pl : Addr) (lot : List Tx) (text : Tx) (k : Int), vs = [.ref pl, T text, .int k] ∧ LotAt pl lot H ∧ text.length ≤ 400 ∧ (∀ c ∈ text, abcd c) ∧ (∀ (n : Nat) (c : List Nat), k = (n : Int) → (cutsAt lot text 0)[n]? = some c → RetL (numV c) H Q) ∧ (¬ (0 ≤ k ∧ k ≤ ((cutsAt lot text 0).length : Int) - 1) → ∀ H', Ex H H' → E (.ref CN) none H')
theorem ok_cut_at {f C CN : Addr} {fd : FuncData} (F : Fun K "cut_at" "cut_at" st_cut_at f fd) (M : Md K mg) (W : WC K C) (C_need_both : Cal P w K mg base "need_both" st_need_both 5 ["lot", "text"] sp_need_both) (MK_Ways : Mak P w K mg base 2 C "Ways" (sp_Ways C)) (S_need_number : CalS P w K mg base "need_number" st_need_number 3 ["thing", "least", "most"] (sp_need_number CN)) (MT_Ways_cut : C8.Met P w K mg base 2 C "cut" (sp_cut C) []) : FnOk P w K mg base (L2.CX P w) 6 f fd ["lot", "text", "number"] (sp_cut_at CN) := by
  have nd := sc_cut_at.nd
  refine F.okX sc_cut_at (fun vs H Q E h => ?_) (fun cdv A outer s H vs Q E hr h => ?_)
  · obtain ⟨_, _, _, _, rfl, _⟩ := h
    rfl
  · obtain ⟨pl, lot, text, k, rfl, hL, h1, h2, k1, k2⟩ := h
    refine ⟨_, (pss_cons (ps_expr (pe_cl C_need_both hr (pa_cons (pv 0) (pa_cons (pv 1) pa_nil))))
  (pss_cons (ps_set (i := 3) nd rfl (Or.inl rfl) (pe_mkM MK_Ways hr (pa_cons (pv 0) (pa_cons (pv 1) pa_nil))))
  (pss_cons (ps_expr (pe_clS S_need_number hr (takes_of rfl rfl rfl rfl) (pa_cons (pv 2) (pa_cons pe_int (pa_cons (pe_op op_sub (pe_ix (kix K (r := L2.rIxL) ix_list) (kfl K (pe_fld (pv 3) rfl)) pe_int (fun _ _ => rfl)) pe_int) pa_nil)))))
  (pss_one (ps_ret (C8.pe_mt MT_Ways_cut hr (by decide) (pv 3) (pa_cons (pv 2) pa_nil))))))), ?_⟩
    refine q_drop (ev_call (ea_cons (ev_var rfl) (ea_cons (ev_var rfl) ea_nil)) fun H1 e1 Q q E => ⟨pl, lot, text, rfl, hL.ex e1, h1, h2, q⟩) fun H1 e1 => ?_
    refine q_ways (ea_cons (ev_var rfl) (ea_cons (ev_var rfl) ea_nil)) (hL.ex e1) h1 h2 fun x fs H2 e2 W2 => ?_
    have e12 := e1.trans e2
    show tSeq _ _ _ [some (.ref pl), some (T text), some (.int k), some (.ref x)] H2
    refine ⟨.int k, rfl, ?_⟩
    refine (ev_op (ev_all W W2 rfl) ev_c rv_I0 : Ev (tOp (rI0 fun i j => .int (i - j)) (tOp (L2.rIxL K) (tFld K (tVar 3) "behind") (tC (.int 0))) (tC (.int 1))) [some (.ref pl), some (T text), some (.int k), some (.ref x)] H2 (.int (((cutsAt lot text 0).length : Int) - 1))) H2 (Ex.refl _) _ fun H3 e3 => ?_
    refine ⟨k, 0, ((cutsAt lot text 0).length : Int) - 1, rfl, fun hin H4 e4 => ?_, fun hout H' e' => k2 hout H' ((e12.trans e3).trans e')⟩
    obtain ⟨n, rfl⟩ := Int.eq_ofNat_of_zero_le hin.1
    have hn : n < (cutsAt lot text 0).length := by omega
    exact s_retL (el_cut (W2.ex (e3.trans e4)) rfl (ev_var rfl) (List.getElem?_eq_getElem hn)) (RetL.mono (k1 n _ rfl (List.getElem?_eq_getElem hn)) (e12.trans (e3.trans e4)))
def sp_cut_number (CE : Addr) : Sp := fun vs H Q E => ∃ (pl pc : Addr) (lot : List Tx) (c : List Nat), vs = [.ref pl, .ref pc] ∧ LotAt pl lot H ∧ H pc = some (.lst (numV c)) ∧ Ixs lot c ∧ c.length ≤ 400 ∧ ((put lot c).length ≤ 400 → RetV (.int (rankF lot (put lot c) 0 c : Int)) H Q) ∧ (400 < (put lot c).length → ∀ H', Ex H H' → E (.ref CE) none H')
theorem ok_cut_number {f C CE : Addr} {fd : FuncData} (F : Fun K "cut_number" "cut_number" st_cut_number f fd) (M : Md K mg) (W : WC K C) (S_put_together : CalS P w K mg base "put_together" st_put_together 5 ["lot", "indexes"] (sp_together CE)) (MK_Ways : Mak P w K mg base 2 C "Ways" (sp_Ways C)) (MT_Ways_number : C8.Met P w K mg base 2 C "number" (sp_number C) []) : FnOk P w K mg base (L2.CX P w) 6 f fd ["lot", "indexes"] (sp_cut_number CE) := by
  have nd := sc_cut_number.nd
  refine F.okX sc_cut_number (fun vs H Q E h => ?_) (fun cdv A outer s H vs Q E hr h => ?_)
  · obtain ⟨_, _, _, _, rfl, _⟩ := h
    rfl
  · obtain ⟨pl, pc, lot, c, rfl, hL, hc, hix, hcl, k1, k2⟩ := h
    refine ⟨_, (pss_one (ps_ret (C8.pe_mt MT_Ways_number hr (by decide) (pe_mkM MK_Ways hr (pa_cons (pv 0) (pa_cons (pe_clS S_put_together hr (takes_of rfl rfl rfl rfl) (pa_cons (pv 0) (pa_cons (pv 1) pa_nil))) pa_nil))) (pa_cons (pv 1) pa_nil)))), ?_⟩
    refine ⟨.ref pl, rfl, .ref pl, rfl, .ref pc, rfl, pl, pc, lot, c, rfl, hL, hc, hix, hcl, fun hle H1 e1 x dx hx hdx hne => made (Q := fun v H2 => ∃ a dx fs', v = .ref a ∧ H2 a = some (.ins C dx fs') ∧ fs'.lookup ("number" : Str) = none ∧ tCons (tVar 1) tNil (L2.start N_cut_number [.ref pl, .ref pc]) H2 fun vs H3 => sp_number C (v :: (vs ++ [])) H3 Q C8.E0) (hL.ex e1) hle (put_abcd hL.2 c) (fun x fs H2 e2 W2 => ?_) x dx hx hdx hne, fun hgt H' e' => k2 hgt H' e'⟩
    obtain ⟨dx, hx⟩ := W2.w.ob
    exact ⟨x, dx, fs, rfl, hx, W2.w.no2.2.1, .ref pc, rfl, x, pc, lot, put lot c, fs, c, rfl, W2, (e1.trans e2) _ _ hc, hix, rfl, RetV.mono (k1 hle) (e1.trans e2)⟩
end
end K03
set_option Elab.async false
set_option linter.all false
set_option maxRecDepth 100000
set_option maxHeartbeats 2000000
namespace K03
open PySem PySem.Spec PyProof.Rows L2 Evl Wc Wt Wg
def endc (lot : List Tx) (text : Tx) (e i : Nat) : Bool := decide (wl lot i ≤ e) && stands lot text (e - wl lot i) i
/-- as many as the first j words give -/
def preJ (lot : List Tx) (text : Tx) (e j : Nat) : Nat := sumL (fun i => preAt lot text (e - wl lot i)) ((List.range j).filter (endc lot text e))
theorem preJ_zero (lot : List Tx) (text : Tx) (e : Nat) : preJ lot text e 0 = 0 := rfl
theorem preJ_succ (lot : List Tx) (text : Tx) (e j : Nat) : preJ lot text e (j + 1) = preJ lot text e j + if endc lot text e j = true then (preAt lot text (e - wl lot j)).length else 0 := by
  unfold preJ sumL
  rw [List.range_succ, List.filter_append, List.map_append, List.sum_append]
  congr 1
  cases h : endc lot text e j with
  | true => simp [h]
  | false => simp [h]
theorem preJ_all {lot : List Tx} (hL : Pos lot) {text : Tx} {e : Nat} (he : 0 < e) : preJ lot text e lot.length = (preAt lot text e).length := by
  rw [pre_step hL he, sumL_all]
  unfold preJ sumL endsAt endc
  simp
theorem endc_at {lot : List Tx} {text : Tx} {B j : Nat} {wd : Tx} (h : lot[j]? = some wd) (hn : B + wd.length ≤ text.length) : endc lot text (B + wd.length) j = decide (StAt text wd B) := by
  unfold endc stands
  rw [wl_of h, h, Nat.add_sub_cancel, decide_eq_true (by omega), Bool.true_and]
  exact decide_eq_decide.mpr ⟨fun z => z.2, fun z => ⟨hn, z⟩⟩
theorem endc_no {lot : List Tx} {text : Tx} {e j : Nat} {wd : Tx} (h : lot[j]? = some wd) (hn : ¬ wd.length ≤ e) : endc lot text e j = false := by
  unfold endc
  rw [wl_of h, decide_eq_false hn, Bool.false_and]
/-- texts at p, a tuple or a list of them -/
def SeqT (p : Addr) (ws : List Tx) (H : Hp) : Prop := H p = some (.tup (ws.map T)) ∨ H p = some (.lst (ws.map T))
structure Wds (ws : List Tx) : Prop where
  few : ws.length ≤ 12
  len : ∀ wd ∈ ws, wd.length ≤ 12
  pos : Pos ws
theorem IsLot.wds {lot : List Tx} (h : IsLot lot) : Wds lot := ⟨h.few, fun wd hw => (h.wd wd hw).1, h.pos⟩
theorem src_seq {K : PySem.W.Frag} {σ : L2.St} {H : Hp} {p : Addr} {ws : List Tx} {i : Nat} (h0 : σ[i]? = some (some (.ref p))) (hp : SeqT p ws H) : Src (iSeq K (tVar i)) σ H ws.length (fun b => b = p) (fun i v _ => (ws.map T)[i]? = some v) := by
  rcases hp with h | h
  · exact src_orR (src_tupM (ev_var h0) (st_of h))
  · exact src_orL (src_listM (ev_var h0) (sq_of h))
section
variable {P : Program} {w : World} {K : PySem.W.Frag} {mg : Str → Option Value} {base : Heap}
def aheadL (lot : List Tx) (text : Tx) : List V := (List.range (text.length + 1)).map fun e => V.int ((preAt lot text e).length : Int)
def sp_ahead : Sp := fun vs H Q _ => ∃ (pl : Addr) (lot : List Tx) (text : Tx), vs = [.ref pl, T text] ∧ SeqT pl lot H ∧ Wds lot ∧ text.length ≤ 400 ∧ RetL (aheadL lot text) H Q
theorem ok__law_ahead {f : Addr} {fd : FuncData} (F : Fun K "_law_ahead" "_law_ahead" st__law_ahead f fd) (M : Md K mg) : FnOk P w K mg base CX0 1 f fd ["lot", "text"] sp_ahead := by
  have nd := sc__law_ahead.nd
  refine F.ok sc__law_ahead (fun vs H Q E h => ?_) (fun cdv A outer s H vs Q E hr h => ?_)
  · obtain ⟨_, _, _, rfl, _⟩ := h
    rfl
  · obtain ⟨pl, lot, text, rfl, hp, hL, hlen, k⟩ := h
    refine ⟨_, (pss_cons (ps_set (i := 2) nd rfl (Or.inl rfl) (pe_op op_cat (pe_lst (pa_cons pe_int pa_nil)) (pe_op op_rep (pe_lst (pa_cons pe_int pa_nil)) (pe_callB cr_lenT (by rfl) M.n_len boot_len (pa_cons (pv 1) pa_nil)))))
  (pss_cons (ps_for PassesOwn.never rfl (pi_range2 (by rfl) M.n_range (pa_cons pe_int (pa_cons (pe_op op_add (pe_callB cr_lenT (by rfl) M.n_len boot_len (pa_cons (pv 1) pa_nil)) pe_int) pa_nil))) (pg_name (i := 3) nd rfl (Or.inl rfl))
  (pss_one (ps_for PassesOwn.never rfl (pi_seq (K := K) (pv 0)) (pg_name (i := 4) nd rfl (Or.inl rfl))
  (pss_cons (ps_set (i := 5) nd rfl (Or.inl rfl) (pe_op op_sub (pv 3) (pe_callB cr_lenT (by rfl) M.n_len boot_len (pa_cons (pv 4) pa_nil))))
  (pss_one (ps_if (PW.pt (pw_and (pt_cmpR op_ge (pv 5) pe_int (nomark _)) (pw_and (pt_cmpR op_gt (pe_ix (kix K (r := L2.rIxL) ix_list) (pv 2) (pv 5) (fun _ _ => rfl)) pe_int (nomark _)) (pw_and1 (pt_cmpR op_eqT (pe_slice sl_T (pv 1) (po_some (pv 5)) (po_some (pv 3))) (pv 4) (nomark _))))))
  (pss_one (ps_asg (pe_op op_add (pe_ix (kix K (r := L2.rIxL) ix_list) (pv 2) (pv 3) (fun _ _ => rfl)) (pe_ix (kix K (r := L2.rIxL) ix_list) (pv 2) (pv 5) (fun _ _ => rfl))) (pg_sub (pv 2) (pv 3) set_list)))
  pss_nil))))))
  (pss_one (ps_ret (pv 2))))), ?_⟩
    have hfew := hL.few
    have hpn : H pl ≠ none := by rcases hp with z | z <;> rw [z] <;> exact fun q => nomatch q
    have seqx : ∀ {H1 : Hp}, (∀ o, H pl = some o → H1 pl = some o) → SeqT pl lot H1 := fun h => hp.imp (h _) (h _)
    have lenT : ∀ {σ : L2.St} {H' : Hp}, σ[1]? = some (some (T text)) → Ev (tCB rLenT (tCons (tVar 1) tNil)) σ H' (.int (text.length : Int)) := fun h0 => ev_cb (ea_cons (ev_var h0) ea_nil) (rc_lenT (by omega))
    refine q_asgL (xs := [V.int 1] ++ List.replicate text.length (V.int 0)) ?_ fun pc H2 fpc eA hpc' => ?_
    · have := el_catNN (el_lst (ea_cons (ev_c (v := V.int 1)) ea_nil) (by show 1 ≤ 100000; decide) : EvL _ (start N__law_ahead [.ref pl, T text]) H [V.int 1]) (el_rep (el_lst (ea_cons (ev_c (v := V.int 0)) ea_nil) (by show 1 ≤ 100000; decide)) (lenT rfl) (by simp; omega) (by omega)) (by rw [rep_one]; simp; omega)
      rw [rep_one] at this
      exact this
    have npl : pl ≠ pc := fun z => hpn (z ▸ fpc)
    show tSeq _ _ _ [some (V.ref pl), some (T text), some (V.ref pc), none, none, none] H2
    refine q_forW (fun c => c = pc) (src_range2 (lo := 1) (hi := (text.length : Int) + 1) (n := text.length) (ea_cons ev_c (ea_cons (ev_op (lenT rfl) ev_c rv_I0) ea_nil)) (by omega) (by omega) (by omega) (by omega) (by omega)) ?_
      (fun Hs i σ' H' => ∃ (vs : List V) (v3 v4 v5 : Option V), σ' = [some (V.ref pl), some (T text), some (V.ref pc), v3, v4, v5] ∧ Exc (fun c => c = pc) Hs H' ∧ H' pc = some (.lst vs) ∧ vs.length = text.length + 1 ∧
        (∀ p, p ≤ i → vs[p]? = some (.int ((preAt lot text p).length : Int))) ∧ ∀ p, i < p → p ≤ text.length → vs[p]? = some (.int 0)) ?_ ?_ ?_ ?_ ?_
    · rintro c rfl
      exact ⟨by rw [hpc']; exact fun z => (nomatch z), fun z => z⟩
    · intro Hs e
      refine ⟨_, none, none, none, rfl, Exc.refl _, e _ _ hpc', by simp, fun p h1 => ?_, fun p h1 h2 => ?_⟩
      · have : p = 0 := by omega
        subst this
        rw [pre_first]
        rfl
      · rw [List.getElem?_append_right (by simp; omega), List.getElem?_replicate, if_pos (by simp; omega)]
    · rintro Hs i σ' H' ⟨_, _, _, _, _, h, _⟩
      exact h
    · rintro Hs i σ' Ha Hb ⟨vs, v3, v4, v5, h0, h1, h2, h3⟩ e
      exact ⟨vs, v3, v4, v5, h0, h1.then e, e _ _ h2, h3⟩
    · rintro Hs i y σ' H' e hi ⟨vs, v3, v4, v5, rfl, h1, h2, h3, h6, h7⟩ rfl
      obtain ⟨place, hpl⟩ : ∃ place : Nat, (1 : Int) + (i : Int) = (place : Int) := ⟨i + 1, by omega⟩
      have hplt : place = i + 1 := by omega
      have hp6 : SeqT pl lot H' := seqx fun o ho => h1 _ _ npl (e _ _ (eA _ _ ho))
      show tFor _ _ _ _ [some (.ref pl), some (T text), some (.ref pc), some (.int (1 + (i : Int))), v4, v5] H'
      rw [hpl]
      refine s_forW (fun c => c = pc) (src_seq rfl hp6) ?_
        (fun Ht j σ' H9 => ∃ (us : List V) (v4 v5 : Option V), σ' = [some (V.ref pl), some (T text), some (V.ref pc), some (.int (place : Int)), v4, v5] ∧ Exc (fun c => c = pc) Ht H9 ∧ H9 pc = some (.lst us) ∧ us.length = text.length + 1 ∧ (∀ p, p ≠ place → us[p]? = vs[p]?) ∧ us[place]? = some (.int (preJ lot text place j : Int))) ?_ ?_ ?_ ?_ ?_
      · rintro c rfl
        exact ⟨by rw [h2]; exact fun z => (nomatch z), fun z => npl z.symm⟩
      · intro Ht e9
        exact ⟨vs, _, _, rfl, Exc.refl _, e9 _ _ h2, h3, fun _ _ => rfl, h7 place (by omega) (by omega)⟩
      · rintro Ht j σ' H9 ⟨_, _, _, _, h, _⟩
        exact h
      · rintro Ht j σ' Ha Hb ⟨us, v4, v5, h0, k1, k2, k3⟩ e
        exact ⟨us, v4, v5, h0, k1.then e, e _ _ k2, k3⟩
      · rintro Ht j y σ' H9 e9 hj ⟨us, v4, v5, rfl, k1, k2, k3, k4, k5⟩ hy
        obtain ⟨wd, hw1, rfl⟩ := at_map hy
        have hwm := List.mem_of_getElem? hw1
        have hlw : wd.length ≤ 12 := hL.len wd hwm
        have hlp : 0 < wd.length := List.length_pos_iff.mpr (hL.pos wd hwm)
        show tSeq _ _ _ [some (V.ref pl), some (T text), some (V.ref pc), some (.int (place : Int)), some (T wd), v5] H9
        refine q_asg (v := .int ((place : Int) - (wd.length : Int))) (ev_op (ev_var rfl) (ev_cb (ea_cons (ev_var rfl) ea_nil) (rc_lenT (by omega))) rv_I0) fun Ha ea => ?_
        show tIfS _ _ _ _ [some (V.ref pl), some (T text), some (V.ref pc), some (.int (place : Int)), some (T wd), some (.int ((place : Int) - (wd.length : Int)))] Ha
        have k2a := ea _ _ k2
        have stay : ∀ {v5 : Option V}, preJ lot text place (j + 1) = preJ lot text place j → ∀ Hb, Ex Ha Hb → ∃ (us : List V) (v4' v5' : Option V), [some (V.ref pl), some (T text), some (V.ref pc), some (.int (place : Int)), some (T wd), v5] = [some (V.ref pl), some (T text), some (V.ref pc), some (.int (place : Int)), v4', v5'] ∧ Exc (fun c => c = pc) Ht Hb ∧ Hb pc = some (.lst us) ∧ us.length = text.length + 1 ∧ (∀ p, p ≠ place → us[p]? = vs[p]?) ∧ us[place]? = some (.int (preJ lot text place (j + 1) : Int)) := fun hn Hb eb => ⟨us, _, _, rfl, k1.then (ea.trans eb), eb _ _ k2a, k3, k4, by rw [hn]; exact k5⟩
        by_cases hb : wd.length ≤ place
        · obtain ⟨B, hB⟩ : ∃ B : Nat, B + wd.length = place := ⟨place - wd.length, by omega⟩
          rw [show (place : Int) - (wd.length : Int) = (B : Int) by omega]
          have z1 := h6 B (by omega)
          rw [← k4 _ (by omega)] at z1
          have hsucc := preJ_succ lot text place j
          have hec : endc lot text place j = decide (StAt text wd B) := by rw [← hB]; exact endc_at hw1 (by omega)
          rw [hec, wl_of hw1, show place - wd.length = B by omega] at hsucc
          have ge0 : Ev (tOp (rI0 fun i j => .bl (decide (j ≤ i))) (tVar 5) (tC (.int 0))) [some (V.ref pl), some (T text), some (V.ref pc), some (.int (place : Int)), some (T wd), some (.int (B : Int))] Ha (.bl true) := ev_is (ev_op (ev_var rfl) ev_c rv_I0) (by show V.bl (decide ((0 : Int) ≤ (B : Int))) = _; rw [decide_eq_true (by omega)])
          have ixB : ∀ {Hb : Hp}, Ex Ha Hb → Ev (tOp (L2.rIxL K) (tVar 2) (tVar 5)) [some (V.ref pl), some (T text), some (V.ref pc), some (.int (place : Int)), some (T wd), some (.int (B : Int))] Hb (.int ((preAt lot text B).length : Int)) := fun eb => ev_op (ev_var rfl) (ev_var rfl) (rv_ixL (sq_of (eb _ _ k2a)) (atI_nat z1))
          have ixP : ∀ {Hb : Hp}, Ex Ha Hb → Ev (tOp (L2.rIxL K) (tVar 2) (tVar 3)) [some (V.ref pl), some (T text), some (V.ref pc), some (.int (place : Int)), some (T wd), some (.int (B : Int))] Hb (.int (preJ lot text place j : Int)) := fun eb => ev_op (ev_var rfl) (ev_var rfl) (rv_ixL (sq_of (eb _ _ k2a)) (atI_nat k5))
          have eqs : Ev (tOp rEqT (tSl Wc.rSlT (tVar 1) (tPart (tVar 5)) (tPart (tVar 3))) (tVar 4)) [some (V.ref pl), some (T text), some (V.ref pc), some (.int (place : Int)), some (T wd), some (.int (B : Int))] Ha (.bl (decide (StAt text wd B))) := ev_is (ev_op (ev_slT (ev_var rfl) (eo_some (ev_var rfl)) (eo_some (ev_var rfl)) (by omega)) (ev_var rfl) rv_eqT) (by rw [cutT_mid, show place - B = wd.length by omega])
          refine s_when (b := decide (0 < (preAt lot text B).length ∧ StAt text wd B)) (et_is (et_andI (b := decide (0 < (preAt lot text B).length ∧ StAt text wd B)) (et_test ge0) fun _ => et_is (et_andI (et_test (ev_op (ixB (Ex.refl _)) ev_c rv_I0)) fun _ => et_test eqs) (by rw [← Bool.decide_and]; exact decide_eq_decide.mpr (and_congr_left fun _ => by omega))) (by simp)) (fun hs Hb eb => ?_) (fun hs Hb eb => stay ?_ Hb eb)
          · obtain ⟨g1, g2⟩ := of_decide_eq_true hs
            rw [decide_eq_true g2, if_pos rfl] at hsucc
            refine (ev_op (ixP eb) (ixB eb) rv_I0 : Ev (tOp (rI0 fun i j => .int (i + j)) (tOp (L2.rIxL K) (tVar 2) (tVar 3)) (tOp (L2.rIxL K) (tVar 2) (tVar 5))) _ Hb (.int ((preJ lot text place j : Int) + ((preAt lot text B).length : Int)))) Hb (Ex.refl _) _ fun Hc ec => ?_
            refine ⟨.ref pc, rfl, .int (place : Int), rfl, pc, us, (place : Int), place, rfl, rfl, ec _ _ (eb _ _ k2a), ixN_nat (by omega), ?_⟩
            refine ⟨us.set place (.int ((preJ lot text place j : Int) + ((preAt lot text B).length : Int))), _, _, rfl, (k1.then ((ea.trans eb).trans ec)).upd (.inl rfl), upd_same, by rw [List.length_set]; exact k3, fun p hp' => by rw [List.getElem?_set_ne (Ne.symm hp')]; exact k4 p hp', ?_⟩
            rw [List.getElem?_set_self (by omega), hsucc]
            congr 2
          · have hn := of_decide_eq_false hs
            by_cases g2 : StAt text wd B
            · have : (preAt lot text B).length = 0 := by
                by_cases z : 0 < (preAt lot text B).length
                · exact absurd ⟨z, g2⟩ hn
                · omega
              rw [decide_eq_true g2, if_pos rfl, this] at hsucc
              exact hsucc
            · rw [decide_eq_false g2, if_neg Bool.false_ne_true] at hsucc
              exact hsucc
        · exact s_when (b := false) (et_is (et_andI (b := false) (et_test (ev_is (ev_op (ev_var rfl) ev_c rv_I0) (by show V.bl (decide ((0 : Int) ≤ _)) = V.bl false; rw [decide_eq_false (by omega)]))) fun h => by cases h) (by simp)) (fun z => by cases z) (fun _ => stay (by rw [preJ_succ, endc_no hw1 hb]; rfl))
      · rintro Ht σ' H9 e9 ⟨us, v4, v5, rfl, k1, k2, k3, k4, k5⟩
        refine ⟨us, _, _, _, rfl, fun b o nb hb => k1 b o nb (e9 b o (h1 b o nb hb)), k2, k3, fun p y1 => ?_, fun p y1 y2 => ?_⟩
        · by_cases hp' : p = place
          · subst hp'
            rw [k5, preJ_all hL.pos (by omega)]
          · rw [k4 p hp']
            exact h6 p (by omega)
        · rw [k4 p (by omega)]
          exact h7 p (by omega) y2
    · rintro Hs σ' H' e ⟨vs, v3, v4, v5, rfl, h1, h2, h3, h6, h7⟩
      refine s_ret (ev_var rfl) fun H3 e3 => k pc H3 fpc ?_ ?_
      · exact fun b o hb => e3 _ _ (h1 _ _ (ne_of_none hb fpc) (e _ _ (eA _ _ hb)))
      · rw [e3 _ _ h2]
        congr 2
        unfold aheadL
        apply List.ext_getElem?
        intro p
        by_cases hp' : p < text.length + 1
        · rw [h6 p (by omega), List.getElem?_map, List.getElem?_range hp']
          rfl
        · rw [List.getElem?_eq_none (by omega), List.getElem?_eq_none (by rw [List.length_map, List.length_range]; omega)]
def sp_behind : Sp := fun vs H Q _ => ∃ (pl : Addr) (lot : List Tx) (text : Tx), vs = [.ref pl, T text] ∧ LotAt pl lot H ∧ text.length ≤ 400 ∧ RetL (behL lot text) H Q
theorem beh_rev {lot : List Tx} (hL : Pos lot) (text : Tx) : (aheadL (lot.map List.reverse) text.reverse).reverse = behL lot text := by
  unfold aheadL behL
  rw [List.length_reverse]
  apply List.ext_getElem?
  intro p
  by_cases hp : p < text.length + 1
  · rw [List.getElem?_reverse (by rw [List.length_map, List.length_range]; exact hp), List.length_map, List.length_range, List.getElem?_map, List.getElem?_map, List.getElem?_range hp, List.getElem?_range (by omega)]
    show some (V.int _) = some (V.int _)
    rw [show text.length + 1 - 1 - p = text.length - p by omega, count_rev hL (by omega)]
  · rw [List.getElem?_eq_none (by simp; omega), List.getElem?_eq_none (by simp; omega)]
theorem s_revC {K : PySem.W.Frag} {σ : L2.St} {H : Hp} {D : Ends} {sp : Sp} {E : XK} {tl tr : TE} (h : tl σ H fun v1 H1 => tr σ H1 fun v2 H2 => sp [v1, v2] H2 (fun v H3 => ∃ p xs, v = .ref p ∧ SqL K H3 p xs ∧ ∀ z, H3 z = none → D.rt (.ref z) (upd H3 z (.lst xs.reverse))) E) : tRet (tRevL K (tCall sp [] E (tCons tl (tCons tr tNil)))) D σ H := h
theorem ok__law_behind {f : Addr} {fd : FuncData} (F : Fun K "_law_behind" "_law_behind" st__law_behind f fd) (M : Md K mg) (C__law_ahead : Cal P w K mg base "_law_ahead" st__law_ahead 1 ["lot", "text"] sp_ahead) : FnOk P w K mg base CX0 2 f fd ["lot", "text"] sp_behind := by
  have nd := sc__law_behind.nd
  refine F.ok sc__law_behind (fun vs H Q E h => ?_) (fun cdv A outer s H vs Q E hr h => ?_)
  · obtain ⟨_, _, _, rfl, _⟩ := h
    rfl
  · obtain ⟨pl, lot, text, rfl, ⟨hp, hL⟩, hlen, k⟩ := h
    refine ⟨_, (pss_one (ps_ret (krev K (pe_revL (pe_cl C__law_ahead hr (pa_cons (pe_lc (own := [("word", 2)]) rfl nd (kit K (pi_tup (pv 0))) (blkOk_by (N := N__law_behind) (sc := defScope st__law_behind) (by decide +kernel)) (fun _ _ _ _ _ => (pg_name (i := 2) nd rfl (Or.inl rfl))) (fun _ _ _ _ _ => pts_nil) (fun _ _ _ _ _ => (pe_revT (pv 2)))) (pa_cons (pe_revT (pv 1)) pa_nil))))))), ?_⟩
    have hlc : EvL (tLc (iTup K (tVar 0)) (gName 2) tYes (tRevT (tVar 2)) [2]) (start N__law_behind [.ref pl, T text]) H ((lot.map List.reverse).map T) := by
      rw [List.map_map]
      exact el_lcM (j := 2) (vs := [2]) (f := T) (g := fun wd => T wd.reverse) lot (src_tupM (ev_var rfl) (st_of hp)) (by have := hL.few; omega) (fun _ => rfl) fun wd H1 e1 hw => ev_revT (ev_var rfl) (by have := (hL.wd wd hw).1; omega)
    refine s_revC (hlc H (Ex.refl _) _ fun q H1 hq e1 hq1 => ?_)
    refine (ev_revT (ev_var rfl) (by omega) : Ev (tRevT (tVar 1)) (start N__law_behind [.ref pl, T text]) H1 (T text.reverse)) H1 (Ex.refl _) _ fun H2 e2 => ?_
    refine ⟨q, lot.map List.reverse, text.reverse, rfl, .inr (e2 _ _ hq1), ⟨by rw [List.length_map]; exact hL.few, fun wd hw => ?_, pos_rev hL.pos⟩, by rw [List.length_reverse]; exact hlen, fun r H3 hr e3 hr3 => ?_⟩
    · obtain ⟨x, hx, rfl⟩ := List.mem_map.mp hw
      rw [List.length_reverse]
      exact (hL.wd x hx).1
    · refine ⟨r, _, rfl, sq_of hr3, fun z hz => k z _ ?_ ((e1.trans (e2.trans e3)).trans (Ex.new hz)) ?_⟩
      · exact fresh_back (e1.trans (e2.trans e3)) hz
      · rw [upd_same, beh_rev hL.pos]
end
end K03
set_option Elab.async false
set_option linter.all false
set_option maxRecDepth 100000
set_option maxHeartbeats 2000000
namespace K03
open PySem PySem.Spec PyProof.Rows L2 Evl Wc Wt Wg
section
variable {P : Program} {w : World} {K : PySem.W.Frag} {mg : Str → Option Value} {base : Heap}
def sp_law_is : Sp := fun vs H Q _ => ∃ (a b : Int), vs = [.int a, .int b] ∧ RetV (.bl (decide (a = b))) H Q
theorem ok__law_is {f : Addr} {fd : FuncData} (F : Fun K "_law_is" "_law_is" st__law_is f fd) (M : Md K mg) : FnOk P w K mg base CX0 1 f fd ["actual", "due"] sp_law_is := by
  have nd := sc__law_is.nd
  refine F.ok sc__law_is (fun vs H Q E h => ?_) (fun cdv A outer s H vs Q E hr h => ?_)
  · obtain ⟨_, _, rfl, _⟩ := h
    rfl
  · obtain ⟨a, b, rfl, k⟩ := h
    refine ⟨_, (pss_one (ps_ret (pe_and (pe_callB (kcr K (r := rIsiB) cr_isi) (by rfl) M.n_isinstance boot_isinstance (pa_cons (pv 0) (pa_cons (pe_bltn (v := .ty "int") rfl M.n_int boot_int rfl) pa_nil))) (pe_and (pe_not (pe_callB (kcr K (r := rIsiB) cr_isi) (by rfl) M.n_isinstance boot_isinstance (pa_cons (pv 0) (pa_cons (pe_bltn (v := .ty "bool") rfl M.n_bool boot_bool rfl) pa_nil)))) (pe_one (pe_cmpR op_eqI (pv 0) (pv 1) (nomark _))))))), ?_⟩
    exact s_ret (ev_andV (ev_cb (ea_cons (ev_var rfl) (ea_cons ev_c ea_nil)) (rc_isi (fun _ _ => .base (.int _)) k_int_int)) fun _ => ev_andV (ev_notV (ev_cb (ea_cons (ev_var rfl) (ea_cons ev_c ea_nil)) (rc_isi (fun _ _ => .base (.int _)) k_int_bool))) fun _ => ev_op (ev_var rfl) (ev_var rfl) rv_I0) k
theorem ok__law_list {f : Addr} {fd : FuncData} (F : Fun K "_law_list" "_law_list" st__law_list f fd) (M : Md K mg) : FnOk P w K mg base CX0 1 f fd ["actual", "due"] (sp_list_same K) := by
  have nd := sc__law_list.nd
  refine F.ok sc__law_list (fun vs H Q E h => ?_) (fun cdv A outer s H vs Q E hr h => ?_)
  · obtain ⟨_, _, _, rfl, _⟩ := h
    rfl
  · obtain ⟨p, q, xs, rfl, hp, hq, hx, hl, k⟩ := h
    refine ⟨_, (pss_cons (ps_if (PW.pt (pw_or (pt_not (pt_val (pe_callB (kcr K (r := rIsiB) cr_isi) (by rfl) M.n_isinstance boot_isinstance (pa_cons (pv 0) (pa_cons (pe_bltn (v := .ty "list") rfl M.n_list boot_list rfl) pa_nil))))) (pw_or1 (pt_cmpR (kop K (r := rNeD) (op_neD hr.units)) (pv 0) (pv 1) (nomark _)))))
  (pss_one (ps_ret pe_bl))
  pss_nil)
  (pss_one (ps_ret (pe_cmpR (kop K (r := rEqD) (op_eqD hr.units)) (pe_lc (own := [("part", 2)]) rfl nd (kil K (pi_list (pv 0))) (blkOk_by (N := N__law_list) (sc := defScope st__law_list) (by decide +kernel)) (fun _ _ _ _ _ => (pg_name (i := 2) nd rfl (Or.inl rfl))) (fun _ _ _ _ _ => (pts_one (pt_val (pe_callB (kcr K (r := rIsiB) cr_isi) (by rfl) M.n_isinstance boot_isinstance (pa_cons (pv 2) (pa_cons (pe_bltn (v := .ty "bool") rfl M.n_bool boot_bool rfl) pa_nil)))))) (fun _ _ _ _ _ => (pv 2))) (pe_lst pa_nil) (nomark _))))), ?_⟩
    obtain ⟨ds, hd, hlay, hdep⟩ := flat_data (K := K) (H := H) hx
    have hsh : SeqAt.shaped (.list ds) = true := shaped_of hlay (by show PyData.depthAll ds + 1 ≤ 64; omega)
    have hrefl : PyData.eqv (.list ds) (.list ds) = true := SeqAt.eqv_refl _ hlay
    refine q_when (b := false) (et_is (et_or (et_not (et_B (ev_cb (ea_cons (ev_var rfl) (ea_cons ev_c ea_nil)) (rc_isi (b := true) (fun H1 e => .base (.lst (e _ _ hp))) k_list_list)))) fun _ => et_test (ev_op (ev_var rfl) (ev_var rfl) (rv_neD (d := .list ds) (e := .list ds) (b := true) (fun H1 e => .lst (ex_l e (sq_of hp)) (DpAll.ex e hd)) (fun H1 e => .lst (ex_l e hq) (DpAll.ex e hd)) hsh hsh hrefl))) rfl) (fun z => by cases z) (fun _ H1 e1 => ?_)
    have hpart : ∀ v ∈ xs, ∃ t, kitB t "bool" = some false ∧ ∀ H2 : Hp, TyX K H2 v (.type t) := fun v hv => by
      obtain ⟨d, hd⟩ := hx v hv
      cases hd with
      | int i => exact ⟨"int", k_int_bool, fun H2 => .base (.int i)⟩
      | str _ => exact ⟨"str", k_str_bool, fun H2 => .base (.str _)⟩
    refine s_ret (ev_opLL (xs := []) (ys := []) ?_ (el_lst ea_nil (by decide)) (fun p1 q1 H2 h1 h2 e2 => rv_eqD (d := .list []) (e := .list []) (b := true) (fun H3 e3 => .lst (ex_l e3 (sq_of h1)) .nil) (fun H3 e3 => .lst (ex_l e3 (sq_of h2)) .nil) (by decide) (by decide) (by decide))) (RetV.mono k e1)
    have h0 := el_lcX (j := 2) (te := tVar 2) (t := tB (tCB (rIsiB K) (tCons (tVar 2) (tCons (tC (.ty "bool")) tNil)))) (σ := start N__law_list [.ref p, .ref q]) (H := H1) (vs := [2]) (p := fun _ => false) (g := fun v => v) xs (fun a x _ => x = a) (src_list (ev_var rfl : Ev (tVar 0) (start N__law_list [.ref p, .ref q]) H1 (.ref p)) (sq_of (K := K) (e1 _ _ hp))) (by omega) (fun _ => rfl) rfl (fun i x _ hi => ⟨x, hi, rfl⟩) (fun v x H2 e2 hv hr => by
      subst hr
      obtain ⟨t, ht, hty⟩ := hpart x hv
      exact et_B (ev_cb (ea_cons (ev_var rfl) (ea_cons ev_c ea_nil)) (rc_isi (fun H3 _ => hty H3) ht))) (fun _ _ _ _ _ _ z => by cases z)
    rw [List.filter_eq_nil_iff.mpr (fun _ _ z => by cases z)] at h0
    exact h0
theorem flat_num (c : List Nat) : ∀ v ∈ numV c, ∃ d, FlatV v d := fun v hv => by
  obtain ⟨n, _, rfl⟩ := List.mem_map.mp hv
  exact ⟨_, .int _⟩
def sp_is_cut : Sp := fun vs H Q _ => ∃ (pl pc : Addr) (lot : List Tx) (text : Tx) (c : List Nat), vs = [.ref pl, T text, .ref pc] ∧ LotAt pl lot H ∧ H pc = some (.lst (numV c)) ∧ Ixs lot c ∧ put lot c = text ∧ c.length ≤ 1000 ∧ RetV (.bl true) H Q
theorem ok__law_is_cut {f : Addr} {fd : FuncData} (F : Fun K "_law_is_cut" "_law_is_cut" st__law_is_cut f fd) (M : Md K mg) : FnOk P w K mg base CX0 1 f fd ["lot", "text", "thing"] sp_is_cut := by
  have nd := sc__law_is_cut.nd
  refine F.ok sc__law_is_cut (fun vs H Q E h => ?_) (fun cdv A outer s H vs Q E hr h => ?_)
  · obtain ⟨_, _, _, _, _, rfl, _⟩ := h
    rfl
  · obtain ⟨pl, pc, lot, text, c, rfl, hL, hc, hix, hput, hcl, k⟩ := h
    refine ⟨_, (pss_cons (ps_if (PW.pt (pw_or (pt_not (pt_val (pe_callB (kcr K (r := rIsiB) cr_isi) (by rfl) M.n_isinstance boot_isinstance (pa_cons (pv 2) (pa_cons (pe_bltn (v := .ty "list") rfl M.n_list boot_list rfl) pa_nil))))) (pw_or1 (pt_cmpR (kop K (r := rNeD) (op_neD hr.units)) (pe_lc (own := [("index", 3)]) rfl nd (kil K (pi_list (pv 2))) (blkOk_by (N := N__law_is_cut) (sc := defScope st__law_is_cut) (by decide +kernel)) (fun _ _ _ _ _ => (pg_name (i := 3) nd rfl (Or.inl rfl))) (fun _ _ _ _ _ => (pts_one (PW.pt (pw_or (pt_not (pt_val (pe_callB (kcr K (r := rIsiB) cr_isi) (by rfl) M.n_isinstance boot_isinstance (pa_cons (pv 3) (pa_cons (pe_bltn (v := .ty "int") rfl M.n_int boot_int rfl) pa_nil))))) (pw_or (pt_val (pe_callB (kcr K (r := rIsiB) cr_isi) (by rfl) M.n_isinstance boot_isinstance (pa_cons (pv 3) (pa_cons (pe_bltn (v := .ty "bool") rfl M.n_bool boot_bool rfl) pa_nil)))) (pw_or1 (pt_not (pt_chain op_le op_lt pe_int (pv 3) (pe_callB (kcr K (r := rLenS) call_len_seq) (by rfl) M.n_len boot_len (pa_cons (pv 0) pa_nil)))))))))) (fun _ _ _ _ _ => (pv 3))) (pe_lst pa_nil) (nomark _)))))
  (pss_one (ps_ret pe_bl))
  pss_nil)
  (pss_one (ps_ret (pe_cmpR op_eqT (kbm K (pe_bm PySem.F.plainAttrs_str PySem.F.slot_str_join PySem.F.type_str_join (kmt K (r := rJoinT) mt_joinT) (pe_sT []) (pa_cons (pe_lc (own := [("index", 3)]) rfl nd (kil K (pi_list (pv 2))) (blkOk_by (N := N__law_is_cut) (sc := defScope st__law_is_cut) (by decide +kernel)) (fun _ _ _ _ _ => (pg_name (i := 3) nd rfl (Or.inl rfl))) (fun _ _ _ _ _ => pts_nil) (fun _ _ _ _ _ => (pe_ix (kix K (r := L2.rIxT) ix_tup) (pv 0) (pv 3) (fun _ _ => rfl)))) pa_nil))) (pv 1) (nomark _))))), ?_⟩
    have hno : EvL (tLc (iList K (tVar 2)) (gName 3) (tOr (tNot (tB (tCB (rIsiB K) (tCons (tVar 3) (tCons (tC (.ty "int")) tNil))))) (tOr (tB (tCB (rIsiB K) (tCons (tVar 3) (tCons (tC (.ty "bool")) tNil)))) (tNot (tTest (tChain (rI0 fun i j => .bl (decide (i ≤ j))) (rI0 fun i j => .bl (decide (i < j))) (tC (.int 0)) (tVar 3) (tCB (rLenS K) (tCons (tVar 0) tNil))))))) (tVar 3) [3]) (start N__law_is_cut [.ref pl, T text, .ref pc]) H [] := by
      have h0 := el_lcF (j := 3) (vs := [3]) (te := tVar 3) (σ := start N__law_is_cut [.ref pl, T text, .ref pc]) (H := H) (f := fun (n : Nat) => V.int (n : Int)) (g := fun (n : Nat) => V.int (n : Int)) (p := fun _ => false) (t := tOr (tNot (tB (tCB (rIsiB K) (tCons (tVar 3) (tCons (tC (.ty "int")) tNil))))) (tOr (tB (tCB (rIsiB K) (tCons (tVar 3) (tCons (tC (.ty "bool")) tNil)))) (tNot (tTest (tChain (rI0 fun i j => .bl (decide (i ≤ j))) (rI0 fun i j => .bl (decide (i < j))) (tC (.int 0)) (tVar 3) (tCB (rLenS K) (tCons (tVar 0) tNil))))))) c (src_listM (ev_var rfl : Ev (tVar 2) (start N__law_is_cut [.ref pl, T text, .ref pc]) H (.ref pc)) (sq_of (K := K) hc)) (by omega) (fun _ => rfl) (fun i H1 e1 hi => ?_) (fun _ _ _ _ z => by cases z)
      · rw [List.filter_eq_nil_iff.mpr (fun _ _ z => by cases z)] at h0
        exact h0
      · have hil := hix i hi
        refine et_is (et_or (et_not (et_B (ev_cb (ea_cons (ev_var rfl) (ea_cons ev_c ea_nil)) (rc_isi (fun _ _ => .base (.int _)) k_int_int)))) fun _ => et_or (et_B (ev_cb (ea_cons (ev_var rfl) (ea_cons ev_c ea_nil)) (rc_isi (fun _ _ => .base (.int _)) k_int_bool))) fun _ => et_not (et_test (ev_chain ev_c (ev_var rfl) rv_I0 (ev_lenU (ev_var rfl) (st_of (e1 _ _ hL.1))) rv_I0))) ?_
        rw [List.length_map, decide_eq_true (by omega), decide_eq_true (by omega)]
        rfl
    refine q_when (b := false) (et_is (et_or (et_not (et_B (ev_cb (ea_cons (ev_var rfl) (ea_cons ev_c ea_nil)) (rc_isi (b := true) (fun H1 e => .base (.lst (e _ _ hc))) k_list_list)))) fun _ => et_test (ev_opLL (xs := []) (ys := []) hno (el_lst ea_nil (by decide)) (fun p1 q1 H2 h1 h2 e2 => rv_neD (d := .list []) (e := .list []) (b := true) (fun H3 e3 => .lst (ex_l e3 (sq_of h1)) .nil) (fun H3 e3 => .lst (ex_l e3 (sq_of h2)) .nil) (by decide) (by decide) (by decide)))) rfl) (fun z => by cases z) (fun _ H1 e1 => ?_)
    exact s_ret (ev_is (ev_op (ev_put (i := 0) (j := 2) (l := 3) (hL.ex e1) (e1 _ _ hc) hix hcl rfl rfl (fun _ => rfl) (fun _ => rfl) (fun _ => rfl)) (ev_var rfl) rv_eqT) (by rw [hput, decide_eq_true rfl])) (RetV.mono k e1)
def sp_rank : Sp := fun vs H Q _ => ∃ (pl pb pc : Addr) (lot : List Tx) (text : Tx) (c : List Nat), vs = [.ref pl, T text, .ref pb, .ref pc] ∧ LotAt pl lot H ∧ text.length ≤ 400 ∧ H pb = some (.lst (behL lot text)) ∧ H pc = some (.lst (numV c)) ∧ Ixs lot c ∧ put lot c = text ∧ RetV (.int (rankF lot text 0 c : Int)) H Q
theorem ok__law_rank {f : Addr} {fd : FuncData} (F : Fun K "_law_rank" "_law_rank" st__law_rank f fd) (M : Md K mg) : FnOk P w K mg base CX0 1 f fd ["lot", "text", "behind", "cut"] sp_rank := by
  have nd := sc__law_rank.nd
  refine F.ok sc__law_rank (fun vs H Q E h => ?_) (fun cdv A outer s H vs Q E hr h => ?_)
  · obtain ⟨_, _, _, _, _, _, rfl, _⟩ := h
    rfl
  · obtain ⟨pl, pb, pc, lot, text, c, rfl, hLA, hlen, hpb, hpc, hix, hput, ret⟩ := h
    obtain ⟨hp, hL⟩ := id hLA
    refine ⟨_, (pss_cons (ps_asg (pe_tup (pa_cons pe_int (pa_cons pe_int pa_nil))) (kgt K (n := 2) (pg_tup rfl (pgs_cons (pg_name (i := 4) nd rfl (Or.inl rfl)) (pgs_cons (pg_name (i := 5) nd rfl (Or.inl rfl)) pgs_nil)))))
  (pss_cons (ps_for PassesOwn.never rfl (kil K (pi_list (pv 3))) (pg_name (i := 6) nd rfl (Or.inl rfl))
  (pss_cons (ps_for PassesOwn.never rfl (pi_range1 (by rfl) M.n_range (pa_cons (pv 6) pa_nil)) (pg_name (i := 7) nd rfl (Or.inl rfl))
  (pss_cons (ps_set (i := 8) nd rfl (Or.inl rfl) (pe_op op_add (pv 5) (pe_callB cr_lenT (by rfl) M.n_len boot_len (pa_cons (pe_ix (kix K (r := L2.rIxT) ix_tup) (pv 0) (pv 7) (fun _ _ => rfl)) pa_nil))))
  (pss_one (ps_if (PW.pt (pw_and (pt_cmpR op_le (pv 8) (pe_callB cr_lenT (by rfl) M.n_len boot_len (pa_cons (pv 1) pa_nil)) (nomark _)) (pw_and1 (pt_cmpR op_eqT (pe_slice sl_T (pv 1) (po_some (pv 5)) (po_some (pv 8))) (pe_ix (kix K (r := L2.rIxT) ix_tup) (pv 0) (pv 7) (fun _ _ => rfl)) (nomark _)))))
  (pss_one (ps_set (i := 4) nd rfl (Or.inl rfl) (pe_op op_add (pv 4) (pe_ix (kix K (r := L2.rIxL) ix_list) (pv 2) (pv 8) (fun _ _ => rfl)))))
  pss_nil))))
  (pss_one (ps_set (i := 5) nd rfl (Or.inl rfl) (pe_op op_add (pv 5) (pe_callB cr_lenT (by rfl) M.n_len boot_len (pa_cons (pe_ix (kix K (r := L2.rIxT) ix_tup) (pv 0) (pv 6) (fun _ _ => rfl)) pa_nil)))))))
  (pss_one (ps_ret (pv 4))))), ?_⟩
    refine q_asg2C fun H0 e0 => ?_
    show tSeq _ _ _ [some (.ref pl), some (T text), some (.ref pb), some (.ref pc), some (.int 0), some (.int 0), none, none, none] H0
    refine q_forW (fun _ => False) (src_listM (f := fun (n : Nat) => V.int (n : Int)) (xs := c) (ev_var rfl) (sq_of (e0 _ _ hpc))) (fun _ z => z.elim)
      (fun Hs i σ' H' => ∃ (found : Nat) (v6 v7 v8 : Option V), σ' = [some (.ref pl), some (T text), some (.ref pb), some (.ref pc), some (.int (found : Int)), some (.int ((put lot (c.take i)).length : Int)), v6, v7, v8] ∧ Ex Hs H' ∧ found + rankF lot text (put lot (c.take i)).length (c.drop i) = rankF lot text 0 c) ?_ ?_ ?_ ?_ ?_
    · intro Hs e
      exact ⟨0, none, none, none, rfl, Ex.refl _, by rw [List.drop_zero, Nat.zero_add]; rfl⟩
    · rintro Hs i σ' H' ⟨_, _, _, _, _, h, _⟩
      exact .of h
    · rintro Hs i σ' Ha Hb ⟨found, v6, v7, v8, h0, h1, h2⟩ e
      exact ⟨found, v6, v7, v8, h0, h1.trans e, h2⟩
    · rintro Hs i y σ' H' e hi ⟨found, v6, v7, v8, rfl, h1, h2⟩ hy
      obtain ⟨t, ht, rfl⟩ := at_map hy
      have htl : t < lot.length := hix t (List.mem_of_getElem? ht)
      have eA := e0.trans (e.trans h1)
      have hp2 := eA _ _ hp
      have hdr : c.drop i = t :: c.drop (i + 1) := by
        obtain ⟨hl, h3⟩ := List.getElem?_eq_some_iff.mp ht
        rw [← h3]
        exact List.drop_eq_getElem_cons hl
      have hwt : wl lot t = (lot.getD t []).length := rfl
      have htk : put lot (c.take (i + 1)) = put lot (c.take i) ++ lot.getD t [] := by
        rw [List.take_add_one, ht, put_app]
        congr 1
        unfold put
        simp
      have hbound := put_len hput (i + 1) (by omega)
      rw [htk, List.length_append] at hbound
      generalize hpl : (put lot (c.take i)).length = place at h2 htk hbound ⊢
      rw [hdr] at h2
      have hfew := hL.few
      show tSeq _ _ _ [some (.ref pl), some (T text), some (.ref pb), some (.ref pc), some (.int (found : Int)), some (.int (place : Int)), some (.int (t : Int)), v7, v8] H'
      refine q_forW (fun _ => False) (src_range1 (n := t) (ea_cons (ev_var rfl) ea_nil) (by omega)) (fun _ z => z.elim)
        (fun Ht j σ' H9 => ∃ (v7 v8 : Option V), σ' = [some (.ref pl), some (T text), some (.ref pb), some (.ref pc), some (.int ((found + sumL (fun i => cutsAt lot text (place + wl lot i)) ((List.range j).filter (stands lot text place)) : Nat) : Int)), some (.int (place : Int)), some (.int (t : Int)), v7, v8] ∧ Ex Ht H9) ?_ ?_ ?_ ?_ ?_
      · intro Ht e9
        exact ⟨v7, v8, rfl, Ex.refl _⟩
      · rintro Ht j σ' H9 ⟨_, _, _, z⟩
        exact .of z
      · rintro Ht j σ' Ha Hb ⟨v7, v8, z0, z1⟩ e
        exact ⟨v7, v8, z0, z1.trans e⟩
      · rintro Ht j y σ' H9 e9 hj ⟨v7, v8, rfl, z1⟩ rfl
        have hjl : j < lot.length := by omega
        have hw1 := List.getElem?_eq_getElem hjl
        have hlw : lot[j].length ≤ 12 := (hL.wd _ (List.getElem_mem hjl)).1
        have e39 := e9.trans z1
        have hsm : sumL (fun i => cutsAt lot text (place + wl lot i)) ((List.range (j + 1)).filter (stands lot text place)) = sumL (fun i => cutsAt lot text (place + wl lot i)) ((List.range j).filter (stands lot text place)) + if stands lot text place j = true then (cutsAt lot text (place + wl lot j)).length else 0 := by
          unfold sumL
          rw [List.range_succ, List.filter_append, List.map_append, List.sum_append]
          congr 1
          cases z : stands lot text place j with
          | true => simp [z]
          | false => simp [z]
        generalize sumL (fun i => cutsAt lot text (place + wl lot i)) ((List.range j).filter (stands lot text place)) = s0 at hsm ⊢
        have hst : stands lot text place j = decide (place + lot[j].length ≤ text.length ∧ StAt text lot[j] place) := by
          unfold stands
          rw [hw1]
        rw [hst, wl_of hw1] at hsm
        show tSeq _ _ _ [some (.ref pl), some (T text), some (.ref pb), some (.ref pc), some (.int ((found + s0 : Nat) : Int)), some (.int (place : Int)), some (.int (t : Int)), some (.int (j : Int)), v8] H9
        have ixw : ∀ {σ : L2.St} {Hb : Hp}, Ex H9 Hb → σ[0]? = some (some (.ref pl)) → σ[7]? = some (some (.int (j : Int))) → Ev (tOp (L2.rIxT K) (tVar 0) (tVar 7)) σ Hb (T lot[j]) := fun eb g0 g7 => ev_op (ev_var g0) (ev_var g7) (rv_ixT (st_of ((e39.trans eb) _ _ hp2)) (atI_nat (by rw [List.getElem?_map, hw1]; rfl)))
        refine q_asg (v := .int ((place + lot[j].length : Nat) : Int)) (ev_op (ev_var rfl) (ev_cb (ea_cons (ixw (Ex.refl _) rfl rfl) ea_nil) (rc_lenT (by omega))) rv_I0) fun Ha ea => ?_
        show tIfS _ _ _ _ [some (.ref pl), some (T text), some (.ref pb), some (.ref pc), some (.int ((found + s0 : Nat) : Int)), some (.int (place : Int)), some (.int (t : Int)), some (.int (j : Int)), some (.int ((place + lot[j].length : Nat) : Int))] Ha
        refine s_when (b := decide (place + lot[j].length ≤ text.length ∧ StAt text lot[j] place)) (et_is (et_andI (et_test (ev_op (ev_var rfl) (ev_cb (ea_cons (ev_var rfl) ea_nil) (rc_lenT (by omega))) rv_I0)) fun _ => et_test (ev_op (ev_slT (ev_var rfl) (eo_some (ev_var rfl)) (eo_some (ev_var rfl)) (by omega)) (ixw ea rfl rfl) rv_eqT)) ?_) (fun hb Hb eb => ?_) (fun hb Hb eb => ?_)
        · rw [cutT_mid, Nat.add_sub_cancel_left, ← Bool.decide_and]
          exact decide_eq_decide.mpr (and_congr Int.ofNat_le Iff.rfl)
        · obtain ⟨g1, g2⟩ := of_decide_eq_true hb
          rw [if_pos hb] at hsm
          have hbx : Hb pb = some (.lst (behL lot text)) := (eA.trans (e39.trans (ea.trans eb))) _ _ hpb
          refine s_asg (v := .int ((found + (s0 + (cutsAt lot text (place + lot[j].length)).length) : Nat) : Int)) (ev_is (ev_op (ev_var rfl) (ev_op (ev_var rfl) (ev_var rfl) (rv_ixL (sq_of hbx) (atI_nat (beh_at g1)))) rv_I0) (by congr 1; omega)) fun H6 e6 => ?_
          rw [hsm]
          exact ⟨_, _, rfl, z1.trans (ea.trans (eb.trans e6))⟩
        · rw [if_neg (by rw [hb]; exact Bool.false_ne_true)] at hsm
          rw [hsm]
          exact ⟨_, _, rfl, z1.trans (ea.trans eb)⟩
      · rintro Ht σ' H9 e9 ⟨v7, v8, rfl, z1⟩
        have e39 := e9.trans z1
        have hw1 := List.getElem?_eq_getElem htl
        have hlw : lot[t].length ≤ 12 := (hL.wd _ (List.getElem_mem htl)).1
        refine s_asg (v := .int ((place + lot[t].length : Nat) : Int)) (ev_op (ev_var rfl) (ev_cb (ea_cons (ev_op (ev_var rfl) (ev_var rfl) (rv_ixT (st_of (e39 _ _ hp2)) (atI_nat (by rw [List.getElem?_map, hw1]; rfl)))) ea_nil) (rc_lenT (by omega))) rv_I0) fun H6 e6 => ?_
        have hgt : lot.getD t [] = lot[t] := by rw [List.getD_eq_getElem?_getD, hw1]; rfl
        refine ⟨found + before lot text place t, some (.int (t : Int)), v7, v8, ?_, h1.trans (e39.trans e6), ?_⟩
        · rw [htk, List.length_append, hpl, hgt]
          rfl
        · rw [htk, List.length_append, hpl, ← h2]
          show _ = found + (before lot text place t + rankF lot text (place + wl lot t) (c.drop (i + 1)))
          rw [hwt]
          omega
    · rintro Hs σ' H' e ⟨found, v6, v7, v8, rfl, h1, h2⟩
      rw [List.drop_length] at h2
      have h2' : found = rankF lot text 0 c := h2
      subst h2'
      exact s_ret (ev_var rfl) fun H4 e4 => ret H4 ((e0.trans (e.trans h1)).trans e4)
/-- a list of these cuts -/
def CutsL (p : Addr) (cs : List (List Nat)) (H : Hp) : Prop := ∃ ps : List Addr, H p = some (.lst (ps.map V.ref)) ∧ ps.length = cs.length ∧ ∀ i c, cs[i]? = some c → H (ps.getD i 0) = some (.lst (numV c))
theorem CutsL.ex {p : Addr} {cs : List (List Nat)} {H H1 : Hp} (h : CutsL p cs H) (e : Ex H H1) : CutsL p cs H1 := by
  obtain ⟨ps, h1, h2, h3⟩ := h
  exact ⟨ps, e _ _ h1, h2, fun i c hc => e _ _ (h3 i c hc)⟩
def sp_lists : Sp := fun vs H Q _ => ∃ (pa pd : Addr) (cs : List (List Nat)), vs = [.ref pa, .ref pd] ∧ CutsL pa cs H ∧ CutsL pd cs H ∧ cs.length ≤ 400 ∧ (∀ c ∈ cs, c.length ≤ 400) ∧ RetV (.bl true) H Q
theorem ok__law_lists {f : Addr} {fd : FuncData} (F : Fun K "_law_lists" "_law_lists" st__law_lists f fd) (M : Md K mg) (C__law_list : Cal P w K mg base "_law_list" st__law_list 1 ["actual", "due"] (sp_list_same K)) : FnOk P w K mg base CX0 2 f fd ["actual", "due"] sp_lists := by
  have nd := sc__law_lists.nd
  refine F.ok sc__law_lists (fun vs H Q E h => ?_) (fun cdv A outer s H vs Q E hr h => ?_)
  · obtain ⟨_, _, _, rfl, _⟩ := h
    rfl
  · obtain ⟨pa, pd, cs, rfl, ⟨ps, a1, a2, a3⟩, ⟨qs, b1, b2, b3⟩, hcs, hcl, k⟩ := h
    refine ⟨_, (pss_cons (ps_if (PW.pt (pw_or (pt_not (pt_val (pe_callB (kcr K (r := rIsiB) cr_isi) (by rfl) M.n_isinstance boot_isinstance (pa_cons (pv 0) (pa_cons (pe_bltn (v := .ty "list") rfl M.n_list boot_list rfl) pa_nil))))) (pw_or1 (pt_cmpR op_neI (pe_callB (kcr K (r := rLenS) call_len_seq) (by rfl) M.n_len boot_len (pa_cons (pv 0) pa_nil)) (pe_callB (kcr K (r := rLenS) call_len_seq) (by rfl) M.n_len boot_len (pa_cons (pv 1) pa_nil)) (nomark _)))))
  (pss_one (ps_ret pe_bl))
  pss_nil)
  (pss_one (ps_ret (pe_cmpR (kop K (r := rEqD) (op_eqD hr.units)) (pe_lc (own := [("one", 2), ("other", 3)]) rfl nd (kiz K (pi_zip (by rfl) M.n_zip (pa_cons (pv 0) (pa_cons (pv 1) pa_nil)))) (blkOk_by (N := N__law_lists) (sc := defScope st__law_lists) (by decide +kernel)) (fun _ _ _ _ _ => (kgt K (n := 2) (pg_tup rfl (pgs_cons (pg_name (i := 2) nd rfl (Or.inl rfl)) (pgs_cons (pg_name (i := 3) nd rfl (Or.inl rfl)) pgs_nil))))) (fun _ _ _ _ _ => (pts_one (pt_not (pt_val (pe_cl C__law_list hr (pa_cons (pv 2) (pa_cons (pv 3) pa_nil))))))) (fun _ _ _ _ _ => pe_int)) (pe_lst pa_nil) (nomark _))))), ?_⟩
    refine q_when (b := false) (et_is (et_or (et_not (et_B (ev_cb (ea_cons (ev_var rfl) (ea_cons ev_c ea_nil)) (rc_isi (b := true) (fun H1 e => .base (.lst (e _ _ a1))) k_list_list)))) fun _ => et_test (ev_op (ev_len (ev_var rfl) (sq_of a1)) (ev_len (ev_var rfl) (sq_of b1)) rv_I0)) (by rw [List.length_map, List.length_map, a2, b2]; simp)) (fun z => by cases z) (fun _ H1 e1 => ?_)
    refine s_ret (ev_opLL (xs := []) (ys := []) ?_ (el_lst ea_nil (by decide)) (fun p1 q1 H2 h1 h2 e2 => rv_eqD (d := .list []) (e := .list []) (b := true) (fun H3 e3 => .lst (ex_l e3 (sq_of h1)) .nil) (fun H3 e3 => .lst (ex_l e3 (sq_of h2)) .nil) (by decide) (by decide) (by decide))) (RetV.mono k e1)
    have h0 := el_lcG (te := tC (.int 1)) (t := tNot (tB (tCall (sp_list_same K) [] E0 (tCons (tVar 2) (tCons (tVar 3) tNil))))) (g := gTup K 2 (gCons (gName 2) (gCons (gName 3) gNil))) (vs := [2, 3]) (p := fun _ : Nat => false) (gv := fun _ => V.int 1) (σ := start N__law_lists [.ref pa, .ref pd]) (H := H1) (List.range cs.length) (fun i => [some (.ref pa), some (.ref pd), some (.ref (ps.getD i 0)), some (.ref (qs.getD i 0))]) (fun i v H2 => i < cs.length ∧ ∃ q, v = .ref q ∧ H2 q = some (.tup [.ref (ps.getD i 0), .ref (qs.getD i 0)])) (src_zip (n := cs.length) (ev_var rfl : Ev (tVar 0) (start N__law_lists [.ref pa, .ref pd]) H1 (.ref pa)) (ev_var rfl : Ev (tVar 1) (start N__law_lists [.ref pa, .ref pd]) H1 (.ref pd)) (sq_of (K := K) (e1 _ _ a1)) (sq_of (e1 _ _ b1)) (by rw [List.length_map, List.length_map]; omega)) (by omega) (List.length_range) (fun i v H2 ⟨q, x, y, r1, r2, r3, r4⟩ => by
      obtain ⟨p0, s1, rfl⟩ := at_map r2
      obtain ⟨q0, s2, rfl⟩ := at_map r3
      have hi : i < cs.length := by rw [← a2]; exact (List.getElem?_eq_some_iff.mp s1).1
      exact ⟨i, List.getElem?_range hi, hi, q, r1, by rw [r4, List.getD_eq_getElem?_getD, List.getD_eq_getElem?_getD, s1, s2]; rfl⟩) (fun i v H2 Q' ⟨hi, q, r1, r2⟩ kq => by
      subst r1
      exact ⟨q, _, rfl, st_of r2, rfl, .ref (ps.getD i 0), [.ref (qs.getD i 0)], rfl, .ref (qs.getD i 0), [], rfl, rfl, kq⟩) (fun _ => rfl) (fun i H2 e2 hi => by
      have hil := List.mem_range.mp hi
      have hc := List.getElem?_eq_getElem hil
      refine et_is (et_not (et_B (ev_call (ea_cons (ev_var rfl) (ea_cons (ev_var rfl) ea_nil)) fun H3 e3 Q3 q3 E => ⟨ps.getD i 0, qs.getD i 0, numV cs[i], rfl, (e1.trans (e2.trans e3)) _ _ (a3 i _ hc), sq_of ((e1.trans (e2.trans e3)) _ _ (b3 i _ hc)), flat_num _, ?_, q3⟩))) rfl
      have := hcl _ (List.getElem_mem hil)
      unfold numV
      rw [List.length_map]
      omega) (fun _ _ _ _ z => by cases z)
    rw [List.filter_eq_nil_iff.mpr (fun _ _ z => by cases z)] at h0
    exact h0
end
end K03
set_option Elab.async false
set_option linter.all false
set_option maxRecDepth 100000
set_option maxHeartbeats 2000000
namespace K03
open PySem PySem.Spec PyProof.Rows L2 Evl Wc Wt
/-! ### cuts by a pile of beginnings -/
abbrev Ent := List Nat × Nat
/-- the cuts that the pile will still give, its last one first -/
def remS (lot : List Tx) (text : Tx) (stk : List Ent) : List (List Nat) := stk.reverse.flatMap fun e => (cutsAt lot text e.2).map (e.1 ++ ·)
theorem rem_app (lot : List Tx) (text : Tx) (stk l : List Ent) : remS lot text (stk ++ l) = remS lot text l ++ remS lot text stk := by
  unfold remS
  rw [List.reverse_append, List.flatMap_append]
theorem rem_one (lot : List Tx) (text : Tx) (e : Ent) : remS lot text [e] = (cutsAt lot text e.2).map (e.1 ++ ·) := by
  unfold remS
  simp
theorem rem_push (lot : List Tx) (text : Tx) (stk : List Ent) (e : Ent) : remS lot text (stk ++ [e]) = (cutsAt lot text e.2).map (e.1 ++ ·) ++ remS lot text stk := by rw [rem_app, rem_one]
def goodW (lot : List Tx) (text : Tx) (p i : Nat) : Bool := stands lot text p i && decide (0 < (cutsAt lot text (p + wl lot i)).length)
/-- what the first j turns put on the pile -/
def pushed (lot : List Tx) (text : Tx) (c : List Nat) (p j : Nat) : List Ent := (((List.range lot.length).reverse.take j).filter (goodW lot text p)).map fun i => (c ++ [i], p + wl lot i)
theorem pushed_zero (lot : List Tx) (text : Tx) (c : List Nat) (p : Nat) : pushed lot text c p 0 = [] := rfl
theorem pushed_succ {lot : List Tx} {text : Tx} {c : List Nat} {p j : Nat} (h : j < lot.length) : pushed lot text c p (j + 1) = pushed lot text c p j ++ if goodW lot text p (lot.length - 1 - j) = true then [(c ++ [lot.length - 1 - j], p + wl lot (lot.length - 1 - j))] else [] := by
  unfold pushed
  have e : (List.range lot.length).reverse[j]? = some (lot.length - 1 - j) := by
    rw [List.getElem?_reverse (by rw [List.length_range]; exact h), List.length_range, List.getElem?_range (by omega)]
  rw [List.take_add_one, e, List.filter_append, List.map_append]
  congr 1
  cases z : goodW lot text p (lot.length - 1 - j) with
  | true => simp [z]
  | false => simp [z]
theorem flatMap_ne {α β : Type} {f : α → List β} {q : α → Bool} : ∀ {l : List α}, (∀ a ∈ l, q a = false → f a = []) → (l.filter q).flatMap f = l.flatMap f
  | [], _ => rfl
  | a :: l, h => by
    rw [List.flatMap_cons]
    cases z : q a with
    | true =>
      rw [List.filter_cons_of_pos z, List.flatMap_cons, flatMap_ne fun b hb => h b (List.mem_cons_of_mem _ hb)]
    | false =>
      rw [List.filter_cons_of_neg (by rw [z]; exact Bool.false_ne_true), h a List.mem_cons_self z, List.nil_append, flatMap_ne fun b hb => h b (List.mem_cons_of_mem _ hb)]
theorem pushed_all {lot : List Tx} (hL : Pos lot) {text : Tx} {c : List Nat} {p : Nat} (hp : p < text.length) : remS lot text (pushed lot text c p lot.length) = (cutsAt lot text p).map (c ++ ·) := by
  have e1 : pushed lot text c p lot.length = (((List.range lot.length).filter (goodW lot text p)).map fun i => (c ++ [i], p + wl lot i)).reverse := by
    unfold pushed
    rw [List.take_of_length_le (by rw [List.length_reverse, List.length_range]; exact Nat.le_refl _), List.filter_reverse, List.map_reverse]
  have e2 : (List.range lot.length).filter (goodW lot text p) = (wordsAt lot text p).filter fun i => decide (0 < (cutsAt lot text (p + wl lot i)).length) := by
    unfold wordsAt
    rw [List.filter_filter]
    congr 1
    funext i
    unfold goodW
    rw [Bool.and_comm]
  unfold remS
  rw [e1, List.reverse_reverse, e2, List.flatMap_map, cuts_step hL hp, List.map_flatMap]
  rw [flatMap_ne (fun i hi hq => by
    have := of_decide_eq_false hq
    have hz : cutsAt lot text (p + wl lot i) = [] := List.length_eq_zero_iff.mp (by omega)
    show (cutsAt lot text (p + wl lot i)).map _ = []
    rw [hz]
    rfl)]
  refine flatMap_same fun i _ => ?_
  rw [List.map_map]
  refine List.map_congr_left fun t _ => ?_
  show (c ++ [i]) ++ t = c ++ (i :: t)
  rw [List.append_assoc]
  rfl
theorem pushed_mem {lot : List Tx} (hL : Pos lot) {text : Tx} {c : List Nat} {p j : Nat} {e : Ent} (h : e ∈ pushed lot text c p j) : p + 1 ≤ e.2 ∧ e.2 ≤ text.length ∧ cutsAt lot text e.2 ≠ [] := by
  obtain ⟨i, hi, rfl⟩ := List.mem_map.mp h
  obtain ⟨h1, h2⟩ := List.mem_filter.mp hi
  unfold goodW at h2
  rw [Bool.and_eq_true, decide_eq_true_eq] at h2
  have hil : i < lot.length := List.mem_range.mp (List.mem_reverse.mp (List.mem_of_mem_take h1))
  have hw := word_pos hL (List.mem_filter.mpr ⟨List.mem_range.mpr hil, h2.1⟩ : i ∈ wordsAt lot text p)
  exact ⟨by show p + 1 ≤ p + wl lot i; omega, hw.2.1, fun z => by
    have h3 : 0 < (cutsAt lot text (p + wl lot i)).length := h2.2
    rw [z] at h3
    cases h3⟩
theorem pushed_fst {lot : List Tx} {text : Tx} {c : List Nat} {p j : Nat} {e : Ent} (h : e ∈ pushed lot text c p j) : e.1.length = c.length + 1 := by
  obtain ⟨i, hi, rfl⟩ := List.mem_map.mp h
  show (c ++ [i]).length = _
  rw [List.length_append]
  rfl
theorem pushed_len (lot : List Tx) (text : Tx) (c : List Nat) (p j : Nat) : (pushed lot text c p j).length ≤ j := by
  unfold pushed
  rw [List.length_map]
  refine Nat.le_trans (List.length_filter_le _ _) ?_
  rw [List.length_take]
  exact Nat.min_le_left _ _
end K03
set_option Elab.async false
set_option linter.all false
set_option maxRecDepth 100000
set_option maxHeartbeats 4000000
namespace K03
open PySem PySem.Spec PyProof.Rows L2 Evl Wc Wt Wg
/-- a cut as an object that is new since H0 -/
def FR (H0 H : Hp) (pf pw a : Addr) (c : List Nat) : Prop := H a = some (.lst (numV c)) ∧ H0 a = none ∧ a ≠ pf ∧ a ≠ pw
/-- an entry of the pile -/
def WR (H0 H : Hp) (pf pw t : Addr) (e : Ent) : Prop := ∃ ca, H t = some (.tup [.ref ca, .int (e.2 : Int)]) ∧ FR H0 H pf pw ca e.1
/-- all but the two lists stands -/
abbrev Two (pf pw : Addr) (c : Addr) : Prop := c = pf ∨ c = pw
theorem FR.go {H0 H H1 : Hp} {pf pw a : Addr} {c : List Nat} (h : FR H0 H pf pw a c) (e : Exc (Two pf pw) H H1) : FR H0 H1 pf pw a c := ⟨e _ _ (fun z => z.elim h.2.2.1 h.2.2.2) h.1, h.2⟩
structure PileAt (H0 H : Hp) (pf pw : Addr) (fs : List (List Nat)) (stk : List Ent) : Prop where
  f : ∃ ps : List Addr, H pf = some (.lst (ps.map V.ref)) ∧ All2 (FR H0 H pf pw) ps fs
  w : ∃ ts : List Addr, H pw = some (.lst (ts.map V.ref)) ∧ All2 (WR H0 H pf pw) ts stk
theorem WR.go {H0 H H1 : Hp} {pf pw t : Addr} {e : Ent} (h : WR H0 H pf pw t e) (hf : ∃ xs, H pf = some (.lst xs)) (hw : ∃ xs, H pw = some (.lst xs)) (x : Exc (Two pf pw) H H1) : WR H0 H1 pf pw t e := by
  obtain ⟨ca, h1, h2⟩ := h
  refine ⟨ca, x _ _ (fun z => ?_) h1, h2.go x⟩
  obtain ⟨xs, hf⟩ := hf
  obtain ⟨ys, hw⟩ := hw
  rcases z with rfl | rfl
  · rw [hf] at h1; cases h1
  · rw [hw] at h1; cases h1
theorem PileAt.ex {H0 H H1 : Hp} {pf pw : Addr} {fs : List (List Nat)} {stk : List Ent} (h : PileAt H0 H pf pw fs stk) (e : Ex H H1) : PileAt H0 H1 pf pw fs stk := by
  obtain ⟨⟨ps, f1, f2⟩, ts, w1, w2⟩ := h
  exact ⟨⟨ps, e _ _ f1, f2.mono fun a b r => r.go (.of e)⟩, ts, e _ _ w1, w2.mono fun a b r => r.go ⟨_, f1⟩ ⟨_, w1⟩ (.of e)⟩
/-- one more cut found -/
theorem PileAt.found {H0 H : Hp} {pf pw ca : Addr} {fs : List (List Nat)} {stk : List Ent} {c : List Nat} {xs : List V} (h : PileAt H0 H pf pw fs stk) (hne : pf ≠ pw) (hc : FR H0 H pf pw ca c) (hx : H pf = some (.lst xs)) : PileAt H0 (upd H pf (.lst (xs ++ [.ref ca]))) pf pw (fs ++ [c]) stk := by
  obtain ⟨⟨ps, f1, f2⟩, ts, w1, w2⟩ := h
  rw [f1] at hx
  cases hx
  have x : Exc (Two pf pw) H (upd H pf (.lst (ps.map V.ref ++ [.ref ca]))) := (Exc.refl H).upd (.inl (.inl rfl))
  exact ⟨⟨ps ++ [ca], by rw [upd_same, List.map_append]; rfl, (f2.mono fun a b r => r.go x).push (hc.go x)⟩, ts, by rw [upd_ne (Ne.symm hne)]; exact w1, w2.mono fun a b r => r.go ⟨_, f1⟩ ⟨_, w1⟩ x⟩
/-- one more entry on the pile -/
theorem PileAt.more {H0 H : Hp} {pf pw t : Addr} {fs : List (List Nat)} {stk : List Ent} {e : Ent} {xs : List V} (h : PileAt H0 H pf pw fs stk) (hne : pf ≠ pw) (hc : WR H0 H pf pw t e) (hx : H pw = some (.lst xs)) : PileAt H0 (upd H pw (.lst (xs ++ [.ref t]))) pf pw fs (stk ++ [e]) := by
  obtain ⟨⟨ps, f1, f2⟩, ts, w1, w2⟩ := h
  rw [w1] at hx
  cases hx
  have x : Exc (Two pf pw) H (upd H pw (.lst (ts.map V.ref ++ [.ref t]))) := (Exc.refl H).upd (.inl (.inr rfl))
  exact ⟨⟨ps, by rw [upd_ne hne]; exact f1, f2.mono fun a b r => r.go x⟩, ts ++ [t], by rw [upd_same, List.map_append]; rfl, (w2.mono fun a b r => r.go ⟨_, f1⟩ ⟨_, w1⟩ x).push (hc.go ⟨_, f1⟩ ⟨_, w1⟩ x)⟩
/-- the last entry goes -/
theorem PileAt.less {H0 H : Hp} {pf pw : Addr} {fs : List (List Nat)} {stk : List Ent} {e : Ent} (h : PileAt H0 H pf pw fs (stk ++ [e])) (hne : pf ≠ pw) : ∃ (xs : List V) (t ca : Addr), H pw = some (.lst (xs ++ [.ref t])) ∧ H t = some (.tup [.ref ca, .int (e.2 : Int)]) ∧ FR H0 H pf pw ca e.1 ∧ PileAt H0 (upd H pw (.lst xs)) pf pw fs stk ∧ FR H0 (upd H pw (.lst xs)) pf pw ca e.1 := by
  obtain ⟨⟨ps, f1, f2⟩, ts, w1, w2⟩ := h
  obtain ⟨ts', t, rfl, w3, ca, r1, r2⟩ := w2.pop
  have x : Exc (Two pf pw) H (upd H pw (.lst (ts'.map V.ref))) := (Exc.refl H).upd (.inl (.inr rfl))
  exact ⟨ts'.map V.ref, t, ca, by rw [w1, List.map_append]; rfl, r1, r2, ⟨⟨ps, by rw [upd_ne hne]; exact f1, f2.mono fun a b r => r.go x⟩, ts', upd_same, w3.mono fun a b r => r.go ⟨_, f1⟩ ⟨_, w1⟩ x⟩, r2.go x⟩
/-- the pile as data -/
def entD (e : Ent) : PyData := .tuple [.list (e.1.map fun (n : Nat) => PyData.int (n : Int)), .int (e.2 : Int)]
theorem lay_ent (e : Ent) : (entD e).canLay0 = true := by
  show PyData.canLayAll0 [PyData.list (e.1.map fun (n : Nat) => PyData.int (n : Int)), .int (e.2 : Int)] = true
  show ((PyData.list (e.1.map fun (n : Nat) => PyData.int (n : Int))).canLay0 && ((PyData.int (e.2 : Int)).canLay0 && true)) = true
  rw [lay_list fun _ _ => rfl]
  rfl
theorem depth_ent (e : Ent) : (entD e).depth ≤ 3 := by
  show PyData.depthAll [PyData.list (e.1.map fun (n : Nat) => PyData.int (n : Int)), .int (e.2 : Int)] + 1 ≤ 3
  have : PyData.depthAll (e.1.map fun (n : Nat) => PyData.int (n : Int)) ≤ 0 := depth_all fun _ _ => Nat.le_refl _
  show max (PyData.depthAll (e.1.map fun (n : Nat) => PyData.int (n : Int)) + 1) (max 0 0) + 1 ≤ 3
  omega
theorem dp_pile {K : PySem.W.Frag} {H0 H : Hp} {pf pw : Addr} {ts : List Addr} {stk : List Ent} (h : All2 (WR H0 H pf pw) ts stk) : DpAll K H (ts.map V.ref) (stk.map entD) := by
  induction h with
  | nil => exact .nil
  | cons r _ ih =>
    obtain ⟨ca, r1, r2⟩ := r
    exact .cons (.tup (st_of r1) (.cons (dp_list (sq_of r2.1) fun _ _ => .int _) (.cons (.int _) .nil))) ih
section
variable {P : Program} {w : World} {K : PySem.W.Frag} {mg : Str → Option Value} {base : Heap}
def sp_all : Sp := fun vs H Q _ => ∃ (pl pb : Addr) (lot : List Tx) (text : Tx) (most : Nat), vs = [.ref pl, T text, .ref pb, .int (most : Int)] ∧ LotAt pl lot H ∧ text.length ≤ 400 ∧ H pb = some (.lst (behL lot text)) ∧ most ≤ (cutsAt lot text 0).length ∧ most ≤ 400 ∧
  ∀ q H' ps, H q = none → Ex H H' → H' q = some (.lst (ps.map V.ref)) → All2 (fun a c => H' a = some (.lst (numV c)) ∧ H a = none ∧ a ≠ q) ps ((cutsAt lot text 0).take most) → Q (.ref q) H'
theorem ok__law_all {f : Addr} {fd : FuncData} (F : Fun K "_law_all" "_law_all" st__law_all f fd) (M : Md K mg) : FnOk P w K mg base CX0 1 f fd ["lot", "text", "behind", "most"] sp_all := by
  have nd := sc__law_all.nd
  refine F.ok sc__law_all (fun vs H Q E h => ?_) (fun cdv A outer s H vs Q E hr h => ?_)
  · obtain ⟨_, _, _, _, _, rfl, _⟩ := h
    rfl
  · obtain ⟨pl, pb, lot, text, most, rfl, hLA, hlen, hpb, hmost, hm400, ret⟩ := h
    obtain ⟨hp, hL⟩ := id hLA
    have hfew := hL.few
    have hL0 : 0 < lot.length := List.length_pos_iff.mpr hL.ne
    refine ⟨_, (pss_cons (ps_par (i := 4) (j := 5) rfl nd rfl rfl (by decide) rfl rfl (pa_cons (pe_lst pa_nil) (pa_cons (pe_lst (pa_cons (pe_tup (pa_cons (pe_lst pa_nil) (pa_cons pe_int pa_nil))) pa_nil)) pa_nil)) (by rfl))
  (pss_cons (ps_for PassesOwn.never rfl (pi_range1 (by rfl) M.n_range (pa_cons (pe_op op_add pe_int (pe_op op_mulB (pe_op op_mulB (pe_op op_add (pv 3) pe_int) (pe_op op_add (pe_callB cr_lenT (by rfl) M.n_len boot_len (pa_cons (pv 1) pa_nil)) pe_int)) (pe_callB (kcr K (r := rLenS) call_len_seq) (by rfl) M.n_len boot_len (pa_cons (pv 0) pa_nil)))) pa_nil)) (pg_name (i := 6) nd rfl (Or.inl rfl))
  (pss_cons (ps_if (PW.pt (pw_or (pt_cmpR (kop K (r := rEqD) (op_eqD hr.units)) (pv 5) (pe_lst pa_nil) (nomark _)) (pw_or1 (pt_cmpR op_eqI (pe_callB (kcr K (r := rLenS) call_len_seq) (by rfl) M.n_len boot_len (pa_cons (pv 4) pa_nil)) (pv 3) (nomark _)))))
  (pss_one ps_break)
  pss_nil)
  (pss_cons (ps_asg (kbm0 K (pe_bm0 PySem.F.plainAttrs_list PySem.F.slot_list_pop PySem.F.type_list_pop mt_pop (pv 5))) (kgt K (n := 2) (pg_tup rfl (pgs_cons (pg_name (i := 7) nd rfl (Or.inl rfl)) (pgs_cons (pg_name (i := 8) nd rfl (Or.inl rfl)) pgs_nil)))))
  (pss_one (ps_if (pt_cmpR op_eqI (pv 8) (pe_callB cr_lenT (by rfl) M.n_len boot_len (pa_cons (pv 1) pa_nil)) (nomark _))
  (pss_one (ps_expr (kbm K (pe_bm PySem.F.plainAttrs_list PySem.F.slot_list_append PySem.F.type_list_append mt_append (pv 4) (pa_cons (pv 7) pa_nil)))))
  (pss_one (ps_for PassesOwn.never rfl (pi_revR (by rfl) M.n_reversed (prg_1 (by rfl) M.n_range (pe_callB (kcr K (r := rLenS) call_len_seq) (by rfl) M.n_len boot_len (pa_cons (pv 0) pa_nil)))) (pg_name (i := 9) nd rfl (Or.inl rfl))
  (pss_cons (ps_set (i := 10) nd rfl (Or.inl rfl) (pe_op op_add (pv 8) (pe_callB cr_lenT (by rfl) M.n_len boot_len (pa_cons (pe_ix (kix K (r := L2.rIxT) ix_tup) (pv 0) (pv 9) (fun _ _ => rfl)) pa_nil))))
  (pss_one (ps_if (PW.pt (pw_and (pt_cmpR op_le (pv 10) (pe_callB cr_lenT (by rfl) M.n_len boot_len (pa_cons (pv 1) pa_nil)) (nomark _)) (pw_and (pt_cmpR op_gt (pe_ix (kix K (r := L2.rIxL) ix_list) (pv 2) (pv 10) (fun _ _ => rfl)) pe_int (nomark _)) (pw_and1 (pt_cmpR op_eqT (pe_slice sl_T (pv 1) (po_some (pv 8)) (po_some (pv 10))) (pe_ix (kix K (r := L2.rIxT) ix_tup) (pv 0) (pv 9) (fun _ _ => rfl)) (nomark _))))))
  (pss_one (ps_expr (kbm K (pe_bm PySem.F.plainAttrs_list PySem.F.slot_list_append PySem.F.type_list_append mt_append (pv 5) (pa_cons (pe_tup (pa_cons (pe_op op_cat (pv 7) (pe_lst (pa_cons (pv 9) pa_nil))) (pa_cons (pv 10) pa_nil))) pa_nil)))))
  pss_nil))))))))))
  (pss_one (ps_ret (pv 4))))), ?_⟩
    have lenT : ∀ {σ : L2.St} {H' : Hp}, σ[1]? = some (some (T text)) → Ev (tCB rLenT (tCons (tVar 1) tNil)) σ H' (.int (text.length : Int)) := fun h0 => ev_cb (ea_cons (ev_var h0) ea_nil) (rc_lenT (by omega))
    refine ⟨by decide, fun pf hpf => ⟨by decide, fun c0 hc0 => ⟨by show 2 ≤ sizeLine; decide, fun t0 ht0 => ⟨by show 1 ≤ sizeLine; decide, fun pw hpw => ⟨.ref pf, .ref pw, rfl, ?_⟩⟩⟩⟩⟩
    have e1 := Ex.new (o := HO.lst []) hpf
    have e2 := Ex.new (o := HO.lst []) hc0
    have e3 := Ex.new (o := HO.tup [.ref c0, .int 0]) ht0
    have e4 := Ex.new (o := HO.lst [.ref t0]) hpw
    have nfw : pf ≠ pw := ne_of_none ((e2.trans e3) _ _ (upd_same (H := H) (a := pf))) hpw
    have eA : Ex H (upd (upd (upd (upd H pf (.lst [])) c0 (.lst [])) t0 (.tup [.ref c0, .int 0])) pw (.lst [.ref t0])) := ((e1.trans e2).trans e3).trans e4
    have hpw0 : H pw = none := fresh_back ((e1.trans e2).trans e3) hpw
    have pile0 : PileAt H (upd (upd (upd (upd H pf (.lst [])) c0 (.lst [])) t0 (.tup [.ref c0, .int 0])) pw (.lst [.ref t0])) pf pw [] [([], 0)] := by
      refine ⟨⟨[], ((e2.trans e3).trans e4) _ _ upd_same, .nil⟩, [t0], upd_same, .one ⟨c0, e4 _ _ upd_same, (e3.trans e4) _ _ upd_same, fresh_back e1 hc0, (ne_of_none upd_same hc0).symm, ne_of_none (e3 _ _ upd_same) hpw⟩⟩
    generalize upd (upd (upd (upd H pf (.lst [])) c0 (.lst [])) t0 (.tup [.ref c0, .int 0])) pw (.lst [.ref t0]) = H1 at eA pile0 ⊢
    clear e1 e2 e3 e4 hc0 ht0 hpw
    show tSeq _ _ _ [some (.ref pl), some (T text), some (.ref pb), some (.int (most : Int)), some (.ref pf), some (.ref pw), none, none, none, none, none] H1
    -- the ends of the loop
    have fin : ∀ {H' : Hp} {fs : List (List Nat)} {stk : List Ent} {v6 v7 v8 v9 v10 : Option V}, Ex H H' → PileAt H H' pf pw fs stk → fs = (cutsAt lot text 0).take most → tRet (tVar 4) { nx := fun _ H' => Q .non H', rt := Q } [some (.ref pl), some (T text), some (.ref pb), some (.int (most : Int)), some (.ref pf), some (.ref pw), v6, v7, v8, v9, v10] H' := fun {H' fs stk _ _ _ _ _} ex pa hf => by
      subst hf
      obtain ⟨ps, f1, f2⟩ := (pa.ex (Ex.refl _)).f
      exact s_ret (ev_var rfl) fun H2 e2 => ret pf H2 ps hpf (ex.trans e2) (e2 _ _ f1) (f2.mono fun a c r => ⟨e2 _ _ r.1, r.2.1, r.2.2.1⟩)
    obtain ⟨N, hN⟩ : ∃ N : Nat, N = 1 + (most + 1) * (text.length + 1) * lot.length := ⟨_, rfl⟩
    have hb1 : (most + 1) * (text.length + 1) ≤ 401 * 401 := Nat.mul_le_mul (by omega) (by omega)
    have hb2 : (most + 1) * (text.length + 1) * lot.length ≤ 401 * 401 * 12 := Nat.mul_le_mul hb1 (by omega)
    have hb3 : (most + 1) * (text.length + 1) ≤ (most + 1) * (text.length + 1) * lot.length := Nat.le_mul_of_pos_right _ hL0
    have hb4 : (most + 1) * (text.length + 1) = most * (text.length + 1) + (text.length + 1) := Nat.succ_mul _ _
    have hcnt : EvA (tCons (tOp (rI0 fun i j => .int (i + j)) (tC (.int 1)) (tOp (rI CMulB fun i j => .int (i * j)) (tOp (rI CMulB fun i j => .int (i * j)) (tOp (rI0 fun i j => .int (i + j)) (tVar 3) (tC (.int 1))) (tOp (rI0 fun i j => .int (i + j)) (tCB rLenT (tCons (tVar 1) tNil)) (tC (.int 1)))) (tCB (rLenS K) (tCons (tVar 0) tNil)))) tNil) [some (.ref pl), some (T text), some (.ref pb), some (.int (most : Int)), some (.ref pf), some (.ref pw), none, none, none, none, none] H1 [.int (N : Int)] := by
      refine ea_cons (ev_is (ev_op ev_c (ev_op (ev_op (x := .int ((most + 1 : Nat) : Int)) (y := .int ((text.length + 1 : Nat) : Int)) (ev_op (ev_var rfl) ev_c rv_I0) (ev_op (lenT rfl) ev_c rv_I0) (rv_I (mulB (a := 9) (b := 9) (by rw [Int.natAbs_natCast]; omega) (by rw [Int.natAbs_natCast]; omega) (by decide) (by decide) (by decide)))) (ev_is (ev_lenU (ev_var rfl) (st_of (eA _ _ hp))) (by rw [List.length_map])) (rv_I (mulB (a := 20) (b := 9) ?_ ?_ (by decide) (by decide) (by decide)))) rv_I0) ?_) ea_nil
      · rw [← Int.natCast_mul, Int.natAbs_natCast]
        exact Nat.lt_of_le_of_lt hb1 (by decide)
      · rw [Int.natAbs_natCast]
        omega
      · rw [hN]
        congr 1
    refine q_forW (Two pf pw) (src_range1 (n := N) hcnt (by omega)) ?_
      (fun Hs i σ' H' => ∃ (stk : List Ent) (fs : List (List Nat)) (s : Nat) (v6 v7 v8 v9 v10 : Option V), σ' = [some (.ref pl), some (T text), some (.ref pb), some (.int (most : Int)), some (.ref pf), some (.ref pw), v6, v7, v8, v9, v10] ∧ Exc (Two pf pw) Hs H' ∧ Ex H H' ∧ PileAt H H' pf pw fs stk ∧ fs ++ remS lot text stk = cutsAt lot text 0 ∧ fs.length ≤ most ∧ i ≤ fs.length * (text.length + 1) + s ∧ s ≤ text.length ∧ (∀ e ∈ stk, e.2 ≤ text.length ∧ e.1.length ≤ e.2 ∧ (0 < most → cutsAt lot text e.2 ≠ [])) ∧ (∀ e, stk.getLast? = some e → s ≤ e.2) ∧ ∀ m e, stk[m]? = some e → m ≤ 12 * e.1.length) ?_ ?_ ?_ ?_ ?_
    · rintro c (rfl | rfl)
      · obtain ⟨ps, f1, _⟩ := pile0.f
        exact ⟨by rw [f1]; exact fun z => (nomatch z), fun z => z⟩
      · obtain ⟨ts, w1, _⟩ := pile0.w
        exact ⟨by rw [w1]; exact fun z => (nomatch z), fun z => z⟩
    · intro Hs e
      refine ⟨[([], 0)], [], 0, none, none, none, none, none, rfl, Exc.refl _, eA.trans e, pile0.ex e, ?_, Nat.zero_le _, Nat.zero_le _, Nat.zero_le _, fun x hx => ?_, fun x _ => Nat.zero_le _, fun m x hx => ?_⟩
      · rw [rem_one, List.nil_append]
        show (cutsAt lot text 0).map (fun t => [] ++ t) = _
        simp
      · rw [List.mem_singleton.mp hx]
        refine ⟨Nat.zero_le _, Nat.zero_le _, fun hm z => ?_⟩
        rw [z] at hmost
        have : most ≤ 0 := hmost
        omega
      · have hl := (List.getElem?_eq_some_iff.mp hx).1
        simp at hl
        omega
    · rintro Hs i σ' H' ⟨_, _, _, _, _, _, _, _, _, h, _⟩
      exact h
    · rintro Hs i σ' Ha Hb ⟨stk, fs, s, v6, v7, v8, v9, v10, h0, h1, h2, h3, h4⟩ e
      exact ⟨stk, fs, s, v6, v7, v8, v9, v10, h0, h1.then e, h2.trans e, h3.ex e, h4⟩
    · rintro Hs i y σ' H' e hi ⟨stk, fs, s, v6, v7, v8, v9, v10, rfl, h1, h2, h3, h4, h5, h6, h7, h8, h9, h10⟩ rfl
      show tSeq _ _ _ [some (.ref pl), some (T text), some (.ref pb), some (.int (most : Int)), some (.ref pf), some (.ref pw), some (.int (i : Int)), v7, v8, v9, v10] H'
      obtain ⟨ts, w1, w2⟩ := id h3.w
      obtain ⟨ps, f1, f2⟩ := id h3.f
      have hfl : ps.length = fs.length := f2.len
      have hempty : Ev (tOp (rEqD K) (tVar 5) (tLst tNil)) [some (.ref pl), some (T text), some (.ref pb), some (.int (most : Int)), some (.ref pf), some (.ref pw), some (.int (i : Int)), v7, v8, v9, v10] H' (.bl (decide (stk = []))) := fun H3 e3 Q3 q3 => ⟨.ref pw, rfl, by decide, fun pe hpe => by
        have hpx := (h3.ex (e3.trans (Ex.new (o := HO.lst []) hpe))).w
        obtain ⟨ts2, x1, x2⟩ := hpx
        refine rv_eqD (b := decide (stk = [])) (d := .list (stk.map entD)) (e := .list []) (fun H4 e4 => .lst (sq_of (e4 _ _ x1)) (DpAll.ex e4 (dp_pile x2))) (fun H4 e4 => .lst (sq_of (e4 _ _ upd_same)) .nil) (shaped_list (m := 3) (fun x _ => lay_ent x) (fun x _ => depth_ent x) (by decide)) (by decide) ?_ _ (Ex.refl _) _ fun H4 e4 => q3 H4 ((Ex.new hpe).trans e4)
        cases stk <;> rfl⟩
      refine q_when (b := decide (stk = []) || decide (fs.length = most)) (et_or (et_test hempty) fun _ => et_is (et_test (ev_op (ev_len (ev_var rfl) (sq_of f1)) (ev_var rfl) rv_I0)) (by rw [List.length_map, hfl]; exact decide_eq_decide.mpr (by omega))) (fun hb H3 e3 => ?_) (fun hb H3 e3 => ?_)
      · -- the end
        refine fin (h2.trans e3) (h3.ex e3) ?_
        rw [Bool.or_eq_true, decide_eq_true_eq, decide_eq_true_eq] at hb
        rcases hb with z | z
        · subst z
          have h4' : fs = cutsAt lot text 0 := by
            rw [← h4]
            unfold remS
            simp
          rw [← h4', List.take_of_length_le]
          rw [h4'] at h5 ⊢
          omega
        · rw [← h4, ← z, List.take_left]
      · rw [Bool.or_eq_false_iff, decide_eq_false_iff_not, decide_eq_false_iff_not] at hb
        obtain ⟨hb1', hb2'⟩ := hb
        obtain ⟨stk', en, rfl⟩ : ∃ stk' en, stk = stk' ++ [en] := ⟨stk.dropLast, stk.getLast hb1', (List.dropLast_concat_getLast hb1').symm⟩
        obtain ⟨c, p⟩ := en
        have hm0 : 0 < most := by omega
        obtain ⟨hpn, hcp, hpc⟩ := h8 (c, p) (List.mem_append_right _ (List.mem_singleton.mpr rfl))
        have hpc := hpc hm0
        have hsp : s ≤ p := h9 (c, p) (by simp)
        have hcp : c.length ≤ p := hcp
        have hsl : stk'.length ≤ 12 * c.length := h10 stk'.length (c, p) (by simp)
        have h10' : ∀ m e, stk'[m]? = some e → m ≤ 12 * e.1.length := fun m e he => h10 m e (by rw [List.getElem?_append_left (List.getElem?_eq_some_iff.mp he).1]; exact he)
        have h8' : ∀ e ∈ stk', e.2 ≤ text.length ∧ e.1.length ≤ e.2 ∧ (0 < most → cutsAt lot text e.2 ≠ []) := fun e he => h8 e (List.mem_append_left _ he)
        have hpn : p ≤ text.length := hpn
        have hpc : cutsAt lot text p ≠ [] := hpc
        rw [rem_push] at h4
        obtain ⟨xs, t, ca, y1, y2, y3, y4, y5⟩ := (h3.ex e3).less nfw
        refine q_popP (i := 5) (a := 7) (b := 8) rfl y1 y2 ?_
        have eB : Ex H (upd H3 pw (.lst xs)) := Ex.mut (h2.trans e3) hpw0
        have xB : Exc (Two pf pw) Hs (upd H3 pw (.lst xs)) := (h1.then e3).upd (.inl (.inr rfl))
        generalize upd H3 pw (.lst xs) = H4 at y4 y5 eB xB ⊢
        have y5 : FR H H4 pf pw ca c := y5
        clear y1 y2 y3 h3 w1 w2 f1 f2 hempty h8 h9 h10
        show tIfS _ _ _ _ [some (.ref pl), some (T text), some (.ref pb), some (.int (most : Int)), some (.ref pf), some (.ref pw), some (.int (i : Int)), some (.ref ca), some (.int (p : Int)), v9, v10] H4
        refine s_if (b := decide (p = text.length)) (et_is (et_test (ev_op (ev_var rfl) (lenT rfl) rv_I0)) (decide_eq_decide.mpr (by omega))) (fun hb H5 e5 => ?_) (fun hb H5 e5 => ?_)
        · -- a cut
          have hpe := of_decide_eq_true hb
          subst hpe
          obtain ⟨ps5, f1, f2⟩ := (y4.ex e5).f
          refine s_app f1 (ev_var rfl) (ev_var rfl) (by rw [List.length_map, f2.len]; omega) fun H6 e6 => ?_
          have y6 := (y4.ex (e5.trans e6)).found nfw (y5.go (.of (e5.trans e6))) (e6 _ _ f1)
          refine ⟨stk', fs ++ [c], 0, _, _, _, _, _, rfl, (xB.then (e5.trans e6)).upd (.inl (.inl rfl)), Ex.mut (eB.trans (e5.trans e6)) hpf, y6, ?_, by rw [List.length_append, List.length_singleton]; omega, ?_, Nat.zero_le _, h8', fun x _ => Nat.zero_le _, h10'⟩
          · rw [← h4, cuts_last, List.append_assoc]
            congr 1
            simp
          · rw [List.length_append, List.length_singleton, Nat.succ_mul]
            omega
        · -- further words
          have hpl : p < text.length := by
            have := of_decide_eq_false hb
            omega
          have y6 := y4.ex e5
          have eC := eB.trans e5
          have xC := xB.then e5
          have z5 := y5.go (.of e5)
          clear hb
          refine s_forW (fun x => x = pw) (src_revR (ev_is (ev_lenU (ev_var rfl) (st_of (eC _ _ hp))) (by rw [List.length_map])) (by omega)) ?_
            (fun Ht j σ' H9 => ∃ (v9 v10 : Option V), σ' = [some (.ref pl), some (T text), some (.ref pb), some (.int (most : Int)), some (.ref pf), some (.ref pw), some (.int (i : Int)), some (.ref ca), some (.int (p : Int)), v9, v10] ∧ Exc (fun x => x = pw) Ht H9 ∧ Ex H H9 ∧ Exc (Two pf pw) Hs H9 ∧ FR H H9 pf pw ca c ∧ PileAt H H9 pf pw fs (stk' ++ pushed lot text c p j)) ?_ ?_ ?_ ?_ ?_
          · rintro x rfl
            obtain ⟨ts, w1, _⟩ := y6.w
            exact ⟨by rw [w1]; exact fun z => (nomatch z), fun z => z⟩
          · intro Ht e9
            exact ⟨_, _, rfl, Exc.refl _, eC.trans e9, xC.then e9, z5.go (.of e9), by rw [pushed_zero, List.append_nil]; exact y6.ex e9⟩
          · rintro Ht j σ' H9 ⟨_, _, _, z, _⟩
            exact z
          · rintro Ht j σ' Ha Hb ⟨v9, v10, z0, z1, z2, z3, z4, z5⟩ e
            exact ⟨v9, v10, z0, z1.then e, z2.trans e, z3.then e, z4.go (.of e), z5.ex e⟩
          · rintro Ht j y σ' H9 e9 hj ⟨v9, v10, rfl, z1, z2, z3, z4, z6⟩ rfl
            obtain ⟨idx, hidx⟩ : ∃ idx : Nat, (lot.length : Int) - 1 - (j : Int) = (idx : Int) := ⟨lot.length - 1 - j, by omega⟩
            have hid : lot.length - 1 - j = idx := by omega
            have hil : idx < lot.length := by omega
            have hw1 := List.getElem?_eq_getElem hil
            have hlw : lot[idx].length ≤ 12 := (hL.wd _ (List.getElem_mem hil)).1
            have hps := pushed_succ (c := c) (p := p) (text := text) hj
            rw [hid] at hps
            have hst : stands lot text p idx = decide (p + lot[idx].length ≤ text.length ∧ StAt text lot[idx] p) := by
              unfold stands
              rw [hw1]
            show tSeq _ _ _ [some (.ref pl), some (T text), some (.ref pb), some (.int (most : Int)), some (.ref pf), some (.ref pw), some (.int (i : Int)), some (.ref ca), some (.int (p : Int)), some (.int ((lot.length : Int) - 1 - (j : Int))), v10] H9
            rw [hidx]
            have ixw : ∀ {σ : L2.St} {Hb : Hp}, Ex H9 Hb → σ[0]? = some (some (.ref pl)) → σ[9]? = some (some (.int (idx : Int))) → Ev (tOp (L2.rIxT K) (tVar 0) (tVar 9)) σ Hb (T lot[idx]) := fun eb g0 g7 => ev_op (ev_var g0) (ev_var g7) (rv_ixT (st_of ((z2.trans eb) _ _ hp)) (atI_nat (by rw [List.getElem?_map, hw1]; rfl)))
            refine q_asg (v := .int ((p + lot[idx].length : Nat) : Int)) (ev_op (ev_var rfl) (ev_cb (ea_cons (ixw (Ex.refl _) rfl rfl) ea_nil) (rc_lenT (by omega))) rv_I0) fun Ha ea => ?_
            show tIfS _ _ _ _ [some (.ref pl), some (T text), some (.ref pb), some (.int (most : Int)), some (.ref pf), some (.ref pw), some (.int (i : Int)), some (.ref ca), some (.int (p : Int)), some (.int (idx : Int)), some (.int ((p + lot[idx].length : Nat) : Int))] Ha
            have hgood : goodW lot text p idx = (decide (p + lot[idx].length ≤ text.length) && (decide (0 < (cutsAt lot text (p + lot[idx].length)).length) && decide (StAt text lot[idx] p))) := by
              unfold goodW
              rw [hst, wl_of hw1]
              rw [Bool.decide_and]
              generalize decide (p + lot[idx].length ≤ text.length) = b1
              generalize decide (StAt text lot[idx] p) = b2
              generalize decide (0 < (cutsAt lot text (p + lot[idx].length)).length) = b3
              cases b1 <;> cases b2 <;> cases b3 <;> rfl
            refine s_when (b := goodW lot text p idx) (et_is (et_andG (a := decide (p + lot[idx].length ≤ text.length)) (b := goodW lot text p idx) (et_is (et_test (ev_op (ev_var rfl) (lenT rfl) rv_I0)) (decide_eq_decide.mpr Int.ofNat_le)) (fun hq => ?_) (fun hq => by rw [hgood, hq]; rfl)) rfl) (fun hg Hb eb => ?_) (fun hg Hb eb => ?_)
            · have hq := of_decide_eq_true hq
              refine et_is (et_andI (et_test (ev_op (ev_op (ev_var rfl) (ev_var rfl) (rv_ixL (sq_of ((z2.trans ea) _ _ hpb)) (atI_nat (beh_at hq)))) ev_c rv_I0)) fun _ => et_test (ev_op (ev_slT (ev_var rfl) (eo_some (ev_var rfl)) (eo_some (ev_var rfl)) (by omega)) (ixw ea rfl rfl) rv_eqT)) ?_
              rw [cutT_mid, Nat.add_sub_cancel_left, hgood, decide_eq_true hq, Bool.true_and]
              congr 1
              exact decide_eq_decide.mpr (by omega)
            · -- pushed
              rw [if_pos hg, wl_of hw1] at hps
              obtain ⟨ts, w1, w2⟩ := (z6.ex (ea.trans eb)).w
              have zc := z4.go (.of (ea.trans eb))
              have hcl : c.length ≤ 400 := by omega
              have hpj := pushed_len lot text c p j
              refine s_appT (i := 5) rfl w1 ?_
              refine (el_catVN (ev_var rfl) (zc.1) (el_lst (ea_cons (ev_var rfl) ea_nil) (by show 1 ≤ 100000; decide)) (by unfold numV; rw [List.length_map]; show _ + 1 ≤ _; omega) : EvL (tOp rCat (tVar 7) (tLst (tCons (tVar 9) tNil))) [some (.ref pl), some (T text), some (.ref pb), some (.int (most : Int)), some (.ref pf), some (.ref pw), some (.int (i : Int)), some (.ref ca), some (.int (p : Int)), some (.int (idx : Int)), some (.int ((p + lot[idx].length : Nat) : Int))] Hb (numV c ++ [.int (idx : Int)])) Hb (Ex.refl _) _ fun cn Hd hcn ed hd => ⟨_, rfl, by show 2 ≤ sizeLine; decide, fun tn htn => ?_⟩
              have eN := Ex.new (o := HO.tup [.ref cn, .int ((p + lot[idx].length : Nat) : Int)]) htn
              have eAll := (ea.trans eb).trans (ed.trans eN)
              have eN2 := ed.trans eN
              refine ⟨pw, ts.map V.ref, .ref tn, rfl, rfl, eN2 _ _ w1, sz_lt (by rw [List.length_map, w2.len, List.length_append]; omega), ?_⟩
              have hcn0 : H cn = none := fresh_back (z2.trans (ea.trans eb)) hcn
              obtain ⟨psx, g1, _⟩ := (z6.ex (ea.trans eb)).f
              have nf : cn ≠ pf := (ne_of_none g1 hcn).symm
              have nw : cn ≠ pw := (ne_of_none w1 hcn).symm
              have hpile := (z6.ex eAll).more (t := tn) (e := (c ++ [idx], p + lot[idx].length)) nfw ⟨cn, upd_same, by rw [numV_app]; exact eN _ _ hd, hcn0, nf, nw⟩ (eN2 _ _ w1)
              refine ⟨_, _, rfl, (z1.then eAll).upd (.inl rfl), Ex.mut (z2.trans eAll) hpw0, (z3.then eAll).upd (.inl (.inr rfl)), ?_, ?_⟩
              · exact (z4.go (.of eAll)).go ((Exc.refl _).upd (.inl (.inr rfl)))
              · rw [hps, ← List.append_assoc]
                exact hpile
            · rw [if_neg (by rw [hg]; exact Bool.false_ne_true), List.append_nil] at hps
              rw [hps]
              have eAll := ea.trans eb
              exact ⟨_, _, rfl, z1.then eAll, z2.trans eAll, z3.then eAll, z4.go (.of eAll), z6.ex eAll⟩
          · rintro Ht σ' H9 e9 ⟨v9, v10, rfl, z1, z2, z3, z4, z6⟩
            have hrem := pushed_all hL.pos (c := c) hpl
            have hne : pushed lot text c p lot.length ≠ [] := fun z => by
              rw [z] at hrem
              have : (cutsAt lot text p).map (c ++ ·) = [] := hrem.symm.trans (by unfold remS; simp)
              exact hpc (List.map_eq_nil_iff.mp this)
            refine ⟨stk' ++ pushed lot text c p lot.length, fs, p + 1, _, _, _, _, _, rfl, z3, z2, z6, ?_, h5, by omega, hpl, fun e he => ?_, fun e he => ?_, fun m e he => ?_⟩
            · rw [rem_app, hrem]
              exact h4
            · rcases List.mem_append.mp he with z | z
              · exact h8' e z
              · have := pushed_mem hL.pos z
                have h1st := pushed_fst z
                exact ⟨this.2.1, by omega, fun _ => this.2.2⟩
            · obtain ⟨l, x, hlx⟩ : ∃ l x, pushed lot text c p lot.length = l ++ [x] := ⟨_, _, (List.dropLast_concat_getLast hne).symm⟩
              have hx : x ∈ pushed lot text c p lot.length := by rw [hlx]; simp
              rw [hlx, ← List.append_assoc, List.getLast?_concat] at he
              cases he
              exact (pushed_mem hL.pos hx).1
            · by_cases hm : m < stk'.length
              · rw [List.getElem?_append_left hm] at he
                exact h10' m e he
              · rw [List.getElem?_append_right (by omega)] at he
                have hl := (List.getElem?_eq_some_iff.mp he).1
                have h1st := pushed_fst (List.mem_of_getElem? he)
                have hpj := pushed_len lot text c p lot.length
                omega
    · rintro Hs σ' H' e ⟨stk, fs, s, v6, v7, v8, v9, v10, rfl, h1, h2, h3, h4, h5, h6, h7, h8, h9, h10⟩
      exfalso
      have := Nat.mul_le_mul_right (text.length + 1) h5
      omega
end
end K03
set_option Elab.async false
set_option linter.all false
set_option maxRecDepth 100000
set_option maxHeartbeats 2000000
namespace K03
open PySem PySem.Spec PyProof.Rows L2 Evl Wc Wt Wg
theorem rc_err {K : PySem.W.Frag} {D a B : Addr} {b : Bool} {H : Hp} (h : PySem.W.kitOne K (.ref D) (.ref B) = some b) : RC (rIsE2 K D a (.ref D) none) [.ref a, .ref B] H (.bl b) := fun H1 _ _ q => is_err h (q H1 (Ex.refl _))
/-- the two errors and their base -/
structure ErrT (K : PySem.W.Frag) (mg : Str → Option Value) (CE CN CB : Addr) : Prop where
  xE : Err K mg "TooMany" CE
  xN : Err K mg "BadNumber" CN
  iE : ErrI K CE
  iN : ErrI K CN
  gE : ∃ u, mg "TooMany" = some u ∧ RelV (.ref CE) u
  gN : ∃ u, mg "BadNumber" = some u ∧ RelV (.ref CN) u
  gB : ∃ u, mg "CutError" = some u ∧ RelV (.ref CB) u
  eb : PySem.W.kitOne K (.ref CE) (.ref CB) = some true
  en : PySem.W.kitOne K (.ref CE) (.ref CN) = some false
  nb : PySem.W.kitOne K (.ref CN) (.ref CB) = some true
  ne : PySem.W.kitOne K (.ref CN) (.ref CE) = some false
abbrev tMany : Tx := [109, 97, 110, 121]
abbrev tTold : Tx := [116, 111, 108, 100]
section
variable {P : Program} {w : World} {K : PySem.W.Frag} {mg : Str → Option Value} {base : Heap}
def sp_told : Sp := fun vs H Q _ => ∃ (pl : Addr) (lot : List Tx) (text : Tx), vs = [.ref pl, T text] ∧ LotAt pl lot H ∧ text.length ≤ 400 ∧ (∀ c ∈ text, abcd c) ∧
  (300 < (cutsAt lot text 0).length → ∀ p H', Ex H H' → H' p = some (.tup [T tMany, .bl true]) → Q (.ref p) H') ∧
  ((cutsAt lot text 0).length ≤ 300 → ∀ p q H' ps, Ex H H' → H' p = some (.tup [T tTold, .ref q]) → H q = none → H' q = some (.lst (ps.map V.ref)) → ps.length = (cutsAt lot text 0).length → News H H' (fun i => .lst (numV ((cutsAt lot text 0).getD i []))) ps → q ∉ ps → Q (.ref p) H')
theorem ok__law_told {f CE CN CB : Addr} {fd : FuncData} (F : Fun K "_law_told" "_law_told" st__law_told f fd) (M : Md K mg) (X : ErrT K mg CE CN CB) (S_cuts_of : CalS P w K mg base "cuts_of" st_cuts_of 6 ["lot", "text"] (sp_cuts_of CE)) : FnOk P w K mg base CX0 7 f fd ["lot", "text"] sp_told := by
  have nd := sc__law_told.nd
  refine F.ok sc__law_told (fun vs H Q E h => ?_) (fun cdv A outer s H vs Q E hr h => ?_)
  · obtain ⟨_, _, _, rfl, _⟩ := h
    rfl
  · obtain ⟨pl, lot, text, rfl, hL, h1, h2, k1, k2⟩ := h
    refine ⟨_, pss_cons (ps_set (i := 2) nd rfl (Or.inl rfl) (pe_tup (pa_cons (pe_sT tMany) (pa_cons pe_bl pa_nil))))
      (pss_cons (ps_try_as (i := 3) (tb := fun W => tAsg (tTup (tCons (tC (T tTold)) (tCons (tCallS (sp_cuts_of CE) (WE W) (tCons (tVar 0) (tCons (tVar 1) tNil))) tNil))) (gName 2)) (ts := fun a cls d => tAsg (tTup (tCons (tC (T tMany)) (tCons (tAndV (tCB (rIsE2 K CE a cls d) (tCons (tVar 3) (tCons (tC (.ref CB)) tNil))) (tNotV (tCB (rIsE2 K CE a cls d) (tCons (tVar 3) (tCons (tC (.ref CN)) tNil))))) tNil))) (gName 2)) (Wout := fun _ _ _ _ => False) rfl rfl nd rfl rfl ⟨rfl, by decide, Or.inl X.xE.gP⟩ takes0
          (fun W pn xe tk _ => pss_one (ps_set (i := 2) nd rfl (Or.inl rfl) (by exact (pe_tup (pa_cons (pe_sT tTold) (pa_cons (pe_clS S_cuts_of hr tk (by exact (pa_cons (pv 0) (pa_cons (pv 1) pa_nil)))) pa_nil))))))
          (fun a oe cls d pn hz hf => pss_one (ps_set (i := 2) nd rfl (Or.inl rfl) (by exact (pe_tup (pa_cons (pe_sT tMany) (pa_cons (pe_and (pe_callB (call_isE2 X.iE.cl hz hf) (by rfl) M.n_isinstance boot_isinstance (pa_cons (pv 3) (pa_cons (C8.pe_gc rfl X.gB) pa_nil))) (pe_one (pe_not (pe_callB (call_isE2 X.iE.cl hz hf) (by rfl) M.n_isinstance boot_isinstance (pa_cons (pv 3) (pa_cons (C8.pe_gc rfl X.gN) pa_nil)))))) pa_nil)))))))
      (pss_one (ps_ret (pv 2)))), ?_⟩
    refine q_asgU (xs := [T tMany, .bl false]) (eu_tup (ea_cons ev_c (ea_cons ev_c ea_nil)) (by show 2 ≤ 100000; decide)) fun t0 H1 ht0 e1 _ => ?_
    show tSeq _ _ _ [some (.ref pl), some (T text), some (.ref t0), none] H1
    refine ⟨.ref pl, rfl, T text, rfl, pl, lot, text, rfl, hL.ex e1, h1, h2, fun hle q H2 ps hq e2 hq2 hl hn hnq => ?_, fun hgt H' e' => ?_⟩
    · exact ⟨by show 2 ≤ sizeLine; decide, fun p hp => ⟨.ref p, rfl, k2 hle p q _ ps ((e1.trans e2).trans (Ex.new hp)) upd_same (fresh_back e1 hq) ((Ex.new hp) _ _ hq2) hl ⟨fun x hx => fresh_back e1 (hn.new x hx), fun i x hx => (Ex.new hp) _ _ (hn.at_ i x hx), hn.nd⟩ hnq⟩⟩
    · refine ⟨true, X.iE.te, fun _ a ha => ?_, fun z => Bool.noConfusion z⟩
      refine s_asgU (xs := [T tMany, .bl true]) (eu_tup (ea_cons ev_c (ea_cons (ev_is (ev_andV (ev_cb (ea_cons (ev_var rfl) (ea_cons ev_c ea_nil)) (rc_err X.eb)) fun _ => ev_notV (ev_cb (ea_cons (ev_var rfl) (ea_cons ev_c ea_nil)) (rc_err X.en))) rfl) ea_nil)) (by show 2 ≤ 100000; decide)) fun p H3 hp e3 h3 => ⟨.ref p, rfl, k1 hgt p H3 ((e1.trans e').trans e3) h3⟩
def sp_beyond : Sp := fun vs H Q _ => ∃ (pl : Addr) (lot : List Tx) (text : Tx) (k : Int), vs = [.ref pl, T text, .int k] ∧ LotAt pl lot H ∧ text.length ≤ 400 ∧ (∀ c ∈ text, abcd c) ∧ ¬ (0 ≤ k ∧ k ≤ ((cutsAt lot text 0).length : Int) - 1) ∧ RetV (.bl true) H Q
theorem ok__law_beyond {f CE CN CB : Addr} {fd : FuncData} (F : Fun K "_law_beyond" "_law_beyond" st__law_beyond f fd) (M : Md K mg) (X : ErrT K mg CE CN CB) (S_cut_at : CalS P w K mg base "cut_at" st_cut_at 6 ["lot", "text", "number"] (sp_cut_at CN)) : FnOk P w K mg base CX0 7 f fd ["lot", "text", "number"] sp_beyond := by
  have nd := sc__law_beyond.nd
  refine F.ok sc__law_beyond (fun vs H Q E h => ?_) (fun cdv A outer s H vs Q E hr h => ?_)
  · obtain ⟨_, _, _, _, rfl, _⟩ := h
    rfl
  · obtain ⟨pl, lot, text, k, rfl, hL, h1, h2, hout, ret⟩ := h
    refine ⟨_, pss_cons (ps_set (i := 3) nd rfl (Or.inl rfl) pe_bl)
      (pss_cons (ps_try_as (i := 4) (tb := fun W => tDrop (tCallS (sp_cut_at CN) (WE W) (tCons (tVar 0) (tCons (tVar 1) (tCons (tVar 2) tNil))))) (ts := fun a cls d => tAsg (tAndV (tCB (rIsE2 K CN a cls d) (tCons (tVar 4) (tCons (tC (.ref CB)) tNil))) (tNotV (tCB (rIsE2 K CN a cls d) (tCons (tVar 4) (tCons (tC (.ref CE)) tNil))))) (gName 3)) (Wout := fun _ _ _ _ => False) rfl rfl nd rfl rfl ⟨rfl, by decide, Or.inl X.xN.gP⟩ takes0
          (fun W pn xe tk _ => pss_one (ps_expr (by exact (pe_clS S_cut_at hr tk (by exact (pa_cons (pv 0) (pa_cons (pv 1) (pa_cons (pv 2) pa_nil))))))))
          (fun a oe cls d pn hz hf => pss_one (ps_set (i := 3) nd rfl (Or.inl rfl) (by exact (pe_and (pe_callB (call_isE2 X.iN.cl hz hf) (by rfl) M.n_isinstance boot_isinstance (pa_cons (pv 4) (pa_cons (C8.pe_gc rfl X.gB) pa_nil))) (pe_one (pe_not (pe_callB (call_isE2 X.iN.cl hz hf) (by rfl) M.n_isinstance boot_isinstance (pa_cons (pv 4) (pa_cons (C8.pe_gc rfl X.gE) pa_nil))))))))))
      (pss_one (ps_ret (pv 3)))), ?_⟩
    refine q_asg ev_c fun H1 e1 => ?_
    show tSeq _ _ _ [some (.ref pl), some (T text), some (.int k), some (.bl false), none] H1
    refine ⟨.ref pl, rfl, T text, rfl, .int k, rfl, pl, lot, text, k, rfl, hL.ex e1, h1, h2, fun n c hk hc => ?_, fun _ H' e' => ?_⟩
    · exfalso
      have := (List.getElem?_eq_some_iff.mp hc).1
      omega
    · refine ⟨true, X.iN.te, fun _ a ha => ?_, fun z => Bool.noConfusion z⟩
      exact s_asg (v := .bl true) (ev_is (ev_andV (ev_cb (ea_cons (ev_var rfl) (ea_cons ev_c ea_nil)) (rc_err X.nb)) fun _ => ev_notV (ev_cb (ea_cons (ev_var rfl) (ea_cons ev_c ea_nil)) (rc_err X.ne))) rfl) fun H3 e3 => ⟨.bl true, rfl, ret H3 ((e1.trans e').trans e3)⟩
def sp_too_long : Sp := fun vs H Q _ => ∃ (pl pc : Addr) (lot : List Tx) (c : List Nat), vs = [.ref pl, .ref pc] ∧ LotAt pl lot H ∧ H pc = some (.lst (numV c)) ∧ Ixs lot c ∧ c.length ≤ 400 ∧ 400 < (put lot c).length ∧ RetV (.bl true) H Q
theorem ok__law_too_long {f CE CN CB : Addr} {fd : FuncData} (F : Fun K "_law_too_long" "_law_too_long" st__law_too_long f fd) (M : Md K mg) (X : ErrT K mg CE CN CB) (S_cut_number : CalS P w K mg base "cut_number" st_cut_number 6 ["lot", "indexes"] (sp_cut_number CE)) : FnOk P w K mg base CX0 7 f fd ["lot", "indexes"] sp_too_long := by
  have nd := sc__law_too_long.nd
  refine F.ok sc__law_too_long (fun vs H Q E h => ?_) (fun cdv A outer s H vs Q E hr h => ?_)
  · obtain ⟨_, _, _, _, rfl, _⟩ := h
    rfl
  · obtain ⟨pl, pc, lot, c, rfl, hL, hc, hix, hcl, hgt, ret⟩ := h
    refine ⟨_, pss_cons (ps_set (i := 2) nd rfl (Or.inl rfl) pe_bl)
      (pss_cons (ps_try_as (i := 3) (tb := fun W => tDrop (tCallS (sp_cut_number CE) (WE W) (tCons (tVar 0) (tCons (tVar 1) tNil)))) (ts := fun a cls d => tAsg (tCB (rIsE2 K CE a cls d) (tCons (tVar 3) (tCons (tC (.ref CB)) tNil))) (gName 2)) (Wout := fun _ _ _ _ => False) rfl rfl nd rfl rfl ⟨rfl, by decide, Or.inl X.xE.gP⟩ takes0
          (fun W pn xe tk _ => pss_one (ps_expr (by exact (pe_clS S_cut_number hr tk (by exact (pa_cons (pv 0) (pa_cons (pv 1) pa_nil)))))))
          (fun a oe cls d pn hz hf => pss_one (ps_set (i := 2) nd rfl (Or.inl rfl) (by exact (pe_callB (call_isE2 X.iE.cl hz hf) (by rfl) M.n_isinstance boot_isinstance (pa_cons (pv 3) (pa_cons (C8.pe_gc rfl X.gB) pa_nil)))))))
      (pss_one (ps_ret (pv 2)))), ?_⟩
    refine q_asg ev_c fun H1 e1 => ?_
    show tSeq _ _ _ [some (.ref pl), some (.ref pc), some (.bl false), none] H1
    refine ⟨.ref pl, rfl, .ref pc, rfl, pl, pc, lot, c, rfl, hL.ex e1, e1 _ _ hc, hix, hcl, fun hle => absurd hgt (by omega), fun _ H' e' => ?_⟩
    refine ⟨true, X.iE.te, fun _ a ha => ?_, fun z => Bool.noConfusion z⟩
    exact s_asg (v := .bl true) (ev_cb (ea_cons (ev_var rfl) (ea_cons ev_c ea_nil)) (rc_err X.eb)) fun H3 e3 => ⟨.bl true, rfl, ret H3 ((e1.trans e').trans e3)⟩
end
end K03
set_option Elab.async false
set_option linter.all false
set_option maxRecDepth 100000
set_option maxHeartbeats 4000000
namespace K03
open PySem PySem.Spec PyProof.Rows L2 Evl Wc Wt Wg
/-! ### repr of a list of small ints -/
def dataC (c : List Nat) : PyData := .list (c.map fun (n : Nat) => PyData.int (n : Int))
theorem dp_c {K : PySem.W.Frag} {pc : Addr} {c : List Nat} {H : Hp} (h : H pc = some (.lst (numV c))) : Dp K H (.ref pc) (dataC c) := dp_list (f := fun (n : Nat) => V.int (n : Int)) (g := fun (n : Nat) => PyData.int (n : Int)) (sq_of h) fun n _ => .int _
theorem short_int : ∀ n < 12, (PyData.shown (.int ((n : Nat) : Int))).length ≤ 2 ∧ PyData.showable (.int ((n : Nat) : Int)) = true := by decide +kernel
theorem ints_all : ∀ c : List Nat, (∀ n ∈ c, n < 12) → PyData.showableAll (c.map fun (n : Nat) => PyData.int (n : Int)) = true ∧ PyData.hasDictAll (c.map fun (n : Nat) => PyData.int (n : Int)) = false ∧ PyData.depthAll (c.map fun (n : Nat) => PyData.int (n : Int)) = 0 ∧
    ((PyData.shownAll (c.map fun (n : Nat) => PyData.int (n : Int))).map (·.length)).sum ≤ 2 * c.length ∧ (PyData.shownAll (c.map fun (n : Nat) => PyData.int (n : Int))).length = c.length
  | [], _ => ⟨rfl, rfl, rfl, Nat.le_refl _, rfl⟩
  | n :: c, h => by
    obtain ⟨h1, h2, h3, h4, h5⟩ := ints_all c fun m hm => h m (List.mem_cons_of_mem _ hm)
    obtain ⟨g1, g2⟩ := short_int n (h n List.mem_cons_self)
    refine ⟨?_, ?_, ?_, ?_, ?_⟩
    · rw [List.map_cons, PyData.showableAll, g2, h1]; rfl
    · rw [List.map_cons, PyData.hasDictAll, h2]; rfl
    · rw [List.map_cons, PyData.depthAll, h3]; rfl
    · rw [List.map_cons, PyData.shownAll, List.map_cons, List.sum_cons, List.length_cons]
      omega
    · rw [List.map_cons, PyData.shownAll, List.length_cons, List.length_cons, h5]
theorem rc_reprC {K : PySem.W.Frag} {pc : Addr} {c : List Nat} {H : Hp} (h : H pc = some (.lst (numV c))) (h12 : ∀ n ∈ c, n < 12) (hl : c.length ≤ 400) : RC (rRepr K) [.ref pc] H (T (dataC c).shown.cps.toList) := fun H1 e Q q => by
  obtain ⟨h1, h2, h3, h4, h5⟩ := ints_all c h12
  refine ⟨pc, dataC c, rfl, dp_c (e _ _ h), ?_, ?_, ?_, ?_, q H1 (Ex.refl _)⟩
  · unfold dataC; rw [PyData.showable]; exact h1
  · unfold dataC; rw [PyData.hasDict]; exact h2
  · unfold dataC; rw [PyData.depth, h3]; omega
  · unfold dataC
    rw [PyData.shown]
    refine Nat.le_trans (PySem.listText_len_le _) ?_
    rw [h5]
    unfold sizeLine
    omega
theorem q_parEE {ta tb : TE} {i j : Nat} {u v : V} {σ : L2.St} {H : Hp} {tz : TS} {D : Ends} (h1 : Ev ta σ H u) (h2 : Ev tb σ H v) (k : ∀ H1, Ex H H1 → tz D ((σ.set i (some u)).set j (some v)) H1) : tSeq (tPar i j (tCons ta (tCons tb tNil))) tz D σ H :=
  h1 H (Ex.refl _) _ fun H1 e1 => h2 H1 e1 _ fun H2 e2 => ⟨u, v, rfl, k H2 (e1.trans e2)⟩
theorem ev_rank {pl pc : Addr} {lot : List Tx} {text : Tx} {c : List Nat} {i j k : Nat} {σ : L2.St} {H : Hp} (hL : LotAt pl lot H) (hlen : text.length ≤ 400) (hc : H pc = some (.lst (numV c))) (hix : Ixs lot c) (hput : put lot c = text) (hi : σ[i]? = some (some (.ref pl))) (hj : σ[j]? = some (some (T text))) (hk : σ[k]? = some (some (.ref pc))) :
    Ev (tCall sp_rank [] E0 (tCons (tVar i) (tCons (tVar j) (tCons (tCall sp_behind [] E0 (tCons (tVar i) (tCons (tVar j) tNil))) (tCons (tVar k) tNil))))) σ H (.int (rankF lot text 0 c : Int)) := fun H1 e Q q =>
  ⟨.ref pl, hi, T text, hj, .ref pl, hi, T text, hj, pl, lot, text, rfl, hL.ex e, hlen, fun pb H2 _ e2 h2 => ⟨.ref pc, hk, pl, pb, pc, lot, text, c, rfl, hL.ex (e.trans e2), hlen, h2, (e.trans e2) _ _ hc, hix, hput, fun H3 e3 => q H3 (e2.trans e3)⟩⟩
theorem rep_mem {c : List Nat} : ∀ {n : Nat} {x : Nat}, x ∈ (List.replicate n c).flatten → x ∈ c := fun {n x} h => by
  obtain ⟨l, hl, hx⟩ := List.mem_flatten.mp h
  rw [(List.mem_replicate.mp hl).2] at hx
  exact hx
theorem rep_num {c : List Nat} {n : Nat} : (List.replicate n (numV c)).flatten = numV (List.replicate n c).flatten := by
  unfold numV
  rw [List.map_flatten, List.map_replicate]
section
variable {P : Program} {w : World} {K : PySem.W.Frag} {mg : Str → Option Value} {base : Heap}
def sp_drawn : Sp := fun vs H Q _ => ∃ (fa pl : Addr) (lot : List Tx), vs = [.ref fa, .ref pl] ∧ GF fa 100 H ∧ LotAt pl lot H ∧ ∀ H', Rf fa 100 H H' → Q (.bl true) H'
set_option maxHeartbeats 8000000 in
theorem ok__law_drawn {f CE : Addr} {fd : FuncData} (F : Fun K "_law_drawn" "_law_drawn" st__law_drawn f fd) (M : Md K mg) (C__law_draw : Cal P w K mg base "_law_draw" st__law_draw 1 ["feed", "many"] sp_draw) (C__law_one : Cal P w K mg base "_law_one" st__law_one 2 ["feed", "things"] (sp_one K)) (C__law_too_long : Cal P w K mg base "_law_too_long" st__law_too_long 7 ["lot", "indexes"] sp_too_long)
    (C__law_is : Cal P w K mg base "_law_is" st__law_is 1 ["actual", "due"] sp_law_is) (C__law_rank : Cal P w K mg base "_law_rank" st__law_rank 1 ["lot", "text", "behind", "cut"] sp_rank) (C__law_behind : Cal P w K mg base "_law_behind" st__law_behind 2 ["lot", "text"] sp_behind) (C_cut_number : Cal P w K mg base "cut_number" st_cut_number 6 ["lot", "indexes"] (calm (sp_cut_number CE))) : FnOkG P w K mg base 8 f fd ["feed", "lot"] sp_drawn := by
  have nd := sc__law_drawn.nd
  refine Fun.okG F sc__law_drawn (fun vs H Q E h => ?_) (fun cdv A outer s H vs Q E hr hgd h => ?_)
  · obtain ⟨_, _, _, rfl, _⟩ := h
    rfl
  · obtain ⟨fa, pl, lot, rfl, G, hLA, k⟩ := h
    refine ⟨_, (pss_cons (ps_for PassesOwn.never rfl (pi_range1 (by rfl) M.n_range (pa_cons pe_int pa_nil)) (pg_name (i := 2) nd rfl (Or.inl rfl))
  (pss_cons (ps_setLc (i := 3) (own := [("place", 4)]) rfl nd rfl rfl (sw_true rfl rfl rfl (by decide +kernel)) (pi_range1 (by rfl) M.n_range (pa_cons (pe_cl C__law_one hr (pa_cons (pv 0) (pa_cons (pe_lst (pa_cons pe_int (pa_cons pe_int (pa_cons pe_int (pa_cons pe_int (pa_cons pe_int pa_nil)))))) pa_nil))) pa_nil)) (blkOk_by (N := N__law_drawn) (sc := defScope st__law_drawn) (by decide +kernel)) (fun _ _ _ _ _ => (pg_name (i := 4) nd rfl (Or.inl rfl))) (fun _ _ _ _ _ => pts_nil) (fun _ _ _ _ _ => (pe_cl C__law_draw hr (pa_cons (pv 0) (pa_cons (pe_callB (kcr K (r := rLenS) call_len_seq) (by rfl) M.n_len boot_len (pa_cons (pv 1) pa_nil)) pa_nil)))))
  (pss_cut (ps_if (pt_cmpR op_eqI (pv 2) pe_int (nomark _))
  (pss_one (ps_set (i := 3) nd rfl (Or.inl rfl) (pe_slice (ksl K (r := rSlL) sl_list) (pe_op op_rep (pv 3) pe_int) po_none (po_some (pe_cl C__law_one hr (pa_cons (pv 0) (pa_cons (pe_lst (pa_cons pe_int (pa_cons pe_int (pa_cons pe_int pa_nil)))) pa_nil)))))))
  pss_nil)
  (pss_cons (ps_par (i := 5) (j := 6) rfl nd rfl rfl (by decide) rfl rfl (pa_cons (kbm K (pe_bm PySem.F.plainAttrs_str PySem.F.slot_str_join PySem.F.type_str_join (kmt K (r := rJoinT) mt_joinT) (pe_sT []) (pa_cons (pe_lc (own := [("index", 7)]) rfl nd (kil K (pi_list (pv 3))) (blkOk_by (N := N__law_drawn) (sc := defScope st__law_drawn) (by decide +kernel)) (fun _ _ _ _ _ => (pg_name (i := 7) nd rfl (Or.inl rfl))) (fun _ _ _ _ _ => pts_nil) (fun _ _ _ _ _ => (pe_ix (kix K (r := L2.rIxT) ix_tup) (pv 1) (pv 7) (fun _ _ => rfl)))) pa_nil))) (pa_cons (pe_callB (kcr K (r := rRepr) (cr_repr hgd hr.units)) (by rfl) M.n_repr boot_repr (pa_cons (pv 3) pa_nil)) pa_nil)) (by rfl))
  (pss_one (ps_if (pt_cmpR op_gt (pe_callB cr_lenT (by rfl) M.n_len boot_len (pa_cons (pv 5) pa_nil)) pe_int (nomark _))
  (pss_one (ps_if (pt_not (pt_val (pe_cl C__law_too_long hr (pa_cons (pv 1) (pa_cons (pv 3) pa_nil)))))
  (pss_one (ps_ret pe_bl))
  pss_nil))
  (pss_one (ps_if (PW.pt (pw_or (pt_not (pt_val (pe_cl C__law_is hr (pa_cons (pe_cl C_cut_number hr (pa_cons (pv 1) (pa_cons (pv 3) pa_nil))) (pa_cons (pe_cl C__law_rank hr (pa_cons (pv 1) (pa_cons (pv 5) (pa_cons (pe_cl C__law_behind hr (pa_cons (pv 1) (pa_cons (pv 5) pa_nil))) (pa_cons (pv 3) pa_nil))))) pa_nil))))) (pw_or1 (pt_cmpR op_neT (pe_callB (kcr K (r := rRepr) (cr_repr hgd hr.units)) (by rfl) M.n_repr boot_repr (pa_cons (pv 3) pa_nil)) (pv 6) (nomark _)))))
  (pss_one (ps_ret pe_bl))
  pss_nil))))))))
  (pss_one (ps_ret pe_bl))), ?_⟩
    have hL := hLA.2
    have hfew := hL.few
    have npl : pl ≠ fa := G.ofTup hLA.1
    refine q_forW (fun c => c = fa) (src_range1 (n := 3) (ea_cons ev_c ea_nil) (by omega)) ?_
      (fun Hs i σ' H' => ∃ (v2 v3 v4 v5 v6 v7 : Option V), σ' = [some (.ref fa), some (.ref pl), v2, v3, v4, v5, v6, v7] ∧ Rf fa (32 * i) Hs H') ?_ ?_ ?_ ?_ ?_
    · rintro b rfl
      exact ⟨G.is, fun z => z⟩
    · intro Hs e
      exact ⟨_, _, _, _, _, _, rfl, Rf.refl _⟩
    · rintro Hs i σ' H' ⟨_, _, _, _, _, _, _, h⟩
      exact h.keep
    · rintro Hs i σ' Ha Hb ⟨v2, v3, v4, v5, v6, v7, h0, h1⟩ e
      exact ⟨v2, v3, v4, v5, v6, v7, h0, h1.then e⟩
    · rintro Hs i x σ' H' e hi ⟨v2, v3, v4, v5, v6, v7, rfl, R0⟩ hx
      subst hx
      have GS : GF fa 100 Hs := G.ex e
      have GA : GF fa 32 H' := GS.go R0 (by omega)
      have hLS : LotAt pl lot Hs := hLA.ex e
      have hLB : LotAt pl lot H' := ⟨R0.at_ hLS.1 npl, hL⟩
      show tSeq _ _ _ [some (.ref fa), some (.ref pl), some (.int (i : Int)), v3, v4, v5, v6, v7] H'
      refine q_lcRD (lo := 0) (N := 30) (c := 1) (m0 := 1) (fun v => ∃ n : Nat, v = .int (n : Int) ∧ n < lot.length) (dI_oneL (ns := [0, 1, 3, 8, 30]) (lo := 0) (hi := 30) rfl (fun H => el_lst (ea_cons ev_c (ea_cons ev_c (ea_cons ev_c (ea_cons ev_c (ea_cons ev_c ea_nil))))) (by show 5 ≤ 100000; decide)) (by decide) (by simp) (by decide)) (by decide) (GA.mono (by omega)) (fun _ => rfl) (fun x n H1 R1 G1 Q' q' => ?_) fun p H2 acc hp R2 h2 hl1 hl2 hg => ?_
      · have hp1 := R1.at_ hLB.1 npl
        refine wp_draw (many := (lot.length : Int)) rfl (ev_is (ev_lenU (ev_var rfl) (st_of hp1)) (by rw [List.length_map])) G1 (by have := List.length_pos_iff.mpr hL.ne; omega) (Int.le_trans (show (lot.length : Int) ≤ 12 by omega) (by decide)) fun d H2 hd R2 => q' _ H2 ⟨d, rfl, by omega⟩ R2
      · obtain ⟨c, rfl, hc⟩ : ∃ c : List Nat, acc = numV c ∧ Ixs lot c := by
          clear h2 hl1 hl2
          induction acc with
          | nil => exact ⟨[], rfl, fun i hi => nomatch hi⟩
          | cons v acc ih =>
            obtain ⟨c, rfl, hc⟩ := ih fun y hy => hg y (List.mem_cons_of_mem _ hy)
            obtain ⟨n, rfl, hn⟩ := hg v List.mem_cons_self
            exact ⟨n :: c, rfl, fun i hi => by
              rcases List.mem_cons.mp hi with z | z
              · rw [z]; exact hn
              · exact hc i z⟩
        have hcl : c.length ≤ 30 := by
          unfold numV at hl2
          rw [List.length_map] at hl2
          exact hl2
        clear hg hl1 hl2
        have np : p ≠ fa := GA.new hp
        have RA : Rf fa (32 * i + 31) Hs H2 := (R0.trans R2).mono (by omega)
        have GB : GF fa 1 H2 := GA.go R2 (by omega)
        clear R2 GA
        show tCut _ _ _ [some (.ref fa), some (.ref pl), some (.int (i : Int)), some (.ref p), v4, v5, v6, v7] H2
        refine q_cut (M := fun σ' H' => ∃ (pc : Addr) (c : List Nat), σ' = [some (.ref fa), some (.ref pl), some (.int (i : Int)), some (.ref pc), v4, v5, v6, v7] ∧ Rf fa (32 * i + 32) Hs H' ∧ H' pc = some (.lst (numV c)) ∧ Ixs lot c ∧ c.length ≤ 400) ?_ ?_
        · refine s_when (et_test (ev_op (ev_var rfl) ev_c rv_I0)) (fun hb H3 e3 => ?_) (fun hb H3 e3 => ⟨p, c, rfl, (RA.then e3).mono (by omega), e3 _ _ h2, hc, by omega⟩)
          refine ⟨.ref p, rfl, p, 400, numV c, rfl, rfl, e3 _ _ h2, by decide, by decide, by unfold numV; rw [List.length_map]; show c.length * 400 ≤ sizeLine; unfold sizeLine; omega, fun q hq => ?_⟩
          have nq : q ≠ fa := (GB.ex e3).new hq
          have e4 := Ex.new (o := .lst (List.replicate (400 : Int).toNat (numV c)).flatten) hq
          refine wp_oneL (vs := [.int 34, .int 100, .int 400]) rfl (el_lst (ea_cons ev_c (ea_cons ev_c (ea_cons ev_c ea_nil))) (by show 3 ≤ 100000; decide)) ((GB.ex e3).ex e4) (by simp) (by show 3 ≤ 16777216; decide) fun v H5 hv R5 => ?_
          obtain ⟨m, rfl, hm⟩ : ∃ m : Nat, v = .int (m : Int) ∧ m ≤ 400 := by
            rcases List.mem_cons.mp hv with z | hv
            · exact ⟨34, z, by omega⟩
            rcases List.mem_cons.mp hv with z | hv
            · exact ⟨100, z, by omega⟩
            rcases List.mem_cons.mp hv with z | hv
            · exact ⟨400, z, by omega⟩
            · cases hv
          refine ⟨(m : Int), rfl, q, _, rfl, sq_of (R5.at_ upd_same nq), fun r hr => ?_⟩
          refine ⟨r, (List.replicate 400 c).flatten.take m, rfl, ?_, ?_, ?_, ?_⟩
          · exact ((((RA.then e3).then e4).trans R5).then (Ex.new hr)).mono (by omega)
          · rw [upd_same, cutV_to]
            show some (HO.lst ((List.replicate 400 (numV c)).flatten.take m)) = _
            rw [rep_num]
            unfold numV
            rw [List.map_take]
          · exact fun x hx => hc x (rep_mem (List.mem_of_mem_take hx))
          · rw [List.length_take]; omega
        · rintro σ3 H3 ⟨pc, c, rfl, R3, h3, hc, hc400⟩
          clear RA GB h2 hp np
          have hLC : LotAt pl lot H3 := ⟨R3.at_ hLS.1 npl, hL⟩
          have h12 : ∀ n ∈ c, n < 12 := fun n hn => by have := hc n hn; omega
          have hcl := hc400
          have hpb := put_bound hL c
          refine q_parEE (ev_put hLC h3 hc (by omega) rfl rfl (fun _ => rfl) (fun _ => rfl) (fun _ => rfl)) (ev_cb (ea_cons (ev_var rfl) ea_nil) (rc_reprC h3 h12 hcl)) fun H4 e4 => ?_
          have hLD := hLC.ex e4
          have h4 := e4 _ _ h3
          show tIfS _ _ _ _ [some (.ref fa), some (.ref pl), some (.int (i : Int)), some (.ref pc), v4, some (T (put lot c)), some (T (dataC c).shown.cps.toList), v7] H4
          refine s_if (et_test (ev_op (ev_cb (ea_cons (ev_var rfl) ea_nil) (rc_lenT (by omega))) ev_c rv_I0)) (fun hb H5 e5 => ?_) (fun hb H5 e5 => ?_)
          · have hgt : 400 < (put lot c).length := by have := of_decide_eq_true hb; omega
            refine s_when (b := false) (et_is (et_not (et_B (ev_call (ea_cons (ev_var rfl) (ea_cons (ev_var rfl) ea_nil)) fun H6 e6 Q6 q6 E => ⟨pl, pc, lot, c, rfl, (hLD.ex e5).ex e6, e6 _ _ (e5 _ _ h4), hc, hcl, hgt, q6⟩))) rfl) (fun z => by cases z) (fun _ H6 e6 => ?_)
            exact ⟨_, _, _, _, _, _, rfl, (R3.then ((e4.trans e5).trans e6)).mono (by omega)⟩
          · have hle : (put lot c).length ≤ 400 := by have := of_decide_eq_false hb; omega
            have hLE := hLD.ex e5
            have h5 := e5 _ _ h4
            refine s_when (b := false) (et_is (et_or (et_not (et_B (ev_is (ev_call (ea_cons (ev_call (ea_cons (ev_var rfl) (ea_cons (ev_var rfl) ea_nil)) fun H6 e6 Q6 q6 E => ⟨pl, pc, lot, c, rfl, hLE.ex e6, e6 _ _ h5, hc, hcl, fun _ => q6, fun z => absurd z (by omega)⟩) (ea_cons (ev_rank hLE hle h5 hc rfl rfl rfl rfl) ea_nil)) fun H6 e6 Q6 q6 E => ⟨_, _, rfl, q6⟩) (by rw [decide_eq_true rfl])))) fun _ => et_test (ev_op (ev_cb (ea_cons (ev_var rfl) ea_nil) (rc_reprC h5 h12 hcl)) (ev_var rfl) rv_neT)) (by rw [decide_eq_true rfl]; rfl)) (fun z => by cases z) (fun _ H6 e6 => ?_)
            exact ⟨_, _, _, _, _, _, rfl, (R3.then ((e4.trans e5).trans e6)).mono (by omega)⟩
    · rintro Hs σ' H' e ⟨v2, v3, v4, v5, v6, v7, rfl, R0⟩
      exact s_ret ev_c fun H2 e2 => k H2 (((Rf.pre e R0).then e2).mono (by omega))
end
end K03
set_option Elab.async false
set_option linter.all false
set_option maxRecDepth 100000
set_option maxHeartbeats 4000000
namespace K03
open PySem PySem.Spec PyProof.Rows L2 Evl Wc Wt Wg
theorem IsLot.ps {lot : List Tx} (h : IsLot lot) : Pos lot := h.pos
theorem put_ge {lot : List Tx} (hL : Pos lot) : ∀ c : List Nat, Ixs lot c → c.length ≤ (put lot c).length
  | [], _ => Nat.zero_le _
  | i :: c, h => by
    have h1 := put_ge hL c fun j hj => h j (List.mem_cons_of_mem _ hj)
    have h2 : i < lot.length := h i List.mem_cons_self
    have h3 : 0 < (lot.getD i []).length := by
      rw [List.getD_eq_getElem?_getD, List.getElem?_eq_getElem h2]
      exact List.length_pos_iff.mpr (hL _ (List.getElem_mem h2))
    rw [put_cons, List.length_append, List.length_cons]
    omega
/-- what a cut of the whole text is -/
theorem cut_is {lot : List Tx} (hL : Pos lot) {text : Tx} {c : List Nat} (h : c ∈ cutsAt lot text 0) : Ixs lot c ∧ put lot c = text ∧ c.length ≤ text.length := by
  obtain ⟨h1, h2⟩ := (mem_cuts hL text.length 0 (by omega) c).mp h
  rw [List.drop_zero] at h2
  exact ⟨h1, h2, by rw [← h2]; exact put_ge hL c h1⟩
theorem lay_c : ∀ c : List Nat, PyData.canLayAll0 (c.map fun (n : Nat) => PyData.int (n : Int)) = true ∧ PyData.depthAll (c.map fun (n : Nat) => PyData.int (n : Int)) = 0
  | [] => ⟨rfl, rfl⟩
  | n :: c => by
    obtain ⟨h1, h2⟩ := lay_c c
    refine ⟨?_, ?_⟩
    · rw [List.map_cons, PyData.canLayAll0, h1]; rfl
    · rw [List.map_cons, PyData.depthAll, h2]; rfl
theorem lay_cs : ∀ cs : List (List Nat), PyData.canLayAll0 (cs.map dataC) = true ∧ PyData.depthAll (cs.map dataC) ≤ 1
  | [] => ⟨rfl, Nat.zero_le _⟩
  | c :: cs => by
    obtain ⟨h1, h2⟩ := lay_cs cs
    obtain ⟨h3, h4⟩ := lay_c c
    refine ⟨?_, ?_⟩
    · rw [List.map_cons, PyData.canLayAll0, h1]
      unfold dataC
      rw [PyData.canLay0, h3]
      rfl
    · rw [List.map_cons, PyData.depthAll]
      refine Nat.max_le.mpr ⟨?_, h2⟩
      unfold dataC
      rw [PyData.depth, h4]
      omega
theorem sh_c (c : List Nat) : SeqAt.shaped (dataC c) = true := by
  obtain ⟨h3, h4⟩ := lay_c c
  unfold SeqAt.shaped dataC
  rw [PyData.canLay0, h3, PyData.depth, h4]
  rfl
theorem sh_cs (cs : List (List Nat)) : SeqAt.shaped (.list (cs.map dataC)) = true := by
  obtain ⟨h3, h4⟩ := lay_cs cs
  unfold SeqAt.shaped
  rw [PyData.canLay0, h3, PyData.depth, decide_eq_true (show PyData.depthAll (cs.map dataC) + 1 ≤ 64 by omega)]
  rfl
theorem eqv_c (c : List Nat) : PyData.eqv (dataC c) (dataC c) = true := SeqAt.eqv_refl _ (by
  obtain ⟨h3, _⟩ := lay_c c
  unfold dataC
  rw [PyData.canLay0, h3])
section
variable {K : PySem.W.Frag} {lot : List Tx} {text : Tx} {pl pb : Addr} {H H0 H1 : Hp} {Q : VK} {E : XK} {σ : L2.St} {te ta tb : TE}
/-- the list of due cuts, all new since H0 -/
def DueAt (pd : Addr) (cs : List (List Nat)) (H0 H : Hp) : Prop := H0 pd = none ∧ ∃ ds : List Addr, H pd = some (.lst (ds.map V.ref)) ∧ All2 (fun a c => H a = some (.lst (numV c)) ∧ H0 a = none) ds cs
theorem DueAt.exc {pd : Addr} {cs : List (List Nat)} {B : Addr → Prop} (h : DueAt pd cs H0 H) (hB : ∀ b, B b → H0 b ≠ none) (x : Exc B H H1) : DueAt pd cs H0 H1 := by
  obtain ⟨h1, ds, h2, h3⟩ := h
  exact ⟨h1, ds, x _ _ (fun z => hB _ z h1) h2, h3.mono fun a c r => ⟨x _ _ (fun z => hB _ z r.2) r.1, r.2⟩⟩
theorem DueAt.ex {pd : Addr} {cs : List (List Nat)} (h : DueAt pd cs H0 H) (x : Ex H H1) : DueAt pd cs H0 H1 := h.exc (B := fun _ => False) (fun _ z => z.elim) (.of x)
theorem DueAt.cuts {pd : Addr} {cs : List (List Nat)} (h : DueAt pd cs H0 H) : CutsL pd cs H := by
  obtain ⟨h1, ds, h2, h3⟩ := h
  refine ⟨ds, h2, h3.len, fun i c hc => ?_⟩
  obtain ⟨a, ha, r⟩ := h3.at_ hc
  rw [List.getD_eq_getElem?_getD, ha]
  exact r.1
/-- one of the due cuts -/
theorem DueAt.ix {pd : Addr} {cs : List (List Nat)} {i : Nat} {c : List Nat} (h : DueAt pd cs H0 H) (hc : cs[i]? = some c) (hv : Ev ta σ H (.ref pd)) (hi : Ev tb σ H (.int (i : Int))) : ∃ a, H a = some (.lst (numV c)) ∧ Ev (tOp (L2.rIxL K) ta tb) σ H (.ref a) := by
  obtain ⟨h1, ds, h2, h3⟩ := h
  obtain ⟨a, ha, r⟩ := h3.at_ hc
  exact ⟨a, r.1, ev_op hv hi (rv_ixL (sq_of h2) (atI_nat (by rw [List.getElem?_map, ha]; rfl)))⟩
theorem DueAt.len {pd : Addr} {cs : List (List Nat)} (h : DueAt pd cs H0 H) (hv : Ev ta σ H (.ref pd)) : Ev (tCB (rLenS K) (tCons ta tNil)) σ H (.int (cs.length : Int)) := by
  obtain ⟨h1, ds, h2, h3⟩ := h
  have := ev_len (K := K) hv (sq_of h2)
  rw [List.length_map, h3.len] at this
  exact this
/-- due is not the empty list -/
theorem DueAt.ne {pd : Addr} {cs : List (List Nat)} (h : DueAt pd cs H0 H) (hne : cs ≠ []) (hv : Ev ta σ H (.ref pd)) : EvT (tTest (tOp (rNeD K) ta (tLst tNil))) σ H true := fun H2 e2 Q q => by
  refine hv H2 e2 _ fun H3 e3 => ⟨Nat.zero_le _, fun p hp => ?_⟩
  obtain ⟨h1, ds, h2, h3⟩ := h
  have e4 := Ex.new (o := HO.lst []) hp
  have eA := (e2.trans e3).trans e4
  have hd : Dp K (upd H3 p (.lst [])) (.ref pd) (.list (cs.map dataC)) := by
    refine .lst (sq_of (eA _ _ h2)) ?_
    have h5 : All2 (fun a c => upd H3 p (.lst []) a = some (.lst (numV c))) ds cs := h3.mono fun a c r => eA _ _ r.1
    clear h2 h3 hne
    induction h5 with
    | nil => exact .nil
    | cons r _ ih => exact .cons (dp_c r) ih
  refine ⟨_, .list [], hd, .lst (sq_of upd_same) .nil, sh_cs cs, rfl, true, ?_, q _ (e3.trans e4)⟩
  cases cs with
  | nil => exact absurd rfl hne
  | cons c cs => rfl
/-- what _law_told gives -/
def FoundAt (lot : List Tx) (text : Tx) (pf : Addr) (H0 Ht H : Hp) : Prop :=
  (300 < (cutsAt lot text 0).length ∧ H pf = some (.tup [T tMany, .bl true])) ∨
  ((cutsAt lot text 0).length ≤ 300 ∧ ∃ (q : Addr) (ps : List Addr), H pf = some (.tup [T tTold, .ref q]) ∧ H0 q = none ∧ H q = some (.lst (ps.map V.ref)) ∧ ps.length = (cutsAt lot text 0).length ∧ q ∉ ps ∧ Ht q ≠ none ∧
    ∀ i c, (cutsAt lot text 0)[i]? = some c → (H0 (ps.getD i 0) = none ∧ Ht (ps.getD i 0) ≠ none) ∧ H (ps.getD i 0) = some (.lst (numV c)))
theorem FoundAt.ex {pf : Addr} {Ht : Hp} (h : FoundAt lot text pf H0 Ht H) (x : Ex H H1) : FoundAt lot text pf H0 Ht H1 := by
  rcases h with ⟨h1, h2⟩ | ⟨h1, q, ps, h2, h3, h4, h5, h6, h8, h7⟩
  · exact .inl ⟨h1, x _ _ h2⟩
  · exact .inr ⟨h1, q, ps, x _ _ h2, h3, x _ _ h4, h5, h6, h8, fun i c hc => ⟨(h7 i c hc).1, x _ _ (h7 i c hc).2⟩⟩
theorem told_ok (hL : LotAt pl lot H) (h1 : text.length ≤ 400) (h2 : ∀ c ∈ text, abcd c) (k : ∀ p H', Ex H H' → FoundAt lot text p H H' H' → Q (.ref p) H') : sp_told [.ref pl, T text] H Q E :=
  ⟨pl, lot, text, rfl, hL, h1, h2, fun hm p H' e hp => k p H' e (.inl ⟨hm, hp⟩), fun hm p q H' ps e hp hq hq' hl hn hnq => k p H' e (.inr ⟨hm, q, ps, hp, hq, hq', hl, hnq, (by rw [hq']; exact fun z => nomatch z), fun i c hc => by
    have hi : i < ps.length := by rw [hl]; exact (List.getElem?_eq_some_iff.mp hc).1
    have hg : ps[i]? = some (ps.getD i 0) := by rw [List.getD_eq_getElem?_getD, List.getElem?_eq_getElem hi]; rfl
    have := hn.at_ i _ hg
    refine ⟨⟨hn.new _ (List.mem_of_getElem? hg), (by rw [this]; exact fun z => nomatch z)⟩, ?_⟩
    have e2 : (cutsAt lot text 0).getD i [] = c := by rw [List.getD_eq_getElem?_getD, hc]; rfl
    rw [show (cutsAt lot text 0).getD i [] = c from e2] at this
    exact this⟩)⟩
theorem all_ok {m : Nat} (hL : LotAt pl lot H) (h1 : text.length ≤ 400) (hb : H pb = some (.lst (behL lot text))) (hm : m ≤ (cutsAt lot text 0).length) (hm2 : m ≤ 400) (k : ∀ q H', Ex H H' → DueAt q ((cutsAt lot text 0).take m) H H' → Q (.ref q) H') : sp_all [.ref pl, T text, .ref pb, .int (m : Int)] H Q E :=
  ⟨pl, pb, lot, text, m, rfl, hL, h1, hb, hm, hm2, fun q H' ps hq e hq' ha => k q H' e ⟨hq, ps, hq', ha.mono fun a c r => ⟨r.1, r.2.1⟩⟩⟩
theorem DueAt.back {pd : Addr} {cs : List (List Nat)} (h : DueAt pd cs H1 H) (e : Ex H0 H1) : DueAt pd cs H0 H := by
  obtain ⟨h1, ds, h2, h3⟩ := h
  exact ⟨fresh_back e h1, ds, h2, h3.mono fun a c r => ⟨r.1, fresh_back e r.2⟩⟩
theorem et_neMany {pf : Addr} {i : Nat} (h0 : σ[i]? = some (some (.ref pf))) (hp : H pf = some (.tup [T tMany, .bl true])) : EvT (tTest (tOp (rNeD K) (tVar i) (tTup (tCons (tC (T tMany)) (tCons (tC (.bl true)) tNil))))) σ H false := fun H2 e2 Q q =>
  ⟨.ref pf, h0, by show 2 ≤ sizeLine; decide, fun p hp' => ⟨.tuple [dT tMany, .bool true], .tuple [dT tMany, .bool true], .tup (st_of ((Ex.new hp') _ _ (e2 _ _ hp))) (.cons (.str _) (.cons (.bl _) .nil)), .tup (st_of upd_same) (.cons (.str _) (.cons (.bl _) .nil)), by decide +kernel, by decide +kernel, false, by decide +kernel, q _ (Ex.new hp')⟩⟩
theorem ev_callK0 {sp : Sp} {gV : List V → List V → List V} {vs : List V} {tk : TA} {z : V} (h : EvA tk σ H vs) (hs : SpV sp (gV [] vs) H z) : Ev (tCallK0 sp gV tk) σ H z := fun H1 e Q q => h H1 e _ fun H2 e2 => hs H2 (e.trans e2) _ (fun H3 e3 => q H3 (e2.trans e3)) E0
theorem el_callK0 {sp : Sp} {gV : List V → List V → List V} {vs xs : List V} {tk : TA} (h : EvA tk σ H vs) (hs : SpL sp (gV [] vs) H xs) : EvL (tCallK0 sp gV tk) σ H xs := fun H1 e Q q => h H1 e _ fun H2 e2 => hs H2 (e.trans e2) _ (fun p H3 hp e3 h3 => q p H3 (fresh_back e2 hp) (e2.trans e3) h3) E0
theorem ev_listNV {c : List Nat} {q : Addr} (hl : c.length ≤ 400) (h1 : EvL ta σ H (numV c)) (h2 : Ev tb σ H (.ref q)) (hq : H q = some (.lst (numV c))) : Ev (tCall (sp_list_same K) [] E0 (tCons ta (tCons tb tNil))) σ H (.bl true) := fun H1 e Q k =>
  h1 H1 e _ fun p H2 hp e2 h3 => h2 H2 (e.trans e2) _ fun H3 e3 => ⟨p, q, numV c, rfl, e3 _ _ h3, sq_of (((e.trans e2).trans e3) _ _ hq), flat_num c, by unfold numV; rw [List.length_map]; omega, fun H4 e4 => k H4 ((e2.trans e3).trans e4)⟩
theorem ev_listVV {c : List Nat} {p q : Addr} (hl : c.length ≤ 400) (h1 : Ev ta σ H (.ref p)) (hp : H p = some (.lst (numV c))) (h2 : Ev tb σ H (.ref q)) (hq : H q = some (.lst (numV c))) : Ev (tCall (sp_list_same K) [] E0 (tCons ta (tCons tb tNil))) σ H (.bl true) := fun H1 e Q k =>
  h1 H1 e _ fun H2 e2 => h2 H2 (e.trans e2) _ fun H3 e3 => ⟨p, q, numV c, rfl, ((e.trans e2).trans e3) _ _ hp, sq_of (((e.trans e2).trans e3) _ _ hq), flat_num c, by unfold numV; rw [List.length_map]; omega, fun H4 e4 => k H4 ((e2.trans e3).trans e4)⟩
theorem ev_beyond {k : Int} (hL : LotAt pl lot H) (h1 : text.length ≤ 400) (h2 : ∀ c ∈ text, abcd c) (hk : ¬ (0 ≤ k ∧ k ≤ ((cutsAt lot text 0).length : Int) - 1)) {tc : TA} (ha : EvA tc σ H [.ref pl, T text, .int k]) : Ev (tCall sp_beyond [] E0 tc) σ H (.bl true) :=
  ev_call ha fun H6 e6 Q6 q6 E => ⟨pl, lot, text, k, rfl, hL.ex e6, h1, h2, hk, q6⟩
theorem ev_pow60 : Ev (tOp (rI CPow fun i j => .int (i ^ j.toNat)) (tC (.int 10)) (tC (.int 60))) σ H (.int (10 ^ 60)) := ev_is (ev_op ev_c ev_c (rv_I (by unfold CPow; decide))) (by decide)
/-- a rank behind a standing list of ways -/
theorem ev_rankV {pc : Addr} {c : List Nat} {i j k m : Nat} (hL : LotAt pl lot H) (hlen : text.length ≤ 400) (hb : H pb = some (.lst (behL lot text))) (hc : H pc = some (.lst (numV c))) (hix : Ixs lot c) (hput : put lot c = text) (hi : σ[i]? = some (some (.ref pl))) (hj : σ[j]? = some (some (T text))) (hm : σ[m]? = some (some (.ref pb))) (hk : σ[k]? = some (some (.ref pc))) :
    Ev (tCall sp_rank [] E0 (tCons (tVar i) (tCons (tVar j) (tCons (tVar m) (tCons (tVar k) tNil))))) σ H (.int (rankF lot text 0 c : Int)) :=
  ev_call (ea_cons (ev_var hi) (ea_cons (ev_var hj) (ea_cons (ev_var hm) (ea_cons (ev_var hk) ea_nil)))) fun H6 e6 Q6 q6 E => ⟨pl, pb, pc, lot, text, c, rfl, hL.ex e6, hlen, e6 _ _ hb, e6 _ _ hc, hix, hput, q6⟩
end
end K03
set_option Elab.async false
set_option linter.all false
set_option maxRecDepth 100000
set_option maxHeartbeats 4000000
namespace K03
open PySem PySem.Spec PyProof.Rows L2 Evl Wc Wt Wg
theorem kb_count_cuts_1_0 : KB "count_cuts" st_count_cuts 0 ["lot", "text"] ["text", "lot"] (sw2 true) (sw2 true) := kb2 true rfl (fun _ _ _ _ _ _ a b => rfl)
theorem kb_cut_of_1_0 : KB "cut_of" st_cut_of 0 ["lot", "text"] ["text", "lot"] (sw2 true) (sw2 true) := kb2 true rfl (fun _ _ _ _ _ _ a b => rfl)
theorem kb_cuts_of_1_0 : KB "cuts_of" st_cuts_of 0 ["lot", "text"] ["text", "lot"] (sw2 true) (sw2 true) := kb2 true rfl (fun _ _ _ _ _ _ a b => rfl)
theorem kb_cut_number_1_0 : KB "cut_number" st_cut_number 0 ["lot", "indexes"] ["indexes", "lot"] (sw2 true) (sw2 true) := kb2 true rfl (fun _ _ _ _ _ _ a b => rfl)
theorem kb_cut_at_2_1_0 : KB "cut_at" st_cut_at 0 ["lot", "text", "number"] ["number", "text", "lot"] sw3 sw3 := kb3 rfl (fun _ _ _ _ _ _ a b c => rfl)
theorem q_forOf {K : PySem.W.Frag} {σ : L2.St} {H : Hp} {te0 : TE} {g : TG} {tb tz : TS} {D : Ends} (h : te0 σ H fun v H1 => tSeq (tFor (iList K (fun _ H' Q' => Q' v H')) g tb) tz D σ H1) : tSeq (tFor (iList K te0) g tb) tz D σ H := h
theorem s_retAnd {ta tb : TE} {σ : L2.St} {H : Hp} {D : Ends} (h : Ev ta σ H (.bl true)) (k : ∀ H1, Ex H H1 → tRet tb D σ H1) : tRet (tAndV ta tb) D σ H := h H (Ex.refl H) _ fun H1 e1 => ⟨true, rfl, by rw [if_pos rfl]; exact k H1 e1⟩
theorem q_par2 {ta tb : TE} {i j : Nat} {σ : L2.St} {H : Hp} {tz : TS} {D : Ends} (h : ta σ H fun v H1 => tb σ H1 fun w H2 => ∃ v' w', [v, w] = [v', w'] ∧ tz D ((σ.set i (some v')).set j (some w')) H2) : tSeq (tPar i j (tCons ta (tCons tb tNil))) tz D σ H := h
theorem wp_told {pl : Addr} {lot : List Tx} {text : Tx} {σ : L2.St} {H : Hp} {Q : VK} (s1 : σ[1]? = some (some (.ref pl))) (s2 : σ[2]? = some (some (T text))) (hL : LotAt pl lot H) (h1 : text.length ≤ 400) (h2 : ∀ c ∈ text, abcd c) (k : ∀ p H', Ex H H' → FoundAt lot text p H H' H' → Q (.ref p) H') : tCall sp_told [] E0 (tCons (tVar 1) (tCons (tVar 2) tNil)) σ H Q :=
  ⟨.ref pl, s1, T text, s2, told_ok (E := E0) hL h1 h2 k⟩
theorem wp_all {pl pb : Addr} {lot : List Tx} {text : Tx} {m : Nat} {tm : TE} {σ : L2.St} {H : Hp} {Q : VK} (s1 : σ[1]? = some (some (.ref pl))) (s2 : σ[2]? = some (some (T text))) (s3 : σ[3]? = some (some (.ref pb))) (hm0 : Ev tm σ H (.int (m : Int))) (hL : LotAt pl lot H) (h1 : text.length ≤ 400) (hb : H pb = some (.lst (behL lot text))) (hm : m ≤ (cutsAt lot text 0).length) (hm2 : m ≤ 400) (k : ∀ q H', Ex H H' → DueAt q ((cutsAt lot text 0).take m) H H' → Q (.ref q) H') : tCall sp_all [] E0 (tCons (tVar 1) (tCons (tVar 2) (tCons (tVar 3) (tCons tm tNil)))) σ H Q :=
  ⟨.ref pl, s1, T text, s2, .ref pb, s3, hm0 H (Ex.refl _) _ fun H8 e8 => all_ok (E := E0) (hL.ex e8) h1 (e8 _ _ hb) hm hm2 fun q H' e hd => k q H' (e8.trans e) (hd.back e8)⟩
/-- the numbers that are tried -/
theorem nums_ok {w : World} {K : PySem.W.Frag} {fa : Addr} {sm : Nat} {σ : L2.St} {H : Hp} {Q : VK} (h8 : σ[8]? = some (some (.int (sm : Int)))) (hw : ∀ x, wipe ((wipe σ [10]).set 10 (some x)) [10] = wipe σ [10]) (hw0 : ∀ x, ((wipe σ [10]).set 10 (some x))[0]? = some (some (.ref fa))) (hw8 : ∀ x, ((wipe σ [10]).set 10 (some x))[8]? = some (some (.int (sm : Int))))
    (G : GF fa 4 H) (hs : 1 ≤ sm) (hs2 : (sm : Int) ≤ 10 ^ 61) (k : ∀ (r : Addr) (zs : List Int) H3, (∀ z ∈ zs, 0 ≤ z ∧ z < (sm : Int)) → Rf fa 4 H H3 → H3 r = some (.lst (zs.map V.int)) → Q (.ref r) H3) :
    tCB (rSortedSet w) (tCons (tCB (rSetI K w) (tCons (tOp rCat (tLst (tCons (tC (.int 0)) (tCons (tOp (rI0 fun i j => .int (i - j)) (tVar 8) (tC (.int 1))) tNil))) (tLc (iRng1 (tCons (tC (.int 4)) tNil)) (gName 10) tYes (tCall sp_draw [] E0 (tCons (tVar 0) (tCons (tVar 8) tNil))) [10])) tNil)) tNil) σ H Q := by
  have hl : EvL (tLst (tCons (tC (.int 0)) (tCons (tOp (rI0 fun i j => .int (i - j)) (tVar 8) (tC (.int 1))) tNil))) σ H [.int 0, .int ((sm : Int) - 1)] := el_lst (ea_cons ev_c (ea_cons (ev_op (ev_var h8) ev_c rv_I0) ea_nil)) (by show 2 ≤ 100000; decide)
  have key : tOp rCat (tLst (tCons (tC (.int 0)) (tCons (tOp (rI0 fun i j => .int (i - j)) (tVar 8) (tC (.int 1))) tNil))) (tLc (iRng1 (tCons (tC (.int 4)) tNil)) (gName 10) tYes (tCall sp_draw [] E0 (tCons (tVar 0) (tCons (tVar 8) tNil))) [10]) σ H (fun v H' => rSetI K w [v] H' fun s H2 => rSortedSet w [s] H2 Q) := by
    unfold tOp
    refine hl H (Ex.refl _) _ fun p1 H1 hp1 e1 h1 => ?_
    refine lcRD (lo := 4) (N := 4) (c := 1) (m0 := 0) (fun v => ∃ n : Int, v = .int n ∧ 0 ≤ n ∧ n < (sm : Int)) (dI_c (x := 4)) (by decide) (G.ex e1) hw (fun x n H2 R2 G2 Q' q' => ?_) _ fun p2 H2 acc hp2 R2 h2 hl1 hl2 hg => ?_
    · exact wp_draw (many := (sm : Int)) (hw0 x) (ev_var (hw8 x)) G2 (by omega) hs2 fun d H3 hd R3 => q' _ H3 ⟨(d : Int), rfl, by omega, hd⟩ R3
    · obtain ⟨ns, rfl, hns⟩ : ∃ ns : List Int, acc = ns.map V.int ∧ ∀ n ∈ ns, 0 ≤ n ∧ n < (sm : Int) := by
        clear h2 hl1 hl2
        induction acc with
        | nil => exact ⟨[], rfl, fun i hi => nomatch hi⟩
        | cons v acc ih =>
          obtain ⟨c, rfl, hc⟩ := ih fun y hy => hg y (List.mem_cons_of_mem _ hy)
          obtain ⟨n, rfl, hn⟩ := hg v List.mem_cons_self
          exact ⟨n :: c, rfl, fun i hi => by
            rcases List.mem_cons.mp hi with z | z
            · rw [z]; exact hn
            · exact hc i z⟩
      rw [List.length_map] at hl1 hl2
      have np1 : p1 ≠ fa := G.new hp1
      refine ⟨p1, p2, _, _, rfl, rfl, R2.at_ h1 np1, h2, by rw [List.length_map]; show 2 + ns.length ≤ sizeLine; unfold sizeLine; omega, fun p3 hp3 => ?_⟩
      have e3 := Ex.new (o := HO.lst ([.int 0, .int ((sm : Int) - 1)] ++ ns.map V.int)) hp3
      refine sortIntsAt (ns := 0 :: ((sm : Int) - 1) :: ns) upd_same (by rw [List.length_cons, List.length_cons]; omega) fun r zs H4 hpw hmem hr e4 h4 => k r zs H4 (fun z hz => ?_) (((R2.then e3).then e4 |> Rf.pre e1).mono (by omega)) h4
      rcases List.mem_cons.mp ((hmem z).mp hz) with y | y
      · rw [y]; omega
      rcases List.mem_cons.mp y with y | y
      · rw [y]; omega
      · exact hns z y
  exact key
section
variable {P : Program} {w : World} {K : PySem.W.Frag} {mg : Str → Option Value} {base : Heap}
theorem ev_listsK {σ : L2.St} {H H0 : Hp} {CE pl pd : Addr} {lot : List Tx} {text : Tx} (hL : LotAt pl lot H) (h1 : text.length ≤ 400) (h2 : ∀ c ∈ text, abcd c) (hN : (cutsAt lot text 0).length ≤ 300) (hd : DueAt pd (cutsAt lot text 0) H0 H) (hlen : ∀ c ∈ cutsAt lot text 0, c.length ≤ 400) (s1 : σ[1]? = some (some (.ref pl))) (s2 : σ[2]? = some (some (T text))) (s6 : σ[6]? = some (some (.ref pd))) :
    Ev (tCall sp_lists [] E0 (tCons (tCallK0 (calm (sp_cuts_of CE)) (sw2 true) (tCons (tVar 2) (tCons (tVar 1) tNil))) (tCons (tVar 6) tNil))) σ H (.bl true) := fun H1 e Q k =>
  ⟨T text, s2, .ref pl, s1, pl, lot, text, rfl, hL.ex e, h1, h2, fun hle q H2 ps hq e2 hq2 hl hn hnq => ⟨.ref pd, s6, q, pd, cutsAt lot text 0, rfl, ⟨ps, hq2, hl, fun i c hc => by
      have hi : i < ps.length := by rw [hl]; exact (List.getElem?_eq_some_iff.mp hc).1
      have hg : ps[i]? = some (ps.getD i 0) := by rw [List.getD_eq_getElem?_getD, List.getElem?_eq_getElem hi]; rfl
      have := hn.at_ i _ hg
      have e2 : (cutsAt lot text 0).getD i [] = c := by rw [List.getD_eq_getElem?_getD, hc]; rfl
      rw [show (cutsAt lot text 0).getD i [] = c from e2] at this
      exact this⟩, (hd.ex (e.trans e2)).cuts, by omega, hlen, fun H3 e3 => k H3 (e2.trans e3)⟩, fun hgt => absurd hgt (by omega)⟩
theorem FoundAt.tup {lot : List Tx} {text : Tx} {pf : Addr} {H0 Ht H : Hp} (h : FoundAt lot text pf H0 Ht H) : ∃ xs, H pf = some (.tup xs) := by
  rcases h with ⟨_, h⟩ | ⟨_, _, _, h, _⟩
  · exact ⟨_, h⟩
  · exact ⟨_, h⟩
theorem FoundAt.exc {lot : List Tx} {text : Tx} {pf : Addr} {H0 Ht H H1 : Hp} {B : Addr → Prop} (h : FoundAt lot text pf H0 Ht H) (hB : ∀ b, B b → H0 b ≠ none) (hf : ¬ B pf) (x : Exc B H H1) : FoundAt lot text pf H0 Ht H1 := by
  rcases h with ⟨h1, h2⟩ | ⟨h1, q, ps, h2, h3, h4, h5, h6, h8, h7⟩
  · exact .inl ⟨h1, x _ _ hf h2⟩
  · exact .inr ⟨h1, q, ps, x _ _ hf h2, h3, x _ _ (fun z => hB _ z h3) h4, h5, h6, h8, fun i c hc => ⟨(h7 i c hc).1, x _ _ (fun z => hB _ z (h7 i c hc).1.1) (h7 i c hc).2⟩⟩
def sp_law_right : Sp := fun vs H Q _ => ∃ (fa : Addr), vs = [.ref fa] ∧ GF fa 23000 H ∧ ∀ H', Rf fa 23000 H H' → Q (.bl true) H'
set_option maxHeartbeats 16000000 in
theorem ok__law_right {f CE CN : Addr} {fd : FuncData} (F : Fun K "_law_right" "_law_right" st__law_right f fd) (M : Md K mg) (C__law_case : Cal P w K mg base "_law_case" st__law_case 5 ["feed"] sp_case) (C__law_behind : Cal P w K mg base "_law_behind" st__law_behind 2 ["lot", "text"] sp_behind) (C__law_ahead : Cal P w K mg base "_law_ahead" st__law_ahead 1 ["lot", "text"] sp_ahead) (C__law_is : Cal P w K mg base "_law_is" st__law_is 1 ["actual", "due"] sp_law_is)
    (C_count_cuts : Cal P w K mg base "count_cuts" st_count_cuts 6 ["lot", "text"] sp_count) (C__law_told : Cal P w K mg base "_law_told" st__law_told 7 ["lot", "text"] sp_told) (C__law_all : Cal P w K mg base "_law_all" st__law_all 1 ["lot", "text", "behind", "most"] sp_all) (C__law_lists : Cal P w K mg base "_law_lists" st__law_lists 2 ["actual", "due"] sp_lists) (C_cut_of : Cal P w K mg base "cut_of" st_cut_of 6 ["lot", "text"] sp_cut_of)
    (C__law_beyond : Cal P w K mg base "_law_beyond" st__law_beyond 7 ["lot", "text", "number"] sp_beyond) (C__law_drawn : CalG P w K mg base "_law_drawn" st__law_drawn 8 ["feed", "lot"] sp_drawn) (C__law_list : Cal P w K mg base "_law_list" st__law_list 1 ["actual", "due"] (sp_list_same K)) (C__law_draw : Cal P w K mg base "_law_draw" st__law_draw 1 ["feed", "many"] sp_draw)
    (C_cut_at : Cal P w K mg base "cut_at" st_cut_at 6 ["lot", "text", "number"] (calm (sp_cut_at CN))) (C__law_is_cut : Cal P w K mg base "_law_is_cut" st__law_is_cut 1 ["lot", "text", "thing"] sp_is_cut) (C__law_rank : Cal P w K mg base "_law_rank" st__law_rank 1 ["lot", "text", "behind", "cut"] sp_rank) (C_cut_number : Cal P w K mg base "cut_number" st_cut_number 6 ["lot", "indexes"] (calm (sp_cut_number CE)))
    (C_cuts_of : Cal P w K mg base "cuts_of" st_cuts_of 6 ["lot", "text"] (calm (sp_cuts_of CE))) : FnOkG P w K mg base 9 f fd ["feed"] sp_law_right := by
  have nd := sc__law_right.nd
  refine Fun.okG F sc__law_right (fun vs H Q E h => ?_) (fun cdv A outer s H vs Q E hr hgd h => ?_)
  · obtain ⟨_, rfl, _⟩ := h
    rfl
  · obtain ⟨fa, rfl, G, k⟩ := h
    refine ⟨_, (pss_cons (ps_asg (pe_cl C__law_case hr (pa_cons (pv 0) pa_nil)) (kgl K (n := 2) (pg_lst rfl (pgs_cons (pg_name (i := 1) nd rfl (Or.inl rfl)) (pgs_cons (pg_name (i := 2) nd rfl (Or.inl rfl)) pgs_nil)))))
  (pss_cons (ps_set (i := 3) nd rfl (Or.inl rfl) (pe_cl C__law_behind hr (pa_cons (pv 1) (pa_cons (pv 2) pa_nil))))
  (pss_cons (ps_set (i := 4) nd rfl (Or.inl rfl) (pe_ix (kix K (r := L2.rIxL) ix_list) (pe_cl C__law_ahead hr (pa_cons (pv 1) (pa_cons (pv 2) pa_nil))) (pe_un un_neg pe_int) (fun _ _ => rfl)))
  (pss_cons (ps_if (PW.pt (pw_or (pt_not (pt_val (pe_cl C__law_is hr (pa_cons (pe_cl C_count_cuts hr (pa_cons (pv 1) (pa_cons (pv 2) pa_nil))) (pa_cons (pv 4) pa_nil))))) (pw_or1 (pt_not (pt_val (pe_cl C__law_is hr (pa_cons (pe_clK0 C_count_cuts (kb_count_cuts_1_0) hr (pk_cons (pv 2) (pk_cons (pv 1) pk_nil))) (pa_cons (pv 4) pa_nil))))))))
  (pss_one (ps_ret pe_bl))
  pss_nil)
  (pss_cons (ps_par (i := 5) (j := 6) rfl nd rfl rfl (by decide) rfl rfl (pa_cons (pe_cl C__law_told hr (pa_cons (pv 1) (pa_cons (pv 2) pa_nil))) (pa_cons (pe_cl C__law_all hr (pa_cons (pv 1) (pa_cons (pv 2) (pa_cons (pv 3) (pa_cons (pe_callB (call_min2 rfl) (by rfl) M.n_min boot_min (pa_cons (pv 4) (pa_cons pe_int pa_nil))) pa_nil))))) pa_nil)) (by rfl))
  (pss_cons (ps_if (PW.pt (pw_or (PW.pt (pw_and (pt_cmpR op_gt (pv 4) pe_int (nomark _)) (pw_and1 (pt_cmpR (kop K (r := rNeD) (op_neD hr.units)) (pv 5) (pe_tup (pa_cons (pe_sT [109, 97, 110, 121]) (pa_cons pe_bl pa_nil))) (nomark _))))) (pw_or1 (PW.pt (pw_and (pt_cmpR op_le (pv 4) pe_int (nomark _)) (pw_and1 (PW.pt (pw_or (pt_cmpR op_neT (pe_ix (kix K (r := L2.rIxT) ix_tup) (pv 5) pe_int (fun _ _ => rfl)) (pe_sT [116, 111, 108, 100]) (nomark _)) (pw_or1 (pt_not (pt_val (pe_cl C__law_lists hr (pa_cons (pe_ix (kix K (r := L2.rIxT) ix_tup) (pv 5) pe_int (fun _ _ => rfl)) (pa_cons (pv 6) pa_nil))))))))))))))
  (pss_one (ps_ret pe_bl))
  pss_nil)
  (pss_cons (ps_set (i := 7) nd rfl (Or.inl rfl) (pe_cl C_cut_of hr (pa_cons (pv 1) (pa_cons (pv 2) pa_nil))))
  (pss_cons (ps_if (pt_cmpR op_eqI (pv 4) pe_int (nomark _))
  (pss_one (ps_ret (pe_and (pe_cmpR op_isN (pv 7) pe_non (nomark _)) (pe_and (pe_cl C__law_beyond hr (pa_cons (pv 1) (pa_cons (pv 2) (pa_cons pe_int pa_nil)))) (pe_one (pe_clG C__law_drawn hr hgd (pa_cons (pv 0) (pa_cons (pv 1) pa_nil))))))))
  pss_nil)
  (pss_cons (ps_if (pt_not (pt_val (pe_cl C__law_list hr (pa_cons (pv 7) (pa_cons (pe_ix (kix K (r := L2.rIxL) ix_list) (pv 6) pe_int (fun _ _ => rfl)) pa_nil)))))
  (pss_one (ps_ret pe_bl))
  pss_nil)
  (pss_cons (ps_expr (kbm K (pe_bm PySem.F.plainAttrs_list PySem.F.slot_list_append PySem.F.type_list_append mt_append (pv 7) (pa_cons (pe_sT [115, 112, 111, 105, 108, 116]) pa_nil))))
  (pss_cons (ps_if (PW.pt (pw_or (pt_not (pt_val (pe_cl C__law_list hr (pa_cons (pe_clK0 C_cut_of (kb_cut_of_1_0) hr (pk_cons (pv 2) (pk_cons (pv 1) pk_nil))) (pa_cons (pe_ix (kix K (r := L2.rIxL) ix_list) (pv 6) pe_int (fun _ _ => rfl)) pa_nil))))) (pw_or1 (pt_not (pt_val (pe_cl C__law_beyond hr (pa_cons (pv 1) (pa_cons (pv 2) (pa_cons (pe_un un_neg pe_int) pa_nil)))))))))
  (pss_one (ps_ret pe_bl))
  pss_nil)
  (pss_cons (ps_if (PW.pt (pw_and (pt_cmpR op_lt (pv 4) (pe_op op_pow pe_int pe_int) (nomark _)) (pw_and1 (pt_not (pt_val (pe_cl C__law_beyond hr (pa_cons (pv 1) (pa_cons (pv 2) (pa_cons (pv 4) pa_nil)))))))))
  (pss_one (ps_ret pe_bl))
  pss_nil)
  (pss_cons (ps_set (i := 8) nd rfl (Or.inr rfl) (pe_callB (call_min2 rfl) (by rfl) M.n_min boot_min (pa_cons (pv 4) (pa_cons (pe_op op_pow pe_int pe_int) pa_nil))))
  (pss_cons (ps_for PassesOwn.never rfl (kil K (pi_list (pe_callB (ksortI (w := w)) (by rfl) M.n_sorted boot_sorted (pa_cons (pe_callTy (ksetI (K := K) (w := w)) (by rfl) M.n_set boot_set (pa_cons (pe_op op_cat (pe_lst (pa_cons pe_int (pa_cons (pe_op op_sub (pv 8) pe_int) pa_nil))) (pe_lc (own := [("turn", 10)]) rfl nd (pi_range1 (by rfl) M.n_range (pa_cons pe_int pa_nil)) (blkOk_by (N := N__law_right) (sc := defScope st__law_right) (by decide +kernel)) (fun _ _ _ _ _ => (pg_name (i := 10) nd rfl (Or.inl rfl))) (fun _ _ _ _ _ => pts_nil) (fun _ _ _ _ _ => (pe_cl C__law_draw hr (pa_cons (pv 0) (pa_cons (pv 8) pa_nil)))))) pa_nil)) pa_nil)))) (pg_name (i := 9) nd rfl (Or.inl rfl))
  (pss_cons (ps_set (i := 11) nd rfl (Or.inl rfl) (pe_clK0 C_cut_at (kb_cut_at_2_1_0) hr (pk_cons (pv 9) (pk_cons (pv 2) (pk_cons (pv 1) pk_nil)))))
  (pss_cons (ps_if (PW.pt (pw_or (pt_not (pt_val (pe_cl C__law_is_cut hr (pa_cons (pv 1) (pa_cons (pv 2) (pa_cons (pv 11) pa_nil)))))) (pw_or (pt_cmpR op_neI (pe_cl C__law_rank hr (pa_cons (pv 1) (pa_cons (pv 2) (pa_cons (pv 3) (pa_cons (pv 11) pa_nil))))) (pv 9) (nomark _)) (pw_or1 (pt_not (pt_val (pe_cl C__law_is hr (pa_cons (pe_clK0 C_cut_number (kb_cut_number_1_0) hr (pk_cons (pv 11) (pk_cons (pv 1) pk_nil))) (pa_cons (pv 9) pa_nil)))))))))
  (pss_one (ps_ret pe_bl))
  pss_nil)
  (pss_one (ps_if (PW.pt (pw_and (pt_cmpR op_lt (pv 9) (pe_callB (kcr K (r := rLenS) call_len_seq) (by rfl) M.n_len boot_len (pa_cons (pv 6) pa_nil)) (nomark _)) (pw_and1 (pt_cmpR (kop K (r := rNeD) (op_neD hr.units)) (pv 11) (pe_ix (kix K (r := L2.rIxL) ix_list) (pv 6) (pv 9) (fun _ _ => rfl)) (nomark _)))))
  (pss_one (ps_ret pe_bl))
  pss_nil)))))
  (pss_cons (ps_if (pt_cmpR op_le (pv 4) pe_int (nomark _))
  (pss_cons (ps_expr (kbm K (pe_bm PySem.F.plainAttrs_list PySem.F.slot_list_append PySem.F.type_list_append mt_append (pe_ix (kix K (r := L2.rIxT) ix_tup) (pv 5) pe_int (fun _ _ => rfl)) (pa_cons (pe_sT [115, 112, 111, 105, 108, 116]) pa_nil))))
  (pss_cons (ps_if (PW.pt (pw_and (pt_cmpR (kop K (r := rNeD) (op_neD hr.units)) (pv 6) (pe_lst pa_nil) (nomark _)) (pw_and1 (pt_val (pe_callB (kcr K (r := rIsiB) cr_isi) (by rfl) M.n_isinstance boot_isinstance (pa_cons (pe_ix (kix K (r := L2.rIxL) ix_list) (pe_ix (kix K (r := L2.rIxT) ix_tup) (pv 5) pe_int (fun _ _ => rfl)) pe_int (fun _ _ => rfl)) (pa_cons (pe_bltn (v := .ty "list") rfl M.n_list boot_list rfl) pa_nil)))))))
  (pss_one (ps_expr (kbm K (pe_bm PySem.F.plainAttrs_list PySem.F.slot_list_append PySem.F.type_list_append mt_append (pe_ix (kix K (r := L2.rIxL) ix_list) (pe_ix (kix K (r := L2.rIxT) ix_tup) (pv 5) pe_int (fun _ _ => rfl)) pe_int (fun _ _ => rfl)) (pa_cons (pe_sT [115, 112, 111, 105, 108, 116]) pa_nil)))))
  pss_nil)
  (pss_one (ps_if (pt_not (pt_val (pe_cl C__law_lists hr (pa_cons (pe_clK0 C_cuts_of (kb_cuts_of_1_0) hr (pk_cons (pv 2) (pk_cons (pv 1) pk_nil))) (pa_cons (pv 6) pa_nil)))))
  (pss_one (ps_ret pe_bl))
  pss_nil))))
  pss_nil)
  (pss_one (ps_ret (pe_clG C__law_drawn hr hgd (pa_cons (pv 0) (pa_cons (pv 1) pa_nil)))))))))))))))))))), ?_⟩
    refine ⟨.ref fa, rfl, fa, rfl, G.mono (by omega), fun q pl lot text H1 R1 hLA h1 h2 hq => ⟨q, _, rfl, sq_of hq, rfl, .ref pl, [T text], rfl, T text, [], rfl, rfl, ?_⟩⟩
    have hL := hLA.2
    have npl : pl ≠ fa := (G.go R1 (m' := 0) (by omega)).ofTup hLA.1
    have G1 : GF fa 900 H1 := G.go R1 (by omega)
    clear hq
    dsimp only
    show tSeq _ _ _ [some (.ref fa), some (.ref pl), some (T text), none, none, none, none, none, none, none, none, none] H1
    refine ⟨.ref pl, rfl, T text, rfl, pl, lot, text, rfl, hLA, h1, fun pb H2 hpb e2 hb2 => ?_⟩
    have npb : pb ≠ fa := G1.new hpb
    show tSeq _ _ _ [some (.ref fa), some (.ref pl), some (T text), some (.ref pb), none, none, none, none, none, none, none, none] H2
    refine ⟨.ref pl, rfl, T text, rfl, pl, lot, text, rfl, .inl (e2 _ _ hLA.1), hL.wds, h1, fun pa H3 _ e3 ha3 => ?_⟩
    have hlast : atI (aheadL lot text) (-1) = some (.int ((cutsAt lot text 0).length : Int)) := by
      unfold aheadL
      rw [List.range_succ, List.map_append, List.map_singleton, atI_last, count_pre hL.ps]
    refine (ev_un ev_c ru_neg : Ev (tUn (rU fun i => .int (-i)) (tC (.int 1))) [some (.ref fa), some (.ref pl), some (T text), some (.ref pb), none, none, none, none, none, none, none, none] H3 (.int (-1))) H3 (Ex.refl _) _ fun H4 e4 => rv_ixL (sq_of (e4 _ _ ha3)) hlast H4 (Ex.refl _) _ fun H5 e5 => ?_
    have hcuts : ∀ c ∈ cutsAt lot text 0, c.length ≤ 400 := fun c hc => Nat.le_trans (cut_is hL.ps hc).2.2 h1
    show tSeq _ _ _ [some (.ref fa), some (.ref pl), some (T text), some (.ref pb), some (.int ((cutsAt lot text 0).length : Int)), none, none, none, none, none, none, none] H5
    have e15 : Ex H1 H5 := e2.trans (e3.trans (e4.trans e5))
    have hLB := hLA.ex e15
    have hb5 := (e3.trans (e4.trans e5)) _ _ hb2
    clear ha3 hb2 hlast
    refine q_when (b := false) (et_is (et_or (et_not (et_B (ev_is (ev_call (ea_cons (ev_call (ea_cons (ev_var rfl) (ea_cons (ev_var rfl) ea_nil)) fun H6 e6 Q6 q6 E => ⟨pl, lot, text, rfl, hLB.ex e6, h1, h2, q6⟩) (ea_cons (ev_var rfl) ea_nil)) fun H6 e6 Q6 q6 E => ⟨_, _, rfl, q6⟩) (by rw [decide_eq_true rfl])))) fun _ => et_not (et_B (ev_is (ev_call (ea_cons (ev_callK0 (ea_cons (ev_var rfl) (ea_cons (ev_var rfl) ea_nil)) fun H6 e6 Q6 q6 E => ⟨pl, lot, text, rfl, hLB.ex e6, h1, h2, q6⟩) (ea_cons (ev_var rfl) ea_nil)) fun H6 e6 Q6 q6 E => ⟨_, _, rfl, q6⟩) (by rw [decide_eq_true rfl])))) rfl) (fun z => by cases z) (fun _ H6 e6 => ?_)
    have hLC := hLB.ex e6
    -- found, due
    have hmin : V.int (if (300 : Int) < ((cutsAt lot text 0).length : Int) then 300 else ((cutsAt lot text 0).length : Int)) = .int ((min (cutsAt lot text 0).length 300 : Nat) : Int) := by
      congr 1
      split <;> omega
    refine q_par2 (wp_told rfl rfl hLC h1 h2 fun pf H7 e7 hf7 => wp_all rfl rfl rfl (ev_is (ev_min2 (ev_var rfl) ev_c) hmin) (hLC.ex e7) h1 ((e6.trans e7) _ _ hb5) (by omega) (by omega) fun pd H9 e9 hd9 => ⟨_, _, rfl, ?_⟩)
    have hf9 := hf7.ex e9
    have e19 : Ex H1 H9 := e15.trans (e6.trans (e7.trans e9))
    have e16 : Ex H1 H6 := e15.trans e6
    have hb9 := (e6.trans (e7.trans e9)) _ _ hb5
    clear hb5 hLC hLB hmin
    show tSeq _ _ _ [some (.ref fa), some (.ref pl), some (T text), some (.ref pb), some (.int ((cutsAt lot text 0).length : Int)), some (.ref pf), some (.ref pd), none, none, none, none, none] H9
    refine q_when (b := false) ?_ (fun z => by cases z) (fun _ H10 e10 => ?_)
    · rcases hf9 with ⟨hm, hp⟩ | ⟨hm, q, ps, hp, hq0, hq, hl, hqn, _, hc⟩
      · exact et_is (et_or (et_and (b := false) (et_test (ev_op (ev_var rfl) ev_c rv_I0)) fun _ => et_neMany rfl hp) fun _ => et_and (b := false) (et_test (ev_op (ev_var rfl) ev_c rv_I0)) fun z => absurd (of_decide_eq_true z) (by omega)) (by simp)
      · refine et_is (et_or (et_and (b := false) (et_test (ev_op (ev_var rfl) ev_c rv_I0)) fun z => absurd (of_decide_eq_true z) (by omega)) fun _ => et_and (b := false) (et_test (ev_op (ev_var rfl) ev_c rv_I0)) fun _ => et_is (et_or (et_test (ev_op (ev_op (ev_var rfl) ev_c (rv_ixT (st_of hp) rfl)) ev_c rv_neT)) fun _ => et_not (et_B (ev_call (ea_cons (ev_op (ev_var rfl) ev_c (rv_ixT (st_of hp) rfl)) (ea_cons (ev_var rfl) ea_nil)) fun H11 e11 Q11 q11 E => ⟨q, pd, cutsAt lot text 0, rfl, ⟨ps, e11 _ _ hq, hl, fun i c hi => e11 _ _ (hc i c hi).2⟩, ?_, by omega, hcuts, q11⟩))) (by rw [decide_eq_true rfl]; rfl)) (by simp)
        have := (hd9.ex e11).cuts
        rw [List.take_of_length_le (by omega)] at this
        exact this
    have hd10 := hd9.ex e10
    have hf10 := hf9.ex e10
    have hb10 := e10 _ _ hb9
    have e1A : Ex H1 H10 := e19.trans e10
    clear hb9 hd9 hf9
    have ix0 : ∀ {c0 : List Nat} {σ' : L2.St} {H' : Hp}, (cutsAt lot text 0)[0]? = some c0 → σ'[6]? = some (some (.ref pd)) → DueAt pd ((cutsAt lot text 0).take (min (cutsAt lot text 0).length 300)) H7 H' → ∃ a, H' a = some (.lst (numV c0)) ∧ Ev (tOp (L2.rIxL K) (tVar 6) (tC (.int 0))) σ' H' (.ref a) := fun {c0 σ' H'} h0 h6 hd => hd.ix (i := 0) (ta := tVar 6) (tb := tC (.int 0)) (by
        have := (List.getElem?_eq_some_iff.mp h0).1
        rw [List.getElem?_take, if_pos (by omega), h0]) (ev_var h6) ev_c
    -- first
    by_cases hz : cutsAt lot text 0 = []
    · refine ⟨.ref pl, rfl, T text, rfl, pl, lot, text, rfl, hLA.ex e1A, h1, h2, fun _ H11 e11 => ?_, fun c hc => by rw [hz] at hc; cases hc⟩
      show tSeq _ _ _ [some (.ref fa), some (.ref pl), some (T text), some (.ref pb), some (.int ((cutsAt lot text 0).length : Int)), some (.ref pf), some (.ref pd), some .non, none, none, none, none] H11
      refine q_when (b := true) (et_is (et_test (ev_op (ev_var rfl) ev_c rv_I0)) (by rw [hz]; rfl)) (fun _ H12 e12 => ?_) (fun z => by cases z)
      refine s_retAnd (ev_is (ev_op (ev_var rfl) ev_c rv_isN) rfl) fun H13 e13 => ?_
      have e1D := ((e1A.trans e11).trans e12).trans e13
      refine s_retAnd (ev_beyond (hLA.ex e1D) h1 h2 (by rw [hz]; decide) (ea_cons (ev_var rfl) (ea_cons (ev_var rfl) (ea_cons ev_c ea_nil)))) fun H14 e14 => ?_
      have R14 : Rf fa 22000 H H14 := R1.then (e1D.trans e14)
      exact ⟨.ref fa, rfl, .ref pl, rfl, fa, pl, lot, rfl, G.go R14 (by omega), hLA.ex (e1D.trans e14), fun H' R => k H' ((R14.trans R).mono (by omega))⟩
    have hN : 0 < (cutsAt lot text 0).length := List.length_pos_iff.mpr hz
    obtain ⟨c0, hc0⟩ : ∃ c0, (cutsAt lot text 0)[0]? = some c0 := ⟨_, List.getElem?_eq_getElem hN⟩
    have hc0l : c0.length ≤ 400 := hcuts c0 (List.mem_of_getElem? hc0)
    refine ⟨.ref pl, rfl, T text, rfl, pl, lot, text, rfl, hLA.ex e1A, h1, h2, fun z => absurd z hz, fun c hc p1 H11 hp1 e11 h11 => ?_⟩
    rw [hc0] at hc
    cases hc
    show tSeq _ _ _ [some (.ref fa), some (.ref pl), some (T text), some (.ref pb), some (.int ((cutsAt lot text 0).length : Int)), some (.ref pf), some (.ref pd), some (.ref p1), none, none, none, none] H11
    refine q_when (b := false) (et_is (et_test (ev_op (ev_var rfl) ev_c rv_I0)) (decide_eq_false (by omega))) (fun z => by cases z) (fun _ H12 e12 => ?_)
    obtain ⟨a0, ha0, ev0⟩ := ix0 hc0 (σ' := [some (.ref fa), some (.ref pl), some (T text), some (.ref pb), some (.int ((cutsAt lot text 0).length : Int)), some (.ref pf), some (.ref pd), some (.ref p1), none, none, none, none]) rfl (hd10.ex (e11.trans e12))
    refine q_when (b := false) (et_is (et_not (et_B (ev_listVV hc0l (ev_var rfl) (e12 _ _ h11) ev0 ha0))) rfl) (fun z => by cases z) (fun _ H13 e13 => ?_)
    refine q_app ((e12.trans e13) _ _ h11) (ev_var rfl) ev_c (by unfold numV; rw [List.length_map]; omega) fun H14 e14 => ?_
    have eM : Ex H10 (upd H14 p1 (.lst (numV c0 ++ [T [115, 112, 111, 105, 108, 116]]))) := Ex.mut (e11.trans (e12.trans (e13.trans e14))) hp1
    clear ev0 ha0 h11 e11 e12 e13 e14 a0
    generalize upd H14 p1 (.lst (numV c0 ++ [T [115, 112, 111, 105, 108, 116]])) = H15 at eM ⊢
    obtain ⟨a0, ha0, ev0⟩ := ix0 hc0 (σ' := [some (.ref fa), some (.ref pl), some (T text), some (.ref pb), some (.int ((cutsAt lot text 0).length : Int)), some (.ref pf), some (.ref pd), some (.ref p1), none, none, none, none]) rfl (hd10.ex eM)
    have hLM := hLA.ex (e1A.trans eM)
    refine q_when (b := false) (et_is (et_or (et_not (et_B (ev_listNV hc0l (el_callK0 (ea_cons (ev_var rfl) (ea_cons (ev_var rfl) ea_nil)) fun H6 e6 Q6 q6 E => ⟨pl, lot, text, rfl, hLM.ex e6, h1, h2, fun z => absurd z hz, fun c hc => by
        rw [hc0] at hc
        cases hc
        exact q6⟩) ev0 ha0))) fun _ => et_not (et_B (ev_beyond hLM h1 h2 (by omega) (ea_cons (ev_var rfl) (ea_cons (ev_var rfl) (ea_cons (ev_un ev_c ru_neg) ea_nil)))))) rfl) (fun z => by cases z) (fun _ H16 e16 => ?_)
    refine q_when (b := false) (et_is (et_and (et_test (ev_op (ev_var rfl) ev_pow60 rv_I0)) fun _ => et_not (et_B (ev_beyond (hLM.ex e16) h1 h2 (by omega) (ea_cons (ev_var rfl) (ea_cons (ev_var rfl) (ea_cons (ev_var rfl) ea_nil)))))) (Bool.and_false _)) (fun z => by cases z) (fun _ H17 e17 => ?_)
    obtain ⟨sm, hsm, hs1, hs2, hs3⟩ : ∃ sm : Nat, V.int (if (10 : Int) ^ 60 < ((cutsAt lot text 0).length : Int) then (10 : Int) ^ 60 else ((cutsAt lot text 0).length : Int)) = .int (sm : Int) ∧ 1 ≤ sm ∧ sm ≤ (cutsAt lot text 0).length ∧ (sm : Int) ≤ 10 ^ 61 := by
      generalize (cutsAt lot text 0).length = n at hN ⊢
      by_cases hb : (10 : Int) ^ 60 < (n : Int)
      · exact ⟨10 ^ 60, by rw [if_pos hb]; rfl, by decide, by omega, by decide⟩
      · exact ⟨n, by rw [if_neg hb], by omega, Nat.le_refl _, by omega⟩
    refine q_asg (ev_is (ev_min2 (ev_var rfl) ev_pow60) hsm) fun H18 e18 => ?_
    have e7I : Ex H10 H18 := eM.trans (e16.trans (e17.trans e18))
    have hd18 := hd10.ex e7I
    have hf18 := hf10.ex e7I
    have hb18 := e7I _ _ hb10
    have e1I := e1A.trans e7I
    clear hd10 hf10 hb10 ev0 ha0 hLM eM e16 e17 e18 hsm
    show tSeq _ _ _ [some (.ref fa), some (.ref pl), some (T text), some (.ref pb), some (.int ((cutsAt lot text 0).length : Int)), some (.ref pf), some (.ref pd), some (.ref p1), some (.int (sm : Int)), none, none, none] H18
    refine q_forOf ?_
    refine nums_ok rfl (fun _ => rfl) (fun _ => rfl) (fun _ => rfl) ((G1.ex e1I).mono (by omega)) hs1 hs3 fun r zs H19 hzs R19 hr => ?_
    have G18 : GF fa 900 H18 := G1.ex e1I
    have hd19 : DueAt pd ((cutsAt lot text 0).take (min (cutsAt lot text 0).length 300)) H7 H19 := hd18.exc (B := fun c => c = fa) (fun b z => by rw [z]; exact (G1.ex (e16.trans e7)).is) R19.keep
    have npf : pf ≠ fa := by
      obtain ⟨xs, hx⟩ := hf18.tup
      exact G18.ofTup hx
    have hf19 : FoundAt lot text pf H6 H7 H19 := hf18.exc (B := fun c => c = fa) (fun b z => by rw [z]; exact (G1.ex e16).is) npf R19.keep
    have hb19 := R19.at_ hb18 npb
    have RA : Rf fa 4 H1 H19 := R19.pre e1I
    have hL19 : LotAt pl lot H19 := ⟨RA.at_ hLA.1 npl, hL⟩
    clear hd18 hf18 hb18 G18 R19 e1I e7I e1A e10 e19
    refine q_forW (fun _ => False) (src_listM (a := r) (f := V.int) (xs := zs) (fun H2 e2 Q2 q2 => q2 H2 (Ex.refl _)) (sq_of hr)) (fun _ z => z.elim)
      (fun Hs i σ' H' => ∃ v9 v10 v11 : Option V, σ' = [some (.ref fa), some (.ref pl), some (T text), some (.ref pb), some (.int ((cutsAt lot text 0).length : Int)), some (.ref pf), some (.ref pd), some (.ref p1), some (.int (sm : Int)), v9, v10, v11] ∧ Ex Hs H') ?_ ?_ ?_ ?_ ?_
    · intro Hs e
      exact ⟨_, _, _, rfl, Ex.refl _⟩
    · rintro Hs i σ' H' ⟨_, _, _, _, h⟩
      exact .of h
    · rintro Hs i σ' Ha Hb ⟨v9, v10, v11, h0, h3⟩ e
      exact ⟨v9, v10, v11, h0, h3.trans e⟩
    · rintro Hs i y σ' H' e hi ⟨v9, v10, v11, rfl, hx⟩ hy
      obtain ⟨z, hzz, rfl⟩ := at_map hy
      obtain ⟨hz0, hz1⟩ := hzs z (List.mem_of_getElem? hzz)
      obtain ⟨n, rfl⟩ := Int.eq_ofNat_of_zero_le hz0
      have eX : Ex H19 H' := e.trans hx
      have hLX := hL19.ex eX
      show tSeq _ _ _ [some (.ref fa), some (.ref pl), some (T text), some (.ref pb), some (.int ((cutsAt lot text 0).length : Int)), some (.ref pf), some (.ref pd), some (.ref p1), some (.int (sm : Int)), some (.int (n : Int)), v10, v11] H'
      refine ⟨.int (n : Int), rfl, T text, rfl, .ref pl, rfl, pl, lot, text, (n : Int), rfl, hLX, h1, h2, fun n' c hn' hc pc H20 hpc e20 h20 => ?_, fun hout => absurd (show 0 ≤ (n : Int) ∧ (n : Int) ≤ ((cutsAt lot text 0).length : Int) - 1 from ⟨by omega, by omega⟩) hout⟩
      obtain rfl : n' = n := by omega
      obtain ⟨hix, hput, hcl⟩ := cut_is hL.ps (List.mem_of_getElem? hc)
      have hrk : rankF lot text 0 c = n' := rank_nth hL.ps text.length 0 (by omega) n' c hc
      have hLY := hLX.ex e20
      have hbY := (eX.trans e20) _ _ hb19
      have hdY := hd19.ex (eX.trans e20)
      show tSeq _ _ _ [some (.ref fa), some (.ref pl), some (T text), some (.ref pb), some (.int ((cutsAt lot text 0).length : Int)), some (.ref pf), some (.ref pd), some (.ref p1), some (.int (sm : Int)), some (.int (n' : Int)), v10, some (.ref pc)] H20
      refine q_when (b := false) (et_is (et_or (et_not (et_B (ev_call (ea_cons (ev_var rfl) (ea_cons (ev_var rfl) (ea_cons (ev_var rfl) ea_nil))) fun H6 e6 Q6 q6 E => ⟨pl, pc, lot, text, c, rfl, hLY.ex e6, e6 _ _ h20, hix, hput, by omega, q6⟩))) fun _ => et_or (et_test (ev_op (ev_is (ev_rankV hLY h1 hbY h20 hix hput rfl rfl rfl rfl) (by rw [hrk])) (ev_var rfl) rv_I0)) fun _ => et_not (et_B (ev_is (ev_call (ea_cons (ev_callK0 (ea_cons (ev_var rfl) (ea_cons (ev_var rfl) ea_nil)) fun H6 e6 Q6 q6 E => ⟨pl, pc, lot, c, rfl, hLY.ex e6, e6 _ _ h20, hix, by omega, fun _ => by rw [hput, hrk]; exact q6, fun z => absurd z (by rw [hput]; omega)⟩) (ea_cons (ev_var rfl) ea_nil)) fun H6 e6 Q6 q6 E => ⟨_, _, rfl, q6⟩) (by rw [decide_eq_true rfl])))) (by simp)) (fun z => by cases z) (fun _ H21 e21 => ?_)
      have hdZ := hdY.ex e21
      have h21 := e21 _ _ h20
      refine s_when (b := false) (et_is (et_and (et_test (ev_op (ev_var rfl) (hdZ.len (ev_var rfl)) rv_I0)) fun hlt => ?_) (Bool.and_false _)) (fun z => by cases z) (fun _ H22 e22 => ⟨_, _, _, rfl, hx.trans (e20.trans (e21.trans e22))⟩)
      have hlt := of_decide_eq_true hlt
      rw [List.length_take] at hlt
      obtain ⟨a, ha, ev⟩ := hdZ.ix (i := n') (c := c) (K := K) (ta := tVar 6) (tb := tVar 9) (σ := [some (.ref fa), some (.ref pl), some (T text), some (.ref pb), some (.int ((cutsAt lot text 0).length : Int)), some (.ref pf), some (.ref pd), some (.ref p1), some (.int (sm : Int)), some (.int (n' : Int)), v10, some (.ref pc)]) (by rw [List.getElem?_take, if_pos (by omega), hc]) (ev_var rfl) (ev_var rfl)
      exact et_is (et_test (ev_op (ev_var rfl) ev (rv_neD (b := true) (fun H1 e1 => dp_c (e1 _ _ h21)) (fun H1 e1 => dp_c (e1 _ _ ha)) (sh_c c) (sh_c c) (eqv_c c)))) rfl
    · rintro Hs σ' H' e ⟨v9, v10, v11, rfl, hx⟩
      have eX : Ex H19 H' := e.trans hx
      have hLX := hL19.ex eX
      have hdX := hd19.ex eX
      have hfX := hf19.ex eX
      have RX : Rf fa 4 H1 H' := RA.then eX
      have fin : ∀ {D : Ends} {σ' : L2.St} {Hb : Hp}, (∀ v Hc, Q v Hc → D.rt v Hc) → σ'[0]? = some (some (.ref fa)) → σ'[1]? = some (some (.ref pl)) → Rf fa 4 H1 Hb → tRet (tCall sp_drawn [] E0 (tCons (tVar 0) (tCons (tVar 1) tNil))) D σ' Hb := fun {D σ' Hb} hD s0 s1 R => ⟨.ref fa, s0, .ref pl, s1, fa, pl, lot, rfl, G1.go R (by omega), ⟨R.at_ hLA.1 npl, hL⟩, fun Hc R2 => hD _ _ (k Hc (((R1.trans R).trans R2).mono (by omega)))⟩
      show tSeq _ _ _ [some (.ref fa), some (.ref pl), some (T text), some (.ref pb), some (.int ((cutsAt lot text 0).length : Int)), some (.ref pf), some (.ref pd), some (.ref p1), some (.int (sm : Int)), v9, v10, v11] H'
      refine q_when (et_test (ev_op (ev_var rfl) ev_c rv_I0)) (fun hb H23 e23 => ?_) (fun hb H23 e23 => fin (fun v Hc q => q) rfl rfl (RX.then e23))
      have hb := of_decide_eq_true hb
      have hd23 := hdX.ex e23
      rcases hfX.ex e23 with ⟨hm, _⟩ | ⟨hm, qf, ps, hp, hq0, hq, hlp, hqn, hq7, hc⟩
      · omega
      have hcs : (cutsAt lot text 0).take (min (cutsAt lot text 0).length 300) = cutsAt lot text 0 := List.take_of_length_le (by omega)
      rw [hcs] at hd23
      obtain ⟨⟨hp00, hp7⟩, hp0⟩ := hc 0 c0 hc0
      have hps0 : ps[0]? = some (ps.getD 0 0) := by rw [List.getD_eq_getElem?_getD, List.getElem?_eq_getElem (by omega)]; rfl
      have hne0 : ps.getD 0 0 ≠ qf := fun z => hqn (z ▸ List.mem_of_getElem? hps0)
      generalize ps.getD 0 0 = p0 at hp00 hp0 hps0 hne0 hp7
      refine q_app (xs := ps.map V.ref) (l := qf) hq (ev_op (ev_var rfl) ev_c (rv_ixT (st_of hp) rfl)) ev_c (by rw [List.length_map]; omega) fun H24 e24 => ?_
      have hp24 := e24 _ _ hp
      have x1 : Exc (fun c => c = qf) H24 (upd H24 qf (.lst (ps.map V.ref ++ [T [115, 112, 111, 105, 108, 116]]))) := (Exc.refl H24).upd (.inl rfl)
      have n1q : H1 qf = none := fresh_back e16 hq0
      have n1p : H1 p0 = none := fresh_back e16 hp00
      have R24 : Rf fa 4 H1 (upd H24 qf (.lst (ps.map V.ref ++ [T [115, 112, 111, 105, 108, 116]]))) := (RX.then (e23.trans e24)).exc x1 n1q (G1.new n1q)
      have hp25 := x1 _ _ (fun z : pf = qf => by
        rw [z, e24 _ _ hq] at hp24
        cases hp24) hp24
      have hp026 := x1 _ _ hne0 (e24 _ _ hp0)
      have hd26 := (hd23.ex e24).exc (fun b (z : b = qf) => by rw [z]; exact hq7) x1
      have hq26 : upd H24 qf (.lst (ps.map V.ref ++ [T [115, 112, 111, 105, 108, 116]])) qf = some (.lst (ps.map V.ref ++ [T [115, 112, 111, 105, 108, 116]])) := upd_same
      clear hp24 x1
      generalize upd H24 qf (.lst (ps.map V.ref ++ [T [115, 112, 111, 105, 108, 116]])) = H26 at R24 hp25 hp026 hd26 hq26 ⊢
      have evp : ∀ {Hb : Hp}, Ex H26 Hb → Ev (tOp (L2.rIxL K) (tOp (L2.rIxT K) (tVar 5) (tC (.int 1))) (tC (.int 0))) [some (.ref fa), some (.ref pl), some (T text), some (.ref pb), some (.int ((cutsAt lot text 0).length : Int)), some (.ref pf), some (.ref pd), some (.ref p1), some (.int (sm : Int)), v9, v10, v11] Hb (.ref p0) := fun eb => ev_op (ev_op (ev_var rfl) ev_c (rv_ixT (st_of (eb _ _ hp25)) rfl)) ev_c (rv_ixL (sq_of (eb _ _ hq26)) (atI_nat (j := 0) (by rw [List.getElem?_append_left (by rw [List.length_map]; omega), List.getElem?_map, hps0]; rfl)))
      refine q_when (b := true) (et_is (et_and (hd26.ne hz (ev_var rfl)) fun _ => et_B (ev_cb (ea_cons (evp (Ex.refl _)) (ea_cons ev_c ea_nil)) (rc_isi (fun H1 e1 => .base (.lst (e1 _ _ hp026))) k_list_list))) rfl) (fun _ H27 e27 => ?_) (fun z => by cases z)
      refine s_app (e27 _ _ hp026) (evp e27) ev_c (by unfold numV; rw [List.length_map]; omega) fun H28 e28 => ?_
      have x2 : Exc (fun c => c = p0) H28 (upd H28 p0 (.lst (numV c0 ++ [T [115, 112, 111, 105, 108, 116]]))) := (Exc.refl H28).upd (.inl rfl)
      have R29 := (R24.then (e27.trans e28)).exc x2 n1p (G1.new n1p)
      have hd29 := (hd26.ex (e27.trans e28)).exc (fun b (z : b = p0) => by rw [z]; exact hp7) x2
      generalize upd H28 p0 (.lst (numV c0 ++ [T [115, 112, 111, 105, 108, 116]])) = H29 at R29 hd29 ⊢
      dsimp only
      refine s_when (b := false) (et_is (et_not (et_B (ev_listsK ⟨R29.at_ hLA.1 npl, hL⟩ h1 h2 hm hd29 hcuts rfl rfl rfl))) rfl) (fun z => by cases z) (fun _ H30 e30 => ?_)
      exact fin (fun v Hc q => q) rfl rfl (R29.then e30)
end
end K03
set_option Elab.async false
set_option linter.all false
set_option maxRecDepth 100000
set_option maxHeartbeats 2000000
namespace K03
open PySem PySem.Spec PyProof.Rows L2 Evl Wc Wt Wg
section
variable {P : Program} {w : World} {K : PySem.W.Frag} {mg : Str → Option Value} {base : Heap}
def sp_law (K : PySem.W.Frag) : Sp := fun vs H Q _ => ∃ (a : Addr) (ns : List Int) (e : Nat), vs = [.ref a] ∧ SqL K H a (ns.map V.int) ∧ ns.length ≤ 63 ∧ 1 ≤ e ∧ e ≤ 1100000 ∧ (∀ z ∈ ns, z.natAbs < 2 ^ e) ∧ ∀ H', Q (.bl true) H'
theorem ok_law {f : Addr} {fd : FuncData} (F : Fun K "law" "law" st_law f fd) (M : Md K mg) (C__law_feed : Cal P w K mg base "_law_feed" st__law_feed 1 ["script", "k"] (sp_feed K)) (C__law_right : CalG P w K mg base "_law_right" st__law_right 9 ["feed"] sp_law_right) : FnOkG P w K mg base 10 f fd ["script"] (sp_law K) := by
  have nd := sc_law.nd
  refine Fun.okG F sc_law (fun vs H Q E h => ?_) (fun cdv A outer s H vs Q E hr hgd h => ?_)
  · obtain ⟨_, _, _, rfl, _⟩ := h
    rfl
  · obtain ⟨a, ns, e, rfl, hS, hlen, he1, he2, hz, k⟩ := h
    refine ⟨_, (pss_cons (ps_for PassesOwn.never rfl (pi_range1 (by rfl) M.n_range (pa_cons (pe_callB (call_max2 rfl) (by rfl) M.n_max boot_max (pa_cons pe_int (pa_cons (pe_callB (call_min2 rfl) (by rfl) M.n_min boot_min (pa_cons (pe_callB (kcr K (r := rLenS) call_len_seq) (by rfl) M.n_len boot_len (pa_cons (pv 0) pa_nil)) (pa_cons pe_int pa_nil))) pa_nil))) pa_nil)) (pg_name (i := 1) nd rfl (Or.inl rfl))
  (pss_one (ps_if (pt_not (pt_val (pe_clG C__law_right hr hgd (pa_cons (pe_cl C__law_feed hr (pa_cons (pv 0) (pa_cons (pv 1) pa_nil))) pa_nil))))
  (pss_one (ps_ret pe_bl))
  pss_nil)))
  (pss_one (ps_ret pe_bl))), ?_⟩
    obtain ⟨n, hn6, hn⟩ : ∃ n : Nat, n ≤ 4 ∧ (if (if (4 : Int) < ((ns.map V.int).length : Int) then (4 : Int) else ((ns.map V.int).length : Int)) > 1 then (if (4 : Int) < ((ns.map V.int).length : Int) then (4 : Int) else ((ns.map V.int).length : Int)) else 1) = (n : Int) := by
      refine ⟨max 1 (min ns.length 4), by omega, ?_⟩
      rw [List.length_map]
      split <;> split <;> omega
    have hcnt : EvA (tCons (tCB rMax2 (tCons (tC (.int 1)) (tCons (tCB rMin2 (tCons (tCB (rLenS K) (tCons (tVar 0) tNil)) (tCons (tC (.int 4)) tNil))) tNil))) tNil) (start N_law [.ref a]) H [.int (n : Int)] :=
      ea_cons (ev_is (ev_max2 ev_c (ev_min2 (ev_len (ev_var rfl) hS) ev_c)) (by rw [hn])) ea_nil
    refine q_forW (fun _ => False) (src_range1 (n := n) hcnt (by omega)) (fun _ z => z.elim)
      (fun Hs i σ' H' => ∃ v1 : Option V, σ' = [some (.ref a), v1] ∧ Ex Hs H') ?_ ?_ ?_ ?_ ?_
    · intro Hs e
      exact ⟨none, rfl, Ex.refl _⟩
    · rintro Hs i σ' H' ⟨_, _, h1⟩
      exact .of h1
    · rintro Hs i σ' Ha Hb ⟨v1, h0, h1⟩ e
      exact ⟨v1, h0, h1.trans e⟩
    · rintro Hs i x σ' H' e0 hi ⟨v1, rfl, h1⟩ rfl
      have eA : Ex H H' := e0.trans h1
      show tIfS _ _ _ _ [some (.ref a), some (.int (i : Int))] H'
      refine ⟨.ref a, rfl, .int (i : Int), rfl, a, ns, i, e, rfl, ex_l eA hS, by omega, he1, he2, hz, fun fa H2 hfa e2 hF => ?_⟩
      have G0 : GF fa 23000 H2 := ⟨0, by decide, hF⟩
      exact ⟨fa, rfl, G0, fun H3 R3 => ⟨true, rfl, ⟨_, rfl, h1.trans (ex_of_exc e2 hfa R3.keep)⟩⟩⟩
    · rintro Hs σ' H' e0 ⟨v1, rfl, h1⟩
      exact s_ret ev_c fun H2 e2 => k H2
end
end K03
set_option Elab.async false
set_option linter.all false
set_option maxRecDepth 100000
set_option maxHeartbeats 2000000
namespace K03
open PySem PySem.Spec PyProof.Rows L2 Evl Wc Wt Wg
/-- a def of the top, as it stands -/
def Top (K : PySem.W.Frag) (x : Str) (st : Stmt) : Prop := ∃ (f : Addr) (oc : Value) (od an : Option Addr) (osl : Array (Option Value)) (kV doc pm cdv ct : Value), PySem.W.nsIn K mainGlobals x = some (some (.ref f)) ∧ K.lookup f = some ⟨oc, od, .func (PySem.W.fnOf x x (defArgs st) (defBody st) (defScope st) .none kV doc pm an cdv ct), osl⟩ ∧ PySem.W.codeIn K cdv x = true ∧ PySem.W.keepIn K (.ref f) = true
theorem top_mk {K : PySem.W.Frag} {x : Str} {st : Stmt} {f : Addr} {oc : Value} {od an : Option Addr} {osl : Array (Option Value)} {kV doc pm cdv ct : Value} (a : PySem.W.nsIn K mainGlobals x = some (some (.ref f))) (l : K.lookup f = some ⟨oc, od, .func (PySem.W.fnOf x x (defArgs st) (defBody st) (defScope st) .none kV doc pm an cdv ct), osl⟩) (c : PySem.W.codeIn K cdv x = true) (k : PySem.W.keepIn K (.ref f) = true) : Top K x st := ⟨f, oc, od, an, osl, kV, doc, pm, cdv, ct, a, l, c, k⟩
section
variable {P : Program} {w : World} {K : PySem.W.Frag} {mg : Str → Option Value} {base h : Heap} {x : Str} {st : Stmt} {k : Nat} {ps : List Str} {sp : Sp}
theorem Top.cal (T : Top K x st) (X : K.In h) (G : h.Ns mainGlobals mg)
    (hb : ∀ (kV doc pm : Value) (an : Option Addr) (cdv ct : Value) (us : List Value), us.length = ps.length → bindArgs (PySem.W.fnOf x x (defArgs st) (defBody st) (defScope st) .none kV doc pm an cdv ct) ⟨us, []⟩ = pure (ps.zip us))
    (ok : ∀ f fd, Fun K x x st f fd → FnOk P w K mg base CX0 k f fd ps sp) : Cal P w K mg base x st k ps sp := by
  obtain ⟨f, oc, od, an, osl, kV, doc, pm, cdv, ct, a, l, c, k⟩ := T
  have F := fun_mk (st := st) l c k
  exact ⟨f, _, ok _ _ F, PySem.W.mg_of X G a, F, F.binds hb⟩
theorem Top.calG (T : Top K x st) (X : K.In h) (G : h.Ns mainGlobals mg)
    (hb : ∀ (kV doc pm : Value) (an : Option Addr) (cdv ct : Value) (us : List Value), us.length = ps.length → bindArgs (PySem.W.fnOf x x (defArgs st) (defBody st) (defScope st) .none kV doc pm an cdv ct) ⟨us, []⟩ = pure (ps.zip us))
    (ok : ∀ f fd, Fun K x x st f fd → FnOkG P w K mg base k f fd ps sp) : CalG P w K mg base x st k ps sp := by
  obtain ⟨f, oc, od, an, osl, kV, doc, pm, cdv, ct, a, l, c, k⟩ := T
  have F := fun_mk (st := st) l c k
  exact ⟨f, _, ok _ _ F, PySem.W.mg_of X G a, F, F.binds hb⟩
theorem Top.calS (T : Top K x st) (X : K.In h) (G : h.Ns mainGlobals mg)
    (hb : ∀ (kV doc pm : Value) (an : Option Addr) (cdv ct : Value) (us : List Value), us.length = ps.length → bindArgs (PySem.W.fnOf x x (defArgs st) (defBody st) (defScope st) .none kV doc pm an cdv ct) ⟨us, []⟩ = pure (ps.zip us))
    (ok : ∀ f fd, Fun K x x st f fd → FnOk P w K mg base (L2.CX P w) k f fd ps sp) : CalS P w K mg base x st k ps sp := by
  obtain ⟨f, oc, od, an, osl, kV, doc, pm, cdv, ct, a, l, c, k⟩ := T
  have F := fun_mk (st := st) l c k
  exact ⟨f, _, ok _ _ F, PySem.W.mg_of X G a, F, F.binds hb⟩
/-- .. by its address, its name a value -/
theorem Top.at_ (T : Top K x st) (X : K.In h) (G : h.Ns mainGlobals mg)
    (hb : ∀ (kV doc pm : Value) (an : Option Addr) (cdv ct : Value) (us : List Value), us.length = ps.length → bindArgs (PySem.W.fnOf x x (defArgs st) (defBody st) (defScope st) .none kV doc pm an cdv ct) ⟨us, []⟩ = pure (ps.zip us))
    (ok : ∀ f fd, Fun K x x st f fd → FnOk P w K mg base CX0 k f fd ps sp) : ∃ f, C8.CalAt P w K mg base k f sp ∧ ∃ u, mg x = some u ∧ RelV (.ref f) u := by
  obtain ⟨f, oc, od, an, osl, kV, doc, pm, cdv, ct, a, l, c, k⟩ := T
  have F := fun_mk (st := st) l c k
  exact ⟨f, ⟨_, ps, ok _ _ F, k, F.binds hb⟩, _, PySem.W.mg_of X G a, rfl⟩
/-- .. whatever its context -/
theorem Top.fn {CX : CXT} (T : Top K x st) (X : K.In h) (G : h.Ns mainGlobals mg)
    (hb : ∀ (kV doc pm : Value) (an : Option Addr) (cdv ct : Value) (us : List Value), us.length = ps.length → bindArgs (PySem.W.fnOf x x (defArgs st) (defBody st) (defScope st) .none kV doc pm an cdv ct) ⟨us, []⟩ = pure (ps.zip us))
    (ok : ∀ f fd, Fun K x x st f fd → FnOk P w K mg base CX k f fd ps sp) : ∃ f fd, FnOk P w K mg base CX k f fd ps sp ∧ Binds K fd ps [] ∧ mg x = some (.ref f) ∧ PySem.W.keepIn K (.ref f) = true := by
  obtain ⟨f, oc, od, an, osl, kV, doc, pm, cdv, ct, a, l, c, k⟩ := T
  have F := fun_mk (st := st) l c k
  exact ⟨f, _, ok _ _ F, F.binds hb, PySem.W.mg_of X G a, k⟩
/-- a method, as it stands -/
def TopM (K : PySem.W.Frag) (C : Addr) (m q : Str) (st : Stmt) : Prop := ∃ (f : Addr) (oc : Value) (od an : Option Addr) (osl : Array (Option Value)) (kV doc pm cdv ct : Value), PySem.W.findIn K (.ref C) m = some (some (.ref f)) ∧ PySem.W.isFn K (.ref f) = true ∧ K.lookup f = some ⟨oc, od, .func (PySem.W.fnOf m q (defArgs st) (defBody st) (defScope st) .none kV doc pm an cdv ct), osl⟩ ∧ PySem.W.codeIn K cdv q = true ∧ PySem.W.keepIn K (.ref f) = true
theorem topm_mk {C : Addr} {m q : Str} {f : Addr} {oc : Value} {od an : Option Addr} {osl : Array (Option Value)} {kV doc pm cdv ct : Value} (a : PySem.W.findIn K (.ref C) m = some (some (.ref f))) (i : PySem.W.isFn K (.ref f) = true) (l : K.lookup f = some ⟨oc, od, .func (PySem.W.fnOf m q (defArgs st) (defBody st) (defScope st) .none kV doc pm an cdv ct), osl⟩) (c : PySem.W.codeIn K cdv q = true) (k : PySem.W.keepIn K (.ref f) = true) : TopM K C m q st := ⟨f, oc, od, an, osl, kV, doc, pm, cdv, ct, a, i, l, c, k⟩
theorem TopM.met {C : Addr} {m q : Str} (T : TopM K C m q st) (cl : Cls K C)
    (hb : ∀ (kV doc pm : Value) (an : Option Addr) (cdv ct : Value) (us : List Value), us.length = ps.length → bindArgs (PySem.W.fnOf m q (defArgs st) (defBody st) (defScope st) .none kV doc pm an cdv ct) ⟨us, []⟩ = pure (ps.zip us))
    (ok : ∀ f fd, Fun K m q st f fd → FnOk P w K mg base CX0 k f fd ps sp) : C8.Met P w K mg base k C m sp [] := by
  obtain ⟨f, oc, od, an, osl, kV, doc, pm, cdv, ct, a, i, l, c, k⟩ := T
  have F := fun_mk (st := st) l c k
  exact ⟨f, _, ps, [], cl, ⟨a, i, k⟩, ok _ _ F, F.binds hb, .nil⟩
theorem TopM.mak {C : Addr} {q : Str} (T : TopM K C "__init__" q st) (X : K.In h) (G : h.Ns mainGlobals mg) (n : PySem.W.nsIn K mainGlobals x = some (some (.ref C))) (mk : PySem.W.makesIn K C = true) (kc : PySem.W.keepIn K (.ref C) = true)
    (hb : ∀ (kV doc pm : Value) (an : Option Addr) (cdv ct : Value) (us : List Value), us.length = ps.length → bindArgs (PySem.W.fnOf "__init__" q (defArgs st) (defBody st) (defScope st) .none kV doc pm an cdv ct) ⟨us, []⟩ = pure (ps.zip us))
    (ok : ∀ f fd, Fun K "__init__" q st f fd → FnOk P w K mg base CX0 k f fd ps sp) : Mak P w K mg base k C x sp := by
  obtain ⟨f, oc, od, an, osl, kV, doc, pm, cdv, ct, a, i, l, c, k⟩ := T
  have F := fun_mk (st := st) l c k
  exact ⟨f, _, ps, ⟨mk, a, i, kc⟩, ok _ _ F, F.binds hb, PySem.W.mg_of X G n⟩
end
theorem all_mk {l : PySem.W.OpenLaw} {w : World} {K : PySem.W.Frag} {h : Heap} {mg : Str → Option Value} {fa : Addr} (X : K.In h) (G : h.Ns mainGlobals mg) (hfa : mg "law" = some (.ref fa))
    (n_ValueError : PySem.W.nsIn K mainGlobals "ValueError" = some none)
    (n_all : PySem.W.nsIn K mainGlobals "all" = some none)
    (n_bool : PySem.W.nsIn K mainGlobals "bool" = some none)
    (n_enumerate : PySem.W.nsIn K mainGlobals "enumerate" = some none)
    (n_int : PySem.W.nsIn K mainGlobals "int" = some none)
    (n_isinstance : PySem.W.nsIn K mainGlobals "isinstance" = some none)
    (n_len : PySem.W.nsIn K mainGlobals "len" = some none)
    (n_list : PySem.W.nsIn K mainGlobals "list" = some none)
    (n_max : PySem.W.nsIn K mainGlobals "max" = some none)
    (n_min : PySem.W.nsIn K mainGlobals "min" = some none)
    (n_range : PySem.W.nsIn K mainGlobals "range" = some none)
    (n_repr : PySem.W.nsIn K mainGlobals "repr" = some none)
    (n_reversed : PySem.W.nsIn K mainGlobals "reversed" = some none)
    (n_set : PySem.W.nsIn K mainGlobals "set" = some none)
    (n_sorted : PySem.W.nsIn K mainGlobals "sorted" = some none)
    (n_str : PySem.W.nsIn K mainGlobals "str" = some none)
    (n_sum : PySem.W.nsIn K mainGlobals "sum" = some none)
    (n_tuple : PySem.W.nsIn K mainGlobals "tuple" = some none)
    (n_zip : PySem.W.nsIn K mainGlobals "zip" = some none)
    {t_c_SIGNS : Tok} (c_SIGNS : PySem.W.nsIn K mainGlobals "SIGNS" = some (some (.str (Str.ofString "abcd") t_c_SIGNS)))
    {t_c_MOST_SIGNS : Tok} (c_MOST_SIGNS : PySem.W.nsIn K mainGlobals "MOST_SIGNS" = some (some (.int 400 t_c_MOST_SIGNS)))
    {t_c_MOST_LETTERS : Tok} (c_MOST_LETTERS : PySem.W.nsIn K mainGlobals "MOST_LETTERS" = some (some (.int 12 t_c_MOST_LETTERS)))
    {t_c_MOST_WORDS : Tok} (c_MOST_WORDS : PySem.W.nsIn K mainGlobals "MOST_WORDS" = some (some (.int 12 t_c_MOST_WORDS)))
    {t_c_MOST_INDEXES : Tok} (c_MOST_INDEXES : PySem.W.nsIn K mainGlobals "MOST_INDEXES" = some (some (.int 400 t_c_MOST_INDEXES)))
    {t_c_MOST_TOLD : Tok} (c_MOST_TOLD : PySem.W.nsIn K mainGlobals "MOST_TOLD" = some (some (.int 300 t_c_MOST_TOLD)))
    {C CE CN CB : Addr}
    (aW : PySem.W.nsIn K mainGlobals "Ways" = some (some (.ref C)))
    (aB : PySem.W.nsIn K mainGlobals "CutError" = some (some (.ref CB)))
    (w1 : PySem.W.plainGet K C Str.empty = true)
    (w2 : PySem.W.hasDictIn K C = true)
    (w3 : PySem.W.plainOver K C = true)
    (w4 : PySem.W.findIn K (.ref C) "__setattr__" = some (some (.builtin "object.__setattr__")))
    (w5 : PySem.W.findIn K (.ref C) "lot" = some none)
    (w6 : PySem.W.findIn K (.ref C) "text" = some none)
    (w7 : PySem.W.findIn K (.ref C) "behind" = some none)
    (w8 : PySem.W.findIn K (.ref C) "ahead" = some none)
    (w9 : PySem.W.makesIn K C = true)
    (wA : PySem.W.keepIn K (.ref C) = true)
    (aE : PySem.W.nsIn K mainGlobals "TooMany" = some (some (.ref CE)))
    (Ex1 : PySem.W.excIn K CE [.type "ValueError", .type "Exception", .type "BaseException", .type "object"] "ValueError.__new__" = true)
    (Ex2 : PySem.W.keepIn K (.ref CE) = true)
    (Ex3 : PySem.W.subIn K (.ref CE) (.type "BaseException") = some true)
    (Ex4 : PySem.W.typeIn K (.ref CE) = some (.type "type"))
    (Ex5 : PySem.W.subIn K (.ref CE) (.ref CE) = some true)
    (Ey1 : PySem.W.findIn K (.ref CE) "__getattribute__" = some (some (.builtin "BaseException.__getattribute__")))
    (Ey2 : PySem.W.findIn K (.ref CE) "__getattr__" = some none)
    (Ey3 : PySem.W.hasDictIn K CE = true)
    (Ey4 : PySem.W.findIn K (.ref CE) "__class__" = some (some (.builtin "object.__class__")))
    (Ey5 : PySem.W.specialIn K (.builtin "object.__class__") "__get__" = some (some (.builtin "getset_descriptor.__get__")))
    (Ey6 : PySem.W.takesIn K (.builtin "object.__class__") = some true)
    (Ey7 : PySem.W.mroIn K CE (.type "object") = some true)
    (aN : PySem.W.nsIn K mainGlobals "BadNumber" = some (some (.ref CN)))
    (Nx1 : PySem.W.excIn K CN [.type "ValueError", .type "Exception", .type "BaseException", .type "object"] "ValueError.__new__" = true)
    (Nx2 : PySem.W.keepIn K (.ref CN) = true)
    (Nx3 : PySem.W.subIn K (.ref CN) (.type "BaseException") = some true)
    (Nx4 : PySem.W.typeIn K (.ref CN) = some (.type "type"))
    (Nx5 : PySem.W.subIn K (.ref CN) (.ref CN) = some true)
    (Ny1 : PySem.W.findIn K (.ref CN) "__getattribute__" = some (some (.builtin "BaseException.__getattribute__")))
    (Ny2 : PySem.W.findIn K (.ref CN) "__getattr__" = some none)
    (Ny3 : PySem.W.hasDictIn K CN = true)
    (Ny4 : PySem.W.findIn K (.ref CN) "__class__" = some (some (.builtin "object.__class__")))
    (Ny5 : PySem.W.specialIn K (.builtin "object.__class__") "__get__" = some (some (.builtin "getset_descriptor.__get__")))
    (Ny6 : PySem.W.takesIn K (.builtin "object.__class__") = some true)
    (Ny7 : PySem.W.mroIn K CN (.type "object") = some true)
    (keb : PySem.W.kitOne K (.ref CE) (.ref CB) = some true)
    (ken : PySem.W.kitOne K (.ref CE) (.ref CN) = some false)
    (knb : PySem.W.kitOne K (.ref CN) (.ref CB) = some true)
    (kne : PySem.W.kitOne K (.ref CN) (.ref CE) = some false)
    (TM_init : TopM K C "__init__" "Ways.__init__" st_Ways_init)
    (TM_words_at : TopM K C "words_at" "Ways.words_at" st_Ways_words_at)
    (TM_cut : TopM K C "cut" "Ways.cut" st_Ways_cut)
    (TM_number : TopM K C "number" "Ways.number" st_Ways_number)
    (TM_cuts : TopM K C "cuts" "Ways.cuts" st_Ways_cuts)
    (T_are_signs : Top K "are_signs" st_are_signs)
    (T_is_text : Top K "is_text" st_is_text)
    (T_need_text : Top K "need_text" st_need_text)
    (T_is_word : Top K "is_word" st_is_word)
    (T_is_ascending : Top K "is_ascending" st_is_ascending)
    (T_is_lot_form : Top K "is_lot_form" st_is_lot_form)
    (T_need_lot : Top K "need_lot" st_need_lot)
    (T_need_both : Top K "need_both" st_need_both)
    (T__law_draw : Top K "_law_draw" st__law_draw)
    (T__law_one : Top K "_law_one" st__law_one)
    (T__law_text : Top K "_law_text" st__law_text)
    (T_is_integer : Top K "is_integer" st_is_integer)
    (T_is_within : Top K "is_within" st_is_within)
    (T_need_number : Top K "need_number" st_need_number)
    (T_need_few_signs : Top K "need_few_signs" st_need_few_signs)
    (T_are_indexes : Top K "are_indexes" st_are_indexes)
    (T_need_indexes : Top K "need_indexes" st_need_indexes)
    (T_put_together : Top K "put_together" st_put_together)
    (T__law_feed : Top K "_law_feed" st__law_feed)
    (T_count_cuts : Top K "count_cuts" st_count_cuts)
    (T_cut_of : Top K "cut_of" st_cut_of)
    (T_cuts_of : Top K "cuts_of" st_cuts_of)
    (T_cut_at : Top K "cut_at" st_cut_at)
    (T_cut_number : Top K "cut_number" st_cut_number)
    (T__law_ahead : Top K "_law_ahead" st__law_ahead)
    (T__law_behind : Top K "_law_behind" st__law_behind)
    (T__law_is : Top K "_law_is" st__law_is)
    (T__law_list : Top K "_law_list" st__law_list)
    (T__law_is_cut : Top K "_law_is_cut" st__law_is_cut)
    (T__law_rank : Top K "_law_rank" st__law_rank)
    (T__law_lists : Top K "_law_lists" st__law_lists)
    (T__law_mixed : Top K "_law_mixed" st__law_mixed)
    (T__law_kept : Top K "_law_kept" st__law_kept)
    (T__law_split : Top K "_law_split" st__law_split)
    (T__law_joined : Top K "_law_joined" st__law_joined)
    (T__law_made : Top K "_law_made" st__law_made)
    (T__law_code : Top K "_law_code" st__law_code)
    (T__law_lot : Top K "_law_lot" st__law_lot)
    (T__law_put : Top K "_law_put" st__law_put)
    (T__law_near_text : Top K "_law_near_text" st__law_near_text)
    (T__law_case : Top K "_law_case" st__law_case)
    (T__law_all : Top K "_law_all" st__law_all)
    (T__law_told : Top K "_law_told" st__law_told)
    (T__law_beyond : Top K "_law_beyond" st__law_beyond)
    (T__law_too_long : Top K "_law_too_long" st__law_too_long)
    (T__law_drawn : Top K "_law_drawn" st__law_drawn)
    (T__law_right : Top K "_law_right" st__law_right)
    (T_law : Top K "law" st_law)
    : ∃ fd : FuncData, (∀ (s : Shared) (v : Value), BindsTo s fd ⟨[v], []⟩ [("script", v)]) ∧ ∀ base : Heap, K.In base → base.Ns mainGlobals mg → FnOkG l.prog w K mg base 10 fa fd ["script"] (sp_law K) := by
  have M : Md K mg := ⟨PySem.W.mg_none_of X G n_ValueError, PySem.W.mg_none_of X G n_all, PySem.W.mg_none_of X G n_bool, PySem.W.mg_none_of X G n_enumerate, PySem.W.mg_none_of X G n_int, PySem.W.mg_none_of X G n_isinstance, PySem.W.mg_none_of X G n_len, PySem.W.mg_none_of X G n_list, PySem.W.mg_none_of X G n_max, PySem.W.mg_none_of X G n_min, PySem.W.mg_none_of X G n_range, PySem.W.mg_none_of X G n_repr, PySem.W.mg_none_of X G n_reversed, PySem.W.mg_none_of X G n_set, PySem.W.mg_none_of X G n_sorted, PySem.W.mg_none_of X G n_str, PySem.W.mg_none_of X G n_sum, PySem.W.mg_none_of X G n_tuple, PySem.W.mg_none_of X G n_zip, ⟨_, PySem.W.mg_of X G c_SIGNS⟩, ⟨_, PySem.W.mg_of X G c_MOST_SIGNS⟩, ⟨_, PySem.W.mg_of X G c_MOST_LETTERS⟩, ⟨_, PySem.W.mg_of X G c_MOST_WORDS⟩, ⟨_, PySem.W.mg_of X G c_MOST_INDEXES⟩, ⟨_, PySem.W.mg_of X G c_MOST_TOLD⟩⟩
  have W : WC K C := ⟨⟨w1, w2, w3, w4⟩, w5, w6, w7, w8⟩
  have E_TooMany : Err K mg "TooMany" CE := ⟨PySem.W.mg_of X G aE, Ex1, Ex2, Ex3, Ex4⟩
  have I_TooMany : ErrI K CE := ⟨PySem.W.exm_ref Ex3 Ey3 Ex4 Ex5, ⟨Ey1, Ey2, Ex3, Ey3, Ey4, Ey5, Ey6, Ey7⟩⟩
  have E_BadNumber : Err K mg "BadNumber" CN := ⟨PySem.W.mg_of X G aN, Nx1, Nx2, Nx3, Nx4⟩
  have I_BadNumber : ErrI K CN := ⟨PySem.W.exm_ref Nx3 Ny3 Nx4 Nx5, ⟨Ny1, Ny2, Nx3, Ny3, Ny4, Ny5, Ny6, Ny7⟩⟩
  have ET : ErrT K mg CE CN CB := ⟨E_TooMany, E_BadNumber, I_TooMany, I_BadNumber, ⟨_, PySem.W.mg_of X G aE, rfl⟩, ⟨_, PySem.W.mg_of X G aN, rfl⟩, ⟨_, PySem.W.mg_of X G aB, rfl⟩, keb, ken, knb, kne⟩
  obtain ⟨f, oc, od, an, osl, kV, doc, pm, cdv, ct, a, lk, c, k⟩ := T_law
  have e := hfa.symm.trans (PySem.W.mg_of X G a)
  cases e
  have F := fun_mk (st := st_law) lk c k
  refine ⟨PySem.W.fnOf "law" "law" (defArgs st_law) (defBody st_law) (defScope st_law) .none kV doc pm an cdv ct, fun s v => .of_eq rfl, fun base _ _ => ?_⟩
  have C_are_signs : Cal l.prog w K mg base "are_signs" st_are_signs 1 ["thing", "most"] sp_are_signs := T_are_signs.cal X G (fun _ _ _ _ _ _ us hl => match us, hl with | [_, _], _ => rfl) fun _ _ F => ok_are_signs F M
  have C_is_text : Cal l.prog w K mg base "is_text" st_is_text 2 ["thing"] sp_is_text := T_is_text.cal X G (fun _ _ _ _ _ _ us hl => match us, hl with | [_], _ => rfl) fun _ _ F => ok_is_text F M C_are_signs
  have C_need_text : Cal l.prog w K mg base "need_text" st_need_text 3 ["text"] sp_need_text := T_need_text.cal X G (fun _ _ _ _ _ _ us hl => match us, hl with | [_], _ => rfl) fun _ _ F => ok_need_text F M C_is_text
  have C_is_word : Cal l.prog w K mg base "is_word" st_is_word 2 ["thing"] sp_is_word := T_is_word.cal X G (fun _ _ _ _ _ _ us hl => match us, hl with | [_], _ => rfl) fun _ _ F => ok_is_word F M C_are_signs
  have C_is_ascending : Cal l.prog w K mg base "is_ascending" st_is_ascending 1 ["things"] sp_ascending := T_is_ascending.cal X G (fun _ _ _ _ _ _ us hl => match us, hl with | [_], _ => rfl) fun _ _ F => ok_is_ascending F M
  have C_is_lot_form : Cal l.prog w K mg base "is_lot_form" st_is_lot_form 3 ["thing"] sp_lot_form := T_is_lot_form.cal X G (fun _ _ _ _ _ _ us hl => match us, hl with | [_], _ => rfl) fun _ _ F => ok_is_lot_form F M C_is_word C_is_ascending
  have C_need_lot : Cal l.prog w K mg base "need_lot" st_need_lot 4 ["lot"] sp_need_lot := T_need_lot.cal X G (fun _ _ _ _ _ _ us hl => match us, hl with | [_], _ => rfl) fun _ _ F => ok_need_lot F M C_is_lot_form
  have C_need_both : Cal l.prog w K mg base "need_both" st_need_both 5 ["lot", "text"] sp_need_both := T_need_both.cal X G (fun _ _ _ _ _ _ us hl => match us, hl with | [_, _], _ => rfl) fun _ _ F => ok_need_both F M C_need_lot C_need_text
  have C__law_draw : Cal l.prog w K mg base "_law_draw" st__law_draw 1 ["feed", "many"] sp_draw := T__law_draw.cal X G (fun _ _ _ _ _ _ us hl => match us, hl with | [_, _], _ => rfl) fun _ _ F => ok__law_draw F M
  have C__law_one : Cal l.prog w K mg base "_law_one" st__law_one 2 ["feed", "things"] (sp_one K) := T__law_one.cal X G (fun _ _ _ _ _ _ us hl => match us, hl with | [_, _], _ => rfl) fun _ _ F => ok__law_one F M C__law_draw
  have C__law_text : Cal l.prog w K mg base "_law_text" st__law_text 3 ["feed", "signs", "most"] sp_text := T__law_text.cal X G (fun _ _ _ _ _ _ us hl => match us, hl with | [_, _, _], _ => rfl) fun _ _ F => ok__law_text F M C__law_draw C__law_one
  have MT_Ways_words_at : C8.Met l.prog w K mg base 1 C "words_at" (sp_words_at C) [] := TM_words_at.met W.cl (fun _ _ _ _ _ _ us hl => match us, hl with | [_, _], _ => rfl) fun _ _ F => ok_words_at F M W
  have MK_Ways : Mak l.prog w K mg base 2 C "Ways" (sp_Ways C) := TM_init.mak X G aW w9 wA (fun _ _ _ _ _ _ us hl => match us, hl with | [_, _, _], _ => rfl) fun _ _ F => ok_Ways_init F M W MT_Ways_words_at
  have MT_Ways_cut : C8.Met l.prog w K mg base 2 C "cut" (sp_cut C) [] := TM_cut.met W.cl (fun _ _ _ _ _ _ us hl => match us, hl with | [_, _], _ => rfl) fun _ _ F => ok_Ways_cut F M W MT_Ways_words_at
  have MT_Ways_number : C8.Met l.prog w K mg base 2 C "number" (sp_number C) [] := TM_number.met W.cl (fun _ _ _ _ _ _ us hl => match us, hl with | [_, _], _ => rfl) fun _ _ F => ok_Ways_number F M W MT_Ways_words_at
  have MT_Ways_cuts : C8.Met l.prog w K mg base 3 C "cuts" (sp_cuts C) [] := TM_cuts.met W.cl (fun _ _ _ _ _ _ us hl => match us, hl with | [_], _ => rfl) fun _ _ F => ok_Ways_cuts F M W MT_Ways_cut
  have C_is_integer : Cal l.prog w K mg base "is_integer" st_is_integer 1 ["thing"] sp_is_integer := T_is_integer.cal X G (fun _ _ _ _ _ _ us hl => match us, hl with | [_], _ => rfl) fun _ _ F => ok_is_integer F M
  have C_is_within : Cal l.prog w K mg base "is_within" st_is_within 2 ["thing", "least", "most"] sp_is_within := T_is_within.cal X G (fun _ _ _ _ _ _ us hl => match us, hl with | [_, _, _], _ => rfl) fun _ _ F => ok_is_within F M C_is_integer
  have S_need_number : CalS l.prog w K mg base "need_number" st_need_number 3 ["thing", "least", "most"] (sp_need_number CN) := T_need_number.calS X G (fun _ _ _ _ _ _ us hl => match us, hl with | [_, _, _], _ => rfl) fun _ _ F => ok_need_number F M E_BadNumber C_is_within
  have C_need_number : Cal l.prog w K mg base "need_number" st_need_number 3 ["thing", "least", "most"] (calm (sp_need_number CN)) := S_need_number.calm
  have S_need_few_signs : CalS l.prog w K mg base "need_few_signs" st_need_few_signs 1 ["text"] (sp_need_few CE) := T_need_few_signs.calS X G (fun _ _ _ _ _ _ us hl => match us, hl with | [_], _ => rfl) fun _ _ F => ok_need_few_signs F M E_TooMany
  have C_need_few_signs : Cal l.prog w K mg base "need_few_signs" st_need_few_signs 1 ["text"] (calm (sp_need_few CE)) := S_need_few_signs.calm
  have C_are_indexes : Cal l.prog w K mg base "are_indexes" st_are_indexes 3 ["lot", "thing"] sp_indexes := T_are_indexes.cal X G (fun _ _ _ _ _ _ us hl => match us, hl with | [_, _], _ => rfl) fun _ _ F => ok_are_indexes F M C_is_within
  have C_need_indexes : Cal l.prog w K mg base "need_indexes" st_need_indexes 4 ["lot", "indexes"] sp_need_indexes := T_need_indexes.cal X G (fun _ _ _ _ _ _ us hl => match us, hl with | [_, _], _ => rfl) fun _ _ F => ok_need_indexes F M C_are_indexes
  have S_put_together : CalS l.prog w K mg base "put_together" st_put_together 5 ["lot", "indexes"] (sp_together CE) := T_put_together.calS X G (fun _ _ _ _ _ _ us hl => match us, hl with | [_, _], _ => rfl) fun _ _ F => ok_put_together F M C_need_lot C_need_indexes S_need_few_signs
  have C_put_together : Cal l.prog w K mg base "put_together" st_put_together 5 ["lot", "indexes"] (calm (sp_together CE)) := S_put_together.calm
  have C__law_feed : Cal l.prog w K mg base "_law_feed" st__law_feed 1 ["script", "k"] (sp_feed K) := T__law_feed.cal X G (fun _ _ _ _ _ _ us hl => match us, hl with | [_, _], _ => rfl) fun _ _ F => ok__law_feed F M
  have C_count_cuts : Cal l.prog w K mg base "count_cuts" st_count_cuts 6 ["lot", "text"] sp_count := T_count_cuts.cal X G (fun _ _ _ _ _ _ us hl => match us, hl with | [_, _], _ => rfl) fun _ _ F => ok_count_cuts F M W C_need_both MK_Ways
  have C_cut_of : Cal l.prog w K mg base "cut_of" st_cut_of 6 ["lot", "text"] sp_cut_of := T_cut_of.cal X G (fun _ _ _ _ _ _ us hl => match us, hl with | [_, _], _ => rfl) fun _ _ F => ok_cut_of F M W C_need_both MK_Ways MT_Ways_cut
  have S_cuts_of : CalS l.prog w K mg base "cuts_of" st_cuts_of 6 ["lot", "text"] (sp_cuts_of CE) := T_cuts_of.calS X G (fun _ _ _ _ _ _ us hl => match us, hl with | [_, _], _ => rfl) fun _ _ F => ok_cuts_of F M W E_TooMany C_need_both MK_Ways MT_Ways_cuts
  have C_cuts_of : Cal l.prog w K mg base "cuts_of" st_cuts_of 6 ["lot", "text"] (calm (sp_cuts_of CE)) := S_cuts_of.calm
  have S_cut_at : CalS l.prog w K mg base "cut_at" st_cut_at 6 ["lot", "text", "number"] (sp_cut_at CN) := T_cut_at.calS X G (fun _ _ _ _ _ _ us hl => match us, hl with | [_, _, _], _ => rfl) fun _ _ F => ok_cut_at F M W C_need_both MK_Ways S_need_number MT_Ways_cut
  have C_cut_at : Cal l.prog w K mg base "cut_at" st_cut_at 6 ["lot", "text", "number"] (calm (sp_cut_at CN)) := S_cut_at.calm
  have S_cut_number : CalS l.prog w K mg base "cut_number" st_cut_number 6 ["lot", "indexes"] (sp_cut_number CE) := T_cut_number.calS X G (fun _ _ _ _ _ _ us hl => match us, hl with | [_, _], _ => rfl) fun _ _ F => ok_cut_number F M W S_put_together MK_Ways MT_Ways_number
  have C_cut_number : Cal l.prog w K mg base "cut_number" st_cut_number 6 ["lot", "indexes"] (calm (sp_cut_number CE)) := S_cut_number.calm
  have C__law_ahead : Cal l.prog w K mg base "_law_ahead" st__law_ahead 1 ["lot", "text"] sp_ahead := T__law_ahead.cal X G (fun _ _ _ _ _ _ us hl => match us, hl with | [_, _], _ => rfl) fun _ _ F => ok__law_ahead F M
  have C__law_behind : Cal l.prog w K mg base "_law_behind" st__law_behind 2 ["lot", "text"] sp_behind := T__law_behind.cal X G (fun _ _ _ _ _ _ us hl => match us, hl with | [_, _], _ => rfl) fun _ _ F => ok__law_behind F M C__law_ahead
  have C__law_is : Cal l.prog w K mg base "_law_is" st__law_is 1 ["actual", "due"] sp_law_is := T__law_is.cal X G (fun _ _ _ _ _ _ us hl => match us, hl with | [_, _], _ => rfl) fun _ _ F => ok__law_is F M
  have C__law_list : Cal l.prog w K mg base "_law_list" st__law_list 1 ["actual", "due"] (sp_list_same K) := T__law_list.cal X G (fun _ _ _ _ _ _ us hl => match us, hl with | [_, _], _ => rfl) fun _ _ F => ok__law_list F M
  have C__law_is_cut : Cal l.prog w K mg base "_law_is_cut" st__law_is_cut 1 ["lot", "text", "thing"] sp_is_cut := T__law_is_cut.cal X G (fun _ _ _ _ _ _ us hl => match us, hl with | [_, _, _], _ => rfl) fun _ _ F => ok__law_is_cut F M
  have C__law_rank : Cal l.prog w K mg base "_law_rank" st__law_rank 1 ["lot", "text", "behind", "cut"] sp_rank := T__law_rank.cal X G (fun _ _ _ _ _ _ us hl => match us, hl with | [_, _, _, _], _ => rfl) fun _ _ F => ok__law_rank F M
  have C__law_lists : Cal l.prog w K mg base "_law_lists" st__law_lists 2 ["actual", "due"] sp_lists := T__law_lists.cal X G (fun _ _ _ _ _ _ us hl => match us, hl with | [_, _], _ => rfl) fun _ _ F => ok__law_lists F M C__law_list
  have C__law_mixed : Cal l.prog w K mg base "_law_mixed" st__law_mixed 2 ["feed", "things"] (sp_mixed K) := T__law_mixed.cal X G (fun _ _ _ _ _ _ us hl => match us, hl with | [_, _], _ => rfl) fun _ _ F => ok__law_mixed F M C__law_draw
  have C__law_kept : Cal l.prog w K mg base "_law_kept" st__law_kept 3 ["feed", "words", "most"] (sp_kept K) := T__law_kept.cal X G (fun _ _ _ _ _ _ us hl => match us, hl with | [_, _, _], _ => rfl) fun _ _ F => ok__law_kept F M C__law_mixed
  have C__law_split : Cal l.prog w K mg base "_law_split" st__law_split 2 ["feed", "signs", "turns"] sp_split := T__law_split.cal X G (fun _ _ _ _ _ _ us hl => match us, hl with | [_, _, _], _ => rfl) fun _ _ F => ok__law_split F M C__law_draw
  have C__law_joined : Cal l.prog w K mg base "_law_joined" st__law_joined 3 ["feed", "words", "turns"] sp_joined := T__law_joined.cal X G (fun _ _ _ _ _ _ us hl => match us, hl with | [_, _, _], _ => rfl) fun _ _ F => ok__law_joined F M C__law_draw C__law_one
  have C__law_made : Cal l.prog w K mg base "_law_made" st__law_made 1 ["feed", "code", "words"] (sp_made K) := T__law_made.cal X G (fun _ _ _ _ _ _ us hl => match us, hl with | [_, _, _], _ => rfl) fun _ _ F => ok__law_made F M
  have C__law_code : Cal l.prog w K mg base "_law_code" st__law_code 3 ["feed"] sp_code := T__law_code.cal X G (fun _ _ _ _ _ _ us hl => match us, hl with | [_], _ => rfl) fun _ _ F => ok__law_code F M C__law_one
  have C__law_lot : Cal l.prog w K mg base "_law_lot" st__law_lot 4 ["feed", "most"] sp_lot := T__law_lot.cal X G (fun _ _ _ _ _ _ us hl => match us, hl with | [_, _], _ => rfl) fun _ _ F => ok__law_lot F M C__law_draw C__law_one C__law_text C__law_kept C__law_split C__law_joined C__law_made C__law_code
  have C__law_put : Cal l.prog w K mg base "_law_put" st__law_put 3 ["feed", "lot", "most"] sp_put := T__law_put.cal X G (fun _ _ _ _ _ _ us hl => match us, hl with | [_, _, _], _ => rfl) fun _ _ F => ok__law_put F M C__law_draw C__law_one
  have C__law_near_text : Cal l.prog w K mg base "_law_near_text" st__law_near_text 4 ["feed", "lot", "most"] sp_near_text := T__law_near_text.cal X G (fun _ _ _ _ _ _ us hl => match us, hl with | [_, _, _], _ => rfl) fun _ _ F => ok__law_near_text F M C__law_draw C__law_one C__law_text C__law_put
  have C__law_case : Cal l.prog w K mg base "_law_case" st__law_case 5 ["feed"] sp_case := T__law_case.cal X G (fun _ _ _ _ _ _ us hl => match us, hl with | [_], _ => rfl) fun _ _ F => ok__law_case F M C__law_draw C__law_one C__law_lot C__law_near_text
  have C__law_all : Cal l.prog w K mg base "_law_all" st__law_all 1 ["lot", "text", "behind", "most"] sp_all := T__law_all.cal X G (fun _ _ _ _ _ _ us hl => match us, hl with | [_, _, _, _], _ => rfl) fun _ _ F => ok__law_all F M
  have C__law_told : Cal l.prog w K mg base "_law_told" st__law_told 7 ["lot", "text"] sp_told := T__law_told.cal X G (fun _ _ _ _ _ _ us hl => match us, hl with | [_, _], _ => rfl) fun _ _ F => ok__law_told F M ET S_cuts_of
  have C__law_beyond : Cal l.prog w K mg base "_law_beyond" st__law_beyond 7 ["lot", "text", "number"] sp_beyond := T__law_beyond.cal X G (fun _ _ _ _ _ _ us hl => match us, hl with | [_, _, _], _ => rfl) fun _ _ F => ok__law_beyond F M ET S_cut_at
  have C__law_too_long : Cal l.prog w K mg base "_law_too_long" st__law_too_long 7 ["lot", "indexes"] sp_too_long := T__law_too_long.cal X G (fun _ _ _ _ _ _ us hl => match us, hl with | [_, _], _ => rfl) fun _ _ F => ok__law_too_long F M ET S_cut_number
  have C__law_drawn : CalG l.prog w K mg base "_law_drawn" st__law_drawn 8 ["feed", "lot"] sp_drawn := T__law_drawn.calG X G (fun _ _ _ _ _ _ us hl => match us, hl with | [_, _], _ => rfl) fun _ _ F => ok__law_drawn F M C__law_draw C__law_one C__law_too_long C__law_is C__law_rank C__law_behind C_cut_number
  have C__law_right : CalG l.prog w K mg base "_law_right" st__law_right 9 ["feed"] sp_law_right := T__law_right.calG X G (fun _ _ _ _ _ _ us hl => match us, hl with | [_], _ => rfl) fun _ _ F => ok__law_right F M C__law_case C__law_behind C__law_ahead C__law_is C_count_cuts C__law_told C__law_all C__law_lists C_cut_of C__law_beyond C__law_drawn C__law_list C__law_draw C_cut_at C__law_is_cut C__law_rank C_cut_number C_cuts_of
  exact ok_law F M C__law_feed C__law_right
theorem walk {l : PySem.W.OpenLaw} {q : Program} {loose : List Str} {XP : (Str → Option Value) → Heap → Prop} {YP : World → Heap → Prop} {d : DefRec} {K : Params → PySem.W.Frag} (hn : l.most = some 63) (hdf : d.params.defaults = [])
    (hY : ∀ (w : World) (h : Heap), YP w h → (K w.params).In h)
    (F : ∀ (w : World) (mg : Str → Option Value) (fa : Addr) (h : Heap), (K w.params).In h → h.Ns mainGlobals mg → mg d.name = some (.ref fa) →
      ∃ fd : FuncData, (∀ (s : Shared) (u : Value), BindsTo s fd ⟨[u], []⟩ [("script", u)]) ∧ ∀ base : Heap, (K w.params).In base → base.Ns mainGlobals mg → FnOkG l.prog w (K w.params) mg base 10 fa fd ["script"] (sp_law (K w.params))) :
    PySem.W.WalkO q loose XP YP l.row.toRowW d [] (fun f vs => PySem.call f vs) :=
  Wg.walk_ofG (n := 63) (k := 10) (x := "script") (sp := fun w => sp_law (K w.params)) hn (by decide) hdf ⟨rfl, by decide, by decide⟩ hY F (fun _ _ a ns hl hb _ hS => ⟨a, ns, 1048576, rfl, hS, hl, by decide, by decide, fun z hz => PySem.intBits_le_iff.mp (hb z hz), fun _ => rfl⟩)
end K03
open PySem PySem.W PyProof.Rows
set_option maxRecDepth 100000 in
set_option maxHeartbeats 0 in
theorem PySem.Challenge.cw_wordscut_k03_whole_cuts_and_their_number_holds : PySem.Challenge.rw_wordscut_k03_whole_cuts_and_their_number.Holds := by
  w_on; o_law; k_head; (case hw => w_witness2)
  k_fill
  refine K03.walk (l := PySem.Challenge.rw_wordscut_k03_whole_cuts_and_their_number) rfl rfl (fun w h Y => PySem.W.kIn_of Y) ?F
  case F =>
    intro w mg fa h KX G hmg
    refine' K03.all_mk KX G hmg ?n_ValueError ?n_all ?n_bool ?n_enumerate ?n_int ?n_isinstance ?n_len ?n_list ?n_max ?n_min ?n_range ?n_repr ?n_reversed ?n_set ?n_sorted ?n_str ?n_sum ?n_tuple ?n_zip ?c_SIGNS ?c_MOST_SIGNS ?c_MOST_LETTERS ?c_MOST_WORDS ?c_MOST_INDEXES ?c_MOST_TOLD ?aW ?aB ?w1 ?w2 ?w3 ?w4 ?w5 ?w6 ?w7 ?w8 ?w9 ?wA ?aE ?Ex1 ?Ex2 ?Ex3 ?Ex4 ?Ex5 ?Ey1 ?Ey2 ?Ey3 ?Ey4 ?Ey5 ?Ey6 ?Ey7 ?aN ?Nx1 ?Nx2 ?Nx3 ?Nx4 ?Nx5 ?Ny1 ?Ny2 ?Ny3 ?Ny4 ?Ny5 ?Ny6 ?Ny7 ?keb ?ken ?knb ?kne ?TM_init ?TM_words_at ?TM_cut ?TM_number ?TM_cuts ?T_are_signs ?T_is_text ?T_need_text ?T_is_word ?T_is_ascending ?T_is_lot_form ?T_need_lot ?T_need_both ?T__law_draw ?T__law_one ?T__law_text ?T_is_integer ?T_is_within ?T_need_number ?T_need_few_signs ?T_are_indexes ?T_need_indexes ?T_put_together ?T__law_feed ?T_count_cuts ?T_cut_of ?T_cuts_of ?T_cut_at ?T_cut_number ?T__law_ahead ?T__law_behind ?T__law_is ?T__law_list ?T__law_is_cut ?T__law_rank ?T__law_lists ?T__law_mixed ?T__law_kept ?T__law_split ?T__law_joined ?T__law_made ?T__law_code ?T__law_lot ?T__law_put ?T__law_near_text ?T__law_case ?T__law_all ?T__law_told ?T__law_beyond ?T__law_too_long ?T__law_drawn ?T__law_right ?T_law
    (case n_ValueError => k_is)
    (case n_all => k_is)
    (case n_bool => k_is)
    (case n_enumerate => k_is)
    (case n_int => k_is)
    (case n_isinstance => k_is)
    (case n_len => k_is)
    (case n_list => k_is)
    (case n_max => k_is)
    (case n_min => k_is)
    (case n_range => k_is)
    (case n_repr => k_is)
    (case n_reversed => k_is)
    (case n_set => k_is)
    (case n_sorted => k_is)
    (case n_str => k_is)
    (case n_sum => k_is)
    (case n_tuple => k_is)
    (case n_zip => k_is)
    (case c_SIGNS => k_is)
    (case c_MOST_SIGNS => k_is)
    (case c_MOST_LETTERS => k_is)
    (case c_MOST_WORDS => k_is)
    (case c_MOST_INDEXES => k_is)
    (case c_MOST_TOLD => k_is)
    (case aW => k_is)
    (case aB => k_is)
    (case w1 => k_is)
    (case w2 => k_is)
    (case w3 => k_is)
    (case w4 => k_is)
    (case w5 => k_is)
    (case w6 => k_is)
    (case w7 => k_is)
    (case w8 => k_is)
    (case w9 => k_is)
    (case wA => k_is)
    (case aE => k_is)
    (case Ex1 => k_exc)
    (case Ex2 => k_is)
    (case Ex3 => k_is)
    (case Ex4 => k_is)
    (case Ex5 => first | rfl | k_is)
    (case Ey1 => k_is)
    (case Ey2 => k_is)
    (case Ey3 => k_is)
    (case Ey4 => k_is)
    (case Ey5 => k_is)
    (case Ey6 => k_is)
    (case Ey7 => k_is)
    (case aN => k_is)
    (case Nx1 => k_exc)
    (case Nx2 => k_is)
    (case Nx3 => k_is)
    (case Nx4 => k_is)
    (case Nx5 => first | rfl | k_is)
    (case Ny1 => k_is)
    (case Ny2 => k_is)
    (case Ny3 => k_is)
    (case Ny4 => k_is)
    (case Ny5 => k_is)
    (case Ny6 => k_is)
    (case Ny7 => k_is)
    (case keb => kit_is)
    (case ken => kit_is)
    (case knb => kit_is)
    (case kne => kit_is)
    (case TM_init => refine' K03.topm_mk ?a ?i ?l ?c ?k; (case a => k_is); (case i => k_is); (case l => k_is); (case c => k_is); (case k => k_is))
    (case TM_words_at => refine' K03.topm_mk ?a ?i ?l ?c ?k; (case a => k_is); (case i => k_is); (case l => k_is); (case c => k_is); (case k => k_is))
    (case TM_cut => refine' K03.topm_mk ?a ?i ?l ?c ?k; (case a => k_is); (case i => k_is); (case l => k_is); (case c => k_is); (case k => k_is))
    (case TM_number => refine' K03.topm_mk ?a ?i ?l ?c ?k; (case a => k_is); (case i => k_is); (case l => k_is); (case c => k_is); (case k => k_is))
    (case TM_cuts => refine' K03.topm_mk ?a ?i ?l ?c ?k; (case a => k_is); (case i => k_is); (case l => k_is); (case c => k_is); (case k => k_is))
    (case T_are_signs => refine' K03.top_mk ?a ?l ?c ?k; (case a => k_is); (case l => k_is); (case c => k_is); (case k => k_is))
    (case T_is_text => refine' K03.top_mk ?a ?l ?c ?k; (case a => k_is); (case l => k_is); (case c => k_is); (case k => k_is))
    (case T_need_text => refine' K03.top_mk ?a ?l ?c ?k; (case a => k_is); (case l => k_is); (case c => k_is); (case k => k_is))
    (case T_is_word => refine' K03.top_mk ?a ?l ?c ?k; (case a => k_is); (case l => k_is); (case c => k_is); (case k => k_is))
    (case T_is_ascending => refine' K03.top_mk ?a ?l ?c ?k; (case a => k_is); (case l => k_is); (case c => k_is); (case k => k_is))
    (case T_is_lot_form => refine' K03.top_mk ?a ?l ?c ?k; (case a => k_is); (case l => k_is); (case c => k_is); (case k => k_is))
    (case T_need_lot => refine' K03.top_mk ?a ?l ?c ?k; (case a => k_is); (case l => k_is); (case c => k_is); (case k => k_is))
    (case T_need_both => refine' K03.top_mk ?a ?l ?c ?k; (case a => k_is); (case l => k_is); (case c => k_is); (case k => k_is))
    (case T__law_draw => refine' K03.top_mk ?a ?l ?c ?k; (case a => k_is); (case l => k_is); (case c => k_is); (case k => k_is))
    (case T__law_one => refine' K03.top_mk ?a ?l ?c ?k; (case a => k_is); (case l => k_is); (case c => k_is); (case k => k_is))
    (case T__law_text => refine' K03.top_mk ?a ?l ?c ?k; (case a => k_is); (case l => k_is); (case c => k_is); (case k => k_is))
    (case T_is_integer => refine' K03.top_mk ?a ?l ?c ?k; (case a => k_is); (case l => k_is); (case c => k_is); (case k => k_is))
    (case T_is_within => refine' K03.top_mk ?a ?l ?c ?k; (case a => k_is); (case l => k_is); (case c => k_is); (case k => k_is))
    (case T_need_number => refine' K03.top_mk ?a ?l ?c ?k; (case a => k_is); (case l => k_is); (case c => k_is); (case k => k_is))
    (case T_need_few_signs => refine' K03.top_mk ?a ?l ?c ?k; (case a => k_is); (case l => k_is); (case c => k_is); (case k => k_is))
    (case T_are_indexes => refine' K03.top_mk ?a ?l ?c ?k; (case a => k_is); (case l => k_is); (case c => k_is); (case k => k_is))
    (case T_need_indexes => refine' K03.top_mk ?a ?l ?c ?k; (case a => k_is); (case l => k_is); (case c => k_is); (case k => k_is))
    (case T_put_together => refine' K03.top_mk ?a ?l ?c ?k; (case a => k_is); (case l => k_is); (case c => k_is); (case k => k_is))
    (case T__law_feed => refine' K03.top_mk ?a ?l ?c ?k; (case a => k_is); (case l => k_is); (case c => k_is); (case k => k_is))
    (case T_count_cuts => refine' K03.top_mk ?a ?l ?c ?k; (case a => k_is); (case l => k_is); (case c => k_is); (case k => k_is))
    (case T_cut_of => refine' K03.top_mk ?a ?l ?c ?k; (case a => k_is); (case l => k_is); (case c => k_is); (case k => k_is))
    (case T_cuts_of => refine' K03.top_mk ?a ?l ?c ?k; (case a => k_is); (case l => k_is); (case c => k_is); (case k => k_is))
    (case T_cut_at => refine' K03.top_mk ?a ?l ?c ?k; (case a => k_is); (case l => k_is); (case c => k_is); (case k => k_is))
    (case T_cut_number => refine' K03.top_mk ?a ?l ?c ?k; (case a => k_is); (case l => k_is); (case c => k_is); (case k => k_is))
    (case T__law_ahead => refine' K03.top_mk ?a ?l ?c ?k; (case a => k_is); (case l => k_is); (case c => k_is); (case k => k_is))
    (case T__law_behind => refine' K03.top_mk ?a ?l ?c ?k; (case a => k_is); (case l => k_is); (case c => k_is); (case k => k_is))
    (case T__law_is => refine' K03.top_mk ?a ?l ?c ?k; (case a => k_is); (case l => k_is); (case c => k_is); (case k => k_is))
    (case T__law_list => refine' K03.top_mk ?a ?l ?c ?k; (case a => k_is); (case l => k_is); (case c => k_is); (case k => k_is))
    (case T__law_is_cut => refine' K03.top_mk ?a ?l ?c ?k; (case a => k_is); (case l => k_is); (case c => k_is); (case k => k_is))
    (case T__law_rank => refine' K03.top_mk ?a ?l ?c ?k; (case a => k_is); (case l => k_is); (case c => k_is); (case k => k_is))
    (case T__law_lists => refine' K03.top_mk ?a ?l ?c ?k; (case a => k_is); (case l => k_is); (case c => k_is); (case k => k_is))
    (case T__law_mixed => refine' K03.top_mk ?a ?l ?c ?k; (case a => k_is); (case l => k_is); (case c => k_is); (case k => k_is))
    (case T__law_kept => refine' K03.top_mk ?a ?l ?c ?k; (case a => k_is); (case l => k_is); (case c => k_is); (case k => k_is))
    (case T__law_split => refine' K03.top_mk ?a ?l ?c ?k; (case a => k_is); (case l => k_is); (case c => k_is); (case k => k_is))
    (case T__law_joined => refine' K03.top_mk ?a ?l ?c ?k; (case a => k_is); (case l => k_is); (case c => k_is); (case k => k_is))
    (case T__law_made => refine' K03.top_mk ?a ?l ?c ?k; (case a => k_is); (case l => k_is); (case c => k_is); (case k => k_is))
    (case T__law_code => refine' K03.top_mk ?a ?l ?c ?k; (case a => k_is); (case l => k_is); (case c => k_is); (case k => k_is))
    (case T__law_lot => refine' K03.top_mk ?a ?l ?c ?k; (case a => k_is); (case l => k_is); (case c => k_is); (case k => k_is))
    (case T__law_put => refine' K03.top_mk ?a ?l ?c ?k; (case a => k_is); (case l => k_is); (case c => k_is); (case k => k_is))
    (case T__law_near_text => refine' K03.top_mk ?a ?l ?c ?k; (case a => k_is); (case l => k_is); (case c => k_is); (case k => k_is))
    (case T__law_case => refine' K03.top_mk ?a ?l ?c ?k; (case a => k_is); (case l => k_is); (case c => k_is); (case k => k_is))
    (case T__law_all => refine' K03.top_mk ?a ?l ?c ?k; (case a => k_is); (case l => k_is); (case c => k_is); (case k => k_is))
    (case T__law_told => refine' K03.top_mk ?a ?l ?c ?k; (case a => k_is); (case l => k_is); (case c => k_is); (case k => k_is))
    (case T__law_beyond => refine' K03.top_mk ?a ?l ?c ?k; (case a => k_is); (case l => k_is); (case c => k_is); (case k => k_is))
    (case T__law_too_long => refine' K03.top_mk ?a ?l ?c ?k; (case a => k_is); (case l => k_is); (case c => k_is); (case k => k_is))
    (case T__law_drawn => refine' K03.top_mk ?a ?l ?c ?k; (case a => k_is); (case l => k_is); (case c => k_is); (case k => k_is))
    (case T__law_right => refine' K03.top_mk ?a ?l ?c ?k; (case a => k_is); (case l => k_is); (case c => k_is); (case k => k_is))
    (case T_law => refine' K03.top_mk ?a ?l ?c ?k; (case a => k_is); (case l => k_is); (case c => k_is); (case k => k_is))
