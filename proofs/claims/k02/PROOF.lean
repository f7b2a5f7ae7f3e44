import PyProof.Rows.All
import Wide.All
import OpenK.AllK
import Wide.FinOn
import HandS.ForMost
import HandS.Walk
import HandS.IsInst
import HandS.Gcd
import HandS.Wide
import HandS.StrMore
import HandS.Codes
import HandS.EndBits
import HandS.TryOnly
import HandS.Style
import HandS.SortKw
import HandS.TupAny
import KE.SortKeyHeap
import KE.SortData
import HandS.Evl
import KE.IntBitsLaws
import PySem.Challenge.RW_wordscut_k02_whole_two_texts_and_their_r
set_option Elab.async false
set_option linter.all false
set_option maxRecDepth 100000
set_option maxHeartbeats 2000000
/-! rules over texts as lists of code points; called defs as bundles -/
namespace Wc
open PySem PySem.Spec PyProof.Rows L2

abbrev Tx := List Nat
/-- a text as a value -/
abbrev T (l : Tx) : V := .str (SX.S l)
theorem T_inj {a b : Tx} (h : T a = T b) : a = b := SX.S_inj (V.str.inj h)
theorem T_str (x : Str) : V.str x = T x.cps.toList := congrArg V.str (SX.S_tl x).symm
theorem dec_T (a b : Tx) : decide (T a = T b) = decide (a = b) := by
  by_cases h : a = b
  · subst h
    rw [decide_eq_true rfl, decide_eq_true rfl]
  · rw [decide_eq_false h, decide_eq_false fun e => h (T_inj e)]
theorem S_length (a : Tx) : (SX.S a).length = a.length := SX.S_len a

/-- text + text -/
def rAddT : R2 := fun x y H Q => ∃ a b : Tx, x = T a ∧ y = T b ∧ a.length + b.length ≤ 16777216 ∧ Q (T (a ++ b)) H
theorem op_addT {X : Cx} : OpR X (binaryOp .Add) rAddT := by
  intro pins s σ H x y v u Q I rx ry h
  obtain ⟨a, b, rfl, rfl, hl, q⟩ := h
  refine op_add_str pins s σ H _ _ v u Q I rx ry ⟨_, _, rfl, rfl, ?_, ?_⟩
  · rw [S_length, S_length]
    exact hl
  · rw [SX.S_cat]
    exact q
/-- text * int -/
def repT (n : Nat) (a : Tx) : Tx := (List.replicate n a).flatten
theorem repT_zero (a : Tx) : repT 0 a = [] := rfl
theorem repT_succ (n : Nat) (a : Tx) : repT (n + 1) a = a ++ repT n a := by
  unfold repT
  rw [List.replicate_succ, List.flatten_cons]
theorem repT_len (n : Nat) (a : Tx) : (repT n a).length = n * a.length := by
  induction n with
  | zero => simp [repT]
  | succ n ih => rw [repT_succ, List.length_append, ih, Nat.succ_mul]; omega
theorem fold_app : ∀ (l : List (Array Nat)) (acc : Array Nat), (l.foldl (· ++ ·) acc).toList = acc.toList ++ (l.map Array.toList).flatten
  | [], acc => by simp
  | x :: l, acc => by
    show (l.foldl (· ++ ·) (acc ++ x)).toList = _
    rw [fold_app l (acc ++ x)]
    simp
theorem mul_S (a : Tx) (n : Int) : Txt.mul (SX.S a) n = SX.S (repT n.toNat a) := by
  unfold Txt.mul
  by_cases h1 : n < 1
  · rw [if_pos h1]
    have e : n.toNat = 0 := by omega
    rw [e]
    rfl
  · rw [if_neg h1]
    by_cases h2 : (n == 1 || (SX.S a).length == 0) = true
    · rw [if_pos h2]
      rw [Bool.or_eq_true] at h2
      rcases h2 with h2 | h2
      · have e : n.toNat = 1 := by
          have := eq_of_beq h2
          omega
        rw [e]
        simp [repT]
      · have e := eq_of_beq h2
        rw [S_length] at e
        have e2 := List.length_eq_zero_iff.mp e
        subst e2
        have : repT n.toNat [] = [] := List.length_eq_zero_iff.mp (by rw [repT_len]; simp)
        rw [this]
    · rw [if_neg h2]
      refine TL.ext_tl ?_
      show (List.foldl (· ++ ·) #[] (List.replicate n.toNat a.toArray)).toList = repT n.toNat a
      rw [fold_app]
      simp [repT, List.map_replicate]
def rMulT : R2 := fun x y H Q => ∃ (a : Tx) (n : Int), x = T a ∧ y = .int n ∧ -1000000000 ≤ n ∧ n ≤ 1000000000 ∧ a.length * n.toNat ≤ 16777216 ∧ Q (T (repT n.toNat a)) H
theorem mulOk {a : Tx} {n : Int} (h0 : -1000000000 ≤ n) (h1 : n ≤ 1000000000) (h : a.length * n.toNat ≤ 16777216) : MulOk (SX.S a) n := by
  refine ⟨?_, fun hn _ => ?_, fun hn _ => ?_⟩
  · rw [Bool.or_eq_false_iff]
    exact ⟨decide_eq_false (by omega), decide_eq_false (by omega)⟩
  · rw [S_length]
    intro hgt
    have h2 : (a.length : Int) ≤ 16777216 := by
      have : a.length * 1 ≤ a.length * n.toNat := Nat.mul_le_mul_left _ (by omega)
      omega
    have h3 : (16777216 : Int) ≤ (2 ^ 63 - 1) / n := by
      rw [Int.le_ediv_iff_mul_le (by omega)]
      have : (16777216 : Int) * n ≤ 16777216 * 1000000000 := Int.mul_le_mul_of_nonneg_left h1 (by decide)
      omega
    omega
  · rw [S_length]
    unfold Builtin.Str.tooLong
    have : ¬ (a.length * n.toNat > 16777216) := by omega
    exact decide_eq_false (by first | exact this | (simp; omega))
theorem op_mulT {X : Cx} : OpR X (binaryOp .Mult) rMulT := by
  intro pins s σ H x y v u Q I rx ry h
  obtain ⟨a, n, rfl, rfl, h0, h1, hl, q⟩ := h
  obtain ⟨t, rfl⟩ := rx
  obtain ⟨t', rfl⟩ := ry
  refine SB.mul (mulOk h0 h1 hl) fun t2 k => ?_
  rw [mul_S]
  exact ⟨T (repT n.toNat a), H, I.tok _, ⟨_, rfl⟩, q⟩

/-! ### subscripts, slices, length, comparisons -/
def rIxT : R2 := fun x y H Q => ∃ (a : Tx) (i : Int) (c : Nat), x = T a ∧ y = .int i ∧ a.length ≤ 16777216 ∧ atI a i = some c ∧ Q (T [c]) H
theorem ix_T {X : Cx} : IxR X rIxT := by
  intro value slice pins s σ H x y v u Q I rx ry h hs
  obtain ⟨a, i, c, rfl, rfl, hl, ha, q⟩ := h
  exact ix_str value slice pins s σ H _ _ v u Q I rx ry ⟨_, i, c, rfl, rfl, by rw [S_length]; exact hl, ha, q⟩ hs
def cutT (a : Tx) (lo hi : Option Int) : Tx := (a.drop (HT.sIx a.length 0 lo)).take (HT.sIx a.length a.length hi - HT.sIx a.length 0 lo)
theorem cutS_T (a : Tx) (lo hi : Option Int) : cutS (SX.S a) lo hi = SX.S (cutT a lo hi) := by
  unfold cutS cutT
  rw [S_length]
def rSlT : V → Option Int → Option Int → Hp → VK → Prop := fun x lo hi H Q => ∃ a : Tx, x = T a ∧ a.length ≤ 16777216 ∧ Q (T (cutT a lo hi)) H
theorem sl_T {X : Cx} : SlR X rSlT := by
  intro pins s σ H x v vl vu lo hi sl Q I rx hs pl pu h
  obtain ⟨a, rfl, hl, q⟩ := h
  refine sl_str pins s σ H _ v vl vu lo hi sl Q I rx hs pl pu ⟨_, rfl, by rw [S_length]; exact hl, ?_⟩
  rw [cutS_T]
  exact q
theorem cutT_to (a : Tx) (n : Nat) : cutT a none (some (n : Int)) = a.take n := by
  unfold cutT
  rw [HT.sIx_none, HT.sIx_nat, List.drop_zero, Nat.sub_zero]
  by_cases h : n ≤ a.length
  · rw [Nat.min_eq_left h]
  · rw [Nat.min_eq_right (by omega), List.take_of_length_le (Nat.le_refl _), List.take_of_length_le (by omega)]
theorem cutT_from (a : Tx) (n : Nat) : cutT a (some (n : Int)) none = a.drop n := by
  unfold cutT
  rw [HT.sIx_none, HT.sIx_nat]
  by_cases h : n ≤ a.length
  · rw [Nat.min_eq_left h]
    exact List.take_of_length_le (by rw [List.length_drop]; exact Nat.le_refl _)
  · rw [Nat.min_eq_right (by omega), List.drop_eq_nil_of_le (Nat.le_refl _), List.drop_eq_nil_of_le (by omega), List.take_nil]
theorem cutT_mid (a : Tx) (m n : Nat) : cutT a (some (m : Int)) (some (n : Int)) = (a.drop m).take (n - m) := by
  unfold cutT
  rw [HT.sIx_nat, HT.sIx_nat]
  by_cases h : m ≤ a.length
  · rw [Nat.min_eq_left h]
    by_cases h2 : n ≤ a.length
    · rw [Nat.min_eq_left h2]
    · rw [Nat.min_eq_right (by omega), List.take_of_length_le (by rw [List.length_drop]; exact Nat.le_refl _), List.take_of_length_le (by rw [List.length_drop]; omega)]
  · rw [Nat.min_eq_right (show a.length ≤ m by omega), List.drop_eq_nil_of_le (Nat.le_refl _), List.drop_eq_nil_of_le (show a.length ≤ m by omega), List.take_nil, List.take_nil]
/-- without the last so many -/
theorem cutT_but (a : Tx) (k : Nat) : cutT a none (some (-((k : Int) + 1))) = a.take (a.length - (k + 1)) := by
  unfold cutT
  rw [HT.sIx_none, List.drop_zero, Nat.sub_zero]
  have e : HT.sIx a.length a.length (some (-((k : Int) + 1))) = a.length - (k + 1) := by
    show (if (-((k : Int) + 1)) < 0 then ((-((k : Int) + 1)) + (a.length : Int)).toNat else min (-((k : Int) + 1)).toNat a.length) = _
    rw [if_pos (by omega)]
    omega
  rw [e]
/-- the last so many -/
theorem cutT_last (a : Tx) (k : Nat) : cutT a (some (-((k : Int) + 1))) none = a.drop (a.length - (k + 1)) := by
  unfold cutT
  rw [HT.sIx_none]
  have e : HT.sIx a.length 0 (some (-((k : Int) + 1))) = a.length - (k + 1) := by
    show (if (-((k : Int) + 1)) < 0 then ((-((k : Int) + 1)) + (a.length : Int)).toNat else min (-((k : Int) + 1)).toNat a.length) = _
    rw [if_pos (by omega)]
    omega
  rw [e]
  exact List.take_of_length_le (by rw [List.length_drop]; exact Nat.le_refl _)
theorem cutT_len (a : Tx) (lo hi : Option Int) : (cutT a lo hi).length ≤ a.length := by
  unfold cutT
  rw [List.length_take, List.length_drop]
  omega
theorem cutT_mem {a : Tx} {lo hi : Option Int} {c : Nat} (h : c ∈ cutT a lo hi) : c ∈ a := List.mem_of_mem_drop (List.mem_of_mem_take h)
def rLenT : List V → Hp → VK → Prop := fun vs H Q => ∃ a : Tx, vs = [T a] ∧ a.length ≤ 16777216 ∧ Q (.int (a.length : Int)) H
theorem cr_lenT {X : Cx} : CallR X (.builtin "len") rLenT := by
  intro pins s σ H vs us Q I r h
  obtain ⟨a, rfl, hl, q⟩ := h
  refine call_len_str pins s σ H _ us Q I r ⟨_, rfl, by rw [S_length]; exact hl, ?_⟩
  rw [S_length]
  exact q
def rEqT : R2 := fun x y H Q => ∃ a b : Tx, x = T a ∧ y = T b ∧ Q (.bl (decide (a = b))) H
theorem op_eqT {X : Cx} : OpR X (compareOp .Eq) rEqT := by
  intro pins s σ H x y v u Q I rx ry h
  obtain ⟨a, b, rfl, rfl, q⟩ := h
  refine op_eq pins s σ H _ _ v u Q I rx ry ⟨rfl, ?_⟩
  rw [dec_T]
  exact q
def rNeT : R2 := fun x y H Q => ∃ a b : Tx, x = T a ∧ y = T b ∧ Q (.bl (!decide (a = b))) H
theorem op_neT {X : Cx} : OpR X (compareOp .NotEq) rNeT := by
  intro pins s σ H x y v u Q I rx ry h
  obtain ⟨a, b, rfl, rfl, q⟩ := h
  refine op_ne pins s σ H _ _ v u Q I rx ry ⟨rfl, ?_⟩
  rw [dec_T]
  exact q
theorem dec_int (i j : Int) : decide (V.int i = V.int j) = decide (i = j) := by
  by_cases h : i = j
  · subst h
    rw [decide_eq_true rfl, decide_eq_true rfl]
  · rw [decide_eq_false h, decide_eq_false fun e => h (V.int.inj e)]
theorem dec_bl (i j : Bool) : decide (V.bl i = V.bl j) = decide (i = j) := by
  cases i <;> cases j <;> decide
theorem op_eqI {X : Cx} : OpR X (compareOp .Eq) (rI0 fun i j => .bl (decide (i = j))) := by
  intro pins s σ H x y v u Q I rx ry h
  obtain ⟨i, j, rfl, rfl, q⟩ := h
  refine op_eq pins s σ H _ _ v u Q I rx ry ⟨rfl, ?_⟩
  rw [dec_int]
  exact q
theorem op_neI {X : Cx} : OpR X (compareOp .NotEq) (rI0 fun i j => .bl (!decide (i = j))) := by
  intro pins s σ H x y v u Q I rx ry h
  obtain ⟨i, j, rfl, rfl, q⟩ := h
  refine op_ne pins s σ H _ _ v u Q I rx ry ⟨rfl, ?_⟩
  rw [dec_int]
  exact q
def rB0 (g : Bool → Bool → Bool) : R2 := fun x y H Q => ∃ i j, x = .bl i ∧ y = .bl j ∧ Q (.bl (g i j)) H
theorem op_eqB {X : Cx} : OpR X (compareOp .Eq) (rB0 fun i j => decide (i = j)) := by
  intro pins s σ H x y v u Q I rx ry h
  obtain ⟨i, j, rfl, rfl, q⟩ := h
  refine op_eq pins s σ H _ _ v u Q I rx ry ⟨rfl, ?_⟩
  rw [dec_bl]
  exact q
def rInT : R2 := fun x y H Q => ∃ (c : Nat) (z : Tx), x = T [c] ∧ y = T z ∧ Q (.bl (decide (c ∈ z))) H
theorem op_inT {X : Cx} : OpR X (compareOp .In) rInT := by
  intro pins s σ H x y v u Q I rx ry h
  obtain ⟨c, z, rfl, rfl, q⟩ := h
  exact op_in_sign pins s σ H _ _ v u Q I rx ry ⟨c, SX.S z, rfl, rfl, q⟩
def rLtT : R2 := fun x y H Q => ∃ a b : Tx, x = T a ∧ y = T b ∧ Q (.bl (decide (a < b))) H
theorem op_ltT' {X : Cx} : OpR X (compareOp .Lt) rLtT := by
  intro pins s σ H x y v u Q I rx ry h
  obtain ⟨a, b, rfl, rfl, q⟩ := h
  exact op_lt_str pins s σ H _ _ v u Q I rx ry ⟨_, _, rfl, rfl, q⟩
/-! ### % and // by a positive number -/
theorem op_modP {X : Cx} : OpR X (binaryOp .Mod) (rI (fun _ j => 0 < j) fun i j => .int (i % j)) := op_mod
/-- * of any two whose bits together are below the line -/
def CMulB (i j : Int) : Prop := i.natAbs.log2 + j.natAbs.log2 < 100000000
theorem CMulB.ok {i j : Int} (h : CMulB i j) : IntMulOk i j := by
  have b : ∀ x : Int, Builtin.Int.intBits x ≤ x.natAbs.log2 + 1 := fun x => by
    unfold Builtin.Int.intBits
    split <;> omega
  have h1 := b i
  have h2 := b j
  have h3 : i.natAbs.log2 + j.natAbs.log2 < 100000000 := h
  have e : bitsLine = 134217728 := by decide
  unfold IntMulOk
  intro z
  rw [Bool.and_eq_true] at z
  have z2 := z.2
  unfold Builtin.Int.intTooBig at z2
  have z3 := of_decide_eq_true z2
  rw [e] at z3
  omega
theorem op_mulB {X : Cx} : OpR X (binaryOp .Mult) (rI CMulB fun i j => .int (i * j)) := opI fun _ _ _ _ _ _ _ hc q => mul_int q hc.ok
theorem mulB {i j : Int} {a b : Nat} (ha : i.natAbs < 2 ^ a) (hb : j.natAbs < 2 ^ b) (h0 : 0 < a) (h1 : 0 < b) (h : a + b ≤ 100000000) : CMulB i j := by
  have x := PySem.Flt.log2_lt_of h0 ha
  have y := PySem.Flt.log2_lt_of h1 hb
  unfold CMulB
  omega
/-! ### str.join, find, startswith -/
def rJoinT (K : PySem.W.Frag) : V → List V → Hp → VK → Prop := fun x xs H Q => ∃ (a : Tx) (p : Addr) (ys : List Tx), x = T a ∧ xs = [.ref p] ∧ (SqL K H p (ys.map T) ∨ SqT K H p (ys.map T)) ∧ (ys.map List.length).sum + ys.length * a.length ≤ 16777216 ∧ Q (T (TL.joinL a ys)) H
theorem mt_joinT {X : Cx} : MtR X "str.join" (rJoinT X.K) := by
  intro pins s σ H x xs v us Q I rx r h
  obtain ⟨a, p, ys, rfl, rfl, hs, hl, q⟩ := h
  have em : ys.map T = (ys.map SX.S).map V.str := by rw [List.map_map]; rfl
  rw [em] at hs
  refine mt_join pins s σ H _ _ v us Q I rx r ⟨_, p, ys.map SX.S, rfl, rfl, hs, ?_, ?_⟩
  · rw [SX.lens, List.length_map, S_length]
    exact hl
  · rw [SX.join_S]
    exact q
theorem joinL_nil : ∀ ys : List Tx, TL.joinL [] ys = ys.flatten
  | [] => rfl
  | [p] => by simp [TL.joinL]
  | p :: q :: r => by
    show p ++ ([] ++ TL.joinL [] (q :: r)) = _
    rw [joinL_nil (q :: r)]
    rfl
/-- b stands in a at i -/
abbrev StAt (a b : Tx) (i : Nat) : Prop := (a.drop i).take b.length = b
theorem subAt_T (a b : Tx) (i : Nat) : Builtin.Str.subAt (SX.S a) (SX.S b) i = decide (StAt a b i) := by
  rw [StrLaws.subAt_eq, S_length]
  show ((a.drop i).take b.length == b) = decide _
  by_cases h : StAt a b i
  · rw [decide_eq_true h]
    exact beq_iff_eq.mpr h
  · rw [decide_eq_false h]
    exact beq_eq_false_iff_ne.mpr h
/-- where b stands first in a, from i on -/
inductive FindT (a b : Tx) (i : Nat) : Int → Prop where
  | at_ (k : Nat) : i ≤ k → k + b.length ≤ a.length → StAt a b k → (∀ j, i ≤ j → j < k → ¬ StAt a b j) → FindT a b i (k : Int)
  | no : (∀ j, i ≤ j → j + b.length ≤ a.length → ¬ StAt a b j) → FindT a b i (-1)
theorem fromIndex_nat (n i : Nat) : fromIndex n (i : Int) = i := by
  unfold fromIndex
  rw [if_neg (by omega)]
  omega
theorem range'_pre {s n : Nat} {pre post : List Nat} {a : Nat} (h : List.range' s n = pre ++ a :: post) : s ≤ a ∧ ∀ k, s ≤ k → k < a → k ∈ pre := by
  have hl : n = pre.length + (post.length + 1) := by
    have e := congrArg List.length h
    simpa using e
  have ha : s + pre.length = a := by
    have h1 : (List.range' s n)[pre.length]? = some a := by rw [h]; simp
    rw [List.getElem?_range' (by omega)] at h1
    have := Option.some.inj h1
    omega
  refine ⟨by omega, fun k h1 h2 => ?_⟩
  have h3 : (List.range' s n)[k - s]? = some k := by
    rw [List.getElem?_range' (by omega)]
    congr 1
    omega
  rw [h, List.getElem?_append_left (by omega)] at h3
  exact List.mem_of_getElem? h3
theorem find3_spec (a b : Tx) (i : Nat) : FindT a b i (Txt.find3 (SX.S a) (SX.S b) (i : Int)) := by
  have hAt : ∀ j, StrLaws.At (SX.S a) (SX.S b) a.length j ↔ (j + b.length ≤ a.length ∧ StAt a b j) := fun j => by
    unfold StrLaws.At
    rw [subAt_T, S_length, decide_eq_true_eq]
  unfold Txt.find3
  rw [S_length, fromIndex_nat, StrLaws.occ_eq]
  rcases StrLaws.occ_first (SX.S a) (SX.S b) a.length 1 (Nat.le_refl _) (List.range' i (a.length + 1 - i)) i (fun k hk => (List.mem_range'_1.mp hk).1) with ⟨h0, hn⟩ | ⟨pre, k, post, e, h0, hk, hn⟩
  · rw [h0]
    refine .no fun j h1 h2 h3 => hn j ?_ ((hAt j).mpr ⟨h2, h3⟩)
    exact List.mem_range'_1.mpr ⟨h1, by omega⟩
  · have hp := range'_pre e
    have hk' := (hAt k).mp hk
    generalize hL : (forIn (List.range' i (a.length + 1 - i)) ((#[] : Array Nat), i) (StrLaws.occBody (SX.S a) (SX.S b) a.length 1)).run.fst = L at h0 ⊢
    have e2 : ∃ r, L.toList = k :: r := by
      have h1 : L.toList[0]? = some k := by rw [Array.getElem?_toList]; exact h0
      cases hh : L.toList with
      | nil => rw [hh] at h1; simp at h1
      | cons y r => rw [hh] at h1; exact ⟨r, by rw [show y = k from Option.some.inj h1]⟩
    obtain ⟨r, e2⟩ := e2
    rw [e2]
    exact .at_ k hp.1 hk'.1 hk'.2 fun j h1 h2 h3 => hn j (hp.2 j h1 h2) ((hAt j).mpr ⟨by omega, h3⟩)
def rFind3T : V → List V → Hp → VK → Prop := fun x xs H Q => ∃ (a b : Tx) (i : Nat), x = T a ∧ xs = [T b, .int (i : Int)] ∧ ∀ r, FindT a b i r → Q (.int r) H
theorem mt_find3T {X : Cx} : MtR X "str.find" rFind3T := by
  intro pins s σ H x xs v us Q I rx r h
  obtain ⟨a, b, i, rfl, rfl, q⟩ := h
  exact mt_find3 pins s σ H _ _ v us Q I rx r ⟨_, _, _, rfl, rfl, q _ (find3_spec a b i)⟩
def rFindT : V → List V → Hp → VK → Prop := fun x xs H Q => ∃ (a b : Tx), x = T a ∧ xs = [T b] ∧ ∀ r, FindT a b 0 r → Q (.int r) H
theorem find_spec (a b : Tx) : FindT a b 0 (Txt.find (SX.S a) (SX.S b)) := by
  have h := find3_spec a b 0
  unfold Txt.find3 at h
  rw [S_length, fromIndex_nat] at h
  unfold Txt.find
  rw [S_length]
  exact h
theorem mt_findT {X : Cx} : MtR X "str.find" rFindT := by
  intro pins s σ H x xs v us Q I rx r h
  obtain ⟨a, b, rfl, rfl, q⟩ := h
  exact mt_find pins s σ H _ _ v us Q I rx r ⟨_, _, rfl, rfl, q _ (find_spec a b)⟩
def rStart3T : V → List V → Hp → VK → Prop := fun x xs H Q => ∃ (a b : Tx) (i : Nat), x = T a ∧ xs = [T b, .int (i : Int)] ∧ Q (.bl (decide (i + b.length ≤ a.length ∧ StAt a b i))) H
theorem mt_start3T {X : Cx} : MtR X "str.startswith" rStart3T := by
  intro pins s σ H x xs v us Q I rx r h
  obtain ⟨a, b, i, rfl, rfl, q⟩ := h
  refine mt_startswith3 pins s σ H _ _ v us Q I rx r ⟨_, _, _, rfl, rfl, ?_⟩
  unfold Txt.startswith3
  rw [S_length, S_length, fromIndex_nat, subAt_T, ← Bool.decide_and]
  exact q
end Wc
set_option Elab.async false
set_option linter.all false
set_option maxRecDepth 100000
set_option maxHeartbeats 2000000
namespace Wc
open PySem PySem.Spec PyProof.Rows L2
/-! ### constants -/
theorem pe_sT {X : Cx} (l : Tx) {x : Str} {j pos} (e : x = SX.S l := by decide +kernel) : PE X (.Constant (.str x) j pos) (tC (T l)) := by
  rw [e]
  exact pe_str
theorem pe_gT {X : Cx} {x : Str} {z : Str} {pos : Pos} (h : ∃ t, X.mg x = some (.str z t)) (l : Tx) (hg : Gl X x := by rfl) (e : z = SX.S l := by decide +kernel) (hd : (x == ("__debug__" : Str)) = false := by decide) : PE X (.Name x pos) (tC (T l)) := by
  obtain ⟨t, h⟩ := h
  subst e
  exact pe_glob hg h ⟨t, rfl⟩ hd
theorem pe_gI {X : Cx} {x : Str} {i : Int} {pos : Pos} (h : ∃ t, X.mg x = some (.int i t)) (hg : Gl X x := by rfl) (hd : (x == ("__debug__" : Str)) = false := by decide) : PE X (.Name x pos) (tC (.int i)) := by
  obtain ⟨t, h⟩ := h
  exact pe_glob hg h ⟨t, rfl⟩ hd
/-! ### a def that is called -/
structure Cal (P : Program) (w : World) (K : PySem.W.Frag) (mg : Str → Option Value) (base : Heap) (x : Str) (st : Stmt) (k : Nat) (ps : List Str) (sp : Sp) : Prop where
  ex : ∃ f fd, FnOk P w K mg base CX0 k f fd ps sp ∧ mg x = some (.ref f) ∧ Fun K x x st f fd ∧ Binds K fd ps []
section
variable {X : Cx} {x : Str} {st : Stmt} {k n : Nat} {ps ks : List Str} {sp : Sp} {p pos : Pos} {e : Expr} {es : List Expr} {kws : List Keyword} {t tk : TA}
theorem pe_cl (C : Cal X.prog X.w X.K X.mg X.base x st k ps sp) (hr : Room n X.A) (ha : PA X (e :: es) t) (hkn : k ≤ n := by decide) (hg : Gl X x := by rfl) (hdb : (x == ("__debug__" : Str)) = false := by decide)
    (he : starEach (e :: es) X.env = (false, eval e X.env) :: starEach es X.env := by rfl) (hpl : (backTo pos (starEach es X.env)).any (·.1) = false := by rfl) : PE X (.Call (.Name x p) (e :: es) [] pos) (tCall sp [] E0 t) := by
  obtain ⟨f, fd, F, hm, hF, hb⟩ := C.ex
  exact pe_call F (hr.mono hkn) hg hm hF.kp hb .nil pass0 ha hdb he hpl
theorem pe_cl0 (C : Cal X.prog X.w X.K X.mg X.base x st k ps sp) (hr : Room n X.A) (hkn : k ≤ n := by decide) (hg : Gl X x := by rfl) (hdb : (x == ("__debug__" : Str)) = false := by decide) : PE X (.Call (.Name x p) [] [] pos) (tCall sp [] E0 tNil) := by
  obtain ⟨f, fd, F, hm, hF, hb⟩ := C.ex
  exact pe_call0 F (hr.mono hkn) hg hm hF.kp hb .nil pass0 hdb
/-- the values of the parameters out of the named ones -/
def KB (x : Str) (st : Stmt) (n : Nat) (ps ks : List Str) (g : List Value → List Value → List Value) (gV : List V → List V → List V) : Prop :=
  ∀ (K : PySem.W.Frag) (f : Addr) (fd : FuncData), Fun K x x st f fd → KBinds K fd ps ks g gV
def tCallK0 (sp : Sp) (gV : List V → List V → List V) (tk : TA) : TE := fun σ H Q => tk σ H fun zs H2 => sp (gV [] zs) H2 Q E0
theorem pe_clK0 {g : List Value → List Value → List Value} {gV : List V → List V → List V} (C : Cal X.prog X.w X.K X.mg X.base x st k ps sp) (kb : KB x st 0 ps ks g gV) (hr : Room n X.A) (hkw : PK X kws tk) (hkn : k ≤ n := by decide) (hg : Gl X x := by rfl) (hdb : (x == ("__debug__" : Str)) = false := by decide)
    (hall : (backToKw pos (keywordEach kws X.env)).all (·.1.isSome) = true := by rfl) (hks : (backToKw pos (keywordEach kws X.env)).filterMap (·.1) = ks := by rfl)
    (hpl : ((backTo pos (starEach [] X.env)).any (·.1) || (backToKw pos (keywordEach kws X.env)).any (·.1.isNone)) = false := by rfl) : PE X (.Call (.Name x p) [] kws pos) (tCallK0 sp gV tk) := by
  obtain ⟨f, fd, F, hm, hF, hb⟩ := C.ex
  refine ⟨fun pins s σ H Q I h => ?_⟩
  refine wpAny_Call_Name_kw (ld_glob I hg hm ?_ hdb)
  refine PySem.W.callWith_KW0 (h₀ := X.base) I.ok.mod.kin hF.kp hall (thn (hkw.run pos pins s σ H _ I h) fun ws s2 ⟨zs, H2, I2, rz, q2⟩ => ⟨I2.kIn, ?_⟩) hpl
  rw [hks]
  exact run_fnk (us := []) (vs := []) F (hr.mono hkn) (kb _ _ _ hF) pass0 I2 .nil rz q2
theorem pe_clK {g : List Value → List Value → List Value} {gV : List V → List V → List V} (C : Cal X.prog X.w X.K X.mg X.base x st k ps sp) (kb : KB x st 0 ps ks g gV) (hr : Room n X.A) (ha : PA X (e :: es) t) (hkw : PK X kws tk) (hkn : k ≤ n := by decide) (hg : Gl X x := by rfl)
    (hall : (backToKw pos (keywordEach kws X.env)).all (·.1.isSome) = true := by rfl) (hks : (backToKw pos (keywordEach kws X.env)).filterMap (·.1) = ks := by rfl)
    (hdb : (x == ("__debug__" : Str)) = false := by decide) (he : starEach (e :: es) X.env = (false, eval e X.env) :: starEach es X.env := by rfl)
    (hpl : ((backTo pos (starEach (e :: es) X.env)).any (·.1) || (backToKw pos (keywordEach kws X.env)).any (·.1.isNone)) = false := by rfl) : PE X (.Call (.Name x p) (e :: es) kws pos) (tCallK sp gV E0 t tk) := by
  obtain ⟨f, fd, F, hm, hF, hb⟩ := C.ex
  exact pe_callK F (hr.mono hkn) hg hm hF.kp (kb _ _ _ hF) pass0 ha hkw hall hks hdb he hpl
end
/-- two named values, in their sequence, or turned -/
def sw2 {α : Type} (turn : Bool) : List α → List α → List α
  | [], [a, b] => if turn then [b, a] else [a, b]
  | _, _ => []
theorem sw2_rel {turn : Bool} {vs zs : List V} {us ws : List Value} (r : Vals vs us) (rz : Vals zs ws) : Vals (sw2 turn vs zs) (sw2 turn us ws) := by
  cases r with
  | cons => exact .nil
  | nil =>
    cases rz with
    | nil => exact .nil
    | cons h1 r1 =>
      cases r1 with
      | nil => exact .nil
      | cons h2 r2 =>
        cases r2 with
        | cons => exact .nil
        | nil => cases turn with
          | true => exact .cons h2 (.cons h1 .nil)
          | false => exact .cons h1 (.cons h2 .nil)
theorem kb2 {x : Str} {st : Stmt} {ps ks : List Str} (turn : Bool) (hp : ps.length = 2)
    (h : ∀ (kV doc pm : Value) (an : Option Addr) (cdv ct a b : Value), bindArgs (PySem.W.fnOf x x (defArgs st) (defBody st) (defScope st) .none kV doc pm an cdv ct) ⟨[], ks.zip [a, b]⟩ = pure (ps.zip (sw2 turn [] [a, b]))) : KB x st 0 ps ks (sw2 turn) (sw2 turn) := by
  intro K f fd F
  obtain ⟨oc, od, kV, doc, pm, an, cdv, ct, osl, rfl, lk, hcd⟩ := F.ex
  refine ⟨fun s us ws _ hl => ?_, fun r rz => sw2_rel r rz⟩
  rw [hp] at hl
  match us, ws, hl with
  | [], [a, b], _ => exact .of_eq (h kV doc pm an cdv ct a b)
  | [], [], hl => exact absurd hl (by simp [sw2])
  | [], [_], hl => exact absurd hl (by simp [sw2])
  | [], _ :: _ :: _ :: _, hl => exact absurd hl (by simp [sw2])
  | _ :: _, ws, hl => exact absurd hl (by simp [sw2])

/-! ### isinstance with a built-in class -/
def rIsiB (K : PySem.W.Frag) : List V → Hp → VK → Prop := fun vs H Q => ∃ (x : V) (n t : String) (b : Bool), vs = [x, .ty n] ∧ TyX K H x (.type t) ∧ kitB t n = some b ∧ Q (.bl b) H
theorem cr_isi {X : Cx} : CallR X (.builtin "isinstance") (rIsiB X.K) := by
  intro pins s σ H vs us Q I r h
  obtain ⟨x, n, t, b, rfl, ty, hk, q⟩ := h
  exact call_isi pins s σ H _ us Q I r ⟨x, .ty n, .type t, .type n, b, rfl, .ty n, ty, kit_ty hk, q⟩
theorem k_str_str : kitB "str" "str" = some true := by decide +kernel
theorem k_bool_bool : kitB "bool" "bool" = some true := by decide +kernel
theorem k_int_int : kitB "int" "int" = some true := by decide +kernel
theorem k_int_bool : kitB "int" "bool" = some false := by decide +kernel
theorem k_bool_int : kitB "bool" "int" = some true := by decide +kernel
theorem k_list_list : kitB "list" "list" = some true := by decide +kernel
theorem k_tuple_tuple : kitB "tuple" "tuple" = some true := by decide +kernel
theorem k_str_bool : kitB "str" "bool" = some false := by decide +kernel

/-! ### sorted(xs, key=len) of texts -/
noncomputable def sortLen (xs : List Tx) : List Tx := xs.mergeSort (PySem.W.dataLe false fun a => PyData.int (a.length : Int))
def rSortLen (K : PySem.W.Frag) : List V → Hp → VK → Prop := fun vs H Q => ∃ (p : Addr) (xs : List Tx), vs = [.ref p] ∧ SqL K H p (xs.map T) ∧ (∀ a ∈ xs, a.length ≤ 16777216) ∧ ∀ q, H q = none → Q (.ref q) (upd H q (.lst ((sortLen xs).map T)))
def tSortLen (K : PySem.W.Frag) (t : TA) : TE := fun σ H Q => t σ H fun vs H1 => rSortLen K vs H1 Q
abbrev IsT (v : Value) (a : Tx) : Prop := ∃ t, v = .str (SX.S a) t
theorem each_of_vals : ∀ {xs : List Tx} {us : List Value}, Vals (xs.map T) us → PySem.W.EachIs IsT us xs
  | [], [], _ => .nil
  | a :: xs, u :: us, .cons h r => .cons h (each_of_vals r)
theorem vals_of_each : ∀ {xs : List Tx} {us : List Value}, PySem.W.EachIs IsT us xs → Vals (xs.map T) us
  | [], [], _ => .nil
  | a :: xs, u :: us, .cons h r => .cons h (vals_of_each r)
theorem pe_sortLen {X : Cx} {p p2 kp pos : Pos} {e : Expr} {t : TA} (hu : X.A.units + 64 < cLine) (hm : X.mg "sorted" = none) (hm2 : X.mg "len" = none) (ha : PA X [e] t) (hg : Gl X "sorted" := by rfl) (hg2 : Gl X "len" := by rfl)
    (he : backTo pos (starEach [e] X.env) = (false, eval e X.env) :: backTo pos (starEach [] X.env) := by rfl) (hpl : (backTo pos (starEach [e] X.env)).any (·.1) = false := by rfl) :
    PE X (.Call (.Name "sorted" p) [e] [⟨some "key", .Name "len" p2, kp⟩] pos) (tSortLen X.K t) := by
  refine ⟨fun pins s σ H Q I h => ?_⟩
  refine wpAny_Call_Name_kw (ld_blt I hg hm boot_sorted ?_)
  refine PyProof.Rows.callWith_kw (thn (ha.run pos pins s σ H _ I h) fun us s1 ⟨vs, H1, I1, r1, q1⟩ => ?_) he hpl
  show wpAny _ _ (evalAll ((do let v ← eval (.Name "len" p2) X.env; standAt pos; pure v) :: [])) _ _ s1
  refine wpAny_evalAll_cons (wpAny_bind (ld_blt I1 hg2 hm2 PySem.boot_len (wpAny_bind (wpAny_standAt (wpAny_pure ?_)))))
  refine wpAny_evalAll_nil ?_
  obtain ⟨q, xs, rfl, hs, hb, k⟩ := q1
  obtain rfl := Vals.ref1 r1
  obtain ⟨its, rv, hl, hz⟩ := I1.list hs
  show wpAny _ _ (call (.builtin "sorted") [.ref q] [(Str.ofString "key", .builtin "len")]) _ _ s1
  rw [List.length_map] at hz
  refine PySem.W.sorted_key_data (R := IsT) (bs := xs) (b := false) (fun a => PyData.int (a.length : Int)) hl.isList (each_of_vals rv) ?_ ?_ hz ?_ (PyProof.Rows.ksk_s1 _ _) (fun _ => PyProof.Rows.ksk_l1 _ _) (fun x => PyProof.Rows.ksk_t4 "len" x) ?_ ?_
  · intro d hd d' hd'
    obtain ⟨a, _, rfl⟩ := List.mem_map.mp hd
    obtain ⟨b, _, rfl⟩ := List.mem_map.mp hd'
    rfl
  · refine .inr fun d hd => ?_
    obtain ⟨a, _, rfl⟩ := List.mem_map.mp hd
    exact ⟨fun z => (nomatch z), fun _ z => (nomatch z)⟩
  · intro a _
    show X.A.units + 2 + _ < cLine
    have : (PyData.int (a.length : Int)).depth ≤ 1 := by simp [PyData.depth]
    omega
  · rintro v a ⟨t, rfl⟩ hm h tk hk
    have hla := hb a hm
    refine PyProof.Rows.len_str ?_ ?_
    · rw [S_length]
      omega
    · rw [S_length]
      exact ⟨h, _, rfl, fun _ _ z => z, .int _ _⟩
  · intro out c h' tk hk hn ho hlen eo
    have fr : H1 (s1.heap.objs.size + 1) = none := I1.hok.fresh (Nat.le_succ _)
    refine ⟨.ref _, upd H1 (s1.heap.objs.size + 1) (.lst ((sortLen xs).map T)), I1.laid (t' := tk) hk (Nat.le_succ _) ⟨?_, out, c, vals_of_each eo, ho⟩, rfl, k _ fr⟩
    rw [List.length_map]
    unfold sortLen
    rw [List.length_mergeSort]
    exact hz
theorem sortLen_pair (a b : Tx) : sortLen [a, b] = if b.length < a.length then [b, a] else [a, b] := by
  have e := PySem.W.dataLe_int (fun a : Tx => (a.length : Int))
  unfold sortLen
  rw [e]
  by_cases h : b.length < a.length
  · rw [if_pos h]
    simp [List.mergeSort, List.MergeSort.Internal.splitInTwo, List.merge, show ¬ a.length ≤ b.length by omega]
  · rw [if_neg h]
    simp [List.mergeSort, List.MergeSort.Internal.splitInTwo, List.merge, show a.length ≤ b.length by omega]
end Wc
set_option Elab.async false
set_option linter.all false
set_option maxRecDepth 100000
set_option maxHeartbeats 2000000
/-! what the new readings evaluate to (over HandS.Evl) -/
namespace Wc
open PySem PySem.Spec PyProof.Rows L2 Evl
section
variable {K : PySem.W.Frag} {σ : L2.St} {H H' : Hp} {ta tb te : TE} {t : TT} {x y z v : V}
theorem rv_addT {a b : Tx} (h : a.length + b.length ≤ 16777216) : RV rAddT (T a) (T b) H (T (a ++ b)) := fun H1 _ _ q => ⟨a, b, rfl, rfl, h, q H1 (Ex.refl H1)⟩
theorem rv_mulT {a : Tx} {n : Int} (h0 : -1000000000 ≤ n) (h1 : n ≤ 1000000000) (h : a.length * n.toNat ≤ 16777216) : RV rMulT (T a) (.int n) H (T (repT n.toNat a)) := fun H1 _ _ q => ⟨a, n, rfl, rfl, h0, h1, h, q H1 (Ex.refl H1)⟩
theorem rv_eqT {a b : Tx} : RV rEqT (T a) (T b) H (.bl (decide (a = b))) := fun H1 _ _ q => ⟨a, b, rfl, rfl, q H1 (Ex.refl H1)⟩
theorem rv_neT {a b : Tx} : RV rNeT (T a) (T b) H (.bl (!decide (a = b))) := fun H1 _ _ q => ⟨a, b, rfl, rfl, q H1 (Ex.refl H1)⟩
theorem rv_ltT {a b : Tx} : RV rLtT (T a) (T b) H (.bl (decide (a < b))) := fun H1 _ _ q => ⟨a, b, rfl, rfl, q H1 (Ex.refl H1)⟩
theorem rv_inT {c : Nat} {b : Tx} : RV rInT (T [c]) (T b) H (.bl (decide (c ∈ b))) := fun H1 _ _ q => ⟨c, b, rfl, rfl, q H1 (Ex.refl H1)⟩
theorem rv_eqB {a b : Bool} {g : Bool → Bool → Bool} : RV (rB0 g) (.bl a) (.bl b) H (.bl (g a b)) := fun H1 _ _ q => ⟨a, b, rfl, rfl, q H1 (Ex.refl H1)⟩
theorem rv_ixT {a : Tx} {i : Int} {c : Nat} (hl : a.length ≤ 16777216) (h : atI a i = some c) : RV rIxT (T a) (.int i) H (T [c]) := fun H1 _ _ q => ⟨a, i, c, rfl, rfl, hl, h, q H1 (Ex.refl H1)⟩
theorem rv_isN : RV (fun x y H Q => y = .non ∧ Q (.bl (decide (x = .non))) H) x .non H (.bl (decide (x = .non))) := fun H1 _ _ q => ⟨rfl, q H1 (Ex.refl H1)⟩
theorem rv_notN : RV (fun x y H Q => y = .non ∧ Q (.bl (!decide (x = .non))) H) x .non H (.bl (!decide (x = .non))) := fun H1 _ _ q => ⟨rfl, q H1 (Ex.refl H1)⟩
theorem rc_lenT {a : Tx} (h : a.length ≤ 16777216) : RC rLenT [T a] H (.int (a.length : Int)) := fun H1 _ _ q => ⟨a, rfl, h, q H1 (Ex.refl H1)⟩
theorem rc_isi {n t : String} {b : Bool} (ty : ∀ H1, Ex H H1 → TyX K H1 x (.type t)) (h : kitB t n = some b) : RC (rIsiB K) [x, .ty n] H (.bl b) := fun H1 e _ q => ⟨x, n, t, b, rfl, ty H1 e, h, q H1 (Ex.refl H1)⟩
theorem rc_int {i : Int} : RC (fun xs H Q => (∃ i, xs = [.int i] ∧ Q (.int i) H) ∨ ∃ k, xs = [.bl k] ∧ Q (.int (if k then 1 else 0)) H) [.int i] H (.int i) := fun H1 _ _ q => .inl ⟨i, rfl, q H1 (Ex.refl H1)⟩
theorem rc_gcd {a b : Int} : RC rGcd [.int a, .int b] H (.int ((Nat.gcd a.natAbs b.natAbs : Nat) : Int)) := fun H1 _ _ q => ⟨a, b, rfl, q H1 (Ex.refl H1)⟩
/-- a reading that is given by another one -/
theorem ev_slT {a : Tx} {tl th : TO} {lo hi : Option Int} (h : Ev te σ H (T a)) (h1 : EvO tl σ H lo) (h2 : EvO th σ H hi) (hl : a.length ≤ 16777216) : Ev (tSl rSlT te tl th) σ H (T (cutT a lo hi)) := fun H1 e _ q =>
  h H1 e _ fun H2 e2 => h1 H2 (e.trans e2) _ fun H3 e3 => h2 H3 ((e.trans e2).trans e3) _ fun H4 e4 => ⟨a, rfl, hl, q H4 ((e2.trans e3).trans e4)⟩
/-- a method of a text -/
def RM (r : V → List V → Hp → VK → Prop) (x : V) (vs : List V) (H : Hp) (z : V) : Prop := ∀ H1, Ex H H1 → ∀ Q : VK, (∀ H2, Ex H1 H2 → Q z H2) → r x vs H1 Q
theorem ev_bmT {r : V → List V → Hp → VK → Prop} {tq : TA} {a : Tx} {vs : List V} (h : Ev te σ H (T a)) (ha : EvA tq σ H vs) (hr : RM r (T a) vs H z) : Ev (tBM K "str" r te tq) σ H z := fun H1 e Q q =>
  h H1 e _ fun H2 e2 => ⟨rfl, ha H2 (e.trans e2) _ fun H3 e3 => hr H3 ((e.trans e2).trans e3) Q fun H4 e4 => q H4 ((e2.trans e3).trans e4)⟩
theorem ev_bmTL {r : V → List V → Hp → VK → Prop} {a : Tx} {xs : List V} (h : Ev te σ H (T a)) (ha : EvL tb σ H xs) (hr : ∀ p H1, H1 p = some (.lst xs) → Ex H H1 → RM r (T a) [.ref p] H1 z) : Ev (tBM K "str" r te (tCons tb tNil)) σ H z := fun H1 e Q q =>
  h H1 e _ fun H2 e2 => ⟨rfl, ha H2 (e.trans e2) _ fun p H3 _ e3 hp => hr p H3 hp ((e.trans e2).trans e3) H3 (Ex.refl H3) Q fun H4 e4 => q H4 ((e2.trans e3).trans e4)⟩
/-- a call of a built-in on one new list -/
theorem ev_cbL {r : List V → Hp → VK → Prop} {xs : List V} (h : EvL te σ H xs) (hr : ∀ p H1, H1 p = some (.lst xs) → Ex H H1 → RC r [.ref p] H1 z) : Ev (tCB r (tCons te tNil)) σ H z := fun H1 e Q q =>
  h H1 e _ fun p H2 _ e2 hp => hr p H2 hp (e.trans e2) H2 (Ex.refl H2) Q fun H3 e3 => q H3 (e2.trans e3)
theorem rc_all {p : Addr} {bs : List Bool} (h : SqL K H p (bs.map V.bl)) : RC (rAll K) [.ref p] H (.bl (bs.all id)) := fun H1 e _ q => ⟨p, bs, rfl, ex_l e h, q H1 (Ex.refl H1)⟩
theorem rc_any {p : Addr} {bs : List Bool} (h : SqL K H p (bs.map V.bl)) : RC (rAny K) [.ref p] H (.bl (bs.any id)) := fun H1 e _ q => ⟨p, bs, rfl, ex_l e h, q H1 (Ex.refl H1)⟩
theorem rc_sum {p : Addr} {ns : List Int} (h : SqL K H p (ns.map V.int)) : RC (rSum K) [.ref p] H (.int ns.sum) := fun H1 e _ q => ⟨p, ns, rfl, ex_l e h, q H1 (Ex.refl H1)⟩
theorem rm_join {p : Addr} {ys : List Tx} (h : SqL K H p (ys.map T) ∨ SqT K H p (ys.map T)) (hl : (ys.map List.length).sum ≤ 16777216) : RM (rJoinT K) (T []) [.ref p] H (T ys.flatten) := fun H1 e _ q =>
  ⟨[], p, ys, rfl, rfl, h.imp (ex_l e) (ex_t e), by simpa using hl, by rw [joinL_nil]; exact q H1 (Ex.refl H1)⟩

/-! ### heaps: all but some stand -/
def Exc (B : Addr → Prop) (H H' : Hp) : Prop := ∀ b o, ¬ B b → H b = some o → H' b = some o
theorem Exc.refl {B : Addr → Prop} (H : Hp) : Exc B H H := fun _ _ _ h => h
theorem Exc.trans {B : Addr → Prop} {H H1 H2 : Hp} (a : Exc B H H1) (b : Exc B H1 H2) : Exc B H H2 := fun x o n h => b x o n (a x o n h)
theorem Exc.of {B : Addr → Prop} {H H1 : Hp} (a : Ex H H1) : Exc B H H1 := fun x o _ h => a x o h
theorem Exc.ex {H H1 : Hp} (a : Exc (fun _ => False) H H1) : Ex H H1 := fun x o h => a x o (fun z => z) h
theorem Exc.then {B : Addr → Prop} {H H1 H2 : Hp} (a : Exc B H H1) (b : Ex H1 H2) : Exc B H H2 := a.trans (.of b)
theorem Exc.mono {B B' : Addr → Prop} {H H1 : Hp} (a : Exc B H H1) (h : ∀ b, B b → B' b) : Exc B' H H1 := fun x o n e => a x o (fun z => n (h x z)) e
theorem Exc.upd {B : Addr → Prop} {H H1 : Hp} {p : Addr} {o : HO} (a : Exc B H H1) (h : B p ∨ H p = none) : Exc B H (upd H1 p o) := fun x u n e => by
  have hx : x ≠ p := by
    rintro rfl
    rcases h with h | h
    · exact n h
    · rw [h] at e; cases e
  rw [upd_ne hx]
  exact a x u n e
theorem Exc.l {B : Addr → Prop} {K : PySem.W.Frag} {H H1 : Hp} {p : Addr} {xs : List V} (a : Exc B H H1) (n : ¬ B p) (h : SqL K H p xs) : SqL K H1 p xs := by
  rcases h with (h | ⟨o, h⟩) | h
  · exact .inl (.inl (a _ _ n h))
  · exact .inl (.inr ⟨o, a _ _ n h⟩)
  · exact .inr h
theorem Exc.tp {B : Addr → Prop} {K : PySem.W.Frag} {H H1 : Hp} {p : Addr} {xs : List V} (a : Exc B H H1) (n : ¬ B p) (h : SqT K H p xs) : SqT K H1 p xs := by
  rcases h with (h | ⟨o, h⟩) | h
  · exact .inl (.inl (a _ _ n h))
  · exact .inl (.inr ⟨o, a _ _ n h⟩)
  · exact .inr h
theorem Exc.fresh {B : Addr → Prop} {H H1 : Hp} {p : Addr} (a : Exc B H H1) (n : ¬ B p) (h : H1 p = none) : H p = none := by
  cases e : H p with
  | none => rfl
  | some o => rw [a _ _ n e] at h; cases h

/-! ### what is walked: the values, one by one -/
/-- wi gives n values; the i-th is such that P i of it and the heap holds; own: what must stand meanwhile -/
def Src (wi : TI) (σ : L2.St) (H : Hp) (n : Nat) (own : Addr → Prop) (P : Nat → V → Hp → Prop) : Prop :=
  ∀ H1, Ex H H1 → ∀ R : It → Hp → Prop, (∀ J H2 S, Ex H1 H2 → Walk J n S (fun i Ha v Hb => Ex Ha Hb ∧ P i v Hb) → (∀ (B : Addr → Prop) Ha, (∀ b, B b → H b ≠ none ∧ ¬ own b) → Exc B H2 Ha → S Ha) → R J H2) → wi σ H1 R
theorem src_list {a : Addr} {xs : List V} {tl : TE} (h : Ev tl σ H (.ref a)) (hs : SqL K H a xs) : Src (iList K tl) σ H xs.length (fun b => b = a) (fun i v _ => xs[i]? = some v) := fun H1 e R q =>
  h H1 e _ fun H2 e2 => ⟨a, rfl, ⟨xs, ex_l (e.trans e2) hs⟩, q _ H2 _ e2 (walk_list.mono (fun _ z => z) fun i Ha v Hb _ _ hy => by
    obtain ⟨rfl, hy⟩ := hy
    exact ⟨Ex.refl _, hy⟩) fun B Ha hB ea => ea.l (fun z => (hB a z).2 rfl) (ex_l (e.trans e2) hs)⟩
theorem src_listM {α : Type} {f : α → V} {a : Addr} {xs : List α} {tl : TE} (h : Ev tl σ H (.ref a)) (hs : SqL K H a (xs.map f)) : Src (iList K tl) σ H xs.length (fun b => b = a) (fun i v _ => (xs.map f)[i]? = some v) := by
  have h1 := src_list h hs
  rw [List.length_map] at h1
  exact h1
/-- over a new list -/
theorem src_newL {xs : List V} {tl : TE} (h : EvL tl σ H xs) : Src (iList K tl) σ H xs.length (fun _ => False) (fun i v _ => xs[i]? = some v) := fun H1 e R q =>
  h H1 e _ fun a H2 ha e2 h2 => ⟨a, rfl, ⟨xs, sq_of h2⟩, q _ H2 _ e2 (walk_list.mono (fun _ z => z) fun i Ha v Hb _ _ hy => by
    obtain ⟨rfl, hy⟩ := hy
    exact ⟨Ex.refl _, hy⟩) fun B Ha hB ea => ea.l (fun z => (hB a z).1 (fresh_back e ha)) (sq_of h2)⟩
theorem src_newLM {α : Type} {f : α → V} {xs : List α} {tl : TE} (h : EvL tl σ H (xs.map f)) : Src (iList K tl) σ H xs.length (fun _ => False) (fun i v _ => (xs.map f)[i]? = some v) := by
  have h1 := src_newL (K := K) h
  rw [List.length_map] at h1
  exact h1
theorem src_tup {a : Addr} {xs : List V} {tl : TE} (h : Ev tl σ H (.ref a)) (hs : SqT K H a xs) : Src (iTup K tl) σ H xs.length (fun b => b = a) (fun i v _ => xs[i]? = some v) := fun H1 e R q =>
  h H1 e _ fun H2 e2 => ⟨a, rfl, ⟨xs, ex_t (e.trans e2) hs⟩, q _ H2 _ e2 (walk_tup.mono (fun _ z => z) fun i Ha v Hb _ _ hy => by
    obtain ⟨rfl, hy⟩ := hy
    exact ⟨Ex.refl _, hy⟩) fun B Ha hB ea => ea.tp (fun z => (hB a z).2 rfl) (ex_t (e.trans e2) hs)⟩
theorem src_tupM {α : Type} {f : α → V} {a : Addr} {xs : List α} {tl : TE} (h : Ev tl σ H (.ref a)) (hs : SqT K H a (xs.map f)) : Src (iTup K tl) σ H xs.length (fun b => b = a) (fun i v _ => (xs.map f)[i]? = some v) := by
  have h1 := src_tup h hs
  rw [List.length_map] at h1
  exact h1
theorem src_str {a : Tx} {tl : TE} (h : Ev tl σ H (T a)) : Src (iStr tl) σ H a.length (fun _ => False) (fun i v _ => (a.map fun c => T [c])[i]? = some v) := fun H1 e R q =>
  h H1 e _ fun H2 e2 => ⟨_, rfl, q _ H2 (fun _ => True) e2 (by
    have w := (walk_str (z := SX.S a)).mono (fun _ z => z) (Y' := fun i Ha v Hb => Ex Ha Hb ∧ (a.map fun c => T [c])[i]? = some v) (fun i Ha v Hb _ _ hy => by
      obtain ⟨rfl, c, hc, rfl⟩ := hy
      refine ⟨Ex.refl _, ?_⟩
      have hc' : a[i]? = some c := by
        have : (a.toArray)[i]? = some c := hc
        simpa using this
      rw [List.getElem?_map, hc']
      rfl)
    have e3 : (SX.S a).cps.size = a.length := S_length a
    rw [e3] at w
    exact w) fun _ _ _ _ => True.intro⟩
theorem src_range1 {tq : TA} {n : Nat} (h : EvA tq σ H [.int (n : Int)]) (hn : n ≤ 1000000000) : Src (iRng1 tq) σ H n (fun _ => False) (fun i v _ => v = .int (i : Int)) := fun H1 e R q =>
  h H1 e _ fun H2 e2 => ⟨_, rfl, by omega, by omega, by
    have w := (walk_range (lo := 0) (n := n)).mono (fun _ z => z) (Y' := fun i Ha v Hb => Ex Ha Hb ∧ v = .int (i : Int)) (fun i Ha v Hb _ _ hy => by
      obtain ⟨rfl, rfl⟩ := hy
      exact ⟨Ex.refl _, by show V.int (0 + (i : Int)) = V.int (i : Int); rw [Int.zero_add]⟩)
    exact q _ H2 _ e2 w fun _ _ _ _ => True.intro⟩
theorem src_range2 {tq : TA} {lo hi : Int} {n : Nat} (h : EvA tq σ H [.int lo, .int hi]) (h0 : -1000000000 ≤ lo) (h1 : lo ≤ 1000000000) (h2 : -1000000000 ≤ hi) (h3 : hi ≤ 1000000000) (hn : n = (hi - lo).toNat) : Src (iRng2 tq) σ H n (fun _ => False) (fun i v _ => v = .int (lo + (i : Int))) := fun H1 e R q =>
  h H1 e _ fun H2 e2 => ⟨lo, hi, rfl, ⟨by omega, by omega, by omega, by omega⟩, by
    subst hn
    have w := (walk_range (lo := lo) (n := (hi - lo).toNat)).mono (fun _ z => z) (Y' := fun i Ha v Hb => Ex Ha Hb ∧ v = .int (lo + (i : Int))) (fun i Ha v Hb _ _ hy => by
      obtain ⟨rfl, rfl⟩ := hy
      exact ⟨Ex.refl _, rfl⟩)
    exact q _ H2 _ e2 w fun _ _ _ _ => True.intro⟩
theorem src_enum {a : Addr} {xs : List V} {tl : TE} (h : Ev tl σ H (.ref a)) (hs : SqL K H a xs) : Src (iEnum K (tCons tl tNil)) σ H xs.length (fun b => b = a) (fun i v Hb => ∃ p x, v = .ref p ∧ xs[i]? = some x ∧ Hb p = some (.tup [.int (i : Nat), x])) := fun H1 e R q =>
  h H1 e _ fun H2 e2 => ⟨a, xs, rfl, ex_l (e.trans e2) hs, q _ H2 _ e2 (walk_enum.mono (fun _ z => z) fun i Ha v Hb _ _ hy => by
    obtain ⟨p, y, x, rfl, hn, rfl, h1, h2⟩ := hy
    refine ⟨Ex.new hn, p, x, rfl, h2, ?_⟩
    rw [← Option.some.inj h1]
    exact upd_same) fun B Ha hB ea => ea.l (fun z => (hB a z).2 rfl) (ex_l (e.trans e2) hs)⟩
theorem src_zip {a b : Addr} {xs ys : List V} {n : Nat} {tl tr : TE} (h : Ev tl σ H (.ref a)) (h2 : Ev tr σ H (.ref b)) (hs : SqL K H a xs) (hs2 : SqL K H b ys) (hn : n = min xs.length ys.length) :
    Src (iZip K (tCons tl (tCons tr tNil))) σ H n (fun c => c = a ∨ c = b) (fun i v Hb => ∃ p x y, v = .ref p ∧ xs[i]? = some x ∧ ys[i]? = some y ∧ Hb p = some (.tup [x, y])) := fun H1 e R q =>
  h H1 e _ fun H2 e2 => h2 H2 (e.trans e2) _ fun H3 e3 => ⟨a, b, xs, ys, rfl, ex_l ((e.trans e2).trans e3) hs, ex_l ((e.trans e2).trans e3) hs2, q _ H3 _ (e2.trans e3) ((walk_zip hn).mono (fun _ z => z) fun i Ha v Hb _ _ hy => by
    obtain ⟨p, x, y, rfl, hf, rfl, h1, h2⟩ := hy
    exact ⟨Ex.new hf, p, x, y, rfl, h1, h2, upd_same⟩) fun B Ha hB ea => ⟨ea.l (fun z => (hB a z).2 (.inl rfl)) (ex_l ((e.trans e2).trans e3) hs), ea.l (fun z => (hB b z).2 (.inr rfl)) (ex_l ((e.trans e2).trans e3) hs2)⟩⟩
theorem src_as {wi : TI} {n : Nat} {own : Addr → Prop} {P P' : Nat → V → Hp → Prop} (h : Src wi σ H n own P) (hp : ∀ i v H', i < n → P i v H' → P' i v H') : Src wi σ H n own P' := fun H1 e R q => h H1 e R fun J H2 S e2 w hS => q J H2 S e2 ⟨w.goes, w.stops, fun i Ha v Hb hi hg hy => ⟨(w.yields i Ha v Hb hi hg hy).1, hp i v Hb hi (w.yields i Ha v Hb hi hg hy).2⟩⟩ hS
theorem src_range1L {tq : TA} {n : Nat} (h : EvA tq σ H [.int (n : Int)]) (hn : n ≤ 1000000000) : Src (iRng1 tq) σ H (List.range n).length (fun _ => False) (fun i v _ => ((List.range n).map fun (i : Nat) => V.int (i : Int))[i]? = some v) := by
  have h1 := src_as (P' := fun i v _ => ((List.range n).map fun (i : Nat) => V.int (i : Int))[i]? = some v) (src_range1 h hn) fun i v _ hi hp => by
    subst hp
    show ((List.range n).map fun (i : Nat) => V.int (i : Int))[i]? = _
    rw [List.getElem?_map, List.getElem?_range hi]
    rfl
  have e : (List.range n).length = n := List.length_range
  rw [e]
  exact h1
theorem src_range2L {tq : TA} {lo hi : Int} {n : Nat} (h : EvA tq σ H [.int lo, .int hi]) (h0 : -1000000000 ≤ lo) (h1 : lo ≤ 1000000000) (h2 : -1000000000 ≤ hi) (h3 : hi ≤ 1000000000) (hn : n = (hi - lo).toNat) : Src (iRng2 tq) σ H (List.range n).length (fun _ => False) (fun i v _ => ((List.range n).map fun (i : Nat) => V.int (lo + (i : Int)))[i]? = some v) := by
  have h1 := src_as (P' := fun i v _ => ((List.range n).map fun (i : Nat) => V.int (lo + (i : Int)))[i]? = some v) (src_range2 h h0 h1 h2 h3 hn) fun i v _ hi hp => by
    subst hp
    show ((List.range n).map fun (i : Nat) => V.int (lo + (i : Int)))[i]? = _
    rw [List.getElem?_map, List.getElem?_range hi]
    rfl
  have e : (List.range n).length = n := List.length_range
  rw [e]
  exact h1

/-! ### comprehensions over such -/
/-- the target a name -/
theorem el_lcW {wi : TI} {j : Nat} {vs : List Nat} {n : Nat} {own : Addr → Prop} {P : Nat → V → Hp → Prop} (f : Nat → Bool) (v : Nat → V) (hs : Src wi σ H n own P) (hn : n ≤ 40000) (hw : ∀ x, wipe ((wipe σ vs).set j (some x)) vs = wipe σ vs)
    (ht : ∀ (i : Nat) (x : V) H1, Ex H H1 → i < n → P i x H1 → EvT t ((wipe σ vs).set j (some x)) H1 (f i)) (he : ∀ (i : Nat) (x : V) H1, Ex H H1 → i < n → P i x H1 → f i = true → Ev te ((wipe σ vs).set j (some x)) H1 (v i)) :
    EvL (tLc wi (gName j) t te vs) σ H (given n f v) := fun H0 e Q q => hs H0 e _ fun J H1 S e1 w hS => fun Dl hD =>
  lc_it w (Qd := fun H3 => Q (.ref Dl) H3) (Cw H1 f v Dl) ⟨hD, Ex.new hD, upd_same⟩ (fun i Hi _ p => hS (fun _ => False) Hi (fun _ z => z.elim) (.of p.2.1)) (fun i x Hi Hj hi p hy => by
    obtain ⟨ey, hP⟩ := hy
    have p' : Cw H1 f v Dl i Hj := ⟨p.1, p.2.1.trans ey, ey _ _ p.2.2⟩
    have eAll : Ex H Hj := (e.trans e1).trans p'.2.1
    refine ⟨hw x, ?_⟩
    have p2 : Cw H1 f v Dl i Hj := p'
    obtain ⟨p1, p3, p4⟩ := p2
    refine ht i x Hj eAll hi hP Hj (Ex.refl _) _ fun H3 e3 => ?_
    cases hf : f i with
    | true =>
      show te _ H3 fun y H4 => ∃ acc, H4 Dl = some (.lst acc) ∧ acc.length < sizeLine ∧ Cw H1 f v Dl (i + 1) (upd H4 Dl (.lst (acc ++ [y])))
      refine he i x Hj eAll hi hP hf H3 e3 _ fun H4 e4 => ⟨given i f v, e4 Dl _ (e3 Dl _ p4), sz_lt (by have := given_len i f v; omega), p1, Ex.mut ((p3.trans e3).trans e4) p1, ?_⟩
      rw [given_yes hf]
      exact upd_same
    | false =>
      show Cw H1 f v Dl (i + 1) H3
      refine ⟨p1, p3.trans e3, ?_⟩
      rw [given_no hf]
      exact e3 Dl _ p4) (fun H3 p => q Dl H3 (fresh_back e1 p.1) (e1.trans p.2.1) p.2.2)
theorem given_map {α : Type} (xs : List α) (p : α → Bool) (g : α → V) (f : Nat → Bool) (v : Nat → V) (hf : ∀ i a, xs[i]? = some a → f i = p a) (hv : ∀ i a, xs[i]? = some a → v i = g a) : given xs.length f v = (xs.filter p).map g := by
  have key : ∀ n, n ≤ xs.length → given n f v = ((xs.take n).filter p).map g := fun n => by
    induction n with
    | zero => intro _; rfl
    | succ n ih =>
      intro hn
      have ha : xs[n]? = some xs[n] := List.getElem?_eq_getElem (by omega)
      rw [List.take_add_one, ha, List.filter_append, List.map_append, ← ih (by omega)]
      cases hp : p xs[n] with
      | true =>
        rw [given_yes ((hf n _ ha).trans hp), hv n _ ha]
        simp [hp]
      | false =>
        rw [given_no ((hf n _ ha).trans hp)]
        simp [hp]
  have := key xs.length (Nat.le_refl _)
  rw [List.take_length] at this
  exact this
/-- over values that stand for xs, one by one; the target a name -/
theorem el_lcX {α : Type} {wi : TI} {j : Nat} {vs : List Nat} {n : Nat} {own : Addr → Prop} {P : Nat → V → Hp → Prop} {g : α → V} {p : α → Bool} (xs : List α) (R : α → V → Hp → Prop) (hs : Src wi σ H n own P) (hn : n ≤ 40000) (hw : ∀ x, wipe ((wipe σ vs).set j (some x)) vs = wipe σ vs)
    (hx : xs.length = n) (hP : ∀ i x H1, P i x H1 → ∃ a, xs[i]? = some a ∧ R a x H1)
    (ht : ∀ (a : α) (x : V) H1, Ex H H1 → a ∈ xs → R a x H1 → EvT t ((wipe σ vs).set j (some x)) H1 (p a)) (he : ∀ (a : α) (x : V) H1, Ex H H1 → a ∈ xs → R a x H1 → p a = true → Ev te ((wipe σ vs).set j (some x)) H1 (g a)) :
    EvL (tLc wi (gName j) t te vs) σ H ((xs.filter p).map g) := by
  subst hx
  have h0 := el_lcW (te := te) (t := t) (fun i => match xs[i]? with | some a => p a | none => false) (fun i => match xs[i]? with | some a => g a | none => .non) hs hn hw
    (fun i x H1 e hi hp => by
      obtain ⟨a, ha, hr⟩ := hP i x H1 hp
      simp only [ha]
      exact ht a x H1 e (List.mem_of_getElem? ha) hr)
    (fun i x H1 e hi hp hf => by
      obtain ⟨a, ha, hr⟩ := hP i x H1 hp
      simp only [ha] at hf ⊢
      exact he a x H1 e (List.mem_of_getElem? ha) hr hf)
  rw [given_map xs p g _ _ (fun i a ha => by simp only [ha]) (fun i a ha => by simp only [ha])] at h0
  exact h0
theorem et_yes : EvT tYes σ H true := fun H1 _ _ q => q H1 (Ex.refl H1)
theorem at_map {α : Type} {xs : List α} {f : α → V} {i : Nat} {x : V} (h : (xs.map f)[i]? = some x) : ∃ a, xs[i]? = some a ∧ x = f a := by
  rw [List.getElem?_map] at h
  cases e : xs[i]? with
  | none => rw [e] at h; cases h
  | some a => rw [e] at h; exact ⟨a, rfl, (Option.some.inj h).symm⟩
/-- over a list of values f a; no test -/
theorem el_lcM {α : Type} {wi : TI} {j : Nat} {vs : List Nat} {own : Addr → Prop} {f g : α → V} (xs : List α) (hs : Src wi σ H xs.length own (fun i v _ => (xs.map f)[i]? = some v)) (hn : xs.length ≤ 40000) (hw : ∀ x, wipe ((wipe σ vs).set j (some x)) vs = wipe σ vs)
    (he : ∀ (a : α) H1, Ex H H1 → a ∈ xs → Ev te ((wipe σ vs).set j (some (f a))) H1 (g a)) : EvL (tLc wi (gName j) tYes te vs) σ H (xs.map g) := by
  have h := el_lcX (te := te) (t := tYes) (p := fun _ => true) (g := g) xs (fun a x _ => x = f a) hs hn hw rfl (fun i x _ hp => at_map hp) (fun _ _ _ _ _ _ => et_yes) (fun a x H1 e hm hr _ => by rw [hr]; exact he a H1 e hm)
  rw [List.filter_eq_self.mpr (fun _ _ => rfl)] at h
  exact h
/-- .. with a test -/
theorem el_lcF {α : Type} {wi : TI} {j : Nat} {vs : List Nat} {own : Addr → Prop} {f g : α → V} {p : α → Bool} (xs : List α) (hs : Src wi σ H xs.length own (fun i v _ => (xs.map f)[i]? = some v)) (hn : xs.length ≤ 40000) (hw : ∀ x, wipe ((wipe σ vs).set j (some x)) vs = wipe σ vs)
    (ht : ∀ (a : α) H1, Ex H H1 → a ∈ xs → EvT t ((wipe σ vs).set j (some (f a))) H1 (p a)) (he : ∀ (a : α) H1, Ex H H1 → a ∈ xs → p a = true → Ev te ((wipe σ vs).set j (some (f a))) H1 (g a)) : EvL (tLc wi (gName j) t te vs) σ H ((xs.filter p).map g) :=
  el_lcX (te := te) (t := t) xs (fun a x _ => x = f a) hs hn hw rfl (fun i x _ hp => at_map hp) (fun a x H1 e hm hr => by rw [hr]; exact ht a H1 e hm) (fun a x H1 e hm hr hf => by rw [hr]; exact he a H1 e hm hf)

/-! ### for loops over such; B: what the turns may change; the word speaks of the heap Hs at the loop's start -/
variable {D : Ends} {tu tz : TS}
theorem s_forW {wi : TI} {g : TG} {n : Nat} {own : Addr → Prop} {P : Nat → V → Hp → Prop} (B : Addr → Prop) (hs : Src wi σ H n own P) (hB : ∀ b, B b → H b ≠ none ∧ ¬ own b) (Pv : Hp → Nat → L2.St → Hp → Prop)
    (h0 : ∀ Hs, Ex H Hs → Pv Hs 0 σ Hs) (hE : ∀ Hs i σ' H', Pv Hs i σ' H' → Exc B Hs H') (hst : ∀ Hs i σ' Ha Hb, Pv Hs i σ' Ha → Ex Ha Hb → Pv Hs i σ' Hb)
    (hb : ∀ Hs i x σ' H', Ex H Hs → i < n → Pv Hs i σ' H' → P i x H' → g x σ' H' fun σ2 H2 => tu { D with nx := Pv Hs (i + 1), ct := Pv Hs (i + 1), bk := D.nx } σ2 H2) (hd : ∀ Hs σ' H', Ex H Hs → Pv Hs n σ' H' → D.nx σ' H') : tFor wi g tu D σ H :=
  hs H (Ex.refl H) _ fun J Hs S e w hS => for_it w (Pv Hs) (h0 Hs e) (fun i σ' H' _ p => hS B H' hB (hE Hs i σ' H' p)) (fun i x σ' Ha Hb hi p hy => hb Hs i x σ' Hb e hi (hst Hs i σ' Ha Hb p hy.1) hy.2) (fun σ' H' p => hd Hs σ' H' e p)
theorem q_forW {wi : TI} {g : TG} {n : Nat} {own : Addr → Prop} {P : Nat → V → Hp → Prop} (B : Addr → Prop) (hs : Src wi σ H n own P) (hB : ∀ b, B b → H b ≠ none ∧ ¬ own b) (Pv : Hp → Nat → L2.St → Hp → Prop)
    (h0 : ∀ Hs, Ex H Hs → Pv Hs 0 σ Hs) (hE : ∀ Hs i σ' H', Pv Hs i σ' H' → Exc B Hs H') (hst : ∀ Hs i σ' Ha Hb, Pv Hs i σ' Ha → Ex Ha Hb → Pv Hs i σ' Hb)
    (hb : ∀ Hs i x σ' H', Ex H Hs → i < n → Pv Hs i σ' H' → P i x H' → g x σ' H' fun σ2 H2 => tu { D with nx := Pv Hs (i + 1), ct := Pv Hs (i + 1), bk := tz D } σ2 H2) (hd : ∀ Hs σ' H', Ex H Hs → Pv Hs n σ' H' → tz D σ' H') : tSeq (tFor wi g tu) tz D σ H :=
  s_forW (D := { D with nx := tz D }) B hs hB Pv h0 hE hst hb hd
end
end Wc
set_option Elab.async false
set_option linter.all false
set_option maxRecDepth 100000
set_option maxHeartbeats 2000000
/-! loops that search, calls of promises -/
namespace Wc
open PySem PySem.Spec PyProof.Rows L2 Evl
section
variable {K : PySem.W.Frag} {σ : L2.St} {H H' : Hp} {ta tb te : TE} {t : TT} {x y z v : V} {D : Ends} {tu tr tz : TS}
theorem set_self {σ : L2.St} {j : Nat} (hj : j < σ.length) : ∃ y, σ = σ.set j y := ⟨σ[j], by simp⟩
/-- for x in ..: if t: return .. -/
theorem q_search {wi : TI} {j : Nat} {n : Nat} {own : Addr → Prop} {P : Nat → V → Hp → Prop} (hs : Src wi σ H n own P) (hj : j < σ.length) (f : Nat → Bool)
    (ht : ∀ i x H1, Ex H H1 → i < n → P i x H1 → (∀ k, k < i → f k = false) → EvT t (σ.set j (some x)) H1 (f i))
    (hr : ∀ i x H1 H2, Ex H H1 → i < n → P i x H1 → Ex H1 H2 → (∀ k, k < i → f k = false) → f i = true → ∀ D' : Ends, D'.rt = D.rt → tr D' (σ.set j (some x)) H2)
    (hd : ∀ y H1, Ex H H1 → (∀ i, i < n → f i = false) → tz D (σ.set j y) H1) : tSeq (tFor wi (gName j) (tIfS t tr tNext)) tz D σ H := by
  refine q_forW (fun _ => False) hs (fun _ z => z.elim) (fun Hs i σ' H' => (∃ y, σ' = σ.set j y) ∧ Ex Hs H' ∧ ∀ k, k < i → f k = false) ?_ ?_ ?_ ?_ ?_
  · intro Hs e
    exact ⟨set_self hj, Ex.refl _, fun k hk => absurd hk (Nat.not_lt_zero _)⟩
  · intro Hs i σ' H' p
    exact .of p.2.1
  · intro Hs i σ' Ha Hb p e
    exact ⟨p.1, p.2.1.trans e, p.2.2⟩
  · rintro Hs i x σ' H' e hi ⟨⟨y, rfl⟩, e2, hk⟩ hP
    have eA : Ex H H' := e.trans e2
    show tIfS t tr tNext _ ((σ.set j y).set j (some x)) H'
    rw [List.set_set]
    refine s_when (ht i x H' eA hi hP hk) (fun hb H1 e1 => ?_) (fun hb H1 e1 => ?_)
    · exact hr i x H' H1 eA hi hP e1 hk hb _ rfl
    · exact ⟨⟨_, rfl⟩, e2.trans e1, fun k hk' => by
        rcases Nat.lt_succ_iff_lt_or_eq.mp hk' with h | h
        · exact hk k h
        · rw [h]; exact hb⟩
  · rintro Hs σ' H' e ⟨⟨y, rfl⟩, e2, hk⟩
    exact hd y H' (e.trans e2) hk
theorem rc_allM {α : Type} {p : Addr} {xs : List α} {f : α → Bool} (h : SqL K H p (xs.map fun a => V.bl (f a))) : RC (rAll K) [.ref p] H (.bl (xs.all f)) := by
  have h2 : SqL K H p ((xs.map f).map V.bl) := by
    rw [List.map_map]
    exact h
  have e := rc_all h2
  rw [List.all_map] at e
  exact e
theorem rc_anyM {α : Type} {p : Addr} {xs : List α} {f : α → Bool} (h : SqL K H p (xs.map fun a => V.bl (f a))) : RC (rAny K) [.ref p] H (.bl (xs.any f)) := by
  have h2 : SqL K H p ((xs.map f).map V.bl) := by
    rw [List.map_map]
    exact h
  have e := rc_any h2
  rw [List.any_map] at e
  exact e
theorem rc_sumM {α : Type} {p : Addr} {xs : List α} {f : α → Int} (h : SqL K H p (xs.map fun a => V.int (f a))) : RC (rSum K) [.ref p] H (.int (xs.map f).sum) := by
  have h2 : SqL K H p ((xs.map f).map V.int) := by
    rw [List.map_map]
    exact h
  exact rc_sum h2
theorem divW {i j : Int} (h : 0 < j) (h1 : j ≤ 1000000000) : CDivW i j := wide_div (b := 31) h (by omega) (by decide) (by decide)
theorem et_andI {u : TT} {a b : Bool} (h1 : EvT t σ H a) (h2 : a = true → EvT u σ H b) : EvT (tAnd t u) σ H (a && b) := et_and h1 h2
/-- and: what stands behind is asked only where the first holds -/
theorem et_andG {u : TT} {a : Bool} {b : Bool} (h1 : EvT t σ H a) (h2 : a = true → EvT u σ H b) (h3 : a = false → b = false) : EvT (tAnd t u) σ H b := by
  have h := et_and h1 h2
  cases a with
  | true => exact h
  | false =>
    rw [h3 rfl] at h ⊢
    exact h
/-- a slice of a new list -/
theorem el_slN {xs : List V} {tl th : TO} {lo hi : Option Int} (h : EvL te σ H xs) (h1 : EvO tl σ H lo) (h2 : EvO th σ H hi) : EvL (tSl (rSlL K) te tl th) σ H (cutV xs lo hi) := fun H1 e _ q =>
  h H1 e _ fun a H2 ha e2 hx => h1 H2 (e.trans e2) _ fun H3 e3 => h2 H3 ((e.trans e2).trans e3) _ fun H4 e4 =>
    ⟨a, xs, rfl, ex_l (e3.trans e4) (sq_of hx), fun p hp => q p _ (fresh_back ((e2.trans e3).trans e4) hp) (((e2.trans e3).trans e4).trans (Ex.new hp)) upd_same⟩
theorem cutV_to (xs : List V) (n : Nat) : cutV xs none (some (n : Int)) = xs.take n := by
  unfold cutV
  rw [HT.sIx_none, HT.sIx_nat, List.drop_zero, Nat.sub_zero]
  by_cases h : n ≤ xs.length
  · rw [Nat.min_eq_left h]
  · rw [Nat.min_eq_right (by omega), List.take_of_length_le (Nat.le_refl _), List.take_of_length_le (by omega)]
theorem cutV_from (xs : List V) (n : Nat) : cutV xs (some (n : Int)) none = xs.drop n := by
  unfold cutV
  rw [HT.sIx_none, HT.sIx_nat]
  by_cases h : n ≤ xs.length
  · rw [Nat.min_eq_left h]
    exact List.take_of_length_le (by rw [List.length_drop]; exact Nat.le_refl _)
  · rw [Nat.min_eq_right (by omega), List.drop_eq_nil_of_le (Nat.le_refl _), List.drop_eq_nil_of_le (by omega), List.take_nil]
/-- xs.extend(ys), ys a new list -/
theorem s_ext {l : Addr} {xs ys : List V} (hl : H l = some (.lst xs)) (ha : Ev ta σ H (.ref l)) (h : EvL te σ H ys) (hz : xs.length + ys.length ≤ 1000000) (k : ∀ H1, Ex H H1 → D.nx σ (upd H1 l (.lst (xs ++ ys)))) :
    tDrop (tBM K "list" rExtend ta (tCons te tNil)) D σ H := ha H (Ex.refl H) _ fun H1 e1 =>
  ⟨Or.inl ⟨rfl, xs, sq_of (e1 l _ hl)⟩, h H1 e1 _ fun p H2 hp e2 h2 => ⟨l, p, xs, ys, rfl, rfl, e2 l _ (e1 l _ hl), h2, Nat.le_trans hz (by decide), k H2 (e1.trans e2)⟩⟩
/-- return f(..), x = f(..), whatever f hands back -/
theorem s_retC {sp : Sp} {dvs vs : List V} {E : XK} {tq : TA} (h : EvA tq σ H vs) (k : ∀ H1, Ex H H1 → sp (vs ++ dvs) H1 D.rt E) : tRet (tCall sp dvs E tq) D σ H := h H (Ex.refl H) _ fun H1 e1 => k H1 e1
theorem q_asgC {i : Nat} {sp : Sp} {dvs vs : List V} {E : XK} {tq : TA} (h : EvA tq σ H vs) (k : ∀ H1, Ex H H1 → sp (vs ++ dvs) H1 (fun v H2 => tz D (σ.set i (some v)) H2) E) : tSeq (tAsg (tCall sp dvs E tq) (gName i)) tz D σ H := h H (Ex.refl H) _ fun H1 e1 => k H1 e1
/-- a promise that hands back a value | a new list | a new tuple, all else kept -/
def RetU (xs : List V) (H : Hp) (Q : VK) : Prop := ∀ p H2, H p = none → Ex H H2 → H2 p = some (.tup xs) → Q (.ref p) H2
theorem RetV.mono {v : V} {H H1 : Hp} {Q : VK} (k : RetV v H Q) (e : Ex H H1) : RetV v H1 Q := fun H2 e2 => k H2 (e.trans e2)
theorem RetL.mono {xs : List V} {H H1 : Hp} {Q : VK} (k : RetL xs H Q) (e : Ex H H1) : RetL xs H1 Q := fun p H2 hp e2 h2 => k p H2 (fresh_back e hp) (e.trans e2) h2
theorem RetU.mono {xs : List V} {H H1 : Hp} {Q : VK} (k : RetU xs H Q) (e : Ex H H1) : RetU xs H1 Q := fun p H2 hp e2 h2 => k p H2 (fresh_back e hp) (e.trans e2) h2
theorem RetV.is {v w : V} {H : Hp} {Q : VK} (k : RetV v H Q) (e : v = w) : RetV w H Q := e ▸ k
end
end Wc
set_option Elab.async false
set_option linter.all false
set_option maxRecDepth 100000
set_option maxHeartbeats 2000000
/-! the feed of draws: a list of three ints at fa; how often it has been stirred -/
namespace Wc
open PySem PySem.Spec PyProof.Rows L2 Evl
def capF : Nat := 1000000000000000000
/-- a feed that has been stirred n times at most -/
def Fd (fa : Addr) (n : Nat) (H : Hp) : Prop := ∃ (a b c : Int) (e : Nat), H fa = some (.lst [.int a, .int b, .int c]) ∧ 0 ≤ a ∧ 1 ≤ e ∧ e ≤ 2000000 ∧ a.natAbs < 2 ^ e ∧ 0 ≤ b ∧ b < 10 ^ 40 ∧ 0 ≤ c ∧ c ≤ (n : Int)
theorem Fd.mono {fa : Addr} {n m : Nat} {H : Hp} (h : Fd fa n H) (hm : n ≤ m) : Fd fa m H := by
  obtain ⟨a, b, c, e, h1, h2, h3, h4, h5, h6, h7, h8, h9⟩ := h
  exact ⟨a, b, c, e, h1, h2, h3, h4, h5, h6, h7, h8, by omega⟩
/-- so many draws may be made -/
def GF (fa : Addr) (B : Nat) (H : Hp) : Prop := ∃ n, n + B ≤ capF ∧ Fd fa n H
/-- at most m draws behind: all else stands -/
structure Rf (fa : Addr) (m : Nat) (H H' : Hp) : Prop where
  keep : Exc (fun c => c = fa) H H'
  feed : ∀ n, n + m ≤ capF → Fd fa n H → Fd fa (n + m) H'
section
variable {K : PySem.W.Frag} {fa p : Addr} {m m' B : Nat} {H H1 H2 : Hp} {o : HO} {xs : List V}
theorem Fd.is (h : Fd fa m H) : H fa ≠ none := by
  obtain ⟨a, b, c, e, h1, _⟩ := h
  rw [h1]
  exact fun z => nomatch z
theorem GF.is (h : GF fa B H) : H fa ≠ none := by
  obtain ⟨n, _, h⟩ := h
  exact h.is
theorem GF.new (h : GF fa B H) (hp : H p = none) : p ≠ fa := fun z => h.is (z ▸ hp)
theorem GF.ofTup (h : GF fa B H) (hp : H p = Option.some (HO.tup xs)) : p ≠ fa := by
  rintro rfl
  obtain ⟨n, _, a, b, c, e, h1, _⟩ := h
  rw [hp] at h1
  cases h1
theorem Rf.refl (H : Hp) : Rf fa 0 H H := ⟨Exc.refl _, fun _ _ h => h⟩
theorem Rf.of_ex (e : Ex H H1) : Rf fa 0 H H1 := ⟨.of e, fun n _ h => by
  obtain ⟨a, b, c, e', h1, h2⟩ := h
  exact ⟨a, b, c, e', e _ _ h1, h2⟩⟩
theorem Rf.trans (a : Rf fa m H H1) (b : Rf fa m' H1 H2) : Rf fa (m + m') H H2 := ⟨a.keep.trans b.keep, fun n hn h => by
  have h1 := b.feed (n + m) (by omega) (a.feed n (by omega) h)
  rw [← Nat.add_assoc]
  exact h1⟩
theorem Rf.mono (a : Rf fa m H H1) (h : m ≤ m') : Rf fa m' H H1 := ⟨a.keep, fun n hn hf => (a.feed n (by omega) hf).mono (by omega)⟩
theorem Rf.then (a : Rf fa m H H1) (e : Ex H1 H2) : Rf fa m H H2 := (a.trans (.of_ex e)).mono (Nat.le_refl _)
theorem Rf.pre (e : Ex H H1) (a : Rf fa m H1 H2) : Rf fa m H H2 := ((Rf.of_ex e).trans a).mono (by omega)
theorem Rf.upd (a : Rf fa m H H1) (h : H p = none) (hf : H fa ≠ none) : Rf fa m H (upd H1 p o) := by
  have hne : fa ≠ p := fun z => hf (z ▸ h)
  refine ⟨a.keep.upd (.inr h), fun n hn hF => ?_⟩
  obtain ⟨x, b, c, e', h1, h2⟩ := a.feed n hn hF
  exact ⟨x, b, c, e', by rw [upd_ne hne]; exact h1, h2⟩
theorem GF.go (g : GF fa B H) (a : Rf fa m H H1) (h : m + m' ≤ B) : GF fa m' H1 := by
  obtain ⟨n, hn, hf⟩ := g
  exact ⟨n + m, by omega, a.feed n (by omega) hf⟩
theorem GF.mono (g : GF fa B H) (h : m ≤ B) : GF fa m H := by
  obtain ⟨n, hn, hf⟩ := g
  exact ⟨n, by omega, hf⟩
theorem GF.ex (g : GF fa B H) (e : Ex H H1) : GF fa B H1 := g.go (Rf.of_ex e) (by omega)
theorem Rf.at_ (a : Rf fa m H H1) (h : H p = some o) (hp : p ≠ fa) : H1 p = some o := a.keep _ _ hp h
theorem Rf.l (a : Rf fa m H H1) (hp : p ≠ fa) (h : SqL K H p xs) : SqL K H1 p xs := a.keep.l hp h
theorem Rf.t (a : Rf fa m H H1) (hp : p ≠ fa) (h : SqT K H p xs) : SqT K H1 p xs := a.keep.tp hp h
theorem Rf.free (a : Rf fa m H H1) (g : H fa ≠ none) (h : H1 p = none) (g1 : H1 fa ≠ none) : H p = none := by
  refine a.keep.fresh ?_ h
  rintro rfl
  exact g1 h
end
/-! ### draw -/
def sp_draw : Sp := fun vs H Q _ => ∃ (fa : Addr) (many : Int), vs = [.ref fa, .int many] ∧ GF fa 1 H ∧ 0 < many ∧ many ≤ 10 ^ 61 ∧ ∀ (d : Nat) H', (d : Int) < many → Rf fa 1 H H' → Q (.int (d : Int)) H'
/-- one of a text's signs, of a list's or a tuple's items -/
def sp_one (K : PySem.W.Frag) : Sp := fun vs H Q _ => ∃ (fa : Addr), GF fa 1 H ∧
  ((∃ (s : Tx), vs = [.ref fa, T s] ∧ s ≠ [] ∧ s.length ≤ 16777216 ∧ ∀ c H', c ∈ s → Rf fa 1 H H' → Q (T [c]) H') ∨
   (∃ (p : Addr) (xs : List V), vs = [.ref fa, .ref p] ∧ (SqL K H p xs ∨ SqT K H p xs) ∧ p ≠ fa ∧ xs ≠ [] ∧ xs.length ≤ 16777216 ∧ ∀ v H', v ∈ xs → Rf fa 1 H H' → Q v H'))
/-- a text of at most so many signs of some -/
def sp_text : Sp := fun vs H Q _ => ∃ (fa : Addr) (s : Tx) (most : Nat), vs = [.ref fa, T s, .int (most : Int)] ∧ GF fa (most + 1) H ∧ most ≤ 30000 ∧ s ≠ [] ∧ s.length ≤ 16777216 ∧ ∀ (t : Tx) H', t.length ≤ most → (∀ c ∈ t, c ∈ s) → Rf fa (most + 1) H H' → Q (T t) H'
/-! ### things and draws in a comprehension; the element a value that is good -/
section
variable {K : PySem.W.Frag} {fa : Addr} {σ : L2.St} {H : Hp} {te : TE}
theorem lcD {wi : TI} {j : Nat} {vs : List Nat} {n : Nat} {own : Addr → Prop} {P : Nat → V → Hp → Prop} {Q : VK} (good : V → Prop) (c : Nat) (hf : H fa ≠ none) (hs : Src wi σ H n own P) (ho : ¬ own fa) (hn : n ≤ 40000) (hw : ∀ x, wipe ((wipe σ vs).set j (some x)) vs = wipe σ vs)
    (he : ∀ (i : Nat) (x : V) H1, i < n → P i x H1 → Rf fa (i * c) H H1 → ∀ Q' : VK, (∀ y H2, good y → Rf fa c H1 H2 → Q' y H2) → te ((wipe σ vs).set j (some x)) H1 Q')
    (k : ∀ p H2 acc, H p = none → Rf fa (n * c) H H2 → H2 p = some (.lst acc) → acc.length = n → (∀ v ∈ acc, good v) → Q (.ref p) H2) : tLc wi (gName j) tYes te vs σ H Q :=
  hs H (Ex.refl H) _ fun J H1 S e1 w hS => fun Dl hD => by
    have hDH : H Dl = none := fresh_back e1 hD
    have hne : Dl ≠ fa := fun z => hf (z ▸ hDH)
    have hf1 : H1 fa ≠ none := by
      cases hq : H fa with
      | none => exact absurd hq hf
      | some o => rw [e1 _ _ hq]; exact fun z => nomatch z
    refine lc_it w (Qd := fun H3 => Q (.ref Dl) H3) (fun i Hi => Rf fa (i * c) H1 Hi ∧ ∃ acc, Hi Dl = some (.lst acc) ∧ acc.length = i ∧ ∀ v ∈ acc, good v) ?_ (fun i Hi hi p => hS (fun b => b = fa) Hi (by rintro b rfl; exact ⟨hf, ho⟩) p.1.keep) ?_ ?_
    · refine ⟨?_, [], upd_same, rfl, fun v hv => nomatch hv⟩
      exact ((Rf.refl H1).upd hD hf1).mono (Nat.zero_le _)
    · rintro i x Ha Hb hi ⟨R, acc, h1, h2, h3⟩ ⟨ey, hP⟩
      refine ⟨hw x, ?_⟩
      show te ((wipe σ vs).set j (some x)) Hb fun y H4 => _
      have Rb : Rf fa (i * c) H1 Hb := R.then ey
      refine he i x Hb hi hP (Rf.pre e1 Rb) _ fun y H4 hy R4 => ?_
      have h4 : H4 Dl = some (.lst acc) := R4.at_ (ey _ _ h1) hne
      refine ⟨acc, h4, sz_lt (by omega), ?_, acc ++ [y], upd_same, by rw [List.length_append, h2]; rfl, fun v hv => ?_⟩
      · have := (Rb.trans R4).upd (p := Dl) (o := .lst (acc ++ [y])) hD hf1
        exact this.mono (by rw [Nat.succ_mul]; exact Nat.le_refl _)
      · rcases List.mem_append.mp hv with hv | hv
        · exact h3 v hv
        · rw [List.mem_singleton.mp hv]
          exact hy
    · rintro H3 ⟨R, acc, h1, h2, h3⟩
      exact k Dl H3 acc hDH (Rf.pre e1 R) h1 h2 h3
end
theorem ix_any {X : Cx} : IxR X (fun x y H Q => (L2.rIxL X.K x y H Q ∨ L2.rIxT X.K x y H Q) ∨ Wc.rIxT x y H Q) := (ix_list.or ix_tup).or ix_T
theorem cr_lenAny {X : Cx} : CallR X (.builtin "len") (fun xs H Q => rLenT xs H Q ∨ (∃ p ys, xs = [.ref p] ∧ (SqL X.K H p ys ∨ SqT X.K H p ys) ∧ Q (.int ys.length) H)) := CallR.or cr_lenT call_len_seq
theorem atI_mem {α : Type} {xs : List α} {d : Nat} (h : d < xs.length) : ∃ v, atI xs (d : Int) = some v ∧ v ∈ xs := ⟨xs[d], atI_nat (List.getElem?_eq_getElem h), List.getElem_mem h⟩
/-- a list of texts -/
theorem texts_of {acc : List V} {g : Tx → Prop} (h : ∀ v ∈ acc, ∃ t, v = T t ∧ g t) : ∃ ts : List Tx, acc = ts.map T ∧ ∀ t ∈ ts, g t := by
  induction acc with
  | nil => exact ⟨[], rfl, fun _ h => nomatch h⟩
  | cons v acc ih =>
    obtain ⟨t, rfl, ht⟩ := h v List.mem_cons_self
    obtain ⟨ts, rfl, hts⟩ := ih fun v hv => h v (List.mem_cons_of_mem _ hv)
    exact ⟨t :: ts, rfl, fun x hx => by
      rcases List.mem_cons.mp hx with rfl | hx
      · exact ht
      · exact hts x hx⟩
end Wc
set_option Elab.async false
set_option linter.all false
set_option maxRecDepth 100000
set_option maxHeartbeats 2000000
/-! data at any depth: texts, ints, lists, tuples -/
namespace Wc
open PySem PySem.Spec PyProof.Rows L2 Evl
/-- a text of low signs -/
def LowT (a : Tx) : Prop := ∀ c ∈ a, c < 1000
abbrev dT (a : Tx) : PyData := .str (SX.S a)
theorem lay_T {a : Tx} (h : LowT a) : (dT a).canLay0 = true := by
  show (SX.S a).cps.all (· < 0x110000) = true
  rw [← Array.all_toList, List.all_eq_true]
  intro c hc
  have := h c hc
  exact decide_eq_true (by omega)
theorem lay_all {α : Type} {g : α → PyData} : ∀ {xs : List α}, (∀ x ∈ xs, (g x).canLay0 = true) → PyData.canLayAll0 (xs.map g) = true
  | [], _ => rfl
  | x :: xs, h => by
    show ((g x).canLay0 && PyData.canLayAll0 (xs.map g)) = true
    rw [h x List.mem_cons_self, lay_all fun y hy => h y (List.mem_cons_of_mem _ hy)]
    rfl
theorem lay_list {α : Type} {g : α → PyData} {xs : List α} (h : ∀ x ∈ xs, (g x).canLay0 = true) : (PyData.list (xs.map g)).canLay0 = true := by
  show PyData.canLayAll0 _ = true
  exact lay_all h
theorem depth_all {α : Type} {g : α → PyData} {m : Nat} : ∀ {xs : List α}, (∀ x ∈ xs, (g x).depth ≤ m) → PyData.depthAll (xs.map g) ≤ m
  | [], _ => Nat.zero_le _
  | x :: xs, h => Nat.max_le.mpr ⟨h x List.mem_cons_self, depth_all fun y hy => h y (List.mem_cons_of_mem _ hy)⟩
theorem shaped_of {d : PyData} (h : d.canLay0 = true) (hd : d.depth ≤ 64) : SeqAt.shaped d = true := by
  unfold SeqAt.shaped
  rw [h, decide_eq_true hd]
  rfl
theorem shaped_list {α : Type} {g : α → PyData} {xs : List α} {m : Nat} (h : ∀ x ∈ xs, (g x).canLay0 = true) (hd : ∀ x ∈ xs, (g x).depth ≤ m) (hm : m + 1 ≤ 64) : SeqAt.shaped (.list (xs.map g)) = true :=
  shaped_of (lay_list h) (by
    show PyData.depthAll _ + 1 ≤ 64
    have := depth_all hd
    omega)
theorem dp_all {α : Type} {K : PySem.W.Frag} {H : Hp} {f : α → V} {g : α → PyData} : ∀ {xs : List α}, (∀ x ∈ xs, Dp K H (f x) (g x)) → DpAll K H (xs.map f) (xs.map g)
  | [], _ => .nil
  | x :: xs, h => .cons (h x List.mem_cons_self) (dp_all fun y hy => h y (List.mem_cons_of_mem _ hy))
theorem dp_list {α : Type} {K : PySem.W.Frag} {H : Hp} {f : α → V} {g : α → PyData} {xs : List α} {p : Addr} (hp : SqL K H p (xs.map f)) (h : ∀ x ∈ xs, Dp K H (f x) (g x)) : Dp K H (.ref p) (.list (xs.map g)) := .lst hp (dp_all h)
theorem eqv_list {α : Type} [DecidableEq α] {g : α → PyData} (h : ∀ x y, PyData.eqv (g x) (g y) = decide (x = y)) : ∀ (xs ys : List α), PyData.eqv (.list (xs.map g)) (.list (ys.map g)) = decide (xs = ys) := by
  intro xs ys
  show PyData.eqvAll _ _ = _
  induction xs generalizing ys with
  | nil => cases ys with
    | nil => rfl
    | cons y ys => rfl
  | cons x xs ih => cases ys with
    | nil => rfl
    | cons y ys =>
      show (PyData.eqv (g x) (g y) && PyData.eqvAll _ _) = _
      rw [h, ih]
      by_cases e : x = y
      · by_cases e2 : xs = ys
        · simp [e, e2]
        · simp [e, e2]
      · simp [e]
theorem eqv_T (a b : Tx) : PyData.eqv (dT a) (dT b) = decide (a = b) := by
  show (SX.S a == SX.S b) = _
  exact SX.S_beq_eq
theorem eqv_int (a b : Int) : PyData.eqv (.int a) (.int b) = decide (a = b) := by
  show (a == b) = _
  by_cases h : a = b
  · simp [h]
  · simp [h]
section
variable {K : PySem.W.Frag} {H : Hp} {x y : V} {d e : PyData}
theorem rv_eqD {b : Bool} (h : ∀ H1, Ex H H1 → Dp K H1 x d) (h2 : ∀ H1, Ex H H1 → Dp K H1 y e) (s1 : SeqAt.shaped d = true) (s2 : SeqAt.shaped e = true) (hb : PyData.eqv d e = b) : RV (rEqD K) x y H (.bl b) := fun H1 e1 _ q => ⟨d, e, h H1 e1, h2 H1 e1, s1, s2, by rw [hb]; exact q H1 (Ex.refl H1)⟩
theorem rv_neD {b : Bool} (h : ∀ H1, Ex H H1 → Dp K H1 x d) (h2 : ∀ H1, Ex H H1 → Dp K H1 y e) (s1 : SeqAt.shaped d = true) (s2 : SeqAt.shaped e = true) (hb : PyData.eqv d e = b) : RV (rNeD K) x y H (.bl (!b)) := fun H1 e1 _ q => ⟨d, e, h H1 e1, h2 H1 e1, s1, s2, by rw [hb]; exact q H1 (Ex.refl H1)⟩
mutual
theorem Dp.ex {H1 : Hp} (e : Ex H H1) : ∀ {v : V} {d : PyData}, Dp K H v d → Dp K H1 v d
  | _, _, .non => .non
  | _, _, .bl b => .bl b
  | _, _, .int i => .int i
  | _, _, .str x => .str x
  | _, _, .lst h a => .lst (ex_l e h) (DpAll.ex e a)
  | _, _, .tup h a => .tup (ex_t e h) (DpAll.ex e a)
theorem DpAll.ex {H1 : Hp} (e : Ex H H1) : ∀ {vs : List V} {ds : List PyData}, DpAll K H vs ds → DpAll K H1 vs ds
  | _, _, .nil => .nil
  | _, _, .cons h a => .cons (Dp.ex e h) (DpAll.ex e a)
end
end
/-- values that are ints or texts, none a truth -/
inductive FlatV : V → PyData → Prop
  | int (i : Int) : FlatV (.int i) (.int i)
  | str {a : Tx} (h : LowT a) : FlatV (T a) (dT a)
/-- a list of such -/
def sp_list_same (K : PySem.W.Frag) : Sp := fun vs H Q _ => ∃ (p q : Addr) (xs : List V), vs = [.ref p, .ref q] ∧ H p = some (.lst xs) ∧ SqL K H q xs ∧ (∀ v ∈ xs, ∃ d, FlatV v d) ∧ xs.length ≤ 30000 ∧ RetV (.bl true) H Q
theorem flat_data {K : PySem.W.Frag} {H : Hp} {xs : List V} (h : ∀ v ∈ xs, ∃ d, FlatV v d) : ∃ ds : List PyData, DpAll K H xs ds ∧ PyData.canLayAll0 ds = true ∧ PyData.depthAll ds ≤ 0 := by
  induction xs with
  | nil => exact ⟨[], .nil, rfl, Nat.le_refl _⟩
  | cons v xs ih =>
    obtain ⟨ds, h1, h2, h3⟩ := ih fun v hv => h v (List.mem_cons_of_mem _ hv)
    obtain ⟨d, hd⟩ := h v List.mem_cons_self
    cases hd with
    | int i => exact ⟨.int i :: ds, .cons (.int i) h1, by show (true && PyData.canLayAll0 ds) = true; rw [h2]; rfl, Nat.max_le.mpr ⟨Nat.le_refl _, h3⟩⟩
    | str ha => exact ⟨_ :: ds, .cons (.str _) h1, by show ((dT _).canLay0 && PyData.canLayAll0 ds) = true; rw [h2, lay_T ha]; rfl, Nat.max_le.mpr ⟨Nat.le_refl _, h3⟩⟩
end Wc
set_option Elab.async false
set_option linter.all false
set_option maxRecDepth 100000
set_option maxHeartbeats 2000000
/-! the rules that name the written part: with the part K given -/
namespace Wc
open PySem PySem.Spec PyProof.Rows L2 Evl
def rLenAny (K : PySem.W.Frag) : List V → Hp → VK → Prop := fun xs H Q => rLenT xs H Q ∨ (∃ p ys, xs = [.ref p] ∧ (SqL K H p ys ∨ SqT K H p ys) ∧ Q (.int ys.length) H)
def rIxAny (K : PySem.W.Frag) : R2 := fun x y H Q => (L2.rIxL K x y H Q ∨ L2.rIxT K x y H Q) ∨ Wc.rIxT x y H Q
def rTupS (K : PySem.W.Frag) : List V → Hp → VK → Prop := fun xs H Q => ∃ p ys, xs = [.ref p] ∧ ((SqL K H p ys ∧ ∀ l, H l = none → Q (.ref l) (upd H l (.tup ys))) ∨ (SqT K H p ys ∧ Q (.ref p) H))
section
variable {X : Cx} (K : PySem.W.Frag)
theorem kcr {f : Value} {r : PySem.W.Frag → List V → Hp → VK → Prop} (h : CallR X f (r X.K)) (hK : X.K = K := by rfl) : CallR X f (r K) := hK ▸ h
theorem kop {f : Value → Value → Sem Value} {r : PySem.W.Frag → R2} (h : OpR X f (r X.K)) (hK : X.K = K := by rfl) : OpR X f (r K) := hK ▸ h
theorem kix {r : PySem.W.Frag → R2} (h : IxR X (r X.K)) (hK : X.K = K := by rfl) : IxR X (r K) := hK ▸ h
theorem ksl {r : PySem.W.Frag → V → Option Int → Option Int → Hp → VK → Prop} (h : SlR X (r X.K)) (hK : X.K = K := by rfl) : SlR X (r K) := hK ▸ h
theorem kmt {id : String} {r : PySem.W.Frag → V → List V → Hp → VK → Prop} (h : MtR X id (r X.K)) (hK : X.K = K := by rfl) : MtR X id (r K) := hK ▸ h
theorem kbm {e : Expr} {T : String} {r : V → List V → Hp → VK → Prop} {to : TE} {t : TA} (h : PE X e (tBM X.K T r to t)) (hK : X.K = K := by rfl) : PE X e (tBM K T r to t) := hK ▸ h
theorem kbm0 {e : Expr} {T : String} {r : V → List V → Hp → VK → Prop} {to : TE} (h : PE X e (tBM0 X.K T r to)) (hK : X.K = K := by rfl) : PE X e (tBM0 K T r to) := hK ▸ h
theorem kil {tg it : Expr} {tl : TE} (h : PI X tg it (iList X.K tl)) (hK : X.K = K := by rfl) : PI X tg it (iList K tl) := hK ▸ h
theorem kit {tg it : Expr} {tl : TE} (h : PI X tg it (iTup X.K tl)) (hK : X.K = K := by rfl) : PI X tg it (iTup K tl) := hK ▸ h
theorem kie {tg it : Expr} {ta : TA} (h : PI X tg it (iEnum X.K ta)) (hK : X.K = K := by rfl) : PI X tg it (iEnum K ta) := hK ▸ h
theorem kiz {tg it : Expr} {ta : TA} (h : PI X tg it (iZip X.K ta)) (hK : X.K = K := by rfl) : PI X tg it (iZip K ta) := hK ▸ h
theorem kgt {tg : Expr} {n : Nat} {t : TGs} (h : PG X tg (gTup X.K n t)) (hK : X.K = K := by rfl) : PG X tg (gTup K n t) := hK ▸ h
theorem kgl {tg : Expr} {n : Nat} {t : TGs} (h : PG X tg (gLst X.K n t)) (hK : X.K = K := by rfl) : PG X tg (gLst K n t) := hK ▸ h
theorem kso {e : Expr} {t : TA} (h : PE X e (tSortLen X.K t)) (hK : X.K = K := by rfl) : PE X e (tSortLen K t) := hK ▸ h
end
end Wc
set_option Elab.async false
set_option linter.all false
set_option maxRecDepth 100000
set_option maxHeartbeats 2000000
/-! draws by their promises -/
namespace Wc
open PySem PySem.Spec PyProof.Rows L2 Evl
section
variable {K : PySem.W.Frag} {σ : L2.St} {H : Hp} {te tm : TE} {fa : Addr} {i : Nat} {Q : VK} {B : Nat}
theorem wp_draw {many : Int} (h0 : σ[i]? = some (some (.ref fa))) (h : Ev te σ H (.int many)) (G : GF fa B H) (h1 : 0 < many) (h2 : many ≤ 10 ^ 61) (k : ∀ (d : Nat) H', (d : Int) < many → Rf fa 1 H H' → Q (.int (d : Int)) H') (hB : 1 ≤ B := by omega) : tCall sp_draw [] E0 (tCons (tVar i) (tCons te tNil)) σ H Q :=
  ⟨.ref fa, h0, h H (Ex.refl _) _ fun H1 e1 => ⟨fa, many, rfl, (G.ex e1).mono hB, h1, h2, fun d H' hd R => k d H' hd (.pre e1 R)⟩⟩
theorem wp_oneT {s : Tx} (h0 : σ[i]? = some (some (.ref fa))) (h : Ev te σ H (T s)) (G : GF fa B H) (hs : s ≠ []) (hl : s.length ≤ 16777216) (k : ∀ c H', c ∈ s → Rf fa 1 H H' → Q (T [c]) H') (hB : 1 ≤ B := by omega) : tCall (sp_one K) [] E0 (tCons (tVar i) (tCons te tNil)) σ H Q :=
  ⟨.ref fa, h0, h H (Ex.refl _) _ fun H1 e1 => ⟨fa, (G.ex e1).mono hB, .inl ⟨s, rfl, hs, hl, fun c H' hc R => k c H' hc (.pre e1 R)⟩⟩⟩
/-- of a new list -/
theorem wp_oneL {vs : List V} (h0 : σ[i]? = some (some (.ref fa))) (h : EvL te σ H vs) (G : GF fa B H) (hs : vs ≠ []) (hl : vs.length ≤ 16777216) (k : ∀ v H', v ∈ vs → Rf fa 1 H H' → Q v H') (hB : 1 ≤ B := by omega) : tCall (sp_one K) [] E0 (tCons (tVar i) (tCons te tNil)) σ H Q :=
  ⟨.ref fa, h0, h H (Ex.refl _) _ fun p H1 hp e1 h1 => ⟨fa, (G.ex e1).mono hB, .inr ⟨p, vs, rfl, .inl (sq_of h1), G.new hp, hs, hl, fun v H' hv R => k v H' hv (.pre e1 R)⟩⟩⟩
/-- of a list or tuple that stands -/
theorem wp_oneS {p : Addr} {xs : List V} (h0 : σ[i]? = some (some (.ref fa))) (h : Ev te σ H (.ref p)) (hS : SqL K H p xs ∨ SqT K H p xs) (hp : p ≠ fa) (G : GF fa B H) (hs : xs ≠ []) (hl : xs.length ≤ 16777216) (k : ∀ v H', v ∈ xs → Rf fa 1 H H' → Q v H') (hB : 1 ≤ B := by omega) : tCall (sp_one K) [] E0 (tCons (tVar i) (tCons te tNil)) σ H Q :=
  ⟨.ref fa, h0, h H (Ex.refl _) _ fun H1 e1 => ⟨fa, (G.ex e1).mono hB, .inr ⟨p, xs, rfl, hS.imp (ex_l e1) (ex_t e1), hp, hs, hl, fun v H' hv R => k v H' hv (.pre e1 R)⟩⟩⟩
theorem wp_text {s : Tx} {most : Nat} (h0 : σ[i]? = some (some (.ref fa))) (h : Ev te σ H (T s)) (hm : Ev tm σ H (.int (most : Int))) (G : GF fa B H) (hm1 : most ≤ 30000) (hs : s ≠ []) (hl : s.length ≤ 16777216) (k : ∀ (t : Tx) H', t.length ≤ most → (∀ c ∈ t, c ∈ s) → Rf fa (most + 1) H H' → Q (T t) H') (hB : most + 1 ≤ B := by omega) :
    tCall sp_text [] E0 (tCons (tVar i) (tCons te (tCons tm tNil))) σ H Q :=
  ⟨.ref fa, h0, h H (Ex.refl _) _ fun H1 e1 => hm H1 e1 _ fun H2 e2 => ⟨fa, s, most, rfl, (G.ex (e1.trans e2)).mono hB, hm1, hs, hl, fun t H' h1 h2 R => k t H' h1 h2 (.pre (e1.trans e2) R)⟩⟩
end
/-- a feed out of a cell of the script -/
def sp_feed (K : PySem.W.Frag) : Sp := fun vs H Q _ => ∃ (a : Addr) (ns : List Int) (k e : Nat), vs = [.ref a, .int (k : Int)] ∧ SqL K H a (ns.map V.int) ∧ k ≤ 1000 ∧ 1 ≤ e ∧ e ≤ 1100000 ∧ (∀ z ∈ ns, z.natAbs < 2 ^ e) ∧
  ∀ fa H', H fa = none → Ex H H' → Fd fa 0 H' → Q (.ref fa) H'
theorem pow_add_small {x c : Int} {e : Nat} (hx : x.natAbs < 2 ^ e) (hc : c.natAbs ≤ 2 ^ 70) : (x + c).natAbs < 2 ^ (e + 72) := by
  have h1 : (x + c).natAbs ≤ x.natAbs + c.natAbs := Int.natAbs_add_le _ _
  have h2 : 1 ≤ 2 ^ e := Nat.pow_pos (by decide)
  have h3 : (2 : Nat) ^ (e + 72) = 2 ^ e * (4 * 2 ^ 70) := by rw [Nat.pow_add]
  have hA : 1 ≤ (2 : Nat) ^ 70 := Nat.pow_pos (by decide)
  rw [h3]
  generalize (2 : Nat) ^ e = E at hx h2 ⊢
  generalize (2 : Nat) ^ 70 = A at hc hA ⊢
  have h5 : E ≤ E * A := Nat.le_mul_of_pos_right _ hA
  have h6 : A ≤ E * A := Nat.le_mul_of_pos_left _ h2
  rw [Nat.mul_left_comm]
  omega
end Wc
set_option Elab.async false
set_option linter.all false
set_option maxRecDepth 100000
set_option maxHeartbeats 2000000
/-! words: powers, turns, roots, two words that change places; plain lists of numbers -/
namespace Wm
open Wc
def isRootLen (a : Tx) (m : Nat) : Bool := decide (a.length % m = 0) && decide (repT (a.length / m) (a.take m) = a)
def rootLen (a : Tx) : Nat := ((List.range' 1 a.length).find? (isRootLen a)).getD a.length
def aroot (a : Tx) : Tx := a.take (rootLen a)
def cyc (a : Tx) (i : Nat) : Nat := a.getD (i % a.length) 0
def Per (a : Tx) (k : Nat) : Prop := ∀ i, cyc a (i + k) = cyc a i
theorem repT_one (a : Tx) : repT 1 a = a := by rw [repT_succ, repT_zero, List.append_nil]
theorem repT_add (m n : Nat) (a : Tx) : repT (m + n) a = repT m a ++ repT n a := by
  induction m with
  | zero => rw [Nat.zero_add, repT_zero, List.nil_append]
  | succ m ih => rw [Nat.succ_add, repT_succ, repT_succ, ih, List.append_assoc]
theorem repT_mul (m n : Nat) (a : Tx) : repT m (repT n a) = repT (m * n) a := by
  induction m with
  | zero => rw [Nat.zero_mul, repT_zero, repT_zero]
  | succ m ih => rw [repT_succ, ih, Nat.succ_mul, Nat.add_comm, repT_add]
theorem repT_nil (n : Nat) : repT n [] = [] := List.length_eq_zero_iff.mp (by rw [repT_len]; simp)
theorem repT_ne {n : Nat} {a : Tx} (hn : 1 ≤ n) (ha : a ≠ []) : repT n a ≠ [] := by
  intro h
  have h1 := congrArg List.length h
  rw [repT_len] at h1
  have h2 : 0 < a.length := List.length_pos_iff.mpr ha
  have h3 : 0 < n * a.length := Nat.mul_pos hn h2
  rw [List.length_nil] at h1
  omega
theorem repT_get {a : Tx} (n : Nat) : ∀ (j : Nat), j < n * a.length → (repT n a)[j]? = a[j % a.length]? := by
  induction n with
  | zero =>
    intro j h
    rw [Nat.zero_mul] at h
    exact absurd h (Nat.not_lt_zero _)
  | succ n ih =>
    intro j h
    rw [repT_succ]
    by_cases hj : j < a.length
    · rw [List.getElem?_append_left hj, Nat.mod_eq_of_lt hj]
    · rw [List.getElem?_append_right (by omega), ih (j - a.length) (by rw [Nat.succ_mul] at h; omega)]
      have : j % a.length = (j - a.length) % a.length := Nat.mod_eq_sub_mod (by omega)
      rw [this]
theorem cyc_len (a : Tx) (i : Nat) : cyc a (i + a.length) = cyc a i := by
  unfold cyc
  rw [Nat.add_mod_right]
theorem cyc_mod (a : Tx) (i : Nat) : cyc a (i % a.length) = cyc a i := by
  unfold cyc
  rw [Nat.mod_mod]
theorem cyc_lt {a : Tx} {i : Nat} (h : i < a.length) : a[i]? = some (cyc a i) := by
  unfold cyc
  rw [Nat.mod_eq_of_lt h, List.getD_eq_getElem?_getD, List.getElem?_eq_getElem h]
  rfl
theorem cyc_repT {a : Tx} {n : Nat} (hn : 1 ≤ n) (ha : a ≠ []) (i : Nat) : cyc (repT n a) i = cyc a i := by
  have hp : 0 < a.length := List.length_pos_iff.mpr ha
  have hN : 0 < n * a.length := Nat.mul_pos hn hp
  unfold cyc
  rw [List.getD_eq_getElem?_getD, List.getD_eq_getElem?_getD, repT_len, repT_get n _ (Nat.mod_lt _ hN), Nat.mod_mod_of_dvd _ (Nat.dvd_mul_left _ _)]
theorem ext_cyc {a b : Tx} (hl : a.length = b.length) (h : ∀ i, i < a.length → cyc a i = cyc b i) : a = b := by
  apply List.ext_getElem?
  intro i
  by_cases hi : i < a.length
  · rw [cyc_lt hi, cyc_lt (by omega), h i hi]
  · rw [List.getElem?_eq_none (by omega), List.getElem?_eq_none (by omega)]
/-! ### turns -/
theorem turn_get {w : Tx} {k i : Nat} (hk : k ≤ w.length) (hi : i < w.length) : (w.drop k ++ w.take k)[i]? = some (cyc w (i + k)) := by
  by_cases h : i + k < w.length
  · rw [List.getElem?_append_left (by rw [List.length_drop]; omega), List.getElem?_drop, Nat.add_comm k i, cyc_lt h]
  · rw [List.getElem?_append_right (by rw [List.length_drop]; omega), List.length_drop, List.getElem?_take, if_pos (by omega), cyc_lt (by omega)]
    have e : i + k = (i - (w.length - k)) + w.length := by omega
    rw [e, cyc_len]
theorem turn_iff {w : Tx} {k : Nat} (hk : k ≤ w.length) : w.drop k ++ w.take k = w ↔ Per w k := by
  constructor
  · intro h i
    by_cases h0 : w.length = 0
    · have : w = [] := List.length_eq_zero_iff.mp h0
      subst this
      rfl
    · have hi : i % w.length < w.length := Nat.mod_lt _ (by omega)
      have h1 := turn_get hk hi
      rw [h, cyc_lt hi] at h1
      have h2 := Option.some.inj h1
      rw [cyc_mod] at h2
      rw [h2]
      unfold cyc
      rw [Nat.mod_add_mod]
  · intro h
    apply List.ext_getElem?
    intro i
    by_cases hi : i < w.length
    · rw [turn_get hk hi, cyc_lt hi, h i]
    · rw [List.getElem?_eq_none (by rw [List.length_append, List.length_drop, List.length_take]; omega), List.getElem?_eq_none (by omega)]
theorem twice_at {w : Tx} {k : Nat} (hk : k ≤ w.length) : ((w ++ w).drop k).take w.length = w.drop k ++ w.take k := by
  rw [List.drop_append_of_le_length hk, List.take_append, List.take_of_length_le (by rw [List.length_drop]; omega), List.length_drop]
  congr 2
  omega
theorem stAt_twice {w : Tx} {k : Nat} (hk : k ≤ w.length) : StAt (w ++ w) w k ↔ Per w k := by
  unfold StAt
  rw [twice_at hk, turn_iff hk]
/-! ### periods of the round -/
theorem Per.mul {w : Tx} {k : Nat} (h : Per w k) (n : Nat) : Per w (n * k) := by
  induction n with
  | zero => intro i; rw [Nat.zero_mul, Nat.add_zero]
  | succ n ih => intro i; rw [Nat.succ_mul, ← Nat.add_assoc, h, ih]
theorem Per.sub {w : Tx} {k m : Nat} (h : Per w k) (h2 : Per w m) (hm : m ≤ k) : Per w (k - m) := fun i => by
  rw [← h2 (i + (k - m)), show i + (k - m) + m = i + k by omega, h]
theorem Per.mod {w : Tx} {k m : Nat} (h : Per w k) (h2 : Per w m) : Per w (k % m) := by
  have := h.sub (h2.mul (k / m)) (Nat.div_mul_le_self k m)
  have e : k - k / m * m = k % m := by
    have := Nat.div_add_mod k m
    rw [Nat.mul_comm]
    omega
  rw [e] at this
  exact this
theorem Per.gcd {w : Tx} (k m : Nat) : Per w k → Per w m → Per w (Nat.gcd k m) := by
  induction k, m using Nat.gcd.induction with
  | H0 n => intro _ h; rwa [Nat.gcd_zero_left]
  | H1 m n hm ih => intro h1 h2; rw [Nat.gcd_rec]; exact ih (h2.mod h1) h1
theorem per_len (w : Tx) : Per w w.length := cyc_len w
theorem isRoot_iff {w : Tx} {m : Nat} (h1 : 1 ≤ m) (h2 : m ≤ w.length) : isRootLen w m = true ↔ m ∣ w.length ∧ Per w m := by
  unfold isRootLen
  rw [Bool.and_eq_true, decide_eq_true_eq, decide_eq_true_eq, ← Nat.dvd_iff_mod_eq_zero]
  have hlt : (w.take m).length = m := by rw [List.length_take]; omega
  have hne : w.take m ≠ [] := fun z => by rw [z] at hlt; simp at hlt; omega
  constructor
  · rintro ⟨hd, he⟩
    refine ⟨hd, fun i => ?_⟩
    have hn : 1 ≤ w.length / m := (Nat.le_div_iff_mul_le h1).mpr (by omega)
    have hc : ∀ j, cyc w j = cyc (w.take m) j := fun j => by
      conv => lhs; rw [← he]
      exact cyc_repT hn hne j
    rw [hc, hc]
    have := cyc_len (w.take m) i
    rw [hlt] at this
    exact this
  · rintro ⟨hd, hp⟩
    refine ⟨hd, ?_⟩
    obtain ⟨n, hn⟩ := hd
    have e1 : w.length / m = n := by rw [hn]; exact Nat.mul_div_cancel_left _ (by omega)
    have hL : (repT n (w.take m)).length = w.length := by rw [repT_len, hlt, Nat.mul_comm]; exact hn.symm
    rw [e1]
    apply List.ext_getElem?
    intro j
    by_cases hj : j < w.length
    · rw [repT_get n j (by rw [hlt, Nat.mul_comm]; omega), hlt]
      have hjm : j % m < m := Nat.mod_lt _ (by omega)
      rw [List.getElem?_take, if_pos hjm, cyc_lt (by omega), cyc_lt hj]
      have h3 := (hp.mul (j / m)) (j % m)
      rw [show j % m + j / m * m = j by rw [Nat.mul_comm]; exact Nat.mod_add_div j m] at h3
      rw [h3]
    · rw [List.getElem?_eq_none (by omega), List.getElem?_eq_none (by omega)]
theorem root_self {a : Tx} (ha : a ≠ []) : isRootLen a a.length = true := by
  have hp : 0 < a.length := List.length_pos_iff.mpr ha
  exact (isRoot_iff hp (Nat.le_refl _)).mpr ⟨Nat.dvd_refl _, per_len a⟩
/-- the root's length: the least period of the round -/
theorem rootLen_spec {a : Tx} (ha : a ≠ []) : 1 ≤ rootLen a ∧ rootLen a ≤ a.length ∧ rootLen a ∣ a.length ∧ Per a (rootLen a) ∧ ∀ k, 1 ≤ k → Per a k → rootLen a ≤ k := by
  have hp : 0 < a.length := List.length_pos_iff.mpr ha
  have hs : ∃ m, (List.range' 1 a.length).find? (isRootLen a) = some m := by
    cases h : (List.range' 1 a.length).find? (isRootLen a) with
    | some m => exact ⟨m, rfl⟩
    | none =>
      rw [List.find?_eq_none] at h
      have := h a.length (by rw [List.mem_range'_1]; omega)
      exact absurd (root_self ha) this
  obtain ⟨m, hm⟩ := hs
  have er : rootLen a = m := by unfold rootLen; rw [hm]; rfl
  rw [List.find?_range'_eq_some] at hm
  obtain ⟨h1, h2, h3⟩ := hm
  rw [List.mem_range'_1] at h2
  rw [er]
  have h4 := (isRoot_iff h2.1 (by omega)).mp h1
  refine ⟨h2.1, by omega, h4.1, h4.2, fun k hk hkp => ?_⟩
  have hg := hkp.gcd k a.length (per_len a)
  have g1 : 0 < Nat.gcd k a.length := Nat.gcd_pos_of_pos_left _ hk
  have g2 : Nat.gcd k a.length ≤ k := Nat.gcd_le_left _ hk
  have g3 : Nat.gcd k a.length ≤ a.length := Nat.gcd_le_right _ hp
  have hr := (isRoot_iff g1 g3).mpr ⟨Nat.gcd_dvd_right _ _, hg⟩
  by_cases hlt : Nat.gcd k a.length < m
  · have := h3 (Nat.gcd k a.length) g1 hlt
    rw [hr] at this
    cases this
  · omega
theorem find_root {a : Tx} (ha : a ≠ []) {r : Int} (h : FindT (a ++ a) a 1 r) : r = (rootLen a : Int) := by
  obtain ⟨h1, h2, h3, h4, h5⟩ := rootLen_spec ha
  cases h with
  | at_ k hk hl hs hn =>
    have hl2 : k ≤ a.length := by rw [List.length_append] at hl; omega
    have g1 := h5 k hk ((stAt_twice hl2).mp hs)
    have g2 : ¬ rootLen a < k := fun z => hn _ h1 z ((stAt_twice h2).mpr h4)
    have : k = rootLen a := by omega
    rw [this]
  | no hn =>
    exact absurd ((stAt_twice h2).mpr h4) (hn _ h1 (by rw [List.length_append]; omega))
theorem per_repT {a : Tx} {n : Nat} (hn : 1 ≤ n) (ha : a ≠ []) (k : Nat) : Per (repT n a) k ↔ Per a k := by
  unfold Per
  constructor
  · intro h i
    rw [← cyc_repT hn ha, ← cyc_repT hn ha, h]
  · intro h i
    rw [cyc_repT hn ha, cyc_repT hn ha, h]
theorem rootLen_repT {a : Tx} {n : Nat} (hn : 1 ≤ n) (ha : a ≠ []) : rootLen (repT n a) = rootLen a := by
  obtain ⟨h1, h2, h3, h4, h5⟩ := rootLen_spec ha
  obtain ⟨g1, g2, g3, g4, g5⟩ := rootLen_spec (repT_ne hn ha)
  have x := g5 _ h1 ((per_repT hn ha _).mpr h4)
  have y := h5 _ g1 ((per_repT hn ha _).mp g4)
  omega
theorem aroot_repT {a : Tx} {n : Nat} (hn : 1 ≤ n) (ha : a ≠ []) : aroot (repT n a) = aroot a := by
  unfold aroot
  rw [rootLen_repT hn ha]
  obtain ⟨h1, h2, _⟩ := rootLen_spec ha
  obtain ⟨m, rfl⟩ : ∃ m, n = m + 1 := ⟨n - 1, by omega⟩
  rw [repT_succ, List.take_append_of_le_length h2]
theorem aroot_pow {a : Tx} (ha : a ≠ []) : ∃ n, 1 ≤ n ∧ a = repT n (aroot a) := by
  obtain ⟨h1, h2, h3, h4, h5⟩ := rootLen_spec ha
  have := (isRoot_iff h1 h2).mpr ⟨h3, h4⟩
  unfold isRootLen at this
  rw [Bool.and_eq_true, decide_eq_true_eq, decide_eq_true_eq] at this
  exact ⟨a.length / rootLen a, (Nat.le_div_iff_mul_le h1).mpr (by omega), this.2.symm⟩
/-! ### two words that change places -/
theorem comm_cyc {a b : Tx} (ha : a ≠ []) (hb : b ≠ []) (h : ∀ i, i < a.length + b.length → cyc a i = cyc b i) : a ++ b = b ++ a := by
  have key : ∀ x y : Tx, x ≠ [] → (∀ i, i < x.length + y.length → cyc x i = cyc y i) → ∀ i, i < x.length + y.length → (x ++ y)[i]? = some (cyc x i) := fun x y hx h i hi => by
    by_cases h1 : i < x.length
    · rw [List.getElem?_append_left h1, cyc_lt h1]
    · rw [List.getElem?_append_right (by omega), cyc_lt (by omega), ← h (i - x.length) (by omega)]
      have e : i = i - x.length + x.length := by omega
      conv => rhs; rw [e, cyc_len]
  apply List.ext_getElem?
  intro i
  by_cases hi : i < a.length + b.length
  · rw [key a b ha h i hi, key b a hb (fun j hj => (h j (by omega)).symm) i (by omega), h i hi]
  · rw [List.getElem?_eq_none (by rw [List.length_append]; omega), List.getElem?_eq_none (by rw [List.length_append]; omega)]
/-- powers of one -/
theorem comm_pow : ∀ (n : Nat) (u v : Tx), u.length + v.length ≤ n → u ++ v = v ++ u → ∃ r i j, u = repT i r ∧ v = repT j r
  | n, [], v, _, _ => ⟨v, 0, 1, rfl, (repT_one v).symm⟩
  | n, u, [], _, _ => ⟨u, 1, 0, (repT_one u).symm, rfl⟩
  | 0, x :: u, y :: v, h, _ => by simp at h
  | n + 1, x :: u, y :: v, hl, h => by
    by_cases hle : (x :: u).length ≤ (y :: v).length
    · have hpre : (y :: v).take (x :: u).length = x :: u := by
        have := congrArg (List.take (x :: u).length) h
        rw [List.take_left, List.take_append_of_le_length hle] at this
        exact this.symm
      obtain ⟨v', hv⟩ : ∃ v', y :: v = (x :: u) ++ v' := ⟨(y :: v).drop (x :: u).length, by rw [← hpre, List.length_take, Nat.min_eq_left hle]; exact (List.take_append_drop _ _).symm⟩
      rw [hv] at h hl ⊢
      have h2 : (x :: u) ++ v' = v' ++ (x :: u) := by
        rw [List.append_assoc] at h
        exact List.append_cancel_left h
      obtain ⟨r, i, j, e1, e2⟩ := comm_pow n (x :: u) v' (by rw [List.length_append] at hl; simp only [List.length_cons] at hl ⊢; omega) h2
      exact ⟨r, i, i + j, e1, by rw [repT_add, ← e1, ← e2]⟩
    · have hle2 : (y :: v).length ≤ (x :: u).length := by omega
      have hpre : (x :: u).take (y :: v).length = y :: v := by
        have := congrArg (List.take (y :: v).length) h
        rw [List.take_left, List.take_append_of_le_length hle2] at this
        exact this
      obtain ⟨u', hu⟩ : ∃ u', x :: u = (y :: v) ++ u' := ⟨(x :: u).drop (y :: v).length, by rw [← hpre, List.length_take, Nat.min_eq_left hle2]; exact (List.take_append_drop _ _).symm⟩
      rw [hu] at h hl ⊢
      have h2 : (y :: v) ++ u' = u' ++ (y :: v) := by
        rw [List.append_assoc] at h
        exact (List.append_cancel_left h).symm
      obtain ⟨r, i, j, e1, e2⟩ := comm_pow n (y :: v) u' (by rw [List.length_append] at hl; simp only [List.length_cons] at hl ⊢; omega) h2
      exact ⟨r, i + j, i, by rw [repT_add, ← e1, ← e2], e1⟩
theorem pow_comm (i j : Nat) (r : Tx) : repT i r ++ repT j r = repT j r ++ repT i r := by rw [← repT_add, ← repT_add, Nat.add_comm]
theorem cyc_comm {a b : Tx} (ha : a ≠ []) (hb : b ≠ []) (h : a ++ b = b ++ a) (i : Nat) : cyc a i = cyc b i := by
  obtain ⟨r, m, n, rfl, rfl⟩ := comm_pow _ a b (Nat.le_refl _) h
  have hr : r ≠ [] := fun z => ha (by rw [z, repT_nil])
  have hm : 1 ≤ m := Nat.pos_of_ne_zero fun z => ha (by rw [z, repT_zero])
  have hn : 1 ≤ n := Nat.pos_of_ne_zero fun z => hb (by rw [z, repT_zero])
  rw [cyc_repT hm hr, cyc_repT hn hr]
theorem aroot_comm {a b : Tx} (ha : a ≠ []) (hb : b ≠ []) (h : a ++ b = b ++ a) : aroot a = aroot b := by
  obtain ⟨r, m, n, rfl, rfl⟩ := comm_pow _ a b (Nat.le_refl _) h
  have hr : r ≠ [] := fun z => ha (by rw [z, repT_nil])
  have hm : 1 ≤ m := Nat.pos_of_ne_zero fun z => ha (by rw [z, repT_zero])
  have hn : 1 ≤ n := Nat.pos_of_ne_zero fun z => hb (by rw [z, repT_zero])
  rw [aroot_repT hm hr, aroot_repT hn hr]
end Wm
set_option Elab.async false
set_option linter.all false
set_option maxRecDepth 100000
set_option maxHeartbeats 2000000
/-! readings that draw: what is told of the value alone -/
namespace Wc
open PySem PySem.Spec PyProof.Rows L2 Evl
/-- te draws m times at most and gives a value that is good -/
def Dw (fa : Addr) (σ : L2.St) (m : Nat) (te : TE) (g : V → Prop) : Prop := ∀ H, GF fa m H → ∀ Q : VK, (∀ v H', g v → Rf fa m H H' → Q v H') → te σ H Q
def GdT (ok : Nat → Prop) (lo n : Nat) (v : V) : Prop := ∃ s : Tx, v = T s ∧ lo ≤ s.length ∧ s.length ≤ n ∧ ∀ c ∈ s, ok c
def GdI (lo hi : Int) (v : V) : Prop := ∃ i : Int, v = .int i ∧ lo ≤ i ∧ i ≤ hi
section
variable {K : PySem.W.Frag} {σ : L2.St} {ta tb te : TE} {fa : Addr} {m m1 m2 : Nat} {g g1 g2 : V → Prop} {ok : Nat → Prop}
theorem dw_mono {m' : Nat} (h : Dw fa σ m te g) (hm : m ≤ m') : Dw fa σ m' te g := fun H G Q q => h H (G.mono hm) Q fun v H' hg R => q v H' hg (R.mono hm)
theorem dw_as {g' : V → Prop} (h : Dw fa σ m te g) (hg : ∀ v, g v → g' v) : Dw fa σ m te g' := fun H G Q q => h H G Q fun v H' hv R => q v H' (hg v hv) R
theorem dw_var {i : Nat} {v : V} (h : σ[i]? = some (some v)) (hg : g v) : Dw fa σ 0 (tVar i) g := fun H G Q q => ⟨v, h, q v H hg (Rf.refl H)⟩
theorem dw_c {v : V} (hg : g v) : Dw fa σ 0 (tC v) g := fun H G Q q => q v H hg (Rf.refl H)
theorem dw_op {r : R2} (h1 : Dw fa σ m1 ta g1) (h2 : Dw fa σ m2 tb g2) (hr : ∀ x y, g1 x → g2 y → ∃ z, g z ∧ ∀ H (Q : VK), Q z H → r x y H Q) : Dw fa σ (m1 + m2) (tOp r ta tb) g := fun H G Q q =>
  h1 H (G.mono (by omega)) _ fun x H1 hx R1 => h2 H1 (G.go R1 (by omega)) _ fun y H2 hy R2 => by
    obtain ⟨z, hz, hk⟩ := hr x y hx hy
    exact hk H2 Q (q z H2 hz (R1.trans R2))
theorem dI_var {i : Nat} {x lo hi : Int} (h : σ[i]? = some (some (.int x))) (h1 : lo ≤ x) (h2 : x ≤ hi) : Dw fa σ 0 (tVar i) (GdI lo hi) := dw_var h ⟨x, rfl, h1, h2⟩
theorem dI_c {x : Int} : Dw fa σ 0 (tC (.int x)) (GdI x x) := dw_c ⟨x, rfl, Int.le_refl _, Int.le_refl _⟩
theorem dT_var {i : Nat} {s : Tx} {lo n : Nat} (h : σ[i]? = some (some (T s))) (h1 : lo ≤ s.length) (h2 : s.length ≤ n) (h3 : ∀ c ∈ s, ok c) : Dw fa σ 0 (tVar i) (GdT ok lo n) := dw_var h ⟨s, rfl, h1, h2, h3⟩
theorem dT_c {s : Tx} (h3 : ∀ c ∈ s, ok c) : Dw fa σ 0 (tC (T s)) (GdT ok s.length s.length) := dw_c ⟨s, rfl, Nat.le_refl _, Nat.le_refl _, h3⟩
theorem dI_add {a b c d : Int} (h1 : Dw fa σ m1 ta (GdI a b)) (h2 : Dw fa σ m2 tb (GdI c d)) : Dw fa σ (m1 + m2) (tOp (rI0 fun i j => .int (i + j)) ta tb) (GdI (a + c) (b + d)) := dw_op h1 h2 fun x y ⟨i, hi, h3, h4⟩ ⟨j, hj, h5, h6⟩ => ⟨.int (i + j), ⟨i + j, rfl, by omega, by omega⟩, fun H Q q => ⟨i, j, hi, hj, q⟩⟩
theorem dT_add {a b c d : Nat} (h1 : Dw fa σ m1 ta (GdT ok a b)) (h2 : Dw fa σ m2 tb (GdT ok c d)) (hb : b + d ≤ 16777216 := by omega) : Dw fa σ (m1 + m2) (tOp rAddT ta tb) (GdT ok (a + c) (b + d)) := dw_op h1 h2 fun x y ⟨s, hs, h3, h4, h5⟩ ⟨t, ht, h6, h7, h8⟩ => ⟨T (s ++ t), ⟨s ++ t, rfl, by rw [List.length_append]; omega, by rw [List.length_append]; omega, fun c hc => by
  rcases List.mem_append.mp hc with hc | hc
  · exact h5 c hc
  · exact h8 c hc⟩, fun H Q q => ⟨s, t, hs, ht, by omega, q⟩⟩
theorem repT_mem {n : Nat} {a : Tx} {c : Nat} (h : c ∈ repT n a) : c ∈ a := by
  unfold repT at h
  obtain ⟨l, hl, hc⟩ := List.mem_flatten.mp h
  rw [List.eq_of_mem_replicate hl] at hc
  exact hc
theorem dT_mul {a b c d : Nat} (h1 : Dw fa σ m1 ta (GdT ok a b)) (h2 : Dw fa σ m2 tb (GdI (c : Int) (d : Int))) (hb : b * d ≤ 16777216 := by omega) (hd : d ≤ 1000000000 := by omega) : Dw fa σ (m1 + m2) (tOp rMulT ta tb) (GdT ok (c * a) (d * b)) := dw_op h1 h2 fun x y ⟨s, hs, h3, h4, h5⟩ ⟨j, hj, h6, h7⟩ => ⟨T (repT j.toNat s), ⟨repT j.toNat s, rfl, by
    rw [repT_len]
    exact Nat.mul_le_mul (by omega) h3, by
    rw [repT_len]
    exact Nat.mul_le_mul (by omega) h4, fun c hc => h5 c (repT_mem hc)⟩, fun H Q q => ⟨s, j, hs, hj, by omega, by omega, Nat.le_trans (Nat.mul_le_mul h4 (show j.toNat ≤ d by omega)) hb, q⟩⟩
theorem dI_len {a b : Nat} (h1 : Dw fa σ m te (GdT ok a b)) (hb : b ≤ 16777216 := by omega) : Dw fa σ m (tCB rLenT (tCons te tNil)) (GdI a b) := fun H G Q q => h1 H G _ fun v H1 ⟨s, hs, h3, h4, h5⟩ R => ⟨s, by rw [hs], by omega, q _ H1 ⟨_, rfl, by omega, by omega⟩ R⟩
/-- the ends of a slice -/
def Dwo (fa : Addr) (σ : L2.St) (m : Nat) (to : TO) : Prop := ∀ H, GF fa m H → ∀ Q : Option Int → Hp → Prop, (∀ v H', Rf fa m H H' → Q v H') → to σ H Q
theorem do_none : Dwo fa σ 0 tNoPart := fun H G Q q => q none H (Rf.refl H)
theorem do_some {a b : Int} (h : Dw fa σ m te (GdI a b)) : Dwo fa σ m (tPart te) := fun H G Q q => h H G _ fun v H1 ⟨i, hi, _, _⟩ R => ⟨i, hi, q (some i) H1 R⟩
theorem dT_sl {a b m3 : Nat} {tl th : TO} (h : Dw fa σ m1 te (GdT ok a b)) (h1 : Dwo fa σ m2 tl) (h2 : Dwo fa σ m3 th) (hb : b ≤ 16777216 := by omega) : Dw fa σ (m1 + (m2 + m3)) (tSl rSlT te tl th) (GdT ok 0 b) := fun H G Q q =>
  h H (G.mono (by omega)) _ fun v H1 ⟨s, hs, h3, h4, h5⟩ R1 => h1 H1 (G.go R1 (by omega)) _ fun l H2 R2 => h2 H2 (G.go (R1.trans R2) (by omega)) _ fun u H3 R3 =>
    ⟨s, hs, by omega, q _ H3 ⟨cutT s l u, rfl, Nat.zero_le _, Nat.le_trans (cutT_len s l u) h4, fun c hc => h5 c (cutT_mem hc)⟩ ((R1.trans (R2.trans R3)).mono (by omega))⟩
theorem dI_draw {i : Nat} {lo hi : Int} (h0 : σ[i]? = some (some (.ref fa))) (h : Dw fa σ m te (GdI lo hi)) (h1 : 0 < lo := by omega) (h2 : hi ≤ 10 ^ 61 := by decide) : Dw fa σ (m + 1) (tCall sp_draw [] E0 (tCons (tVar i) (tCons te tNil))) (GdI 0 (hi - 1)) := fun H G Q q =>
  ⟨.ref fa, h0, h H (G.mono (by omega)) _ fun v H1 ⟨j, hj, h3, h4⟩ R => ⟨fa, j, by rw [hj]; rfl, G.go R (Nat.le_refl _), by omega, by omega, fun d H' hd R2 => q _ H' ⟨(d : Int), rfl, by omega, by omega⟩ (R.trans R2)⟩⟩
theorem dT_one {i : Nat} {lo n : Nat} (h0 : σ[i]? = some (some (.ref fa))) (h : Dw fa σ m te (GdT ok lo n)) (h1 : 0 < lo := by omega) (h2 : n ≤ 16777216 := by omega) : Dw fa σ (m + 1) (tCall (sp_one K) [] E0 (tCons (tVar i) (tCons te tNil))) (GdT ok 1 1) := fun H G Q q =>
  ⟨.ref fa, h0, h H (G.mono (by omega)) _ fun v H1 ⟨s, hs, h3, h4, h5⟩ R => ⟨fa, G.go R (Nat.le_refl _), .inl ⟨s, by rw [hs]; rfl, fun z => by rw [z] at h3; simp at h3; omega, by omega, fun c H' hc R2 => q _ H' ⟨[c], rfl, Nat.le_refl _, Nat.le_refl _, fun d hd => by rw [List.mem_singleton.mp hd]; exact h5 c hc⟩ (R.trans R2)⟩⟩⟩
/-- of a list that is displayed -/
theorem dw_oneL {i : Nat} {vs : List V} (h0 : σ[i]? = some (some (.ref fa))) (h : ∀ H, EvL te σ H vs) (hg : ∀ v ∈ vs, g v) (hs : vs ≠ []) (hl : vs.length ≤ 16777216) : Dw fa σ 1 (tCall (sp_one K) [] E0 (tCons (tVar i) (tCons te tNil))) g := fun H G Q q => wp_oneL h0 (h H) G hs hl fun v H' hv R => q v H' (hg v hv) R
theorem dT_text {i : Nat} {a b c : Nat} {tm : TE} (h0 : σ[i]? = some (some (.ref fa))) (h : Dw fa σ m1 te (GdT ok a b)) (hm : Dw fa σ m2 tm (GdI 0 (c : Int))) (h1 : 0 < a := by omega) (h2 : b ≤ 16777216 := by omega) (h3 : c ≤ 30000 := by omega) : Dw fa σ (m1 + m2 + (c + 1)) (tCall sp_text [] E0 (tCons (tVar i) (tCons te (tCons tm tNil)))) (GdT ok 0 c) := fun H G Q q =>
  ⟨.ref fa, h0, h H (G.mono (by omega)) _ fun v H1 ⟨s, hs, h4, h5, h6⟩ R1 => hm H1 (G.go R1 (by omega)) _ fun y H2 ⟨j, hj, h7, h8⟩ R2 => by
    obtain ⟨n, rfl⟩ := Int.eq_ofNat_of_zero_le h7
    exact ⟨fa, s, n, by rw [hs, hj]; rfl, (G.go (R1.trans R2) (m' := n + 1) (by omega)), by omega, fun z => by rw [z] at h4; simp at h4; omega, by omega, fun t H' ht hc R3 => q _ H' ⟨t, rfl, Nat.zero_le _, by omega, fun c hc' => h6 c (hc c hc')⟩ (((R1.trans R2).trans R3).mono (by omega))⟩⟩
/-- a statement that draws -/
theorem q_dw {i : Nat} {D : Ends} {tz : TS} {H : Hp} {B : Nat} (h : Dw fa σ m te g) (G : GF fa B H) (k : ∀ v H1, g v → Rf fa m H H1 → tz D (σ.set i (some v)) H1) (hm : m ≤ B := by omega) : tSeq (tAsg te (gName i)) tz D σ H := h H (G.mono hm) _ fun v H1 hv R => k v H1 hv R
/-- a displayed pair, returned -/
theorem s_pair {D : Ends} {H : Hp} {B : Nat} (h1 : Dw fa σ m1 ta g1) (h2 : Dw fa σ m2 tb g2) (G : GF fa B H) (k : ∀ x y p H1, g1 x → g2 y → H p = none → Rf fa (m1 + m2) H H1 → H1 p = some (.lst [x, y]) → D.rt (.ref p) H1) (hm : m1 + m2 ≤ B := by omega) : tRet (tLst (tCons ta (tCons tb tNil))) D σ H :=
  h1 H (G.mono (by omega)) _ fun x H1 hx R1 => h2 H1 (G.go R1 (by omega)) _ fun y H2 hy R2 => ⟨by show 2 ≤ sizeLine; decide, fun p np => by
    have R := R1.trans R2
    have G2 : GF fa 0 H2 := G.go R (by omega)
    exact k x y p _ hx hy (R.free G.is np G2.is) (R.upd (R.free G.is np G2.is) G.is) upd_same⟩
/-- a test -/
theorem s_dif {D : Ends} {H : Hp} {tt ts : TS} {tu : TT} (h : ∀ Q : Bool → Hp → Prop, (∀ b H1, Rf fa m H H1 → Q b H1) → tu σ H Q) (k : ∀ b H1, Rf fa m H H1 → if b = true then tt D σ H1 else ts D σ H1) : tIfS tu tt ts D σ H := h _ k
theorem dw_test {H : Hp} {B : Nat} {a b c d : Int} {f : Int → Int → Bool} (h1 : Dw fa σ m1 ta (GdI a b)) (h2 : Dw fa σ m2 tb (GdI c d)) (G : GF fa B H) (Q : Bool → Hp → Prop) (k : ∀ b H1, Rf fa (m1 + m2) H H1 → Q b H1) (hm : m1 + m2 ≤ B := by omega) : tTest (tOp (rI0 fun i j => .bl (f i j)) ta tb) σ H Q :=
  h1 H (G.mono (by omega)) _ fun x H1 ⟨i, hi, _, _⟩ R1 => h2 H1 (G.go R1 (by omega)) _ fun y H2 ⟨j, hj, _, _⟩ R2 => ⟨i, j, hi, hj, f i j, rfl, k _ H2 (R1.trans R2)⟩
/-- a displayed pair -/
theorem wp_pair {H : Hp} {Q : VK} {B : Nat} (h1 : Dw fa σ m1 ta g1) (h2 : Dw fa σ m2 tb g2) (G : GF fa B H) (k : ∀ x y p H1, g1 x → g2 y → H p = none → Rf fa (m1 + m2) H H1 → H1 p = some (.lst [x, y]) → Q (.ref p) H1) (hm : m1 + m2 ≤ B := by omega) : tLst (tCons ta (tCons tb tNil)) σ H Q := s_pair (D := { nx := fun _ _ => False, bk := fun _ _ => False, ct := fun _ _ => False, rt := Q }) h1 h2 G k hm
/-- a loop of so many turns as are drawn -/
theorem q_forD {D : Ends} {tz tu : TS} {gg : TG} {H : Hp} {B : Nat} {a b : Int} (h : Dw fa σ m te (GdI a b)) (G : GF fa B H) (k : ∀ n H1, a ≤ n → n ≤ b → Rf fa m H H1 → tSeq (tFor (iRng1 fun _ H' Q' => Q' [.int n] H') gg tu) tz D σ H1) (hm : m ≤ B := by omega) : tSeq (tFor (iRng1 (tCons te tNil)) gg tu) tz D σ H := h H (G.mono hm) _ fun v H1 ⟨n, hn, h1, h2⟩ R => by
  subst hn
  exact k n H1 h1 h2 R
theorem s_retIf {D : Ends} {H : Hp} {b : Bool} {tu : TT} (h : EvT tu σ H b) (h1 : b = true → ∀ H1, Ex H H1 → tRet ta D σ H1) (h2 : b = false → ∀ H1, Ex H H1 → tRet tb D σ H1) : tRet (tIf tu ta tb) D σ H := h H (Ex.refl H) _ fun H1 e1 => by
  cases b with
  | true => exact h1 rfl H1 e1
  | false => exact h2 rfl H1 e1
theorem s_retIfD {D : Ends} {H : Hp} {B : Nat} {tc td : TE} {a b c d : Int} {f : Int → Int → Bool} (h : Dw fa σ m1 tc (GdI a b)) (h' : Dw fa σ m2 td (GdI c d)) (G : GF fa B H) (h1 : ∀ H1, Rf fa (m1 + m2) H H1 → tRet ta D σ H1) (h2 : ∀ H1, Rf fa (m1 + m2) H H1 → tRet tb D σ H1) (hm : m1 + m2 ≤ B := by omega) : tRet (tIf (tTest (tOp (rI0 fun i j => .bl (f i j)) tc td)) ta tb) D σ H := dw_test h h' G _ (fun b H1 R => by
  cases b with
  | true => exact h1 H1 R
  | false => exact h2 H1 R) hm
/-- a fresh list is written at -/
theorem Rf.exc {H H1 H2 : Hp} {p : Addr} (a : Rf fa m H H1) (h : Exc (fun c => c = p) H1 H2) (hp : H p = none) (hne : p ≠ fa) : Rf fa m H H2 := ⟨fun c o hc hs => h c o (fun z => by rw [z, hp] at hs; cases hs) (a.keep c o hc hs), fun n hn hF => by
  obtain ⟨x, b, c, e', h1, h2⟩ := a.feed n hn hF
  exact ⟨x, b, c, e', h _ _ (Ne.symm hne) h1, h2⟩⟩
theorem atI_back2 {α : Type} (xs : List α) (a b : α) : atI (xs ++ [a] ++ [b]) (-2) = some a := by
  have hl : (xs ++ [a] ++ [b]).length = xs.length + 2 := by simp
  have e : ixN (xs ++ [a] ++ [b]).length (-2) = some xs.length := by
    unfold ixN
    rw [if_neg (by decide), hl, if_pos (by omega)]
    congr 1
    omega
  unfold atI
  rw [e]
  simp
/-- [.., .., ..][i], returned -/
theorem s_ix3 {D : Ends} {H : Hp} {t1 t2 t3 tw : TE} (h : t1 σ H fun v1 H1 => t2 σ H1 fun v2 H2 => t3 σ H2 fun v3 H3 => [v1, v2, v3].length ≤ sizeLine ∧ ∀ p, H3 p = none → tw σ (upd H3 p (.lst [v1, v2, v3])) fun i H4 => L2.rIxL K (.ref p) i H4 D.rt) : tRet (tOp (L2.rIxL K) (tLst (tCons t1 (tCons t2 (tCons t3 tNil)))) tw) D σ H := h
end
end Wc
set_option Elab.async false
set_option linter.all false
set_option maxRecDepth 100000
set_option maxHeartbeats 2000000
namespace K02
open PySem PySem.Spec PyProof.Rows L2 Evl Wc
def topS (i : Nat) : Stmt := PySem.Challenge.pw_wordscut_k02_whole_two_texts_and_their_r.main.body.getD i (.Pass ⟨0, 0, 0, 0⟩)
abbrev st_are_signs : Stmt := topS 7
abbrev st_is_text : Stmt := topS 8
abbrev st_need_text : Stmt := topS 9
abbrev st_need_some_text : Stmt := topS 10
abbrev st_root_in : Stmt := topS 12
abbrev st_shared_root : Stmt := topS 13
abbrev st_least_power : Stmt := topS 14
abbrev st_alike_signs : Stmt := topS 15
abbrev st_alike_for_ever : Stmt := topS 16
abbrev st_links_between : Stmt := topS 17
abbrev st_change_places : Stmt := topS 21
abbrev st_common_root : Stmt := topS 22
abbrev st_equal_power : Stmt := topS 23
abbrev st_shared_beginning : Stmt := topS 24
abbrev st_turned_by : Stmt := topS 25
abbrev st_between : Stmt := topS 26
abbrev st__law_feed : Stmt := topS 28
abbrev st__law_draw : Stmt := topS 29
abbrev st__law_one : Stmt := topS 30
abbrev st__law_mixed : Stmt := topS 31
abbrev st__law_text : Stmt := topS 32
abbrev st__law_so : Stmt := topS 33
abbrev st__law_is : Stmt := topS 34
abbrev st__law_list : Stmt := topS 35
abbrev st__law_pair : Stmt := topS 36
abbrev st__law_root : Stmt := topS 37
abbrev st__law_common : Stmt := topS 38
abbrev st__law_shared : Stmt := topS 39
abbrev st__law_power : Stmt := topS 40
abbrev st__law_turns : Stmt := topS 41
abbrev st__law_links : Stmt := topS 42
abbrev st__law_same_root : Stmt := topS 43
abbrev st__law_right : Stmt := topS 44
abbrev st_law : Stmt := topS 45
/-- what the top has left of names that are no defs -/
structure Md (K : PySem.W.Frag) (mg : Str → Option Value) : Prop where
  n_ValueError : mg "ValueError" = none
  n_all : mg "all" = none
  n_bool : mg "bool" = none
  n_int : mg "int" = none
  n_isinstance : mg "isinstance" = none
  n_len : mg "len" = none
  n_list : mg "list" = none
  n_max : mg "max" = none
  n_min : mg "min" = none
  n_range : mg "range" = none
  n_sorted : mg "sorted" = none
  n_str : mg "str" = none
  n_sum : mg "sum" = none
  n_tuple : mg "tuple" = none
  c_SIGNS : ∃ t, mg "SIGNS" = some (.str (Str.ofString "abcd") t)
  c_MOST_SIGNS : ∃ t, mg "MOST_SIGNS" = some (.int 400 t)
  c_MOST_LINKS : ∃ t, mg "MOST_LINKS" = some (.int 20 t)
  c_LONGEST_LINK : ∃ t, mg "LONGEST_LINK" = some (.int 40 t)
  f_gcd : mg "gcd" = some (.builtin "math.gcd")
abbrev N_are_signs : List Str := ["thing", "most", "sign"]
theorem sc_are_signs : FnScope N_are_signs ["thing", "most"] (defScope st_are_signs) := ⟨rfl, rfl, rfl, by decide +kernel, rfl, by decide +kernel, by decide +kernel⟩
abbrev N_is_text : List Str := ["thing"]
theorem sc_is_text : FnScope N_is_text ["thing"] (defScope st_is_text) := ⟨rfl, rfl, rfl, by decide +kernel, rfl, by decide +kernel, by decide +kernel⟩
abbrev N_need_text : List Str := ["text"]
theorem sc_need_text : FnScope N_need_text ["text"] (defScope st_need_text) := ⟨rfl, rfl, rfl, by decide +kernel, rfl, by decide +kernel, by decide +kernel⟩
abbrev N_need_some_text : List Str := ["text"]
theorem sc_need_some_text : FnScope N_need_some_text ["text"] (defScope st_need_some_text) := ⟨rfl, rfl, rfl, by decide +kernel, rfl, by decide +kernel, by decide +kernel⟩
abbrev N_root_in : List Str := ["text", "many"]
theorem sc_root_in : FnScope N_root_in ["text"] (defScope st_root_in) := ⟨rfl, rfl, rfl, by decide +kernel, rfl, by decide +kernel, by decide +kernel⟩
abbrev N_shared_root : List Str := ["one", "other", "root"]
theorem sc_shared_root : FnScope N_shared_root ["one", "other"] (defScope st_shared_root) := ⟨rfl, rfl, rfl, by decide +kernel, rfl, by decide +kernel, by decide +kernel⟩
abbrev N_least_power : List Str := ["one", "other"]
theorem sc_least_power : FnScope N_least_power ["one", "other"] (defScope st_least_power) := ⟨rfl, rfl, rfl, by decide +kernel, rfl, by decide +kernel, by decide +kernel⟩
abbrev N_alike_signs : List Str := ["one", "other", "many"]
theorem sc_alike_signs : FnScope N_alike_signs ["one", "other"] (defScope st_alike_signs) := ⟨rfl, rfl, rfl, by decide +kernel, rfl, by decide +kernel, by decide +kernel⟩
abbrev N_alike_for_ever : List Str := ["one", "other", "both"]
theorem sc_alike_for_ever : FnScope N_alike_for_ever ["one", "other"] (defScope st_alike_for_ever) := ⟨rfl, rfl, rfl, by decide +kernel, rfl, by decide +kernel, by decide +kernel⟩
abbrev N_links_between : List Str := ["one", "other", "most", "long", "found", "many", "text"]
theorem sc_links_between : FnScope N_links_between ["one", "other", "most", "long"] (defScope st_links_between) := ⟨rfl, rfl, rfl, by decide +kernel, rfl, by decide +kernel, by decide +kernel⟩
abbrev N_change_places : List Str := ["one", "other"]
theorem sc_change_places : FnScope N_change_places ["one", "other"] (defScope st_change_places) := ⟨rfl, rfl, rfl, by decide +kernel, rfl, by decide +kernel, by decide +kernel⟩
abbrev N_common_root : List Str := ["one", "other"]
theorem sc_common_root : FnScope N_common_root ["one", "other"] (defScope st_common_root) := ⟨rfl, rfl, rfl, by decide +kernel, rfl, by decide +kernel, by decide +kernel⟩
abbrev N_equal_power : List Str := ["one", "other"]
theorem sc_equal_power : FnScope N_equal_power ["one", "other"] (defScope st_equal_power) := ⟨rfl, rfl, rfl, by decide +kernel, rfl, by decide +kernel, by decide +kernel⟩
abbrev N_shared_beginning : List Str := ["one", "other"]
theorem sc_shared_beginning : FnScope N_shared_beginning ["one", "other"] (defScope st_shared_beginning) := ⟨rfl, rfl, rfl, by decide +kernel, rfl, by decide +kernel, by decide +kernel⟩
abbrev N_turned_by : List Str := ["one", "other", "many"]
theorem sc_turned_by : FnScope N_turned_by ["one", "other"] (defScope st_turned_by) := ⟨rfl, rfl, rfl, by decide +kernel, rfl, by decide +kernel, by decide +kernel⟩
abbrev N_between : List Str := ["one", "other"]
theorem sc_between : FnScope N_between ["one", "other"] (defScope st_between) := ⟨rfl, rfl, rfl, by decide +kernel, rfl, by decide +kernel, by decide +kernel⟩
abbrev N__law_feed : List Str := ["script", "k", "cell"]
theorem sc__law_feed : FnScope N__law_feed ["script", "k"] (defScope st__law_feed) := ⟨rfl, rfl, rfl, by decide +kernel, rfl, by decide +kernel, by decide +kernel⟩
abbrev N__law_draw : List Str := ["feed", "many", "rest", "got", "stir"]
theorem sc__law_draw : FnScope N__law_draw ["feed", "many"] (defScope st__law_draw) := ⟨rfl, rfl, rfl, by decide +kernel, rfl, by decide +kernel, by decide +kernel⟩
abbrev N__law_one : List Str := ["feed", "things"]
theorem sc__law_one : FnScope N__law_one ["feed", "things"] (defScope st__law_one) := ⟨rfl, rfl, rfl, by decide +kernel, rfl, by decide +kernel, by decide +kernel⟩
abbrev N__law_mixed : List Str := ["feed", "things", "pool", "got", "turn"]
theorem sc__law_mixed : FnScope N__law_mixed ["feed", "things"] (defScope st__law_mixed) := ⟨rfl, rfl, rfl, by decide +kernel, rfl, by decide +kernel, by decide +kernel⟩
abbrev N__law_text : List Str := ["feed", "signs", "most", "turn"]
theorem sc__law_text : FnScope N__law_text ["feed", "signs", "most"] (defScope st__law_text) := ⟨rfl, rfl, rfl, by decide +kernel, rfl, by decide +kernel, by decide +kernel⟩
abbrev N__law_so : List Str := ["actual", "due"]
theorem sc__law_so : FnScope N__law_so ["actual", "due"] (defScope st__law_so) := ⟨rfl, rfl, rfl, by decide +kernel, rfl, by decide +kernel, by decide +kernel⟩
abbrev N__law_is : List Str := ["actual", "due"]
theorem sc__law_is : FnScope N__law_is ["actual", "due"] (defScope st__law_is) := ⟨rfl, rfl, rfl, by decide +kernel, rfl, by decide +kernel, by decide +kernel⟩
abbrev N__law_list : List Str := ["actual", "due", "part"]
theorem sc__law_list : FnScope N__law_list ["actual", "due"] (defScope st__law_list) := ⟨rfl, rfl, rfl, by decide +kernel, rfl, by decide +kernel, by decide +kernel⟩
abbrev N__law_pair : List Str := ["feed", "signs", "way", "long", "root", "one", "other", "at", "turned", "spot", "many", "more", "steps", "turn"]
theorem sc__law_pair : FnScope N__law_pair ["feed"] (defScope st__law_pair) := ⟨rfl, rfl, rfl, by decide +kernel, rfl, by decide +kernel, by decide +kernel⟩
abbrev N__law_root : List Str := ["text"]
theorem sc__law_root : FnScope N__law_root ["text"] (defScope st__law_root) := ⟨rfl, rfl, rfl, by decide +kernel, rfl, by decide +kernel, by decide +kernel⟩
abbrev N__law_common : List Str := ["one", "other", "short", "long", "turn", "root"]
theorem sc__law_common : FnScope N__law_common ["one", "other"] (defScope st__law_common) := ⟨rfl, rfl, rfl, by decide +kernel, rfl, by decide +kernel, by decide +kernel⟩
abbrev N__law_shared : List Str := ["one", "other", "place"]
theorem sc__law_shared : FnScope N__law_shared ["one", "other"] (defScope st__law_shared) := ⟨rfl, rfl, rfl, by decide +kernel, rfl, by decide +kernel, by decide +kernel⟩
abbrev N__law_power : List Str := ["one", "other", "times"]
theorem sc__law_power : FnScope N__law_power ["one", "other"] (defScope st__law_power) := ⟨rfl, rfl, rfl, by decide +kernel, rfl, by decide +kernel, by decide +kernel⟩
abbrev N__law_turns : List Str := ["one", "other", "found", "place", "twice", "turn"]
theorem sc__law_turns : FnScope N__law_turns ["one", "other"] (defScope st__law_turns) := ⟨rfl, rfl, rfl, by decide +kernel, rfl, by decide +kernel, by decide +kernel⟩
abbrev N__law_links : List Str := ["one", "other", "found", "turns", "times", "place", "text"]
theorem sc__law_links : FnScope N__law_links ["one", "other"] (defScope st__law_links) := ⟨rfl, rfl, rfl, by decide +kernel, rfl, by decide +kernel, by decide +kernel⟩
abbrev N__law_same_root : List Str := ["actual", "due"]
theorem sc__law_same_root : FnScope N__law_same_root ["actual", "due"] (defScope st__law_same_root) := ⟨rfl, rfl, rfl, by decide +kernel, rfl, by decide +kernel, by decide +kernel⟩
abbrev N__law_right : List Str := ["one", "other", "due", "turns", "found", "told", "shared", "links"]
theorem sc__law_right : FnScope N__law_right ["one", "other"] (defScope st__law_right) := ⟨rfl, rfl, rfl, by decide +kernel, rfl, by decide +kernel, by decide +kernel⟩
abbrev N_law : List Str := ["script", "k", "feed", "turn", "one", "other"]
theorem sc_law : FnScope N_law ["script"] (defScope st_law) := ⟨rfl, rfl, rfl, by decide +kernel, rfl, by decide +kernel, by decide +kernel⟩
end K02
set_option Elab.async false
set_option linter.all false
set_option maxRecDepth 100000
set_option maxHeartbeats 2000000
namespace K02
open PySem PySem.Spec PyProof.Rows L2 Evl Wc Wm
/-! ### the mathematics of the program -/
def areSigns (a : Tx) (most : Int) : Bool := decide ((a.length : Int) ≤ most) && a.all fun c => decide (c ∈ [97, 98, 99, 100])
section
variable {P : Program} {w : World} {K : PySem.W.Frag} {mg : Str → Option Value} {base : Heap}
/-! ### promises -/
def sp_are_signs : Sp := fun vs H Q _ => ∃ (a : Tx) (most : Int), vs = [T a, .int most] ∧ a.length ≤ 20000 ∧ RetV (.bl (areSigns a most)) H Q
def sp_is_text : Sp := fun vs H Q _ => ∃ (a : Tx), vs = [T a] ∧ a.length ≤ 20000 ∧ RetV (.bl (areSigns a 400)) H Q
def sp_need_text : Sp := fun vs H Q _ => ∃ (a : Tx), vs = [T a] ∧ a.length ≤ 20000 ∧ areSigns a 400 = true ∧ RetV .non H Q
def sp_need_some_text : Sp := fun vs H Q _ => ∃ (a : Tx), vs = [T a] ∧ a.length ≤ 20000 ∧ areSigns a 400 = true ∧ a ≠ [] ∧ RetV .non H Q
def sp_root_in : Sp := fun vs H Q _ => ∃ (a : Tx), vs = [T a] ∧ a.length ≤ 20000 ∧ a ≠ [] ∧ RetU [T (aroot a), .int ((a.length / rootLen a : Nat) : Int)] H Q
theorem ok_are_signs {f : Addr} {fd : FuncData} (F : Fun K "are_signs" "are_signs" st_are_signs f fd) (M : Md K mg) : FnOk P w K mg base CX0 1 f fd ["thing", "most"] sp_are_signs := by
  have nd := sc_are_signs.nd
  refine F.ok sc_are_signs (fun vs H Q E h => ?_) (fun cdv A outer s H vs Q E hr h => ?_)
  · obtain ⟨_, _, rfl, _⟩ := h
    rfl
  · obtain ⟨a, most, rfl, ha, k⟩ := h
    refine ⟨_, (pss_one (ps_ret (pe_and (pe_callB (kcr K (r := rIsiB) cr_isi) (by rfl) M.n_isinstance boot_isinstance (pa_cons (pv 0) (pa_cons (pe_bltn (v := .ty "str") rfl M.n_str boot_str rfl) pa_nil))) (pe_and (pe_cmpR op_le (pe_callB cr_lenT (by rfl) M.n_len boot_len (pa_cons (pv 0) pa_nil)) (pv 1) (nomark _)) (pe_one (pe_callB (kcr K (r := rAll) (cr_all rfl)) (by rfl) M.n_all boot_all (pa_cons (pe_lc (own := [("sign", 2)]) rfl nd (pi_str (pv 0)) (blkOk_by (N := N_are_signs) (sc := defScope st_are_signs) (by decide +kernel)) (fun _ _ _ _ _ => (pg_name (i := 2) nd rfl (Or.inl rfl))) (fun _ _ _ _ _ => pts_nil) (fun _ _ _ _ _ => (pe_cmpR op_inT (pv 2) (pe_gT M.c_SIGNS [97, 98, 99, 100]) (by rfl)))) pa_nil))))))), ?_⟩
    exact s_ret (ev_andV (ev_cb (ea_cons (ev_var rfl) (ea_cons ev_c ea_nil)) (rc_isi (fun _ _ => .base (.str _)) k_str_str)) fun _ => ev_andV (ev_op (ev_cb (ea_cons (ev_var rfl) ea_nil) (rc_lenT (by omega))) (ev_var rfl) rv_I0) fun _ =>
      ev_cbL (el_lcM a (src_str (ev_var rfl)) (by omega) (fun _ => rfl) fun c H1 e1 hc => ev_op (ev_var rfl) ev_c rv_inT) fun p H1 hp e1 => rc_allM (sq_of hp)) k
theorem ok_is_text {f : Addr} {fd : FuncData} (F : Fun K "is_text" "is_text" st_is_text f fd) (M : Md K mg) (C_are_signs : Cal P w K mg base "are_signs" st_are_signs 1 ["thing", "most"] sp_are_signs) : FnOk P w K mg base CX0 2 f fd ["thing"] sp_is_text := by
  have nd := sc_is_text.nd
  refine F.ok sc_is_text (fun vs H Q E h => ?_) (fun cdv A outer s H vs Q E hr h => ?_)
  · obtain ⟨_, rfl, _⟩ := h
    rfl
  · obtain ⟨a, rfl, ha, k⟩ := h
    refine ⟨_, (pss_one (ps_ret (pe_cl C_are_signs hr (pa_cons (pv 0) (pa_cons (pe_gI M.c_MOST_SIGNS) pa_nil))))), ?_⟩
    exact s_ret (ev_call (ea_cons (ev_var rfl) (ea_cons ev_c ea_nil)) fun H1 e1 Q q E => ⟨a, 400, rfl, ha, q⟩) k
theorem ok_need_text {f : Addr} {fd : FuncData} (F : Fun K "need_text" "need_text" st_need_text f fd) (M : Md K mg) (C_is_text : Cal P w K mg base "is_text" st_is_text 2 ["thing"] sp_is_text) : FnOk P w K mg base CX0 3 f fd ["text"] sp_need_text := by
  have nd := sc_need_text.nd
  refine F.ok sc_need_text (fun vs H Q E h => ?_) (fun cdv A outer s H vs Q E hr h => ?_)
  · obtain ⟨_, rfl, _⟩ := h
    rfl
  · obtain ⟨a, rfl, ha, hs, k⟩ := h
    refine ⟨_, (pss_one (ps_if (pt_not (pt_val (pe_cl C_is_text hr (pa_cons (pv 0) pa_nil))))
  (pss_one ps_never)
  pss_nil)), ?_⟩
    refine s_when (et_not (et_B (ev_call (ea_cons (ev_var rfl) ea_nil) fun H1 e1 Q q E => ⟨a, rfl, ha, q⟩))) (fun hb => ?_) (fun _ => k)
    rw [hs] at hb
    cases hb
theorem ok_need_some_text {f : Addr} {fd : FuncData} (F : Fun K "need_some_text" "need_some_text" st_need_some_text f fd) (M : Md K mg) (C_is_text : Cal P w K mg base "is_text" st_is_text 2 ["thing"] sp_is_text) : FnOk P w K mg base CX0 3 f fd ["text"] sp_need_some_text := by
  have nd := sc_need_some_text.nd
  refine F.ok sc_need_some_text (fun vs H Q E h => ?_) (fun cdv A outer s H vs Q E hr h => ?_)
  · obtain ⟨_, rfl, _⟩ := h
    rfl
  · obtain ⟨a, rfl, ha, hs, hn, k⟩ := h
    refine ⟨_, (pss_one (ps_if (PW.pt (pw_or (pt_not (pt_val (pe_cl C_is_text hr (pa_cons (pv 0) pa_nil)))) (pw_or1 (pt_cmpR op_eqT (pv 0) (pe_sT []) (nomark _)))))
  (pss_one ps_never)
  pss_nil)), ?_⟩
    refine s_when (et_or (et_not (et_B (ev_call (ea_cons (ev_var rfl) ea_nil) fun H1 e1 Q q E => ⟨a, rfl, ha, q⟩))) fun _ => et_test (ev_op (ev_var rfl) ev_c rv_eqT)) (fun hb => ?_) (fun _ => k)
    rw [hs, decide_eq_false hn] at hb
    cases hb
theorem rootTest {a : Tx} {i : Nat} (hi : i < a.length) : (decide (((a.length : Int) % (1 + (i : Int))) = 0) && decide (repT ((a.length : Int) / (1 + (i : Int))).toNat (cutT a none (some (1 + (i : Int)))) = a)) = isRootLen a (1 + i) := by
  have e1 : (1 + (i : Int)) = ((1 + i : Nat) : Int) := by omega
  have e2 : ((a.length : Int) / ((1 + i : Nat) : Int)).toNat = a.length / (1 + i) := by
    rw [← Int.natCast_ediv]
    exact Int.toNat_natCast _
  unfold isRootLen
  rw [e1, cutT_to, e2]
  congr 1
  rw [← Int.natCast_emod]
  by_cases h : a.length % (1 + i) = 0
  · rw [decide_eq_true h, decide_eq_true (by rw [h]; rfl)]
  · rw [decide_eq_false h, decide_eq_false (fun z => h (by omega))]
theorem find_range' {p : Nat → Bool} {n m : Nat} (h1 : 1 ≤ m) (h2 : m ≤ n) (hm : p m = true) (hk : ∀ k, 1 ≤ k → k < m → p k = false) : (List.range' 1 n).find? p = some m := by
  rw [List.find?_range'_eq_some]
  refine ⟨hm, ?_, ?_⟩
  · rw [List.mem_range'_1]
    omega
  · intro j hj hj2
    rw [hk j hj hj2]
    rfl
theorem rootLen_self {a : Tx} (ha : a ≠ []) : isRootLen a a.length = true := by
  have hp : 0 < a.length := List.length_pos_iff.mpr ha
  unfold isRootLen
  rw [Nat.mod_self, Nat.div_self hp, List.take_length, repT_succ, repT_zero, List.append_nil]
  simp
theorem ok_root_in {f : Addr} {fd : FuncData} (F : Fun K "root_in" "root_in" st_root_in f fd) (M : Md K mg) : FnOk P w K mg base CX0 1 f fd ["text"] sp_root_in := by
  have nd := sc_root_in.nd
  refine F.ok sc_root_in (fun vs H Q E h => ?_) (fun cdv A outer s H vs Q E hr h => ?_)
  · obtain ⟨_, rfl, _⟩ := h
    rfl
  · obtain ⟨a, rfl, ha, hne, k⟩ := h
    refine ⟨_, (pss_cons (ps_for PassesOwn.never rfl (pi_range2 (by rfl) M.n_range (pa_cons pe_int (pa_cons (pe_op op_add (pe_callB cr_lenT (by rfl) M.n_len boot_len (pa_cons (pv 0) pa_nil)) pe_int) pa_nil))) (pg_name (i := 1) nd rfl (Or.inl rfl))
  (pss_one (ps_if (PW.pt (pw_and (pt_cmpR op_eqI (pe_op op_modP (pe_callB cr_lenT (by rfl) M.n_len boot_len (pa_cons (pv 0) pa_nil)) (pv 1)) pe_int (nomark _)) (pw_and1 (pt_cmpR op_eqT (pe_op op_mulT (pe_slice sl_T (pv 0) po_none (po_some (pv 1))) (pe_op op_fdivW (pe_callB cr_lenT (by rfl) M.n_len boot_len (pa_cons (pv 0) pa_nil)) (pv 1))) (pv 0) (nomark _)))))
  (pss_one (ps_ret (pe_tup (pa_cons (pe_slice sl_T (pv 0) po_none (po_some (pv 1))) (pa_cons (pe_op op_fdivW (pe_callB cr_lenT (by rfl) M.n_len boot_len (pa_cons (pv 0) pa_nil)) (pv 1)) pa_nil)))))
  pss_nil)))
  (pss_one (ps_ret (pe_tup (pa_cons (pv 0) (pa_cons pe_int pa_nil)))))), ?_⟩
    have hp : 0 < a.length := List.length_pos_iff.mpr hne
    have hlen : ∀ (σ : L2.St) (H1 : Hp), σ[0]? = some (some (T a)) → Ev (tCB rLenT (tCons (tVar 0) tNil)) σ H1 (.int (a.length : Int)) := fun σ H1 h0 => ev_cb (ea_cons (ev_var h0) ea_nil) (rc_lenT (by omega))
    have hdiv : ∀ (i : Nat), (a.length : Int) / (1 + (i : Int)) = ((a.length / (1 + i) : Nat) : Int) := fun i => by
      rw [show (1 + (i : Int)) = ((1 + i : Nat) : Int) by omega, Int.natCast_ediv]
    refine q_search (src_range2 (lo := 1) (hi := (a.length : Int) + 1) (n := a.length) (ea_cons ev_c (ea_cons (ev_op (hlen _ _ rfl) ev_c rv_I0) ea_nil)) (by decide) (by decide) (by omega) (by omega) (by omega)) (by show 1 < 2; decide) (fun i => isRootLen a (1 + i)) ?_ ?_ ?_
    · rintro i x H1 e1 hi rfl hk
      have hq : (a.length : Int) / (1 + (i : Int)) ≤ a.length := by
        rw [hdiv]
        exact Int.ofNat_le.mpr (Nat.div_le_self _ _)
      have h0 : 0 ≤ (a.length : Int) / (1 + (i : Int)) := by
        rw [hdiv]
        exact Int.natCast_nonneg _
      refine et_is (et_and (et_test (ev_op (ev_op (hlen _ _ rfl) (ev_var rfl) (rv_I (by omega))) ev_c rv_I0)) fun _ => et_test (ev_op (ev_op (ev_slT (ev_var rfl) eo_none (eo_some (ev_var rfl)) (by omega)) (ev_op (hlen _ _ rfl) (ev_var rfl) (rv_I (divW (by omega) (by omega)))) (rv_mulT (by omega) (by omega) ?_)) (ev_var rfl) rv_eqT)) (rootTest hi)
      rw [show (1 + (i : Int)) = ((1 + i : Nat) : Int) by omega, cutT_to, List.length_take]
      have h1 : min (1 + i) a.length ≤ 20000 := by omega
      have h2 : ((a.length : Int) / ((1 + i : Nat) : Int)).toNat ≤ a.length := by
        rw [← Int.natCast_ediv, Int.toNat_natCast]
        exact Nat.div_le_self _ _
      have h3 : min (1 + i) a.length * ((a.length : Int) / ((1 + i : Nat) : Int)).toNat ≤ a.length := by
        rw [← Int.natCast_ediv, Int.toNat_natCast]
        exact Nat.le_trans (Nat.mul_le_mul_right _ (Nat.min_le_left _ _)) (by rw [Nat.mul_comm]; exact Nat.div_mul_le_self _ _)
      exact Nat.le_trans h3 (by omega)
    · rintro i x H1 H2 e1 hi rfl e2 hk hb D' hD
      have er : rootLen a = 1 + i := by
        unfold rootLen
        rw [find_range' (by omega) (by omega) hb (fun j h1 h2 => by
          have := hk (j - 1) (by omega)
          rw [show 1 + (j - 1) = j by omega] at this
          exact this)]
        rfl
      refine s_retU (xs := [T (aroot a), .int ((a.length / rootLen a : Nat) : Int)]) ?_ fun p H3 hp3 e3 h3 => by rw [hD]; exact k.mono (e1.trans e2) p H3 hp3 e3 h3
      refine eu_tup (ea_cons (ev_is (ev_slT (ev_var rfl) eo_none (eo_some (ev_var rfl)) (by omega)) ?_) (ea_cons (ev_is (ev_op (hlen _ _ rfl) (ev_var rfl) (rv_I (divW (by omega) (by omega)))) ?_) ea_nil)) (by show 2 ≤ 100000; decide)
      · unfold aroot
        rw [er, show (1 + (i : Int)) = ((1 + i : Nat) : Int) by omega, cutT_to]
      · rw [er, hdiv]
    · intro y H1 e1 hf
      have := hf (a.length - 1) (by omega)
      rw [show 1 + (a.length - 1) = a.length by omega, rootLen_self hne] at this
      cases this
/-! ### two texts -/
/-- None, or a value -/
def optV {α : Type} (f : α → V) : Option α → V
  | none => .non
  | some a => f a
def sharedRoot (a b : Tx) : Option (Tx × Nat × Nat) :=
  if a ++ b = b ++ a then if a = [] ∧ b = [] then some ([], 0, 0) else
    let r := aroot (if a = [] then b else a)
    some (r, a.length / r.length, b.length / r.length)
  else none
def RetR (o : Option (Tx × Nat × Nat)) (H : Hp) (Q : VK) : Prop := match o with
  | none => RetV .non H Q
  | some r => RetU [T r.1, .int (r.2.1 : Int), .int (r.2.2 : Int)] H Q
def leastPower (a b : Tx) : Option Tx := if aroot a = aroot b then some (repT (b.length / Nat.gcd a.length b.length) a) else none
def alikeSigns : Tx → Tx → Nat
  | x :: a, y :: b => if x = y then alikeSigns a b + 1 else 0
  | _, _ => 0
def alikeForEver (a b : Tx) : Option Nat := if a ++ b = b ++ a then none else
  some (alikeSigns (repT ((a.length + b.length) / a.length + 1) a) (repT ((a.length + b.length) / b.length + 1) b))
/-- the text of so many signs with one + z = z + other, if it is one -/
def linkAt (a : Tx) (m : Nat) : Tx := (repT (m / a.length + 1) a).take m
def isLink (a b : Tx) (m : Nat) : Bool := decide (a ++ linkAt a m = linkAt a m ++ b)
def linksB (a b : Tx) (n : Nat) : List Tx := (((List.range n).filter (isLink a b)).map (linkAt a)).take 20
def sp_shared_root : Sp := fun vs H Q _ => ∃ (a b : Tx), vs = [T a, T b] ∧ a.length ≤ 400 ∧ b.length ≤ 400 ∧ RetR (sharedRoot a b) H Q
def sp_least_power : Sp := fun vs H Q _ => ∃ (a b : Tx), vs = [T a, T b] ∧ a.length ≤ 400 ∧ b.length ≤ 400 ∧ a ≠ [] ∧ b ≠ [] ∧ RetV (optV T (leastPower a b)) H Q
def sp_alike_signs : Sp := fun vs H Q _ => ∃ (a b : Tx), vs = [T a, T b] ∧ a.length ≤ 20000 ∧ b.length ≤ 20000 ∧ RetV (.int (alikeSigns a b : Nat)) H Q
def sp_alike_for_ever : Sp := fun vs H Q _ => ∃ (a b : Tx), vs = [T a, T b] ∧ a.length ≤ 400 ∧ b.length ≤ 400 ∧ a ≠ [] ∧ b ≠ [] ∧ RetV (optV (fun (n : Nat) => .int (n : Int)) (alikeForEver a b)) H Q
def sp_links_between : Sp := fun vs H Q _ => ∃ (a b : Tx), vs = [T a, T b, .int 20, .int 40] ∧ a.length ≤ 400 ∧ b.length ≤ 400 ∧ a ≠ [] ∧ RetL ((linksB a b 41).map T) H Q
theorem aroot_len {a : Tx} (ha : a ≠ []) : 0 < (aroot a).length ∧ (aroot a).length ≤ a.length := by
  have hp : 0 < a.length := List.length_pos_iff.mpr ha
  have h1 : 0 < rootLen a := by
    unfold rootLen
    cases h : (List.range' 1 a.length).find? (isRootLen a) with
    | none => exact hp
    | some m =>
      have := List.mem_of_find?_eq_some h
      rw [List.mem_range'_1] at this
      exact this.1
  unfold aroot
  rw [List.length_take]
  omega
theorem ok_shared_root {f : Addr} {fd : FuncData} (F : Fun K "shared_root" "shared_root" st_shared_root f fd) (M : Md K mg) (C_root_in : Cal P w K mg base "root_in" st_root_in 1 ["text"] sp_root_in) : FnOk P w K mg base CX0 2 f fd ["one", "other"] sp_shared_root := by
  have nd := sc_shared_root.nd
  refine F.ok sc_shared_root (fun vs H Q E h => ?_) (fun cdv A outer s H vs Q E hr h => ?_)
  · obtain ⟨_, _, rfl, _⟩ := h
    rfl
  · obtain ⟨a, b, rfl, ha, hb, k⟩ := h
    refine ⟨_, (pss_cons (ps_if (pt_cmpR op_neT (pe_op op_addT (pv 0) (pv 1)) (pe_op op_addT (pv 1) (pv 0)) (nomark _))
  (pss_one (ps_ret pe_non))
  pss_nil)
  (pss_cons (ps_if (PW.pt (pw_and (pt_cmpR op_eqT (pv 0) (pe_sT []) (nomark _)) (pw_and1 (pt_cmpR op_eqT (pv 1) (pe_sT []) (nomark _)))))
  (pss_one (ps_ret (pe_tup (pa_cons (pe_sT []) (pa_cons pe_int (pa_cons pe_int pa_nil))))))
  pss_nil)
  (pss_cons (ps_set (i := 2) nd rfl (Or.inl rfl) (pe_ix (kix K (r := L2.rIxT) ix_tup) (pe_cl C_root_in hr (pa_cons (pe_ifExp (pt_cmpR op_neT (pv 0) (pe_sT []) (nomark _)) (pv 0) (pv 1)) pa_nil)) pe_int (fun _ _ => rfl)))
  (pss_one (ps_ret (pe_tup (pa_cons (pv 2) (pa_cons (pe_op op_fdivW (pe_callB cr_lenT (by rfl) M.n_len boot_len (pa_cons (pv 0) pa_nil)) (pe_callB cr_lenT (by rfl) M.n_len boot_len (pa_cons (pv 2) pa_nil))) (pa_cons (pe_op op_fdivW (pe_callB cr_lenT (by rfl) M.n_len boot_len (pa_cons (pv 1) pa_nil)) (pe_callB cr_lenT (by rfl) M.n_len boot_len (pa_cons (pv 2) pa_nil))) pa_nil))))))))), ?_⟩
    have hcat : ∀ {x y : Tx}, x.length ≤ 400 → y.length ≤ 400 → x.length + y.length ≤ 16777216 := fun h1 h2 => by omega
    refine q_when (et_test (ev_op (ev_op (ev_var rfl) (ev_var rfl) (rv_addT (hcat ha hb))) (ev_op (ev_var rfl) (ev_var rfl) (rv_addT (hcat hb ha))) rv_neT)) (fun h1 H1 e1 => ?_) (fun h1 H1 e1 => ?_)
    · have hc : ¬ a ++ b = b ++ a := by simpa using h1
      unfold sharedRoot at k
      rw [if_neg hc] at k
      exact s_ret ev_c (RetV.mono k e1)
    · have hc : a ++ b = b ++ a := by simpa using h1
      unfold sharedRoot at k
      rw [if_pos hc] at k
      refine q_when (et_and (et_test (ev_op (ev_var rfl) ev_c rv_eqT)) fun _ => et_test (ev_op (ev_var rfl) ev_c rv_eqT)) (fun h2 H2 e2 => ?_) (fun h2 H2 e2 => ?_)
      · have hz : a = [] ∧ b = [] := by simpa using h2
        rw [if_pos hz] at k
        exact s_retU (eu_tup (ea_cons ev_c (ea_cons ev_c (ea_cons ev_c ea_nil))) (by show 3 ≤ 100000; decide)) (RetU.mono k (e1.trans e2))
      · have hz : ¬ (a = [] ∧ b = []) := by
          intro z
          simp [z.1, z.2] at h2
        rw [if_neg hz] at k
        have hne : (if a = [] then b else a) ≠ [] := by
          by_cases h3 : a = []
          · rw [if_pos h3]
            exact fun h4 => hz ⟨h3, h4⟩
          · rw [if_neg h3]
            exact h3
        have hl : (if a = [] then b else a).length ≤ 400 := by
          split <;> assumption
        have hr := aroot_len hne
        generalize hx : (if a = [] then b else a) = x at *
        -- root = root_in(..)[0]
        refine (ev_if (v := T x) (et_test (ev_op (ev_var rfl) ev_c rv_neT)) (fun hb => ?_) (fun hb => ?_) : Ev _ _ H2 _) H2 (Ex.refl _) _ fun H3 e3 => ?_
        · have h3 : ¬ a = [] := by simpa using hb
          rw [if_neg h3] at hx
          rw [← hx]
          exact ev_var rfl
        · have h3 : a = [] := by simpa using hb
          rw [if_pos h3] at hx
          rw [← hx]
          exact ev_var rfl
        refine ⟨x, rfl, by omega, hne, fun p H4 hp4 e4 h4 => ?_⟩
        refine ⟨p, _, 0, T (aroot x), rfl, rfl, SqT.of h4, rfl, ?_⟩
        have hdiv : ∀ (n : Nat), (n : Int) / ((aroot x).length : Int) = ((n / (aroot x).length : Nat) : Int) := fun n => by rw [Int.natCast_ediv]
        refine s_retU (xs := [T (aroot x), .int ((a.length / (aroot x).length : Nat) : Int), .int ((b.length / (aroot x).length : Nat) : Int)]) (eu_tup (ea_cons (ev_var rfl) (ea_cons (ev_is (ev_op (ev_cb (ea_cons (ev_var rfl) ea_nil) (rc_lenT (a := a) (by omega))) (ev_cb (ea_cons (ev_var rfl) ea_nil) (rc_lenT (a := aroot x) (by omega))) (rv_I (divW (by omega) (by omega)))) ?_) (ea_cons (ev_is (ev_op (ev_cb (ea_cons (ev_var rfl) ea_nil) (rc_lenT (a := b) (by omega))) (ev_cb (ea_cons (ev_var rfl) ea_nil) (rc_lenT (a := aroot x) (by omega))) (rv_I (divW (by omega) (by omega)))) ?_) ea_nil))) (by show 3 ≤ 100000; decide)) (RetU.mono k (((e1.trans e2).trans e3).trans e4))
        · rw [hdiv]
        · rw [hdiv]
theorem ok_least_power {f : Addr} {fd : FuncData} (F : Fun K "least_power" "least_power" st_least_power f fd) (M : Md K mg) (C_root_in : Cal P w K mg base "root_in" st_root_in 1 ["text"] sp_root_in) : FnOk P w K mg base CX0 2 f fd ["one", "other"] sp_least_power := by
  have nd := sc_least_power.nd
  refine F.ok sc_least_power (fun vs H Q E h => ?_) (fun cdv A outer s H vs Q E hr h => ?_)
  · obtain ⟨_, _, rfl, _⟩ := h
    rfl
  · obtain ⟨a, b, rfl, ha, hb, hna, hnb, k⟩ := h
    refine ⟨_, (pss_cons (ps_if (pt_cmpR op_neT (pe_ix (kix K (r := L2.rIxT) ix_tup) (pe_cl C_root_in hr (pa_cons (pv 0) pa_nil)) pe_int (fun _ _ => rfl)) (pe_ix (kix K (r := L2.rIxT) ix_tup) (pe_cl C_root_in hr (pa_cons (pv 1) pa_nil)) pe_int (fun _ _ => rfl)) (nomark _))
  (pss_one (ps_ret pe_non))
  pss_nil)
  (pss_one (ps_ret (pe_op op_mulT (pv 0) (pe_op op_fdivW (pe_callB cr_lenT (by rfl) M.n_len boot_len (pa_cons (pv 1) pa_nil)) (pe_callBfun cr_gcd (by rfl) M.f_gcd (pa_cons (pe_callB cr_lenT (by rfl) M.n_len boot_len (pa_cons (pv 0) pa_nil)) (pa_cons (pe_callB cr_lenT (by rfl) M.n_len boot_len (pa_cons (pv 1) pa_nil)) pa_nil)))))))), ?_⟩
    have hroot : ∀ (i : Nat) (x : Tx) (σ : L2.St) (H0 : Hp), x.length ≤ 400 → x ≠ [] → σ[i]? = some (some (T x)) → Ev (tOp (L2.rIxT K) (tCall sp_root_in [] E0 (tCons (tVar i) tNil)) (tC (.int 0))) σ H0 (T (aroot x)) := fun i x σ H0 hx hn h0 H1 e1 Q q =>
      ⟨T x, h0, x, rfl, by omega, hn, fun p H3 hp3 e3 h3 => ⟨p, _, 0, T (aroot x), rfl, rfl, SqT.of h3, rfl, q H3 e3⟩⟩
    refine q_when (et_test (ev_op (hroot 0 a _ _ ha hna rfl) (hroot 1 b _ _ hb hnb rfl) rv_neT)) (fun h1 H1 e1 => ?_) (fun h1 H1 e1 => ?_)
    · have hc : ¬ aroot a = aroot b := by simpa using h1
      unfold leastPower at k
      rw [if_neg hc] at k
      exact s_ret ev_c (RetV.mono k e1)
    · have hc : aroot a = aroot b := by simpa using h1
      unfold leastPower at k
      rw [if_pos hc] at k
      have hpa : 0 < a.length := List.length_pos_iff.mpr hna
      have hpb : 0 < b.length := List.length_pos_iff.mpr hnb
      have hg : 0 < Nat.gcd a.length b.length := Nat.gcd_pos_of_pos_left _ hpa
      have hg2 : Nat.gcd a.length b.length ≤ a.length := Nat.gcd_le_left _ hpa
      have hdiv : (b.length : Int) / ((Nat.gcd a.length b.length : Nat) : Int) = ((b.length / Nat.gcd a.length b.length : Nat) : Int) := by rw [Int.natCast_ediv]
      have hq := Nat.div_le_self b.length (Nat.gcd a.length b.length)
      generalize hqq : b.length / Nat.gcd a.length b.length = q0 at hq hdiv k
      refine s_ret (ev_is (ev_op (ev_var rfl) (ev_op (ev_cb (ea_cons (ev_var rfl) ea_nil) (rc_lenT (a := b) (by omega))) (ev_cb (ea_cons (ev_cb (ea_cons (ev_var rfl) ea_nil) (rc_lenT (a := a) (by omega))) (ea_cons (ev_cb (ea_cons (ev_var rfl) ea_nil) (rc_lenT (a := b) (by omega))) ea_nil)) rc_gcd) (rv_I (divW (by simp; omega) (by simp; omega)))) (rv_mulT ?_ ?_ ?_)) ?_) (RetV.mono k e1)
      · simp only [Int.natAbs_natCast]
        rw [hdiv]
        omega
      · simp only [Int.natAbs_natCast]
        rw [hdiv]
        omega
      · simp only [Int.natAbs_natCast]
        rw [hdiv, Int.toNat_natCast]
        have : a.length * q0 ≤ 400 * 400 := Nat.mul_le_mul ha (by omega)
        omega
      · simp only [Int.natAbs_natCast]
        rw [hdiv, Int.toNat_natCast]
        rfl
/-! ### alike_signs -/
theorem alikeSigns_le : ∀ (a b : Tx), alikeSigns a b ≤ a.length ∧ alikeSigns a b ≤ b.length
  | [], b => ⟨Nat.zero_le _, Nat.zero_le _⟩
  | x :: a, [] => ⟨Nat.zero_le _, Nat.zero_le _⟩
  | x :: a, y :: b => by
    have := alikeSigns_le a b
    unfold alikeSigns
    split
    · simp only [List.length_cons]
      omega
    · exact ⟨Nat.zero_le _, Nat.zero_le _⟩
theorem alikeSigns_at : ∀ (a b : Tx) (i : Nat), i < alikeSigns a b → a[i]? = b[i]?
  | x :: a, y :: b, i, h => by
    unfold alikeSigns at h
    split at h
    · rename_i e
      cases i with
      | zero => simp [e]
      | succ i => simpa using alikeSigns_at a b i (by omega)
    · omega
  | [], b, i, h => by simp [alikeSigns] at h
  | x :: a, [], i, h => by simp [alikeSigns] at h
theorem alikeSigns_end : ∀ (a b : Tx) (x y : Nat), a[alikeSigns a b]? = some x → b[alikeSigns a b]? = some y → x ≠ y
  | u :: a, v :: b, x, y, h1, h2 => by
    unfold alikeSigns at h1 h2
    split at h1
    · rename_i e
      rw [if_pos e] at h2
      exact alikeSigns_end a b x y (by simpa using h1) (by simpa using h2)
    · rename_i e
      rw [if_neg e] at h2
      simp at h1 h2
      subst h1 h2
      exact e
  | [], b, x, y, h1, h2 => by simp at h1
  | u :: a, [], x, y, h1, h2 => by simp at h2
theorem at_T {a : Tx} {i : Nat} (h : i < a.length) : atI a (i : Int) = some a[i] := atI_nat (List.getElem?_eq_getElem h)
theorem ok_alike_signs {f : Addr} {fd : FuncData} (F : Fun K "alike_signs" "alike_signs" st_alike_signs f fd) (M : Md K mg) : FnOk P w K mg base CX0 1 f fd ["one", "other"] sp_alike_signs := by
  have nd := sc_alike_signs.nd
  refine F.ok sc_alike_signs (fun vs H Q E h => ?_) (fun cdv A outer s H vs Q E hr h => ?_)
  · obtain ⟨_, _, rfl, _⟩ := h
    rfl
  · obtain ⟨a, b, rfl, ha, hb, k⟩ := h
    refine ⟨_, (pss_cons (ps_set (i := 2) nd rfl (Or.inl rfl) pe_int)
  (pss_cons (ps_while PassesOwn.never (PW.pt (pw_and (pt_cmpR op_lt (pv 2) (pe_callB cr_lenT (by rfl) M.n_len boot_len (pa_cons (pv 0) pa_nil)) (nomark _)) (pw_and (pt_cmpR op_lt (pv 2) (pe_callB cr_lenT (by rfl) M.n_len boot_len (pa_cons (pv 1) pa_nil)) (nomark _)) (pw_and1 (pt_cmpR op_eqT (pe_ix ix_T (pv 0) (pv 2) (fun _ _ => rfl)) (pe_ix ix_T (pv 1) (pv 2) (fun _ _ => rfl)) (nomark _))))))
  (pss_one (ps_aug (i := 2) nd rfl (Or.inl rfl) pe_int ip_add)))
  (pss_one (ps_ret (pv 2))))), ?_⟩
    refine q_asg ev_c fun H1 e1 => ?_
    have hle := alikeSigns_le a b
    refine q_while (fun m σ' H' => ∃ i : Nat, m = alikeSigns a b - i ∧ i ≤ alikeSigns a b ∧ σ' = [some (T a), some (T b), some (.int (i : Int))] ∧ Ex H H') (alikeSigns a b) ⟨0, rfl, Nat.zero_le _, rfl, e1⟩ ?_
    rintro m σ' H' ⟨i, rfl, hi, rfl, e2⟩
    have hla : ∀ H0, Ev (tCB rLenT (tCons (tVar 0) tNil)) [some (T a), some (T b), some (.int (i : Int))] H0 (.int (a.length : Int)) := fun H0 => ev_cb (ea_cons (ev_var rfl) ea_nil) (rc_lenT (by omega))
    have hlb : ∀ H0, Ev (tCB rLenT (tCons (tVar 1) tNil)) [some (T a), some (T b), some (.int (i : Int))] H0 (.int (b.length : Int)) := fun H0 => ev_cb (ea_cons (ev_var rfl) ea_nil) (rc_lenT (by omega))
    refine ⟨decide (i < alikeSigns a b), ?_, fun ht H3 e3 => ?_, fun hf H3 e3 => ?_⟩
    · by_cases h1 : i < a.length
      · by_cases h2 : i < b.length
        · refine et_is (et_and (et_test (ev_op (ev_var rfl) (hla _) rv_I0)) fun _ => et_and (et_test (ev_op (ev_var rfl) (hlb _) rv_I0)) fun _ => et_test (ev_op (ev_op (ev_var rfl) (ev_var rfl) (rv_ixT (by omega) (at_T h1))) (ev_op (ev_var rfl) (ev_var rfl) (rv_ixT (by omega) (at_T h2))) rv_eqT)) ?_
          rw [decide_eq_true (show ((i : Int) < (a.length : Int)) by omega), decide_eq_true (show ((i : Int) < (b.length : Int)) by omega), Bool.true_and, Bool.true_and]
          by_cases h3 : i < alikeSigns a b
          · have h4 := alikeSigns_at a b i h3
            rw [List.getElem?_eq_getElem h1, List.getElem?_eq_getElem h2] at h4
            rw [decide_eq_true h3, decide_eq_true (by rw [Option.some.inj h4])]
          · have h5 : i = alikeSigns a b := by omega
            subst h5
            have h4 := alikeSigns_end a b _ _ (List.getElem?_eq_getElem h1) (List.getElem?_eq_getElem h2)
            rw [decide_eq_false h3, decide_eq_false (fun z => h4 (by simpa using z))]
        · refine et_is (et_and (et_test (ev_op (ev_var rfl) (hla _) rv_I0)) fun _ => et_and (b := false) (et_test (ev_op (ev_var rfl) (hlb _) rv_I0)) fun hz => ?_) ?_
          · exact absurd (of_decide_eq_true hz) (by omega)
          · rw [decide_eq_false (show ¬ ((i : Int) < (b.length : Int)) by omega), decide_eq_false (show ¬ i < alikeSigns a b by omega)]
            simp
      · refine et_is (et_and (b := false) (et_test (ev_op (ev_var rfl) (hla _) rv_I0)) fun hz => ?_) ?_
        · exact absurd (of_decide_eq_true hz) (by omega)
        · rw [decide_eq_false (show ¬ ((i : Int) < (a.length : Int)) by omega), decide_eq_false (show ¬ i < alikeSigns a b by omega)]
          simp
    · have h3 := of_decide_eq_true ht
      refine ⟨fun σ2 H2 => σ2 = [some (T a), some (T b), some (.int ((i + 1 : Nat) : Int))] ∧ Ex H H2, fun σ2 H2 q => ⟨alikeSigns a b - (i + 1), by omega, i + 1, rfl, by omega, q.1, q.2⟩, ?_⟩
      exact s_aug rfl ev_c fun H4 e4 => ⟨rfl, (e2.trans e3).trans e4⟩
    · have h3 := of_decide_eq_false hf
      have h5 : i = alikeSigns a b := by omega
      rw [h5]
      exact s_ret (ev_var rfl) (RetV.mono k (e2.trans e3))
theorem ok_alike_for_ever {f : Addr} {fd : FuncData} (F : Fun K "alike_for_ever" "alike_for_ever" st_alike_for_ever f fd) (M : Md K mg) (C_alike_signs : Cal P w K mg base "alike_signs" st_alike_signs 1 ["one", "other"] sp_alike_signs) : FnOk P w K mg base CX0 2 f fd ["one", "other"] sp_alike_for_ever := by
  have nd := sc_alike_for_ever.nd
  refine F.ok sc_alike_for_ever (fun vs H Q E h => ?_) (fun cdv A outer s H vs Q E hr h => ?_)
  · obtain ⟨_, _, rfl, _⟩ := h
    rfl
  · obtain ⟨a, b, rfl, ha, hb, hna, hnb, k⟩ := h
    refine ⟨_, (pss_cons (ps_if (pt_cmpR op_eqT (pe_op op_addT (pv 0) (pv 1)) (pe_op op_addT (pv 1) (pv 0)) (nomark _))
  (pss_one (ps_ret pe_non))
  pss_nil)
  (pss_cons (ps_set (i := 2) nd rfl (Or.inl rfl) (pe_op op_add (pe_callB cr_lenT (by rfl) M.n_len boot_len (pa_cons (pv 0) pa_nil)) (pe_callB cr_lenT (by rfl) M.n_len boot_len (pa_cons (pv 1) pa_nil))))
  (pss_one (ps_ret (pe_cl C_alike_signs hr (pa_cons (pe_op op_mulT (pv 0) (pe_op op_add (pe_op op_fdivW (pv 2) (pe_callB cr_lenT (by rfl) M.n_len boot_len (pa_cons (pv 0) pa_nil))) pe_int)) (pa_cons (pe_op op_mulT (pv 1) (pe_op op_add (pe_op op_fdivW (pv 2) (pe_callB cr_lenT (by rfl) M.n_len boot_len (pa_cons (pv 1) pa_nil))) pe_int)) pa_nil))))))), ?_⟩
    have hpa : 0 < a.length := List.length_pos_iff.mpr hna
    have hpb : 0 < b.length := List.length_pos_iff.mpr hnb
    refine q_when (et_test (ev_op (ev_op (ev_var rfl) (ev_var rfl) (rv_addT (by omega))) (ev_op (ev_var rfl) (ev_var rfl) (rv_addT (by omega))) rv_eqT)) (fun h1 H1 e1 => ?_) (fun h1 H1 e1 => ?_)
    · have hc : a ++ b = b ++ a := by simpa using h1
      unfold alikeForEver at k
      rw [if_pos hc] at k
      exact s_ret ev_c (RetV.mono k e1)
    · have hc : ¬ a ++ b = b ++ a := by simpa using h1
      unfold alikeForEver at k
      rw [if_neg hc] at k
      refine q_asg (ev_op (ev_cb (ea_cons (ev_var rfl) ea_nil) (rc_lenT (a := a) (by omega))) (ev_cb (ea_cons (ev_var rfl) ea_nil) (rc_lenT (a := b) (by omega))) rv_I0) fun H2 e2 => ?_
      have hd : ∀ (x : Tx), 0 < x.length → ((a.length : Int) + (b.length : Int)) / (x.length : Int) = (((a.length + b.length) / x.length : Nat) : Int) := fun x _ => by
        rw [Int.natCast_ediv, Int.natCast_add]
      have hq : ∀ (x : Tx), 0 < x.length → (a.length + b.length) / x.length ≤ 800 := fun x _ => Nat.le_trans (Nat.div_le_self _ _) (by omega)
      have hx : ∀ (x : Tx) (i : Nat) (H0 : Hp), 0 < x.length → x.length ≤ 400 → ([some (T a), some (T b), some (.int ((a.length : Int) + (b.length : Int)))] : L2.St)[i]? = some (some (T x)) →
          Ev (tOp rMulT (tVar i) (tOp (rI0 fun i j => .int (i + j)) (tOp (rI CDivW fun i j => .int (i / j)) (tVar 2) (tCB rLenT (tCons (tVar i) tNil))) (tC (.int 1)))) [some (T a), some (T b), some (.int ((a.length : Int) + (b.length : Int)))] H0 (T (repT ((a.length + b.length) / x.length + 1) x)) := fun x i H0 hp hl hi => by
        have h5 := hq x hp
        have h6 := hd x hp
        generalize hqq : (a.length + b.length) / x.length = q0 at h5 h6 ⊢
        refine ev_is (ev_op (ev_var hi) (ev_op (ev_op (ev_var rfl) (ev_cb (ea_cons (ev_var hi) ea_nil) (rc_lenT (a := x) (by omega))) (rv_I (divW (by omega) (by omega)))) ev_c rv_I0) (rv_mulT ?_ ?_ ?_)) ?_
        · rw [h6]
          omega
        · rw [h6]
          omega
        · rw [h6]
          have : x.length * ((q0 : Int) + 1).toNat ≤ 400 * 801 := Nat.mul_le_mul hl (by omega)
          omega
        · rw [h6]
          rfl
      have hlen : ∀ (x : Tx), 0 < x.length → x.length ≤ 400 → (repT ((a.length + b.length) / x.length + 1) x).length ≤ 20000 := fun x hp hl => by
        rw [repT_len, Nat.succ_mul]
        have := Nat.div_mul_le_self (a.length + b.length) x.length
        omega
      exact s_ret (ev_call (ea_cons (hx a 0 _ hpa ha rfl) (ea_cons (hx b 1 _ hpb hb rfl) ea_nil)) fun H3 e3 Q q E => ⟨_, _, rfl, hlen a hpa ha, hlen b hpb hb, q⟩) (RetV.mono k (e1.trans e2))
/-! ### links_between -/
theorem linksB_yes {a b : Tx} {i : Nat} (h : isLink a b i = true) (hl : (linksB a b i).length < 20) : linksB a b (i + 1) = linksB a b i ++ [linkAt a i] := by
  unfold linksB at hl ⊢
  rw [List.length_take] at hl
  rw [List.range_succ, List.filter_append, List.map_append]
  have e : (List.filter (isLink a b) [i]) = [i] := by simp [h]
  rw [e]
  rw [List.take_of_length_le (by rw [List.length_append]; show _ + 1 ≤ 20; omega), List.take_of_length_le (by omega)]
  rfl
theorem linksB_no {a b : Tx} {i : Nat} (h : isLink a b i = false ∨ ¬ (linksB a b i).length < 20) : linksB a b (i + 1) = linksB a b i := by
  unfold linksB at h ⊢
  rw [List.range_succ, List.filter_append, List.map_append]
  rcases h with h | h
  · simp [h]
  · rw [List.length_take] at h
    rw [List.take_append_of_le_length (by omega)]
theorem linkAt_len (a : Tx) (m : Nat) : (linkAt a m).length ≤ m := by
  unfold linkAt
  rw [List.length_take]
  omega
theorem linksB_len (a b : Tx) (n : Nat) : (linksB a b n).length ≤ 20 := by
  unfold linksB
  rw [List.length_take]
  omega
theorem ok_links_between {f : Addr} {fd : FuncData} (F : Fun K "links_between" "links_between" st_links_between f fd) (M : Md K mg) : FnOk P w K mg base CX0 1 f fd ["one", "other", "most", "long"] sp_links_between := by
  have nd := sc_links_between.nd
  refine F.ok sc_links_between (fun vs H Q E h => ?_) (fun cdv A outer s H vs Q E hr h => ?_)
  · obtain ⟨_, _, rfl, _⟩ := h
    rfl
  · obtain ⟨a, b, rfl, ha, hb, hna, k⟩ := h
    refine ⟨_, (pss_cons (ps_set (i := 4) nd rfl (Or.inl rfl) (pe_lst pa_nil))
  (pss_cons (ps_for PassesOwn.never rfl (pi_range1 (by rfl) M.n_range (pa_cons (pe_op op_add (pv 3) pe_int) pa_nil)) (pg_name (i := 5) nd rfl (Or.inl rfl))
  (pss_cons (ps_set (i := 6) nd rfl (Or.inl rfl) (pe_slice sl_T (pe_op op_mulT (pv 0) (pe_op op_add (pe_op op_fdivW (pv 5) (pe_callB cr_lenT (by rfl) M.n_len boot_len (pa_cons (pv 0) pa_nil))) pe_int)) po_none (po_some (pv 5))))
  (pss_one (ps_if (PW.pt (pw_and (pt_cmpR op_eqT (pe_op op_addT (pv 0) (pv 6)) (pe_op op_addT (pv 6) (pv 1)) (nomark _)) (pw_and1 (pt_cmpR op_lt (pe_callB (kcr K (r := rLenS) call_len_seq) (by rfl) M.n_len boot_len (pa_cons (pv 4) pa_nil)) (pv 2) (nomark _)))))
  (pss_one (ps_expr (kbm K (pe_bm PySem.F.plainAttrs_list PySem.F.slot_list_append PySem.F.type_list_append mt_append (pv 4) (pa_cons (pv 6) pa_nil)))))
  pss_nil))))
  (pss_one (ps_ret (pv 4))))), ?_⟩
    have hpa : 0 < a.length := List.length_pos_iff.mpr hna
    refine q_asgL (el_lst ea_nil (by decide)) fun fo H1 nfo e1 hfo => ?_
    refine q_forW (fun c => c = fo) (src_range1 (n := 41) (ea_cons (ev_op (ev_var rfl) ev_c rv_I0) ea_nil) (by decide)) ?_
      (fun Hs i σ' H' => ∃ y5 y6, σ' = [some (T a), some (T b), some (.int 20), some (.int 40), some (.ref fo), y5, y6] ∧ Exc (fun c => c = fo) Hs H' ∧ H' fo = some (.lst ((linksB a b i).map T))) ?_ ?_ ?_ ?_ ?_
    · rintro c rfl
      exact ⟨by rw [hfo]; exact fun z => (nomatch z), fun z => z⟩
    · intro Hs e
      exact ⟨none, none, rfl, Exc.refl _, e _ _ hfo⟩
    · rintro Hs i σ' H' ⟨_, _, _, h1, _⟩
      exact h1
    · rintro Hs i σ' Ha Hb ⟨y5, y6, h0, h1, h2⟩ e
      exact ⟨y5, y6, h0, h1.then e, e _ _ h2⟩
    · rintro Hs i x σ' H' e hi ⟨y5, y6, rfl, h1, h2⟩ rfl
      show tSeq _ _ _ [some (T a), some (T b), some (.int 20), some (.int 40), some (.ref fo), some (.int (i : Int)), y6] H'
      have hd : (i : Int) / (a.length : Int) = ((i / a.length : Nat) : Int) := by rw [Int.natCast_ediv]
      have hq : i / a.length ≤ 40 := Nat.le_trans (Nat.div_le_self _ _) (by omega)
      have hll := linkAt_len a i
      refine q_asg (v := T (linkAt a i)) ?_ fun H2 e2 => ?_
      · unfold linkAt
        generalize hqq : i / a.length = q0 at hd hq ⊢
        have hm : a.length * ((q0 : Int) + 1).toNat ≤ 400 * 41 := Nat.mul_le_mul ha (by omega)
        have hm2 : (repT ((q0 : Int) + 1).toNat a).length ≤ 16777216 := by
          rw [repT_len, Nat.mul_comm]
          omega
        refine ev_is (ev_slT (ev_op (ev_var rfl) (ev_op (ev_is (ev_op (ev_var rfl) (ev_cb (ea_cons (ev_var rfl) ea_nil) (rc_lenT (a := a) (by omega))) (rv_I (divW (by omega) (by omega)))) (by rw [hd])) ev_c rv_I0) (rv_mulT (by omega) (by omega) (by omega))) eo_none (eo_some (ev_var rfl)) hm2) ?_
        rw [cutT_to, show ((q0 : Int) + 1).toNat = q0 + 1 by omega]
      · refine s_when (et_and (et_test (ev_op (ev_op (ev_var rfl) (ev_var rfl) (rv_addT (by omega))) (ev_op (ev_var rfl) (ev_var rfl) (rv_addT (by omega))) rv_eqT)) fun _ => et_test (ev_op (ev_len (ev_var rfl) (sq_of (e2 _ _ h2))) (ev_var rfl) rv_I0)) (fun hb2 H3 e3 => ?_) (fun hb2 H3 e3 => ?_)
        · rw [Bool.and_eq_true] at hb2
          have h5 : isLink a b i = true := hb2.1
          have h6 : (linksB a b i).length < 20 := by
            have := of_decide_eq_true hb2.2
            rw [List.length_map] at this
            omega
          refine s_app (e3 _ _ (e2 _ _ h2)) (ev_var rfl) (ev_var rfl) (by rw [List.length_map]; omega) fun H4 e4 => ?_
          refine ⟨_, _, rfl, ((h1.then (e2.trans (e3.trans e4))).upd (.inl rfl)), ?_⟩
          rw [upd_same, linksB_yes h5 h6, List.map_append]
          rfl
        · refine ⟨_, _, rfl, h1.then (e2.trans e3), ?_⟩
          rw [linksB_no, (e2.trans e3) _ _ h2]
          have h5 : (isLink a b i && decide (((linksB a b i).map T).length < 20)) = false := by
            rw [← hb2]
            congr 1
            by_cases h6 : ((linksB a b i).map T).length < 20
            · rw [decide_eq_true h6, decide_eq_true (by omega)]
            · rw [decide_eq_false h6, decide_eq_false (by omega)]
          rw [Bool.and_eq_false_iff] at h5
          rcases h5 with h5 | h5
          · exact .inl h5
          · refine .inr ?_
            have := of_decide_eq_false h5
            rwa [List.length_map] at this
    · rintro Hs σ' H' e ⟨y5, y6, rfl, h1, h2⟩
      refine s_ret (ev_var rfl) fun H2 e2 => k fo H2 nfo ?_ (e2 _ _ h2)
      intro c o hc
      have hne : c ≠ fo := ne_of_none hc nfo
      exact e2 _ _ (h1 _ _ hne (e _ _ (e1 _ _ hc)))
/-! ### the functions that are asked -/
def RetI (o : Option Nat) (H : Hp) (Q : VK) : Prop := RetV (optV (fun (n : Nat) => .int (n : Int)) o) H Q
def isTxt (a : Tx) : Prop := a.length ≤ 400 ∧ ∀ c ∈ a, c ∈ [97, 98, 99, 100]
theorem isTxt.ok {a : Tx} (h : isTxt a) : areSigns a 400 = true := by
  unfold areSigns
  rw [Bool.and_eq_true]
  refine ⟨decide_eq_true (by have := h.1; omega), ?_⟩
  rw [List.all_eq_true]
  exact fun c hc => decide_eq_true (h.2 c hc)
def turnedBy (a b : Tx) : List Nat := if a.length = b.length then (List.range (max 1 a.length)).filter (fun k => decide (a.drop k ++ a.take k = b)) else []
def sp_change_places : Sp := fun vs H Q _ => ∃ (a b : Tx), vs = [T a, T b] ∧ isTxt a ∧ isTxt b ∧ RetV (.bl (decide (a ++ b = b ++ a))) H Q
def sp_common_root : Sp := fun vs H Q _ => ∃ (a b : Tx), vs = [T a, T b] ∧ isTxt a ∧ isTxt b ∧ RetR (sharedRoot a b) H Q
def sp_equal_power : Sp := fun vs H Q _ => ∃ (a b : Tx), vs = [T a, T b] ∧ isTxt a ∧ isTxt b ∧ a ≠ [] ∧ b ≠ [] ∧ RetV (optV T (leastPower a b)) H Q
def sp_shared_beginning : Sp := fun vs H Q _ => ∃ (a b : Tx), vs = [T a, T b] ∧ isTxt a ∧ isTxt b ∧ a ≠ [] ∧ b ≠ [] ∧ RetI (alikeForEver a b) H Q
def sp_turned_by : Sp := fun vs H Q _ => ∃ (a b : Tx), vs = [T a, T b] ∧ isTxt a ∧ isTxt b ∧ RetL ((turnedBy a b).map fun (n : Nat) => V.int (n : Int)) H Q
def sp_between : Sp := fun vs H Q _ => ∃ (a b : Tx), vs = [T a, T b] ∧ isTxt a ∧ isTxt b ∧ a ≠ [] ∧ b ≠ [] ∧ RetL ((linksB a b 41).map T) H Q
theorem RetR.mono {o : Option (Tx × Nat × Nat)} {H H1 : Hp} {Q : VK} (k : RetR o H Q) (e : Ex H H1) : RetR o H1 Q := by
  cases o with
  | none => exact RetV.mono k e
  | some r => exact RetU.mono k e
theorem ev_need {n : Nat} {sp : Sp} {σ : L2.St} {H : Hp} {i : Nat} {a : Tx} (hi : σ[i]? = some (some (T a))) (h : ∀ H1 Q E, RetV .non H1 Q → sp [T a] H1 Q E) : Ev (tCall sp [] E0 (tCons (tVar i) tNil)) σ H .non :=
  ev_call (ea_cons (ev_var hi) ea_nil) fun H1 e1 Q q E => h H1 Q E q
theorem ok_change_places {f : Addr} {fd : FuncData} (F : Fun K "change_places" "change_places" st_change_places f fd) (M : Md K mg) (C_need_text : Cal P w K mg base "need_text" st_need_text 3 ["text"] sp_need_text) : FnOk P w K mg base CX0 4 f fd ["one", "other"] sp_change_places := by
  have nd := sc_change_places.nd
  refine F.ok sc_change_places (fun vs H Q E h => ?_) (fun cdv A outer s H vs Q E hr h => ?_)
  · obtain ⟨_, _, rfl, _⟩ := h
    rfl
  · obtain ⟨a, b, rfl, ha, hb, k⟩ := h
    refine ⟨_, (pss_cons (ps_expr (pe_cl C_need_text hr (pa_cons (pv 0) pa_nil)))
  (pss_cons (ps_expr (pe_cl C_need_text hr (pa_cons (pv 1) pa_nil)))
  (pss_one (ps_ret (pe_cmpR op_eqT (pe_op op_addT (pv 0) (pv 1)) (pe_op op_addT (pv 1) (pv 0)) (nomark _)))))), ?_⟩
    have h1 := ha.1
    have h2 := hb.1
    refine q_drop (ev_need (n := 0) rfl fun H1 Q E q => ⟨a, rfl, by omega, ha.ok, q⟩) fun H1 e1 => q_drop (ev_need (n := 0) rfl fun H1 Q E q => ⟨b, rfl, by omega, hb.ok, q⟩) fun H2 e2 => ?_
    exact s_ret (ev_op (ev_op (ev_var rfl) (ev_var rfl) (rv_addT (by omega))) (ev_op (ev_var rfl) (ev_var rfl) (rv_addT (by omega))) rv_eqT) (RetV.mono k (e1.trans e2))
theorem ok_common_root {f : Addr} {fd : FuncData} (F : Fun K "common_root" "common_root" st_common_root f fd) (M : Md K mg) (C_need_text : Cal P w K mg base "need_text" st_need_text 3 ["text"] sp_need_text) (C_shared_root : Cal P w K mg base "shared_root" st_shared_root 2 ["one", "other"] sp_shared_root) : FnOk P w K mg base CX0 4 f fd ["one", "other"] sp_common_root := by
  have nd := sc_common_root.nd
  refine F.ok sc_common_root (fun vs H Q E h => ?_) (fun cdv A outer s H vs Q E hr h => ?_)
  · obtain ⟨_, _, rfl, _⟩ := h
    rfl
  · obtain ⟨a, b, rfl, ha, hb, k⟩ := h
    refine ⟨_, (pss_cons (ps_expr (pe_cl C_need_text hr (pa_cons (pv 0) pa_nil)))
  (pss_cons (ps_expr (pe_cl C_need_text hr (pa_cons (pv 1) pa_nil)))
  (pss_one (ps_ret (pe_cl C_shared_root hr (pa_cons (pv 0) (pa_cons (pv 1) pa_nil))))))), ?_⟩
    have h1 := ha.1
    have h2 := hb.1
    refine q_drop (ev_need (n := 0) rfl fun H1 Q E q => ⟨a, rfl, by omega, ha.ok, q⟩) fun H1 e1 => q_drop (ev_need (n := 0) rfl fun H1 Q E q => ⟨b, rfl, by omega, hb.ok, q⟩) fun H2 e2 => ?_
    exact s_retC (ea_cons (ev_var rfl) (ea_cons (ev_var rfl) ea_nil)) fun H3 e3 => ⟨a, b, rfl, h1, h2, RetR.mono k ((e1.trans e2).trans e3)⟩
theorem ok_equal_power {f : Addr} {fd : FuncData} (F : Fun K "equal_power" "equal_power" st_equal_power f fd) (M : Md K mg) (C_need_some_text : Cal P w K mg base "need_some_text" st_need_some_text 3 ["text"] sp_need_some_text) (C_least_power : Cal P w K mg base "least_power" st_least_power 2 ["one", "other"] sp_least_power) : FnOk P w K mg base CX0 4 f fd ["one", "other"] sp_equal_power := by
  have nd := sc_equal_power.nd
  refine F.ok sc_equal_power (fun vs H Q E h => ?_) (fun cdv A outer s H vs Q E hr h => ?_)
  · obtain ⟨_, _, rfl, _⟩ := h
    rfl
  · obtain ⟨a, b, rfl, ha, hb, hna, hnb, k⟩ := h
    refine ⟨_, (pss_cons (ps_expr (pe_cl C_need_some_text hr (pa_cons (pv 0) pa_nil)))
  (pss_cons (ps_expr (pe_cl C_need_some_text hr (pa_cons (pv 1) pa_nil)))
  (pss_one (ps_ret (pe_cl C_least_power hr (pa_cons (pv 0) (pa_cons (pv 1) pa_nil))))))), ?_⟩
    have h1 := ha.1
    have h2 := hb.1
    refine q_drop (ev_need (n := 0) rfl fun H1 Q E q => ⟨a, rfl, by omega, ha.ok, hna, q⟩) fun H1 e1 => q_drop (ev_need (n := 0) rfl fun H1 Q E q => ⟨b, rfl, by omega, hb.ok, hnb, q⟩) fun H2 e2 => ?_
    exact s_retC (ea_cons (ev_var rfl) (ea_cons (ev_var rfl) ea_nil)) fun H3 e3 => ⟨a, b, rfl, h1, h2, hna, hnb, RetV.mono k ((e1.trans e2).trans e3)⟩
theorem ok_shared_beginning {f : Addr} {fd : FuncData} (F : Fun K "shared_beginning" "shared_beginning" st_shared_beginning f fd) (M : Md K mg) (C_need_some_text : Cal P w K mg base "need_some_text" st_need_some_text 3 ["text"] sp_need_some_text) (C_alike_for_ever : Cal P w K mg base "alike_for_ever" st_alike_for_ever 2 ["one", "other"] sp_alike_for_ever) : FnOk P w K mg base CX0 4 f fd ["one", "other"] sp_shared_beginning := by
  have nd := sc_shared_beginning.nd
  refine F.ok sc_shared_beginning (fun vs H Q E h => ?_) (fun cdv A outer s H vs Q E hr h => ?_)
  · obtain ⟨_, _, rfl, _⟩ := h
    rfl
  · obtain ⟨a, b, rfl, ha, hb, hna, hnb, k⟩ := h
    refine ⟨_, (pss_cons (ps_expr (pe_cl C_need_some_text hr (pa_cons (pv 0) pa_nil)))
  (pss_cons (ps_expr (pe_cl C_need_some_text hr (pa_cons (pv 1) pa_nil)))
  (pss_one (ps_ret (pe_cl C_alike_for_ever hr (pa_cons (pv 0) (pa_cons (pv 1) pa_nil))))))), ?_⟩
    have h1 := ha.1
    have h2 := hb.1
    refine q_drop (ev_need (n := 0) rfl fun H1 Q E q => ⟨a, rfl, by omega, ha.ok, hna, q⟩) fun H1 e1 => q_drop (ev_need (n := 0) rfl fun H1 Q E q => ⟨b, rfl, by omega, hb.ok, hnb, q⟩) fun H2 e2 => ?_
    exact s_retC (ea_cons (ev_var rfl) (ea_cons (ev_var rfl) ea_nil)) fun H3 e3 => ⟨a, b, rfl, h1, h2, hna, hnb, RetV.mono k ((e1.trans e2).trans e3)⟩
theorem ok_between {f : Addr} {fd : FuncData} (F : Fun K "between" "between" st_between f fd) (M : Md K mg) (C_need_some_text : Cal P w K mg base "need_some_text" st_need_some_text 3 ["text"] sp_need_some_text) (C_links_between : Cal P w K mg base "links_between" st_links_between 1 ["one", "other", "most", "long"] sp_links_between) : FnOk P w K mg base CX0 4 f fd ["one", "other"] sp_between := by
  have nd := sc_between.nd
  refine F.ok sc_between (fun vs H Q E h => ?_) (fun cdv A outer s H vs Q E hr h => ?_)
  · obtain ⟨_, _, rfl, _⟩ := h
    rfl
  · obtain ⟨a, b, rfl, ha, hb, hna, hnb, k⟩ := h
    refine ⟨_, (pss_cons (ps_expr (pe_cl C_need_some_text hr (pa_cons (pv 0) pa_nil)))
  (pss_cons (ps_expr (pe_cl C_need_some_text hr (pa_cons (pv 1) pa_nil)))
  (pss_one (ps_ret (pe_cl C_links_between hr (pa_cons (pv 0) (pa_cons (pv 1) (pa_cons (pe_gI M.c_MOST_LINKS) (pa_cons (pe_gI M.c_LONGEST_LINK) pa_nil))))))))), ?_⟩
    have h1 := ha.1
    have h2 := hb.1
    refine q_drop (ev_need (n := 0) rfl fun H1 Q E q => ⟨a, rfl, by omega, ha.ok, hna, q⟩) fun H1 e1 => q_drop (ev_need (n := 0) rfl fun H1 Q E q => ⟨b, rfl, by omega, hb.ok, hnb, q⟩) fun H2 e2 => ?_
    exact s_retC (ea_cons (ev_var rfl) (ea_cons (ev_var rfl) (ea_cons ev_c (ea_cons ev_c ea_nil)))) fun H3 e3 => ⟨a, b, rfl, h1, h2, hna, RetL.mono k ((e1.trans e2).trans e3)⟩
theorem ok_turned_by {f : Addr} {fd : FuncData} (F : Fun K "turned_by" "turned_by" st_turned_by f fd) (M : Md K mg) (C_need_text : Cal P w K mg base "need_text" st_need_text 3 ["text"] sp_need_text) : FnOk P w K mg base CX0 4 f fd ["one", "other"] sp_turned_by := by
  have nd := sc_turned_by.nd
  refine F.ok sc_turned_by (fun vs H Q E h => ?_) (fun cdv A outer s H vs Q E hr h => ?_)
  · obtain ⟨_, _, rfl, _⟩ := h
    rfl
  · obtain ⟨a, b, rfl, ha, hb, k⟩ := h
    refine ⟨_, (pss_cons (ps_expr (pe_cl C_need_text hr (pa_cons (pv 0) pa_nil)))
  (pss_cons (ps_expr (pe_cl C_need_text hr (pa_cons (pv 1) pa_nil)))
  (pss_cons (ps_if (pt_cmpR op_neI (pe_callB cr_lenT (by rfl) M.n_len boot_len (pa_cons (pv 0) pa_nil)) (pe_callB cr_lenT (by rfl) M.n_len boot_len (pa_cons (pv 1) pa_nil)) (nomark _))
  (pss_one (ps_ret (pe_lst pa_nil)))
  pss_nil)
  (pss_one (ps_ret (pe_lc (own := [("many", 2)]) rfl nd (pi_range1 (by rfl) M.n_range (pa_cons (pe_callB (kcr K (r := rMax) (cr_max rfl)) (by rfl) M.n_max boot_max (pa_cons (pe_lst (pa_cons pe_int (pa_cons (pe_callB cr_lenT (by rfl) M.n_len boot_len (pa_cons (pv 0) pa_nil)) pa_nil))) pa_nil)) pa_nil)) (blkOk_by (N := N_turned_by) (sc := defScope st_turned_by) (by decide +kernel)) (fun _ _ _ _ _ => (pg_name (i := 2) nd rfl (Or.inl rfl))) (fun _ _ _ _ _ => (pts_one (pt_cmpR op_eqT (pe_op op_addT (pe_slice sl_T (pv 0) (po_some (pv 2)) po_none) (pe_slice sl_T (pv 0) po_none (po_some (pv 2)))) (pv 1) (nomark _)))) (fun _ _ _ _ _ => (pv 2)))))))), ?_⟩
    have h1 := ha.1
    have h2 := hb.1
    refine q_drop (ev_need (n := 0) rfl fun H1 Q E q => ⟨a, rfl, by omega, ha.ok, q⟩) fun H1 e1 => q_drop (ev_need (n := 0) rfl fun H1 Q E q => ⟨b, rfl, by omega, hb.ok, q⟩) fun H2 e2 => ?_
    have hla : ∀ σ H0, σ[0]? = some (some (T a)) → Ev (tCB rLenT (tCons (tVar 0) tNil)) σ H0 (.int (a.length : Int)) := fun σ H0 hi => ev_cb (ea_cons (ev_var hi) ea_nil) (rc_lenT (by omega))
    refine q_when (et_test (ev_op (hla _ _ rfl) (ev_cb (ea_cons (ev_var rfl) ea_nil) (rc_lenT (a := b) (by omega))) rv_I0)) (fun hc H3 e3 => ?_) (fun hc H3 e3 => ?_)
    · have hne : ¬ a.length = b.length := by
        intro z
        rw [z] at hc
        simp at hc
      unfold turnedBy at k
      rw [if_neg hne] at k
      exact s_retL (el_lst ea_nil (by decide)) (RetL.mono k ((e1.trans e2).trans e3))
    · have he : a.length = b.length := by
        have : decide ((a.length : Int) = (b.length : Int)) = true := by simpa using hc
        have := of_decide_eq_true this
        omega
      unfold turnedBy at k
      rw [if_pos he] at k
      have hmax : Ev (tCB (rMax K) (tCons (tLst (tCons (tC (.int 1)) (tCons (tCB rLenT (tCons (tVar 0) tNil)) tNil))) tNil)) (wipe (start N_turned_by [T a, T b]) []) H3 (.int ((max 1 a.length : Nat) : Int)) := by
        refine ev_cbL (el_lst (ea_cons ev_c (ea_cons (hla _ _ rfl) ea_nil)) (by show 2 ≤ 100000; decide)) fun p H4 hp e4 H5 e5 Q q => ?_
        refine ⟨p, [1, (a.length : Int)], rfl, ex_l e5 (sq_of hp), by show 0 < 2; decide, fun m hm hle => ?_⟩
        have g1 := hle 1 (by simp)
        have g2 := hle (a.length : Int) (by simp)
        have g3 : m = ((max 1 a.length : Nat) : Int) := by
          simp at hm
          omega
        rw [g3]
        exact q H5 (Ex.refl _)
      refine s_retL ?_ (RetL.mono k ((e1.trans e2).trans e3))
      refine el_lcF (f := fun (i : Nat) => V.int (i : Int)) (g := fun (i : Nat) => V.int (i : Int)) (List.range (max 1 a.length)) (src_range1L (ea_cons hmax ea_nil) (by omega)) (by rw [List.length_range]; omega) (fun _ => rfl) (fun i H4 e4 hi => ?_) (fun i H4 e4 hi _ => ev_var rfl)
      refine et_is (et_test (ev_op (ev_op (ev_slT (ev_var rfl) (eo_some (ev_var rfl)) eo_none (by omega)) (ev_slT (ev_var rfl) eo_none (eo_some (ev_var rfl)) (by omega)) (rv_addT ?_)) (ev_var rfl) rv_eqT)) ?_
      · have g1 := cutT_len a (some (i : Int)) none
        have g2 := cutT_len a none (some (i : Int))
        omega
      · rw [cutT_from, cutT_to]
end
end K02
set_option Elab.async false
set_option linter.all false
set_option maxRecDepth 100000
set_option maxHeartbeats 2000000
set_option exponentiation.threshold 5000
namespace K02
open PySem PySem.Spec PyProof.Rows L2 Evl Wc Wm
section
variable {P : Program} {w : World} {K : PySem.W.Frag} {mg : Str → Option Value} {base : Heap}
theorem ok__law_draw {f : Addr} {fd : FuncData} (F : Fun K "_law_draw" "_law_draw" st__law_draw f fd) (M : Md K mg) : FnOk P w K mg base CX0 1 f fd ["feed", "many"] sp_draw := by
  have nd := sc__law_draw.nd
  refine F.ok sc__law_draw (fun vs H Q E h => ?_) (fun cdv A outer s H vs Q E hr h => ?_)
  · obtain ⟨_, _, rfl, _⟩ := h
    rfl
  · obtain ⟨fa, many, rfl, ⟨n0, hn0, a, b, c, e, hfa, ha0, he1, he2, hae, hb0, hb1, hc0, hc1⟩, hm0, hm1, k⟩ := h
    refine ⟨_, (pss_cons (ps_if (pt_cmpR op_gt (pe_ix (kix K (r := L2.rIxL) ix_list) (pv 0) pe_int (fun _ _ => rfl)) pe_int (nomark _))
  (pss_cons (ps_set (i := 2) nd rfl (Or.inl rfl) (pe_op op_fdivW (pe_ix (kix K (r := L2.rIxL) ix_list) (pv 0) pe_int (fun _ _ => rfl)) (pv 1)))
  (pss_cons (ps_set (i := 3) nd rfl (Or.inl rfl) (pe_op op_sub (pe_ix (kix K (r := L2.rIxL) ix_list) (pv 0) pe_int (fun _ _ => rfl)) (pe_op op_mulB (pv 2) (pv 1))))
  (pss_cons (ps_asg (pv 2) (pg_sub (pv 0) pe_int set_list))
  (pss_one (ps_ret (pv 3))))))
  pss_nil)
  (pss_cons (ps_asg (pe_op op_add (pe_ix (kix K (r := L2.rIxL) ix_list) (pv 0) pe_int (fun _ _ => rfl)) pe_int) (pg_sub (pv 0) pe_int set_list))
  (pss_cons (ps_set (i := 4) nd rfl (Or.inl rfl) (pe_op op_add (pe_ix (kix K (r := L2.rIxL) ix_list) (pv 0) pe_int (fun _ _ => rfl)) (pe_op op_mulB pe_int (pe_ix (kix K (r := L2.rIxL) ix_list) (pv 0) pe_int (fun _ _ => rfl)))))
  (pss_cons (ps_set (i := 4) nd rfl (Or.inl rfl) (pe_op op_modP (pe_callTy call_int1 (by rfl) M.n_int boot_int (pa_cons (pe_op op_add (pe_op op_mulB (pe_op op_mulB (pv 4) (pv 4)) (pv 4)) (pe_op op_mulB pe_int (pe_ix (kix K (r := L2.rIxL) ix_list) (pv 0) pe_int (fun _ _ => rfl)))) pa_nil)) (pe_op op_add (pe_op op_pow pe_int pe_int) pe_int)))
  (pss_cons (ps_set (i := 4) nd rfl (Or.inl rfl) (pe_op op_modP (pe_callTy call_int1 (by rfl) M.n_int boot_int (pa_cons (pe_op op_add (pe_op op_mulB (pv 4) (pv 4)) pe_int) pa_nil)) (pe_op op_add (pe_op op_pow pe_int pe_int) pe_int)))
  (pss_one (ps_ret (pe_op op_modP (pe_callTy call_int1 (by rfl) M.n_int boot_int (pa_cons (pe_op op_fdivW (pv 4) (pe_op op_pow pe_int pe_int)) pa_nil)) (pv 1))))))))), ?_⟩
    have hcap : (n0 : Int) + 1 ≤ 1000000000000000000 := by
      have : n0 + 1 ≤ 1000000000000000000 := hn0
      omega
    have hmany : many.natAbs < 2 ^ 300 := Nat.lt_of_le_of_lt (show many.natAbs ≤ 10 ^ 61 by omega) (by decide)
    have hdm : CDivW a many := wide_div (b := 300) hm0 hmany (by decide) (by decide)
    have ge0 : ∀ H1, Ex H H1 → Ev (tOp (L2.rIxL K) (tVar 0) (tC (.int 0))) (start N__law_draw [.ref fa, .int many]) H1 (.int a) := fun H1 e1 => ev_op (ev_var rfl) ev_c (rv_ixL (sq_of (e1 _ _ hfa)) rfl)
    refine q_when (et_test (ev_op (ge0 H (Ex.refl _)) ev_c rv_I0)) (fun h1 H1 e1 => ?_) (fun h1 H1 e1 => ?_)
    · have hap : 0 < a := of_decide_eq_true h1
      refine q_asg (ev_op (ev_op (ev_var rfl) ev_c (rv_ixL (sq_of (e1 _ _ hfa)) rfl)) (ev_var rfl) (rv_I hdm)) fun H2 e2 => ?_
      have hr0 : 0 ≤ a / many := Int.ediv_nonneg ha0 (by omega)
      have hr1 : a / many ≤ a := Int.ediv_le_self _ ha0
      have hrn : (a / many).natAbs < 2 ^ e := Nat.lt_of_le_of_lt (by omega) hae
      have hg : a - a / many * many = a % many := by
        rw [Int.emod_def, Int.mul_comm]
      have hg0 : 0 ≤ a % many := Int.emod_nonneg _ (by omega)
      have hg1 : a % many < many := Int.emod_lt_of_pos _ hm0
      refine q_asg (v := .int (((a % many).toNat : Nat) : Int)) (ev_is (ev_op (ev_op (ev_var rfl) ev_c (rv_ixL (sq_of (e2 _ _ (e1 _ _ hfa))) rfl)) (ev_op (ev_var rfl) (ev_var rfl) (rv_I (mulB hrn hmany (by omega) (by decide) (by omega)))) rv_I0) (by rw [hg]; congr 1; omega)) fun H3 e3 => ?_
      have hf3 := e3 _ _ (e2 _ _ (e1 _ _ hfa))
      refine q_setL (j := 0) hf3 (ev_var rfl) (ev_var rfl) ev_c (by show 0 < 3; decide) fun H4 e4 => ?_
      refine s_ret (ev_var rfl) fun H5 e5 => k (a % many).toNat H5 (by omega) ⟨?_, fun n hn hF => ?_⟩
      · exact Exc.then (Exc.upd (B := fun c => c = fa) (Exc.of (((e1.trans e2).trans e3).trans e4)) (.inl rfl)) e5
      · obtain ⟨a', b', c', e', g1, g2, g3, g4, g5, g6, g7, g8, g9⟩ := hF
        rw [hfa] at g1
        injection g1 with g1
        injection g1 with g1
        injection g1 with x1 g1
        injection g1 with x2 g1
        injection g1 with x3 g1
        injection x1 with x1
        injection x2 with x2
        injection x3 with x3
        subst x1 x2 x3
        exact ⟨a / many, b, c, e, e5 _ _ upd_same, hr0, he1, he2, hrn, hb0, hb1, hc0, by omega⟩
    · have ha : a = 0 := by
        have := of_decide_eq_false h1
        omega
      subst ha
      -- feed[2] = feed[2] + 1
      refine q_setL (j := 2) (e1 _ _ hfa) (ev_op (ev_op (ev_var rfl) ev_c (rv_ixL (sq_of (e1 _ _ hfa)) rfl)) ev_c rv_I0) (ev_var rfl) ev_c (by show 2 < 3; decide) fun H2 e2 => ?_
      have hf2 : (upd H2 fa (.lst ([V.int 0, V.int b, V.int c].set 2 (V.int (c + 1))))) fa = some (.lst [.int 0, .int b, .int (c + 1)]) := upd_same
      generalize hH3 : upd H2 fa (.lst ([V.int 0, V.int b, V.int c].set 2 (V.int (c + 1)))) = H3 at hf2 ⊢
      have g1 : ∀ H4, Ex H3 H4 → ∀ σ : L2.St, σ[0]? = some (some (.ref fa)) → Ev (tOp (L2.rIxL K) (tVar 0) (tC (.int 1))) σ H4 (.int b) := fun H4 e4 σ h0 => ev_op (ev_var h0) ev_c (rv_ixL (sq_of (e4 _ _ hf2)) rfl)
      have g2 : ∀ H4, Ex H3 H4 → ∀ σ : L2.St, σ[0]? = some (some (.ref fa)) → Ev (tOp (L2.rIxL K) (tVar 0) (tC (.int 2))) σ H4 (.int (c + 1)) := fun H4 e4 σ h0 => ev_op (ev_var h0) ev_c (rv_ixL (sq_of (e4 _ _ hf2)) rfl)
      have lit : ∀ {i : Int} {k : Nat}, 0 ≤ i → i ≤ k → k < 2 ^ 600 → i.natAbs < 2 ^ 600 := fun h1 h2 h3 => Nat.lt_of_le_of_lt (by omega) h3
      -- stir = feed[1] + 6700417 * feed[2]
      have hc9 : (c + 1).natAbs < 2 ^ 600 := lit (k := 1000000000000000000) (by omega) (by omega) (by decide)
      refine q_asg (ev_op (g1 _ (Ex.refl _) _ rfl) (ev_op ev_c (g2 _ (Ex.refl _) _ rfl) (rv_I (mulB (a := 600) (b := 600) (by decide) hc9 (by decide) (by decide) (by decide)))) rv_I0) fun H4 e4 => ?_
      have hs0 : 0 ≤ b + 6700417 * (c + 1) := by omega
      have hs1 : b + 6700417 * (c + 1) ≤ 10 ^ 41 := by omega
      generalize b + 6700417 * (c + 1) = x at hs0 hs1 ⊢
      have hx : x.natAbs < 2 ^ 600 := lit (k := 10 ^ 41) hs0 hs1 (by decide)
      have hxx : (x * x).natAbs < 2 ^ 1200 := wide_lt hx hx
      -- stir = int(stir * stir * stir + 15485863 * feed[2]) % (10 ** 43 + 57)
      refine q_asg (ev_op (ev_cb (ea_cons (ev_op (ev_op (ev_op (ev_var rfl) (ev_var rfl) (rv_I (mulB hx hx (by decide) (by decide) (by decide)))) (ev_var rfl) (rv_I (mulB hxx hx (by decide) (by decide) (by decide)))) (ev_op ev_c (g2 _ e4 _ rfl) (rv_I (mulB (a := 600) (b := 600) (by decide) hc9 (by decide) (by decide) (by decide)))) rv_I0) ea_nil) rc_int)
        (ev_op (ev_op ev_c ev_c (rv_I ⟨by decide, by decide, by decide⟩)) ev_c rv_I0) (rv_I (by decide))) fun H5 e5 => ?_
      have hy0 : 0 ≤ (x * x * x + 15485863 * (c + 1)) % ((10 : Int) ^ (43 : Int).toNat + 57) := Int.emod_nonneg _ (by decide)
      have hy1 : (x * x * x + 15485863 * (c + 1)) % ((10 : Int) ^ (43 : Int).toNat + 57) < (10 : Int) ^ 43 + 57 := Int.emod_lt_of_pos _ (by decide)
      generalize (x * x * x + 15485863 * (c + 1)) % ((10 : Int) ^ (43 : Int).toNat + 57) = y at hy0 hy1 ⊢
      have hy : y.natAbs < 2 ^ 600 := lit (k := 10 ^ 44) hy0 (by omega) (by decide)
      refine q_asg (ev_op (ev_cb (ea_cons (ev_op (ev_op (ev_var rfl) (ev_var rfl) (rv_I (mulB hy hy (by decide) (by decide) (by decide)))) ev_c rv_I0) ea_nil) rc_int) (ev_op (ev_op ev_c ev_c (rv_I ⟨by decide, by decide, by decide⟩)) ev_c rv_I0) (rv_I (by decide))) fun H6 e6 => ?_
      have hz0 : 0 ≤ (y * y + 32452843) % ((10 : Int) ^ (38 : Int).toNat + 133) := Int.emod_nonneg _ (by decide)
      generalize (y * y + 32452843) % ((10 : Int) ^ (38 : Int).toNat + 133) = z at hz0 ⊢
      have hq0 : 0 ≤ (z / (10 : Int) ^ (9 : Int).toNat) % many := Int.emod_nonneg _ (by omega)
      have hq1 : (z / (10 : Int) ^ (9 : Int).toNat) % many < many := Int.emod_lt_of_pos _ hm0
      refine s_ret (v := .int ((((z / (10 : Int) ^ (9 : Int).toNat) % many).toNat : Nat) : Int)) (ev_is (ev_op (ev_cb (ea_cons (ev_op (ev_var rfl) (ev_op ev_c ev_c (rv_I ⟨by decide, by decide, by decide⟩)) (rv_I (divW (by decide) (by decide)))) ea_nil) rc_int) (ev_var rfl) (rv_I hm0)) (by congr 1; omega)) fun H7 e7 => k _ H7 (by omega) ⟨?_, fun n hn hF => ?_⟩
      · have : Exc (fun c => c = fa) H H3 := by
          rw [← hH3]
          exact (Exc.of (e1.trans e2)).upd (.inl rfl)
        exact this.then (((e4.trans e5).trans e6).trans e7)
      · obtain ⟨a', b', c', e', g1, g2, g3, g4, g5, g6, g7, g8, g9⟩ := hF
        rw [hfa] at g1
        injection g1 with g1
        injection g1 with g1
        injection g1 with x1 g1
        injection g1 with x2 g1
        injection g1 with x3 g1
        injection x2 with x2
        injection x3 with x3
        subst x2 x3
        exact ⟨0, b, c + 1, 1, (((e4.trans e5).trans e6).trans e7) _ _ hf2, Int.le_refl _, Nat.le_refl _, by decide, by decide, hb0, hb1, by omega, by omega⟩
theorem ok__law_one {f : Addr} {fd : FuncData} (F : Fun K "_law_one" "_law_one" st__law_one f fd) (M : Md K mg) (C__law_draw : Cal P w K mg base "_law_draw" st__law_draw 1 ["feed", "many"] sp_draw) : FnOk P w K mg base CX0 2 f fd ["feed", "things"] (sp_one K) := by
  have nd := sc__law_one.nd
  refine F.ok sc__law_one (fun vs H Q E h => ?_) (fun cdv A outer s H vs Q E hr h => ?_)
  · obtain ⟨_, _, ⟨_, rfl, _⟩ | ⟨_, _, rfl, _⟩⟩ := h <;> rfl
  · obtain ⟨fa, G, h⟩ := h
    rcases h with ⟨s, rfl, hs, hl, k⟩ | ⟨p, xs, rfl, hS, hp, hx, hl, k⟩
    · refine ⟨_, (pss_one (ps_ret (pe_ix (kix K (r := rIxAny) ix_any) (pv 1) (pe_cl C__law_draw hr (pa_cons (pv 0) (pa_cons (pe_callB (kcr K (r := rLenAny) cr_lenAny) (by rfl) M.n_len boot_len (pa_cons (pv 1) pa_nil)) pa_nil))) (fun _ _ => rfl)))), ?_⟩
      have hpos : 0 < s.length := List.length_pos_iff.mpr hs
      refine ⟨T s, rfl, .ref fa, rfl, T s, rfl, .inl ⟨s, rfl, hl, fa, (s.length : Int), rfl, G, by omega, by omega, fun d H1 hd R => ?_⟩⟩
      obtain ⟨c, hc, hm⟩ := atI_mem (xs := s) (d := d) (by omega)
      exact .inr ⟨s, d, c, rfl, rfl, hl, hc, k c H1 hm R⟩
    · refine ⟨_, (pss_one (ps_ret (pe_ix (kix K (r := rIxAny) ix_any) (pv 1) (pe_cl C__law_draw hr (pa_cons (pv 0) (pa_cons (pe_callB (kcr K (r := rLenAny) cr_lenAny) (by rfl) M.n_len boot_len (pa_cons (pv 1) pa_nil)) pa_nil))) (fun _ _ => rfl)))), ?_⟩
      have hpos : 0 < xs.length := List.length_pos_iff.mpr hx
      refine ⟨.ref p, rfl, .ref fa, rfl, .ref p, rfl, .inr ⟨p, xs, rfl, hS, fa, (xs.length : Int), rfl, G, by omega, by omega, fun d H1 hd R => ?_⟩⟩
      obtain ⟨v, hv, hm⟩ := atI_mem (xs := xs) (d := d) (by omega)
      rcases hS with hS | hS
      · exact .inl (.inl ⟨p, xs, d, v, rfl, rfl, R.l hp hS, hv, k v H1 hm R⟩)
      · exact .inl (.inr ⟨p, xs, d, v, rfl, rfl, R.t hp hS, hv, k v H1 hm R⟩)
theorem sum_le {ts : List Tx} {m : Nat} (h : ∀ t ∈ ts, t.length ≤ m) : (ts.map List.length).sum ≤ ts.length * m := by
  induction ts with
  | nil => simp
  | cons t ts ih =>
    have h1 := h t List.mem_cons_self
    have h2 := ih fun x hx => h x (List.mem_cons_of_mem _ hx)
    simp only [List.map_cons, List.sum_cons, List.length_cons, Nat.succ_mul]
    omega
theorem flat_len {ts : List Tx} : ts.flatten.length = (ts.map List.length).sum := by
  simp [List.length_flatten]
theorem ok__law_text {f : Addr} {fd : FuncData} (F : Fun K "_law_text" "_law_text" st__law_text f fd) (M : Md K mg) (C__law_draw : Cal P w K mg base "_law_draw" st__law_draw 1 ["feed", "many"] sp_draw) (C__law_one : Cal P w K mg base "_law_one" st__law_one 2 ["feed", "things"] (sp_one K)) : FnOk P w K mg base CX0 3 f fd ["feed", "signs", "most"] sp_text := by
  have nd := sc__law_text.nd
  refine F.ok sc__law_text (fun vs H Q E h => ?_) (fun cdv A outer s H vs Q E hr h => ?_)
  · obtain ⟨_, _, _, rfl, _⟩ := h
    rfl
  · obtain ⟨fa, s, most, rfl, G, hm, hs, hl, k⟩ := h
    refine ⟨_, (pss_one (ps_ret (kbm K (pe_bm PySem.F.plainAttrs_str PySem.F.slot_str_join PySem.F.type_str_join (kmt K (r := rJoinT) mt_joinT) (pe_sT []) (pa_cons (pe_lc (own := [("turn", 3)]) rfl nd (pi_range1 (by rfl) M.n_range (pa_cons (pe_cl C__law_draw hr (pa_cons (pv 0) (pa_cons (pe_op op_add (pv 2) pe_int) pa_nil))) pa_nil)) (blkOk_by (N := N__law_text) (sc := defScope st__law_text) (by decide +kernel)) (fun _ _ _ _ _ => (pg_name (i := 3) nd rfl (Or.inl rfl))) (fun _ _ _ _ _ => pts_nil) (fun _ _ _ _ _ => (pe_cl C__law_one hr (pa_cons (pv 0) (pa_cons (pv 1) pa_nil))))) pa_nil))))), ?_⟩
    refine ⟨rfl, ?_⟩
    refine ⟨.ref fa, rfl, .int (most : Int), rfl, (most : Int), 1, rfl, rfl, fa, (most : Int) + 1, rfl, G.mono (by omega), by omega, by omega, fun d H1 hd R1 => ?_⟩
    have G1 : GF fa most H1 := G.go R1 (by omega)
    have hw : ∀ Q' : VK, (∀ p H2 acc, H1 p = none → Rf fa (d * 1) H1 H2 → H2 p = some (.lst acc) → acc.length = d → (∀ v ∈ acc, ∃ t, v = T t ∧ (t.length ≤ 1 ∧ ∀ c ∈ t, c ∈ s)) → Q' (.ref p) H2) →
        tLc (iRng1 (fun _ H Q => Q [.int (d : Int)] H)) (gName 3) tYes (tCall (sp_one K) [] E0 (tCons (tVar 0) (tCons (tVar 1) tNil))) [3] (start N__law_text [.ref fa, T s, .int (most : Int)]) H1 Q' := fun Q' k' => by
      refine lcD (fun v => ∃ t, v = T t ∧ (t.length ≤ 1 ∧ ∀ c ∈ t, c ∈ s)) 1 G1.is (src_range1 (n := d) (fun H2 e2 Q2 q => q H2 (Ex.refl _)) (by omega)) (fun z => z) (by omega) (fun _ => rfl) ?_ k'
      intro i x H2 hi _ R2 Q2 q
      refine ⟨.ref fa, rfl, T s, rfl, fa, G1.go R2 (by omega), .inl ⟨s, rfl, hs, hl, fun c H3 hc R3 => q _ _ ⟨[c], rfl, Nat.le_refl _, fun c' hc' => ?_⟩ R3⟩⟩
      rw [List.mem_singleton.mp hc']
      exact hc
    refine hw (fun x H2 => rJoinT K (T []) [x] H2 Q) fun p H2 acc hp R2 h2 hal hg => ?_
    obtain ⟨ts, rfl, hts⟩ := texts_of hg
    rw [List.length_map] at hal
    have hsum := sum_le fun t ht => (hts t ht).1
    refine ⟨[], p, ts, rfl, rfl, .inl (sq_of h2), by simp; omega, ?_⟩
    rw [joinL_nil]
    refine k ts.flatten H2 (by rw [flat_len]; omega) (fun c hc => ?_) ((R1.trans R2).mono (by omega))
    obtain ⟨t, ht, hct⟩ := List.mem_flatten.mp hc
    exact (hts t ht).2 c hct
end
end K02
set_option Elab.async false
set_option linter.all false
set_option maxRecDepth 100000
set_option maxHeartbeats 2000000
namespace K02
open PySem PySem.Spec PyProof.Rows L2 Evl Wc Wm
/-! ### the law's own reckoning is the program's -/
theorem alikeSigns_eq {X Y : Tx} {i : Nat} (h1 : i < X.length) (h2 : i < Y.length) (hk : ∀ k, k < i → X[k]? = Y[k]?) (hi : X[i]? ≠ Y[i]?) : alikeSigns X Y = i := by
  have hl := alikeSigns_le X Y
  by_cases hlt : alikeSigns X Y < i
  · have := alikeSigns_end X Y _ _ (List.getElem?_eq_getElem (show alikeSigns X Y < X.length by omega)) (List.getElem?_eq_getElem (show alikeSigns X Y < Y.length by omega))
    have h3 := hk _ hlt
    rw [List.getElem?_eq_getElem (show alikeSigns X Y < X.length by omega), List.getElem?_eq_getElem (show alikeSigns X Y < Y.length by omega)] at h3
    exact absurd (Option.some.inj h3) this
  · by_cases hgt : i < alikeSigns X Y
    · exact absurd (alikeSigns_at X Y i hgt) hi
    · omega
theorem long_get {a : Tx} {m i : Nat} (ha : a ≠ []) (hi : i < m) : (repT (m / a.length + 1) a)[i]? = some (cyc a i) ∧ i < (repT (m / a.length + 1) a).length := by
  have hp : 0 < a.length := List.length_pos_iff.mpr ha
  have hl : i < (m / a.length + 1) * a.length := by
    have := Nat.lt_div_mul_add hp (a := m)
    rw [Nat.succ_mul]
    omega
  refine ⟨?_, by rw [repT_len]; exact hl⟩
  rw [repT_get _ _ hl, cyc_lt (Nat.mod_lt _ hp), cyc_mod]
theorem alike_found {a b : Tx} {i : Nat} (ha : a ≠ []) (hb : b ≠ []) (hi : i < a.length + b.length) (hk : ∀ k, k < i → cyc a k = cyc b k) (hd : cyc a i ≠ cyc b i) : alikeForEver a b = some i := by
  unfold alikeForEver
  rw [if_neg fun z => hd (cyc_comm ha hb z i)]
  congr 1
  have h1 := long_get ha hi
  have h2 := long_get hb hi
  refine alikeSigns_eq h1.2 h2.2 (fun k hk' => ?_) ?_
  · rw [(long_get ha (show k < a.length + b.length by omega)).1, (long_get hb (show k < a.length + b.length by omega)).1, hk k hk']
  · rw [h1.1, h2.1]
    exact fun z => hd (Option.some.inj z)
theorem alike_none {a b : Tx} (ha : a ≠ []) (hb : b ≠ []) (h : ∀ i, i < a.length + b.length → cyc a i = cyc b i) : alikeForEver a b = none := by
  unfold alikeForEver
  rw [if_pos (comm_cyc ha hb h)]
theorem power_div {m n t : Nat} (hm : 0 < m) : n ∣ m * t ↔ n / Nat.gcd m n ∣ t := by
  have hg : 0 < Nat.gcd m n := Nat.gcd_pos_of_pos_left _ hm
  have e1 : n = Nat.gcd m n * (n / Nat.gcd m n) := (Nat.mul_div_cancel' (Nat.gcd_dvd_right m n)).symm
  have e2 : m = Nat.gcd m n * (m / Nat.gcd m n) := (Nat.mul_div_cancel' (Nat.gcd_dvd_left m n)).symm
  have hc : Nat.Coprime (n / Nat.gcd m n) (m / Nat.gcd m n) := (Nat.coprime_div_gcd_div_gcd hg).symm
  constructor
  · intro h
    have h2 : Nat.gcd m n * (n / Nat.gcd m n) ∣ Nat.gcd m n * ((m / Nat.gcd m n) * t) := by
      rw [← e1, ← Nat.mul_assoc, ← e2]
      exact h
    have h3 := Nat.dvd_of_mul_dvd_mul_left hg h2
    exact hc.dvd_of_dvd_mul_left h3
  · rintro ⟨k, rfl⟩
    obtain ⟨x, hx⟩ := Nat.gcd_dvd_left m n
    obtain ⟨y, hy⟩ := Nat.gcd_dvd_right m n
    have ey : n / Nat.gcd m n = y := Nat.div_eq_of_eq_mul_right hg hy
    rw [ey]
    clear e1 e2 hc ey
    generalize Nat.gcd m n = g at hx hy hg
    subst hx hy
    exact ⟨x * k, by simp only [Nat.mul_assoc, Nat.mul_left_comm, Nat.mul_comm]⟩
section
variable {P : Program} {w : World} {K : PySem.W.Frag} {mg : Str → Option Value} {base : Heap}
def sp_law_root : Sp := fun vs H Q _ => ∃ (a : Tx), vs = [T a] ∧ a.length ≤ 20000 ∧ a ≠ [] ∧ RetV (T (aroot a)) H Q
def sp_law_shared : Sp := fun vs H Q _ => ∃ (a b : Tx), vs = [T a, T b] ∧ a.length ≤ 400 ∧ b.length ≤ 400 ∧ a ≠ [] ∧ b ≠ [] ∧ RetI (alikeForEver a b) H Q
def sp_law_power : Sp := fun vs H Q _ => ∃ (a b : Tx), vs = [T a, T b] ∧ a.length ≤ 400 ∧ b.length ≤ 400 ∧ a ≠ [] ∧ b ≠ [] ∧ RetV (optV T (leastPower a b)) H Q
theorem ok__law_root {f : Addr} {fd : FuncData} (F : Fun K "_law_root" "_law_root" st__law_root f fd) (M : Md K mg) : FnOk P w K mg base CX0 1 f fd ["text"] sp_law_root := by
  have nd := sc__law_root.nd
  refine F.ok sc__law_root (fun vs H Q E h => ?_) (fun cdv A outer s H vs Q E hr h => ?_)
  · obtain ⟨_, rfl, _⟩ := h
    rfl
  · obtain ⟨a, rfl, ha, hne, k⟩ := h
    refine ⟨_, (pss_one (ps_ret (pe_slice sl_T (pv 0) po_none (po_some (kbm K (pe_bm PySem.F.plainAttrs_str PySem.F.slot_str_find PySem.F.type_str_find mt_find3T (pe_op op_addT (pv 0) (pv 0)) (pa_cons (pv 0) (pa_cons pe_int pa_nil)))))))), ?_⟩
    refine ⟨T a, rfl, T a, rfl, T a, rfl, a, a, rfl, rfl, by omega, rfl, T a, rfl, a ++ a, a, 1, rfl, rfl, fun r hr => ⟨r, rfl, a, rfl, by omega, ?_⟩⟩
    rw [find_root hne hr, cutT_to]
    exact k H (Ex.refl _)
theorem ok__law_shared {f : Addr} {fd : FuncData} (F : Fun K "_law_shared" "_law_shared" st__law_shared f fd) (M : Md K mg) : FnOk P w K mg base CX0 1 f fd ["one", "other"] sp_law_shared := by
  have nd := sc__law_shared.nd
  refine F.ok sc__law_shared (fun vs H Q E h => ?_) (fun cdv A outer s H vs Q E hr h => ?_)
  · obtain ⟨_, _, rfl, _⟩ := h
    rfl
  · obtain ⟨a, b, rfl, ha, hb, hna, hnb, k⟩ := h
    refine ⟨_, (pss_cons (ps_for PassesOwn.never rfl (pi_range1 (by rfl) M.n_range (pa_cons (pe_op op_add (pe_callB cr_lenT (by rfl) M.n_len boot_len (pa_cons (pv 0) pa_nil)) (pe_callB cr_lenT (by rfl) M.n_len boot_len (pa_cons (pv 1) pa_nil))) pa_nil)) (pg_name (i := 2) nd rfl (Or.inl rfl))
  (pss_one (ps_if (pt_cmpR op_neT (pe_ix ix_T (pv 0) (pe_op op_modP (pe_callTy call_int1 (by rfl) M.n_int boot_int (pa_cons (pv 2) pa_nil)) (pe_callB cr_lenT (by rfl) M.n_len boot_len (pa_cons (pv 0) pa_nil))) (fun _ _ => rfl)) (pe_ix ix_T (pv 1) (pe_op op_modP (pe_callTy call_int1 (by rfl) M.n_int boot_int (pa_cons (pv 2) pa_nil)) (pe_callB cr_lenT (by rfl) M.n_len boot_len (pa_cons (pv 1) pa_nil))) (fun _ _ => rfl)) (nomark _))
  (pss_one (ps_ret (pv 2)))
  pss_nil)))
  (pss_one (ps_ret pe_non))), ?_⟩
    have hpa : 0 < a.length := List.length_pos_iff.mpr hna
    have hpb : 0 < b.length := List.length_pos_iff.mpr hnb
    have hlen : ∀ (x : Tx) (i : Nat) (σ : L2.St) (H1 : Hp), x.length ≤ 400 → σ[i]? = some (some (T x)) → Ev (tCB rLenT (tCons (tVar i) tNil)) σ H1 (.int (x.length : Int)) := fun x i σ H1 hx h0 => ev_cb (ea_cons (ev_var h0) ea_nil) (rc_lenT (by omega))
    refine q_search (src_range1 (n := a.length + b.length) (ea_cons (ev_is (ev_op (hlen a 0 _ _ ha rfl) (hlen b 1 _ _ hb rfl) rv_I0) (by rw [Int.natCast_add])) ea_nil) (by omega)) (by show 2 < 3; decide) (fun i => !decide (cyc a i = cyc b i)) ?_ ?_ ?_
    · rintro i x H1 e1 hi rfl hk
      have hx : ∀ (x : Tx) (j : Nat), x.length ≤ 400 → 0 < x.length → ([some (T a), some (T b), some (.int (i : Int))] : L2.St)[j]? = some (some (T x)) → Ev (tOp Wc.rIxT (tVar j) (tOp (rI (fun _ j => 0 < j) fun i j => .int (i % j)) (tCB _ (tCons (tVar 2) tNil)) (tCB rLenT (tCons (tVar j) tNil)))) [some (T a), some (T b), some (.int (i : Int))] H1 (T [cyc x i]) := fun x j hx hp h0 =>
        ev_op (ev_var h0) (ev_is (ev_op (ev_cb (ea_cons (ev_var rfl) ea_nil) rc_int) (hlen x j _ _ hx h0) (rv_I (by omega))) (by rw [← Int.natCast_emod])) (rv_ixT (by omega) (atI_nat (by rw [cyc_lt (Nat.mod_lt _ hp), cyc_mod])))
      refine et_is (et_test (ev_op (hx a 0 ha hpa rfl) (hx b 1 hb hpb rfl) rv_neT)) ?_
      by_cases h : cyc a i = cyc b i
      · simp [h]
      · simp [h]
    · rintro i x H1 H2 e1 hi rfl e2 hk hb' D' hD
      have hd : cyc a i ≠ cyc b i := by simpa using hb'
      have hkk : ∀ k, k < i → cyc a k = cyc b k := fun k hk' => by simpa using hk k hk'
      refine s_ret (ev_var rfl) fun H3 e3 => ?_
      rw [hD]
      have k2 := k
      unfold RetI at k2
      rw [alike_found hna hnb hi hkk hd] at k2
      exact k2 H3 ((e1.trans e2).trans e3)
    · intro y H1 e1 hf
      have k2 := k
      unfold RetI at k2
      rw [alike_none hna hnb fun i hi => by simpa using hf i hi] at k2
      exact s_ret ev_c (RetV.mono k2 e1)
theorem ok__law_power {f : Addr} {fd : FuncData} (F : Fun K "_law_power" "_law_power" st__law_power f fd) (M : Md K mg) (C__law_root : Cal P w K mg base "_law_root" st__law_root 1 ["text"] sp_law_root) : FnOk P w K mg base CX0 2 f fd ["one", "other"] sp_law_power := by
  have nd := sc__law_power.nd
  refine F.ok sc__law_power (fun vs H Q E h => ?_) (fun cdv A outer s H vs Q E hr h => ?_)
  · obtain ⟨_, _, rfl, _⟩ := h
    rfl
  · obtain ⟨a, b, rfl, ha, hb, hna, hnb, k⟩ := h
    refine ⟨_, (pss_cons (ps_if (pt_cmpR op_neT (pe_cl C__law_root hr (pa_cons (pv 0) pa_nil)) (pe_cl C__law_root hr (pa_cons (pv 1) pa_nil)) (nomark _))
  (pss_one (ps_ret pe_non))
  pss_nil)
  (pss_cons (ps_for PassesOwn.never rfl (pi_range2 (by rfl) M.n_range (pa_cons pe_int (pa_cons (pe_op op_add (pe_callB cr_lenT (by rfl) M.n_len boot_len (pa_cons (pv 1) pa_nil)) pe_int) pa_nil))) (pg_name (i := 2) nd rfl (Or.inl rfl))
  (pss_one (ps_if (pt_cmpR op_eqI (pe_op op_modP (pe_callTy call_int1 (by rfl) M.n_int boot_int (pa_cons (pe_op op_mulB (pe_callB cr_lenT (by rfl) M.n_len boot_len (pa_cons (pv 0) pa_nil)) (pv 2)) pa_nil)) (pe_callB cr_lenT (by rfl) M.n_len boot_len (pa_cons (pv 1) pa_nil))) pe_int (nomark _))
  (pss_one (ps_ret (pe_op op_mulT (pv 0) (pv 2))))
  pss_nil)))
  (pss_one (ps_ret pe_non)))), ?_⟩
    have hpa : 0 < a.length := List.length_pos_iff.mpr hna
    have hpb : 0 < b.length := List.length_pos_iff.mpr hnb
    have hlen : ∀ (x : Tx) (i : Nat) (σ : L2.St) (H1 : Hp), x.length ≤ 400 → σ[i]? = some (some (T x)) → Ev (tCB rLenT (tCons (tVar i) tNil)) σ H1 (.int (x.length : Int)) := fun x i σ H1 hx h0 => ev_cb (ea_cons (ev_var h0) ea_nil) (rc_lenT (by omega))
    have hroot : ∀ (i : Nat) (x : Tx) (σ : L2.St) (H0 : Hp), x.length ≤ 400 → x ≠ [] → σ[i]? = some (some (T x)) → Ev (tCall sp_law_root [] E0 (tCons (tVar i) tNil)) σ H0 (T (aroot x)) := fun i x σ H0 hx hn h0 =>
      ev_call (ea_cons (ev_var h0) ea_nil) fun H1 e1 Q q E => ⟨x, rfl, by omega, hn, q⟩
    refine q_when (et_test (ev_op (hroot 0 a _ _ ha hna rfl) (hroot 1 b _ _ hb hnb rfl) rv_neT)) (fun h1 H1 e1 => ?_) (fun h1 H1 e1 => ?_)
    · have hc : ¬ aroot a = aroot b := by simpa using h1
      unfold leastPower at k
      rw [if_neg hc] at k
      exact s_ret ev_c (RetV.mono k e1)
    · have hc : aroot a = aroot b := by simpa using h1
      unfold leastPower at k
      rw [if_pos hc] at k
      have hg : 0 < Nat.gcd a.length b.length := Nat.gcd_pos_of_pos_left _ hpa
      have hq1 : 1 ≤ b.length / Nat.gcd a.length b.length := (Nat.le_div_iff_mul_le hg).mpr (by have := Nat.gcd_le_right a.length hpb; omega)
      have hq2 := Nat.div_le_self b.length (Nat.gcd a.length b.length)
      have hdv : ∀ t, b.length ∣ a.length * t ↔ b.length / Nat.gcd a.length b.length ∣ t := fun t => power_div hpa
      generalize hqq : b.length / Nat.gcd a.length b.length = q0 at hq1 hq2 hdv k
      refine q_search (src_range2 (lo := 1) (hi := (b.length : Int) + 1) (n := b.length) (ea_cons ev_c (ea_cons (ev_op (hlen b 1 _ _ hb rfl) ev_c rv_I0) ea_nil)) (by decide) (by decide) (by omega) (by omega) (by omega)) (by show 2 < 3; decide) (fun i => decide (b.length ∣ a.length * (1 + i))) ?_ ?_ ?_
      · rintro i x H2 e2 hi rfl hk
        refine et_is (et_test (ev_op (ev_op (ev_cb (ea_cons (ev_op (hlen a 0 _ _ ha rfl) (ev_var rfl) (rv_I (mulB (a := 30) (b := 30) (by simp; omega) (by omega) (by decide) (by decide) (by decide)))) ea_nil) rc_int) (hlen b 1 _ _ hb rfl) (rv_I (by omega))) ev_c rv_I0)) ?_
        have e : (a.length : Int) * (1 + (i : Int)) % (b.length : Int) = ((a.length * (1 + i) % b.length : Nat) : Int) := by
          rw [show (1 + (i : Int)) = ((1 + i : Nat) : Int) by omega, ← Int.natCast_mul, ← Int.natCast_emod]
        rw [e]
        by_cases h : b.length ∣ a.length * (1 + i)
        · rw [decide_eq_true h, Nat.mod_eq_zero_of_dvd h]
          rfl
        · rw [decide_eq_false h, decide_eq_false]
          intro z
          exact h (Nat.dvd_of_mod_eq_zero (by omega))
      · rintro i x H2 H3 e2 hi rfl e3 hk hb' D' hD
        have h3 := (hdv _).mp (of_decide_eq_true hb')
        have h4 := Nat.le_of_dvd (by omega) h3
        have h5 : q0 = 1 + i := by
          by_cases hlt : q0 < 1 + i
          · have := of_decide_eq_false (hk (q0 - 1) (by omega))
            rw [show 1 + (q0 - 1) = q0 by omega] at this
            exact absurd ((hdv q0).mpr (Nat.dvd_refl _)) this
          · omega
        refine s_ret (v := T (repT q0 a)) (ev_is (ev_op (ev_var rfl) (ev_var rfl) (rv_mulT (by omega) (by omega) ?_)) ?_) fun H4 e4 => ?_
        · have : a.length * (1 + (i : Int)).toNat ≤ 400 * 401 := Nat.mul_le_mul ha (by omega)
          omega
        · rw [h5]
          congr 2
        · rw [hD]
          exact k H4 (((e1.trans e2).trans e3).trans e4)
      · intro y H2 e2 hf
        have := of_decide_eq_false (hf (q0 - 1) (by omega))
        rw [show 1 + (q0 - 1) = q0 by omega] at this
        exact absurd ((hdv q0).mpr (Nat.dvd_refl _)) this
end
end K02
set_option Elab.async false
set_option linter.all false
set_option maxRecDepth 100000
set_option maxHeartbeats 2000000
namespace K02
open PySem PySem.Spec PyProof.Rows L2 Evl Wc Wm
/-! ### turns -/
def okTurn (a b : Tx) (k : Nat) : Bool := decide (a.drop k ++ a.take k = b)
def turnsTo (a b : Tx) (p : Nat) : List Nat := (List.range p).filter (okTurn a b)
theorem turnsTo_same {a b : Tx} {p q : Nat} (h : p ≤ q) (hn : ∀ k, p ≤ k → k < q → okTurn a b k = false) : turnsTo a b q = turnsTo a b p := by
  obtain ⟨d, rfl⟩ : ∃ d, q = p + d := ⟨q - p, by omega⟩
  induction d with
  | zero => rfl
  | succ d ih =>
    rw [← ih (by omega) fun k h1 h2 => hn k h1 (by omega)]
    unfold turnsTo
    rw [← Nat.add_assoc, List.range_succ, List.filter_append]
    simp [hn (p + d) (by omega) (by omega)]
theorem turnsTo_next {a b : Tx} {p k : Nat} (h : p ≤ k) (hn : ∀ j, p ≤ j → j < k → okTurn a b j = false) (hk : okTurn a b k = true) : turnsTo a b (k + 1) = turnsTo a b p ++ [k] := by
  rw [← turnsTo_same h hn]
  unfold turnsTo
  rw [List.range_succ, List.filter_append]
  simp [hk]
theorem turn_at {a b : Tx} {k : Nat} (hl : a.length = b.length) (hk : k + 1 ≤ a.length) : StAt (a ++ a.take (a.length - 1)) b k ↔ okTurn a b k = true := by
  unfold StAt okTurn
  rw [decide_eq_true_eq, ← hl, List.drop_append_of_le_length (by omega), List.take_append, List.take_of_length_le (by rw [List.length_drop]; omega), List.length_drop, List.take_take]
  have : min (a.length - (a.length - k)) (a.length - 1) = k := by omega
  rw [this]
theorem turnedBy_eq {a b : Tx} (hl : a.length = b.length) (ha : a ≠ []) : turnedBy a b = turnsTo a b a.length := by
  have hp : 0 < a.length := List.length_pos_iff.mpr ha
  unfold turnedBy turnsTo
  rw [if_pos hl, Nat.max_eq_right (by omega)]
  rfl
theorem turnsTo_lt {a b : Tx} {n k : Nat} (h : k ∈ turnsTo a b n) : k < n ∧ okTurn a b k = true := by
  unfold turnsTo at h
  rw [List.mem_filter, List.mem_range] at h
  exact h
theorem turnsTo_len (a b : Tx) (n : Nat) : (turnsTo a b n).length ≤ n := by
  unfold turnsTo
  have := List.length_filter_le (okTurn a b) (List.range n)
  rw [List.length_range] at this
  exact this
/-! ### links -/
def linksTo (a b : Tx) (t : Nat) : List Tx := (List.range t).flatMap fun s => (turnedBy a b).map fun p => repT s a ++ a.take p
theorem linkAt_eq {a : Tx} (s p : Nat) (hp : p < a.length) : linkAt a (s * a.length + p) = repT s a ++ a.take p := by
  have h0 : 0 < a.length := by omega
  unfold linkAt
  have e : (s * a.length + p) / a.length = s := by
    rw [Nat.mul_comm, Nat.mul_add_div h0, Nat.div_eq_of_lt hp]
    rfl
  rw [e, repT_add, repT_one, List.take_append, repT_len, List.take_of_length_le (by rw [repT_len]; omega), Nat.add_sub_cancel_left]
theorem linksTo_eq {a b : Tx} (hl : a.length = b.length) (ha : a ≠ []) (t : Nat) : linksTo a b t = ((List.range (t * a.length)).filter (fun m => okTurn a b (m % a.length))).map (linkAt a) := by
  have h0 : 0 < a.length := List.length_pos_iff.mpr ha
  induction t with
  | zero => simp [linksTo]
  | succ t ih =>
    have e1 : linksTo a b (t + 1) = linksTo a b t ++ (turnedBy a b).map fun p => repT t a ++ a.take p := by
      unfold linksTo
      rw [List.range_succ, List.flatMap_append]
      simp
    rw [e1, ih, Nat.succ_mul, List.range_add, List.filter_append, List.map_append]
    congr 1
    rw [turnedBy_eq hl ha, List.filter_map, List.map_map]
    unfold turnsTo
    have e2 : List.filter ((fun m => okTurn a b (m % a.length)) ∘ fun x => t * a.length + x) (List.range a.length) = List.filter (okTurn a b) (List.range a.length) := by
      apply List.filter_congr
      intro x hx
      rw [List.mem_range] at hx
      show okTurn a b ((t * a.length + x) % a.length) = okTurn a b x
      rw [Nat.mul_comm, Nat.mul_add_mod, Nat.mod_eq_of_lt hx]
    rw [e2]
    apply List.map_congr_left
    intro p hp
    rw [List.mem_filter, List.mem_range] at hp
    exact (linkAt_eq t p hp.1).symm
theorem linkAt_length {a : Tx} (ha : a ≠ []) (m : Nat) : (linkAt a m).length = m := by
  have h0 : 0 < a.length := List.length_pos_iff.mpr ha
  unfold linkAt
  rw [List.length_take, repT_len, Nat.succ_mul]
  have := Nat.lt_div_mul_add h0 (a := m)
  omega
theorem isLink_iff {a b : Tx} (hl : a.length = b.length) (ha : a ≠ []) (m : Nat) : isLink a b m = okTurn a b (m % a.length) := by
  have h0 : 0 < a.length := List.length_pos_iff.mpr ha
  have hp : m % a.length < a.length := Nat.mod_lt _ h0
  have e : m = m / a.length * a.length + m % a.length := by
    rw [Nat.mul_comm]
    exact (Nat.div_add_mod m a.length).symm
  unfold isLink okTurn
  have e2 : linkAt a m = repT (m / a.length) a ++ a.take (m % a.length) := by
    conv => lhs; rw [e]
    exact linkAt_eq _ _ hp
  rw [e2]
  generalize m / a.length = s
  generalize m % a.length = p
  congr 1
  have e3 : a ++ (repT s a ++ a.take p) = repT s a ++ (a ++ a.take p) := by
    have := pow_comm 1 s a
    rw [repT_one] at this
    rw [← List.append_assoc, this, List.append_assoc]
  rw [e3, List.append_assoc]
  have e4 : a ++ a.take p = a.take p ++ (a.drop p ++ a.take p) := by rw [← List.append_assoc, List.take_append_drop]
  rw [e4]
  exact propext ⟨fun h => List.append_cancel_left (List.append_cancel_left h), fun h => by rw [h]⟩
theorem linksTo_links {a b : Tx} (ha : a ≠ []) : ((linksTo a b 41).filter fun t => decide ((t.length : Int) < 41)).take 20 = linksB a b 41 := by
  by_cases hl : a.length = b.length
  · have h0 : 0 < a.length := List.length_pos_iff.mpr ha
    unfold linksB
    rw [linksTo_eq hl ha, List.filter_map]
    have e1 : (fun m => okTurn a b (m % a.length)) = isLink a b := by
      funext m
      exact (isLink_iff hl ha m).symm
    rw [e1]
    congr 2
    rw [List.filter_filter]
    obtain ⟨d, hd⟩ : ∃ d, 41 * a.length = 41 + d := ⟨41 * a.length - 41, by omega⟩
    rw [hd, List.range_add, List.filter_append]
    have e2 : List.filter (fun x => ((fun t => decide ((List.length t : Int) < 41)) ∘ linkAt a) x && isLink a b x) ((List.range d).map fun x => 41 + x) = [] := by
      rw [List.filter_eq_nil_iff]
      intro x hx
      obtain ⟨y, _, rfl⟩ := List.mem_map.mp hx
      show ¬ (decide (((linkAt a (41 + y)).length : Int) < 41) && _) = true
      rw [linkAt_length ha, decide_eq_false (by omega)]
      simp
    rw [e2, List.append_nil]
    apply List.filter_congr
    intro x hx
    rw [List.mem_range] at hx
    show (decide (((linkAt a x).length : Int) < 41) && _) = _
    rw [linkAt_length ha, decide_eq_true (by omega), Bool.true_and]
  · have e1 : turnedBy a b = [] := by unfold turnedBy; rw [if_neg hl]
    have e2 : linksTo a b 41 = [] := by
      unfold linksTo
      rw [e1]
      simp
    have e3 : List.filter (isLink a b) (List.range 41) = [] := by
      rw [List.filter_eq_nil_iff]
      intro m _ h
      have := congrArg List.length (of_decide_eq_true h)
      rw [List.length_append, List.length_append] at this
      omega
    unfold linksB
    rw [e2, e3]
    rfl
section
variable {P : Program} {w : World} {K : PySem.W.Frag} {mg : Str → Option Value} {base : Heap}
def sp_law_turns : Sp := fun vs H Q _ => ∃ (a b : Tx), vs = [T a, T b] ∧ a.length ≤ 400 ∧ b.length ≤ 400 ∧ RetL ((turnedBy a b).map fun (n : Nat) => V.int (n : Int)) H Q
def sp_law_links : Sp := fun vs H Q _ => ∃ (a b : Tx), vs = [T a, T b] ∧ a.length ≤ 400 ∧ b.length ≤ 400 ∧ a ≠ [] ∧ RetL ((linksB a b 41).map T) H Q
theorem ok__law_turns {f : Addr} {fd : FuncData} (F : Fun K "_law_turns" "_law_turns" st__law_turns f fd) (M : Md K mg) : FnOk P w K mg base CX0 1 f fd ["one", "other"] sp_law_turns := by
  have nd := sc__law_turns.nd
  refine F.ok sc__law_turns (fun vs H Q E h => ?_) (fun cdv A outer s H vs Q E hr h => ?_)
  · obtain ⟨_, _, rfl, _⟩ := h
    rfl
  · obtain ⟨a, b, rfl, ha, hb, k⟩ := h
    refine ⟨_, (pss_cons (ps_if (PW.pt (pw_or (pt_cmpR op_neI (pe_callB cr_lenT (by rfl) M.n_len boot_len (pa_cons (pv 0) pa_nil)) (pe_callB cr_lenT (by rfl) M.n_len boot_len (pa_cons (pv 1) pa_nil)) (nomark _)) (pw_or1 (pt_cmpR op_eqT (pv 0) (pe_sT []) (nomark _)))))
  (pss_one (ps_ret (pe_ifExp (pt_cmpR op_eqT (pv 0) (pv 1) (nomark _)) (pe_lst (pa_cons pe_int pa_nil)) (pe_lst pa_nil))))
  pss_nil)
  (pss_cons (ps_par3 (i := 2) (j := 3) (l := 4) rfl nd rfl rfl rfl (by decide) (by decide) (by decide) rfl rfl rfl (pa_cons (pe_lst pa_nil) (pa_cons pe_int (pa_cons (pe_op op_addT (pv 0) (pe_slice sl_T (pv 0) po_none (po_some (pe_un un_neg pe_int)))) pa_nil))) (by rfl))
  (pss_cut (ps_for PassesOwn.never rfl (pi_range1 (by rfl) M.n_range (pa_cons (pe_op op_add (pe_callB cr_lenT (by rfl) M.n_len boot_len (pa_cons (pv 0) pa_nil)) pe_int) pa_nil)) (pg_name (i := 5) nd rfl (Or.inl rfl))
  (pss_cons (ps_set (i := 3) nd rfl (Or.inl rfl) (kbm K (pe_bm PySem.F.plainAttrs_str PySem.F.slot_str_find PySem.F.type_str_find mt_find3T (pv 4) (pa_cons (pv 1) (pa_cons (pv 3) pa_nil)))))
  (pss_cons (ps_if (pt_cmpR op_lt (pv 3) pe_int (nomark _))
  (pss_one ps_break)
  pss_nil)
  (pss_cons (ps_expr (kbm K (pe_bm PySem.F.plainAttrs_list PySem.F.slot_list_append PySem.F.type_list_append mt_append (pv 2) (pa_cons (pv 3) pa_nil))))
  (pss_one (ps_set (i := 3) nd rfl (Or.inl rfl) (pe_op op_add (pv 3) pe_int)))))))
  (pss_one (ps_ret (pv 2)))))), ?_⟩
    have hlen : ∀ (x : Tx) (i : Nat) (σ : L2.St) (H1 : Hp), x.length ≤ 400 → σ[i]? = some (some (T x)) → Ev (tCB rLenT (tCons (tVar i) tNil)) σ H1 (.int (x.length : Int)) := fun x i σ H1 hx h0 => ev_cb (ea_cons (ev_var h0) ea_nil) (rc_lenT (by omega))
    refine q_when (et_or (et_test (ev_op (hlen a 0 _ _ ha rfl) (hlen b 1 _ _ hb rfl) rv_I0)) fun _ => et_test (ev_op (ev_var rfl) ev_c rv_eqT)) (fun hc H1 e1 => ?_) (fun hc H1 e1 => ?_)
    · -- [0] if one == other else []
      have hk : ∀ {te : TE}, EvL te (start N__law_turns [T a, T b]) H1 (if a = b then [V.int 0] else []) → tRet te { nx := fun _ H' => Q .non H', rt := Q } (start N__law_turns [T a, T b]) H1 := fun {te} h => by
        refine s_retL h ?_
        have k2 := RetL.mono k e1
        by_cases hab : a = b
        · have hz : b = [] := by
            subst hab
            rw [show (!decide ((a.length : Int) = (a.length : Int))) = false by simp, Bool.false_or, decide_eq_true_eq] at hc
            exact hc
          rw [if_pos hab]
          subst hab hz
          exact k2
        · rw [if_neg hab]
          have hn : a.length ≠ b.length := fun z => by
            rw [z] at hc
            simp at hc
            subst hc
            exact hab (List.length_eq_zero_iff.mp z.symm).symm
          have : turnedBy a b = [] := by unfold turnedBy; rw [if_neg hn]
          rw [this] at k2
          exact k2
      refine hk fun H2 e2 Q2 q2 => ?_
      refine (et_test (ev_op (ev_var rfl) (ev_var rfl) rv_eqT) : EvT _ (start N__law_turns [T a, T b]) H1 (decide (a = b))) H2 e2 _ fun H3 e3 => ?_
      by_cases hab : a = b
      · rw [decide_eq_true hab, if_pos rfl]
        rw [if_pos hab] at q2
        exact (el_lst (ea_cons ev_c ea_nil) (by show 1 ≤ 100000; decide) : EvL _ _ H3 [V.int 0]) H3 (Ex.refl _) Q2 fun p H4 hp e4 h4 => q2 p H4 (fresh_back e3 hp) (e3.trans e4) h4
      · rw [decide_eq_false hab, if_neg Bool.false_ne_true]
        rw [if_neg hab] at q2
        exact (el_lst ea_nil (by decide) : EvL _ _ H3 []) H3 (Ex.refl _) Q2 fun p H4 hp e4 h4 => q2 p H4 (fresh_back e3 hp) (e3.trans e4) h4
    · have hl : a.length = b.length := by
        rw [Bool.or_eq_false_iff] at hc
        have := hc.1
        simp at this
        omega
      have hna : a ≠ [] := by
        rw [Bool.or_eq_false_iff] at hc
        simpa using hc.2
      have hpa : 0 < a.length := List.length_pos_iff.mpr hna
      rw [turnedBy_eq hl hna] at k
      refine ⟨by decide, fun fo nfo => ?_⟩
      have hfo : (upd H1 fo (.lst [])) fo = some (.lst []) := upd_same
      have e1' : Ex H (upd H1 fo (.lst [])) := e1.trans (Ex.new nfo)
      have nfo0 : H fo = none := fresh_back e1 nfo
      generalize upd H1 fo (.lst []) = H2 at hfo e1' ⊢
      have htw : Ev (tOp rAddT (tVar 0) (tSl rSlT (tVar 0) tNoPart (tPart (tUn (rU fun i => .int (-i)) (tC (.int 1)))))) (start N__law_turns [T a, T b]) H2 (T (a ++ a.take (a.length - 1))) := by
        have hcut : cutT a none (some (-1)) = a.take (a.length - 1) := cutT_but a 0
        refine ev_is (ev_op (ev_var rfl) (ev_slT (ev_var rfl) eo_none (eo_some (ev_un ev_c ru_neg)) (by omega)) (rv_addT ?_)) (by rw [hcut])
        rw [hcut, List.length_take]
        omega
      refine htw H2 (Ex.refl _) _ fun H3 e3 => ⟨.ref fo, .int 0, T (a ++ a.take (a.length - 1)), rfl, ?_⟩
      have hfo3 := e3 _ _ hfo
      show tCut _ _ _ [some (T a), some (T b), some (.ref fo), some (.int 0), some (T (a ++ a.take (a.length - 1))), none] H3
      have hcnt : Ev (tOp (rI0 fun i j => .int (i + j)) (tCB rLenT (tCons (tVar 0) tNil)) (tC (.int 1))) [some (T a), some (T b), some (.ref fo), some (.int 0), some (T (a ++ a.take (a.length - 1))), none] H3 (.int ((a.length + 1 : Nat) : Int)) := ev_is (ev_op (hlen a 0 _ _ ha rfl) ev_c rv_I0) (by rw [Int.natCast_add]; rfl)
      refine q_cut (M := fun σ' H' => ∃ v3 v5, σ' = [some (T a), some (T b), some (.ref fo), v3, some (T (a ++ a.take (a.length - 1))), v5] ∧ Exc (fun c => c = fo) H3 H' ∧ H' fo = some (.lst ((turnsTo a b a.length).map fun (n : Nat) => V.int (n : Int)))) ?_ ?_
      · refine s_forW (fun c => c = fo) (src_range1 (n := a.length + 1) (ea_cons hcnt ea_nil) (by omega)) ?_
          (fun Hs i σ' H' => ∃ (p : Nat) (v5 : Option V), σ' = [some (T a), some (T b), some (.ref fo), some (.int (p : Int)), some (T (a ++ a.take (a.length - 1))), v5] ∧ i ≤ p ∧ p ≤ a.length ∧ Exc (fun c => c = fo) Hs H' ∧ H' fo = some (.lst ((turnsTo a b p).map fun (n : Nat) => V.int (n : Int)))) ?_ ?_ ?_ ?_ ?_
        · rintro c rfl
          exact ⟨by rw [hfo3]; exact fun z => (nomatch z), fun z => z⟩
        · intro Hs e
          exact ⟨0, none, rfl, Nat.le_refl _, Nat.zero_le _, Exc.refl _, e _ _ hfo3⟩
        · rintro Hs i σ' H' ⟨_, _, _, _, _, h1, _⟩
          exact h1
        · rintro Hs i σ' Ha Hb ⟨p, v5, h0, g1, g2, h1, h2⟩ e
          exact ⟨p, v5, h0, g1, g2, h1.then e, e _ _ h2⟩
        · rintro Hs i x σ' H' e hi ⟨p, v5, rfl, g1, g2, h1, h2⟩ rfl
          -- place = twice.find(other, place)
          refine ⟨T (a ++ a.take (a.length - 1)), rfl, rfl, T b, rfl, .int (p : Int), rfl, _, b, p, rfl, rfl, fun r hr => ?_⟩
          have hh : Exc (fun c => c = fo) H3 H' := (Exc.of e).trans h1
          cases hr with
          | no hno =>
            refine q_when (b := true) (et_is (et_test (ev_op (ev_var rfl) ev_c rv_I0)) (by decide)) (fun _ H4 e4 => ?_) (fun z => by cases z)
            refine ⟨_, _, rfl, hh.then e4, ?_⟩
            rw [e4 _ _ h2, turnsTo_same g2 fun k h3 h4 => ?_]
            have h5 := hno k h3 (by rw [List.length_append, List.length_take]; omega)
            rw [turn_at hl (by omega)] at h5
            simpa using h5
          | at_ k h3 h4 h5 h6 =>
            have h7 : k + 1 ≤ a.length := by
              rw [List.length_append, List.length_take] at h4
              omega
            have h8 := (turn_at hl h7).mp h5
            have hl2 := turnsTo_len a b p
            refine q_when (b := false) (et_is (et_test (ev_op (ev_var rfl) ev_c rv_I0)) (by rw [decide_eq_false (by omega)])) (fun z => by cases z) (fun _ H4 e4 => ?_)
            refine q_app (e4 _ _ h2) (ev_var rfl) (ev_var rfl) (by rw [List.length_map]; omega) fun H5 e5 => ?_
            refine s_asg (ev_op (ev_var rfl) ev_c rv_I0) fun H6 e6 => ⟨k + 1, _, rfl, by omega, h7, ?_, ?_⟩
            · exact Exc.then (Exc.upd (B := fun c => c = fo) (h1.then (e4.trans e5)) (.inl rfl)) e6
            · rw [turnsTo_next h3 (fun j h9 h10 => ?_) h8, List.map_append]
              · exact e6 _ _ upd_same
              · have h11 := h6 j h9 h10
                rw [turn_at hl (by omega)] at h11
                simpa using h11
        · rintro Hs σ' H' e ⟨p, v5, rfl, g1, g2, h1, h2⟩
          omega
      · rintro σ' H' ⟨v3, v5, rfl, h1, h2⟩
        refine s_ret (ev_var rfl) fun H4 e4 => k fo H4 nfo0 ?_ (e4 _ _ h2)
        intro c o hc
        have hne : c ≠ fo := ne_of_none hc nfo0
        exact e4 _ _ (h1 _ _ hne (e3 _ _ (e1' _ _ hc)))
theorem ok__law_links {f : Addr} {fd : FuncData} (F : Fun K "_law_links" "_law_links" st__law_links f fd) (M : Md K mg) (C__law_turns : Cal P w K mg base "_law_turns" st__law_turns 1 ["one", "other"] sp_law_turns) : FnOk P w K mg base CX0 2 f fd ["one", "other"] sp_law_links := by
  have nd := sc__law_links.nd
  refine F.ok sc__law_links (fun vs H Q E h => ?_) (fun cdv A outer s H vs Q E hr h => ?_)
  · obtain ⟨_, _, rfl, _⟩ := h
    rfl
  · obtain ⟨a, b, rfl, ha, hb, hna, k⟩ := h
    refine ⟨_, (pss_cons (ps_par (i := 2) (j := 3) rfl nd rfl rfl (by decide) rfl rfl (pa_cons (pe_lst pa_nil) (pa_cons (pe_cl C__law_turns hr (pa_cons (pv 0) (pa_cons (pv 1) pa_nil))) pa_nil)) (by rfl))
  (pss_cons (ps_for PassesOwn.never rfl (pi_range1 (by rfl) M.n_range (pa_cons pe_int pa_nil)) (pg_name (i := 4) nd rfl (Or.inr rfl))
  (pss_one (ps_expr (kbm K (pe_bm PySem.F.plainAttrs_list PySem.F.slot_list_extend PySem.F.type_list_extend mt_extend (pv 2) (pa_cons (pe_lc (own := [("place", 5)]) rfl nd (kil K (pi_list (pv 3))) (blkOk_by (N := N__law_links) (sc := defScope st__law_links) (by decide +kernel)) (fun _ _ _ _ _ => (pg_name (i := 5) nd rfl (Or.inl rfl))) (fun _ _ _ _ _ => pts_nil) (fun _ _ _ _ _ => (pe_op op_addT (pe_op op_mulT (pv 0) (pv 4)) (pe_slice sl_T (pv 0) po_none (po_some (pv 5)))))) pa_nil))))))
  (pss_one (ps_ret (pe_slice (ksl K (r := rSlL) sl_list) (pe_lc (own := [("text", 6)]) rfl nd (kil K (pi_list (pv 2))) (blkOk_by (N := N__law_links) (sc := defScope st__law_links) (by decide +kernel)) (fun _ _ _ _ _ => (pg_name (i := 6) nd rfl (Or.inl rfl))) (fun _ _ _ _ _ => (pts_one (pt_cmpR op_lt (pe_callB cr_lenT (by rfl) M.n_len boot_len (pa_cons (pv 6) pa_nil)) pe_int (nomark _)))) (fun _ _ _ _ _ => (pv 6))) po_none (po_some pe_int)))))), ?_⟩
    have hpa : 0 < a.length := List.length_pos_iff.mpr hna
    have htl : (turnedBy a b).length ≤ 400 := by
      by_cases hl : a.length = b.length
      · rw [turnedBy_eq hl hna]
        have := turnsTo_len a b a.length
        omega
      · unfold turnedBy
        rw [if_neg hl]
        exact Nat.zero_le _
    have htlt : ∀ p ∈ turnedBy a b, p < a.length := fun p hp => by
      by_cases hl : a.length = b.length
      · rw [turnedBy_eq hl hna] at hp
        exact (turnsTo_lt hp).1
      · unfold turnedBy at hp
        rw [if_neg hl] at hp
        cases hp
    refine ⟨by decide, fun fo nfo => ?_⟩
    refine ⟨T a, rfl, T b, rfl, a, b, rfl, ha, hb, fun tq H2 nt2 e2 ht2 => ⟨.ref fo, .ref tq, rfl, ?_⟩⟩
    have hfo2 : H2 fo = some (.lst []) := e2 _ _ upd_same
    have eH : Ex H H2 := (Ex.new nfo).trans e2
    have hne : tq ≠ fo := fun z => by
      rw [z, upd_same] at nt2
      cases nt2
    refine q_forW (fun c => c = fo) (src_range1 (n := 41) (ea_cons ev_c ea_nil) (by decide)) ?_
      (fun Hs i σ' H' => ∃ v4 v5 v6, σ' = [some (T a), some (T b), some (.ref fo), some (.ref tq), v4, v5, v6] ∧ Exc (fun c => c = fo) Hs H' ∧ H' fo = some (.lst ((linksTo a b i).map T)) ∧ (linksTo a b i).length ≤ i * 400 ∧ ∀ t ∈ linksTo a b i, t.length ≤ 20000) ?_ ?_ ?_ ?_ ?_
    · rintro c rfl
      exact ⟨by rw [hfo2]; exact fun z => (nomatch z), fun z => z⟩
    · intro Hs e
      exact ⟨none, none, none, rfl, Exc.refl _, e _ _ hfo2, Nat.zero_le _, fun t ht => nomatch ht⟩
    · rintro Hs i σ' H' ⟨_, _, _, _, h1, _⟩
      exact h1
    · rintro Hs i σ' Ha Hb ⟨v4, v5, v6, h0, h1, h2, h3⟩ e
      exact ⟨v4, v5, v6, h0, h1.then e, e _ _ h2, h3⟩
    · rintro Hs i x σ' H' e hi ⟨v4, v5, v6, rfl, h1, h2, h3, h4⟩ rfl
      have ht' : H' tq = some (.lst ((turnedBy a b).map fun (n : Nat) => V.int (n : Int))) := h1 _ _ hne (e _ _ ht2)
      have hrep : (repT i a).length ≤ 16400 := by
        rw [repT_len]
        have : i * a.length ≤ 41 * 400 := Nat.mul_le_mul (by omega) ha
        omega
      show tDrop _ _ [some (T a), some (T b), some (.ref fo), some (.ref tq), some (.int (i : Int)), v5, v6] H'
      refine s_ext (ys := (turnedBy a b).map fun p => T (repT i a ++ a.take p)) h2 (ev_var rfl) ?_ (by rw [List.length_map, List.length_map]; omega) fun H3 e3 => ?_
      · refine el_lcM (f := fun (n : Nat) => V.int (n : Int)) (turnedBy a b) (src_listM (ev_var rfl) (sq_of ht')) (by omega) (fun _ => rfl) fun p H4 e4 hp => ?_
        refine ev_is (ev_op (ev_op (ev_var rfl) (ev_var rfl) (rv_mulT (by omega) (by omega) ?_)) (ev_slT (ev_var rfl) eo_none (eo_some (ev_var rfl)) (by omega)) (rv_addT ?_)) ?_
        · rw [Int.toNat_natCast]
          have : a.length * i ≤ 400 * 41 := Nat.mul_le_mul ha (by omega)
          omega
        · rw [Int.toNat_natCast]
          have := cutT_len a none (some (p : Int))
          omega
        · rw [Int.toNat_natCast, cutT_to]
      · have el : linksTo a b (i + 1) = linksTo a b i ++ (turnedBy a b).map fun p => repT i a ++ a.take p := by
          unfold linksTo
          rw [List.range_succ, List.flatMap_append]
          simp
        refine ⟨_, _, _, rfl, Exc.upd (B := fun c => c = fo) (h1.then e3) (.inl rfl), ?_, ?_, ?_⟩
        · rw [upd_same, el, List.map_append, List.map_map]
          rfl
        · rw [el, List.length_append, List.length_map, Nat.succ_mul]
          omega
        · intro t ht
          rw [el] at ht
          rcases List.mem_append.mp ht with ht | ht
          · exact h4 t ht
          · obtain ⟨p, hp, rfl⟩ := List.mem_map.mp ht
            rw [List.length_append, List.length_take]
            omega
    · rintro Hs σ' H' e ⟨v4, v5, v6, rfl, h1, h2, h3, h4⟩
      refine s_retL (el_slN (el_lcF (f := T) (g := T) (linksTo a b 41) (src_listM (ev_var rfl) (sq_of h2)) (by omega) (fun _ => rfl) (fun t H4 e4 ht => et_test (ev_op (ev_cb (ea_cons (ev_var rfl) ea_nil) (rc_lenT (by have := h4 t ht; omega))) ev_c rv_I0)) (fun t H4 e4 ht _ => ev_var rfl)) eo_none (eo_some ev_c)) ?_
      · have ec : cutV (((linksTo a b 41).filter fun t => decide ((t.length : Int) < 41)).map T) none (some 20) = (linksB a b 41).map T := by
          rw [← linksTo_links hna, List.map_take]
          exact cutV_to _ 20
        intro p H4 hp e4 h5
        rw [ec] at h5
        refine k p H4 ?_ ?_ h5
        · cases hq : H p with
          | none => rfl
          | some o =>
            have hpf : p ≠ fo := ne_of_none hq nfo
            rw [h1 _ _ hpf (e _ _ (eH _ _ hq))] at hp
            cases hp
        · intro c o hc
          have hcf : c ≠ fo := ne_of_none hc nfo
          exact e4 _ _ (h1 _ _ hcf (e _ _ (eH _ _ hc)))
end
end K02
set_option Elab.async false
set_option linter.all false
set_option maxRecDepth 100000
set_option maxHeartbeats 2000000
namespace K02
open PySem PySem.Spec PyProof.Rows L2 Evl Wc Wm
/-! ### the common root by taking the shorter text off the longer one -/
def Pw (r x : Tx) : Prop := ∃ n, x = repT n r
theorem Pw.cancel {r s l : Tx} (hs : Pw r s) (h : Pw r (s ++ l)) : Pw r l := by
  obtain ⟨i, rfl⟩ := hs
  obtain ⟨k, hk⟩ := h
  by_cases hr : r = []
  · subst hr
    rw [repT_nil, repT_nil, List.nil_append] at hk
    exact ⟨0, hk⟩
  · have hp : 0 < r.length := List.length_pos_iff.mpr hr
    have hl := congrArg List.length hk
    rw [List.length_append, repT_len, repT_len] at hl
    have hik : i ≤ k := by
      by_cases hlt : k < i
      · have := Nat.mul_lt_mul_of_pos_right hlt hp
        omega
      · omega
    obtain ⟨d, rfl⟩ : ∃ d, k = i + d := ⟨k - i, by omega⟩
    rw [repT_add] at hk
    exact ⟨d, List.append_cancel_left hk⟩
theorem Pw.app {r s l : Tx} (hs : Pw r s) (h : Pw r l) : Pw r (s ++ l) := by
  obtain ⟨i, rfl⟩ := hs
  obtain ⟨k, rfl⟩ := h
  exact ⟨i + k, (repT_add i k r).symm⟩
/-- the two pairs have the same common powers -/
structure Same2 (a b s l : Tx) : Prop where
  comm : a ++ b = b ++ a ↔ s ++ l = l ++ s
  pw : ∀ r, Pw r a ∧ Pw r b ↔ Pw r s ∧ Pw r l
theorem Same2.swap {a b s l : Tx} (h : Same2 a b s l) : Same2 a b l s := ⟨h.comm.trans eq_comm, fun r => (h.pw r).trans and_comm⟩
theorem Same2.step {a b s l : Tx} (h : Same2 a b s (s ++ l)) : Same2 a b s l := by
  refine ⟨h.comm.trans ⟨fun e => ?_, fun e => ?_⟩, fun r => (h.pw r).trans ⟨fun p => ⟨p.1, p.1.cancel p.2⟩, fun p => ⟨p.1, p.1.app p.2⟩⟩⟩
  · rw [List.append_assoc] at e
    exact List.append_cancel_left e
  · rw [List.append_assoc, ← e]
theorem Same2.sorted {a b x y : Tx} (h : Same2 a b x y) : ∃ s l, sortLen [x, y] = [s, l] ∧ s.length ≤ l.length ∧ s.length + l.length = x.length + y.length ∧ Same2 a b s l := by
  rw [sortLen_pair]
  by_cases hl : y.length < x.length
  · rw [if_pos hl]
    exact ⟨y, x, rfl, by omega, by omega, h.swap⟩
  · rw [if_neg hl]
    exact ⟨x, y, rfl, by omega, rfl, h⟩
theorem shared_none {a b s l : Tx} (h : Same2 a b s l) (hl : s.length ≤ l.length) (hn : ¬ l.take s.length = s) : sharedRoot a b = none := by
  unfold sharedRoot
  rw [if_neg]
  intro z
  have := h.comm.mp z
  have e := congrArg (List.take s.length) this
  rw [List.take_left, List.take_append_of_le_length hl] at e
  exact hn e.symm
theorem shared_nil {a b : Tx} (h : Same2 a b [] []) : sharedRoot a b = some ([], 0, 0) := by
  have h1 := (h.pw []).mpr ⟨⟨0, rfl⟩, ⟨0, rfl⟩⟩
  obtain ⟨⟨i, hi⟩, ⟨j, hj⟩⟩ := h1
  rw [repT_nil] at hi hj
  subst hi hj
  rfl
theorem shared_some {a b l : Tx} (h : Same2 a b [] l) (hl : l ≠ []) (hab : ¬ (a = [] ∧ b = [])) : sharedRoot a b = some (aroot l, a.length / (aroot l).length, b.length / (aroot l).length) := by
  have h1 := (h.pw l).mpr ⟨⟨0, rfl⟩, ⟨1, (repT_one l).symm⟩⟩
  have hc := h.comm.mpr (by rw [List.append_nil]; rfl)
  unfold sharedRoot
  rw [if_pos hc, if_neg hab]
  obtain ⟨⟨i, hi⟩, ⟨j, hj⟩⟩ := h1
  have e : aroot (if a = [] then b else a) = aroot l := by
    by_cases ha : a = []
    · rw [if_pos ha, hj, aroot_repT (Nat.pos_of_ne_zero fun z => hab ⟨ha, by rw [hj, z, repT_zero]⟩) hl]
    · rw [if_neg ha, hi, aroot_repT (Nat.pos_of_ne_zero fun z => ha (by rw [hi, z, repT_zero])) hl]
  show some (aroot (if a = [] then b else a), a.length / (aroot (if a = [] then b else a)).length, b.length / (aroot (if a = [] then b else a)).length) = _
  rw [e]
section
variable {P : Program} {w : World} {K : PySem.W.Frag} {mg : Str → Option Value} {base : Heap}
def sp_law_so : Sp := fun vs H Q _ => ∃ (a b : Bool), vs = [.bl a, .bl b] ∧ RetV (.bl (decide (a = b))) H Q
def sp_law_is : Sp := fun vs H Q _ => ∃ (a b : Int), vs = [.int a, .int b] ∧ RetV (.bl (decide (a = b))) H Q
def sp_law_same_root (K : PySem.W.Frag) : Sp := fun vs H Q _ => (vs = [.non, .non] ∧ RetV (.bl true) H Q) ∨
  ∃ (p q : Addr) (r : Tx) (m n : Int), vs = [.ref p, .ref q] ∧ H p = some (.tup [T r, .int m, .int n]) ∧ H q = some (.tup [T r, .int m, .int n]) ∧ LowT r ∧ RetV (.bl true) H Q
def sp_law_common : Sp := fun vs H Q _ => ∃ (a b : Tx), vs = [T a, T b] ∧ a.length ≤ 400 ∧ b.length ≤ 400 ∧ RetR (sharedRoot a b) H Q
theorem ok__law_so {f : Addr} {fd : FuncData} (F : Fun K "_law_so" "_law_so" st__law_so f fd) (M : Md K mg) : FnOk P w K mg base CX0 1 f fd ["actual", "due"] sp_law_so := by
  have nd := sc__law_so.nd
  refine F.ok sc__law_so (fun vs H Q E h => ?_) (fun cdv A outer s H vs Q E hr h => ?_)
  · obtain ⟨_, _, rfl, _⟩ := h
    rfl
  · obtain ⟨a, b, rfl, k⟩ := h
    refine ⟨_, (pss_one (ps_ret (pe_and (pe_callB (kcr K (r := rIsiB) cr_isi) (by rfl) M.n_isinstance boot_isinstance (pa_cons (pv 0) (pa_cons (pe_bltn (v := .ty "bool") rfl M.n_bool boot_bool rfl) pa_nil))) (pe_one (pe_cmpR op_eqB (pv 0) (pv 1) (nomark _)))))), ?_⟩
    exact s_ret (ev_andV (ev_cb (ea_cons (ev_var rfl) (ea_cons ev_c ea_nil)) (rc_isi (fun _ _ => .base (.bl _)) k_bool_bool)) fun _ => ev_op (ev_var rfl) (ev_var rfl) rv_eqB) k
theorem ok__law_is {f : Addr} {fd : FuncData} (F : Fun K "_law_is" "_law_is" st__law_is f fd) (M : Md K mg) : FnOk P w K mg base CX0 1 f fd ["actual", "due"] sp_law_is := by
  have nd := sc__law_is.nd
  refine F.ok sc__law_is (fun vs H Q E h => ?_) (fun cdv A outer s H vs Q E hr h => ?_)
  · obtain ⟨_, _, rfl, _⟩ := h
    rfl
  · obtain ⟨a, b, rfl, k⟩ := h
    refine ⟨_, (pss_one (ps_ret (pe_and (pe_callB (kcr K (r := rIsiB) cr_isi) (by rfl) M.n_isinstance boot_isinstance (pa_cons (pv 0) (pa_cons (pe_bltn (v := .ty "int") rfl M.n_int boot_int rfl) pa_nil))) (pe_and (pe_not (pe_callB (kcr K (r := rIsiB) cr_isi) (by rfl) M.n_isinstance boot_isinstance (pa_cons (pv 0) (pa_cons (pe_bltn (v := .ty "bool") rfl M.n_bool boot_bool rfl) pa_nil)))) (pe_one (pe_cmpR op_eqI (pv 0) (pv 1) (nomark _))))))), ?_⟩
    exact s_ret (ev_andV (ev_cb (ea_cons (ev_var rfl) (ea_cons ev_c ea_nil)) (rc_isi (fun _ _ => .base (.int _)) k_int_int)) fun _ => ev_andV (ev_notV (ev_cb (ea_cons (ev_var rfl) (ea_cons ev_c ea_nil)) (rc_isi (fun _ _ => .base (.int _)) k_int_bool))) fun _ => ev_op (ev_var rfl) (ev_var rfl) rv_I0) k
theorem ok__law_list {f : Addr} {fd : FuncData} (F : Fun K "_law_list" "_law_list" st__law_list f fd) (M : Md K mg) : FnOk P w K mg base CX0 1 f fd ["actual", "due"] (sp_list_same K) := by
  have nd := sc__law_list.nd
  refine F.ok sc__law_list (fun vs H Q E h => ?_) (fun cdv A outer s H vs Q E hr h => ?_)
  · obtain ⟨_, _, _, rfl, _⟩ := h
    rfl
  · obtain ⟨p, q, xs, rfl, hp, hq, hx, hl, k⟩ := h
    refine ⟨_, (pss_cons (ps_if (PW.pt (pw_or (pt_not (pt_val (pe_callB (kcr K (r := rIsiB) cr_isi) (by rfl) M.n_isinstance boot_isinstance (pa_cons (pv 0) (pa_cons (pe_bltn (v := .ty "list") rfl M.n_list boot_list rfl) pa_nil))))) (pw_or1 (pt_cmpR (kop K (r := rNeD) (op_neD hr.units)) (pv 0) (pv 1) (nomark _)))))
  (pss_one (ps_ret pe_bl))
  pss_nil)
  (pss_one (ps_ret (pe_cmpR (kop K (r := rEqD) (op_eqD hr.units)) (pe_lc (own := [("part", 2)]) rfl nd (kil K (pi_list (pv 0))) (blkOk_by (N := N__law_list) (sc := defScope st__law_list) (by decide +kernel)) (fun _ _ _ _ _ => (pg_name (i := 2) nd rfl (Or.inl rfl))) (fun _ _ _ _ _ => (pts_one (pt_val (pe_callB (kcr K (r := rIsiB) cr_isi) (by rfl) M.n_isinstance boot_isinstance (pa_cons (pv 2) (pa_cons (pe_bltn (v := .ty "bool") rfl M.n_bool boot_bool rfl) pa_nil)))))) (fun _ _ _ _ _ => (pv 2))) (pe_lst pa_nil) (nomark _))))), ?_⟩
    obtain ⟨ds, hd, hlay, hdep⟩ := flat_data (K := K) (H := H) hx
    have hsh : SeqAt.shaped (.list ds) = true := shaped_of hlay (by show PyData.depthAll ds + 1 ≤ 64; omega)
    have hrefl : PyData.eqv (.list ds) (.list ds) = true := SeqAt.eqv_refl _ hlay
    refine q_when (b := false) (et_is (et_or (et_not (et_B (ev_cb (ea_cons (ev_var rfl) (ea_cons ev_c ea_nil)) (rc_isi (b := true) (fun H1 e => .base (.lst (e _ _ hp))) k_list_list)))) fun _ => et_test (ev_op (ev_var rfl) (ev_var rfl) (rv_neD (d := .list ds) (e := .list ds) (b := true) (fun H1 e => .lst (ex_l e (sq_of hp)) (DpAll.ex e hd)) (fun H1 e => .lst (ex_l e hq) (DpAll.ex e hd)) hsh hsh hrefl))) rfl) (fun z => by cases z) (fun _ H1 e1 => ?_)
    have hpart : ∀ v ∈ xs, ∃ t, kitB t "bool" = some false ∧ ∀ H2 : Hp, TyX K H2 v (.type t) := fun v hv => by
      obtain ⟨d, hd⟩ := hx v hv
      cases hd with
      | int i => exact ⟨"int", k_int_bool, fun H2 => .base (.int i)⟩
      | str _ => exact ⟨"str", k_str_bool, fun H2 => .base (.str _)⟩
    refine s_ret (ev_opLL (xs := []) (ys := []) ?_ (el_lst ea_nil (by decide)) (fun p1 q1 H2 h1 h2 e2 => rv_eqD (d := .list []) (e := .list []) (b := true) (fun H3 e3 => .lst (ex_l e3 (sq_of h1)) .nil) (fun H3 e3 => .lst (ex_l e3 (sq_of h2)) .nil) (by decide) (by decide) (by decide))) (RetV.mono k e1)
    have h0 := el_lcX (j := 2) (te := tVar 2) (t := tB (tCB (rIsiB K) (tCons (tVar 2) (tCons (tC (.ty "bool")) tNil)))) (σ := start N__law_list [.ref p, .ref q]) (H := H1) (vs := [2]) (p := fun _ => false) (g := fun v => v) xs (fun a x _ => x = a) (src_list (ev_var rfl : Ev (tVar 0) (start N__law_list [.ref p, .ref q]) H1 (.ref p)) (sq_of (K := K) (e1 _ _ hp))) (by omega) (fun _ => rfl) rfl (fun i x _ hi => ⟨x, hi, rfl⟩) (fun v x H2 e2 hv hr => by
      subst hr
      obtain ⟨t, ht, hty⟩ := hpart x hv
      exact et_B (ev_cb (ea_cons (ev_var rfl) (ea_cons ev_c ea_nil)) (rc_isi (fun H3 _ => hty H3) ht))) (fun _ _ _ _ _ _ z => by cases z)
    rw [List.filter_eq_nil_iff.mpr (fun _ _ z => by cases z)] at h0
    exact h0
theorem ok__law_same_root {f : Addr} {fd : FuncData} (F : Fun K "_law_same_root" "_law_same_root" st__law_same_root f fd) (M : Md K mg) (C__law_is : Cal P w K mg base "_law_is" st__law_is 1 ["actual", "due"] sp_law_is) : FnOk P w K mg base CX0 2 f fd ["actual", "due"] (sp_law_same_root K) := by
  have nd := sc__law_same_root.nd
  refine F.ok sc__law_same_root (fun vs H Q E h => ?_) (fun cdv A outer s H vs Q E hr h => ?_)
  · rcases h with ⟨rfl, _⟩ | ⟨_, _, _, _, _, rfl, _⟩ <;> rfl
  · rcases h with ⟨rfl, k⟩ | ⟨p, q, r, m, n, rfl, hp, hq, hr', k⟩
    · refine ⟨_, (pss_cons (ps_if (PW.pt (pw_or (pt_cmpR op_isN (pv 1) pe_non (nomark _)) (pw_or1 (pt_cmpR op_isN (pv 0) pe_non (nomark _)))))
  (pss_one (ps_ret (pe_and (pe_cmpR op_isN (pv 1) pe_non (nomark _)) (pe_one (pe_cmpR op_isN (pv 0) pe_non (nomark _))))))
  pss_nil)
  (pss_one (ps_ret (pe_and (pe_callB (kcr K (r := rIsiB) cr_isi) (by rfl) M.n_isinstance boot_isinstance (pa_cons (pv 0) (pa_cons (pe_bltn (v := .ty "tuple") rfl M.n_tuple boot_tuple rfl) pa_nil))) (pe_and (pe_cmpR op_eqI (pe_callB (kcr K (r := rLenS) call_len_seq) (by rfl) M.n_len boot_len (pa_cons (pv 0) pa_nil)) pe_int (nomark _)) (pe_and (pe_cmpR (kop K (r := rEqD) (op_eqD hr.units)) (pv 0) (pv 1) (nomark _)) (pe_and (pe_cl C__law_is hr (pa_cons (pe_ix (kix K (r := L2.rIxT) ix_tup) (pv 0) pe_int (fun _ _ => rfl)) (pa_cons (pe_ix (kix K (r := L2.rIxT) ix_tup) (pv 1) pe_int (fun _ _ => rfl)) pa_nil))) (pe_one (pe_cl C__law_is hr (pa_cons (pe_ix (kix K (r := L2.rIxT) ix_tup) (pv 0) pe_int (fun _ _ => rfl)) (pa_cons (pe_ix (kix K (r := L2.rIxT) ix_tup) (pv 1) pe_int (fun _ _ => rfl)) pa_nil))))))))))), ?_⟩
      refine q_when (et_or (et_test (ev_op (ev_var rfl) ev_c rv_isN)) fun _ => et_test (ev_op (ev_var rfl) ev_c rv_isN)) (fun hb H1 e1 => ?_) (fun hb => by simp at hb)
      exact s_ret (ev_andV (ev_op (ev_var rfl) ev_c rv_isN) fun _ => ev_op (ev_var rfl) ev_c rv_isN) (RetV.mono k e1)
    · refine ⟨_, (pss_cons (ps_if (PW.pt (pw_or (pt_cmpR op_isN (pv 1) pe_non (nomark _)) (pw_or1 (pt_cmpR op_isN (pv 0) pe_non (nomark _)))))
  (pss_one (ps_ret (pe_and (pe_cmpR op_isN (pv 1) pe_non (nomark _)) (pe_one (pe_cmpR op_isN (pv 0) pe_non (nomark _))))))
  pss_nil)
  (pss_one (ps_ret (pe_and (pe_callB (kcr K (r := rIsiB) cr_isi) (by rfl) M.n_isinstance boot_isinstance (pa_cons (pv 0) (pa_cons (pe_bltn (v := .ty "tuple") rfl M.n_tuple boot_tuple rfl) pa_nil))) (pe_and (pe_cmpR op_eqI (pe_callB (kcr K (r := rLenS) call_len_seq) (by rfl) M.n_len boot_len (pa_cons (pv 0) pa_nil)) pe_int (nomark _)) (pe_and (pe_cmpR (kop K (r := rEqD) (op_eqD hr.units)) (pv 0) (pv 1) (nomark _)) (pe_and (pe_cl C__law_is hr (pa_cons (pe_ix (kix K (r := L2.rIxT) ix_tup) (pv 0) pe_int (fun _ _ => rfl)) (pa_cons (pe_ix (kix K (r := L2.rIxT) ix_tup) (pv 1) pe_int (fun _ _ => rfl)) pa_nil))) (pe_one (pe_cl C__law_is hr (pa_cons (pe_ix (kix K (r := L2.rIxT) ix_tup) (pv 0) pe_int (fun _ _ => rfl)) (pa_cons (pe_ix (kix K (r := L2.rIxT) ix_tup) (pv 1) pe_int (fun _ _ => rfl)) pa_nil))))))))))), ?_⟩
      have hnn : ∀ p : Addr, decide (V.ref p = V.non) = false := fun p => rfl
      refine q_when (b := false) (et_is (et_or (et_test (ev_op (ev_var rfl) ev_c rv_isN)) fun _ => et_test (ev_op (ev_var rfl) ev_c rv_isN)) rfl) (fun z => by cases z) (fun _ H1 e1 => ?_)
      have hd : ∀ (H2 : Hp), DpAll K H2 [T r, .int m, .int n] [dT r, .int m, .int n] := fun H2 => .cons (.str _) (.cons (.int _) (.cons (.int _) .nil))
      have hlay : (PyData.tuple [dT r, .int m, .int n]).canLay0 = true := by
        show ((dT r).canLay0 && (true && (true && true))) = true
        rw [lay_T hr']
        rfl
      have hsh : SeqAt.shaped (.tuple [dT r, .int m, .int n]) = true := shaped_of hlay (by show max 0 (max 0 (max 0 0)) + 1 ≤ 64; decide)
      have hix : ∀ (i : Nat) (x : Addr) (σ : L2.St) (H2 : Hp) (j : Int) (v : V), Ex H H2 → H x = some (.tup [T r, .int m, .int n]) → σ[i]? = some (some (.ref x)) → atI [T r, .int m, .int n] j = some v → Ev (tOp (L2.rIxT K) (tVar i) (tC (.int j))) σ H2 v := fun i x σ H2 j v e2 hx h0 ha => ev_op (ev_var h0) ev_c (rv_ixT (st_of (e2 _ _ hx)) ha)
      refine s_ret (ev_is (ev_andV (ev_cb (ea_cons (ev_var rfl) (ea_cons ev_c ea_nil)) (rc_isi (b := true) (fun H2 e => .base (.tup (e _ _ (e1 _ _ hp)))) k_tuple_tuple)) fun _ => ev_andV (ev_op (ev_cb (ea_cons (ev_var rfl) ea_nil) (fun H2 e2 Q2 q2 => ⟨p, _, rfl, .inr (st_of (e2 _ _ (e1 _ _ hp))), q2 H2 (Ex.refl _)⟩ : RC _ [.ref p] H1 (.int (3 : Int)))) ev_c rv_I0) fun _ =>
        ev_andV (ev_op (ev_var rfl) (ev_var rfl) (rv_eqD (b := true) (fun H2 e => .tup (st_of (e _ _ (e1 _ _ hp))) (hd H2)) (fun H2 e => .tup (st_of (e _ _ (e1 _ _ hq))) (hd H2)) hsh hsh (SeqAt.eqv_refl _ hlay))) fun _ =>
        ev_andV (ev_call (ea_cons (hix 0 p _ _ 1 (.int m) e1 hp rfl rfl) (ea_cons (hix 1 q _ _ 1 (.int m) e1 hq rfl rfl) ea_nil)) fun H2 e2 Q2 q2 E => ⟨m, m, rfl, q2⟩) fun _ => ev_call (ea_cons (hix 0 p _ _ 2 (.int n) e1 hp rfl rfl) (ea_cons (hix 1 q _ _ 2 (.int n) e1 hq rfl rfl) ea_nil)) fun H2 e2 Q2 q2 E => ⟨n, n, rfl, q2⟩) (by simp)) (RetV.mono k e1)
theorem ok__law_common {f : Addr} {fd : FuncData} (F : Fun K "_law_common" "_law_common" st__law_common f fd) (M : Md K mg) (C__law_root : Cal P w K mg base "_law_root" st__law_root 1 ["text"] sp_law_root) : FnOk P w K mg base CX0 2 f fd ["one", "other"] sp_law_common := by
  have nd := sc__law_common.nd
  refine F.ok sc__law_common (fun vs H Q E h => ?_) (fun cdv A outer s H vs Q E hr h => ?_)
  · obtain ⟨_, _, rfl, _⟩ := h
    rfl
  · obtain ⟨a, b, rfl, ha, hb, k⟩ := h
    refine ⟨_, (pss_cons (ps_asg (kso K (pe_sortLen hr.units M.n_sorted M.n_len (pa_cons (pe_lst (pa_cons (pv 0) (pa_cons (pv 1) pa_nil))) pa_nil))) (kgl K (pg_lst rfl (pgs_cons (pg_name (i := 2) nd rfl (Or.inl rfl)) (pgs_cons (pg_name (i := 3) nd rfl (Or.inl rfl)) pgs_nil)))))
  (pss_cut (ps_for PassesOwn.never rfl (pi_range1 (by rfl) M.n_range (pa_cons (pe_op op_add (pe_op op_add (pe_callB cr_lenT (by rfl) M.n_len boot_len (pa_cons (pv 0) pa_nil)) (pe_callB cr_lenT (by rfl) M.n_len boot_len (pa_cons (pv 1) pa_nil))) pe_int) pa_nil)) (pg_name (i := 4) nd rfl (Or.inl rfl))
  (pss_cons (ps_if (pt_cmpR op_eqT (pv 2) (pe_sT []) (nomark _))
  (pss_one ps_break)
  pss_nil)
  (pss_cons (ps_if (pt_cmpR op_neT (pe_slice sl_T (pv 3) po_none (po_some (pe_callB cr_lenT (by rfl) M.n_len boot_len (pa_cons (pv 2) pa_nil)))) (pv 2) (nomark _))
  (pss_one (ps_ret pe_non))
  pss_nil)
  (pss_one (ps_asg (kso K (pe_sortLen hr.units M.n_sorted M.n_len (pa_cons (pe_lst (pa_cons (pe_slice sl_T (pv 3) (po_some (pe_callB cr_lenT (by rfl) M.n_len boot_len (pa_cons (pv 2) pa_nil))) po_none) (pa_cons (pv 2) pa_nil))) pa_nil))) (kgl K (pg_lst rfl (pgs_cons (pg_name (i := 2) nd rfl (Or.inl rfl)) (pgs_cons (pg_name (i := 3) nd rfl (Or.inl rfl)) pgs_nil)))))))))
  (pss_cons (ps_if (pt_cmpR op_eqT (pv 3) (pe_sT []) (nomark _))
  (pss_one (ps_ret (pe_tup (pa_cons (pe_sT []) (pa_cons pe_int (pa_cons pe_int pa_nil))))))
  pss_nil)
  (pss_cons (ps_set (i := 5) nd rfl (Or.inl rfl) (pe_cl C__law_root hr (pa_cons (pv 3) pa_nil)))
  (pss_one (ps_ret (pe_tup (pa_cons (pv 5) (pa_cons (pe_op op_fdivW (pe_callB cr_lenT (by rfl) M.n_len boot_len (pa_cons (pv 0) pa_nil)) (pe_callB cr_lenT (by rfl) M.n_len boot_len (pa_cons (pv 5) pa_nil))) (pa_cons (pe_op op_fdivW (pe_callB cr_lenT (by rfl) M.n_len boot_len (pa_cons (pv 1) pa_nil)) (pe_callB cr_lenT (by rfl) M.n_len boot_len (pa_cons (pv 5) pa_nil))) pa_nil)))))))))), ?_⟩
    have hlen : ∀ (x : Tx) (i : Nat) (σ : L2.St) (H1 : Hp), x.length ≤ 800 → σ[i]? = some (some (T x)) → Ev (tCB rLenT (tCons (tVar i) tNil)) σ H1 (.int (x.length : Int)) := fun x i σ H1 hx h0 => ev_cb (ea_cons (ev_var h0) ea_nil) (rc_lenT (by omega))
    have hs0 : Same2 a b a b := ⟨Iff.rfl, fun _ => Iff.rfl⟩
    obtain ⟨s0, l0, hso, hle0, hsum0, hsame0⟩ := hs0.sorted
    -- short, long = sorted([one, other], key=len)
    refine ⟨T a, rfl, T b, rfl, (by show 2 ≤ sizeLine; decide), fun p np => ⟨p, [a, b], rfl, sq_of upd_same, fun x hx => ?_, fun q nq => ?_⟩⟩
    · simp at hx
      rcases hx with rfl | rfl <;> omega
    rw [hso]
    have eH : Ex H (upd (upd H p (.lst [T a, T b])) q (.lst ([s0, l0].map T))) := (Ex.new np).trans (Ex.new nq)
    refine ⟨q, _, rfl, sq_of upd_same, rfl, T s0, [T l0], rfl, T l0, [], rfl, rfl, ?_⟩
    generalize upd (upd H p (.lst [T a, T b])) q (.lst ([s0, l0].map T)) = H2 at eH ⊢
    show tCut _ _ _ [some (T a), some (T b), some (T s0), some (T l0), none, none] H2
    have hcnt : Ev (tOp (rI0 fun i j => .int (i + j)) (tOp (rI0 fun i j => .int (i + j)) (tCB rLenT (tCons (tVar 0) tNil)) (tCB rLenT (tCons (tVar 1) tNil))) (tC (.int 1))) [some (T a), some (T b), some (T s0), some (T l0), none, none] H2 (.int ((a.length + b.length + 1 : Nat) : Int)) :=
      ev_is (ev_op (ev_op (hlen a 0 _ _ (by omega) rfl) (hlen b 1 _ _ (by omega) rfl) rv_I0) ev_c rv_I0) (by rw [Int.natCast_add, Int.natCast_add]; rfl)
    refine q_cut (M := fun σ' H' => ∃ (l : Tx) (v4 v5 : Option V), σ' = [some (T a), some (T b), some (T []), some (T l), v4, v5] ∧ l.length ≤ a.length + b.length ∧ Ex H2 H' ∧ Same2 a b [] l) ?_ ?_
    · refine s_forW (fun _ => False) (src_range1 (n := a.length + b.length + 1) (ea_cons hcnt ea_nil) (by omega)) (fun _ z => z.elim)
        (fun Hs i σ' H' => ∃ (s l : Tx) (v4 v5 : Option V), σ' = [some (T a), some (T b), some (T s), some (T l), v4, v5] ∧ s.length ≤ l.length ∧ s.length + l.length + i ≤ a.length + b.length ∧ Same2 a b s l ∧ Ex Hs H') ?_ ?_ ?_ ?_ ?_
      · intro Hs e
        exact ⟨s0, l0, none, none, rfl, hle0, by omega, hsame0, Ex.refl _⟩
      · rintro Hs i σ' H' ⟨_, _, _, _, _, _, _, _, h1⟩
        exact .of h1
      · rintro Hs i σ' Ha Hb ⟨s, l, v4, v5, h0, h1, h2, h3, h4⟩ e
        exact ⟨s, l, v4, v5, h0, h1, h2, h3, h4.trans e⟩
      · rintro Hs i x σ' H' e hi ⟨s, l, v4, v5, rfl, h1, h2, h3, h4⟩ rfl
        show tSeq _ _ _ [some (T a), some (T b), some (T s), some (T l), some (.int (i : Int)), v5] H'
        have eA : Ex H2 H' := e.trans h4
        refine q_when (et_test (ev_op (ev_var rfl) ev_c rv_eqT)) (fun hb1 H3 e3 => ?_) (fun hb1 H3 e3 => ?_)
        · have hz : s = [] := of_decide_eq_true hb1
          subst hz
          exact ⟨l, _, _, rfl, by omega, eA.trans e3, h3⟩
        · have hz : s ≠ [] := of_decide_eq_false hb1
          have hsp : 0 < s.length := List.length_pos_iff.mpr hz
          refine q_when (et_is (et_test (ev_op (ev_slT (ev_var rfl) eo_none (eo_some (hlen s 2 _ _ (by omega) rfl)) (by omega)) (ev_var rfl) rv_neT)) (by rw [cutT_to])) (fun hb2 H4 e4 => ?_) (fun hb2 H4 e4 => ?_)
          · have hn : ¬ l.take s.length = s := by simpa using hb2
            have k2 := k
            rw [shared_none h3 h1 hn] at k2
            exact s_ret ev_c (RetV.mono k2 (((eH.trans eA).trans e3).trans e4))
          · have hn : l.take s.length = s := by simpa using hb2
            obtain ⟨l', hl'⟩ : ∃ l', l = s ++ l' := ⟨l.drop s.length, by conv => lhs; rw [← List.take_append_drop s.length l, hn]⟩
            have hd : cutT l (some (s.length : Int)) none = l' := by rw [cutT_from, hl', List.drop_left]
            have hl2 : l.length = s.length + l'.length := by rw [hl', List.length_append]
            rw [hl'] at h3
            obtain ⟨s1, l1, hso1, hle1, hsum1, hsame1⟩ := h3.step.swap.sorted
            -- short, long = sorted([long[len(short):], short], key=len)
            refine (ev_slT (ev_var rfl) (eo_some (hlen s 2 _ _ (by omega) rfl)) eo_none (by omega) : Ev _ [some (T a), some (T b), some (T s), some (T l), some (.int (i : Int)), v5] H4 (T (cutT l (some (s.length : Int)) none))) H4 (Ex.refl _) _ fun H5 e5 => ?_
            rw [hd]
            refine ⟨T s, rfl, (by show 2 ≤ sizeLine; decide), fun p np => ⟨p, [l', s], rfl, sq_of upd_same, fun x hx => ?_, fun q nq => ?_⟩⟩
            · simp at hx
              rcases hx with rfl | rfl <;> omega
            rw [hso1]
            refine ⟨q, _, rfl, sq_of upd_same, rfl, T s1, [T l1], rfl, T l1, [], rfl, rfl, ?_⟩
            exact ⟨s1, l1, _, _, rfl, hle1, by omega, hsame1, (((h4.trans e3).trans e4).trans e5).trans ((Ex.new np).trans (Ex.new nq))⟩
      · rintro Hs σ' H' e ⟨s, l, v4, v5, rfl, h1, h2, h3, h4⟩
        omega
    · rintro σ' H' ⟨l, v4, v5, rfl, hl, eA, hsame⟩
      have eB := eH.trans eA
      refine q_when (et_test (ev_op (ev_var rfl) ev_c rv_eqT)) (fun hb1 H3 e3 => ?_) (fun hb1 H3 e3 => ?_)
      · have hz : l = [] := of_decide_eq_true hb1
        subst hz
        have k2 := k
        rw [shared_nil hsame] at k2
        exact s_retU (eu_tup (ea_cons ev_c (ea_cons ev_c (ea_cons ev_c ea_nil))) (by show 3 ≤ 100000; decide)) (RetU.mono k2 (eB.trans e3))
      · have hz : l ≠ [] := of_decide_eq_false hb1
        have hr := aroot_len hz
        have hab : ¬ (a = [] ∧ b = []) := by
          rintro ⟨rfl, rfl⟩
          have : l.length = 0 := by
            simp at hl
            rw [hl]
            rfl
          exact hz (List.length_eq_zero_iff.mp this)
        have k2 := k
        rw [shared_some hsame hz hab] at k2
        refine q_asg (ev_call (ea_cons (ev_var rfl) ea_nil) fun H4 e4 Q2 q2 E => ⟨l, rfl, by omega, hz, q2⟩) fun H4 e4 => ?_
        have hdiv : ∀ (n : Nat), (n : Int) / ((aroot l).length : Int) = ((n / (aroot l).length : Nat) : Int) := fun n => by rw [Int.natCast_ediv]
        refine s_retU (xs := [T (aroot l), .int ((a.length / (aroot l).length : Nat) : Int), .int ((b.length / (aroot l).length : Nat) : Int)]) (eu_tup (ea_cons (ev_var rfl) (ea_cons (ev_is (ev_op (hlen a 0 _ _ (by omega) rfl) (hlen (aroot l) 5 _ _ (by omega) rfl) (rv_I (divW (by omega) (by omega)))) ?_) (ea_cons (ev_is (ev_op (hlen b 1 _ _ (by omega) rfl) (hlen (aroot l) 5 _ _ (by omega) rfl) (rv_I (divW (by omega) (by omega)))) ?_) ea_nil))) (by show 3 ≤ 100000; decide)) (RetU.mono k2 ((eB.trans e3).trans e4))
        · rw [hdiv]
        · rw [hdiv]
end
end K02
set_option Elab.async false
set_option linter.all false
set_option maxRecDepth 100000
set_option maxHeartbeats 2000000
set_option exponentiation.threshold 5000
namespace K02
open PySem PySem.Spec PyProof.Rows L2 Evl Wc Wm
section
variable {P : Program} {w : World} {K : PySem.W.Frag} {mg : Str → Option Value} {base : Heap}
theorem ok__law_feed {f : Addr} {fd : FuncData} (F : Fun K "_law_feed" "_law_feed" st__law_feed f fd) (M : Md K mg) : FnOk P w K mg base CX0 1 f fd ["script", "k"] (sp_feed K) := by
  have nd := sc__law_feed.nd
  refine F.ok sc__law_feed (fun vs H Q E h => ?_) (fun cdv A outer s H vs Q E hr h => ?_)
  · obtain ⟨_, _, _, _, rfl, _⟩ := h
    rfl
  · obtain ⟨a, ns, k, e, rfl, hS, hk, he1, he2, hz, kk⟩ := h
    refine ⟨_, (pss_cons (ps_set (i := 2) nd rfl (Or.inl rfl) (pe_op op_add (pe_op op_mulB pe_int (pv 1)) (pe_callB (kcr K (r := rSum) (cr_sum rfl)) (by rfl) M.n_sum boot_sum (pa_cons (pe_slice (ksl K (r := rSlL) sl_list) (pv 0) po_none (po_some pe_int)) pa_nil))))
  (pss_cons (ps_if (pt_cmpR op_lt (pv 1) (pe_callB (kcr K (r := rLenS) call_len_seq) (by rfl) M.n_len boot_len (pa_cons (pv 0) pa_nil)) (nomark _))
  (pss_one (ps_set (i := 2) nd rfl (Or.inl rfl) (pe_ix (kix K (r := L2.rIxL) ix_list) (pv 0) (pv 1) (fun _ _ => rfl))))
  pss_nil)
  (pss_one (ps_ret (pe_lst (pa_cons (pe_callB (call_max2 rfl) (by rfl) M.n_max boot_max (pa_cons pe_int (pa_cons (pe_op op_sub (pv 2) (pe_op op_pow pe_int pe_int)) pa_nil))) (pa_cons (pe_op op_modP (pe_callTy call_int1 (by rfl) M.n_int boot_int (pa_cons (pe_op op_add (pe_op op_mulB (pv 2) pe_int) (pe_op op_mulB pe_int (pv 1))) pa_nil)) (pe_op op_add (pe_op op_pow pe_int pe_int) pe_int)) (pa_cons pe_int pa_nil)))))))), ?_⟩
    have hsum : Ev (tCB (rSum K) (tCons (tSl (rSlL K) (tVar 0) tNoPart (tPart (tC (.int 1)))) tNil)) (start N__law_feed [.ref a, .int (k : Int)]) H (.int (ns.take 1).sum) := by
      refine ev_cbL (el_sl (ev_var rfl) eo_none (eo_some ev_c) hS) fun p H1 hp e1 => rc_sum (ns := ns.take 1) (sq_of ?_)
      have ec : cutV (ns.map V.int) none (some 1) = (ns.take 1).map V.int := by
        rw [List.map_take]
        exact cutV_to _ 1
      rw [hp, ec]
    have hs1 : (ns.take 1).sum.natAbs < 2 ^ e := by
      cases ns with
      | nil => exact Nat.pow_pos (by decide)
      | cons z r =>
        have := hz z List.mem_cons_self
        simpa using this
    refine q_asg (ev_op (ev_op ev_c (ev_var rfl) (rv_I (mulB (a := 20) (b := 20) (by decide) (by simp; omega) (by decide) (by decide) (by decide)))) hsum rv_I0) fun H1 e1 => ?_
    -- what cell is behind the if
    have rest : ∀ (cell : Int) H2, Ex H H2 → cell.natAbs < 2 ^ (e + 72) → ∀ {tz : TS}, (∀ {te : TE}, EvL te [some (.ref a), some (.int (k : Int)), some (.int cell)] H2 [.int (if cell - 10 ^ (18 : Int).toNat > 0 then cell - 10 ^ (18 : Int).toNat else 0), .int ((cell * 19 + 7 * (k : Int)) % (10 ^ (39 : Int).toNat + 23)), .int 0] → tRet te { nx := fun _ H' => Q .non H', rt := Q } [some (.ref a), some (.int (k : Int)), some (.int cell)] H2) := fun cell H2 e2 hc {tz te} h => by
      refine s_retL h fun fa H3 nfa e3 hfa => kk fa H3 (fresh_back e2 nfa) (e2.trans e3) ?_
      have hd : (cell + -(10 : Int) ^ (18 : Int).toNat).natAbs < 2 ^ (e + 72 + 72) := pow_add_small hc (by decide)
      refine ⟨_, _, _, e + 144, hfa, ?_, by omega, by omega, ?_, Int.emod_nonneg _ (by decide), Int.lt_trans (Int.emod_lt_of_pos _ (by decide)) (by decide), Int.le_refl _, Int.le_refl _⟩
      · split
        · omega
        · exact Int.le_refl _
      · split
        · rw [Int.sub_eq_add_neg]
          exact hd
        · exact Nat.pow_pos (by decide)
    have hfin : ∀ (cell : Int) H2, Ex H H2 → cell.natAbs < 2 ^ (e + 72) → EvL _ [some (.ref a), some (.int (k : Int)), some (.int cell)] H2 [.int (if cell - 10 ^ (18 : Int).toNat > 0 then cell - 10 ^ (18 : Int).toNat else 0), .int ((cell * 19 + 7 * (k : Int)) % (10 ^ (39 : Int).toNat + 23)), .int 0] := fun cell H2 e2 hc =>
      el_lst (ea_cons (ev_max2 ev_c (ev_op (ev_var (i := 2) rfl) (ev_op ev_c ev_c (rv_I (C := CPow) (g := fun i j => .int (i ^ j.toNat)) ⟨by decide, by decide, by decide⟩)) (rv_I0 (g := fun i j => .int (i - j))))) (ea_cons (ev_op (ev_cb (ea_cons (ev_op (ev_op (ev_var (i := 2) rfl) ev_c (rv_I (C := CMulB) (g := fun i j => .int (i * j)) (mulB hc (b := 10) (by decide) (by omega) (by decide) (by omega)))) (ev_op ev_c (ev_var (i := 1) rfl) (rv_I (C := CMulB) (g := fun i j => .int (i * j)) (mulB (a := 20) (b := 20) (by decide) (by simp; omega) (by decide) (by decide) (by decide)))) (rv_I0 (g := fun i j => .int (i + j)))) ea_nil) rc_int)
        (ev_op (ev_op ev_c ev_c (rv_I (C := CPow) (g := fun i j => .int (i ^ j.toNat)) ⟨by decide, by decide, by decide⟩)) ev_c (rv_I0 (g := fun i j => .int (i + j)))) (rv_I (C := fun _ j => 0 < j) (g := fun i j => .int (i % j)) (by decide))) (ea_cons ev_c ea_nil))) (by show 3 ≤ 100000; decide)
    refine q_when (et_test (ev_op (ev_var rfl) (ev_len (ev_var rfl) (ex_l e1 hS)) rv_I0)) (fun hb H2 e2 => ?_) (fun hb H2 e2 => ?_)
    · have hlt : k < ns.length := by
        have := of_decide_eq_true hb
        rw [List.length_map] at this
        omega
      refine s_asg (v := .int ns[k]) (ev_op (ev_var rfl) (ev_var rfl) (rv_ixL (ex_l (e1.trans e2) hS) (atI_nat (by rw [List.getElem?_map, List.getElem?_eq_getElem hlt]; rfl)))) fun H3 e3 => ?_
      exact rest ns[k] H3 ((e1.trans e2).trans e3) (Nat.lt_of_lt_of_le (hz _ (List.getElem_mem hlt)) (Nat.pow_le_pow_right (by decide) (by omega))) (tz := tNext) (hfin ns[k] H3 ((e1.trans e2).trans e3) (Nat.lt_of_lt_of_le (hz _ (List.getElem_mem hlt)) (Nat.pow_le_pow_right (by decide) (by omega))))
    · have hc : (977 * (k : Int) + (ns.take 1).sum).natAbs < 2 ^ (e + 72) := by
        rw [Int.add_comm]
        refine pow_add_small hs1 (Nat.le_trans (show (977 * (k : Int)).natAbs ≤ 1000000 by omega) (by decide))
      exact rest _ H2 (e1.trans e2) hc (tz := tNext) (hfin _ H2 (e1.trans e2) hc)
end
end K02
set_option Elab.async false
set_option linter.all false
set_option maxRecDepth 100000
set_option maxHeartbeats 2000000
namespace K02
open PySem PySem.Spec PyProof.Rows L2 Evl Wc Wm
def abcd (c : Nat) : Prop := 97 ≤ c ∧ c ≤ 100
section
variable {P : Program} {w : World} {K : PySem.W.Frag} {mg : Str → Option Value} {base : Heap}
def sp_law_pair : Sp := fun vs H Q _ => ∃ (fa : Addr), vs = [.ref fa] ∧ GF fa 300 H ∧ ∀ (p : Addr) (a b : Tx) H', H p = none → Rf fa 300 H H' → H' p = some (.lst [T a, T b]) → a.length ≤ 20000 → b.length ≤ 20000 → (∀ c ∈ a, abcd c) → (∀ c ∈ b, abcd c) → Q (.ref p) H'
theorem ok__law_pair {f : Addr} {fd : FuncData} (F : Fun K "_law_pair" "_law_pair" st__law_pair f fd) (M : Md K mg) (C__law_draw : Cal P w K mg base "_law_draw" st__law_draw 1 ["feed", "many"] sp_draw) (C__law_one : Cal P w K mg base "_law_one" st__law_one 2 ["feed", "things"] (sp_one K)) (C__law_text : Cal P w K mg base "_law_text" st__law_text 3 ["feed", "signs", "most"] sp_text) : FnOk P w K mg base CX0 4 f fd ["feed"] sp_law_pair := by
  have nd := sc__law_pair.nd
  refine F.ok sc__law_pair (fun vs H Q E h => ?_) (fun cdv A outer s H vs Q E hr h => ?_)
  · obtain ⟨_, rfl, _⟩ := h
    rfl
  · obtain ⟨fa, rfl, G, k⟩ := h
    refine ⟨_, (pss_cons (ps_par3 (i := 1) (j := 2) (l := 3) rfl nd rfl rfl rfl (by decide) (by decide) (by decide) rfl rfl rfl (pa_cons (pe_slice sl_T (pe_sT [97, 98, 99, 100]) po_none (po_some (pe_cl C__law_one hr (pa_cons (pv 0) (pa_cons (pe_lst (pa_cons pe_int (pa_cons pe_int (pa_cons pe_int (pa_cons pe_int pa_nil))))) pa_nil))))) (pa_cons (pe_cl C__law_draw hr (pa_cons (pv 0) (pa_cons pe_int pa_nil))) (pa_cons (pe_cl C__law_one hr (pa_cons (pv 0) (pa_cons (pe_lst (pa_cons pe_int (pa_cons pe_int (pa_cons pe_int (pa_cons pe_int pa_nil))))) pa_nil))) pa_nil))) (by rfl))
  (pss_cons (ps_set (i := 4) nd rfl (Or.inl rfl) (pe_op op_addT (pe_cl C__law_one hr (pa_cons (pv 0) (pa_cons (pv 1) pa_nil))) (pe_cl C__law_text hr (pa_cons (pv 0) (pa_cons (pv 1) (pa_cons (pv 3) pa_nil))))))
  (pss_cons (ps_par (i := 5) (j := 6) rfl nd rfl rfl (by decide) rfl rfl (pa_cons (pe_op op_mulT (pv 4) (pe_op op_add pe_int (pe_cl C__law_draw hr (pa_cons (pv 0) (pa_cons pe_int pa_nil))))) (pa_cons (pe_op op_mulT (pv 4) (pe_op op_add pe_int (pe_cl C__law_draw hr (pa_cons (pv 0) (pa_cons pe_int pa_nil))))) pa_nil)) (by rfl))
  (pss_cons (ps_set (i := 7) nd rfl (Or.inl rfl) (pe_cl C__law_draw hr (pa_cons (pv 0) (pa_cons (pe_callB cr_lenT (by rfl) M.n_len boot_len (pa_cons (pv 4) pa_nil)) pa_nil))))
  (pss_cons (ps_set (i := 8) nd rfl (Or.inl rfl) (pe_op op_addT (pe_slice sl_T (pv 4) (po_some (pv 7)) po_none) (pe_slice sl_T (pv 4) po_none (po_some (pv 7)))))
  (pss_cons (ps_if (pt_cmpR op_lt (pv 2) pe_int (nomark _))
  (pss_one (ps_ret (pe_ix (kix K (r := L2.rIxL) ix_list) (pe_lst (pa_cons (pe_lst (pa_cons (pv 5) (pa_cons (pv 6) pa_nil))) (pa_cons (pe_lst (pa_cons (pe_op op_mulT (pv 4) pe_int) (pa_cons (pe_op op_mulT (pv 4) (pe_cl C__law_one hr (pa_cons (pv 0) (pa_cons (pe_lst (pa_cons pe_int (pa_cons pe_int (pa_cons pe_int pa_nil)))) pa_nil)))) pa_nil))) (pa_cons (pe_lst (pa_cons (pv 4) (pa_cons (pv 4) pa_nil))) pa_nil)))) (pv 2) (fun _ _ => rfl))))
  pss_nil)
  (pss_cons (ps_if (pt_cmpR op_lt (pv 2) pe_int (nomark _))
  (pss_cons (ps_set (i := 9) nd rfl (Or.inl rfl) (pe_cl C__law_draw hr (pa_cons (pv 0) (pa_cons (pe_callB cr_lenT (by rfl) M.n_len boot_len (pa_cons (pv 8) pa_nil)) pa_nil))))
  (pss_one (ps_ret (pe_ifExp (pt_cmpR op_eqI (pv 2) pe_int (nomark _)) (pe_lst (pa_cons (pv 4) (pa_cons (pv 8) pa_nil))) (pe_lst (pa_cons (pv 4) (pa_cons (pe_op op_addT (pe_op op_addT (pe_slice sl_T (pv 8) po_none (po_some (pv 9))) (pe_cl C__law_one hr (pa_cons (pv 0) (pa_cons (pe_sT [97, 98]) pa_nil)))) (pe_slice sl_T (pv 8) (po_some (pe_op op_add (pv 9) pe_int)) po_none)) pa_nil)))))))
  pss_nil)
  (pss_cons (ps_if (pt_cmpR op_eqI (pv 2) pe_int (nomark _))
  (pss_one (ps_ret (pe_lst (pa_cons (pv 5) (pa_cons (pe_slice sl_T (pe_op op_mulT (pv 4) pe_int) po_none (po_some (pe_op op_add (pe_callB cr_lenT (by rfl) M.n_len boot_len (pa_cons (pv 4) pa_nil)) (pe_cl C__law_draw hr (pa_cons (pv 0) (pa_cons (pe_op op_mulB pe_int (pe_callB cr_lenT (by rfl) M.n_len boot_len (pa_cons (pv 4) pa_nil))) pa_nil)))))) pa_nil)))))
  pss_nil)
  (pss_cons (ps_if (pt_cmpR op_eqI (pv 2) pe_int (nomark _))
  (pss_cons (ps_set (i := 10) nd rfl (Or.inl rfl) (pe_op op_add pe_int (pe_cl C__law_draw hr (pa_cons (pv 0) (pa_cons pe_int pa_nil)))))
  (pss_one (ps_ret (pe_lst (pa_cons (pe_op op_mulT (pv 4) (pv 10)) (pa_cons (pe_op op_mulT (pv 8) (pv 10)) pa_nil))))))
  pss_nil)
  (pss_cons (ps_if (pt_cmpR op_eqI (pv 2) pe_int (nomark _))
  (pss_cons (ps_set (i := 11) nd rfl (Or.inl rfl) (pe_cl C__law_text hr (pa_cons (pv 0) (pa_cons (pv 1) (pa_cons pe_int pa_nil)))))
  (pss_one (ps_ret (pe_ifExp (pt_cmpR op_eqI (pe_cl C__law_draw hr (pa_cons (pv 0) (pa_cons pe_int pa_nil))) pe_int (nomark _)) (pe_lst (pa_cons (pe_op op_addT (pe_op op_addT (pv 4) (pv 11)) (pv 4)) (pa_cons (pe_op op_addT (pv 4) (pv 11)) pa_nil))) (pe_lst (pa_cons (pe_op op_addT (pv 4) (pv 11)) (pa_cons (pe_op op_addT (pv 11) (pv 4)) pa_nil)))))))
  pss_nil)
  (pss_cons (ps_if (pt_cmpR op_eqI (pv 2) pe_int (nomark _))
  (pss_cons (ps_set (i := 12) nd rfl (Or.inl rfl) (pe_lst (pa_cons (pe_sT [98]) (pa_cons (pe_sT [97]) pa_nil))))
  (pss_cons (ps_for PassesOwn.never rfl (pi_range1 (by rfl) M.n_range (pa_cons (pe_op op_add pe_int (pe_cl C__law_draw hr (pa_cons (pv 0) (pa_cons pe_int pa_nil)))) pa_nil)) (pg_name (i := 13) nd rfl (Or.inl rfl))
  (pss_one (ps_expr (kbm K (pe_bm PySem.F.plainAttrs_list PySem.F.slot_list_append PySem.F.type_list_append mt_append (pv 12) (pa_cons (pe_op op_addT (pe_ix (kix K (r := L2.rIxL) ix_list) (pv 12) (pe_un un_neg pe_int) (fun _ _ => rfl)) (pe_ix (kix K (r := L2.rIxL) ix_list) (pv 12) (pe_un un_neg pe_int) (fun _ _ => rfl))) pa_nil))))))
  (pss_one (ps_ret (pe_ifExp (pt_cmpR op_eqI (pe_cl C__law_draw hr (pa_cons (pv 0) (pa_cons pe_int pa_nil))) pe_int (nomark _)) (pe_lst (pa_cons (pe_ix (kix K (r := L2.rIxL) ix_list) (pv 12) (pe_un un_neg pe_int) (fun _ _ => rfl)) (pa_cons (pe_ix (kix K (r := L2.rIxL) ix_list) (pv 12) (pe_un un_neg pe_int) (fun _ _ => rfl)) pa_nil))) (pe_lst (pa_cons (pe_op op_addT (pe_slice sl_T (pe_ix (kix K (r := L2.rIxL) ix_list) (pv 12) (pe_un un_neg pe_int) (fun _ _ => rfl)) po_none (po_some (pe_un un_neg pe_int))) (pe_sT [97])) (pa_cons (pe_ix (kix K (r := L2.rIxL) ix_list) (pv 12) (pe_un un_neg pe_int) (fun _ _ => rfl)) pa_nil))))))))
  pss_nil)
  (pss_one (ps_ret (pe_lst (pa_cons (pe_cl C__law_text hr (pa_cons (pv 0) (pa_cons (pv 1) (pa_cons (pv 3) pa_nil)))) (pa_cons (pe_cl C__law_text hr (pa_cons (pv 0) (pa_cons (pv 1) (pa_cons (pv 3) pa_nil)))) pa_nil)))))))))))))))), ?_⟩
    have fin : ∀ {HA H1 : Hp} {x y : V} {p : Addr} {mA mB a b c d : Nat}, Rf fa mA H HA → GdT abcd a b x → GdT abcd c d y → HA p = none → Rf fa mB HA H1 → H1 p = some (.lst [x, y]) → mA + mB ≤ 300 → b ≤ 20000 → d ≤ 20000 → Q (.ref p) H1 := fun {HA H1 x y p mA mB a b c d} RA hx hy hp RB h1 hm hb hd => by
      obtain ⟨s, rfl, _, h3, h4⟩ := hx
      obtain ⟨t, rfl, _, h6, h7⟩ := hy
      have GA : GF fa mB HA := G.go RA (by omega)
      exact k p s t H1 (RA.free G.is hp GA.is) ((RA.trans RB).mono hm) h1 (by omega) (by omega) h4 h7
    -- signs, way, long
    have hsg : Dw fa (start N__law_pair [.ref fa]) 1 (tSl rSlT (tC (T [97, 98, 99, 100])) tNoPart (tPart (tCall (sp_one K) [] E0 (tCons (tVar 0) (tCons (tLst (tCons (tC (.int 1)) (tCons (tC (.int 2)) (tCons (tC (.int 2)) (tCons (tC (.int 3)) tNil))))) tNil))))) (GdT abcd 1 3) := fun H G Q q =>
      wp_oneL (vs := [.int 1, .int 2, .int 2, .int 3]) rfl (el_lst (ea_cons ev_c (ea_cons ev_c (ea_cons ev_c (ea_cons ev_c ea_nil)))) (by show 4 ≤ 100000; decide)) G (fun z => nomatch z) (by show 4 ≤ 16777216; decide) fun v H' hv R => by
        have hi : ∃ n : Nat, v = .int (n : Int) ∧ (n = 1 ∨ n = 2 ∨ n = 3) := by
          simp at hv
          rcases hv with rfl | rfl | rfl
          · exact ⟨1, rfl, by omega⟩
          · exact ⟨2, rfl, by omega⟩
          · exact ⟨3, rfl, by omega⟩
        obtain ⟨n, rfl, hn⟩ := hi
        refine ⟨(n : Int), rfl, _, rfl, by show 4 ≤ 16777216; decide, q _ H' ⟨_, rfl, ?_, ?_, ?_⟩ R⟩
        · rw [cutT_to]
          rcases hn with rfl | rfl | rfl <;> decide
        · rw [cutT_to]
          rcases hn with rfl | rfl | rfl <;> decide
        · intro c hc
          have := cutT_mem hc
          simp at this
          unfold abcd
          omega
    refine hsg H (G.mono (by omega)) _ fun v1 H1 ⟨sg, hv1, hs1, hs2, hs3⟩ R1 => (dI_draw (lo := 10) (hi := 10) rfl dI_c : Dw fa (start N__law_pair [.ref fa]) _ _ _) H1 (G.go R1 (by omega)) _ fun v2 H2 ⟨way, hv2, hw1, hw2⟩ R2 =>
      (dw_oneL (g := GdI 3 40) (vs := [.int 3, .int 6, .int 12, .int 40]) rfl (fun H => el_lst (ea_cons ev_c (ea_cons ev_c (ea_cons ev_c (ea_cons ev_c ea_nil)))) (by show 4 ≤ 100000; decide)) (fun v hv => by
        simp at hv
        rcases hv with rfl | rfl | rfl | rfl
        · exact ⟨3, rfl, by decide, by decide⟩
        · exact ⟨6, rfl, by decide, by decide⟩
        · exact ⟨12, rfl, by decide, by decide⟩
        · exact ⟨40, rfl, by decide, by decide⟩) (fun z => nomatch z) (by show 4 ≤ 16777216; decide) : Dw fa (start N__law_pair [.ref fa]) _ _ _) H2 (G.go (R1.trans R2) (by omega)) _ fun v3 H3 ⟨lg, hv3, hl1, hl2⟩ R3 => ⟨v1, v2, v3, rfl, ?_⟩
    subst hv1 hv2 hv3
    obtain ⟨long, rfl⟩ := Int.eq_ofNat_of_zero_le (show 0 ≤ lg by omega)
    have RA : Rf fa 3 H H3 := ((R1.trans R2).trans R3).mono (by omega)
    have GA : GF fa 297 H3 := G.go RA (by omega)
    clear R1 R2 R3 hsg
    show tSeq _ _ _ [some (.ref fa), some (T sg), some (.int way), some (.int (long : Int)), none, none, none, none, none, none, none, none, none, none] H3
    refine q_dw (dT_add (dT_one rfl (dT_var rfl hs1 hs2 hs3)) (dT_text (c := 40) rfl (dT_var rfl hs1 hs2 hs3) (dI_var rfl (by omega) (by omega)))) GA fun v4 H4 ⟨root, hv4, hr1, hr2, hr3⟩ R4 => ?_
    subst hv4
    have RB : Rf fa 45 H H4 := (RA.trans R4).mono (by omega)
    have GB : GF fa 255 H4 := G.go RB (by omega)
    clear R4 RA GA
    show tSeq _ _ _ [some (.ref fa), some (T sg), some (.int way), some (.int (long : Int)), some (T root), none, none, none, none, none, none, none, none, none] H4
    have hr : ∀ {σ : L2.St}, σ[4]? = some (some (T root)) → Dw fa σ 0 (tVar 4) (GdT abcd 1 41) := fun h0 => dT_var h0 (by omega) (by omega) hr3
    have hone : ∀ {σ : L2.St}, σ[0]? = some (some (.ref fa)) → σ[4]? = some (some (T root)) → Dw fa σ 1 (tOp rMulT (tVar 4) (tOp (rI0 fun i j => .int (i + j)) (tC (.int 1)) (tCall sp_draw [] E0 (tCons (tVar 0) (tCons (tC (.int 6)) tNil))))) (GdT abcd 1 246) := fun h0 h4 => dw_mono (dT_mul (c := 1) (d := 6) (hr h4) (dI_add dI_c (dI_draw h0 dI_c))) (by omega)
    refine hone rfl rfl H4 (GB.mono (by omega)) _ fun v5 H5 ⟨one, hv5, ho1, ho2, ho3⟩ R5 => hone rfl rfl H5 (GB.go R5 (by omega)) _ fun v6 H6 ⟨oth, hv6, ht1, ht2, ht3⟩ R6 => ⟨v5, v6, rfl, ?_⟩
    subst hv5 hv6
    have RC : Rf fa 47 H H6 := (RB.trans (R5.trans R6)).mono (by omega)
    have GC : GF fa 253 H6 := G.go RC (by omega)
    clear R5 R6 RB GB hone
    show tSeq _ _ _ [some (.ref fa), some (T sg), some (.int way), some (.int (long : Int)), some (T root), some (T one), some (T oth), none, none, none, none, none, none, none] H6
    refine q_dw (dI_draw rfl (dI_len (hr rfl))) GC fun v7 H7 ⟨at_, hv7, ha1, ha2⟩ R7 => ?_
    obtain ⟨at_, rfl⟩ := Int.eq_ofNat_of_zero_le ha1
    subst hv7
    have RD : Rf fa 48 H H7 := (RC.trans R7).mono (by omega)
    have GD : GF fa 252 H7 := G.go RD (by omega)
    clear R7 RC GC
    show tSeq _ _ _ [some (.ref fa), some (T sg), some (.int way), some (.int (long : Int)), some (T root), some (T one), some (T oth), some (.int (at_ : Int)), none, none, none, none, none, none] H7
    have hdl : (root.drop at_ ++ root.take at_).length = root.length := by
      rw [List.length_append, List.length_drop, List.length_take]
      omega
    refine q_asg (v := T (root.drop at_ ++ root.take at_)) (ev_is (ev_op (ev_slT (ev_var rfl) (eo_some (ev_var rfl)) eo_none (by omega)) (ev_slT (ev_var rfl) eo_none (eo_some (ev_var rfl)) (by omega)) (rv_addT (by rw [cutT_from, cutT_to, ← List.length_append, hdl]; omega))) (by rw [cutT_from, cutT_to])) fun H8 e8 => ?_
    have hdc : ∀ c ∈ root.drop at_ ++ root.take at_, abcd c := fun c hc => by
      rcases List.mem_append.mp hc with hc | hc
      · exact hr3 c (List.mem_of_mem_drop hc)
      · exact hr3 c (List.mem_of_mem_take hc)
    generalize root.drop at_ ++ root.take at_ = tu at hdl hdc ⊢
    show tSeq _ _ _ [some (.ref fa), some (T sg), some (.int way), some (.int (long : Int)), some (T root), some (T one), some (T oth), some (.int (at_ : Int)), some (T tu), none, none, none, none, none] H8
    have RE : Rf fa 48 H H8 := RD.then e8
    clear RD GD e8
    have htu : ∀ {σ : L2.St}, σ[8]? = some (some (T tu)) → Dw fa σ 0 (tVar 8) (GdT abcd 1 41) := fun h0 => dT_var h0 (by omega) (by omega) hdc
    -- way < 3
    refine q_when (et_test (ev_op (ev_var rfl) ev_c rv_I0)) (fun hb H9 e9 => ?_) (fun hb H9 e9 => ?_)
    · have RF : Rf fa 48 H H9 := RE.then e9
      have GF_ : GF fa 252 H9 := G.go RF (by omega)
      refine s_ix3 ?_
      refine wp_pair (dT_var (ok := abcd) rfl ho1 ho2 ho3) (dT_var (ok := abcd) rfl ht1 ht2 ht3) GF_ fun x1 y1 p1 HA hx1 hy1 hp1 Q1 h1 => ?_
      refine wp_pair (dT_mul (c := 9) (d := 9) (hr rfl) dI_c) (dT_mul (c := 6) (d := 10) (hr rfl) (dw_oneL (g := GdI 6 10) (vs := [.int 6, .int 7, .int 10]) rfl (fun H => el_lst (ea_cons ev_c (ea_cons ev_c (ea_cons ev_c ea_nil))) (by show 3 ≤ 100000; decide)) (fun v hv => by
        simp at hv
        rcases hv with rfl | rfl | rfl
        · exact ⟨6, rfl, by decide, by decide⟩
        · exact ⟨7, rfl, by decide, by decide⟩
        · exact ⟨10, rfl, by decide, by decide⟩) (fun z => nomatch z) (by show 3 ≤ 16777216; decide))) (GF_.go Q1 (m' := 200) (by omega)) fun x2 y2 p2 HB hx2 hy2 hp2 Q2 h2 => ?_
      refine wp_pair (hr rfl) (hr rfl) ((GF_.go Q1 (m' := 200) (by omega)).go Q2 (m' := 100) (by omega)) fun x3 y3 p3 HC hx3 hy3 hp3 Q3 h3 => ⟨by show 3 ≤ sizeLine; decide, fun p np => ⟨.int way, rfl, ?_⟩⟩
      have GH : GF fa 252 HA := GF_.go Q1 (by omega)
      have GI : GF fa 200 HB := GH.go Q2 (by omega)
      have GJ : GF fa 150 HC := GI.go Q3 (by omega)
      have h13 : HC p1 = some (.lst [x1, y1]) := Q3.at_ (Q2.at_ h1 (GF_.new hp1)) (GF_.new hp1)
      have h23 : HC p2 = some (.lst [x2, y2]) := Q3.at_ h2 (GH.new hp2)
      have eN := Ex.new (H := HC) (p := p) (o := .lst [.ref p1, .ref p2, .ref p3]) np
      have QF : Rf fa 3 H9 (upd HC p (.lst [.ref p1, .ref p2, .ref p3])) := (((Q1.trans Q2).trans Q3).then eN).mono (by omega)
      have hp2' : H9 p2 = none := Q1.free GF_.is hp2 GH.is
      have hp3' : H9 p3 = none := (Q1.trans Q2).free GF_.is hp3 GI.is
      have hw3 : way < 3 := of_decide_eq_true hb
      obtain ⟨wn, rfl⟩ := Int.eq_ofNat_of_zero_le hw1
      have hw4 : wn = 0 ∨ wn = 1 ∨ wn = 2 := by omega
      rcases hw4 with rfl | rfl | rfl
      · exact ⟨p, _, 0, _, rfl, rfl, sq_of upd_same, rfl, fin RF hx1 hy1 hp1 QF (eN _ _ h13) (by omega) (by omega) (by omega)⟩
      · exact ⟨p, _, 1, _, rfl, rfl, sq_of upd_same, rfl, fin RF hx2 hy2 hp2' QF (eN _ _ h23) (by omega) (by omega) (by omega)⟩
      · exact ⟨p, _, 2, _, rfl, rfl, sq_of upd_same, rfl, fin RF hx3 hy3 hp3' QF (eN _ _ h3) (by omega) (by omega) (by omega)⟩
    have RF : Rf fa 48 H H9 := RE.then e9
    clear RE e9
    have GF_ : GF fa 252 H9 := G.go RF (by omega)
    -- way < 5
    refine q_when (et_test (ev_op (ev_var rfl) ev_c rv_I0)) (fun hb H10 e10 => ?_) (fun hb H10 e10 => ?_)
    · have RG : Rf fa 48 H H10 := RF.then e10
      have GG : GF fa 252 H10 := G.go RG (by omega)
      refine q_dw (dI_draw rfl (dI_len (htu rfl))) GG fun v9 H11 ⟨sp, hv9, hp1, hp2⟩ R9 => ?_
      subst hv9
      have RH : Rf fa 49 H H11 := (RG.trans R9).mono (by omega)
      show tRet _ _ [some (.ref fa), some (T sg), some (.int way), some (.int (long : Int)), some (T root), some (T one), some (T oth), some (.int (at_ : Int)), some (T tu), some (.int sp), none, none, none, none] H11
      refine s_retIf (et_test (ev_op (ev_var rfl) ev_c rv_I0)) (fun _ HX eX => ?_) (fun _ HX eX => ?_)
      · have RI := RH.then eX
        exact s_pair (hr rfl) (htu rfl) (G.go RI (m' := 200) (by omega)) fun x y p H1 hx hy hp R h1 => fin RI hx hy hp R h1 (by omega) (by omega) (by omega)
      · have RI := RH.then eX
        exact s_pair (hr rfl) (dT_add (dT_add (dT_sl (htu rfl) do_none (do_some (dI_var rfl hp1 hp2))) (dT_one (lo := 2) (n := 2) rfl (dT_c (ok := abcd) (s := [97, 98]) (fun c hc => by simp at hc; unfold abcd; omega)))) (dT_sl (htu rfl) (do_some (dI_add (dI_var rfl hp1 hp2) dI_c)) do_none)) (G.go RI (m' := 200) (by omega)) fun x y p H1 hx hy hp R h1 => fin RI hx hy hp R h1 (by omega) (by omega) (by omega)
    have RG : Rf fa 48 H H10 := RF.then e10
    clear RF e10 GF_
    -- way == 5
    refine q_when (et_test (ev_op (ev_var rfl) ev_c rv_I0)) (fun hb H11 e11 => ?_) (fun hb H11 e11 => ?_)
    · have RI := RG.then e11
      have h5 : Dw fa [some (.ref fa), some (T sg), some (.int way), some (.int (long : Int)), some (T root), some (T one), some (T oth), some (.int (at_ : Int)), some (T tu), none, none, none, none, none] 0 (tOp (rI CMulB fun i j => .int (i * j)) (tC (.int 5)) (tCB rLenT (tCons (tVar 4) tNil))) (GdI 1 205) := fun H G Q q => ⟨T root, rfl, root, rfl, by omega, 5, (root.length : Int), rfl, rfl, mulB (a := 20) (b := 20) (by decide) (by simp; omega) (by decide) (by decide) (by decide), q _ H ⟨_, rfl, by omega, by omega⟩ (Rf.refl H)⟩
      exact s_pair (dT_var (ok := abcd) rfl ho1 ho2 ho3) (dT_sl (dT_mul (c := 12) (d := 12) (hr rfl) dI_c) do_none (do_some (dI_add (dI_len (hr rfl)) (dI_draw rfl h5)))) (G.go RI (m' := 200) (by omega)) fun x y p H1 hx hy hp R h1 => fin RI hx hy hp R h1 (by omega) (by omega) (by omega)
    have RH : Rf fa 48 H H11 := RG.then e11
    clear RG e11
    -- way == 6
    refine q_when (et_test (ev_op (ev_var rfl) ev_c rv_I0)) (fun hb H12 e12 => ?_) (fun hb H12 e12 => ?_)
    · have RI := RH.then e12
      refine q_dw (dI_add dI_c (dI_draw rfl dI_c)) (G.go RI (m' := 200) (by omega)) fun v10 HX ⟨mn, hv, hm1, hm2⟩ R10 => ?_
      subst hv
      have RJ := RI.trans R10
      exact s_pair (dT_mul (c := 1) (d := 5) (hr rfl) (dI_var rfl (by omega) (by omega))) (dT_mul (c := 1) (d := 5) (htu rfl) (dI_var rfl (by omega) (by omega))) (G.go RJ (m' := 200) (by omega)) fun x y p H1 hx hy hp R h1 => fin RJ hx hy hp R h1 (by omega) (by omega) (by omega)
    have RI : Rf fa 48 H H12 := RH.then e12
    clear RH e12
    -- way == 7
    refine q_when (et_test (ev_op (ev_var rfl) ev_c rv_I0)) (fun hb H13 e13 => ?_) (fun hb H13 e13 => ?_)
    · have RJ := RI.then e13
      refine q_dw (dT_text (c := 9) rfl (dT_var rfl hs1 hs2 hs3) (dw_as dI_c fun v ⟨i, h1, h2, h3⟩ => ⟨i, h1, by omega, by omega⟩)) (G.go RJ (m' := 200) (by omega)) fun v11 HX ⟨mo, hv, hm1, hm2, hm3⟩ R11 => ?_
      subst hv
      have RK := RJ.trans R11
      have hmo : ∀ {σ : L2.St}, σ[11]? = some (some (T mo)) → Dw fa σ 0 (tVar 11) (GdT abcd 0 9) := fun h0 => dT_var h0 hm1 hm2 hm3
      refine s_retIfD (dI_draw rfl dI_c) dI_c (G.go RK (m' := 150) (by omega)) (fun HY RY => ?_) (fun HY RY => ?_)
      · have RL := RK.trans RY
        exact s_pair (dT_add (dT_add (hr rfl) (hmo rfl)) (hr rfl)) (dT_add (hr rfl) (hmo rfl)) (G.go RL (m' := 100) (by omega)) fun x y p H1 hx hy hp R h1 => fin RL hx hy hp R h1 (by omega) (by omega) (by omega)
      · have RL := RK.trans RY
        exact s_pair (dT_add (hr rfl) (hmo rfl)) (dT_add (hmo rfl) (hr rfl)) (G.go RL (m' := 100) (by omega)) fun x y p H1 hx hy hp R h1 => fin RL hx hy hp R h1 (by omega) (by omega) (by omega)
    have RJ : Rf fa 48 H H13 := RI.then e13
    clear RI e13
    -- way == 8
    refine q_when (et_test (ev_op (ev_var rfl) ev_c rv_I0)) (fun hb H14 e14 => ?_) (fun hb H14 e14 => ?_)
    · have RK := RJ.then e14
      have GK : GF fa 252 H14 := G.go RK (by omega)
      refine q_asgL (xs := [T [98], T [97]]) (el_lst (ea_cons ev_c (ea_cons ev_c ea_nil)) (by show 2 ≤ 100000; decide)) fun ps H15 hps e15 h15 => ?_
      have hne : ps ≠ fa := GK.new hps
      refine q_forD (dI_add dI_c (dI_draw rfl dI_c)) (GK.ex e15) fun n H16 hn1 hn2 R16 => ?_
      obtain ⟨n, rfl⟩ := Int.eq_ofNat_of_zero_le (show 0 ≤ n by omega)
      have RL : Rf fa 49 H H16 := ((RK.then e15).trans R16).mono (by omega)
      have h16 : H16 ps = some (.lst [T [98], T [97]]) := R16.at_ h15 hne
      show tSeq _ _ _ [some (.ref fa), some (T sg), some (.int way), some (.int (long : Int)), some (T root), some (T one), some (T oth), some (.int (at_ : Int)), some (T tu), none, none, none, some (.ref ps), none] H16
      refine q_forW (fun c => c = ps) (src_range1 (n := n) (fun H2 e2 Q2 q => q H2 (Ex.refl _)) (by omega)) ?_
        (fun Hs i σ' H' => ∃ (ys : List Tx) (a b : Tx) (v13 : Option V), σ' = [some (.ref fa), some (T sg), some (.int way), some (.int (long : Int)), some (T root), some (T one), some (T oth), some (.int (at_ : Int)), some (T tu), none, none, none, some (.ref ps), v13] ∧ Exc (fun c => c = ps) Hs H' ∧ H' ps = some (.lst (ys.map T ++ [T a] ++ [T b])) ∧ ys.length = i ∧ a.length ≤ 2 ^ i ∧ b.length ≤ 2 ^ i ∧ (∀ c ∈ a, abcd c) ∧ ∀ c ∈ b, abcd c) ?_ ?_ ?_ ?_ ?_
      · rintro c rfl
        exact ⟨by rw [h16]; exact fun z => (nomatch z), fun z => z⟩
      · intro Hs e
        exact ⟨[], [98], [97], none, rfl, Exc.refl _, e _ _ h16, rfl, by decide, by decide, fun c hc => by simp at hc; unfold abcd; omega, fun c hc => by simp at hc; unfold abcd; omega⟩
      · rintro Hs i σ' H' ⟨_, _, _, _, _, h1, _⟩
        exact h1
      · rintro Hs i σ' Ha Hb ⟨ys, a, b, v13, h0, h1, h2, h3⟩ e
        exact ⟨ys, a, b, v13, h0, h1.then e, e _ _ h2, h3⟩
      · rintro Hs i x σ' H' e hi ⟨ys, a, b, v13, rfl, h1, h2, h3, h4, h5, h6, h7⟩ rfl
        have hpw : (2 : Nat) ^ i ≤ 1024 := Nat.le_trans (Nat.pow_le_pow_right (by decide) (show i ≤ 10 by omega)) (by decide)
        have hpe : (2 : Nat) ^ (i + 1) = 2 ^ i * 2 := Nat.pow_succ ..
        refine s_app (v := T (b ++ a)) h2 (ev_var rfl) (ev_op (ev_op (ev_var rfl) (ev_un ev_c ru_neg) (rv_ixL (sq_of h2) (atI_last _ _))) (ev_op (ev_var rfl) (ev_un ev_c ru_neg) (rv_ixL (sq_of h2) (atI_back2 _ _ _))) (rv_addT (by omega))) (by simp; omega) fun H17 e17 => ?_
        refine ⟨ys ++ [a], b, b ++ a, _, rfl, (Exc.then h1 e17).upd (.inl rfl), ?_, by simp; omega, by omega, by rw [List.length_append]; omega, h7, fun c hc => ?_⟩
        · rw [upd_same, List.map_append]
          rfl
        · rcases List.mem_append.mp hc with hc | hc
          · exact h7 c hc
          · exact h6 c hc
      · rintro Hs σ' H' e ⟨ys, a, b, v13, rfl, h1, h2, h3, h4, h5, h6, h7⟩
        have hpw : (2 : Nat) ^ n ≤ 1024 := Nat.le_trans (Nat.pow_le_pow_right (by decide) (show n ≤ 10 by omega)) (by decide)
        have RM : Rf fa 49 H H' := (RL.then e).exc h1 (RK.free G.is hps GK.is) hne
        refine s_retIfD (dI_draw rfl dI_c) dI_c (G.go RM (m' := 150) (by omega)) (fun HY RY => ?_) (fun HY RY => ?_)
        · have RN := RM.trans RY
          have hY := RY.at_ h2 hne
          refine s_retL (el_lst (ea_cons (ev_op (ev_var rfl) (ev_un ev_c ru_neg) (rv_ixL (sq_of hY) (atI_last _ _))) (ea_cons (ev_op (ev_var rfl) (ev_un ev_c ru_neg) (rv_ixL (sq_of hY) (atI_back2 _ _ _))) ea_nil)) (by show 2 ≤ 100000; decide)) fun p H1 hp e1 h1 => ?_
          exact fin (a := 0) (b := 1024) (c := 0) (d := 1024) RN ⟨b, rfl, by omega, by omega, h7⟩ ⟨a, rfl, by omega, by omega, h6⟩ hp (Rf.of_ex e1) h1 (by omega) (by omega) (by omega)
        · have RN := RM.trans RY
          have hY := RY.at_ h2 hne
          have hcl := cutT_len b none (some (-2))
          refine s_retL (xs := [T (cutT b none (some (-2)) ++ [97]), T a]) (el_lst (ea_cons (ev_op (ev_slT (ev_op (ev_var rfl) (ev_un ev_c ru_neg) (rv_ixL (sq_of hY) (atI_last _ _))) eo_none (eo_some (ev_un ev_c ru_neg)) (by omega)) ev_c (rv_addT (by show _ + 1 ≤ 16777216; omega))) (ea_cons (ev_op (ev_var rfl) (ev_un ev_c ru_neg) (rv_ixL (sq_of hY) (atI_back2 _ _ _))) ea_nil)) (by show 2 ≤ 100000; decide)) fun p H1 hp e1 h1 => ?_
          exact fin (a := 0) (b := 1025) (c := 0) (d := 1024) RN ⟨_, rfl, by omega, by rw [List.length_append]; show _ + 1 ≤ 1025; omega, fun c hc => by
            rcases List.mem_append.mp hc with hc | hc
            · exact h7 c (cutT_mem hc)
            · simp at hc
              unfold abcd
              omega⟩ ⟨a, rfl, by omega, by omega, h6⟩ hp (Rf.of_ex e1) h1 (by omega) (by omega) (by omega)
    have RK : Rf fa 48 H H14 := RJ.then e14
    clear RJ e14
    have hlg : Dw fa [some (.ref fa), some (T sg), some (.int way), some (.int (long : Int)), some (T root), some (T one), some (T oth), some (.int (at_ : Int)), some (T tu), none, none, none, none, none] 0 (tVar 3) (GdI 0 ((40 : Nat) : Int)) := dI_var rfl (by omega) (by omega)
    exact s_pair (dT_text rfl (dT_var rfl hs1 hs2 hs3) hlg) (dT_text rfl (dT_var rfl hs1 hs2 hs3) hlg) (G.go RK (m' := 200) (by omega)) fun x y p H1 hx hy hp R h1 => fin RK hx hy hp R h1 (by omega) (by omega) (by omega)
end
end K02
set_option Elab.async false
set_option linter.all false
set_option maxRecDepth 100000
set_option maxHeartbeats 2000000
namespace K02
open PySem PySem.Spec PyProof.Rows L2 Evl Wc Wm
theorem kb_common_root_1_0 : KB "common_root" st_common_root 0 ["one", "other"] ["other", "one"] (sw2 true) (sw2 true) := kb2 true rfl (fun _ _ _ _ _ _ a b => rfl)
theorem kb_turned_by_1_0 : KB "turned_by" st_turned_by 0 ["one", "other"] ["other", "one"] (sw2 true) (sw2 true) := kb2 true rfl (fun _ _ _ _ _ _ a b => rfl)
theorem kb_equal_power_1_0 : KB "equal_power" st_equal_power 0 ["one", "other"] ["other", "one"] (sw2 true) (sw2 true) := kb2 true rfl (fun _ _ _ _ _ _ a b => rfl)
theorem kb_shared_beginning_1_0 : KB "shared_beginning" st_shared_beginning 0 ["one", "other"] ["other", "one"] (sw2 true) (sw2 true) := kb2 true rfl (fun _ _ _ _ _ _ a b => rfl)
theorem kb_between_1_0 : KB "between" st_between 0 ["one", "other"] ["other", "one"] (sw2 true) (sw2 true) := kb2 true rfl (fun _ _ _ _ _ _ a b => rfl)
section
variable {K : PySem.W.Frag} {σ : L2.St} {H H' : Hp} {te tu : TE}
def Due (o : Option (Tx × Nat × Nat)) (v : V) (H : Hp) : Prop := match o with
  | none => v = .non
  | some r => ∃ p, v = .ref p ∧ H p = some (.tup [T r.1, .int (r.2.1 : Int), .int (r.2.2 : Int)])
theorem Due.ex {o : Option (Tx × Nat × Nat)} {v : V} (h : Due o v H) (e : Ex H H') : Due o v H' := by
  cases o with
  | none => exact h
  | some r =>
    obtain ⟨p, hv, hp⟩ := h
    exact ⟨p, hv, e _ _ hp⟩
theorem retR_of {o : Option (Tx × Nat × Nat)} {Q : VK} (k : ∀ v H2, Ex H H2 → Due o v H2 → Q v H2) : RetR o H Q := by
  cases o with
  | none => exact fun H2 e2 => k _ H2 e2 rfl
  | some r => exact fun p H2 hp e2 h2 => k _ H2 e2 ⟨p, rfl, h2⟩
def EvD (te : TE) (σ : L2.St) (H : Hp) (o : Option (Tx × Nat × Nat)) : Prop := ∀ H1, Ex H H1 → ∀ Q : VK, (∀ v H2, Ex H1 H2 → Due o v H2 → Q v H2) → te σ H1 Q
theorem ed_var {o : Option (Tx × Nat × Nat)} {i : Nat} {v : V} (h : σ[i]? = some (some v)) (hd : Due o v H) : EvD (tVar i) σ H o := fun H1 e Q q => ⟨v, h, q v H1 (Ex.refl _) (hd.ex e)⟩
theorem ed_call {o : Option (Tx × Nat × Nat)} {sp : Sp} {dvs vs : List V} {E : XK} {ta : TA} (h : EvA ta σ H vs) (hs : ∀ H1 Q, Ex H H1 → RetR o H1 Q → sp (vs ++ dvs) H1 Q E) : EvD (tCall sp dvs E ta) σ H o := fun H1 e Q q =>
  h H1 e _ fun H2 e2 => hs H2 Q (e.trans e2) (retR_of fun v H3 e3 d => q v H3 (e2.trans e3) d)
theorem ed_callK {o : Option (Tx × Nat × Nat)} {sp : Sp} {gV : List V → List V → List V} {vs : List V} {ta : TA} (h : EvA ta σ H vs) (hs : ∀ H1 Q, Ex H H1 → RetR o H1 Q → sp (gV [] vs) H1 Q E0) : EvD (tCallK0 sp gV ta) σ H o := fun H1 e Q q =>
  h H1 e _ fun H2 e2 => hs H2 Q (e.trans e2) (retR_of fun v H3 e3 d => q v H3 (e2.trans e3) d)
theorem ev_callK {v : V} {sp : Sp} {gV : List V → List V → List V} {vs : List V} {ta : TA} (h : EvA ta σ H vs) (hs : ∀ H1 Q, Ex H H1 → RetV v H1 Q → sp (gV [] vs) H1 Q E0) : Ev (tCallK0 sp gV ta) σ H v := fun H1 e Q q =>
  h H1 e _ fun H2 e2 => hs H2 Q (e.trans e2) fun H3 e3 => q H3 (e2.trans e3)
theorem el_callK {xs : List V} {sp : Sp} {gV : List V → List V → List V} {vs : List V} {ta : TA} (h : EvA ta σ H vs) (hs : ∀ H1 Q, Ex H H1 → RetL xs H1 Q → sp (gV [] vs) H1 Q E0) : EvL (tCallK0 sp gV ta) σ H xs := fun H1 e Q q =>
  h H1 e _ fun H2 e2 => hs H2 Q (e.trans e2) fun p H3 hp e3 h3 => q p H3 (fresh_back e2 hp) (e2.trans e3) h3
theorem ev_same {o : Option (Tx × Nat × Nat)} (hr : ∀ r, o = some r → LowT r.1) (h1 : EvD te σ H o) (h2 : EvD tu σ H o) : Ev (tCall (sp_law_same_root K) [] E0 (tCons te (tCons tu tNil))) σ H (.bl true) := fun H1 e Q q =>
  h1 H1 e _ fun v H2 e2 d1 => h2 H2 (e.trans e2) _ fun x H3 e3 d2 => by
    have d1' := d1.ex e3
    cases o with
    | none =>
      cases d1'
      cases d2
      exact .inl ⟨rfl, fun H4 e4 => q H4 ((e2.trans e3).trans e4)⟩
    | some r =>
      obtain ⟨p, rfl, hp⟩ := d1'
      obtain ⟨p', rfl, hp'⟩ := d2
      exact .inr ⟨p, p', r.1, _, _, rfl, hp, hp', hr r rfl, fun H4 e4 => q H4 ((e2.trans e3).trans e4)⟩
/-- a list, new or standing -/
def EvS (te : TE) (σ : L2.St) (H : Hp) (xs : List V) : Prop := ∀ H1, Ex H H1 → ∀ Q : VK, (∀ p H2, Ex H1 H2 → H2 p = some (.lst xs) → Q (.ref p) H2) → te σ H1 Q
theorem es_var {i : Nat} {p : Addr} {xs : List V} (h : σ[i]? = some (some (.ref p))) (hp : H p = some (.lst xs)) : EvS (tVar i) σ H xs := fun H1 e Q q => ⟨_, h, q p H1 (Ex.refl _) (e _ _ hp)⟩
theorem es_new {xs : List V} (h : EvL te σ H xs) : EvS te σ H xs := fun H1 e Q q => h H1 e Q fun p H2 _ e2 h2 => q p H2 e2 h2
theorem ev_sameL {xs : List V} (hx : ∀ v ∈ xs, ∃ d, FlatV v d) (hl : xs.length ≤ 30000) (h1 : EvS te σ H xs) (h2 : EvS tu σ H xs) : Ev (tCall (sp_list_same K) [] E0 (tCons te (tCons tu tNil))) σ H (.bl true) := fun H1 e Q q =>
  h1 H1 e _ fun p H2 e2 hp => h2 H2 (e.trans e2) _ fun x H3 e3 hq => ⟨p, x, xs, rfl, e3 _ _ hp, sq_of hq, hx, hl, fun H4 e4 => q H4 ((e2.trans e3).trans e4)⟩
end
theorem isTxt.low {a : Tx} (h : isTxt a) : LowT a := fun c hc => by
  have := h.2 c hc
  simp at this
  omega
theorem shared_low {a b : Tx} (ha : isTxt a) (hb : isTxt b) : ∀ r, sharedRoot a b = some r → LowT r.1 := fun r hr => by
  unfold sharedRoot at hr
  by_cases hc : a ++ b = b ++ a
  · rw [if_pos hc] at hr
    by_cases he : a = [] ∧ b = []
    · rw [if_pos he] at hr
      cases hr
      exact fun c hc => nomatch hc
    · rw [if_neg he] at hr
      cases hr
      intro c hc
      have h1 : c ∈ (if a = [] then b else a) := List.mem_of_mem_take hc
      by_cases h2 : a = []
      · rw [if_pos h2] at h1
        exact hb.low c h1
      · rw [if_neg h2] at h1
        exact ha.low c h1
  · rw [if_neg hc] at hr
    cases hr
theorem shared_isNone (a b : Tx) : (sharedRoot a b).isNone = !decide (a ++ b = b ++ a) := by
  unfold sharedRoot
  by_cases hc : a ++ b = b ++ a
  · rw [if_pos hc, decide_eq_true hc]
    by_cases he : a = [] ∧ b = []
    · rw [if_pos he]; rfl
    · rw [if_neg he]; rfl
  · rw [if_neg hc, decide_eq_false hc]
    rfl
theorem Due.isN {o : Option (Tx × Nat × Nat)} {v : V} {H : Hp} (h : Due o v H) : decide (v = V.non) = o.isNone := by
  cases o with
  | none =>
    cases h
    rfl
  | some r =>
    obtain ⟨p, rfl, _⟩ := h
    rfl
theorem turned_len {a b : Tx} (ha : a.length ≤ 400) : (turnedBy a b).length ≤ 400 := by
  unfold turnedBy
  by_cases hl : a.length = b.length
  · rw [if_pos hl]
    have := List.length_filter_le (fun k => decide (a.drop k ++ a.take k = b)) (List.range (max 1 a.length))
    rw [List.length_range] at this
    omega
  · rw [if_neg hl]
    exact Nat.zero_le _
theorem flat_ints (ns : List Nat) : ∀ v ∈ ns.map (fun (n : Nat) => V.int (n : Int)), ∃ d, FlatV v d := fun v hv => by
  obtain ⟨n, _, rfl⟩ := List.mem_map.mp hv
  exact ⟨_, .int _⟩
theorem flat_texts {ts : List Tx} (h : ∀ t ∈ ts, LowT t) : ∀ v ∈ ts.map T, ∃ d, FlatV v d := fun v hv => by
  obtain ⟨t, ht, rfl⟩ := List.mem_map.mp hv
  exact ⟨_, .str (h t ht)⟩
theorem links_low {a b : Tx} (ha : isTxt a) : ∀ t ∈ linksB a b 41, LowT t := fun t ht c hc => by
  unfold linksB at ht
  obtain ⟨m, _, rfl⟩ := List.mem_map.mp (List.mem_of_mem_take ht)
  exact ha.low c (repT_mem (List.mem_of_mem_take hc))
theorem links_len (a b : Tx) : (linksB a b 41).length ≤ 20 := by
  unfold linksB
  rw [List.length_take]
  omega
section
variable {P : Program} {w : World} {K : PySem.W.Frag} {mg : Str → Option Value} {base : Heap}
def sp_law_right : Sp := fun vs H Q _ => ∃ (a b : Tx), vs = [T a, T b] ∧ isTxt a ∧ isTxt b ∧ RetV (.bl true) H Q
theorem ok__law_right {f : Addr} {fd : FuncData} (F : Fun K "_law_right" "_law_right" st__law_right f fd) (M : Md K mg)
    (C_change_places : Cal P w K mg base "change_places" st_change_places 4 ["one", "other"] sp_change_places) (C_common_root : Cal P w K mg base "common_root" st_common_root 4 ["one", "other"] sp_common_root)
    (C_equal_power : Cal P w K mg base "equal_power" st_equal_power 4 ["one", "other"] sp_equal_power) (C_shared_beginning : Cal P w K mg base "shared_beginning" st_shared_beginning 4 ["one", "other"] sp_shared_beginning)
    (C_turned_by : Cal P w K mg base "turned_by" st_turned_by 4 ["one", "other"] sp_turned_by) (C_between : Cal P w K mg base "between" st_between 4 ["one", "other"] sp_between)
    (C__law_common : Cal P w K mg base "_law_common" st__law_common 2 ["one", "other"] sp_law_common) (C__law_so : Cal P w K mg base "_law_so" st__law_so 1 ["actual", "due"] sp_law_so)
    (C__law_same_root : Cal P w K mg base "_law_same_root" st__law_same_root 2 ["actual", "due"] (sp_law_same_root K)) (C__law_turns : Cal P w K mg base "_law_turns" st__law_turns 1 ["one", "other"] sp_law_turns)
    (C__law_list : Cal P w K mg base "_law_list" st__law_list 1 ["actual", "due"] (sp_list_same K)) (C__law_shared : Cal P w K mg base "_law_shared" st__law_shared 1 ["one", "other"] sp_law_shared)
    (C__law_power : Cal P w K mg base "_law_power" st__law_power 2 ["one", "other"] sp_law_power) (C__law_is : Cal P w K mg base "_law_is" st__law_is 1 ["actual", "due"] sp_law_is)
    (C__law_links : Cal P w K mg base "_law_links" st__law_links 2 ["one", "other"] sp_law_links) : FnOk P w K mg base CX0 5 f fd ["one", "other"] sp_law_right := by
  have nd := sc__law_right.nd
  refine F.ok sc__law_right (fun vs H Q E h => ?_) (fun cdv A outer s H vs Q E hr h => ?_)
  · obtain ⟨_, _, rfl, _⟩ := h
    rfl
  · obtain ⟨a, b, rfl, ha, hb, k⟩ := h
    refine ⟨_, (pss_cons (ps_set (i := 2) nd rfl (Or.inl rfl) (pe_cl C__law_common hr (pa_cons (pv 0) (pa_cons (pv 1) pa_nil))))
  (pss_cons (ps_if (PW.pt (pw_or (pt_not (pt_val (pe_cl C__law_so hr (pa_cons (pe_cl C_change_places hr (pa_cons (pv 0) (pa_cons (pv 1) pa_nil))) (pa_cons (pe_cmpR op_eqT (pe_op op_addT (pv 0) (pv 1)) (pe_op op_addT (pv 1) (pv 0)) (nomark _)) pa_nil))))) (pw_or1 (pt_cmpR op_eqB (pe_cmpR op_isN (pv 2) pe_non (nomark _)) (pe_cmpR op_eqT (pe_op op_addT (pv 0) (pv 1)) (pe_op op_addT (pv 1) (pv 0)) (nomark _)) (nomark _)))))
  (pss_one (ps_ret pe_bl))
  pss_nil)
  (pss_cons (ps_if (PW.pt (pw_or (pt_not (pt_val (pe_cl C__law_same_root hr (pa_cons (pe_cl C_common_root hr (pa_cons (pv 0) (pa_cons (pv 1) pa_nil))) (pa_cons (pv 2) pa_nil))))) (pw_or1 (pt_not (pt_val (pe_cl C__law_same_root hr (pa_cons (pe_clK0 C_common_root (kb_common_root_1_0) hr (pk_cons (pv 0) (pk_cons (pv 1) pk_nil))) (pa_cons (pe_cl C__law_common hr (pa_cons (pv 1) (pa_cons (pv 0) pa_nil))) pa_nil))))))))
  (pss_one (ps_ret pe_bl))
  pss_nil)
  (pss_cons (ps_set (i := 3) nd rfl (Or.inl rfl) (pe_cl C__law_turns hr (pa_cons (pv 0) (pa_cons (pv 1) pa_nil))))
  (pss_cons (ps_set (i := 4) nd rfl (Or.inl rfl) (pe_cl C_turned_by hr (pa_cons (pv 0) (pa_cons (pv 1) pa_nil))))
  (pss_cons (ps_if (pt_not (pt_val (pe_cl C__law_list hr (pa_cons (pv 4) (pa_cons (pv 3) pa_nil)))))
  (pss_one (ps_ret pe_bl))
  pss_nil)
  (pss_cons (ps_expr (kbm K (pe_bm PySem.F.plainAttrs_list PySem.F.slot_list_append PySem.F.type_list_append mt_append (pv 4) (pa_cons (pe_sT [115, 112, 111, 105, 108, 116]) pa_nil))))
  (pss_cons (ps_if (pt_not (pt_val (pe_cl C__law_list hr (pa_cons (pe_clK0 C_turned_by (kb_turned_by_1_0) hr (pk_cons (pv 1) (pk_cons (pv 0) pk_nil))) (pa_cons (pv 3) pa_nil)))))
  (pss_one (ps_ret pe_bl))
  pss_nil)
  (pss_cons (ps_if (PW.pt (pw_or (pt_cmpR op_eqT (pv 0) (pe_sT []) (nomark _)) (pw_or1 (pt_cmpR op_eqT (pv 1) (pe_sT []) (nomark _)))))
  (pss_one (ps_ret pe_bl))
  pss_nil)
  (pss_cons (ps_par (i := 5) (j := 6) rfl nd rfl rfl (by decide) rfl rfl (pa_cons (pe_cl C_equal_power hr (pa_cons (pv 0) (pa_cons (pv 1) pa_nil))) (pa_cons (pe_cl C__law_shared hr (pa_cons (pv 0) (pa_cons (pv 1) pa_nil))) pa_nil)) (by rfl))
  (pss_cons (ps_if (PW.pt (pw_or (pt_cmpR op_ne (pv 5) (pe_cl C__law_power hr (pa_cons (pv 0) (pa_cons (pv 1) pa_nil))) (nomark _)) (pw_or1 (pt_cmpR op_ne (pe_clK0 C_equal_power (kb_equal_power_1_0) hr (pk_cons (pv 0) (pk_cons (pv 1) pk_nil))) (pe_cl C__law_power hr (pa_cons (pv 1) (pa_cons (pv 0) pa_nil))) (nomark _)))))
  (pss_one (ps_ret pe_bl))
  pss_nil)
  (pss_cons (ps_if (PW.pt (pw_or (PW.pt (pw_and (pt_cmpR op_isN (pv 6) pe_non (nomark _)) (pw_and1 (pt_cmpR op_notN (pe_cl C_shared_beginning hr (pa_cons (pv 0) (pa_cons (pv 1) pa_nil))) pe_non (nomark _))))) (pw_or1 (PW.pt (pw_and (pt_cmpR op_notN (pv 6) pe_non (nomark _)) (pw_and1 (pt_not (pt_val (pe_cl C__law_is hr (pa_cons (pe_clK0 C_shared_beginning (kb_shared_beginning_1_0) hr (pk_cons (pv 1) (pk_cons (pv 0) pk_nil))) (pa_cons (pv 6) pa_nil)))))))))))
  (pss_one (ps_ret pe_bl))
  pss_nil)
  (pss_cons (ps_set (i := 7) nd rfl (Or.inl rfl) (pe_cl C_between hr (pa_cons (pv 0) (pa_cons (pv 1) pa_nil))))
  (pss_cons (ps_if (pt_not (pt_val (pe_cl C__law_list hr (pa_cons (pv 7) (pa_cons (pe_cl C__law_links hr (pa_cons (pv 0) (pa_cons (pv 1) pa_nil))) pa_nil)))))
  (pss_one (ps_ret pe_bl))
  pss_nil)
  (pss_cons (ps_expr (kbm K (pe_bm PySem.F.plainAttrs_list PySem.F.slot_list_append PySem.F.type_list_append mt_append (pv 7) (pa_cons (pe_sT [115, 112, 111, 105, 108, 116]) pa_nil))))
  (pss_one (ps_ret (pe_cl C__law_list hr (pa_cons (pe_clK0 C_between (kb_between_1_0) hr (pk_cons (pv 1) (pk_cons (pv 0) pk_nil))) (pa_cons (pe_cl C__law_links hr (pa_cons (pv 0) (pa_cons (pv 1) pa_nil))) pa_nil)))))))))))))))))))), ?_⟩
    have v0 : ∀ {σ : L2.St} {H1 : Hp}, σ[0]? = some (some (T a)) → Ev (tVar 0) σ H1 (T a) := fun h0 => ev_var h0
    have cat : ∀ {σ : L2.St} {H1 : Hp}, σ[0]? = some (some (T a)) → σ[1]? = some (some (T b)) → Ev (tOp rEqT (tOp rAddT (tVar 0) (tVar 1)) (tOp rAddT (tVar 1) (tVar 0))) σ H1 (.bl (decide (a ++ b = b ++ a))) := fun h0 h1 => by
      have := ha.1
      have := hb.1
      exact ev_op (ev_op (ev_var h0) (ev_var h1) (rv_addT (by omega))) (ev_op (ev_var h1) (ev_var h0) (rv_addT (by omega))) rv_eqT
    -- due
    refine q_asgC (vs := [T a, T b]) (ea_cons (ev_var rfl) (ea_cons (ev_var rfl) ea_nil)) fun H1 e1 => ⟨a, b, rfl, ha.1, hb.1, retR_of fun due H2 e2 hdue => ?_⟩
    have eA : Ex H H2 := e1.trans e2
    show tSeq _ _ _ [some (T a), some (T b), some due, none, none, none, none, none] H2
    refine q_when (b := false) (et_is (et_or (et_not (et_B (ev_call (ea_cons (ev_call (ea_cons (ev_var rfl) (ea_cons (ev_var rfl) ea_nil)) fun H3 e3 Q3 q3 E => ⟨a, b, rfl, ha, hb, q3⟩) (ea_cons (cat rfl rfl) ea_nil)) fun H3 e3 Q3 q3 E => ⟨_, _, rfl, q3⟩))) fun _ => et_test (ev_op (ev_op (ev_var rfl) ev_c rv_isN) (cat rfl rfl) rv_eqB)) ?_) (fun z => by cases z) (fun _ H3 e3 => ?_)
    · rw [hdue.isN, shared_isNone]
      cases decide (a ++ b = b ++ a) <;> rfl
    have hdue3 := hdue.ex e3
    -- common_root
    refine q_when (b := false) (et_is (et_or (et_not (et_B (ev_same (shared_low ha hb) (ed_call (ea_cons (ev_var rfl) (ea_cons (ev_var rfl) ea_nil)) fun H4 Q4 _ q4 => ⟨a, b, rfl, ha, hb, q4⟩) (ed_var rfl hdue3)))) fun _ => et_not (et_B (ev_same (shared_low hb ha) (ed_callK (ea_cons (ev_var rfl) (ea_cons (ev_var rfl) ea_nil)) fun H4 Q4 _ q4 => ⟨b, a, rfl, hb, ha, q4⟩) (ed_call (ea_cons (ev_var rfl) (ea_cons (ev_var rfl) ea_nil)) fun H4 Q4 _ q4 => ⟨b, a, rfl, hb.1, ha.1, q4⟩)))) rfl) (fun z => by cases z) (fun _ H4 e4 => ?_)
    have eB : Ex H H4 := (eA.trans e3).trans e4
    clear hdue hdue3 e1 e2 e3 e4 eA
    -- turns, found
    refine q_asgC (vs := [T a, T b]) (ea_cons (ev_var rfl) (ea_cons (ev_var rfl) ea_nil)) fun H5 e5 => ⟨a, b, rfl, ha.1, hb.1, fun pt H6 _ e6 ht6 => ?_⟩
    refine q_asgC (vs := [T a, T b]) (ea_cons (ev_var rfl) (ea_cons (ev_var rfl) ea_nil)) fun H7 e7 => ⟨a, b, rfl, ha, hb, fun pf H8 hpf e8 hf8 => ?_⟩
    have ht8 := e8 _ _ (e7 _ _ ht6)
    have eC : Ex H H8 := (((eB.trans e5).trans e6).trans e7).trans e8
    have hne : pt ≠ pf := ne_of_none (e7 _ _ ht6) hpf
    have hpf0 : H pf = none := fresh_back (((eB.trans e5).trans e6).trans e7) hpf
    have hflat := flat_ints (turnedBy a b)
    have hlen : ((turnedBy a b).map fun (n : Nat) => V.int (n : Int)).length ≤ 400 := by
      rw [List.length_map]
      exact turned_len ha.1
    generalize htv : (turnedBy a b).map (fun (n : Nat) => V.int (n : Int)) = tv at ht6 hf8 ht8 hflat hlen
    show tSeq _ _ _ [some (T a), some (T b), some due, some (.ref pt), some (.ref pf), none, none, none] H8
    refine q_when (b := false) (et_is (et_not (et_B (ev_sameL hflat (by omega) (es_var rfl hf8) (es_var rfl ht8)))) rfl) (fun z => by cases z) (fun _ H9 e9 => ?_)
    refine q_app (e9 _ _ hf8) (ev_var rfl) ev_c (by omega) fun H10 e10 => ?_
    have eD : Ex H (upd H10 pf (.lst (tv ++ [T [115, 112, 111, 105, 108, 116]]))) := Ex.mut ((eC.trans e9).trans e10) hpf0
    have ht11 : (upd H10 pf (.lst (tv ++ [T [115, 112, 111, 105, 108, 116]]))) pt = some (.lst tv) := by
      rw [upd_ne hne]
      exact e10 _ _ (e9 _ _ ht8)
    generalize upd H10 pf (.lst (tv ++ [T [115, 112, 111, 105, 108, 116]])) = H11 at eD ht11
    clear eB eC e5 e6 e7 e8 e9 e10 hf8 ht8 ht6
    refine q_when (b := false) (et_is (et_not (et_B (ev_sameL hflat (by omega) (es_new (el_callK (ea_cons (ev_var rfl) (ea_cons (ev_var rfl) ea_nil)) fun H4 Q4 _ q4 => ⟨a, b, rfl, ha, hb, by rw [htv]; exact q4⟩)) (es_var rfl ht11)))) rfl) (fun z => by cases z) (fun _ H12 e12 => ?_)
    refine q_when (et_or (et_test (ev_op (ev_var rfl) ev_c rv_eqT)) fun _ => et_test (ev_op (ev_var rfl) ev_c rv_eqT)) (fun hz H13 e13 => s_ret ev_c (RetV.mono k ((eD.trans e12).trans e13))) (fun hz H13 e13 => ?_)
    have hna : a ≠ [] := by
      rw [Bool.or_eq_false_iff] at hz
      simpa using hz.1
    have hnb : b ≠ [] := by
      rw [Bool.or_eq_false_iff] at hz
      simpa using hz.2
    have eE : Ex H H13 := (eD.trans e12).trans e13
    clear eD e12 e13 ht11 hz
    -- told, shared
    refine (ev_call (ea_cons (ev_var rfl) (ea_cons (ev_var rfl) ea_nil)) (fun H4 _ Q4 q4 E => ⟨a, b, rfl, ha, hb, hna, hnb, q4⟩) : Ev (tCall sp_equal_power [] E0 (tCons (tVar 0) (tCons (tVar 1) tNil))) [some (T a), some (T b), some due, some (.ref pt), some (.ref pf), none, none, none] H13 (optV T (leastPower a b))) H13 (Ex.refl _) _ fun H14 e14 => (ev_call (ea_cons (ev_var rfl) (ea_cons (ev_var rfl) ea_nil)) (fun H4 _ Q4 q4 E => ⟨a, b, rfl, ha.1, hb.1, hna, hnb, q4⟩) : Ev (tCall sp_law_shared [] E0 (tCons (tVar 0) (tCons (tVar 1) tNil))) [some (T a), some (T b), some due, some (.ref pt), some (.ref pf), none, none, none] H14 (optV (fun (n : Nat) => .int (n : Int)) (alikeForEver a b))) H14 (Ex.refl _) _ fun H15 e15 => ⟨_, _, rfl, ?_⟩
    show tSeq _ _ _ [some (T a), some (T b), some due, some (.ref pt), some (.ref pf), some (optV T (leastPower a b)), some (optV (fun (n : Nat) => V.int (n : Int)) (alikeForEver a b)), none] H15
    have eF : Ex H H15 := (eE.trans e14).trans e15
    clear eE e14 e15
    have sc : ∀ o : Option Tx, scal (optV T o) (optV T o) = true := fun o => by cases o <;> rfl
    refine q_when (b := false) (et_is (et_or (et_test (ev_op (ev_var rfl) (ev_call (ea_cons (ev_var rfl) (ea_cons (ev_var rfl) ea_nil)) fun H4 _ Q4 q4 E => ⟨a, b, rfl, ha.1, hb.1, hna, hnb, q4⟩) (rv_ne (sc _)))) fun _ => et_test (ev_op (ev_callK (ea_cons (ev_var rfl) (ea_cons (ev_var rfl) ea_nil)) fun H4 Q4 _ q4 => ⟨b, a, rfl, hb, ha, hnb, hna, q4⟩) (ev_call (ea_cons (ev_var rfl) (ea_cons (ev_var rfl) ea_nil)) fun H4 _ Q4 q4 E => ⟨b, a, rfl, hb.1, ha.1, hnb, hna, q4⟩) (rv_ne (sc _)))) (by simp)) (fun z => by cases z) (fun _ H16 e16 => ?_)
    have eG : Ex H H16 := eF.trans e16
    clear eF e16 sc
    -- shared_beginning
    have hsb : ∀ {σ : L2.St} {H1 : Hp}, σ[0]? = some (some (T a)) → σ[1]? = some (some (T b)) → Ev (tCall sp_shared_beginning [] E0 (tCons (tVar 0) (tCons (tVar 1) tNil))) σ H1 (optV (fun (n : Nat) => .int (n : Int)) (alikeForEver a b)) := fun h0 h1 => ev_call (ea_cons (ev_var h0) (ea_cons (ev_var h1) ea_nil)) fun H4 _ Q4 q4 E => ⟨a, b, rfl, ha, hb, hna, hnb, q4⟩
    have hsk : ∀ {σ : L2.St} {H1 : Hp}, σ[0]? = some (some (T a)) → σ[1]? = some (some (T b)) → Ev (tCallK0 sp_shared_beginning (sw2 true) (tCons (tVar 1) (tCons (tVar 0) tNil))) σ H1 (optV (fun (n : Nat) => .int (n : Int)) (alikeForEver a b)) := fun h0 h1 => ev_callK (ea_cons (ev_var h1) (ea_cons (ev_var h0) ea_nil)) fun H4 Q4 _ q4 => ⟨a, b, rfl, ha, hb, hna, hnb, q4⟩
    generalize alikeForEver a b = sh at hsb hsk ⊢
    refine q_when (b := false) (et_is (b := false) (et_or (a := false) (et_is (et_and (et_test (ev_op (ev_var rfl) ev_c rv_isN)) fun _ => et_test (ev_op (hsb rfl rfl) ev_c rv_notN)) ?_) fun _ => et_is (b := false) (et_and (b := false) (et_test (ev_op (ev_var rfl) ev_c rv_notN)) fun hs => ?_) (Bool.and_false _)) rfl) (fun z => by cases z) (fun _ H17 e17 => ?_)
    · cases sh <;> rfl
    · cases sh with
      | none => simp [optV] at hs
      | some n => exact et_is (et_not (et_B (ev_call (ea_cons (hsk rfl rfl) (ea_cons (ev_var rfl) ea_nil)) fun H4 _ Q4 q4 E => ⟨(n : Int), (n : Int), rfl, q4⟩))) (by simp)
    have eH : Ex H H17 := eG.trans e17
    clear eG e17 hsb hsk
    -- between
    have hlow := links_low (b := b) ha
    have hll := links_len a b
    refine q_asgC (vs := [T a, T b]) (ea_cons (ev_var rfl) (ea_cons (ev_var rfl) ea_nil)) fun H18 e18 => ⟨a, b, rfl, ha, hb, hna, hnb, fun pl H19 hpl e19 hl19 => ?_⟩
    have hpl0 : H pl = none := fresh_back (eH.trans e18) hpl
    have hcl : ∀ {σ : L2.St} {H1 : Hp}, σ[0]? = some (some (T a)) → σ[1]? = some (some (T b)) → EvL (tCall sp_law_links [] E0 (tCons (tVar 0) (tCons (tVar 1) tNil))) σ H1 ((linksB a b 41).map T) := fun h0 h1 => el_call (ea_cons (ev_var h0) (ea_cons (ev_var h1) ea_nil)) fun H4 _ Q4 q4 E => ⟨a, b, rfl, ha.1, hb.1, hna, q4⟩
    refine q_when (b := false) (et_is (et_not (et_B (ev_sameL (flat_texts hlow) (by rw [List.length_map]; omega) (es_var rfl hl19) (es_new (hcl rfl rfl))))) rfl) (fun z => by cases z) (fun _ H20 e20 => ?_)
    refine q_app (e20 _ _ hl19) (ev_var rfl) ev_c (by rw [List.length_map]; omega) fun H21 e21 => ?_
    refine s_ret (ev_sameL (flat_texts hlow) (by rw [List.length_map]; omega) (es_new (el_callK (ea_cons (ev_var rfl) (ea_cons (ev_var rfl) ea_nil)) fun H4 Q4 _ q4 => ⟨a, b, rfl, ha, hb, hna, hnb, q4⟩)) (es_new (hcl rfl rfl))) (RetV.mono k (Ex.mut ((((eH.trans e18).trans e19).trans e20).trans e21) hpl0))
end
end K02
set_option Elab.async false
set_option linter.all false
set_option maxRecDepth 100000
set_option maxHeartbeats 2000000
namespace K02
open PySem PySem.Spec PyProof.Rows L2 Evl Wc Wm
theorem isTxt.of {a : Tx} (h : ∀ c ∈ a, abcd c) (hl : a.length ≤ 400) : isTxt a := ⟨hl, fun c hc => by
  have := h c hc
  unfold abcd at this
  have h4 : c = 97 ∨ c = 98 ∨ c = 99 ∨ c = 100 := by omega
  rcases h4 with rfl | rfl | rfl | rfl <;> decide⟩
theorem ex_of_exc {fa : Addr} {H H1 H2 : Hp} (e : Ex H H1) (hf : H fa = none) (x : Exc (fun c => c = fa) H1 H2) : Ex H H2 := fun c o hc => x c o (fun z => by rw [z, hf] at hc; cases hc) (e c o hc)
def rMin2 : List V → Hp → VK → Prop := fun xs H Q => ∃ i j, xs = [.int i, .int j] ∧ Q (.int (if j < i then j else i)) H
section
variable {σ : L2.St} {H : Hp} {ta tb : TE}
theorem ev_min2 {i j : Int} (ha : Ev ta σ H (.int i)) (hb : Ev tb σ H (.int j)) : Ev (tCB rMin2 (tCons ta (tCons tb tNil))) σ H (.int (if j < i then j else i)) := fun H1 e Q q =>
  ha H1 e _ fun H2 e2 => hb H2 (e.trans e2) _ fun H3 e3 => ⟨i, j, rfl, q H3 (e2.trans e3)⟩
end
section
variable {P : Program} {w : World} {K : PySem.W.Frag} {mg : Str → Option Value} {base : Heap}
def sp_law (K : PySem.W.Frag) : Sp := fun vs H Q _ => ∃ (a : Addr) (ns : List Int) (e : Nat), vs = [.ref a] ∧ SqL K H a (ns.map V.int) ∧ ns.length ≤ 63 ∧ 1 ≤ e ∧ e ≤ 1100000 ∧ (∀ z ∈ ns, z.natAbs < 2 ^ e) ∧ ∀ H', Q (.bl true) H'
theorem ok_law {f : Addr} {fd : FuncData} (F : Fun K "law" "law" st_law f fd) (M : Md K mg) (C__law_feed : Cal P w K mg base "_law_feed" st__law_feed 1 ["script", "k"] (sp_feed K)) (C__law_pair : Cal P w K mg base "_law_pair" st__law_pair 4 ["feed"] sp_law_pair) (C__law_right : Cal P w K mg base "_law_right" st__law_right 5 ["one", "other"] sp_law_right) : FnOk P w K mg base CX0 6 f fd ["script"] (sp_law K) := by
  have nd := sc_law.nd
  refine F.ok sc_law (fun vs H Q E h => ?_) (fun cdv A outer s H vs Q E hr h => ?_)
  · obtain ⟨_, _, _, rfl, _⟩ := h
    rfl
  · obtain ⟨a, ns, e, rfl, hS, hlen, he1, he2, hz, k⟩ := h
    refine ⟨_, (pss_cons (ps_for PassesOwn.never rfl (pi_range1 (by rfl) M.n_range (pa_cons (pe_callB (call_max2 rfl) (by rfl) M.n_max boot_max (pa_cons pe_int (pa_cons (pe_callB (call_min2 rfl) (by rfl) M.n_min boot_min (pa_cons (pe_callB (kcr K (r := rLenS) call_len_seq) (by rfl) M.n_len boot_len (pa_cons (pv 0) pa_nil)) (pa_cons pe_int pa_nil))) pa_nil))) pa_nil)) (pg_name (i := 1) nd rfl (Or.inl rfl))
  (pss_cons (ps_set (i := 2) nd rfl (Or.inl rfl) (pe_cl C__law_feed hr (pa_cons (pv 0) (pa_cons (pv 1) pa_nil))))
  (pss_cons (ps_for PassesOwn.never rfl (pi_range1 (by rfl) M.n_range (pa_cons pe_int pa_nil)) (pg_name (i := 3) nd rfl (Or.inl rfl))
  (pss_cons (ps_asg (pe_cl C__law_pair hr (pa_cons (pv 2) pa_nil)) (kgl K (pg_lst rfl (pgs_cons (pg_name (i := 4) nd rfl (Or.inl rfl)) (pgs_cons (pg_name (i := 5) nd rfl (Or.inl rfl)) pgs_nil)))))
  (pss_cons (ps_par (i := 4) (j := 5) rfl nd rfl rfl (by decide) rfl rfl (pa_cons (pe_slice sl_T (pv 4) po_none (po_some pe_int)) (pa_cons (pe_slice sl_T (pv 5) po_none (po_some pe_int)) pa_nil)) (by rfl))
  (pss_one (ps_if (PW.pt (pw_or (pt_not (pt_val (pe_cl C__law_right hr (pa_cons (pv 4) (pa_cons (pv 5) pa_nil))))) (pw_or1 (pt_not (pt_val (pe_cl C__law_right hr (pa_cons (pv 5) (pa_cons (pv 4) pa_nil))))))))
  (pss_one (ps_ret pe_bl))
  pss_nil)))))
  (pss_one (ps_if (PW.pt (pw_or (pt_not (pt_val (pe_cl C__law_right hr (pa_cons (pe_sT []) (pa_cons (pv 4) pa_nil))))) (pw_or (pt_not (pt_val (pe_cl C__law_right hr (pa_cons (pv 4) (pa_cons (pe_sT []) pa_nil))))) (pw_or (pt_not (pt_val (pe_cl C__law_right hr (pa_cons (pe_sT []) (pa_cons (pe_sT []) pa_nil))))) (pw_or1 (pt_not (pt_val (pe_cl C__law_right hr (pa_cons (pv 4) (pa_cons (pv 4) pa_nil))))))))))
  (pss_one (ps_ret pe_bl))
  pss_nil)))))
  (pss_one (ps_ret pe_bl))), ?_⟩
    have rt : ∀ {te tu : TE} {σ : L2.St} {H1 : Hp} {x y : Tx}, Ev te σ H1 (T x) → Ev tu σ H1 (T y) → isTxt x → isTxt y → EvT (tNot (tB (tCall sp_law_right [] E0 (tCons te (tCons tu tNil))))) σ H1 false := fun h1 h2 hx hy => et_is (et_not (et_B (ev_call (ea_cons h1 (ea_cons h2 ea_nil)) fun H4 _ Q4 q4 E => ⟨_, _, rfl, hx, hy, q4⟩))) rfl
    obtain ⟨n, hn6, hn⟩ : ∃ n : Nat, n ≤ 6 ∧ (if (if (6 : Int) < ((ns.map V.int).length : Int) then (6 : Int) else ((ns.map V.int).length : Int)) > 1 then (if (6 : Int) < ((ns.map V.int).length : Int) then (6 : Int) else ((ns.map V.int).length : Int)) else 1) = (n : Int) := by
      refine ⟨max 1 (min ns.length 6), by omega, ?_⟩
      rw [List.length_map]
      split <;> split <;> omega
    have hcnt : EvA (tCons (tCB rMax2 (tCons (tC (.int 1)) (tCons (tCB rMin2 (tCons (tCB (rLenS K) (tCons (tVar 0) tNil)) (tCons (tC (.int 6)) tNil))) tNil))) tNil) (start N_law [.ref a]) H [.int (n : Int)] :=
      ea_cons (ev_is (ev_max2 ev_c (ev_min2 (ev_len (ev_var rfl) hS) ev_c)) (by rw [hn])) ea_nil
    refine q_forW (fun _ => False) (src_range1 (n := n) hcnt (by omega)) (fun _ z => z.elim)
      (fun Hs i σ' H' => ∃ v1 v2 v3 v4 v5 : Option V, σ' = [some (.ref a), v1, v2, v3, v4, v5] ∧ Ex Hs H') ?_ ?_ ?_ ?_ ?_
    · intro Hs e
      exact ⟨none, none, none, none, none, rfl, Ex.refl _⟩
    · rintro Hs i σ' H' ⟨_, _, _, _, _, _, h1⟩
      exact .of h1
    · rintro Hs i σ' Ha Hb ⟨v1, v2, v3, v4, v5, h0, h1⟩ e
      exact ⟨v1, v2, v3, v4, v5, h0, h1.trans e⟩
    · rintro Hs i x σ' H' e0 hi ⟨v1, v2, v3, v4, v5, rfl, h1⟩ rfl
      have eA : Ex H H' := e0.trans h1
      show tSeq _ _ _ [some (.ref a), some (.int (i : Int)), v2, v3, v4, v5] H'
      refine q_asgC (vs := [.ref a, .int (i : Int)]) (ea_cons (ev_var rfl) (ea_cons (ev_var rfl) ea_nil)) fun H1 e1 => ⟨a, ns, i, e, rfl, ex_l (eA.trans e1) hS, by omega, he1, he2, hz, fun fa H2 hfa e2 hF => ?_⟩
      have eB : Ex H' H2 := e1.trans e2
      have hfa' : H' fa = none := fresh_back e1 hfa
      clear e1 e2 hfa
      show tSeq _ _ _ [some (.ref a), some (.int (i : Int)), some (.ref fa), v3, v4, v5] H2
      have G0 : GF fa 1200 H2 := ⟨0, by decide, hF⟩
      refine q_forW (fun c => c = fa) (src_range1 (n := 4) (ea_cons ev_c ea_nil) (by omega)) ?_
        (fun Ht j σ' H3 => ∃ v3 v4 v5 : Option V, σ' = [some (.ref a), some (.int (i : Int)), some (.ref fa), v3, v4, v5] ∧ Rf fa (300 * j) Ht H3 ∧ (0 < j → ∃ x, v4 = some (T x) ∧ isTxt x)) ?_ ?_ ?_ ?_ ?_
      · rintro c rfl
        exact ⟨G0.is, fun z => z⟩
      · intro Ht e
        exact ⟨v3, v4, v5, rfl, Rf.refl _, fun z => absurd z (Nat.lt_irrefl 0)⟩
      · rintro Ht j σ' H3 ⟨_, _, _, _, h2, _⟩
        exact h2.keep
      · rintro Ht j σ' Ha Hb ⟨v3, v4, v5, h0, h2, h3⟩ e
        exact ⟨v3, v4, v5, h0, h2.then e, h3⟩
      · rintro Ht j y σ' H3 eT hj ⟨v3, v4, v5, rfl, R, _⟩ rfl
        show tSeq _ _ _ [some (.ref a), some (.int (i : Int)), some (.ref fa), some (.int (j : Int)), v4, v5] H3
        have G3 : GF fa 300 H3 := (G0.ex eT).go R (by omega)
        refine ⟨_, rfl, fa, rfl, G3, fun p x y H4 hp R4 h4 hx hy cx cy => ⟨p, _, rfl, sq_of h4, rfl, T x, [T y], rfl, T y, [], rfl, rfl, ?_⟩⟩
        show tSeq _ _ _ [some (.ref a), some (.int (i : Int)), some (.ref fa), some (.int (j : Int)), some (T x), some (T y)] H4
        refine (ev_slT (ev_var rfl) eo_none (eo_some ev_c) (by omega) : Ev _ [some (.ref a), some (.int (i : Int)), some (.ref fa), some (.int (j : Int)), some (T x), some (T y)] H4 (T (cutT x none (some ((400 : Nat) : Int))))) H4 (Ex.refl _) _ fun H5 e5 => (ev_slT (ev_var rfl) eo_none (eo_some ev_c) (by omega) : Ev _ [some (.ref a), some (.int (i : Int)), some (.ref fa), some (.int (j : Int)), some (T x), some (T y)] H5 (T (cutT y none (some ((400 : Nat) : Int))))) H5 (Ex.refl _) _ fun H6 e6 => ⟨_, _, rfl, ?_⟩
        rw [cutT_to, cutT_to]
        have tx : isTxt (x.take 400) := .of (fun c hc => cx c (List.mem_of_mem_take hc)) (by rw [List.length_take]; omega)
        have ty : isTxt (y.take 400) := .of (fun c hc => cy c (List.mem_of_mem_take hc)) (by rw [List.length_take]; omega)
        have R6 : Rf fa (300 * (j + 1)) Ht H6 := ((R.trans R4).then (e5.trans e6)).mono (by omega)
        generalize x.take 400 = x at tx ⊢
        generalize y.take 400 = y at ty ⊢
        refine s_when (σ := [some (.ref a), some (.int (i : Int)), some (.ref fa), some (.int (j : Int)), some (T x), some (T y)]) (b := false) (et_is (et_or (rt (ev_var rfl) (ev_var rfl) tx ty) fun _ => rt (ev_var rfl) (ev_var rfl) ty tx) rfl) (fun z => by cases z) (fun _ H7 e7 => ?_)
        exact ⟨_, _, _, rfl, R6.then e7, fun _ => ⟨x, rfl, tx⟩⟩
      · rintro Ht σ' H3 eT ⟨v3, v4, v5, rfl, R, hx⟩
        obtain ⟨x, rfl, tx⟩ := hx (by omega)
        have t0 : isTxt [] := ⟨Nat.zero_le _, fun c hc => nomatch hc⟩
        refine s_when (b := false) (et_is (et_or (rt ev_c (ev_var rfl) t0 tx) fun _ => et_or (rt (ev_var rfl) ev_c tx t0) fun _ => et_or (rt ev_c ev_c t0 t0) fun _ => rt (ev_var rfl) (ev_var rfl) tx tx) rfl) (fun z => by cases z) (fun _ H7 e7 => ?_)
        exact ⟨_, _, _, _, _, rfl, h1.trans ((ex_of_exc (eB.trans eT) hfa' R.keep).trans e7)⟩
    · rintro Hs σ' H' e0 ⟨v1, v2, v3, v4, v5, rfl, h1⟩
      exact s_ret ev_c fun H2 e2 => k H2
end
end K02
set_option Elab.async false
set_option linter.all false
set_option maxRecDepth 100000
namespace K02
open PySem PySem.Spec PyProof.Rows L2 Evl Wc
/-- a def of the top, as it stands -/
def Top (K : PySem.W.Frag) (x : Str) (st : Stmt) : Prop := ∃ (f : Addr) (oc : Value) (od an : Option Addr) (osl : Array (Option Value)) (kV doc pm cdv ct : Value), PySem.W.nsIn K mainGlobals x = some (some (.ref f)) ∧ K.lookup f = some ⟨oc, od, .func (PySem.W.fnOf x x (defArgs st) (defBody st) (defScope st) .none kV doc pm an cdv ct), osl⟩ ∧ PySem.W.codeIn K cdv x = true ∧ PySem.W.keepIn K (.ref f) = true
theorem top_mk {K : PySem.W.Frag} {x : Str} {st : Stmt} {f : Addr} {oc : Value} {od an : Option Addr} {osl : Array (Option Value)} {kV doc pm cdv ct : Value} (a : PySem.W.nsIn K mainGlobals x = some (some (.ref f))) (l : K.lookup f = some ⟨oc, od, .func (PySem.W.fnOf x x (defArgs st) (defBody st) (defScope st) .none kV doc pm an cdv ct), osl⟩) (c : PySem.W.codeIn K cdv x = true) (k : PySem.W.keepIn K (.ref f) = true) : Top K x st := ⟨f, oc, od, an, osl, kV, doc, pm, cdv, ct, a, l, c, k⟩
theorem Top.cal {P : Program} {w : World} {K : PySem.W.Frag} {mg : Str → Option Value} {base h : Heap} {x : Str} {st : Stmt} {k : Nat} {ps : List Str} {sp : Sp} (T : Top K x st) (X : K.In h) (G : h.Ns mainGlobals mg)
    (hb : ∀ (kV doc pm : Value) (an : Option Addr) (cdv ct : Value) (us : List Value), us.length = ps.length → bindArgs (PySem.W.fnOf x x (defArgs st) (defBody st) (defScope st) .none kV doc pm an cdv ct) ⟨us, []⟩ = pure (ps.zip us))
    (ok : ∀ f fd, Fun K x x st f fd → FnOk P w K mg base CX0 k f fd ps sp) : Cal P w K mg base x st k ps sp := by
  obtain ⟨f, oc, od, an, osl, kV, doc, pm, cdv, ct, a, l, c, k⟩ := T
  have F := fun_mk (st := st) l c k
  exact ⟨f, _, ok _ _ F, PySem.W.mg_of X G a, F, F.binds hb⟩
theorem all_mk {l : PySem.W.OpenLaw} {w : World} {K : PySem.W.Frag} {h : Heap} {mg : Str → Option Value} {fa : Addr} (X : K.In h) (G : h.Ns mainGlobals mg) (hfa : mg "law" = some (.ref fa))
    (n_ValueError : PySem.W.nsIn K mainGlobals "ValueError" = some none)
    (n_all : PySem.W.nsIn K mainGlobals "all" = some none)
    (n_bool : PySem.W.nsIn K mainGlobals "bool" = some none)
    (n_int : PySem.W.nsIn K mainGlobals "int" = some none)
    (n_isinstance : PySem.W.nsIn K mainGlobals "isinstance" = some none)
    (n_len : PySem.W.nsIn K mainGlobals "len" = some none)
    (n_list : PySem.W.nsIn K mainGlobals "list" = some none)
    (n_max : PySem.W.nsIn K mainGlobals "max" = some none)
    (n_min : PySem.W.nsIn K mainGlobals "min" = some none)
    (n_range : PySem.W.nsIn K mainGlobals "range" = some none)
    (n_sorted : PySem.W.nsIn K mainGlobals "sorted" = some none)
    (n_str : PySem.W.nsIn K mainGlobals "str" = some none)
    (n_sum : PySem.W.nsIn K mainGlobals "sum" = some none)
    (n_tuple : PySem.W.nsIn K mainGlobals "tuple" = some none)
    {t_c_SIGNS : Tok} (c_SIGNS : PySem.W.nsIn K mainGlobals "SIGNS" = some (some (.str (Str.ofString "abcd") t_c_SIGNS)))
    {t_c_MOST_SIGNS : Tok} (c_MOST_SIGNS : PySem.W.nsIn K mainGlobals "MOST_SIGNS" = some (some (.int 400 t_c_MOST_SIGNS)))
    {t_c_MOST_LINKS : Tok} (c_MOST_LINKS : PySem.W.nsIn K mainGlobals "MOST_LINKS" = some (some (.int 20 t_c_MOST_LINKS)))
    {t_c_LONGEST_LINK : Tok} (c_LONGEST_LINK : PySem.W.nsIn K mainGlobals "LONGEST_LINK" = some (some (.int 40 t_c_LONGEST_LINK)))
    (f_gcd : PySem.W.nsIn K mainGlobals "gcd" = some (some (.builtin "math.gcd")))
    (T_are_signs : Top K "are_signs" st_are_signs)
    (T_is_text : Top K "is_text" st_is_text)
    (T_need_text : Top K "need_text" st_need_text)
    (T_need_some_text : Top K "need_some_text" st_need_some_text)
    (T_root_in : Top K "root_in" st_root_in)
    (T_shared_root : Top K "shared_root" st_shared_root)
    (T_least_power : Top K "least_power" st_least_power)
    (T_alike_signs : Top K "alike_signs" st_alike_signs)
    (T_alike_for_ever : Top K "alike_for_ever" st_alike_for_ever)
    (T_links_between : Top K "links_between" st_links_between)
    (T_change_places : Top K "change_places" st_change_places)
    (T_common_root : Top K "common_root" st_common_root)
    (T_equal_power : Top K "equal_power" st_equal_power)
    (T_shared_beginning : Top K "shared_beginning" st_shared_beginning)
    (T_between : Top K "between" st_between)
    (T_turned_by : Top K "turned_by" st_turned_by)
    (T__law_draw : Top K "_law_draw" st__law_draw)
    (T__law_one : Top K "_law_one" st__law_one)
    (T__law_text : Top K "_law_text" st__law_text)
    (T__law_root : Top K "_law_root" st__law_root)
    (T__law_shared : Top K "_law_shared" st__law_shared)
    (T__law_power : Top K "_law_power" st__law_power)
    (T__law_turns : Top K "_law_turns" st__law_turns)
    (T__law_links : Top K "_law_links" st__law_links)
    (T__law_so : Top K "_law_so" st__law_so)
    (T__law_is : Top K "_law_is" st__law_is)
    (T__law_list : Top K "_law_list" st__law_list)
    (T__law_same_root : Top K "_law_same_root" st__law_same_root)
    (T__law_common : Top K "_law_common" st__law_common)
    (T__law_feed : Top K "_law_feed" st__law_feed)
    (T__law_pair : Top K "_law_pair" st__law_pair)
    (T__law_right : Top K "_law_right" st__law_right)
    (T_law : Top K "law" st_law)
    : ∃ fd : FuncData, (∀ (s : Shared) (v : Value), BindsTo s fd ⟨[v], []⟩ [("script", v)]) ∧ ∀ base : Heap, K.In base → base.Ns mainGlobals mg → FnOk l.prog w K mg base CX0 6 fa fd ["script"] (sp_law K) := by
  have M : Md K mg := ⟨PySem.W.mg_none_of X G n_ValueError, PySem.W.mg_none_of X G n_all, PySem.W.mg_none_of X G n_bool, PySem.W.mg_none_of X G n_int, PySem.W.mg_none_of X G n_isinstance, PySem.W.mg_none_of X G n_len, PySem.W.mg_none_of X G n_list, PySem.W.mg_none_of X G n_max, PySem.W.mg_none_of X G n_min, PySem.W.mg_none_of X G n_range, PySem.W.mg_none_of X G n_sorted, PySem.W.mg_none_of X G n_str, PySem.W.mg_none_of X G n_sum, PySem.W.mg_none_of X G n_tuple, ⟨_, PySem.W.mg_of X G c_SIGNS⟩, ⟨_, PySem.W.mg_of X G c_MOST_SIGNS⟩, ⟨_, PySem.W.mg_of X G c_MOST_LINKS⟩, ⟨_, PySem.W.mg_of X G c_LONGEST_LINK⟩, PySem.W.mg_of X G f_gcd⟩
  obtain ⟨f, oc, od, an, osl, kV, doc, pm, cdv, ct, a, lk, c, k⟩ := T_law
  have e := hfa.symm.trans (PySem.W.mg_of X G a)
  cases e
  have F := fun_mk (st := st_law) lk c k
  refine ⟨PySem.W.fnOf "law" "law" (defArgs st_law) (defBody st_law) (defScope st_law) .none kV doc pm an cdv ct, fun s v => .of_eq rfl, fun base _ _ => ?_⟩
  have C_are_signs : Cal l.prog w K mg base "are_signs" st_are_signs 1 ["thing", "most"] sp_are_signs := T_are_signs.cal X G (fun _ _ _ _ _ _ us hl => match us, hl with | [_, _], _ => rfl) fun _ _ F => ok_are_signs F M 
  have C_is_text : Cal l.prog w K mg base "is_text" st_is_text 2 ["thing"] sp_is_text := T_is_text.cal X G (fun _ _ _ _ _ _ us hl => match us, hl with | [_], _ => rfl) fun _ _ F => ok_is_text F M C_are_signs
  have C_need_text : Cal l.prog w K mg base "need_text" st_need_text 3 ["text"] sp_need_text := T_need_text.cal X G (fun _ _ _ _ _ _ us hl => match us, hl with | [_], _ => rfl) fun _ _ F => ok_need_text F M C_is_text
  have C_need_some_text : Cal l.prog w K mg base "need_some_text" st_need_some_text 3 ["text"] sp_need_some_text := T_need_some_text.cal X G (fun _ _ _ _ _ _ us hl => match us, hl with | [_], _ => rfl) fun _ _ F => ok_need_some_text F M C_is_text
  have C_root_in : Cal l.prog w K mg base "root_in" st_root_in 1 ["text"] sp_root_in := T_root_in.cal X G (fun _ _ _ _ _ _ us hl => match us, hl with | [_], _ => rfl) fun _ _ F => ok_root_in F M 
  have C_shared_root : Cal l.prog w K mg base "shared_root" st_shared_root 2 ["one", "other"] sp_shared_root := T_shared_root.cal X G (fun _ _ _ _ _ _ us hl => match us, hl with | [_, _], _ => rfl) fun _ _ F => ok_shared_root F M C_root_in
  have C_least_power : Cal l.prog w K mg base "least_power" st_least_power 2 ["one", "other"] sp_least_power := T_least_power.cal X G (fun _ _ _ _ _ _ us hl => match us, hl with | [_, _], _ => rfl) fun _ _ F => ok_least_power F M C_root_in
  have C_alike_signs : Cal l.prog w K mg base "alike_signs" st_alike_signs 1 ["one", "other"] sp_alike_signs := T_alike_signs.cal X G (fun _ _ _ _ _ _ us hl => match us, hl with | [_, _], _ => rfl) fun _ _ F => ok_alike_signs F M 
  have C_alike_for_ever : Cal l.prog w K mg base "alike_for_ever" st_alike_for_ever 2 ["one", "other"] sp_alike_for_ever := T_alike_for_ever.cal X G (fun _ _ _ _ _ _ us hl => match us, hl with | [_, _], _ => rfl) fun _ _ F => ok_alike_for_ever F M C_alike_signs
  have C_links_between : Cal l.prog w K mg base "links_between" st_links_between 1 ["one", "other", "most", "long"] sp_links_between := T_links_between.cal X G (fun _ _ _ _ _ _ us hl => match us, hl with | [_, _, _, _], _ => rfl) fun _ _ F => ok_links_between F M 
  have C_change_places : Cal l.prog w K mg base "change_places" st_change_places 4 ["one", "other"] sp_change_places := T_change_places.cal X G (fun _ _ _ _ _ _ us hl => match us, hl with | [_, _], _ => rfl) fun _ _ F => ok_change_places F M C_need_text
  have C_common_root : Cal l.prog w K mg base "common_root" st_common_root 4 ["one", "other"] sp_common_root := T_common_root.cal X G (fun _ _ _ _ _ _ us hl => match us, hl with | [_, _], _ => rfl) fun _ _ F => ok_common_root F M C_need_text C_shared_root
  have C_equal_power : Cal l.prog w K mg base "equal_power" st_equal_power 4 ["one", "other"] sp_equal_power := T_equal_power.cal X G (fun _ _ _ _ _ _ us hl => match us, hl with | [_, _], _ => rfl) fun _ _ F => ok_equal_power F M C_need_some_text C_least_power
  have C_shared_beginning : Cal l.prog w K mg base "shared_beginning" st_shared_beginning 4 ["one", "other"] sp_shared_beginning := T_shared_beginning.cal X G (fun _ _ _ _ _ _ us hl => match us, hl with | [_, _], _ => rfl) fun _ _ F => ok_shared_beginning F M C_need_some_text C_alike_for_ever
  have C_between : Cal l.prog w K mg base "between" st_between 4 ["one", "other"] sp_between := T_between.cal X G (fun _ _ _ _ _ _ us hl => match us, hl with | [_, _], _ => rfl) fun _ _ F => ok_between F M C_need_some_text C_links_between
  have C_turned_by : Cal l.prog w K mg base "turned_by" st_turned_by 4 ["one", "other"] sp_turned_by := T_turned_by.cal X G (fun _ _ _ _ _ _ us hl => match us, hl with | [_, _], _ => rfl) fun _ _ F => ok_turned_by F M C_need_text
  have C__law_draw : Cal l.prog w K mg base "_law_draw" st__law_draw 1 ["feed", "many"] sp_draw := T__law_draw.cal X G (fun _ _ _ _ _ _ us hl => match us, hl with | [_, _], _ => rfl) fun _ _ F => ok__law_draw F M 
  have C__law_one : Cal l.prog w K mg base "_law_one" st__law_one 2 ["feed", "things"] (sp_one K) := T__law_one.cal X G (fun _ _ _ _ _ _ us hl => match us, hl with | [_, _], _ => rfl) fun _ _ F => ok__law_one F M C__law_draw
  have C__law_text : Cal l.prog w K mg base "_law_text" st__law_text 3 ["feed", "signs", "most"] sp_text := T__law_text.cal X G (fun _ _ _ _ _ _ us hl => match us, hl with | [_, _, _], _ => rfl) fun _ _ F => ok__law_text F M C__law_draw C__law_one
  have C__law_root : Cal l.prog w K mg base "_law_root" st__law_root 1 ["text"] sp_law_root := T__law_root.cal X G (fun _ _ _ _ _ _ us hl => match us, hl with | [_], _ => rfl) fun _ _ F => ok__law_root F M 
  have C__law_shared : Cal l.prog w K mg base "_law_shared" st__law_shared 1 ["one", "other"] sp_law_shared := T__law_shared.cal X G (fun _ _ _ _ _ _ us hl => match us, hl with | [_, _], _ => rfl) fun _ _ F => ok__law_shared F M 
  have C__law_power : Cal l.prog w K mg base "_law_power" st__law_power 2 ["one", "other"] sp_law_power := T__law_power.cal X G (fun _ _ _ _ _ _ us hl => match us, hl with | [_, _], _ => rfl) fun _ _ F => ok__law_power F M C__law_root
  have C__law_turns : Cal l.prog w K mg base "_law_turns" st__law_turns 1 ["one", "other"] sp_law_turns := T__law_turns.cal X G (fun _ _ _ _ _ _ us hl => match us, hl with | [_, _], _ => rfl) fun _ _ F => ok__law_turns F M 
  have C__law_links : Cal l.prog w K mg base "_law_links" st__law_links 2 ["one", "other"] sp_law_links := T__law_links.cal X G (fun _ _ _ _ _ _ us hl => match us, hl with | [_, _], _ => rfl) fun _ _ F => ok__law_links F M C__law_turns
  have C__law_so : Cal l.prog w K mg base "_law_so" st__law_so 1 ["actual", "due"] sp_law_so := T__law_so.cal X G (fun _ _ _ _ _ _ us hl => match us, hl with | [_, _], _ => rfl) fun _ _ F => ok__law_so F M 
  have C__law_is : Cal l.prog w K mg base "_law_is" st__law_is 1 ["actual", "due"] sp_law_is := T__law_is.cal X G (fun _ _ _ _ _ _ us hl => match us, hl with | [_, _], _ => rfl) fun _ _ F => ok__law_is F M 
  have C__law_list : Cal l.prog w K mg base "_law_list" st__law_list 1 ["actual", "due"] (sp_list_same K) := T__law_list.cal X G (fun _ _ _ _ _ _ us hl => match us, hl with | [_, _], _ => rfl) fun _ _ F => ok__law_list F M 
  have C__law_same_root : Cal l.prog w K mg base "_law_same_root" st__law_same_root 2 ["actual", "due"] (sp_law_same_root K) := T__law_same_root.cal X G (fun _ _ _ _ _ _ us hl => match us, hl with | [_, _], _ => rfl) fun _ _ F => ok__law_same_root F M C__law_is
  have C__law_common : Cal l.prog w K mg base "_law_common" st__law_common 2 ["one", "other"] sp_law_common := T__law_common.cal X G (fun _ _ _ _ _ _ us hl => match us, hl with | [_, _], _ => rfl) fun _ _ F => ok__law_common F M C__law_root
  have C__law_feed : Cal l.prog w K mg base "_law_feed" st__law_feed 1 ["script", "k"] (sp_feed K) := T__law_feed.cal X G (fun _ _ _ _ _ _ us hl => match us, hl with | [_, _], _ => rfl) fun _ _ F => ok__law_feed F M 
  have C__law_pair : Cal l.prog w K mg base "_law_pair" st__law_pair 4 ["feed"] sp_law_pair := T__law_pair.cal X G (fun _ _ _ _ _ _ us hl => match us, hl with | [_], _ => rfl) fun _ _ F => ok__law_pair F M C__law_draw C__law_one C__law_text
  have C__law_right : Cal l.prog w K mg base "_law_right" st__law_right 5 ["one", "other"] sp_law_right := T__law_right.cal X G (fun _ _ _ _ _ _ us hl => match us, hl with | [_, _], _ => rfl) fun _ _ F => ok__law_right F M C_change_places C_common_root C_equal_power C_shared_beginning C_turned_by C_between C__law_common C__law_so C__law_same_root C__law_turns C__law_list C__law_shared C__law_power C__law_is C__law_links
  exact ok_law F M C__law_feed C__law_pair C__law_right
theorem walk {l : PySem.W.OpenLaw} {q : Program} {loose : List Str} {XP : (Str → Option Value) → Heap → Prop} {YP : World → Heap → Prop} {d : DefRec} {K : Params → PySem.W.Frag} (hn : l.most = some 63) (hdf : d.params.defaults = [])
    (hY : ∀ (w : World) (h : Heap), YP w h → (K w.params).In h)
    (F : ∀ (w : World) (mg : Str → Option Value) (fa : Addr) (h : Heap), (K w.params).In h → h.Ns mainGlobals mg → mg d.name = some (.ref fa) →
      ∃ fd : FuncData, (∀ (s : Shared) (u : Value), BindsTo s fd ⟨[u], []⟩ [("script", u)]) ∧ ∀ base : Heap, (K w.params).In base → base.Ns mainGlobals mg → FnOk l.prog w (K w.params) mg base CX0 6 fa fd ["script"] (sp_law (K w.params))) :
    PySem.W.WalkO q loose XP YP l.row.toRowW d [] (fun f vs => PySem.call f vs) :=
  L2.walk_ofB (n := 63) (k := 6) (x := "script") (CX := fun _ => CX0) (sp := fun w => sp_law (K w.params)) hn (by decide) hdf ⟨rfl, by decide, by decide⟩ hY F (fun _ _ a ns hl hb _ hS => ⟨a, ns, 1048576, rfl, hS, hl, by decide, by decide, fun z hz => PySem.intBits_le_iff.mp (hb z hz), fun _ => rfl⟩) fun _ _ _ _ _ z => z
end K02
open PySem PySem.W PyProof.Rows
set_option maxRecDepth 100000 in
set_option maxHeartbeats 0 in
theorem PySem.Challenge.cw_wordscut_k02_whole_two_texts_and_their_r_holds : PySem.Challenge.rw_wordscut_k02_whole_two_texts_and_their_r.Holds := by
  w_on; o_law; k_head; (case hw => w_witness2)
  k_fill
  refine K02.walk (l := PySem.Challenge.rw_wordscut_k02_whole_two_texts_and_their_r) rfl rfl (fun w h Y => PySem.W.kIn_of Y) ?F
  case F =>
    intro w mg fa h KX G hmg
    refine' K02.all_mk KX G hmg ?n_ValueError ?n_all ?n_bool ?n_int ?n_isinstance ?n_len ?n_list ?n_max ?n_min ?n_range ?n_sorted ?n_str ?n_sum ?n_tuple ?c_SIGNS ?c_MOST_SIGNS ?c_MOST_LINKS ?c_LONGEST_LINK ?f_gcd ?T_are_signs ?T_is_text ?T_need_text ?T_need_some_text ?T_root_in ?T_shared_root ?T_least_power ?T_alike_signs ?T_alike_for_ever ?T_links_between ?T_change_places ?T_common_root ?T_equal_power ?T_shared_beginning ?T_between ?T_turned_by ?T__law_draw ?T__law_one ?T__law_text ?T__law_root ?T__law_shared ?T__law_power ?T__law_turns ?T__law_links ?T__law_so ?T__law_is ?T__law_list ?T__law_same_root ?T__law_common ?T__law_feed ?T__law_pair ?T__law_right ?T_law
    (case n_ValueError => k_is)
    (case n_all => k_is)
    (case n_bool => k_is)
    (case n_int => k_is)
    (case n_isinstance => k_is)
    (case n_len => k_is)
    (case n_list => k_is)
    (case n_max => k_is)
    (case n_min => k_is)
    (case n_range => k_is)
    (case n_sorted => k_is)
    (case n_str => k_is)
    (case n_sum => k_is)
    (case n_tuple => k_is)
    (case c_SIGNS => k_is)
    (case c_MOST_SIGNS => k_is)
    (case c_MOST_LINKS => k_is)
    (case c_LONGEST_LINK => k_is)
    (case f_gcd => k_is)
    (case T_are_signs => refine' K02.top_mk ?a ?l ?c ?k; (case a => k_is); (case l => k_is); (case c => k_is); (case k => k_is))
    (case T_is_text => refine' K02.top_mk ?a ?l ?c ?k; (case a => k_is); (case l => k_is); (case c => k_is); (case k => k_is))
    (case T_need_text => refine' K02.top_mk ?a ?l ?c ?k; (case a => k_is); (case l => k_is); (case c => k_is); (case k => k_is))
    (case T_need_some_text => refine' K02.top_mk ?a ?l ?c ?k; (case a => k_is); (case l => k_is); (case c => k_is); (case k => k_is))
    (case T_root_in => refine' K02.top_mk ?a ?l ?c ?k; (case a => k_is); (case l => k_is); (case c => k_is); (case k => k_is))
    (case T_shared_root => refine' K02.top_mk ?a ?l ?c ?k; (case a => k_is); (case l => k_is); (case c => k_is); (case k => k_is))
    (case T_least_power => refine' K02.top_mk ?a ?l ?c ?k; (case a => k_is); (case l => k_is); (case c => k_is); (case k => k_is))
    (case T_alike_signs => refine' K02.top_mk ?a ?l ?c ?k; (case a => k_is); (case l => k_is); (case c => k_is); (case k => k_is))
    (case T_alike_for_ever => refine' K02.top_mk ?a ?l ?c ?k; (case a => k_is); (case l => k_is); (case c => k_is); (case k => k_is))
    (case T_links_between => refine' K02.top_mk ?a ?l ?c ?k; (case a => k_is); (case l => k_is); (case c => k_is); (case k => k_is))
    (case T_change_places => refine' K02.top_mk ?a ?l ?c ?k; (case a => k_is); (case l => k_is); (case c => k_is); (case k => k_is))
    (case T_common_root => refine' K02.top_mk ?a ?l ?c ?k; (case a => k_is); (case l => k_is); (case c => k_is); (case k => k_is))
    (case T_equal_power => refine' K02.top_mk ?a ?l ?c ?k; (case a => k_is); (case l => k_is); (case c => k_is); (case k => k_is))
    (case T_shared_beginning => refine' K02.top_mk ?a ?l ?c ?k; (case a => k_is); (case l => k_is); (case c => k_is); (case k => k_is))
    (case T_between => refine' K02.top_mk ?a ?l ?c ?k; (case a => k_is); (case l => k_is); (case c => k_is); (case k => k_is))
    (case T_turned_by => refine' K02.top_mk ?a ?l ?c ?k; (case a => k_is); (case l => k_is); (case c => k_is); (case k => k_is))
    (case T__law_draw => refine' K02.top_mk ?a ?l ?c ?k; (case a => k_is); (case l => k_is); (case c => k_is); (case k => k_is))
    (case T__law_one => refine' K02.top_mk ?a ?l ?c ?k; (case a => k_is); (case l => k_is); (case c => k_is); (case k => k_is))
    (case T__law_text => refine' K02.top_mk ?a ?l ?c ?k; (case a => k_is); (case l => k_is); (case c => k_is); (case k => k_is))
    (case T__law_root => refine' K02.top_mk ?a ?l ?c ?k; (case a => k_is); (case l => k_is); (case c => k_is); (case k => k_is))
    (case T__law_shared => refine' K02.top_mk ?a ?l ?c ?k; (case a => k_is); (case l => k_is); (case c => k_is); (case k => k_is))
    (case T__law_power => refine' K02.top_mk ?a ?l ?c ?k; (case a => k_is); (case l => k_is); (case c => k_is); (case k => k_is))
    (case T__law_turns => refine' K02.top_mk ?a ?l ?c ?k; (case a => k_is); (case l => k_is); (case c => k_is); (case k => k_is))
    (case T__law_links => refine' K02.top_mk ?a ?l ?c ?k; (case a => k_is); (case l => k_is); (case c => k_is); (case k => k_is))
    (case T__law_so => refine' K02.top_mk ?a ?l ?c ?k; (case a => k_is); (case l => k_is); (case c => k_is); (case k => k_is))
    (case T__law_is => refine' K02.top_mk ?a ?l ?c ?k; (case a => k_is); (case l => k_is); (case c => k_is); (case k => k_is))
    (case T__law_list => refine' K02.top_mk ?a ?l ?c ?k; (case a => k_is); (case l => k_is); (case c => k_is); (case k => k_is))
    (case T__law_same_root => refine' K02.top_mk ?a ?l ?c ?k; (case a => k_is); (case l => k_is); (case c => k_is); (case k => k_is))
    (case T__law_common => refine' K02.top_mk ?a ?l ?c ?k; (case a => k_is); (case l => k_is); (case c => k_is); (case k => k_is))
    (case T__law_feed => refine' K02.top_mk ?a ?l ?c ?k; (case a => k_is); (case l => k_is); (case c => k_is); (case k => k_is))
    (case T__law_pair => refine' K02.top_mk ?a ?l ?c ?k; (case a => k_is); (case l => k_is); (case c => k_is); (case k => k_is))
    (case T__law_right => refine' K02.top_mk ?a ?l ?c ?k; (case a => k_is); (case l => k_is); (case c => k_is); (case k => k_is))
    (case T_law => refine' K02.top_mk ?a ?l ?c ?k; (case a => k_is); (case l => k_is); (case c => k_is); (case k => k_is))
