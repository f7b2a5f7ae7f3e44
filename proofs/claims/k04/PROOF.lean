import PyProof.Rows.All
import Wide.All
import OpenK.AllK
import Wide.FinOn
import HandS.ForMost
import HandS.Walk
import HandS.IsInst
import HandS.Gcd
import HandS.Wide
import HandS.StrMore
import HandS.Codes
import HandS.EndBits
import HandS.TryOnly
import HandS.Style
import HandS.SortKw
import HandS.TupAny
import KE.SortKeyHeap
import KE.SortData
import HandS.Evl
import HandS.Set
import HandS.SetFor
import KE.GoesEnum
import HandS.Zip
import HandS.TupLe
import PyProof.ReprRoads
import HandS.RevRange
import HandS.ForExc
import HandS.ExcIs
import HandS.Strs
import HandS.Dict
import HandS.DictComp
import HandS.Conv
import HandS.More
import HandS.SortInts
import KE.IntBitsLaws
import KE.RegKIsAll
import PySem.Challenge.RW_wordscut_k04_whole_places_words_and_no_c
set_option Elab.async false
set_option linter.all false
set_option maxRecDepth 100000
set_option maxHeartbeats 2000000
/-! rules over texts as lists of code points; called defs as bundles -/
namespace Wc
open PySem PySem.Spec PyProof.Rows L2

abbrev Tx := List Nat
/-- a text as a value -/
abbrev T (l : Tx) : V := .str (SX.S l)
theorem T_inj {a b : Tx} (h : T a = T b) : a = b := SX.S_inj (V.str.inj h)
theorem T_str (x : Str) : V.str x = T x.cps.toList := congrArg V.str (SX.S_tl x).symm
theorem dec_T (a b : Tx) : decide (T a = T b) = decide (a = b) := by
  by_cases h : a = b
  · subst h
    rw [decide_eq_true rfl, decide_eq_true rfl]
  · rw [decide_eq_false h, decide_eq_false fun e => h (T_inj e)]
theorem S_length (a : Tx) : (SX.S a).length = a.length := SX.S_len a

/-- text + text -/
def rAddT : R2 := fun x y H Q => ∃ a b : Tx, x = T a ∧ y = T b ∧ a.length + b.length ≤ 16777216 ∧ Q (T (a ++ b)) H
theorem op_addT {X : Cx} : OpR X (binaryOp .Add) rAddT := by
  intro pins s σ H x y v u Q I rx ry h
  obtain ⟨a, b, rfl, rfl, hl, q⟩ := h
  refine op_add_str pins s σ H _ _ v u Q I rx ry ⟨_, _, rfl, rfl, ?_, ?_⟩
  · rw [S_length, S_length]
    exact hl
  · rw [SX.S_cat]
    exact q
/-- text * int -/
def repT (n : Nat) (a : Tx) : Tx := (List.replicate n a).flatten
theorem repT_zero (a : Tx) : repT 0 a = [] := rfl
theorem repT_succ (n : Nat) (a : Tx) : repT (n + 1) a = a ++ repT n a := by
  unfold repT
  rw [List.replicate_succ, List.flatten_cons]
theorem repT_len (n : Nat) (a : Tx) : (repT n a).length = n * a.length := by
  induction n with
  | zero => simp [repT]
  | succ n ih => rw [repT_succ, List.length_append, ih, Nat.succ_mul]; omega
theorem fold_app : ∀ (l : List (Array Nat)) (acc : Array Nat), (l.foldl (· ++ ·) acc).toList = acc.toList ++ (l.map Array.toList).flatten
  | [], acc => by simp
  | x :: l, acc => by
    show (l.foldl (· ++ ·) (acc ++ x)).toList = _
    rw [fold_app l (acc ++ x)]
    simp
theorem mul_S (a : Tx) (n : Int) : Txt.mul (SX.S a) n = SX.S (repT n.toNat a) := by
  unfold Txt.mul
  by_cases h1 : n < 1
  · rw [if_pos h1]
    have e : n.toNat = 0 := by omega
    rw [e]
    rfl
  · rw [if_neg h1]
    by_cases h2 : (n == 1 || (SX.S a).length == 0) = true
    · rw [if_pos h2]
      rw [Bool.or_eq_true] at h2
      rcases h2 with h2 | h2
      · have e : n.toNat = 1 := by
          have := eq_of_beq h2
          omega
        rw [e]
        simp [repT]
      · have e := eq_of_beq h2
        rw [S_length] at e
        have e2 := List.length_eq_zero_iff.mp e
        subst e2
        have : repT n.toNat [] = [] := List.length_eq_zero_iff.mp (by rw [repT_len]; simp)
        rw [this]
    · rw [if_neg h2]
      refine TL.ext_tl ?_
      show (List.foldl (· ++ ·) #[] (List.replicate n.toNat a.toArray)).toList = repT n.toNat a
      rw [fold_app]
      simp [repT, List.map_replicate]
def rMulT : R2 := fun x y H Q => ∃ (a : Tx) (n : Int), x = T a ∧ y = .int n ∧ -1000000000 ≤ n ∧ n ≤ 1000000000 ∧ a.length * n.toNat ≤ 16777216 ∧ Q (T (repT n.toNat a)) H
theorem mulOk {a : Tx} {n : Int} (h0 : -1000000000 ≤ n) (h1 : n ≤ 1000000000) (h : a.length * n.toNat ≤ 16777216) : MulOk (SX.S a) n := by
  refine ⟨?_, fun hn _ => ?_, fun hn _ => ?_⟩
  · rw [Bool.or_eq_false_iff]
    exact ⟨decide_eq_false (by omega), decide_eq_false (by omega)⟩
  · rw [S_length]
    intro hgt
    have h2 : (a.length : Int) ≤ 16777216 := by
      have : a.length * 1 ≤ a.length * n.toNat := Nat.mul_le_mul_left _ (by omega)
      omega
    have h3 : (16777216 : Int) ≤ (2 ^ 63 - 1) / n := by
      rw [Int.le_ediv_iff_mul_le (by omega)]
      have : (16777216 : Int) * n ≤ 16777216 * 1000000000 := Int.mul_le_mul_of_nonneg_left h1 (by decide)
      omega
    omega
  · rw [S_length]
    unfold Builtin.Str.tooLong
    have : ¬ (a.length * n.toNat > 16777216) := by omega
    exact decide_eq_false (by first | exact this | (simp; omega))
theorem op_mulT {X : Cx} : OpR X (binaryOp .Mult) rMulT := by
  intro pins s σ H x y v u Q I rx ry h
  obtain ⟨a, n, rfl, rfl, h0, h1, hl, q⟩ := h
  obtain ⟨t, rfl⟩ := rx
  obtain ⟨t', rfl⟩ := ry
  refine SB.mul (mulOk h0 h1 hl) fun t2 k => ?_
  rw [mul_S]
  exact ⟨T (repT n.toNat a), H, I.tok _, ⟨_, rfl⟩, q⟩

/-! ### subscripts, slices, length, comparisons -/
def rIxT : R2 := fun x y H Q => ∃ (a : Tx) (i : Int) (c : Nat), x = T a ∧ y = .int i ∧ a.length ≤ 16777216 ∧ atI a i = some c ∧ Q (T [c]) H
theorem ix_T {X : Cx} : IxR X rIxT := by
  intro value slice pins s σ H x y v u Q I rx ry h hs
  obtain ⟨a, i, c, rfl, rfl, hl, ha, q⟩ := h
  exact ix_str value slice pins s σ H _ _ v u Q I rx ry ⟨_, i, c, rfl, rfl, by rw [S_length]; exact hl, ha, q⟩ hs
def cutT (a : Tx) (lo hi : Option Int) : Tx := (a.drop (HT.sIx a.length 0 lo)).take (HT.sIx a.length a.length hi - HT.sIx a.length 0 lo)
theorem cutS_T (a : Tx) (lo hi : Option Int) : cutS (SX.S a) lo hi = SX.S (cutT a lo hi) := by
  unfold cutS cutT
  rw [S_length]
def rSlT : V → Option Int → Option Int → Hp → VK → Prop := fun x lo hi H Q => ∃ a : Tx, x = T a ∧ a.length ≤ 16777216 ∧ Q (T (cutT a lo hi)) H
theorem sl_T {X : Cx} : SlR X rSlT := by
  intro pins s σ H x v vl vu lo hi sl Q I rx hs pl pu h
  obtain ⟨a, rfl, hl, q⟩ := h
  refine sl_str pins s σ H _ v vl vu lo hi sl Q I rx hs pl pu ⟨_, rfl, by rw [S_length]; exact hl, ?_⟩
  rw [cutS_T]
  exact q
theorem cutT_to (a : Tx) (n : Nat) : cutT a none (some (n : Int)) = a.take n := by
  unfold cutT
  rw [HT.sIx_none, HT.sIx_nat, List.drop_zero, Nat.sub_zero]
  by_cases h : n ≤ a.length
  · rw [Nat.min_eq_left h]
  · rw [Nat.min_eq_right (by omega), List.take_of_length_le (Nat.le_refl _), List.take_of_length_le (by omega)]
theorem cutT_from (a : Tx) (n : Nat) : cutT a (some (n : Int)) none = a.drop n := by
  unfold cutT
  rw [HT.sIx_none, HT.sIx_nat]
  by_cases h : n ≤ a.length
  · rw [Nat.min_eq_left h]
    exact List.take_of_length_le (by rw [List.length_drop]; exact Nat.le_refl _)
  · rw [Nat.min_eq_right (by omega), List.drop_eq_nil_of_le (Nat.le_refl _), List.drop_eq_nil_of_le (by omega), List.take_nil]
theorem cutT_mid (a : Tx) (m n : Nat) : cutT a (some (m : Int)) (some (n : Int)) = (a.drop m).take (n - m) := by
  unfold cutT
  rw [HT.sIx_nat, HT.sIx_nat]
  by_cases h : m ≤ a.length
  · rw [Nat.min_eq_left h]
    by_cases h2 : n ≤ a.length
    · rw [Nat.min_eq_left h2]
    · rw [Nat.min_eq_right (by omega), List.take_of_length_le (by rw [List.length_drop]; exact Nat.le_refl _), List.take_of_length_le (by rw [List.length_drop]; omega)]
  · rw [Nat.min_eq_right (show a.length ≤ m by omega), List.drop_eq_nil_of_le (Nat.le_refl _), List.drop_eq_nil_of_le (show a.length ≤ m by omega), List.take_nil, List.take_nil]
/-- without the last so many -/
theorem cutT_but (a : Tx) (k : Nat) : cutT a none (some (-((k : Int) + 1))) = a.take (a.length - (k + 1)) := by
  unfold cutT
  rw [HT.sIx_none, List.drop_zero, Nat.sub_zero]
  have e : HT.sIx a.length a.length (some (-((k : Int) + 1))) = a.length - (k + 1) := by
    show (if (-((k : Int) + 1)) < 0 then ((-((k : Int) + 1)) + (a.length : Int)).toNat else min (-((k : Int) + 1)).toNat a.length) = _
    rw [if_pos (by omega)]
    omega
  rw [e]
/-- the last so many -/
theorem cutT_last (a : Tx) (k : Nat) : cutT a (some (-((k : Int) + 1))) none = a.drop (a.length - (k + 1)) := by
  unfold cutT
  rw [HT.sIx_none]
  have e : HT.sIx a.length 0 (some (-((k : Int) + 1))) = a.length - (k + 1) := by
    show (if (-((k : Int) + 1)) < 0 then ((-((k : Int) + 1)) + (a.length : Int)).toNat else min (-((k : Int) + 1)).toNat a.length) = _
    rw [if_pos (by omega)]
    omega
  rw [e]
  exact List.take_of_length_le (by rw [List.length_drop]; exact Nat.le_refl _)
theorem cutT_len (a : Tx) (lo hi : Option Int) : (cutT a lo hi).length ≤ a.length := by
  unfold cutT
  rw [List.length_take, List.length_drop]
  omega
theorem cutT_mem {a : Tx} {lo hi : Option Int} {c : Nat} (h : c ∈ cutT a lo hi) : c ∈ a := List.mem_of_mem_drop (List.mem_of_mem_take h)
def rLenT : List V → Hp → VK → Prop := fun vs H Q => ∃ a : Tx, vs = [T a] ∧ a.length ≤ 16777216 ∧ Q (.int (a.length : Int)) H
theorem cr_lenT {X : Cx} : CallR X (.builtin "len") rLenT := by
  intro pins s σ H vs us Q I r h
  obtain ⟨a, rfl, hl, q⟩ := h
  refine call_len_str pins s σ H _ us Q I r ⟨_, rfl, by rw [S_length]; exact hl, ?_⟩
  rw [S_length]
  exact q
def rEqT : R2 := fun x y H Q => ∃ a b : Tx, x = T a ∧ y = T b ∧ Q (.bl (decide (a = b))) H
theorem op_eqT {X : Cx} : OpR X (compareOp .Eq) rEqT := by
  intro pins s σ H x y v u Q I rx ry h
  obtain ⟨a, b, rfl, rfl, q⟩ := h
  refine op_eq pins s σ H _ _ v u Q I rx ry ⟨rfl, ?_⟩
  rw [dec_T]
  exact q
def rNeT : R2 := fun x y H Q => ∃ a b : Tx, x = T a ∧ y = T b ∧ Q (.bl (!decide (a = b))) H
theorem op_neT {X : Cx} : OpR X (compareOp .NotEq) rNeT := by
  intro pins s σ H x y v u Q I rx ry h
  obtain ⟨a, b, rfl, rfl, q⟩ := h
  refine op_ne pins s σ H _ _ v u Q I rx ry ⟨rfl, ?_⟩
  rw [dec_T]
  exact q
theorem dec_int (i j : Int) : decide (V.int i = V.int j) = decide (i = j) := by
  by_cases h : i = j
  · subst h
    rw [decide_eq_true rfl, decide_eq_true rfl]
  · rw [decide_eq_false h, decide_eq_false fun e => h (V.int.inj e)]
theorem dec_bl (i j : Bool) : decide (V.bl i = V.bl j) = decide (i = j) := by
  cases i <;> cases j <;> decide
theorem op_eqI {X : Cx} : OpR X (compareOp .Eq) (rI0 fun i j => .bl (decide (i = j))) := by
  intro pins s σ H x y v u Q I rx ry h
  obtain ⟨i, j, rfl, rfl, q⟩ := h
  refine op_eq pins s σ H _ _ v u Q I rx ry ⟨rfl, ?_⟩
  rw [dec_int]
  exact q
theorem op_neI {X : Cx} : OpR X (compareOp .NotEq) (rI0 fun i j => .bl (!decide (i = j))) := by
  intro pins s σ H x y v u Q I rx ry h
  obtain ⟨i, j, rfl, rfl, q⟩ := h
  refine op_ne pins s σ H _ _ v u Q I rx ry ⟨rfl, ?_⟩
  rw [dec_int]
  exact q
def rB0 (g : Bool → Bool → Bool) : R2 := fun x y H Q => ∃ i j, x = .bl i ∧ y = .bl j ∧ Q (.bl (g i j)) H
theorem op_eqB {X : Cx} : OpR X (compareOp .Eq) (rB0 fun i j => decide (i = j)) := by
  intro pins s σ H x y v u Q I rx ry h
  obtain ⟨i, j, rfl, rfl, q⟩ := h
  refine op_eq pins s σ H _ _ v u Q I rx ry ⟨rfl, ?_⟩
  rw [dec_bl]
  exact q
def rInT : R2 := fun x y H Q => ∃ (c : Nat) (z : Tx), x = T [c] ∧ y = T z ∧ Q (.bl (decide (c ∈ z))) H
theorem op_inT {X : Cx} : OpR X (compareOp .In) rInT := by
  intro pins s σ H x y v u Q I rx ry h
  obtain ⟨c, z, rfl, rfl, q⟩ := h
  exact op_in_sign pins s σ H _ _ v u Q I rx ry ⟨c, SX.S z, rfl, rfl, q⟩
def rLtT : R2 := fun x y H Q => ∃ a b : Tx, x = T a ∧ y = T b ∧ Q (.bl (decide (a < b))) H
theorem op_ltT' {X : Cx} : OpR X (compareOp .Lt) rLtT := by
  intro pins s σ H x y v u Q I rx ry h
  obtain ⟨a, b, rfl, rfl, q⟩ := h
  exact op_lt_str pins s σ H _ _ v u Q I rx ry ⟨_, _, rfl, rfl, q⟩
/-! ### % and // by a positive number -/
theorem op_modP {X : Cx} : OpR X (binaryOp .Mod) (rI (fun _ j => 0 < j) fun i j => .int (i % j)) := op_mod
/-- * of any two whose bits together are below the line -/
def CMulB (i j : Int) : Prop := i.natAbs.log2 + j.natAbs.log2 < 100000000
theorem CMulB.ok {i j : Int} (h : CMulB i j) : IntMulOk i j := by
  have b : ∀ x : Int, Builtin.Int.intBits x ≤ x.natAbs.log2 + 1 := fun x => by
    unfold Builtin.Int.intBits
    split <;> omega
  have h1 := b i
  have h2 := b j
  have h3 : i.natAbs.log2 + j.natAbs.log2 < 100000000 := h
  have e : bitsLine = 134217728 := by decide
  unfold IntMulOk
  intro z
  rw [Bool.and_eq_true] at z
  have z2 := z.2
  unfold Builtin.Int.intTooBig at z2
  have z3 := of_decide_eq_true z2
  rw [e] at z3
  omega
theorem op_mulB {X : Cx} : OpR X (binaryOp .Mult) (rI CMulB fun i j => .int (i * j)) := opI fun _ _ _ _ _ _ _ hc q => mul_int q hc.ok
theorem mulB {i j : Int} {a b : Nat} (ha : i.natAbs < 2 ^ a) (hb : j.natAbs < 2 ^ b) (h0 : 0 < a) (h1 : 0 < b) (h : a + b ≤ 100000000) : CMulB i j := by
  have x := PySem.Flt.log2_lt_of h0 ha
  have y := PySem.Flt.log2_lt_of h1 hb
  unfold CMulB
  omega
/-! ### str.join, find, startswith -/
def rJoinT (K : PySem.W.Frag) : V → List V → Hp → VK → Prop := fun x xs H Q => ∃ (a : Tx) (p : Addr) (ys : List Tx), x = T a ∧ xs = [.ref p] ∧ (SqL K H p (ys.map T) ∨ SqT K H p (ys.map T)) ∧ (ys.map List.length).sum + ys.length * a.length ≤ 16777216 ∧ Q (T (TL.joinL a ys)) H
theorem mt_joinT {X : Cx} : MtR X "str.join" (rJoinT X.K) := by
  intro pins s σ H x xs v us Q I rx r h
  obtain ⟨a, p, ys, rfl, rfl, hs, hl, q⟩ := h
  have em : ys.map T = (ys.map SX.S).map V.str := by rw [List.map_map]; rfl
  rw [em] at hs
  refine mt_join pins s σ H _ _ v us Q I rx r ⟨_, p, ys.map SX.S, rfl, rfl, hs, ?_, ?_⟩
  · rw [SX.lens, List.length_map, S_length]
    exact hl
  · rw [SX.join_S]
    exact q
theorem joinL_nil : ∀ ys : List Tx, TL.joinL [] ys = ys.flatten
  | [] => rfl
  | [p] => by simp [TL.joinL]
  | p :: q :: r => by
    show p ++ ([] ++ TL.joinL [] (q :: r)) = _
    rw [joinL_nil (q :: r)]
    rfl
/-- b stands in a at i -/
abbrev StAt (a b : Tx) (i : Nat) : Prop := (a.drop i).take b.length = b
theorem subAt_T (a b : Tx) (i : Nat) : Builtin.Str.subAt (SX.S a) (SX.S b) i = decide (StAt a b i) := by
  rw [StrLaws.subAt_eq, S_length]
  show ((a.drop i).take b.length == b) = decide _
  by_cases h : StAt a b i
  · rw [decide_eq_true h]
    exact beq_iff_eq.mpr h
  · rw [decide_eq_false h]
    exact beq_eq_false_iff_ne.mpr h
/-- where b stands first in a, from i on -/
inductive FindT (a b : Tx) (i : Nat) : Int → Prop where
  | at_ (k : Nat) : i ≤ k → k + b.length ≤ a.length → StAt a b k → (∀ j, i ≤ j → j < k → ¬ StAt a b j) → FindT a b i (k : Int)
  | no : (∀ j, i ≤ j → j + b.length ≤ a.length → ¬ StAt a b j) → FindT a b i (-1)
theorem fromIndex_nat (n i : Nat) : fromIndex n (i : Int) = i := by
  unfold fromIndex
  rw [if_neg (by omega)]
  omega
theorem range'_pre {s n : Nat} {pre post : List Nat} {a : Nat} (h : List.range' s n = pre ++ a :: post) : s ≤ a ∧ ∀ k, s ≤ k → k < a → k ∈ pre := by
  have hl : n = pre.length + (post.length + 1) := by
    have e := congrArg List.length h
    simpa using e
  have ha : s + pre.length = a := by
    have h1 : (List.range' s n)[pre.length]? = some a := by rw [h]; simp
    rw [List.getElem?_range' (by omega)] at h1
    have := Option.some.inj h1
    omega
  refine ⟨by omega, fun k h1 h2 => ?_⟩
  have h3 : (List.range' s n)[k - s]? = some k := by
    rw [List.getElem?_range' (by omega)]
    congr 1
    omega
  rw [h, List.getElem?_append_left (by omega)] at h3
  exact List.mem_of_getElem? h3
theorem find3_spec (a b : Tx) (i : Nat) : FindT a b i (Txt.find3 (SX.S a) (SX.S b) (i : Int)) := by
  have hAt : ∀ j, StrLaws.At (SX.S a) (SX.S b) a.length j ↔ (j + b.length ≤ a.length ∧ StAt a b j) := fun j => by
    unfold StrLaws.At
    rw [subAt_T, S_length, decide_eq_true_eq]
  unfold Txt.find3
  rw [S_length, fromIndex_nat, StrLaws.occ_eq]
  rcases StrLaws.occ_first (SX.S a) (SX.S b) a.length 1 (Nat.le_refl _) (List.range' i (a.length + 1 - i)) i (fun k hk => (List.mem_range'_1.mp hk).1) with ⟨h0, hn⟩ | ⟨pre, k, post, e, h0, hk, hn⟩
  · rw [h0]
    refine .no fun j h1 h2 h3 => hn j ?_ ((hAt j).mpr ⟨h2, h3⟩)
    exact List.mem_range'_1.mpr ⟨h1, by omega⟩
  · have hp := range'_pre e
    have hk' := (hAt k).mp hk
    generalize hL : (forIn (List.range' i (a.length + 1 - i)) ((#[] : Array Nat), i) (StrLaws.occBody (SX.S a) (SX.S b) a.length 1)).run.fst = L at h0 ⊢
    have e2 : ∃ r, L.toList = k :: r := by
      have h1 : L.toList[0]? = some k := by rw [Array.getElem?_toList]; exact h0
      cases hh : L.toList with
      | nil => rw [hh] at h1; simp at h1
      | cons y r => rw [hh] at h1; exact ⟨r, by rw [show y = k from Option.some.inj h1]⟩
    obtain ⟨r, e2⟩ := e2
    rw [e2]
    exact .at_ k hp.1 hk'.1 hk'.2 fun j h1 h2 h3 => hn j (hp.2 j h1 h2) ((hAt j).mpr ⟨by omega, h3⟩)
def rFind3T : V → List V → Hp → VK → Prop := fun x xs H Q => ∃ (a b : Tx) (i : Nat), x = T a ∧ xs = [T b, .int (i : Int)] ∧ ∀ r, FindT a b i r → Q (.int r) H
theorem mt_find3T {X : Cx} : MtR X "str.find" rFind3T := by
  intro pins s σ H x xs v us Q I rx r h
  obtain ⟨a, b, i, rfl, rfl, q⟩ := h
  exact mt_find3 pins s σ H _ _ v us Q I rx r ⟨_, _, _, rfl, rfl, q _ (find3_spec a b i)⟩
def rFindT : V → List V → Hp → VK → Prop := fun x xs H Q => ∃ (a b : Tx), x = T a ∧ xs = [T b] ∧ ∀ r, FindT a b 0 r → Q (.int r) H
theorem find_spec (a b : Tx) : FindT a b 0 (Txt.find (SX.S a) (SX.S b)) := by
  have h := find3_spec a b 0
  unfold Txt.find3 at h
  rw [S_length, fromIndex_nat] at h
  unfold Txt.find
  rw [S_length]
  exact h
theorem mt_findT {X : Cx} : MtR X "str.find" rFindT := by
  intro pins s σ H x xs v us Q I rx r h
  obtain ⟨a, b, rfl, rfl, q⟩ := h
  exact mt_find pins s σ H _ _ v us Q I rx r ⟨_, _, rfl, rfl, q _ (find_spec a b)⟩
def rStart3T : V → List V → Hp → VK → Prop := fun x xs H Q => ∃ (a b : Tx) (i : Nat), x = T a ∧ xs = [T b, .int (i : Int)] ∧ Q (.bl (decide (i + b.length ≤ a.length ∧ StAt a b i))) H
theorem mt_start3T {X : Cx} : MtR X "str.startswith" rStart3T := by
  intro pins s σ H x xs v us Q I rx r h
  obtain ⟨a, b, i, rfl, rfl, q⟩ := h
  refine mt_startswith3 pins s σ H _ _ v us Q I rx r ⟨_, _, _, rfl, rfl, ?_⟩
  unfold Txt.startswith3
  rw [S_length, S_length, fromIndex_nat, subAt_T, ← Bool.decide_and]
  exact q
end Wc
set_option Elab.async false
set_option linter.all false
set_option maxRecDepth 100000
set_option maxHeartbeats 2000000
namespace Wc
open PySem PySem.Spec PyProof.Rows L2
/-! ### constants -/
theorem pe_sT {X : Cx} (l : Tx) {x : Str} {j pos} (e : x = SX.S l := by decide +kernel) : PE X (.Constant (.str x) j pos) (tC (T l)) := by
  rw [e]
  exact pe_str
theorem pe_gT {X : Cx} {x : Str} {z : Str} {pos : Pos} (h : ∃ t, X.mg x = some (.str z t)) (l : Tx) (hg : Gl X x := by rfl) (e : z = SX.S l := by decide +kernel) (hd : (x == ("__debug__" : Str)) = false := by decide) : PE X (.Name x pos) (tC (T l)) := by
  obtain ⟨t, h⟩ := h
  subst e
  exact pe_glob hg h ⟨t, rfl⟩ hd
theorem pe_gI {X : Cx} {x : Str} {i : Int} {pos : Pos} (h : ∃ t, X.mg x = some (.int i t)) (hg : Gl X x := by rfl) (hd : (x == ("__debug__" : Str)) = false := by decide) : PE X (.Name x pos) (tC (.int i)) := by
  obtain ⟨t, h⟩ := h
  exact pe_glob hg h ⟨t, rfl⟩ hd
/-! ### a def that is called -/
structure Cal (P : Program) (w : World) (K : PySem.W.Frag) (mg : Str → Option Value) (base : Heap) (x : Str) (st : Stmt) (k : Nat) (ps : List Str) (sp : Sp) : Prop where
  ex : ∃ f fd, FnOk P w K mg base CX0 k f fd ps sp ∧ mg x = some (.ref f) ∧ Fun K x x st f fd ∧ Binds K fd ps []
section
variable {X : Cx} {x : Str} {st : Stmt} {k n : Nat} {ps ks : List Str} {sp : Sp} {p pos : Pos} {e : Expr} {es : List Expr} {kws : List Keyword} {t tk : TA}
theorem pe_cl (C : Cal X.prog X.w X.K X.mg X.base x st k ps sp) (hr : Room n X.A) (ha : PA X (e :: es) t) (hkn : k ≤ n := by decide) (hg : Gl X x := by rfl) (hdb : (x == ("__debug__" : Str)) = false := by decide)
    (he : starEach (e :: es) X.env = (false, eval e X.env) :: starEach es X.env := by rfl) (hpl : (backTo pos (starEach es X.env)).any (·.1) = false := by rfl) : PE X (.Call (.Name x p) (e :: es) [] pos) (tCall sp [] E0 t) := by
  obtain ⟨f, fd, F, hm, hF, hb⟩ := C.ex
  exact pe_call F (hr.mono hkn) hg hm hF.kp hb .nil pass0 ha hdb he hpl
theorem pe_cl0 (C : Cal X.prog X.w X.K X.mg X.base x st k ps sp) (hr : Room n X.A) (hkn : k ≤ n := by decide) (hg : Gl X x := by rfl) (hdb : (x == ("__debug__" : Str)) = false := by decide) : PE X (.Call (.Name x p) [] [] pos) (tCall sp [] E0 tNil) := by
  obtain ⟨f, fd, F, hm, hF, hb⟩ := C.ex
  exact pe_call0 F (hr.mono hkn) hg hm hF.kp hb .nil pass0 hdb
/-- the values of the parameters out of the named ones -/
def KB (x : Str) (st : Stmt) (n : Nat) (ps ks : List Str) (g : List Value → List Value → List Value) (gV : List V → List V → List V) : Prop :=
  ∀ (K : PySem.W.Frag) (f : Addr) (fd : FuncData), Fun K x x st f fd → KBinds K fd ps ks g gV
def tCallK0 (sp : Sp) (gV : List V → List V → List V) (tk : TA) : TE := fun σ H Q => tk σ H fun zs H2 => sp (gV [] zs) H2 Q E0
theorem pe_clK0 {g : List Value → List Value → List Value} {gV : List V → List V → List V} (C : Cal X.prog X.w X.K X.mg X.base x st k ps sp) (kb : KB x st 0 ps ks g gV) (hr : Room n X.A) (hkw : PK X kws tk) (hkn : k ≤ n := by decide) (hg : Gl X x := by rfl) (hdb : (x == ("__debug__" : Str)) = false := by decide)
    (hall : (backToKw pos (keywordEach kws X.env)).all (·.1.isSome) = true := by rfl) (hks : (backToKw pos (keywordEach kws X.env)).filterMap (·.1) = ks := by rfl)
    (hpl : ((backTo pos (starEach [] X.env)).any (·.1) || (backToKw pos (keywordEach kws X.env)).any (·.1.isNone)) = false := by rfl) : PE X (.Call (.Name x p) [] kws pos) (tCallK0 sp gV tk) := by
  obtain ⟨f, fd, F, hm, hF, hb⟩ := C.ex
  refine ⟨fun pins s σ H Q I h => ?_⟩
  refine wpAny_Call_Name_kw (ld_glob I hg hm ?_ hdb)
  refine PySem.W.callWith_KW0 (h₀ := X.base) I.ok.mod.kin hF.kp hall (thn (hkw.run pos pins s σ H _ I h) fun ws s2 ⟨zs, H2, I2, rz, q2⟩ => ⟨I2.kIn, ?_⟩) hpl
  rw [hks]
  exact run_fnk (us := []) (vs := []) F (hr.mono hkn) (kb _ _ _ hF) pass0 I2 .nil rz q2
theorem pe_clK {g : List Value → List Value → List Value} {gV : List V → List V → List V} (C : Cal X.prog X.w X.K X.mg X.base x st k ps sp) (kb : KB x st 0 ps ks g gV) (hr : Room n X.A) (ha : PA X (e :: es) t) (hkw : PK X kws tk) (hkn : k ≤ n := by decide) (hg : Gl X x := by rfl)
    (hall : (backToKw pos (keywordEach kws X.env)).all (·.1.isSome) = true := by rfl) (hks : (backToKw pos (keywordEach kws X.env)).filterMap (·.1) = ks := by rfl)
    (hdb : (x == ("__debug__" : Str)) = false := by decide) (he : starEach (e :: es) X.env = (false, eval e X.env) :: starEach es X.env := by rfl)
    (hpl : ((backTo pos (starEach (e :: es) X.env)).any (·.1) || (backToKw pos (keywordEach kws X.env)).any (·.1.isNone)) = false := by rfl) : PE X (.Call (.Name x p) (e :: es) kws pos) (tCallK sp gV E0 t tk) := by
  obtain ⟨f, fd, F, hm, hF, hb⟩ := C.ex
  exact pe_callK F (hr.mono hkn) hg hm hF.kp (kb _ _ _ hF) pass0 ha hkw hall hks hdb he hpl
end
/-- two named values, in their sequence, or turned -/
def sw2 {α : Type} (turn : Bool) : List α → List α → List α
  | [], [a, b] => if turn then [b, a] else [a, b]
  | _, _ => []
theorem sw2_rel {turn : Bool} {vs zs : List V} {us ws : List Value} (r : Vals vs us) (rz : Vals zs ws) : Vals (sw2 turn vs zs) (sw2 turn us ws) := by
  cases r with
  | cons => exact .nil
  | nil =>
    cases rz with
    | nil => exact .nil
    | cons h1 r1 =>
      cases r1 with
      | nil => exact .nil
      | cons h2 r2 =>
        cases r2 with
        | cons => exact .nil
        | nil => cases turn with
          | true => exact .cons h2 (.cons h1 .nil)
          | false => exact .cons h1 (.cons h2 .nil)
theorem kb2 {x : Str} {st : Stmt} {ps ks : List Str} (turn : Bool) (hp : ps.length = 2)
    (h : ∀ (kV doc pm : Value) (an : Option Addr) (cdv ct a b : Value), bindArgs (PySem.W.fnOf x x (defArgs st) (defBody st) (defScope st) .none kV doc pm an cdv ct) ⟨[], ks.zip [a, b]⟩ = pure (ps.zip (sw2 turn [] [a, b]))) : KB x st 0 ps ks (sw2 turn) (sw2 turn) := by
  intro K f fd F
  obtain ⟨oc, od, kV, doc, pm, an, cdv, ct, osl, rfl, lk, hcd⟩ := F.ex
  refine ⟨fun s us ws _ hl => ?_, fun r rz => sw2_rel r rz⟩
  rw [hp] at hl
  match us, ws, hl with
  | [], [a, b], _ => exact .of_eq (h kV doc pm an cdv ct a b)
  | [], [], hl => exact absurd hl (by simp [sw2])
  | [], [_], hl => exact absurd hl (by simp [sw2])
  | [], _ :: _ :: _ :: _, hl => exact absurd hl (by simp [sw2])
  | _ :: _, ws, hl => exact absurd hl (by simp [sw2])

/-! ### isinstance with a built-in class -/
def rIsiB (K : PySem.W.Frag) : List V → Hp → VK → Prop := fun vs H Q => ∃ (x : V) (n t : String) (b : Bool), vs = [x, .ty n] ∧ TyX K H x (.type t) ∧ kitB t n = some b ∧ Q (.bl b) H
theorem cr_isi {X : Cx} : CallR X (.builtin "isinstance") (rIsiB X.K) := by
  intro pins s σ H vs us Q I r h
  obtain ⟨x, n, t, b, rfl, ty, hk, q⟩ := h
  exact call_isi pins s σ H _ us Q I r ⟨x, .ty n, .type t, .type n, b, rfl, .ty n, ty, kit_ty hk, q⟩
theorem k_str_str : kitB "str" "str" = some true := by decide +kernel
theorem k_bool_bool : kitB "bool" "bool" = some true := by decide +kernel
theorem k_int_int : kitB "int" "int" = some true := by decide +kernel
theorem k_int_bool : kitB "int" "bool" = some false := by decide +kernel
theorem k_bool_int : kitB "bool" "int" = some true := by decide +kernel
theorem k_list_list : kitB "list" "list" = some true := by decide +kernel
theorem k_tuple_tuple : kitB "tuple" "tuple" = some true := by decide +kernel
theorem k_str_bool : kitB "str" "bool" = some false := by decide +kernel

/-! ### sorted(xs, key=len) of texts -/
noncomputable def sortLen (xs : List Tx) : List Tx := xs.mergeSort (PySem.W.dataLe false fun a => PyData.int (a.length : Int))
def rSortLen (K : PySem.W.Frag) : List V → Hp → VK → Prop := fun vs H Q => ∃ (p : Addr) (xs : List Tx), vs = [.ref p] ∧ SqL K H p (xs.map T) ∧ (∀ a ∈ xs, a.length ≤ 16777216) ∧ ∀ q, H q = none → Q (.ref q) (upd H q (.lst ((sortLen xs).map T)))
def tSortLen (K : PySem.W.Frag) (t : TA) : TE := fun σ H Q => t σ H fun vs H1 => rSortLen K vs H1 Q
abbrev IsT (v : Value) (a : Tx) : Prop := ∃ t, v = .str (SX.S a) t
theorem each_of_vals : ∀ {xs : List Tx} {us : List Value}, Vals (xs.map T) us → PySem.W.EachIs IsT us xs
  | [], [], _ => .nil
  | a :: xs, u :: us, .cons h r => .cons h (each_of_vals r)
theorem vals_of_each : ∀ {xs : List Tx} {us : List Value}, PySem.W.EachIs IsT us xs → Vals (xs.map T) us
  | [], [], _ => .nil
  | a :: xs, u :: us, .cons h r => .cons h (vals_of_each r)
theorem pe_sortLen {X : Cx} {p p2 kp pos : Pos} {e : Expr} {t : TA} (hu : X.A.units + 64 < cLine) (hm : X.mg "sorted" = none) (hm2 : X.mg "len" = none) (ha : PA X [e] t) (hg : Gl X "sorted" := by rfl) (hg2 : Gl X "len" := by rfl)
    (he : backTo pos (starEach [e] X.env) = (false, eval e X.env) :: backTo pos (starEach [] X.env) := by rfl) (hpl : (backTo pos (starEach [e] X.env)).any (·.1) = false := by rfl) :
    PE X (.Call (.Name "sorted" p) [e] [⟨some "key", .Name "len" p2, kp⟩] pos) (tSortLen X.K t) := by
  refine ⟨fun pins s σ H Q I h => ?_⟩
  refine wpAny_Call_Name_kw (ld_blt I hg hm boot_sorted ?_)
  refine PyProof.Rows.callWith_kw (thn (ha.run pos pins s σ H _ I h) fun us s1 ⟨vs, H1, I1, r1, q1⟩ => ?_) he hpl
  show wpAny _ _ (evalAll ((do let v ← eval (.Name "len" p2) X.env; standAt pos; pure v) :: [])) _ _ s1
  refine wpAny_evalAll_cons (wpAny_bind (ld_blt I1 hg2 hm2 PySem.boot_len (wpAny_bind (wpAny_standAt (wpAny_pure ?_)))))
  refine wpAny_evalAll_nil ?_
  obtain ⟨q, xs, rfl, hs, hb, k⟩ := q1
  obtain rfl := Vals.ref1 r1
  obtain ⟨its, rv, hl, hz⟩ := I1.list hs
  show wpAny _ _ (call (.builtin "sorted") [.ref q] [(Str.ofString "key", .builtin "len")]) _ _ s1
  rw [List.length_map] at hz
  refine PySem.W.sorted_key_data (R := IsT) (bs := xs) (b := false) (fun a => PyData.int (a.length : Int)) hl.isList (each_of_vals rv) ?_ ?_ hz ?_ (PyProof.Rows.ksk_s1 _ _) (fun _ => PyProof.Rows.ksk_l1 _ _) (fun x => PyProof.Rows.ksk_t4 "len" x) ?_ ?_
  · intro d hd d' hd'
    obtain ⟨a, _, rfl⟩ := List.mem_map.mp hd
    obtain ⟨b, _, rfl⟩ := List.mem_map.mp hd'
    rfl
  · refine .inr fun d hd => ?_
    obtain ⟨a, _, rfl⟩ := List.mem_map.mp hd
    exact ⟨fun z => (nomatch z), fun _ z => (nomatch z)⟩
  · intro a _
    show X.A.units + 2 + _ < cLine
    have : (PyData.int (a.length : Int)).depth ≤ 1 := by simp [PyData.depth]
    omega
  · rintro v a ⟨t, rfl⟩ hm h tk hk
    have hla := hb a hm
    refine PyProof.Rows.len_str ?_ ?_
    · rw [S_length]
      omega
    · rw [S_length]
      exact ⟨h, _, rfl, fun _ _ z => z, .int _ _⟩
  · intro out c h' tk hk hn ho hlen eo
    have fr : H1 (s1.heap.objs.size + 1) = none := I1.hok.fresh (Nat.le_succ _)
    refine ⟨.ref _, upd H1 (s1.heap.objs.size + 1) (.lst ((sortLen xs).map T)), I1.laid (t' := tk) hk (Nat.le_succ _) ⟨?_, out, c, vals_of_each eo, ho⟩, rfl, k _ fr⟩
    rw [List.length_map]
    unfold sortLen
    rw [List.length_mergeSort]
    exact hz
theorem sortLen_pair (a b : Tx) : sortLen [a, b] = if b.length < a.length then [b, a] else [a, b] := by
  have e := PySem.W.dataLe_int (fun a : Tx => (a.length : Int))
  unfold sortLen
  rw [e]
  by_cases h : b.length < a.length
  · rw [if_pos h]
    simp [List.mergeSort, List.MergeSort.Internal.splitInTwo, List.merge, show ¬ a.length ≤ b.length by omega]
  · rw [if_neg h]
    simp [List.mergeSort, List.MergeSort.Internal.splitInTwo, List.merge, show a.length ≤ b.length by omega]
end Wc
set_option Elab.async false
set_option linter.all false
set_option maxRecDepth 100000
set_option maxHeartbeats 2000000
/-! what the new readings evaluate to (over HandS.Evl) -/
namespace Wc
open PySem PySem.Spec PyProof.Rows L2 Evl
section
variable {K : PySem.W.Frag} {σ : L2.St} {H H' : Hp} {ta tb te : TE} {t : TT} {x y z v : V}
theorem rv_addT {a b : Tx} (h : a.length + b.length ≤ 16777216) : RV rAddT (T a) (T b) H (T (a ++ b)) := fun H1 _ _ q => ⟨a, b, rfl, rfl, h, q H1 (Ex.refl H1)⟩
theorem rv_mulT {a : Tx} {n : Int} (h0 : -1000000000 ≤ n) (h1 : n ≤ 1000000000) (h : a.length * n.toNat ≤ 16777216) : RV rMulT (T a) (.int n) H (T (repT n.toNat a)) := fun H1 _ _ q => ⟨a, n, rfl, rfl, h0, h1, h, q H1 (Ex.refl H1)⟩
theorem rv_eqT {a b : Tx} : RV rEqT (T a) (T b) H (.bl (decide (a = b))) := fun H1 _ _ q => ⟨a, b, rfl, rfl, q H1 (Ex.refl H1)⟩
theorem rv_neT {a b : Tx} : RV rNeT (T a) (T b) H (.bl (!decide (a = b))) := fun H1 _ _ q => ⟨a, b, rfl, rfl, q H1 (Ex.refl H1)⟩
theorem rv_ltT {a b : Tx} : RV rLtT (T a) (T b) H (.bl (decide (a < b))) := fun H1 _ _ q => ⟨a, b, rfl, rfl, q H1 (Ex.refl H1)⟩
theorem rv_inT {c : Nat} {b : Tx} : RV rInT (T [c]) (T b) H (.bl (decide (c ∈ b))) := fun H1 _ _ q => ⟨c, b, rfl, rfl, q H1 (Ex.refl H1)⟩
theorem rv_eqB {a b : Bool} {g : Bool → Bool → Bool} : RV (rB0 g) (.bl a) (.bl b) H (.bl (g a b)) := fun H1 _ _ q => ⟨a, b, rfl, rfl, q H1 (Ex.refl H1)⟩
theorem rv_ixT {a : Tx} {i : Int} {c : Nat} (hl : a.length ≤ 16777216) (h : atI a i = some c) : RV rIxT (T a) (.int i) H (T [c]) := fun H1 _ _ q => ⟨a, i, c, rfl, rfl, hl, h, q H1 (Ex.refl H1)⟩
theorem rv_isN : RV (fun x y H Q => y = .non ∧ Q (.bl (decide (x = .non))) H) x .non H (.bl (decide (x = .non))) := fun H1 _ _ q => ⟨rfl, q H1 (Ex.refl H1)⟩
theorem rv_notN : RV (fun x y H Q => y = .non ∧ Q (.bl (!decide (x = .non))) H) x .non H (.bl (!decide (x = .non))) := fun H1 _ _ q => ⟨rfl, q H1 (Ex.refl H1)⟩
theorem rc_lenT {a : Tx} (h : a.length ≤ 16777216) : RC rLenT [T a] H (.int (a.length : Int)) := fun H1 _ _ q => ⟨a, rfl, h, q H1 (Ex.refl H1)⟩
theorem rc_isi {n t : String} {b : Bool} (ty : ∀ H1, Ex H H1 → TyX K H1 x (.type t)) (h : kitB t n = some b) : RC (rIsiB K) [x, .ty n] H (.bl b) := fun H1 e _ q => ⟨x, n, t, b, rfl, ty H1 e, h, q H1 (Ex.refl H1)⟩
theorem rc_int {i : Int} : RC (fun xs H Q => (∃ i, xs = [.int i] ∧ Q (.int i) H) ∨ ∃ k, xs = [.bl k] ∧ Q (.int (if k then 1 else 0)) H) [.int i] H (.int i) := fun H1 _ _ q => .inl ⟨i, rfl, q H1 (Ex.refl H1)⟩
theorem rc_gcd {a b : Int} : RC rGcd [.int a, .int b] H (.int ((Nat.gcd a.natAbs b.natAbs : Nat) : Int)) := fun H1 _ _ q => ⟨a, b, rfl, q H1 (Ex.refl H1)⟩
/-- a reading that is given by another one -/
theorem ev_slT {a : Tx} {tl th : TO} {lo hi : Option Int} (h : Ev te σ H (T a)) (h1 : EvO tl σ H lo) (h2 : EvO th σ H hi) (hl : a.length ≤ 16777216) : Ev (tSl rSlT te tl th) σ H (T (cutT a lo hi)) := fun H1 e _ q =>
  h H1 e _ fun H2 e2 => h1 H2 (e.trans e2) _ fun H3 e3 => h2 H3 ((e.trans e2).trans e3) _ fun H4 e4 => ⟨a, rfl, hl, q H4 ((e2.trans e3).trans e4)⟩
/-- a method of a text -/
def RM (r : V → List V → Hp → VK → Prop) (x : V) (vs : List V) (H : Hp) (z : V) : Prop := ∀ H1, Ex H H1 → ∀ Q : VK, (∀ H2, Ex H1 H2 → Q z H2) → r x vs H1 Q
theorem ev_bmT {r : V → List V → Hp → VK → Prop} {tq : TA} {a : Tx} {vs : List V} (h : Ev te σ H (T a)) (ha : EvA tq σ H vs) (hr : RM r (T a) vs H z) : Ev (tBM K "str" r te tq) σ H z := fun H1 e Q q =>
  h H1 e _ fun H2 e2 => ⟨rfl, ha H2 (e.trans e2) _ fun H3 e3 => hr H3 ((e.trans e2).trans e3) Q fun H4 e4 => q H4 ((e2.trans e3).trans e4)⟩
theorem ev_bmTL {r : V → List V → Hp → VK → Prop} {a : Tx} {xs : List V} (h : Ev te σ H (T a)) (ha : EvL tb σ H xs) (hr : ∀ p H1, H1 p = some (.lst xs) → Ex H H1 → RM r (T a) [.ref p] H1 z) : Ev (tBM K "str" r te (tCons tb tNil)) σ H z := fun H1 e Q q =>
  h H1 e _ fun H2 e2 => ⟨rfl, ha H2 (e.trans e2) _ fun p H3 _ e3 hp => hr p H3 hp ((e.trans e2).trans e3) H3 (Ex.refl H3) Q fun H4 e4 => q H4 ((e2.trans e3).trans e4)⟩
/-- a call of a built-in on one new list -/
theorem ev_cbL {r : List V → Hp → VK → Prop} {xs : List V} (h : EvL te σ H xs) (hr : ∀ p H1, H1 p = some (.lst xs) → Ex H H1 → RC r [.ref p] H1 z) : Ev (tCB r (tCons te tNil)) σ H z := fun H1 e Q q =>
  h H1 e _ fun p H2 _ e2 hp => hr p H2 hp (e.trans e2) H2 (Ex.refl H2) Q fun H3 e3 => q H3 (e2.trans e3)
theorem rc_all {p : Addr} {bs : List Bool} (h : SqL K H p (bs.map V.bl)) : RC (rAll K) [.ref p] H (.bl (bs.all id)) := fun H1 e _ q => ⟨p, bs, rfl, ex_l e h, q H1 (Ex.refl H1)⟩
theorem rc_any {p : Addr} {bs : List Bool} (h : SqL K H p (bs.map V.bl)) : RC (rAny K) [.ref p] H (.bl (bs.any id)) := fun H1 e _ q => ⟨p, bs, rfl, ex_l e h, q H1 (Ex.refl H1)⟩
theorem rc_sum {p : Addr} {ns : List Int} (h : SqL K H p (ns.map V.int)) : RC (rSum K) [.ref p] H (.int ns.sum) := fun H1 e _ q => ⟨p, ns, rfl, ex_l e h, q H1 (Ex.refl H1)⟩
theorem rm_join {p : Addr} {ys : List Tx} (h : SqL K H p (ys.map T) ∨ SqT K H p (ys.map T)) (hl : (ys.map List.length).sum ≤ 16777216) : RM (rJoinT K) (T []) [.ref p] H (T ys.flatten) := fun H1 e _ q =>
  ⟨[], p, ys, rfl, rfl, h.imp (ex_l e) (ex_t e), by simpa using hl, by rw [joinL_nil]; exact q H1 (Ex.refl H1)⟩

/-! ### heaps: all but some stand -/
def Exc (B : Addr → Prop) (H H' : Hp) : Prop := ∀ b o, ¬ B b → H b = some o → H' b = some o
theorem Exc.refl {B : Addr → Prop} (H : Hp) : Exc B H H := fun _ _ _ h => h
theorem Exc.trans {B : Addr → Prop} {H H1 H2 : Hp} (a : Exc B H H1) (b : Exc B H1 H2) : Exc B H H2 := fun x o n h => b x o n (a x o n h)
theorem Exc.of {B : Addr → Prop} {H H1 : Hp} (a : Ex H H1) : Exc B H H1 := fun x o _ h => a x o h
theorem Exc.ex {H H1 : Hp} (a : Exc (fun _ => False) H H1) : Ex H H1 := fun x o h => a x o (fun z => z) h
theorem Exc.then {B : Addr → Prop} {H H1 H2 : Hp} (a : Exc B H H1) (b : Ex H1 H2) : Exc B H H2 := a.trans (.of b)
theorem Exc.mono {B B' : Addr → Prop} {H H1 : Hp} (a : Exc B H H1) (h : ∀ b, B b → B' b) : Exc B' H H1 := fun x o n e => a x o (fun z => n (h x z)) e
theorem Exc.upd {B : Addr → Prop} {H H1 : Hp} {p : Addr} {o : HO} (a : Exc B H H1) (h : B p ∨ H p = none) : Exc B H (upd H1 p o) := fun x u n e => by
  have hx : x ≠ p := by
    rintro rfl
    rcases h with h | h
    · exact n h
    · rw [h] at e; cases e
  rw [upd_ne hx]
  exact a x u n e
theorem Exc.l {B : Addr → Prop} {K : PySem.W.Frag} {H H1 : Hp} {p : Addr} {xs : List V} (a : Exc B H H1) (n : ¬ B p) (h : SqL K H p xs) : SqL K H1 p xs := by
  rcases h with (h | ⟨o, h⟩) | h
  · exact .inl (.inl (a _ _ n h))
  · exact .inl (.inr ⟨o, a _ _ n h⟩)
  · exact .inr h
theorem Exc.tp {B : Addr → Prop} {K : PySem.W.Frag} {H H1 : Hp} {p : Addr} {xs : List V} (a : Exc B H H1) (n : ¬ B p) (h : SqT K H p xs) : SqT K H1 p xs := by
  rcases h with (h | ⟨o, h⟩) | h
  · exact .inl (.inl (a _ _ n h))
  · exact .inl (.inr ⟨o, a _ _ n h⟩)
  · exact .inr h
theorem Exc.fresh {B : Addr → Prop} {H H1 : Hp} {p : Addr} (a : Exc B H H1) (n : ¬ B p) (h : H1 p = none) : H p = none := by
  cases e : H p with
  | none => rfl
  | some o => rw [a _ _ n e] at h; cases h

/-! ### what is walked: the values, one by one -/
/-- wi gives n values; the i-th is such that P i of it and the heap holds; own: what must stand meanwhile -/
def Src (wi : TI) (σ : L2.St) (H : Hp) (n : Nat) (own : Addr → Prop) (P : Nat → V → Hp → Prop) : Prop :=
  ∀ H1, Ex H H1 → ∀ R : It → Hp → Prop, (∀ J H2 S, Ex H1 H2 → Walk J n S (fun i Ha v Hb => Ex Ha Hb ∧ P i v Hb) → (∀ (B : Addr → Prop) Ha, (∀ b, B b → H b ≠ none ∧ ¬ own b) → Exc B H2 Ha → S Ha) → R J H2) → wi σ H1 R
theorem src_list {a : Addr} {xs : List V} {tl : TE} (h : Ev tl σ H (.ref a)) (hs : SqL K H a xs) : Src (iList K tl) σ H xs.length (fun b => b = a) (fun i v _ => xs[i]? = some v) := fun H1 e R q =>
  h H1 e _ fun H2 e2 => ⟨a, rfl, ⟨xs, ex_l (e.trans e2) hs⟩, q _ H2 _ e2 (walk_list.mono (fun _ z => z) fun i Ha v Hb _ _ hy => by
    obtain ⟨rfl, hy⟩ := hy
    exact ⟨Ex.refl _, hy⟩) fun B Ha hB ea => ea.l (fun z => (hB a z).2 rfl) (ex_l (e.trans e2) hs)⟩
theorem src_listM {α : Type} {f : α → V} {a : Addr} {xs : List α} {tl : TE} (h : Ev tl σ H (.ref a)) (hs : SqL K H a (xs.map f)) : Src (iList K tl) σ H xs.length (fun b => b = a) (fun i v _ => (xs.map f)[i]? = some v) := by
  have h1 := src_list h hs
  rw [List.length_map] at h1
  exact h1
/-- over a new list -/
theorem src_newL {xs : List V} {tl : TE} (h : EvL tl σ H xs) : Src (iList K tl) σ H xs.length (fun _ => False) (fun i v _ => xs[i]? = some v) := fun H1 e R q =>
  h H1 e _ fun a H2 ha e2 h2 => ⟨a, rfl, ⟨xs, sq_of h2⟩, q _ H2 _ e2 (walk_list.mono (fun _ z => z) fun i Ha v Hb _ _ hy => by
    obtain ⟨rfl, hy⟩ := hy
    exact ⟨Ex.refl _, hy⟩) fun B Ha hB ea => ea.l (fun z => (hB a z).1 (fresh_back e ha)) (sq_of h2)⟩
theorem src_newLM {α : Type} {f : α → V} {xs : List α} {tl : TE} (h : EvL tl σ H (xs.map f)) : Src (iList K tl) σ H xs.length (fun _ => False) (fun i v _ => (xs.map f)[i]? = some v) := by
  have h1 := src_newL (K := K) h
  rw [List.length_map] at h1
  exact h1
theorem src_tup {a : Addr} {xs : List V} {tl : TE} (h : Ev tl σ H (.ref a)) (hs : SqT K H a xs) : Src (iTup K tl) σ H xs.length (fun b => b = a) (fun i v _ => xs[i]? = some v) := fun H1 e R q =>
  h H1 e _ fun H2 e2 => ⟨a, rfl, ⟨xs, ex_t (e.trans e2) hs⟩, q _ H2 _ e2 (walk_tup.mono (fun _ z => z) fun i Ha v Hb _ _ hy => by
    obtain ⟨rfl, hy⟩ := hy
    exact ⟨Ex.refl _, hy⟩) fun B Ha hB ea => ea.tp (fun z => (hB a z).2 rfl) (ex_t (e.trans e2) hs)⟩
theorem src_tupM {α : Type} {f : α → V} {a : Addr} {xs : List α} {tl : TE} (h : Ev tl σ H (.ref a)) (hs : SqT K H a (xs.map f)) : Src (iTup K tl) σ H xs.length (fun b => b = a) (fun i v _ => (xs.map f)[i]? = some v) := by
  have h1 := src_tup h hs
  rw [List.length_map] at h1
  exact h1
theorem src_str {a : Tx} {tl : TE} (h : Ev tl σ H (T a)) : Src (iStr tl) σ H a.length (fun _ => False) (fun i v _ => (a.map fun c => T [c])[i]? = some v) := fun H1 e R q =>
  h H1 e _ fun H2 e2 => ⟨_, rfl, q _ H2 (fun _ => True) e2 (by
    have w := (walk_str (z := SX.S a)).mono (fun _ z => z) (Y' := fun i Ha v Hb => Ex Ha Hb ∧ (a.map fun c => T [c])[i]? = some v) (fun i Ha v Hb _ _ hy => by
      obtain ⟨rfl, c, hc, rfl⟩ := hy
      refine ⟨Ex.refl _, ?_⟩
      have hc' : a[i]? = some c := by
        have : (a.toArray)[i]? = some c := hc
        simpa using this
      rw [List.getElem?_map, hc']
      rfl)
    have e3 : (SX.S a).cps.size = a.length := S_length a
    rw [e3] at w
    exact w) fun _ _ _ _ => True.intro⟩
theorem src_range1 {tq : TA} {n : Nat} (h : EvA tq σ H [.int (n : Int)]) (hn : n ≤ 1000000000) : Src (iRng1 tq) σ H n (fun _ => False) (fun i v _ => v = .int (i : Int)) := fun H1 e R q =>
  h H1 e _ fun H2 e2 => ⟨_, rfl, by omega, by omega, by
    have w := (walk_range (lo := 0) (n := n)).mono (fun _ z => z) (Y' := fun i Ha v Hb => Ex Ha Hb ∧ v = .int (i : Int)) (fun i Ha v Hb _ _ hy => by
      obtain ⟨rfl, rfl⟩ := hy
      exact ⟨Ex.refl _, by show V.int (0 + (i : Int)) = V.int (i : Int); rw [Int.zero_add]⟩)
    exact q _ H2 _ e2 w fun _ _ _ _ => True.intro⟩
theorem src_range2 {tq : TA} {lo hi : Int} {n : Nat} (h : EvA tq σ H [.int lo, .int hi]) (h0 : -1000000000 ≤ lo) (h1 : lo ≤ 1000000000) (h2 : -1000000000 ≤ hi) (h3 : hi ≤ 1000000000) (hn : n = (hi - lo).toNat) : Src (iRng2 tq) σ H n (fun _ => False) (fun i v _ => v = .int (lo + (i : Int))) := fun H1 e R q =>
  h H1 e _ fun H2 e2 => ⟨lo, hi, rfl, ⟨by omega, by omega, by omega, by omega⟩, by
    subst hn
    have w := (walk_range (lo := lo) (n := (hi - lo).toNat)).mono (fun _ z => z) (Y' := fun i Ha v Hb => Ex Ha Hb ∧ v = .int (lo + (i : Int))) (fun i Ha v Hb _ _ hy => by
      obtain ⟨rfl, rfl⟩ := hy
      exact ⟨Ex.refl _, rfl⟩)
    exact q _ H2 _ e2 w fun _ _ _ _ => True.intro⟩
theorem src_enum {a : Addr} {xs : List V} {tl : TE} (h : Ev tl σ H (.ref a)) (hs : SqL K H a xs) : Src (iEnum K (tCons tl tNil)) σ H xs.length (fun b => b = a) (fun i v Hb => ∃ p x, v = .ref p ∧ xs[i]? = some x ∧ Hb p = some (.tup [.int (i : Nat), x])) := fun H1 e R q =>
  h H1 e _ fun H2 e2 => ⟨a, xs, rfl, ex_l (e.trans e2) hs, q _ H2 _ e2 (walk_enum.mono (fun _ z => z) fun i Ha v Hb _ _ hy => by
    obtain ⟨p, y, x, rfl, hn, rfl, h1, h2⟩ := hy
    refine ⟨Ex.new hn, p, x, rfl, h2, ?_⟩
    rw [← Option.some.inj h1]
    exact upd_same) fun B Ha hB ea => ea.l (fun z => (hB a z).2 rfl) (ex_l (e.trans e2) hs)⟩
theorem src_zip {a b : Addr} {xs ys : List V} {n : Nat} {tl tr : TE} (h : Ev tl σ H (.ref a)) (h2 : Ev tr σ H (.ref b)) (hs : SqL K H a xs) (hs2 : SqL K H b ys) (hn : n = min xs.length ys.length) :
    Src (iZip K (tCons tl (tCons tr tNil))) σ H n (fun c => c = a ∨ c = b) (fun i v Hb => ∃ p x y, v = .ref p ∧ xs[i]? = some x ∧ ys[i]? = some y ∧ Hb p = some (.tup [x, y])) := fun H1 e R q =>
  h H1 e _ fun H2 e2 => h2 H2 (e.trans e2) _ fun H3 e3 => ⟨a, b, xs, ys, rfl, ex_l ((e.trans e2).trans e3) hs, ex_l ((e.trans e2).trans e3) hs2, q _ H3 _ (e2.trans e3) ((walk_zip hn).mono (fun _ z => z) fun i Ha v Hb _ _ hy => by
    obtain ⟨p, x, y, rfl, hf, rfl, h1, h2⟩ := hy
    exact ⟨Ex.new hf, p, x, y, rfl, h1, h2, upd_same⟩) fun B Ha hB ea => ⟨ea.l (fun z => (hB a z).2 (.inl rfl)) (ex_l ((e.trans e2).trans e3) hs), ea.l (fun z => (hB b z).2 (.inr rfl)) (ex_l ((e.trans e2).trans e3) hs2)⟩⟩
theorem src_as {wi : TI} {n : Nat} {own : Addr → Prop} {P P' : Nat → V → Hp → Prop} (h : Src wi σ H n own P) (hp : ∀ i v H', i < n → P i v H' → P' i v H') : Src wi σ H n own P' := fun H1 e R q => h H1 e R fun J H2 S e2 w hS => q J H2 S e2 ⟨w.goes, w.stops, fun i Ha v Hb hi hg hy => ⟨(w.yields i Ha v Hb hi hg hy).1, hp i v Hb hi (w.yields i Ha v Hb hi hg hy).2⟩⟩ hS
theorem src_range1L {tq : TA} {n : Nat} (h : EvA tq σ H [.int (n : Int)]) (hn : n ≤ 1000000000) : Src (iRng1 tq) σ H (List.range n).length (fun _ => False) (fun i v _ => ((List.range n).map fun (i : Nat) => V.int (i : Int))[i]? = some v) := by
  have h1 := src_as (P' := fun i v _ => ((List.range n).map fun (i : Nat) => V.int (i : Int))[i]? = some v) (src_range1 h hn) fun i v _ hi hp => by
    subst hp
    show ((List.range n).map fun (i : Nat) => V.int (i : Int))[i]? = _
    rw [List.getElem?_map, List.getElem?_range hi]
    rfl
  have e : (List.range n).length = n := List.length_range
  rw [e]
  exact h1
theorem src_range2L {tq : TA} {lo hi : Int} {n : Nat} (h : EvA tq σ H [.int lo, .int hi]) (h0 : -1000000000 ≤ lo) (h1 : lo ≤ 1000000000) (h2 : -1000000000 ≤ hi) (h3 : hi ≤ 1000000000) (hn : n = (hi - lo).toNat) : Src (iRng2 tq) σ H (List.range n).length (fun _ => False) (fun i v _ => ((List.range n).map fun (i : Nat) => V.int (lo + (i : Int)))[i]? = some v) := by
  have h1 := src_as (P' := fun i v _ => ((List.range n).map fun (i : Nat) => V.int (lo + (i : Int)))[i]? = some v) (src_range2 h h0 h1 h2 h3 hn) fun i v _ hi hp => by
    subst hp
    show ((List.range n).map fun (i : Nat) => V.int (lo + (i : Int)))[i]? = _
    rw [List.getElem?_map, List.getElem?_range hi]
    rfl
  have e : (List.range n).length = n := List.length_range
  rw [e]
  exact h1

/-! ### comprehensions over such -/
/-- the target a name -/
theorem el_lcW {wi : TI} {j : Nat} {vs : List Nat} {n : Nat} {own : Addr → Prop} {P : Nat → V → Hp → Prop} (f : Nat → Bool) (v : Nat → V) (hs : Src wi σ H n own P) (hn : n ≤ 40000) (hw : ∀ x, wipe ((wipe σ vs).set j (some x)) vs = wipe σ vs)
    (ht : ∀ (i : Nat) (x : V) H1, Ex H H1 → i < n → P i x H1 → EvT t ((wipe σ vs).set j (some x)) H1 (f i)) (he : ∀ (i : Nat) (x : V) H1, Ex H H1 → i < n → P i x H1 → f i = true → Ev te ((wipe σ vs).set j (some x)) H1 (v i)) :
    EvL (tLc wi (gName j) t te vs) σ H (given n f v) := fun H0 e Q q => hs H0 e _ fun J H1 S e1 w hS => fun Dl hD =>
  lc_it w (Qd := fun H3 => Q (.ref Dl) H3) (Cw H1 f v Dl) ⟨hD, Ex.new hD, upd_same⟩ (fun i Hi _ p => hS (fun _ => False) Hi (fun _ z => z.elim) (.of p.2.1)) (fun i x Hi Hj hi p hy => by
    obtain ⟨ey, hP⟩ := hy
    have p' : Cw H1 f v Dl i Hj := ⟨p.1, p.2.1.trans ey, ey _ _ p.2.2⟩
    have eAll : Ex H Hj := (e.trans e1).trans p'.2.1
    refine ⟨hw x, ?_⟩
    have p2 : Cw H1 f v Dl i Hj := p'
    obtain ⟨p1, p3, p4⟩ := p2
    refine ht i x Hj eAll hi hP Hj (Ex.refl _) _ fun H3 e3 => ?_
    cases hf : f i with
    | true =>
      show te _ H3 fun y H4 => ∃ acc, H4 Dl = some (.lst acc) ∧ acc.length < sizeLine ∧ Cw H1 f v Dl (i + 1) (upd H4 Dl (.lst (acc ++ [y])))
      refine he i x Hj eAll hi hP hf H3 e3 _ fun H4 e4 => ⟨given i f v, e4 Dl _ (e3 Dl _ p4), sz_lt (by have := given_len i f v; omega), p1, Ex.mut ((p3.trans e3).trans e4) p1, ?_⟩
      rw [given_yes hf]
      exact upd_same
    | false =>
      show Cw H1 f v Dl (i + 1) H3
      refine ⟨p1, p3.trans e3, ?_⟩
      rw [given_no hf]
      exact e3 Dl _ p4) (fun H3 p => q Dl H3 (fresh_back e1 p.1) (e1.trans p.2.1) p.2.2)
theorem given_map {α : Type} (xs : List α) (p : α → Bool) (g : α → V) (f : Nat → Bool) (v : Nat → V) (hf : ∀ i a, xs[i]? = some a → f i = p a) (hv : ∀ i a, xs[i]? = some a → v i = g a) : given xs.length f v = (xs.filter p).map g := by
  have key : ∀ n, n ≤ xs.length → given n f v = ((xs.take n).filter p).map g := fun n => by
    induction n with
    | zero => intro _; rfl
    | succ n ih =>
      intro hn
      have ha : xs[n]? = some xs[n] := List.getElem?_eq_getElem (by omega)
      rw [List.take_add_one, ha, List.filter_append, List.map_append, ← ih (by omega)]
      cases hp : p xs[n] with
      | true =>
        rw [given_yes ((hf n _ ha).trans hp), hv n _ ha]
        simp [hp]
      | false =>
        rw [given_no ((hf n _ ha).trans hp)]
        simp [hp]
  have := key xs.length (Nat.le_refl _)
  rw [List.take_length] at this
  exact this
/-- over values that stand for xs, one by one; the target a name -/
theorem el_lcX {α : Type} {wi : TI} {j : Nat} {vs : List Nat} {n : Nat} {own : Addr → Prop} {P : Nat → V → Hp → Prop} {g : α → V} {p : α → Bool} (xs : List α) (R : α → V → Hp → Prop) (hs : Src wi σ H n own P) (hn : n ≤ 40000) (hw : ∀ x, wipe ((wipe σ vs).set j (some x)) vs = wipe σ vs)
    (hx : xs.length = n) (hP : ∀ i x H1, P i x H1 → ∃ a, xs[i]? = some a ∧ R a x H1)
    (ht : ∀ (a : α) (x : V) H1, Ex H H1 → a ∈ xs → R a x H1 → EvT t ((wipe σ vs).set j (some x)) H1 (p a)) (he : ∀ (a : α) (x : V) H1, Ex H H1 → a ∈ xs → R a x H1 → p a = true → Ev te ((wipe σ vs).set j (some x)) H1 (g a)) :
    EvL (tLc wi (gName j) t te vs) σ H ((xs.filter p).map g) := by
  subst hx
  have h0 := el_lcW (te := te) (t := t) (fun i => match xs[i]? with | some a => p a | none => false) (fun i => match xs[i]? with | some a => g a | none => .non) hs hn hw
    (fun i x H1 e hi hp => by
      obtain ⟨a, ha, hr⟩ := hP i x H1 hp
      simp only [ha]
      exact ht a x H1 e (List.mem_of_getElem? ha) hr)
    (fun i x H1 e hi hp hf => by
      obtain ⟨a, ha, hr⟩ := hP i x H1 hp
      simp only [ha] at hf ⊢
      exact he a x H1 e (List.mem_of_getElem? ha) hr hf)
  rw [given_map xs p g _ _ (fun i a ha => by simp only [ha]) (fun i a ha => by simp only [ha])] at h0
  exact h0
theorem et_yes : EvT tYes σ H true := fun H1 _ _ q => q H1 (Ex.refl H1)
theorem at_map {α : Type} {xs : List α} {f : α → V} {i : Nat} {x : V} (h : (xs.map f)[i]? = some x) : ∃ a, xs[i]? = some a ∧ x = f a := by
  rw [List.getElem?_map] at h
  cases e : xs[i]? with
  | none => rw [e] at h; cases h
  | some a => rw [e] at h; exact ⟨a, rfl, (Option.some.inj h).symm⟩
/-- over a list of values f a; no test -/
theorem el_lcM {α : Type} {wi : TI} {j : Nat} {vs : List Nat} {own : Addr → Prop} {f g : α → V} (xs : List α) (hs : Src wi σ H xs.length own (fun i v _ => (xs.map f)[i]? = some v)) (hn : xs.length ≤ 40000) (hw : ∀ x, wipe ((wipe σ vs).set j (some x)) vs = wipe σ vs)
    (he : ∀ (a : α) H1, Ex H H1 → a ∈ xs → Ev te ((wipe σ vs).set j (some (f a))) H1 (g a)) : EvL (tLc wi (gName j) tYes te vs) σ H (xs.map g) := by
  have h := el_lcX (te := te) (t := tYes) (p := fun _ => true) (g := g) xs (fun a x _ => x = f a) hs hn hw rfl (fun i x _ hp => at_map hp) (fun _ _ _ _ _ _ => et_yes) (fun a x H1 e hm hr _ => by rw [hr]; exact he a H1 e hm)
  rw [List.filter_eq_self.mpr (fun _ _ => rfl)] at h
  exact h
/-- .. with a test -/
theorem el_lcF {α : Type} {wi : TI} {j : Nat} {vs : List Nat} {own : Addr → Prop} {f g : α → V} {p : α → Bool} (xs : List α) (hs : Src wi σ H xs.length own (fun i v _ => (xs.map f)[i]? = some v)) (hn : xs.length ≤ 40000) (hw : ∀ x, wipe ((wipe σ vs).set j (some x)) vs = wipe σ vs)
    (ht : ∀ (a : α) H1, Ex H H1 → a ∈ xs → EvT t ((wipe σ vs).set j (some (f a))) H1 (p a)) (he : ∀ (a : α) H1, Ex H H1 → a ∈ xs → p a = true → Ev te ((wipe σ vs).set j (some (f a))) H1 (g a)) : EvL (tLc wi (gName j) t te vs) σ H ((xs.filter p).map g) :=
  el_lcX (te := te) (t := t) xs (fun a x _ => x = f a) hs hn hw rfl (fun i x _ hp => at_map hp) (fun a x H1 e hm hr => by rw [hr]; exact ht a H1 e hm) (fun a x H1 e hm hr hf => by rw [hr]; exact he a H1 e hm hf)

/-! ### for loops over such; B: what the turns may change; the word speaks of the heap Hs at the loop's start -/
variable {D : Ends} {tu tz : TS}
theorem s_forW {wi : TI} {g : TG} {n : Nat} {own : Addr → Prop} {P : Nat → V → Hp → Prop} (B : Addr → Prop) (hs : Src wi σ H n own P) (hB : ∀ b, B b → H b ≠ none ∧ ¬ own b) (Pv : Hp → Nat → L2.St → Hp → Prop)
    (h0 : ∀ Hs, Ex H Hs → Pv Hs 0 σ Hs) (hE : ∀ Hs i σ' H', Pv Hs i σ' H' → Exc B Hs H') (hst : ∀ Hs i σ' Ha Hb, Pv Hs i σ' Ha → Ex Ha Hb → Pv Hs i σ' Hb)
    (hb : ∀ Hs i x σ' H', Ex H Hs → i < n → Pv Hs i σ' H' → P i x H' → g x σ' H' fun σ2 H2 => tu { D with nx := Pv Hs (i + 1), ct := Pv Hs (i + 1), bk := D.nx } σ2 H2) (hd : ∀ Hs σ' H', Ex H Hs → Pv Hs n σ' H' → D.nx σ' H') : tFor wi g tu D σ H :=
  hs H (Ex.refl H) _ fun J Hs S e w hS => for_it w (Pv Hs) (h0 Hs e) (fun i σ' H' _ p => hS B H' hB (hE Hs i σ' H' p)) (fun i x σ' Ha Hb hi p hy => hb Hs i x σ' Hb e hi (hst Hs i σ' Ha Hb p hy.1) hy.2) (fun σ' H' p => hd Hs σ' H' e p)
theorem q_forW {wi : TI} {g : TG} {n : Nat} {own : Addr → Prop} {P : Nat → V → Hp → Prop} (B : Addr → Prop) (hs : Src wi σ H n own P) (hB : ∀ b, B b → H b ≠ none ∧ ¬ own b) (Pv : Hp → Nat → L2.St → Hp → Prop)
    (h0 : ∀ Hs, Ex H Hs → Pv Hs 0 σ Hs) (hE : ∀ Hs i σ' H', Pv Hs i σ' H' → Exc B Hs H') (hst : ∀ Hs i σ' Ha Hb, Pv Hs i σ' Ha → Ex Ha Hb → Pv Hs i σ' Hb)
    (hb : ∀ Hs i x σ' H', Ex H Hs → i < n → Pv Hs i σ' H' → P i x H' → g x σ' H' fun σ2 H2 => tu { D with nx := Pv Hs (i + 1), ct := Pv Hs (i + 1), bk := tz D } σ2 H2) (hd : ∀ Hs σ' H', Ex H Hs → Pv Hs n σ' H' → tz D σ' H') : tSeq (tFor wi g tu) tz D σ H :=
  s_forW (D := { D with nx := tz D }) B hs hB Pv h0 hE hst hb hd
end
end Wc
set_option Elab.async false
set_option linter.all false
set_option maxRecDepth 100000
set_option maxHeartbeats 2000000
/-! loops that search, calls of promises -/
namespace Wc
open PySem PySem.Spec PyProof.Rows L2 Evl
section
variable {K : PySem.W.Frag} {σ : L2.St} {H H' : Hp} {ta tb te : TE} {t : TT} {x y z v : V} {D : Ends} {tu tr tz : TS}
theorem set_self {σ : L2.St} {j : Nat} (hj : j < σ.length) : ∃ y, σ = σ.set j y := ⟨σ[j], by simp⟩
/-- for x in ..: if t: return .. -/
theorem q_search {wi : TI} {j : Nat} {n : Nat} {own : Addr → Prop} {P : Nat → V → Hp → Prop} (hs : Src wi σ H n own P) (hj : j < σ.length) (f : Nat → Bool)
    (ht : ∀ i x H1, Ex H H1 → i < n → P i x H1 → (∀ k, k < i → f k = false) → EvT t (σ.set j (some x)) H1 (f i))
    (hr : ∀ i x H1 H2, Ex H H1 → i < n → P i x H1 → Ex H1 H2 → (∀ k, k < i → f k = false) → f i = true → ∀ D' : Ends, D'.rt = D.rt → tr D' (σ.set j (some x)) H2)
    (hd : ∀ y H1, Ex H H1 → (∀ i, i < n → f i = false) → tz D (σ.set j y) H1) : tSeq (tFor wi (gName j) (tIfS t tr tNext)) tz D σ H := by
  refine q_forW (fun _ => False) hs (fun _ z => z.elim) (fun Hs i σ' H' => (∃ y, σ' = σ.set j y) ∧ Ex Hs H' ∧ ∀ k, k < i → f k = false) ?_ ?_ ?_ ?_ ?_
  · intro Hs e
    exact ⟨set_self hj, Ex.refl _, fun k hk => absurd hk (Nat.not_lt_zero _)⟩
  · intro Hs i σ' H' p
    exact .of p.2.1
  · intro Hs i σ' Ha Hb p e
    exact ⟨p.1, p.2.1.trans e, p.2.2⟩
  · rintro Hs i x σ' H' e hi ⟨⟨y, rfl⟩, e2, hk⟩ hP
    have eA : Ex H H' := e.trans e2
    show tIfS t tr tNext _ ((σ.set j y).set j (some x)) H'
    rw [List.set_set]
    refine s_when (ht i x H' eA hi hP hk) (fun hb H1 e1 => ?_) (fun hb H1 e1 => ?_)
    · exact hr i x H' H1 eA hi hP e1 hk hb _ rfl
    · exact ⟨⟨_, rfl⟩, e2.trans e1, fun k hk' => by
        rcases Nat.lt_succ_iff_lt_or_eq.mp hk' with h | h
        · exact hk k h
        · rw [h]; exact hb⟩
  · rintro Hs σ' H' e ⟨⟨y, rfl⟩, e2, hk⟩
    exact hd y H' (e.trans e2) hk
theorem rc_allM {α : Type} {p : Addr} {xs : List α} {f : α → Bool} (h : SqL K H p (xs.map fun a => V.bl (f a))) : RC (rAll K) [.ref p] H (.bl (xs.all f)) := by
  have h2 : SqL K H p ((xs.map f).map V.bl) := by
    rw [List.map_map]
    exact h
  have e := rc_all h2
  rw [List.all_map] at e
  exact e
theorem rc_anyM {α : Type} {p : Addr} {xs : List α} {f : α → Bool} (h : SqL K H p (xs.map fun a => V.bl (f a))) : RC (rAny K) [.ref p] H (.bl (xs.any f)) := by
  have h2 : SqL K H p ((xs.map f).map V.bl) := by
    rw [List.map_map]
    exact h
  have e := rc_any h2
  rw [List.any_map] at e
  exact e
theorem rc_sumM {α : Type} {p : Addr} {xs : List α} {f : α → Int} (h : SqL K H p (xs.map fun a => V.int (f a))) : RC (rSum K) [.ref p] H (.int (xs.map f).sum) := by
  have h2 : SqL K H p ((xs.map f).map V.int) := by
    rw [List.map_map]
    exact h
  exact rc_sum h2
theorem divW {i j : Int} (h : 0 < j) (h1 : j ≤ 1000000000) : CDivW i j := wide_div (b := 31) h (by omega) (by decide) (by decide)
theorem et_andI {u : TT} {a b : Bool} (h1 : EvT t σ H a) (h2 : a = true → EvT u σ H b) : EvT (tAnd t u) σ H (a && b) := et_and h1 h2
/-- and: what stands behind is asked only where the first holds -/
theorem et_andG {u : TT} {a : Bool} {b : Bool} (h1 : EvT t σ H a) (h2 : a = true → EvT u σ H b) (h3 : a = false → b = false) : EvT (tAnd t u) σ H b := by
  have h := et_and h1 h2
  cases a with
  | true => exact h
  | false =>
    rw [h3 rfl] at h ⊢
    exact h
/-- a slice of a new list -/
theorem el_slN {xs : List V} {tl th : TO} {lo hi : Option Int} (h : EvL te σ H xs) (h1 : EvO tl σ H lo) (h2 : EvO th σ H hi) : EvL (tSl (rSlL K) te tl th) σ H (cutV xs lo hi) := fun H1 e _ q =>
  h H1 e _ fun a H2 ha e2 hx => h1 H2 (e.trans e2) _ fun H3 e3 => h2 H3 ((e.trans e2).trans e3) _ fun H4 e4 =>
    ⟨a, xs, rfl, ex_l (e3.trans e4) (sq_of hx), fun p hp => q p _ (fresh_back ((e2.trans e3).trans e4) hp) (((e2.trans e3).trans e4).trans (Ex.new hp)) upd_same⟩
theorem cutV_to (xs : List V) (n : Nat) : cutV xs none (some (n : Int)) = xs.take n := by
  unfold cutV
  rw [HT.sIx_none, HT.sIx_nat, List.drop_zero, Nat.sub_zero]
  by_cases h : n ≤ xs.length
  · rw [Nat.min_eq_left h]
  · rw [Nat.min_eq_right (by omega), List.take_of_length_le (Nat.le_refl _), List.take_of_length_le (by omega)]
theorem cutV_from (xs : List V) (n : Nat) : cutV xs (some (n : Int)) none = xs.drop n := by
  unfold cutV
  rw [HT.sIx_none, HT.sIx_nat]
  by_cases h : n ≤ xs.length
  · rw [Nat.min_eq_left h]
    exact List.take_of_length_le (by rw [List.length_drop]; exact Nat.le_refl _)
  · rw [Nat.min_eq_right (by omega), List.drop_eq_nil_of_le (Nat.le_refl _), List.drop_eq_nil_of_le (by omega), List.take_nil]
/-- xs.extend(ys), ys a new list -/
theorem s_ext {l : Addr} {xs ys : List V} (hl : H l = some (.lst xs)) (ha : Ev ta σ H (.ref l)) (h : EvL te σ H ys) (hz : xs.length + ys.length ≤ 1000000) (k : ∀ H1, Ex H H1 → D.nx σ (upd H1 l (.lst (xs ++ ys)))) :
    tDrop (tBM K "list" rExtend ta (tCons te tNil)) D σ H := ha H (Ex.refl H) _ fun H1 e1 =>
  ⟨Or.inl ⟨rfl, xs, sq_of (e1 l _ hl)⟩, h H1 e1 _ fun p H2 hp e2 h2 => ⟨l, p, xs, ys, rfl, rfl, e2 l _ (e1 l _ hl), h2, Nat.le_trans hz (by decide), k H2 (e1.trans e2)⟩⟩
/-- return f(..), x = f(..), whatever f hands back -/
theorem s_retC {sp : Sp} {dvs vs : List V} {E : XK} {tq : TA} (h : EvA tq σ H vs) (k : ∀ H1, Ex H H1 → sp (vs ++ dvs) H1 D.rt E) : tRet (tCall sp dvs E tq) D σ H := h H (Ex.refl H) _ fun H1 e1 => k H1 e1
theorem q_asgC {i : Nat} {sp : Sp} {dvs vs : List V} {E : XK} {tq : TA} (h : EvA tq σ H vs) (k : ∀ H1, Ex H H1 → sp (vs ++ dvs) H1 (fun v H2 => tz D (σ.set i (some v)) H2) E) : tSeq (tAsg (tCall sp dvs E tq) (gName i)) tz D σ H := h H (Ex.refl H) _ fun H1 e1 => k H1 e1
/-- a promise that hands back a value | a new list | a new tuple, all else kept -/
def RetU (xs : List V) (H : Hp) (Q : VK) : Prop := ∀ p H2, H p = none → Ex H H2 → H2 p = some (.tup xs) → Q (.ref p) H2
theorem RetV.mono {v : V} {H H1 : Hp} {Q : VK} (k : RetV v H Q) (e : Ex H H1) : RetV v H1 Q := fun H2 e2 => k H2 (e.trans e2)
theorem RetL.mono {xs : List V} {H H1 : Hp} {Q : VK} (k : RetL xs H Q) (e : Ex H H1) : RetL xs H1 Q := fun p H2 hp e2 h2 => k p H2 (fresh_back e hp) (e.trans e2) h2
theorem RetU.mono {xs : List V} {H H1 : Hp} {Q : VK} (k : RetU xs H Q) (e : Ex H H1) : RetU xs H1 Q := fun p H2 hp e2 h2 => k p H2 (fresh_back e hp) (e.trans e2) h2
theorem RetV.is {v w : V} {H : Hp} {Q : VK} (k : RetV v H Q) (e : v = w) : RetV w H Q := e ▸ k
end
end Wc
set_option Elab.async false
set_option linter.all false
set_option maxRecDepth 100000
set_option maxHeartbeats 2000000
/-! the feed of draws: a list of three ints at fa; how often it has been stirred -/
namespace Wc
open PySem PySem.Spec PyProof.Rows L2 Evl
def capF : Nat := 1000000000000000000
/-- a feed that has been stirred n times at most -/
def Fd (fa : Addr) (n : Nat) (H : Hp) : Prop := ∃ (a b c : Int) (e : Nat), H fa = some (.lst [.int a, .int b, .int c]) ∧ 0 ≤ a ∧ 1 ≤ e ∧ e ≤ 2000000 ∧ a.natAbs < 2 ^ e ∧ 0 ≤ b ∧ b < 10 ^ 40 ∧ 0 ≤ c ∧ c ≤ (n : Int)
theorem Fd.mono {fa : Addr} {n m : Nat} {H : Hp} (h : Fd fa n H) (hm : n ≤ m) : Fd fa m H := by
  obtain ⟨a, b, c, e, h1, h2, h3, h4, h5, h6, h7, h8, h9⟩ := h
  exact ⟨a, b, c, e, h1, h2, h3, h4, h5, h6, h7, h8, by omega⟩
/-- so many draws may be made -/
def GF (fa : Addr) (B : Nat) (H : Hp) : Prop := ∃ n, n + B ≤ capF ∧ Fd fa n H
/-- at most m draws behind: all else stands -/
structure Rf (fa : Addr) (m : Nat) (H H' : Hp) : Prop where
  keep : Exc (fun c => c = fa) H H'
  feed : ∀ n, n + m ≤ capF → Fd fa n H → Fd fa (n + m) H'
section
variable {K : PySem.W.Frag} {fa p : Addr} {m m' B : Nat} {H H1 H2 : Hp} {o : HO} {xs : List V}
theorem Fd.is (h : Fd fa m H) : H fa ≠ none := by
  obtain ⟨a, b, c, e, h1, _⟩ := h
  rw [h1]
  exact fun z => nomatch z
theorem GF.is (h : GF fa B H) : H fa ≠ none := by
  obtain ⟨n, _, h⟩ := h
  exact h.is
theorem GF.new (h : GF fa B H) (hp : H p = none) : p ≠ fa := fun z => h.is (z ▸ hp)
theorem GF.ofTup (h : GF fa B H) (hp : H p = Option.some (HO.tup xs)) : p ≠ fa := by
  rintro rfl
  obtain ⟨n, _, a, b, c, e, h1, _⟩ := h
  rw [hp] at h1
  cases h1
theorem Rf.refl (H : Hp) : Rf fa 0 H H := ⟨Exc.refl _, fun _ _ h => h⟩
theorem Rf.of_ex (e : Ex H H1) : Rf fa 0 H H1 := ⟨.of e, fun n _ h => by
  obtain ⟨a, b, c, e', h1, h2⟩ := h
  exact ⟨a, b, c, e', e _ _ h1, h2⟩⟩
theorem Rf.trans (a : Rf fa m H H1) (b : Rf fa m' H1 H2) : Rf fa (m + m') H H2 := ⟨a.keep.trans b.keep, fun n hn h => by
  have h1 := b.feed (n + m) (by omega) (a.feed n (by omega) h)
  rw [← Nat.add_assoc]
  exact h1⟩
theorem Rf.mono (a : Rf fa m H H1) (h : m ≤ m') : Rf fa m' H H1 := ⟨a.keep, fun n hn hf => (a.feed n (by omega) hf).mono (by omega)⟩
theorem Rf.then (a : Rf fa m H H1) (e : Ex H1 H2) : Rf fa m H H2 := (a.trans (.of_ex e)).mono (Nat.le_refl _)
theorem Rf.pre (e : Ex H H1) (a : Rf fa m H1 H2) : Rf fa m H H2 := ((Rf.of_ex e).trans a).mono (by omega)
theorem Rf.upd (a : Rf fa m H H1) (h : H p = none) (hf : H fa ≠ none) : Rf fa m H (upd H1 p o) := by
  have hne : fa ≠ p := fun z => hf (z ▸ h)
  refine ⟨a.keep.upd (.inr h), fun n hn hF => ?_⟩
  obtain ⟨x, b, c, e', h1, h2⟩ := a.feed n hn hF
  exact ⟨x, b, c, e', by rw [upd_ne hne]; exact h1, h2⟩
theorem GF.go (g : GF fa B H) (a : Rf fa m H H1) (h : m + m' ≤ B) : GF fa m' H1 := by
  obtain ⟨n, hn, hf⟩ := g
  exact ⟨n + m, by omega, a.feed n (by omega) hf⟩
theorem GF.mono (g : GF fa B H) (h : m ≤ B) : GF fa m H := by
  obtain ⟨n, hn, hf⟩ := g
  exact ⟨n, by omega, hf⟩
theorem GF.ex (g : GF fa B H) (e : Ex H H1) : GF fa B H1 := g.go (Rf.of_ex e) (by omega)
theorem Rf.at_ (a : Rf fa m H H1) (h : H p = some o) (hp : p ≠ fa) : H1 p = some o := a.keep _ _ hp h
theorem Rf.l (a : Rf fa m H H1) (hp : p ≠ fa) (h : SqL K H p xs) : SqL K H1 p xs := a.keep.l hp h
theorem Rf.t (a : Rf fa m H H1) (hp : p ≠ fa) (h : SqT K H p xs) : SqT K H1 p xs := a.keep.tp hp h
theorem Rf.free (a : Rf fa m H H1) (g : H fa ≠ none) (h : H1 p = none) (g1 : H1 fa ≠ none) : H p = none := by
  refine a.keep.fresh ?_ h
  rintro rfl
  exact g1 h
end
/-! ### draw -/
def sp_draw : Sp := fun vs H Q _ => ∃ (fa : Addr) (many : Int), vs = [.ref fa, .int many] ∧ GF fa 1 H ∧ 0 < many ∧ many ≤ 10 ^ 61 ∧ ∀ (d : Nat) H', (d : Int) < many → Rf fa 1 H H' → Q (.int (d : Int)) H'
/-- one of a text's signs, of a list's or a tuple's items -/
def sp_one (K : PySem.W.Frag) : Sp := fun vs H Q _ => ∃ (fa : Addr), GF fa 1 H ∧
  ((∃ (s : Tx), vs = [.ref fa, T s] ∧ s ≠ [] ∧ s.length ≤ 16777216 ∧ ∀ c H', c ∈ s → Rf fa 1 H H' → Q (T [c]) H') ∨
   (∃ (p : Addr) (xs : List V), vs = [.ref fa, .ref p] ∧ (SqL K H p xs ∨ SqT K H p xs) ∧ p ≠ fa ∧ xs ≠ [] ∧ xs.length ≤ 16777216 ∧ ∀ v H', v ∈ xs → Rf fa 1 H H' → Q v H'))
/-- a text of at most so many signs of some -/
def sp_text : Sp := fun vs H Q _ => ∃ (fa : Addr) (s : Tx) (most : Nat), vs = [.ref fa, T s, .int (most : Int)] ∧ GF fa (most + 1) H ∧ most ≤ 30000 ∧ s ≠ [] ∧ s.length ≤ 16777216 ∧ ∀ (t : Tx) H', t.length ≤ most → (∀ c ∈ t, c ∈ s) → Rf fa (most + 1) H H' → Q (T t) H'
/-! ### things and draws in a comprehension; the element a value that is good -/
section
variable {K : PySem.W.Frag} {fa : Addr} {σ : L2.St} {H : Hp} {te : TE}
theorem lcD {wi : TI} {j : Nat} {vs : List Nat} {n : Nat} {own : Addr → Prop} {P : Nat → V → Hp → Prop} {Q : VK} (good : V → Prop) (c : Nat) (hf : H fa ≠ none) (hs : Src wi σ H n own P) (ho : ¬ own fa) (hn : n ≤ 40000) (hw : ∀ x, wipe ((wipe σ vs).set j (some x)) vs = wipe σ vs)
    (he : ∀ (i : Nat) (x : V) H1, i < n → P i x H1 → Rf fa (i * c) H H1 → ∀ Q' : VK, (∀ y H2, good y → Rf fa c H1 H2 → Q' y H2) → te ((wipe σ vs).set j (some x)) H1 Q')
    (k : ∀ p H2 acc, H p = none → Rf fa (n * c) H H2 → H2 p = some (.lst acc) → acc.length = n → (∀ v ∈ acc, good v) → Q (.ref p) H2) : tLc wi (gName j) tYes te vs σ H Q :=
  hs H (Ex.refl H) _ fun J H1 S e1 w hS => fun Dl hD => by
    have hDH : H Dl = none := fresh_back e1 hD
    have hne : Dl ≠ fa := fun z => hf (z ▸ hDH)
    have hf1 : H1 fa ≠ none := by
      cases hq : H fa with
      | none => exact absurd hq hf
      | some o => rw [e1 _ _ hq]; exact fun z => nomatch z
    refine lc_it w (Qd := fun H3 => Q (.ref Dl) H3) (fun i Hi => Rf fa (i * c) H1 Hi ∧ ∃ acc, Hi Dl = some (.lst acc) ∧ acc.length = i ∧ ∀ v ∈ acc, good v) ?_ (fun i Hi hi p => hS (fun b => b = fa) Hi (by rintro b rfl; exact ⟨hf, ho⟩) p.1.keep) ?_ ?_
    · refine ⟨?_, [], upd_same, rfl, fun v hv => nomatch hv⟩
      exact ((Rf.refl H1).upd hD hf1).mono (Nat.zero_le _)
    · rintro i x Ha Hb hi ⟨R, acc, h1, h2, h3⟩ ⟨ey, hP⟩
      refine ⟨hw x, ?_⟩
      show te ((wipe σ vs).set j (some x)) Hb fun y H4 => _
      have Rb : Rf fa (i * c) H1 Hb := R.then ey
      refine he i x Hb hi hP (Rf.pre e1 Rb) _ fun y H4 hy R4 => ?_
      have h4 : H4 Dl = some (.lst acc) := R4.at_ (ey _ _ h1) hne
      refine ⟨acc, h4, sz_lt (by omega), ?_, acc ++ [y], upd_same, by rw [List.length_append, h2]; rfl, fun v hv => ?_⟩
      · have := (Rb.trans R4).upd (p := Dl) (o := .lst (acc ++ [y])) hD hf1
        exact this.mono (by rw [Nat.succ_mul]; exact Nat.le_refl _)
      · rcases List.mem_append.mp hv with hv | hv
        · exact h3 v hv
        · rw [List.mem_singleton.mp hv]
          exact hy
    · rintro H3 ⟨R, acc, h1, h2, h3⟩
      exact k Dl H3 acc hDH (Rf.pre e1 R) h1 h2 h3
end
theorem ix_any {X : Cx} : IxR X (fun x y H Q => (L2.rIxL X.K x y H Q ∨ L2.rIxT X.K x y H Q) ∨ Wc.rIxT x y H Q) := (ix_list.or ix_tup).or ix_T
theorem cr_lenAny {X : Cx} : CallR X (.builtin "len") (fun xs H Q => rLenT xs H Q ∨ (∃ p ys, xs = [.ref p] ∧ (SqL X.K H p ys ∨ SqT X.K H p ys) ∧ Q (.int ys.length) H)) := CallR.or cr_lenT call_len_seq
theorem atI_mem {α : Type} {xs : List α} {d : Nat} (h : d < xs.length) : ∃ v, atI xs (d : Int) = some v ∧ v ∈ xs := ⟨xs[d], atI_nat (List.getElem?_eq_getElem h), List.getElem_mem h⟩
/-- a list of texts -/
theorem texts_of {acc : List V} {g : Tx → Prop} (h : ∀ v ∈ acc, ∃ t, v = T t ∧ g t) : ∃ ts : List Tx, acc = ts.map T ∧ ∀ t ∈ ts, g t := by
  induction acc with
  | nil => exact ⟨[], rfl, fun _ h => nomatch h⟩
  | cons v acc ih =>
    obtain ⟨t, rfl, ht⟩ := h v List.mem_cons_self
    obtain ⟨ts, rfl, hts⟩ := ih fun v hv => h v (List.mem_cons_of_mem _ hv)
    exact ⟨t :: ts, rfl, fun x hx => by
      rcases List.mem_cons.mp hx with rfl | hx
      · exact ht
      · exact hts x hx⟩
end Wc
set_option Elab.async false
set_option linter.all false
set_option maxRecDepth 100000
set_option maxHeartbeats 2000000
/-! data at any depth: texts, ints, lists, tuples -/
namespace Wc
open PySem PySem.Spec PyProof.Rows L2 Evl
/-- a text of low signs -/
def LowT (a : Tx) : Prop := ∀ c ∈ a, c < 1000
abbrev dT (a : Tx) : PyData := .str (SX.S a)
theorem lay_T {a : Tx} (h : LowT a) : (dT a).canLay0 = true := by
  show (SX.S a).cps.all (· < 0x110000) = true
  rw [← Array.all_toList, List.all_eq_true]
  intro c hc
  have := h c hc
  exact decide_eq_true (by omega)
theorem lay_all {α : Type} {g : α → PyData} : ∀ {xs : List α}, (∀ x ∈ xs, (g x).canLay0 = true) → PyData.canLayAll0 (xs.map g) = true
  | [], _ => rfl
  | x :: xs, h => by
    show ((g x).canLay0 && PyData.canLayAll0 (xs.map g)) = true
    rw [h x List.mem_cons_self, lay_all fun y hy => h y (List.mem_cons_of_mem _ hy)]
    rfl
theorem lay_list {α : Type} {g : α → PyData} {xs : List α} (h : ∀ x ∈ xs, (g x).canLay0 = true) : (PyData.list (xs.map g)).canLay0 = true := by
  show PyData.canLayAll0 _ = true
  exact lay_all h
theorem depth_all {α : Type} {g : α → PyData} {m : Nat} : ∀ {xs : List α}, (∀ x ∈ xs, (g x).depth ≤ m) → PyData.depthAll (xs.map g) ≤ m
  | [], _ => Nat.zero_le _
  | x :: xs, h => Nat.max_le.mpr ⟨h x List.mem_cons_self, depth_all fun y hy => h y (List.mem_cons_of_mem _ hy)⟩
theorem shaped_of {d : PyData} (h : d.canLay0 = true) (hd : d.depth ≤ 64) : SeqAt.shaped d = true := by
  unfold SeqAt.shaped
  rw [h, decide_eq_true hd]
  rfl
theorem shaped_list {α : Type} {g : α → PyData} {xs : List α} {m : Nat} (h : ∀ x ∈ xs, (g x).canLay0 = true) (hd : ∀ x ∈ xs, (g x).depth ≤ m) (hm : m + 1 ≤ 64) : SeqAt.shaped (.list (xs.map g)) = true :=
  shaped_of (lay_list h) (by
    show PyData.depthAll _ + 1 ≤ 64
    have := depth_all hd
    omega)
theorem dp_all {α : Type} {K : PySem.W.Frag} {H : Hp} {f : α → V} {g : α → PyData} : ∀ {xs : List α}, (∀ x ∈ xs, Dp K H (f x) (g x)) → DpAll K H (xs.map f) (xs.map g)
  | [], _ => .nil
  | x :: xs, h => .cons (h x List.mem_cons_self) (dp_all fun y hy => h y (List.mem_cons_of_mem _ hy))
theorem dp_list {α : Type} {K : PySem.W.Frag} {H : Hp} {f : α → V} {g : α → PyData} {xs : List α} {p : Addr} (hp : SqL K H p (xs.map f)) (h : ∀ x ∈ xs, Dp K H (f x) (g x)) : Dp K H (.ref p) (.list (xs.map g)) := .lst hp (dp_all h)
theorem eqv_list {α : Type} [DecidableEq α] {g : α → PyData} (h : ∀ x y, PyData.eqv (g x) (g y) = decide (x = y)) : ∀ (xs ys : List α), PyData.eqv (.list (xs.map g)) (.list (ys.map g)) = decide (xs = ys) := by
  intro xs ys
  show PyData.eqvAll _ _ = _
  induction xs generalizing ys with
  | nil => cases ys with
    | nil => rfl
    | cons y ys => rfl
  | cons x xs ih => cases ys with
    | nil => rfl
    | cons y ys =>
      show (PyData.eqv (g x) (g y) && PyData.eqvAll _ _) = _
      rw [h, ih]
      by_cases e : x = y
      · by_cases e2 : xs = ys
        · simp [e, e2]
        · simp [e, e2]
      · simp [e]
theorem eqv_T (a b : Tx) : PyData.eqv (dT a) (dT b) = decide (a = b) := by
  show (SX.S a == SX.S b) = _
  exact SX.S_beq_eq
theorem eqv_int (a b : Int) : PyData.eqv (.int a) (.int b) = decide (a = b) := by
  show (a == b) = _
  by_cases h : a = b
  · simp [h]
  · simp [h]
section
variable {K : PySem.W.Frag} {H : Hp} {x y : V} {d e : PyData}
theorem rv_eqD {b : Bool} (h : ∀ H1, Ex H H1 → Dp K H1 x d) (h2 : ∀ H1, Ex H H1 → Dp K H1 y e) (s1 : SeqAt.shaped d = true) (s2 : SeqAt.shaped e = true) (hb : PyData.eqv d e = b) : RV (rEqD K) x y H (.bl b) := fun H1 e1 _ q => ⟨d, e, h H1 e1, h2 H1 e1, s1, s2, by rw [hb]; exact q H1 (Ex.refl H1)⟩
theorem rv_neD {b : Bool} (h : ∀ H1, Ex H H1 → Dp K H1 x d) (h2 : ∀ H1, Ex H H1 → Dp K H1 y e) (s1 : SeqAt.shaped d = true) (s2 : SeqAt.shaped e = true) (hb : PyData.eqv d e = b) : RV (rNeD K) x y H (.bl (!b)) := fun H1 e1 _ q => ⟨d, e, h H1 e1, h2 H1 e1, s1, s2, by rw [hb]; exact q H1 (Ex.refl H1)⟩
mutual
theorem Dp.ex {H1 : Hp} (e : Ex H H1) : ∀ {v : V} {d : PyData}, Dp K H v d → Dp K H1 v d
  | _, _, .non => .non
  | _, _, .bl b => .bl b
  | _, _, .int i => .int i
  | _, _, .str x => .str x
  | _, _, .lst h a => .lst (ex_l e h) (DpAll.ex e a)
  | _, _, .tup h a => .tup (ex_t e h) (DpAll.ex e a)
theorem DpAll.ex {H1 : Hp} (e : Ex H H1) : ∀ {vs : List V} {ds : List PyData}, DpAll K H vs ds → DpAll K H1 vs ds
  | _, _, .nil => .nil
  | _, _, .cons h a => .cons (Dp.ex e h) (DpAll.ex e a)
end
end
/-- values that are ints or texts, none a truth -/
inductive FlatV : V → PyData → Prop
  | int (i : Int) : FlatV (.int i) (.int i)
  | str {a : Tx} (h : LowT a) : FlatV (T a) (dT a)
/-- a list of such -/
def sp_list_same (K : PySem.W.Frag) : Sp := fun vs H Q _ => ∃ (p q : Addr) (xs : List V), vs = [.ref p, .ref q] ∧ H p = some (.lst xs) ∧ SqL K H q xs ∧ (∀ v ∈ xs, ∃ d, FlatV v d) ∧ xs.length ≤ 30000 ∧ RetV (.bl true) H Q
theorem flat_data {K : PySem.W.Frag} {H : Hp} {xs : List V} (h : ∀ v ∈ xs, ∃ d, FlatV v d) : ∃ ds : List PyData, DpAll K H xs ds ∧ PyData.canLayAll0 ds = true ∧ PyData.depthAll ds ≤ 0 := by
  induction xs with
  | nil => exact ⟨[], .nil, rfl, Nat.le_refl _⟩
  | cons v xs ih =>
    obtain ⟨ds, h1, h2, h3⟩ := ih fun v hv => h v (List.mem_cons_of_mem _ hv)
    obtain ⟨d, hd⟩ := h v List.mem_cons_self
    cases hd with
    | int i => exact ⟨.int i :: ds, .cons (.int i) h1, by show (true && PyData.canLayAll0 ds) = true; rw [h2]; rfl, Nat.max_le.mpr ⟨Nat.le_refl _, h3⟩⟩
    | str ha => exact ⟨_ :: ds, .cons (.str _) h1, by show ((dT _).canLay0 && PyData.canLayAll0 ds) = true; rw [h2, lay_T ha]; rfl, Nat.max_le.mpr ⟨Nat.le_refl _, h3⟩⟩
end Wc
set_option Elab.async false
set_option linter.all false
set_option maxRecDepth 100000
set_option maxHeartbeats 2000000
/-! the rules that name the written part: with the part K given -/
namespace Wc
open PySem PySem.Spec PyProof.Rows L2 Evl
def rLenAny (K : PySem.W.Frag) : List V → Hp → VK → Prop := fun xs H Q => rLenT xs H Q ∨ (∃ p ys, xs = [.ref p] ∧ (SqL K H p ys ∨ SqT K H p ys) ∧ Q (.int ys.length) H)
def rIxAny (K : PySem.W.Frag) : R2 := fun x y H Q => (L2.rIxL K x y H Q ∨ L2.rIxT K x y H Q) ∨ Wc.rIxT x y H Q
def rTupS (K : PySem.W.Frag) : List V → Hp → VK → Prop := fun xs H Q => ∃ p ys, xs = [.ref p] ∧ ((SqL K H p ys ∧ ∀ l, H l = none → Q (.ref l) (upd H l (.tup ys))) ∨ (SqT K H p ys ∧ Q (.ref p) H))
section
variable {X : Cx} (K : PySem.W.Frag)
theorem kcr {f : Value} {r : PySem.W.Frag → List V → Hp → VK → Prop} (h : CallR X f (r X.K)) (hK : X.K = K := by rfl) : CallR X f (r K) := hK ▸ h
theorem kop {f : Value → Value → Sem Value} {r : PySem.W.Frag → R2} (h : OpR X f (r X.K)) (hK : X.K = K := by rfl) : OpR X f (r K) := hK ▸ h
theorem kix {r : PySem.W.Frag → R2} (h : IxR X (r X.K)) (hK : X.K = K := by rfl) : IxR X (r K) := hK ▸ h
theorem ksl {r : PySem.W.Frag → V → Option Int → Option Int → Hp → VK → Prop} (h : SlR X (r X.K)) (hK : X.K = K := by rfl) : SlR X (r K) := hK ▸ h
theorem kmt {id : String} {r : PySem.W.Frag → V → List V → Hp → VK → Prop} (h : MtR X id (r X.K)) (hK : X.K = K := by rfl) : MtR X id (r K) := hK ▸ h
theorem kbm {e : Expr} {T : String} {r : V → List V → Hp → VK → Prop} {to : TE} {t : TA} (h : PE X e (tBM X.K T r to t)) (hK : X.K = K := by rfl) : PE X e (tBM K T r to t) := hK ▸ h
theorem kbm0 {e : Expr} {T : String} {r : V → List V → Hp → VK → Prop} {to : TE} (h : PE X e (tBM0 X.K T r to)) (hK : X.K = K := by rfl) : PE X e (tBM0 K T r to) := hK ▸ h
theorem kil {tg it : Expr} {tl : TE} (h : PI X tg it (iList X.K tl)) (hK : X.K = K := by rfl) : PI X tg it (iList K tl) := hK ▸ h
theorem kit {tg it : Expr} {tl : TE} (h : PI X tg it (iTup X.K tl)) (hK : X.K = K := by rfl) : PI X tg it (iTup K tl) := hK ▸ h
theorem kie {tg it : Expr} {ta : TA} (h : PI X tg it (iEnum X.K ta)) (hK : X.K = K := by rfl) : PI X tg it (iEnum K ta) := hK ▸ h
theorem kiz {tg it : Expr} {ta : TA} (h : PI X tg it (iZip X.K ta)) (hK : X.K = K := by rfl) : PI X tg it (iZip K ta) := hK ▸ h
theorem kgt {tg : Expr} {n : Nat} {t : TGs} (h : PG X tg (gTup X.K n t)) (hK : X.K = K := by rfl) : PG X tg (gTup K n t) := hK ▸ h
theorem kgl {tg : Expr} {n : Nat} {t : TGs} (h : PG X tg (gLst X.K n t)) (hK : X.K = K := by rfl) : PG X tg (gLst K n t) := hK ▸ h
theorem kso {e : Expr} {t : TA} (h : PE X e (tSortLen X.K t)) (hK : X.K = K := by rfl) : PE X e (tSortLen K t) := hK ▸ h
end
end Wc
set_option Elab.async false
set_option linter.all false
set_option maxRecDepth 100000
set_option maxHeartbeats 2000000
/-! draws by their promises -/
namespace Wc
open PySem PySem.Spec PyProof.Rows L2 Evl
section
variable {K : PySem.W.Frag} {σ : L2.St} {H : Hp} {te tm : TE} {fa : Addr} {i : Nat} {Q : VK} {B : Nat}
theorem wp_draw {many : Int} (h0 : σ[i]? = some (some (.ref fa))) (h : Ev te σ H (.int many)) (G : GF fa B H) (h1 : 0 < many) (h2 : many ≤ 10 ^ 61) (k : ∀ (d : Nat) H', (d : Int) < many → Rf fa 1 H H' → Q (.int (d : Int)) H') (hB : 1 ≤ B := by omega) : tCall sp_draw [] E0 (tCons (tVar i) (tCons te tNil)) σ H Q :=
  ⟨.ref fa, h0, h H (Ex.refl _) _ fun H1 e1 => ⟨fa, many, rfl, (G.ex e1).mono hB, h1, h2, fun d H' hd R => k d H' hd (.pre e1 R)⟩⟩
theorem wp_oneT {s : Tx} (h0 : σ[i]? = some (some (.ref fa))) (h : Ev te σ H (T s)) (G : GF fa B H) (hs : s ≠ []) (hl : s.length ≤ 16777216) (k : ∀ c H', c ∈ s → Rf fa 1 H H' → Q (T [c]) H') (hB : 1 ≤ B := by omega) : tCall (sp_one K) [] E0 (tCons (tVar i) (tCons te tNil)) σ H Q :=
  ⟨.ref fa, h0, h H (Ex.refl _) _ fun H1 e1 => ⟨fa, (G.ex e1).mono hB, .inl ⟨s, rfl, hs, hl, fun c H' hc R => k c H' hc (.pre e1 R)⟩⟩⟩
/-- of a new list -/
theorem wp_oneL {vs : List V} (h0 : σ[i]? = some (some (.ref fa))) (h : EvL te σ H vs) (G : GF fa B H) (hs : vs ≠ []) (hl : vs.length ≤ 16777216) (k : ∀ v H', v ∈ vs → Rf fa 1 H H' → Q v H') (hB : 1 ≤ B := by omega) : tCall (sp_one K) [] E0 (tCons (tVar i) (tCons te tNil)) σ H Q :=
  ⟨.ref fa, h0, h H (Ex.refl _) _ fun p H1 hp e1 h1 => ⟨fa, (G.ex e1).mono hB, .inr ⟨p, vs, rfl, .inl (sq_of h1), G.new hp, hs, hl, fun v H' hv R => k v H' hv (.pre e1 R)⟩⟩⟩
/-- of a list or tuple that stands -/
theorem wp_oneS {p : Addr} {xs : List V} (h0 : σ[i]? = some (some (.ref fa))) (h : Ev te σ H (.ref p)) (hS : SqL K H p xs ∨ SqT K H p xs) (hp : p ≠ fa) (G : GF fa B H) (hs : xs ≠ []) (hl : xs.length ≤ 16777216) (k : ∀ v H', v ∈ xs → Rf fa 1 H H' → Q v H') (hB : 1 ≤ B := by omega) : tCall (sp_one K) [] E0 (tCons (tVar i) (tCons te tNil)) σ H Q :=
  ⟨.ref fa, h0, h H (Ex.refl _) _ fun H1 e1 => ⟨fa, (G.ex e1).mono hB, .inr ⟨p, xs, rfl, hS.imp (ex_l e1) (ex_t e1), hp, hs, hl, fun v H' hv R => k v H' hv (.pre e1 R)⟩⟩⟩
theorem wp_text {s : Tx} {most : Nat} (h0 : σ[i]? = some (some (.ref fa))) (h : Ev te σ H (T s)) (hm : Ev tm σ H (.int (most : Int))) (G : GF fa B H) (hm1 : most ≤ 30000) (hs : s ≠ []) (hl : s.length ≤ 16777216) (k : ∀ (t : Tx) H', t.length ≤ most → (∀ c ∈ t, c ∈ s) → Rf fa (most + 1) H H' → Q (T t) H') (hB : most + 1 ≤ B := by omega) :
    tCall sp_text [] E0 (tCons (tVar i) (tCons te (tCons tm tNil))) σ H Q :=
  ⟨.ref fa, h0, h H (Ex.refl _) _ fun H1 e1 => hm H1 e1 _ fun H2 e2 => ⟨fa, s, most, rfl, (G.ex (e1.trans e2)).mono hB, hm1, hs, hl, fun t H' h1 h2 R => k t H' h1 h2 (.pre (e1.trans e2) R)⟩⟩
end
/-- a feed out of a cell of the script -/
def sp_feed (K : PySem.W.Frag) : Sp := fun vs H Q _ => ∃ (a : Addr) (ns : List Int) (k e : Nat), vs = [.ref a, .int (k : Int)] ∧ SqL K H a (ns.map V.int) ∧ k ≤ 1000 ∧ 1 ≤ e ∧ e ≤ 1100000 ∧ (∀ z ∈ ns, z.natAbs < 2 ^ e) ∧
  ∀ fa H', H fa = none → Ex H H' → Fd fa 0 H' → Q (.ref fa) H'
theorem pow_add_small {x c : Int} {e : Nat} (hx : x.natAbs < 2 ^ e) (hc : c.natAbs ≤ 2 ^ 70) : (x + c).natAbs < 2 ^ (e + 72) := by
  have h1 : (x + c).natAbs ≤ x.natAbs + c.natAbs := Int.natAbs_add_le _ _
  have h2 : 1 ≤ 2 ^ e := Nat.pow_pos (by decide)
  have h3 : (2 : Nat) ^ (e + 72) = 2 ^ e * (4 * 2 ^ 70) := by rw [Nat.pow_add]
  have hA : 1 ≤ (2 : Nat) ^ 70 := Nat.pow_pos (by decide)
  rw [h3]
  generalize (2 : Nat) ^ e = E at hx h2 ⊢
  generalize (2 : Nat) ^ 70 = A at hc hA ⊢
  have h5 : E ≤ E * A := Nat.le_mul_of_pos_right _ hA
  have h6 : A ≤ E * A := Nat.le_mul_of_pos_left _ h2
  rw [Nat.mul_left_comm]
  omega
end Wc
set_option Elab.async false
set_option linter.all false
set_option maxRecDepth 100000
set_option maxHeartbeats 2000000
/-! words: powers, turns, roots, two words that change places; plain lists of numbers -/
namespace Wm
open Wc
def isRootLen (a : Tx) (m : Nat) : Bool := decide (a.length % m = 0) && decide (repT (a.length / m) (a.take m) = a)
def rootLen (a : Tx) : Nat := ((List.range' 1 a.length).find? (isRootLen a)).getD a.length
def aroot (a : Tx) : Tx := a.take (rootLen a)
def cyc (a : Tx) (i : Nat) : Nat := a.getD (i % a.length) 0
def Per (a : Tx) (k : Nat) : Prop := ∀ i, cyc a (i + k) = cyc a i
theorem repT_one (a : Tx) : repT 1 a = a := by rw [repT_succ, repT_zero, List.append_nil]
theorem repT_add (m n : Nat) (a : Tx) : repT (m + n) a = repT m a ++ repT n a := by
  induction m with
  | zero => rw [Nat.zero_add, repT_zero, List.nil_append]
  | succ m ih => rw [Nat.succ_add, repT_succ, repT_succ, ih, List.append_assoc]
theorem repT_mul (m n : Nat) (a : Tx) : repT m (repT n a) = repT (m * n) a := by
  induction m with
  | zero => rw [Nat.zero_mul, repT_zero, repT_zero]
  | succ m ih => rw [repT_succ, ih, Nat.succ_mul, Nat.add_comm, repT_add]
theorem repT_nil (n : Nat) : repT n [] = [] := List.length_eq_zero_iff.mp (by rw [repT_len]; simp)
theorem repT_ne {n : Nat} {a : Tx} (hn : 1 ≤ n) (ha : a ≠ []) : repT n a ≠ [] := by
  intro h
  have h1 := congrArg List.length h
  rw [repT_len] at h1
  have h2 : 0 < a.length := List.length_pos_iff.mpr ha
  have h3 : 0 < n * a.length := Nat.mul_pos hn h2
  rw [List.length_nil] at h1
  omega
theorem repT_get {a : Tx} (n : Nat) : ∀ (j : Nat), j < n * a.length → (repT n a)[j]? = a[j % a.length]? := by
  induction n with
  | zero =>
    intro j h
    rw [Nat.zero_mul] at h
    exact absurd h (Nat.not_lt_zero _)
  | succ n ih =>
    intro j h
    rw [repT_succ]
    by_cases hj : j < a.length
    · rw [List.getElem?_append_left hj, Nat.mod_eq_of_lt hj]
    · rw [List.getElem?_append_right (by omega), ih (j - a.length) (by rw [Nat.succ_mul] at h; omega)]
      have : j % a.length = (j - a.length) % a.length := Nat.mod_eq_sub_mod (by omega)
      rw [this]
theorem cyc_len (a : Tx) (i : Nat) : cyc a (i + a.length) = cyc a i := by
  unfold cyc
  rw [Nat.add_mod_right]
theorem cyc_mod (a : Tx) (i : Nat) : cyc a (i % a.length) = cyc a i := by
  unfold cyc
  rw [Nat.mod_mod]
theorem cyc_lt {a : Tx} {i : Nat} (h : i < a.length) : a[i]? = some (cyc a i) := by
  unfold cyc
  rw [Nat.mod_eq_of_lt h, List.getD_eq_getElem?_getD, List.getElem?_eq_getElem h]
  rfl
theorem cyc_repT {a : Tx} {n : Nat} (hn : 1 ≤ n) (ha : a ≠ []) (i : Nat) : cyc (repT n a) i = cyc a i := by
  have hp : 0 < a.length := List.length_pos_iff.mpr ha
  have hN : 0 < n * a.length := Nat.mul_pos hn hp
  unfold cyc
  rw [List.getD_eq_getElem?_getD, List.getD_eq_getElem?_getD, repT_len, repT_get n _ (Nat.mod_lt _ hN), Nat.mod_mod_of_dvd _ (Nat.dvd_mul_left _ _)]
theorem ext_cyc {a b : Tx} (hl : a.length = b.length) (h : ∀ i, i < a.length → cyc a i = cyc b i) : a = b := by
  apply List.ext_getElem?
  intro i
  by_cases hi : i < a.length
  · rw [cyc_lt hi, cyc_lt (by omega), h i hi]
  · rw [List.getElem?_eq_none (by omega), List.getElem?_eq_none (by omega)]
/-! ### turns -/
theorem turn_get {w : Tx} {k i : Nat} (hk : k ≤ w.length) (hi : i < w.length) : (w.drop k ++ w.take k)[i]? = some (cyc w (i + k)) := by
  by_cases h : i + k < w.length
  · rw [List.getElem?_append_left (by rw [List.length_drop]; omega), List.getElem?_drop, Nat.add_comm k i, cyc_lt h]
  · rw [List.getElem?_append_right (by rw [List.length_drop]; omega), List.length_drop, List.getElem?_take, if_pos (by omega), cyc_lt (by omega)]
    have e : i + k = (i - (w.length - k)) + w.length := by omega
    rw [e, cyc_len]
theorem turn_iff {w : Tx} {k : Nat} (hk : k ≤ w.length) : w.drop k ++ w.take k = w ↔ Per w k := by
  constructor
  · intro h i
    by_cases h0 : w.length = 0
    · have : w = [] := List.length_eq_zero_iff.mp h0
      subst this
      rfl
    · have hi : i % w.length < w.length := Nat.mod_lt _ (by omega)
      have h1 := turn_get hk hi
      rw [h, cyc_lt hi] at h1
      have h2 := Option.some.inj h1
      rw [cyc_mod] at h2
      rw [h2]
      unfold cyc
      rw [Nat.mod_add_mod]
  · intro h
    apply List.ext_getElem?
    intro i
    by_cases hi : i < w.length
    · rw [turn_get hk hi, cyc_lt hi, h i]
    · rw [List.getElem?_eq_none (by rw [List.length_append, List.length_drop, List.length_take]; omega), List.getElem?_eq_none (by omega)]
theorem twice_at {w : Tx} {k : Nat} (hk : k ≤ w.length) : ((w ++ w).drop k).take w.length = w.drop k ++ w.take k := by
  rw [List.drop_append_of_le_length hk, List.take_append, List.take_of_length_le (by rw [List.length_drop]; omega), List.length_drop]
  congr 2
  omega
theorem stAt_twice {w : Tx} {k : Nat} (hk : k ≤ w.length) : StAt (w ++ w) w k ↔ Per w k := by
  unfold StAt
  rw [twice_at hk, turn_iff hk]
/-! ### periods of the round -/
theorem Per.mul {w : Tx} {k : Nat} (h : Per w k) (n : Nat) : Per w (n * k) := by
  induction n with
  | zero => intro i; rw [Nat.zero_mul, Nat.add_zero]
  | succ n ih => intro i; rw [Nat.succ_mul, ← Nat.add_assoc, h, ih]
theorem Per.sub {w : Tx} {k m : Nat} (h : Per w k) (h2 : Per w m) (hm : m ≤ k) : Per w (k - m) := fun i => by
  rw [← h2 (i + (k - m)), show i + (k - m) + m = i + k by omega, h]
theorem Per.mod {w : Tx} {k m : Nat} (h : Per w k) (h2 : Per w m) : Per w (k % m) := by
  have := h.sub (h2.mul (k / m)) (Nat.div_mul_le_self k m)
  have e : k - k / m * m = k % m := by
    have := Nat.div_add_mod k m
    rw [Nat.mul_comm]
    omega
  rw [e] at this
  exact this
theorem Per.gcd {w : Tx} (k m : Nat) : Per w k → Per w m → Per w (Nat.gcd k m) := by
  induction k, m using Nat.gcd.induction with
  | H0 n => intro _ h; rwa [Nat.gcd_zero_left]
  | H1 m n hm ih => intro h1 h2; rw [Nat.gcd_rec]; exact ih (h2.mod h1) h1
theorem per_len (w : Tx) : Per w w.length := cyc_len w
theorem isRoot_iff {w : Tx} {m : Nat} (h1 : 1 ≤ m) (h2 : m ≤ w.length) : isRootLen w m = true ↔ m ∣ w.length ∧ Per w m := by
  unfold isRootLen
  rw [Bool.and_eq_true, decide_eq_true_eq, decide_eq_true_eq, ← Nat.dvd_iff_mod_eq_zero]
  have hlt : (w.take m).length = m := by rw [List.length_take]; omega
  have hne : w.take m ≠ [] := fun z => by rw [z] at hlt; simp at hlt; omega
  constructor
  · rintro ⟨hd, he⟩
    refine ⟨hd, fun i => ?_⟩
    have hn : 1 ≤ w.length / m := (Nat.le_div_iff_mul_le h1).mpr (by omega)
    have hc : ∀ j, cyc w j = cyc (w.take m) j := fun j => by
      conv => lhs; rw [← he]
      exact cyc_repT hn hne j
    rw [hc, hc]
    have := cyc_len (w.take m) i
    rw [hlt] at this
    exact this
  · rintro ⟨hd, hp⟩
    refine ⟨hd, ?_⟩
    obtain ⟨n, hn⟩ := hd
    have e1 : w.length / m = n := by rw [hn]; exact Nat.mul_div_cancel_left _ (by omega)
    have hL : (repT n (w.take m)).length = w.length := by rw [repT_len, hlt, Nat.mul_comm]; exact hn.symm
    rw [e1]
    apply List.ext_getElem?
    intro j
    by_cases hj : j < w.length
    · rw [repT_get n j (by rw [hlt, Nat.mul_comm]; omega), hlt]
      have hjm : j % m < m := Nat.mod_lt _ (by omega)
      rw [List.getElem?_take, if_pos hjm, cyc_lt (by omega), cyc_lt hj]
      have h3 := (hp.mul (j / m)) (j % m)
      rw [show j % m + j / m * m = j by rw [Nat.mul_comm]; exact Nat.mod_add_div j m] at h3
      rw [h3]
    · rw [List.getElem?_eq_none (by omega), List.getElem?_eq_none (by omega)]
theorem root_self {a : Tx} (ha : a ≠ []) : isRootLen a a.length = true := by
  have hp : 0 < a.length := List.length_pos_iff.mpr ha
  exact (isRoot_iff hp (Nat.le_refl _)).mpr ⟨Nat.dvd_refl _, per_len a⟩
/-- the root's length: the least period of the round -/
theorem rootLen_spec {a : Tx} (ha : a ≠ []) : 1 ≤ rootLen a ∧ rootLen a ≤ a.length ∧ rootLen a ∣ a.length ∧ Per a (rootLen a) ∧ ∀ k, 1 ≤ k → Per a k → rootLen a ≤ k := by
  have hp : 0 < a.length := List.length_pos_iff.mpr ha
  have hs : ∃ m, (List.range' 1 a.length).find? (isRootLen a) = some m := by
    cases h : (List.range' 1 a.length).find? (isRootLen a) with
    | some m => exact ⟨m, rfl⟩
    | none =>
      rw [List.find?_eq_none] at h
      have := h a.length (by rw [List.mem_range'_1]; omega)
      exact absurd (root_self ha) this
  obtain ⟨m, hm⟩ := hs
  have er : rootLen a = m := by unfold rootLen; rw [hm]; rfl
  rw [List.find?_range'_eq_some] at hm
  obtain ⟨h1, h2, h3⟩ := hm
  rw [List.mem_range'_1] at h2
  rw [er]
  have h4 := (isRoot_iff h2.1 (by omega)).mp h1
  refine ⟨h2.1, by omega, h4.1, h4.2, fun k hk hkp => ?_⟩
  have hg := hkp.gcd k a.length (per_len a)
  have g1 : 0 < Nat.gcd k a.length := Nat.gcd_pos_of_pos_left _ hk
  have g2 : Nat.gcd k a.length ≤ k := Nat.gcd_le_left _ hk
  have g3 : Nat.gcd k a.length ≤ a.length := Nat.gcd_le_right _ hp
  have hr := (isRoot_iff g1 g3).mpr ⟨Nat.gcd_dvd_right _ _, hg⟩
  by_cases hlt : Nat.gcd k a.length < m
  · have := h3 (Nat.gcd k a.length) g1 hlt
    rw [hr] at this
    cases this
  · omega
theorem find_root {a : Tx} (ha : a ≠ []) {r : Int} (h : FindT (a ++ a) a 1 r) : r = (rootLen a : Int) := by
  obtain ⟨h1, h2, h3, h4, h5⟩ := rootLen_spec ha
  cases h with
  | at_ k hk hl hs hn =>
    have hl2 : k ≤ a.length := by rw [List.length_append] at hl; omega
    have g1 := h5 k hk ((stAt_twice hl2).mp hs)
    have g2 : ¬ rootLen a < k := fun z => hn _ h1 z ((stAt_twice h2).mpr h4)
    have : k = rootLen a := by omega
    rw [this]
  | no hn =>
    exact absurd ((stAt_twice h2).mpr h4) (hn _ h1 (by rw [List.length_append]; omega))
theorem per_repT {a : Tx} {n : Nat} (hn : 1 ≤ n) (ha : a ≠ []) (k : Nat) : Per (repT n a) k ↔ Per a k := by
  unfold Per
  constructor
  · intro h i
    rw [← cyc_repT hn ha, ← cyc_repT hn ha, h]
  · intro h i
    rw [cyc_repT hn ha, cyc_repT hn ha, h]
theorem rootLen_repT {a : Tx} {n : Nat} (hn : 1 ≤ n) (ha : a ≠ []) : rootLen (repT n a) = rootLen a := by
  obtain ⟨h1, h2, h3, h4, h5⟩ := rootLen_spec ha
  obtain ⟨g1, g2, g3, g4, g5⟩ := rootLen_spec (repT_ne hn ha)
  have x := g5 _ h1 ((per_repT hn ha _).mpr h4)
  have y := h5 _ g1 ((per_repT hn ha _).mp g4)
  omega
theorem aroot_repT {a : Tx} {n : Nat} (hn : 1 ≤ n) (ha : a ≠ []) : aroot (repT n a) = aroot a := by
  unfold aroot
  rw [rootLen_repT hn ha]
  obtain ⟨h1, h2, _⟩ := rootLen_spec ha
  obtain ⟨m, rfl⟩ : ∃ m, n = m + 1 := ⟨n - 1, by omega⟩
  rw [repT_succ, List.take_append_of_le_length h2]
theorem aroot_pow {a : Tx} (ha : a ≠ []) : ∃ n, 1 ≤ n ∧ a = repT n (aroot a) := by
  obtain ⟨h1, h2, h3, h4, h5⟩ := rootLen_spec ha
  have := (isRoot_iff h1 h2).mpr ⟨h3, h4⟩
  unfold isRootLen at this
  rw [Bool.and_eq_true, decide_eq_true_eq, decide_eq_true_eq] at this
  exact ⟨a.length / rootLen a, (Nat.le_div_iff_mul_le h1).mpr (by omega), this.2.symm⟩
/-! ### two words that change places -/
theorem comm_cyc {a b : Tx} (ha : a ≠ []) (hb : b ≠ []) (h : ∀ i, i < a.length + b.length → cyc a i = cyc b i) : a ++ b = b ++ a := by
  have key : ∀ x y : Tx, x ≠ [] → (∀ i, i < x.length + y.length → cyc x i = cyc y i) → ∀ i, i < x.length + y.length → (x ++ y)[i]? = some (cyc x i) := fun x y hx h i hi => by
    by_cases h1 : i < x.length
    · rw [List.getElem?_append_left h1, cyc_lt h1]
    · rw [List.getElem?_append_right (by omega), cyc_lt (by omega), ← h (i - x.length) (by omega)]
      have e : i = i - x.length + x.length := by omega
      conv => rhs; rw [e, cyc_len]
  apply List.ext_getElem?
  intro i
  by_cases hi : i < a.length + b.length
  · rw [key a b ha h i hi, key b a hb (fun j hj => (h j (by omega)).symm) i (by omega), h i hi]
  · rw [List.getElem?_eq_none (by rw [List.length_append]; omega), List.getElem?_eq_none (by rw [List.length_append]; omega)]
/-- powers of one -/
theorem comm_pow : ∀ (n : Nat) (u v : Tx), u.length + v.length ≤ n → u ++ v = v ++ u → ∃ r i j, u = repT i r ∧ v = repT j r
  | n, [], v, _, _ => ⟨v, 0, 1, rfl, (repT_one v).symm⟩
  | n, u, [], _, _ => ⟨u, 1, 0, (repT_one u).symm, rfl⟩
  | 0, x :: u, y :: v, h, _ => by simp at h
  | n + 1, x :: u, y :: v, hl, h => by
    by_cases hle : (x :: u).length ≤ (y :: v).length
    · have hpre : (y :: v).take (x :: u).length = x :: u := by
        have := congrArg (List.take (x :: u).length) h
        rw [List.take_left, List.take_append_of_le_length hle] at this
        exact this.symm
      obtain ⟨v', hv⟩ : ∃ v', y :: v = (x :: u) ++ v' := ⟨(y :: v).drop (x :: u).length, by rw [← hpre, List.length_take, Nat.min_eq_left hle]; exact (List.take_append_drop _ _).symm⟩
      rw [hv] at h hl ⊢
      have h2 : (x :: u) ++ v' = v' ++ (x :: u) := by
        rw [List.append_assoc] at h
        exact List.append_cancel_left h
      obtain ⟨r, i, j, e1, e2⟩ := comm_pow n (x :: u) v' (by rw [List.length_append] at hl; simp only [List.length_cons] at hl ⊢; omega) h2
      exact ⟨r, i, i + j, e1, by rw [repT_add, ← e1, ← e2]⟩
    · have hle2 : (y :: v).length ≤ (x :: u).length := by omega
      have hpre : (x :: u).take (y :: v).length = y :: v := by
        have := congrArg (List.take (y :: v).length) h
        rw [List.take_left, List.take_append_of_le_length hle2] at this
        exact this
      obtain ⟨u', hu⟩ : ∃ u', x :: u = (y :: v) ++ u' := ⟨(x :: u).drop (y :: v).length, by rw [← hpre, List.length_take, Nat.min_eq_left hle2]; exact (List.take_append_drop _ _).symm⟩
      rw [hu] at h hl ⊢
      have h2 : (y :: v) ++ u' = u' ++ (y :: v) := by
        rw [List.append_assoc] at h
        exact (List.append_cancel_left h).symm
      obtain ⟨r, i, j, e1, e2⟩ := comm_pow n (y :: v) u' (by rw [List.length_append] at hl; simp only [List.length_cons] at hl ⊢; omega) h2
      exact ⟨r, i + j, i, by rw [repT_add, ← e1, ← e2], e1⟩
theorem pow_comm (i j : Nat) (r : Tx) : repT i r ++ repT j r = repT j r ++ repT i r := by rw [← repT_add, ← repT_add, Nat.add_comm]
theorem cyc_comm {a b : Tx} (ha : a ≠ []) (hb : b ≠ []) (h : a ++ b = b ++ a) (i : Nat) : cyc a i = cyc b i := by
  obtain ⟨r, m, n, rfl, rfl⟩ := comm_pow _ a b (Nat.le_refl _) h
  have hr : r ≠ [] := fun z => ha (by rw [z, repT_nil])
  have hm : 1 ≤ m := Nat.pos_of_ne_zero fun z => ha (by rw [z, repT_zero])
  have hn : 1 ≤ n := Nat.pos_of_ne_zero fun z => hb (by rw [z, repT_zero])
  rw [cyc_repT hm hr, cyc_repT hn hr]
theorem aroot_comm {a b : Tx} (ha : a ≠ []) (hb : b ≠ []) (h : a ++ b = b ++ a) : aroot a = aroot b := by
  obtain ⟨r, m, n, rfl, rfl⟩ := comm_pow _ a b (Nat.le_refl _) h
  have hr : r ≠ [] := fun z => ha (by rw [z, repT_nil])
  have hm : 1 ≤ m := Nat.pos_of_ne_zero fun z => ha (by rw [z, repT_zero])
  have hn : 1 ≤ n := Nat.pos_of_ne_zero fun z => hb (by rw [z, repT_zero])
  rw [aroot_repT hm hr, aroot_repT hn hr]
end Wm
set_option Elab.async false
set_option linter.all false
set_option maxRecDepth 100000
set_option maxHeartbeats 2000000
/-! readings that draw: what is told of the value alone -/
namespace Wc
open PySem PySem.Spec PyProof.Rows L2 Evl
/-- te draws m times at most and gives a value that is good -/
def Dw (fa : Addr) (σ : L2.St) (m : Nat) (te : TE) (g : V → Prop) : Prop := ∀ H, GF fa m H → ∀ Q : VK, (∀ v H', g v → Rf fa m H H' → Q v H') → te σ H Q
def GdT (ok : Nat → Prop) (lo n : Nat) (v : V) : Prop := ∃ s : Tx, v = T s ∧ lo ≤ s.length ∧ s.length ≤ n ∧ ∀ c ∈ s, ok c
def GdI (lo hi : Int) (v : V) : Prop := ∃ i : Int, v = .int i ∧ lo ≤ i ∧ i ≤ hi
section
variable {K : PySem.W.Frag} {σ : L2.St} {ta tb te : TE} {fa : Addr} {m m1 m2 : Nat} {g g1 g2 : V → Prop} {ok : Nat → Prop}
theorem dw_mono {m' : Nat} (h : Dw fa σ m te g) (hm : m ≤ m') : Dw fa σ m' te g := fun H G Q q => h H (G.mono hm) Q fun v H' hg R => q v H' hg (R.mono hm)
theorem dw_as {g' : V → Prop} (h : Dw fa σ m te g) (hg : ∀ v, g v → g' v) : Dw fa σ m te g' := fun H G Q q => h H G Q fun v H' hv R => q v H' (hg v hv) R
theorem dw_var {i : Nat} {v : V} (h : σ[i]? = some (some v)) (hg : g v) : Dw fa σ 0 (tVar i) g := fun H G Q q => ⟨v, h, q v H hg (Rf.refl H)⟩
theorem dw_c {v : V} (hg : g v) : Dw fa σ 0 (tC v) g := fun H G Q q => q v H hg (Rf.refl H)
theorem dw_op {r : R2} (h1 : Dw fa σ m1 ta g1) (h2 : Dw fa σ m2 tb g2) (hr : ∀ x y, g1 x → g2 y → ∃ z, g z ∧ ∀ H (Q : VK), Q z H → r x y H Q) : Dw fa σ (m1 + m2) (tOp r ta tb) g := fun H G Q q =>
  h1 H (G.mono (by omega)) _ fun x H1 hx R1 => h2 H1 (G.go R1 (by omega)) _ fun y H2 hy R2 => by
    obtain ⟨z, hz, hk⟩ := hr x y hx hy
    exact hk H2 Q (q z H2 hz (R1.trans R2))
theorem dI_var {i : Nat} {x lo hi : Int} (h : σ[i]? = some (some (.int x))) (h1 : lo ≤ x) (h2 : x ≤ hi) : Dw fa σ 0 (tVar i) (GdI lo hi) := dw_var h ⟨x, rfl, h1, h2⟩
theorem dI_c {x : Int} : Dw fa σ 0 (tC (.int x)) (GdI x x) := dw_c ⟨x, rfl, Int.le_refl _, Int.le_refl _⟩
theorem dT_var {i : Nat} {s : Tx} {lo n : Nat} (h : σ[i]? = some (some (T s))) (h1 : lo ≤ s.length) (h2 : s.length ≤ n) (h3 : ∀ c ∈ s, ok c) : Dw fa σ 0 (tVar i) (GdT ok lo n) := dw_var h ⟨s, rfl, h1, h2, h3⟩
theorem dT_c {s : Tx} (h3 : ∀ c ∈ s, ok c) : Dw fa σ 0 (tC (T s)) (GdT ok s.length s.length) := dw_c ⟨s, rfl, Nat.le_refl _, Nat.le_refl _, h3⟩
theorem dI_add {a b c d : Int} (h1 : Dw fa σ m1 ta (GdI a b)) (h2 : Dw fa σ m2 tb (GdI c d)) : Dw fa σ (m1 + m2) (tOp (rI0 fun i j => .int (i + j)) ta tb) (GdI (a + c) (b + d)) := dw_op h1 h2 fun x y ⟨i, hi, h3, h4⟩ ⟨j, hj, h5, h6⟩ => ⟨.int (i + j), ⟨i + j, rfl, by omega, by omega⟩, fun H Q q => ⟨i, j, hi, hj, q⟩⟩
theorem dT_add {a b c d : Nat} (h1 : Dw fa σ m1 ta (GdT ok a b)) (h2 : Dw fa σ m2 tb (GdT ok c d)) (hb : b + d ≤ 16777216 := by omega) : Dw fa σ (m1 + m2) (tOp rAddT ta tb) (GdT ok (a + c) (b + d)) := dw_op h1 h2 fun x y ⟨s, hs, h3, h4, h5⟩ ⟨t, ht, h6, h7, h8⟩ => ⟨T (s ++ t), ⟨s ++ t, rfl, by rw [List.length_append]; omega, by rw [List.length_append]; omega, fun c hc => by
  rcases List.mem_append.mp hc with hc | hc
  · exact h5 c hc
  · exact h8 c hc⟩, fun H Q q => ⟨s, t, hs, ht, by omega, q⟩⟩
theorem repT_mem {n : Nat} {a : Tx} {c : Nat} (h : c ∈ repT n a) : c ∈ a := by
  unfold repT at h
  obtain ⟨l, hl, hc⟩ := List.mem_flatten.mp h
  rw [List.eq_of_mem_replicate hl] at hc
  exact hc
theorem dT_mul {a b c d : Nat} (h1 : Dw fa σ m1 ta (GdT ok a b)) (h2 : Dw fa σ m2 tb (GdI (c : Int) (d : Int))) (hb : b * d ≤ 16777216 := by omega) (hd : d ≤ 1000000000 := by omega) : Dw fa σ (m1 + m2) (tOp rMulT ta tb) (GdT ok (c * a) (d * b)) := dw_op h1 h2 fun x y ⟨s, hs, h3, h4, h5⟩ ⟨j, hj, h6, h7⟩ => ⟨T (repT j.toNat s), ⟨repT j.toNat s, rfl, by
    rw [repT_len]
    exact Nat.mul_le_mul (by omega) h3, by
    rw [repT_len]
    exact Nat.mul_le_mul (by omega) h4, fun c hc => h5 c (repT_mem hc)⟩, fun H Q q => ⟨s, j, hs, hj, by omega, by omega, Nat.le_trans (Nat.mul_le_mul h4 (show j.toNat ≤ d by omega)) hb, q⟩⟩
theorem dI_len {a b : Nat} (h1 : Dw fa σ m te (GdT ok a b)) (hb : b ≤ 16777216 := by omega) : Dw fa σ m (tCB rLenT (tCons te tNil)) (GdI a b) := fun H G Q q => h1 H G _ fun v H1 ⟨s, hs, h3, h4, h5⟩ R => ⟨s, by rw [hs], by omega, q _ H1 ⟨_, rfl, by omega, by omega⟩ R⟩
/-- the ends of a slice -/
def Dwo (fa : Addr) (σ : L2.St) (m : Nat) (to : TO) : Prop := ∀ H, GF fa m H → ∀ Q : Option Int → Hp → Prop, (∀ v H', Rf fa m H H' → Q v H') → to σ H Q
theorem do_none : Dwo fa σ 0 tNoPart := fun H G Q q => q none H (Rf.refl H)
theorem do_some {a b : Int} (h : Dw fa σ m te (GdI a b)) : Dwo fa σ m (tPart te) := fun H G Q q => h H G _ fun v H1 ⟨i, hi, _, _⟩ R => ⟨i, hi, q (some i) H1 R⟩
theorem dT_sl {a b m3 : Nat} {tl th : TO} (h : Dw fa σ m1 te (GdT ok a b)) (h1 : Dwo fa σ m2 tl) (h2 : Dwo fa σ m3 th) (hb : b ≤ 16777216 := by omega) : Dw fa σ (m1 + (m2 + m3)) (tSl rSlT te tl th) (GdT ok 0 b) := fun H G Q q =>
  h H (G.mono (by omega)) _ fun v H1 ⟨s, hs, h3, h4, h5⟩ R1 => h1 H1 (G.go R1 (by omega)) _ fun l H2 R2 => h2 H2 (G.go (R1.trans R2) (by omega)) _ fun u H3 R3 =>
    ⟨s, hs, by omega, q _ H3 ⟨cutT s l u, rfl, Nat.zero_le _, Nat.le_trans (cutT_len s l u) h4, fun c hc => h5 c (cutT_mem hc)⟩ ((R1.trans (R2.trans R3)).mono (by omega))⟩
theorem dI_draw {i : Nat} {lo hi : Int} (h0 : σ[i]? = some (some (.ref fa))) (h : Dw fa σ m te (GdI lo hi)) (h1 : 0 < lo := by omega) (h2 : hi ≤ 10 ^ 61 := by decide) : Dw fa σ (m + 1) (tCall sp_draw [] E0 (tCons (tVar i) (tCons te tNil))) (GdI 0 (hi - 1)) := fun H G Q q =>
  ⟨.ref fa, h0, h H (G.mono (by omega)) _ fun v H1 ⟨j, hj, h3, h4⟩ R => ⟨fa, j, by rw [hj]; rfl, G.go R (Nat.le_refl _), by omega, by omega, fun d H' hd R2 => q _ H' ⟨(d : Int), rfl, by omega, by omega⟩ (R.trans R2)⟩⟩
theorem dT_one {i : Nat} {lo n : Nat} (h0 : σ[i]? = some (some (.ref fa))) (h : Dw fa σ m te (GdT ok lo n)) (h1 : 0 < lo := by omega) (h2 : n ≤ 16777216 := by omega) : Dw fa σ (m + 1) (tCall (sp_one K) [] E0 (tCons (tVar i) (tCons te tNil))) (GdT ok 1 1) := fun H G Q q =>
  ⟨.ref fa, h0, h H (G.mono (by omega)) _ fun v H1 ⟨s, hs, h3, h4, h5⟩ R => ⟨fa, G.go R (Nat.le_refl _), .inl ⟨s, by rw [hs]; rfl, fun z => by rw [z] at h3; simp at h3; omega, by omega, fun c H' hc R2 => q _ H' ⟨[c], rfl, Nat.le_refl _, Nat.le_refl _, fun d hd => by rw [List.mem_singleton.mp hd]; exact h5 c hc⟩ (R.trans R2)⟩⟩⟩
/-- of a list that is displayed -/
theorem dw_oneL {i : Nat} {vs : List V} (h0 : σ[i]? = some (some (.ref fa))) (h : ∀ H, EvL te σ H vs) (hg : ∀ v ∈ vs, g v) (hs : vs ≠ []) (hl : vs.length ≤ 16777216) : Dw fa σ 1 (tCall (sp_one K) [] E0 (tCons (tVar i) (tCons te tNil))) g := fun H G Q q => wp_oneL h0 (h H) G hs hl fun v H' hv R => q v H' (hg v hv) R
theorem dT_text {i : Nat} {a b c : Nat} {tm : TE} (h0 : σ[i]? = some (some (.ref fa))) (h : Dw fa σ m1 te (GdT ok a b)) (hm : Dw fa σ m2 tm (GdI 0 (c : Int))) (h1 : 0 < a := by omega) (h2 : b ≤ 16777216 := by omega) (h3 : c ≤ 30000 := by omega) : Dw fa σ (m1 + m2 + (c + 1)) (tCall sp_text [] E0 (tCons (tVar i) (tCons te (tCons tm tNil)))) (GdT ok 0 c) := fun H G Q q =>
  ⟨.ref fa, h0, h H (G.mono (by omega)) _ fun v H1 ⟨s, hs, h4, h5, h6⟩ R1 => hm H1 (G.go R1 (by omega)) _ fun y H2 ⟨j, hj, h7, h8⟩ R2 => by
    obtain ⟨n, rfl⟩ := Int.eq_ofNat_of_zero_le h7
    exact ⟨fa, s, n, by rw [hs, hj]; rfl, (G.go (R1.trans R2) (m' := n + 1) (by omega)), by omega, fun z => by rw [z] at h4; simp at h4; omega, by omega, fun t H' ht hc R3 => q _ H' ⟨t, rfl, Nat.zero_le _, by omega, fun c hc' => h6 c (hc c hc')⟩ (((R1.trans R2).trans R3).mono (by omega))⟩⟩
/-- a statement that draws -/
theorem q_dw {i : Nat} {D : Ends} {tz : TS} {H : Hp} {B : Nat} (h : Dw fa σ m te g) (G : GF fa B H) (k : ∀ v H1, g v → Rf fa m H H1 → tz D (σ.set i (some v)) H1) (hm : m ≤ B := by omega) : tSeq (tAsg te (gName i)) tz D σ H := h H (G.mono hm) _ fun v H1 hv R => k v H1 hv R
/-- a displayed pair, returned -/
theorem s_pair {D : Ends} {H : Hp} {B : Nat} (h1 : Dw fa σ m1 ta g1) (h2 : Dw fa σ m2 tb g2) (G : GF fa B H) (k : ∀ x y p H1, g1 x → g2 y → H p = none → Rf fa (m1 + m2) H H1 → H1 p = some (.lst [x, y]) → D.rt (.ref p) H1) (hm : m1 + m2 ≤ B := by omega) : tRet (tLst (tCons ta (tCons tb tNil))) D σ H :=
  h1 H (G.mono (by omega)) _ fun x H1 hx R1 => h2 H1 (G.go R1 (by omega)) _ fun y H2 hy R2 => ⟨by show 2 ≤ sizeLine; decide, fun p np => by
    have R := R1.trans R2
    have G2 : GF fa 0 H2 := G.go R (by omega)
    exact k x y p _ hx hy (R.free G.is np G2.is) (R.upd (R.free G.is np G2.is) G.is) upd_same⟩
/-- a test -/
theorem s_dif {D : Ends} {H : Hp} {tt ts : TS} {tu : TT} (h : ∀ Q : Bool → Hp → Prop, (∀ b H1, Rf fa m H H1 → Q b H1) → tu σ H Q) (k : ∀ b H1, Rf fa m H H1 → if b = true then tt D σ H1 else ts D σ H1) : tIfS tu tt ts D σ H := h _ k
theorem dw_test {H : Hp} {B : Nat} {a b c d : Int} {f : Int → Int → Bool} (h1 : Dw fa σ m1 ta (GdI a b)) (h2 : Dw fa σ m2 tb (GdI c d)) (G : GF fa B H) (Q : Bool → Hp → Prop) (k : ∀ b H1, Rf fa (m1 + m2) H H1 → Q b H1) (hm : m1 + m2 ≤ B := by omega) : tTest (tOp (rI0 fun i j => .bl (f i j)) ta tb) σ H Q :=
  h1 H (G.mono (by omega)) _ fun x H1 ⟨i, hi, _, _⟩ R1 => h2 H1 (G.go R1 (by omega)) _ fun y H2 ⟨j, hj, _, _⟩ R2 => ⟨i, j, hi, hj, f i j, rfl, k _ H2 (R1.trans R2)⟩
/-- a displayed pair -/
theorem wp_pair {H : Hp} {Q : VK} {B : Nat} (h1 : Dw fa σ m1 ta g1) (h2 : Dw fa σ m2 tb g2) (G : GF fa B H) (k : ∀ x y p H1, g1 x → g2 y → H p = none → Rf fa (m1 + m2) H H1 → H1 p = some (.lst [x, y]) → Q (.ref p) H1) (hm : m1 + m2 ≤ B := by omega) : tLst (tCons ta (tCons tb tNil)) σ H Q := s_pair (D := { nx := fun _ _ => False, bk := fun _ _ => False, ct := fun _ _ => False, rt := Q }) h1 h2 G k hm
/-- a loop of so many turns as are drawn -/
theorem q_forD {D : Ends} {tz tu : TS} {gg : TG} {H : Hp} {B : Nat} {a b : Int} (h : Dw fa σ m te (GdI a b)) (G : GF fa B H) (k : ∀ n H1, a ≤ n → n ≤ b → Rf fa m H H1 → tSeq (tFor (iRng1 fun _ H' Q' => Q' [.int n] H') gg tu) tz D σ H1) (hm : m ≤ B := by omega) : tSeq (tFor (iRng1 (tCons te tNil)) gg tu) tz D σ H := h H (G.mono hm) _ fun v H1 ⟨n, hn, h1, h2⟩ R => by
  subst hn
  exact k n H1 h1 h2 R
theorem s_retIf {D : Ends} {H : Hp} {b : Bool} {tu : TT} (h : EvT tu σ H b) (h1 : b = true → ∀ H1, Ex H H1 → tRet ta D σ H1) (h2 : b = false → ∀ H1, Ex H H1 → tRet tb D σ H1) : tRet (tIf tu ta tb) D σ H := h H (Ex.refl H) _ fun H1 e1 => by
  cases b with
  | true => exact h1 rfl H1 e1
  | false => exact h2 rfl H1 e1
theorem s_retIfD {D : Ends} {H : Hp} {B : Nat} {tc td : TE} {a b c d : Int} {f : Int → Int → Bool} (h : Dw fa σ m1 tc (GdI a b)) (h' : Dw fa σ m2 td (GdI c d)) (G : GF fa B H) (h1 : ∀ H1, Rf fa (m1 + m2) H H1 → tRet ta D σ H1) (h2 : ∀ H1, Rf fa (m1 + m2) H H1 → tRet tb D σ H1) (hm : m1 + m2 ≤ B := by omega) : tRet (tIf (tTest (tOp (rI0 fun i j => .bl (f i j)) tc td)) ta tb) D σ H := dw_test h h' G _ (fun b H1 R => by
  cases b with
  | true => exact h1 H1 R
  | false => exact h2 H1 R) hm
/-- a fresh list is written at -/
theorem Rf.exc {H H1 H2 : Hp} {p : Addr} (a : Rf fa m H H1) (h : Exc (fun c => c = p) H1 H2) (hp : H p = none) (hne : p ≠ fa) : Rf fa m H H2 := ⟨fun c o hc hs => h c o (fun z => by rw [z, hp] at hs; cases hs) (a.keep c o hc hs), fun n hn hF => by
  obtain ⟨x, b, c, e', h1, h2⟩ := a.feed n hn hF
  exact ⟨x, b, c, e', h _ _ (Ne.symm hne) h1, h2⟩⟩
theorem atI_back2 {α : Type} (xs : List α) (a b : α) : atI (xs ++ [a] ++ [b]) (-2) = some a := by
  have hl : (xs ++ [a] ++ [b]).length = xs.length + 2 := by simp
  have e : ixN (xs ++ [a] ++ [b]).length (-2) = some xs.length := by
    unfold ixN
    rw [if_neg (by decide), hl, if_pos (by omega)]
    congr 1
    omega
  unfold atI
  rw [e]
  simp
/-- [.., .., ..][i], returned -/
theorem s_ix3 {D : Ends} {H : Hp} {t1 t2 t3 tw : TE} (h : t1 σ H fun v1 H1 => t2 σ H1 fun v2 H2 => t3 σ H2 fun v3 H3 => [v1, v2, v3].length ≤ sizeLine ∧ ∀ p, H3 p = none → tw σ (upd H3 p (.lst [v1, v2, v3])) fun i H4 => L2.rIxL K (.ref p) i H4 D.rt) : tRet (tOp (L2.rIxL K) (tLst (tCons t1 (tCons t2 (tCons t3 tNil)))) tw) D σ H := h
end
end Wc
set_option Elab.async false
set_option linter.all false
set_option maxRecDepth 100000
set_option maxHeartbeats 4000000
/-! sets of texts: filled out of a list, sorted -/
namespace Wt
open PySem PySem.Spec PyProof.Rows L2
/-- the text that a value is -/
def txOf : Value → Str
  | .str k _ => k
  | _ => Str.empty
/-- an entry whose value is a text -/
def Ent (P : Program) (w : World) (e : Int × Value) : Prop := ∃ (k : Str) (u : Tok), e.2 = .str k u ∧ e.1 = (PySem.strKind P w).hash k
def ek (e : Int × Value) : Str := txOf e.2
/-- entries and table hold just the texts l -/
structure Pay (P : Program) (w : World) (es : Array (Int × Value)) (t : SetTable) (l : List Str) : Prop where
  ents : ∀ e ∈ es.toList, Ent P w e
  keys : (es.toList.map ek).Perm l
  nd : l.Nodup
  few : es.size < scanBound
  fit : t.fits es.size = true
  ris : Ris t.place.toList
  led : w.params.followText "set-order" = true ∨ t.led = true
def SetX (P : Program) (w : World) (h : Heap) (a : Addr) (l : List Str) : Prop := ∃ o es ep t, h.get? a = some o ∧ o.ExactSet ∧ o.data = .set es ep t ∧ Pay P w es t l
section
variable {P : Program} {w : World} {h h' : Heap} {a : Addr} {l : List Str} {es es1 : Array (Int × Value)} {t t1 : SetTable}
theorem SetX.at (R : SetX P w h a l) (k : ∀ o, h.get? a = some o → h'.get? a = some o) : SetX P w h' a l := by
  obtain ⟨o, es, ep, t, ho, r⟩ := R
  exact ⟨o, es, ep, t, k o ho, r⟩
theorem ent_is {e : Int × Value} (g : Ent P w e) (k : Str) : (PySem.strKind P w).is k e.2 = true ↔ ek e = k := by
  obtain ⟨k0, u, h1, _⟩ := g
  unfold ek
  rw [h1]
  show (Value.isStrOf k (.str k0 u) = true) ↔ k0 = k
  simp [Value.isStrOf]
theorem Pay.size (p : Pay P w es t l) : es.size = l.length := by
  have := p.keys.length_eq
  rw [List.length_map, Array.length_toList] at this
  exact this
theorem Pay.elems (p : Pay P w es t l) : ElemsOf (PySem.strKind P w) es.toList := fun e he => by
  obtain ⟨k, u, h1, h2⟩ := p.ents e he
  exact ⟨⟨k, by rw [h1]; exact PySem.strKind_is P w k u, h2⟩, by rw [h1]; rfl⟩
theorem Pay.mem (p : Pay P w es t l) (k : Str) : k ∈ l ↔ ∃ e ∈ es.toList, (PySem.strKind P w).is k e.2 = true := by
  rw [← p.keys.mem_iff, List.mem_map]
  exact ⟨fun ⟨e, he, q⟩ => ⟨e, he, (ent_is (p.ents e he) k).mpr q⟩, fun ⟨e, he, q⟩ => ⟨e, he, (ent_is (p.ents e he) k).mp q⟩⟩
/-- laid anew -/
theorem Pay.anew (p : Pay P w es t l) (pm : es1.toList.Perm es.toList) (hf : t1.fits es1.size = true) (hr : Ris t1.place.toList) (hl : t1.led = t.led) : Pay P w es1 t1 l where
  ents := fun e he => p.ents e (pm.mem_iff.mp he)
  keys := (pm.map ek).trans p.keys
  nd := p.nd
  few := by
    have := pm.length_eq
    rw [Array.length_toList, Array.length_toList] at this
    rw [this]
    exact p.few
  fit := hf
  ris := hr
  led := p.led.imp id fun z => hl.trans z
/-- one more -/
theorem Pay.more {k : Str} {u : Tok} (p : Pay P w es t l) (hk : k ∉ l) (room : l.length + 1 < scanBound) (pm : es1.toList.Perm (es.push ((PySem.strKind P w).hash k, .str k u)).toList) (hf : t1.fits es1.size = true) (hr : Ris t1.place.toList) (hl : t1.led = t.led) : Pay P w es1 t1 (k :: l) := by
  rw [Array.toList_push] at pm
  have pc := pm.trans (List.perm_append_singleton _ _)
  have pk : (es1.toList.map ek).Perm (k :: es.toList.map ek) := pc.map ek
  refine ⟨fun e he => ?_, pk.trans (p.keys.cons k), List.nodup_cons.mpr ⟨hk, p.nd⟩, ?_, hf, hr, p.led.imp id fun z => hl.trans z⟩
  · rcases List.mem_cons.mp (pc.mem_iff.mp he) with z | z
    · rw [z]
      exact ⟨k, u, rfl, rfl⟩
    · exact p.ents e z
  · have := pc.length_eq
    rw [List.length_cons, Array.length_toList, Array.length_toList, p.size] at this
    rw [this]
    exact room
end
section
variable {P : Program} {w : World} {A : Around} {E : Value → Shared → Prop} {s : Shared} {a : Addr} {l : List Str}
/-- behind the table's own step -/
theorem add_end {g : Bool → Sem Unit} (hg : ∀ (b : Bool) (s1 : Shared) (Q' : Unit → Shared → Prop), Q' () s1 → wpAny (model P w) A (g b) Q' E s1) {o : Obj} {es es1 : Array (Int × Value)} {ep : Nat} {t t2 : SetTable} {l2 : List Str}
    (ho : s.heap.get? a = some o) (hex : o.ExactSet) (hd : o.data = .set es ep t) (p : Pay P w es1 t2 l2) {dm : Bool} {R : Option Bool → Shared → Prop} (hR : ∀ h', Heap.SameBut a s.heap h' → SetX P w h' a l2 → R (some true) { s with heap := h' }) :
    wpAny (model P w) A (do
        storeSet a es1 t2
        if (!dm && t2.tooFull) = true then do
            g (relayAll t2 es1 (SetTable.grown es1.size)).2.2
            storeSet a (relayAll t2 es1 (SetTable.grown es1.size)).1 (relayAll t2 es1 (SetTable.grown es1.size)).2.1
            pure (some true)
          else pure (some true)) R E s := by
  have hz := fits_of_scanBound p.few
  refine wpAny_bind (wpAny_storeSet_of ho hd ?_ hz)
  have at1 := store_at (es' := es1) (t' := t2) ho hd
  have same1 := Heap.SameBut.update s.heap a (Obj.putSet es1 t2)
  by_cases c : (!dm && t2.tooFull) = true
  · rw [if_pos c]
    have p2 := p.anew (relayAll_perm t2 es1 (SetTable.grown es1.size)) (relayAll_fits t2 es1 _) (relayAll_ris t2 es1 _) (relayAll_led t2 es1 _)
    generalize relayAll t2 es1 (SetTable.grown es1.size) = Z at p2 ⊢
    refine wpAny_bind (hg _ _ _ ?_)
    refine wpAny_bind (wpAny_storeSet_of at1 rfl ?_ (fits_of_scanBound p2.few))
    exact wpAny_pure (hR _ (same1.trans (Heap.SameBut.update _ a _)) ⟨_, Z.1, _, Z.2.1, store_at (es' := Z.1) (t' := Z.2.1) at1 rfl, hex, rfl, p2⟩)
  · rw [if_neg c]
    exact wpAny_pure (hR _ same1 ⟨_, es1, _, t2, at1, hex, rfl, p⟩)
theorem add_text {k : Str} {u : Tok} {Q : Bool → Shared → Prop} (R : SetX P w s.heap a l) (room : l.length + 1 < scanBound)
    (hQ : ∀ h' b, Heap.SameBut a s.heap h' → SetX P w h' a (if k ∈ l then l else k :: l) → Q b { s with heap := h' }) : wpAny (model P w) A (setAddHashed a (.str k u) ((PySem.strKind P w).hash k)) Q E s := by
  obtain ⟨o, es, ep, t, ho, hex, hd, p⟩ := id R
  have is1 : (PySem.strKind P w).is k (.str k u) = true := PySem.strKind_is P w k u
  unfold setAddHashed setAddHashedIn
  refine wpAny_holding (wpAny_bind (wpAny_setState_of ho hd p.fit ?_))
  dsimp only
  rw [byScan_of (x := Value.str k u) rfl p.few p.elems, if_pos rfl]
  unfold setAddByScan
  refine wpAny_bind (wpAny_bind (wpAny_rule (wpAny_bind (wpAny_setScan_of is1 ho hd p.fit p.elems ?_))))
  cases hfi : List.findIdx? (fun e => (PySem.strKind P w).is k e.2) es.toList with
  | some j =>
    obtain ⟨hj, pj, _⟩ := List.findIdx?_eq_some_iff_getElem.mp hfi
    have hin : k ∈ l := (p.mem k).mpr ⟨es.toList[j], List.getElem_mem hj, pj⟩
    dsimp only
    refine wpAny_pure (wpAny_pure ?_)
    have q := hQ s.heap false (Heap.SameBut.refl a s.heap)
    rw [if_pos hin] at q
    exact q R
  | none =>
    have hno : k ∉ l := fun z => by
      obtain ⟨e, he, q⟩ := (p.mem k).mp z
      have c := List.findIdx?_eq_none_iff.mp hfi e he
      rw [q] at c
      cases c
    dsimp only
    have p1 := p.more (u := u) hno room (layNew_perm t es _ _) (layNew_fits t es _ _) (layNew_ris t es _ _ p.ris) (layNew_led t es _ _)
    generalize layNew t es ((PySem.strKind P w).hash k) (.str k u) = Z at p1 ⊢
    obtain ⟨es1, t1, dm, gave⟩ := Z
    dsimp only at p1 ⊢
    have both : ∀ (g : Bool) {s1 : Shared} {Q' : Unit → Shared → Prop}, Q' () s1 → wpAny (model P w) A (match g with | true => rule "set.scan.the-table-gave-way" | false => pure ()) Q' E s1 := fun g s1 Q' q => by
      cases g
      · exact wpAny_pure q
      · exact wpAny_rule q
    have fin : ∀ h', Heap.SameBut a s.heap h' → SetX P w h' a (k :: l) → Q true { s with heap := h' } := fun h' sb r => hQ h' true sb (by rw [if_neg hno]; exact r)
    refine wpAny_bind (both _ ?_)
    by_cases hp : t1.plain = true
    · rw [if_pos hp]
      refine wpAny_bind ?_
      rw [hashByValue_scannable 8 (x := Value.str k u) rfl]
      refine wpAny_pure ?_
      have p2 : Pay P w es1 { t1 with plain := false } (k :: l) := ⟨p1.ents, p1.keys, p1.nd, p1.few, SetTable.fits_plain_off p1.fit, p1.ris, p1.led⟩
      refine add_end (l2 := k :: l) ?_ ho hex hd (by split <;> first | exact p1 | exact p2) fun h' sb r => wpAny_pure (fin h' sb r)
      exact fun b s1 Q' q => by cases b <;> first | exact wpAny_pure q | exact wpAny_rule q
    · rw [if_neg hp]
      refine wpAny_bind (wpAny_pure ?_)
      refine add_end (l2 := k :: l) ?_ ho hex hd (by rw [if_pos rfl]; exact p1) fun h' sb r => wpAny_pure (fin h' sb r)
      exact fun b s1 Q' q => by cases b <;> first | exact wpAny_pure q | exact wpAny_rule q
/-- the set as set() makes it -/
abbrev so (w : World) : Obj := { cls := .type "set", dict := none, data := .set #[] 0 (.fresh 0 0 (!w.params.followText "set-order")) }
theorem SetX.new {h : Heap} (ho : h.get? a = some (so w)) : SetX P w h a [] := ⟨_, #[], 0, _, ho, ⟨rfl, rfl, rfl⟩, rfl, fun e he => by simp at he, List.Perm.refl _, List.nodup_nil, by decide, by rfl, List.Pairwise.nil, by
  show _ ∨ (!w.params.followText "set-order") = true
  cases w.params.followText "set-order" <;> simp⟩
/-- what is met among the first ones -/
structure Met (xs : List Str) (i : Nat) (l : List Str) : Prop where
  nd : l.Nodup
  mem : ∀ x, x ∈ l ↔ x ∈ xs.take i
  len : l.length ≤ i
theorem Met.next {xs l : List Str} {i : Nat} {x : Str} (m : Met xs i l) (h : xs[i]? = some x) : Met xs (i + 1) (if x ∈ l then l else x :: l) := by
  have e : xs.take (i + 1) = xs.take i ++ [x] := by rw [List.take_add_one, h]; rfl
  by_cases hx : x ∈ l
  · rw [if_pos hx]
    refine ⟨m.nd, fun y => ?_, Nat.le_succ_of_le m.len⟩
    rw [e, List.mem_append, m.mem y]
    exact ⟨.inl, fun z => z.elim id fun z => by rw [List.mem_singleton.mp z]; exact (m.mem x).mp hx⟩
  · rw [if_neg hx]
    refine ⟨List.nodup_cons.mpr ⟨hx, m.nd⟩, fun y => ?_, Nat.succ_le_succ m.len⟩
    rw [e, List.mem_append, List.mem_cons, List.mem_singleton, m.mem y]
    exact Or.comm
theorem fill_texts {I S : Addr} {fp wr : List Addr} {G : Array GenState → Array GenState → Prop} {n : Nat} {Pv : Nat → Value → Prop} {St : Nat → Shared → Prop} {R : Result → Shared → Prop} {xs : List Str}
    (W : WalksS P w A.in1 I fp wr G n Pv St) (hS : S ∉ fp) (hn : xs.length = n) (hb : n + 1 < scanBound) (hv : ∀ i v, Pv i v → ∃ x u, xs[i]? = some x ∧ v = .str x u) :
    ∀ (d i : Nat) (s : Shared) (l : List Str), n = i + d → St i s → Met xs i l → SetX P w s.heap S l → (∀ s2 l2, Moved (S :: wr) G s s2 → Met xs n l2 → SetX P w s2.heap S l2 → R (.ok (.ret .none)) s2) →
      codeAny (model P w) A (.builtin "set.update.loop" ⟨[.ref S, .ref I], []⟩) R s := by
  have hw : S ∉ wr := fun z => hS (W.sub _ z)
  have wide : ∀ b ∈ wr, b ∈ S :: wr := fun b z => List.mem_cons_of_mem _ z
  intro d
  induction d with
  | zero =>
    intro i s l hd st m X hR
    obtain rfl : i = n := by omega
    refine codeAny_builtin F.entry_set_update_loop (by
      rw [Around.under_plainId F.plain_set_update_loop _]
      exact wpAny_bind (W.done s _ _ st fun s2 mv => wpAny_pure (hR s2 l (mv.mono wide) m (X.at fun o e => mv.heap S o hw e))))
  | succ d ih =>
    intro i s l hd st m X hR
    refine codeAny_builtin F.entry_set_update_loop (by
      rw [Around.under_plainId F.plain_set_update_loop _]
      refine wpAny_bind (W.item i s _ _ (by omega) st fun v s2 hP st2 mv => ?_)
      obtain ⟨x, u, hx, rfl⟩ := hv i v hP
      have X2 : SetX P w s2.heap S l := X.at fun o e => mv.heap S o hw e
      have hl := m.len
      refine wpAny_bind (m := holding [Value.str x u] (setAdd S (.str x u))) (wpAny_holding ?_)
      unfold setAdd
      refine wpAny_holding (wpAny_bind ((PySem.strKind P w).pyHash (k := x) (PySem.strKind_is _ _ _ _) ?_))
      refine add_text (s := { s2 with toks := s2.toks + 1 }) X2 (by omega) fun h' b sb X3 => wpAny_pure ⟨plainId_quiet F.plain_set_update_loop _, ?_⟩
      refine ih (i + 1) _ _ (by omega) (W.frame _ s2 _ _ st2 (Nat.le_succ _) fun c hc o e => ?_) (m.next hx) X3 fun s3 l3 mv3 m3 X4 => hR s3 l3 (Moved.trans W.gtrans ((mv.mono wide).then_heap (Nat.le_succ _) fun c o hc e => ?_) mv3) m3 X4
      · rw [sb.2 c fun z => hS (z ▸ hc)]
        exact e
      · rw [sb.2 c fun z => hc (z ▸ List.mem_cons_self)]
        exact e)
set_option maxHeartbeats 3200000 in
theorem call_set_texts {src : Addr} {its : Array Value} {xs : List Str} {Q : Value → Shared → Prop} (noH : A.handled = none) (isl : s.heap.IsList src its) (hit : StrsAre its.toList xs) (room : xs.length + 1 < scanBound)
    (fin : ∀ (h2 : Heap) (tk : Nat) (l : List Str), Met xs xs.length l → SetX P w h2 s.heap.objs.size l → (∀ b o, s.heap.get? b = some o → h2.get? b = some o) → Q (.ref s.heap.objs.size) { s with heap := h2, toks := tk }) :
    wpAny (model P w) A (call (.type "set") [.ref src]) Q E s := by
  have lx : xs.length = its.size := by rw [← Array.length_toList, hit.len_eq]
  obtain ⟨c, tl, q0⟩ := PySem.F.called_set.mro
  have q1 := PySem.F.called_set.made; have q2 := PySem.F.called_set.sub
  refine wpAny_call (codeAny_of_tree (wpAny_pure ⟨Code.quiet_builtin _ (by decide +kernel), codeAny_builtin PySem.F.entry_type_call ?_⟩))
  rw [Around.under_plain (weight_type_call_type "set" [.ref src] []) rfl]
  have q3 := PySem.F.called_set.notType; have q4 := PySem.F.called_set.canCreate
  have q5 := PySem.F.typeCall_set_1 (.ref src)
  repeat (any_goals (first | assumption | wp_step))
  refine codeAny_mono (code_set_led1 (.ref src) (E := E) (Q₁ := fun ob t1 => ob = .ref s.heap.objs.size ∧ t1 = { s with heap := s.heap.push (so w) }) ⟨rfl, rfl⟩) fun r t1 hr => ?_
  match r, hr with
  | .error e, hr => exact hr
  | .ok (.ret ob), hr =>
    obtain ⟨rfl, rfl⟩ := hr
    have atS : (s.heap.push (so w)).get? s.heap.objs.size = some (so w) := Heap.get?_push_size _ rfl
    have tyS : Shared.TypeIs { s with heap := s.heap.push (so w) } (.ref s.heap.objs.size) "set" := ⟨_, atS, rfl⟩
    have q6 := PySem.F.called_set.init.lookup
    have q7 := PySem.F.called_set.init.bind (.ref s.heap.objs.size)
    repeat (any_goals (first | assumption | wp_step))
    refine codeAny_mono (codeAny_call_builtin (R := wants (fun r t2 => r = .none ∧ ∃ h2 tk l, t2 = { s with heap := h2, toks := tk } ∧ Met xs xs.length l ∧ SetX P w h2 s.heap.objs.size l ∧ ∀ b o, s.heap.get? b = some o → h2.get? b = some o) E) PySem.F.called_set.init.plain PySem.F.entry_set_init (check_set_init_1 tyS ?_)) fun r2 t2 hr2 => ?_
    · obtain ⟨ol, atl, cl, nl, dl⟩ := isl
      obtain ⟨ocls, odict, odata, oslots⟩ := ol
      simp only at cl dl
      subst cl; subst dl
      have lt := Heap.lt_size atl
      have isl2 : (s.heap.push (so w)).IsList src its := ⟨_, Heap.get?_push_of_some _ atl, rfl, nl, rfl⟩
      have q8 := PySem.F.sub_list_set; have q9 := PySem.F.sub_list_frozenset
      have q10 : (Value.type "list" == Value.type "dict") = false := by decide
      have atl2 : (s.heap.push (so w)).get? src = some { cls := .type "list", dict := odict, data := .seq its nl, slots := oslots } := Heap.get?_push_of_some _ atl
      unfold Builtin.«set.__init__» noKeywords Builtin.Frozenset.updateFrom
      generalize hI : pyIter = iter
      wp_walk
      subst hI
      refine wpAny_pyIter_list isl2 (wpAny_bind (wpAny_runValue ?_))
      have no3 : A.in1.in1.in1.handled = none := by simp [noH]
      have zI : (s.heap.push (so w)).objs.size = s.heap.objs.size + 1 := Heap.size_push ..
      have ne1 : src ≠ (s.heap.push (so w)).objs.size := by rw [zI]; exact Nat.ne_of_lt (Nat.lt_succ_of_lt lt)
      have out1 : s.heap.objs.size ∉ [(s.heap.push (so w)).objs.size, src] := by
        rw [zI]
        intro z
        rcases List.mem_cons.mp z with z | z
        · exact absurd z (Nat.ne_of_lt (Nat.lt_succ_self _))
        · exact absurd (List.mem_singleton.mp z) (Nat.ne_of_gt lt)
      refine fill_texts (P := P) (xs := xs) ((Walks.list no3 _ src ne1 its).toS) out1 lx (by rw [← lx]; exact room) (fun i v hv => ?_) its.size 0 _ [] (by omega) ⟨⟨_, Heap.get?_push_size _ rfl, rfl, rfl⟩, isl2.push _⟩ ⟨List.nodup_nil, fun x => by simp, Nat.le_refl _⟩ (SetX.new (Heap.get?_push_of_some _ atS)) fun s2 l2 mv m2 X2 => ?_
      · obtain ⟨y, u, h1, h2⟩ := hit.item i v (by rw [Array.getElem?_toList]; exact hv)
        exact ⟨y, u, h2, h1⟩
      · obtain ⟨h2, g2, d2, tk2, os2⟩ := s2
        obtain rfl : g2 = s.gens := mv.gens
        obtain rfl : d2 = s.drawn := mv.drawn
        obtain rfl : os2 = s.os := mv.os
        rw [← lx] at m2
        show wpAny _ _ (Bind.bind (pure _) _) _ _ _
        refine wpAny_pure (wpAny_pure ⟨rfl, h2, tk2, l2, rfl, m2, X2, fun b o e => ?_⟩)
        have hb := Heap.lt_size e
        refine mv.heap b o (fun z => ?_) (Heap.get?_push_of_some _ (Heap.get?_push_of_some _ e))
        rw [zI] at z
        rcases List.mem_cons.mp z with z | z
        · exact absurd z (Nat.ne_of_lt hb)
        · exact absurd (List.mem_singleton.mp z) (Nat.ne_of_lt (Nat.lt_succ_of_lt hb))
    · match r2, hr2 with
      | .error e, hr2 => exact hr2
      | .ok (.ret v2), hr2 =>
        obtain ⟨rfl, h2, tk, l, rfl, m, X, k⟩ := hr2
        repeat (any_goals (first | assumption | wp_step))
        exact fin _ _ _ m X k
end
end Wt
set_option Elab.async false
set_option linter.all false
set_option maxRecDepth 100000
set_option maxHeartbeats 4000000
/-! sorted(texts), set(texts), sorted(set) as rules -/
namespace Wt
open PySem PySem.Spec PyProof.Rows L2 Wc
/-- texts in the sequence of their signs -/
def sortT (xs : List Tx) : List Tx := xs.mergeSort (fun a b => decide (a ≤ b))
theorem sortT_perm (xs : List Tx) : (sortT xs).Perm xs := List.mergeSort_perm _ _
theorem sortT_len (xs : List Tx) : (sortT xs).length = xs.length := List.length_mergeSort _
theorem sortT_mem {xs : List Tx} {t : Tx} : t ∈ sortT xs ↔ t ∈ xs := (sortT_perm xs).mem_iff
theorem sortT_pw (xs : List Tx) : (sortT xs).Pairwise (· ≤ ·) := by
  have h := List.pairwise_mergeSort (le := fun a b : Tx => decide (a ≤ b)) (fun a b c h1 h2 => decide_eq_true (List.le_trans (of_decide_eq_true h1) (of_decide_eq_true h2))) (fun a b => by
    rcases List.le_total a b with h | h
    · simp [h]
    · simp [h]) xs
  exact h.imp fun z => of_decide_eq_true z
theorem enc_le : (PySem.W.dataLe false fun b : Tx => PyData.str (SX.S b)) = fun a b => decide (a ≤ b) := by
  rw [PySem.W.dataLe_str]
theorem alike_tx (xs : List Tx) : PySem.W.AllAlike (xs.map fun b => PyData.str (SX.S b)) := by
  intro d hd d' hd'
  obtain ⟨a, _, rfl⟩ := List.mem_map.mp hd
  obtain ⟨b, _, rfl⟩ := List.mem_map.mp hd'
  rfl
theorem sortable_tx (xs : List Tx) : PySem.W.Sortable (xs.map fun b => PyData.str (SX.S b)) := by
  refine .inr fun d hd => ?_
  obtain ⟨a, _, rfl⟩ := List.mem_map.mp hd
  exact ⟨fun z => (nomatch z), fun _ z => (nomatch z)⟩
theorem reads_tx {h : Heap} {vs : List Value} {xs : List Tx} (e : PySem.W.EachIs IsT vs xs) : PySem.W.EachIs (fun v b => ∃ as, Reads h v (PyData.str (SX.S b)) as) vs xs := e.mono fun v b ⟨t, hv⟩ => ⟨[], by rw [hv]; exact .str _ _⟩
theorem reads_out {h : Heap} {a : Addr} {vs : List Value} {xs : List Tx} (e : PySem.W.EachIs IsT vs xs) : PySem.W.EachIs (fun v b => ∃ as, Reads h v (PyData.str (SX.S b)) as ∧ a ∉ as) vs xs := e.mono fun v b ⟨t, hv⟩ => ⟨[], by rw [hv]; exact .str _ _, fun z => nomatch z⟩
theorem strs_of_each : ∀ {vs : List Value} {xs : List Tx}, PySem.W.EachIs IsT vs xs → StrsAre vs (xs.map SX.S)
  | _, _, .nil => .nil
  | _, _, .cons ⟨t, rfl⟩ r => .cons _ t (strs_of_each r)
section
variable {X : Cx}
def rSortTx (K : PySem.W.Frag) : List V → Hp → VK → Prop := fun vs H Q => ∃ (p : Addr) (xs : List Tx), vs = [.ref p] ∧ SqL K H p (xs.map T) ∧ ∀ q, H q = none → Q (.ref q) (upd H q (.lst ((sortT xs).map T)))
theorem cr_sortTx (hu : X.A.units + 64 < cLine) : CallR X (.builtin "sorted") (rSortTx X.K) := by
  intro pins s σ H vs us Q I r h
  obtain ⟨p, xs, rfl, hp, q⟩ := h
  rw [Vals.ref1 r]
  obtain ⟨its, rv, pl, hz⟩ := I.list hp
  rw [List.length_map] at hz
  have ev := each_of_vals rv
  refine PySem.W.sorted_data (R := IsT) (enc := fun b : Tx => PyData.str (SX.S b)) pl.isList ev (reads_tx ev) (alike_tx xs) (sortable_tx xs) hz (fun b _ => ?_) fun out hlen eo => ?_
  · show X.A.units + 2 + _ < cLine
    have : (PyData.str (SX.S b)).depth ≤ 1 := by simp [PyData.depth]
    omega
  · rw [enc_le] at eo
    obtain ⟨c, hc⟩ := sortedAll_at s.heap its out.toArray
    have hn : H (s.heap.objs.size + 1) = none := I.hok.fresh (Nat.le_succ _)
    refine ⟨.ref _, upd H (s.heap.objs.size + 1) (.lst ((sortT xs).map T)), I.laid (t' := s.toks) (fun b u e => sortedAll_old e) (Nat.le_succ _) ⟨?_, out, c, vals_of_each eo, hc⟩, rfl, q _ hn⟩
    rw [List.length_map, sortT_len]
    exact hz
/-- the set of these texts -/
def SetXO (P : Program) (w : World) (a : Addr) (l : List Str) : HO := .ext fun h => SetX P w h a l
theorem setXO_new {w : World} {P : Program} {H : Hp} {h : Heap} {a : Addr} {l : List Str} (R : SetX P w h a l) : ObjOk P w H h a (SetXO P w a l) := by
  have ⟨o, _, _, _, ho, _⟩ := R
  exact ⟨R, ⟨o, ho⟩, fun h1 h2 p k => SetX.at p k⟩
/-- the texts without repetition -/
structure Uniq (xs ys : List Tx) : Prop where
  nd : ys.Nodup
  mem : ∀ x, x ∈ ys ↔ x ∈ xs
def rSetTx (K : PySem.W.Frag) (P : Program) (w : World) : List V → Hp → VK → Prop := fun vs H Q => ∃ (p : Addr) (xs : List Tx), vs = [.ref p] ∧ SqL K H p (xs.map T) ∧ xs.length ≤ 4000 ∧ ∀ q ys, Uniq xs ys → ys.length ≤ xs.length → H q = none → Q (.ref q) (upd H q (SetXO P w q (ys.map SX.S)))
theorem tx_back (l : List Str) : l = (l.map fun x => x.cps.toList).map SX.S := by
  rw [List.map_map]
  conv => lhs; rw [← List.map_id l]
  apply List.map_congr_left
  intro x _
  rfl
theorem S_inj {a b : Tx} (h : SX.S a = SX.S b) : a = b := by
  have := congrArg (fun x : Str => x.cps.toList) h
  simpa using this
theorem uniq_of {xs : List Tx} {l : List Str} (m : Met (xs.map SX.S) (xs.map SX.S).length l) : ∃ ys, l = ys.map SX.S ∧ Uniq xs ys ∧ ys.length ≤ xs.length := by
  refine ⟨_, tx_back l, ⟨?_, fun x => ?_⟩, ?_⟩
  · have nd := m.nd
    rw [tx_back l] at nd
    exact List.Pairwise.of_map SX.S (fun a b hne e => hne (congrArg SX.S e)) nd
  · have h := m.mem (SX.S x)
    rw [List.take_length] at h
    constructor
    · intro hx
      obtain ⟨y, hy, rfl⟩ := List.mem_map.mp hx
      obtain ⟨z, hz, e⟩ := List.mem_map.mp (h.mp hy)
      rw [← S_inj e]
      exact hz
    · intro hx
      have h2 := h.mpr (List.mem_map.mpr ⟨x, hx, rfl⟩)
      exact List.mem_map.mpr ⟨_, h2, rfl⟩
  · rw [List.length_map]
    have := m.len
    rw [List.length_map] at this
    exact this
theorem cr_setTx (hc : X.calm = true) : CallR X (.type "set") (rSetTx X.K X.prog X.w) := by
  intro pins s σ H vs us Q I r h
  obtain ⟨p, xs, rfl, hp, hl, q⟩ := h
  rw [Vals.ref1 r]
  obtain ⟨its, rv, pl, hz⟩ := I.list hp
  refine call_set_texts (P := X.prog) (xs := xs.map SX.S) (I.ok.hd hc) pl.isList (by simpa using strs_of_each (each_of_vals rv)) (by rw [List.length_map]; unfold scanBound; omega) fun h2 tk l m R k => ?_
  obtain ⟨ys, rfl, u, hly⟩ := uniq_of m
  have hn : H s.heap.objs.size = none := I.hok.fresh (Nat.le_refl _)
  exact ⟨.ref _, upd H s.heap.objs.size (SetXO X.prog X.w s.heap.objs.size (ys.map SX.S)), I.laid (t' := tk) k (Nat.le_refl _) (setXO_new R), rfl, q _ ys u hly hn⟩
def rSortSet (P : Program) (w : World) : List V → Hp → VK → Prop := fun vs H Q => ∃ (a : Addr) (ys : List Tx), vs = [.ref a] ∧ H a = some (SetXO P w a (ys.map SX.S)) ∧ ∀ zs q, zs.Perm ys → H q = none → Q (.ref q) (upd H q (.lst ((sortT zs).map T)))
theorem ents_texts {P : Program} {w : World} : ∀ {l : List (Int × Value)}, (∀ e ∈ l, Ent P w e) → PySem.W.EachIs IsT (l.map (·.2)) (l.map fun e => (ek e).cps.toList)
  | [], _ => .nil
  | e :: l, h => .cons (by
      obtain ⟨k, u, h1, _⟩ := h e List.mem_cons_self
      refine ⟨u, ?_⟩
      show e.2 = .str (SX.S (ek e).cps.toList) u
      unfold ek
      rw [h1]
      rfl) (ents_texts fun x hx => h x (List.mem_cons_of_mem _ hx))
theorem each_perm {vs ws : List Value} {xs : List Tx} (e : PySem.W.EachIs IsT ws xs) (p : vs.Perm ws) : ∃ zs, zs.Perm xs ∧ PySem.W.EachIs IsT vs zs := by
  have key : ∀ {us : List Value} {zs : List Tx}, PySem.W.EachIs IsT us zs → zs = us.map (fun v => (txOf v).cps.toList) := by
    intro us zs h
    induction h with
    | nil => rfl
    | cons h1 _ ih =>
      obtain ⟨t, rfl⟩ := h1
      rw [List.map_cons, ← ih]
      rfl
  have all : ∀ {us : List Value} {zs : List Tx}, PySem.W.EachIs IsT us zs → ∀ v ∈ us, ∃ k t, v = Value.str k t := by
    intro us zs h
    induction h with
    | nil => intro v hv; cases hv
    | cons h1 _ ih =>
      intro v hv
      obtain ⟨t, rfl⟩ := h1
      rcases List.mem_cons.mp hv with rfl | hv
      · exact ⟨_, t, rfl⟩
      · exact ih v hv
  have hv : ∀ v ∈ vs, ∃ k t, v = Value.str k t := fun v h => all e v (p.mem_iff.mp h)
  refine ⟨vs.map fun v => (txOf v).cps.toList, ?_, ?_⟩
  · rw [key e]
    exact p.map _
  · clear p
    induction vs with
    | nil => exact .nil
    | cons v vs ih =>
      refine .cons ?_ (ih fun x hx => hv x (List.mem_cons_of_mem _ hx))
      obtain ⟨k, t, rfl⟩ := hv v List.mem_cons_self
      exact ⟨t, rfl⟩
theorem cr_sortSet (hc : X.calm = true) (hu : X.A.units + 64 < cLine) : CallR X (.builtin "sorted") (rSortSet X.prog X.w) := by
  intro pins s σ H vs us Q I r h
  obtain ⟨a, ys, rfl, ha, q⟩ := h
  rw [Vals.ref1 r]
  obtain ⟨o, es, ep, t, ho, hex, hd, py⟩ := (I.hok a _ ha).1
  refine Calls.call_function_entry kind_sorted plain_sorted entry_sorted (args_sorted1 _) ?_
  unfold Builtin.«sorted»
  refine wpAny_bind (m := checkCount "sorted" 1 1 _) (wpAny_pure (wpAny_bind (collect_set (A := X.A.in1) (I.ok.hd hc) ⟨o, ho, hex.1, hd⟩ py.fit py.few py.ris py.led fun s1 ws k1 sz g1 o1 pm => ?_)))
  obtain ⟨zs, pz, ez⟩ := each_perm (ents_texts py.ents) pm
  have few := py.few
  have lw : ws.length = es.size := by rw [pm.length_eq, List.length_map, Array.length_toList]
  have small : ws.length ≤ sizeLine := by
    rw [lw]
    exact fits_of_scanBound few
  refine wpAny_bind (wpAny_newList ?_ small)
  have atL : (s1.heap.push (seqObj "list" ws.toArray 0)).get? s1.heap.objs.size = some (seqObj "list" ws.toArray 0) := Heap.get?_push_size _ rfl
  refine wpAny_bind (wpAny_holding (PySem.W.list_sort_data (s := { s1 with heap := s1.heap.push (seqObj "list" ws.toArray 0) }) (R := IsT) (enc := fun b : Tx => PyData.str (SX.S b)) atL ez (reads_out ez) (alike_tx zs) (sortable_tx zs) (by rw [← ez.length]; exact small) (fun b _ => ?_) fun out hlen eo => ?_))
  · show X.A.in1.units + 1 + _ < cLine
    have h1 : X.A.in1.units ≤ X.A.units + 8 := by
      show X.A.units + _ ≤ _
      first | omega | exact Nat.add_le_add_left (by decide) _
    have : (PyData.str (SX.S b)).depth ≤ 1 := by simp [PyData.depth]
    omega
  · rw [enc_le] at eo
    obtain ⟨c, hc2⟩ := sortedHeap_at (vs := ws) (out := out.toArray) atL
    have pzy : zs.Perm ys := by
      refine pz.trans ?_
      have h1 := py.keys.map (fun x : Str => x.cps.toList)
      rw [List.map_map, List.map_map] at h1
      exact h1.trans (by rw [show ((fun x : Str => x.cps.toList) ∘ SX.S) = (fun x : Tx => x) from by funext x; simp, List.map_id'])
    have kk : ∀ b u, s.heap.get? b = some u → (sortedHeap (s1.heap.push (seqObj "list" ws.toArray 0)) s1.heap.objs.size ws out.toArray).get? b = some u := fun b u e => by
      have lt := Heap.lt_size (k1 b u e)
      rw [sortedHeap_old (Nat.ne_of_lt lt) (by rw [size_push']; exact Nat.lt_succ_of_lt lt)]
      exact Heap.get?_push_of_some _ (k1 b u e)
    have hn : H s1.heap.objs.size = none := I.hok.fresh sz
    have J := I.call (ch := []) (g' := s1.gens) (d' := s1.drawn) (t' := s1.toks) (Un.laid kk sz hn) (I.hok.laid kk sz (o := .lst ((sortT zs).map T)) ⟨by rw [List.length_map, sortT_len, ← ez.length]; exact small, out, c, vals_of_each eo, hc2⟩) (by rw [g1]; exact I.bare) (fun _ z => nomatch z)
    refine wpAny_pure ⟨_, rfl, .ref s1.heap.objs.size, _, ?_, rfl, q zs _ pzy hn⟩
    have e : ({ s1 with heap := sortedHeap (s1.heap.push (seqObj "list" ws.toArray 0)) s1.heap.objs.size ws out.toArray } : Shared) = { s with heap := sortedHeap (s1.heap.push (seqObj "list" ws.toArray 0)) s1.heap.objs.size ws out.toArray, gens := s1.gens, drawn := s1.drawn, toks := s1.toks } := by
      cases s1
      cases s
      cases o1
      rfl
    rw [e]
    exact J
end
end Wt
set_option Elab.async false
set_option linter.all false
set_option maxRecDepth 100000
set_option maxHeartbeats 2000000
/-! text[::-1]; rules with the part given; lists put behind one another -/
namespace Wt
open PySem PySem.Spec PyProof.Rows L2 Evl Wc
theorem rev_range (a : Tx) : (List.range a.length).map (fun k => a.getD (a.length - 1 - k) 0) = a.reverse := by
  apply List.ext_getElem
  · simp
  · intro i h1 h2
    have hl : i < a.length := by simpa using h1
    rw [List.getElem_map, List.getElem_range, List.getElem_reverse, List.getD_eq_getElem?_getD, List.getElem?_eq_getElem (by omega)]
    rfl
theorem made_rev (a : Tx) (t u : Tok) : sliceMade (SX.S a) t none none (some ((-1 : Int), u)) = .str (SX.S a.reverse) := by
  unfold sliceMade slicePicked
  rw [if_neg (by
    rw [show ((((some ((-1 : Int), u)).map (·.1)).getD 1 == 1)) = false from rfl]
    simp)]
  show Made.str ⟨((Builtin.Str.strSliceIndices none none (-1) (SX.S a).length).filterMap ((SX.S a).cps[·]?)).toArray⟩ = _
  rw [picked_rev, filterMap_get, List.map_map]
  · have e : (SX.S a).length = a.length := S_length a
    rw [e]
    congr 1
    show (⟨((List.range a.length).map fun k => (SX.S a).cps.getD (a.length - 1 - k) 0).toArray⟩ : Str) = SX.S a.reverse
    rw [← rev_range]
    congr 2
    apply List.map_congr_left
    intro k hk
    show a.toArray.getD _ 0 = _
    simp [Array.getD, List.getD_eq_getElem?_getD]
    split
    · rename_i h
      rw [List.getElem?_eq_getElem h]
      rfl
    · rename_i h
      rw [List.getElem?_eq_none (by omega)]
      rfl
  · intro i hi
    obtain ⟨k, hk, rfl⟩ := List.mem_map.mp hi
    have := List.mem_range.mp hk
    show _ < (SX.S a).length
    omega
def tRevT (te : TE) : TE := fun σ H Q => te σ H fun x H1 => ∃ a : Tx, x = T a ∧ a.length ≤ 16777216 ∧ Q (T a.reverse) H1
section
variable {X : Cx}
theorem pe_revT {e : Expr} {te : TE} {k : Nat} {p1 p2 p3 pos : Pos} (he : PE X e te) : PE X (.Subscript e (.Slice none none (some (.UnaryOp .USub (.Constant (.int 1) k p1) p2)) p3) pos) (tRevT te) := by
  refine ⟨fun pins s σ H Q I h => Subscript_ (thn (he.run pins s σ H _ I h) fun v s1 ⟨x, H1, I1, r1, q1⟩ => ?_)⟩
  obtain ⟨a, ex, hz, q⟩ := q1
  subst ex
  obtain ⟨t, rfl⟩ := r1
  have neg : PO X (some (.UnaryOp .USub (.Constant (.int 1) k p1) p2)) (tPart (tUn (rU fun i => .int (-i)) (tC (.int 1)))) := po_some (pe_un un_neg pe_int)
  refine wpAny_Slice (thn (po_none.run pins s1 σ H1 (fun o G => o = none ∧ G = H1) I1 ⟨rfl, rfl⟩) fun vl s2 ⟨l, H2, I2, pl, el, e2⟩ => ?_)
  subst el e2
  refine thn (po_none.run pins s2 σ H2 (fun o G => o = none ∧ G = H2) I2 ⟨rfl, rfl⟩) fun vu s3 ⟨u, H3, I3, pu, eu, e3⟩ => ?_
  subst eu e3
  refine thn (neg.run pins s3 σ H3 (fun o G => o = some (-1) ∧ G = H3) I3 ⟨1, rfl, -1, rfl, rfl, rfl⟩) fun vs s4 ⟨o, H4, I4, ps, eo, e4⟩ => ?_
  subst eo e4
  obtain ⟨l', rfl, hl⟩ := IsPart.raw pl
  obtain ⟨u', rfl, hu⟩ := IsPart.raw pu
  obtain ⟨st, rfl, hst⟩ := IsPart.raw ps
  cases l' with
  | some z => cases hl
  | none => cases u' with
    | some z => cases hu
    | none => cases st with
      | none => cases hst
      | some z =>
        obtain ⟨n, w⟩ := z
        have hn : n = -1 := Option.some.inj hst
        subst hn
        have I5 : Inv X pins σ H4 { s4 with heap := s4.heap.push { cls := .type "slice", data := .fields #[partValue none, partValue none, partValue (some (-1, w))] } } := I4.kept (t' := s4.toks) fun b ob q => Heap.get?_push_of_some _ q
        refine tail_any (T := "str") (ops := [.str (SX.S a) t, .ref s4.heap.objs.size]) (typeIs_str _ _ _) (PySem.F.slot_str_getitem.lookup) ?_ (by with_unfolding_all rfl)
        refine wpAny_getItem_str_slice (l := none) (u := none) (st := some (-1, w)) ⟨_, Heap.get?_push_size _ rfl, rfl, rfl⟩ rfl ?_
        rw [made_rev]
        refine ⟨?_, .str _, _, I5.tok _, ⟨_, rfl⟩, q⟩
        rw [S_length, List.length_reverse]
        exact Nat.le_trans hz (by decide)
end
section
variable {X : Cx} (P : Program) (w : World) (K : PySem.W.Frag)
def rSortX (K : PySem.W.Frag) (P : Program) (w : World) : List V → Hp → VK → Prop := fun vs H Q => rSortTx K vs H Q ∨ rSortSet P w vs H Q
theorem kset (hc : X.calm = true := by rfl) (hK : X.K = K := by rfl) (hP : X.prog = P := by rfl) (hw : X.w = w := by rfl) : CallR X (.type "set") (rSetTx K P w) := by
  subst hK hP hw
  exact cr_setTx hc
theorem ksorted (hu : X.A.units + 64 < cLine) (hc : X.calm = true := by rfl) (hK : X.K = K := by rfl) (hP : X.prog = P := by rfl) (hw : X.w = w := by rfl) : CallR X (.builtin "sorted") (rSortX K P w) := by
  subst hK hP hw
  exact CallR.or (cr_sortTx hu) (cr_sortSet hc hu)
theorem krev {e : Expr} {te : TE} (h : PE X e (tRevL X.K te)) (hK : X.K = K := by rfl) : PE X e (tRevL K te) := hK ▸ h
end
section
variable {K : PySem.W.Frag} {P : Program} {w : World} {σ : L2.St} {H : Hp} {te : TE}
theorem ev_revT {a : Tx} (h : Ev te σ H (T a)) (hl : a.length ≤ 16777216) : Ev (tRevT te) σ H (T a.reverse) := fun H1 e _ q => h H1 e _ fun H2 e2 => ⟨a, rfl, hl, q H2 e2⟩
theorem el_revL {p : Addr} {xs : List V} (h : Ev te σ H (.ref p)) (hp : SqL K H p xs) : EvL (tRevL K te) σ H xs.reverse := fun H1 e _ q => h H1 e _ fun H2 e2 => ⟨p, xs, rfl, ex_l (e.trans e2) hp, fun r hr => q r _ (fresh_back e2 hr) (e2.trans (Ex.new hr)) upd_same⟩
theorem el_revN {xs : List V} (h : EvL te σ H xs) : EvL (tRevL K te) σ H xs.reverse := fun H1 e _ q => h H1 e _ fun p H2 hp e2 h2 => ⟨p, xs, rfl, sq_of h2, fun r hr => q r _ (fresh_back e2 hr) (e2.trans (Ex.new hr)) upd_same⟩
/-- sorted(set(..)), of a new list of texts -/
theorem el_sortSet {xs : List Tx} (h : EvL te σ H (xs.map T)) (hl : xs.length ≤ 4000) (Q : VK) (k : ∀ p ys H1, Uniq xs ys → ys.length ≤ xs.length → H p = none → Ex H H1 → H1 p = some (.lst ((sortT ys).map T)) → Q (.ref p) H1) :
    tCB (rSortX K P w) (tCons (tCB (rSetTx K P w) (tCons te tNil)) tNil) σ H Q := h H (Ex.refl _) _ fun p H1 hp e1 h1 => ⟨p, xs, rfl, sq_of h1, hl, fun q ys u hly hq => .inr ⟨q, ys, rfl, upd_same, fun zs r pz hr => by
  have hr1 : H1 r = none := fresh_back (Ex.new hq) hr
  exact k r zs _ ⟨pz.nodup_iff.mpr u.nd, fun x => (pz.mem_iff).trans (u.mem x)⟩ (by rw [pz.length_eq]; exact hly) (fresh_back e1 hr1) ((e1.trans (Ex.new hq)).trans (Ex.new hr)) upd_same⟩⟩
/-- sorted(..) of a standing list of texts -/
theorem el_sorted {p : Addr} {xs : List Tx} (h : Ev te σ H (.ref p)) (hp : SqL K H p (xs.map T)) : EvL (tCB (rSortX K P w) (tCons te tNil)) σ H ((sortT xs).map T) := fun H1 e _ q => h H1 e _ fun H2 e2 => .inl ⟨p, xs, rfl, ex_l (e.trans e2) hp, fun r hr => q r _ (fresh_back e2 hr) (e2.trans (Ex.new hr)) upd_same⟩
end
end Wt
set_option Elab.async false
set_option linter.all false
set_option maxRecDepth 100000
set_option maxHeartbeats 2000000
/-! small things for lists and tests -/
namespace Wt
open PySem PySem.Spec PyProof.Rows L2 Evl Wc
section
variable {K : PySem.W.Frag} {σ : L2.St} {H : Hp} {ta tb tc te : TE} {x y z : V}
theorem ev_chain {r r' : R2} {b1 b2 : Bool} (ha : Ev ta σ H x) (hb : Ev tb σ H y) (h1 : RV r x y H (.bl b1)) (hc : Ev tc σ H z) (h2 : RV r' y z H (.bl b2)) : Ev (tChain r r' ta tb tc) σ H (.bl (b1 && b2)) := fun H1 e1 Q q =>
  ha H1 e1 _ fun H2 e2 => hb H2 (e1.trans e2) _ fun H3 e3 => h1 H3 ((e1.trans e2).trans e3) _ fun H4 e4 => ⟨b1, rfl, by
    have e14 := (e2.trans e3).trans e4
    cases b1 with
    | true =>
      show tc σ H4 _
      exact hc H4 (e1.trans e14) _ fun H5 e5 => h2 H5 ((e1.trans e14).trans e5) _ fun H6 e6 => q H6 ((e14.trans e5).trans e6)
    | false => exact q H4 e14⟩
theorem erase_perm {α : Type} {xs : List α} {d : Nat} (h : d < xs.length) : (xs[d] :: xs.eraseIdx d).Perm xs := by
  rw [List.eraseIdx_eq_take_drop_succ]
  have e : xs = xs.take d ++ xs[d] :: xs.drop (d + 1) := by
    rw [List.getElem_cons_drop, List.take_append_drop]
  conv => rhs; rw [e]
  exact List.perm_middle.symm
/-- the signs of a text's value -/
def unT : V → Tx
  | .str x => x.cps.toList
  | _ => []
theorem map_unT (xs : List Tx) : (xs.map T).map unT = xs := by
  rw [List.map_map]
  conv => rhs; rw [← List.map_id xs]
  rfl
theorem perm_texts {ys : List V} {xs : List Tx} (h : ys.Perm (xs.map T)) : ∃ zs : List Tx, ys = zs.map T ∧ zs.Perm xs := by
  obtain ⟨zs, rfl, _⟩ := texts_of (acc := ys) (g := fun _ => True) fun v hv => by
    obtain ⟨t, _, rfl⟩ := List.mem_map.mp (h.mem_iff.mp hv)
    exact ⟨t, rfl, trivial⟩
  have := h.map unT
  rw [map_unT, map_unT] at this
  exact ⟨zs, rfl, this⟩
theorem seqIx_nat {d n : Nat} (h : d < n) : seqIndex? (d : Int) n = some d := by
  have : ¬ (d : Int) < 0 := by omega
  unfold seqIndex?
  simp [this, h]
/-- lists put behind one another: both new | the first stands -/
theorem el_catNN {xs ys : List V} (ha : EvL ta σ H xs) (hb : EvL tb σ H ys) (hz : xs.length + ys.length ≤ 100000) : EvL (tOp rCat ta tb) σ H (xs ++ ys) := fun H1 e1 Q q =>
  ha H1 e1 _ fun p H2 hp e2 h2 => hb H2 (e1.trans e2) _ fun r H3 hr e3 h3 => ⟨p, r, xs, ys, rfl, rfl, e3 _ _ h2, h3, sz_of hz, fun n hn => q n _ (fresh_back (e2.trans e3) hn) ((e2.trans e3).trans (Ex.new hn)) upd_same⟩
theorem el_catVN {p : Addr} {xs ys : List V} (ha : Ev ta σ H (.ref p)) (hp : H p = some (.lst xs)) (hb : EvL tb σ H ys) (hz : xs.length + ys.length ≤ 100000) : EvL (tOp rCat ta tb) σ H (xs ++ ys) := fun H1 e1 Q q =>
  ha H1 e1 _ fun H2 e2 => hb H2 (e1.trans e2) _ fun r H3 hr e3 h3 => ⟨p, r, xs, ys, rfl, rfl, ((e1.trans e2).trans e3) _ _ hp, h3, sz_of hz, fun n hn => q n _ (fresh_back (e2.trans e3) hn) ((e2.trans e3).trans (Ex.new hn)) upd_same⟩
theorem ev_lenU {p : Addr} {xs : List V} (h : Ev ta σ H (.ref p)) (hp : SqT K H p xs) : Ev (tCB (rLenS K) (tCons ta tNil)) σ H (.int (xs.length : Int)) := fun H1 e Q q => h H1 e _ fun H2 e2 => ⟨p, xs, rfl, .inr (ex_t (e.trans e2) hp), q H2 e2⟩
end
end Wt
set_option Elab.async false
set_option linter.all false
set_option maxRecDepth 100000
set_option maxHeartbeats 2000000
/-! comprehensions of so many turns as are drawn -/
namespace Wt
open PySem PySem.Spec PyProof.Rows L2 Evl Wc
section
variable {K : PySem.W.Frag} {fa : Addr} {σ : L2.St} {H : Hp} {te te0 : TE}
theorem lcRD {j : Nat} {vs : List Nat} {lo N c m0 : Nat} (good : V → Prop) (hc : Dw fa σ m0 te0 (GdI (lo : Int) (N : Int))) (hN : N ≤ 1000) (G : GF fa (m0 + N * c) H) (hw : ∀ x, wipe ((wipe σ vs).set j (some x)) vs = wipe σ vs)
    (he : ∀ x n H1, Rf fa n H H1 → GF fa c H1 → ∀ Q' : VK, (∀ y H2, good y → Rf fa c H1 H2 → Q' y H2) → te ((wipe σ vs).set j (some x)) H1 Q') (Q : VK)
    (k : ∀ p H2 acc, H p = none → Rf fa (m0 + N * c) H H2 → H2 p = some (.lst acc) → lo ≤ acc.length → acc.length ≤ N → (∀ v ∈ acc, good v) → Q (.ref p) H2) : tLc (iRng1 (tCons te0 tNil)) (gName j) tYes te vs σ H Q :=
  hc H (G.mono (by omega)) _ fun v H1 ⟨n, hv, h0, h1⟩ R1 => by
    obtain ⟨n, rfl⟩ := Int.eq_ofNat_of_zero_le (show 0 ≤ n by omega)
    subst hv
    have hn : n ≤ N := by omega
    have hnc : n * c ≤ N * c := Nat.mul_le_mul_right c hn
    have G1 : GF fa (N * c) H1 := G.go R1 (by omega)
    have h : tLc (iRng1 fun _ H' Q' => Q' [.int (n : Int)] H') (gName j) tYes te vs σ H1 Q := by
      refine lcD good c G1.is (src_range1 (n := n) (fun H2 e2 Q2 q => q H2 (Ex.refl _)) (by omega)) (fun z => z) (by omega) hw (fun i x H2 hi _ R2 Q2 q2 => ?_) fun p H2 acc hp R2 h2 hl hg => k p H2 acc (R1.free G.is hp G1.is) ((R1.trans R2).mono (by omega)) h2 (by omega) (by omega) hg
      have hic : i * c + c ≤ N * c := by
        have := Nat.mul_le_mul_right c (show i + 1 ≤ N by omega)
        rw [Nat.succ_mul] at this
        exact this
      exact he x _ H2 (R1.trans R2) (G1.go R2 hic) Q2 q2
    exact h
/-- over a standing list of texts, with a test that draws; what is kept is of the list -/
theorem texts_GdT {acc : List V} {ok : Nat → Prop} {lo n : Nat} (h : ∀ v ∈ acc, GdT ok lo n v) : ∃ ws : List Tx, acc = ws.map T ∧ ∀ t ∈ ws, lo ≤ t.length ∧ t.length ≤ n ∧ ∀ c ∈ t, ok c := texts_of fun v hv => by
  obtain ⟨s, rfl, h1, h2, h3⟩ := h v hv
  exact ⟨s, rfl, h1, h2, h3⟩
theorem dI_sub {ta tb : TE} {m1 m2 : Nat} {a b c d : Int} (h1 : Dw fa σ m1 ta (GdI a b)) (h2 : Dw fa σ m2 tb (GdI c d)) : Dw fa σ (m1 + m2) (tOp (rI0 fun i j => .int (i - j)) ta tb) (GdI (a - d) (b - c)) := dw_op h1 h2 fun x y ⟨i, hi, h3, h4⟩ ⟨j, hj, h5, h6⟩ => ⟨.int (i - j), ⟨i - j, rfl, by omega, by omega⟩, fun H Q q => ⟨i, j, hi, hj, q⟩⟩
theorem dI_wk {m : Nat} {a b c d : Int} (h : Dw fa σ m te (GdI a b)) (h1 : c ≤ a := by omega) (h2 : b ≤ d := by omega) : Dw fa σ m te (GdI c d) := dw_as h fun v ⟨i, hi, h3, h4⟩ => ⟨i, hi, by omega, by omega⟩
theorem dT_wk {m : Nat} {ok : Nat → Prop} {a b c d : Nat} (h : Dw fa σ m te (GdT ok a b)) (h1 : c ≤ a := by omega) (h2 : b ≤ d := by omega) : Dw fa σ m te (GdT ok c d) := dw_as h fun v ⟨i, hi, h3, h4, h5⟩ => ⟨i, hi, by omega, by omega, h5⟩
/-- one of displayed numbers -/
theorem dI_oneL {i : Nat} {ns : List Int} {lo hi : Int} (h0 : σ[i]? = some (some (.ref fa))) (h : ∀ H, EvL te σ H (ns.map V.int)) (hg : ∀ n ∈ ns, lo ≤ n ∧ n ≤ hi) (hs : ns ≠ []) (hl : ns.length ≤ 1000) : Dw fa σ 1 (tCall (sp_one K) [] E0 (tCons (tVar i) (tCons te tNil))) (GdI lo hi) :=
  dw_oneL h0 h (fun v hv => by
    obtain ⟨n, hn, rfl⟩ := List.mem_map.mp hv
    exact ⟨n, rfl, (hg n hn).1, (hg n hn).2⟩) (fun z => hs (List.map_eq_nil_iff.mp z)) (by rw [List.length_map]; omega)
/-- a list comprehension over a list, at which draws are made: test and step -/
theorem lcDT {wi : TI} {tt : TT} {j : Nat} {vs : List Nat} {n : Nat} {own : Addr → Prop} {P : Nat → V → Hp → Prop} {Q : VK} (good : V → Prop) (c : Nat) (hf : H fa ≠ none) (hs : Src wi σ H n own P) (ho : ¬ own fa) (hn : n ≤ 40000) (hw : ∀ x, wipe ((wipe σ vs).set j (some x)) vs = wipe σ vs)
    (ht : ∀ (i : Nat) (x : V) H1, i < n → P i x H1 → Rf fa (i * c) H H1 → ∀ Q' : Bool → Hp → Prop, (∀ b H2, Rf fa c H1 H2 → Q' b H2) → tt ((wipe σ vs).set j (some x)) H1 Q')
    (he : ∀ (i : Nat) (x : V) H0 H1, i < n → P i x H0 → Rf fa c H0 H1 → ∀ Q' : VK, (∀ y H2, good y → Ex H1 H2 → Q' y H2) → te ((wipe σ vs).set j (some x)) H1 Q')
    (k : ∀ p H2 acc, H p = none → Rf fa (n * c) H H2 → H2 p = some (.lst acc) → acc.length ≤ n → (∀ v ∈ acc, good v) → Q (.ref p) H2) : tLc wi (gName j) tt te vs σ H Q :=
  hs H (Ex.refl H) _ fun J H1 S e1 w hS => fun Dl hD => by
    have hDH : H Dl = none := fresh_back e1 hD
    have hne : Dl ≠ fa := fun z => hf (z ▸ hDH)
    have hf1 : H1 fa ≠ none := by
      cases hq : H fa with
      | none => exact absurd hq hf
      | some o => rw [e1 _ _ hq]; exact fun z => nomatch z
    refine lc_it w (Qd := fun H3 => Q (.ref Dl) H3) (fun i Hi => Rf fa (i * c) H1 Hi ∧ ∃ acc, Hi Dl = some (.lst acc) ∧ acc.length ≤ i ∧ ∀ v ∈ acc, good v) ?_ (fun i Hi hi p => hS (fun b => b = fa) Hi (by rintro b rfl; exact ⟨hf, ho⟩) p.1.keep) ?_ ?_
    · exact ⟨((Rf.refl H1).upd hD hf1).mono (Nat.zero_le _), [], upd_same, Nat.le_refl _, fun v hv => nomatch hv⟩
    · rintro i x Ha Hb hi ⟨R, acc, h1, h2, h3⟩ ⟨ey, hP⟩
      refine ⟨hw x, ?_⟩
      have Rb : Rf fa (i * c) H1 Hb := R.then ey
      refine ht i x Hb hi hP (Rf.pre e1 Rb) _ fun b H3 R3 => ?_
      have h13 : H3 Dl = some (.lst acc) := R3.at_ (ey _ _ h1) hne
      have Rc : Rf fa ((i + 1) * c) H1 H3 := (Rb.trans R3).mono (by rw [Nat.succ_mul]; exact Nat.le_refl _)
      cases b with
      | true =>
        show te ((wipe σ vs).set j (some x)) H3 fun y H4 => _
        refine he i x Hb H3 hi hP R3 _ fun y H4 hy e4 => ⟨acc, e4 _ _ h13, sz_lt (by omega), (Rc.then e4).upd hD hf1, acc ++ [y], upd_same, by rw [List.length_append]; exact Nat.succ_le_succ h2, fun v hv => ?_⟩
        rcases List.mem_append.mp hv with hv | hv
        · exact h3 v hv
        · rw [List.mem_singleton.mp hv]
          exact hy
      | false => exact ⟨Rc, acc, h13, Nat.le_succ_of_le h2, h3⟩
    · rintro H3 ⟨R, acc, h1, h2, h3⟩
      exact k Dl H3 acc hDH (Rf.pre e1 R) h1 h2 h3
/-- the list is the value of a reading -/
theorem lc_of {te0 : TE} {g : TG} {tt : TT} {vs : List Nat} {Q : VK} (h : te0 σ H fun v H1 => tLc (iList K (fun _ H' Q' => Q' v H')) g tt te vs σ H1 Q) : tLc (iList K te0) g tt te vs σ H Q := h
end
end Wt
set_option Elab.async false
set_option linter.all false
set_option maxRecDepth 100000
set_option maxHeartbeats 2000000
/-! enumerate(t), t a tuple -/
namespace Wt
open PySem PySem.Spec PyProof.Rows L2 Evl Wc
theorem meets_enum1 {v : Value} {o : Obj} {Hh : Heap → Prop} (B : Begins v o Hh) :
    Meets (Builtin.«enumerate.__new__» ⟨[.type "enumerate", v], []⟩) (fun _ R s => Hh s.heap ∧ R (.ok (.ret (.ref (s.heap.push o).objs.size))) { s with heap := (s.heap.push o).push { cls := .type "enumerate", data := .fields #[.none, .bool false, .ref s.heap.objs.size, rawInt 0, .none, .none] } }) :=
  .of_wp fun P w A R s h => by
    obtain ⟨hp, g, d, tk, os⟩ := s
    obtain ⟨h1, h2⟩ := h
    have hsub := sub_enumerate
    have begin_ : ∀ {A' : Around} {E : Value → Shared → Prop} {Q : Value → Shared → Prop}, Q (.ref hp.objs.size) ⟨hp.push o, g, d, tk, os⟩ → wpAny (model P w) A' (pyIter v) Q E ⟨hp, g, d, tk, os⟩ := fun q => B.iter P w _ _ ⟨hp, g, d, tk, os⟩ _ h1 q
    wp_walk
    refine wpAny_stack_any fun st => wpAny_pure ?_
    split
    · rename_i c _ _ _ _ _
      cases (c == Value.type "enumerate")
      · wp_walk using begin_
        exact ⟨_, rfl, h2⟩
      · wp_walk using begin_
        exact ⟨_, rfl, h2⟩
    · wp_walk using begin_
      exact ⟨_, rfl, h2⟩
section
variable {P : Program} {w : World} {A : Around} {E : Value → Shared → Prop} {s : Shared}
theorem call_enum1 {v : Value} {o : Obj} {Hh : Heap → Prop} {Q : Value → Shared → Prop} (B : Begins v o Hh) (h1 : Hh s.heap)
    (h : ∀ h', IsEnum h' (s.heap.objs.size + 1) s.heap.objs.size 0 .none → h'.get? s.heap.objs.size = some o → (∀ b o, s.heap.get? b = some o → h'.get? b = some o) → Q (.ref (s.heap.objs.size + 1)) { s with heap := h' }) :
    wpAny (model P w) A (call (.type "enumerate") [v]) Q E s := by
  refine callType_new F.called_enumerate (by decide) (F.typeCall_enumerate_1 _) (F.newCall_enumerate_1 _) (fun obj => F.args_object_init_2 obj _) F.entry_enumerate_new (meets_enum1 B) ⟨h1, ?_⟩
  have z : (s.heap.push o).objs.size = s.heap.objs.size + 1 := Heap.size_push ..
  show _ ∧ _
  rw [z]
  have he : IsEnum ((s.heap.push o).push { cls := .type "enumerate", data := .fields #[.none, .bool false, .ref s.heap.objs.size, rawInt 0, .none, .none] }) (s.heap.objs.size + 1) s.heap.objs.size 0 .none := by
    rw [← z]
    exact Heap.get?_push_size (s.heap.push o) rfl
  exact ⟨⟨_, he, rfl⟩, h _ he (Heap.get?_push_of_some _ (Heap.get?_push_size _ B.free)) fun b u x => Heap.get?_push_of_some _ (Heap.get?_push_of_some _ x)⟩
end
/-- the tuple at a, each item in a new pair with its number -/
def ItEt (K : PySem.W.Frag) (a : Addr) : It :=
  ⟨fun i H => ∃ (xs : List V) (x : V), SqT K H a xs ∧ xs[i]? = some x, fun i H v H' => ∃ T x, v = .ref T ∧ H T = none ∧ H' = upd H T (.tup [.int (i : Nat), x]) ∧ ∀ xs, SqT K H a xs → xs[i]? = some x, fun i H => ∃ xs : List V, SqT K H a xs ∧ xs.length ≤ i⟩
theorem turn_enumT {P : Program} {w : World} {K : PySem.W.Frag} {elts : List Expr} {kk : Nat} {tpos : Pos} (a e it : Addr) (hne : e ≠ it) (ha1 : a ≠ it) (ha2 : a ≠ e) :
    Turn P w K (.Tuple elts kk tpos) (ItEt K a) [e, it] e (fun i h => (∃ old, IsEnum h e it ((i : Nat) : Int) old) ∧ h.IsTupleIter it a i) where
  mem := List.mem_cons_self
  obj := fun i h st b hb => by
    obtain ⟨⟨old, he⟩, o, ho, hc, hd⟩ := st
    rcases List.mem_cons.mp hb with z | z
    · rw [z]
      exact ⟨_, he, fun v q => nomatch q⟩
    · rw [List.mem_singleton.mp z]
      exact ⟨o, ho, fun v q => by rw [hd] at q; cases q⟩
  keep := fun i h h' st k => let ⟨⟨old, he⟩, hi⟩ := st; ⟨⟨old, k e List.mem_cons_self _ he⟩, hi.at fun o q => k it (by simp) o q⟩
  item := by
    intro X hP hw hK hc i pins s σ H E I hf st hg
    subst hP hw hK
    obtain ⟨⟨old, he⟩, hit⟩ := st
    obtain ⟨xs, x, hq, hx⟩ := hg
    obtain ⟨its, rv, p, hz⟩ := I.tuple hq
    obtain ⟨u, hu, ru⟩ := rv.get hx
    have le : e < s.heap.objs.size := Heap.lt_size he
    have li : it < s.heap.objs.size := by obtain ⟨_, q, _⟩ := hit; exact Heap.lt_size q
    have hlt : i < its.toArray.size := by
      rw [List.size_toArray]
      exact (List.getElem?_eq_some_iff.mp hu).1
    have D := Draws.tuple (prog := X.prog) (w := X.w) (A := X.A.in1) (I.ok.hd hc) it a ha1 its.toArray
    refine wpAny_pyNext_enum_itemD D he ⟨hit, p⟩ hlt hne (by simp [hne, ha2.symm]) fun y h' tk hP2 ho hst hT hsz hk => ?_
    have hyu : y = u := by
      have e1 : its.toArray[i]? = some u := by simpa using hu
      rw [e1] at hP2
      exact (Option.some.inj hP2).symm
    subst hyu
    refine ⟨_, rfl, wpAny_letOwnedTupleGo_enum (s := { s with heap := h', toks := tk + 1 }) ho fun h2 he2 sb => ?_⟩
    have hT2 : h2.get? s.heap.objs.size = some { cls := .type "tuple", data := .seq #[.int i tk, y] } := (sb.2 _ (Nat.ne_of_gt le)).trans hT
    have new : ObjOk X.prog X.w (upd H s.heap.objs.size (.tup [.int (i : Nat), x])) h2 s.heap.objs.size (.tup [.int (i : Nat), x]) := ⟨by show 2 ≤ sizeLine; decide, [.int i tk, y], .cons ⟨_, rfl⟩ (.cons ru .nil), ⟨_, hT2, rfl, _, rfl⟩⟩
    have I1 : Inv X pins σ (upd H s.heap.objs.size (.tup [.int (i : Nat), x])) { s with heap := h2, toks := tk + 1 } :=
      I.turnedNew (ch := [e, it]) (fun b ob hb q => (sb.2 b (fun z => hb (by simp [z]))).trans (hk b ob (fun z => hb (by simp [z])) (fun z => hb (by simp [z])) q)) hf (Nat.le_refl _) new
    refine ⟨.ref s.heap.objs.size, _, I1, rfl, ⟨_, x, rfl, I.hok.fresh (Nat.le_refl _), rfl, fun ys hy => by rw [I.tuple_inj hy hq]; exact hx⟩, ⟨⟨y, ?_⟩, hst.1.at fun o q => (sb.2 it (Ne.symm hne)).trans q⟩, fun b hb => ?_⟩
    · rw [show ((i + 1 : Nat) : Int) = (i : Int) + 1 by omega]
      exact he2
    · have lb : b < s.heap.objs.size := by
        rcases List.mem_cons.mp hb with z | z
        · rw [z]; exact le
        · rw [List.mem_singleton.mp z]; exact li
      rw [upd_ne (Nat.ne_of_lt lb)]
      exact (hf b hb).1
  done := by
    intro X hP hw hK hc i pins s σ H E I hf st hg
    subst hP hw hK
    obtain ⟨⟨old, he⟩, hit⟩ := st
    obtain ⟨xs, hq, hx⟩ := hg
    obtain ⟨its, rv, p, hz⟩ := I.tuple hq
    obtain ⟨f0, f1, f2, f3, f4, f5⟩ := hf it (by simp)
    have hl := rv.length
    have none_ : its.toArray[i]? = none := by simp; omega
    have D : Draws X.prog X.w X.A.in1 it [it, a] 0 (fun _ _ => False) (fun _ h => h.IsTupleIter it a i ∧ h.IsTuple a its.toArray) := ⟨fun _ _ st => let ⟨o, ho, _⟩ := st.1; ⟨o, ho⟩, fun _ _ _ st k => ⟨st.1.at fun o q => k it (by simp) o q, st.2.at fun o q => k a (by simp) o q⟩, fun _ _ _ _ z => absurd z (Nat.not_lt_zero _), fun s Q E st hE => wpAny_nextOf_tuple_end (I.ok.hd hc) st.1 st.2 none_ hE⟩
    exact wpAny_pyNext_enum_endD D he ⟨hit, p⟩ fun h' eb => ⟨rfl, I.turned (t' := s.toks) (fun b o hb q => eb b o hb q) f0 f1 f3 f4 f5⟩
  self := fun A i s Q E st h => let ⟨⟨_, he⟩, _⟩ := st; wpAny_pyIter_enum he h
def iEnumT (K : PySem.W.Frag) (ta : TA) : TI := fun σ H R => ta σ H fun vs H1 => ∃ a xs, vs = [.ref a] ∧ SqT K H1 a xs ∧ R (ItEt K a) H1
theorem pi_enumT {X : Cx} {e : Expr} {ta : TA} {p pos tpos : Pos} {elts : List Expr} {kk : Nat} (hg : Gl X "enumerate") (hm : X.mg "enumerate" = none) (ha : PA X [e] ta) (hs : starEach [e] X.env = [(false, eval e X.env)] := by rfl) : PI X (.Tuple elts kk tpos) (.Call (.Name "enumerate" p) [e] [] pos) (iEnumT X.K ta) := by
  refine ⟨fun pins s σ H R I h => Call_ (ld_blt I hg hm boot_enumerate (PyProof.Rows.callWith_type1 (thn (ha.run pos pins s σ H _ I h) fun us s1 ⟨vs, H1, I1, r1, q1⟩ => ?_) hs rfl))⟩
  obtain ⟨a, xs, ex, hq, q⟩ := q1
  subst ex
  obtain rfl := Vals.ref1 r1
  obtain ⟨its, rv, pt, hz⟩ := I1.tuple hq
  have la : a < s1.heap.objs.size := by obtain ⟨o, ho, _⟩ := pt; exact Heap.lt_size ho
  refine call_enum1 (begins_tuple a its.toArray) pt fun h' he hi hk => wpAny_pyIter_enum he ?_
  have I2 : Inv X pins σ H1 { s1 with heap := h' } := I1.kept (t' := s1.toks) hk
  refine ⟨s1.heap.objs.size + 1, [s1.heap.objs.size + 1, s1.heap.objs.size], _, _, H1, rfl, I2, turn_enumT a (s1.heap.objs.size + 1) s1.heap.objs.size (Nat.succ_ne_self _) (Nat.ne_of_lt la) (Nat.ne_of_lt (Nat.lt_succ_of_lt la)), ⟨⟨.none, he⟩, ⟨_, hi, rfl, rfl⟩⟩, fun b hb => ?_, q⟩
  have hle : s1.heap.objs.size ≤ b := by
    rcases List.mem_cons.mp hb with z | z
    · rw [z]; exact Nat.le_succ _
    · rw [List.mem_singleton.mp z]; exact Nat.le_refl _
  exact I1.fpOk hle (I1.hok.fresh hle)
section
variable {K : PySem.W.Frag} {σ : L2.St} {H : Hp}
theorem walk_enumT {a : Addr} {xs : List V} : Walk (ItEt K a) xs.length (fun H => SqT K H a xs) (YPair (fun i => some (.int (i : Nat))) (fun i => xs[i]?)) := by
  refine ⟨fun i _ hi q => ⟨xs, xs[i], q, by simp [hi]⟩, fun _ q => ⟨xs, q, Nat.le_refl _⟩, fun i H v H' _ q y => ?_⟩
  obtain ⟨t, x, y1, y2, y3, y4⟩ := y
  exact ⟨t, .int (i : Nat), x, y1, y2, y3, rfl, y4 xs q⟩
theorem src_enumT {a : Addr} {xs : List V} {tl : TE} (h : Ev tl σ H (.ref a)) (hs : SqT K H a xs) : Src (iEnumT K (tCons tl tNil)) σ H xs.length (fun b => b = a) (fun i v Hb => ∃ p x, v = .ref p ∧ xs[i]? = some x ∧ Hb p = some (.tup [.int (i : Nat), x])) := fun H1 e R q =>
  h H1 e _ fun H2 e2 => ⟨a, xs, rfl, ex_t (e.trans e2) hs, q _ H2 _ e2 (walk_enumT.mono (fun _ z => z) fun i Ha v Hb _ _ hy => by
    obtain ⟨p, y, x, rfl, hn, rfl, h1, h2⟩ := hy
    refine ⟨Ex.new hn, p, x, rfl, h2, ?_⟩
    rw [← Option.some.inj h1]
    exact upd_same) fun B Ha hB ea => ea.tp (fun z => (hB a z).2 rfl) (ex_t (e.trans e2) hs)⟩
theorem kiet {X : Cx} (K : PySem.W.Frag) {tg it : Expr} {ta : TA} (h : PI X tg it (iEnumT X.K ta)) (hK : X.K = K := by rfl) : PI X tg it (iEnumT K ta) := hK ▸ h
theorem kiza {X : Cx} (K : PySem.W.Frag) {tg it : Expr} {ta : TA} (h : PI X tg it (RZ.iZipA X.K ta)) (hK : X.K = K := by rfl) : PI X tg it (RZ.iZipA K ta) := hK ▸ h
theorem kfl {X : Cx} (K : PySem.W.Frag) {e : Expr} {ta : TE} {f : Str} (h : PE X e (tFld X.K ta f)) (hK : X.K = K := by rfl) : PE X e (tFld K ta f) := hK ▸ h
theorem walk_zipT {a b : Addr} {xs ys : List V} {n : Nat} (hn : n = min xs.length ys.length) : Walk (RZ.ItzT K a b) n (fun H => SqT K H a xs ∧ SqT K H b ys) (YPair (fun i => xs[i]?) (fun i => ys[i]?)) := by
  subst hn
  refine ⟨fun i _ hi q => ⟨xs, ys, xs[i]'(by omega), ys[i]'(by omega), q.1, q.2, by simp [show i < xs.length by omega], by simp [show i < ys.length by omega]⟩, fun _ q => ⟨xs, ys, q.1, q.2, by omega⟩, fun i H v H' _ q y => ?_⟩
  obtain ⟨t, x, z, y1, y2, y3, y4, y5⟩ := y
  exact ⟨t, x, z, y1, y2, y3, y4 xs q.1, y5 ys q.2⟩
theorem src_zipT {a : Addr} {xs ys : List V} {n : Nat} {tl tr : TE} (h : Ev tl σ H (.ref a)) (h2 : EvU tr σ H ys) (hs : SqT K H a xs) (hn : n = min xs.length ys.length) :
    Src (RZ.iZipA K (tCons tl (tCons tr tNil))) σ H n (fun c => c = a ∨ H c = none) (fun i v Hb => ∃ p x y, v = .ref p ∧ xs[i]? = some x ∧ ys[i]? = some y ∧ Hb p = some (.tup [x, y])) := fun H1 e R q =>
  h H1 e _ fun H2 e2 => h2 H2 (e.trans e2) _ fun b H3 hb e3 hb3 => ⟨a, b, xs, ys, rfl, .inr ⟨ex_t ((e.trans e2).trans e3) hs, st_of hb3, q _ H3 _ (e2.trans e3) ((walk_zipT hn).mono (fun _ z => z) fun i Ha v Hb _ _ hy => by
    obtain ⟨p, x, y, rfl, hf, rfl, h1, h2⟩ := hy
    exact ⟨Ex.new hf, p, x, y, rfl, h1, h2, upd_same⟩) fun B Ha hB ea => ⟨ea.tp (fun z => (hB a z).2 (.inl rfl)) (ex_t ((e.trans e2).trans e3) hs), ea.tp (fun z => (hB b z).2 (.inr (fresh_back (e.trans e2) hb))) (st_of hb3)⟩⟩⟩
end
end Wt
set_option Elab.async false
set_option linter.all false
set_option maxRecDepth 100000
set_option maxHeartbeats 2000000
/-! comprehensions with any target -/
namespace Wt
open PySem PySem.Spec PyProof.Rows L2 Evl Wc
section
variable {K : PySem.W.Frag} {σ : L2.St} {H : Hp} {te : TE} {t : TT}
theorem el_lcG {α : Type} {wi : TI} {g : TG} {vs : List Nat} {n : Nat} {own : Addr → Prop} {P : Nat → V → Hp → Prop} {gv : α → V} {p : α → Bool} (xs : List α) (st : α → L2.St) (R : α → V → Hp → Prop) (hs : Src wi σ H n own P) (hn : n ≤ 40000) (hx : xs.length = n)
    (hP : ∀ i x H1, P i x H1 → ∃ a, xs[i]? = some a ∧ R a x H1) (hg : ∀ a x H1 (Q' : L2.St → Hp → Prop), R a x H1 → Q' (st a) H1 → g x (wipe σ vs) H1 Q') (hw : ∀ a, wipe (st a) vs = wipe σ vs)
    (ht : ∀ a H1, Ex H H1 → a ∈ xs → EvT t (st a) H1 (p a)) (he : ∀ a H1, Ex H H1 → a ∈ xs → p a = true → Ev te (st a) H1 (gv a)) : EvL (tLc wi g t te vs) σ H ((xs.filter p).map gv) := fun H0 e Q q => by
  have hgm := given_map xs p gv (fun i => match xs[i]? with | some a => p a | none => false) (fun i => match xs[i]? with | some a => gv a | none => .non) (fun i a ha => by simp only [ha]) (fun i a ha => by simp only [ha])
  rw [hx] at hgm
  generalize hf : (fun (i : Nat) => match xs[i]? with | some a => p a | none => false) = f at hgm
  generalize hv : (fun (i : Nat) => match xs[i]? with | some a => gv a | none => V.non) = v at hgm
  exact hs H0 e _ fun J H1 S e1 w hS => fun Dl hD =>
    lc_it w (Qd := fun H3 => Q (.ref Dl) H3) (Cw H1 f v Dl) ⟨hD, Ex.new hD, upd_same⟩ (fun i Hi _ c => hS (fun _ => False) Hi (fun _ z => z.elim) (.of c.2.1)) (fun i x Hi Hj hi c hy => by
      obtain ⟨ey, hPi⟩ := hy
      obtain ⟨a, ha, hr⟩ := hP i x Hj hPi
      have hm : a ∈ xs := List.mem_of_getElem? ha
      have fa : f i = p a := by rw [← hf]; simp only [ha]
      have va : v i = gv a := by rw [← hv]; simp only [ha]
      have c' : Cw H1 f v Dl i Hj := ⟨c.1, c.2.1.trans ey, ey _ _ c.2.2⟩
      have eAll : Ex H Hj := (e.trans e1).trans c'.2.1
      obtain ⟨c1, c2, c3⟩ := c'
      refine hg a x Hj _ hr ⟨hw a, ht a Hj eAll hm Hj (Ex.refl _) _ fun H3 e3 => ?_⟩
      cases hp : p a with
      | true =>
        show te (st a) H3 fun y H4 => ∃ acc, H4 Dl = some (.lst acc) ∧ acc.length < sizeLine ∧ Cw H1 f v Dl (i + 1) (upd H4 Dl (.lst (acc ++ [y])))
        refine he a Hj eAll hm hp H3 e3 _ fun H4 e4 => ⟨given i f v, e4 Dl _ (e3 Dl _ c3), sz_lt (by have := given_len i f v; omega), c1, Ex.mut ((c2.trans e3).trans e4) c1, ?_⟩
        rw [given_yes (fa.trans hp), va]
        exact upd_same
      | false =>
        show Cw H1 f v Dl (i + 1) H3
        refine ⟨c1, c2.trans e3, ?_⟩
        rw [given_no (fa.trans hp)]
        exact e3 Dl _ c3) (fun H3 c => by
      refine q Dl H3 (fresh_back e1 c.1) (e1.trans c.2.1) ?_
      rw [← hgm]
      exact c.2.2)
theorem rc_allT {α : Type} {q : Addr} {xs : List α} (h : SqL K H q (xs.map fun _ => V.bl true)) : RC (rAll K) [.ref q] H (.bl true) := by
  have e := rc_allM (f := fun _ : α => true) h
  rw [show (xs.all fun _ => true) = true by simp] at e
  exact e
/-- t[1:] -/
theorem el_dropU {p : Addr} {xs : List V} (h : Ev te σ H (.ref p)) (hp : SqT K H p xs) (hn : 0 < xs.length) : EvU (tSl (rSlA K) te (tPart (tC (.int 1))) tNoPart) σ H (xs.drop 1) := fun H1 e Q q => h H1 e _ fun H2 e2 => ⟨1, rfl, p, xs, rfl, ex_t (e.trans e2) hp, fun z => by
    have := z.1
    rw [show (1 : Int) = ((1 : Nat) : Int) from rfl, HT.sIx_nat] at this
    omega, fun _ r hr => by
    have := q r _ (fresh_back e2 hr) (e2.trans (Ex.new (o := .tup (cutV xs (some ((1 : Nat) : Int)) none)) hr)) (by rw [upd_same, cutV_from])
    exact this⟩
end
end Wt
set_option Elab.async false
set_option linter.all false
set_option maxRecDepth 100000
set_option maxHeartbeats 2000000
/-! objects of an own class; ranges downwards; repeated lists -/
namespace Wt
open PySem PySem.Spec PyProof.Rows L2 Evl Wc
/-- the class at C, as it is made by a call -/
structure Mak (P : Program) (w : World) (K : PySem.W.Frag) (mg : Str → Option Value) (base : Heap) (k : Nat) (C : Addr) (x : Str) (sp : Sp) : Prop where
  ex : ∃ (f : Addr) (fd : FuncData) (ps : List Str), Mk K C f ∧ FnOk P w K mg base CX0 k f fd ps sp ∧ Binds K fd ps [] ∧ mg x = some (.ref C)
theorem pe_mkM {X : Cx} {k n : Nat} {C : Addr} {x : Str} {sp : Sp} {p pos : Pos} {e : Expr} {es : List Expr} {t : TA} (c : Mak X.prog X.w X.K X.mg X.base k C x sp) (hr : Room n X.A) (ha : PA X (e :: es) t) (hk : k + 1 ≤ n := by decide) (hg : Gl X x := by rfl)
    (hdb : (x == ("__debug__" : Str)) = false := by decide) (he : starEach (e :: es) X.env = (false, eval e X.env) :: starEach es X.env := by rfl) (hpl : (backTo pos (starEach es X.env)).any (·.1) = false := by rfl) : PE X (.Call (.Name x p) (e :: es) [] pos) (tMake C sp [] E0 t) := by
  obtain ⟨f, fd, ps, M, F, b, hm⟩ := c.ex
  exact pe_make M F (hr.mono hk) hg hm b .nil pass0 ha hdb he hpl
section
variable {K : PySem.W.Frag} {σ : L2.St} {H : Hp} {te ta tb : TE} {C x dx : Addr} {fs : List (Str × V)} {f : Str} {v : V}
theorem ev_fld (h : Ev te σ H (.ref x)) (hx : H x = some (.ins C dx fs)) (c : Cls K C) (n : NoAttr K C f) (l : fs.lookup f = some v) : Ev (tFld K te f) σ H v := fun H1 e Q q => h H1 e _ fun H2 e2 => ⟨x, C, dx, fs, v, rfl, (e.trans e2) _ _ hx, c, n, l, q H2 e2⟩
/-- a field is stored -/
theorem q_fld {D : Ends} {tz : TS} (h : Ev te σ H v) (hx : σ[0]? = some (some (.ref x))) (hH : H x = some (.ins C dx fs)) (c : Cls K C) (n : NoAttr K C f) (hl : fs.length < 1000) (k : ∀ H1, Ex H H1 → tz D σ (upd H1 x (.ins C dx (putF f v fs)))) : tSeq (sFld K (tVar 0) te f) tz D σ H :=
  h H (Ex.refl _) _ fun H1 e1 => ⟨_, hx, x, C, dx, fs, rfl, e1 _ _ hH, c, n, hl, k H1 e1⟩
theorem q_fldL {D : Ends} {tz : TS} {xs : List V} (h : EvL te σ H xs) (hx : σ[0]? = some (some (.ref x))) (hH : H x = some (.ins C dx fs)) (c : Cls K C) (n : NoAttr K C f) (hl : fs.length < 1000) (k : ∀ p H1, H p = none → Ex H H1 → H1 p = some (.lst xs) → tz D σ (upd H1 x (.ins C dx (putF f (.ref p) fs)))) : tSeq (sFld K (tVar 0) te f) tz D σ H :=
  h H (Ex.refl _) _ fun p H1 hp e1 h1 => ⟨_, hx, x, C, dx, fs, rfl, e1 _ _ hH, c, n, hl, k p H1 hp e1 h1⟩
theorem el_rep {xs : List V} {n : Nat} (h : EvL ta σ H xs) (h2 : Ev tb σ H (.int (n : Int))) (hz : xs.length * n ≤ 100000) (hn : n ≤ 1000000) : EvL (tOp rRep ta tb) σ H (List.replicate n xs).flatten := fun H1 e Q q => h H1 e _ fun p H2 hp e2 hp2 => h2 H2 (e.trans e2) _ fun H3 e3 => ⟨p, (n : Int), xs, rfl, rfl, e3 _ _ hp2, by omega, by omega, sz_of hz, fun r hr => by
  have := q r _ (fresh_back (e2.trans e3) hr) ((e2.trans e3).trans (Ex.new (o := .lst (List.replicate (n : Int).toNat xs).flatten) hr)) upd_same
  exact this⟩
theorem rep_one (n : Nat) (v : V) : (List.replicate n [v]).flatten = List.replicate n v := by
  induction n with
  | zero => rfl
  | succ n ih => rw [List.replicate_succ, List.flatten_cons, ih, List.replicate_succ]; rfl
theorem el_catNV {p : Addr} {xs ys : List V} (ha : EvL ta σ H xs) (hb : Ev tb σ H (.ref p)) (hp : H p = some (.lst ys)) (hz : xs.length + ys.length ≤ 100000) : EvL (tOp rCat ta tb) σ H (xs ++ ys) := fun H1 e1 Q q =>
  ha H1 e1 _ fun r H2 hr e2 h2 => hb H2 (e1.trans e2) _ fun H3 e3 => ⟨r, p, xs, ys, rfl, rfl, e3 _ _ h2, ((e1.trans e2).trans e3) _ _ hp, sz_of hz, fun n hn => q n _ (fresh_back (e2.trans e3) hn) ((e2.trans e3).trans (Ex.new hn)) upd_same⟩
/-- n - 1, n - 2, .. 0 -/
theorem src_down {tq : TA} {n : Nat} (h : EvA tq σ H [.int ((n : Int) - 1), .int (-1), .int (-1)]) (hn : n ≤ 1000000000) : Src (iRng3 tq) σ H n (fun _ => False) (fun i v _ => v = .int ((n : Int) - 1 - (i : Int))) := fun H1 e R q =>
  h H1 e _ fun H2 e2 => ⟨_, _, _, n, rfl, by
    have := RgC.neg (i := (n : Int) - 1) (j := -1) (by omega) (by omega) (by decide) (by decide)
    have e : ((n : Int) - 1 - -1).toNat = n := by omega
    rw [e] at this
    exact this, by
    have w := (walk_rangeC (lo := (n : Int) - 1) (c := -1) (n := n)).mono (fun _ z => z) (Y' := fun i Ha v Hb => Ex Ha Hb ∧ v = .int ((n : Int) - 1 - (i : Int))) (fun i Ha v Hb _ _ hy => by
      obtain ⟨rfl, rfl⟩ := hy
      exact ⟨Ex.refl _, by show V.int ((n : Int) - 1 + ((i : Nat) : Int) * -1) = _; congr 1; omega⟩)
    exact q _ H2 _ e2 w fun _ _ _ _ => True.intro⟩
end
/-- xs[k], by values -/
def rGetN (K : PySem.W.Frag) : V → V → Hp → VK → Prop := fun o i H Q => ∃ (p : Addr) (xs : List V) (k : Nat) (z : V), o = .ref p ∧ i = .int (k : Int) ∧ SqL K H p xs ∧ xs[k]? = some z ∧ Q z H
theorem get_listN {X : Cx} : PGet X (rGetN X.K) := by
  intro pins s σ H o i ov iv Q I ro ri h
  obtain ⟨p, xs, k, z, rfl, rfl, hp, hz, q⟩ := h
  cases ro
  obtain ⟨t, rfl⟩ := ri
  obtain ⟨its, rv, pl, hs⟩ := I.list hp
  obtain ⟨u, hu, ru⟩ := rv.get hz
  have hk := (List.getElem?_eq_some_iff.mp hz).1
  have h63 : ((k : Int) < 2 ^ 63) := by
    have : sizeLine < 2 ^ 63 := by decide
    omega
  exact wpAny_getItem_list pl.isList (by omega) h63 (x := u) (by simpa using hu) ⟨z, H, I, ru, q⟩
theorem kget {X : Cx} (K : PySem.W.Frag) (hK : X.K = K := by rfl) : PGet X (rGetN K) := hK ▸ get_listN
end Wt
set_option Elab.async false
set_option linter.all false
set_option maxRecDepth 100000
set_option maxHeartbeats 2000000
namespace Wt
open PySem PySem.Spec PyProof.Rows L2 Evl Wc
/-! ### (number, text) < (number, text) -/
def rLtIT (K : PySem.W.Frag) : R2 := fun x y H Q => ∃ (a b : Addr) (m n : Int) (s t : Tx), x = .ref a ∧ y = .ref b ∧ SqT K H a [.int m, T s] ∧ SqT K H b [.int n, T t] ∧ Q (.bl (decide (m < n ∨ (m = n ∧ s < t)))) H
theorem op_ltIT {X : Cx} (hu0 : X.A.units + 64 < cLine) : OpR X (compareOp .Lt) (rLtIT X.K) := by
  intro pins s σ H x y v u Q I rx ry h
  have hu : X.A.units < cLine := Nat.lt_of_le_of_lt (Nat.le_add_right _ _) hu0
  obtain ⟨a, b, m, n, c, d, rfl, rfl, ha, hb, q⟩ := h
  cases rx
  cases ry
  obtain ⟨its, r1, p1, _⟩ := I.tuple ha
  obtain ⟨its2, r2, p2, _⟩ := I.tuple hb
  cases r1 with
  | cons rm r1 =>
  cases r1 with
  | cons rc r1 =>
  cases r1
  cases r2 with
  | cons rn r2 =>
  cases r2 with
  | cons rd r2 =>
  cases r2
  obtain ⟨_, rfl⟩ := rm
  obtain ⟨_, rfl⟩ := rc
  obtain ⟨_, rfl⟩ := rn
  obtain ⟨_, rfl⟩ := rd
  have R := Ob.RcOp.tuples_lt (A := X.A) (s := s) (e := fun j => if j = 0 then decide (m = n) else decide (c = d)) (r := fun j => if j = 0 then decide (m < n) else decide (c < d)) p1 p2 hu (fun j h1 h2 => by
    have h1' : j < 2 := h1
    have hj : j = 0 ∨ j = 1 := by omega
    rcases hj with rfl | rfl
    · have z : (m == n) = decide (m = n) := by
        by_cases q : m = n
        · rw [decide_eq_true q]; exact beq_iff_eq.mpr q
        · rw [decide_eq_false q]; exact beq_eq_false_iff_ne.mpr q
      show SeqAt.EqAt X.A.in1 s _ _ (decide (m = n))
      rw [← z]
      exact SeqAt.EqAt.int_int _ _ _ _
    · have z : (SX.S c == SX.S d) = decide (c = d) := by
        by_cases q : c = d
        · rw [decide_eq_true q, q]; exact beq_iff_eq.mpr rfl
        · rw [decide_eq_false q]; exact beq_eq_false_iff_ne.mpr fun e => q (congrArg (fun z : Str => z.cps.toList) e)
      show SeqAt.EqAt X.A.in1 s _ _ (decide (c = d))
      rw [← z]
      exact SeqAt.EqAt.str_str _ _ _ _) (fun j h1 h2 _ => by
    have h1' : j < 2 := h1
    have hj : j = 0 ∨ j = 1 := by omega
    rcases hj with rfl | rfl
    · exact Ob.RcOp.lt_int _ _ _ _
    · exact fun prog w E Q h => lt_str h)
  have e : Ob.lexAt (fun j => if j = 0 then decide (m = n) else decide (c = d)) (fun j => if j = 0 then decide (m < n) else decide (c < d)) (decide (2 < 2)) 0 2 = decide (m < n ∨ (m = n ∧ c < d)) := by
    simp only [Ob.lexAt]
    by_cases h1 : m = n
    · subst h1
      by_cases h2 : c = d
      · subst h2
        simp [List.lt_irrefl]
      · simp [h2]
    · simp [h1]
  have z : wpAny (model X.prog X.w) X.A (compareOp .Lt (.ref a) (.ref b)) (EP X pins σ Q) X.xe s := R X.prog X.w X.xe (EP X pins σ Q) ⟨.bl _, H, I, rfl, by
    show Q (.bl (Ob.lexAt _ _ (decide (2 < 2)) 0 2)) H
    rw [e]
    exact q⟩
  exact z
end Wt
set_option Elab.async false
set_option linter.all false
set_option maxRecDepth 100000
set_option maxHeartbeats 2000000
/-! zip(a, b) of two texts -/
namespace Wt
open PySem PySem.Spec PyProof.Rows L2 Evl Wc
def ItzS (a b : Tx) : It :=
  ⟨fun i _ => i < min a.length b.length, fun i H v H' => ∃ t c d, v = .ref t ∧ H t = none ∧ H' = upd H t (.tup [T [c], T [d]]) ∧ a[i]? = some c ∧ b[i]? = some d, fun i _ => i = min a.length b.length⟩
theorem sgn {a : Tx} {i : Nat} {v : Value} (h : ∃ c u, (SX.S a).cps[i]? = some c ∧ v = .str ⟨#[c]⟩ u) : ∃ c, a[i]? = some c ∧ RelV (T [c]) v := by
  obtain ⟨c, u, h1, rfl⟩ := h
  exact ⟨c, by simpa [SX.S] using h1, u, rfl⟩
theorem turn_zipS {P : Program} {w : World} {K : PySem.W.Frag} {elts : List Expr} {kk : Nat} {tpos : Pos} {a b : Tx} {ta tb : Tok} {z TI TO i1 i2 : Addr} (D : ZipSep2 z TI TO i1 i2 [i1] [i2]) :
    Turn P w K (.Tuple elts kk tpos) (ItzS a b) [z, TI, TO, i1, i2] z (fun i h => IsZip h z TI TO .none ∧ IsTupOf2 h TI (.ref i1) (.ref i2) ∧ (∃ x y, IsTupOf2 h TO x y) ∧ h.IsStrIter i1 (strIterType (SX.S a)) (SX.S a) ta i ∧ h.IsStrIter i2 (strIterType (SX.S b)) (SX.S b) tb i) where
  mem := by simp
  obj := fun i h st c hc => by
    obtain ⟨hz, hTI, ⟨x, y, hTO⟩, ⟨o1, e1, _, d1⟩, ⟨o2, e2, _, d2⟩⟩ := st
    have e' : c = z ∨ c = TI ∨ c = TO ∨ c = i1 ∨ c = i2 := by simpa using hc
    rcases e' with q | q | q | q | q
    · rw [q]; exact ⟨_, hz, fun v q => nomatch q⟩
    · rw [q]; exact ⟨_, hTI, fun v q => nomatch q⟩
    · rw [q]; exact ⟨_, hTO, fun v q => nomatch q⟩
    · rw [q]; exact ⟨o1, e1, fun v q => by rw [d1] at q; cases q⟩
    · rw [q]; exact ⟨o2, e2, fun v q => by rw [d2] at q; cases q⟩
  keep := fun i h h' st k => by
    obtain ⟨hz, hTI, ⟨x, y, hTO⟩, ⟨o1, e1, f1⟩, ⟨o2, e2, f2⟩⟩ := st
    exact ⟨k z (by simp) _ hz, k TI (by simp) _ hTI, ⟨x, y, k TO (by simp) _ hTO⟩, ⟨o1, k i1 (by simp) _ e1, f1⟩, ⟨o2, k i2 (by simp) _ e2, f2⟩⟩
  item := by
    intro X hP hw hK hc i pins s σ H E I hf st hg
    subst hP hw hK
    obtain ⟨hz, hTI, ⟨x0, y0, hTO⟩, h1, h2⟩ := st
    have hlt : i < min a.length b.length := hg
    have D1 := Draws.text (prog := X.prog) (w := X.w) (A := X.A.in1) (I.ok.hd hc) i1 (SX.S a) ta
    have D2 := Draws.text (prog := X.prog) (w := X.w) (A := X.A.in1) (I.ok.hd hc) i2 (SX.S b) tb
    have s1 : (SX.S a).cps.size = a.length := by simp [SX.S]
    have s2 : (SX.S b).cps.size = b.length := by simp [SX.S]
    have hzl : z < s.heap.objs.size := Heap.lt_size hz
    refine wpAny_pyNext_zipD2_item D D1 D2 hz hTI hTO h1 h2 (by omega) (by omega) fun u u2 h' tk p1 p2 z' TO' h1' h2' hT hsz hk => ?_
    obtain ⟨c, hcx, ru⟩ := sgn p1
    obtain ⟨d, hdy, ru2⟩ := sgn p2
    refine ⟨_, rfl, wpAny_letOwnedTupleGo_zip (s := { s with heap := h', toks := tk }) z' fun h'' z'' sb => ?_⟩
    have hT2 : h''.get? s.heap.objs.size = some { cls := .type "tuple", data := .seq #[u, u2] } := (sb.2 _ (Nat.ne_of_gt hzl)).trans hT
    have new : ObjOk X.prog X.w (upd H s.heap.objs.size (.tup [T [c], T [d]])) h'' s.heap.objs.size (.tup [T [c], T [d]]) :=
      ⟨by show 2 ≤ sizeLine; decide, [u, u2], .cons ru (.cons ru2 .nil), ⟨_, hT2, rfl, _, rfl⟩⟩
    have I1 : Inv X pins σ (upd H s.heap.objs.size (.tup [T [c], T [d]])) { s with heap := h'', toks := tk } :=
      I.turnedNew (ch := [z, TI, TO, i1, i2]) (fun c o hb q => (sb.2 c (fun q' => hb (by simp [q']))).trans (hk c o (fun q' => hb (by simp [q'])) (fun q' => hb (by simp [q'])) (fun q' => hb (by simp [q'])) (fun q' => hb (by simp [q'])) q)) hf (Nat.le_refl _) new
    refine ⟨.ref s.heap.objs.size, _, I1, rfl, ⟨_, c, d, rfl, I.hok.fresh (Nat.le_refl _), rfl, hcx, hdy⟩, ⟨z'', ?_, ⟨u, u2, ?_⟩, ?_, ?_⟩, fun c hcm => ?_⟩
    · exact (sb.2 _ D.TIz).trans (hk _ _ D.TIz D.TITO D.TIi1 D.TIi2 hTI)
    · exact (sb.2 _ D.TOz).trans TO'
    · obtain ⟨o1, e1, f1⟩ := h1'
      exact ⟨o1, (sb.2 _ (Ne.symm D.zi1)).trans e1, f1⟩
    · obtain ⟨o2, e2, f2⟩ := h2'
      exact ⟨o2, (sb.2 _ (Ne.symm D.zi2)).trans e2, f2⟩
    · have hlt : c < s.heap.objs.size := by
        have e' : c = z ∨ c = TI ∨ c = TO ∨ c = i1 ∨ c = i2 := by simpa using hcm
        rcases e' with q | q | q | q | q
        · rw [q]; exact hzl
        · rw [q]; exact Heap.lt_size hTI
        · rw [q]; exact Heap.lt_size hTO
        · rw [q]; obtain ⟨_, e1, _⟩ := h1; exact Heap.lt_size e1
        · rw [q]; obtain ⟨_, e2, _⟩ := h2; exact Heap.lt_size e2
      rw [upd_ne (Nat.ne_of_lt hlt)]
      exact (hf c hcm).1
  done := by
    intro X hP hw hK hc i pins s σ H E I hf st hg
    subst hP hw hK
    obtain ⟨hz, hTI, ⟨x0, y0, hTO⟩, h1, h2⟩ := st
    have hend : i = min a.length b.length := hg
    have D1 := Draws.text (prog := X.prog) (w := X.w) (A := X.A.in1) (I.ok.hd hc) i1 (SX.S a) ta
    have D2 := Draws.text (prog := X.prog) (w := X.w) (A := X.A.in1) (I.ok.hd hc) i2 (SX.S b) tb
    have s1 : (SX.S a).cps.size = a.length := by simp [SX.S]
    have s2 : (SX.S b).cps.size = b.length := by simp [SX.S]
    exact wpAny_pyNext_zipD2_end D D1 D2 hz hTI hTO h1 h2 (by omega) (by omega) (by omega) fun h' tk hk => ⟨rfl, I.turnedL (t' := tk) (ch := [z, TI, TO, i1, i2]) (fun c o hb q =>
      hk c o (fun q' => hb (by simp [q'])) (fun q' => hb (by simp [q'])) (fun q' => hb (by simp [q'])) (fun q' => hb (by simp [q'])) q) hf⟩
  self := fun A i s Q E st h => wpAny_pyIter_zip st.1 h
def iZipS (ta : TA) : TI := fun σ H R => ta σ H fun vs H1 => ∃ a b : Tx, vs = [T a, T b] ∧ R (ItzS a b) H1
theorem pi_zipS {X : Cx} {e e2 : Expr} {ta : TA} {p pos tpos : Pos} {elts : List Expr} {kk : Nat} (hg : Gl X "zip") (hm : X.mg "zip" = none) (ha : PA X [e, e2] ta)
    (hs : starEach [e, e2] X.env = (false, eval e X.env) :: starEach [e2] X.env := by rfl) (hpl : (backTo pos (starEach [e2] X.env)).any (·.1) = false := by rfl) :
    PI X (.Tuple elts kk tpos) (.Call (.Name "zip" p) [e, e2] [] pos) (iZipS ta) := by
  refine ⟨fun pins s σ H R I h => ?_⟩
  refine Call_ (ld_blt I hg hm PyProof.Rows.boot_zip (PyProof.Rows.callWith_type1 (thn (ha.run pos pins s σ H _ I h) fun us s1 ⟨vs, H1, I1, r1, q1⟩ => ?_) hs hpl))
  obtain ⟨a, b, ex, q⟩ := q1
  subst ex
  cases r1 with
  | cons r rr =>
    cases rr with
    | cons r' rr =>
      cases rr
      obtain ⟨ta, rfl⟩ := r
      obtain ⟨tb, rfl⟩ := r'
      have fresh5 : ∀ c, c ∈ [s1.heap.objs.size + 4, s1.heap.objs.size + 2, s1.heap.objs.size + 3, s1.heap.objs.size, s1.heap.objs.size + 1] → FpOk X pins H1 c := fun c hcm => by
        have e' : c = s1.heap.objs.size + 4 ∨ c = s1.heap.objs.size + 2 ∨ c = s1.heap.objs.size + 3 ∨ c = s1.heap.objs.size ∨ c = s1.heap.objs.size + 1 := by simpa using hcm
        have hle : s1.heap.objs.size ≤ c := by
          rcases e' with z | z | z | z | z
          · rw [z]; exact Nat.le_add_right _ _
          · rw [z]; exact Nat.le_add_right _ _
          · rw [z]; exact Nat.le_add_right _ _
          · rw [z]; exact Nat.le_refl _
          · rw [z]; exact Nat.le_add_right _ _
        exact I1.fpOk hle (I1.hok.fresh hle)
      refine zip_begins2 (begins_text (SX.S a) ta) (begins_text (SX.S b) tb) trivial trivial fun h' hz hTI hTO h1 h2 hsz hk => wpAny_pyIter_zip hz ?_
      have I2 : Inv X pins σ H1 { s1 with heap := h' } := I1.kept (t' := s1.toks) hk
      exact ⟨s1.heap.objs.size + 4, [s1.heap.objs.size + 4, s1.heap.objs.size + 2, s1.heap.objs.size + 3, s1.heap.objs.size, s1.heap.objs.size + 1], _, _, H1, rfl, I2, turn_zipS (ta := ta) (tb := tb) (zip_sep2 (fun b hb => by cases hb) (fun b hb => by cases hb)), ⟨hz, hTI, ⟨_, _, hTO⟩, ⟨_, h1, rfl, rfl⟩, ⟨_, h2, rfl, rfl⟩⟩, fresh5, q⟩
section
variable {K : PySem.W.Frag} {σ : L2.St} {H : Hp}
theorem walk_zipS {a b : Tx} : Walk (ItzS a b) (min a.length b.length) (fun _ => True) (YPair (fun i => (a[i]?).map fun c => T [c]) (fun i => (b[i]?).map fun c => T [c])) := by
  refine ⟨fun i _ hi _ => hi, fun _ _ => rfl, fun i H v H' _ _ y => ?_⟩
  obtain ⟨t, c, d, y1, y2, y3, y4, y5⟩ := y
  exact ⟨t, _, _, y1, y2, y3, by show (a[i]?).map _ = _; rw [y4]; rfl, by show (b[i]?).map _ = _; rw [y5]; rfl⟩
theorem src_zipS {a b : Tx} {tl tr : TE} (h : Ev tl σ H (T a)) (h2 : Ev tr σ H (T b)) : Src (iZipS (tCons tl (tCons tr tNil))) σ H (min a.length b.length) (fun _ => False) (fun i v Hb => ∃ p c d, v = .ref p ∧ a[i]? = some c ∧ b[i]? = some d ∧ Hb p = some (.tup [T [c], T [d]])) := fun H1 e R q =>
  h H1 e _ fun H2 e2 => h2 H2 (e.trans e2) _ fun H3 e3 => ⟨a, b, rfl, q _ H3 _ (e2.trans e3) (walk_zipS.mono (fun _ z => z) fun i Ha v Hb _ _ hy => by
    obtain ⟨p, x, y, rfl, hn, rfl, h1, h2⟩ := hy
    have h1 : (a[i]?).map (fun c => T [c]) = some x := h1
    have h2 : (b[i]?).map (fun c => T [c]) = some y := h2
    cases ha : a[i]? with
    | none => rw [ha] at h1; cases h1
    | some c =>
      cases hb : b[i]? with
      | none => rw [hb] at h2; cases h2
      | some d =>
        rw [ha] at h1
        rw [hb] at h2
        cases h1
        cases h2
        exact ⟨Ex.new hn, p, c, d, rfl, by first | rfl | exact ha, by first | rfl | exact hb, upd_same⟩) fun B Ha hB ea => trivial⟩
end
end Wt
set_option Elab.async false
set_option linter.all false
set_option maxRecDepth 100000
set_option maxHeartbeats 2000000
/-! defs that are called while no repr runs: their promises, their calls, repr itself, and a law's end by them -/
namespace Wg
open PySem PySem.Spec PyProof.Rows L2 Evl Wc
/-- a promise for calls around which no repr runs -/
structure FnOkG (P : Program) (w : World) (K : PySem.W.Frag) (mg : Str → Option Value) (base : Heap) (k : Nat) (f : Addr) (fd : FuncData) (ps : List Str) (sp : Sp) : Prop where
  len : ∀ vs H Q E, sp vs H Q E → vs.length = ps.length
  run : ∀ (A : Around) (outer : List Env) (s : Shared) (H : Hp) (args : Args) (us : List Value) (vs : List V) (Q : VK) (E : XK), Room k A → A.guards = some [] →
    Env0 P w K mg base A outer s H → BindsTo s fd args (ps.zip us) → Vals vs us → sp vs H Q E → codeAny (model P w) A (.call (.ref f) args) (CR CX0 outer P w H s Q E) s
section
variable {P : Program} {w : World} {K : PySem.W.Frag} {mg : Str → Option Value} {base : Heap} {k : Nat} {f : Addr} {fd : FuncData} {ps : List Str} {sp : Sp}
theorem FnOkG.of (F : FnOk P w K mg base CX0 k f fd ps sp) : FnOkG P w K mg base k f fd ps sp := ⟨F.len, fun A outer s H args us vs Q E hr _ => F.run A outer s H args us vs Q E hr⟩
/-- what ends a body ends the call -/
theorem ends_call {X : Cx} {s s' : Shared} {H : Hp} {Q : VK} {fl : Flow} {outer : List Env} (hp : X.prog = P) (hw : X.w = w)
    (fin : ∀ {σ' : L2.St} {H' : Hp} {v : V} {u : Value}, Inv X [] σ' H' s' → RelV v u → Q v H' → CE outer P w H s Q u s')
    (h : SP X [] { nx := fun _ H' => Q .non H', rt := Q } fl s') : match fl with
      | .ret u => CE outer P w H s Q u s'
      | .next => CE outer P w H s Q .none s'
      | _ => False := by
  cases fl with
  | next => obtain ⟨σ', H', J, q⟩ := h; exact fin (v := V.non) J rfl q
  | ret u => obtain ⟨v, σ', H', J, rv, q⟩ := h; exact fin J rv q
  | brk => obtain ⟨_, _, _, q⟩ := h; exact q.elim
  | cont => obtain ⟨_, _, _, q⟩ := h; exact q.elim
theorem Fun.okG {x qual : Str} {st : Stmt} {N : List Str} (F : Fun K x qual st f fd) (S : FnScope N ps (defScope st)) (len : ∀ vs H Q E, sp vs H Q E → vs.length = ps.length)
    (hbody : ∀ (cdv : Value) (A : Around) (outer : List Env) (s : Shared) (H : Hp) (vs : List V) (Q : VK) (E : XK), Room k (A.deeper (envOfC qual (defScope st) s.heap.objs.size f cdv)) → A.guards = some [] → sp vs H Q E →
      ∃ t, PSs (cxOf CX0 P w K mg base N qual (defScope st) f cdv A outer s H E).nox (defBody st) t ∧ t { nx := fun _ H' => Q .non H', rt := Q } (start N vs) H) : FnOkG P w K mg base (k + 1) f fd ps sp := by
  obtain ⟨oc, od, kV, doc, pm, an, cdv, ct, osl, rfl, lk, hcd⟩ := F.ex
  refine ⟨len, fun A outer s H args us vs Q E hr hgd e0 hb r hsp => ?_⟩
  have stay : ∀ b o, base.get? b = some o → s.heap.get? b = some o := fun b o e => (e0.bs b o e).1
  have KX := e0.mod.kin.keeps stay
  refine codeAny_call_function hr.depth (KX _ _ lk) rfl S.co S.gen rfl (PySem.W.codeRec_of KX hcd) (hb _ _ _ _ (wpAny_newFunctionEnv_cells S.kind (fun y hy => ?_) fun env he s1 new => ?_))
  · obtain ⟨n, v⟩ := y
    rcases S.par n (List.of_mem_zip hy).1 with q | q
    · exact .inl q
    · exact .inr ⟨q, PySem.W.cellsFrom_some _ _ _ (.inl q)⟩
  · subst he
    obtain ⟨t, ht, hq⟩ := hbody cdv A outer s H vs Q E (hr.deeper _) hgd hsp
    have I := inv_start (CX := CX0) (E := E) S hr.hd e0 (len _ _ _ _ hsp) r new
    refine ⟨(e0.mod.nolimit.keeps stay).keeps new.toInCall.keep, codeAny_func (wpAny_mono (ht.nox.run [] s1 (start N vs) H _ I hq) (fun fl s' hs => ?_) fun e s' hs => hs)⟩
    have done := ends_call (outer := outer) (s := s) (H := H) rfl rfl (fun J rv q => ⟨_, _, J.os, J.bare, J.base, J.hok, rv, q⟩) hs
    cases fl <;> first
      | exact done
      | exact False.elim done
end
/-- a def that may be called by its name while no repr runs -/
structure CalG (P : Program) (w : World) (K : PySem.W.Frag) (mg : Str → Option Value) (base : Heap) (x : Str) (st : Stmt) (k : Nat) (ps : List Str) (sp : Sp) : Prop where
  ex : ∃ f fd, FnOkG P w K mg base k f fd ps sp ∧ mg x = some (.ref f) ∧ Fun K x x st f fd ∧ Binds K fd ps []
section
variable {X : Cx} {x : Str} {st : Stmt} {k n : Nat} {ps : List Str} {sp : Sp} {p pos : Pos} {e : Expr} {es : List Expr} {t : TA}
theorem pe_clG (C : CalG X.prog X.w X.K X.mg X.base x st k ps sp) (hr : Room n X.A) (hgd : X.A.guards = some []) (ha : PA X (e :: es) t) (hkn : k ≤ n := by decide) (hg : Gl X x := by rfl) (hdb : (x == ("__debug__" : Str)) = false := by decide)
    (he : starEach (e :: es) X.env = (false, eval e X.env) :: starEach es X.env := by rfl) (hpl : (backTo pos (starEach es X.env)).any (·.1) = false := by rfl) : PE X (.Call (.Name x p) (e :: es) [] pos) (tCall sp [] E0 t) := by
  obtain ⟨f, fd, F, hm, hF, hb⟩ := C.ex
  refine ⟨fun pins s σ H Q I h => wpAny_Call_Name_kw (ld_glob I hg hm (PySem.W.callWith_K (h₀ := X.base) I.ok.mod.kin hF.kp (thn (ha.run pos pins s σ H _ I h) fun us s1 got => ?_) he hpl) hdb)⟩
  obtain ⟨vs, H1, I1, r, q⟩ := got
  rw [List.append_nil] at q
  refine ⟨I1.kIn, wpAny_call (codeAny_mono (F.run X.A X.stack s1 H1 ⟨us, []⟩ us vs Q E0 (hr.mono hkn) hgd I1.env0 ?_ r q) fun z s' hz => ?_)⟩
  · have := hb s1 us I1.kIn (by rw [List.append_nil, ← r.length]; exact F.len _ _ _ _ q)
    rwa [List.append_nil] at this
  · cases z with
    | error e => exact hz.elim
    | ok fl => cases fl with
      | ret u => exact I1.after hz
      | _ => exact hz.elim
/-- repr of a list or tuple of plain data -/
def rRepr (K : PySem.W.Frag) : List V → Hp → VK → Prop := fun xs H Q => ∃ (p : Addr) (d : PyData), xs = [.ref p] ∧ Dp K H (.ref p) d ∧ d.showable = true ∧ d.hasDict = false ∧ d.depth ≤ 50 ∧ d.shown.length ≤ sizeLine ∧ Q (T d.shown.cps.toList) H
theorem cr_repr (hgd : X.A.guards = some []) (hu : X.A.units + 64 < cLine) : CallR X (.builtin "repr") (rRepr X.K) := by
  intro pins s σ H xs us Q I r h
  obtain ⟨p, d, rfl, hd, h1, h2, h3, h4, q⟩ := h
  rw [Vals.ref1 r]
  obtain ⟨as, rd⟩ := Dp.reads I d _ _ hd rfl
  refine repr_of_reads' rd h1 (fun z => by rw [h2] at z; cases z) hgd (by omega) (fun b o e => e) (fun h' u tk hk => ?_) h4
  exact ⟨T d.shown.cps.toList, H, I.kept (t' := tk) hk, ⟨u, congrArg (fun z => Value.str z u) (SX.S_tl d.shown).symm⟩, q⟩
end
section
variable {P : Program} {w : World} {K : PySem.W.Frag} {mg mb : Str → Option Value} {k : Nat} {fa a : Addr} {fd : FuncData} {x : Str} {sp : Sp} {s₁ : Shared} {vs : List Value} {ns : List Int}
/-- the law's def at the heap behind the top, H telling of the script at most -/
theorem call_at (KX : K.In s₁.heap) (hns : s₁.heap.Ns mainGlobals mg) (hb : s₁.heap.Ns builtinsNs mb) (hbb : ∀ x : Str, x ≠ "__name__" → mb x = bootBuiltins x) (hlim : s₁.heap.NoLimit) (hg : s₁.gens = #[])
    (ha : s₁.heap.get? a = some { cls := .type "list", data := .seq vs.toArray }) (hr : Room k callerA) (F : ∀ base : Heap, K.In base → base.Ns mainGlobals mg → FnOkG P w K mg base k fa fd [x] sp) (hbind : ∀ (s : Shared) (u : Value), BindsTo s fd ⟨[u], []⟩ [(x, u)])
    (H : Hp) (hO : Only H) (hok : HOk P w H s₁.heap) (hA : ∀ b u, H b = some u → b = a ∧ K.lookup a = none) (hsp : sp [.ref a] H (fun v _ => v = .bl true) fun _ _ _ => False) :
    codeAny (model P w) callerA (.call (.ref fa) ⟨[.ref a], []⟩) (fun r s' => r = .ok (.ret (.bool true)) ∧ OldK s₁.heap s'.heap ∧ s'.os = s₁.os ∧ AllBare s'.gens) s₁ := by
  have free : ∀ {b : Addr}, (b = a → K.lookup a = none → False) → H b = none := fun {b} no => by
    cases q : H b with
    | none => rfl
    | some u => exact (no (hA b u q).1 (hA b u q).2).elim
  have dict : ∀ {b : Addr} {m : Str → Option Value}, s₁.heap.Ns b m → (hidT s₁.heap H).Ns b m := fun {b m} got => by
    obtain ⟨o, es, ep, e, d, r⟩ := got
    refine ⟨o, es, ep, hidT_get e (free fun z _ => ?_), d, r⟩
    subst z
    rw [ha] at e
    cases e
    cases d
  have own : K.In (hidT s₁.heap H) := fun b o e => hidT_get (KX b o e) (free fun z q => by subst z; rw [q] at e; cases e)
  have mod : Mod K mg (hidT s₁.heap H) := by
    obtain ⟨mc, l1, l2⟩ := hlim
    exact ⟨own, dict hns, ⟨mb, dict hb, hbb⟩, ⟨mc, dict l1, l2⟩⟩
  have none_in : ∀ {b : Addr}, b ∉ ([] : List Addr) := fun {b} z => nomatch z
  have e0 : Env0 P w K mg (hidT s₁.heap H) callerA [] s₁ H := ⟨rfl, mod, fun b o e => of_hidT e, Nat.le_of_eq (hidT_size _ _), trivial, fun b hb => (none_in hb).elim, hok, .of_eq hg⟩
  refine codeAny_mono ((F _ own (dict hns)).run callerA [] s₁ H ⟨[.ref a], []⟩ [.ref a] [.ref a] _ _ hr rfl e0 (hbind s₁ (.ref a)) (.cons rfl .nil) hsp) fun r s' h => ?_
  match r, h with
  | .ok (.ret u), ⟨v, H', os, bare, un, hok', rel, q⟩ =>
    have q' : v = .bl true := q
    subst q'
    have rel' : u = Value.bool true := rel
    subst rel'
    refine ⟨rfl, OldK.of_keep fun b o e => ?_, os, bare⟩
    rcases hO b with z | ⟨ob, xs, z⟩
    · exact un.keep b o e z none_in none_in
    · have e1 := (hok b _ z).1
      rw [e] at e1
      cases e1
      exact (hok' b _ (un.frzs b _ _ z)).1
theorem law_callG (KX : K.In s₁.heap) (hns : s₁.heap.Ns mainGlobals mg) (hb : s₁.heap.Ns builtinsNs mb) (hbb : ∀ x : Str, x ≠ "__name__" → mb x = bootBuiltins x) (hlim : s₁.heap.NoLimit) (hg : s₁.gens = #[])
    (ha : s₁.heap.get? a = some { cls := .type "list", data := .seq vs.toArray }) (hi : IntsAre vs ns) (hl : ns.length ≤ sizeLine) (hr : Room k callerA) (F : ∀ base : Heap, K.In base → base.Ns mainGlobals mg → FnOkG P w K mg base k fa fd [x] sp) (hbind : ∀ (s : Shared) (u : Value), BindsTo s fd ⟨[u], []⟩ [(x, u)])
    (hsp : ∀ H : Hp, Only H → SqL K H a (ns.map V.int) → sp [.ref a] H (fun v _ => v = .bl true) fun _ _ _ => False) :
    codeAny (model P w) callerA (.call (.ref fa) ⟨[.ref a], []⟩) (fun r s' => r = .ok (.ret (.bool true)) ∧ OldK s₁.heap s'.heap ∧ s'.os = s₁.os ∧ AllBare s'.gens) s₁ := by
  have rv := vals_ints hi
  have go := call_at (x := x) (sp := sp) KX hns hb hbb hlim hg ha hr F hbind
  cases hk : K.lookup a with
  | some o =>
    have e := KX a o hk
    rw [ha] at e
    cases e
    exact go (fun _ => none) (fun _ => .inl rfl) (fun b u z => nomatch (show (none : Option HO) = some u from z)) (fun b u z => nomatch (show (none : Option HO) = some u from z)) (hsp _ (fun _ => .inl rfl) (.inr ⟨_, vs.toArray, _, hk, rfl, rfl, rfl, by rw [List.size_toArray, hi.length]; exact hl, by simpa using rv⟩))
  | none =>
    obtain ⟨H, hH1, hH2⟩ : ∃ H : Hp, H a = some (.frz { cls := .type "list", data := .seq vs.toArray } (.lst (ns.map V.int))) ∧ ∀ b, b ≠ a → H b = none := ⟨fun b => if b = a then some (.frz { cls := .type "list", data := .seq vs.toArray } (.lst (ns.map V.int))) else none, if_pos rfl, fun b hb => if_neg hb⟩
    have only : Only H := fun b => by
      by_cases h : b = a
      · subst h; exact .inr ⟨_, _, hH1⟩
      · exact .inl (hH2 b h)
    refine go H only (fun b u z => ?_) (fun b u z => ?_) (hsp H only (.inl (.inr ⟨_, hH1⟩)))
    · by_cases h : b = a
      · subst h
        rw [hH1] at z
        cases z
        exact ⟨ha, by rw [List.length_map]; exact hl, vs, _, rv, ha⟩
      · rw [hH2 b h] at z
        cases z
    · by_cases h : b = a
      · exact ⟨h, hk⟩
      · rw [hH2 b h] at z
        cases z
end
theorem walk_ofG {l : PySem.W.OpenLaw} {n k : Nat} {q : Program} {loose : List Str} {XP : (Str → Option Value) → Heap → Prop} {YP : World → Heap → Prop} {d : DefRec} {K : Params → PySem.W.Frag} {sp : World → Sp} {x : Str}
    (hn : l.most = some n) (hn2 : n ≤ sizeLine) (hdf : d.params.defaults = []) (hr : Room k callerA) (hY : ∀ (w : World) (h : Heap), YP w h → (K w.params).In h)
    (F : ∀ (w : World) (mg : Str → Option Value) (fa : Addr) (h : Heap), (K w.params).In h → h.Ns mainGlobals mg → mg d.name = some (.ref fa) →
      ∃ fd : FuncData, (∀ (s : Shared) (u : Value), BindsTo s fd ⟨[u], []⟩ [(x, u)]) ∧ ∀ base : Heap, (K w.params).In base → base.Ns mainGlobals mg → FnOkG l.prog w (K w.params) mg base k fa fd [x] (sp w))
    (hsp : ∀ (w : World) (H : Hp) (a : Addr) (ns : List Int), ns.length ≤ n → (∀ z ∈ ns, Builtin.Int.intBits z ≤ 1048576) → Only H → SqL (K w.params) H a (ns.map V.int) → sp w [.ref a] H (fun v _ => v = .bl true) fun _ _ _ => False) :
    PySem.W.WalkO q loose XP YP l.row.toRowW d [] (fun f vs => PySem.call f vs) :=
  Att.attach_callB hn hdf fun w s₀ s₁ mg mb fa o pm cd doc a vs ns G Y _ _ _ hmg hobj hints hlen hbits hg => by
    obtain ⟨fd, hb, hF⟩ := F w mg fa _ (hY w _ Y) G.T.g hmg
    exact law_callG (hY w _ Y) G.T.g G.T.b G.T.builtins G.T.nolimit hg hobj hints (Nat.le_trans hlen hn2) hr hF hb fun H hO hS => hsp w H a ns hlen hbits hO hS
end Wg
set_option Elab.async false
set_option linter.all false
set_option maxRecDepth 100000
set_option maxHeartbeats 2000000
/-! a loop over a list or a tuple -/
namespace Wg
open PySem PySem.Spec PyProof.Rows L2 Evl Wc
theorem pi_or {X : Cx} {tg it : Expr} {w1 w2 : TI} (h1 : PI X tg it w1) (h2 : PI X tg it w2) : PI X tg it (fun σ H R => w1 σ H R ∨ w2 σ H R) := ⟨fun pins s σ H R I h => h.elim (h1.run pins s σ H R I) (h2.run pins s σ H R I)⟩
def iSeq (K : PySem.W.Frag) (tl : TE) : TI := fun σ H R => iList K tl σ H R ∨ iTup K tl σ H R
theorem pi_seq {X : Cx} {K : PySem.W.Frag} {tg l : Expr} {tl : TE} (hl : PE X l tl) (hK : X.K = K := by rfl) : PI X tg l (iSeq K tl) := hK ▸ pi_or (pi_list hl) (pi_tup hl)
section
variable {w1 w2 : TI} {σ : L2.St} {H : Hp} {n : Nat} {own : Addr → Prop} {P : Nat → V → Hp → Prop}
theorem src_orL (h : Src w1 σ H n own P) : Src (fun σ H R => w1 σ H R ∨ w2 σ H R) σ H n own P := fun H1 e R q => .inl (h H1 e R q)
theorem src_orR (h : Src w2 σ H n own P) : Src (fun σ H R => w1 σ H R ∨ w2 σ H R) σ H n own P := fun H1 e R q => .inr (h H1 e R q)
end
end Wg
set_option Elab.async false
set_option linter.all false
set_option maxRecDepth 100000
set_option maxHeartbeats 2000000
/-! comprehensions that make new objects, ranges backwards, smaller rules -/
namespace Wg
open PySem PySem.Spec PyProof.Rows L2 Evl Wc
section
variable {K : PySem.W.Frag} {σ : L2.St} {H : Hp} {te ta tb : TE}
theorem ex_of_exc {fa : Addr} {H H1 H2 : Hp} (e : Ex H H1) (hf : H fa = none) (x : Exc (fun c => c = fa) H1 H2) : Ex H H2 := fun c o hc => x c o (fun z => by rw [z, hf] at hc; cases hc) (e c o hc)
/-- new objects, one for each o i, in p -/
structure News (H H' : Hp) (o : Nat → HO) (ps : List Addr) : Prop where
  new : ∀ p ∈ ps, H p = none
  at_ : ∀ i p, ps[i]? = some p → H' p = some (o i)
  nd : ps.Nodup
theorem lcN {wi : TI} {j : Nat} {vs : List Nat} {n : Nat} {own : Addr → Prop} {P : Nat → V → Hp → Prop} {Q : VK} (o : Nat → HO) (hs : Src wi σ H n own P) (hn : n ≤ 40000) (hw : ∀ x, wipe ((wipe σ vs).set j (some x)) vs = wipe σ vs)
    (he : ∀ (i : Nat) (x : V) H1, i < n → P i x H1 → Ex H H1 → ∀ Q' : VK, (∀ p H2, H1 p = none → Ex H1 H2 → H2 p = some (o i) → Q' (.ref p) H2) → te ((wipe σ vs).set j (some x)) H1 Q')
    (k : ∀ q H2 ps, H q = none → Ex H H2 → H2 q = some (.lst (ps.map V.ref)) → ps.length = n → News H H2 o ps → q ∉ ps → Q (.ref q) H2) : tLc wi (gName j) tYes te vs σ H Q :=
  hs H (Ex.refl H) _ fun J H1 S e1 w hS => fun Dl hD => by
    have hDH : H Dl = none := fresh_back e1 hD
    refine lc_it w (Qd := fun H3 => Q (.ref Dl) H3) (fun i Hi => Ex H1 Hi ∧ ∃ ps : List Addr, Hi Dl = some (.lst (ps.map V.ref)) ∧ ps.length = i ∧ News H1 Hi o ps ∧ Dl ∉ ps) ?_ (fun i Hi hi p => hS (fun _ => False) Hi (fun b z => z.elim) (.of p.1)) ?_ ?_
    · exact ⟨Ex.new hD, [], upd_same, rfl, ⟨fun p hp => (nomatch hp), fun i p hp => (by rw [List.getElem?_nil] at hp; cases hp), List.Pairwise.nil⟩, fun hp => (nomatch hp)⟩
    · rintro i x Ha Hb hi ⟨R, ps, h1, h2, h3, h4⟩ ⟨ey, hP⟩
      refine ⟨hw x, ?_⟩
      show te ((wipe σ vs).set j (some x)) Hb fun y H4 => _
      refine he i x Hb hi hP (e1.trans (R.trans ey)) _ fun p H4 hp e4 hp4 => ?_
      have hDl4 : H4 Dl = some (.lst (ps.map V.ref)) := e4 _ _ (ey _ _ h1)
      have npD : p ≠ Dl := fun z => by rw [z, ey _ _ h1] at hp; cases hp
      refine ⟨ps.map V.ref, hDl4, sz_lt (by rw [List.length_map]; omega), Ex.mut ((R.trans ey).trans e4) hD, ps ++ [p], by rw [upd_same, List.map_append]; rfl, by rw [List.length_append, h2]; rfl, ⟨fun q hq => ?_, fun t q hq => ?_, ?_⟩, fun hq => ?_⟩
      · rcases List.mem_append.mp hq with hq | hq
        · exact h3.new q hq
        · rw [List.mem_singleton.mp hq]
          exact fresh_back (R.trans ey) hp
      · by_cases ht : t < ps.length
        · rw [List.getElem?_append_left ht] at hq
          have hne : q ≠ Dl := fun z => h4 (z ▸ List.mem_of_getElem? hq)
          rw [upd_ne hne]
          exact e4 _ _ (ey _ _ (h3.at_ t q hq))
        · rw [List.getElem?_append_right (by omega)] at hq
          have ht0 : t - ps.length = 0 := by
            by_cases z : t - ps.length = 0
            · exact z
            · rw [List.getElem?_eq_none (by simp; omega)] at hq
              cases hq
          rw [ht0] at hq
          cases hq
          rw [upd_ne npD, hp4]
          congr 2
          omega
      · refine List.nodup_append.mpr ⟨h3.nd, List.pairwise_singleton _ _, fun a ha b hb => ?_⟩
        rw [List.mem_singleton.mp hb]
        rintro rfl
        obtain ⟨t, ht⟩ := List.mem_iff_getElem?.mp ha
        have := ey _ _ (h3.at_ t _ ht)
        rw [hp] at this
        cases this
      · rcases List.mem_append.mp hq with hq | hq
        · exact h4 hq
        · exact npD (List.mem_singleton.mp hq).symm
    · rintro H3 ⟨R, ps, h1, h2, h3, h4⟩
      exact k Dl H3 ps hDH (e1.trans R) h1 h2 ⟨fun p hp => fresh_back e1 (h3.new p hp), h3.at_, h3.nd⟩ h4
/-- from the end of a range -/
theorem src_revR {n : Nat} (h : Ev te σ H (.int (n : Int))) (hn : n ≤ 1000000000) : Src (iRevR (tRg1 te)) σ H n (fun _ => False) (fun i v _ => v = .int ((n : Int) - 1 - (i : Int))) := fun H1 e R q =>
  h H1 e _ fun H2 e2 => ⟨(n : Int), rfl, by omega, by omega, by omega, by omega, by
    have e0 : ((n : Int) - 0).toNat = n := by omega
    rw [e0, show (0 : Int) + (n : Int) - 1 = (n : Int) - 1 by omega]
    have w := (walk_rangeC (lo := (n : Int) - 1) (c := -1) (n := n)).mono (fun _ z => z) (Y' := fun i Ha v Hb => Ex Ha Hb ∧ v = .int ((n : Int) - 1 - (i : Int))) (fun i Ha v Hb _ _ hy => by
      obtain ⟨rfl, rfl⟩ := hy
      exact ⟨Ex.refl _, by show V.int ((n : Int) - 1 + ((i : Nat) : Int) * -1) = _; congr 1; omega⟩)
    exact q _ H2 _ e2 w fun _ _ _ _ => True.intro⟩
theorem q_parLC {i j : Nat} {c : V} {tz : TS} {D : Ends} {xs : List V} (h : EvL ta σ H xs) (k : ∀ p H1, H p = none → Ex H H1 → H1 p = some (.lst xs) → tz D ((σ.set i (some (.ref p))).set j (some c)) H1) : tSeq (tPar i j (tCons ta (tCons (tC c) tNil))) tz D σ H :=
  h H (Ex.refl _) _ fun p H1 hp e1 h1 => ⟨.ref p, c, rfl, k p H1 hp e1 h1⟩
theorem q_parCC {i j : Nat} {c d : V} {tz : TS} {D : Ends} (k : tz D ((σ.set i (some c)).set j (some d)) H) : tSeq (tPar i j (tCons (tC c) (tCons (tC d) tNil))) tz D σ H := ⟨c, d, rfl, k⟩
/-- two names, two constants -/
theorem q_asg2C {i j : Nat} {c d : V} {tz : TS} {D : Ends} (k : ∀ H1, Ex H H1 → tz D ((σ.set i (some c)).set j (some d)) H1) : tSeq (tAsg (tTup (tCons (tC c) (tCons (tC d) tNil))) (gTup K 2 (gCons (gName i) (gCons (gName j) gNil)))) tz D σ H :=
  ⟨by show 2 ≤ sizeLine; decide, fun pt hpt => ⟨pt, _, rfl, st_of upd_same, rfl, c, [d], rfl, d, [], rfl, rfl, k _ (Ex.new hpt)⟩⟩
theorem q_asgIf {i : Nat} {tu : TT} {tz : TS} {D : Ends} {b : Bool} (h : EvT tu σ H b) (h1 : b = true → ∀ H1, Ex H H1 → ta σ H1 fun v H2 => tz D (σ.set i (some v)) H2) (h2 : b = false → ∀ H1, Ex H H1 → tb σ H1 fun v H2 => tz D (σ.set i (some v)) H2) : tSeq (tAsg (tIf tu ta tb) (gName i)) tz D σ H := h H (Ex.refl H) _ fun H1 e1 => by
  cases b with
  | true => exact h1 rfl H1 e1
  | false => exact h2 rfl H1 e1
theorem hix {i : Nat} {x : Addr} {xs : List V} {j : Int} {v : V} (hx : H x = some (.tup xs)) (h0 : σ[i]? = some (some (.ref x))) (ha : atI xs j = some v) : Ev (tOp (rIxAny K) (tVar i) (tC (.int j))) σ H v := ev_op (ev_var h0) ev_c fun H3 e3 Q3 q3 => .inl (.inr (rv_ixT (K := K) (st_of hx) ha H3 e3 Q3 q3))
def rMin2 : List V → Hp → VK → Prop := fun xs H Q => ∃ i j, xs = [.int i, .int j] ∧ Q (.int (if j < i then j else i)) H
theorem ev_min2 {i j : Int} (ha : Ev ta σ H (.int i)) (hb : Ev tb σ H (.int j)) : Ev (tCB rMin2 (tCons ta (tCons tb tNil))) σ H (.int (if j < i then j else i)) := fun H1 e Q q =>
  ha H1 e _ fun H2 e2 => hb H2 (e.trans e2) _ fun H3 e3 => ⟨i, j, rfl, q H3 (e2.trans e3)⟩
end
end Wg
set_option Elab.async false
set_option linter.all false
set_option maxRecDepth 100000
set_option maxHeartbeats 2000000
/-! errors of own classes: raised, passed on, caught; three named values -/
namespace Wg
open PySem PySem.Spec PyProof.Rows L2 Evl Wc
/-- an own class of errors under ValueError, by its name -/
structure Err (K : PySem.W.Frag) (mg : Str → Option Value) (x : Str) (C : Addr) : Prop where
  gP : mg x = some (.ref C)
  xP : PySem.W.excIn K C [.type "ValueError", .type "Exception", .type "BaseException", .type "object"] "ValueError.__new__" = true
  kP : PySem.W.keepIn K (.ref C) = true
  bP : PySem.W.subIn K (.ref C) (.type "BaseException") = some true
  tP : PySem.W.typeIn K (.ref C) = some (.type "type")
/-- .. caught by its own name, asked for its kind -/
structure ErrI (K : PySem.W.Frag) (C : Addr) : Prop where
  te : PySem.W.exmOne K (.ref C) (.ref C) = some true
  cl : ExcC K C
/-- isinstance of the error that the suite holds, of whatever class -/
def rIsE2 (K : PySem.W.Frag) (D a : Addr) (cls : Value) (d : Option Addr) : List V → Hp → VK → Prop := fun xs H Q => cls = .ref D ∧ d = none ∧ rIsE K D a xs H Q
theorem call_isE2 {X : Cx} {a D : Addr} {oe : Obj} {pn : List (Addr × Obj)} {cls : Value} {d : Option Addr} (C : ExcC X.K D) (hz : Zc cls d oe) (hf : ∃ vs, oe.data = .fields vs) : CallR (X.suite a ((a, oe) :: pn)) (.builtin "isinstance") (rIsE2 X.K D a cls d) := by
  intro pins s σ H xs us Q I r h
  obtain ⟨rfl, rfl, h⟩ := h
  exact (call_isE C hz hf) pins s σ H xs us Q I r h
theorem is_err {K : PySem.W.Frag} {D a B : Addr} {b : Bool} {H : Hp} {Q : VK} (h : PySem.W.kitOne K (.ref D) (.ref B) = some b) (q : Q (.bl b) H) : rIsE2 K D a (.ref D) none [.ref a, .ref B] H Q := ⟨rfl, rfl, .ref B, .ref B, b, rfl, fun u hu => by cases hu; rfl, h, q⟩
section
variable {P : Program} {w : World} {K : PySem.W.Frag} {mg : Str → Option Value} {base : Heap}
/-- a def that may raise, called by its name -/
structure CalS (P : Program) (w : World) (K : PySem.W.Frag) (mg : Str → Option Value) (base : Heap) (x : Str) (st : Stmt) (k : Nat) (ps : List Str) (sp : Sp) : Prop where
  ex : ∃ f fd, FnOk P w K mg base (L2.CX P w) k f fd ps sp ∧ mg x = some (.ref f) ∧ Fun K x x st f fd ∧ Binds K fd ps []
/-- .. where it raises nothing -/
def calm (sp : Sp) : Sp := fun vs H Q _ => sp vs H Q E0
theorem CalS.calm {x : Str} {st : Stmt} {k : Nat} {ps : List Str} {sp : Sp} (C : CalS P w K mg base x st k ps sp) : Cal P w K mg base x st k ps (calm sp) := by
  obtain ⟨f, fd, F, hm, hF, hb⟩ := C.ex
  refine ⟨f, fd, ⟨fun vs H Q E h => F.len _ _ _ _ h, fun A outer s H args us vs Q E hr he hb r h => codeAny_mono (F.run A outer s H args us vs Q E0 hr he hb r h) fun z s' hz => ?_⟩, hm, hF, hb⟩
  cases z with
  | ok fl => cases fl <;> exact hz
  | error e =>
    obtain ⟨_, _, _, _, _, _, _, _, _, _, _, _, no⟩ := hz
    exact no
end
section
variable {X : Cx} {x : Str} {st : Stmt} {k n : Nat} {ps : List Str} {sp : Sp} {p pos pos' p2 : Pos} {e : Expr} {es : List Expr} {t : TA} {W : WX} {m : Str} {j : Nat} {C : Addr}
theorem pe_clS (Cl : CalS X.prog X.w X.K X.mg X.base x st k ps sp) (hr : Room n X.A) (tk : Takes X W) (ha : PA X (e :: es) t) (hkn : k ≤ n := by decide) (hg : Gl X x := by rfl) (hdb : (x == ("__debug__" : Str)) = false := by decide)
    (he : starEach (e :: es) X.env = (false, eval e X.env) :: starEach es X.env := by rfl) (hpl : (backTo pos (starEach es X.env)).any (·.1) = false := by rfl) : PE X (.Call (.Name x p) (e :: es) [] pos) (tCallS sp (WE W) t) := by
  obtain ⟨f, fd, F, hm, hF, hb⟩ := Cl.ex
  exact pe_callS F (hr.mono hkn) hg hm hF.kp hb (fun σ => passAt tk σ) ha hdb he hpl
theorem ps_raiseE (hc : X.calm = true) (tk : Takes X W) (Er : Err X.K X.mg x C) (hg : Gl X x := by rfl) (hdb : (x == ("__debug__" : Str)) = false := by decide) : PS X (.Raise (some (.Call (.Name x p) [.Constant (.str m) j p2] [] pos)) none pos') (fun _ σ H => W (.ref C) none σ H) :=
  ps_raise hc tk (pmk_own PySem.F.excBase_ValueError Er.xP Er.gP Er.kP (raises_own Er.bP Er.tP) hg hdb)
end
/-- three named values, the last one first -/
def sw3 {α : Type} : List α → List α → List α
  | [], [a, b, c] => [c, b, a]
  | _, _ => []
theorem sw3_rel {vs zs : List V} {us ws : List Value} (r : Vals vs us) (rz : Vals zs ws) : Vals (sw3 vs zs) (sw3 us ws) := by
  cases r with
  | cons => exact .nil
  | nil =>
    match zs, ws, rz with
    | [], _, .nil => exact .nil
    | [_], _, .cons _ .nil => exact .nil
    | [_, _], _, .cons _ (.cons _ .nil) => exact .nil
    | [_, _, _], _, .cons h1 (.cons h2 (.cons h3 .nil)) => exact .cons h3 (.cons h2 (.cons h1 .nil))
    | _ :: _ :: _ :: _ :: _, _, .cons _ (.cons _ (.cons _ (.cons _ _))) => exact .nil
theorem kb3 {x : Str} {st : Stmt} {ps ks : List Str} (hp : ps.length = 3)
    (h : ∀ (kV doc pm : Value) (an : Option Addr) (cdv ct a b c : Value), bindArgs (PySem.W.fnOf x x (defArgs st) (defBody st) (defScope st) .none kV doc pm an cdv ct) ⟨[], ks.zip [a, b, c]⟩ = pure (ps.zip (sw3 [] [a, b, c]))) : KB x st 0 ps ks sw3 sw3 := by
  intro K f fd F
  obtain ⟨oc, od, kV, doc, pm, an, cdv, ct, osl, rfl, lk, hcd⟩ := F.ex
  refine ⟨fun s us ws _ hl => ?_, fun r rz => sw3_rel r rz⟩
  rw [hp] at hl
  match us, ws, hl with
  | [], [a, b, c], _ => exact .of_eq (h kV doc pm an cdv ct a b c)
  | [], [], hl => exact absurd hl (by simp [sw3])
  | [], [_], hl => exact absurd hl (by simp [sw3])
  | [], [_, _], hl => exact absurd hl (by simp [sw3])
  | [], _ :: _ :: _ :: _ :: _, hl => exact absurd hl (by simp [sw3])
  | _ :: _, ws, hl => exact absurd hl (by simp [sw3])
end Wg
set_option Elab.async false
set_option linter.all false
set_option maxRecDepth 100000
set_option maxHeartbeats 2000000
/-! two lists, item by item; a pair popped off a list -/
namespace Wg
open PySem PySem.Spec PyProof.Rows L2 Evl Wc
inductive All2 {α β : Type} (R : α → β → Prop) : List α → List β → Prop
  | nil : All2 R [] []
  | cons {a : α} {b : β} {as : List α} {bs : List β} : R a b → All2 R as bs → All2 R (a :: as) (b :: bs)
namespace All2
variable {α β : Type} {R R' : α → β → Prop} {as as' : List α} {bs bs' : List β}
theorem mono (h : All2 R as bs) (k : ∀ a b, R a b → R' a b) : All2 R' as bs := by
  induction h with
  | nil => exact .nil
  | cons r _ ih => exact .cons (k _ _ r) ih
theorem len (h : All2 R as bs) : as.length = bs.length := by
  induction h with
  | nil => rfl
  | cons _ _ ih => rw [List.length_cons, List.length_cons, ih]
theorem app (h : All2 R as bs) (h' : All2 R as' bs') : All2 R (as ++ as') (bs ++ bs') := by
  induction h with
  | nil => exact h'
  | cons r _ ih => exact .cons r ih
theorem one {a : α} {b : β} (r : R a b) : All2 R [a] [b] := .cons r .nil
theorem push {a : α} {b : β} (h : All2 R as bs) (r : R a b) : All2 R (as ++ [a]) (bs ++ [b]) := h.app (one r)
theorem pop : ∀ {as : List α} {bs : List β} {b : β}, All2 R as (bs ++ [b]) → ∃ as' a, as = as' ++ [a] ∧ All2 R as' bs ∧ R a b
  | [], [], _, h => nomatch h
  | [], _ :: _, _, h => nomatch h
  | a :: as, [], b, h => by
    cases h with
    | cons r h' => cases h' with
      | nil => exact ⟨[], a, rfl, .nil, r⟩
  | a :: as, b0 :: bs, b, h => by
    cases h with
    | cons r h' =>
      obtain ⟨as', x, rfl, h1, h2⟩ := pop h'
      exact ⟨a :: as', x, rfl, .cons r h1, h2⟩
theorem at_ (h : All2 R as bs) : ∀ {i : Nat} {b : β}, bs[i]? = some b → ∃ a, as[i]? = some a ∧ R a b := by
  induction h with
  | nil => intro i b h; simp at h
  | cons r _ ih =>
    intro i b h
    cases i with
    | zero =>
      rw [List.getElem?_cons_zero] at h
      cases h
      exact ⟨_, rfl, r⟩
    | succ i => exact ih (by rwa [List.getElem?_cons_succ] at h)
theorem take (h : All2 R as bs) (n : Nat) : All2 R (as.take n) (bs.take n) := by
  induction h generalizing n with
  | nil => simp; exact .nil
  | cons r _ ih => cases n with
    | zero => exact .nil
    | succ n => exact .cons r (ih n)
end All2
section
variable {K : PySem.W.Frag} {σ : L2.St} {H : Hp}
theorem q_popP {i a b : Nat} {pw t : Addr} {xs : List V} {u v : V} {D : Ends} {tz : TS} (h0 : σ[i]? = some (some (.ref pw))) (h : H pw = some (.lst (xs ++ [.ref t]))) (ht : H t = some (.tup [u, v])) (k : tz D ((σ.set a (some u)).set b (some v)) (upd H pw (.lst xs))) :
    tSeq (tAsg (tBM0 K "list" rPop (tVar i)) (gTup K 2 (gCons (gName a) (gCons (gName b) gNil)))) tz D σ H := by
  have hne : t ≠ pw := fun z => by rw [z, h] at ht; cases ht
  refine ⟨.ref pw, h0, Or.inl ⟨rfl, _, sq_of h⟩, pw, xs ++ [.ref t], .ref t, rfl, rfl, h, by simp, ?_⟩
  rw [List.dropLast_concat]
  exact ⟨t, _, rfl, st_of (by rw [upd_ne hne]; exact ht), rfl, u, [v], rfl, v, [], rfl, rfl, k⟩
theorem s_appT {i : Nat} {l : Addr} {xs : List V} {te : TE} {D : Ends} (h0 : σ[i]? = some (some (.ref l))) (hl : H l = some (.lst xs)) (h : te σ H fun v H2 => rAppend (.ref l) [v] H2 fun _ H3 => D.nx σ H3) : tDrop (tBM K "list" rAppend (tVar i) (tCons te tNil)) D σ H := ⟨.ref l, h0, Or.inl ⟨rfl, xs, sq_of hl⟩, h⟩
end
end Wg
set_option Elab.async false
set_option linter.all false
set_option maxRecDepth 100000
set_option maxHeartbeats 4000000
/-! sets of numbers out of a list, sorted -/
namespace Wt
open PySem PySem.Spec PyProof.Rows L2 Evl Wc
section
variable {P : Program} {w : World} {A : Around} {E : Value → Shared → Prop} {s : Shared}
set_option maxHeartbeats 3200000 in
theorem call_set_ints {src : Addr} {its : Array Value} {xs : List Int} {Q : Value → Shared → Prop} (noH : A.handled = none) (isl : s.heap.IsList src its) (hit : IntsAre its.toList xs) (room : xs.length + 1 < scanBound)
    (fin : ∀ (h2 : Heap) (tk c : Nat), SetR w h2 s.heap.objs.size (fun j => decide (j ∈ xs)) c → c ≤ xs.length → (∀ b o, s.heap.get? b = some o → h2.get? b = some o) → Q (.ref s.heap.objs.size) { s with heap := h2, toks := tk }) :
    wpAny (model P w) A (call (.type "set") [.ref src]) Q E s := by
  have lx : xs.length = its.size := by rw [← Array.length_toList, IntsAre.length hit]
  obtain ⟨c, tl, q0⟩ := PySem.F.called_set.mro
  have q1 := PySem.F.called_set.made; have q2 := PySem.F.called_set.sub
  refine wpAny_call (codeAny_of_tree (wpAny_pure ⟨Code.quiet_builtin _ (by decide +kernel), codeAny_builtin PySem.F.entry_type_call ?_⟩))
  rw [Around.under_plain (weight_type_call_type "set" [.ref src] []) rfl]
  have q3 := PySem.F.called_set.notType; have q4 := PySem.F.called_set.canCreate
  have q5 := PySem.F.typeCall_set_1 (.ref src)
  repeat (any_goals (first | assumption | wp_step))
  refine codeAny_mono (code_set_led1 (.ref src) (E := E) (Q₁ := fun ob t1 => ob = .ref s.heap.objs.size ∧ t1 = { s with heap := s.heap.push (so w) }) ⟨rfl, rfl⟩) fun r t1 hr => ?_
  match r, hr with
  | .error e, hr => exact hr
  | .ok (.ret ob), hr =>
    obtain ⟨rfl, rfl⟩ := hr
    have atS : (s.heap.push (so w)).get? s.heap.objs.size = some (so w) := Heap.get?_push_size _ rfl
    have tyS : Shared.TypeIs { s with heap := s.heap.push (so w) } (.ref s.heap.objs.size) "set" := ⟨_, atS, rfl⟩
    have q6 := PySem.F.called_set.init.lookup
    have q7 := PySem.F.called_set.init.bind (.ref s.heap.objs.size)
    repeat (any_goals (first | assumption | wp_step))
    refine codeAny_mono (codeAny_call_builtin (R := wants (fun r t2 => r = .none ∧ ∃ h2 tk c, t2 = { s with heap := h2, toks := tk } ∧ SetR w h2 s.heap.objs.size (fun j => decide (j ∈ xs)) c ∧ c ≤ xs.length ∧ ∀ b o, s.heap.get? b = some o → h2.get? b = some o) E) PySem.F.called_set.init.plain PySem.F.entry_set_init (check_set_init_1 tyS ?_)) fun r2 t2 hr2 => ?_
    · obtain ⟨ol, atl, cl, nl, dl⟩ := isl
      obtain ⟨ocls, odict, odata, oslots⟩ := ol
      simp only at cl dl
      subst cl; subst dl
      have lt := Heap.lt_size atl
      have isl2 : (s.heap.push (so w)).IsList src its := ⟨_, Heap.get?_push_of_some _ atl, rfl, nl, rfl⟩
      have q8 := PySem.F.sub_list_set; have q9 := PySem.F.sub_list_frozenset
      have q10 : (Value.type "list" == Value.type "dict") = false := by decide
      have atl2 : (s.heap.push (so w)).get? src = some { cls := .type "list", dict := odict, data := .seq its nl, slots := oslots } := Heap.get?_push_of_some _ atl
      unfold Builtin.«set.__init__» noKeywords Builtin.Frozenset.updateFrom
      generalize hI : pyIter = iter
      wp_walk
      subst hI
      refine wpAny_pyIter_list isl2 (wpAny_bind (wpAny_runValue ?_))
      have no3 : A.in1.in1.in1.handled = none := by simp [noH]
      have zI : (s.heap.push (so w)).objs.size = s.heap.objs.size + 1 := Heap.size_push ..
      have ne1 : src ≠ (s.heap.push (so w)).objs.size := by rw [zI]; exact Nat.ne_of_lt (Nat.lt_succ_of_lt lt)
      have out1 : s.heap.objs.size ∉ [(s.heap.push (so w)).objs.size, src] := by
        rw [zI]
        intro z
        rcases List.mem_cons.mp z with z | z
        · exact absurd z (Nat.ne_of_lt (Nat.lt_succ_self _))
        · exact absurd (List.mem_singleton.mp z) (Nat.ne_of_gt lt)
      refine set_update_ints (P := P) ((Walks.list no3 _ src ne1 its).toS) s.heap.objs.size out1 xs lx.symm room (fun i v hv => ?_) its.size 0 _ (Nat.sub_zero _) (Nat.zero_le _) ⟨⟨_, Heap.get?_push_size _ rfl, rfl, rfl⟩, isl2.push _⟩ ⟨0, Nat.le_refl _, setR_new_at (ns := xs) (Heap.get?_push_of_some _ atS)⟩ fun s2 l2 mv hc2 X2 => ?_
      · have hv2 : its.toList[i]? = some v := by rw [Array.getElem?_toList]; exact hv
        obtain ⟨t, e⟩ := IntsAre.int_at hit i v hv2
        have hi : i < xs.length := by
          have := (List.getElem?_eq_some_iff.mp hv2).1
          rw [Array.length_toList] at this
          omega
        exact ⟨xs[i], t, List.getElem?_eq_getElem hi, by rw [e, List.getD_eq_getElem?_getD, List.getElem?_eq_getElem hi]; rfl⟩
      · obtain ⟨h2, g2, d2, tk2, os2⟩ := s2
        obtain rfl : g2 = s.gens := mv.gens
        obtain rfl : d2 = s.drawn := mv.drawn
        obtain rfl : os2 = s.os := mv.os
        show wpAny _ _ (Bind.bind (pure _) _) _ _ _
        refine wpAny_pure (wpAny_pure ⟨rfl, h2, tk2, l2, rfl, X2, by omega, fun b o e => ?_⟩)
        have hb := Heap.lt_size e
        refine mv.heap b o (fun z => ?_) (Heap.get?_push_of_some _ (Heap.get?_push_of_some _ e))
        rw [zI] at z
        rcases List.mem_cons.mp z with z | z
        · exact absurd z (Nat.ne_of_lt hb)
        · exact absurd (List.mem_singleton.mp z) (Nat.ne_of_lt (Nat.lt_succ_of_lt hb))
    · match r2, hr2 with
      | .error e, hr2 => exact hr2
      | .ok (.ret v2), hr2 =>
        obtain ⟨rfl, h2, tk, l, rfl, X, m, k⟩ := hr2
        repeat (any_goals (first | assumption | wp_step))
        exact fin _ _ _ X m k
end
section
variable {X : Cx}
def rSetI (K : PySem.W.Frag) (w : World) : List V → Hp → VK → Prop := fun vs H Q => ∃ (p : Addr) (ns : List Int), vs = [.ref p] ∧ SqL K H p (ns.map V.int) ∧ ns.length ≤ 60 ∧ ∀ q c, c ≤ ns.length → H q = none → Q (.ref q) (upd H q (SetO w q (fun j => decide (j ∈ ns)) c))
theorem cr_setI (hc : X.calm = true) : CallR X (.type "set") (rSetI X.K X.w) := by
  intro pins s σ H vs us Q I r h
  obtain ⟨p, ns, rfl, hp, hl, q⟩ := h
  rw [Vals.ref1 r]
  obtain ⟨its, rv, pl, hz⟩ := I.list hp
  refine call_set_ints (P := X.prog) (xs := ns) (I.ok.hd hc) pl.isList (ints_of_vals rv) (by unfold scanBound; omega) fun h2 tk c R m k => ?_
  have hn : H s.heap.objs.size = none := I.hok.fresh (Nat.le_refl _)
  exact ⟨.ref _, upd H s.heap.objs.size (SetO X.w s.heap.objs.size (fun j => decide (j ∈ ns)) c), I.laid (t' := tk) k (Nat.le_refl _) (setO_new R), rfl, q _ c m hn⟩
theorem ksetI {K : PySem.W.Frag} {w : World} (hc : X.calm = true := by rfl) (hK : X.K = K := by rfl) (hw : X.w = w := by rfl) : CallR X (.type "set") (rSetI K w) := by
  subst hK hw
  exact cr_setI hc
theorem ksortI {w : World} (hc : X.calm = true := by rfl) (hw : X.w = w := by rfl) : CallR X (.builtin "sorted") (rSortedSet w) := by
  subst hw
  exact cr_sortedSet hc
end
/-- sorted(set(..)) of the numbers of a standing list -/
theorem sortIntsAt {K : PySem.W.Frag} {w : World} {p : Addr} {ns : List Int} {H : Hp} {Q : VK} (hp : H p = some (.lst (ns.map V.int))) (hl : ns.length ≤ 60) (k : ∀ (r : Addr) (zs : List Int) (H3 : Hp), zs.Pairwise (· < ·) → (∀ z, z ∈ zs ↔ z ∈ ns) → H r = none → Ex H H3 → H3 r = some (.lst (zs.map V.int)) → Q (.ref r) H3) : rSetI K w [.ref p] H fun s H2 => rSortedSet w [s] H2 Q :=
  ⟨p, ns, rfl, Evl.sq_of hp, hl, fun q c hc hq => ⟨q, _, c, rfl, upd_same, by omega, fun zs r ha hm hz hr => k r zs _ ha (fun z => (hm z).trans decide_eq_true_iff) (fresh_back (Ex.new hq) hr) ((Ex.new hq).trans (Ex.new hr)) upd_same⟩⟩
end Wt
set_option Elab.async false
set_option linter.all false
set_option maxRecDepth 100000
set_option maxHeartbeats 2000000
/-! len(set(ints)), dicts that serve as sets of numbers, dict comprehensions, comprehensions of two clauses -/
namespace Wd
open PySem PySem.Spec PyProof.Rows L2 Evl Wc Wt Wg
theorem hu1 {A : Around} (h : A.units + 64 < cLine) : A.units + 1 < cLine := by omega
theorem len_nodup {α : Type} {l l' : List α} (h1 : l.Nodup) (h2 : l'.Nodup) (h : ∀ a, a ∈ l ↔ a ∈ l') : l.length = l'.length := ((List.perm_ext_iff_of_nodup h1 h2).mpr h).length_eq
/-- the distinct ones -/
def uniq : List Int → List Int
  | [] => []
  | x :: xs => if x ∈ xs then uniq xs else x :: uniq xs
theorem mem_uniq {z : Int} : ∀ {l : List Int}, z ∈ uniq l ↔ z ∈ l
  | [] => Iff.rfl
  | x :: xs => by
    unfold uniq
    split
    · rename_i h
      rw [mem_uniq, List.mem_cons]
      exact ⟨.inr, fun z => z.elim (fun e => e ▸ h) id⟩
    · rw [List.mem_cons, List.mem_cons, mem_uniq]
theorem uniq_nodup : ∀ l : List Int, (uniq l).Nodup
  | [] => List.Pairwise.nil
  | x :: xs => by
    unfold uniq
    split
    · exact uniq_nodup xs
    · rename_i h
      exact List.nodup_cons.mpr ⟨fun z => h (mem_uniq.mp z), uniq_nodup xs⟩
theorem uniq_le : ∀ l : List Int, (uniq l).length ≤ l.length
  | [] => Nat.le_refl _
  | x :: xs => by
    have := uniq_le xs
    unfold uniq
    split
    · rw [List.length_cons]; omega
    · rw [List.length_cons, List.length_cons]; omega
theorem uniq_all {l : List Int} (h : l.Nodup) : (uniq l).length = l.length := len_nodup (uniq_nodup l) h fun _ => mem_uniq
section
variable {X : Cx}
def rSetN (K : PySem.W.Frag) (w : World) : List V → Hp → VK → Prop := fun vs H Q => ∃ (p : Addr) (ns : List Int), vs = [.ref p] ∧ SqL K H p (ns.map V.int) ∧ ns.length ≤ 4000 ∧ ∀ q, H q = none → Q (.ref q) (upd H q (SetO w q (fun j => decide (j ∈ ns)) (uniq ns).length))
theorem cr_setN (hc : X.calm = true) : CallR X (.type "set") (rSetN X.K X.w) := by
  intro pins s σ H vs us Q I r h
  obtain ⟨p, ns, rfl, hp, hl, q⟩ := h
  rw [Vals.ref1 r]
  obtain ⟨its, rv, pl, hz⟩ := I.list hp
  refine call_set_ints (P := X.prog) (xs := ns) (I.ok.hd hc) pl.isList (ints_of_vals rv) (by unfold scanBound; omega) fun h2 tk c R m k => ?_
  have hn : H s.heap.objs.size = none := I.hok.fresh (Nat.le_refl _)
  have hc : c = (uniq ns).length := by
    obtain ⟨o, es, ep, t, _, _, _, _, nd, hm, _, _, hn, _⟩ := R
    rw [← hn, ← Array.length_toList, ← List.length_map (f := keyOf)]
    exact len_nodup nd (uniq_nodup ns) fun z => (hm z).symm.trans (decide_eq_true_iff.trans mem_uniq.symm)
  subst hc
  exact ⟨.ref _, upd H s.heap.objs.size (SetO X.w s.heap.objs.size (fun j => decide (j ∈ ns)) (uniq ns).length), I.laid (t' := tk) k (Nat.le_refl _) (setO_new R), rfl, q _ hn⟩
theorem ksetN {K : PySem.W.Frag} {w : World} (hc : X.calm = true := by rfl) (hK : X.K = K := by rfl) (hw : X.w = w := by rfl) : CallR X (.type "set") (rSetN K w) := by
  subst hK hw
  exact cr_setN hc
def rLenO (w : World) : List V → Hp → VK → Prop := fun vs H Q => ∃ (p : Addr) (S : Int → Bool) (n : Nat), vs = [.ref p] ∧ H p = some (SetO w p S n) ∧ n ≤ 4000 ∧ Q (.int (n : Int)) H
theorem cr_lenO : CallR X (.builtin "len") (rLenO X.w) := by
  intro pins s σ H vs us Q I r h
  obtain ⟨p, S, n, rfl, hp, hl, q⟩ := h
  rw [Vals.ref1 r]
  obtain ⟨o, es, ep, t, ho, hex, hd, _, _, _, _, hf, hn, _⟩ := setO_get I hp
  exact call_len_set ho hex hd hf (by omega) ⟨.int (n : Int), H, I.tok _, ⟨_, by rw [hn]⟩, q⟩
theorem kLenO {w : World} (hw : X.w = w := by rfl) : CallR X (.builtin "len") (rLenO w) := by
  subst hw
  exact cr_lenO
def rDictP (K : PySem.W.Frag) : List V → Hp → VK → Prop := fun xs H Q => ∃ (a : Addr) (ps : List Addr) (kvs : List (Key × V)), xs = [.ref a] ∧ SqL K H a (ps.map V.ref) ∧ Paired (fun p kv => SqT K H p [kV kv.1, kv.2]) ps kvs ∧
    ∀ p, H p = none → Q (.ref p) (upd H p (.dK (mergeK [] kvs)))
theorem kDictP {K : PySem.W.Frag} (hc : X.calm = true := by rfl) (hK : X.K = K := by rfl) : CallR X (.type "dict") (rDictP K) := by
  subst hK
  exact call_dictP hc
end
section
variable {K : PySem.W.Frag} {w : World} {σ : L2.St} {H : Hp} {ta td ty tv : TE} {D : Ends}
theorem ev_lenSet {p : Addr} {ns : List Int} (h : Ev ta σ H (.ref p)) (hp : SqL K H p (ns.map V.int)) (hl : ns.length ≤ 4000) : Ev (tCB (rLenO w) (tCons (tCB (rSetN K w) (tCons ta tNil)) tNil)) σ H (.int ((uniq ns).length : Int)) := fun H1 e Q q =>
  h H1 e _ fun H2 e2 => ⟨p, ns, rfl, ex_l (e.trans e2) hp, hl, fun r hr => ⟨r, _, _, rfl, upd_same, by have := uniq_le ns; omega, q _ (e2.trans (Ex.new hr))⟩⟩
/-! ### dicts as sets of numbers -/
def DS (ks : List Nat) : List (Key × V) := ks.map fun (n : Nat) => ((Sum.inl (n : Int) : Key), V.bl true)
def addN (ks : List Nat) (n : Nat) : List Nat := if n ∈ ks then ks else ks ++ [n]
theorem mem_addN {ks : List Nat} {n m : Nat} : m ∈ addN ks n ↔ m ∈ ks ∨ m = n := by
  unfold addN
  split
  · rename_i h
    exact ⟨.inl, fun z => z.elim id fun e => e ▸ h⟩
  · rw [List.mem_append, List.mem_singleton]
theorem addN_nodup {ks : List Nat} {n : Nat} (h : ks.Nodup) : (addN ks n).Nodup := by
  unfold addN
  split
  · exact h
  · rename_i hn
    refine List.nodup_append.mpr ⟨h, List.pairwise_singleton _ _, fun a ha b hb => ?_⟩
    rw [List.mem_singleton.mp hb]
    exact fun z => hn (z ▸ ha)
theorem addN_len (ks : List Nat) (n : Nat) : (addN ks n).length ≤ ks.length + 1 := by
  unfold addN
  split
  · omega
  · simp
theorem val_DS (ks : List Nat) (n : Nat) : valV (DS ks) (Sum.inl (n : Int)) = if n ∈ ks then some (.bl true) else none := by
  induction ks with
  | nil => rfl
  | cons m ks ih =>
    by_cases h : m = n
    · subst h
      show valV ((Sum.inl (m : Int), V.bl true) :: DS ks) _ = _
      rw [valV_pos rfl, if_pos List.mem_cons_self]
    · show valV ((Sum.inl (m : Int), V.bl true) :: DS ks) _ = _
      rw [valV_neg (fun z => h (Int.ofNat.inj (Sum.inl.inj z))), ih]
      by_cases h2 : n ∈ ks
      · rw [if_pos h2, if_pos (List.mem_cons_of_mem _ h2)]
      · rw [if_neg h2, if_neg fun z => (List.mem_cons.mp z).elim (fun e => h e.symm) h2]
theorem put_DS (ks : List Nat) (n : Nat) : putK (DS ks) (Sum.inl (n : Int)) (.bl true) = DS (addN ks n) := by
  have ha := valV_any (Sum.inl (n : Int) : Key) (DS ks)
  rw [val_DS] at ha
  unfold putK addN
  by_cases h : n ∈ ks
  · rw [if_pos h] at ha
    rw [if_pos (show ((DS ks).any fun kv => decide (kv.1 = (Sum.inl (n : Int) : Key))) = true from ha), if_pos h]
    unfold DS
    rw [List.map_map]
    refine List.map_congr_left fun m _ => ?_
    show (if (Sum.inl (m : Int) : Key) = Sum.inl (n : Int) then _ else _) = _
    split <;> rfl
  · rw [if_neg h] at ha
    rw [if_neg (show ¬ ((DS ks).any fun kv => decide (kv.1 = (Sum.inl (n : Int) : Key))) = true from fun z => Bool.false_ne_true (ha.symm.trans z)), if_neg h]
    unfold DS
    rw [List.map_append]
    rfl
theorem DS_len (ks : List Nat) : (DS ks).length = ks.length := by unfold DS; rw [List.length_map]
/-- d[n] = True -/
theorem s_putD {d : Addr} {ks : List Nat} {n : Nat} (hd : Ev td σ H (.ref d)) (hn : Ev ty σ H (.int (n : Int))) (h : H d = some (.dK (DS ks))) (hl : ks.length ≤ 10000) (k : ∀ H1, Ex H H1 → D.nx σ (upd H1 d (.dK (DS (addN ks n))))) : sDPut td ty (tC (.bl true)) D σ H :=
  hd H (Ex.refl _) _ fun H2 e2 => hn H2 e2 _ fun H3 e3 => ⟨d, _, rfl, DPut.k (k := Sum.inl (n : Int)) ((e2.trans e3) _ _ h) (by rw [DS_len]; unfold sizeLine; omega), by rw [put_DS]; exact k H3 (e2.trans e3)⟩
theorem q_putD {tz : TS} {d : Addr} {ks : List Nat} {n : Nat} (hd : Ev td σ H (.ref d)) (hn : Ev ty σ H (.int (n : Int))) (h : H d = some (.dK (DS ks))) (hl : ks.length ≤ 10000) (k : ∀ H1, Ex H H1 → tz D σ (upd H1 d (.dK (DS (addN ks n))))) : tSeq (sDPut td ty (tC (.bl true))) tz D σ H := s_putD (D := { D with nx := tz D }) hd hn h hl k
theorem some_if {b : Prop} [Decidable b] {v : V} : (if b then some v else none).isSome = decide b := by
  by_cases h : b
  · rw [if_pos h, decide_eq_true h]; rfl
  · rw [if_neg h, decide_eq_false h]; rfl
theorem ev_inD {d : Addr} {ks : List Nat} {n : Nat} (hn : Ev ty σ H (.int (n : Int))) (hd : Ev td σ H (.ref d)) (h : H d = some (.dK (DS ks))) : Ev (tDIn ty td) σ H (.bl (decide (n ∈ ks))) := fun H1 e Q q =>
  hn H1 e _ fun H2 e2 => hd H2 (e.trans e2) _ fun H3 e3 => ⟨d, _, rfl, DGet.k (k := Sum.inl (n : Int)) (((e.trans e2).trans e3) _ _ h), by rw [val_DS, some_if]; exact q H3 (e2.trans e3)⟩
theorem ev_notinD {d : Addr} {ks : List Nat} {n : Nat} (hn : Ev ty σ H (.int (n : Int))) (hd : Ev td σ H (.ref d)) (h : H d = some (.dK (DS ks))) : Ev (tDNotIn ty td) σ H (.bl (!decide (n ∈ ks))) := fun H1 e Q q =>
  hn H1 e _ fun H2 e2 => hd H2 (e.trans e2) _ fun H3 e3 => ⟨d, _, rfl, DGet.k (k := Sum.inl (n : Int)) (((e.trans e2).trans e3) _ _ h), by rw [val_DS, some_if]; exact q H3 (e2.trans e3)⟩
/-- list(d) -/
theorem el_listD {d : Addr} {ks : List Nat} (hd : Ev td σ H (.ref d)) (h : H d = some (.dK (DS ks))) : EvL (tCB rListD (tCons td tNil)) σ H (ks.map fun (n : Nat) => V.int (n : Int)) := fun H1 e Q q =>
  hd H1 e _ fun H2 e2 => ⟨d, DS ks, rfl, (e.trans e2) _ _ h, fun r hr => q r _ (fresh_back e2 hr) (e2.trans (Ex.new hr)) (by
    rw [upd_same]
    unfold DS
    rw [List.map_map]
    rfl)⟩
end
/-! ### numbers, ascending -/
/-- the members of ks, ascending, below n -/
def asc (n : Nat) (p : Nat → Bool) : List Nat := (List.range n).filter p
theorem asc_lt (n : Nat) (p : Nat → Bool) : (asc n p).Pairwise (· < ·) := List.Pairwise.filter _ List.pairwise_lt_range
theorem sorted_is {l l' : List Int} (h1 : l.Pairwise (· ≤ ·)) (h2 : l'.Pairwise (· ≤ ·)) (h : l.Perm l') : l = l' := h.eq_of_pairwise (fun a b _ _ h1 h2 => Int.le_antisymm h1 h2) h1 h2
/-- what any ascending order of ks is -/
theorem asc_is {n : Nat} {p : Nat → Bool} {ks : List Nat} {ys : List Int} (hk : ks.Nodup) (hm : ∀ m, m ∈ ks ↔ m < n ∧ p m = true) (hp : ys.Perm (ks.map fun (m : Nat) => (m : Int))) (hs : ys.Pairwise (· ≤ ·)) : ys = (asc n p).map fun (m : Nat) => (m : Int) := by
  refine sorted_is hs ?_ (hp.trans (List.Perm.map _ ?_))
  · exact List.pairwise_map.mpr ((asc_lt n p).imp fun h => by omega)
  · refine (List.perm_ext_iff_of_nodup hk ((asc_lt n p).imp fun h => Nat.ne_of_lt h)).mpr fun m => ?_
    unfold asc
    rw [hm, List.mem_filter, List.mem_range]
end Wd
set_option Elab.async false
set_option linter.all false
set_option maxRecDepth 100000
set_option maxHeartbeats 2000000
/-! dict comprehensions, comprehensions of two clauses -/
namespace Wd
open PySem PySem.Spec PyProof.Rows L2 Evl Wc Wt Wg
section
variable {J : It} {n : Nat} {G : Hp → Prop} {Y : Nat → Hp → V → Hp → Prop}
theorem dc_it (w : Walk J n G Y) {g : TG} {tt : TT} {tk tv : TE} {vs : List Nat} {σ : L2.St} {H1 : Hp} {D : Addr} {Qd : Hp → Prop} (Pv : Nat → Hp → Prop) (h0 : Pv 0 (upd H1 D (.dK []))) (hG : ∀ i H, i ≤ n → Pv i H → G H)
    (hs : ∀ i x H H', i < n → Pv i H → Y i H x H' → g x (wipe σ vs) H' fun σ2 H2 => wipe σ2 vs = wipe σ vs ∧ tt σ2 H2 fun b H3 =>
      if b = true then tk σ2 H3 fun y H4 => tv σ2 H4 fun z H5 => ∃ kvs k, y = kV k ∧ H5 D = some (.dK kvs) ∧ kvs.length < sizeLine ∧ Pv (i + 1) (upd H5 D (.dK (putK kvs k z))) else Pv (i + 1) H3) (hd : ∀ H, Pv n H → Qd H) :
    ∃ W : Nat → Nat → Hp → Prop, (∃ m, W 0 m (upd H1 D (.dK []))) ∧ ∀ i m H, W i m H →
      (J.stop i H ∧ Qd H) ∨ (J.go i H ∧ ∃ Nx : Hp → Prop, (∀ H', Nx H' → ∃ m', m' < m ∧ W (i + 1) m' H') ∧ ∀ x H', J.yld i H x H' → g x (wipe σ vs) H' fun σ2 H2 => wipe σ2 vs = wipe σ vs ∧ tt σ2 H2 fun b H3 =>
        if b = true then tk σ2 H3 fun y H4 => tv σ2 H4 fun z H5 => ∃ kvs k, y = kV k ∧ H5 D = some (.dK kvs) ∧ kvs.length < sizeLine ∧ Nx (upd H5 D (.dK (putK kvs k z))) else Nx H3) := by
  refine ⟨fun i m H => m = n - i ∧ i ≤ n ∧ Pv i H, ⟨n, by simp, Nat.zero_le _, h0⟩, ?_⟩
  rintro i m H ⟨rfl, hi, p⟩
  have q := hG i H hi p
  by_cases hlt : i < n
  · exact .inr ⟨w.goes i H hlt q, Pv (i + 1), fun H' p' => ⟨n - (i + 1), by omega, rfl, hlt, p'⟩, fun x H' y => hs i x H H' hlt p (w.yields i H x H' hlt q y)⟩
  · have e : i = n := by omega
    subst e
    exact .inl ⟨w.stops H q, hd H p⟩
theorem in_it (w : Walk J n G Y) {g : TG} {tt : TT} {te : TE} {vs : List Nat} {σ : L2.St} {H1 : Hp} {D : Addr} {Qd : Hp → Prop} (Pv : Nat → Hp → Prop) (h0 : Pv 0 H1) (hG : ∀ i H, i ≤ n → Pv i H → G H)
    (hs : ∀ i x H H', i < n → Pv i H → Y i H x H' → g x (wipe σ vs) H' fun σ2 H2 => wipe σ2 vs = wipe σ vs ∧ tt σ2 H2 fun b H3 =>
      if b = true then te σ2 H3 fun y H4 => ∃ acc, H4 D = some (.lst acc) ∧ acc.length < sizeLine ∧ Pv (i + 1) (upd H4 D (.lst (acc ++ [y]))) else Pv (i + 1) H3) (hd : ∀ H, Pv n H → Qd H) :
    ∃ W : Nat → Nat → Hp → Prop, (∃ m, W 0 m H1) ∧ ∀ i m H, W i m H →
      (J.stop i H ∧ Qd H) ∨ (J.go i H ∧ ∃ Nx : Hp → Prop, (∀ H', Nx H' → ∃ m', m' < m ∧ W (i + 1) m' H') ∧ ∀ x H', J.yld i H x H' → g x (wipe σ vs) H' fun σ2 H2 => wipe σ2 vs = wipe σ vs ∧ tt σ2 H2 fun b H3 =>
        if b = true then te σ2 H3 fun y H4 => ∃ acc, H4 D = some (.lst acc) ∧ acc.length < sizeLine ∧ Nx (upd H4 D (.lst (acc ++ [y]))) else Nx H3) := by
  refine ⟨fun i m H => m = n - i ∧ i ≤ n ∧ Pv i H, ⟨n, by simp, Nat.zero_le _, h0⟩, ?_⟩
  rintro i m H ⟨rfl, hi, p⟩
  have q := hG i H hi p
  by_cases hlt : i < n
  · exact .inr ⟨w.goes i H hlt q, Pv (i + 1), fun H' p' => ⟨n - (i + 1), by omega, rfl, hlt, p'⟩, fun x H' y => hs i x H H' hlt p (w.yields i H x H' hlt q y)⟩
  · have e : i = n := by omega
    subst e
    exact .inl ⟨w.stops H q, hd H p⟩
end
def addAll (ks ns : List Nat) : List Nat := ns.foldl addN ks
theorem mem_addAll {m : Nat} : ∀ {ns ks : List Nat}, m ∈ addAll ks ns ↔ m ∈ ks ∨ m ∈ ns
  | [], ks => ⟨.inl, fun z => z.elim id fun h => nomatch h⟩
  | n :: ns, ks => by
    show m ∈ addAll (addN ks n) ns ↔ _
    rw [mem_addAll, mem_addN, List.mem_cons, or_assoc]
theorem addAll_nodup : ∀ {ns ks : List Nat}, ks.Nodup → (addAll ks ns).Nodup
  | [], _, h => h
  | n :: ns, ks, h => addAll_nodup (ns := ns) (addN_nodup h)
theorem addAll_len : ∀ (ns ks : List Nat), (addAll ks ns).length ≤ ks.length + ns.length
  | [], _ => Nat.le_refl _
  | n :: ns, ks => by
    have h1 := addAll_len ns (addN ks n)
    have h2 := addN_len ks n
    show (addAll (addN ks n) ns).length ≤ _
    rw [List.length_cons]
    omega
theorem addAll_succ {ns : List Nat} {i n : Nat} (h : ns[i]? = some n) : addAll [] (ns.take (i + 1)) = addN (addAll [] (ns.take i)) n := by
  rw [List.take_add_one, h]
  unfold addAll
  rw [List.foldl_append]
  rfl
section
variable {K : PySem.W.Frag} {σ : L2.St} {H : Hp} {te : TE} {Q : VK}
/-- {n: True for n in ns} -/
theorem dc_nums {wi : TI} {j : Nat} {vs : List Nat} {own : Addr → Prop} (ns : List Nat) (hs : Src wi σ H ns.length own (fun i v _ => (ns.map fun (n : Nat) => V.int (n : Int))[i]? = some v)) (hn : ns.length ≤ 4000) (hw : ∀ x, wipe ((wipe σ vs).set j (some x)) vs = wipe σ vs) (hj : ∀ x, ((wipe σ vs).set j (some x))[j]? = some (some x))
    (k : ∀ d H2, H d = none → Ex H H2 → H2 d = some (.dK (DS (addAll [] ns))) → Q (.ref d) H2) : tDc wi (gName j) tYes (tVar j) (tC (.bl true)) vs σ H Q :=
  hs H (Ex.refl H) _ fun J H1 S e1 w hS => fun Dl hD => by
    refine dc_it w (Qd := fun H3 => Q (.ref Dl) H3) (fun i Hi => Ex H1 Hi ∧ Hi Dl = some (.dK (DS (addAll [] (ns.take i))))) ?_ (fun i Hi hi p => hS (fun _ => False) Hi (fun b z => z.elim) (.of p.1)) ?_ ?_
    · exact ⟨Ex.new hD, upd_same⟩
    · rintro i x Ha Hb hi ⟨R, h1⟩ ⟨ey, hP⟩
      obtain ⟨n, hn1, rfl⟩ := at_map hP
      refine ⟨hw _, ?_⟩
      unfold tYes
      dsimp only
      rw [if_pos rfl]
      refine ⟨.int (n : Int), hj _, ?_⟩
      have hl := addAll_len (ns.take i) []
      refine ⟨DS (addAll [] (ns.take i)), Sum.inl (n : Int), rfl, ey _ _ h1, ?_, Ex.mut (R.trans ey) hD, ?_⟩
      · rw [DS_len]
        rw [List.length_take] at hl
        have : ([] : List Nat).length = 0 := rfl
        unfold sizeLine
        omega
      · rw [upd_same, put_DS, addAll_succ hn1]
    · rintro H3 ⟨R, h1⟩
      rw [List.take_length] at h1
      exact k Dl H3 (fresh_back e1 hD) (e1.trans R) h1
theorem sum_part {α : Type} (f : α → Nat) (xs : List α) (i : Nat) : ((xs.take i).map f).sum ≤ (xs.map f).sum := by
  conv => rhs; rw [← List.take_append_drop i xs, List.map_append, List.sum_append]
  omega
/-- [g a b for a in xs for b in ys a] -/
theorem el_lc2 {α β : Type} {wi wi1 : TI} {j j1 : Nat} {vs vs1 : List Nat} {own : Addr → Prop} {own1 : α → Addr → Prop} {f : α → V} {h : β → V} {g : α → β → V} (xs : List α) (ys : α → List β) (hs : Src wi σ H xs.length own (fun i v _ => (xs.map f)[i]? = some v))
    (hs1 : ∀ a H1, Ex H H1 → a ∈ xs → Src wi1 ((wipe σ vs).set j (some (f a))) H1 (ys a).length (own1 a) (fun i v _ => ((ys a).map h)[i]? = some v))
    (ho : ∀ a c, own1 a c → H c ≠ none) (hz : (xs.map fun a => (ys a).length).sum ≤ 40000) (hw : ∀ x, wipe ((wipe σ vs).set j (some x)) vs = wipe σ vs) (hw1 : ∀ x y, wipe ((wipe ((wipe σ vs).set j (some x)) vs1).set j1 (some y)) vs1 = wipe ((wipe σ vs).set j (some x)) vs1)
    (he : ∀ a b H1, Ex H H1 → a ∈ xs → b ∈ ys a → Ev te ((wipe ((wipe σ vs).set j (some (f a))) vs1).set j1 (some (h b))) H1 (g a b)) :
    EvL (tLc2 wi (gName j) tYes wi1 (gName j1) tYes te vs vs1) σ H (xs.flatMap fun a => (ys a).map (g a)) := fun H0 e0 Q q => hs H0 e0 _ fun J H1 S e1 w hS => fun Dl hD => by
  have e01 := e0.trans e1
  refine ⟨fun i m Hi => m = xs.length - i ∧ i ≤ xs.length ∧ Ex H1 Hi ∧ Hi Dl = some (.lst ((xs.take i).flatMap fun a => (ys a).map (g a))), ⟨xs.length, by simp, Nat.zero_le _, Ex.new hD, upd_same⟩, ?_⟩
  rintro i m Hi ⟨rfl, hi, hE, hL⟩
  have hG : S Hi := hS (fun _ => False) Hi (fun b z => z.elim) (.of hE)
  by_cases hlt : i < xs.length
  · refine .inr ⟨w.goes i Hi hlt hG, fun H' => Ex H1 H' ∧ H' Dl = some (.lst ((xs.take (i + 1)).flatMap fun a => (ys a).map (g a))), fun H' p' => ⟨xs.length - (i + 1), by omega, rfl, hlt, p'.1, p'.2⟩, fun x H' y => ?_⟩
    obtain ⟨ey, hP⟩ := w.yields i Hi x H' hlt hG y
    obtain ⟨a, ha, rfl⟩ := at_map hP
    have ham := List.mem_of_getElem? ha
    have hEy := hE.trans ey
    refine ⟨hw _, ?_⟩
    show wi1 ((wipe σ vs).set j (some (f a))) H' _
    refine hs1 a H' (e01.trans hEy) ham H' (Ex.refl _) _ fun J1 H4 S1 e4 w1 hS1 => ?_
    have hL4 : H4 Dl = some (.lst ((xs.take i).flatMap fun a => (ys a).map (g a))) := e4 _ _ (ey _ _ hL)
    have hE4 := hEy.trans e4
    have htk : (xs.take (i + 1)).flatMap (fun a => (ys a).map (g a)) = (xs.take i).flatMap (fun a => (ys a).map (g a)) ++ (ys a).map (g a) := by
      rw [List.take_add_one, ha, List.flatMap_append]
      simp
    refine in_it w1 (Qd := fun H' => Ex H1 H' ∧ H' Dl = some (.lst ((xs.take (i + 1)).flatMap fun a => (ys a).map (g a)))) (fun t Ht => Ex H1 Ht ∧ Exc (fun c => c = Dl) H4 Ht ∧ Ht Dl = some (.lst ((xs.take i).flatMap (fun a => (ys a).map (g a)) ++ ((ys a).take t).map (g a)))) ?_ ?_ ?_ ?_
    · exact ⟨hE4, Exc.refl _, by rw [hL4]; simp⟩
    · intro t Ht ht p
      refine hS1 (fun c => c = Dl) Ht (fun b z => ?_) p.2.1
      subst z
      exact ⟨(by rw [ey _ _ hL]; exact fun z => nomatch z), fun z => ho a b z (fresh_back e01 hD)⟩
    · rintro t y Ht Hu ht ⟨p1, p2, p3⟩ ⟨eu, hy⟩
      obtain ⟨b, hb, rfl⟩ := at_map hy
      refine ⟨hw1 _ _, ?_⟩
      show te ((wipe ((wipe σ vs).set j (some (f a))) vs1).set j1 (some (h b))) Hu fun y H7 => _
      refine he a b Hu (e01.trans (p1.trans eu)) ham (List.mem_of_getElem? hb) Hu (Ex.refl _) _ fun H7 e7 => ?_
      refine ⟨_, e7 _ _ (eu _ _ p3), ?_, Ex.mut (p1.trans (eu.trans e7)) hD, (p2.then (eu.trans e7)).upd (.inl rfl), ?_⟩
      · refine sz_lt ?_
        rw [List.length_append, List.length_flatMap, List.length_map, List.length_take]
        have h1 := sum_part (fun a => (ys a).length) xs (i + 1)
        rw [List.take_add_one, ha, List.map_append, List.sum_append] at h1
        simp at h1 ⊢
        omega
      · rw [upd_same, List.take_add_one, hb, List.map_append, List.append_assoc]
        rfl
    · rintro Ht ⟨p1, _, p3⟩
      rw [List.take_length] at p3
      exact ⟨p1, by rw [p3, htk]⟩
  · have e : i = xs.length := by omega
    subst e
    rw [List.take_length] at hL
    exact .inl ⟨w.stops Hi hG, q Dl Hi (fresh_back e1 hD) (e1.trans hE) hL⟩
end
end Wd
set_option Elab.async false
set_option linter.all false
set_option maxRecDepth 100000
set_option maxHeartbeats 2000000
/-! repr of any plain data -/
namespace Wd
open PySem PySem.Spec PyProof.Rows L2 Evl Wc Wt Wg
section
variable {X : Cx}
def rReprD (K : PySem.W.Frag) : List V → Hp → VK → Prop := fun xs H Q => ∃ (v : V) (d : PyData), xs = [v] ∧ Dp K H v d ∧ d.showable = true ∧ d.hasDict = false ∧ d.depth ≤ 50 ∧ d.shown.length ≤ sizeLine ∧ Q (T d.shown.cps.toList) H
theorem cr_reprD (hgd : X.A.guards = some []) (hu : X.A.units + 64 < cLine) : CallR X (.builtin "repr") (rReprD X.K) := by
  intro pins s σ H xs us Q I r h
  obtain ⟨v, d, rfl, hd, h1, h2, h3, h4, q⟩ := h
  obtain ⟨u, rfl, rv⟩ := vals1 r
  have fin : ∀ (tk : Nat) (t : Tok), EP X pins σ Q (.str d.shown t) { s with toks := tk } := fun tk t => ⟨T d.shown.cps.toList, H, I.tok _, ⟨t, congrArg (fun z => Value.str z t) (SX.S_tl d.shown).symm⟩, q⟩
  cases hd with
  | non =>
    obtain rfl : u = Value.none := rv
    exact PySem.P.repr_of_none (fin _ _)
  | bl b =>
    obtain rfl : u = Value.bool b := rv
    exact PySem.P.repr_of_bool (fin _ _)
  | int i =>
    obtain ⟨t, rfl⟩ := (show ∃ t, u = Value.int i t from rv)
    exact PySem.P.repr_of_int (of_decide_eq_true h1) (fin _ _)
  | str x =>
    obtain ⟨t, rfl⟩ := (show ∃ t, u = Value.str x t from rv)
    exact PySem.P.repr_of_str (fin _ _) h4
  | lst ha hs =>
    obtain ⟨as, rd⟩ := Dp.reads I _ _ _ (.lst ha hs) rv
    obtain rfl : u = Value.ref _ := rv
    refine repr_of_reads' rd h1 (fun z => by rw [h2] at z; cases z) hgd (by omega) (fun b o e => e) (fun h' u tk hk => ?_) h4
    exact ⟨T _, H, I.kept (t' := tk) hk, ⟨u, congrArg (fun z => Value.str z u) (SX.S_tl _).symm⟩, q⟩
  | tup ha hs =>
    obtain ⟨as, rd⟩ := Dp.reads I _ _ _ (.tup ha hs) rv
    obtain rfl : u = Value.ref _ := rv
    refine repr_of_reads' rd h1 (fun z => by rw [h2] at z; cases z) hgd (by omega) (fun b o e => e) (fun h' u tk hk => ?_) h4
    exact ⟨T _, H, I.kept (t' := tk) hk, ⟨u, congrArg (fun z => Value.str z u) (SX.S_tl _).symm⟩, q⟩
end
theorem rc_reprD {K : PySem.W.Frag} {H : Hp} {v : V} {d : PyData} (h : ∀ H1, Ex H H1 → Dp K H1 v d) (h1 : d.showable = true) (h2 : d.hasDict = false) (h3 : d.depth ≤ 50) (h4 : d.shown.length ≤ sizeLine) : RC (rReprD K) [v] H (T d.shown.cps.toList) := fun H1 e Q q => ⟨v, d, rfl, h H1 e, h1, h2, h3, h4, q H1 (Ex.refl _)⟩
end Wd
set_option Elab.async false
set_option linter.all false
set_option maxRecDepth 100000
set_option maxHeartbeats 2000000
namespace K04
open PySem PySem.Spec PyProof.Rows L2 Evl Wc
def topS (i : Nat) : Stmt := PySem.Challenge.pw_wordscut_k04_whole_places_words_and_no_c.main.body.getD i (.Pass ⟨0, 0, 0, 0⟩)
abbrev st__wall : Stmt := topS 0
abbrev st_is_integer : Stmt := topS 12
abbrev st_is_within : Stmt := topS 13
abbrev st_are_signs : Stmt := topS 14
abbrev st_is_text : Stmt := topS 15
abbrev st_need_text : Stmt := topS 16
abbrev st_is_word : Stmt := topS 17
abbrev st_is_ascending : Stmt := topS 18
abbrev st_is_lot_form : Stmt := topS 19
abbrev st_need_lot : Stmt := topS 20
abbrev st_need_both : Stmt := topS 22
abbrev st_cut_places : Stmt := topS 23
abbrev st_sure_places : Stmt := topS 24
abbrev st_words_used : Stmt := topS 25
abbrev st_no_cut_paper : Stmt := topS 26
abbrev st_no_cut_holds : Stmt := topS 27
abbrev st__law_feed : Stmt := topS 29
abbrev st__law_draw : Stmt := topS 30
abbrev st__law_one : Stmt := topS 31
abbrev st__law_mixed : Stmt := topS 32
abbrev st__law_text : Stmt := topS 33
abbrev st__law_kept : Stmt := topS 34
abbrev st__law_split : Stmt := topS 35
abbrev st__law_joined : Stmt := topS 36
abbrev st__law_made : Stmt := topS 37
abbrev st__law_code : Stmt := topS 38
abbrev st__law_lot : Stmt := topS 39
abbrev st__law_put : Stmt := topS 40
abbrev st__law_near_text : Stmt := topS 41
abbrev st__law_so : Stmt := topS 42
abbrev st__law_is : Stmt := topS 43
abbrev st__law_list : Stmt := topS 44
abbrev st__law_ahead : Stmt := topS 45
abbrev st__law_behind : Stmt := topS 46
abbrev st__law_all : Stmt := topS 47
abbrev st__law_is_cut : Stmt := topS 48
abbrev st__law_case : Stmt := topS 49
abbrev st__law_tried : Stmt := topS 50
abbrev st__law_counted : Stmt := topS 51
abbrev st__law_led : Stmt := topS 52
abbrev st__law_shows : Stmt := topS 53
abbrev st__law_odd : Stmt := topS 54
abbrev st__law_paper : Stmt := topS 55
abbrev st__law_right : Stmt := topS 56
abbrev st_law : Stmt := topS 57
abbrev st_Ways_init : Stmt := inClass (topS 2) 0
abbrev st_Ways_words_at : Stmt := inClass (topS 2) 1
abbrev st_Ways_cut : Stmt := inClass (topS 2) 2
abbrev st_Ways_number : Stmt := inClass (topS 2) 3
abbrev st_Ways_cuts : Stmt := inClass (topS 2) 4
abbrev st_Ways_places : Stmt := inClass (topS 2) 5
abbrev st_Ways_led_to : Stmt := inClass (topS 2) 6
abbrev st_Ways_used : Stmt := inClass (topS 2) 7
abbrev st_Ways_best : Stmt := inClass (topS 2) 8
/-- what the top has left of names that are no defs -/
structure Md (K : PySem.W.Frag) (mg : Str → Option Value) : Prop where
  n_ValueError : mg "ValueError" = none
  n_all : mg "all" = none
  n_bool : mg "bool" = none
  n_dict : mg "dict" = none
  n_enumerate : mg "enumerate" = none
  n_int : mg "int" = none
  n_isinstance : mg "isinstance" = none
  n_len : mg "len" = none
  n_list : mg "list" = none
  n_max : mg "max" = none
  n_min : mg "min" = none
  n_range : mg "range" = none
  n_repr : mg "repr" = none
  n_reversed : mg "reversed" = none
  n_set : mg "set" = none
  n_sorted : mg "sorted" = none
  n_str : mg "str" = none
  n_sum : mg "sum" = none
  n_tuple : mg "tuple" = none
  n_zip : mg "zip" = none
  c_SIGNS : ∃ t, mg "SIGNS" = some (.str (Str.ofString "abcd") t)
  c_MOST_SIGNS : ∃ t, mg "MOST_SIGNS" = some (.int 400 t)
  c_MOST_LETTERS : ∃ t, mg "MOST_LETTERS" = some (.int 12 t)
  c_MOST_WORDS : ∃ t, mg "MOST_WORDS" = some (.int 12 t)
abbrev N__wall : List Str := ["k"]
theorem sc__wall : FnScope N__wall ["k"] (defScope st__wall) := ⟨rfl, rfl, rfl, by decide +kernel, rfl, by decide +kernel, by decide +kernel⟩
abbrev N_is_integer : List Str := ["thing"]
theorem sc_is_integer : FnScope N_is_integer ["thing"] (defScope st_is_integer) := ⟨rfl, rfl, rfl, by decide +kernel, rfl, by decide +kernel, by decide +kernel⟩
abbrev N_is_within : List Str := ["thing", "least", "most"]
theorem sc_is_within : FnScope N_is_within ["thing", "least", "most"] (defScope st_is_within) := ⟨rfl, rfl, rfl, by decide +kernel, rfl, by decide +kernel, by decide +kernel⟩
abbrev N_are_signs : List Str := ["thing", "most", "sign"]
theorem sc_are_signs : FnScope N_are_signs ["thing", "most"] (defScope st_are_signs) := ⟨rfl, rfl, rfl, by decide +kernel, rfl, by decide +kernel, by decide +kernel⟩
abbrev N_is_text : List Str := ["thing"]
theorem sc_is_text : FnScope N_is_text ["thing"] (defScope st_is_text) := ⟨rfl, rfl, rfl, by decide +kernel, rfl, by decide +kernel, by decide +kernel⟩
abbrev N_need_text : List Str := ["text"]
theorem sc_need_text : FnScope N_need_text ["text"] (defScope st_need_text) := ⟨rfl, rfl, rfl, by decide +kernel, rfl, by decide +kernel, by decide +kernel⟩
abbrev N_is_word : List Str := ["thing"]
theorem sc_is_word : FnScope N_is_word ["thing"] (defScope st_is_word) := ⟨rfl, rfl, rfl, by decide +kernel, rfl, by decide +kernel, by decide +kernel⟩
abbrev N_is_ascending : List Str := ["things", "one", "other"]
theorem sc_is_ascending : FnScope N_is_ascending ["things"] (defScope st_is_ascending) := ⟨rfl, rfl, rfl, by decide +kernel, rfl, by decide +kernel, by decide +kernel⟩
abbrev N_is_lot_form : List Str := ["thing", "word"]
theorem sc_is_lot_form : FnScope N_is_lot_form ["thing"] (defScope st_is_lot_form) := ⟨rfl, rfl, rfl, by decide +kernel, rfl, by decide +kernel, by decide +kernel⟩
abbrev N_need_lot : List Str := ["lot"]
theorem sc_need_lot : FnScope N_need_lot ["lot"] (defScope st_need_lot) := ⟨rfl, rfl, rfl, by decide +kernel, rfl, by decide +kernel, by decide +kernel⟩
abbrev N_need_both : List Str := ["lot", "text"]
theorem sc_need_both : FnScope N_need_both ["lot", "text"] (defScope st_need_both) := ⟨rfl, rfl, rfl, by decide +kernel, rfl, by decide +kernel, by decide +kernel⟩
abbrev N_cut_places : List Str := ["lot", "text"]
theorem sc_cut_places : FnScope N_cut_places ["lot", "text"] (defScope st_cut_places) := ⟨rfl, rfl, rfl, by decide +kernel, rfl, by decide +kernel, by decide +kernel⟩
abbrev N_sure_places : List Str := ["lot", "text", "ways", "whole", "place", "many"]
theorem sc_sure_places : FnScope N_sure_places ["lot", "text"] (defScope st_sure_places) := ⟨rfl, rfl, rfl, by decide +kernel, rfl, by decide +kernel, by decide +kernel⟩
abbrev N_words_used : List Str := ["lot", "text"]
theorem sc_words_used : FnScope N_words_used ["lot", "text"] (defScope st_words_used) := ⟨rfl, rfl, rfl, by decide +kernel, rfl, by decide +kernel, by decide +kernel⟩
abbrev N_no_cut_paper : List Str := ["lot", "text", "ways"]
theorem sc_no_cut_paper : FnScope N_no_cut_paper ["lot", "text"] (defScope st_no_cut_paper) := ⟨rfl, rfl, rfl, by decide +kernel, rfl, by decide +kernel, by decide +kernel⟩
abbrev N_no_cut_holds : List Str := ["lot", "text", "thing", "place", "ways", "there", "index"]
theorem sc_no_cut_holds : FnScope N_no_cut_holds ["lot", "text", "thing"] (defScope st_no_cut_holds) := ⟨rfl, rfl, rfl, by decide +kernel, rfl, by decide +kernel, by decide +kernel⟩
abbrev N__law_feed : List Str := ["script", "k", "cell"]
theorem sc__law_feed : FnScope N__law_feed ["script", "k"] (defScope st__law_feed) := ⟨rfl, rfl, rfl, by decide +kernel, rfl, by decide +kernel, by decide +kernel⟩
abbrev N__law_draw : List Str := ["feed", "many", "rest", "got", "stir"]
theorem sc__law_draw : FnScope N__law_draw ["feed", "many"] (defScope st__law_draw) := ⟨rfl, rfl, rfl, by decide +kernel, rfl, by decide +kernel, by decide +kernel⟩
abbrev N__law_one : List Str := ["feed", "things"]
theorem sc__law_one : FnScope N__law_one ["feed", "things"] (defScope st__law_one) := ⟨rfl, rfl, rfl, by decide +kernel, rfl, by decide +kernel, by decide +kernel⟩
abbrev N__law_mixed : List Str := ["feed", "things", "pool", "got", "turn"]
theorem sc__law_mixed : FnScope N__law_mixed ["feed", "things"] (defScope st__law_mixed) := ⟨rfl, rfl, rfl, by decide +kernel, rfl, by decide +kernel, by decide +kernel⟩
abbrev N__law_text : List Str := ["feed", "signs", "most", "turn"]
theorem sc__law_text : FnScope N__law_text ["feed", "signs", "most"] (defScope st__law_text) := ⟨rfl, rfl, rfl, by decide +kernel, rfl, by decide +kernel, by decide +kernel⟩
abbrev N__law_kept : List Str := ["feed", "words", "most", "good", "word", "some"]
theorem sc__law_kept : FnScope N__law_kept ["feed", "words", "most"] (defScope st__law_kept) := ⟨rfl, rfl, rfl, by decide +kernel, rfl, by decide +kernel, by decide +kernel⟩
abbrev N__law_split : List Str := ["feed", "signs", "turns", "words", "turn", "at", "sign"]
theorem sc__law_split : FnScope N__law_split ["feed", "signs", "turns"] (defScope st__law_split) := ⟨rfl, rfl, rfl, by decide +kernel, rfl, by decide +kernel, by decide +kernel⟩
abbrev N__law_joined : List Str := ["feed", "words", "turns", "turn", "one", "other", "way", "word"]
theorem sc__law_joined : FnScope N__law_joined ["feed", "words", "turns"] (defScope st__law_joined) := ⟨rfl, rfl, rfl, by decide +kernel, rfl, by decide +kernel, by decide +kernel⟩
abbrev N__law_made : List Str := ["feed", "code", "words", "made", "word", "sign"]
theorem sc__law_made : FnScope N__law_made ["feed", "code", "words"] (defScope st__law_made) := ⟨rfl, rfl, rfl, by decide +kernel, rfl, by decide +kernel, by decide +kernel⟩
abbrev N__law_code : List Str := ["feed", "some"]
theorem sc__law_code : FnScope N__law_code ["feed"] (defScope st__law_code) := ⟨rfl, rfl, rfl, by decide +kernel, rfl, by decide +kernel, by decide +kernel⟩
abbrev N__law_lot : List Str := ["feed", "most", "signs", "way", "long", "turn", "word", "root", "ends", "words", "place"]
theorem sc__law_lot : FnScope N__law_lot ["feed", "most"] (defScope st__law_lot) := ⟨rfl, rfl, rfl, by decide +kernel, rfl, by decide +kernel, by decide +kernel⟩
abbrev N__law_put : List Str := ["feed", "lot", "most", "turn"]
theorem sc__law_put : FnScope N__law_put ["feed", "lot", "most"] (defScope st__law_put) := ⟨rfl, rfl, rfl, by decide +kernel, rfl, by decide +kernel, by decide +kernel⟩
abbrev N__law_near_text : List Str := ["feed", "lot", "most", "text", "way", "at", "sign", "near"]
theorem sc__law_near_text : FnScope N__law_near_text ["feed", "lot", "most"] (defScope st__law_near_text) := ⟨rfl, rfl, rfl, by decide +kernel, rfl, by decide +kernel, by decide +kernel⟩
abbrev N__law_so : List Str := ["actual", "due"]
theorem sc__law_so : FnScope N__law_so ["actual", "due"] (defScope st__law_so) := ⟨rfl, rfl, rfl, by decide +kernel, rfl, by decide +kernel, by decide +kernel⟩
abbrev N__law_is : List Str := ["actual", "due"]
theorem sc__law_is : FnScope N__law_is ["actual", "due"] (defScope st__law_is) := ⟨rfl, rfl, rfl, by decide +kernel, rfl, by decide +kernel, by decide +kernel⟩
abbrev N__law_list : List Str := ["actual", "due", "part"]
theorem sc__law_list : FnScope N__law_list ["actual", "due"] (defScope st__law_list) := ⟨rfl, rfl, rfl, by decide +kernel, rfl, by decide +kernel, by decide +kernel⟩
abbrev N__law_ahead : List Str := ["lot", "text", "ahead", "end", "word", "begin"]
theorem sc__law_ahead : FnScope N__law_ahead ["lot", "text"] (defScope st__law_ahead) := ⟨rfl, rfl, rfl, by decide +kernel, rfl, by decide +kernel, by decide +kernel⟩
abbrev N__law_behind : List Str := ["lot", "text", "word"]
theorem sc__law_behind : FnScope N__law_behind ["lot", "text"] (defScope st__law_behind) := ⟨rfl, rfl, rfl, by decide +kernel, rfl, by decide +kernel, by decide +kernel⟩
abbrev N__law_all : List Str := ["lot", "text", "behind", "most", "found", "work", "turn", "cut", "place", "index", "end"]
theorem sc__law_all : FnScope N__law_all ["lot", "text", "behind", "most"] (defScope st__law_all) := ⟨rfl, rfl, rfl, by decide +kernel, rfl, by decide +kernel, by decide +kernel⟩
abbrev N__law_is_cut : List Str := ["lot", "text", "thing", "index"]
theorem sc__law_is_cut : FnScope N__law_is_cut ["lot", "text", "thing"] (defScope st__law_is_cut) := ⟨rfl, rfl, rfl, by decide +kernel, rfl, by decide +kernel, by decide +kernel⟩
abbrev N__law_case : List Str := ["feed", "lot", "sign", "long", "turn"]
theorem sc__law_case : FnScope N__law_case ["feed"] (defScope st__law_case) := ⟨rfl, rfl, rfl, by decide +kernel, rfl, by decide +kernel, by decide +kernel⟩
abbrev N__law_tried : List Str := ["lot", "text", "cuts", "places", "used", "cut", "at", "index"]
theorem sc__law_tried : FnScope N__law_tried ["lot", "text", "cuts"] (defScope st__law_tried) := ⟨rfl, rfl, rfl, by decide +kernel, rfl, by decide +kernel, by decide +kernel⟩
abbrev N__law_counted : List Str := ["lot", "text", "ahead", "behind", "places", "used", "one", "other", "place", "index", "word", "end"]
theorem sc__law_counted : FnScope N__law_counted ["lot", "text", "ahead", "behind"] (defScope st__law_counted) := ⟨rfl, rfl, rfl, by decide +kernel, rfl, by decide +kernel, by decide +kernel⟩
abbrev N__law_led : List Str := ["lot", "text", "places", "met", "work", "place", "turn", "word", "end"]
theorem sc__law_led : FnScope N__law_led ["lot", "text", "places"] (defScope st__law_led) := ⟨rfl, rfl, rfl, by decide +kernel, rfl, by decide +kernel, by decide +kernel⟩
abbrev N__law_shows : List Str := ["lot", "text", "thing", "place", "met", "word"]
theorem sc__law_shows : FnScope N__law_shows ["lot", "text", "thing"] (defScope st__law_shows) := ⟨rfl, rfl, rfl, by decide +kernel, rfl, by decide +kernel, by decide +kernel⟩
abbrev N__law_odd : List Str := ["feed", "text", "places", "at", "place", "some", "odd"]
theorem sc__law_odd : FnScope N__law_odd ["feed", "text", "places"] (defScope st__law_odd) := ⟨rfl, rfl, rfl, by decide +kernel, rfl, by decide +kernel, by decide +kernel⟩
abbrev N__law_paper : List Str := ["feed", "lot", "text", "there", "led", "found", "more", "turn", "things", "thing", "held", "due"]
theorem sc__law_paper : FnScope N__law_paper ["feed", "lot", "text", "there"] (defScope st__law_paper) := ⟨rfl, rfl, rfl, by decide +kernel, rfl, by decide +kernel, by decide +kernel⟩
abbrev N__law_right : List Str := ["feed", "lot", "text", "ahead", "behind", "total", "places", "used", "told", "sure", "place", "found", "words"]
theorem sc__law_right : FnScope N__law_right ["feed"] (defScope st__law_right) := ⟨rfl, rfl, rfl, by decide +kernel, rfl, by decide +kernel, by decide +kernel⟩
abbrev N_law : List Str := ["script", "k"]
theorem sc_law : FnScope N_law ["script"] (defScope st_law) := ⟨rfl, rfl, rfl, by decide +kernel, rfl, by decide +kernel, by decide +kernel⟩
abbrev N_Ways_init : List Str := ["self", "lot", "text", "place", "index"]
theorem sc_Ways_init : FnScope N_Ways_init ["self", "lot", "text"] (defScope st_Ways_init) := ⟨rfl, rfl, rfl, by decide +kernel, rfl, by decide +kernel, by decide +kernel⟩
abbrev N_Ways_words_at : List Str := ["self", "place", "index", "word"]
theorem sc_Ways_words_at : FnScope N_Ways_words_at ["self", "place"] (defScope st_Ways_words_at) := ⟨rfl, rfl, rfl, by decide +kernel, rfl, by decide +kernel, by decide +kernel⟩
abbrev N_Ways_cut : List Str := ["self", "number", "found", "place", "index", "many"]
theorem sc_Ways_cut : FnScope N_Ways_cut ["self", "number"] (defScope st_Ways_cut) := ⟨rfl, rfl, rfl, by decide +kernel, rfl, by decide +kernel, by decide +kernel⟩
abbrev N_Ways_number : List Str := ["self", "indexes", "found", "place", "told", "index"]
theorem sc_Ways_number : FnScope N_Ways_number ["self", "indexes"] (defScope st_Ways_number) := ⟨rfl, rfl, rfl, by decide +kernel, rfl, by decide +kernel, by decide +kernel⟩
abbrev N_Ways_cuts : List Str := ["self", "number"]
theorem sc_Ways_cuts : FnScope N_Ways_cuts ["self"] (defScope st_Ways_cuts) := ⟨rfl, rfl, rfl, by decide +kernel, rfl, by decide +kernel, by decide +kernel⟩
abbrev N_Ways_places : List Str := ["self", "one", "other"]
theorem sc_Ways_places : FnScope N_Ways_places ["self"] (defScope st_Ways_places) := ⟨rfl, rfl, rfl, by decide +kernel, rfl, by decide +kernel, by decide +kernel⟩
abbrev N_Ways_led_to : List Str := ["self", "place", "many"]
theorem sc_Ways_led_to : FnScope N_Ways_led_to ["self"] (defScope st_Ways_led_to) := ⟨rfl, rfl, rfl, by decide +kernel, rfl, by decide +kernel, by decide +kernel⟩
abbrev N_Ways_used : List Str := ["self", "found", "place", "index"]
theorem sc_Ways_used : FnScope N_Ways_used ["self"] (defScope st_Ways_used) := ⟨rfl, rfl, rfl, by decide +kernel, rfl, by decide +kernel, by decide +kernel⟩
abbrev N_Ways_best : List Str := ["self", "is_better"]
theorem sc_Ways_best : FnScope N_Ways_best ["self", "is_better"] (defScope st_Ways_best) := ⟨rfl, rfl, rfl, by decide +kernel, rfl, by decide +kernel, by decide +kernel⟩
end K04
set_option Elab.async false
set_option linter.all false
set_option maxRecDepth 100000
set_option maxHeartbeats 2000000
set_option exponentiation.threshold 5000
namespace K04
open PySem PySem.Spec PyProof.Rows L2 Evl Wc
section
variable {P : Program} {w : World} {K : PySem.W.Frag} {mg : Str → Option Value} {base : Heap}
theorem ok__law_draw {f : Addr} {fd : FuncData} (F : Fun K "_law_draw" "_law_draw" st__law_draw f fd) (M : Md K mg) : FnOk P w K mg base CX0 1 f fd ["feed", "many"] sp_draw := by
  have nd := sc__law_draw.nd
  refine F.ok sc__law_draw (fun vs H Q E h => ?_) (fun cdv A outer s H vs Q E hr h => ?_)
  · obtain ⟨_, _, rfl, _⟩ := h
    rfl
  · obtain ⟨fa, many, rfl, ⟨n0, hn0, a, b, c, e, hfa, ha0, he1, he2, hae, hb0, hb1, hc0, hc1⟩, hm0, hm1, k⟩ := h
    refine ⟨_, (pss_cons (ps_if (pt_cmpR op_gt (pe_ix (kix K (r := L2.rIxL) ix_list) (pv 0) pe_int (fun _ _ => rfl)) pe_int (nomark _))
  (pss_cons (ps_set (i := 2) nd rfl (Or.inl rfl) (pe_op op_fdivW (pe_ix (kix K (r := L2.rIxL) ix_list) (pv 0) pe_int (fun _ _ => rfl)) (pv 1)))
  (pss_cons (ps_set (i := 3) nd rfl (Or.inl rfl) (pe_op op_sub (pe_ix (kix K (r := L2.rIxL) ix_list) (pv 0) pe_int (fun _ _ => rfl)) (pe_op op_mulB (pv 2) (pv 1))))
  (pss_cons (ps_asg (pv 2) (pg_sub (pv 0) pe_int set_list))
  (pss_one (ps_ret (pv 3))))))
  pss_nil)
  (pss_cons (ps_asg (pe_op op_add (pe_ix (kix K (r := L2.rIxL) ix_list) (pv 0) pe_int (fun _ _ => rfl)) pe_int) (pg_sub (pv 0) pe_int set_list))
  (pss_cons (ps_set (i := 4) nd rfl (Or.inl rfl) (pe_op op_add (pe_ix (kix K (r := L2.rIxL) ix_list) (pv 0) pe_int (fun _ _ => rfl)) (pe_op op_mulB pe_int (pe_ix (kix K (r := L2.rIxL) ix_list) (pv 0) pe_int (fun _ _ => rfl)))))
  (pss_cons (ps_set (i := 4) nd rfl (Or.inl rfl) (pe_op op_modP (pe_callTy call_int1 (by rfl) M.n_int boot_int (pa_cons (pe_op op_add (pe_op op_mulB (pe_op op_mulB (pv 4) (pv 4)) (pv 4)) (pe_op op_mulB pe_int (pe_ix (kix K (r := L2.rIxL) ix_list) (pv 0) pe_int (fun _ _ => rfl)))) pa_nil)) (pe_op op_add (pe_op op_pow pe_int pe_int) pe_int)))
  (pss_cons (ps_set (i := 4) nd rfl (Or.inl rfl) (pe_op op_modP (pe_callTy call_int1 (by rfl) M.n_int boot_int (pa_cons (pe_op op_add (pe_op op_mulB (pv 4) (pv 4)) pe_int) pa_nil)) (pe_op op_add (pe_op op_pow pe_int pe_int) pe_int)))
  (pss_one (ps_ret (pe_op op_modP (pe_callTy call_int1 (by rfl) M.n_int boot_int (pa_cons (pe_op op_fdivW (pv 4) (pe_op op_pow pe_int pe_int)) pa_nil)) (pv 1))))))))), ?_⟩
    have hcap : (n0 : Int) + 1 ≤ 1000000000000000000 := by
      have : n0 + 1 ≤ 1000000000000000000 := hn0
      omega
    have hmany : many.natAbs < 2 ^ 300 := Nat.lt_of_le_of_lt (show many.natAbs ≤ 10 ^ 61 by omega) (by decide)
    have hdm : CDivW a many := wide_div (b := 300) hm0 hmany (by decide) (by decide)
    have ge0 : ∀ H1, Ex H H1 → Ev (tOp (L2.rIxL K) (tVar 0) (tC (.int 0))) (start N__law_draw [.ref fa, .int many]) H1 (.int a) := fun H1 e1 => ev_op (ev_var rfl) ev_c (rv_ixL (sq_of (e1 _ _ hfa)) rfl)
    refine q_when (et_test (ev_op (ge0 H (Ex.refl _)) ev_c rv_I0)) (fun h1 H1 e1 => ?_) (fun h1 H1 e1 => ?_)
    · have hap : 0 < a := of_decide_eq_true h1
      refine q_asg (ev_op (ev_op (ev_var rfl) ev_c (rv_ixL (sq_of (e1 _ _ hfa)) rfl)) (ev_var rfl) (rv_I hdm)) fun H2 e2 => ?_
      have hr0 : 0 ≤ a / many := Int.ediv_nonneg ha0 (by omega)
      have hr1 : a / many ≤ a := Int.ediv_le_self _ ha0
      have hrn : (a / many).natAbs < 2 ^ e := Nat.lt_of_le_of_lt (by omega) hae
      have hg : a - a / many * many = a % many := by
        rw [Int.emod_def, Int.mul_comm]
      have hg0 : 0 ≤ a % many := Int.emod_nonneg _ (by omega)
      have hg1 : a % many < many := Int.emod_lt_of_pos _ hm0
      refine q_asg (v := .int (((a % many).toNat : Nat) : Int)) (ev_is (ev_op (ev_op (ev_var rfl) ev_c (rv_ixL (sq_of (e2 _ _ (e1 _ _ hfa))) rfl)) (ev_op (ev_var rfl) (ev_var rfl) (rv_I (mulB hrn hmany (by omega) (by decide) (by omega)))) rv_I0) (by rw [hg]; congr 1; omega)) fun H3 e3 => ?_
      have hf3 := e3 _ _ (e2 _ _ (e1 _ _ hfa))
      refine q_setL (j := 0) hf3 (ev_var rfl) (ev_var rfl) ev_c (by show 0 < 3; decide) fun H4 e4 => ?_
      refine s_ret (ev_var rfl) fun H5 e5 => k (a % many).toNat H5 (by omega) ⟨?_, fun n hn hF => ?_⟩
      · exact Exc.then (Exc.upd (B := fun c => c = fa) (Exc.of (((e1.trans e2).trans e3).trans e4)) (.inl rfl)) e5
      · obtain ⟨a', b', c', e', g1, g2, g3, g4, g5, g6, g7, g8, g9⟩ := hF
        rw [hfa] at g1
        injection g1 with g1
        injection g1 with g1
        injection g1 with x1 g1
        injection g1 with x2 g1
        injection g1 with x3 g1
        injection x1 with x1
        injection x2 with x2
        injection x3 with x3
        subst x1 x2 x3
        exact ⟨a / many, b, c, e, e5 _ _ upd_same, hr0, he1, he2, hrn, hb0, hb1, hc0, by omega⟩
    · have ha : a = 0 := by
        have := of_decide_eq_false h1
        omega
      subst ha
      -- feed[2] = feed[2] + 1
      refine q_setL (j := 2) (e1 _ _ hfa) (ev_op (ev_op (ev_var rfl) ev_c (rv_ixL (sq_of (e1 _ _ hfa)) rfl)) ev_c rv_I0) (ev_var rfl) ev_c (by show 2 < 3; decide) fun H2 e2 => ?_
      have hf2 : (upd H2 fa (.lst ([V.int 0, V.int b, V.int c].set 2 (V.int (c + 1))))) fa = some (.lst [.int 0, .int b, .int (c + 1)]) := upd_same
      generalize hH3 : upd H2 fa (.lst ([V.int 0, V.int b, V.int c].set 2 (V.int (c + 1)))) = H3 at hf2 ⊢
      have g1 : ∀ H4, Ex H3 H4 → ∀ σ : L2.St, σ[0]? = some (some (.ref fa)) → Ev (tOp (L2.rIxL K) (tVar 0) (tC (.int 1))) σ H4 (.int b) := fun H4 e4 σ h0 => ev_op (ev_var h0) ev_c (rv_ixL (sq_of (e4 _ _ hf2)) rfl)
      have g2 : ∀ H4, Ex H3 H4 → ∀ σ : L2.St, σ[0]? = some (some (.ref fa)) → Ev (tOp (L2.rIxL K) (tVar 0) (tC (.int 2))) σ H4 (.int (c + 1)) := fun H4 e4 σ h0 => ev_op (ev_var h0) ev_c (rv_ixL (sq_of (e4 _ _ hf2)) rfl)
      have lit : ∀ {i : Int} {k : Nat}, 0 ≤ i → i ≤ k → k < 2 ^ 600 → i.natAbs < 2 ^ 600 := fun h1 h2 h3 => Nat.lt_of_le_of_lt (by omega) h3
      -- stir = feed[1] + 6700417 * feed[2]
      have hc9 : (c + 1).natAbs < 2 ^ 600 := lit (k := 1000000000000000000) (by omega) (by omega) (by decide)
      refine q_asg (ev_op (g1 _ (Ex.refl _) _ rfl) (ev_op ev_c (g2 _ (Ex.refl _) _ rfl) (rv_I (mulB (a := 600) (b := 600) (by decide) hc9 (by decide) (by decide) (by decide)))) rv_I0) fun H4 e4 => ?_
      have hs0 : 0 ≤ b + 6700417 * (c + 1) := by omega
      have hs1 : b + 6700417 * (c + 1) ≤ 10 ^ 41 := by omega
      generalize b + 6700417 * (c + 1) = x at hs0 hs1 ⊢
      have hx : x.natAbs < 2 ^ 600 := lit (k := 10 ^ 41) hs0 hs1 (by decide)
      have hxx : (x * x).natAbs < 2 ^ 1200 := wide_lt hx hx
      -- stir = int(stir * stir * stir + 15485863 * feed[2]) % (10 ** 43 + 57)
      refine q_asg (ev_op (ev_cb (ea_cons (ev_op (ev_op (ev_op (ev_var rfl) (ev_var rfl) (rv_I (mulB hx hx (by decide) (by decide) (by decide)))) (ev_var rfl) (rv_I (mulB hxx hx (by decide) (by decide) (by decide)))) (ev_op ev_c (g2 _ e4 _ rfl) (rv_I (mulB (a := 600) (b := 600) (by decide) hc9 (by decide) (by decide) (by decide)))) rv_I0) ea_nil) rc_int)
        (ev_op (ev_op ev_c ev_c (rv_I ⟨by decide, by decide, by decide⟩)) ev_c rv_I0) (rv_I (by decide))) fun H5 e5 => ?_
      have hy0 : 0 ≤ (x * x * x + 15485863 * (c + 1)) % ((10 : Int) ^ (43 : Int).toNat + 57) := Int.emod_nonneg _ (by decide)
      have hy1 : (x * x * x + 15485863 * (c + 1)) % ((10 : Int) ^ (43 : Int).toNat + 57) < (10 : Int) ^ 43 + 57 := Int.emod_lt_of_pos _ (by decide)
      generalize (x * x * x + 15485863 * (c + 1)) % ((10 : Int) ^ (43 : Int).toNat + 57) = y at hy0 hy1 ⊢
      have hy : y.natAbs < 2 ^ 600 := lit (k := 10 ^ 44) hy0 (by omega) (by decide)
      refine q_asg (ev_op (ev_cb (ea_cons (ev_op (ev_op (ev_var rfl) (ev_var rfl) (rv_I (mulB hy hy (by decide) (by decide) (by decide)))) ev_c rv_I0) ea_nil) rc_int) (ev_op (ev_op ev_c ev_c (rv_I ⟨by decide, by decide, by decide⟩)) ev_c rv_I0) (rv_I (by decide))) fun H6 e6 => ?_
      have hz0 : 0 ≤ (y * y + 32452843) % ((10 : Int) ^ (38 : Int).toNat + 133) := Int.emod_nonneg _ (by decide)
      generalize (y * y + 32452843) % ((10 : Int) ^ (38 : Int).toNat + 133) = z at hz0 ⊢
      have hq0 : 0 ≤ (z / (10 : Int) ^ (9 : Int).toNat) % many := Int.emod_nonneg _ (by omega)
      have hq1 : (z / (10 : Int) ^ (9 : Int).toNat) % many < many := Int.emod_lt_of_pos _ hm0
      refine s_ret (v := .int ((((z / (10 : Int) ^ (9 : Int).toNat) % many).toNat : Nat) : Int)) (ev_is (ev_op (ev_cb (ea_cons (ev_op (ev_var rfl) (ev_op ev_c ev_c (rv_I ⟨by decide, by decide, by decide⟩)) (rv_I (divW (by decide) (by decide)))) ea_nil) rc_int) (ev_var rfl) (rv_I hm0)) (by congr 1; omega)) fun H7 e7 => k _ H7 (by omega) ⟨?_, fun n hn hF => ?_⟩
      · have : Exc (fun c => c = fa) H H3 := by
          rw [← hH3]
          exact (Exc.of (e1.trans e2)).upd (.inl rfl)
        exact this.then (((e4.trans e5).trans e6).trans e7)
      · obtain ⟨a', b', c', e', g1, g2, g3, g4, g5, g6, g7, g8, g9⟩ := hF
        rw [hfa] at g1
        injection g1 with g1
        injection g1 with g1
        injection g1 with x1 g1
        injection g1 with x2 g1
        injection g1 with x3 g1
        injection x2 with x2
        injection x3 with x3
        subst x2 x3
        exact ⟨0, b, c + 1, 1, (((e4.trans e5).trans e6).trans e7) _ _ hf2, Int.le_refl _, Nat.le_refl _, by decide, by decide, hb0, hb1, by omega, by omega⟩
theorem ok__law_one {f : Addr} {fd : FuncData} (F : Fun K "_law_one" "_law_one" st__law_one f fd) (M : Md K mg) (C__law_draw : Cal P w K mg base "_law_draw" st__law_draw 1 ["feed", "many"] sp_draw) : FnOk P w K mg base CX0 2 f fd ["feed", "things"] (sp_one K) := by
  have nd := sc__law_one.nd
  refine F.ok sc__law_one (fun vs H Q E h => ?_) (fun cdv A outer s H vs Q E hr h => ?_)
  · obtain ⟨_, _, ⟨_, rfl, _⟩ | ⟨_, _, rfl, _⟩⟩ := h <;> rfl
  · obtain ⟨fa, G, h⟩ := h
    rcases h with ⟨s, rfl, hs, hl, k⟩ | ⟨p, xs, rfl, hS, hp, hx, hl, k⟩
    · refine ⟨_, (pss_one (ps_ret (pe_ix (kix K (r := rIxAny) ix_any) (pv 1) (pe_cl C__law_draw hr (pa_cons (pv 0) (pa_cons (pe_callB (kcr K (r := rLenAny) cr_lenAny) (by rfl) M.n_len boot_len (pa_cons (pv 1) pa_nil)) pa_nil))) (fun _ _ => rfl)))), ?_⟩
      have hpos : 0 < s.length := List.length_pos_iff.mpr hs
      refine ⟨T s, rfl, .ref fa, rfl, T s, rfl, .inl ⟨s, rfl, hl, fa, (s.length : Int), rfl, G, by omega, by omega, fun d H1 hd R => ?_⟩⟩
      obtain ⟨c, hc, hm⟩ := atI_mem (xs := s) (d := d) (by omega)
      exact .inr ⟨s, d, c, rfl, rfl, hl, hc, k c H1 hm R⟩
    · refine ⟨_, (pss_one (ps_ret (pe_ix (kix K (r := rIxAny) ix_any) (pv 1) (pe_cl C__law_draw hr (pa_cons (pv 0) (pa_cons (pe_callB (kcr K (r := rLenAny) cr_lenAny) (by rfl) M.n_len boot_len (pa_cons (pv 1) pa_nil)) pa_nil))) (fun _ _ => rfl)))), ?_⟩
      have hpos : 0 < xs.length := List.length_pos_iff.mpr hx
      refine ⟨.ref p, rfl, .ref fa, rfl, .ref p, rfl, .inr ⟨p, xs, rfl, hS, fa, (xs.length : Int), rfl, G, by omega, by omega, fun d H1 hd R => ?_⟩⟩
      obtain ⟨v, hv, hm⟩ := atI_mem (xs := xs) (d := d) (by omega)
      rcases hS with hS | hS
      · exact .inl (.inl ⟨p, xs, d, v, rfl, rfl, R.l hp hS, hv, k v H1 hm R⟩)
      · exact .inl (.inr ⟨p, xs, d, v, rfl, rfl, R.t hp hS, hv, k v H1 hm R⟩)
theorem sum_le {ts : List Tx} {m : Nat} (h : ∀ t ∈ ts, t.length ≤ m) : (ts.map List.length).sum ≤ ts.length * m := by
  induction ts with
  | nil => simp
  | cons t ts ih =>
    have h1 := h t List.mem_cons_self
    have h2 := ih fun x hx => h x (List.mem_cons_of_mem _ hx)
    simp only [List.map_cons, List.sum_cons, List.length_cons, Nat.succ_mul]
    omega
theorem flat_len {ts : List Tx} : ts.flatten.length = (ts.map List.length).sum := by
  simp [List.length_flatten]
theorem ok__law_text {f : Addr} {fd : FuncData} (F : Fun K "_law_text" "_law_text" st__law_text f fd) (M : Md K mg) (C__law_draw : Cal P w K mg base "_law_draw" st__law_draw 1 ["feed", "many"] sp_draw) (C__law_one : Cal P w K mg base "_law_one" st__law_one 2 ["feed", "things"] (sp_one K)) : FnOk P w K mg base CX0 3 f fd ["feed", "signs", "most"] sp_text := by
  have nd := sc__law_text.nd
  refine F.ok sc__law_text (fun vs H Q E h => ?_) (fun cdv A outer s H vs Q E hr h => ?_)
  · obtain ⟨_, _, _, rfl, _⟩ := h
    rfl
  · obtain ⟨fa, s, most, rfl, G, hm, hs, hl, k⟩ := h
    refine ⟨_, (pss_one (ps_ret (kbm K (pe_bm PySem.F.plainAttrs_str PySem.F.slot_str_join PySem.F.type_str_join (kmt K (r := rJoinT) mt_joinT) (pe_sT []) (pa_cons (pe_lc (own := [("turn", 3)]) rfl nd (pi_range1 (by rfl) M.n_range (pa_cons (pe_cl C__law_draw hr (pa_cons (pv 0) (pa_cons (pe_op op_add (pv 2) pe_int) pa_nil))) pa_nil)) (blkOk_by (N := N__law_text) (sc := defScope st__law_text) (by decide +kernel)) (fun _ _ _ _ _ => (pg_name (i := 3) nd rfl (Or.inl rfl))) (fun _ _ _ _ _ => pts_nil) (fun _ _ _ _ _ => (pe_cl C__law_one hr (pa_cons (pv 0) (pa_cons (pv 1) pa_nil))))) pa_nil))))), ?_⟩
    refine ⟨rfl, ?_⟩
    refine ⟨.ref fa, rfl, .int (most : Int), rfl, (most : Int), 1, rfl, rfl, fa, (most : Int) + 1, rfl, G.mono (by omega), by omega, by omega, fun d H1 hd R1 => ?_⟩
    have G1 : GF fa most H1 := G.go R1 (by omega)
    have hw : ∀ Q' : VK, (∀ p H2 acc, H1 p = none → Rf fa (d * 1) H1 H2 → H2 p = some (.lst acc) → acc.length = d → (∀ v ∈ acc, ∃ t, v = T t ∧ (t.length ≤ 1 ∧ ∀ c ∈ t, c ∈ s)) → Q' (.ref p) H2) →
        tLc (iRng1 (fun _ H Q => Q [.int (d : Int)] H)) (gName 3) tYes (tCall (sp_one K) [] E0 (tCons (tVar 0) (tCons (tVar 1) tNil))) [3] (start N__law_text [.ref fa, T s, .int (most : Int)]) H1 Q' := fun Q' k' => by
      refine lcD (fun v => ∃ t, v = T t ∧ (t.length ≤ 1 ∧ ∀ c ∈ t, c ∈ s)) 1 G1.is (src_range1 (n := d) (fun H2 e2 Q2 q => q H2 (Ex.refl _)) (by omega)) (fun z => z) (by omega) (fun _ => rfl) ?_ k'
      intro i x H2 hi _ R2 Q2 q
      refine ⟨.ref fa, rfl, T s, rfl, fa, G1.go R2 (by omega), .inl ⟨s, rfl, hs, hl, fun c H3 hc R3 => q _ _ ⟨[c], rfl, Nat.le_refl _, fun c' hc' => ?_⟩ R3⟩⟩
      rw [List.mem_singleton.mp hc']
      exact hc
    refine hw (fun x H2 => rJoinT K (T []) [x] H2 Q) fun p H2 acc hp R2 h2 hal hg => ?_
    obtain ⟨ts, rfl, hts⟩ := texts_of hg
    rw [List.length_map] at hal
    have hsum := sum_le fun t ht => (hts t ht).1
    refine ⟨[], p, ts, rfl, rfl, .inl (sq_of h2), by simp; omega, ?_⟩
    rw [joinL_nil]
    refine k ts.flatten H2 (by rw [flat_len]; omega) (fun c hc => ?_) ((R1.trans R2).mono (by omega))
    obtain ⟨t, ht, hct⟩ := List.mem_flatten.mp hc
    exact (hts t ht).2 c hct
end
end K04
set_option Elab.async false
set_option linter.all false
set_option maxRecDepth 100000
set_option maxHeartbeats 2000000
set_option exponentiation.threshold 5000
namespace K04
open PySem PySem.Spec PyProof.Rows L2 Evl Wc
section
variable {P : Program} {w : World} {K : PySem.W.Frag} {mg : Str → Option Value} {base : Heap}
theorem ok__law_feed {f : Addr} {fd : FuncData} (F : Fun K "_law_feed" "_law_feed" st__law_feed f fd) (M : Md K mg) : FnOk P w K mg base CX0 1 f fd ["script", "k"] (sp_feed K) := by
  have nd := sc__law_feed.nd
  refine F.ok sc__law_feed (fun vs H Q E h => ?_) (fun cdv A outer s H vs Q E hr h => ?_)
  · obtain ⟨_, _, _, _, rfl, _⟩ := h
    rfl
  · obtain ⟨a, ns, k, e, rfl, hS, hk, he1, he2, hz, kk⟩ := h
    refine ⟨_, (pss_cons (ps_set (i := 2) nd rfl (Or.inl rfl) (pe_op op_add (pe_op op_mulB pe_int (pv 1)) (pe_callB (kcr K (r := rSum) (cr_sum rfl)) (by rfl) M.n_sum boot_sum (pa_cons (pe_slice (ksl K (r := rSlL) sl_list) (pv 0) po_none (po_some pe_int)) pa_nil))))
  (pss_cons (ps_if (pt_cmpR op_lt (pv 1) (pe_callB (kcr K (r := rLenS) call_len_seq) (by rfl) M.n_len boot_len (pa_cons (pv 0) pa_nil)) (nomark _))
  (pss_one (ps_set (i := 2) nd rfl (Or.inl rfl) (pe_ix (kix K (r := L2.rIxL) ix_list) (pv 0) (pv 1) (fun _ _ => rfl))))
  pss_nil)
  (pss_one (ps_ret (pe_lst (pa_cons (pe_callB (call_max2 rfl) (by rfl) M.n_max boot_max (pa_cons pe_int (pa_cons (pe_op op_sub (pv 2) (pe_op op_pow pe_int pe_int)) pa_nil))) (pa_cons (pe_op op_modP (pe_callTy call_int1 (by rfl) M.n_int boot_int (pa_cons (pe_op op_add (pe_op op_mulB (pv 2) pe_int) (pe_op op_mulB pe_int (pv 1))) pa_nil)) (pe_op op_add (pe_op op_pow pe_int pe_int) pe_int)) (pa_cons pe_int pa_nil)))))))), ?_⟩
    have hsum : Ev (tCB (rSum K) (tCons (tSl (rSlL K) (tVar 0) tNoPart (tPart (tC (.int 1)))) tNil)) (start N__law_feed [.ref a, .int (k : Int)]) H (.int (ns.take 1).sum) := by
      refine ev_cbL (el_sl (ev_var rfl) eo_none (eo_some ev_c) hS) fun p H1 hp e1 => rc_sum (ns := ns.take 1) (sq_of ?_)
      have ec : cutV (ns.map V.int) none (some 1) = (ns.take 1).map V.int := by
        rw [List.map_take]
        exact cutV_to _ 1
      rw [hp, ec]
    have hs1 : (ns.take 1).sum.natAbs < 2 ^ e := by
      cases ns with
      | nil => exact Nat.pow_pos (by decide)
      | cons z r =>
        have := hz z List.mem_cons_self
        simpa using this
    refine q_asg (ev_op (ev_op ev_c (ev_var rfl) (rv_I (mulB (a := 20) (b := 20) (by decide) (by simp; omega) (by decide) (by decide) (by decide)))) hsum rv_I0) fun H1 e1 => ?_
    -- what cell is behind the if
    have rest : ∀ (cell : Int) H2, Ex H H2 → cell.natAbs < 2 ^ (e + 72) → ∀ {tz : TS}, (∀ {te : TE}, EvL te [some (.ref a), some (.int (k : Int)), some (.int cell)] H2 [.int (if cell - 10 ^ (18 : Int).toNat > 0 then cell - 10 ^ (18 : Int).toNat else 0), .int ((cell * 19 + 7 * (k : Int)) % (10 ^ (39 : Int).toNat + 23)), .int 0] → tRet te { nx := fun _ H' => Q .non H', rt := Q } [some (.ref a), some (.int (k : Int)), some (.int cell)] H2) := fun cell H2 e2 hc {tz te} h => by
      refine s_retL h fun fa H3 nfa e3 hfa => kk fa H3 (fresh_back e2 nfa) (e2.trans e3) ?_
      have hd : (cell + -(10 : Int) ^ (18 : Int).toNat).natAbs < 2 ^ (e + 72 + 72) := pow_add_small hc (by decide)
      refine ⟨_, _, _, e + 144, hfa, ?_, by omega, by omega, ?_, Int.emod_nonneg _ (by decide), Int.lt_trans (Int.emod_lt_of_pos _ (by decide)) (by decide), Int.le_refl _, Int.le_refl _⟩
      · split
        · omega
        · exact Int.le_refl _
      · split
        · rw [Int.sub_eq_add_neg]
          exact hd
        · exact Nat.pow_pos (by decide)
    have hfin : ∀ (cell : Int) H2, Ex H H2 → cell.natAbs < 2 ^ (e + 72) → EvL _ [some (.ref a), some (.int (k : Int)), some (.int cell)] H2 [.int (if cell - 10 ^ (18 : Int).toNat > 0 then cell - 10 ^ (18 : Int).toNat else 0), .int ((cell * 19 + 7 * (k : Int)) % (10 ^ (39 : Int).toNat + 23)), .int 0] := fun cell H2 e2 hc =>
      el_lst (ea_cons (ev_max2 ev_c (ev_op (ev_var (i := 2) rfl) (ev_op ev_c ev_c (rv_I (C := CPow) (g := fun i j => .int (i ^ j.toNat)) ⟨by decide, by decide, by decide⟩)) (rv_I0 (g := fun i j => .int (i - j))))) (ea_cons (ev_op (ev_cb (ea_cons (ev_op (ev_op (ev_var (i := 2) rfl) ev_c (rv_I (C := CMulB) (g := fun i j => .int (i * j)) (mulB hc (b := 10) (by decide) (by omega) (by decide) (by omega)))) (ev_op ev_c (ev_var (i := 1) rfl) (rv_I (C := CMulB) (g := fun i j => .int (i * j)) (mulB (a := 20) (b := 20) (by decide) (by simp; omega) (by decide) (by decide) (by decide)))) (rv_I0 (g := fun i j => .int (i + j)))) ea_nil) rc_int)
        (ev_op (ev_op ev_c ev_c (rv_I (C := CPow) (g := fun i j => .int (i ^ j.toNat)) ⟨by decide, by decide, by decide⟩)) ev_c (rv_I0 (g := fun i j => .int (i + j)))) (rv_I (C := fun _ j => 0 < j) (g := fun i j => .int (i % j)) (by decide))) (ea_cons ev_c ea_nil))) (by show 3 ≤ 100000; decide)
    refine q_when (et_test (ev_op (ev_var rfl) (ev_len (ev_var rfl) (ex_l e1 hS)) rv_I0)) (fun hb H2 e2 => ?_) (fun hb H2 e2 => ?_)
    · have hlt : k < ns.length := by
        have := of_decide_eq_true hb
        rw [List.length_map] at this
        omega
      refine s_asg (v := .int ns[k]) (ev_op (ev_var rfl) (ev_var rfl) (rv_ixL (ex_l (e1.trans e2) hS) (atI_nat (by rw [List.getElem?_map, List.getElem?_eq_getElem hlt]; rfl)))) fun H3 e3 => ?_
      exact rest ns[k] H3 ((e1.trans e2).trans e3) (Nat.lt_of_lt_of_le (hz _ (List.getElem_mem hlt)) (Nat.pow_le_pow_right (by decide) (by omega))) (tz := tNext) (hfin ns[k] H3 ((e1.trans e2).trans e3) (Nat.lt_of_lt_of_le (hz _ (List.getElem_mem hlt)) (Nat.pow_le_pow_right (by decide) (by omega))))
    · have hc : (977 * (k : Int) + (ns.take 1).sum).natAbs < 2 ^ (e + 72) := by
        rw [Int.add_comm]
        refine pow_add_small hs1 (Nat.le_trans (show (977 * (k : Int)).natAbs ≤ 1000000 by omega) (by decide))
      exact rest _ H2 (e1.trans e2) hc (tz := tNext) (hfin _ H2 (e1.trans e2) hc)
end
end K04
set_option Elab.async false
set_option linter.all false
set_option maxRecDepth 100000
set_option maxHeartbeats 2000000
namespace K04
open PySem PySem.Spec PyProof.Rows L2 Evl Wc Wt
def abcd (c : Nat) : Prop := 97 ≤ c ∧ c ≤ 100
/-- texts of the signs, none longer than m -/
def Wd (m : Nat) (ws : List Tx) : Prop := ∀ t ∈ ws, t.length ≤ m ∧ ∀ c ∈ t, abcd c
structure IsLot (lot : List Tx) : Prop where
  ne : lot ≠ []
  few : lot.length ≤ 12
  wd : Wd 12 lot
  pos : ∀ t ∈ lot, t ≠ []
  asc : lot.Pairwise (· < ·)
theorem pw_lt {xs : List Tx} (h : xs.Pairwise (· ≤ ·)) (d : xs.Nodup) : xs.Pairwise (· < ·) := (h.and d).imp fun ⟨a, b⟩ => by
  rcases List.le_iff_lt_or_eq.mp a with z | z
  · exact z
  · exact absurd z b
section
variable {K : PySem.W.Frag} {fa : Addr} {m : Nat} {H H1 H2 : Hp}
def sp_mixed (K : PySem.W.Frag) : Sp := fun vs H Q _ => ∃ (fa p : Addr) (xs : List V), vs = [.ref fa, .ref p] ∧ SqL K H p xs ∧ p ≠ fa ∧ xs.length ≤ 1000 ∧ GF fa xs.length H ∧ ∀ q ys H', ys.Perm xs → H q = none → Rf fa xs.length H H' → H' q = some (.lst ys) → Q (.ref q) H'
def sp_kept (K : PySem.W.Frag) : Sp := fun vs H Q _ => ∃ (fa p : Addr) (ws : List Tx) (most : Nat), vs = [.ref fa, .ref p, .int (most : Int)] ∧ SqL K H p (ws.map T) ∧ p ≠ fa ∧ ws.length ≤ 1000 ∧ Wd 100000 ws ∧ 1 ≤ most ∧ most ≤ 12 ∧ GF fa 1000 H ∧
  ∀ q lot H', IsLot lot → lot.length ≤ most → H q = none → Rf fa 1000 H H' → H' q = some (.tup (lot.map T)) → Q (.ref q) H'
end
section
variable {P : Program} {w : World} {K : PySem.W.Frag} {mg : Str → Option Value} {base : Heap}
theorem ok__law_mixed {f : Addr} {fd : FuncData} (F : Fun K "_law_mixed" "_law_mixed" st__law_mixed f fd) (M : Md K mg) (C__law_draw : Cal P w K mg base "_law_draw" st__law_draw 1 ["feed", "many"] sp_draw) : FnOk P w K mg base CX0 2 f fd ["feed", "things"] (sp_mixed K) := by
  have nd := sc__law_mixed.nd
  refine F.ok sc__law_mixed (fun vs H Q E h => ?_) (fun cdv A outer s H vs Q E hr h => ?_)
  · obtain ⟨_, _, _, rfl, _⟩ := h
    rfl
  · obtain ⟨fa, p, xs, rfl, hp, hne, hl, G, k⟩ := h
    refine ⟨_, (pss_cons (ps_par (i := 2) (j := 3) rfl nd rfl rfl (by decide) rfl rfl (pa_cons (pe_callTy (kcr K (r := rListS) call_list_of) (by rfl) M.n_list boot_list (pa_cons (pv 1) pa_nil)) (pa_cons (pe_lst pa_nil) pa_nil)) (by rfl))
  (pss_cons (ps_for PassesOwn.never rfl (pi_range1 (by rfl) M.n_range (pa_cons (pe_callB (kcr K (r := rLenS) call_len_seq) (by rfl) M.n_len boot_len (pa_cons (pv 1) pa_nil)) pa_nil)) (pg_name (i := 4) nd rfl (Or.inl rfl))
  (pss_one (ps_expr (kbm K (pe_bm PySem.F.plainAttrs_list PySem.F.slot_list_append PySem.F.type_list_append mt_append (pv 3) (pa_cons (kbm K (pe_bm PySem.F.plainAttrs_list PySem.F.slot_list_pop PySem.F.type_list_pop mt_popAt (pv 2) (pa_cons (pe_cl C__law_draw hr (pa_cons (pv 0) (pa_cons (pe_callB (kcr K (r := rLenS) call_len_seq) (by rfl) M.n_len boot_len (pa_cons (pv 2) pa_nil)) pa_nil))) pa_nil))) pa_nil))))))
  (pss_one (ps_ret (pv 3))))), ?_⟩
    refine (el_list (ev_var rfl) hp : EvL _ (start N__law_mixed [.ref fa, .ref p]) H xs) H (Ex.refl _) _ fun pool H1 hpool e1 h1 => ⟨by decide, fun got hgot => ⟨_, _, rfl, ?_⟩⟩
    have npg : pool ≠ got := ne_of_none h1 hgot
    have ngot : H got = none := fresh_back e1 hgot
    have n1 : pool ≠ fa := G.new hpool
    have n2 : got ≠ fa := G.new ngot
    have e2 : Ex H (upd H1 got (.lst [])) := e1.trans (Ex.new hgot)
    have h1' : (upd H1 got (.lst [])) pool = some (.lst xs) := by rw [upd_ne npg]; exact h1
    have h2' : (upd H1 got (.lst [])) got = some (.lst []) := upd_same
    generalize upd H1 got (.lst []) = H2 at e2 h1' h2'
    show tSeq _ _ _ [some (.ref fa), some (.ref p), some (.ref pool), some (.ref got), none] H2
    refine q_forW (fun c => c = fa ∨ c = pool ∨ c = got) (src_range1 (n := xs.length) (ea_cons (ev_len (ev_var rfl) (ex_l e2 hp)) ea_nil) (by omega)) ?_
      (fun Hs i σ' H' => ∃ (ys zs : List V) (v : Option V), σ' = [some (.ref fa), some (.ref p), some (.ref pool), some (.ref got), v] ∧ Exc (fun c => c = fa ∨ c = pool ∨ c = got) Hs H' ∧ Rf fa i H H' ∧ H' pool = some (.lst ys) ∧ H' got = some (.lst zs) ∧ zs.length = i ∧ (zs ++ ys).Perm xs) ?_ ?_ ?_ ?_ ?_
    · rintro c (rfl | rfl | rfl)
      · exact ⟨(G.ex e2).is, fun z => z⟩
      · exact ⟨by rw [h1']; exact fun z => (nomatch z), fun z => z⟩
      · exact ⟨by rw [h2']; exact fun z => (nomatch z), fun z => z⟩
    · intro Hs e
      exact ⟨xs, [], none, rfl, Exc.refl _, Rf.of_ex (e2.trans e), e _ _ h1', e _ _ h2', rfl, List.Perm.refl _⟩
    · rintro Hs i σ' H' ⟨_, _, _, _, h, _⟩
      exact h
    · rintro Hs i σ' Ha Hb ⟨ys, zs, v, h0, h3, h4, h5, h6, h7⟩ e
      exact ⟨ys, zs, v, h0, h3.then e, h4.then e, e _ _ h5, e _ _ h6, h7⟩
    · rintro Hs i x σ' H' e hi ⟨ys, zs, v, rfl, h3, h4, h5, h6, h7, h8⟩ rfl
      have hly := h8.length_eq
      rw [List.length_append] at hly
      show tDrop _ _ [some (.ref fa), some (.ref p), some (.ref pool), some (.ref got), some (.int (i : Int))] H'
      refine ⟨.ref got, rfl, .inl ⟨rfl, zs, sq_of h6⟩, .ref pool, rfl, .inl ⟨rfl, ys, sq_of h5⟩, ?_⟩
      refine wp_draw (many := (ys.length : Int)) rfl (ev_len (ev_var rfl) (sq_of h5)) (G.go h4 (m' := 1) (by omega)) (by omega) (by omega) fun d H3 hd R3 => ?_
      have hd' : d < ys.length := by omega
      have h53 := R3.at_ h5 n1
      refine ⟨pool, ys, (d : Int), d, ys[d], rfl, rfl, h53, by omega, by omega, seqIx_nat hd', List.getElem?_eq_getElem hd', ?_⟩
      · have h63 := R3.at_ h6 n2
        refine ⟨got, zs, ys[d], rfl, rfl, by rw [upd_ne (Ne.symm npg)]; exact h63, sz_lt (by omega), ?_⟩
        have hpm : (ys[d] :: ys.eraseIdx d).Perm ys := erase_perm hd'
        refine ⟨ys.eraseIdx d, zs ++ [ys[d]], _, rfl, ?_, ?_, by rw [upd_ne npg, upd_same], upd_same, by simp [h7], ?_⟩
        · exact ((h3.trans (fun b o nb hb => R3.keep b o (fun z => nb (.inl z)) hb)).upd (.inl (.inr (.inl rfl)))).upd (.inl (.inr (.inr rfl)))
        · exact ((h4.trans R3).upd (fresh_back (Ex.refl H) hpool) G.is).upd ngot G.is
        · refine List.Perm.trans ?_ h8
          rw [List.append_assoc]
          exact List.Perm.append_left zs hpm
    · rintro Hs σ' H' e ⟨ys, zs, v, rfl, h3, h4, h5, h6, h7, h8⟩
      have hly := h8.length_eq
      rw [List.length_append] at hly
      have hy : ys = [] := List.length_eq_zero_iff.mp (by omega)
      subst hy
      rw [List.append_nil] at h8
      exact s_ret (ev_var rfl) fun H3 e3 => k got zs H3 h8 ngot (h4.then e3) (e3 _ _ h6)
theorem ok__law_kept {f : Addr} {fd : FuncData} (F : Fun K "_law_kept" "_law_kept" st__law_kept f fd) (M : Md K mg) (C__law_mixed : Cal P w K mg base "_law_mixed" st__law_mixed 2 ["feed", "things"] (sp_mixed K)) : FnOk P w K mg base CX0 3 f fd ["feed", "words", "most"] (sp_kept K) := by
  have nd := sc__law_kept.nd
  refine F.ok sc__law_kept (fun vs H Q E h => ?_) (fun cdv A outer s H vs Q E hr h => ?_)
  · obtain ⟨_, _, _, _, rfl, _⟩ := h
    rfl
  · obtain ⟨fa, p, ws, most, rfl, hp, hne, hl, hw, hm1, hm2, G, k⟩ := h
    refine ⟨_, (pss_cons (ps_set (i := 3) nd rfl (Or.inl rfl) (pe_callB (ksorted P w K hr.units) (by rfl) M.n_sorted boot_sorted (pa_cons (pe_callTy (kset P w K) (by rfl) M.n_set boot_set (pa_cons (pe_lc (own := [("word", 4)]) rfl nd (kil K (pi_list (pv 1))) (blkOk_by (N := N__law_kept) (sc := defScope st__law_kept) (by decide +kernel)) (fun _ _ _ _ _ => (pg_name (i := 4) nd rfl (Or.inl rfl))) (fun _ _ _ _ _ => (pts_one (pt_chain op_le op_le pe_int (pe_callB cr_lenT (by rfl) M.n_len boot_len (pa_cons (pv 4) pa_nil)) pe_int))) (fun _ _ _ _ _ => (pv 4))) pa_nil)) pa_nil)))
  (pss_cons (ps_set (i := 5) nd rfl (Or.inl rfl) (pe_ifExp (pt_cmpR op_gt (pe_callB (kcr K (r := rLenS) call_len_seq) (by rfl) M.n_len boot_len (pa_cons (pv 3) pa_nil)) (pv 2) (nomark _)) (pe_slice (ksl K (r := rSlL) sl_list) (pe_cl C__law_mixed hr (pa_cons (pv 0) (pa_cons (pv 3) pa_nil))) po_none (po_some (pv 2))) (pv 3)))
  (pss_one (ps_ret (pe_ifExp (pt_cmpR (kop K (r := rNeD) (op_neD hr.units)) (pv 5) (pe_lst pa_nil) (nomark _)) (pe_callTy (kcr K (r := rTupS) call_tuple_of) (by rfl) M.n_tuple boot_tuple (pa_cons (pe_callB (ksorted P w K hr.units) (by rfl) M.n_sorted boot_sorted (pa_cons (pv 5) pa_nil)) pa_nil)) (pe_tup (pa_cons (pe_sT [97, 98]) pa_nil))))))), ?_⟩
    -- good
    have hlc : EvL (tLc (iList K (tVar 1)) (gName 4) (tTest (tChain (rI0 fun i j => .bl (decide (i ≤ j))) (rI0 fun i j => .bl (decide (i ≤ j))) (tC (.int 1)) (tCB rLenT (tCons (tVar 4) tNil)) (tC (.int 12)))) (tVar 4) [4]) (start N__law_kept [.ref fa, .ref p, .int (most : Int)]) H ((ws.filter fun t => decide (1 ≤ (t.length : Int)) && decide ((t.length : Int) ≤ 12)).map T) := by
      refine el_lcF (j := 4) (vs := [4]) (f := T) (g := T) ws (src_listM (ev_var rfl) hp) (by omega) (fun _ => rfl) (fun t H1 e1 ht => ?_) (fun t H1 e1 ht _ => ev_var rfl)
      have := (hw t ht).1
      exact et_test (ev_chain ev_c (ev_cb (ea_cons (ev_var rfl) ea_nil) (rc_lenT (by omega))) rv_I0 ev_c rv_I0)
    have hfl := List.length_filter_le (fun t : Tx => decide (1 ≤ (t.length : Int)) && decide ((t.length : Int) ≤ 12)) ws
    refine el_sortSet hlc (by omega) _ fun pg ys H1 u hly hpg e1 h1 => ?_
    have hys : ∀ t ∈ ys, 1 ≤ t.length ∧ t.length ≤ 12 ∧ ∀ c ∈ t, abcd c := fun t ht => by
      have h := (u.mem t).mp ht
      rw [List.mem_filter, Bool.and_eq_true, decide_eq_true_eq, decide_eq_true_eq] at h
      exact ⟨by omega, by omega, (hw t h.1).2⟩
    have hgl : (sortT ys).length = ys.length := sortT_len ys
    have hgd : (sortT ys).Nodup := (sortT_perm ys).nodup_iff.mpr u.nd
    have hgm : ∀ t ∈ sortT ys, 1 ≤ t.length ∧ t.length ≤ 12 ∧ ∀ c ∈ t, abcd c := fun t ht => hys t (sortT_mem.mp ht)
    generalize sortT ys = good at h1 hgl hgd hgm
    have hn1 : pg ≠ fa := G.new hpg
    show tSeq _ _ _ [some (.ref fa), some (.ref p), some (.int (most : Int)), some (.ref pg), none, none] H1
    -- behind some
    have rest : ∀ (ps : Addr) (some_ : List Tx) H2, Rf fa 1000 H H2 → H2 ps = some (.lst (some_.map T)) → some_.Nodup → some_.length ≤ most → (∀ t ∈ some_, 1 ≤ t.length ∧ t.length ≤ 12 ∧ ∀ c ∈ t, abcd c) → tRet (tIf (tTest (tOp (rNeD K) (tVar 5) (tLst tNil))) (tCB (rTupS K) (tCons (tCB (rSortX K P w) (tCons (tVar 5) tNil)) tNil)) (tTup (tCons (tC (T [97, 98])) tNil))) { nx := fun _ H' => Q .non H', rt := Q } [some (.ref fa), some (.ref p), some (.int (most : Int)), some (.ref pg), none, some (.ref ps)] H2 := fun ps sm H2 R2 h2 hd hlen hg => by
      have G2 : GF fa 0 H2 := G.go R2 (by omega)
      have hdp : ∀ H3, Ex H2 H3 → Dp K H3 (.ref ps) (.list (sm.map dT)) := fun H3 e3 => dp_list (sq_of (e3 _ _ h2)) fun x _ => .str _
      have hlay : (PyData.list (sm.map dT)).canLay0 = true := lay_list fun x hx => lay_T fun c hc => by
        have := ((hg x hx).2.2 c hc).2
        omega
      have heq : PyData.eqv (.list (sm.map dT)) (.list []) = decide (sm = []) := by
        cases sm <;> rfl
      refine s_retIf (b := !decide (sm = [])) (et_test (fun H3 e3 Q3 q3 => (ev_var rfl : Ev (tVar 5) [some (.ref fa), some (.ref p), some (.int (most : Int)), some (.ref pg), none, some (.ref ps)] H2 (.ref ps)) H3 e3 _ fun H4 e4 => (el_lst ea_nil (by decide) : EvL (tLst tNil) [some (.ref fa), some (.ref p), some (.int (most : Int)), some (.ref pg), none, some (.ref ps)] H4 []) H4 (Ex.refl _) _ fun pe H5 hpe e5 h5 => ⟨_, .list [], (hdp H5 ((e3.trans e4).trans e5)), .lst (sq_of h5) .nil, shaped_of hlay (by
        show PyData.depthAll (sm.map dT) + 1 ≤ 64
        have := depth_all (g := dT) (m := 0) (xs := sm) fun x _ => Nat.le_refl _
        omega), by decide, by rw [heq]; exact q3 H5 (e4.trans e5)⟩)) (fun hb H3 e3 => ?_) (fun hb H3 e3 => ?_)
      · have hnn : sm ≠ [] := by simpa using hb
        refine (el_sorted (ev_var rfl) (sq_of (e3 _ _ h2)) : EvL (tCB (rSortX K P w) (tCons (tVar 5) tNil)) [some (.ref fa), some (.ref p), some (.int (most : Int)), some (.ref pg), none, some (.ref ps)] H3 ((sortT sm).map T)) H3 (Ex.refl _) _ fun pq H4 hpq e4 h4 => ⟨pq, _, rfl, .inl ⟨sq_of h4, fun l hl => ?_⟩⟩
        have RR := (R2.then e3).then e4
        refine k l (sortT sm) _ ⟨fun z => hnn ?_, by rw [sortT_len]; omega, fun t ht => ⟨(hg t (sortT_mem.mp ht)).2.1, (hg t (sortT_mem.mp ht)).2.2⟩, fun t ht z => ?_, pw_lt (sortT_pw sm) ((sortT_perm sm).nodup_iff.mpr hd)⟩ (by rw [sortT_len]; exact hlen) (RR.free G.is hl ((G2.ex e3).ex e4).is) (RR.then (Ex.new hl)) upd_same
        · have := sortT_len sm
          rw [z] at this
          exact List.length_eq_zero_iff.mp this.symm
        · have := (hg t (sortT_mem.mp ht)).1
          rw [z] at this
          simp at this
      · refine ⟨by decide, fun l hl => ?_⟩
        have RR := R2.then e3
        refine k l [[97, 98]] _ ⟨by simp, by simp, fun t ht => ?_, fun t ht z => ?_, by simp⟩ hm1 (RR.free G.is hl (G2.ex e3).is) (RR.then (Ex.new hl)) upd_same
        · simp at ht
          subst ht
          exact ⟨by decide, fun c hc => by simp at hc; unfold abcd; omega⟩
        · simp at ht
          rw [z] at ht
          cases ht
    -- some
    have hL : EvT (tTest (tOp (rI0 fun i j => .bl (decide (i > j))) (tCB (rLenS K) (tCons (tVar 3) tNil)) (tVar 2))) [some (.ref fa), some (.ref p), some (.int (most : Int)), some (.ref pg), none, none] H1 (decide ((((good.map T).length : Nat) : Int) > (most : Int))) := et_test (ev_op (ev_len (ev_var rfl) (sq_of h1)) (ev_var rfl) rv_I0)
    refine hL H1 (Ex.refl _) _ fun H2 e2 => ?_
    have e12 : Ex H H2 := e1.trans e2
    have hgl2 : good.length ≤ 1000 := by omega
    by_cases hb : (((good.map T).length : Nat) : Int) > (most : Int)
    · rw [decide_eq_true hb, if_pos rfl]
      refine ⟨.ref fa, rfl, .ref pg, rfl, fa, pg, good.map T, rfl, sq_of (e2 _ _ h1), hn1, by rw [List.length_map]; exact hgl2, (G.ex e12).mono (by rw [List.length_map]; exact hgl2), fun q xs H3 pm hq R3 h3 => ?_⟩
      obtain ⟨zs, rfl, pz⟩ := perm_texts pm
      have R3' : Rf fa 1000 H H3 := (Rf.pre e12 R3).mono (by rw [List.length_map]; exact hgl2)
      have hgz : ∀ t ∈ zs, 1 ≤ t.length ∧ t.length ≤ 12 ∧ ∀ c ∈ t, abcd c := fun t ht => hgm t (pz.mem_iff.mp ht)
      refine ⟨.int (most : Int), rfl, (most : Int), rfl, q, zs.map T, rfl, sq_of h3, fun r hr => ?_⟩
      rw [cutV_to, ← List.map_take]
      exact rest r (zs.take most) _ (R3'.then (Ex.new hr)) upd_same ((pz.nodup_iff.mpr hgd).sublist (List.take_sublist _ _)) (by rw [List.length_take]; omega) fun t ht => hgz t (List.mem_of_mem_take ht)
    · rw [decide_eq_false hb, if_neg Bool.false_ne_true]
      rw [List.length_map] at hb
      exact ⟨.ref pg, rfl, rest pg good H2 ((Rf.of_ex e12).mono (Nat.zero_le _)) (e2 _ _ h1) hgd (by omega) hgm⟩
end
end K04
set_option Elab.async false
set_option linter.all false
set_option maxRecDepth 100000
set_option maxHeartbeats 2000000
namespace K04
open PySem PySem.Spec PyProof.Rows L2 Evl Wc Wt
theorem Wd.mono {m n : Nat} {ws : List Tx} (h : Wd m ws) (hm : m ≤ n) : Wd n ws := fun t ht => ⟨Nat.le_trans (h t ht).1 hm, (h t ht).2⟩
theorem Wd.sub {m : Nat} {ws vs : List Tx} (h : Wd m ws) (hs : ∀ t ∈ vs, t ∈ ws) : Wd m vs := fun t ht => h t (hs t ht)
theorem Wd.app {m : Nat} {ws vs : List Tx} (h : Wd m ws) (h2 : Wd m vs) : Wd m (ws ++ vs) := fun t ht => by
  rcases List.mem_append.mp ht with z | z
  · exact h t z
  · exact h2 t z
section
variable {K : PySem.W.Frag}
def sp_split : Sp := fun vs H Q _ => ∃ (fa : Addr) (s : Tx) (turns : Nat), vs = [.ref fa, T s, .int (turns : Int)] ∧ GF fa turns H ∧ turns ≤ 100 ∧ s ≠ [] ∧ s.length ≤ 4 ∧ (∀ c ∈ s, abcd c) ∧
  ∀ q ws H', ws ≠ [] → ws.length ≤ 13 → Wd 12 ws → H q = none → Rf fa turns H H' → H' q = some (.lst (ws.map T)) → Q (.ref q) H'
def sp_joined : Sp := fun vs H Q _ => ∃ (fa p : Addr) (ws : List Tx) (turns : Nat), vs = [.ref fa, .ref p, .int (turns : Int)] ∧ H p = some (.lst (ws.map T)) ∧ p ≠ fa ∧ GF fa (3 * turns) H ∧ turns ≤ 10 ∧ ws ≠ [] ∧ ws.length ≤ 13 ∧ Wd 12 ws ∧
  ∀ q ws' H', ws' ≠ [] → ws'.length ≤ 30 → Wd 100000 ws' → q ≠ fa → Rf fa (3 * turns) H H' → H' q = some (.lst (ws'.map T)) → Q (.ref q) H'
def sp_made (K : PySem.W.Frag) : Sp := fun vs H Q _ => ∃ (fa c p : Addr) (cs ws : List Tx), vs = [.ref fa, .ref c, .ref p] ∧ GF fa 0 H ∧ H c = some (.lst (cs.map T)) ∧ SqL K H p (ws.map T) ∧ c ≠ fa ∧ p ≠ fa ∧ cs.length ≤ 100 ∧ Wd 10 cs ∧ ws ≠ [] ∧ ws.length ≤ 100 ∧ Wd 1000 ws ∧
  ∀ q vs' H', vs'.length ≤ 100 → Wd 100000 vs' → H q = none → Rf fa 0 H H' → H' q = some (.lst (vs'.map T)) → Q (.ref q) H'
end
section
variable {P : Program} {w : World} {K : PySem.W.Frag} {mg : Str → Option Value} {base : Heap}
theorem ok__law_split {f : Addr} {fd : FuncData} (F : Fun K "_law_split" "_law_split" st__law_split f fd) (M : Md K mg) (C__law_draw : Cal P w K mg base "_law_draw" st__law_draw 1 ["feed", "many"] sp_draw) : FnOk P w K mg base CX0 2 f fd ["feed", "signs", "turns"] sp_split := by
  have nd := sc__law_split.nd
  refine F.ok sc__law_split (fun vs H Q E h => ?_) (fun cdv A outer s H vs Q E hr h => ?_)
  · obtain ⟨_, _, _, rfl, _⟩ := h
    rfl
  · obtain ⟨fa, sg, turns, rfl, G, ht, hs0, hs4, hsc, k⟩ := h
    refine ⟨_, (pss_cons (ps_set (i := 3) nd rfl (Or.inr rfl) (pe_lst (pa_cons (pe_sT []) pa_nil)))
  (pss_cons (ps_for PassesOwn.never rfl (pi_range1 (by rfl) M.n_range (pa_cons (pv 2) pa_nil)) (pg_name (i := 4) nd rfl (Or.inl rfl))
  (pss_cons (ps_set (i := 5) nd rfl (Or.inr rfl) (pe_cl C__law_draw hr (pa_cons (pv 0) (pa_cons (pe_callB (kcr K (r := rLenS) call_len_seq) (by rfl) M.n_len boot_len (pa_cons (pv 3) pa_nil)) pa_nil))))
  (pss_one (ps_if (PW.pt (pw_and (pt_cmpR op_lt (pe_op op_add (pe_callB (kcr K (r := rLenS) call_len_seq) (by rfl) M.n_len boot_len (pa_cons (pv 3) pa_nil)) (pe_callB cr_lenT (by rfl) M.n_len boot_len (pa_cons (pv 1) pa_nil))) pe_int (nomark _)) (pw_and1 (pt_cmpR op_lt (pe_callB cr_lenT (by rfl) M.n_len boot_len (pa_cons (pe_ix (kix K (r := L2.rIxL) ix_list) (pv 3) (pv 5) (fun _ _ => rfl)) pa_nil)) pe_int (nomark _)))))
  (pss_one (ps_set (i := 3) nd rfl (Or.inr rfl) (pe_op op_cat (pe_op op_cat (pe_slice (ksl K (r := rSlL) sl_list) (pv 3) po_none (po_some (pv 5))) (pe_slice (ksl K (r := rSlL) sl_list) (pv 3) (po_some (pe_op op_add (pv 5) pe_int)) po_none)) (pe_lc (own := [("sign", 6)]) rfl nd (pi_str (pv 1)) (blkOk_by (N := N__law_split) (sc := defScope st__law_split) (by decide +kernel)) (fun _ _ _ _ _ => (pg_name (i := 6) nd rfl (Or.inl rfl))) (fun _ _ _ _ _ => pts_nil) (fun _ _ _ _ _ => (pe_op op_addT (pe_ix (kix K (r := L2.rIxL) ix_list) (pv 3) (pv 5) (fun _ _ => rfl)) (pv 6)))))))
  pss_nil))))
  (pss_one (ps_ret (pv 3))))), ?_⟩
    refine q_asgL (xs := [T []]) (el_lst (ea_cons ev_c ea_nil) (by show 1 ≤ 100000; decide)) fun p0 H1 hp0 e1 h1 => ?_
    have n0 : p0 ≠ fa := G.new hp0
    show tSeq _ _ _ [some (.ref fa), some (T sg), some (.int (turns : Int)), some (.ref p0), none, none, none] H1
    refine q_forW (fun c => c = fa) (src_range1 (n := turns) (ea_cons (ev_var rfl) ea_nil) (by omega)) ?_
      (fun Hs i σ' H' => ∃ (p : Addr) (ws : List Tx) (v4 v5 : Option V), σ' = [some (.ref fa), some (T sg), some (.int (turns : Int)), some (.ref p), v4, v5, none] ∧ Exc (fun c => c = fa) Hs H' ∧ Rf fa i H H' ∧ H p = none ∧ H' p = some (.lst (ws.map T)) ∧ ws ≠ [] ∧ ws.length ≤ 13 ∧ Wd 12 ws) ?_ ?_ ?_ ?_ ?_
    · rintro c rfl
      exact ⟨(G.ex e1).is, fun z => z⟩
    · intro Hs e
      exact ⟨p0, [[]], none, none, rfl, Exc.refl _, Rf.of_ex (e1.trans e), hp0, e _ _ h1, by simp, by simp, fun t ht => by simp at ht; subst ht; exact ⟨Nat.zero_le _, fun c hc => nomatch hc⟩⟩
    · rintro Hs i σ' H' ⟨_, _, _, _, _, h, _⟩
      exact h
    · rintro Hs i σ' Ha Hb ⟨p, ws, v4, v5, h0, h2, h3, h4, h5, h6⟩ e
      exact ⟨p, ws, v4, v5, h0, h2.then e, h3.then e, h4, e _ _ h5, h6⟩
    · rintro Hs i x σ' H' e hi ⟨p, ws, v4, v5, rfl, h2, h3, h4, h5, h6, h7, h8⟩ rfl
      have hpos : 0 < ws.length := List.length_pos_iff.mpr h6
      have np : p ≠ fa := G.new h4
      have hlen : ∀ {σ : L2.St} {H' : Hp}, σ[3]? = some (some (.ref p)) → H' p = some (.lst (ws.map T)) → Ev (tCB (rLenS K) (tCons (tVar 3) tNil)) σ H' (.int (ws.length : Int)) := fun h0 hh => ev_is (ev_len (ev_var h0) (sq_of hh)) (by rw [List.length_map])
      show tSeq _ _ _ [some (.ref fa), some (T sg), some (.int (turns : Int)), some (.ref p), some (.int (i : Int)), v5, none] H'
      refine wp_draw (many := (ws.length : Int)) rfl (hlen rfl h5) (G.go h3 (m' := 1) (by omega)) (by omega) (by omega) fun d H3 hd R3 => ?_
      have hd' : d < ws.length := by omega
      have h53 := R3.at_ h5 np
      have h33 : Rf fa (i + 1) H H3 := h3.trans R3
      have hex : Exc (fun c => c = fa) Hs H3 := h2.trans R3.keep
      have hw := h8 ws[d] (List.getElem_mem hd')
      have hix : ∀ {σ : L2.St} {H' : Hp}, σ[3]? = some (some (.ref p)) → σ[5]? = some (some (.int (d : Int))) → H' p = some (.lst (ws.map T)) → Ev (tOp (L2.rIxL K) (tVar 3) (tVar 5)) σ H' (T ws[d]) := fun h0 h1 hh => ev_op (ev_var h0) (ev_var h1) (rv_ixL (sq_of hh) (atI_nat (by rw [List.getElem?_map, List.getElem?_eq_getElem hd']; rfl)))
      refine s_when (σ := [some (.ref fa), some (T sg), some (.int (turns : Int)), some (.ref p), some (.int (i : Int)), some (.int (d : Int)), none]) (et_and (et_test (ev_op (ev_op (hlen rfl h53) (ev_cb (ea_cons (ev_var rfl) ea_nil) (rc_lenT (by omega))) rv_I0) ev_c rv_I0)) fun _ => et_test (ev_op (ev_cb (ea_cons (hix rfl rfl h53) ea_nil) (rc_lenT (by omega))) ev_c rv_I0)) (fun hb H4 e4 => ?_) (fun hb H4 e4 => ?_)
      · rw [Bool.and_eq_true, decide_eq_true_eq, decide_eq_true_eq] at hb
        have h54 := e4 _ _ h53
        have hcat : EvL (tOp rCat (tOp rCat (tSl (rSlL K) (tVar 3) tNoPart (tPart (tVar 5))) (tSl (rSlL K) (tVar 3) (tPart (tOp (rI0 fun i j => .int (i + j)) (tVar 5) (tC (.int 1)))) tNoPart)) (tLc (iStr (tVar 1)) (gName 6) tYes (tOp rAddT (tOp (L2.rIxL K) (tVar 3) (tVar 5)) (tVar 6)) [6])) [some (.ref fa), some (T sg), some (.int (turns : Int)), some (.ref p), some (.int (i : Int)), some (.int (d : Int)), none] H4 ((ws.take d ++ ws.drop (d + 1) ++ sg.map fun c => ws[d] ++ [c]).map T) := by
          have l1 : EvL (tSl (rSlL K) (tVar 3) tNoPart (tPart (tVar 5))) [some (.ref fa), some (T sg), some (.int (turns : Int)), some (.ref p), some (.int (i : Int)), some (.int (d : Int)), none] H4 ((ws.take d).map T) := by
            have := el_sl (K := K) (σ := [some (.ref fa), some (T sg), some (.int (turns : Int)), some (.ref p), some (.int (i : Int)), some (.int (d : Int)), none]) (H := H4) (te := tVar 3) (ev_var rfl) eo_none (eo_some (te := tVar 5) (i := (d : Int)) (ev_var rfl)) (sq_of h54)
            rw [cutV_to, ← List.map_take] at this
            exact this
          have l2 : EvL (tSl (rSlL K) (tVar 3) (tPart (tOp (rI0 fun i j => .int (i + j)) (tVar 5) (tC (.int 1)))) tNoPart) [some (.ref fa), some (T sg), some (.int (turns : Int)), some (.ref p), some (.int (i : Int)), some (.int (d : Int)), none] H4 ((ws.drop (d + 1)).map T) := by
            have := el_sl (K := K) (σ := [some (.ref fa), some (T sg), some (.int (turns : Int)), some (.ref p), some (.int (i : Int)), some (.int (d : Int)), none]) (H := H4) (te := tVar 3) (ev_var rfl) (eo_some (te := tOp (rI0 fun i j => .int (i + j)) (tVar 5) (tC (.int 1))) (i := ((d + 1 : Nat) : Int)) (ev_op (ev_var rfl) ev_c rv_I0)) eo_none (sq_of h54)
            rw [cutV_from, ← List.map_drop] at this
            exact this
          have l3 : EvL (tLc (iStr (tVar 1)) (gName 6) tYes (tOp rAddT (tOp (L2.rIxL K) (tVar 3) (tVar 5)) (tVar 6)) [6]) [some (.ref fa), some (T sg), some (.int (turns : Int)), some (.ref p), some (.int (i : Int)), some (.int (d : Int)), none] H4 (sg.map fun c => T (ws[d] ++ [c])) := el_lcM (j := 6) (vs := [6]) (f := fun c => T [c]) sg (src_str (ev_var rfl)) (by omega) (fun _ => rfl) fun c H5 e5 hc => ev_op (hix rfl rfl (e5 _ _ h54)) (ev_var rfl) (rv_addT (by show _ + 1 ≤ _; omega))
          have := el_catNN (el_catNN l1 l2 (by simp; omega)) l3 (by simp; omega)
          rw [List.map_append, List.map_append, List.map_map]
          exact this
        refine s_asgL hcat fun q H5 hq e5 h5' => ?_
        refine ⟨q, _, _, _, rfl, hex.then (e4.trans e5), (h33.then e4).then e5, ?_, h5', ?_, ?_, ?_⟩
        · exact (h33.then e4).free G.is hq ((G.go (h33.then e4) (m' := 0) (by omega)).is)
        · intro z
          have := congrArg List.length z
          simp at this
          exact hs0 this.2.2
        · simp
          omega
        · refine Wd.app (Wd.app (h8.sub fun t ht => List.mem_of_mem_take ht) (h8.sub fun t ht => List.mem_of_mem_drop ht)) fun t ht => ?_
          obtain ⟨c, hc, rfl⟩ := List.mem_map.mp ht
          refine ⟨by rw [List.length_append]; show _ + 1 ≤ 12; omega, fun c' hc' => ?_⟩
          rcases List.mem_append.mp hc' with z | z
          · exact hw.2 c' z
          · rw [List.mem_singleton.mp z]
            exact hsc c hc
      · exact ⟨p, ws, _, _, rfl, hex.then e4, h33.then e4, h4, e4 _ _ h53, h6, h7, h8⟩
    · rintro Hs σ' H' e ⟨p, ws, v4, v5, rfl, h2, h3, h4, h5, h6, h7, h8⟩
      exact s_ret (ev_var rfl) fun H3 e3 => k p ws H3 h6 h7 h8 h4 (h3.then e3) (e3 _ _ h5)
theorem ok__law_joined {f : Addr} {fd : FuncData} (F : Fun K "_law_joined" "_law_joined" st__law_joined f fd) (M : Md K mg) (C__law_draw : Cal P w K mg base "_law_draw" st__law_draw 1 ["feed", "many"] sp_draw) (C__law_one : Cal P w K mg base "_law_one" st__law_one 2 ["feed", "things"] (sp_one K)) : FnOk P w K mg base CX0 3 f fd ["feed", "words", "turns"] sp_joined := by
  have nd := sc__law_joined.nd
  refine F.ok sc__law_joined (fun vs H Q E h => ?_) (fun cdv A outer s H vs Q E hr h => ?_)
  · obtain ⟨_, _, _, _, rfl, _⟩ := h
    rfl
  · obtain ⟨fa, p0, ws0, turns, rfl, hp0, np0, G, ht, hne0, hl0, hw0, k⟩ := h
    refine ⟨_, (pss_cons (ps_for PassesOwn.never rfl (pi_range1 (by rfl) M.n_range (pa_cons (pv 2) pa_nil)) (pg_name (i := 3) nd rfl (Or.inl rfl))
  (pss_cons (ps_asg (pe_tup (pa_cons (pe_cl C__law_one hr (pa_cons (pv 0) (pa_cons (pv 1) pa_nil))) (pa_cons (pe_cl C__law_one hr (pa_cons (pv 0) (pa_cons (pv 1) pa_nil))) pa_nil))) (kgt K (n := 2) (pg_tup rfl (pgs_cons (pg_name (i := 4) nd rfl (Or.inr rfl)) (pgs_cons (pg_name (i := 5) nd rfl (Or.inl rfl)) pgs_nil)))))
  (pss_cons (ps_set (i := 6) nd rfl (Or.inl rfl) (pe_cl C__law_draw hr (pa_cons (pv 0) (pa_cons pe_int pa_nil))))
  (pss_one (ps_if (pt_cmpR op_eqI (pv 6) pe_int (nomark _))
  (pss_one (ps_set (i := 1) nd rfl (Or.inl rfl) (pe_op op_cat (pv 1) (pe_lst (pa_cons (pe_op op_addT (pv 4) (pv 5)) pa_nil)))))
  (pss_one (ps_if (pt_cmpR op_eqI (pv 6) pe_int (nomark _))
  (pss_one (ps_set (i := 1) nd rfl (Or.inl rfl) (pe_op op_cat (pe_lc (own := [("word", 7)]) rfl nd (kil K (pi_list (pv 1))) (blkOk_by (N := N__law_joined) (sc := defScope st__law_joined) (by decide +kernel)) (fun _ _ _ _ _ => (pg_name (i := 7) nd rfl (Or.inl rfl))) (fun _ _ _ _ _ => (pts_one (pt_cmpR op_neT (pv 7) (pv 4) (nomark _)))) (fun _ _ _ _ _ => (pv 7))) (pe_lst (pa_cons (pe_op op_addT (pv 4) (pv 5)) pa_nil)))))
  (pss_one (ps_if (pt_cmpR op_lt (pe_callB (kcr K (r := rLenS) call_len_seq) (by rfl) M.n_len boot_len (pa_cons (pv 1) pa_nil)) pe_int (nomark _))
  (pss_one (ps_set (i := 1) nd rfl (Or.inl rfl) (pe_op op_cat (pe_lc (own := [("word", 7)]) rfl nd (kil K (pi_list (pv 1))) (blkOk_by (N := N__law_joined) (sc := defScope st__law_joined) (by decide +kernel)) (fun _ _ _ _ _ => (pg_name (i := 7) nd rfl (Or.inl rfl))) (fun _ _ _ _ _ => (pts_one (pt_cmpR op_neT (pv 7) (pv 4) (nomark _)))) (fun _ _ _ _ _ => (pv 7))) (pe_lc (own := [("word", 7)]) rfl nd (kil K (pi_list (pv 1))) (blkOk_by (N := N__law_joined) (sc := defScope st__law_joined) (by decide +kernel)) (fun _ _ _ _ _ => (pg_name (i := 7) nd rfl (Or.inl rfl))) (fun _ _ _ _ _ => pts_nil) (fun _ _ _ _ _ => (pe_op op_addT (pv 4) (pv 7)))))))
  pss_nil)))))))))
  (pss_one (ps_ret (pv 1)))), ?_⟩
    refine q_forW (fun c => c = fa) (src_range1 (n := turns) (ea_cons (ev_var rfl) ea_nil) (by omega)) ?_
      (fun Hs i σ' H' => ∃ (p : Addr) (ws : List Tx) (v3 v4 v5 v6 : Option V), σ' = [some (.ref fa), some (.ref p), some (.int (turns : Int)), v3, v4, v5, v6, none] ∧ Exc (fun c => c = fa) Hs H' ∧ Rf fa (3 * i) H H' ∧ p ≠ fa ∧ H' p = some (.lst (ws.map T)) ∧ ws ≠ [] ∧ ws.length ≤ 13 + i ∧ Wd (12 * 2 ^ i) ws) ?_ ?_ ?_ ?_ ?_
    · rintro c rfl
      exact ⟨G.is, fun z => z⟩
    · intro Hs e
      exact ⟨p0, ws0, none, none, none, none, rfl, Exc.refl _, Rf.of_ex e, np0, e _ _ hp0, hne0, hl0, hw0⟩
    · rintro Hs i σ' H' ⟨_, _, _, _, _, _, _, h, _⟩
      exact h
    · rintro Hs i σ' Ha Hb ⟨p, ws, v3, v4, v5, v6, h0, h2, h3, h4, h5, h6⟩ e
      exact ⟨p, ws, v3, v4, v5, v6, h0, h2.then e, h3.then e, h4, e _ _ h5, h6⟩
    · rintro Hs i x σ' H' e hi ⟨p, ws, v3, v4, v5, v6, rfl, h2, h3, np, h5, h6, h7, h8⟩ rfl
      have hpw : (2 : Nat) ^ i ≤ 1024 := Nat.le_trans (Nat.pow_le_pow_right (by decide) (show i ≤ 10 by omega)) (by decide)
      have hpe : (2 : Nat) ^ (i + 1) = 2 ^ i * 2 := Nat.pow_succ ..
      have hpp : 1 ≤ (2 : Nat) ^ i := Nat.pow_pos (by decide)
      have hxs : ws.map T ≠ [] := fun z => h6 (List.map_eq_nil_iff.mp z)
      have G1 : GF fa 3 H' := G.go h3 (by omega)
      show tSeq _ _ _ [some (.ref fa), some (.ref p), some (.int (turns : Int)), some (.int (i : Int)), v4, v5, v6, none] H'
      refine wp_oneS (xs := ws.map T) rfl (ev_var rfl) (.inl (sq_of h5)) np G1 hxs (by rw [List.length_map]; omega) fun x1 Ha hx1 Ra => wp_oneS (xs := ws.map T) rfl (ev_var rfl) (.inl (sq_of (Ra.at_ h5 np))) np (G1.go Ra (m' := 2) (by omega)) hxs (by rw [List.length_map]; omega) fun x2 Hb hx2 Rb => ⟨by show 2 ≤ sizeLine; decide, fun pt hpt => ⟨pt, _, rfl, st_of upd_same, rfl, x1, [x2], rfl, x2, [], rfl, rfl, ?_⟩⟩
      obtain ⟨a, ha, rfl⟩ := List.mem_map.mp hx1
      obtain ⟨b, hb, rfl⟩ := List.mem_map.mp hx2
      have R2 : Rf fa 2 H' (upd Hb pt (.tup [T a, T b])) := (Ra.trans Rb).then (Ex.new hpt)
      generalize upd Hb pt (.tup [T a, T b]) = H2 at R2 ⊢
      have h52 := R2.at_ h5 np
      show tSeq _ _ _ [some (.ref fa), some (.ref p), some (.int (turns : Int)), some (.int (i : Int)), some (T a), some (T b), v6, none] H2
      refine wp_draw (many := 3) rfl ev_c (G1.go R2 (m' := 1) (by omega)) (by decide) (by decide) fun d H3 hd R3 => ?_
      have h53 := R3.at_ h52 np
      have RR : Rf fa (3 * (i + 1)) H H3 := ((h3.trans R2).trans R3).mono (by omega)
      have XX : Exc (fun c => c = fa) Hs H3 := (h2.trans R2.keep).trans R3.keep
      clear R2 R3 Ra Rb hpt
      have wa := h8 a ha
      have wb := h8 b hb
      have hup : Wd (12 * 2 ^ (i + 1)) ws := h8.mono (by omega)
      have hab : Wd (12 * 2 ^ (i + 1)) [a ++ b] := fun t ht => by
        rw [List.mem_singleton.mp ht]
        exact ⟨by rw [List.length_append]; omega, fun c hc => by
          rcases List.mem_append.mp hc with z | z
          · exact wa.2 c z
          · exact wb.2 c z⟩
      have ab : ∀ {H' : Hp}, EvL (tLst (tCons (tOp rAddT (tVar 4) (tVar 5)) tNil)) [some (.ref fa), some (.ref p), some (.int (turns : Int)), some (.int (i : Int)), some (T a), some (T b), some (.int (d : Int)), none] H' ([a ++ b].map T) := el_lst (ea_cons (ev_op (ev_var rfl) (ev_var rfl) (rv_addT (by omega))) ea_nil) (by show 1 ≤ 100000; decide)
      have but : ∀ {H' : Hp}, H' p = some (.lst (ws.map T)) → EvL (tLc (iList K (tVar 1)) (gName 7) (tTest (tOp rNeT (tVar 7) (tVar 4))) (tVar 7) [7]) [some (.ref fa), some (.ref p), some (.int (turns : Int)), some (.int (i : Int)), some (T a), some (T b), some (.int (d : Int)), none] H' ((ws.filter fun t => !decide (t = a)).map T) := fun hh => el_lcF (j := 7) (vs := [7]) (f := T) (g := T) ws (src_listM (ev_var rfl) (sq_of hh)) (by omega) (fun _ => rfl) (fun t H1 e1 _ => et_test (ev_op (ev_var rfl) (ev_var rfl) rv_neT)) (fun t H1 e1 _ _ => ev_var rfl)
      have hfl := List.length_filter_le (fun t : Tx => !decide (t = a)) ws
      -- a new list of words
      have put : ∀ (vs : List Tx) q H5, Ex H3 H5 → H3 q = none → H5 q = some (.lst (vs.map T)) → vs ≠ [] → vs.length ≤ 13 + (i + 1) → Wd (12 * 2 ^ (i + 1)) vs → ∃ (p' : Addr) (ws' : List Tx) (v3 v4 v5 v6 : Option V), [some (V.ref fa), some (.ref q), some (.int (turns : Int)), some (.int (i : Int)), some (T a), some (T b), some (.int (d : Int)), none] = [some (.ref fa), some (.ref p'), some (.int (turns : Int)), v3, v4, v5, v6, none] ∧ Exc (fun c => c = fa) Hs H5 ∧ Rf fa (3 * (i + 1)) H H5 ∧ p' ≠ fa ∧ H5 p' = some (.lst (ws'.map T)) ∧ ws' ≠ [] ∧ ws'.length ≤ 13 + (i + 1) ∧ Wd (12 * 2 ^ (i + 1)) ws' := fun vs q H5 e5 hq h5' y1 y2 y3 => ⟨q, vs, _, _, _, _, rfl, XX.then e5, RR.then e5, (G.go RR (m' := 0) (by omega)).new hq, h5', y1, y2, y3⟩
      refine s_if (σ := [some (.ref fa), some (.ref p), some (.int (turns : Int)), some (.int (i : Int)), some (T a), some (T b), some (.int (d : Int)), none]) (et_test (ev_op (ev_var rfl) ev_c rv_I0)) (fun hb1 H4 e4 => ?_) (fun hb1 H4 e4 => ?_)
      · have hc := el_catVN (ta := tVar 1) (ev_var (σ := [some (.ref fa), some (.ref p), some (.int (turns : Int)), some (.int (i : Int)), some (T a), some (T b), some (.int (d : Int)), none]) rfl) (e4 _ _ h53) ab (by simp; omega)
        rw [← List.map_append] at hc
        exact s_asgL hc fun q H5 hq e5 h5' => put (ws ++ [a ++ b]) q H5 (e4.trans e5) (fresh_back e4 hq) h5' (by simp) (by simp; omega) (hup.app hab)
      · refine s_if (et_test (ev_op (ev_var rfl) ev_c rv_I0)) (fun hb2 H5 e5 => ?_) (fun hb2 H5 e5 => ?_)
        · have hc := el_catNN (but (e5 _ _ (e4 _ _ h53))) ab (by simp; omega)
          rw [← List.map_append] at hc
          exact s_asgL hc fun q H6 hq e6 h6' => put (ws.filter (fun t => !decide (t = a)) ++ [a ++ b]) q H6 ((e4.trans e5).trans e6) (fresh_back (e4.trans e5) hq) h6' (by simp) (by simp; omega) ((hup.sub fun t ht => (List.mem_filter.mp ht).1).app hab)
        · have h55 := e5 _ _ (e4 _ _ h53)
          refine s_when (et_test (ev_op (ev_len (ev_var rfl) (sq_of h55)) ev_c rv_I0)) (fun hb3 H6 e6 => ?_) (fun hb3 H6 e6 => ?_)
          · have h56 := e6 _ _ h55
            rw [decide_eq_true_eq, List.length_map] at hb3
            have l2 : EvL (tLc (iList K (tVar 1)) (gName 7) tYes (tOp rAddT (tVar 4) (tVar 7)) [7]) [some (.ref fa), some (.ref p), some (.int (turns : Int)), some (.int (i : Int)), some (T a), some (T b), some (.int (d : Int)), none] H6 (ws.map fun t => T (a ++ t)) := el_lcM (j := 7) (vs := [7]) (f := T) ws (src_listM (ev_var rfl) (sq_of h56)) (by omega) (fun _ => rfl) fun t H1 e1 ht => ev_op (ev_var rfl) (ev_var rfl) (rv_addT (by have := (h8 t ht).1; omega))
            have hc := el_catNN (but h56) l2 (by simp; omega)
            have em : ws.map (fun t => T (a ++ t)) = (ws.map fun t => a ++ t).map T := by rw [List.map_map]; rfl
            rw [em, ← List.map_append] at hc
            refine s_asgL hc fun q H7 hq e7 h7' => put _ q H7 (((e4.trans e5).trans e6).trans e7) (fresh_back ((e4.trans e5).trans e6) hq) h7' (fun z => ?_) (by simp; omega) ((hup.sub fun t ht => (List.mem_filter.mp ht).1).app fun t ht => ?_)
            · have := (List.append_eq_nil_iff.mp z).2
              exact h6 (List.map_eq_nil_iff.mp this)
            · obtain ⟨y, hy, rfl⟩ := List.mem_map.mp ht
              have wy := h8 y hy
              exact ⟨by rw [List.length_append]; omega, fun c hc => by
                rcases List.mem_append.mp hc with z | z
                · exact wa.2 c z
                · exact wy.2 c z⟩
          · have h56 := e6 _ _ h55
            exact ⟨p, ws, _, _, _, _, rfl, XX.then ((e4.trans e5).trans e6), RR.then ((e4.trans e5).trans e6), np, h56, h6, by omega, hup⟩
    · rintro Hs σ' H' e ⟨p, ws, v3, v4, v5, v6, rfl, h2, h3, np, h5, h6, h7, h8⟩
      have hpw : (2 : Nat) ^ turns ≤ 1024 := Nat.le_trans (Nat.pow_le_pow_right (by decide) ht) (by decide)
      exact s_ret (ev_var rfl) fun H3 e3 => k p ws H3 h6 (by omega) (h8.mono (by omega)) np (h3.then e3) (e3 _ _ h5)
theorem flat_mem {ts : List Tx} {c : Nat} (h : c ∈ ts.flatten) : ∃ t ∈ ts, c ∈ t := List.mem_flatten.mp h
theorem ok__law_made {f : Addr} {fd : FuncData} (F : Fun K "_law_made" "_law_made" st__law_made f fd) (M : Md K mg) : FnOk P w K mg base CX0 1 f fd ["feed", "code", "words"] (sp_made K) := by
  have nd := sc__law_made.nd
  refine F.ok sc__law_made (fun vs H Q E h => ?_) (fun cdv A outer s H vs Q E hr h => ?_)
  · obtain ⟨_, _, _, _, _, rfl, _⟩ := h
    rfl
  · obtain ⟨fa, pc, pw, cs, ws, rfl, G, hc, hp, nc, np, hcl, hcw, hne, hwl, hww, k⟩ := h
    refine ⟨_, (pss_cons (ps_set (i := 3) nd rfl (Or.inl rfl) (pe_lst pa_nil))
  (pss_cons (ps_for PassesOwn.never rfl (kil K (pi_list (pv 1))) (pg_name (i := 4) nd rfl (Or.inl rfl))
  (pss_one (ps_expr (kbm K (pe_bm PySem.F.plainAttrs_list PySem.F.slot_list_append PySem.F.type_list_append mt_append (pv 3) (pa_cons (kbm K (pe_bm PySem.F.plainAttrs_str PySem.F.slot_str_join PySem.F.type_str_join (kmt K (r := rJoinT) mt_joinT) (pe_sT []) (pa_cons (pe_lc (own := [("sign", 5)]) rfl nd (pi_str (pv 4)) (blkOk_by (N := N__law_made) (sc := defScope st__law_made) (by decide +kernel)) (fun _ _ _ _ _ => (pg_name (i := 5) nd rfl (Or.inl rfl))) (fun _ _ _ _ _ => pts_nil) (fun _ _ _ _ _ => (pe_ix (kix K (r := L2.rIxL) ix_list) (pv 2) (pe_op op_modP (pe_callTy call_int1 (by rfl) M.n_int boot_int (pa_cons (kbm K (pe_bm PySem.F.plainAttrs_str PySem.F.slot_str_find PySem.F.type_str_find mt_findT (pe_sT [97, 98, 99, 100]) (pa_cons (pv 5) pa_nil))) pa_nil)) (pe_callB (kcr K (r := rLenS) call_len_seq) (by rfl) M.n_len boot_len (pa_cons (pv 2) pa_nil))) (fun _ _ => rfl)))) pa_nil))) pa_nil))))))
  (pss_one (ps_ret (pv 3))))), ?_⟩
    have hpos : 0 < ws.length := List.length_pos_iff.mpr hne
    refine q_asgL (xs := []) (el_lst ea_nil (by decide)) fun pm H1 hpm e1 h1 => ?_
    have nm : pm ≠ fa := G.new hpm
    show tSeq _ _ _ [some (.ref fa), some (.ref pc), some (.ref pw), some (.ref pm), none, none] H1
    have nmc : pm ≠ pc := fun z => by rw [z, hc] at hpm; cases hpm
    refine q_forW (fun c => c = fa ∨ c = pm) (own := fun b => b = pc) (n := cs.length) (P := fun i v _ => (cs.map T)[i]? = some v) (src_listM (ev_var rfl) (sq_of (e1 _ _ hc))) ?_
      (fun Hs i σ' H' => ∃ (vs : List Tx) (v4 v5 : Option V), σ' = [some (.ref fa), some (.ref pc), some (.ref pw), some (.ref pm), v4, none] ∧ Exc (fun c => c = fa ∨ c = pm) Hs H' ∧ Rf fa 0 H H' ∧ H' pm = some (.lst (vs.map T)) ∧ vs.length = i ∧ Wd 100000 vs) ?_ ?_ ?_ ?_ ?_
    · rintro c (rfl | rfl)
      · exact ⟨(G.ex e1).is, fun z => nc z.symm⟩
      · exact ⟨by rw [h1]; exact fun z => (nomatch z), nmc⟩
    · intro Hs e
      exact ⟨[], none, none, rfl, Exc.refl _, Rf.of_ex (e1.trans e), e _ _ h1, rfl, fun t ht => nomatch ht⟩
    · rintro Hs i σ' H' ⟨_, _, _, _, h, _⟩
      exact h
    · rintro Hs i σ' Ha Hb ⟨vs, v4, v5, h0, h2, h3, h4, h5⟩ e
      exact ⟨vs, v4, v5, h0, h2.then e, h3.then e, e _ _ h4, h5⟩
    · rintro Hs i x σ' H' e hi ⟨vs, v4, v5, rfl, h2, h3, h4, h5, h6⟩ hx
      obtain ⟨cd, hcd, rfl⟩ := at_map hx
      have hm := hcw cd (List.mem_of_getElem? hcd)
      have G1 : GF fa 0 H' := G.go h3 (by omega)
      have hpw : SqL K H' pw (ws.map T) := h3.l np hp
      show tDrop _ _ [some (.ref fa), some (.ref pc), some (.ref pw), some (.ref pm), some (T cd), none] H'
      refine ⟨.ref pm, rfl, .inl ⟨rfl, vs.map T, sq_of h4⟩, rfl, ?_⟩
      refine lcD (fa := fa) (own := fun _ => False) (n := cd.length) (P := fun i v _ => (cd.map fun c => T [c])[i]? = some v) (fun v => ∃ t, v = T t ∧ (t.length ≤ 1000 ∧ ∀ c ∈ t, abcd c)) 0 G1.is (src_str (ev_var rfl)) (fun z => z) (by omega) (fun _ => rfl) (fun j y H2 hj hy R2 Q2 q2 => ?_) fun p H2 acc hp2 R2 h2' hal hg => ?_
      · obtain ⟨c, hc', rfl⟩ := at_map hy
        have hpw2 := R2.l np hpw
        refine ⟨.ref pw, rfl, rfl, T [c], rfl, _, _, rfl, rfl, fun r hr => .inl ⟨r, rfl, ?_⟩⟩
        refine (ev_len (ev_var rfl) hpw2 : Ev (tCB (rLenS K) (tCons (tVar 2) tNil)) _ H2 _) H2 (Ex.refl _) _ fun H3 e3 => ?_
        rw [List.length_map]
        have h0 : 0 ≤ r % (ws.length : Int) := Int.emod_nonneg _ (by omega)
        have h1 : r % (ws.length : Int) < (ws.length : Int) := Int.emod_lt_of_pos _ (by omega)
        obtain ⟨m, hm'⟩ := Int.eq_ofNat_of_zero_le h0
        have hml : m < ws.length := by omega
        refine ⟨r, _, rfl, rfl, by show (0 : Int) < _; omega, pw, _, _, T ws[m], rfl, rfl, ex_l e3 hpw2, ?_, q2 _ H3 ⟨_, rfl, hww _ (List.getElem_mem hml)⟩ (Rf.of_ex e3)⟩
        rw [hm']
        exact atI_nat (by rw [List.getElem?_map, List.getElem?_eq_getElem hml]; rfl)
      · obtain ⟨ts, rfl, hts⟩ := texts_of hg
        rw [List.length_map] at hal
        have hsum := sum_le (m := 1000) fun t ht => (hts t ht).1
        have hfl : ts.flatten.length ≤ 10000 := by rw [flat_len]; omega
        have h42 := R2.at_ h4 nm
        refine ⟨[], p, ts, rfl, rfl, .inl (sq_of h2'), by simp; omega, ?_⟩
        rw [joinL_nil]
        refine ⟨pm, vs.map T, T ts.flatten, rfl, rfl, h42, sz_lt (by rw [List.length_map]; omega), ?_⟩
        refine ⟨vs ++ [ts.flatten], _, none, rfl, ?_, ((h3.trans R2).upd hpm G.is).mono (by omega), by rw [upd_same, List.map_append]; rfl, by simp [h5], h6.app fun t ht => ?_⟩
        · exact (h2.trans (fun b o nb hb => R2.keep b o (fun z => nb (.inl z)) hb)).upd (.inl (.inr rfl))
        · rw [List.mem_singleton.mp ht]
          refine ⟨by omega, fun c hc' => ?_⟩
          obtain ⟨t, ht, hct⟩ := flat_mem hc'
          exact (hts t ht).2 c hct
    · rintro Hs σ' H' e ⟨vs, v4, v5, rfl, h2, h3, h4, h5, h6⟩
      exact s_ret (ev_var rfl) fun H3 e3 => k pm vs H3 (by omega) h6 hpm (h3.then e3) (e3 _ _ h4)
end
end K04
set_option Elab.async false
set_option linter.all false
set_option maxRecDepth 100000
set_option maxHeartbeats 2000000
namespace K04
open PySem PySem.Spec PyProof.Rows L2 Evl Wc Wt
/-- a displayed list of texts that is good -/
def goodT (v : V) : Bool := match v with
  | .str x => decide (x.cps.toList.length ≤ 5) && x.cps.toList.all fun c => decide (97 ≤ c) && decide (c ≤ 100)
  | _ => false
def goodL (xs : List V) : Bool := decide (1 ≤ xs.length) && decide (xs.length ≤ 6) && xs.all goodT
theorem goodL_is {xs : List V} (h : goodL xs = true) : ∃ ts : List Tx, xs = ts.map T ∧ ts ≠ [] ∧ ts.length ≤ 6 ∧ Wd 5 ts := by
  unfold goodL at h
  rw [Bool.and_eq_true, Bool.and_eq_true, decide_eq_true_eq, decide_eq_true_eq, List.all_eq_true] at h
  obtain ⟨⟨h1, h2⟩, h3⟩ := h
  obtain ⟨ts, rfl, ht⟩ := texts_of (acc := xs) (g := fun t => t.length ≤ 5 ∧ ∀ c ∈ t, abcd c) fun v hv => by
    have hg := h3 v hv
    cases v with
    | str x =>
      have hg' : (decide (x.cps.toList.length ≤ 5) && x.cps.toList.all fun c => decide (97 ≤ c) && decide (c ≤ 100)) = true := hg
      rw [Bool.and_eq_true, decide_eq_true_eq, List.all_eq_true] at hg'
      refine ⟨x.cps.toList, rfl, hg'.1, fun c hc => ?_⟩
      have := hg'.2 c hc
      rw [Bool.and_eq_true, decide_eq_true_eq, decide_eq_true_eq] at this
      exact this
    | _ => exact absurd hg (by simp [goodT])
  rw [List.length_map] at h1 h2
  exact ⟨ts, rfl, fun z => by rw [z] at h1; simp at h1, h2, ht⟩
/-- references to new lists of texts -/
def ListsAt (xs : List V) (H0 H : Hp) : Prop := ∀ v ∈ xs, ∃ (q : Addr) (ts : List Tx), v = .ref q ∧ H q = some (.lst (ts.map T)) ∧ (ts ≠ [] ∧ ts.length ≤ 6 ∧ Wd 5 ts) ∧ H0 q = none
def LA (ta : TA) (σ : L2.St) (n : Nat) : Prop := ∀ H (Q : List V → Hp → Prop), (∀ xs H1, Ex H H1 → xs.length = n → ListsAt xs H H1 → Q xs H1) → ta σ H Q
theorem la_nil {σ : L2.St} : LA tNil σ 0 := fun H Q q => q [] H (Ex.refl _) rfl fun v hv => nomatch hv
theorem la_cons {σ : L2.St} {te : TE} {tr : TA} {xs : List V} {n : Nat} (h : ∀ H, EvL te σ H xs) (hg : goodL xs = true) (hr : LA tr σ n) : LA (tCons te tr) σ (n + 1) := fun H Q q =>
  h H H (Ex.refl _) _ fun p H1 hp e1 h1 => hr H1 _ fun vs H2 e2 hl hA => q _ H2 (e1.trans e2) (by rw [List.length_cons, hl]) fun v hv => by
    rcases List.mem_cons.mp hv with rfl | hv
    · obtain ⟨ts, rfl, hts⟩ := goodL_is hg
      exact ⟨p, ts, rfl, e2 _ _ h1, hts, hp⟩
    · obtain ⟨r, ts, rfl, h3, h4, h5⟩ := hA v hv
      exact ⟨r, ts, rfl, h3, h4, fresh_back e1 h5⟩
theorem LA.lst {σ : L2.St} {ta : TA} {n : Nat} (h : LA ta σ n) (hn : n ≤ 1000) {H : Hp} (Q : VK) (k : ∀ p xs H1, Ex H H1 → xs.length = n → H p = none → H1 p = some (.lst xs) → ListsAt xs H H1 → Q (.ref p) H1) : tLst ta σ H Q :=
  h H _ fun xs H1 e1 hl A => ⟨by rw [hl]; exact sz_of (by omega), fun p hp => k p xs _ (e1.trans (Ex.new hp)) hl (fresh_back e1 hp) upd_same fun v hv => by
    obtain ⟨r, ts, rfl, h3, h4, h5⟩ := A v hv
    exact ⟨r, ts, rfl, Ex.new hp _ _ h3, h4, h5⟩⟩
theorem LA.cat {σ : L2.St} {ta : TA} {n j : Nat} {p : Addr} {xs : List V} (h : LA ta σ n) (hn : n ≤ 1000) (hx : xs.length ≤ 1000) {H : Hp} (h0 : σ[j]? = some (some (.ref p))) (hp : H p = some (.lst xs)) (Q : VK) (k : ∀ q ys H1, Ex H H1 → ys.length = n → H q = none → H1 q = some (.lst (xs ++ ys)) → ListsAt ys H H1 → Q (.ref q) H1) : tOp rCat (tVar j) (tLst ta) σ H Q :=
  ⟨.ref p, h0, h.lst hn _ fun r ys H1 e1 hl hr h1 A => ⟨p, r, xs, ys, rfl, rfl, e1 _ _ hp, h1, by rw [hl]; exact sz_of (by omega), fun q hq => k q ys _ (e1.trans (Ex.new hq)) hl (fresh_back e1 hq) upd_same fun v hv => by
    obtain ⟨r, ts, rfl, h3, h4, h5⟩ := A v hv
    exact ⟨r, ts, rfl, Ex.new hq _ _ h3, h4, h5⟩⟩⟩
theorem ListsAt.go {xs : List V} {H0 H H1 : Hp} (A : ListsAt xs H0 H) (e : Ex H H1) : ListsAt xs H0 H1 := fun v hv => by
  obtain ⟨r, ts, rfl, h3, h4, h5⟩ := A v hv
  exact ⟨r, ts, rfl, e _ _ h3, h4, h5⟩
theorem ListsAt.back {xs : List V} {H0 H1 H : Hp} (A : ListsAt xs H1 H) (e : Ex H0 H1) : ListsAt xs H0 H := fun v hv => by
  obtain ⟨r, ts, rfl, h3, h4, h5⟩ := A v hv
  exact ⟨r, ts, rfl, h3, h4, fresh_back e h5⟩
theorem ListsAt.app {xs ys : List V} {H0 H : Hp} (A : ListsAt xs H0 H) (B : ListsAt ys H0 H) : ListsAt (xs ++ ys) H0 H := fun v hv => (List.mem_append.mp hv).elim (A v) (B v)
theorem q_LA {σ : L2.St} {ta : TA} {n i : Nat} {tz : TS} {D : Ends} {H : Hp} (h : LA ta σ n) (hn : n ≤ 1000) (k : ∀ p xs H1, Ex H H1 → xs.length = n → H p = none → H1 p = some (.lst xs) → ListsAt xs H H1 → tz D (σ.set i (some (.ref p))) H1) : tSeq (tAsg (tLst ta) (gName i)) tz D σ H := h.lst hn (fun v H1 => tz D (σ.set i (some v)) H1) k
theorem q_catLA {σ : L2.St} {ta : TA} {n i j : Nat} {tz : TS} {D : Ends} {H : Hp} {p : Addr} {xs : List V} (h : LA ta σ n) (hn : n ≤ 1000) (hx : xs.length ≤ 1000) (h0 : σ[j]? = some (some (.ref p))) (hp : H p = some (.lst xs)) (k : ∀ q ys H1, Ex H H1 → ys.length = n → H q = none → H1 q = some (.lst (xs ++ ys)) → ListsAt ys H H1 → tz D (σ.set i (some (.ref q))) H1) : tSeq (tAsg (tOp rCat (tVar j) (tLst ta)) (gName i)) tz D σ H := h.cat hn hx h0 hp (fun v H1 => tz D (σ.set i (some v)) H1) k
theorem s_oneLA {K : PySem.W.Frag} {σ : L2.St} {ta : TA} {n i j : Nat} {D : Ends} {H : Hp} {p fa : Addr} {xs : List V} (h : LA ta σ n) (hn : n ≤ 1000) (hx : xs.length ≤ 1000) (hx0 : xs ≠ []) (hf : σ[i]? = some (some (.ref fa))) (h0 : σ[j]? = some (some (.ref p))) (hp : H p = some (.lst xs)) (G : GF fa 1 H) (k : ∀ v ys H1 H2, Ex H H1 → ListsAt ys H H1 → v ∈ xs ++ ys → Rf fa 1 H1 H2 → D.rt v H2) :
    tRet (tCall (sp_one K) [] E0 (tCons (tVar i) (tCons (tOp rCat (tVar j) (tLst ta)) tNil))) D σ H :=
  ⟨.ref fa, hf, h.cat hn hx h0 hp _ fun q ys H1 e1 hl hq h1 A => ⟨fa, G.ex e1, .inr ⟨q, xs ++ ys, rfl, .inl (sq_of h1), G.new hq, fun z => hx0 (List.append_eq_nil_iff.mp z).1, by rw [List.length_append, hl]; omega, fun v H2 hv R => k v ys H1 H2 e1 A hv R⟩⟩⟩
section
variable {P : Program} {w : World} {K : PySem.W.Frag} {mg : Str → Option Value} {base : Heap}
def sp_code : Sp := fun vs H Q _ => ∃ (fa : Addr), vs = [.ref fa] ∧ GF fa 1 H ∧ ∀ q ts H', ts ≠ [] → ts.length ≤ 6 → Wd 5 ts → H q = none → Rf fa 1 H H' → H' q = some (.lst (ts.map T)) → Q (.ref q) H'
theorem ok__law_code {f : Addr} {fd : FuncData} (F : Fun K "_law_code" "_law_code" st__law_code f fd) (M : Md K mg) (C__law_one : Cal P w K mg base "_law_one" st__law_one 2 ["feed", "things"] (sp_one K)) : FnOk P w K mg base CX0 3 f fd ["feed"] sp_code := by
  have nd := sc__law_code.nd
  refine F.ok sc__law_code (fun vs H Q E h => ?_) (fun cdv A outer s H vs Q E hr h => ?_)
  · obtain ⟨_, rfl, _⟩ := h
    rfl
  · obtain ⟨fa, rfl, G, k⟩ := h
    refine ⟨_, (pss_cons (ps_set (i := 1) nd rfl (Or.inl rfl) (pe_lst (pa_cons (pe_lst (pa_cons (pe_sT [97]) (pa_cons (pe_sT [97, 98]) (pa_cons (pe_sT [98, 98]) pa_nil)))) (pa_cons (pe_lst (pa_cons (pe_sT [97]) (pa_cons (pe_sT [97, 98]) (pa_cons (pe_sT [98, 97]) pa_nil)))) (pa_cons (pe_lst (pa_cons (pe_sT [97, 97]) (pa_cons (pe_sT [97, 98]) (pa_cons (pe_sT [98]) pa_nil)))) (pa_cons (pe_lst (pa_cons (pe_sT [97]) (pa_cons (pe_sT [98, 97]) (pa_cons (pe_sT [98, 98]) pa_nil)))) (pa_cons (pe_lst (pa_cons (pe_sT [97]) (pa_cons (pe_sT [97, 98, 97]) (pa_cons (pe_sT [98, 98]) pa_nil)))) (pa_cons (pe_lst (pa_cons (pe_sT [97, 98]) (pa_cons (pe_sT [97, 98, 98]) (pa_cons (pe_sT [98, 97, 97]) pa_nil)))) (pa_cons (pe_lst (pa_cons (pe_sT [97, 97]) (pa_cons (pe_sT [98, 97]) (pa_cons (pe_sT [98, 98]) (pa_cons (pe_sT [98, 97, 97]) (pa_cons (pe_sT [98, 98, 97]) pa_nil)))))) pa_nil)))))))))
  (pss_cons (ps_set (i := 1) nd rfl (Or.inl rfl) (pe_op op_cat (pv 1) (pe_lst (pa_cons (pe_lst (pa_cons (pe_sT [97, 98]) (pa_cons (pe_sT [98, 97]) (pa_cons (pe_sT [97, 97, 98]) (pa_cons (pe_sT [98, 98, 97]) (pa_cons (pe_sT [97, 98, 98, 97]) pa_nil)))))) (pa_cons (pe_lst (pa_cons (pe_sT [97]) (pa_cons (pe_sT [97, 97]) pa_nil))) (pa_cons (pe_lst (pa_cons (pe_sT [97, 97]) (pa_cons (pe_sT [97, 97, 97]) pa_nil))) (pa_cons (pe_lst (pa_cons (pe_sT [97, 98, 99]) (pa_cons (pe_sT [98, 99, 97]) (pa_cons (pe_sT [99]) (pa_cons (pe_sT [97, 98]) pa_nil))))) (pa_cons (pe_lst (pa_cons (pe_sT [97]) (pa_cons (pe_sT [99]) (pa_cons (pe_sT [97, 100]) (pa_cons (pe_sT [97, 98, 98]) (pa_cons (pe_sT [98, 97, 100]) (pa_cons (pe_sT [100, 98, 98]) pa_nil))))))) (pa_cons (pe_lst (pa_cons (pe_sT [98]) (pa_cons (pe_sT [97, 98, 98]) (pa_cons (pe_sT [97, 98, 98, 97]) (pa_cons (pe_sT [98, 98, 97]) pa_nil))))) pa_nil)))))))))
  (pss_one (ps_ret (pe_cl C__law_one hr (pa_cons (pv 0) (pa_cons (pe_op op_cat (pv 1) (pe_lst (pa_cons (pe_lst (pa_cons (pe_sT [97, 98]) (pa_cons (pe_sT [97, 97, 98]) (pa_cons (pe_sT [97, 97, 98, 98]) (pa_cons (pe_sT [98, 98, 97, 97]) (pa_cons (pe_sT [97, 98, 97, 98]) pa_nil)))))) (pa_cons (pe_lst (pa_cons (pe_sT [97]) (pa_cons (pe_sT [98]) (pa_cons (pe_sT [99]) (pa_cons (pe_sT [100]) pa_nil))))) (pa_cons (pe_lst (pa_cons (pe_sT [97]) (pa_cons (pe_sT [98]) (pa_cons (pe_sT [97, 98]) pa_nil)))) (pa_cons (pe_lst (pa_cons (pe_sT [97, 98, 97, 98]) (pa_cons (pe_sT [97, 98]) (pa_cons (pe_sT [98, 97]) pa_nil)))) (pa_cons (pe_lst (pa_cons (pe_sT [97, 97, 98]) (pa_cons (pe_sT [97, 98]) (pa_cons (pe_sT [97, 98, 97, 97, 98]) pa_nil)))) pa_nil))))))) pa_nil))))))), ?_⟩
    have l1 : LA _ (start N__law_code [.ref fa]) 7 := (la_cons (fun _ => el_lst (ea_cons (ev_c (v := T [97])) (ea_cons (ev_c (v := T [97, 98])) (ea_cons (ev_c (v := T [98, 98])) ea_nil))) (by show 3 ≤ 100000; decide)) (by rfl) (la_cons (fun _ => el_lst (ea_cons (ev_c (v := T [97])) (ea_cons (ev_c (v := T [97, 98])) (ea_cons (ev_c (v := T [98, 97])) ea_nil))) (by show 3 ≤ 100000; decide)) (by rfl) (la_cons (fun _ => el_lst (ea_cons (ev_c (v := T [97, 97])) (ea_cons (ev_c (v := T [97, 98])) (ea_cons (ev_c (v := T [98])) ea_nil))) (by show 3 ≤ 100000; decide)) (by rfl) (la_cons (fun _ => el_lst (ea_cons (ev_c (v := T [97])) (ea_cons (ev_c (v := T [98, 97])) (ea_cons (ev_c (v := T [98, 98])) ea_nil))) (by show 3 ≤ 100000; decide)) (by rfl) (la_cons (fun _ => el_lst (ea_cons (ev_c (v := T [97])) (ea_cons (ev_c (v := T [97, 98, 97])) (ea_cons (ev_c (v := T [98, 98])) ea_nil))) (by show 3 ≤ 100000; decide)) (by rfl) (la_cons (fun _ => el_lst (ea_cons (ev_c (v := T [97, 98])) (ea_cons (ev_c (v := T [97, 98, 98])) (ea_cons (ev_c (v := T [98, 97, 97])) ea_nil))) (by show 3 ≤ 100000; decide)) (by rfl) (la_cons (fun _ => el_lst (ea_cons (ev_c (v := T [97, 97])) (ea_cons (ev_c (v := T [98, 97])) (ea_cons (ev_c (v := T [98, 98])) (ea_cons (ev_c (v := T [98, 97, 97])) (ea_cons (ev_c (v := T [98, 98, 97])) ea_nil))))) (by show 5 ≤ 100000; decide)) (by rfl) la_nil)))))))
    refine q_LA l1 (by decide) fun p1 xs H1 e1 n1 hp1 h1 A1 => ?_
    show tSeq _ _ _ [some (.ref fa), some (.ref p1)] H1
    have l2 : LA _ [some (.ref fa), some (.ref p1)] 6 := (la_cons (fun _ => el_lst (ea_cons (ev_c (v := T [97, 98])) (ea_cons (ev_c (v := T [98, 97])) (ea_cons (ev_c (v := T [97, 97, 98])) (ea_cons (ev_c (v := T [98, 98, 97])) (ea_cons (ev_c (v := T [97, 98, 98, 97])) ea_nil))))) (by show 5 ≤ 100000; decide)) (by rfl) (la_cons (fun _ => el_lst (ea_cons (ev_c (v := T [97])) (ea_cons (ev_c (v := T [97, 97])) ea_nil)) (by show 2 ≤ 100000; decide)) (by rfl) (la_cons (fun _ => el_lst (ea_cons (ev_c (v := T [97, 97])) (ea_cons (ev_c (v := T [97, 97, 97])) ea_nil)) (by show 2 ≤ 100000; decide)) (by rfl) (la_cons (fun _ => el_lst (ea_cons (ev_c (v := T [97, 98, 99])) (ea_cons (ev_c (v := T [98, 99, 97])) (ea_cons (ev_c (v := T [99])) (ea_cons (ev_c (v := T [97, 98])) ea_nil)))) (by show 4 ≤ 100000; decide)) (by rfl) (la_cons (fun _ => el_lst (ea_cons (ev_c (v := T [97])) (ea_cons (ev_c (v := T [99])) (ea_cons (ev_c (v := T [97, 100])) (ea_cons (ev_c (v := T [97, 98, 98])) (ea_cons (ev_c (v := T [98, 97, 100])) (ea_cons (ev_c (v := T [100, 98, 98])) ea_nil)))))) (by show 6 ≤ 100000; decide)) (by rfl) (la_cons (fun _ => el_lst (ea_cons (ev_c (v := T [98])) (ea_cons (ev_c (v := T [97, 98, 98])) (ea_cons (ev_c (v := T [97, 98, 98, 97])) (ea_cons (ev_c (v := T [98, 98, 97])) ea_nil)))) (by show 4 ≤ 100000; decide)) (by rfl) la_nil))))))
    refine q_catLA l2 (by decide) (by rw [n1]; decide) rfl h1 fun p3 ys H2 e2 n2 hp3 h3 A2 => ?_
    show tRet _ _ [some (.ref fa), some (.ref p3)] H2
    have l3 : LA _ [some (.ref fa), some (.ref p3)] 5 := (la_cons (fun _ => el_lst (ea_cons (ev_c (v := T [97, 98])) (ea_cons (ev_c (v := T [97, 97, 98])) (ea_cons (ev_c (v := T [97, 97, 98, 98])) (ea_cons (ev_c (v := T [98, 98, 97, 97])) (ea_cons (ev_c (v := T [97, 98, 97, 98])) ea_nil))))) (by show 5 ≤ 100000; decide)) (by rfl) (la_cons (fun _ => el_lst (ea_cons (ev_c (v := T [97])) (ea_cons (ev_c (v := T [98])) (ea_cons (ev_c (v := T [99])) (ea_cons (ev_c (v := T [100])) ea_nil)))) (by show 4 ≤ 100000; decide)) (by rfl) (la_cons (fun _ => el_lst (ea_cons (ev_c (v := T [97])) (ea_cons (ev_c (v := T [98])) (ea_cons (ev_c (v := T [97, 98])) ea_nil))) (by show 3 ≤ 100000; decide)) (by rfl) (la_cons (fun _ => el_lst (ea_cons (ev_c (v := T [97, 98, 97, 98])) (ea_cons (ev_c (v := T [97, 98])) (ea_cons (ev_c (v := T [98, 97])) ea_nil))) (by show 3 ≤ 100000; decide)) (by rfl) (la_cons (fun _ => el_lst (ea_cons (ev_c (v := T [97, 97, 98])) (ea_cons (ev_c (v := T [97, 98])) (ea_cons (ev_c (v := T [97, 98, 97, 97, 98])) ea_nil))) (by show 3 ≤ 100000; decide)) (by rfl) la_nil)))))
    have e12 := e1.trans e2
    refine s_oneLA l3 (by decide) (by rw [List.length_append, n1, n2]; decide) (fun z => by have := congrArg List.length z; rw [List.length_append, n1, n2] at this; cases this) rfl rfl h3 (G.ex e12) fun v zs H3 H4 e3 A3 hv R => ?_
    have AA := (((A1.go e2).app (A2.back e1)).go e3).app (A3.back e12)
    obtain ⟨q, ts, rfl, h4, ⟨h5, h6, h7⟩, h8⟩ := AA v hv
    exact k q ts H4 h5 h6 h7 h8 (.pre (e12.trans e3) R) (R.at_ h4 (G.new h8))
end
end K04
set_option Elab.async false
set_option linter.all false
set_option maxRecDepth 100000
set_option maxHeartbeats 4000000
namespace K04
open PySem PySem.Spec PyProof.Rows L2 Evl Wc Wt
section
variable {K : PySem.W.Frag} {fa : Addr} {m : Nat} {H : Hp} {σ : L2.St}
def sp_lot : Sp := fun vs H Q _ => ∃ (fa : Addr) (most : Nat), vs = [.ref fa, .int (most : Int)] ∧ 1 ≤ most ∧ most ≤ 12 ∧ GF fa 20000 H ∧ ∀ q lot H', IsLot lot → lot.length ≤ most → H q = none → Rf fa 20000 H H' → H' q = some (.tup (lot.map T)) → Q (.ref q) H'
/-- words are made -/
def WL (fa : Addr) (σ : L2.St) (H : Hp) (m : Nat) (te : TE) : Prop := ∀ Q' : VK, (∀ p ws H1, Wd 100000 ws → ws.length ≤ 1000 → p ≠ fa → Rf fa m H H1 → H1 p = some (.lst (ws.map T)) → Q' (.ref p) H1) → te σ H Q'
theorem s_kept {D : Ends} {tw : TE} {most : Nat} (hW : WL fa σ H m tw) (h0 : σ[0]? = some (some (.ref fa))) (h1 : σ[1]? = some (some (.int (most : Int)))) (hm1 : 1 ≤ most) (hm2 : most ≤ 12) (G : GF fa (m + 1000) H)
    (k : ∀ q lot H2, IsLot lot → lot.length ≤ most → H q = none → Rf fa (m + 1000) H H2 → H2 q = some (.tup (lot.map T)) → D.rt (.ref q) H2) : tRet (tCall (sp_kept K) [] E0 (tCons (tVar 0) (tCons tw (tCons (tVar 1) tNil)))) D σ H :=
  ⟨.ref fa, h0, hW _ fun p ws H1 hw hl hp R h1' => ⟨.int (most : Int), h1, fa, p, ws, most, rfl, sq_of h1', hp, hl, hw, hm1, hm2, G.go R (Nat.le_refl _), fun q lot H2 hL hlen hq R2 h2 => k q lot H2 hL hlen (R.free G.is hq (G.go R (m' := 0) (by omega)).is) (R.trans R2) h2⟩⟩
theorem wl_texts {acc : List V} {lo n : Nat} (h : ∀ v ∈ acc, GdT abcd lo n v) (hn : n ≤ 100000) : ∃ ws : List Tx, acc = ws.map T ∧ Wd 100000 ws ∧ ∀ t ∈ ws, lo ≤ t.length ∧ t.length ≤ n := by
  obtain ⟨ws, rfl, hw⟩ := texts_GdT h
  exact ⟨ws, rfl, fun t ht => ⟨by have := (hw t ht).2.1; omega, (hw t ht).2.2⟩, fun t ht => ⟨(hw t ht).1, (hw t ht).2.1⟩⟩
/-- words by a comprehension over a range -/
theorem wl_range {te0 te : TE} {j : Nat} {vs : List Nat} {lo N c m0 lo' n : Nat} (hc : Dw fa σ m0 te0 (GdI (lo : Int) (N : Int))) (hN : N ≤ 1000) (G : GF fa (m0 + N * c) H) (hw : ∀ x, wipe ((wipe σ vs).set j (some x)) vs = wipe σ vs)
    (he : ∀ x k H1, Rf fa k H H1 → GF fa c H1 → ∀ Q' : VK, (∀ y H2, GdT abcd lo' n y → Rf fa c H1 H2 → Q' y H2) → te ((wipe σ vs).set j (some x)) H1 Q') (hn : n ≤ 100000) : WL fa σ H (m0 + N * c) (tLc (iRng1 (tCons te0 tNil)) (gName j) tYes te vs) := fun Q' q' =>
  lcRD (GdT abcd lo' n) hc hN G hw he Q' fun p H2 acc hp R h2 hl1 hl2 hg => by
    obtain ⟨ws, rfl, hws, _⟩ := wl_texts hg hn
    rw [List.length_map] at hl2
    exact q' p ws H2 hws (by omega) (G.new hp) R h2
theorem q_lcRD {D : Ends} {tz : TS} {te te0 : TE} {i j : Nat} {vs : List Nat} {lo N c m0 : Nat} (good : V → Prop) (hc : Dw fa σ m0 te0 (GdI (lo : Int) (N : Int))) (hN : N ≤ 1000) (G : GF fa (m0 + N * c) H) (hw : ∀ x, wipe ((wipe σ vs).set j (some x)) vs = wipe σ vs)
    (he : ∀ x n H1, Rf fa n H H1 → GF fa c H1 → ∀ Q' : VK, (∀ y H2, good y → Rf fa c H1 H2 → Q' y H2) → te ((wipe σ vs).set j (some x)) H1 Q')
    (k : ∀ p H2 acc, H p = none → Rf fa (m0 + N * c) H H2 → H2 p = some (.lst acc) → lo ≤ acc.length → acc.length ≤ N → (∀ v ∈ acc, good v) → tz D (σ.set i (some (.ref p))) H2) : tSeq (tAsg (tLc (iRng1 (tCons te0 tNil)) (gName j) tYes te vs) (gName i)) tz D σ H :=
  lcRD good hc hN G hw he (fun v H1 => tz D (σ.set i (some v)) H1) k
theorem WL.mono {te : TE} {m' : Nat} (h : WL fa σ H m te) (hm : m ≤ m') : WL fa σ H m' te := fun Q' q' => h Q' fun p ws H1 a b c R d => q' p ws H1 a b c (R.mono hm) d
theorem dw_at {te : TE} {c : Nat} {g : V → Prop} (h : Dw fa σ c te g) : ∀ k H1, Rf fa k H H1 → GF fa c H1 → ∀ Q' : VK, (∀ y H2, g y → Rf fa c H1 H2 → Q' y H2) → te σ H1 Q' := fun _ H1 _ G Q' q' => h H1 G Q' q'
end
section
variable {P : Program} {w : World} {K : PySem.W.Frag} {mg : Str → Option Value} {base : Heap}
/-- the scope of the outer comprehension of the last way -/
abbrev sc_place : Scope := { kind := .function, names := [(".0", .local), ("turn", .local), ("range", .globalImplicit), ("feed", .cell), ("long", .cell), ("signs", .cell)], isGenerator := false, isCoroutine := false }
theorem ok__law_lot {f : Addr} {fd : FuncData} (F : Fun K "_law_lot" "_law_lot" st__law_lot f fd) (M : Md K mg) (C__law_draw : Cal P w K mg base "_law_draw" st__law_draw 1 ["feed", "many"] sp_draw) (C__law_one : Cal P w K mg base "_law_one" st__law_one 2 ["feed", "things"] (sp_one K)) (C__law_text : Cal P w K mg base "_law_text" st__law_text 3 ["feed", "signs", "most"] sp_text) (C__law_kept : Cal P w K mg base "_law_kept" st__law_kept 3 ["feed", "words", "most"] (sp_kept K)) (C__law_split : Cal P w K mg base "_law_split" st__law_split 2 ["feed", "signs", "turns"] sp_split) (C__law_joined : Cal P w K mg base "_law_joined" st__law_joined 3 ["feed", "words", "turns"] sp_joined) (C__law_made : Cal P w K mg base "_law_made" st__law_made 1 ["feed", "code", "words"] (sp_made K)) (C__law_code : Cal P w K mg base "_law_code" st__law_code 3 ["feed"] sp_code) : FnOk P w K mg base CX0 4 f fd ["feed", "most"] sp_lot := by
  have nd := sc__law_lot.nd
  refine F.ok sc__law_lot (fun vs H Q E h => ?_) (fun cdv A outer s H vs Q E hr h => ?_)
  · obtain ⟨_, _, rfl, _⟩ := h
    rfl
  · obtain ⟨fa, most, rfl, hm1, hm2, G, k⟩ := h
    refine ⟨_, (pss_cons (ps_asg (pe_tup (pa_cons (pe_slice sl_T (pe_sT [97, 98, 99, 100]) po_none (po_some (pe_cl C__law_one hr (pa_cons (pv 0) (pa_cons (pe_lst (pa_cons pe_int (pa_cons pe_int (pa_cons pe_int (pa_cons pe_int (pa_cons pe_int (pa_cons pe_int pa_nil))))))) pa_nil))))) (pa_cons (pe_cl C__law_draw hr (pa_cons (pv 0) (pa_cons pe_int pa_nil))) pa_nil))) (kgt K (n := 2) (pg_tup rfl (pgs_cons (pg_name (i := 2) nd rfl (Or.inr rfl)) (pgs_cons (pg_name (i := 3) nd rfl (Or.inl rfl)) pgs_nil)))))
  (pss_cons (ps_if (pt_cmpR op_lt (pv 3) pe_int (nomark _))
  (pss_cons (ps_set (i := 4) nd rfl (Or.inr rfl) (pe_cl C__law_one hr (pa_cons (pv 0) (pa_cons (pe_lst (pa_cons pe_int (pa_cons pe_int (pa_cons pe_int (pa_cons pe_int (pa_cons pe_int pa_nil)))))) pa_nil))))
  (pss_one (ps_ret (pe_cl C__law_kept hr (pa_cons (pv 0) (pa_cons (pe_lc (own := [("turn", 5)]) rfl nd (pi_range1 (by rfl) M.n_range (pa_cons (pe_op op_add pe_int (pe_cl C__law_draw hr (pa_cons (pv 0) (pa_cons (pv 1) pa_nil)))) pa_nil)) (blkOk_by (N := N__law_lot) (sc := defScope st__law_lot) (by decide +kernel)) (fun _ _ _ _ _ => (pg_name (i := 5) nd rfl (Or.inl rfl))) (fun _ _ _ _ _ => pts_nil) (fun _ _ _ _ _ => (pe_op op_addT (pe_cl C__law_one hr (pa_cons (pv 0) (pa_cons (pv 2) pa_nil))) (pe_cl C__law_text hr (pa_cons (pv 0) (pa_cons (pv 2) (pa_cons (pe_op op_sub (pv 4) pe_int) pa_nil))))))) (pa_cons (pv 1) pa_nil)))))))
  pss_nil)
  (pss_cons (ps_if (pt_cmpR op_eqI (pv 3) pe_int (nomark _))
  (pss_one (ps_ret (pe_cl C__law_kept hr (pa_cons (pv 0) (pa_cons (pe_lc (own := [("word", 6)]) rfl nd (kil K (pi_list (pe_cl C__law_split hr (pa_cons (pv 0) (pa_cons (pv 2) (pa_cons (pe_cl C__law_draw hr (pa_cons (pv 0) (pa_cons pe_int pa_nil))) pa_nil)))))) (blkOk_by (N := N__law_lot) (sc := defScope st__law_lot) (by decide +kernel)) (fun _ _ _ _ _ => (pg_name (i := 6) nd rfl (Or.inl rfl))) (fun _ _ _ _ _ => (pts_one (pt_cmpR op_gt (pe_cl C__law_draw hr (pa_cons (pv 0) (pa_cons pe_int pa_nil))) pe_int (nomark _)))) (fun _ _ _ _ _ => (pv 6))) (pa_cons (pv 1) pa_nil))))))
  pss_nil)
  (pss_cons (ps_if (pt_cmpR op_eqI (pv 3) pe_int (nomark _))
  (pss_one (ps_ret (pe_cl C__law_kept hr (pa_cons (pv 0) (pa_cons (pe_lc (own := [("word", 6)]) rfl nd (kil K (pi_list (pe_cl C__law_split hr (pa_cons (pv 0) (pa_cons (pv 2) (pa_cons (pe_op op_add pe_int (pe_cl C__law_draw hr (pa_cons (pv 0) (pa_cons pe_int pa_nil)))) pa_nil)))))) (blkOk_by (N := N__law_lot) (sc := defScope st__law_lot) (by decide +kernel)) (fun _ _ _ _ _ => (pg_name (i := 6) nd rfl (Or.inl rfl))) (fun _ _ _ _ _ => pts_nil) (fun _ _ _ _ _ => (pe_revT (pv 6)))) (pa_cons (pv 1) pa_nil))))))
  pss_nil)
  (pss_cons (ps_if (pt_cmpR op_eqI (pv 3) pe_int (nomark _))
  (pss_one (ps_ret (pe_cl C__law_kept hr (pa_cons (pv 0) (pa_cons (pe_cl C__law_joined hr (pa_cons (pv 0) (pa_cons (pe_cl C__law_split hr (pa_cons (pv 0) (pa_cons (pv 2) (pa_cons (pe_op op_add pe_int (pe_cl C__law_draw hr (pa_cons (pv 0) (pa_cons pe_int pa_nil)))) pa_nil)))) (pa_cons (pe_op op_add pe_int (pe_cl C__law_draw hr (pa_cons (pv 0) (pa_cons pe_int pa_nil)))) pa_nil)))) (pa_cons (pv 1) pa_nil))))))
  pss_nil)
  (pss_cons (ps_if (pt_cmpR op_eqI (pv 3) pe_int (nomark _))
  (pss_cons (ps_set (i := 7) nd rfl (Or.inr rfl) (pe_op op_addT (pe_cl C__law_one hr (pa_cons (pv 0) (pa_cons (pv 2) pa_nil))) (pe_cl C__law_text hr (pa_cons (pv 0) (pa_cons (pv 2) (pa_cons (pe_cl C__law_one hr (pa_cons (pv 0) (pa_cons (pe_lst (pa_cons pe_int (pa_cons pe_int (pa_cons pe_int (pa_cons pe_int pa_nil))))) pa_nil))) pa_nil))))))
  (pss_one (ps_ret (pe_cl C__law_kept hr (pa_cons (pv 0) (pa_cons (pe_lc (own := [("turn", 5)]) rfl nd (pi_range1 (by rfl) M.n_range (pa_cons (pe_op op_add pe_int (pe_cl C__law_draw hr (pa_cons (pv 0) (pa_cons pe_int pa_nil)))) pa_nil)) (blkOk_by (N := N__law_lot) (sc := defScope st__law_lot) (by decide +kernel)) (fun _ _ _ _ _ => (pg_name (i := 5) nd rfl (Or.inl rfl))) (fun _ _ _ _ _ => pts_nil) (fun _ _ _ _ _ => (pe_op op_mulT (pv 7) (pe_op op_add pe_int (pe_cl C__law_draw hr (pa_cons (pv 0) (pa_cons (pe_op op_fdivW pe_int (pe_callB cr_lenT (by rfl) M.n_len boot_len (pa_cons (pv 7) pa_nil))) pa_nil))))))) (pa_cons (pv 1) pa_nil)))))))
  pss_nil)
  (pss_cons (ps_if (pt_cmpR op_eqI (pv 3) pe_int (nomark _))
  (pss_cons (ps_set (i := 8) nd rfl (Or.inr rfl) (pe_lc (own := [("turn", 5)]) rfl nd (pi_range1 (by rfl) M.n_range (pa_cons pe_int pa_nil)) (blkOk_by (N := N__law_lot) (sc := defScope st__law_lot) (by decide +kernel)) (fun _ _ _ _ _ => (pg_name (i := 5) nd rfl (Or.inl rfl))) (fun _ _ _ _ _ => pts_nil) (fun _ _ _ _ _ => (pe_cl C__law_text hr (pa_cons (pv 0) (pa_cons (pv 2) (pa_cons pe_int pa_nil)))))))
  (pss_one (ps_ret (pe_cl C__law_kept hr (pa_cons (pv 0) (pa_cons (pe_lc (own := [("turn", 5)]) rfl nd (pi_range1 (by rfl) M.n_range (pa_cons (pe_op op_add pe_int (pe_cl C__law_draw hr (pa_cons (pv 0) (pa_cons (pv 1) pa_nil)))) pa_nil)) (blkOk_by (N := N__law_lot) (sc := defScope st__law_lot) (by decide +kernel)) (fun _ _ _ _ _ => (pg_name (i := 5) nd rfl (Or.inl rfl))) (fun _ _ _ _ _ => pts_nil) (fun _ _ _ _ _ => (pe_op op_addT (pe_op op_addT (pe_cl C__law_one hr (pa_cons (pv 0) (pa_cons (pv 8) pa_nil))) (pe_cl C__law_text hr (pa_cons (pv 0) (pa_cons (pv 2) (pa_cons pe_int pa_nil))))) (pe_cl C__law_one hr (pa_cons (pv 0) (pa_cons (pv 8) pa_nil)))))) (pa_cons (pv 1) pa_nil)))))))
  pss_nil)
  (pss_cons (ps_if (pt_cmpR op_eqI (pv 3) pe_int (nomark _))
  (pss_one (ps_ret (pe_cl C__law_kept hr (pa_cons (pv 0) (pa_cons (pe_cl C__law_code hr (pa_cons (pv 0) pa_nil)) (pa_cons (pv 1) pa_nil))))))
  pss_nil)
  (pss_cons (ps_if (pt_cmpR op_eqI (pv 3) pe_int (nomark _))
  (pss_cons (ps_setLc (i := 9) (own := [("turn", 5)]) rfl nd rfl rfl (sw_true rfl rfl rfl (by decide +kernel)) (pi_range1 (by rfl) M.n_range (pa_cons pe_int pa_nil)) (blkOk_by (N := N__law_lot) (sc := defScope st__law_lot) (by decide +kernel)) (fun _ _ _ _ _ => (pg_name (i := 5) nd rfl (Or.inl rfl))) (fun _ _ _ _ _ => pts_nil) (fun _ _ _ _ _ => (pe_op op_addT (pe_cl C__law_one hr (pa_cons (pv 0) (pa_cons (pe_sT [97, 98, 99, 100]) pa_nil))) (pe_cl C__law_text hr (pa_cons (pv 0) (pa_cons (pv 2) (pa_cons pe_int pa_nil)))))))
  (pss_one (ps_ret (pe_cl C__law_kept hr (pa_cons (pv 0) (pa_cons (pe_cl C__law_made hr (pa_cons (pv 0) (pa_cons (pe_cl C__law_code hr (pa_cons (pv 0) pa_nil)) (pa_cons (pv 9) pa_nil)))) (pa_cons (pv 1) pa_nil)))))))
  pss_nil)
  (pss_cons (ps_if (pt_cmpR op_eqI (pv 3) pe_int (nomark _))
  (pss_one (ps_ret (pe_cl C__law_kept hr (pa_cons (pv 0) (pa_cons (pe_cl C__law_made hr (pa_cons (pv 0) (pa_cons (pe_cl C__law_code hr (pa_cons (pv 0) pa_nil)) (pa_cons (pe_lc (own := [("word", 6)]) rfl nd (kil K (pi_list (pe_cl C__law_code hr (pa_cons (pv 0) pa_nil)))) (blkOk_by (N := N__law_lot) (sc := defScope st__law_lot) (by decide +kernel)) (fun _ _ _ _ _ => (pg_name (i := 6) nd rfl (Or.inl rfl))) (fun _ _ _ _ _ => pts_nil) (fun _ _ _ _ _ => (pv 6))) pa_nil)))) (pa_cons (pv 1) pa_nil))))))
  pss_nil)
  (pss_cons (ps_set (i := 4) nd rfl (Or.inr rfl) (pe_op op_add pe_int (pe_cl C__law_draw hr (pa_cons (pv 0) (pa_cons pe_int pa_nil)))))
  (pss_one (ps_ret (pe_cl C__law_kept hr (pa_cons (pv 0) (pa_cons (pe_lc (own := [("turn", 5)]) rfl nd (pi_range1 (by rfl) M.n_range (pa_cons (pe_op op_add pe_int (pe_cl C__law_draw hr (pa_cons (pv 0) (pa_cons (pv 1) pa_nil)))) pa_nil)) (blkOk_by (N := N__law_lot) (sc := defScope st__law_lot) (by decide +kernel)) (fun _ _ _ _ _ => (pg_name (i := 5) nd rfl (Or.inl rfl))) (fun _ _ _ _ _ => pts_nil) (fun _ _ _ _ _ => (kbm K (pe_bm PySem.F.plainAttrs_str PySem.F.slot_str_join PySem.F.type_str_join (kmt K (r := rJoinT) mt_joinT) (pe_sT []) (pa_cons (pe_lc (own := [("place", 10)]) rfl nd (pi_range1 (by rfl) M.n_range (pa_cons (pv 4) pa_nil)) (blkOk_by (N := N__law_lot) (sc := sc_place) (by decide +kernel)) (fun _ _ _ _ _ => (pg_name (i := 10) nd rfl (Or.inl rfl))) (fun _ _ _ _ _ => pts_nil) (fun _ _ _ _ _ => (pe_cl C__law_one hr (pa_cons (pv 0) (pa_cons (pv 2) pa_nil))))) pa_nil))))) (pa_cons (pv 1) pa_nil))))))))))))))))), ?_⟩
    -- signs, way
    have hsg : Dw fa (start N__law_lot [.ref fa, .int (most : Int)]) 1 (tSl rSlT (tC (T [97, 98, 99, 100])) tNoPart (tPart (tCall (sp_one K) [] E0 (tCons (tVar 0) (tCons (tLst (tCons (tC (.int 1)) (tCons (tC (.int 2)) (tCons (tC (.int 2)) (tCons (tC (.int 2)) (tCons (tC (.int 3)) (tCons (tC (.int 4)) tNil))))))) tNil))))) (GdT abcd 1 4) := fun H G Q q =>
      dI_oneL (ns := [1, 2, 2, 2, 3, 4]) (lo := 1) (hi := 4) rfl (fun H => el_lst (ea_cons ev_c (ea_cons ev_c (ea_cons ev_c (ea_cons ev_c (ea_cons ev_c (ea_cons ev_c ea_nil)))))) (by show 6 ≤ 100000; decide)) (by decide) (by simp) (by decide) H G _ fun v H' ⟨i, hi, h1, h2⟩ R => by
        obtain ⟨n, rfl⟩ := Int.eq_ofNat_of_zero_le (show 0 ≤ i by omega)
        subst hi
        have hn : n = 1 ∨ n = 2 ∨ n = 3 ∨ n = 4 := by omega
        refine ⟨(n : Int), rfl, _, rfl, by show 4 ≤ 16777216; decide, q _ H' ⟨_, rfl, ?_, ?_, ?_⟩ R⟩
        · rw [cutT_to]
          rcases hn with rfl | rfl | rfl | rfl <;> decide
        · rw [cutT_to]
          rcases hn with rfl | rfl | rfl | rfl <;> decide
        · intro c hc
          have := cutT_mem hc
          simp at this
          unfold abcd
          omega
    refine hsg H (G.mono (by omega)) _ fun v1 H1 ⟨sg, hv1, hs1, hs2, hs3⟩ R1 => (dI_draw (lo := 11) (hi := 11) rfl dI_c : Dw fa (start N__law_lot [.ref fa, .int (most : Int)]) _ _ _) H1 (G.go R1 (m' := 1) (by omega)) _ fun v2 H2 ⟨way, hv2, hw1, hw2⟩ R2 => ⟨by show 2 ≤ sizeLine; decide, fun pt hpt => ⟨pt, _, rfl, st_of upd_same, rfl, v1, [v2], rfl, v2, [], rfl, rfl, ?_⟩⟩
    subst hv1 hv2
    have RA : Rf fa 2 H (upd H2 pt (.tup [T sg, .int way])) := (R1.trans R2).then (Ex.new hpt)
    generalize upd H2 pt (.tup [T sg, .int way]) = H3 at RA
    clear R1 R2 hpt hsg
    have hsn : sg ≠ [] := fun z => by rw [z] at hs1; simp at hs1
    show tSeq _ _ _ [some (.ref fa), some (.int (most : Int)), some (T sg), some (.int way), none, none, none, none, none, none, none] H3
    have dsg : ∀ {σ : L2.St}, σ[2]? = some (some (T sg)) → Dw fa σ 0 (tVar 2) (GdT abcd 1 4) := fun h0 => dT_var h0 hs1 hs2 hs3
    have dmo : ∀ {σ : L2.St}, σ[1]? = some (some (.int (most : Int))) → Dw fa σ 0 (tVar 1) (GdI 1 12) := fun h0 => dI_var h0 (by omega) (by omega)
    have fin : ∀ {m0 m : Nat} {HA : Hp}, Rf fa m0 H HA → m0 + (m + 1000) ≤ 20000 → ∀ q lot H2, IsLot lot → lot.length ≤ most → HA q = none → Rf fa (m + 1000) HA H2 → H2 q = some (.tup (lot.map T)) → Q (.ref q) H2 := fun {m0 m HA} RB hb q lot H2 hL hlen hq R2 h2 => k q lot H2 hL hlen (RB.free G.is hq (G.go RB (m' := 0) (by omega)).is) ((RB.trans R2).mono hb) h2
    -- way < 2
    refine q_when (et_test (ev_op (ev_var rfl) ev_c rv_I0)) (fun hb H4 e4 => ?_) (fun hb H4 e4 => ?_)
    · have RB := RA.then e4
      refine q_dw (dI_oneL (ns := [2, 3, 4, 6, 12]) (lo := 2) (hi := 12) rfl (fun H => el_lst (ea_cons ev_c (ea_cons ev_c (ea_cons ev_c (ea_cons ev_c (ea_cons ev_c ea_nil))))) (by show 5 ≤ 100000; decide)) (by decide) (by simp) (by decide)) (G.go RB (m' := 10000) (by omega)) fun v H5 ⟨long, hv, hl1, hl2⟩ R5 => ?_
      subst hv
      have RC := RB.trans R5
      show tRet _ _ [some (.ref fa), some (.int (most : Int)), some (T sg), some (.int way), some (.int long), none, none, none, none, none, none] H5
      refine s_kept (m := 1000) (WL.mono (wl_range (lo := 1) (N := 12) (c := 13) (lo' := 1) (n := 12) (dI_add dI_c (dI_draw rfl (dmo rfl))) (by decide) (G.go RC (by omega)) (fun _ => rfl) (fun x => dw_at (dT_add (dT_one rfl (dsg rfl)) (dT_text (c := 11) rfl (dsg rfl) (dI_wk (dI_sub (dI_var rfl hl1 hl2) dI_c))))) (by decide)) (by decide)) rfl rfl hm1 hm2 (G.go RC (by omega)) (fin RC (by omega))
    have RB : Rf fa 2 H H4 := RA.then e4
    clear RA e4 hb
    -- way == 2
    refine q_when (et_test (ev_op (ev_var rfl) ev_c rv_I0)) (fun hb H5 e5 => ?_) (fun hb H5 e5 => ?_)
    · have RC := RB.then e5
      have GC : GF fa 10000 H5 := G.go RC (by omega)
      refine s_kept (m := 1000) (fun Q' q' => lc_of ?_) rfl rfl hm1 hm2 (G.go RC (by omega)) (fin RC (by omega))
      refine ⟨.ref fa, rfl, T sg, rfl, (dI_draw (lo := 5) (hi := 5) rfl dI_c : Dw fa [some (.ref fa), some (.int (most : Int)), some (T sg), some (.int way), none, none, none, none, none, none, none] _ _ _) H5 (GC.mono (by omega)) _ fun v H6 ⟨tn, hv, ht1, ht2⟩ R6 => ?_⟩
      obtain ⟨tn, rfl⟩ := Int.eq_ofNat_of_zero_le ht1
      subst hv
      refine ⟨fa, sg, tn, rfl, GC.go R6 (by omega), by omega, hsn, hs2, hs3, fun q ws H7 hne hlen hwd hq R7 h7 => ?_⟩
      have R67 : Rf fa 10 H5 H7 := (R6.trans R7).mono (by omega)
      have G7 : GF fa 100 H7 := GC.go R67 (by omega)
      refine lcDT (fa := fa) (n := ws.length) (own := fun b => b = q) (P := fun i v _ => (ws.map T)[i]? = some v) (GdT abcd 0 12) 1 G7.is (src_listM (tl := fun _ H' Q' => Q' (.ref q) H') (fun H2 e2 Q2 q2 => q2 H2 (Ex.refl _)) (sq_of h7)) (fun z => ((GC.go R6 (m' := 0) (by omega)).new hq) z.symm) (by omega) (fun _ => rfl) (fun i x H8 hi hx R8 Q2 q2 => ?_) (fun i x H8 H9 hi hx R9 Q2 q2 => ?_) fun p H8 acc hp R8 h8 hl hg => ?_
      · refine dw_test (m1 := 1) (m2 := 0) (dI_draw (lo := 6) (hi := 6) rfl dI_c) dI_c (G7.go R8 (m' := 1) (by omega)) Q2 (fun b H9 R9 => q2 b H9 R9)
      · obtain ⟨t, ht, rfl⟩ := at_map hx
        have := hwd t (List.mem_of_getElem? ht)
        exact ⟨T t, rfl, q2 _ H9 ⟨t, rfl, Nat.zero_le _, this.1, this.2⟩ (Ex.refl _)⟩
      · obtain ⟨vs, rfl, hvs, _⟩ := wl_texts hg (by decide)
        rw [List.length_map] at hl
        exact q' p vs H8 hvs (by omega) (G7.new hp) ((R67.trans R8).mono (by omega)) h8
    have RC : Rf fa 2 H H5 := RB.then e5
    clear RB e5 hb
    have spl : ∀ {σ : L2.St} {HA : Hp} {te0 : TE} {m0 : Nat}, σ[0]? = some (some (.ref fa)) → σ[2]? = some (some (T sg)) → Dw fa σ m0 te0 (GdI 0 10) → GF fa (m0 + 10) HA → ∀ Q' : VK, (∀ q ws H1, ws ≠ [] → ws.length ≤ 13 → Wd 12 ws → HA q = none → Rf fa (m0 + 10) HA H1 → H1 q = some (.lst (ws.map T)) → Q' (.ref q) H1) → tCall sp_split [] E0 (tCons (tVar 0) (tCons (tVar 2) (tCons te0 tNil))) σ HA Q' := fun {σ HA te0 m0} h0 h2 hd GA Q' q' =>
      ⟨.ref fa, h0, T sg, h2, hd HA (GA.mono (by omega)) _ fun v H6 ⟨tn, hv, ht1, ht2⟩ R6 => by
        obtain ⟨tn, rfl⟩ := Int.eq_ofNat_of_zero_le ht1
        subst hv
        exact ⟨fa, sg, tn, rfl, GA.go R6 (by omega), by omega, hsn, hs2, hs3, fun q ws H7 hne hlen hwd hq R7 h7 => q' q ws H7 hne hlen hwd (R6.free GA.is hq (GA.go R6 (m' := 0) (by omega)).is) ((R6.trans R7).mono (by omega)) h7⟩⟩
    have cod : ∀ {σ : L2.St} {HA : Hp}, σ[0]? = some (some (.ref fa)) → GF fa 1 HA → ∀ Q' : VK, (∀ q ts H', ts ≠ [] → ts.length ≤ 6 → Wd 5 ts → HA q = none → Rf fa 1 HA H' → H' q = some (.lst (ts.map T)) → Q' (.ref q) H') → tCall sp_code [] E0 (tCons (tVar 0) tNil) σ HA Q' := fun h0 GA Q' q' => ⟨.ref fa, h0, fa, rfl, GA, q'⟩
    -- way == 3
    refine q_when (et_test (ev_op (ev_var rfl) ev_c rv_I0)) (fun hb H6 e6 => ?_) (fun hb H6 e6 => ?_)
    · have RD := RC.then e6
      have GD : GF fa 10000 H6 := G.go RD (by omega)
      refine s_kept (m := 1000) (fun Q' q' => lc_of (spl (m0 := 1) rfl rfl (dI_wk (dI_add dI_c (dI_draw (lo := 5) (hi := 5) rfl dI_c))) (GD.mono (by omega)) _ fun q ws H7 hne hlen hwd hq R7 h7 => ?_)) rfl rfl hm1 hm2 (G.go RD (by omega)) (fin RD (by omega))
      have G7 : GF fa 100 H7 := GD.go R7 (by omega)
      refine lcD (fa := fa) (n := ws.length) (own := fun b => b = q) (P := fun i v _ => (ws.map T)[i]? = some v) (GdT abcd 0 12) 0 G7.is (src_listM (tl := fun _ H' Q' => Q' (.ref q) H') (fun H2 e2 Q2 q2 => q2 H2 (Ex.refl _)) (sq_of h7)) (fun z => (GD.new hq) z.symm) (by omega) (fun _ => rfl) (fun i x H8 hi hx R8 Q2 q2 => ?_) fun p H8 acc hp R8 h8 hl hg => ?_
      · obtain ⟨t, ht, rfl⟩ := at_map hx
        have := hwd t (List.mem_of_getElem? ht)
        exact ⟨T t, rfl, t, rfl, by omega, q2 _ H8 ⟨t.reverse, rfl, Nat.zero_le _, by rw [List.length_reverse]; exact this.1, fun c hc => this.2 c (List.mem_reverse.mp hc)⟩ (Rf.refl _)⟩
      · obtain ⟨vs, rfl, hvs, _⟩ := wl_texts hg (by decide)
        rw [List.length_map] at hl
        exact q' p vs H8 hvs (by omega) (G7.new hp) ((R7.trans R8).mono (by omega)) h8
    have RD : Rf fa 2 H H6 := RC.then e6
    clear RC e6 hb
    -- way == 4
    refine q_when (et_test (ev_op (ev_var rfl) ev_c rv_I0)) (fun hb H7 e7 => ?_) (fun hb H7 e7 => ?_)
    · have RE := RD.then e7
      have GE : GF fa 10000 H7 := G.go RE (by omega)
      refine s_kept (m := 1000) (fun Q' q' => ⟨.ref fa, rfl, spl (m0 := 1) rfl rfl (dI_wk (dI_add dI_c (dI_draw (lo := 3) (hi := 3) rfl dI_c))) (GE.mono (by omega)) _ fun q ws H8 hne hlen hwd hq R8 h8 => (dI_add dI_c (dI_draw (lo := 3) (hi := 3) rfl dI_c) : Dw fa [some (.ref fa), some (.int (most : Int)), some (T sg), some (.int way), none, none, none, none, none, none, none] _ _ _) H8 (GE.go R8 (m' := 1) (by omega)) _ fun v H9 ⟨tn, hv, ht1, ht2⟩ R9 => ?_⟩) rfl rfl hm1 hm2 (G.go RE (by omega)) (fin RE (by omega))
      obtain ⟨tn, rfl⟩ := Int.eq_ofNat_of_zero_le (show 0 ≤ tn by omega)
      subst hv
      have nq : q ≠ fa := GE.new hq
      exact ⟨fa, q, ws, tn, rfl, R9.at_ h8 nq, nq, (GE.go R8 (m' := 1000) (by omega)).go R9 (by omega), by omega, hne, hlen, hwd, fun p ws' H10 hne' hl' hw' hp' R10 h10 => q' p ws' H10 hw' (by omega) hp' (((R8.trans R9).trans R10).mono (by omega)) h10⟩
    have RE : Rf fa 2 H H7 := RD.then e7
    clear RD e7 hb
    -- way == 5
    refine q_when (et_test (ev_op (ev_var rfl) ev_c rv_I0)) (fun hb H8 e8 => ?_) (fun hb H8 e8 => ?_)
    · have RF := RE.then e8
      refine q_dw (dT_add (dT_one rfl (dsg rfl)) (dT_text (c := 3) rfl (dsg rfl) (dI_oneL (ns := [0, 0, 1, 3]) (lo := 0) (hi := 3) rfl (fun H => el_lst (ea_cons ev_c (ea_cons ev_c (ea_cons ev_c (ea_cons ev_c ea_nil)))) (by show 4 ≤ 100000; decide)) (by decide) (by simp) (by decide)))) (G.go RF (m' := 10000) (by omega)) fun v H9 ⟨root, hv, hr1, hr2, hr3⟩ R9 => ?_
      subst hv
      have RG : Rf fa 100 H H9 := (RF.trans R9).mono (by omega)
      show tRet _ _ [some (.ref fa), some (.int (most : Int)), some (T sg), some (.int way), none, none, none, some (T root), none, none, none] H9
      have dro : ∀ {σ : L2.St}, σ[7]? = some (some (T root)) → Dw fa σ 0 (tVar 7) (GdT abcd 1 4) := fun h0 => dT_var h0 (by omega) (by omega) hr3
      have dfl : ∀ {σ : L2.St}, σ[7]? = some (some (T root)) → Dw fa σ 0 (tOp (rI CDivW fun i j => .int (i / j)) (tC (.int 12)) (tCB rLenT (tCons (tVar 7) tNil))) (GdI 1 12) := fun h0 H' G' Q' q' => ⟨T root, h0, root, rfl, by omega, 12, (root.length : Int), rfl, rfl, divW (by omega) (by omega), q' _ H' ⟨12 / (root.length : Int), rfl, by
          have h4 : root.length = 1 ∨ root.length = 2 ∨ root.length = 3 ∨ root.length = 4 := by omega
          rcases h4 with h | h | h | h <;> rw [h] <;> decide, by
          have h4 : root.length = 1 ∨ root.length = 2 ∨ root.length = 3 ∨ root.length = 4 := by omega
          rcases h4 with h | h | h | h <;> rw [h] <;> decide⟩ (Rf.refl _)⟩
      refine s_kept (m := 1000) (WL.mono (wl_range (lo := 1) (N := 4) (c := 1) (lo' := 1) (n := 48) (dI_add dI_c (dI_draw (lo := 4) (hi := 4) rfl dI_c)) (by decide) (G.go RG (by omega)) (fun _ => rfl) (fun x => dw_at (dw_mono (dT_wk (dT_mul (c := 1) (d := 12) (dro rfl) (dI_wk (dI_add dI_c (dI_draw rfl (dfl rfl)))))) (by omega))) (by decide)) (by decide)) rfl rfl hm1 hm2 (G.go RG (by omega)) (fin RG (by omega))
    have RF : Rf fa 2 H H8 := RE.then e8
    clear RE e8 hb
    -- way == 6
    refine q_when (et_test (ev_op (ev_var rfl) ev_c rv_I0)) (fun hb H9 e9 => ?_) (fun hb H9 e9 => ?_)
    · have RG := RF.then e9
      have GG : GF fa 10000 H9 := G.go RG (by omega)
      refine q_lcRD (lo := 3) (N := 3) (c := 4) (m0 := 0) (GdT abcd 0 3) (dI_c (x := 3)) (by decide) (GG.mono (by omega)) (fun _ => rfl) (fun x => dw_at (dT_text (c := 3) rfl (dsg rfl) (dI_wk dI_c))) fun pe H10 acc hpe R10 h10 hl1 hl2 hg => ?_
      obtain ⟨ends, rfl, hws, hwl⟩ := wl_texts hg (by decide)
      rw [List.length_map] at hl1 hl2
      have npe : pe ≠ fa := GG.new hpe
      have RH : Rf fa 100 H H10 := (RG.trans R10).mono (by omega)
      show tRet _ _ [some (.ref fa), some (.int (most : Int)), some (T sg), some (.int way), none, none, none, none, some (.ref pe), none, none] H10
      have one : ∀ {σ : L2.St} (kk : Nat) (H11 : Hp), σ[0]? = some (some (.ref fa)) → σ[8]? = some (some (.ref pe)) → Rf fa kk H10 H11 → GF fa 1 H11 → ∀ Q' : VK, (∀ y H12, GdT abcd 0 3 y → Rf fa 1 H11 H12 → Q' y H12) → tCall (sp_one K) [] E0 (tCons (tVar 0) (tCons (tVar 8) tNil)) σ H11 Q' := fun {σ} kk H11 h0 h8 R11 G11 Q' q' =>
        wp_oneS (xs := ends.map T) h0 (ev_var h8) (.inl (sq_of (R11.at_ h10 npe))) npe G11 (fun z => by have := congrArg List.length z; rw [List.length_map] at this; simp at this; rw [this] at hl1; simp at hl1) (by rw [List.length_map]; omega) fun v H12 hv R12 => by
          obtain ⟨t, ht, rfl⟩ := List.mem_map.mp hv
          exact q' _ H12 ⟨t, rfl, Nat.zero_le _, (hwl t ht).2, (hws t ht).2⟩ R12
      refine s_kept (m := 1000) (WL.mono (wl_range (lo := 2) (N := 13) (c := 5) (lo' := 0) (n := 8) (dI_wk (dI_add dI_c (dI_draw rfl (dmo rfl)))) (by decide) (G.go RH (by omega)) (fun _ => rfl) (fun x kk H11 R11 G11 Q' q' => ?_) (by decide)) (by decide)) rfl rfl hm1 hm2 (G.go RH (by omega)) (fin RH (by omega))
      refine one kk H11 rfl rfl R11 (G11.mono (by omega)) _ fun y1 H12 ⟨s1, hy1, a1, a2, a3⟩ R12 => (dT_text (c := 2) rfl (dsg rfl) (dI_wk dI_c) : Dw fa ((wipe [some (.ref fa), some (.int (most : Int)), some (T sg), some (.int way), none, none, none, none, some (.ref pe), none, none] [5]).set 5 (some x)) _ _ _) H12 (G11.go R12 (m' := 3) (by omega)) _ fun y2 H13 ⟨s2, hy2, b1, b2, b3⟩ R13 => ⟨s1, s2, hy1, hy2, by omega, one (kk + 1 + 3) H13 rfl rfl ((R11.trans R12).trans R13) (G11.go (R12.trans R13) (m' := 1) (by omega)) _ fun y3 H14 ⟨s3, hy3, c1, c2, c3⟩ R14 => ⟨s1 ++ s2, s3, rfl, hy3, by rw [List.length_append]; omega, q' _ H14 ⟨s1 ++ s2 ++ s3, rfl, Nat.zero_le _, by rw [List.length_append, List.length_append]; omega, fun c hc => ?_⟩ (((R12.trans R13).trans R14).mono (by omega))⟩⟩
      rcases List.mem_append.mp hc with z | z
      · rcases List.mem_append.mp z with z | z
        · exact a3 c z
        · exact b3 c z
      · exact c3 c z
    have RG : Rf fa 2 H H9 := RF.then e9
    clear RF e9 hb
    -- way == 7
    refine q_when (et_test (ev_op (ev_var rfl) ev_c rv_I0)) (fun hb H10 e10 => ?_) (fun hb H10 e10 => ?_)
    · have RH := RG.then e10
      have GH : GF fa 10000 H10 := G.go RH (by omega)
      exact s_kept (m := 1000) (fun Q' q' => cod rfl (GH.mono (by omega)) _ fun q ts H11 hne hlen hwd hq R11 h11 => q' q ts H11 (hwd.mono (by decide)) (by omega) (GH.new hq) (R11.mono (by omega)) h11) rfl rfl hm1 hm2 (G.go RH (by omega)) (fin RH (by omega))
    have RH : Rf fa 2 H H10 := RG.then e10
    clear RG e10 hb
    -- way == 8
    refine q_when (et_test (ev_op (ev_var rfl) ev_c rv_I0)) (fun hb H11 e11 => ?_) (fun hb H11 e11 => ?_)
    · have RI := RH.then e11
      have GI : GF fa 10000 H11 := G.go RI (by omega)
      refine q_lcRD (lo := 4) (N := 4) (c := 5) (m0 := 0) (GdT abcd 1 4) (dI_c (x := 4)) (by decide) (GI.mono (by omega)) (fun _ => rfl) (fun x => dw_at (dT_add (dT_one (lo := 4) (n := 4) rfl (dT_c (ok := abcd) (s := [97, 98, 99, 100]) (fun c hc => by simp at hc; unfold abcd; omega))) (dT_text (c := 3) rfl (dsg rfl) (dI_wk dI_c)))) fun pw H12 acc hpw R12 h12 hl1 hl2 hg => ?_
      obtain ⟨ws, rfl, hws, hwl⟩ := wl_texts hg (by decide)
      rw [List.length_map] at hl1 hl2
      have npw : pw ≠ fa := GI.new hpw
      have RJ : Rf fa 100 H H12 := (RI.trans R12).mono (by omega)
      have GJ : GF fa 9000 H12 := G.go RJ (by omega)
      show tRet _ _ [some (.ref fa), some (.int (most : Int)), some (T sg), some (.int way), none, none, none, none, none, some (.ref pw), none] H12
      exact s_kept (m := 1000) (fun Q' q' => ⟨.ref fa, rfl, cod rfl (GJ.mono (by omega)) _ fun q ts H13 hne hlen hwd hq R13 h13 => ⟨.ref pw, rfl, fa, q, pw, ts, ws, rfl, GJ.go R13 (by omega), h13, sq_of (R13.at_ h12 npw), GJ.new hq, npw, by omega, hwd.mono (by decide), fun z => by rw [z] at hl1; simp at hl1, by omega, fun t ht => ⟨by have := (hwl t ht).2; omega, (hws t ht).2⟩, fun p vs H14 hvl hvw hp R14 h14 => q' p vs H14 hvw (by omega) ((GJ.go R13 (m' := 0) (by omega)).new hp) ((R13.trans R14).mono (by omega)) h14⟩⟩) rfl rfl hm1 hm2 (G.go RJ (by omega)) (fin RJ (by omega))
    have RI : Rf fa 2 H H11 := RH.then e11
    clear RH e11 hb
    -- way == 9
    refine q_when (et_test (ev_op (ev_var rfl) ev_c rv_I0)) (fun hb H12 e12 => ?_) (fun hb H12 e12 => ?_)
    · have RJ := RI.then e12
      have GJ : GF fa 9000 H12 := G.go RJ (by omega)
      refine s_kept (m := 1000) (fun Q' q' => ⟨.ref fa, rfl, cod rfl (GJ.mono (by omega)) _ fun q ts H13 hne hlen hwd hq R13 h13 => lc_of (cod rfl (GJ.go R13 (m' := 1) (by omega)) _ fun r us H14 hne2 hlen2 hwd2 hr R14 h14 => ?_)⟩) rfl rfl hm1 hm2 (G.go RJ (by omega)) (fin RJ (by omega))
      have nq : q ≠ fa := GJ.new hq
      have GK : GF fa 100 H14 := GJ.go (R13.trans R14) (by omega)
      refine (el_lcM (j := 6) (vs := [6]) (f := T) (g := T) us (src_listM (tl := fun _ H' Q' => Q' (.ref r) H') (fun H2 e2 Q2 q2 => q2 H2 (Ex.refl _)) (sq_of h14)) (by omega) (fun _ => rfl) fun t H15 e15 ht => ev_var rfl : EvL (tLc (iList K (fun _ H' Q' => Q' (.ref r) H')) (gName 6) tYes (tVar 6) [6]) [some (.ref fa), some (.int (most : Int)), some (T sg), some (.int way), none, none, none, none, none, none, none] H14 (us.map T)) H14 (Ex.refl _) _ fun pw H15 hpw e15 h15 => ?_
      have npw : pw ≠ fa := GK.new hpw
      exact ⟨fa, q, pw, ts, us, rfl, (GK.ex e15).mono (by omega), e15 _ _ (R14.at_ h13 nq), sq_of h15, nq, npw, by omega, hwd.mono (by decide), hne2, by omega, hwd2.mono (by decide), fun p vs H16 hvl hvw hp R16 h16 => q' p vs H16 hvw (by omega) ((GK.ex e15).new hp) ((((R13.trans R14).then e15).trans R16).mono (by omega)) h16⟩
    have RJ : Rf fa 2 H H12 := RI.then e12
    clear RI e12 hb
    refine q_dw (dI_add dI_c (dI_draw (lo := 5) (hi := 5) rfl dI_c)) (G.go RJ (m' := 10000) (by omega)) fun v H13 ⟨long, hv, hl1, hl2⟩ R13 => ?_
    subst hv
    have RK := RJ.trans R13
    show tRet _ _ [some (.ref fa), some (.int (most : Int)), some (T sg), some (.int way), some (.int long), none, none, none, none, none, none] H13
    refine s_kept (m := 1000) (WL.mono (wl_range (lo := 1) (N := 12) (c := 5) (lo' := 0) (n := 5) (dI_add dI_c (dI_draw rfl (dmo rfl))) (by decide) (G.go RK (by omega)) (fun _ => rfl) (fun x kk H14 R14 G14 Q' q' => ?_) (by decide)) (by decide)) rfl rfl hm1 hm2 (G.go RK (by omega)) (fin RK (by omega))
    refine ⟨rfl, lcRD (lo := 1) (N := 5) (c := 1) (m0 := 0) (GdT abcd 1 1) (dI_wk (dI_var rfl hl1 hl2)) (by decide) (G14.mono (by omega)) (fun _ => rfl) (fun x => dw_at (dT_one rfl (dsg rfl))) _ fun p H15 acc hp R15 h15 hl1 hl2 hg => ?_⟩
    obtain ⟨ws, rfl, hws, hwl⟩ := wl_texts hg (by decide)
    rw [List.length_map] at hl2
    have hsum := sum_le (m := 1) fun t ht => (hwl t ht).2
    refine ⟨[], p, ws, rfl, rfl, .inl (sq_of h15), by simp; omega, ?_⟩
    rw [joinL_nil]
    refine q' _ H15 ⟨ws.flatten, rfl, Nat.zero_le _, by rw [flat_len]; omega, fun c hc => ?_⟩ (R15.mono (by omega))
    obtain ⟨t, ht, hct⟩ := flat_mem hc
    exact (hws t ht).2 c hct
end
end K04
set_option Elab.async false
set_option linter.all false
set_option maxRecDepth 100000
set_option maxHeartbeats 4000000
namespace K04
open PySem PySem.Spec PyProof.Rows L2 Evl Wc Wt
section
variable {P : Program} {w : World} {K : PySem.W.Frag} {mg : Str → Option Value} {base : Heap}
def sp_put : Sp := fun vs H Q _ => ∃ (fa p : Addr) (lot : List Tx) (most : Nat), vs = [.ref fa, .ref p, .int (most : Int)] ∧ most ≤ 100 ∧ GF fa (most + 1) H ∧ H p = some (.tup (lot.map T)) ∧ IsLot lot ∧ ∀ t H', t.length ≤ 400 → (∀ c ∈ t, abcd c) → Rf fa (most + 1) H H' → Q (T t) H'
def sp_near_text : Sp := fun vs H Q _ => ∃ (fa p : Addr) (lot : List Tx) (most : Nat), vs = [.ref fa, .ref p, .int (most : Int)] ∧ most ≤ 100 ∧ GF fa 500 H ∧ H p = some (.tup (lot.map T)) ∧ IsLot lot ∧ ∀ t H', t.length ≤ 400 → (∀ c ∈ t, abcd c) → Rf fa 500 H H' → Q (T t) H'
theorem IsLot.sum {lot : List Tx} (h : IsLot lot) : lot.flatten.length ≤ 144 ∧ 1 ≤ lot.flatten.length := by
  have h1 := sum_le (m := 12) fun t ht => (h.wd t ht).1
  have h2 := h.few
  refine ⟨by rw [flat_len]; omega, ?_⟩
  cases lot with
  | nil => exact absurd rfl h.ne
  | cons a l =>
    have := List.length_pos_iff.mpr (h.pos a List.mem_cons_self)
    simp
    omega
theorem ok__law_put {f : Addr} {fd : FuncData} (F : Fun K "_law_put" "_law_put" st__law_put f fd) (M : Md K mg) (C__law_draw : Cal P w K mg base "_law_draw" st__law_draw 1 ["feed", "many"] sp_draw) (C__law_one : Cal P w K mg base "_law_one" st__law_one 2 ["feed", "things"] (sp_one K)) : FnOk P w K mg base CX0 3 f fd ["feed", "lot", "most"] sp_put := by
  have nd := sc__law_put.nd
  refine F.ok sc__law_put (fun vs H Q E h => ?_) (fun cdv A outer s H vs Q E hr h => ?_)
  · obtain ⟨_, _, _, _, rfl, _⟩ := h
    rfl
  · obtain ⟨fa, p, lot, most, rfl, hm, G, hp, hL, k⟩ := h
    refine ⟨_, (pss_one (ps_ret (pe_slice sl_T (kbm K (pe_bm PySem.F.plainAttrs_str PySem.F.slot_str_join PySem.F.type_str_join (kmt K (r := rJoinT) mt_joinT) (pe_sT []) (pa_cons (pe_lc (own := [("turn", 3)]) rfl nd (pi_range1 (by rfl) M.n_range (pa_cons (pe_cl C__law_draw hr (pa_cons (pv 0) (pa_cons (pe_op op_add (pv 2) pe_int) pa_nil))) pa_nil)) (blkOk_by (N := N__law_put) (sc := defScope st__law_put) (by decide +kernel)) (fun _ _ _ _ _ => (pg_name (i := 3) nd rfl (Or.inl rfl))) (fun _ _ _ _ _ => pts_nil) (fun _ _ _ _ _ => (pe_cl C__law_one hr (pa_cons (pv 0) (pa_cons (pv 1) pa_nil))))) pa_nil))) po_none (po_some pe_int)))), ?_⟩
    have np : p ≠ fa := G.ofTup hp
    refine ⟨rfl, ?_⟩
    refine lcRD (lo := 0) (N := most) (c := 1) (m0 := 1) (GdT abcd 1 12) (dI_wk (dI_draw rfl (dI_add (dI_var rfl (Int.le_refl (most : Int)) (Int.le_refl _)) dI_c) (by omega) (Int.le_trans (show (most : Int) + 1 ≤ 1000 by omega) (by decide)))) (by omega) (G.mono (by omega)) (fun _ => rfl) (fun x kk H1 R1 G1 Q' q' => ?_) _ fun pl H1 acc hpl R1 h1 hl1 hl2 hg => ?_
    · refine wp_oneS (xs := lot.map T) rfl (ev_var rfl) (.inr (st_of (R1.at_ hp np))) np G1 (fun z => hL.ne (List.map_eq_nil_iff.mp z)) (by rw [List.length_map]; have := hL.few; omega) fun v H2 hv R2 => ?_
      obtain ⟨t, ht, rfl⟩ := List.mem_map.mp hv
      exact q' _ H2 ⟨t, rfl, List.length_pos_iff.mpr (hL.pos t ht), (hL.wd t ht).1, (hL.wd t ht).2⟩ R2
    · obtain ⟨ws, rfl, hws, hwl⟩ := wl_texts hg (by decide)
      rw [List.length_map] at hl2
      have hsum := sum_le (m := 12) fun t ht => (hwl t ht).2
      have hfl : ws.flatten.length ≤ 1200 := by rw [flat_len]; omega
      refine ⟨[], pl, ws, rfl, rfl, .inl (sq_of h1), by simp; omega, ?_⟩
      rw [joinL_nil]
      refine ⟨400, rfl, ws.flatten, rfl, by omega, k _ H1 ?_ (fun c hc => ?_) (R1.mono (by omega))⟩
      · rw [show (400 : Int) = ((400 : Nat) : Int) from rfl, cutT_to, List.length_take]
        omega
      · obtain ⟨t, ht, hct⟩ := flat_mem (cutT_mem hc)
        exact (hws t ht).2 c hct
theorem ok__law_near_text {f : Addr} {fd : FuncData} (F : Fun K "_law_near_text" "_law_near_text" st__law_near_text f fd) (M : Md K mg) (C__law_draw : Cal P w K mg base "_law_draw" st__law_draw 1 ["feed", "many"] sp_draw) (C__law_one : Cal P w K mg base "_law_one" st__law_one 2 ["feed", "things"] (sp_one K)) (C__law_text : Cal P w K mg base "_law_text" st__law_text 3 ["feed", "signs", "most"] sp_text) (C__law_put : Cal P w K mg base "_law_put" st__law_put 3 ["feed", "lot", "most"] sp_put) : FnOk P w K mg base CX0 4 f fd ["feed", "lot", "most"] sp_near_text := by
  have nd := sc__law_near_text.nd
  refine F.ok sc__law_near_text (fun vs H Q E h => ?_) (fun cdv A outer s H vs Q E hr h => ?_)
  · obtain ⟨_, _, _, _, rfl, _⟩ := h
    rfl
  · obtain ⟨fa, p, lot, most, rfl, hm, G, hp, hL, k⟩ := h
    refine ⟨_, (pss_cons (ps_par (i := 3) (j := 4) rfl nd rfl rfl (by decide) rfl rfl (pa_cons (pe_cl C__law_put hr (pa_cons (pv 0) (pa_cons (pv 1) (pa_cons (pv 2) pa_nil)))) (pa_cons (pe_cl C__law_draw hr (pa_cons (pv 0) (pa_cons pe_int pa_nil))) pa_nil)) (by rfl))
  (pss_cons (ps_par (i := 5) (j := 6) rfl nd rfl rfl (by decide) rfl rfl (pa_cons (pe_cl C__law_draw hr (pa_cons (pv 0) (pa_cons (pe_op op_add (pe_callB cr_lenT (by rfl) M.n_len boot_len (pa_cons (pv 3) pa_nil)) pe_int) pa_nil))) (pa_cons (pe_cl C__law_one hr (pa_cons (pv 0) (pa_cons (pe_ifExp (pt_cmpR op_eqI (pe_cl C__law_draw hr (pa_cons (pv 0) (pa_cons pe_int pa_nil))) pe_int (nomark _)) (pe_sT [97, 98, 99, 100]) (kbm K (pe_bm PySem.F.plainAttrs_str PySem.F.slot_str_join PySem.F.type_str_join (kmt K (r := rJoinT) mt_joinT) (pe_sT []) (pa_cons (pv 1) pa_nil)))) pa_nil))) pa_nil)) (by rfl))
  (pss_cons (ps_set (i := 7) nd rfl (Or.inl rfl) (pe_lst (pa_cons (pe_op op_addT (pe_op op_addT (pe_slice sl_T (pv 3) po_none (po_some (pv 5))) (pv 6)) (pe_slice sl_T (pv 3) (po_some (pe_op op_add (pv 5) pe_int)) po_none)) (pa_cons (pe_op op_addT (pe_op op_addT (pe_slice sl_T (pv 3) po_none (po_some (pv 5))) (pv 6)) (pe_slice sl_T (pv 3) (po_some (pv 5)) po_none)) (pa_cons (pe_op op_addT (pe_slice sl_T (pv 3) po_none (po_some (pv 5))) (pe_slice sl_T (pv 3) (po_some (pe_op op_add (pv 5) pe_int)) po_none)) (pa_cons (pe_cl C__law_text hr (pa_cons (pv 0) (pa_cons (kbm K (pe_bm PySem.F.plainAttrs_str PySem.F.slot_str_join PySem.F.type_str_join (kmt K (r := rJoinT) mt_joinT) (pe_sT []) (pa_cons (pv 1) pa_nil))) (pa_cons (pv 2) pa_nil)))) pa_nil))))))
  (pss_one (ps_ret (pe_ifExp (pt_cmpR op_lt (pv 4) pe_int (nomark _)) (pv 3) (pe_slice sl_T (pe_ix (kix K (r := L2.rIxL) ix_list) (pv 7) (pe_op op_sub (pv 4) pe_int) (fun _ _ => rfl)) po_none (po_some pe_int)))))))), ?_⟩
    have np : p ≠ fa := G.ofTup hp
    have hLs := hL.sum
    have hLc : ∀ c ∈ lot.flatten, abcd c := fun c hc => by
      obtain ⟨t, ht, hct⟩ := flat_mem hc
      exact (hL.wd t ht).2 c hct
    have hsum : (lot.map List.length).sum ≤ 144 := by rw [← flat_len]; exact hLs.1
    have hjoin : ∀ {σ : L2.St} {H' : Hp}, σ[1]? = some (some (.ref p)) → H' p = some (.tup (lot.map T)) → Ev (tBM K "str" (rJoinT K) (tC (T [])) (tCons (tVar 1) tNil)) σ H' (T lot.flatten) := fun h1 hh => ev_bmT ev_c (ea_cons (ev_var h1) ea_nil) (rm_join (.inr (st_of hh)) (by omega))
    -- text, way
    refine ⟨.ref fa, rfl, .ref p, rfl, .int (most : Int), rfl, fa, p, lot, most, rfl, hm, G.mono (by omega), hp, hL, fun text H1 ht1 ht2 R1 => (dI_draw (lo := 8) (hi := 8) rfl dI_c : Dw fa (start N__law_near_text [.ref fa, .ref p, .int (most : Int)]) _ _ _) H1 (G.go R1 (m' := 1) (by omega)) _ fun v2 H2 ⟨way, hv2, hw1, hw2⟩ R2 => ⟨_, _, rfl, ?_⟩⟩
    subst hv2
    have RA : Rf fa 102 H H2 := (R1.trans R2).mono (by omega)
    have GA : GF fa 398 H2 := G.go RA (by omega)
    have hpA := RA.at_ hp np
    clear R1 R2
    show tSeq _ _ _ [some (.ref fa), some (.ref p), some (.int (most : Int)), some (T text), some (.int way), none, none, none] H2
    have dte : ∀ {σ : L2.St}, σ[3]? = some (some (T text)) → Dw fa σ 0 (tVar 3) (GdT abcd 0 400) := fun h0 => dT_var h0 (Nat.zero_le _) ht1 ht2
    -- at, sign
    have hsign : ∀ (H4 : Hp), H4 p = some (.tup (lot.map T)) → GF fa 2 H4 → ∀ Q' : VK, (∀ sg H5, sg.length = 1 → (∀ c ∈ sg, abcd c) → Rf fa 2 H4 H5 → Q' (T sg) H5) → tCall (sp_one K) [] E0 (tCons (tVar 0) (tCons (tIf (tTest (tOp (rI0 fun i j => .bl (decide (i = j))) (tCall sp_draw [] E0 (tCons (tVar 0) (tCons (tC (.int 3)) tNil))) (tC (.int 0)))) (tC (T [97, 98, 99, 100])) (tBM K "str" (rJoinT K) (tC (T [])) (tCons (tVar 1) tNil))) tNil)) [some (.ref fa), some (.ref p), some (.int (most : Int)), some (T text), some (.int way), none, none, none] H4 Q' := fun H4 hp4 G4 Q' q' => by
      refine ⟨.ref fa, rfl, ?_⟩
      refine dw_test (m1 := 1) (m2 := 0) (dI_draw (lo := 3) (hi := 3) rfl dI_c) dI_c G4 _ fun b H5 R5 => ?_
      have hp5 := R5.at_ hp4 np
      have G5 : GF fa 1 H5 := G4.go R5 (by omega)
      cases b with
      | true => exact ⟨fa, G5, .inl ⟨[97, 98, 99, 100], rfl, by simp, by simp, fun c H6 hc R6 => q' [c] H6 rfl (fun d hd => by
          rw [List.mem_singleton.mp hd]
          simp at hc
          unfold abcd
          omega) ((R5.trans R6).mono (by omega))⟩⟩
      | false => exact (hjoin rfl hp5 : Ev _ [some (.ref fa), some (.ref p), some (.int (most : Int)), some (T text), some (.int way), none, none, none] H5 _) H5 (Ex.refl _) _ fun H6 e6 => ⟨fa, G5.ex e6, .inl ⟨lot.flatten, rfl, fun z => by rw [z] at hLs; simp at hLs, by omega, fun c H7 hc R7 => q' [c] H7 rfl (fun d hd => by
          rw [List.mem_singleton.mp hd]
          exact hLc c hc) (((R5.then e6).trans R7).mono (by omega))⟩⟩
    refine (dI_draw rfl (dI_wk (c := 1) (d := 401) (dI_add (dI_len (dte rfl)) dI_c)) : Dw fa [some (.ref fa), some (.ref p), some (.int (most : Int)), some (T text), some (.int way), none, none, none] _ _ _) H2 (GA.mono (by omega)) _ fun v3 H3 ⟨at_, hv3, ha1, ha2⟩ R3 => hsign H3 (R3.at_ hpA np) (GA.go R3 (m' := 2) (by omega)) _ fun sign H4 hsl hsc R4 => ⟨_, _, rfl, ?_⟩
    subst hv3
    have RB : Rf fa 105 H H4 := (RA.trans (R3.trans R4)).mono (by omega)
    have GB : GF fa 395 H4 := G.go RB (by omega)
    have hpB := RB.at_ hp np
    clear R3 R4 RA GA hpA hsign
    show tSeq _ _ _ [some (.ref fa), some (.ref p), some (.int (most : Int)), some (T text), some (.int way), some (.int at_), some (T sign), none] H4
    have dsi : ∀ {σ : L2.St}, σ[6]? = some (some (T sign)) → Dw fa σ 0 (tVar 6) (GdT abcd 1 1) := fun h0 => dT_var h0 (by omega) (by omega) hsc
    have dat : ∀ {σ : L2.St}, σ[5]? = some (some (.int at_)) → Dw fa σ 0 (tVar 5) (GdI 0 400) := fun h0 => dI_var h0 (by omega) (by omega)
    have lo_ : ∀ {σ : L2.St}, σ[3]? = some (some (T text)) → σ[5]? = some (some (.int at_)) → Dw fa σ 0 (tSl rSlT (tVar 3) tNoPart (tPart (tVar 5))) (GdT abcd 0 400) := fun h3 h5 => dw_mono (dT_sl (dte h3) do_none (do_some (dat h5))) (by omega)
    have hi1 : ∀ {σ : L2.St}, σ[3]? = some (some (T text)) → σ[5]? = some (some (.int at_)) → Dw fa σ 0 (tSl rSlT (tVar 3) (tPart (tOp (rI0 fun i j => .int (i + j)) (tVar 5) (tC (.int 1)))) tNoPart) (GdT abcd 0 400) := fun h3 h5 => dw_mono (dT_sl (dte h3) (do_some (dI_add (dat h5) dI_c)) do_none) (by omega)
    have hi0 : ∀ {σ : L2.St}, σ[3]? = some (some (T text)) → σ[5]? = some (some (.int at_)) → Dw fa σ 0 (tSl rSlT (tVar 3) (tPart (tVar 5)) tNoPart) (GdT abcd 0 400) := fun h3 h5 => dw_mono (dT_sl (dte h3) (do_some (dat h5)) do_none) (by omega)
    -- near
    refine (dT_add (dT_add (lo_ rfl rfl) (dsi rfl)) (hi1 rfl rfl) : Dw fa [some (.ref fa), some (.ref p), some (.int (most : Int)), some (T text), some (.int way), some (.int at_), some (T sign), none] _ _ _) H4 (GB.mono (by omega)) _ fun w1 H5 g1 R5 => (dT_add (dT_add (lo_ rfl rfl) (dsi rfl)) (hi0 rfl rfl) : Dw fa [some (.ref fa), some (.ref p), some (.int (most : Int)), some (T text), some (.int way), some (.int at_), some (T sign), none] _ _ _) H5 (GB.go R5 (m' := 0) (by omega)) _ fun w2 H6 g2 R6 => (dT_add (lo_ rfl rfl) (hi1 rfl rfl) : Dw fa [some (.ref fa), some (.ref p), some (.int (most : Int)), some (T text), some (.int way), some (.int at_), some (T sign), none] _ _ _) H6 (GB.go (R5.trans R6) (m' := 0) (by omega)) _ fun w3 H7 g3 R7 => ⟨.ref fa, rfl, (hjoin rfl ((((R5.trans R6).trans R7)).at_ hpB np) : Ev _ [some (.ref fa), some (.ref p), some (.int (most : Int)), some (T text), some (.int way), some (.int at_), some (T sign), none] H7 _) H7 (Ex.refl _) _ fun H8 e8 => ⟨.int (most : Int), rfl, fa, lot.flatten, most, rfl, (GB.go (((R5.trans R6).trans R7).then e8) (m' := most + 1) (by omega)), by omega, fun z => by rw [z] at hLs; simp at hLs, by omega, fun t4 H9 ht4 hc4 R9 => ⟨by show 4 ≤ sizeLine; decide, fun pn hpn => ?_⟩⟩⟩
    have R59 : Rf fa (most + 1) H4 H9 := ((((R5.trans R6).trans R7).then e8).trans R9).mono (by omega)
    have RC : Rf fa 500 H (upd H9 pn (.lst [w1, w2, w3, T t4])) := ((RB.trans R59).mono (by omega)).then (Ex.new hpn)
    have hn : (upd H9 pn (.lst [w1, w2, w3, T t4])) pn = some (.lst [w1, w2, w3, T t4]) := upd_same
    generalize upd H9 pn (.lst [w1, w2, w3, T t4]) = HC at RC hn
    have g4 : GdT abcd 0 900 (T t4) := ⟨t4, rfl, Nat.zero_le _, by omega, fun c hc => hLc c (hc4 c hc)⟩
    have wk : ∀ {v : V} {a b : Nat}, GdT abcd a b v → b ≤ 900 → GdT abcd 0 900 v := fun ⟨s, h1, h2, h3, h4⟩ hb => ⟨s, h1, Nat.zero_le _, by omega, h4⟩
    have gall : ∀ v ∈ [w1, w2, w3, T t4], GdT abcd 0 900 v := fun v hv => by
      simp only [List.mem_cons, List.not_mem_nil, or_false] at hv
      rcases hv with rfl | rfl | rfl | rfl
      · exact wk g1 (by omega)
      · exact wk g2 (by omega)
      · exact wk g3 (by omega)
      · exact g4
    refine s_retIf (σ := [some (.ref fa), some (.ref p), some (.int (most : Int)), some (T text), some (.int way), some (.int at_), some (T sign), some (.ref pn)]) (H := HC) (et_test (ev_op (ev_var rfl) ev_c rv_I0)) (fun hb HD eD => s_ret (ev_var rfl) fun HE eE => k text HE ht1 ht2 ((RC.then eD).then eE)) (fun hb HD eD => ?_)
    have hw4 : ¬ way < 4 := by simpa using hb
    obtain ⟨j, hj⟩ := Int.eq_ofNat_of_zero_le (show 0 ≤ way - 4 by omega)
    have hj4 : j < [w1, w2, w3, T t4].length := by show j < 4; omega
    obtain ⟨s, hs, _, hs2, hs3⟩ := gall _ (List.getElem_mem hj4)
    refine s_ret (v := T (s.take 400)) (ev_is (ev_slT (a := s) (ev_op (ev_var rfl) (ev_op (ev_var rfl) ev_c rv_I0) (rv_ixL (sq_of (eD _ _ hn)) (by rw [hj, ← hs]; exact atI_nat (List.getElem?_eq_getElem hj4)))) eo_none (eo_some ev_c) (by omega)) (by rw [show (400 : Int) = ((400 : Nat) : Int) from rfl, cutT_to])) fun HE eE => k _ HE (by rw [List.length_take]; omega) (fun c hc => hs3 c (List.mem_of_mem_take hc)) ((RC.then eD).then eE)
end
end K04
set_option Elab.async false
set_option linter.all false
set_option maxRecDepth 100000
set_option maxHeartbeats 2000000
namespace K04
open PySem PySem.Spec PyProof.Rows L2 Evl Wc Wt
def areSigns (a : Tx) (most : Int) : Bool := decide ((a.length : Int) ≤ most) && a.all fun c => decide (c ∈ [97, 98, 99, 100])
def sp_are_signs : Sp := fun vs H Q _ => ∃ (a : Tx) (most : Int), vs = [T a, .int most] ∧ a.length ≤ 20000 ∧ RetV (.bl (areSigns a most)) H Q
def sp_is_text : Sp := fun vs H Q _ => ∃ (a : Tx), vs = [T a] ∧ a.length ≤ 20000 ∧ RetV (.bl (areSigns a 400)) H Q
def sp_need_text : Sp := fun vs H Q _ => ∃ (a : Tx), vs = [T a] ∧ a.length ≤ 20000 ∧ areSigns a 400 = true ∧ RetV .non H Q
theorem areSigns_ok {a : Tx} {m : Nat} (h1 : a.length ≤ m) (h2 : ∀ c ∈ a, abcd c) : areSigns a (m : Int) = true := by
  unfold areSigns
  rw [Bool.and_eq_true, decide_eq_true_eq, List.all_eq_true]
  refine ⟨by omega, fun c hc => decide_eq_true ?_⟩
  have := h2 c hc
  unfold abcd at this
  have h4 : c = 97 ∨ c = 98 ∨ c = 99 ∨ c = 100 := by omega
  rcases h4 with rfl | rfl | rfl | rfl <;> decide
section
variable {P : Program} {w : World} {K : PySem.W.Frag} {mg : Str → Option Value} {base : Heap}
theorem ok_are_signs {f : Addr} {fd : FuncData} (F : Fun K "are_signs" "are_signs" st_are_signs f fd) (M : Md K mg) : FnOk P w K mg base CX0 1 f fd ["thing", "most"] sp_are_signs := by
  have nd := sc_are_signs.nd
  refine F.ok sc_are_signs (fun vs H Q E h => ?_) (fun cdv A outer s H vs Q E hr h => ?_)
  · obtain ⟨_, _, rfl, _⟩ := h
    rfl
  · obtain ⟨a, most, rfl, ha, k⟩ := h
    refine ⟨_, (pss_one (ps_ret (pe_and (pe_callB (kcr K (r := rIsiB) cr_isi) (by rfl) M.n_isinstance boot_isinstance (pa_cons (pv 0) (pa_cons (pe_bltn (v := .ty "str") rfl M.n_str boot_str rfl) pa_nil))) (pe_and (pe_cmpR op_le (pe_callB cr_lenT (by rfl) M.n_len boot_len (pa_cons (pv 0) pa_nil)) (pv 1) (nomark _)) (pe_one (pe_callB (kcr K (r := rAll) (cr_all rfl)) (by rfl) M.n_all boot_all (pa_cons (pe_lc (own := [("sign", 2)]) rfl nd (pi_str (pv 0)) (blkOk_by (N := N_are_signs) (sc := defScope st_are_signs) (by decide +kernel)) (fun _ _ _ _ _ => (pg_name (i := 2) nd rfl (Or.inl rfl))) (fun _ _ _ _ _ => pts_nil) (fun _ _ _ _ _ => (pe_cmpR op_inT (pv 2) (pe_gT M.c_SIGNS [97, 98, 99, 100]) (by rfl)))) pa_nil))))))), ?_⟩
    exact s_ret (ev_andV (ev_cb (ea_cons (ev_var rfl) (ea_cons ev_c ea_nil)) (rc_isi (fun _ _ => .base (.str _)) k_str_str)) fun _ => ev_andV (ev_op (ev_cb (ea_cons (ev_var rfl) ea_nil) (rc_lenT (by omega))) (ev_var rfl) rv_I0) fun _ =>
      ev_cbL (el_lcM a (src_str (ev_var rfl)) (by omega) (fun _ => rfl) fun c H1 e1 hc => ev_op (ev_var rfl) ev_c rv_inT) fun p H1 hp e1 => rc_allM (sq_of hp)) k
theorem ok_is_text {f : Addr} {fd : FuncData} (F : Fun K "is_text" "is_text" st_is_text f fd) (M : Md K mg) (C_are_signs : Cal P w K mg base "are_signs" st_are_signs 1 ["thing", "most"] sp_are_signs) : FnOk P w K mg base CX0 2 f fd ["thing"] sp_is_text := by
  have nd := sc_is_text.nd
  refine F.ok sc_is_text (fun vs H Q E h => ?_) (fun cdv A outer s H vs Q E hr h => ?_)
  · obtain ⟨_, rfl, _⟩ := h
    rfl
  · obtain ⟨a, rfl, ha, k⟩ := h
    refine ⟨_, (pss_one (ps_ret (pe_cl C_are_signs hr (pa_cons (pv 0) (pa_cons (pe_gI M.c_MOST_SIGNS) pa_nil))))), ?_⟩
    exact s_ret (ev_call (ea_cons (ev_var rfl) (ea_cons ev_c ea_nil)) fun H1 e1 Q q E => ⟨a, 400, rfl, ha, q⟩) k
theorem ok_need_text {f : Addr} {fd : FuncData} (F : Fun K "need_text" "need_text" st_need_text f fd) (M : Md K mg) (C_is_text : Cal P w K mg base "is_text" st_is_text 2 ["thing"] sp_is_text) : FnOk P w K mg base CX0 3 f fd ["text"] sp_need_text := by
  have nd := sc_need_text.nd
  refine F.ok sc_need_text (fun vs H Q E h => ?_) (fun cdv A outer s H vs Q E hr h => ?_)
  · obtain ⟨_, rfl, _⟩ := h
    rfl
  · obtain ⟨a, rfl, ha, hs, k⟩ := h
    refine ⟨_, (pss_one (ps_if (pt_not (pt_val (pe_cl C_is_text hr (pa_cons (pv 0) pa_nil))))
  (pss_one ps_never)
  pss_nil)), ?_⟩
    refine s_when (et_not (et_B (ev_call (ea_cons (ev_var rfl) ea_nil) fun H1 e1 Q q E => ⟨a, rfl, ha, q⟩))) (fun hb => ?_) (fun _ => k)
    rw [hs] at hb
    cases hb

def sp_is_word : Sp := fun vs H Q _ => ∃ (a : Tx), vs = [T a] ∧ a.length ≤ 20000 ∧ RetV (.bl (areSigns a 12 && !decide (a = []))) H Q
/-- a lot at p -/
def LotAt (p : Addr) (lot : List Tx) (H : Hp) : Prop := H p = some (.tup (lot.map T)) ∧ IsLot lot
def sp_ascending : Sp := fun vs H Q _ => ∃ (p : Addr) (lot : List Tx), vs = [.ref p] ∧ LotAt p lot H ∧ RetV (.bl true) H Q
def sp_lot_form : Sp := fun vs H Q _ => ∃ (p : Addr) (lot : List Tx), vs = [.ref p] ∧ LotAt p lot H ∧ RetV (.bl true) H Q
def sp_need_lot : Sp := fun vs H Q _ => ∃ (p : Addr) (lot : List Tx), vs = [.ref p] ∧ LotAt p lot H ∧ RetV .non H Q
def sp_need_both : Sp := fun vs H Q _ => ∃ (p : Addr) (lot : List Tx) (a : Tx), vs = [.ref p, T a] ∧ LotAt p lot H ∧ a.length ≤ 400 ∧ (∀ c ∈ a, abcd c) ∧ RetV .non H Q
theorem LotAt.ex {p : Addr} {lot : List Tx} {H H1 : Hp} (h : LotAt p lot H) (e : Ex H H1) : LotAt p lot H1 := ⟨e _ _ h.1, h.2⟩
theorem zip_lt : ∀ {lot : List Tx}, lot.Pairwise (· < ·) → ∀ a ∈ List.zip lot (lot.drop 1), a.1 < a.2
  | [], _, a, h => by simp at h
  | [x], _, a, h => by simp at h
  | x :: y :: r, hp, a, h => by
    rw [List.pairwise_cons] at hp
    simp only [List.drop_succ_cons, List.drop_zero, List.zip_cons_cons, List.mem_cons] at h
    rcases h with rfl | h
    · exact hp.1 y List.mem_cons_self
    · have := zip_lt hp.2 a
      simp only [List.drop_succ_cons, List.drop_zero] at this
      exact this h
theorem ok_is_word {f : Addr} {fd : FuncData} (F : Fun K "is_word" "is_word" st_is_word f fd) (M : Md K mg) (C_are_signs : Cal P w K mg base "are_signs" st_are_signs 1 ["thing", "most"] sp_are_signs) : FnOk P w K mg base CX0 2 f fd ["thing"] sp_is_word := by
  have nd := sc_is_word.nd
  refine F.ok sc_is_word (fun vs H Q E h => ?_) (fun cdv A outer s H vs Q E hr h => ?_)
  · obtain ⟨_, rfl, _⟩ := h
    rfl
  · obtain ⟨a, rfl, ha, k⟩ := h
    refine ⟨_, (pss_one (ps_ret (pe_and (pe_cl C_are_signs hr (pa_cons (pv 0) (pa_cons (pe_gI M.c_MOST_LETTERS) pa_nil))) (pe_one (pe_cmpR op_neT (pv 0) (pe_sT []) (nomark _)))))), ?_⟩
    exact s_ret (ev_andV (ev_call (ea_cons (ev_var rfl) (ea_cons ev_c ea_nil)) fun H1 e1 Q q E => ⟨a, 12, rfl, ha, q⟩) fun _ => ev_op (ev_var rfl) ev_c rv_neT) k
theorem ok_is_ascending {f : Addr} {fd : FuncData} (F : Fun K "is_ascending" "is_ascending" st_is_ascending f fd) (M : Md K mg) : FnOk P w K mg base CX0 1 f fd ["things"] sp_ascending := by
  have nd := sc_is_ascending.nd
  refine F.ok sc_is_ascending (fun vs H Q E h => ?_) (fun cdv A outer s H vs Q E hr h => ?_)
  · obtain ⟨_, _, rfl, _⟩ := h
    rfl
  · obtain ⟨p, lot, rfl, ⟨hp, hL⟩, k⟩ := h
    refine ⟨_, (pss_one (ps_ret (pe_callB (kcr K (r := rAll) (cr_all rfl)) (by rfl) M.n_all boot_all (pa_cons (pe_lc (own := [("one", 1), ("other", 2)]) rfl nd (kiza K (RZ.pi_zipA (by rfl) M.n_zip (pa_cons (pv 0) (pa_cons (pe_slice (ksl K (r := rSlA) sl_tupA) (pv 0) (po_some pe_int) po_none) pa_nil)))) (blkOk_by (N := N_is_ascending) (sc := defScope st_is_ascending) (by decide +kernel)) (fun _ _ _ _ _ => (kgt K (n := 2) (pg_tup rfl (pgs_cons (pg_name (i := 1) nd rfl (Or.inl rfl)) (pgs_cons (pg_name (i := 2) nd rfl (Or.inl rfl)) pgs_nil))))) (fun _ _ _ _ _ => pts_nil) (fun _ _ _ _ _ => (pe_cmpR op_ltT' (pv 1) (pv 2) (nomark _)))) pa_nil)))), ?_⟩
    have hsl : EvU (tSl (rSlA K) (tVar 0) (tPart (tC (.int 1))) tNoPart) (start N_is_ascending [.ref p]) H ((lot.drop 1).map T) := by
      have := el_dropU (K := K) (σ := start N_is_ascending [.ref p]) (H := H) (te := tVar 0) (xs := lot.map T) (ev_var rfl) (st_of hp) (by rw [List.length_map]; exact List.length_pos_iff.mpr hL.ne)
      rw [← List.map_drop] at this
      exact this
    have hz : ∀ (i : Nat) (x : V) (H1 : Hp), (∃ q y z, x = .ref q ∧ (lot.map T)[i]? = some y ∧ ((lot.drop 1).map T)[i]? = some z ∧ H1 q = some (.tup [y, z])) → ∃ a, (List.zip lot (lot.drop 1))[i]? = some a ∧ (∃ q, x = .ref q ∧ H1 q = some (.tup [T a.1, T a.2])) := fun i x H1 ⟨q, y, z, h1, h2, h3, h4⟩ => by
      obtain ⟨a, ha, rfl⟩ := at_map h2
      obtain ⟨b, hb, rfl⟩ := at_map h3
      exact ⟨(a, b), by rw [List.getElem?_zip_eq_some]; exact ⟨ha, hb⟩, q, h1, h4⟩
    have hlt : ∀ a ∈ List.zip lot (lot.drop 1), a.1 < a.2 := zip_lt hL.asc
    refine s_ret (ev_is (ev_cbL (el_lcG (p := fun _ => true) (gv := fun _ => V.bl true) (List.zip lot (lot.drop 1)) (fun a => [some (.ref p), some (T a.1), some (T a.2)]) (fun a x H1 => ∃ q, x = .ref q ∧ H1 q = some (.tup [T a.1, T a.2])) (src_zipT (n := min (lot.map T).length ((lot.drop 1).map T).length) (ev_var rfl) hsl (st_of hp) rfl) ?_ ?_ hz ?_ (fun _ => rfl) (fun a H1 e1 ha => et_yes) (fun a H1 e1 ha _ => ev_is (ev_op (ev_var rfl) (ev_var rfl) rv_ltT) (by rw [decide_eq_true (hlt a ha)]))) fun q H2 hq e2 => ?_) rfl) k
    · rw [List.length_map]
      have := hL.few
      omega
    · simp
    · rintro a x H1 Q' ⟨q, rfl, hq⟩ k'
      exact ⟨q, _, rfl, st_of hq, rfl, T a.1, [T a.2], rfl, T a.2, [], rfl, rfl, k'⟩
    · exact rc_allT (sq_of hq)
theorem ok_is_lot_form {f : Addr} {fd : FuncData} (F : Fun K "is_lot_form" "is_lot_form" st_is_lot_form f fd) (M : Md K mg) (C_is_word : Cal P w K mg base "is_word" st_is_word 2 ["thing"] sp_is_word) (C_is_ascending : Cal P w K mg base "is_ascending" st_is_ascending 1 ["things"] sp_ascending) : FnOk P w K mg base CX0 3 f fd ["thing"] sp_lot_form := by
  have nd := sc_is_lot_form.nd
  refine F.ok sc_is_lot_form (fun vs H Q E h => ?_) (fun cdv A outer s H vs Q E hr h => ?_)
  · obtain ⟨_, _, rfl, _⟩ := h
    rfl
  · obtain ⟨p, lot, rfl, ⟨hp, hL⟩, k⟩ := h
    refine ⟨_, (pss_cons (ps_if (PW.pt (pw_or (pt_not (pt_val (pe_callB (kcr K (r := rIsiB) cr_isi) (by rfl) M.n_isinstance boot_isinstance (pa_cons (pv 0) (pa_cons (pe_bltn (v := .ty "tuple") rfl M.n_tuple boot_tuple rfl) pa_nil))))) (pw_or1 (pt_not (pt_chain op_le op_le pe_int (pe_callB (kcr K (r := rLenS) call_len_seq) (by rfl) M.n_len boot_len (pa_cons (pv 0) pa_nil)) (pe_gI M.c_MOST_WORDS))))))
  (pss_one (ps_ret pe_bl))
  pss_nil)
  (pss_one (ps_ret (pe_and (pe_callB (kcr K (r := rAll) (cr_all rfl)) (by rfl) M.n_all boot_all (pa_cons (pe_lc (own := [("word", 1)]) rfl nd (kit K (pi_tup (pv 0))) (blkOk_by (N := N_is_lot_form) (sc := defScope st_is_lot_form) (by decide +kernel)) (fun _ _ _ _ _ => (pg_name (i := 1) nd rfl (Or.inl rfl))) (fun _ _ _ _ _ => pts_nil) (fun _ _ _ _ _ => (pe_cl C_is_word hr (pa_cons (pv 1) pa_nil)))) pa_nil)) (pe_one (pe_cl C_is_ascending hr (pa_cons (pv 0) pa_nil))))))), ?_⟩
    have hpos : 0 < lot.length := List.length_pos_iff.mpr hL.ne
    have hfew := hL.few
    refine q_when (b := false) (et_is (et_or (et_not (et_B (ev_cb (ea_cons (ev_var rfl) (ea_cons ev_c ea_nil)) (rc_isi (b := true) (fun H1 e => .base (.tup (e _ _ hp))) k_tuple_tuple)))) fun _ => et_not (et_test (ev_chain ev_c (ev_lenU (ev_var rfl) (st_of hp)) rv_I0 ev_c rv_I0))) ?_) (fun z => by cases z) (fun _ H1 e1 => ?_)
    · rw [List.length_map]
      simp
      omega
    · refine s_ret (ev_is (w := .bl true) (ev_andV (a := true) (b := true) (ev_cbL (el_lcM (g := fun _ => V.bl true) lot (src_tupM (ev_var rfl) (st_of (e1 _ _ hp))) (by omega) (fun _ => rfl) fun t H2 e2 ht => ev_is (ev_call (ea_cons (ev_var rfl) ea_nil) fun H3 e3 Q3 q3 E => ⟨t, rfl, by have := (hL.wd t ht).1; omega, q3⟩) (by rw [show areSigns t 12 = true from areSigns_ok (m := 12) (hL.wd t ht).1 (hL.wd t ht).2, decide_eq_false (hL.pos t ht)]; rfl)) fun q H2 hq e2 => rc_allT (sq_of hq)) fun _ => ev_call (ea_cons (ev_var rfl) ea_nil) fun H3 e3 Q3 q3 E => ⟨p, lot, rfl, ⟨(e1.trans e3) _ _ hp, hL⟩, q3⟩) rfl) (RetV.mono k e1)
theorem ok_need_lot {f : Addr} {fd : FuncData} (F : Fun K "need_lot" "need_lot" st_need_lot f fd) (M : Md K mg) (C_is_lot_form : Cal P w K mg base "is_lot_form" st_is_lot_form 3 ["thing"] sp_lot_form) : FnOk P w K mg base CX0 4 f fd ["lot"] sp_need_lot := by
  have nd := sc_need_lot.nd
  refine F.ok sc_need_lot (fun vs H Q E h => ?_) (fun cdv A outer s H vs Q E hr h => ?_)
  · obtain ⟨_, _, rfl, _⟩ := h
    rfl
  · obtain ⟨p, lot, rfl, hL, k⟩ := h
    refine ⟨_, (pss_one (ps_if (pt_not (pt_val (pe_cl C_is_lot_form hr (pa_cons (pv 0) pa_nil))))
  (pss_one ps_never)
  pss_nil)), ?_⟩
    exact s_when (b := false) (et_is (et_not (et_B (ev_call (ea_cons (ev_var rfl) ea_nil) fun H1 e1 Q q E => ⟨p, lot, rfl, hL.ex e1, q⟩))) rfl) (fun z => by cases z) (fun _ => k)
theorem ok_need_both {f : Addr} {fd : FuncData} (F : Fun K "need_both" "need_both" st_need_both f fd) (M : Md K mg) (C_need_lot : Cal P w K mg base "need_lot" st_need_lot 4 ["lot"] sp_need_lot) (C_need_text : Cal P w K mg base "need_text" st_need_text 3 ["text"] sp_need_text) : FnOk P w K mg base CX0 5 f fd ["lot", "text"] sp_need_both := by
  have nd := sc_need_both.nd
  refine F.ok sc_need_both (fun vs H Q E h => ?_) (fun cdv A outer s H vs Q E hr h => ?_)
  · obtain ⟨_, _, _, rfl, _⟩ := h
    rfl
  · obtain ⟨p, lot, a, rfl, hL, ha, hc, k⟩ := h
    refine ⟨_, (pss_cons (ps_expr (pe_cl C_need_lot hr (pa_cons (pv 0) pa_nil)))
  (pss_one (ps_expr (pe_cl C_need_text hr (pa_cons (pv 1) pa_nil))))), ?_⟩
    refine q_drop (ev_call (ea_cons (ev_var rfl) ea_nil) fun H1 e1 Q q E => ⟨p, lot, rfl, hL.ex e1, q⟩) fun H1 e1 => ?_
    exact s_drop (ev_call (ea_cons (ev_var rfl) ea_nil) fun H2 e2 Q q E => ⟨a, rfl, by omega, areSigns_ok ha hc, q⟩) fun H2 e2 => k H2 (e1.trans e2)
end
end K04
set_option Elab.async false
set_option linter.all false
set_option maxRecDepth 100000
set_option maxHeartbeats 4000000
namespace K04
open PySem PySem.Spec PyProof.Rows L2 Evl Wc Wt
section
variable {P : Program} {w : World} {K : PySem.W.Frag} {mg : Str → Option Value} {base : Heap}
/-- sorted(set(..)) of the texts of a standing list -/
theorem sortSetAt {p : Addr} {xs : List Tx} {H : Hp} {Q : VK} (hp : H p = some (.lst (xs.map T))) (hl : xs.length ≤ 4000) (k : ∀ r zs H3, Uniq xs zs → zs.length ≤ xs.length → H r = none → Ex H H3 → H3 r = some (.lst ((sortT zs).map T)) → Q (.ref r) H3) : rSetTx K P w [.ref p] H fun s H2 => rSortX K P w [s] H2 Q :=
  ⟨p, xs, rfl, sq_of hp, hl, fun q ys u hly hq => .inr ⟨q, ys, rfl, upd_same, fun zs r pz hr => by
    have hr1 : H r = none := fresh_back (Ex.new hq) hr
    exact k r zs _ ⟨pz.nodup_iff.mpr u.nd, fun x => (pz.mem_iff).trans (u.mem x)⟩ (by rw [pz.length_eq]; exact hly) hr1 ((Ex.new hq).trans (Ex.new hr)) upd_same⟩⟩
theorem s_many {tl t3 tm : TE} {D : Ends} {σ : L2.St} {H : Hp} (h : tl σ H fun v1 H1 => t3 σ H1 fun v2 H2 => rCat v1 v2 H2 fun v3 H3 => rSetTx K P w [v3] H3 fun v4 H4 => rSortX K P w [v4] H4 fun v5 H5 => rTupS K [v5] H5 fun v6 H6 => tm σ H6 fun v7 H7 => [v6, v7].length ≤ sizeLine ∧ ∀ q, H7 q = none → D.rt (.ref q) (upd H7 q (.lst [v6, v7]))) : tRet (tLst (tCons (tCB (rTupS K) (tCons (tCB (rSortX K P w) (tCons (tCB (rSetTx K P w) (tCons (tOp rCat tl t3) tNil)) tNil)) tNil)) (tCons tm tNil))) D σ H := h
def sp_case : Sp := fun vs H Q _ => ∃ (fa : Addr), vs = [.ref fa] ∧ GF fa 22000 H ∧ ∀ q pl lot text H', Rf fa 22000 H H' → LotAt pl lot H' → text.length ≤ 400 → (∀ c ∈ text, abcd c) → H' q = some (.lst [.ref pl, T text]) → Q (.ref q) H'
theorem ok__law_case {f : Addr} {fd : FuncData} (F : Fun K "_law_case" "_law_case" st__law_case f fd) (M : Md K mg) (C__law_draw : Cal P w K mg base "_law_draw" st__law_draw 1 ["feed", "many"] sp_draw) (C__law_one : Cal P w K mg base "_law_one" st__law_one 2 ["feed", "things"] (sp_one K)) (C__law_lot : Cal P w K mg base "_law_lot" st__law_lot 4 ["feed", "most"] sp_lot) (C__law_near_text : Cal P w K mg base "_law_near_text" st__law_near_text 4 ["feed", "lot", "most"] sp_near_text) : FnOk P w K mg base CX0 5 f fd ["feed"] sp_case := by
  have nd := sc__law_case.nd
  refine F.ok sc__law_case (fun vs H Q E h => ?_) (fun cdv A outer s H vs Q E hr h => ?_)
  · obtain ⟨_, rfl, _⟩ := h
    rfl
  · obtain ⟨fa, rfl, G, k⟩ := h
    refine ⟨_, (pss_cons (ps_set (i := 1) nd rfl (Or.inl rfl) (pe_cl C__law_lot hr (pa_cons (pv 0) (pa_cons pe_int pa_nil))))
  (pss_cons (ps_if (pt_cmpR op_eqI (pe_cl C__law_draw hr (pa_cons (pv 0) (pa_cons pe_int pa_nil))) pe_int (nomark _))
  (pss_cons (ps_asg (pe_tup (pa_cons (pe_cl C__law_one hr (pa_cons (pv 0) (pa_cons (pe_sT [97, 98]) pa_nil))) (pa_cons (pe_cl C__law_one hr (pa_cons (pv 0) (pa_cons (pe_lst (pa_cons pe_int (pa_cons pe_int (pa_cons pe_int pa_nil)))) pa_nil))) pa_nil))) (kgt K (n := 2) (pg_tup rfl (pgs_cons (pg_name (i := 2) nd rfl (Or.inr rfl)) (pgs_cons (pg_name (i := 3) nd rfl (Or.inl rfl)) pgs_nil)))))
  (pss_one (ps_ret (pe_lst (pa_cons (pe_callTy (kcr K (r := rTupS) call_tuple_of) (by rfl) M.n_tuple boot_tuple (pa_cons (pe_callB (ksorted P w K hr.units) (by rfl) M.n_sorted boot_sorted (pa_cons (pe_callTy (kset P w K) (by rfl) M.n_set boot_set (pa_cons (pe_op op_cat (pe_lc (own := [("turn", 4)]) rfl nd (pi_range1 (by rfl) M.n_range (pa_cons (pe_op op_add pe_int (pe_cl C__law_draw hr (pa_cons (pv 0) (pa_cons pe_int pa_nil)))) pa_nil)) (blkOk_by (N := N__law_case) (sc := defScope st__law_case) (by decide +kernel)) (fun _ _ _ _ _ => (pg_name (i := 4) nd rfl (Or.inl rfl))) (fun _ _ _ _ _ => pts_nil) (fun _ _ _ _ _ => (pe_op op_mulT (pv 2) (pe_op op_add pe_int (pe_cl C__law_draw hr (pa_cons (pv 0) (pa_cons pe_int pa_nil))))))) (pe_lst (pa_cons (pv 2) pa_nil))) pa_nil)) pa_nil)) pa_nil)) (pa_cons (pe_op op_mulT (pv 2) (pv 3)) pa_nil))))))
  pss_nil)
  (pss_one (ps_ret (pe_lst (pa_cons (pv 1) (pa_cons (pe_cl C__law_near_text hr (pa_cons (pv 0) (pa_cons (pv 1) (pa_cons (pe_cl C__law_one hr (pa_cons (pv 0) (pa_cons (pe_lst (pa_cons pe_int (pa_cons pe_int (pa_cons pe_int (pa_cons pe_int (pa_cons pe_int pa_nil)))))) pa_nil))) pa_nil)))) pa_nil))))))), ?_⟩
    refine ⟨.ref fa, rfl, fa, 12, rfl, by decide, by decide, G.mono (by omega), fun pl lot H1 hL hlen hpl R1 hp1 => ?_⟩
    have G1 : GF fa 2000 H1 := G.go R1 (by omega)
    have npl : pl ≠ fa := G1.ofTup hp1
    show tSeq _ _ _ [some (.ref fa), some (.ref pl), none, none, none] H1
    refine (show tIfS _ _ _ _ _ _ from s_dif (m := 1) (fun Q' q' => dw_test (m1 := 1) (m2 := 0) (dI_draw (lo := 7) (hi := 7) rfl dI_c) dI_c G1 Q' q') fun b H2 R2 => ?_)
    have G2 : GF fa 1900 H2 := G1.go R2 (by omega)
    have hp2 := R2.at_ hp1 npl
    have RA : Rf fa 20001 H H2 := R1.trans R2
    cases b with
    | true =>
      rw [if_pos rfl]
      refine (dT_one (lo := 2) (n := 2) (ok := abcd) rfl (dT_wk (dT_c (s := [97, 98]) fun c hc => by simp at hc; unfold abcd; omega) (by decide) (by decide)) : Dw fa [some (.ref fa), some (.ref pl), none, none, none] _ _ _) H2 (G2.mono (by omega)) _ fun v1 H3 ⟨sg, hv1, hs1, hs2, hs3⟩ R3 => (dI_oneL (ns := [12, 40, 400]) (lo := 12) (hi := 400) rfl (fun H => el_lst (ea_cons ev_c (ea_cons ev_c (ea_cons ev_c ea_nil))) (by show 3 ≤ 100000; decide)) (by decide) (by simp) (by decide) : Dw fa [some (.ref fa), some (.ref pl), none, none, none] _ _ _) H3 (G2.go R3 (m' := 1) (by omega)) _ fun v2 H4 ⟨long, hv2, hw1, hw2⟩ R4 => ⟨by show 2 ≤ sizeLine; decide, fun pt hpt => ⟨pt, _, rfl, st_of upd_same, rfl, v1, [v2], rfl, v2, [], rfl, rfl, ?_⟩⟩
      subst hv1 hv2
      obtain ⟨n, rfl⟩ := Int.eq_ofNat_of_zero_le (show 0 ≤ long by omega)
      have RB : Rf fa 20100 H (upd H4 pt (.tup [T sg, .int (n : Int)])) := ((RA.trans (R3.trans R4)).mono (by omega)).then (Ex.new hpt)
      generalize upd H4 pt (.tup [T sg, .int (n : Int)]) = H5 at RB
      have G5 : GF fa 1000 H5 := G.go RB (by omega)
      clear R3 R4 hpt
      dsimp only
      show tRet _ _ [some (.ref fa), some (.ref pl), some (T sg), some (.int (n : Int)), none] H5
      refine s_many ?_
      refine lcRD (lo := 1) (N := 4) (c := 1) (m0 := 1) (GdT abcd 1 5) (dI_wk (dI_add dI_c (dI_draw (lo := 4) (hi := 4) rfl dI_c))) (by omega) (G5.mono (by omega)) (fun _ => rfl) (fun x kk H6 R6 G6 Q' q' => ?_) _ fun pc H6 acc hpc R6 h6 hl1 hl2 hg => ?_
      · exact (dT_wk (dT_mul (c := 1) (d := 5) (a := 1) (b := 1) (dT_var rfl hs1 hs2 hs3) (dI_wk (dI_add dI_c (dI_draw (lo := 5) (hi := 5) rfl dI_c)))) : Dw fa [some (.ref fa), some (.ref pl), some (T sg), some (.int (n : Int)), some x] 1 _ (GdT abcd 1 5)) H6 G6 Q' q'
      · obtain ⟨ws, rfl, hws, hwl⟩ := wl_texts hg (by decide)
        rw [List.length_map] at hl1 hl2
        refine ⟨T sg, rfl, by show 1 ≤ sizeLine; decide, fun p3 hp3 => ?_⟩
        refine ⟨pc, p3, _, _, rfl, rfl, (Ex.new hp3) _ _ h6, upd_same, sz_of (by show _ + 1 ≤ 100000; rw [List.length_map]; omega), fun p4 hp4 => ?_⟩
        have eC : Ex H6 (upd (upd H6 p3 (.lst [T sg])) p4 (.lst (ws.map T ++ [T sg]))) := (Ex.new hp3).trans (Ex.new hp4)
        have h7 : (upd (upd H6 p3 (.lst [T sg])) p4 (.lst (ws.map T ++ [T sg]))) p4 = some (.lst ((ws ++ [sg]).map T)) := by rw [upd_same, List.map_append]; rfl
        generalize upd (upd H6 p3 (.lst [T sg])) p4 (.lst (ws.map T ++ [T sg])) = H7 at eC h7
        refine sortSetAt h7 (by rw [List.length_append, List.length_singleton]; omega) fun r zs H8 u hzl hr e8 h8 => ⟨r, _, rfl, .inl ⟨sq_of h8, fun l hl => ?_⟩⟩
        rw [List.length_append, List.length_singleton] at hzl
        have hin : ∀ t ∈ zs, t ∈ ws ∨ t = sg := fun t ht => by
          rcases List.mem_append.mp ((u.mem t).mp ht) with z | z
          · exact .inl z
          · exact .inr (List.mem_singleton.mp z)
        have hgood : ∀ t ∈ zs, 1 ≤ t.length ∧ t.length ≤ 12 ∧ ∀ c ∈ t, abcd c := fun t ht => by
          rcases hin t ht with z | rfl
          · have := hwl t z
            exact ⟨this.1, by omega, (hws t z).2⟩
          · exact ⟨hs1, by omega, hs3⟩
        have hsgz : sg ∈ sortT zs := sortT_mem.mpr ((u.mem sg).mpr (List.mem_append_right _ (List.mem_singleton.mpr rfl)))
        have RD : Rf fa 21000 H H8 := (((RB.trans R6).mono (by omega)).then eC).then e8
        have hIs : IsLot (sortT zs) := ⟨(fun z => by rw [z] at hsgz; cases hsgz), by rw [sortT_len]; omega, fun t ht => ⟨(hgood t (sortT_mem.mp ht)).2.1, (hgood t (sortT_mem.mp ht)).2.2⟩, (fun t ht z => by
          have := (hgood t (sortT_mem.mp ht)).1
          rw [z] at this
          simp at this), pw_lt (sortT_pw zs) ((sortT_perm zs).nodup_iff.mpr u.nd)⟩
        have hsl : sg.length = 1 := by omega
        have hmul : Ev (tOp rMulT (tVar 2) (tVar 3)) [some (.ref fa), some (.ref pl), some (T sg), some (.int (n : Int)), none] (upd H8 l (.tup ((sortT zs).map T))) (T (repT (n : Int).toNat sg)) := ev_op (ev_var rfl) (ev_var rfl) (rv_mulT (by omega) (by omega) (by rw [hsl]; omega))
        refine hmul _ (Ex.refl _) _ fun H9 e9 => ⟨by show 2 ≤ sizeLine; decide, fun q hq => k q l (sortT zs) _ _ (((RD.then (Ex.new hl)).then e9).then (Ex.new hq) |>.mono (by omega)) ⟨(e9.trans (Ex.new hq)) _ _ upd_same, hIs⟩ ?_ (fun c hc => hs3 c (repT_mem hc)) upd_same⟩
        rw [repT_len, hsl]
        omega
    | false =>
      rw [if_neg Bool.false_ne_true]
      unfold tNext
      dsimp only
      show tRet _ _ [some (.ref fa), some (.ref pl), none, none, none] H2
      refine ⟨.ref pl, rfl, .ref fa, rfl, .ref pl, rfl, ?_⟩
      refine (dI_oneL (ns := [2, 4, 8, 12, 60]) (lo := 2) (hi := 60) rfl (fun H => el_lst (ea_cons ev_c (ea_cons ev_c (ea_cons ev_c (ea_cons ev_c (ea_cons ev_c ea_nil))))) (by show 5 ≤ 100000; decide)) (by decide) (by simp) (by decide) : Dw fa [some (.ref fa), some (.ref pl), none, none, none] _ _ _) H2 (G2.mono (by omega)) _ fun v2 H4 ⟨long, hv2, hw1, hw2⟩ R4 => ?_
      subst hv2
      obtain ⟨n, rfl⟩ := Int.eq_ofNat_of_zero_le (show 0 ≤ long by omega)
      refine ⟨fa, pl, lot, n, rfl, by omega, G2.go R4 (by omega), R4.at_ hp2 npl, hL, fun t H5 ht hc R5 => ⟨by show 2 ≤ sizeLine; decide, fun q hq => ?_⟩⟩
      exact k q pl lot t _ ((((RA.trans R4).trans R5).mono (by omega)).then (Ex.new hq)) ⟨(Ex.new hq) _ _ (R5.at_ (R4.at_ hp2 npl) npl), hL⟩ ht hc upd_same
end
end K04
set_option Elab.async false
set_option linter.all false
set_option maxRecDepth 100000
set_option maxHeartbeats 2000000
namespace K04
open PySem PySem.Spec PyProof.Rows L2 Evl Wc Wt
/-- the word i stands at place -/
def stands (lot : List Tx) (text : Tx) (place i : Nat) : Bool := match lot[i]? with
  | some wd => decide (place + wd.length ≤ text.length ∧ StAt text wd place)
  | none => false
/-- the indexes of the words that stand at place -/
def wordsAt (lot : List Tx) (text : Tx) (place : Nat) : List Nat := (List.range lot.length).filter (stands lot text place)
theorem wordsAt_is {lot : List Tx} {text : Tx} {place i : Nat} (h : i ∈ wordsAt lot text place) : ∃ wd, lot[i]? = some wd ∧ place + wd.length ≤ text.length ∧ StAt text wd place := by
  unfold wordsAt at h
  obtain ⟨_, h2⟩ := List.mem_filter.mp h
  unfold stands at h2
  cases hw : lot[i]? with
  | none => rw [hw] at h2; cases h2
  | some wd =>
    rw [hw] at h2
    exact ⟨wd, rfl, (of_decide_eq_true h2).1, (of_decide_eq_true h2).2⟩
theorem wordsAt_mk {lot : List Tx} {text : Tx} {place i : Nat} {wd : Tx} (h : lot[i]? = some wd) (h1 : place + wd.length ≤ text.length) (h2 : StAt text wd place) : i ∈ wordsAt lot text place :=
  List.mem_filter.mpr ⟨List.mem_range.mpr (List.getElem?_eq_some_iff.mp h).1, by unfold stands; rw [h]; exact decide_eq_true ⟨h1, h2⟩⟩
theorem wordsAt_len (lot : List Tx) (text : Tx) (place : Nat) : (wordsAt lot text place).length ≤ lot.length := by
  unfold wordsAt
  have := List.length_filter_le (stands lot text place) (List.range lot.length)
  rw [List.length_range] at this
  exact this
theorem words_lt (lot : List Tx) (text : Tx) (p : Nat) : (wordsAt lot text p).Pairwise (· < ·) := List.Pairwise.filter _ List.pairwise_lt_range
def wl (lot : List Tx) (i : Nat) : Nat := (lot.getD i []).length
theorem wl_of {lot : List Tx} {i : Nat} {wd : Tx} (h : lot[i]? = some wd) : wl lot i = wd.length := by
  unfold wl
  rw [List.getD_eq_getElem?_getD, h]
  rfl
/-! ### all cuts of what is behind a place, ascending -/
def cutsF (lot : List Tx) (text : Tx) : Nat → Nat → List (List Nat)
  | 0, p => if p = text.length then [[]] else []
  | d + 1, p => if p = text.length then [[]] else (wordsAt lot text p).flatMap fun i => (cutsF lot text d (p + wl lot i)).map (i :: ·)
def cutsAt (lot : List Tx) (text : Tx) (p : Nat) : List (List Nat) := cutsF lot text (text.length - p) p
theorem flatMap_same {α β : Type} {l : List α} {f g : α → List β} (h : ∀ a ∈ l, f a = g a) : l.flatMap f = l.flatMap g := by
  rw [List.flatMap_def, List.flatMap_def, List.map_congr_left h]
def Pos (lot : List Tx) : Prop := ∀ wd ∈ lot, wd ≠ []
theorem word_pos {lot : List Tx} (hL : Pos lot) {text : Tx} {p i : Nat} (h : i ∈ wordsAt lot text p) : 0 < wl lot i ∧ p + wl lot i ≤ text.length ∧ i < lot.length := by
  obtain ⟨wd, h1, h2, _⟩ := wordsAt_is h
  rw [wl_of h1]
  exact ⟨List.length_pos_iff.mpr (hL wd (List.mem_of_getElem? h1)), h2, (List.getElem?_eq_some_iff.mp h1).1⟩
theorem cutsF_fuel {lot : List Tx} (hL : Pos lot) {text : Tx} : ∀ d d' p, p ≤ text.length → text.length - p ≤ d → text.length - p ≤ d' → cutsF lot text d p = cutsF lot text d' p := fun d => by
  induction d with
  | zero =>
    intro d' p hp h1 h2
    have : p = text.length := by omega
    cases d' with
    | zero => rfl
    | succ d' =>
      unfold cutsF
      rw [if_pos this, if_pos this]
  | succ d ih =>
    intro d' p hp h1 h2
    by_cases h : p = text.length
    · cases d' with
      | zero =>
        unfold cutsF
        rw [if_pos h, if_pos h]
      | succ d' =>
        unfold cutsF
        rw [if_pos h, if_pos h]
    · cases d' with
      | zero => omega
      | succ d' =>
        unfold cutsF
        rw [if_neg h, if_neg h]
        refine flatMap_same fun i hi => ?_
        have := word_pos hL hi
        rw [ih d' (p + wl lot i) (by omega) (by omega) (by omega)]
theorem cuts_last (lot : List Tx) (text : Tx) : cutsAt lot text text.length = [[]] := by
  unfold cutsAt
  rw [Nat.sub_self]
  unfold cutsF
  rw [if_pos rfl]
theorem cuts_step {lot : List Tx} (hL : Pos lot) {text : Tx} {p : Nat} (hp : p < text.length) : cutsAt lot text p = (wordsAt lot text p).flatMap fun i => (cutsAt lot text (p + wl lot i)).map (i :: ·) := by
  obtain ⟨d, hd⟩ : ∃ d, text.length - p = d + 1 := ⟨text.length - p - 1, by omega⟩
  have e : cutsAt lot text p = cutsF lot text (d + 1) p := by unfold cutsAt; rw [hd]
  rw [e]
  unfold cutsF
  rw [if_neg (by omega)]
  refine flatMap_same fun i hi => ?_
  have := word_pos hL hi
  unfold cutsAt
  rw [cutsF_fuel hL d (text.length - (p + wl lot i)) (p + wl lot i) (by omega) (by omega) (by omega)]
/-- the words of these indexes, one behind the other -/
def put (lot : List Tx) (c : List Nat) : Tx := (c.map fun i => lot.getD i []).flatten
theorem put_cons (lot : List Tx) (i : Nat) (c : List Nat) : put lot (i :: c) = lot.getD i [] ++ put lot c := rfl
theorem put_app (lot : List Tx) (c d : List Nat) : put lot (c ++ d) = put lot c ++ put lot d := by
  unfold put
  rw [List.map_append, List.flatten_append]
def Ixs (lot : List Tx) (c : List Nat) : Prop := ∀ i ∈ c, i < lot.length
theorem stAt_drop {text wd : Tx} {p : Nat} : StAt text wd p ↔ (text.drop p).take wd.length = wd := Iff.rfl
theorem mem_cuts {lot : List Tx} (hL : Pos lot) {text : Tx} : ∀ d p, p + d = text.length → ∀ c, c ∈ cutsAt lot text p ↔ Ixs lot c ∧ put lot c = text.drop p := by
  intro d
  induction d using Nat.strongRecOn with
  | _ d ih =>
    intro p hp c
    by_cases hd : d = 0
    · have : p = text.length := by omega
      subst this
      rw [cuts_last, List.mem_singleton, List.drop_length]
      constructor
      · rintro rfl
        exact ⟨fun i hi => (nomatch hi), rfl⟩
      · rintro ⟨h1, h2⟩
        cases c with
        | nil => rfl
        | cons i c =>
          rw [put_cons] at h2
          have hi := h1 i List.mem_cons_self
          have hz := (List.append_eq_nil_iff.mp h2).1
          rw [List.getD_eq_getElem?_getD, List.getElem?_eq_getElem hi] at hz
          exact absurd hz (hL _ (List.getElem_mem hi))
    · rw [cuts_step hL (by omega), List.mem_flatMap]
      constructor
      · rintro ⟨i, hi, hc⟩
        obtain ⟨c', hc', rfl⟩ := List.mem_map.mp hc
        have hw := word_pos hL hi
        obtain ⟨h1, h2⟩ := (ih (d - wl lot i) (by omega) (p + wl lot i) (by omega) c').mp hc'
        obtain ⟨wd, w1, w2, w3⟩ := wordsAt_is hi
        refine ⟨fun j hj => ?_, ?_⟩
        · rcases List.mem_cons.mp hj with rfl | hj
          · exact hw.2.2
          · exact h1 j hj
        · rw [put_cons, h2, wl_of w1]
          have e : lot.getD i [] = wd := by rw [List.getD_eq_getElem?_getD, w1]; rfl
          rw [e, ← List.drop_drop]
          conv => rhs; rw [← List.take_append_drop wd.length (text.drop p)]
          rw [stAt_drop.mp w3]
      · rintro ⟨h1, h2⟩
        cases c with
        | nil =>
          have := congrArg List.length h2
          rw [List.length_drop] at this
          simp [put] at this
          omega
        | cons i c' =>
          have hi := h1 i List.mem_cons_self
          have w1 := List.getElem?_eq_getElem hi
          have e : lot.getD i [] = lot[i] := by rw [List.getD_eq_getElem?_getD, w1]; rfl
          rw [put_cons, e] at h2
          have hl := congrArg List.length h2
          rw [List.length_append, List.length_drop] at hl
          have hpos := List.length_pos_iff.mpr (hL _ (List.getElem_mem hi))
          have hst : StAt text lot[i] p := stAt_drop.mpr (by rw [← h2, List.take_left])
          refine ⟨i, wordsAt_mk w1 (by omega) hst, List.mem_map.mpr ⟨c', ?_, rfl⟩⟩
          rw [wl_of w1]
          refine (ih (d - lot[i].length) (by omega) (p + lot[i].length) (by omega) c').mpr ⟨fun j hj => h1 j (List.mem_cons_of_mem _ hj), ?_⟩
          rw [← List.drop_drop, ← h2, List.drop_left]
theorem nodup_cuts {lot : List Tx} (hL : Pos lot) {text : Tx} : ∀ d p, p + d = text.length → (cutsAt lot text p).Nodup := by
  intro d
  induction d using Nat.strongRecOn with
  | _ d ih =>
    intro p hp
    by_cases hd : d = 0
    · have : p = text.length := by omega
      subst this
      rw [cuts_last]
      exact List.pairwise_singleton _ _
    · rw [cuts_step hL (by omega)]
      show List.Pairwise _ _
      rw [List.pairwise_flatMap]
      refine ⟨fun i hi => ?_, List.Pairwise.imp_of_mem (fun {a b} ha hb hab x hx y hy => ?_) (words_lt lot text p)⟩
      · have := word_pos hL hi
        rw [List.pairwise_map]
        exact List.Pairwise.imp (fun {a b} h z => h (List.cons.inj z).2) (ih (d - wl lot i) (by omega) (p + wl lot i) (by omega))
      · obtain ⟨x', _, rfl⟩ := List.mem_map.mp hx
        obtain ⟨y', _, rfl⟩ := List.mem_map.mp hy
        intro z
        have := (List.cons.inj z).1
        omega
/-! ### the cut with a number, the number of a cut -/
def sumL {β : Type} (f : Nat → List β) (l : List Nat) : Nat := (l.map fun i => (f i).length).sum
theorem sumL_take {β : Type} {f : Nat → List β} {l : List Nat} {j i : Nat} (h : l[j]? = some i) : sumL f (l.take (j + 1)) = sumL f (l.take j) + (f i).length := by
  unfold sumL
  rw [List.take_add_one, h, List.map_append, List.sum_append]
  simp
theorem sumL_all {β : Type} (f : Nat → List β) (l : List Nat) : (l.flatMap f).length = sumL f l := by
  unfold sumL
  rw [List.length_flatMap]
theorem pick_at {β : Type} {f : Nat → List β} : ∀ {l : List Nat} {j i k : Nat}, l[j]? = some i → k < (f i).length → (l.flatMap f)[sumL f (l.take j) + k]? = (f i)[k]? := fun {l} => by
  induction l with
  | nil => intro j i k h; simp at h
  | cons a l ih =>
    intro j i k h hk
    rw [List.flatMap_cons]
    cases j with
    | zero =>
      rw [List.getElem?_cons_zero] at h
      cases h
      have : sumL f ((a :: l).take 0) + k = k := by unfold sumL; simp
      rw [this, List.getElem?_append_left hk]
    | succ j =>
      rw [List.getElem?_cons_succ] at h
      have : sumL f ((a :: l).take (j + 1)) = (f a).length + sumL f (l.take j) := by unfold sumL; simp
      rw [this, List.getElem?_append_right (by omega), ← ih h hk]
      congr 1
      omega
theorem pick_ex {β : Type} {f : Nat → List β} : ∀ {l : List Nat} {k : Nat}, k < sumL f l → ∃ j i k', l[j]? = some i ∧ k' < (f i).length ∧ sumL f (l.take j) + k' = k := fun {l} => by
  induction l with
  | nil => intro k h; unfold sumL at h; simp at h
  | cons a l ih =>
    intro k h
    have e : sumL f (a :: l) = (f a).length + sumL f l := by unfold sumL; simp
    by_cases hk : k < (f a).length
    · exact ⟨0, a, k, rfl, hk, by unfold sumL; simp⟩
    · obtain ⟨j, i, k', h1, h2, h3⟩ := ih (k := k - (f a).length) (by omega)
      refine ⟨j + 1, i, k', h1, h2, ?_⟩
      have : sumL f ((a :: l).take (j + 1)) = (f a).length + sumL f (l.take j) := by unfold sumL; simp
      omega
/-- how many cuts begin with a lesser word at p -/
def before (lot : List Tx) (text : Tx) (p t : Nat) : Nat := sumL (fun i => cutsAt lot text (p + wl lot i)) ((List.range t).filter (stands lot text p))
def rankF (lot : List Tx) (text : Tx) : Nat → List Nat → Nat
  | _, [] => 0
  | p, t :: c => before lot text p t + rankF lot text (p + wl lot t) c
theorem filter_pre {q : Nat → Bool} {n : Nat} : ∀ {j t : Nat}, ((List.range n).filter q)[j]? = some t → ((List.range n).filter q).take j = (List.range t).filter q := by
  induction n with
  | zero => intro j t h; simp at h
  | succ n ih =>
    intro j t h
    rw [List.range_succ, List.filter_append] at h ⊢
    by_cases hj : j < ((List.range n).filter q).length
    · rw [List.getElem?_append_left hj] at h
      rw [List.take_append_of_le_length (by omega)]
      exact ih h
    · rw [List.getElem?_append_right (by omega)] at h
      cases hq : q n with
      | false =>
        rw [List.filter_cons_of_neg (by rw [hq]; exact Bool.false_ne_true)] at h
        simp at h
      | true =>
        rw [List.filter_cons_of_pos hq] at h ⊢
        have hl := (List.getElem?_eq_some_iff.mp h).1
        simp at hl
        have hj0 : j = ((List.range n).filter q).length := by omega
        rw [hj0, Nat.sub_self] at h
        simp at h
        subst h
        rw [hj0, List.take_left]
theorem words_pre {lot : List Tx} {text : Tx} {p j t : Nat} (h : (wordsAt lot text p)[j]? = some t) : (wordsAt lot text p).take j = (List.range t).filter (stands lot text p) := filter_pre h
theorem cuts_nth {lot : List Tx} (hL : Pos lot) {text : Tx} {p j i k : Nat} (hp : p < text.length) (h : (wordsAt lot text p)[j]? = some i) (hk : k < (cutsAt lot text (p + wl lot i)).length) : (cutsAt lot text p)[sumL (fun i => cutsAt lot text (p + wl lot i)) ((wordsAt lot text p).take j) + k]? = (cutsAt lot text (p + wl lot i))[k]?.map (i :: ·) := by
  rw [cuts_step hL hp]
  have e : sumL (fun i => cutsAt lot text (p + wl lot i)) ((wordsAt lot text p).take j) = sumL (fun i => (cutsAt lot text (p + wl lot i)).map (i :: ·)) ((wordsAt lot text p).take j) := by
    unfold sumL
    simp
  rw [e, pick_at (f := fun i => (cutsAt lot text (p + wl lot i)).map (i :: ·)) h (by rw [List.length_map]; exact hk), List.getElem?_map]
theorem cuts_count {lot : List Tx} (hL : Pos lot) {text : Tx} {p : Nat} (hp : p < text.length) : (cutsAt lot text p).length = sumL (fun i => cutsAt lot text (p + wl lot i)) (wordsAt lot text p) := by
  rw [cuts_step hL hp, sumL_all]
  unfold sumL
  simp
theorem rank_nth {lot : List Tx} (hL : Pos lot) {text : Tx} : ∀ d p, p + d = text.length → ∀ k c, (cutsAt lot text p)[k]? = some c → rankF lot text p c = k := by
  intro d
  induction d using Nat.strongRecOn with
  | _ d ih =>
    intro p hp k c hc
    by_cases hd : d = 0
    · have : p = text.length := by omega
      subst this
      rw [cuts_last] at hc
      cases k with
      | zero =>
        cases hc
        rfl
      | succ k => simp at hc
    · have hk := (List.getElem?_eq_some_iff.mp hc).1
      rw [cuts_count hL (by omega)] at hk
      obtain ⟨j, i, k', h1, h2, h3⟩ := pick_ex hk
      have hw := word_pos hL (List.mem_of_getElem? h1)
      rw [← h3, cuts_nth hL (by omega) h1 h2] at hc
      cases e : (cutsAt lot text (p + wl lot i))[k']? with
      | none => rw [e] at hc; cases hc
      | some c' =>
        rw [e] at hc
        cases hc
        show before lot text p i + rankF lot text (p + wl lot i) c' = k
        rw [ih (d - wl lot i) (by omega) (p + wl lot i) (by omega) k' c' e]
        unfold before
        rw [← words_pre h1]
        exact h3
/-! ### cuts of beginnings, by their last words -/
def endsAt (lot : List Tx) (text : Tx) (e : Nat) : List Nat := (List.range lot.length).filter fun i => decide (wl lot i ≤ e) && stands lot text (e - wl lot i) i
def preF (lot : List Tx) (text : Tx) : Nat → Nat → List (List Nat)
  | 0, e => if e = 0 then [[]] else []
  | d + 1, e => if e = 0 then [[]] else (endsAt lot text e).flatMap fun i => (preF lot text d (e - wl lot i)).map (· ++ [i])
def preAt (lot : List Tx) (text : Tx) (e : Nat) : List (List Nat) := preF lot text e e
theorem ends_is {lot : List Tx} (hL : Pos lot) {text : Tx} {e i : Nat} (h : i ∈ endsAt lot text e) : ∃ wd, lot[i]? = some wd ∧ wl lot i = wd.length ∧ 0 < wd.length ∧ wd.length ≤ e ∧ e ≤ text.length ∧ StAt text wd (e - wd.length) := by
  obtain ⟨h1, h2⟩ := List.mem_filter.mp h
  rw [Bool.and_eq_true, decide_eq_true_eq] at h2
  obtain ⟨h2, h3⟩ := h2
  unfold stands at h3
  cases hw : lot[i]? with
  | none => rw [hw] at h3; cases h3
  | some wd =>
    rw [hw, wl_of hw] at h3
    rw [wl_of hw] at h2
    have := of_decide_eq_true h3
    exact ⟨wd, rfl, wl_of hw, List.length_pos_iff.mpr (hL wd (List.mem_of_getElem? hw)), h2, by omega, this.2⟩
theorem preF_fuel {lot : List Tx} (hL : Pos lot) {text : Tx} : ∀ d d' e, e ≤ d → e ≤ d' → preF lot text d e = preF lot text d' e := fun d => by
  induction d with
  | zero =>
    intro d' e h1 h2
    have : e = 0 := by omega
    cases d' with
    | zero => rfl
    | succ d' =>
      unfold preF
      rw [if_pos this, if_pos this]
  | succ d ih =>
    intro d' e h1 h2
    by_cases h : e = 0
    · cases d' with
      | zero =>
        unfold preF
        rw [if_pos h, if_pos h]
      | succ d' =>
        unfold preF
        rw [if_pos h, if_pos h]
    · cases d' with
      | zero => omega
      | succ d' =>
        unfold preF
        rw [if_neg h, if_neg h]
        refine flatMap_same fun i hi => ?_
        obtain ⟨wd, _, w2, w3, _⟩ := ends_is hL hi
        rw [ih d' (e - wl lot i) (by omega) (by omega)]
theorem pre_first (lot : List Tx) (text : Tx) : preAt lot text 0 = [[]] := by
  unfold preAt preF
  rw [if_pos rfl]
theorem pre_step {lot : List Tx} (hL : Pos lot) {text : Tx} {e : Nat} (he : 0 < e) : preAt lot text e = (endsAt lot text e).flatMap fun i => (preAt lot text (e - wl lot i)).map (· ++ [i]) := by
  obtain ⟨d, rfl⟩ : ∃ d, e = d + 1 := ⟨e - 1, by omega⟩
  unfold preAt
  rw [preF, if_neg (by omega)]
  refine flatMap_same fun i hi => ?_
  obtain ⟨wd, _, w2, w3, _⟩ := ends_is hL hi
  rw [preF_fuel hL d (d + 1 - wl lot i) (d + 1 - wl lot i) (by omega) (by omega)]
theorem mem_pre {lot : List Tx} (hL : Pos lot) {text : Tx} : ∀ e, e ≤ text.length → ∀ c, c ∈ preAt lot text e ↔ Ixs lot c ∧ put lot c = text.take e := by
  intro e
  induction e using Nat.strongRecOn with
  | _ e ih =>
    intro he c
    by_cases h0 : e = 0
    · subst h0
      rw [pre_first, List.mem_singleton, List.take_zero]
      constructor
      · rintro rfl
        exact ⟨fun i hi => (nomatch hi), rfl⟩
      · rintro ⟨h1, h2⟩
        cases c with
        | nil => rfl
        | cons i c =>
          rw [put_cons] at h2
          have hi := h1 i List.mem_cons_self
          have hz := (List.append_eq_nil_iff.mp h2).1
          rw [List.getD_eq_getElem?_getD, List.getElem?_eq_getElem hi] at hz
          exact absurd hz (hL _ (List.getElem_mem hi))
    · rw [pre_step hL (by omega), List.mem_flatMap]
      constructor
      · rintro ⟨i, hi, hc⟩
        obtain ⟨c', hc', rfl⟩ := List.mem_map.mp hc
        obtain ⟨wd, w1, w2, w3, w4, w5, w6⟩ := ends_is hL hi
        rw [w2] at hc'
        obtain ⟨h1, h2⟩ := (ih (e - wd.length) (by omega) (by omega) c').mp hc'
        refine ⟨fun j hj => ?_, ?_⟩
        · rcases List.mem_append.mp hj with hj | hj
          · exact h1 j hj
          · rw [List.mem_singleton.mp hj]
            exact (List.getElem?_eq_some_iff.mp w1).1
        · have e1 : put lot [i] = wd := by
            unfold put
            simp [w1]
          rw [put_app, h2, e1]
          obtain ⟨b, hb⟩ : ∃ b, b + wd.length = e := ⟨e - wd.length, by omega⟩
          subst hb
          rw [Nat.add_sub_cancel] at w6 ⊢
          rw [List.take_add, stAt_drop.mp w6]
      · rintro ⟨h1, h2⟩
        have hne : c ≠ [] := fun z => by
          subst z
          have := congrArg List.length h2
          rw [List.length_take] at this
          simp [put] at this
          omega
        obtain ⟨c', i, rfl⟩ : ∃ c' i, c = c' ++ [i] := ⟨c.dropLast, c.getLast hne, (List.dropLast_concat_getLast hne).symm⟩
        have hi := h1 i (List.mem_append_right _ (List.mem_singleton.mpr rfl))
        have w1 := List.getElem?_eq_getElem hi
        have e1 : put lot [i] = lot[i] := by
          unfold put
          simp [w1]
        rw [put_app, e1] at h2
        have hl := congrArg List.length h2
        rw [List.length_append, List.length_take] at hl
        have hpos := List.length_pos_iff.mpr (hL _ (List.getElem_mem hi))
        have hb : (put lot c').length + lot[i].length = e := by omega
        have h3 : text.take e = text.take (put lot c').length ++ (text.drop (put lot c').length).take lot[i].length := by rw [← hb, List.take_add]
        rw [h3] at h2
        obtain ⟨a1, a2⟩ := List.append_inj h2 (by rw [List.length_take]; omega)
        refine ⟨i, List.mem_filter.mpr ⟨List.mem_range.mpr hi, ?_⟩, List.mem_map.mpr ⟨c', ?_, rfl⟩⟩
        · rw [Bool.and_eq_true, decide_eq_true_eq, wl_of w1]
          refine ⟨by omega, ?_⟩
          unfold stands
          rw [w1]
          refine decide_eq_true ⟨by omega, ?_⟩
          rw [show e - lot[i].length = (put lot c').length by omega]
          exact stAt_drop.mpr a2.symm
        · rw [wl_of w1]
          refine (ih (e - lot[i].length) (by omega) (by omega) c').mpr ⟨fun j hj => h1 j (List.mem_append_left _ hj), ?_⟩
          rw [show e - lot[i].length = (put lot c').length by omega]
          exact a1
theorem nodup_pre {lot : List Tx} (hL : Pos lot) {text : Tx} : ∀ e, (preAt lot text e).Nodup := by
  intro e
  induction e using Nat.strongRecOn with
  | _ e ih =>
    by_cases h0 : e = 0
    · subst h0
      rw [pre_first]
      exact List.pairwise_singleton _ _
    · rw [pre_step hL (by omega)]
      show List.Pairwise _ _
      rw [List.pairwise_flatMap]
      refine ⟨fun i hi => ?_, List.Pairwise.imp_of_mem (fun {a b} ha hb hab x hx y hy => ?_) (List.Pairwise.filter _ List.pairwise_lt_range)⟩
      · obtain ⟨wd, w1, w2, w3, w4, _⟩ := ends_is hL hi
        rw [List.pairwise_map]
        exact List.Pairwise.imp (fun {a b} h z => h (List.append_cancel_right z)) (ih (e - wl lot i) (by omega))
      · obtain ⟨x', _, rfl⟩ := List.mem_map.mp hx
        obtain ⟨y', _, rfl⟩ := List.mem_map.mp hy
        intro z
        have := congrArg List.getLast? z
        simp at this
        omega
theorem len_same {α : Type} {l l' : List α} (h1 : l.Nodup) (h2 : l'.Nodup) (h : ∀ a, a ∈ l ↔ a ∈ l') : l.length = l'.length := ((List.perm_ext_iff_of_nodup h1 h2).mpr h).length_eq
/-- as many from the beginning on as from the end -/
theorem count_pre {lot : List Tx} (hL : Pos lot) (text : Tx) : (preAt lot text text.length).length = (cutsAt lot text 0).length :=
  len_same (nodup_pre hL _) (nodup_cuts hL text.length 0 (by omega)) fun c => by
    rw [mem_pre hL _ (Nat.le_refl _), mem_cuts hL text.length 0 (by omega), List.take_length, List.drop_zero]
theorem put_rev (lot : List Tx) (c : List Nat) : put (lot.map List.reverse) c = (put lot c.reverse).reverse := by
  induction c with
  | nil => rfl
  | cons i c ih =>
    rw [put_cons, ih, List.reverse_cons, put_app, List.reverse_append]
    congr 1
    unfold put
    simp only [List.map_cons, List.map_nil, List.flatten_cons, List.flatten_nil, List.append_nil]
    rw [List.getD_eq_getElem?_getD, List.getD_eq_getElem?_getD, List.getElem?_map]
    cases lot[i]? with
    | none => rfl
    | some wd => rfl
theorem pos_rev {lot : List Tx} (hL : Pos lot) : Pos (lot.map List.reverse) := fun wd h z => by
  obtain ⟨x, hx, rfl⟩ := List.mem_map.mp h
  exact hL x hx (List.reverse_eq_nil_iff.mp z)
/-- .. and of the words and the text read backwards -/
theorem count_rev {lot : List Tx} (hL : Pos lot) {text : Tx} {p : Nat} (hp : p ≤ text.length) : (preAt (lot.map List.reverse) text.reverse (text.length - p)).length = (cutsAt lot text p).length := by
  have h := len_same (l := (preAt (lot.map List.reverse) text.reverse (text.length - p)).map List.reverse) (l' := cutsAt lot text p) ?_ (nodup_cuts hL (text.length - p) p (by omega)) fun c => ?_
  · rw [List.length_map] at h
    exact h
  · show List.Pairwise _ _
    rw [List.pairwise_map]
    exact List.Pairwise.imp (fun {a b} h z => h (List.reverse_inj.mp z)) (nodup_pre (pos_rev hL) _)
  · have key : ∀ d, d ∈ preAt (lot.map List.reverse) text.reverse (text.length - p) ↔ d.reverse ∈ cutsAt lot text p := fun d => by
      rw [mem_pre (pos_rev hL) _ (by rw [List.length_reverse]; omega), mem_cuts hL (text.length - p) p (by omega), put_rev]
      have e : text.reverse.take (text.length - p) = (text.drop p).reverse := by
        rw [List.take_reverse]
        congr 2
        omega
      rw [e, List.reverse_inj]
      refine and_congr_left fun _ => ?_
      unfold Ixs
      rw [List.length_map]
      exact ⟨fun h i hi => h i (List.mem_reverse.mp hi), fun h i hi => h i (List.mem_reverse.mpr hi)⟩
    rw [List.mem_map]
    constructor
    · rintro ⟨d, hd, rfl⟩
      exact (key d).mp hd
    · intro hc
      exact ⟨c.reverse, (key _).mpr (by rw [List.reverse_reverse]; exact hc), List.reverse_reverse c⟩
end K04
set_option Elab.async false
set_option linter.all false
set_option maxRecDepth 100000
set_option maxHeartbeats 2000000
namespace K04
open PySem PySem.Spec PyProof.Rows L2 Evl Wc Wt
def endc (lot : List Tx) (text : Tx) (e i : Nat) : Bool := decide (wl lot i ≤ e) && stands lot text (e - wl lot i) i
/-- as many as the first j words give -/
def preJ (lot : List Tx) (text : Tx) (e j : Nat) : Nat := sumL (fun i => preAt lot text (e - wl lot i)) ((List.range j).filter (endc lot text e))
theorem preJ_zero (lot : List Tx) (text : Tx) (e : Nat) : preJ lot text e 0 = 0 := rfl
theorem preJ_succ (lot : List Tx) (text : Tx) (e j : Nat) : preJ lot text e (j + 1) = preJ lot text e j + if endc lot text e j = true then (preAt lot text (e - wl lot j)).length else 0 := by
  unfold preJ sumL
  rw [List.range_succ, List.filter_append, List.map_append, List.sum_append]
  congr 1
  cases h : endc lot text e j with
  | true => simp [h]
  | false => simp [h]
theorem preJ_all {lot : List Tx} (hL : Pos lot) {text : Tx} {e : Nat} (he : 0 < e) : preJ lot text e lot.length = (preAt lot text e).length := by
  rw [pre_step hL he, sumL_all]
  unfold preJ sumL endsAt endc
  simp
theorem endc_at {lot : List Tx} {text : Tx} {B j : Nat} {wd : Tx} (h : lot[j]? = some wd) (hn : B + wd.length ≤ text.length) : endc lot text (B + wd.length) j = decide (StAt text wd B) := by
  unfold endc stands
  rw [wl_of h, h, Nat.add_sub_cancel, decide_eq_true (by omega), Bool.true_and]
  exact decide_eq_decide.mpr ⟨fun z => z.2, fun z => ⟨hn, z⟩⟩
theorem endc_no {lot : List Tx} {text : Tx} {e j : Nat} {wd : Tx} (h : lot[j]? = some wd) (hn : ¬ wd.length ≤ e) : endc lot text e j = false := by
  unfold endc
  rw [wl_of h, decide_eq_false hn, Bool.false_and]
def aheadL (lot : List Tx) (text : Tx) : List V := (List.range (text.length + 1)).map fun e => V.int ((preAt lot text e).length : Int)
/-! ### beginnings, counted on from each place -/
theorem sum_filter {α : Type} (p : α → Bool) (f : α → Nat) : ∀ l : List α, ((l.filter p).map f).sum = (l.map fun a => if p a = true then f a else 0).sum
  | [] => rfl
  | a :: l => by
    cases h : p a with
    | true => rw [List.filter_cons_of_pos h, List.map_cons, List.map_cons, List.sum_cons, List.sum_cons, sum_filter p f l, if_pos h]
    | false => rw [List.filter_cons_of_neg (by rw [h]; exact Bool.false_ne_true), List.map_cons, List.sum_cons, sum_filter p f l, if_neg (by rw [h]; exact Bool.false_ne_true), Nat.zero_add]
theorem sum_add {α : Type} (f g : α → Nat) : ∀ l : List α, (l.map fun a => f a + g a).sum = (l.map f).sum + (l.map g).sum
  | [] => rfl
  | a :: l => by
    rw [List.map_cons, List.map_cons, List.map_cons, List.sum_cons, List.sum_cons, List.sum_cons, sum_add f g l]
    omega
theorem sum_same {α : Type} {f g : α → Nat} {l : List α} (h : ∀ a ∈ l, f a = g a) : (l.map f).sum = (l.map g).sum := by rw [List.map_congr_left h]
/-- how many beginnings of q, their last words begun below i -/
def Bf (lot : List Tx) (text : Tx) (i q : Nat) : Nat := (if q = 0 then 1 else 0) + ((List.range lot.length).map fun idx => if endc lot text q idx = true ∧ q - wl lot idx < i then (preAt lot text (q - wl lot idx)).length else 0).sum
/-- what the first j words at i add -/
def Cf (lot : List Tx) (text : Tx) (i j q : Nat) : Nat := (((wordsAt lot text i).take j).map fun idx => if i + wl lot idx = q then (preAt lot text i).length else 0).sum
theorem Bf_zero (lot : List Tx) (text : Tx) (q : Nat) : Bf lot text 0 q = if q = 0 then 1 else 0 := by
  unfold Bf
  rw [sum_same (g := fun _ => 0) (fun idx _ => if_neg fun z => absurd z.2 (by omega))]
  have : ∀ n : Nat, ((List.range n).map fun _ => 0).sum = 0 := fun n => by induction n with
    | zero => rfl
    | succ n ih => rw [List.range_succ, List.map_append, List.sum_append, ih]; rfl
  rw [this]
  omega
theorem Cf_zero (lot : List Tx) (text : Tx) (i q : Nat) : Cf lot text i 0 q = 0 := rfl
theorem Cf_succ {lot : List Tx} {text : Tx} {i j q idx : Nat} (h : (wordsAt lot text i)[j]? = some idx) : Cf lot text i (j + 1) q = Cf lot text i j q + if i + wl lot idx = q then (preAt lot text i).length else 0 := by
  unfold Cf
  rw [List.take_add_one, h, List.map_append, List.sum_append]
  simp
theorem Bf_succ {lot : List Tx} {text : Tx} (i q : Nat) : Bf lot text (i + 1) q = Bf lot text i q + Cf lot text i (wordsAt lot text i).length q := by
  unfold Bf Cf
  rw [List.take_length, Nat.add_assoc]
  congr 1
  unfold wordsAt
  rw [sum_filter, ← sum_add]
  refine sum_same fun idx hidx => ?_
  by_cases h1 : endc lot text q idx = true ∧ q - wl lot idx < i + 1
  · rw [if_pos h1]
    obtain ⟨h2, h3⟩ := h1
    by_cases h4 : q - wl lot idx < i
    · rw [if_pos ⟨h2, h4⟩]
      unfold endc at h2
      rw [Bool.and_eq_true, decide_eq_true_eq] at h2
      have : ¬ i + wl lot idx = q := by omega
      rw [if_neg this]
      split <;> rfl
    · rw [if_neg fun z => h4 z.2]
      have e : q - wl lot idx = i := by omega
      unfold endc at h2
      rw [Bool.and_eq_true, decide_eq_true_eq, e] at h2
      rw [if_pos h2.2, if_pos (by omega), e, Nat.zero_add]
  · rw [if_neg h1, if_neg fun z => h1 ⟨z.1, by omega⟩, Nat.zero_add]
    by_cases h2 : stands lot text i idx = true
    · rw [if_pos h2]
      by_cases h3 : i + wl lot idx = q
      · exfalso
        refine h1 ⟨?_, by omega⟩
        unfold endc
        rw [decide_eq_true (by omega), Bool.true_and, show q - wl lot idx = i by omega]
        exact h2
      · rw [if_neg h3]
    · rw [if_neg h2]
theorem endc_pos {lot : List Tx} (hL : Pos lot) {text : Tx} {q idx : Nat} (h : endc lot text q idx = true) : 0 < wl lot idx ∧ wl lot idx ≤ q := by
  unfold endc at h
  rw [Bool.and_eq_true, decide_eq_true_eq] at h
  obtain ⟨h1, h2⟩ := h
  unfold stands at h2
  cases hw : lot[idx]? with
  | none => rw [hw] at h2; cases h2
  | some wd => exact ⟨by rw [wl_of hw]; exact List.length_pos_iff.mpr (hL wd (List.mem_of_getElem? hw)), h1⟩
theorem Bf_all {lot : List Tx} (hL : Pos lot) {text : Tx} {i q : Nat} (h : q ≤ i) : Bf lot text i q = (preAt lot text q).length := by
  unfold Bf
  by_cases hq : q = 0
  · subst hq
    rw [sum_same (g := fun _ => 0) (fun idx _ => if_neg fun z => by
      have := endc_pos hL z.1
      omega)]
    have := Bf_zero lot text 0
    unfold Bf at this
    rw [sum_same (g := fun _ => 0) (fun idx _ => if_neg fun z => absurd z.2 (by omega))] at this
    rw [this, pre_first]
    rfl
  · rw [if_neg hq, Nat.zero_add, ← preJ_all hL (by omega)]
    unfold preJ sumL
    rw [sum_filter]
    refine sum_same fun idx _ => ?_
    by_cases h1 : endc lot text q idx = true
    · rw [if_pos h1, if_pos ⟨h1, by have := endc_pos hL h1; omega⟩]
    · rw [if_neg h1, if_neg fun z => h1 z.1]
theorem Cf_self {lot : List Tx} (hL : Pos lot) {text : Tx} (i j : Nat) : Cf lot text i j i = 0 := by
  induction j with
  | zero => rfl
  | succ j ih =>
    cases h : (wordsAt lot text i)[j]? with
    | none =>
      have : Cf lot text i (j + 1) i = Cf lot text i j i := by
        unfold Cf
        rw [List.take_add_one, h]
        simp
      rw [this, ih]
    | some idx =>
      rw [Cf_succ h, ih, if_neg]
      have := word_pos hL (List.mem_of_getElem? h)
      omega
end K04
set_option Elab.async false
set_option linter.all false
set_option maxRecDepth 100000
set_option maxHeartbeats 2000000
namespace K04
open PySem PySem.Spec PyProof.Rows L2 Evl Wc Wt
/-- the class Ways -/
theorem IsLot.ps0 {lot : List Tx} (h : IsLot lot) : Pos lot := h.pos
structure WC (K : PySem.W.Frag) (C : Addr) : Prop where
  cl : Cls K C
  n_lot : NoAttr K C "lot"
  n_text : NoAttr K C "text"
  n_behind : NoAttr K C "behind"
  n_ahead : NoAttr K C "ahead"
/-- no method's name is a field -/
def NoM (fs : List (Str × V)) : Prop := fs.lookup ("places" : Str) = none ∧ fs.lookup ("led_to" : Str) = none ∧ fs.lookup ("used" : Str) = none
/-- how many cuts there are behind each place -/
def behL (lot : List Tx) (text : Tx) : List V := (List.range (text.length + 1)).map fun p => V.int ((cutsAt lot text p).length : Int)
/-- an object of ways stands at x -/
structure WaysAt (C x : Addr) (lot : List Tx) (text : Tx) (fs : List (Str × V)) (H : Hp) : Prop where
  ob : ∃ dx, H x = some (.ins C dx fs)
  flot : ∃ pl, fs.lookup ("lot" : Str) = some (.ref pl) ∧ LotAt pl lot H
  ftext : fs.lookup ("text" : Str) = some (T text)
  len : text.length ≤ 400
  signs : ∀ c ∈ text, abcd c
  no1 : fs.lookup ("words_at" : Str) = none
  no2 : NoM fs
theorem WaysAt.ex {C x : Addr} {lot : List Tx} {text : Tx} {fs : List (Str × V)} {H H1 : Hp} (W : WaysAt C x lot text fs H) (e : Ex H H1) : WaysAt C x lot text fs H1 := by
  obtain ⟨⟨dx, h1⟩, ⟨pl, h2, h3⟩, h4, h5, h6, h7, h8⟩ := W
  exact ⟨⟨dx, e _ _ h1⟩, ⟨pl, h2, h3.ex e⟩, h4, h5, h6, h7, h8⟩
/-- .. its numbers made -/
structure WaysB (C x : Addr) (lot : List Tx) (text : Tx) (fs : List (Str × V)) (H : Hp) : Prop where
  w : WaysAt C x lot text fs H
  fb : ∃ pb, fs.lookup ("behind" : Str) = some (.ref pb) ∧ H pb = some (.lst (behL lot text))
  fa : ∃ pa, fs.lookup ("ahead" : Str) = some (.ref pa) ∧ H pa = some (.lst (aheadL lot text))
theorem WaysB.ex {C x : Addr} {lot : List Tx} {text : Tx} {fs : List (Str × V)} {H H1 : Hp} (W : WaysB C x lot text fs H) (e : Ex H H1) : WaysB C x lot text fs H1 := by
  obtain ⟨w, ⟨pb, h1, h2⟩, pa, h3, h4⟩ := W
  exact ⟨w.ex e, ⟨pb, h1, e _ _ h2⟩, pa, h3, e _ _ h4⟩
theorem int_sum (l : List Nat) (f : Nat → Nat) : (l.map fun i => (f i : Int)).sum = (((l.map f).sum : Nat) : Int) := by
  induction l with
  | nil => rfl
  | cons a l ih => simp [ih]
section
variable {P : Program} {w : World} {K : PySem.W.Frag} {mg : Str → Option Value} {base : Heap}
def sp_words_at (C : Addr) : Sp := fun vs H Q _ => ∃ (x : Addr) (lot : List Tx) (text : Tx) (fs : List (Str × V)) (place : Nat), vs = [.ref x, .int (place : Int)] ∧ WaysAt C x lot text fs H ∧ RetL ((wordsAt lot text place).map fun (n : Nat) => V.int (n : Int)) H Q
theorem ok_words_at {f C : Addr} {fd : FuncData} (F : Fun K "words_at" "Ways.words_at" st_Ways_words_at f fd) (M : Md K mg) (W : WC K C) : FnOk P w K mg base CX0 1 f fd ["self", "place"] (sp_words_at C) := by
  have nd := sc_Ways_words_at.nd
  refine F.ok sc_Ways_words_at (fun vs H Q E h => ?_) (fun cdv A outer s H vs Q E hr h => ?_)
  · obtain ⟨_, _, _, _, _, rfl, _⟩ := h
    rfl
  · obtain ⟨x, lot, text, fs, place, rfl, ⟨⟨dx, hx⟩, ⟨pl, hl, hp, hL⟩, ht, hlen, _, _, _⟩, k⟩ := h
    refine ⟨_, (pss_one (ps_ret (pe_lc (own := [("index", 2), ("word", 3)]) rfl nd (kiet K (pi_enumT (by rfl) M.n_enumerate (pa_cons (kfl K (pe_fld (pv 0) rfl)) pa_nil))) (blkOk_by (N := N_Ways_words_at) (sc := defScope st_Ways_words_at) (by decide +kernel)) (fun _ _ _ _ _ => (kgt K (n := 2) (pg_tup rfl (pgs_cons (pg_name (i := 2) nd rfl (Or.inl rfl)) (pgs_cons (pg_name (i := 3) nd rfl (Or.inl rfl)) pgs_nil))))) (fun _ _ _ _ _ => (pts_one (pt_val (kbm K (pe_bm PySem.F.plainAttrs_str PySem.F.slot_str_startswith PySem.F.type_str_startswith mt_start3T (kfl K (pe_fld (pv 0) rfl)) (pa_cons (pv 3) (pa_cons (pv 1) pa_nil))))))) (fun _ _ _ _ _ => (pv 2))))), ?_⟩
    have hfew := hL.few
    have hlc := el_lcG (σ := start N_Ways_words_at [.ref x, .int (place : Int)]) (H := H) (te := tVar 2) (t := tB (tBM K "str" rStart3T (tFld K (tVar 0) "text") (tCons (tVar 3) (tCons (tVar 1) tNil)))) (g := gTup K 2 (gCons (gName 2) (gCons (gName 3) gNil))) (vs := [2, 3]) (wi := iEnumT K (tCons (tFld K (tVar 0) "lot") tNil))
      (p := stands lot text place) (gv := fun (n : Nat) => V.int (n : Int)) (List.range lot.length) (fun i => [some (.ref x), some (.int (place : Int)), some (.int (i : Int)), some (T (lot.getD i []))]) (fun i v H1 => i < lot.length ∧ ∃ q, v = .ref q ∧ H1 q = some (.tup [.int (i : Int), T (lot.getD i [])])) (src_enumT (ev_fld (ev_var rfl) hx W.cl W.n_lot hl) (st_of hp)) (by rw [List.length_map]; omega) (by simp) ?_ ?_ (fun _ => rfl) ?_ (fun i H1 e1 hi _ => ev_var rfl)
    · exact s_retL hlc k
    · rintro i v H1 ⟨q, y, rfl, hy, hq⟩
      obtain ⟨t, ht', rfl⟩ := at_map hy
      have hi : i < lot.length := (List.getElem?_eq_some_iff.mp ht').1
      refine ⟨i, List.getElem?_range hi, hi, q, rfl, ?_⟩
      rw [List.getD_eq_getElem?_getD, ht']
      exact hq
    · rintro i v H1 Q' ⟨hi, q, rfl, hq⟩ k'
      exact ⟨q, _, rfl, st_of hq, rfl, .int (i : Int), [T (lot.getD i [])], rfl, T (lot.getD i []), [], rfl, rfl, k'⟩
    · intro i H1 e1 hi
      have hi' : i < lot.length := List.mem_range.mp hi
      have hgi : lot.getD i [] = lot[i] := by rw [List.getD_eq_getElem?_getD, List.getElem?_eq_getElem hi']; rfl
      have hs : stands lot text place i = decide (place + lot[i].length ≤ text.length ∧ StAt text lot[i] place) := by
        unfold stands
        rw [List.getElem?_eq_getElem hi']
      rw [hs, hgi]
      exact et_B (ev_bmT (ev_fld (ev_var rfl) (e1 _ _ hx) W.cl W.n_text ht) (ea_cons (ev_var rfl) (ea_cons (ev_var rfl) ea_nil)) fun H2 e2 Q2 q2 => ⟨text, lot[i], place, rfl, rfl, q2 H2 (Ex.refl _)⟩)
def sp_Ways (C : Addr) : Sp := fun vs H Q _ => ∃ (x dx pl : Addr) (lot : List Tx) (text : Tx), vs = [.ref x, .ref pl, T text] ∧ H x = some (.ins C dx []) ∧ LotAt pl lot H ∧ text.length ≤ 400 ∧ (∀ c ∈ text, abcd c) ∧
  ∀ fs H', WaysB C x lot text fs H' → (∀ b o, H b = some o → b ≠ x → H' b = some o) → Q .non H'
/-- self.words_at(place) -/
theorem el_words {C x : Addr} {lot : List Tx} {text : Tx} {fs : List (Str × V)} {place i j : Nat} {σ : L2.St} {H : Hp} (W : WaysAt C x lot text fs H) (h0 : σ[i]? = some (some (.ref x))) (h3 : σ[j]? = some (some (.int (place : Int)))) : EvL (tMeth C "words_at" (sp_words_at C) [] E0 (tVar i) (tCons (tVar j) tNil)) σ H ((wordsAt lot text place).map fun (n : Nat) => V.int (n : Int)) := fun H1 e1 Q q => by
  have W1 := W.ex e1
  obtain ⟨dx, hx⟩ := W1.ob
  exact ⟨.ref x, h0, x, dx, fs, rfl, hx, W.no1, .int (place : Int), h3, x, lot, text, fs, place, rfl, W1, q⟩
theorem putF_len (f : Str) (v : V) : ∀ fs : List (Str × V), (putF f v fs).length ≤ fs.length + 1
  | [] => Nat.le_refl _
  | (g, u) :: fs => by
    unfold putF
    split
    · simp
    · have := putF_len f v fs
      simp
      omega
theorem ok_Ways_init {f C : Addr} {fd : FuncData} (F : Fun K "__init__" "Ways.__init__" st_Ways_init f fd) (M : Md K mg) (W : WC K C) (MT_Ways_words_at : C8.Met P w K mg base 1 C "words_at" (sp_words_at C) []) : FnOk P w K mg base CX0 2 f fd ["self", "lot", "text"] (sp_Ways C) := by
  have nd := sc_Ways_init.nd
  refine F.ok sc_Ways_init (fun vs H Q E h => ?_) (fun cdv A outer s H vs Q E hr h => ?_)
  · obtain ⟨_, _, _, _, _, rfl, _⟩ := h
    rfl
  · obtain ⟨x, dx, pl, lot, text, rfl, hx, hlot, hlen, hsg, k⟩ := h
    refine ⟨_, (pss_cons (ps_fld (pv 0) (pv 1) rfl)
  (pss_cons (ps_fld (pv 0) (pv 2) rfl)
  (pss_cons (ps_fld (pv 0) (pe_op op_cat (pe_op op_rep (pe_lst (pa_cons pe_int pa_nil)) (pe_callB cr_lenT (by rfl) M.n_len boot_len (pa_cons (pv 2) pa_nil))) (pe_lst (pa_cons pe_int pa_nil))) rfl)
  (pss_cons (ps_for PassesOwn.never rfl (pi_range3 (by rfl) M.n_range (pa_cons (pe_op op_sub (pe_callB cr_lenT (by rfl) M.n_len boot_len (pa_cons (pv 2) pa_nil)) pe_int) (pa_cons (pe_un un_neg pe_int) (pa_cons (pe_un un_neg pe_int) pa_nil)))) (pg_name (i := 3) nd rfl (Or.inr rfl))
  (pss_one (ps_asg (pe_callB (kcr K (r := rSum) (cr_sum rfl)) (by rfl) M.n_sum boot_sum (pa_cons (pe_lc (own := [("index", 4)]) rfl nd (kil K (pi_list (C8.pe_mt MT_Ways_words_at hr (by decide) (pv 0) (pa_cons (pv 3) pa_nil)))) (blkOk_by (N := N_Ways_init) (sc := defScope st_Ways_init) (by decide +kernel)) (fun _ _ _ _ _ => (pg_name (i := 4) nd rfl (Or.inl rfl))) (fun _ _ _ _ _ => pts_nil) (fun _ _ _ _ _ => (pe_ix (kix K (r := L2.rIxL) ix_list) (kfl K (pe_fld (pv 0) rfl)) (pe_op op_add (pv 3) (pe_callB cr_lenT (by rfl) M.n_len boot_len (pa_cons (pe_ix (kix K (r := L2.rIxT) ix_tup) (pv 1) (pv 4) (fun _ _ => rfl)) pa_nil))) (fun _ _ => rfl)))) pa_nil)) (pg_sub (kfl K (pe_fld (pv 0) rfl)) (pv 3) set_list))))
  (pss_cons (ps_fld (pv 0) (pe_op op_cat (pe_lst (pa_cons pe_int pa_nil)) (pe_op op_rep (pe_lst (pa_cons pe_int pa_nil)) (pe_callB cr_lenT (by rfl) M.n_len boot_len (pa_cons (pv 2) pa_nil)))) rfl)
  (pss_one (ps_for PassesOwn.never rfl (pi_range1 (by rfl) M.n_range (pa_cons (pe_callB cr_lenT (by rfl) M.n_len boot_len (pa_cons (pv 2) pa_nil)) pa_nil)) (pg_name (i := 3) nd rfl (Or.inr rfl))
  (pss_one (ps_for PassesOwn.never rfl (kil K (pi_list (C8.pe_mt MT_Ways_words_at hr (by decide) (pv 0) (pa_cons (pv 3) pa_nil)))) (pg_name (i := 4) nd rfl (Or.inl rfl))
  (pss_one (ps_augS (kfl K (pe_fld (pv 0) rfl)) (pe_op op_add (pv 3) (pe_callB cr_lenT (by rfl) M.n_len boot_len (pa_cons (pe_ix (kix K (r := L2.rIxT) ix_tup) (pv 1) (pv 4) (fun _ _ => rfl)) pa_nil))) (kget K) (pe_ix (kix K (r := L2.rIxL) ix_list) (kfl K (pe_fld (pv 0) rfl)) (pv 3) (fun _ _ => rfl)) ip_add set_list))))))))))), ?_⟩
    have npx : pl ≠ x := fun z => by
      have h1 := hlot.1
      rw [z, hx] at h1
      cases h1
    -- self.lot, self.text
    refine q_fld (ev_var rfl) rfl hx W.cl W.n_lot (by decide) fun H1 e1 => ?_
    refine q_fld (ev_var rfl) rfl upd_same W.cl W.n_text (by show 1 < 1000; decide) fun H2 e2 => ?_
    have hx2 : (upd H2 x (.ins C dx (putF ("text" : Str) (T text) (putF ("lot" : Str) (.ref pl) [])))) x = some (.ins C dx (putF ("text" : Str) (T text) (putF ("lot" : Str) (.ref pl) []))) := upd_same
    have kp2 : ∀ b o, H b = some o → b ≠ x → (upd H2 x (.ins C dx (putF ("text" : Str) (T text) (putF ("lot" : Str) (.ref pl) [])))) b = some o := fun b o hb hne => by
      rw [upd_ne hne]
      exact e2 _ _ (by rw [upd_ne hne]; exact e1 _ _ hb)
    generalize upd H2 x (.ins C dx (putF ("text" : Str) (T text) (putF ("lot" : Str) (.ref pl) []))) = H3 at hx2 kp2 ⊢
    clear e1 e2
    have hlp : H3 pl = some (.tup (lot.map T)) := kp2 _ _ hlot.1 npx
    have hL := hlot.2
    have hfew := hL.few
    have fl : (putF ("text" : Str) (T text) (putF ("lot" : Str) (.ref pl) [])).length ≤ 2 := by
      have := putF_len ("text" : Str) (T text) (putF ("lot" : Str) (.ref pl) [])
      have h2 := putF_len ("lot" : Str) (.ref pl) []
      simp at h2
      omega
    have f1 : (putF ("text" : Str) (T text) (putF ("lot" : Str) (.ref pl) [])).lookup ("lot" : Str) = some (.ref pl) := by
      rw [lookup_putF, if_neg (by decide +kernel), lookup_putF, if_pos rfl]
    have f2 : (putF ("text" : Str) (T text) (putF ("lot" : Str) (.ref pl) [])).lookup ("text" : Str) = some (T text) := by
      rw [lookup_putF, if_pos rfl]
    have f3 : (putF ("text" : Str) (T text) (putF ("lot" : Str) (.ref pl) [])).lookup ("words_at" : Str) = none := by
      rw [lookup_putF, if_neg (by decide +kernel), lookup_putF, if_neg (by decide +kernel)]
      rfl
    have f4 : NoM (putF ("text" : Str) (T text) (putF ("lot" : Str) (.ref pl) [])) := by
      refine ⟨?_, ?_, ?_⟩ <;> (rw [lookup_putF, if_neg (by decide +kernel), lookup_putF, if_neg (by decide +kernel)]; rfl)
    generalize putF ("text" : Str) (T text) (putF ("lot" : Str) (.ref pl) []) = fs at hx2 fl f1 f2 f3 f4
    have lenT : ∀ {σ : L2.St} {H' : Hp}, σ[2]? = some (some (T text)) → Ev (tCB rLenT (tCons (tVar 2) tNil)) σ H' (.int (text.length : Int)) := fun h0 => ev_cb (ea_cons (ev_var h0) ea_nil) (rc_lenT (by omega))
    -- self.behind
    show tSeq _ _ _ [some (.ref x), some (.ref pl), some (T text), none, none] H3
    refine q_fldL (xs := List.replicate text.length (V.int 0) ++ [V.int 1]) ?_ rfl hx2 W.cl W.n_behind (by omega) fun pb H4 hpb e4 h4 => ?_
    · have := el_catNN (el_rep (el_lst (ea_cons (ev_c (v := V.int 0)) ea_nil) (by show 1 ≤ 100000; decide) : EvL _ [some (.ref x), some (.ref pl), some (T text), none, none] H3 [V.int 0]) (lenT rfl) (by simp; omega) (by omega)) (el_lst (ea_cons (ev_c (v := V.int 1)) ea_nil) (by show 1 ≤ 100000; decide)) (by rw [rep_one]; simp; omega)
      rw [rep_one] at this
      exact this
    have nbx : pb ≠ x := fun z => by rw [z, hx2] at hpb; cases hpb
    have nbp : pb ≠ pl := fun z => by rw [z, hlp] at hpb; cases hpb
    have nxl : pl ≠ x := npx
    have hpb0 : ∀ b o, H b = some o → b ≠ pb := fun b o hb z => by
      by_cases hbx : b = x
      · exact nbx (z.symm.trans hbx)
      · have := kp2 b o hb hbx
        rw [z, hpb] at this
        cases this
    have lk : ∀ {g : Str} {v : V} {fs : List (Str × V)} {m : Str}, ¬ m = g → (putF g v fs).lookup m = fs.lookup m := fun h => by rw [lookup_putF, if_neg h]
    have g1 := (lk (g := "behind") (v := .ref pb) (fs := fs) (m := "lot") (by decide +kernel)).trans f1
    have g2 := (lk (g := "behind") (v := .ref pb) (fs := fs) (m := "text") (by decide +kernel)).trans f2
    have g3 := (lk (g := "behind") (v := .ref pb) (fs := fs) (m := "words_at") (by decide +kernel)).trans f3
    have g4 : NoM (putF ("behind" : Str) (.ref pb) fs) := ⟨(lk (by decide +kernel)).trans f4.1, (lk (by decide +kernel)).trans f4.2.1, (lk (by decide +kernel)).trans f4.2.2⟩
    have g5 : (putF ("behind" : Str) (.ref pb) fs).lookup ("behind" : Str) = some (.ref pb) := by rw [lookup_putF, if_pos rfl]
    have gl : (putF ("behind" : Str) (.ref pb) fs).length ≤ 3 := by have := putF_len ("behind" : Str) (.ref pb) fs; omega
    generalize putF ("behind" : Str) (.ref pb) fs = fs5 at g1 g2 g3 g4 g5 gl
    have hx5 : (upd H4 x (.ins C dx fs5)) x = some (.ins C dx fs5) := upd_same
    have hb5 : (upd H4 x (.ins C dx fs5)) pb = some (.lst (List.replicate text.length (V.int 0) ++ [V.int 1])) := by rw [upd_ne nbx]; exact h4
    have hl5 : (upd H4 x (.ins C dx fs5)) pl = some (.tup (lot.map T)) := by rw [upd_ne npx]; exact e4 _ _ hlp
    have kp5 : ∀ b o, H b = some o → b ≠ x → (upd H4 x (.ins C dx fs5)) b = some o := fun b o hb hne => by
      rw [upd_ne hne]
      exact e4 _ _ (kp2 b o hb hne)
    generalize upd H4 x (.ins C dx fs5) = H5 at hx5 hb5 hl5 kp5 ⊢
    clear e4 h4 hx2 kp2 hlp hpb f1 f2 f3 f4 fl
    show tSeq _ _ _ [some (.ref x), some (.ref pl), some (T text), none, none] H5
    have way : ∀ {fsx : List (Str × V)} {H' : Hp}, H' x = some (.ins C dx fsx) → H' pl = some (.tup (lot.map T)) → fsx.lookup ("lot" : Str) = some (.ref pl) → fsx.lookup ("text" : Str) = some (T text) → fsx.lookup ("words_at" : Str) = none → NoM fsx → WaysAt C x lot text fsx H' := fun h1 h2 h3 h4 h5 h6 => ⟨⟨dx, h1⟩, ⟨pl, h3, h2, hL⟩, h4, hlen, hsg, h5, h6⟩
    -- the loop downwards
    refine q_forW (fun c => c = pb) (src_down (n := text.length) (ea_cons (ev_op (lenT rfl) ev_c rv_I0) (ea_cons (ev_un ev_c ru_neg) (ea_cons (ev_un ev_c ru_neg) ea_nil))) (by omega)) ?_
      (fun Hs i σ' H' => ∃ (zs : List Int) (v3 : Option V), σ' = [some (.ref x), some (.ref pl), some (T text), v3, none] ∧ Exc (fun c => c = pb) Hs H' ∧ H' pb = some (.lst (zs.map V.int)) ∧ zs.length = text.length + 1 ∧ ∀ p, text.length ≤ p + i → p ≤ text.length → zs[p]? = some ((cutsAt lot text p).length : Int)) ?_ ?_ ?_ ?_ ?_
    · rintro c rfl
      exact ⟨by rw [hb5]; exact fun z => (nomatch z), fun z => z⟩
    · intro Hs e
      refine ⟨List.replicate text.length 0 ++ [1], none, rfl, Exc.refl _, ?_, by simp, fun p h1 h2 => ?_⟩
      · rw [e _ _ hb5]
        simp
      · have : p = text.length := by omega
        subst this
        rw [cuts_last, List.getElem?_append_right (by simp)]
        simp
    · rintro Hs i σ' H' ⟨_, _, _, h, _⟩
      exact h
    · rintro Hs i σ' Ha Hb ⟨zs, v3, h0, h1, h2, h3, h4⟩ e
      exact ⟨zs, v3, h0, h1.then e, e _ _ h2, h3, h4⟩
    · rintro Hs i y σ' H' e hi ⟨zs, v3, rfl, h1, h2, h3, h4⟩ rfl
      obtain ⟨place, hpl⟩ : ∃ place : Nat, (text.length : Int) - 1 - (i : Int) = (place : Int) := ⟨text.length - 1 - i, by omega⟩
      have hplt : place < text.length := by omega
      have hx6 : H' x = some (.ins C dx fs5) := h1 _ _ (Ne.symm nbx) (e _ _ hx5)
      have hl6 : H' pl = some (.tup (lot.map T)) := h1 _ _ (Ne.symm nbp) (e _ _ hl5)
      have W6 := way hx6 hl6 g1 g2 g3 g4
      show tAsg _ _ _ [some (.ref x), some (.ref pl), some (T text), some (.int ((text.length : Int) - 1 - (i : Int))), none] H'
      rw [hpl]
      have hlist : EvL (tLc (iList K (tMeth C "words_at" (sp_words_at C) [] E0 (tVar 0) (tCons (tVar 3) tNil))) (gName 4) tYes (tOp (L2.rIxL K) (tFld K (tVar 0) "behind") (tOp (rI0 fun i j => .int (i + j)) (tVar 3) (tCB rLenT (tCons (tOp (L2.rIxT K) (tVar 1) (tVar 4)) tNil)))) [4]) [some (.ref x), some (.ref pl), some (T text), some (.int (place : Int)), none] H' ((wordsAt lot text place).map fun i => V.int (zs.getD (place + (lot.getD i []).length) 0)) :=
        el_lcM (j := 4) (vs := [4]) (f := fun (n : Nat) => V.int (n : Int)) (wordsAt lot text place) (src_newLM (el_words W6 rfl rfl)) (by have := wordsAt_len lot text place; omega) (fun _ => rfl) fun j H7 e7 hj => by
          obtain ⟨wd, hw1, hw2, _⟩ := wordsAt_is hj
          have hgw : lot.getD j [] = wd := by rw [List.getD_eq_getElem?_getD, hw1]; rfl
          rw [hgw]
          have hlw : wd.length ≤ 12 := (hL.wd wd (List.mem_of_getElem? hw1)).1
          have hz : place + wd.length < zs.length := by omega
          have hzv : (zs.map V.int)[place + wd.length]? = some (V.int (zs.getD (place + wd.length) 0)) := by
            rw [List.getElem?_map, List.getD_eq_getElem?_getD, List.getElem?_eq_getElem hz]
            rfl
          exact ev_op (x := .ref pb) (y := .int ((place + wd.length : Nat) : Int)) (ev_fld (ev_var rfl) (e7 _ _ hx6) W.cl W.n_behind g5) (ev_op (ev_var rfl) (ev_cb (ea_cons (ev_op (ev_var rfl) (ev_var rfl) (rv_ixT (st_of (e7 _ _ hl6)) (atI_nat (by rw [List.getElem?_map, hw1]; rfl)))) ea_nil) (rc_lenT (by omega))) rv_I0) (rv_ixL (sq_of (e7 _ _ h2)) (atI_nat hzv))
      have hs : ((wordsAt lot text place).map fun i => zs.getD (place + (lot.getD i []).length) 0).sum = ((cutsAt lot text place).length : Int) := by
        rw [cuts_count hL.pos hplt]
        unfold sumL
        rw [← int_sum]
        congr 1
        refine List.map_congr_left fun j hj => ?_
        have hw := word_pos hL.pos hj
        have := h4 (place + wl lot j) (by omega) hw.2.1
        rw [List.getD_eq_getElem?_getD]
        show (zs[place + wl lot j]?).getD 0 = _
        rw [this]
        rfl
      refine s_setL (v := .int ((cutsAt lot text place).length : Int)) (j := place) (xs := zs.map V.int) h2 (ev_is (ev_cbL hlist fun q H7 hq e7 => rc_sumM (sq_of hq)) (congrArg V.int hs)) (ev_fld (ev_var rfl) hx6 W.cl W.n_behind g5) (ev_var rfl) (by rw [List.length_map]; omega) fun H7 e7 => ?_
      rw [← List.map_set]
      refine ⟨_, _, rfl, (h1.then e7).upd (.inl rfl), upd_same, by rw [List.length_set]; exact h3, fun p y1 y2 => ?_⟩
      by_cases hp : p = place
      · subst hp
        rw [List.getElem?_set_self (by omega)]
      · rw [List.getElem?_set_ne (Ne.symm hp)]
        exact h4 p (by omega) y2
    · rintro Hs σ' H' e ⟨zs, v3, rfl, h1, h2, h3, h4⟩
      have hbeh : H' pb = some (.lst (behL lot text)) := by
        rw [h2]
        congr 2
        unfold behL
        apply List.ext_getElem?
        intro p
        rw [List.getElem?_map, List.getElem?_map]
        by_cases hp : p < text.length + 1
        · rw [h4 p (by omega) (by omega), List.getElem?_range hp]
          rfl
        · rw [List.getElem?_eq_none (by omega), List.getElem?_eq_none (by rw [List.length_range]; omega)]
          rfl
      have hx6 : H' x = some (.ins C dx fs5) := h1 _ _ (Ne.symm nbx) (e _ _ hx5)
      have hl6 : H' pl = some (.tup (lot.map T)) := h1 _ _ (Ne.symm nbp) (e _ _ hl5)
      have kp6 : ∀ b o, H b = some o → b ≠ x → H' b = some o := fun b o hb hne => h1 _ _ (hpb0 b o hb) (e _ _ (kp5 b o hb hne))
      refine q_fldL (xs := [V.int 1] ++ List.replicate text.length (V.int 0)) ?_ rfl hx6 W.cl W.n_ahead (by omega) fun pa H6 hpa e6 h6 => ?_
      · have := el_catNN (el_lst (ea_cons (ev_c (v := V.int 1)) ea_nil) (by show 1 ≤ 100000; decide) : EvL _ [some (.ref x), some (.ref pl), some (T text), v3, none] H' [V.int 1]) (el_rep (el_lst (ea_cons (ev_c (v := V.int 0)) ea_nil) (by show 1 ≤ 100000; decide)) (lenT rfl) (by simp; omega) (by omega)) (by rw [rep_one]; simp; omega)
        rw [rep_one] at this
        exact this
      have nax : pa ≠ x := fun z => by rw [z, hx6] at hpa; cases hpa
      have nap : pa ≠ pl := fun z => by rw [z, hl6] at hpa; cases hpa
      have nab : pb ≠ pa := ne_of_none hbeh hpa
      have hpa0 : ∀ b o, H b = some o → b ≠ pa := fun b o hb z => by
        by_cases hbx : b = x
        · exact nax (z.symm.trans hbx)
        · have := kp6 b o hb hbx
          rw [z, hpa] at this
          cases this
      have i1 := (lk (g := "ahead") (v := .ref pa) (fs := fs5) (m := "lot") (by decide +kernel)).trans g1
      have i2 := (lk (g := "ahead") (v := .ref pa) (fs := fs5) (m := "text") (by decide +kernel)).trans g2
      have i3 := (lk (g := "ahead") (v := .ref pa) (fs := fs5) (m := "words_at") (by decide +kernel)).trans g3
      have i4 : NoM (putF ("ahead" : Str) (.ref pa) fs5) := ⟨(lk (by decide +kernel)).trans g4.1, (lk (by decide +kernel)).trans g4.2.1, (lk (by decide +kernel)).trans g4.2.2⟩
      have i6 := (lk (g := "ahead") (v := .ref pa) (fs := fs5) (m := "behind") (by decide +kernel)).trans g5
      have i5 : (putF ("ahead" : Str) (.ref pa) fs5).lookup ("ahead" : Str) = some (.ref pa) := by rw [lookup_putF, if_pos rfl]
      generalize putF ("ahead" : Str) (.ref pa) fs5 = fs7 at i1 i2 i3 i4 i5 i6
      have hx7 : (upd H6 x (.ins C dx fs7)) x = some (.ins C dx fs7) := upd_same
      have ha7 : (upd H6 x (.ins C dx fs7)) pa = some (.lst (([1] ++ List.replicate text.length 0 : List Int).map V.int)) := by
        rw [upd_ne nax, h6]
        simp
      have hl7 : (upd H6 x (.ins C dx fs7)) pl = some (.tup (lot.map T)) := by rw [upd_ne npx]; exact e6 _ _ hl6
      have hbeh7 : (upd H6 x (.ins C dx fs7)) pb = some (.lst (behL lot text)) := by rw [upd_ne nbx]; exact e6 _ _ hbeh
      have kp7 : ∀ b o, H b = some o → b ≠ x → (upd H6 x (.ins C dx fs7)) b = some o := fun b o hb hne => by
        rw [upd_ne hne]
        exact e6 _ _ (kp6 b o hb hne)
      generalize upd H6 x (.ins C dx fs7) = H7 at hx7 ha7 hl7 kp7 hbeh7 ⊢
      show tFor _ _ _ _ [some (.ref x), some (.ref pl), some (T text), v3, none] H7
      refine s_forW (fun c => c = pa) (src_range1 (n := text.length) (ea_cons (lenT rfl) ea_nil) (by omega)) ?_
        (fun Hs i σ' H' => ∃ (zs : List Int) (v3 v4 : Option V), σ' = [some (.ref x), some (.ref pl), some (T text), v3, v4] ∧ Exc (fun c => c = pa) Hs H' ∧ H' pa = some (.lst (zs.map V.int)) ∧ zs.length = text.length + 1 ∧ ∀ q, q ≤ text.length → zs[q]? = some ((Bf lot text i q : Nat) : Int)) ?_ ?_ ?_ ?_ ?_
      · rintro c rfl
        exact ⟨by rw [ha7]; exact fun z => (nomatch z), fun z => z⟩
      · intro Hs2 e7
        refine ⟨_, v3, none, rfl, Exc.refl _, e7 _ _ ha7, by simp, fun q hq => ?_⟩
        rw [Bf_zero]
        cases q with
        | zero => rfl
        | succ q => rw [List.getElem?_append_right (by simp), List.length_singleton, List.getElem?_replicate, if_pos (by omega), if_neg (by omega)]; rfl
      · rintro Hs2 i σ' H8 ⟨_, _, _, _, h, _⟩
        exact h
      · rintro Hs2 i σ' Ha Hb ⟨zs, v3, v4, h0, h1, h2, h3⟩ e
        exact ⟨zs, v3, v4, h0, h1.then e, e _ _ h2, h3⟩
      · rintro Hs2 i y σ' H8 e8 hi ⟨zs, v3', v4', rfl, j1, j2, j3, j4⟩ rfl
        have hx8 : H8 x = some (.ins C dx fs7) := j1 _ _ (Ne.symm nax) (e8 _ _ hx7)
        have hl8 : H8 pl = some (.tup (lot.map T)) := j1 _ _ (Ne.symm nap) (e8 _ _ hl7)
        have W8 := way hx8 hl8 i1 i2 i3 i4
        show tFor _ _ _ _ [some (.ref x), some (.ref pl), some (T text), some (.int (i : Int)), v4'] H8
        refine s_forW (fun c => c = pa) (src_newLM (f := fun (n : Nat) => V.int (n : Int)) (xs := wordsAt lot text i) (el_words W8 rfl rfl)) ?_
          (fun Ht j σ' H9 => ∃ (zs : List Int) (v4 : Option V), σ' = [some (.ref x), some (.ref pl), some (T text), some (.int (i : Int)), v4] ∧ Exc (fun c => c = pa) Ht H9 ∧ H9 pa = some (.lst (zs.map V.int)) ∧ zs.length = text.length + 1 ∧ ∀ q, q ≤ text.length → zs[q]? = some ((Bf lot text i q + Cf lot text i j q : Nat) : Int)) ?_ ?_ ?_ ?_ ?_
        · rintro c rfl
          exact ⟨by rw [j2]; exact fun z => (nomatch z), fun z => z⟩
        · intro Ht e9
          exact ⟨zs, v4', rfl, Exc.refl _, e9 _ _ j2, j3, j4⟩
        · rintro Ht j σ' H9 ⟨_, _, _, h, _⟩
          exact h
        · rintro Ht j σ' Ha Hb ⟨zs, v4, h0, h1, h2, h3⟩ e
          exact ⟨zs, v4, h0, h1.then e, e _ _ h2, h3⟩
        · rintro Ht j y σ' H9 e9 hj ⟨zs, v4, rfl, k1, k2, k3, k4⟩ hy
          obtain ⟨idx, hidx, rfl⟩ := at_map hy
          obtain ⟨wd, hw1, hw2, _⟩ := wordsAt_is (List.mem_of_getElem? hidx)
          have hlw : wd.length ≤ 12 := (hL.wd wd (List.mem_of_getElem? hw1)).1
          have hx9 : H9 x = some (.ins C dx fs7) := k1 _ _ (Ne.symm nax) (e9 _ _ hx8)
          have hl9 : H9 pl = some (.tup (lot.map T)) := k1 _ _ (Ne.symm nap) (e9 _ _ hl8)
          have hz : i + wd.length < zs.length := by omega
          have hz2 : i < zs.length := by omega
          have ifl : ∀ {H' : Hp}, Ex H9 H' → Ev (tFld K (tVar 0) "ahead") [some (.ref x), some (.ref pl), some (T text), some (.int (i : Int)), some (.int (idx : Int))] H' (.ref pa) := fun e => ev_fld (ev_var rfl) (e _ _ hx9) W.cl W.n_ahead i5
          show tAugS _ _ _ _ _ _ _ [some (.ref x), some (.ref pl), some (T text), some (.int (i : Int)), some (.int (idx : Int))] H9
          refine ifl (Ex.refl _) H9 (Ex.refl _) _ fun Ha ea => ?_
          refine (ev_op (ev_var rfl) (ev_cb (ea_cons (ev_op (ev_var rfl) (ev_var rfl) (rv_ixT (st_of (ea _ _ hl9)) (atI_nat (by rw [List.getElem?_map, hw1]; rfl)))) ea_nil) (rc_lenT (by omega))) rv_I0 : Ev _ [some (.ref x), some (.ref pl), some (T text), some (.int (i : Int)), some (.int (idx : Int))] Ha (.int ((i : Int) + (wd.length : Int)))) Ha (Ex.refl _) _ fun Hb eb => ?_
          refine ⟨pa, zs.map V.int, i + wd.length, .int zs[i + wd.length], rfl, by rw [Int.natCast_add], sq_of (eb _ _ (ea _ _ k2)), by rw [List.getElem?_map, List.getElem?_eq_getElem hz]; rfl, ?_⟩
          refine (ev_op (ifl (ea.trans eb)) (ev_var rfl) (rv_ixL (sq_of (eb _ _ (ea _ _ k2))) (atI_nat (v := V.int zs[i]) (by rw [List.getElem?_map, List.getElem?_eq_getElem hz2]; rfl))) : Ev _ [some (.ref x), some (.ref pl), some (T text), some (.int (i : Int)), some (.int (idx : Int))] Hb (.int zs[i])) Hb (Ex.refl _) _ fun Hc ec => ?_
          refine ⟨_, _, rfl, rfl, pa, zs.map V.int, (i : Int) + (wd.length : Int), i + wd.length, rfl, rfl, ec _ _ (eb _ _ (ea _ _ k2)), ?_, ?_⟩
          · rw [← Int.natCast_add]
            exact ixN_nat (by rw [List.length_map]; exact hz)
          · refine ⟨zs.set (i + wd.length) (zs[i + wd.length] + zs[i]), _, rfl, (k1.then ((ea.trans eb).trans ec)).upd (.inl rfl), by rw [upd_same, List.map_set], by rw [List.length_set]; exact k3, fun q hq => ?_⟩
            have hzi : zs[i] = ((preAt lot text i).length : Int) := by
              have := k4 i (by omega)
              rw [Cf_self hL.ps0, Bf_all hL.ps0 (Nat.le_refl i), List.getElem?_eq_getElem hz2] at this
              exact Option.some.inj this
            rw [Cf_succ hidx, wl_of hw1]
            by_cases hqi : i + wd.length = q
            · subst hqi
              rw [List.getElem?_set_self hz, if_pos rfl, hzi]
              have := k4 (i + wd.length) hq
              rw [List.getElem?_eq_getElem hz] at this
              rw [Option.some.inj this]
              congr 1
              omega
            · rw [List.getElem?_set_ne hqi, if_neg hqi, Nat.add_zero]
              exact k4 q hq
        · rintro Ht σ' H9 e9 ⟨zs, v4, rfl, k1, k2, k3, k4⟩
          exact ⟨zs, _, _, rfl, fun b o nb hb => k1 b o nb (e9 b o (j1 b o nb hb)), k2, k3, fun q hq => by rw [Bf_succ]; exact k4 q hq⟩
      · rintro Hs2 σ' H8 e8 ⟨zs, v3', v4', rfl, j1, j2, j3, j4⟩
        have hah : zs.map V.int = aheadL lot text := by
          refine List.ext_getElem? fun q => ?_
          unfold aheadL
          rw [List.getElem?_map, List.getElem?_map]
          by_cases hq : q ≤ text.length
          · rw [j4 q hq, List.getElem?_range (by omega), Bf_all hL.ps0 hq]
            rfl
          · rw [List.getElem?_eq_none (by omega), List.getElem?_eq_none (by rw [List.length_range]; omega)]
            rfl
        rw [hah] at j2
        exact k fs7 H8 ⟨way (j1 _ _ (Ne.symm nax) (e8 _ _ hx7)) (j1 _ _ (Ne.symm nap) (e8 _ _ hl7)) i1 i2 i3 i4, ⟨pb, i6, j1 _ _ nab (e8 _ _ hbeh7)⟩, pa, i5, j2⟩ fun b o hb hne => j1 _ _ (hpa0 b o hb) (e8 _ _ (kp7 b o hb hne))
end
end K04
set_option Elab.async false
set_option linter.all false
set_option maxRecDepth 100000
set_option maxHeartbeats 2000000
namespace K04
open PySem PySem.Spec PyProof.Rows L2 Evl Wc Wt Wg _root_.Wd
def numV (c : List Nat) : List V := c.map fun (n : Nat) => V.int (n : Int)
theorem numV_app (c d : List Nat) : numV (c ++ d) = numV c ++ numV d := List.map_append
theorem beh_at {lot : List Tx} {text : Tx} {p : Nat} (hp : p ≤ text.length) : (behL lot text)[p]? = some (.int ((cutsAt lot text p).length : Int)) := by
  unfold behL
  rw [List.getElem?_map, List.getElem?_range (by omega)]
  rfl
theorem ah_at {lot : List Tx} {text : Tx} {p : Nat} (hp : p ≤ text.length) : (aheadL lot text)[p]? = some (.int ((preAt lot text p).length : Int)) := by
  unfold aheadL
  rw [List.getElem?_map, List.getElem?_range (by omega)]
  rfl
theorem beh_len (lot : List Tx) (text : Tx) : (behL lot text).length = text.length + 1 := by unfold behL; rw [List.length_map, List.length_range]
theorem ah_len (lot : List Tx) (text : Tx) : (aheadL lot text).length = text.length + 1 := by unfold aheadL; rw [List.length_map, List.length_range]
theorem put_len {lot : List Tx} {text : Tx} {c : List Nat} (h : put lot c = text) : ∀ i, i ≤ c.length → (put lot (c.take i)).length ≤ text.length := fun i hi => by
  have := congrArg List.length h
  rw [← List.take_append_drop i c, put_app, List.length_append] at this
  omega
/-! ### how many at most -/
theorem sum_bound {α : Type} {f : α → Nat} {B : Nat} : ∀ {l : List α}, (∀ a ∈ l, f a ≤ B) → (l.map f).sum ≤ l.length * B
  | [], _ => Nat.zero_le _
  | a :: l, h => by
    have h1 := sum_bound (l := l) fun b hb => h b (List.mem_cons_of_mem _ hb)
    have h2 := h a List.mem_cons_self
    rw [List.map_cons, List.sum_cons, List.length_cons, Nat.succ_mul]
    omega
theorem pre_bound {lot : List Tx} (hL : Pos lot) (h12 : lot.length ≤ 12) {text : Tx} : ∀ e, (preAt lot text e).length ≤ 12 ^ e := fun e => by
  induction e using Nat.strongRecOn with
  | _ e ih =>
    by_cases h0 : e = 0
    · subst h0
      rw [pre_first]
      exact Nat.le_refl 1
    · rw [← preJ_all hL (by omega)]
      unfold preJ sumL
      obtain ⟨d, rfl⟩ : ∃ d, e = d + 1 := ⟨e - 1, by omega⟩
      refine Nat.le_trans (sum_bound (B := 12 ^ d) fun i hi => ?_) ?_
      · have hp := endc_pos hL (List.mem_filter.mp hi).2
        exact Nat.le_trans (ih _ (by omega)) (Nat.pow_le_pow_right (by decide) (by omega))
      · have h1 := List.length_filter_le (endc lot text (d + 1)) (List.range lot.length)
        rw [List.length_range] at h1
        rw [Nat.pow_succ, Nat.mul_comm]
        exact Nat.mul_le_mul_left _ (Nat.le_trans h1 h12)
theorem cuts_bound {lot : List Tx} (hL : Pos lot) (h12 : lot.length ≤ 12) {text : Tx} : ∀ d p, p + d = text.length → (cutsAt lot text p).length ≤ 12 ^ d := fun d => by
  induction d using Nat.strongRecOn with
  | _ d ih =>
    intro p hp
    by_cases h0 : d = 0
    · subst h0
      have : p = text.length := by omega
      subst this
      unfold cutsAt
      rw [Nat.sub_self]
      unfold cutsF
      rw [if_pos rfl]
      exact Nat.le_refl 1
    · rw [cuts_count hL (by omega)]
      unfold sumL
      obtain ⟨d', rfl⟩ : ∃ d', d = d' + 1 := ⟨d - 1, by omega⟩
      refine Nat.le_trans (sum_bound (B := 12 ^ d') fun i hi => ?_) ?_
      · have hp := word_pos hL hi
        exact Nat.le_trans (ih (d' + 1 - wl lot i) (by omega) _ (by omega)) (Nat.pow_le_pow_right (by decide) (by omega))
      · rw [Nat.pow_succ, Nat.mul_comm]
        exact Nat.mul_le_mul_left _ (Nat.le_trans (wordsAt_len lot text p) h12)
theorem p12 {n e : Nat} (h : n ≤ 12 ^ e) (he : e ≤ 400) : ((n : Nat) : Int).natAbs < 2 ^ 1601 := by
  rw [Int.natAbs_natCast]
  have h1 : 12 ^ e ≤ 16 ^ e := Nat.pow_le_pow_left (by decide) e
  have h2 : (16 : Nat) ^ e = 2 ^ (4 * e) := by rw [show (16 : Nat) = 2 ^ 4 from rfl, ← Nat.pow_mul]
  have h3 : 2 ^ (4 * e) ≤ 2 ^ 1600 := Nat.pow_le_pow_right (by decide) (by omega)
  have h4 : (2 : Nat) ^ 1600 < 2 ^ 1601 := Nat.pow_lt_pow_right (by decide) (by decide)
  omega
/-! ### what is told of a text -/
/-- cuts through each place -/
def thruL (lot : List Tx) (text : Tx) : List Nat := (List.range (text.length + 1)).map fun p => (preAt lot text p).length * (cutsAt lot text p).length
/-- the places to which words lead -/
def ledL (lot : List Tx) (text : Tx) : List Nat := asc (text.length + 1) fun p => decide (0 < (preAt lot text p).length)
/-- the word m stands at a place below i in a cut -/
def UT (lot : List Tx) (text : Tx) (i m : Nat) : Prop := ∃ p, p < i ∧ stands lot text p m = true ∧ 0 < (preAt lot text p).length ∧ 0 < (cutsAt lot text (p + wl lot m)).length
def usedB (lot : List Tx) (text : Tx) (m : Nat) : Bool := (List.range text.length).any fun p => stands lot text p m && decide (0 < (preAt lot text p).length) && decide (0 < (cutsAt lot text (p + wl lot m)).length)
theorem usedB_iff {lot : List Tx} {text : Tx} {m : Nat} : usedB lot text m = true ↔ UT lot text text.length m := by
  unfold usedB UT
  rw [List.any_eq_true]
  refine ⟨fun ⟨p, hp, h⟩ => ?_, fun ⟨p, hp, h1, h2, h3⟩ => ⟨p, List.mem_range.mpr hp, ?_⟩⟩
  · rw [Bool.and_eq_true, Bool.and_eq_true, decide_eq_true_eq, decide_eq_true_eq] at h
    exact ⟨p, List.mem_range.mp hp, h.1.1, h.1.2, h.2⟩
  · rw [h1, decide_eq_true h2, decide_eq_true h3]
    rfl
def usedL (lot : List Tx) (text : Tx) : List Nat := asc lot.length (usedB lot text)
theorem stands_lt {lot : List Tx} {text : Tx} {p m : Nat} (h : stands lot text p m = true) : m < lot.length := by
  unfold stands at h
  cases hw : lot[m]? with
  | none => rw [hw] at h; cases h
  | some wd => exact (List.getElem?_eq_some_iff.mp hw).1
theorem UT_succ {lot : List Tx} {text : Tx} {i m : Nat} : UT lot text (i + 1) m ↔ UT lot text i m ∨ (stands lot text i m = true ∧ 0 < (preAt lot text i).length ∧ 0 < (cutsAt lot text (i + wl lot m)).length) := by
  unfold UT
  refine ⟨fun ⟨p, hp, h⟩ => ?_, fun h => ?_⟩
  · by_cases z : p = i
    · subst z; exact .inr h
    · exact .inl ⟨p, by omega, h⟩
  · rcases h with ⟨p, hp, h⟩ | h
    · exact ⟨p, by omega, h⟩
    · exact ⟨i, by omega, h⟩
theorem used_is {lot : List Tx} {text : Tx} {ks : List Nat} {ys : List Int} (hk : ks.Nodup) (hm : ∀ m, m ∈ ks ↔ UT lot text text.length m) (hp : ys.Perm (ks.map fun (m : Nat) => (m : Int))) (hs : ys.Pairwise (· ≤ ·)) : ys = (usedL lot text).map fun (m : Nat) => (m : Int) :=
  asc_is hk (fun m => (hm m).trans ⟨fun h => ⟨by obtain ⟨p, _, h1, _⟩ := h; exact stands_lt h1, usedB_iff.mpr h⟩, fun h => usedB_iff.mp h.2⟩) hp hs
theorem few_of {ks : List Nat} {n : Nat} (h : ks.Nodup) (hm : ∀ m ∈ ks, m < n) : ks.length ≤ n := by
  have e := len_nodup (l' := (List.range n).filter fun m => decide (m ∈ ks)) h (List.Pairwise.filter _ List.nodup_range) fun m => by
    rw [List.mem_filter, List.mem_range, decide_eq_true_eq]
    exact ⟨fun z => ⟨hm m z, z⟩, fun z => z.2⟩
  rw [e]
  have := List.length_filter_le (fun m => decide (m ∈ ks)) (List.range n)
  rw [List.length_range] at this
  exact this
theorem UT_lt {lot : List Tx} {text : Tx} {i m : Nat} (h : UT lot text i m) : m < lot.length := by
  obtain ⟨_, _, h, _⟩ := h
  exact stands_lt h
end K04
set_option Elab.async false
set_option linter.all false
set_option maxRecDepth 100000
set_option maxHeartbeats 2000000
namespace K04
open PySem PySem.Spec PyProof.Rows L2 Evl Wc Wt Wg _root_.Wd
def rSortD : List V → Hp → VK → Prop := fun xs H Q => ∃ (a : Addr) (kvs : List (Key × V)) (ks : List Int), xs = [.ref a] ∧ Rd H a (.dK kvs) ∧ kvs.map (·.1) = ks.map Sum.inl ∧ ks.length < 64 ∧
    ∀ (ys : List Int) (p : Addr), ys.Perm ks → ys.Pairwise (· ≤ ·) → H p = none → Q (.ref p) (upd H p (.lst (ys.map V.int)))
section
variable {K : PySem.W.Frag} {σ : L2.St} {H : Hp} {ta tb td : TE}
theorem num_int (ks : List Nat) : (ks.map fun (m : Nat) => (m : Int)).map V.int = numV ks := by
  unfold numV
  rw [List.map_map]
  rfl
/-- [one * other for one, other in zip(ahead, behind)] -/
theorem el_prod {a b : Addr} {lot : List Tx} {text : Tx} {i j : Nat} (hL : IsLot lot) (hlen : text.length ≤ 400) (ha : Ev ta σ H (.ref a)) (hb : Ev tb σ H (.ref b)) (h1 : H a = some (.lst (aheadL lot text))) (h2 : H b = some (.lst (behL lot text)))
    (hw : ∀ u v, wipe (((wipe σ [i, j]).set i (some u)).set j (some v)) [i, j] = wipe σ [i, j]) (hi : ∀ u v, (((wipe σ [i, j]).set i (some u)).set j (some v))[i]? = some (some u)) (hj : ∀ u v, (((wipe σ [i, j]).set i (some u)).set j (some v))[j]? = some (some v)) :
    EvL (tLc (iZip K (tCons ta (tCons tb tNil))) (gTup K 2 (gCons (gName i) (gCons (gName j) gNil))) tYes (tOp (rI CMulB fun i j => .int (i * j)) (tVar i) (tVar j)) [i, j]) σ H (numV (thruL lot text)) := by
  have h0 := el_lcG (σ := σ) (H := H) (te := tOp (rI CMulB fun i j => .int (i * j)) (tVar i) (tVar j)) (t := tYes) (g := gTup K 2 (gCons (gName i) (gCons (gName j) gNil))) (vs := [i, j]) (wi := iZip K (tCons ta (tCons tb tNil))) (p := fun _ => true) (gv := fun (p : Nat) => V.int (((preAt lot text p).length : Int) * ((cutsAt lot text p).length : Int)))
    (List.range (text.length + 1)) (fun p => ((wipe σ [i, j]).set i (some (.int ((preAt lot text p).length : Int)))).set j (some (.int ((cutsAt lot text p).length : Int)))) (fun p v H1 => p ≤ text.length ∧ ∃ q, v = .ref q ∧ H1 q = some (.tup [.int ((preAt lot text p).length : Int), .int ((cutsAt lot text p).length : Int)]))
    (src_zip (n := text.length + 1) ha hb (sq_of h1) (sq_of h2) (by rw [ah_len, beh_len]; omega)) (by omega) (by rw [List.length_range]) ?_ ?_ (fun p => hw _ _) (fun _ _ _ _ => et_yes) (fun p H1 e1 hp _ => ?_)
  · rw [List.filter_eq_self.mpr (fun _ _ => rfl)] at h0
    have e : (List.range (text.length + 1)).map (fun (p : Nat) => V.int (((preAt lot text p).length : Int) * ((cutsAt lot text p).length : Int))) = numV (thruL lot text) := by
      unfold numV thruL
      rw [List.map_map]
      refine List.map_congr_left fun p _ => ?_
      show _ = V.int (((preAt lot text p).length * (cutsAt lot text p).length : Nat) : Int)
      rw [Int.natCast_mul]
    rw [e] at h0
    exact h0
  · rintro p v H1 ⟨q, x, y, rfl, hx, hy, hq⟩
    have hp : p ≤ text.length := by
      have := (List.getElem?_eq_some_iff.mp hx).1
      rw [ah_len] at this
      omega
    rw [ah_at hp] at hx
    rw [beh_at hp] at hy
    cases hx
    cases hy
    exact ⟨p, List.getElem?_range (by omega), hp, q, rfl, hq⟩
  · rintro p v H1 Q' ⟨hp, q, rfl, hq⟩ k'
    exact ⟨q, _, rfl, st_of hq, rfl, _, _, rfl, _, [], rfl, rfl, k'⟩
  · have hp' := List.mem_range.mp hp
    exact ev_op (ev_var (hi _ _)) (ev_var (hj _ _)) (rv_I (mulB (a := 1601) (b := 1601) (p12 (pre_bound hL.ps0 hL.few p) (by omega)) (p12 (cuts_bound hL.ps0 hL.few (text.length - p) p (by omega)) (by omega)) (by decide) (by decide) (by decide)))
theorem el_sortD {d : Addr} {ks : List Nat} {ys : List Nat} (hd : Ev td σ H (.ref d)) (h : H d = some (.dK (DS ks))) (h64 : ks.length < 64) (hy : ∀ zs : List Int, zs.Perm (ks.map fun (m : Nat) => (m : Int)) → zs.Pairwise (· ≤ ·) → zs = ys.map fun (m : Nat) => (m : Int)) : EvL (tCB rSortD (tCons td tNil)) σ H (numV ys) := fun H1 e Q q =>
  hd H1 e _ fun H2 e2 => ⟨d, DS ks, ks.map fun (m : Nat) => (m : Int), rfl, .inl ((e.trans e2) _ _ h), by unfold DS; rw [List.map_map, List.map_map]; rfl, by rw [List.length_map]; exact h64, fun zs p hp hs hn => q p _ (fresh_back e2 hn) (e2.trans (Ex.new hn)) (by rw [upd_same, hy zs hp hs, num_int])⟩
/-- sorted(list(d)) -/
theorem el_sortLD {d : Addr} {ks : List Nat} {ys : List Nat} (hd : Ev td σ H (.ref d)) (h : H d = some (.dK (DS ks))) (hy : ∀ zs : List Int, zs.Perm (ks.map fun (m : Nat) => (m : Int)) → zs.Pairwise (· ≤ ·) → zs = ys.map fun (m : Nat) => (m : Int)) : EvL (tCB (rSortedI K) (tCons (tCB rListD (tCons td tNil)) tNil)) σ H (numV ys) := fun H1 e Q q =>
  el_listD hd h H1 e _ fun p H2 hp e2 h2 => ⟨p, ks.map fun (m : Nat) => (m : Int), rfl, sq_of (by rw [h2, num_int]; rfl), fun zs r hp2 hs hn => q r _ (fresh_back e2 hn) (e2.trans (Ex.new hn)) (by rw [upd_same, hy zs hp2 hs, num_int])⟩
end
section
variable {P : Program} {w : World} {K : PySem.W.Frag} {mg : Str → Option Value} {base : Heap}
def sp_places (C : Addr) : Sp := fun vs H Q _ => ∃ (x : Addr) (lot : List Tx) (text : Tx) (fs : List (Str × V)), vs = [.ref x] ∧ WaysB C x lot text fs H ∧ RetL (numV (thruL lot text)) H Q
theorem ok_Ways_places {f C : Addr} {fd : FuncData} (F : Fun K "places" "Ways.places" st_Ways_places f fd) (M : Md K mg) (W : WC K C) : FnOk P w K mg base CX0 1 f fd ["self"] (sp_places C) := by
  have nd := sc_Ways_places.nd
  refine F.ok sc_Ways_places (fun vs H Q E h => ?_) (fun cdv A outer s H vs Q E hr h => ?_)
  · obtain ⟨_, _, _, _, rfl, _⟩ := h
    rfl
  · obtain ⟨x, lot, text, fs, rfl, ⟨⟨⟨dx, hx⟩, ⟨pl, _, hL⟩, _, hlen, _⟩, ⟨pb, f3, hb⟩, pa, f4, ha⟩, k⟩ := h
    refine ⟨_, (pss_one (ps_ret (pe_lc (own := [("one", 1), ("other", 2)]) rfl nd (kiz K (pi_zip (by rfl) M.n_zip (pa_cons (kfl K (pe_fld (pv 0) rfl)) (pa_cons (kfl K (pe_fld (pv 0) rfl)) pa_nil)))) (blkOk_by (N := N_Ways_places) (sc := defScope st_Ways_places) (by decide +kernel)) (fun _ _ _ _ _ => (kgt K (n := 2) (pg_tup rfl (pgs_cons (pg_name (i := 1) nd rfl (Or.inl rfl)) (pgs_cons (pg_name (i := 2) nd rfl (Or.inl rfl)) pgs_nil))))) (fun _ _ _ _ _ => pts_nil) (fun _ _ _ _ _ => (pe_op op_mulB (pv 1) (pv 2)))))), ?_⟩
    exact s_retL (el_prod hL.2 hlen (ev_fld (ev_var rfl) hx W.cl W.n_ahead f4) (ev_fld (ev_var rfl) hx W.cl W.n_behind f3) ha hb (fun _ _ => rfl) (fun _ _ => rfl) (fun _ _ => rfl)) k
def sp_led_to (C : Addr) : Sp := fun vs H Q _ => ∃ (x : Addr) (lot : List Tx) (text : Tx) (fs : List (Str × V)), vs = [.ref x] ∧ WaysB C x lot text fs H ∧ RetL (numV (ledL lot text)) H Q
theorem ok_Ways_led_to {f C : Addr} {fd : FuncData} (F : Fun K "led_to" "Ways.led_to" st_Ways_led_to f fd) (M : Md K mg) (W : WC K C) : FnOk P w K mg base CX0 1 f fd ["self"] (sp_led_to C) := by
  have nd := sc_Ways_led_to.nd
  refine F.ok sc_Ways_led_to (fun vs H Q E h => ?_) (fun cdv A outer s H vs Q E hr h => ?_)
  · obtain ⟨_, _, _, _, rfl, _⟩ := h
    rfl
  · obtain ⟨x, lot, text, fs, rfl, ⟨⟨⟨dx, hx⟩, ⟨pl, _, hL⟩, _, hlen, _⟩, ⟨pb, f3, hb⟩, pa, f4, ha⟩, k⟩ := h
    refine ⟨_, (pss_one (ps_ret (pe_lc (own := [("place", 1), ("many", 2)]) rfl nd (kie K (pi_enum (by rfl) M.n_enumerate (pa_cons (kfl K (pe_fld (pv 0) rfl)) pa_nil))) (blkOk_by (N := N_Ways_led_to) (sc := defScope st_Ways_led_to) (by decide +kernel)) (fun _ _ _ _ _ => (kgt K (n := 2) (pg_tup rfl (pgs_cons (pg_name (i := 1) nd rfl (Or.inl rfl)) (pgs_cons (pg_name (i := 2) nd rfl (Or.inl rfl)) pgs_nil))))) (fun _ _ _ _ _ => (pts_one (pt_cmpR op_gt (pv 2) pe_int (nomark _)))) (fun _ _ _ _ _ => (pv 1))))), ?_⟩
    have hlc := el_lcG (σ := start N_Ways_led_to [.ref x]) (H := H) (te := tVar 1) (t := tTest (tOp (rI0 fun i j => .bl (decide (j < i))) (tVar 2) (tC (.int 0)))) (g := gTup K 2 (gCons (gName 1) (gCons (gName 2) gNil))) (vs := [1, 2]) (wi := iEnum K (tCons (tFld K (tVar 0) "ahead") tNil))
      (p := fun p => decide (0 < (preAt lot text p).length)) (gv := fun (p : Nat) => V.int (p : Int)) (List.range (text.length + 1)) (fun p => [some (.ref x), some (.int (p : Int)), some (.int ((preAt lot text p).length : Int))]) (fun p v H1 => p ≤ text.length ∧ ∃ q, v = .ref q ∧ H1 q = some (.tup [.int (p : Int), .int ((preAt lot text p).length : Int)])) (src_enum (ev_fld (ev_var rfl) hx W.cl W.n_ahead f4) (sq_of ha)) (by rw [ah_len]; omega) (by rw [ah_len]; simp) ?_ ?_ (fun _ => rfl) ?_ (fun i H1 e1 hi _ => ev_var rfl)
    · exact s_retL hlc k
    · rintro p v H1 ⟨q, y, rfl, hy, hq⟩
      have hp : p ≤ text.length := by
        have := (List.getElem?_eq_some_iff.mp hy).1
        rw [ah_len] at this
        omega
      rw [ah_at hp] at hy
      cases hy
      exact ⟨p, List.getElem?_range (by omega), hp, q, rfl, hq⟩
    · rintro p v H1 Q' ⟨hp, q, rfl, hq⟩ k'
      exact ⟨q, _, rfl, st_of hq, rfl, _, _, rfl, _, [], rfl, rfl, k'⟩
    · intro p H1 e1 hp
      exact et_is (et_test (ev_op (ev_var rfl) ev_c rv_I0)) (decide_eq_decide.mpr (by omega))
def sp_used (C : Addr) : Sp := fun vs H Q _ => ∃ (x : Addr) (lot : List Tx) (text : Tx) (fs : List (Str × V)), vs = [.ref x] ∧ WaysB C x lot text fs H ∧ RetL (numV (usedL lot text)) H Q
theorem ok_Ways_used {f C : Addr} {fd : FuncData} (F : Fun K "used" "Ways.used" st_Ways_used f fd) (M : Md K mg) (W : WC K C) (MT_Ways_words_at : C8.Met P w K mg base 1 C "words_at" (sp_words_at C) []) : FnOk P w K mg base CX0 2 f fd ["self"] (sp_used C) := by
  have nd := sc_Ways_used.nd
  refine F.ok sc_Ways_used (fun vs H Q E h => ?_) (fun cdv A outer s H vs Q E hr h => ?_)
  · obtain ⟨_, _, _, _, rfl, _⟩ := h
    rfl
  · obtain ⟨x, lot, text, fs, rfl, hW, ret⟩ := h
    obtain ⟨⟨⟨dx, hx⟩, ⟨pl, f1, hp, hL⟩, f2, hlen, _⟩, ⟨pb, f3, hb⟩, pa, f4, ha⟩ := id hW
    have hfew := hL.few
    refine ⟨_, (pss_cons (ps_set (i := 1) nd rfl (Or.inl rfl) pe_dnewK)
  (pss_cons (ps_for PassesOwn.never rfl (pi_range1 (by rfl) M.n_range (pa_cons (pe_callB cr_lenT (by rfl) M.n_len boot_len (pa_cons (kfl K (pe_fld (pv 0) rfl)) pa_nil)) pa_nil)) (pg_name (i := 2) nd rfl (Or.inl rfl))
  (pss_one (ps_for PassesOwn.never rfl (kil K (pi_list (C8.pe_mt MT_Ways_words_at hr (by decide) (pv 0) (pa_cons (pv 2) pa_nil)))) (pg_name (i := 3) nd rfl (Or.inl rfl))
  (pss_one (ps_if (PW.pt (pw_and (pt_cmpR op_gt (pe_ix (kix K (r := L2.rIxL) ix_list) (kfl K (pe_fld (pv 0) rfl)) (pv 2) (fun _ _ => rfl)) pe_int (nomark _)) (pw_and1 (pt_cmpR op_gt (pe_ix (kix K (r := L2.rIxL) ix_list) (kfl K (pe_fld (pv 0) rfl)) (pe_op op_add (pv 2) (pe_callB cr_lenT (by rfl) M.n_len boot_len (pa_cons (pe_ix (kix K (r := L2.rIxT) ix_tup) (kfl K (pe_fld (pv 0) rfl)) (pv 3) (fun _ _ => rfl)) pa_nil))) (fun _ _ => rfl)) pe_int (nomark _)))))
  (pss_one (ps_dput (hu1 hr.units) (pv 1) (pv 3) pe_bl (by rfl)))
  pss_nil)))))
  (pss_one (ps_ret (pe_callB (call_sortedDI rfl) (by rfl) M.n_sorted boot_sorted (pa_cons (pv 1) pa_nil)))))), ?_⟩
    refine fun pd hpd => ?_
    have e0 : Ex H (upd H pd (.dK [])) := Ex.new hpd
    have hd0 : (upd H pd (.dK [])) pd = some (.dK (DS [])) := upd_same
    generalize upd H pd (.dK []) = H0 at e0 hd0 ⊢
    have npx : pd ≠ x := fun z => by rw [z, hx] at hpd; cases hpd
    show tSeq _ _ _ [some (.ref x), some (.ref pd), none, none] H0
    have lenT : ∀ {σ : L2.St} {H' : Hp}, σ[0]? = some (some (.ref x)) → WaysB C x lot text fs H' → Ev (tCB rLenT (tCons (tFld K (tVar 0) "text") tNil)) σ H' (.int (text.length : Int)) := fun h0 hw => by
      obtain ⟨⟨⟨dx, hx⟩, _, f2, _⟩, _⟩ := hw
      exact ev_cb (ea_cons (ev_fld (ev_var h0) hx W.cl W.n_text f2) ea_nil) (rc_lenT (by omega))
    refine q_forW (fun c => c = pd) (src_range1 (n := text.length) (ea_cons (lenT rfl (hW.ex e0)) ea_nil) (by omega)) ?_
      (fun Hs i σ' H' => ∃ (ks : List Nat) (v2 v3 : Option V), σ' = [some (.ref x), some (.ref pd), v2, v3] ∧ Exc (fun c => c = pd) Hs H' ∧ H' pd = some (.dK (DS ks)) ∧ ks.Nodup ∧ ∀ m, m ∈ ks ↔ UT lot text i m) ?_ ?_ ?_ ?_ ?_
    · rintro c rfl
      exact ⟨(by rw [hd0]; exact fun z => nomatch z), fun z => z⟩
    · intro Hs e
      exact ⟨[], none, none, rfl, Exc.refl _, e _ _ hd0, List.Pairwise.nil, fun m => ⟨fun z => (nomatch z), fun ⟨p, hp, _⟩ => absurd hp (by omega)⟩⟩
    · rintro Hs i σ' H' ⟨_, _, _, _, h, _⟩
      exact h
    · rintro Hs i σ' Ha Hb ⟨ks, v2, v3, h0, h1, h2, h3, h4⟩ e
      exact ⟨ks, v2, v3, h0, h1.then e, e _ _ h2, h3, h4⟩
    · rintro Hs i y σ' H' e hi ⟨ks, v2, v3, rfl, j1, j2, j3, j4⟩ rfl
      have wayX : ∀ {Ha : Hp}, Exc (fun c => c = pd) Hs Ha → WaysB C x lot text fs Ha := fun {Ha} ex => by
        have kp : ∀ b o, H b = some o → Ha b = some o := fun b o hbo => ex _ _ (fun z => by rw [z, hpd] at hbo; cases hbo) (e _ _ (e0 _ _ hbo))
        exact hW.ex kp
      show tFor _ _ _ _ [some (.ref x), some (.ref pd), some (.int (i : Int)), v3] H'
      refine s_forW (fun c => c = pd) (src_newLM (f := fun (n : Nat) => V.int (n : Int)) (xs := wordsAt lot text i) (el_words (wayX j1).w rfl rfl)) ?_
        (fun Ht j σ' H9 => ∃ (ks : List Nat) (v3 : Option V), σ' = [some (.ref x), some (.ref pd), some (.int (i : Int)), v3] ∧ Exc (fun c => c = pd) Ht H9 ∧ H9 pd = some (.dK (DS ks)) ∧ ks.Nodup ∧ ∀ m, m ∈ ks ↔ UT lot text i m ∨ (m ∈ (wordsAt lot text i).take j ∧ 0 < (preAt lot text i).length ∧ 0 < (cutsAt lot text (i + wl lot m)).length)) ?_ ?_ ?_ ?_ ?_
      · rintro c rfl
        exact ⟨(by rw [j2]; exact fun z => nomatch z), fun z => z⟩
      · intro Ht e9
        exact ⟨ks, v3, rfl, Exc.refl _, e9 _ _ j2, j3, fun m => (j4 m).trans ⟨.inl, fun z => z.elim id fun h => absurd h.1 (by simp)⟩⟩
      · rintro Ht j σ' H9 ⟨_, _, _, h, _⟩
        exact h
      · rintro Ht j σ' Ha Hb ⟨ks, v3, h0, h1, h2, h3, h4⟩ e
        exact ⟨ks, v3, h0, h1.then e, e _ _ h2, h3, h4⟩
      · rintro Ht j y σ' H9 e9 hj ⟨ks, v3, rfl, k1, k2, k3, k4⟩ hy
        obtain ⟨idx, hidx, rfl⟩ := at_map hy
        have him := List.mem_of_getElem? hidx
        have hpos := word_pos hL.ps0 him
        have ex9 : Exc (fun c => c = pd) Hs H9 := (j1.then e9).trans k1
        have W9 := wayX ex9
        obtain ⟨⟨⟨dx9, hx9⟩, ⟨pl9, g1, hp9, _⟩, g2, _⟩, ⟨pb9, g3, hb9⟩, pa9, g4, ha9⟩ := id W9
        have hw1 : lot[idx]? = some lot[idx] := List.getElem?_eq_getElem hpos.2.2
        have hlw : lot[idx].length ≤ 12 := (hL.wd _ (List.getElem_mem hpos.2.2)).1
        have kl : ks.length ≤ 12 := by
          have := few_of (n := lot.length) k3 fun m hm => ((k4 m).mp hm).elim UT_lt fun z => (word_pos hL.ps0 (List.mem_of_mem_take z.1)).2.2
          omega
        have tk : ∀ m, m ∈ (wordsAt lot text i).take (j + 1) ↔ m ∈ (wordsAt lot text i).take j ∨ m = idx := fun m => by
          rw [List.take_add_one, hidx, List.mem_append]
          simp
        show tIfS _ _ _ _ [some (.ref x), some (.ref pd), some (.int (i : Int)), some (.int (idx : Int))] H9
        refine s_when (b := decide (0 < (preAt lot text i).length) && decide (0 < (cutsAt lot text (i + wl lot idx)).length)) (et_and (et_is (et_test (ev_op (ev_op (ev_fld (ev_var rfl) hx9 W.cl W.n_ahead g4) (ev_var rfl) (rv_ixL (sq_of ha9) (atI_nat (ah_at (by omega))))) ev_c rv_I0)) (decide_eq_decide.mpr (by omega))) fun _ => et_is (et_test (ev_op (ev_op (x := .ref pb9) (y := .int ((i + lot[idx].length : Nat) : Int)) (ev_fld (ev_var rfl) hx9 W.cl W.n_behind g3) (ev_op (ev_var rfl) (ev_cb (ea_cons (ev_op (ev_fld (ev_var rfl) hx9 W.cl W.n_lot g1) (ev_var rfl) (rv_ixT (st_of hp9) (atI_nat (by rw [List.getElem?_map, hw1]; rfl)))) ea_nil) (rc_lenT (by omega))) rv_I0) (rv_ixL (sq_of hb9) (atI_nat (beh_at (by rw [← wl_of hw1]; exact hpos.2.1))))) ev_c rv_I0)) (by rw [wl_of hw1]; exact decide_eq_decide.mpr (by omega))) (fun hb Ha ea => ?_) (fun hb Ha ea => ?_)
        · rw [Bool.and_eq_true, decide_eq_true_eq, decide_eq_true_eq] at hb
          refine s_putD (ev_var rfl) (ev_var rfl) (ea _ _ k2) (by omega) fun Hb eb => ⟨addN ks idx, _, rfl, (k1.then (ea.trans eb)).upd (.inl rfl), upd_same, addN_nodup k3, fun m => ?_⟩
          rw [mem_addN, k4, tk]
          refine ⟨fun z => ?_, fun z => ?_⟩
          · rcases z with (z | z) | z
            · exact .inl z
            · exact .inr ⟨.inl z.1, z.2⟩
            · subst z
              exact .inr ⟨.inr rfl, hb⟩
          · rcases z with z | ⟨z | z, z2⟩
            · exact .inl (.inl z)
            · exact .inl (.inr ⟨z, z2⟩)
            · exact .inr z
        · refine ⟨ks, _, rfl, k1.then ea, ea _ _ k2, k3, fun m => ?_⟩
          rw [k4, tk]
          refine ⟨fun z => z.imp id fun z => ⟨.inl z.1, z.2⟩, fun z => z.imp id fun ⟨z, z2⟩ => ⟨z.elim id fun z3 => ?_, z2⟩⟩
          subst z3
          rw [decide_eq_true z2.1, decide_eq_true z2.2] at hb
          cases hb
      · rintro Ht σ' H9 e9 ⟨ks, v3, rfl, k1, k2, k3, k4⟩
        refine ⟨ks, _, _, rfl, (j1.then e9).trans k1, k2, k3, fun m => ?_⟩
        rw [k4, UT_succ, List.take_length]
        refine ⟨fun z => z.imp id fun ⟨z, z2⟩ => ⟨(List.mem_filter.mp z).2, z2⟩, fun z => z.imp id fun ⟨z, z2⟩ => ⟨List.mem_filter.mpr ⟨List.mem_range.mpr (stands_lt z), z⟩, z2⟩⟩
    · rintro Hs σ' H' e ⟨ks, v2, v3, rfl, j1, j2, j3, j4⟩
      have kl : ks.length ≤ 12 := Nat.le_trans (few_of (n := lot.length) j3 fun m hm => UT_lt ((j4 m).mp hm)) hfew
      refine s_retL (el_sortD (ev_var rfl) j2 (by omega) fun zs hp hs => used_is j3 j4 hp hs) fun p H4 hp4 e4 h4 => ?_
      have ex1 : Ex H H' := fun b o hbo => j1 _ _ (fun z => by rw [z, hpd] at hbo; cases hbo) (e _ _ (e0 _ _ hbo))
      exact ret p H4 (fresh_back ex1 hp4) (ex1.trans e4) h4
end
end K04
set_option Elab.async false
set_option linter.all false
set_option maxRecDepth 100000
set_option maxHeartbeats 2000000
namespace K04
open PySem PySem.Spec PyProof.Rows L2 Evl Wc Wt Wg _root_.Wd
/-- the places through which all cuts go -/
def sureL (lot : List Tx) (text : Tx) : List Nat := asc (text.length + 1) fun p => decide ((preAt lot text p).length * (cutsAt lot text p).length = (cutsAt lot text 0).length) && decide (0 < (cutsAt lot text 0).length)
theorem thru_at {lot : List Tx} {text : Tx} {p : Nat} (hp : p ≤ text.length) : (numV (thruL lot text))[p]? = some (.int (((preAt lot text p).length * (cutsAt lot text p).length : Nat) : Int)) := by
  unfold numV thruL
  rw [List.getElem?_map, List.getElem?_map, List.getElem?_range (by omega)]
  rfl
theorem thru_len (lot : List Tx) (text : Tx) : (numV (thruL lot text)).length = text.length + 1 := by
  unfold numV thruL
  rw [List.length_map, List.length_map, List.length_range]
theorem lcE_of {K : PySem.W.Frag} {σ : L2.St} {H : Hp} {te0 te : TE} {g : TG} {tt : TT} {vs : List Nat} {Q : VK} (h : te0 σ H fun v H1 => tLc (iEnum K (tCons (fun _ H' Q' => Q' v H') tNil)) g tt te vs σ H1 Q) : tLc (iEnum K (tCons te0 tNil)) g tt te vs σ H Q := h
section
variable {P : Program} {w : World} {K : PySem.W.Frag} {mg : Str → Option Value} {base : Heap}
theorem made {C pl : Addr} {lot : List Tx} {text : Tx} {H : Hp} {Q : VK} (hL : LotAt pl lot H) (h1 : text.length ≤ 400) (h2 : ∀ c ∈ text, abcd c) (k : ∀ x fs H2, Ex H H2 → WaysB C x lot text fs H2 → Q (.ref x) H2) :
    ∀ x dx, H x = none → H dx = none → dx ≠ x → sp_Ways C (.ref x :: ([.ref pl, T text] ++ [])) (upd (upd H dx (.own x)) x (.ins C dx [])) (fun v H2 => v = .non ∧ Q (.ref x) H2) E0 := fun x dx hx hdx hne => by
  have e1 : Ex H (upd (upd H dx (.own x)) x (.ins C dx [])) := fun b o hb => by
    rw [upd_ne (ne_of_none hb hx), upd_ne (ne_of_none hb hdx)]
    exact hb
  exact ⟨x, dx, pl, lot, text, rfl, upd_same, hL.ex e1, h1, h2, fun fs H2 W kp => ⟨rfl, k x fs H2 (fun b o hb => kp b o (e1 _ _ hb) (ne_of_none hb hx)) W⟩⟩
theorem wp_ways {C pl : Addr} {lot : List Tx} {text : Tx} {H : Hp} {Q : VK} {σ : L2.St} {ta : TA} (ha : EvA ta σ H [.ref pl, T text]) (hL : LotAt pl lot H) (h1 : text.length ≤ 400) (h2 : ∀ c ∈ text, abcd c) (k : ∀ x fs H2, Ex H H2 → WaysB C x lot text fs H2 → Q (.ref x) H2) : tMake C (sp_Ways C) [] E0 ta σ H Q :=
  ha H (Ex.refl _) _ fun H1 e1 => made (hL.ex e1) h1 h2 fun x fs H2 e2 W => k x fs H2 (e1.trans e2) W
theorem q_ways {C pl : Addr} {lot : List Tx} {text : Tx} {H : Hp} {σ : L2.St} {ta : TA} {i : Nat} {D : Ends} {tz : TS} (ha : EvA ta σ H [.ref pl, T text]) (hL : LotAt pl lot H) (h1 : text.length ≤ 400) (h2 : ∀ c ∈ text, abcd c) (k : ∀ x fs H2, Ex H H2 → WaysB C x lot text fs H2 → tz D (σ.set i (some (.ref x))) H2) : tSeq (tAsg (tMake C (sp_Ways C) [] E0 ta) (gName i)) tz D σ H := wp_ways (C := C) (Q := fun v H2 => tz D (σ.set i (some v)) H2) ha hL h1 h2 k
/-- ways.behind[0] -/
theorem ev_all {C x : Addr} {lot : List Tx} {text : Tx} {fs : List (Str × V)} {i : Nat} {σ : L2.St} {H : Hp} (Wk : WC K C) (W : WaysB C x lot text fs H) (h0 : σ[i]? = some (some (.ref x))) : Ev (tOp (L2.rIxL K) (tFld K (tVar i) "behind") (tC (.int 0))) σ H (.int ((cutsAt lot text 0).length : Int)) := by
  obtain ⟨⟨⟨dx, hx⟩, _⟩, ⟨pb, f3, hb⟩, _⟩ := W
  exact ev_op (ev_fld (ev_var h0) hx Wk.cl Wk.n_behind f3) ev_c (rv_ixL (sq_of hb) (atI_nat (j := 0) (beh_at (Nat.zero_le _))))
theorem el_places {C x : Addr} {lot : List Tx} {text : Tx} {fs : List (Str × V)} {σ : L2.St} {H : Hp} {te : TE} (W : WaysB C x lot text fs H) (h0 : Ev te σ H (.ref x)) : EvL (tMeth C "places" (sp_places C) [] E0 te tNil) σ H (numV (thruL lot text)) := fun H1 e1 Q q =>
  h0 H1 e1 _ fun H2 e2 => by
    have W1 := W.ex (e1.trans e2)
    obtain ⟨dx, hx⟩ := W1.w.ob
    exact ⟨x, dx, fs, rfl, hx, W1.w.no2.1, x, lot, text, fs, rfl, W1, fun p H3 hp e3 h3 => q p H3 (fresh_back e2 hp) (e2.trans e3) h3⟩
theorem el_led {C x : Addr} {lot : List Tx} {text : Tx} {fs : List (Str × V)} {σ : L2.St} {H : Hp} {te : TE} (W : WaysB C x lot text fs H) (h0 : Ev te σ H (.ref x)) : EvL (tMeth C "led_to" (sp_led_to C) [] E0 te tNil) σ H (numV (ledL lot text)) := fun H1 e1 Q q =>
  h0 H1 e1 _ fun H2 e2 => by
    have W1 := W.ex (e1.trans e2)
    obtain ⟨dx, hx⟩ := W1.w.ob
    exact ⟨x, dx, fs, rfl, hx, W1.w.no2.2.1, x, lot, text, fs, rfl, W1, fun p H3 hp e3 h3 => q p H3 (fresh_back e2 hp) (e2.trans e3) h3⟩
theorem el_used {C x : Addr} {lot : List Tx} {text : Tx} {fs : List (Str × V)} {σ : L2.St} {H : Hp} {te : TE} (W : WaysB C x lot text fs H) (h0 : Ev te σ H (.ref x)) : EvL (tMeth C "used" (sp_used C) [] E0 te tNil) σ H (numV (usedL lot text)) := fun H1 e1 Q q =>
  h0 H1 e1 _ fun H2 e2 => by
    have W1 := W.ex (e1.trans e2)
    obtain ⟨dx, hx⟩ := W1.w.ob
    exact ⟨x, dx, fs, rfl, hx, W1.w.no2.2.2, x, lot, text, fs, rfl, W1, fun p H3 hp e3 h3 => q p H3 (fresh_back e2 hp) (e2.trans e3) h3⟩
/-- tuple(Ways(lot, text).m()) -/
theorem s_tupM {C pl : Addr} {lot : List Tx} {text : Tx} {H : Hp} {σ : L2.St} {ta : TA} {m : Str} {sp : Sp} {xs : List V} {D : Ends} (ha : EvA ta σ H [.ref pl, T text]) (hL : LotAt pl lot H) (h1 : text.length ≤ 400) (h2 : ∀ c ∈ text, abcd c) (hm : ∀ x fs H2, WaysB C x lot text fs H2 → EvL (tMeth C m sp [] E0 (fun _ H' Q' => Q' (.ref x) H') tNil) σ H2 xs)
    (k : ∀ p H2, H p = none → Ex H H2 → H2 p = some (.tup xs) → D.rt (.ref p) H2) : tRet (tCB (rTupS K) (tCons (tMeth C m sp [] E0 (tMake C (sp_Ways C) [] E0 ta) tNil) tNil)) D σ H :=
  wp_ways (C := C) (Q := fun v H2 => tRet (tCB (rTupS K) (tCons (tMeth C m sp [] E0 (fun _ H' Q' => Q' v H') tNil) tNil)) D σ H2) ha hL h1 h2 fun x fs H2 e2 W => hm x fs H2 W H2 (Ex.refl _) _ fun p H3 hp e3 h3 => ⟨p, xs, rfl, .inl ⟨sq_of h3, fun q hq => k q _ (fresh_back (e2.trans e3) hq) ((e2.trans e3).trans (Ex.new hq)) upd_same⟩⟩
def RetU (xs : List V) (H : Hp) (Q : VK) : Prop := ∀ p H', H p = none → Ex H H' → H' p = some (.tup xs) → Q (.ref p) H'
def sp_cut_places : Sp := fun vs H Q _ => ∃ (pl : Addr) (lot : List Tx) (text : Tx), vs = [.ref pl, T text] ∧ LotAt pl lot H ∧ text.length ≤ 400 ∧ (∀ c ∈ text, abcd c) ∧ RetU (numV (thruL lot text)) H Q
theorem ok_cut_places {f C : Addr} {fd : FuncData} (F : Fun K "cut_places" "cut_places" st_cut_places f fd) (M : Md K mg) (W : WC K C) (C_need_both : Cal P w K mg base "need_both" st_need_both 5 ["lot", "text"] sp_need_both) (MK_Ways : Mak P w K mg base 2 C "Ways" (sp_Ways C)) (MT_Ways_places : C8.Met P w K mg base 1 C "places" (sp_places C) []) : FnOk P w K mg base CX0 6 f fd ["lot", "text"] sp_cut_places := by
  have nd := sc_cut_places.nd
  refine F.ok sc_cut_places (fun vs H Q E h => ?_) (fun cdv A outer s H vs Q E hr h => ?_)
  · obtain ⟨_, _, _, rfl, _⟩ := h
    rfl
  · obtain ⟨pl, lot, text, rfl, hL, h1, h2, k⟩ := h
    refine ⟨_, (pss_cons (ps_expr (pe_cl C_need_both hr (pa_cons (pv 0) (pa_cons (pv 1) pa_nil))))
  (pss_one (ps_ret (pe_callTy (kcr K (r := rTupS) call_tuple_of) (by rfl) M.n_tuple boot_tuple (pa_cons (C8.pe_mt0 MT_Ways_places hr (by decide) (pe_mkM MK_Ways hr (pa_cons (pv 0) (pa_cons (pv 1) pa_nil)))) pa_nil))))), ?_⟩
    refine q_drop (ev_call (ea_cons (ev_var rfl) (ea_cons (ev_var rfl) ea_nil)) fun H1 e1 Q q E => ⟨pl, lot, text, rfl, hL.ex e1, h1, h2, q⟩) fun H1 e1 => ?_
    exact s_tupM (ea_cons (ev_var rfl) (ea_cons (ev_var rfl) ea_nil)) (hL.ex e1) h1 h2 (fun x fs H2 W2 => el_places W2 fun H3 e3 Q3 q3 => q3 H3 (Ex.refl _)) fun p H2 hp e2 h3 => k p H2 (fresh_back e1 hp) (e1.trans e2) h3
def sp_words_used : Sp := fun vs H Q _ => ∃ (pl : Addr) (lot : List Tx) (text : Tx), vs = [.ref pl, T text] ∧ LotAt pl lot H ∧ text.length ≤ 400 ∧ (∀ c ∈ text, abcd c) ∧ RetU (numV (usedL lot text)) H Q
theorem ok_words_used {f C : Addr} {fd : FuncData} (F : Fun K "words_used" "words_used" st_words_used f fd) (M : Md K mg) (W : WC K C) (C_need_both : Cal P w K mg base "need_both" st_need_both 5 ["lot", "text"] sp_need_both) (MK_Ways : Mak P w K mg base 2 C "Ways" (sp_Ways C)) (MT_Ways_used : C8.Met P w K mg base 2 C "used" (sp_used C) []) : FnOk P w K mg base CX0 6 f fd ["lot", "text"] sp_words_used := by
  have nd := sc_words_used.nd
  refine F.ok sc_words_used (fun vs H Q E h => ?_) (fun cdv A outer s H vs Q E hr h => ?_)
  · obtain ⟨_, _, _, rfl, _⟩ := h
    rfl
  · obtain ⟨pl, lot, text, rfl, hL, h1, h2, k⟩ := h
    refine ⟨_, (pss_cons (ps_expr (pe_cl C_need_both hr (pa_cons (pv 0) (pa_cons (pv 1) pa_nil))))
  (pss_one (ps_ret (pe_callTy (kcr K (r := rTupS) call_tuple_of) (by rfl) M.n_tuple boot_tuple (pa_cons (C8.pe_mt0 MT_Ways_used hr (by decide) (pe_mkM MK_Ways hr (pa_cons (pv 0) (pa_cons (pv 1) pa_nil)))) pa_nil))))), ?_⟩
    refine q_drop (ev_call (ea_cons (ev_var rfl) (ea_cons (ev_var rfl) ea_nil)) fun H1 e1 Q q E => ⟨pl, lot, text, rfl, hL.ex e1, h1, h2, q⟩) fun H1 e1 => ?_
    exact s_tupM (ea_cons (ev_var rfl) (ea_cons (ev_var rfl) ea_nil)) (hL.ex e1) h1 h2 (fun x fs H2 W2 => el_used W2 fun H3 e3 Q3 q3 => q3 H3 (Ex.refl _)) fun p H2 hp e2 h3 => k p H2 (fresh_back e1 hp) (e1.trans e2) h3
def sp_sure : Sp := fun vs H Q _ => ∃ (pl : Addr) (lot : List Tx) (text : Tx), vs = [.ref pl, T text] ∧ LotAt pl lot H ∧ text.length ≤ 400 ∧ (∀ c ∈ text, abcd c) ∧ RetL (numV (sureL lot text)) H Q
theorem ok_sure_places {f C : Addr} {fd : FuncData} (F : Fun K "sure_places" "sure_places" st_sure_places f fd) (M : Md K mg) (W : WC K C) (C_need_both : Cal P w K mg base "need_both" st_need_both 5 ["lot", "text"] sp_need_both) (MK_Ways : Mak P w K mg base 2 C "Ways" (sp_Ways C)) (MT_Ways_places : C8.Met P w K mg base 1 C "places" (sp_places C) []) : FnOk P w K mg base CX0 6 f fd ["lot", "text"] sp_sure := by
  have nd := sc_sure_places.nd
  refine F.ok sc_sure_places (fun vs H Q E h => ?_) (fun cdv A outer s H vs Q E hr h => ?_)
  · obtain ⟨_, _, _, rfl, _⟩ := h
    rfl
  · obtain ⟨pl, lot, text, rfl, hL, h1, h2, k⟩ := h
    refine ⟨_, (pss_cons (ps_expr (pe_cl C_need_both hr (pa_cons (pv 0) (pa_cons (pv 1) pa_nil))))
  (pss_cons (ps_set (i := 2) nd rfl (Or.inl rfl) (pe_mkM MK_Ways hr (pa_cons (pv 0) (pa_cons (pv 1) pa_nil))))
  (pss_cons (ps_set (i := 3) nd rfl (Or.inr rfl) (pe_ix (kix K (r := L2.rIxL) ix_list) (kfl K (pe_fld (pv 2) rfl)) pe_int (fun _ _ => rfl)))
  (pss_one (ps_ret (pe_lc (own := [("place", 4), ("many", 5)]) rfl nd (kie K (pi_enum (by rfl) M.n_enumerate (pa_cons (C8.pe_mt0 MT_Ways_places hr (by decide) (pv 2)) pa_nil))) (blkOk_by (N := N_sure_places) (sc := defScope st_sure_places) (by decide +kernel)) (fun _ _ _ _ _ => (kgt K (n := 2) (pg_tup rfl (pgs_cons (pg_name (i := 4) nd rfl (Or.inl rfl)) (pgs_cons (pg_name (i := 5) nd rfl (Or.inl rfl)) pgs_nil))))) (fun _ _ _ _ _ => (pts_one (PW.pt (pw_and (pt_cmpR op_eqI (pv 5) (pv 3) (nomark _)) (pw_and1 (pt_cmpR op_gt (pv 3) pe_int (nomark _))))))) (fun _ _ _ _ _ => (pv 4)))))))), ?_⟩
    refine q_drop (ev_call (ea_cons (ev_var rfl) (ea_cons (ev_var rfl) ea_nil)) fun H1 e1 Q q E => ⟨pl, lot, text, rfl, hL.ex e1, h1, h2, q⟩) fun H1 e1 => ?_
    refine q_ways (ea_cons (ev_var rfl) (ea_cons (ev_var rfl) ea_nil)) (hL.ex e1) h1 h2 fun x fs H2 e2 W2 => ?_
    show tSeq _ _ _ [some (.ref pl), some (T text), some (.ref x), none, none, none] H2
    refine q_asg (ev_all W W2 rfl) fun H3 e3 => ?_
    have W3 := W2.ex e3
    show tRet _ _ [some (.ref pl), some (T text), some (.ref x), some (.int ((cutsAt lot text 0).length : Int)), none, none] H3
    refine lcE_of (el_places W3 (ev_var rfl) H3 (Ex.refl _) _ fun q H4 hq e4 h4 => ?_)
    have hlc := el_lcG (σ := [some (.ref pl), some (T text), some (.ref x), some (.int ((cutsAt lot text 0).length : Int)), none, none]) (H := H4) (te := tVar 4) (t := tAnd (tTest (tOp (rI0 fun i j => .bl (decide (i = j))) (tVar 5) (tVar 3))) (tTest (tOp (rI0 fun i j => .bl (decide (j < i))) (tVar 3) (tC (.int 0))))) (g := gTup K 2 (gCons (gName 4) (gCons (gName 5) gNil))) (vs := [4, 5]) (wi := iEnum K (tCons (fun _ H' Q' => Q' (.ref q) H') tNil))
      (p := fun p => decide ((preAt lot text p).length * (cutsAt lot text p).length = (cutsAt lot text 0).length) && decide (0 < (cutsAt lot text 0).length)) (gv := fun (p : Nat) => V.int (p : Int)) (List.range (text.length + 1)) (fun p => [some (.ref pl), some (T text), some (.ref x), some (.int ((cutsAt lot text 0).length : Int)), some (.int (p : Int)), some (.int (((preAt lot text p).length * (cutsAt lot text p).length : Nat) : Int))]) (fun p v H1 => p ≤ text.length ∧ ∃ q, v = .ref q ∧ H1 q = some (.tup [.int (p : Int), .int (((preAt lot text p).length * (cutsAt lot text p).length : Nat) : Int)])) (src_enum (fun H5 e5 Q5 q5 => q5 H5 (Ex.refl _)) (sq_of h4)) (by rw [thru_len]; omega) (by rw [thru_len]; simp) ?_ ?_ (fun _ => rfl) ?_ (fun i H1 e1 hi _ => ev_var rfl)
    · exact hlc H4 (Ex.refl _) _ fun p H5 hp e5 h5 => k p H5 (fresh_back (e1.trans (e2.trans (e3.trans e4))) hp) (e1.trans (e2.trans (e3.trans (e4.trans e5)))) h5
    · rintro p v H1 ⟨q, y, rfl, hy, hq⟩
      have hp : p ≤ text.length := by
        have := (List.getElem?_eq_some_iff.mp hy).1
        rw [thru_len] at this
        omega
      rw [thru_at hp] at hy
      cases hy
      exact ⟨p, List.getElem?_range (by omega), hp, q, rfl, hq⟩
    · rintro p v H1 Q' ⟨hp, q, rfl, hq⟩ k'
      exact ⟨q, _, rfl, st_of hq, rfl, _, _, rfl, _, [], rfl, rfl, k'⟩
    · intro p H1 e1 hp
      exact et_and (et_is (et_test (ev_op (ev_var rfl) (ev_var rfl) rv_I0)) (decide_eq_decide.mpr ⟨fun z => Int.ofNat.inj z, fun z => congrArg _ z⟩)) fun _ => et_is (et_test (ev_op (ev_var rfl) ev_c rv_I0)) (decide_eq_decide.mpr (by omega))
def sp_paper : Sp := fun vs H Q _ => ∃ (pl : Addr) (lot : List Tx) (text : Tx), vs = [.ref pl, T text] ∧ LotAt pl lot H ∧ text.length ≤ 400 ∧ (∀ c ∈ text, abcd c) ∧ (0 < (cutsAt lot text 0).length → RetV .non H Q) ∧ (cutsAt lot text 0 = [] → RetL (numV (ledL lot text)) H Q)
theorem ok_no_cut_paper {f C : Addr} {fd : FuncData} (F : Fun K "no_cut_paper" "no_cut_paper" st_no_cut_paper f fd) (M : Md K mg) (W : WC K C) (C_need_both : Cal P w K mg base "need_both" st_need_both 5 ["lot", "text"] sp_need_both) (MK_Ways : Mak P w K mg base 2 C "Ways" (sp_Ways C)) (MT_Ways_led_to : C8.Met P w K mg base 1 C "led_to" (sp_led_to C) []) : FnOk P w K mg base CX0 6 f fd ["lot", "text"] sp_paper := by
  have nd := sc_no_cut_paper.nd
  refine F.ok sc_no_cut_paper (fun vs H Q E h => ?_) (fun cdv A outer s H vs Q E hr h => ?_)
  · obtain ⟨_, _, _, rfl, _⟩ := h
    rfl
  · obtain ⟨pl, lot, text, rfl, hL, h1, h2, k1, k2⟩ := h
    refine ⟨_, (pss_cons (ps_expr (pe_cl C_need_both hr (pa_cons (pv 0) (pa_cons (pv 1) pa_nil))))
  (pss_cons (ps_set (i := 2) nd rfl (Or.inl rfl) (pe_mkM MK_Ways hr (pa_cons (pv 0) (pa_cons (pv 1) pa_nil))))
  (pss_one (ps_ret (pe_ifExp (pt_cmpR op_gt (pe_ix (kix K (r := L2.rIxL) ix_list) (kfl K (pe_fld (pv 2) rfl)) pe_int (fun _ _ => rfl)) pe_int (nomark _)) pe_non (C8.pe_mt0 MT_Ways_led_to hr (by decide) (pv 2))))))), ?_⟩
    refine q_drop (ev_call (ea_cons (ev_var rfl) (ea_cons (ev_var rfl) ea_nil)) fun H1 e1 Q q E => ⟨pl, lot, text, rfl, hL.ex e1, h1, h2, q⟩) fun H1 e1 => ?_
    refine q_ways (ea_cons (ev_var rfl) (ea_cons (ev_var rfl) ea_nil)) (hL.ex e1) h1 h2 fun x fs H2 e2 W2 => ?_
    have e12 := e1.trans e2
    show tRet _ _ [some (.ref pl), some (T text), some (.ref x)] H2
    refine s_retIf (b := decide (0 < (cutsAt lot text 0).length)) (et_is (et_test (ev_op (ev_all W W2 rfl) ev_c rv_I0)) (decide_eq_decide.mpr (by omega))) (fun hb H3 e3 => ?_) (fun hb H3 e3 => ?_)
    · exact s_ret ev_c fun H4 e4 => k1 (of_decide_eq_true hb) H4 ((e12.trans e3).trans e4)
    · have hn : cutsAt lot text 0 = [] := List.length_eq_zero_iff.mp (by have := of_decide_eq_false hb; omega)
      exact s_retL (el_led (W2.ex e3) (ev_var rfl)) fun p H4 hp e4 h4 => k2 hn p H4 (fresh_back (e12.trans e3) hp) ((e12.trans e3).trans e4) h4
end
end K04
set_option Elab.async false
set_option linter.all false
set_option maxRecDepth 100000
set_option maxHeartbeats 2000000
namespace K04
open PySem PySem.Spec PyProof.Rows L2 Evl Wc Wt Wg
/-- texts at p, a tuple or a list of them -/
def SeqT (p : Addr) (ws : List Tx) (H : Hp) : Prop := H p = some (.tup (ws.map T)) ∨ H p = some (.lst (ws.map T))
structure Wds (ws : List Tx) : Prop where
  few : ws.length ≤ 12
  len : ∀ wd ∈ ws, wd.length ≤ 12
  pos : Pos ws
theorem IsLot.wds {lot : List Tx} (h : IsLot lot) : Wds lot := ⟨h.few, fun wd hw => (h.wd wd hw).1, h.pos⟩
theorem src_seq {K : PySem.W.Frag} {σ : L2.St} {H : Hp} {p : Addr} {ws : List Tx} {i : Nat} (h0 : σ[i]? = some (some (.ref p))) (hp : SeqT p ws H) : Src (iSeq K (tVar i)) σ H ws.length (fun b => b = p) (fun i v _ => (ws.map T)[i]? = some v) := by
  rcases hp with h | h
  · exact src_orR (src_tupM (ev_var h0) (st_of h))
  · exact src_orL (src_listM (ev_var h0) (sq_of h))
section
variable {P : Program} {w : World} {K : PySem.W.Frag} {mg : Str → Option Value} {base : Heap}
def sp_ahead : Sp := fun vs H Q _ => ∃ (pl : Addr) (lot : List Tx) (text : Tx), vs = [.ref pl, T text] ∧ SeqT pl lot H ∧ Wds lot ∧ text.length ≤ 400 ∧ RetL (aheadL lot text) H Q
theorem ok__law_ahead {f : Addr} {fd : FuncData} (F : Fun K "_law_ahead" "_law_ahead" st__law_ahead f fd) (M : Md K mg) : FnOk P w K mg base CX0 1 f fd ["lot", "text"] sp_ahead := by
  have nd := sc__law_ahead.nd
  refine F.ok sc__law_ahead (fun vs H Q E h => ?_) (fun cdv A outer s H vs Q E hr h => ?_)
  · obtain ⟨_, _, _, rfl, _⟩ := h
    rfl
  · obtain ⟨pl, lot, text, rfl, hp, hL, hlen, k⟩ := h
    refine ⟨_, (pss_cons (ps_set (i := 2) nd rfl (Or.inl rfl) (pe_op op_cat (pe_lst (pa_cons pe_int pa_nil)) (pe_op op_rep (pe_lst (pa_cons pe_int pa_nil)) (pe_callB cr_lenT (by rfl) M.n_len boot_len (pa_cons (pv 1) pa_nil)))))
  (pss_cons (ps_for PassesOwn.never rfl (pi_range2 (by rfl) M.n_range (pa_cons pe_int (pa_cons (pe_op op_add (pe_callB cr_lenT (by rfl) M.n_len boot_len (pa_cons (pv 1) pa_nil)) pe_int) pa_nil))) (pg_name (i := 3) nd rfl (Or.inl rfl))
  (pss_one (ps_for PassesOwn.never rfl (pi_seq (K := K) (pv 0)) (pg_name (i := 4) nd rfl (Or.inl rfl))
  (pss_cons (ps_set (i := 5) nd rfl (Or.inl rfl) (pe_op op_sub (pv 3) (pe_callB cr_lenT (by rfl) M.n_len boot_len (pa_cons (pv 4) pa_nil))))
  (pss_one (ps_if (PW.pt (pw_and (pt_cmpR op_ge (pv 5) pe_int (nomark _)) (pw_and (pt_cmpR op_gt (pe_ix (kix K (r := L2.rIxL) ix_list) (pv 2) (pv 5) (fun _ _ => rfl)) pe_int (nomark _)) (pw_and1 (pt_cmpR op_eqT (pe_slice sl_T (pv 1) (po_some (pv 5)) (po_some (pv 3))) (pv 4) (nomark _))))))
  (pss_one (ps_asg (pe_op op_add (pe_ix (kix K (r := L2.rIxL) ix_list) (pv 2) (pv 3) (fun _ _ => rfl)) (pe_ix (kix K (r := L2.rIxL) ix_list) (pv 2) (pv 5) (fun _ _ => rfl))) (pg_sub (pv 2) (pv 3) set_list)))
  pss_nil))))))
  (pss_one (ps_ret (pv 2))))), ?_⟩
    have hfew := hL.few
    have hpn : H pl ≠ none := by rcases hp with z | z <;> rw [z] <;> exact fun q => nomatch q
    have seqx : ∀ {H1 : Hp}, (∀ o, H pl = some o → H1 pl = some o) → SeqT pl lot H1 := fun h => hp.imp (h _) (h _)
    have lenT : ∀ {σ : L2.St} {H' : Hp}, σ[1]? = some (some (T text)) → Ev (tCB rLenT (tCons (tVar 1) tNil)) σ H' (.int (text.length : Int)) := fun h0 => ev_cb (ea_cons (ev_var h0) ea_nil) (rc_lenT (by omega))
    refine q_asgL (xs := [V.int 1] ++ List.replicate text.length (V.int 0)) ?_ fun pc H2 fpc eA hpc' => ?_
    · have := el_catNN (el_lst (ea_cons (ev_c (v := V.int 1)) ea_nil) (by show 1 ≤ 100000; decide) : EvL _ (start N__law_ahead [.ref pl, T text]) H [V.int 1]) (el_rep (el_lst (ea_cons (ev_c (v := V.int 0)) ea_nil) (by show 1 ≤ 100000; decide)) (lenT rfl) (by simp; omega) (by omega)) (by rw [rep_one]; simp; omega)
      rw [rep_one] at this
      exact this
    have npl : pl ≠ pc := fun z => hpn (z ▸ fpc)
    show tSeq _ _ _ [some (V.ref pl), some (T text), some (V.ref pc), none, none, none] H2
    refine q_forW (fun c => c = pc) (src_range2 (lo := 1) (hi := (text.length : Int) + 1) (n := text.length) (ea_cons ev_c (ea_cons (ev_op (lenT rfl) ev_c rv_I0) ea_nil)) (by omega) (by omega) (by omega) (by omega) (by omega)) ?_
      (fun Hs i σ' H' => ∃ (vs : List V) (v3 v4 v5 : Option V), σ' = [some (V.ref pl), some (T text), some (V.ref pc), v3, v4, v5] ∧ Exc (fun c => c = pc) Hs H' ∧ H' pc = some (.lst vs) ∧ vs.length = text.length + 1 ∧
        (∀ p, p ≤ i → vs[p]? = some (.int ((preAt lot text p).length : Int))) ∧ ∀ p, i < p → p ≤ text.length → vs[p]? = some (.int 0)) ?_ ?_ ?_ ?_ ?_
    · rintro c rfl
      exact ⟨by rw [hpc']; exact fun z => (nomatch z), fun z => z⟩
    · intro Hs e
      refine ⟨_, none, none, none, rfl, Exc.refl _, e _ _ hpc', by simp, fun p h1 => ?_, fun p h1 h2 => ?_⟩
      · have : p = 0 := by omega
        subst this
        rw [pre_first]
        rfl
      · rw [List.getElem?_append_right (by simp; omega), List.getElem?_replicate, if_pos (by simp; omega)]
    · rintro Hs i σ' H' ⟨_, _, _, _, _, h, _⟩
      exact h
    · rintro Hs i σ' Ha Hb ⟨vs, v3, v4, v5, h0, h1, h2, h3⟩ e
      exact ⟨vs, v3, v4, v5, h0, h1.then e, e _ _ h2, h3⟩
    · rintro Hs i y σ' H' e hi ⟨vs, v3, v4, v5, rfl, h1, h2, h3, h6, h7⟩ rfl
      obtain ⟨place, hpl⟩ : ∃ place : Nat, (1 : Int) + (i : Int) = (place : Int) := ⟨i + 1, by omega⟩
      have hplt : place = i + 1 := by omega
      have hp6 : SeqT pl lot H' := seqx fun o ho => h1 _ _ npl (e _ _ (eA _ _ ho))
      show tFor _ _ _ _ [some (.ref pl), some (T text), some (.ref pc), some (.int (1 + (i : Int))), v4, v5] H'
      rw [hpl]
      refine s_forW (fun c => c = pc) (src_seq rfl hp6) ?_
        (fun Ht j σ' H9 => ∃ (us : List V) (v4 v5 : Option V), σ' = [some (V.ref pl), some (T text), some (V.ref pc), some (.int (place : Int)), v4, v5] ∧ Exc (fun c => c = pc) Ht H9 ∧ H9 pc = some (.lst us) ∧ us.length = text.length + 1 ∧ (∀ p, p ≠ place → us[p]? = vs[p]?) ∧ us[place]? = some (.int (preJ lot text place j : Int))) ?_ ?_ ?_ ?_ ?_
      · rintro c rfl
        exact ⟨by rw [h2]; exact fun z => (nomatch z), fun z => npl z.symm⟩
      · intro Ht e9
        exact ⟨vs, _, _, rfl, Exc.refl _, e9 _ _ h2, h3, fun _ _ => rfl, h7 place (by omega) (by omega)⟩
      · rintro Ht j σ' H9 ⟨_, _, _, _, h, _⟩
        exact h
      · rintro Ht j σ' Ha Hb ⟨us, v4, v5, h0, k1, k2, k3⟩ e
        exact ⟨us, v4, v5, h0, k1.then e, e _ _ k2, k3⟩
      · rintro Ht j y σ' H9 e9 hj ⟨us, v4, v5, rfl, k1, k2, k3, k4, k5⟩ hy
        obtain ⟨wd, hw1, rfl⟩ := at_map hy
        have hwm := List.mem_of_getElem? hw1
        have hlw : wd.length ≤ 12 := hL.len wd hwm
        have hlp : 0 < wd.length := List.length_pos_iff.mpr (hL.pos wd hwm)
        show tSeq _ _ _ [some (V.ref pl), some (T text), some (V.ref pc), some (.int (place : Int)), some (T wd), v5] H9
        refine q_asg (v := .int ((place : Int) - (wd.length : Int))) (ev_op (ev_var rfl) (ev_cb (ea_cons (ev_var rfl) ea_nil) (rc_lenT (by omega))) rv_I0) fun Ha ea => ?_
        show tIfS _ _ _ _ [some (V.ref pl), some (T text), some (V.ref pc), some (.int (place : Int)), some (T wd), some (.int ((place : Int) - (wd.length : Int)))] Ha
        have k2a := ea _ _ k2
        have stay : ∀ {v5 : Option V}, preJ lot text place (j + 1) = preJ lot text place j → ∀ Hb, Ex Ha Hb → ∃ (us : List V) (v4' v5' : Option V), [some (V.ref pl), some (T text), some (V.ref pc), some (.int (place : Int)), some (T wd), v5] = [some (V.ref pl), some (T text), some (V.ref pc), some (.int (place : Int)), v4', v5'] ∧ Exc (fun c => c = pc) Ht Hb ∧ Hb pc = some (.lst us) ∧ us.length = text.length + 1 ∧ (∀ p, p ≠ place → us[p]? = vs[p]?) ∧ us[place]? = some (.int (preJ lot text place (j + 1) : Int)) := fun hn Hb eb => ⟨us, _, _, rfl, k1.then (ea.trans eb), eb _ _ k2a, k3, k4, by rw [hn]; exact k5⟩
        by_cases hb : wd.length ≤ place
        · obtain ⟨B, hB⟩ : ∃ B : Nat, B + wd.length = place := ⟨place - wd.length, by omega⟩
          rw [show (place : Int) - (wd.length : Int) = (B : Int) by omega]
          have z1 := h6 B (by omega)
          rw [← k4 _ (by omega)] at z1
          have hsucc := preJ_succ lot text place j
          have hec : endc lot text place j = decide (StAt text wd B) := by rw [← hB]; exact endc_at hw1 (by omega)
          rw [hec, wl_of hw1, show place - wd.length = B by omega] at hsucc
          have ge0 : Ev (tOp (rI0 fun i j => .bl (decide (j ≤ i))) (tVar 5) (tC (.int 0))) [some (V.ref pl), some (T text), some (V.ref pc), some (.int (place : Int)), some (T wd), some (.int (B : Int))] Ha (.bl true) := ev_is (ev_op (ev_var rfl) ev_c rv_I0) (by show V.bl (decide ((0 : Int) ≤ (B : Int))) = _; rw [decide_eq_true (by omega)])
          have ixB : ∀ {Hb : Hp}, Ex Ha Hb → Ev (tOp (L2.rIxL K) (tVar 2) (tVar 5)) [some (V.ref pl), some (T text), some (V.ref pc), some (.int (place : Int)), some (T wd), some (.int (B : Int))] Hb (.int ((preAt lot text B).length : Int)) := fun eb => ev_op (ev_var rfl) (ev_var rfl) (rv_ixL (sq_of (eb _ _ k2a)) (atI_nat z1))
          have ixP : ∀ {Hb : Hp}, Ex Ha Hb → Ev (tOp (L2.rIxL K) (tVar 2) (tVar 3)) [some (V.ref pl), some (T text), some (V.ref pc), some (.int (place : Int)), some (T wd), some (.int (B : Int))] Hb (.int (preJ lot text place j : Int)) := fun eb => ev_op (ev_var rfl) (ev_var rfl) (rv_ixL (sq_of (eb _ _ k2a)) (atI_nat k5))
          have eqs : Ev (tOp rEqT (tSl Wc.rSlT (tVar 1) (tPart (tVar 5)) (tPart (tVar 3))) (tVar 4)) [some (V.ref pl), some (T text), some (V.ref pc), some (.int (place : Int)), some (T wd), some (.int (B : Int))] Ha (.bl (decide (StAt text wd B))) := ev_is (ev_op (ev_slT (ev_var rfl) (eo_some (ev_var rfl)) (eo_some (ev_var rfl)) (by omega)) (ev_var rfl) rv_eqT) (by rw [cutT_mid, show place - B = wd.length by omega])
          refine s_when (b := decide (0 < (preAt lot text B).length ∧ StAt text wd B)) (et_is (et_andI (b := decide (0 < (preAt lot text B).length ∧ StAt text wd B)) (et_test ge0) fun _ => et_is (et_andI (et_test (ev_op (ixB (Ex.refl _)) ev_c rv_I0)) fun _ => et_test eqs) (by rw [← Bool.decide_and]; exact decide_eq_decide.mpr (and_congr_left fun _ => by omega))) (by simp)) (fun hs Hb eb => ?_) (fun hs Hb eb => stay ?_ Hb eb)
          · obtain ⟨g1, g2⟩ := of_decide_eq_true hs
            rw [decide_eq_true g2, if_pos rfl] at hsucc
            refine (ev_op (ixP eb) (ixB eb) rv_I0 : Ev (tOp (rI0 fun i j => .int (i + j)) (tOp (L2.rIxL K) (tVar 2) (tVar 3)) (tOp (L2.rIxL K) (tVar 2) (tVar 5))) _ Hb (.int ((preJ lot text place j : Int) + ((preAt lot text B).length : Int)))) Hb (Ex.refl _) _ fun Hc ec => ?_
            refine ⟨.ref pc, rfl, .int (place : Int), rfl, pc, us, (place : Int), place, rfl, rfl, ec _ _ (eb _ _ k2a), ixN_nat (by omega), ?_⟩
            refine ⟨us.set place (.int ((preJ lot text place j : Int) + ((preAt lot text B).length : Int))), _, _, rfl, (k1.then ((ea.trans eb).trans ec)).upd (.inl rfl), upd_same, by rw [List.length_set]; exact k3, fun p hp' => by rw [List.getElem?_set_ne (Ne.symm hp')]; exact k4 p hp', ?_⟩
            rw [List.getElem?_set_self (by omega), hsucc]
            congr 2
          · have hn := of_decide_eq_false hs
            by_cases g2 : StAt text wd B
            · have : (preAt lot text B).length = 0 := by
                by_cases z : 0 < (preAt lot text B).length
                · exact absurd ⟨z, g2⟩ hn
                · omega
              rw [decide_eq_true g2, if_pos rfl, this] at hsucc
              exact hsucc
            · rw [decide_eq_false g2, if_neg Bool.false_ne_true] at hsucc
              exact hsucc
        · exact s_when (b := false) (et_is (et_andI (b := false) (et_test (ev_is (ev_op (ev_var rfl) ev_c rv_I0) (by show V.bl (decide ((0 : Int) ≤ _)) = V.bl false; rw [decide_eq_false (by omega)]))) fun h => by cases h) (by simp)) (fun z => by cases z) (fun _ => stay (by rw [preJ_succ, endc_no hw1 hb]; rfl))
      · rintro Ht σ' H9 e9 ⟨us, v4, v5, rfl, k1, k2, k3, k4, k5⟩
        refine ⟨us, _, _, _, rfl, fun b o nb hb => k1 b o nb (e9 b o (h1 b o nb hb)), k2, k3, fun p y1 => ?_, fun p y1 y2 => ?_⟩
        · by_cases hp' : p = place
          · subst hp'
            rw [k5, preJ_all hL.pos (by omega)]
          · rw [k4 p hp']
            exact h6 p (by omega)
        · rw [k4 p (by omega)]
          exact h7 p (by omega) y2
    · rintro Hs σ' H' e ⟨vs, v3, v4, v5, rfl, h1, h2, h3, h6, h7⟩
      refine s_ret (ev_var rfl) fun H3 e3 => k pc H3 fpc ?_ ?_
      · exact fun b o hb => e3 _ _ (h1 _ _ (ne_of_none hb fpc) (e _ _ (eA _ _ hb)))
      · rw [e3 _ _ h2]
        congr 2
        unfold aheadL
        apply List.ext_getElem?
        intro p
        by_cases hp' : p < text.length + 1
        · rw [h6 p (by omega), List.getElem?_map, List.getElem?_range hp']
          rfl
        · rw [List.getElem?_eq_none (by omega), List.getElem?_eq_none (by rw [List.length_map, List.length_range]; omega)]
def sp_behind : Sp := fun vs H Q _ => ∃ (pl : Addr) (lot : List Tx) (text : Tx), vs = [.ref pl, T text] ∧ LotAt pl lot H ∧ text.length ≤ 400 ∧ RetL (behL lot text) H Q
theorem beh_rev {lot : List Tx} (hL : Pos lot) (text : Tx) : (aheadL (lot.map List.reverse) text.reverse).reverse = behL lot text := by
  unfold aheadL behL
  rw [List.length_reverse]
  apply List.ext_getElem?
  intro p
  by_cases hp : p < text.length + 1
  · rw [List.getElem?_reverse (by rw [List.length_map, List.length_range]; exact hp), List.length_map, List.length_range, List.getElem?_map, List.getElem?_map, List.getElem?_range hp, List.getElem?_range (by omega)]
    show some (V.int _) = some (V.int _)
    rw [show text.length + 1 - 1 - p = text.length - p by omega, count_rev hL (by omega)]
  · rw [List.getElem?_eq_none (by simp; omega), List.getElem?_eq_none (by simp; omega)]
theorem s_revC {K : PySem.W.Frag} {σ : L2.St} {H : Hp} {D : Ends} {sp : Sp} {E : XK} {tl tr : TE} (h : tl σ H fun v1 H1 => tr σ H1 fun v2 H2 => sp [v1, v2] H2 (fun v H3 => ∃ p xs, v = .ref p ∧ SqL K H3 p xs ∧ ∀ z, H3 z = none → D.rt (.ref z) (upd H3 z (.lst xs.reverse))) E) : tRet (tRevL K (tCall sp [] E (tCons tl (tCons tr tNil)))) D σ H := h
theorem ok__law_behind {f : Addr} {fd : FuncData} (F : Fun K "_law_behind" "_law_behind" st__law_behind f fd) (M : Md K mg) (C__law_ahead : Cal P w K mg base "_law_ahead" st__law_ahead 1 ["lot", "text"] sp_ahead) : FnOk P w K mg base CX0 2 f fd ["lot", "text"] sp_behind := by
  have nd := sc__law_behind.nd
  refine F.ok sc__law_behind (fun vs H Q E h => ?_) (fun cdv A outer s H vs Q E hr h => ?_)
  · obtain ⟨_, _, _, rfl, _⟩ := h
    rfl
  · obtain ⟨pl, lot, text, rfl, ⟨hp, hL⟩, hlen, k⟩ := h
    refine ⟨_, (pss_one (ps_ret (krev K (pe_revL (pe_cl C__law_ahead hr (pa_cons (pe_lc (own := [("word", 2)]) rfl nd (kit K (pi_tup (pv 0))) (blkOk_by (N := N__law_behind) (sc := defScope st__law_behind) (by decide +kernel)) (fun _ _ _ _ _ => (pg_name (i := 2) nd rfl (Or.inl rfl))) (fun _ _ _ _ _ => pts_nil) (fun _ _ _ _ _ => (pe_revT (pv 2)))) (pa_cons (pe_revT (pv 1)) pa_nil))))))), ?_⟩
    have hlc : EvL (tLc (iTup K (tVar 0)) (gName 2) tYes (tRevT (tVar 2)) [2]) (start N__law_behind [.ref pl, T text]) H ((lot.map List.reverse).map T) := by
      rw [List.map_map]
      exact el_lcM (j := 2) (vs := [2]) (f := T) (g := fun wd => T wd.reverse) lot (src_tupM (ev_var rfl) (st_of hp)) (by have := hL.few; omega) (fun _ => rfl) fun wd H1 e1 hw => ev_revT (ev_var rfl) (by have := (hL.wd wd hw).1; omega)
    refine s_revC (hlc H (Ex.refl _) _ fun q H1 hq e1 hq1 => ?_)
    refine (ev_revT (ev_var rfl) (by omega) : Ev (tRevT (tVar 1)) (start N__law_behind [.ref pl, T text]) H1 (T text.reverse)) H1 (Ex.refl _) _ fun H2 e2 => ?_
    refine ⟨q, lot.map List.reverse, text.reverse, rfl, .inr (e2 _ _ hq1), ⟨by rw [List.length_map]; exact hL.few, fun wd hw => ?_, pos_rev hL.pos⟩, by rw [List.length_reverse]; exact hlen, fun r H3 hr e3 hr3 => ?_⟩
    · obtain ⟨x, hx, rfl⟩ := List.mem_map.mp hw
      rw [List.length_reverse]
      exact (hL.wd x hx).1
    · refine ⟨r, _, rfl, sq_of hr3, fun z hz => k z _ ?_ ((e1.trans (e2.trans e3)).trans (Ex.new hz)) ?_⟩
      · exact fresh_back (e1.trans (e2.trans e3)) hz
      · rw [upd_same, beh_rev hL.pos]
end
end K04
set_option Elab.async false
set_option linter.all false
set_option maxRecDepth 100000
set_option maxHeartbeats 2000000
namespace K04
open PySem PySem.Spec PyProof.Rows L2 Evl Wc Wt
/-! ### cuts by a pile of beginnings -/
abbrev Ent := List Nat × Nat
/-- the cuts that the pile will still give, its last one first -/
def remS (lot : List Tx) (text : Tx) (stk : List Ent) : List (List Nat) := stk.reverse.flatMap fun e => (cutsAt lot text e.2).map (e.1 ++ ·)
theorem rem_app (lot : List Tx) (text : Tx) (stk l : List Ent) : remS lot text (stk ++ l) = remS lot text l ++ remS lot text stk := by
  unfold remS
  rw [List.reverse_append, List.flatMap_append]
theorem rem_one (lot : List Tx) (text : Tx) (e : Ent) : remS lot text [e] = (cutsAt lot text e.2).map (e.1 ++ ·) := by
  unfold remS
  simp
theorem rem_push (lot : List Tx) (text : Tx) (stk : List Ent) (e : Ent) : remS lot text (stk ++ [e]) = (cutsAt lot text e.2).map (e.1 ++ ·) ++ remS lot text stk := by rw [rem_app, rem_one]
def goodW (lot : List Tx) (text : Tx) (p i : Nat) : Bool := stands lot text p i && decide (0 < (cutsAt lot text (p + wl lot i)).length)
/-- what the first j turns put on the pile -/
def pushed (lot : List Tx) (text : Tx) (c : List Nat) (p j : Nat) : List Ent := (((List.range lot.length).reverse.take j).filter (goodW lot text p)).map fun i => (c ++ [i], p + wl lot i)
theorem pushed_zero (lot : List Tx) (text : Tx) (c : List Nat) (p : Nat) : pushed lot text c p 0 = [] := rfl
theorem pushed_succ {lot : List Tx} {text : Tx} {c : List Nat} {p j : Nat} (h : j < lot.length) : pushed lot text c p (j + 1) = pushed lot text c p j ++ if goodW lot text p (lot.length - 1 - j) = true then [(c ++ [lot.length - 1 - j], p + wl lot (lot.length - 1 - j))] else [] := by
  unfold pushed
  have e : (List.range lot.length).reverse[j]? = some (lot.length - 1 - j) := by
    rw [List.getElem?_reverse (by rw [List.length_range]; exact h), List.length_range, List.getElem?_range (by omega)]
  rw [List.take_add_one, e, List.filter_append, List.map_append]
  congr 1
  cases z : goodW lot text p (lot.length - 1 - j) with
  | true => simp [z]
  | false => simp [z]
theorem flatMap_ne {α β : Type} {f : α → List β} {q : α → Bool} : ∀ {l : List α}, (∀ a ∈ l, q a = false → f a = []) → (l.filter q).flatMap f = l.flatMap f
  | [], _ => rfl
  | a :: l, h => by
    rw [List.flatMap_cons]
    cases z : q a with
    | true =>
      rw [List.filter_cons_of_pos z, List.flatMap_cons, flatMap_ne fun b hb => h b (List.mem_cons_of_mem _ hb)]
    | false =>
      rw [List.filter_cons_of_neg (by rw [z]; exact Bool.false_ne_true), h a List.mem_cons_self z, List.nil_append, flatMap_ne fun b hb => h b (List.mem_cons_of_mem _ hb)]
theorem pushed_all {lot : List Tx} (hL : Pos lot) {text : Tx} {c : List Nat} {p : Nat} (hp : p < text.length) : remS lot text (pushed lot text c p lot.length) = (cutsAt lot text p).map (c ++ ·) := by
  have e1 : pushed lot text c p lot.length = (((List.range lot.length).filter (goodW lot text p)).map fun i => (c ++ [i], p + wl lot i)).reverse := by
    unfold pushed
    rw [List.take_of_length_le (by rw [List.length_reverse, List.length_range]; exact Nat.le_refl _), List.filter_reverse, List.map_reverse]
  have e2 : (List.range lot.length).filter (goodW lot text p) = (wordsAt lot text p).filter fun i => decide (0 < (cutsAt lot text (p + wl lot i)).length) := by
    unfold wordsAt
    rw [List.filter_filter]
    congr 1
    funext i
    unfold goodW
    rw [Bool.and_comm]
  unfold remS
  rw [e1, List.reverse_reverse, e2, List.flatMap_map, cuts_step hL hp, List.map_flatMap]
  rw [flatMap_ne (fun i hi hq => by
    have := of_decide_eq_false hq
    have hz : cutsAt lot text (p + wl lot i) = [] := List.length_eq_zero_iff.mp (by omega)
    show (cutsAt lot text (p + wl lot i)).map _ = []
    rw [hz]
    rfl)]
  refine flatMap_same fun i _ => ?_
  rw [List.map_map]
  refine List.map_congr_left fun t _ => ?_
  show (c ++ [i]) ++ t = c ++ (i :: t)
  rw [List.append_assoc]
  rfl
theorem pushed_mem {lot : List Tx} (hL : Pos lot) {text : Tx} {c : List Nat} {p j : Nat} {e : Ent} (h : e ∈ pushed lot text c p j) : p + 1 ≤ e.2 ∧ e.2 ≤ text.length ∧ cutsAt lot text e.2 ≠ [] := by
  obtain ⟨i, hi, rfl⟩ := List.mem_map.mp h
  obtain ⟨h1, h2⟩ := List.mem_filter.mp hi
  unfold goodW at h2
  rw [Bool.and_eq_true, decide_eq_true_eq] at h2
  have hil : i < lot.length := List.mem_range.mp (List.mem_reverse.mp (List.mem_of_mem_take h1))
  have hw := word_pos hL (List.mem_filter.mpr ⟨List.mem_range.mpr hil, h2.1⟩ : i ∈ wordsAt lot text p)
  exact ⟨by show p + 1 ≤ p + wl lot i; omega, hw.2.1, fun z => by
    have h3 : 0 < (cutsAt lot text (p + wl lot i)).length := h2.2
    rw [z] at h3
    cases h3⟩
theorem pushed_fst {lot : List Tx} {text : Tx} {c : List Nat} {p j : Nat} {e : Ent} (h : e ∈ pushed lot text c p j) : e.1.length = c.length + 1 := by
  obtain ⟨i, hi, rfl⟩ := List.mem_map.mp h
  show (c ++ [i]).length = _
  rw [List.length_append]
  rfl
theorem pushed_len (lot : List Tx) (text : Tx) (c : List Nat) (p j : Nat) : (pushed lot text c p j).length ≤ j := by
  unfold pushed
  rw [List.length_map]
  refine Nat.le_trans (List.length_filter_le _ _) ?_
  rw [List.length_take]
  exact Nat.min_le_left _ _
end K04
set_option Elab.async false
set_option linter.all false
set_option maxRecDepth 100000
set_option maxHeartbeats 4000000
namespace K04
open PySem PySem.Spec PyProof.Rows L2 Evl Wc Wt Wg _root_.Wd
section
variable {P : Program} {w : World} {K : PySem.W.Frag} {mg : Str → Option Value} {base : Heap}
def sp_law_so : Sp := fun vs H Q _ => ∃ (a b : Bool), vs = [.bl a, .bl b] ∧ RetV (.bl (decide (a = b))) H Q
theorem ok__law_so {f : Addr} {fd : FuncData} (F : Fun K "_law_so" "_law_so" st__law_so f fd) (M : Md K mg) : FnOk P w K mg base CX0 1 f fd ["actual", "due"] sp_law_so := by
  have nd := sc__law_so.nd
  refine F.ok sc__law_so (fun vs H Q E h => ?_) (fun cdv A outer s H vs Q E hr h => ?_)
  · obtain ⟨_, _, rfl, _⟩ := h
    rfl
  · obtain ⟨a, b, rfl, k⟩ := h
    refine ⟨_, (pss_one (ps_ret (pe_and (pe_callB (kcr K (r := rIsiB) cr_isi) (by rfl) M.n_isinstance boot_isinstance (pa_cons (pv 0) (pa_cons (pe_bltn (v := .ty "bool") rfl M.n_bool boot_bool rfl) pa_nil))) (pe_one (pe_cmpR op_eqB (pv 0) (pv 1) (nomark _)))))), ?_⟩
    exact s_ret (ev_andV (ev_cb (ea_cons (ev_var rfl) (ea_cons ev_c ea_nil)) (rc_isi (fun _ _ => .base (.bl _)) k_bool_bool)) fun _ => ev_op (ev_var rfl) (ev_var rfl) rv_eqB) k
theorem ok__law_list {f : Addr} {fd : FuncData} (F : Fun K "_law_list" "_law_list" st__law_list f fd) (M : Md K mg) : FnOk P w K mg base CX0 1 f fd ["actual", "due"] (sp_list_same K) := by
  have nd := sc__law_list.nd
  refine F.ok sc__law_list (fun vs H Q E h => ?_) (fun cdv A outer s H vs Q E hr h => ?_)
  · obtain ⟨_, _, _, rfl, _⟩ := h
    rfl
  · obtain ⟨p, q, xs, rfl, hp, hq, hx, hl, k⟩ := h
    refine ⟨_, (pss_cons (ps_if (PW.pt (pw_or (pt_not (pt_val (pe_callB (kcr K (r := rIsiB) cr_isi) (by rfl) M.n_isinstance boot_isinstance (pa_cons (pv 0) (pa_cons (pe_bltn (v := .ty "list") rfl M.n_list boot_list rfl) pa_nil))))) (pw_or1 (pt_cmpR (kop K (r := rNeD) (op_neD hr.units)) (pv 0) (pv 1) (nomark _)))))
  (pss_one (ps_ret pe_bl))
  pss_nil)
  (pss_one (ps_ret (pe_cmpR (kop K (r := rEqD) (op_eqD hr.units)) (pe_lc (own := [("part", 2)]) rfl nd (kil K (pi_list (pv 0))) (blkOk_by (N := N__law_list) (sc := defScope st__law_list) (by decide +kernel)) (fun _ _ _ _ _ => (pg_name (i := 2) nd rfl (Or.inl rfl))) (fun _ _ _ _ _ => (pts_one (pt_val (pe_callB (kcr K (r := rIsiB) cr_isi) (by rfl) M.n_isinstance boot_isinstance (pa_cons (pv 2) (pa_cons (pe_bltn (v := .ty "bool") rfl M.n_bool boot_bool rfl) pa_nil)))))) (fun _ _ _ _ _ => (pv 2))) (pe_lst pa_nil) (nomark _))))), ?_⟩
    obtain ⟨ds, hd, hlay, hdep⟩ := flat_data (K := K) (H := H) hx
    have hsh : SeqAt.shaped (.list ds) = true := shaped_of hlay (by show PyData.depthAll ds + 1 ≤ 64; omega)
    have hrefl : PyData.eqv (.list ds) (.list ds) = true := SeqAt.eqv_refl _ hlay
    refine q_when (b := false) (et_is (et_or (et_not (et_B (ev_cb (ea_cons (ev_var rfl) (ea_cons ev_c ea_nil)) (rc_isi (b := true) (fun H1 e => .base (.lst (e _ _ hp))) k_list_list)))) fun _ => et_test (ev_op (ev_var rfl) (ev_var rfl) (rv_neD (d := .list ds) (e := .list ds) (b := true) (fun H1 e => .lst (ex_l e (sq_of hp)) (DpAll.ex e hd)) (fun H1 e => .lst (ex_l e hq) (DpAll.ex e hd)) hsh hsh hrefl))) rfl) (fun z => by cases z) (fun _ H1 e1 => ?_)
    have hpart : ∀ v ∈ xs, ∃ t, kitB t "bool" = some false ∧ ∀ H2 : Hp, TyX K H2 v (.type t) := fun v hv => by
      obtain ⟨d, hd⟩ := hx v hv
      cases hd with
      | int i => exact ⟨"int", k_int_bool, fun H2 => .base (.int i)⟩
      | str _ => exact ⟨"str", k_str_bool, fun H2 => .base (.str _)⟩
    refine s_ret (ev_opLL (xs := []) (ys := []) ?_ (el_lst ea_nil (by decide)) (fun p1 q1 H2 h1 h2 e2 => rv_eqD (d := .list []) (e := .list []) (b := true) (fun H3 e3 => .lst (ex_l e3 (sq_of h1)) .nil) (fun H3 e3 => .lst (ex_l e3 (sq_of h2)) .nil) (by decide) (by decide) (by decide))) (RetV.mono k e1)
    have h0 := el_lcX (j := 2) (te := tVar 2) (t := tB (tCB (rIsiB K) (tCons (tVar 2) (tCons (tC (.ty "bool")) tNil)))) (σ := start N__law_list [.ref p, .ref q]) (H := H1) (vs := [2]) (p := fun _ => false) (g := fun v => v) xs (fun a x _ => x = a) (src_list (ev_var rfl : Ev (tVar 0) (start N__law_list [.ref p, .ref q]) H1 (.ref p)) (sq_of (K := K) (e1 _ _ hp))) (by omega) (fun _ => rfl) rfl (fun i x _ hi => ⟨x, hi, rfl⟩) (fun v x H2 e2 hv hr => by
      subst hr
      obtain ⟨t, ht, hty⟩ := hpart x hv
      exact et_B (ev_cb (ea_cons (ev_var rfl) (ea_cons ev_c ea_nil)) (rc_isi (fun H3 _ => hty H3) ht))) (fun _ _ _ _ _ _ z => by cases z)
    rw [List.filter_eq_nil_iff.mpr (fun _ _ z => by cases z)] at h0
    exact h0
theorem flat_num (c : List Nat) : ∀ v ∈ numV c, ∃ d, FlatV v d := fun v hv => by
  obtain ⟨n, _, rfl⟩ := List.mem_map.mp hv
  exact ⟨_, .int _⟩
end
end K04
set_option Elab.async false
set_option linter.all false
set_option maxRecDepth 100000
set_option maxHeartbeats 4000000
namespace K04
open PySem PySem.Spec PyProof.Rows L2 Evl Wc Wt Wg
/-- a cut as an object that is new since H0 -/
def FR (H0 H : Hp) (pf pw a : Addr) (c : List Nat) : Prop := H a = some (.lst (numV c)) ∧ H0 a = none ∧ a ≠ pf ∧ a ≠ pw
/-- an entry of the pile -/
def WR (H0 H : Hp) (pf pw t : Addr) (e : Ent) : Prop := ∃ ca, H t = some (.tup [.ref ca, .int (e.2 : Int)]) ∧ FR H0 H pf pw ca e.1
/-- all but the two lists stands -/
abbrev Two (pf pw : Addr) (c : Addr) : Prop := c = pf ∨ c = pw
theorem FR.go {H0 H H1 : Hp} {pf pw a : Addr} {c : List Nat} (h : FR H0 H pf pw a c) (e : Exc (Two pf pw) H H1) : FR H0 H1 pf pw a c := ⟨e _ _ (fun z => z.elim h.2.2.1 h.2.2.2) h.1, h.2⟩
structure PileAt (H0 H : Hp) (pf pw : Addr) (fs : List (List Nat)) (stk : List Ent) : Prop where
  f : ∃ ps : List Addr, H pf = some (.lst (ps.map V.ref)) ∧ All2 (FR H0 H pf pw) ps fs
  w : ∃ ts : List Addr, H pw = some (.lst (ts.map V.ref)) ∧ All2 (WR H0 H pf pw) ts stk
theorem WR.go {H0 H H1 : Hp} {pf pw t : Addr} {e : Ent} (h : WR H0 H pf pw t e) (hf : ∃ xs, H pf = some (.lst xs)) (hw : ∃ xs, H pw = some (.lst xs)) (x : Exc (Two pf pw) H H1) : WR H0 H1 pf pw t e := by
  obtain ⟨ca, h1, h2⟩ := h
  refine ⟨ca, x _ _ (fun z => ?_) h1, h2.go x⟩
  obtain ⟨xs, hf⟩ := hf
  obtain ⟨ys, hw⟩ := hw
  rcases z with rfl | rfl
  · rw [hf] at h1; cases h1
  · rw [hw] at h1; cases h1
theorem PileAt.ex {H0 H H1 : Hp} {pf pw : Addr} {fs : List (List Nat)} {stk : List Ent} (h : PileAt H0 H pf pw fs stk) (e : Ex H H1) : PileAt H0 H1 pf pw fs stk := by
  obtain ⟨⟨ps, f1, f2⟩, ts, w1, w2⟩ := h
  exact ⟨⟨ps, e _ _ f1, f2.mono fun a b r => r.go (.of e)⟩, ts, e _ _ w1, w2.mono fun a b r => r.go ⟨_, f1⟩ ⟨_, w1⟩ (.of e)⟩
/-- one more cut found -/
theorem PileAt.found {H0 H : Hp} {pf pw ca : Addr} {fs : List (List Nat)} {stk : List Ent} {c : List Nat} {xs : List V} (h : PileAt H0 H pf pw fs stk) (hne : pf ≠ pw) (hc : FR H0 H pf pw ca c) (hx : H pf = some (.lst xs)) : PileAt H0 (upd H pf (.lst (xs ++ [.ref ca]))) pf pw (fs ++ [c]) stk := by
  obtain ⟨⟨ps, f1, f2⟩, ts, w1, w2⟩ := h
  rw [f1] at hx
  cases hx
  have x : Exc (Two pf pw) H (upd H pf (.lst (ps.map V.ref ++ [.ref ca]))) := (Exc.refl H).upd (.inl (.inl rfl))
  exact ⟨⟨ps ++ [ca], by rw [upd_same, List.map_append]; rfl, (f2.mono fun a b r => r.go x).push (hc.go x)⟩, ts, by rw [upd_ne (Ne.symm hne)]; exact w1, w2.mono fun a b r => r.go ⟨_, f1⟩ ⟨_, w1⟩ x⟩
/-- one more entry on the pile -/
theorem PileAt.more {H0 H : Hp} {pf pw t : Addr} {fs : List (List Nat)} {stk : List Ent} {e : Ent} {xs : List V} (h : PileAt H0 H pf pw fs stk) (hne : pf ≠ pw) (hc : WR H0 H pf pw t e) (hx : H pw = some (.lst xs)) : PileAt H0 (upd H pw (.lst (xs ++ [.ref t]))) pf pw fs (stk ++ [e]) := by
  obtain ⟨⟨ps, f1, f2⟩, ts, w1, w2⟩ := h
  rw [w1] at hx
  cases hx
  have x : Exc (Two pf pw) H (upd H pw (.lst (ts.map V.ref ++ [.ref t]))) := (Exc.refl H).upd (.inl (.inr rfl))
  exact ⟨⟨ps, by rw [upd_ne hne]; exact f1, f2.mono fun a b r => r.go x⟩, ts ++ [t], by rw [upd_same, List.map_append]; rfl, (w2.mono fun a b r => r.go ⟨_, f1⟩ ⟨_, w1⟩ x).push (hc.go ⟨_, f1⟩ ⟨_, w1⟩ x)⟩
/-- the last entry goes -/
theorem PileAt.less {H0 H : Hp} {pf pw : Addr} {fs : List (List Nat)} {stk : List Ent} {e : Ent} (h : PileAt H0 H pf pw fs (stk ++ [e])) (hne : pf ≠ pw) : ∃ (xs : List V) (t ca : Addr), H pw = some (.lst (xs ++ [.ref t])) ∧ H t = some (.tup [.ref ca, .int (e.2 : Int)]) ∧ FR H0 H pf pw ca e.1 ∧ PileAt H0 (upd H pw (.lst xs)) pf pw fs stk ∧ FR H0 (upd H pw (.lst xs)) pf pw ca e.1 := by
  obtain ⟨⟨ps, f1, f2⟩, ts, w1, w2⟩ := h
  obtain ⟨ts', t, rfl, w3, ca, r1, r2⟩ := w2.pop
  have x : Exc (Two pf pw) H (upd H pw (.lst (ts'.map V.ref))) := (Exc.refl H).upd (.inl (.inr rfl))
  exact ⟨ts'.map V.ref, t, ca, by rw [w1, List.map_append]; rfl, r1, r2, ⟨⟨ps, by rw [upd_ne hne]; exact f1, f2.mono fun a b r => r.go x⟩, ts', upd_same, w3.mono fun a b r => r.go ⟨_, f1⟩ ⟨_, w1⟩ x⟩, r2.go x⟩
/-- the pile as data -/
def entD (e : Ent) : PyData := .tuple [.list (e.1.map fun (n : Nat) => PyData.int (n : Int)), .int (e.2 : Int)]
theorem lay_ent (e : Ent) : (entD e).canLay0 = true := by
  show PyData.canLayAll0 [PyData.list (e.1.map fun (n : Nat) => PyData.int (n : Int)), .int (e.2 : Int)] = true
  show ((PyData.list (e.1.map fun (n : Nat) => PyData.int (n : Int))).canLay0 && ((PyData.int (e.2 : Int)).canLay0 && true)) = true
  rw [lay_list fun _ _ => rfl]
  rfl
theorem depth_ent (e : Ent) : (entD e).depth ≤ 3 := by
  show PyData.depthAll [PyData.list (e.1.map fun (n : Nat) => PyData.int (n : Int)), .int (e.2 : Int)] + 1 ≤ 3
  have : PyData.depthAll (e.1.map fun (n : Nat) => PyData.int (n : Int)) ≤ 0 := depth_all fun _ _ => Nat.le_refl _
  show max (PyData.depthAll (e.1.map fun (n : Nat) => PyData.int (n : Int)) + 1) (max 0 0) + 1 ≤ 3
  omega
theorem dp_pile {K : PySem.W.Frag} {H0 H : Hp} {pf pw : Addr} {ts : List Addr} {stk : List Ent} (h : All2 (WR H0 H pf pw) ts stk) : DpAll K H (ts.map V.ref) (stk.map entD) := by
  induction h with
  | nil => exact .nil
  | cons r _ ih =>
    obtain ⟨ca, r1, r2⟩ := r
    exact .cons (.tup (st_of r1) (.cons (dp_list (sq_of r2.1) fun _ _ => .int _) (.cons (.int _) .nil))) ih
section
variable {P : Program} {w : World} {K : PySem.W.Frag} {mg : Str → Option Value} {base : Heap}
def sp_all : Sp := fun vs H Q _ => ∃ (pl pb : Addr) (lot : List Tx) (text : Tx) (most : Nat), vs = [.ref pl, T text, .ref pb, .int (most : Int)] ∧ LotAt pl lot H ∧ text.length ≤ 400 ∧ H pb = some (.lst (behL lot text)) ∧ most ≤ (cutsAt lot text 0).length ∧ most ≤ 400 ∧
  ∀ q H' ps, H q = none → Ex H H' → H' q = some (.lst (ps.map V.ref)) → All2 (fun a c => H' a = some (.lst (numV c)) ∧ H a = none ∧ a ≠ q) ps ((cutsAt lot text 0).take most) → Q (.ref q) H'
theorem ok__law_all {f : Addr} {fd : FuncData} (F : Fun K "_law_all" "_law_all" st__law_all f fd) (M : Md K mg) : FnOk P w K mg base CX0 1 f fd ["lot", "text", "behind", "most"] sp_all := by
  have nd := sc__law_all.nd
  refine F.ok sc__law_all (fun vs H Q E h => ?_) (fun cdv A outer s H vs Q E hr h => ?_)
  · obtain ⟨_, _, _, _, _, rfl, _⟩ := h
    rfl
  · obtain ⟨pl, pb, lot, text, most, rfl, hLA, hlen, hpb, hmost, hm400, ret⟩ := h
    obtain ⟨hp, hL⟩ := id hLA
    have hfew := hL.few
    have hL0 : 0 < lot.length := List.length_pos_iff.mpr hL.ne
    refine ⟨_, (pss_cons (ps_par (i := 4) (j := 5) rfl nd rfl rfl (by decide) rfl rfl (pa_cons (pe_lst pa_nil) (pa_cons (pe_lst (pa_cons (pe_tup (pa_cons (pe_lst pa_nil) (pa_cons pe_int pa_nil))) pa_nil)) pa_nil)) (by rfl))
  (pss_cons (ps_for PassesOwn.never rfl (pi_range1 (by rfl) M.n_range (pa_cons (pe_op op_add pe_int (pe_op op_mulB (pe_op op_mulB (pe_op op_add (pv 3) pe_int) (pe_op op_add (pe_callB cr_lenT (by rfl) M.n_len boot_len (pa_cons (pv 1) pa_nil)) pe_int)) (pe_callB (kcr K (r := rLenS) call_len_seq) (by rfl) M.n_len boot_len (pa_cons (pv 0) pa_nil)))) pa_nil)) (pg_name (i := 6) nd rfl (Or.inl rfl))
  (pss_cons (ps_if (PW.pt (pw_or (pt_cmpR (kop K (r := rEqD) (op_eqD hr.units)) (pv 5) (pe_lst pa_nil) (nomark _)) (pw_or1 (pt_cmpR op_eqI (pe_callB (kcr K (r := rLenS) call_len_seq) (by rfl) M.n_len boot_len (pa_cons (pv 4) pa_nil)) (pv 3) (nomark _)))))
  (pss_one ps_break)
  pss_nil)
  (pss_cons (ps_asg (kbm0 K (pe_bm0 PySem.F.plainAttrs_list PySem.F.slot_list_pop PySem.F.type_list_pop mt_pop (pv 5))) (kgt K (n := 2) (pg_tup rfl (pgs_cons (pg_name (i := 7) nd rfl (Or.inl rfl)) (pgs_cons (pg_name (i := 8) nd rfl (Or.inl rfl)) pgs_nil)))))
  (pss_one (ps_if (pt_cmpR op_eqI (pv 8) (pe_callB cr_lenT (by rfl) M.n_len boot_len (pa_cons (pv 1) pa_nil)) (nomark _))
  (pss_one (ps_expr (kbm K (pe_bm PySem.F.plainAttrs_list PySem.F.slot_list_append PySem.F.type_list_append mt_append (pv 4) (pa_cons (pv 7) pa_nil)))))
  (pss_one (ps_for PassesOwn.never rfl (pi_revR (by rfl) M.n_reversed (prg_1 (by rfl) M.n_range (pe_callB (kcr K (r := rLenS) call_len_seq) (by rfl) M.n_len boot_len (pa_cons (pv 0) pa_nil)))) (pg_name (i := 9) nd rfl (Or.inl rfl))
  (pss_cons (ps_set (i := 10) nd rfl (Or.inl rfl) (pe_op op_add (pv 8) (pe_callB cr_lenT (by rfl) M.n_len boot_len (pa_cons (pe_ix (kix K (r := L2.rIxT) ix_tup) (pv 0) (pv 9) (fun _ _ => rfl)) pa_nil))))
  (pss_one (ps_if (PW.pt (pw_and (pt_cmpR op_le (pv 10) (pe_callB cr_lenT (by rfl) M.n_len boot_len (pa_cons (pv 1) pa_nil)) (nomark _)) (pw_and (pt_cmpR op_gt (pe_ix (kix K (r := L2.rIxL) ix_list) (pv 2) (pv 10) (fun _ _ => rfl)) pe_int (nomark _)) (pw_and1 (pt_cmpR op_eqT (pe_slice sl_T (pv 1) (po_some (pv 8)) (po_some (pv 10))) (pe_ix (kix K (r := L2.rIxT) ix_tup) (pv 0) (pv 9) (fun _ _ => rfl)) (nomark _))))))
  (pss_one (ps_expr (kbm K (pe_bm PySem.F.plainAttrs_list PySem.F.slot_list_append PySem.F.type_list_append mt_append (pv 5) (pa_cons (pe_tup (pa_cons (pe_op op_cat (pv 7) (pe_lst (pa_cons (pv 9) pa_nil))) (pa_cons (pv 10) pa_nil))) pa_nil)))))
  pss_nil))))))))))
  (pss_one (ps_ret (pv 4))))), ?_⟩
    have lenT : ∀ {σ : L2.St} {H' : Hp}, σ[1]? = some (some (T text)) → Ev (tCB rLenT (tCons (tVar 1) tNil)) σ H' (.int (text.length : Int)) := fun h0 => ev_cb (ea_cons (ev_var h0) ea_nil) (rc_lenT (by omega))
    refine ⟨by decide, fun pf hpf => ⟨by decide, fun c0 hc0 => ⟨by show 2 ≤ sizeLine; decide, fun t0 ht0 => ⟨by show 1 ≤ sizeLine; decide, fun pw hpw => ⟨.ref pf, .ref pw, rfl, ?_⟩⟩⟩⟩⟩
    have e1 := Ex.new (o := HO.lst []) hpf
    have e2 := Ex.new (o := HO.lst []) hc0
    have e3 := Ex.new (o := HO.tup [.ref c0, .int 0]) ht0
    have e4 := Ex.new (o := HO.lst [.ref t0]) hpw
    have nfw : pf ≠ pw := ne_of_none ((e2.trans e3) _ _ (upd_same (H := H) (a := pf))) hpw
    have eA : Ex H (upd (upd (upd (upd H pf (.lst [])) c0 (.lst [])) t0 (.tup [.ref c0, .int 0])) pw (.lst [.ref t0])) := ((e1.trans e2).trans e3).trans e4
    have hpw0 : H pw = none := fresh_back ((e1.trans e2).trans e3) hpw
    have pile0 : PileAt H (upd (upd (upd (upd H pf (.lst [])) c0 (.lst [])) t0 (.tup [.ref c0, .int 0])) pw (.lst [.ref t0])) pf pw [] [([], 0)] := by
      refine ⟨⟨[], ((e2.trans e3).trans e4) _ _ upd_same, .nil⟩, [t0], upd_same, .one ⟨c0, e4 _ _ upd_same, (e3.trans e4) _ _ upd_same, fresh_back e1 hc0, (ne_of_none upd_same hc0).symm, ne_of_none (e3 _ _ upd_same) hpw⟩⟩
    generalize upd (upd (upd (upd H pf (.lst [])) c0 (.lst [])) t0 (.tup [.ref c0, .int 0])) pw (.lst [.ref t0]) = H1 at eA pile0 ⊢
    clear e1 e2 e3 e4 hc0 ht0 hpw
    show tSeq _ _ _ [some (.ref pl), some (T text), some (.ref pb), some (.int (most : Int)), some (.ref pf), some (.ref pw), none, none, none, none, none] H1
    -- the ends of the loop
    have fin : ∀ {H' : Hp} {fs : List (List Nat)} {stk : List Ent} {v6 v7 v8 v9 v10 : Option V}, Ex H H' → PileAt H H' pf pw fs stk → fs = (cutsAt lot text 0).take most → tRet (tVar 4) { nx := fun _ H' => Q .non H', rt := Q } [some (.ref pl), some (T text), some (.ref pb), some (.int (most : Int)), some (.ref pf), some (.ref pw), v6, v7, v8, v9, v10] H' := fun {H' fs stk _ _ _ _ _} ex pa hf => by
      subst hf
      obtain ⟨ps, f1, f2⟩ := (pa.ex (Ex.refl _)).f
      exact s_ret (ev_var rfl) fun H2 e2 => ret pf H2 ps hpf (ex.trans e2) (e2 _ _ f1) (f2.mono fun a c r => ⟨e2 _ _ r.1, r.2.1, r.2.2.1⟩)
    obtain ⟨N, hN⟩ : ∃ N : Nat, N = 1 + (most + 1) * (text.length + 1) * lot.length := ⟨_, rfl⟩
    have hb1 : (most + 1) * (text.length + 1) ≤ 401 * 401 := Nat.mul_le_mul (by omega) (by omega)
    have hb2 : (most + 1) * (text.length + 1) * lot.length ≤ 401 * 401 * 12 := Nat.mul_le_mul hb1 (by omega)
    have hb3 : (most + 1) * (text.length + 1) ≤ (most + 1) * (text.length + 1) * lot.length := Nat.le_mul_of_pos_right _ hL0
    have hb4 : (most + 1) * (text.length + 1) = most * (text.length + 1) + (text.length + 1) := Nat.succ_mul _ _
    have hcnt : EvA (tCons (tOp (rI0 fun i j => .int (i + j)) (tC (.int 1)) (tOp (rI CMulB fun i j => .int (i * j)) (tOp (rI CMulB fun i j => .int (i * j)) (tOp (rI0 fun i j => .int (i + j)) (tVar 3) (tC (.int 1))) (tOp (rI0 fun i j => .int (i + j)) (tCB rLenT (tCons (tVar 1) tNil)) (tC (.int 1)))) (tCB (rLenS K) (tCons (tVar 0) tNil)))) tNil) [some (.ref pl), some (T text), some (.ref pb), some (.int (most : Int)), some (.ref pf), some (.ref pw), none, none, none, none, none] H1 [.int (N : Int)] := by
      refine ea_cons (ev_is (ev_op ev_c (ev_op (ev_op (x := .int ((most + 1 : Nat) : Int)) (y := .int ((text.length + 1 : Nat) : Int)) (ev_op (ev_var rfl) ev_c rv_I0) (ev_op (lenT rfl) ev_c rv_I0) (rv_I (mulB (a := 9) (b := 9) (by rw [Int.natAbs_natCast]; omega) (by rw [Int.natAbs_natCast]; omega) (by decide) (by decide) (by decide)))) (ev_is (ev_lenU (ev_var rfl) (st_of (eA _ _ hp))) (by rw [List.length_map])) (rv_I (mulB (a := 20) (b := 9) ?_ ?_ (by decide) (by decide) (by decide)))) rv_I0) ?_) ea_nil
      · rw [← Int.natCast_mul, Int.natAbs_natCast]
        exact Nat.lt_of_le_of_lt hb1 (by decide)
      · rw [Int.natAbs_natCast]
        omega
      · rw [hN]
        congr 1
    refine q_forW (Two pf pw) (src_range1 (n := N) hcnt (by omega)) ?_
      (fun Hs i σ' H' => ∃ (stk : List Ent) (fs : List (List Nat)) (s : Nat) (v6 v7 v8 v9 v10 : Option V), σ' = [some (.ref pl), some (T text), some (.ref pb), some (.int (most : Int)), some (.ref pf), some (.ref pw), v6, v7, v8, v9, v10] ∧ Exc (Two pf pw) Hs H' ∧ Ex H H' ∧ PileAt H H' pf pw fs stk ∧ fs ++ remS lot text stk = cutsAt lot text 0 ∧ fs.length ≤ most ∧ i ≤ fs.length * (text.length + 1) + s ∧ s ≤ text.length ∧ (∀ e ∈ stk, e.2 ≤ text.length ∧ e.1.length ≤ e.2 ∧ (0 < most → cutsAt lot text e.2 ≠ [])) ∧ (∀ e, stk.getLast? = some e → s ≤ e.2) ∧ ∀ m e, stk[m]? = some e → m ≤ 12 * e.1.length) ?_ ?_ ?_ ?_ ?_
    · rintro c (rfl | rfl)
      · obtain ⟨ps, f1, _⟩ := pile0.f
        exact ⟨by rw [f1]; exact fun z => (nomatch z), fun z => z⟩
      · obtain ⟨ts, w1, _⟩ := pile0.w
        exact ⟨by rw [w1]; exact fun z => (nomatch z), fun z => z⟩
    · intro Hs e
      refine ⟨[([], 0)], [], 0, none, none, none, none, none, rfl, Exc.refl _, eA.trans e, pile0.ex e, ?_, Nat.zero_le _, Nat.zero_le _, Nat.zero_le _, fun x hx => ?_, fun x _ => Nat.zero_le _, fun m x hx => ?_⟩
      · rw [rem_one, List.nil_append]
        show (cutsAt lot text 0).map (fun t => [] ++ t) = _
        simp
      · rw [List.mem_singleton.mp hx]
        refine ⟨Nat.zero_le _, Nat.zero_le _, fun hm z => ?_⟩
        rw [z] at hmost
        have : most ≤ 0 := hmost
        omega
      · have hl := (List.getElem?_eq_some_iff.mp hx).1
        simp at hl
        omega
    · rintro Hs i σ' H' ⟨_, _, _, _, _, _, _, _, _, h, _⟩
      exact h
    · rintro Hs i σ' Ha Hb ⟨stk, fs, s, v6, v7, v8, v9, v10, h0, h1, h2, h3, h4⟩ e
      exact ⟨stk, fs, s, v6, v7, v8, v9, v10, h0, h1.then e, h2.trans e, h3.ex e, h4⟩
    · rintro Hs i y σ' H' e hi ⟨stk, fs, s, v6, v7, v8, v9, v10, rfl, h1, h2, h3, h4, h5, h6, h7, h8, h9, h10⟩ rfl
      show tSeq _ _ _ [some (.ref pl), some (T text), some (.ref pb), some (.int (most : Int)), some (.ref pf), some (.ref pw), some (.int (i : Int)), v7, v8, v9, v10] H'
      obtain ⟨ts, w1, w2⟩ := id h3.w
      obtain ⟨ps, f1, f2⟩ := id h3.f
      have hfl : ps.length = fs.length := f2.len
      have hempty : Ev (tOp (rEqD K) (tVar 5) (tLst tNil)) [some (.ref pl), some (T text), some (.ref pb), some (.int (most : Int)), some (.ref pf), some (.ref pw), some (.int (i : Int)), v7, v8, v9, v10] H' (.bl (decide (stk = []))) := fun H3 e3 Q3 q3 => ⟨.ref pw, rfl, by decide, fun pe hpe => by
        have hpx := (h3.ex (e3.trans (Ex.new (o := HO.lst []) hpe))).w
        obtain ⟨ts2, x1, x2⟩ := hpx
        refine rv_eqD (b := decide (stk = [])) (d := .list (stk.map entD)) (e := .list []) (fun H4 e4 => .lst (sq_of (e4 _ _ x1)) (DpAll.ex e4 (dp_pile x2))) (fun H4 e4 => .lst (sq_of (e4 _ _ upd_same)) .nil) (shaped_list (m := 3) (fun x _ => lay_ent x) (fun x _ => depth_ent x) (by decide)) (by decide) ?_ _ (Ex.refl _) _ fun H4 e4 => q3 H4 ((Ex.new hpe).trans e4)
        cases stk <;> rfl⟩
      refine q_when (b := decide (stk = []) || decide (fs.length = most)) (et_or (et_test hempty) fun _ => et_is (et_test (ev_op (ev_len (ev_var rfl) (sq_of f1)) (ev_var rfl) rv_I0)) (by rw [List.length_map, hfl]; exact decide_eq_decide.mpr (by omega))) (fun hb H3 e3 => ?_) (fun hb H3 e3 => ?_)
      · -- the end
        refine fin (h2.trans e3) (h3.ex e3) ?_
        rw [Bool.or_eq_true, decide_eq_true_eq, decide_eq_true_eq] at hb
        rcases hb with z | z
        · subst z
          have h4' : fs = cutsAt lot text 0 := by
            rw [← h4]
            unfold remS
            simp
          rw [← h4', List.take_of_length_le]
          rw [h4'] at h5 ⊢
          omega
        · rw [← h4, ← z, List.take_left]
      · rw [Bool.or_eq_false_iff, decide_eq_false_iff_not, decide_eq_false_iff_not] at hb
        obtain ⟨hb1', hb2'⟩ := hb
        obtain ⟨stk', en, rfl⟩ : ∃ stk' en, stk = stk' ++ [en] := ⟨stk.dropLast, stk.getLast hb1', (List.dropLast_concat_getLast hb1').symm⟩
        obtain ⟨c, p⟩ := en
        have hm0 : 0 < most := by omega
        obtain ⟨hpn, hcp, hpc⟩ := h8 (c, p) (List.mem_append_right _ (List.mem_singleton.mpr rfl))
        have hpc := hpc hm0
        have hsp : s ≤ p := h9 (c, p) (by simp)
        have hcp : c.length ≤ p := hcp
        have hsl : stk'.length ≤ 12 * c.length := h10 stk'.length (c, p) (by simp)
        have h10' : ∀ m e, stk'[m]? = some e → m ≤ 12 * e.1.length := fun m e he => h10 m e (by rw [List.getElem?_append_left (List.getElem?_eq_some_iff.mp he).1]; exact he)
        have h8' : ∀ e ∈ stk', e.2 ≤ text.length ∧ e.1.length ≤ e.2 ∧ (0 < most → cutsAt lot text e.2 ≠ []) := fun e he => h8 e (List.mem_append_left _ he)
        have hpn : p ≤ text.length := hpn
        have hpc : cutsAt lot text p ≠ [] := hpc
        rw [rem_push] at h4
        obtain ⟨xs, t, ca, y1, y2, y3, y4, y5⟩ := (h3.ex e3).less nfw
        refine q_popP (i := 5) (a := 7) (b := 8) rfl y1 y2 ?_
        have eB : Ex H (upd H3 pw (.lst xs)) := Ex.mut (h2.trans e3) hpw0
        have xB : Exc (Two pf pw) Hs (upd H3 pw (.lst xs)) := (h1.then e3).upd (.inl (.inr rfl))
        generalize upd H3 pw (.lst xs) = H4 at y4 y5 eB xB ⊢
        have y5 : FR H H4 pf pw ca c := y5
        clear y1 y2 y3 h3 w1 w2 f1 f2 hempty h8 h9 h10
        show tIfS _ _ _ _ [some (.ref pl), some (T text), some (.ref pb), some (.int (most : Int)), some (.ref pf), some (.ref pw), some (.int (i : Int)), some (.ref ca), some (.int (p : Int)), v9, v10] H4
        refine s_if (b := decide (p = text.length)) (et_is (et_test (ev_op (ev_var rfl) (lenT rfl) rv_I0)) (decide_eq_decide.mpr (by omega))) (fun hb H5 e5 => ?_) (fun hb H5 e5 => ?_)
        · -- a cut
          have hpe := of_decide_eq_true hb
          subst hpe
          obtain ⟨ps5, f1, f2⟩ := (y4.ex e5).f
          refine s_app f1 (ev_var rfl) (ev_var rfl) (by rw [List.length_map, f2.len]; omega) fun H6 e6 => ?_
          have y6 := (y4.ex (e5.trans e6)).found nfw (y5.go (.of (e5.trans e6))) (e6 _ _ f1)
          refine ⟨stk', fs ++ [c], 0, _, _, _, _, _, rfl, (xB.then (e5.trans e6)).upd (.inl (.inl rfl)), Ex.mut (eB.trans (e5.trans e6)) hpf, y6, ?_, by rw [List.length_append, List.length_singleton]; omega, ?_, Nat.zero_le _, h8', fun x _ => Nat.zero_le _, h10'⟩
          · rw [← h4, cuts_last, List.append_assoc]
            congr 1
            simp
          · rw [List.length_append, List.length_singleton, Nat.succ_mul]
            omega
        · -- further words
          have hpl : p < text.length := by
            have := of_decide_eq_false hb
            omega
          have y6 := y4.ex e5
          have eC := eB.trans e5
          have xC := xB.then e5
          have z5 := y5.go (.of e5)
          clear hb
          refine s_forW (fun x => x = pw) (src_revR (ev_is (ev_lenU (ev_var rfl) (st_of (eC _ _ hp))) (by rw [List.length_map])) (by omega)) ?_
            (fun Ht j σ' H9 => ∃ (v9 v10 : Option V), σ' = [some (.ref pl), some (T text), some (.ref pb), some (.int (most : Int)), some (.ref pf), some (.ref pw), some (.int (i : Int)), some (.ref ca), some (.int (p : Int)), v9, v10] ∧ Exc (fun x => x = pw) Ht H9 ∧ Ex H H9 ∧ Exc (Two pf pw) Hs H9 ∧ FR H H9 pf pw ca c ∧ PileAt H H9 pf pw fs (stk' ++ pushed lot text c p j)) ?_ ?_ ?_ ?_ ?_
          · rintro x rfl
            obtain ⟨ts, w1, _⟩ := y6.w
            exact ⟨by rw [w1]; exact fun z => (nomatch z), fun z => z⟩
          · intro Ht e9
            exact ⟨_, _, rfl, Exc.refl _, eC.trans e9, xC.then e9, z5.go (.of e9), by rw [pushed_zero, List.append_nil]; exact y6.ex e9⟩
          · rintro Ht j σ' H9 ⟨_, _, _, z, _⟩
            exact z
          · rintro Ht j σ' Ha Hb ⟨v9, v10, z0, z1, z2, z3, z4, z5⟩ e
            exact ⟨v9, v10, z0, z1.then e, z2.trans e, z3.then e, z4.go (.of e), z5.ex e⟩
          · rintro Ht j y σ' H9 e9 hj ⟨v9, v10, rfl, z1, z2, z3, z4, z6⟩ rfl
            obtain ⟨idx, hidx⟩ : ∃ idx : Nat, (lot.length : Int) - 1 - (j : Int) = (idx : Int) := ⟨lot.length - 1 - j, by omega⟩
            have hid : lot.length - 1 - j = idx := by omega
            have hil : idx < lot.length := by omega
            have hw1 := List.getElem?_eq_getElem hil
            have hlw : lot[idx].length ≤ 12 := (hL.wd _ (List.getElem_mem hil)).1
            have hps := pushed_succ (c := c) (p := p) (text := text) hj
            rw [hid] at hps
            have hst : stands lot text p idx = decide (p + lot[idx].length ≤ text.length ∧ StAt text lot[idx] p) := by
              unfold stands
              rw [hw1]
            show tSeq _ _ _ [some (.ref pl), some (T text), some (.ref pb), some (.int (most : Int)), some (.ref pf), some (.ref pw), some (.int (i : Int)), some (.ref ca), some (.int (p : Int)), some (.int ((lot.length : Int) - 1 - (j : Int))), v10] H9
            rw [hidx]
            have ixw : ∀ {σ : L2.St} {Hb : Hp}, Ex H9 Hb → σ[0]? = some (some (.ref pl)) → σ[9]? = some (some (.int (idx : Int))) → Ev (tOp (L2.rIxT K) (tVar 0) (tVar 9)) σ Hb (T lot[idx]) := fun eb g0 g7 => ev_op (ev_var g0) (ev_var g7) (rv_ixT (st_of ((z2.trans eb) _ _ hp)) (atI_nat (by rw [List.getElem?_map, hw1]; rfl)))
            refine q_asg (v := .int ((p + lot[idx].length : Nat) : Int)) (ev_op (ev_var rfl) (ev_cb (ea_cons (ixw (Ex.refl _) rfl rfl) ea_nil) (rc_lenT (by omega))) rv_I0) fun Ha ea => ?_
            show tIfS _ _ _ _ [some (.ref pl), some (T text), some (.ref pb), some (.int (most : Int)), some (.ref pf), some (.ref pw), some (.int (i : Int)), some (.ref ca), some (.int (p : Int)), some (.int (idx : Int)), some (.int ((p + lot[idx].length : Nat) : Int))] Ha
            have hgood : goodW lot text p idx = (decide (p + lot[idx].length ≤ text.length) && (decide (0 < (cutsAt lot text (p + lot[idx].length)).length) && decide (StAt text lot[idx] p))) := by
              unfold goodW
              rw [hst, wl_of hw1]
              rw [Bool.decide_and]
              generalize decide (p + lot[idx].length ≤ text.length) = b1
              generalize decide (StAt text lot[idx] p) = b2
              generalize decide (0 < (cutsAt lot text (p + lot[idx].length)).length) = b3
              cases b1 <;> cases b2 <;> cases b3 <;> rfl
            refine s_when (b := goodW lot text p idx) (et_is (et_andG (a := decide (p + lot[idx].length ≤ text.length)) (b := goodW lot text p idx) (et_is (et_test (ev_op (ev_var rfl) (lenT rfl) rv_I0)) (decide_eq_decide.mpr Int.ofNat_le)) (fun hq => ?_) (fun hq => by rw [hgood, hq]; rfl)) rfl) (fun hg Hb eb => ?_) (fun hg Hb eb => ?_)
            · have hq := of_decide_eq_true hq
              refine et_is (et_andI (et_test (ev_op (ev_op (ev_var rfl) (ev_var rfl) (rv_ixL (sq_of ((z2.trans ea) _ _ hpb)) (atI_nat (beh_at hq)))) ev_c rv_I0)) fun _ => et_test (ev_op (ev_slT (ev_var rfl) (eo_some (ev_var rfl)) (eo_some (ev_var rfl)) (by omega)) (ixw ea rfl rfl) rv_eqT)) ?_
              rw [cutT_mid, Nat.add_sub_cancel_left, hgood, decide_eq_true hq, Bool.true_and]
              congr 1
              exact decide_eq_decide.mpr (by omega)
            · -- pushed
              rw [if_pos hg, wl_of hw1] at hps
              obtain ⟨ts, w1, w2⟩ := (z6.ex (ea.trans eb)).w
              have zc := z4.go (.of (ea.trans eb))
              have hcl : c.length ≤ 400 := by omega
              have hpj := pushed_len lot text c p j
              refine s_appT (i := 5) rfl w1 ?_
              refine (el_catVN (ev_var rfl) (zc.1) (el_lst (ea_cons (ev_var rfl) ea_nil) (by show 1 ≤ 100000; decide)) (by unfold numV; rw [List.length_map]; show _ + 1 ≤ _; omega) : EvL (tOp rCat (tVar 7) (tLst (tCons (tVar 9) tNil))) [some (.ref pl), some (T text), some (.ref pb), some (.int (most : Int)), some (.ref pf), some (.ref pw), some (.int (i : Int)), some (.ref ca), some (.int (p : Int)), some (.int (idx : Int)), some (.int ((p + lot[idx].length : Nat) : Int))] Hb (numV c ++ [.int (idx : Int)])) Hb (Ex.refl _) _ fun cn Hd hcn ed hd => ⟨_, rfl, by show 2 ≤ sizeLine; decide, fun tn htn => ?_⟩
              have eN := Ex.new (o := HO.tup [.ref cn, .int ((p + lot[idx].length : Nat) : Int)]) htn
              have eAll := (ea.trans eb).trans (ed.trans eN)
              have eN2 := ed.trans eN
              refine ⟨pw, ts.map V.ref, .ref tn, rfl, rfl, eN2 _ _ w1, sz_lt (by rw [List.length_map, w2.len, List.length_append]; omega), ?_⟩
              have hcn0 : H cn = none := fresh_back (z2.trans (ea.trans eb)) hcn
              obtain ⟨psx, g1, _⟩ := (z6.ex (ea.trans eb)).f
              have nf : cn ≠ pf := (ne_of_none g1 hcn).symm
              have nw : cn ≠ pw := (ne_of_none w1 hcn).symm
              have hpile := (z6.ex eAll).more (t := tn) (e := (c ++ [idx], p + lot[idx].length)) nfw ⟨cn, upd_same, by rw [numV_app]; exact eN _ _ hd, hcn0, nf, nw⟩ (eN2 _ _ w1)
              refine ⟨_, _, rfl, (z1.then eAll).upd (.inl rfl), Ex.mut (z2.trans eAll) hpw0, (z3.then eAll).upd (.inl (.inr rfl)), ?_, ?_⟩
              · exact (z4.go (.of eAll)).go ((Exc.refl _).upd (.inl (.inr rfl)))
              · rw [hps, ← List.append_assoc]
                exact hpile
            · rw [if_neg (by rw [hg]; exact Bool.false_ne_true), List.append_nil] at hps
              rw [hps]
              have eAll := ea.trans eb
              exact ⟨_, _, rfl, z1.then eAll, z2.trans eAll, z3.then eAll, z4.go (.of eAll), z6.ex eAll⟩
          · rintro Ht σ' H9 e9 ⟨v9, v10, rfl, z1, z2, z3, z4, z6⟩
            have hrem := pushed_all hL.pos (c := c) hpl
            have hne : pushed lot text c p lot.length ≠ [] := fun z => by
              rw [z] at hrem
              have : (cutsAt lot text p).map (c ++ ·) = [] := hrem.symm.trans (by unfold remS; simp)
              exact hpc (List.map_eq_nil_iff.mp this)
            refine ⟨stk' ++ pushed lot text c p lot.length, fs, p + 1, _, _, _, _, _, rfl, z3, z2, z6, ?_, h5, by omega, hpl, fun e he => ?_, fun e he => ?_, fun m e he => ?_⟩
            · rw [rem_app, hrem]
              exact h4
            · rcases List.mem_append.mp he with z | z
              · exact h8' e z
              · have := pushed_mem hL.pos z
                have h1st := pushed_fst z
                exact ⟨this.2.1, by omega, fun _ => this.2.2⟩
            · obtain ⟨l, x, hlx⟩ : ∃ l x, pushed lot text c p lot.length = l ++ [x] := ⟨_, _, (List.dropLast_concat_getLast hne).symm⟩
              have hx : x ∈ pushed lot text c p lot.length := by rw [hlx]; simp
              rw [hlx, ← List.append_assoc, List.getLast?_concat] at he
              cases he
              exact (pushed_mem hL.pos hx).1
            · by_cases hm : m < stk'.length
              · rw [List.getElem?_append_left hm] at he
                exact h10' m e he
              · rw [List.getElem?_append_right (by omega)] at he
                have hl := (List.getElem?_eq_some_iff.mp he).1
                have h1st := pushed_fst (List.mem_of_getElem? he)
                have hpj := pushed_len lot text c p lot.length
                omega
    · rintro Hs σ' H' e ⟨stk, fs, s, v6, v7, v8, v9, v10, rfl, h1, h2, h3, h4, h5, h6, h7, h8, h9, h10⟩
      exfalso
      have := Nat.mul_le_mul_right (text.length + 1) h5
      omega
end
end K04
set_option Elab.async false
set_option linter.all false
set_option maxRecDepth 100000
set_option maxHeartbeats 2000000
/-! cuts through a place: as many as beginnings times ends -/
namespace K04
open PySem PySem.Spec PyProof.Rows L2 Evl Wc Wt Wg _root_.Wd
theorem IsLot.ps {lot : List Tx} (h : IsLot lot) : Pos lot := h.pos
theorem put_nil (lot : List Tx) : put lot [] = [] := rfl
theorem wl_pos {lot : List Tx} (hL : Pos lot) {i : Nat} (h : i < lot.length) : 0 < wl lot i := by
  rw [wl_of (List.getElem?_eq_getElem h)]
  exact List.length_pos_iff.mpr (hL _ (List.getElem_mem h))
theorem put_take_succ {lot : List Tx} {c : List Nat} {j m : Nat} (h : c[j]? = some m) : (put lot (c.take (j + 1))).length = (put lot (c.take j)).length + wl lot m := by
  rw [List.take_add_one, h, put_app, List.length_append]
  congr 1
  show (put lot [m]).length = _
  rw [put_cons, put_nil, List.append_nil]
  rfl
theorem put_mono {lot : List Tx} (hL : Pos lot) {c : List Nat} (hc : Ixs lot c) : ∀ {j k : Nat}, j < k → k ≤ c.length → (put lot (c.take j)).length < (put lot (c.take k)).length := fun {j k} h hk => by
  induction k with
  | zero => omega
  | succ k ih =>
    have hm : c[k]? = some c[k] := List.getElem?_eq_getElem (by omega)
    have := wl_pos hL (hc c[k] (List.getElem_mem (by omega)))
    rw [put_take_succ hm]
    by_cases z : j = k
    · subst z; omega
    · have := ih (by omega) (by omega)
      omega
/-- c goes through p within its first j words -/
def passB (lot : List Tx) (c : List Nat) (j p : Nat) : Bool := (List.range (j + 1)).any fun t => decide ((put lot (c.take t)).length = p)
theorem pass_iff {lot : List Tx} {c : List Nat} {j p : Nat} : passB lot c j p = true ↔ ∃ t, t ≤ j ∧ (put lot (c.take t)).length = p := by
  unfold passB
  rw [List.any_eq_true]
  exact ⟨fun ⟨t, ht, h⟩ => ⟨t, by have := List.mem_range.mp ht; omega, of_decide_eq_true h⟩, fun ⟨t, ht, h⟩ => ⟨t, List.mem_range.mpr (by omega), decide_eq_true h⟩⟩
def hit (lot : List Tx) (c : List Nat) (j p : Nat) : Nat := if passB lot c j p = true then 1 else 0
theorem hit_zero (lot : List Tx) (c : List Nat) (p : Nat) : hit lot c 0 p = if p = 0 then 1 else 0 := by
  unfold hit
  by_cases h : p = 0
  · rw [if_pos h, if_pos (pass_iff.mpr ⟨0, Nat.le_refl _, by rw [List.take_zero, put_nil, h]; rfl⟩)]
  · rw [if_neg h, if_neg fun z => by
      obtain ⟨t, ht, e⟩ := pass_iff.mp z
      have : t = 0 := by omega
      subst this
      rw [List.take_zero, put_nil] at e
      exact h e.symm]
theorem hit_succ {lot : List Tx} (hL : Pos lot) {c : List Nat} (hc : Ixs lot c) {j : Nat} (hj : j < c.length) (p : Nat) : hit lot c (j + 1) p = hit lot c j p + if (put lot (c.take (j + 1))).length = p then 1 else 0 := by
  unfold hit
  by_cases h : (put lot (c.take (j + 1))).length = p
  · rw [if_pos h, if_pos (pass_iff.mpr ⟨j + 1, Nat.le_refl _, h⟩), if_neg fun z => by
      obtain ⟨t, ht, e⟩ := pass_iff.mp z
      have := put_mono hL hc (show t < j + 1 by omega) (by omega)
      omega]
  · rw [if_neg h]
    have : passB lot c (j + 1) p = passB lot c j p := by
      refine Bool.eq_iff_iff.mpr (pass_iff.trans (Iff.trans ⟨fun ⟨t, ht, e⟩ => ⟨t, ?_, e⟩, fun ⟨t, ht, e⟩ => ⟨t, by omega, e⟩⟩ pass_iff.symm))
      by_cases z : t = j + 1
      · subst z; exact absurd e h
      · omega
    rw [this, Nat.add_zero]
/-- how many of the first i cuts go through p -/
def Sf (lot : List Tx) (cs : List (List Nat)) (i p : Nat) : Nat := ((cs.take i).filter fun c => passB lot c c.length p).length
theorem Sf_succ {lot : List Tx} {cs : List (List Nat)} {i : Nat} {c : List Nat} (h : cs[i]? = some c) (p : Nat) : Sf lot cs (i + 1) p = Sf lot cs i p + hit lot c c.length p := by
  unfold Sf hit
  rw [List.take_add_one, h, List.filter_append, List.length_append]
  congr 1
  by_cases z : passB lot c c.length p = true
  · rw [if_pos z]; simp [z]
  · rw [if_neg z]; simp [z]
theorem same_split {lot : List Tx} (hL : Pos lot) {d d' e e' : List Nat} (hc : Ixs lot (d ++ e)) (h : d ++ e = d' ++ e') (hl : (put lot d).length = (put lot d').length) : d = d' := by
  have h1 : d = (d ++ e).take d.length := by rw [List.take_left']; rfl
  have h2 : d' = (d ++ e).take d'.length := by rw [h, List.take_left']; rfl
  have hd : d.length ≤ (d ++ e).length := by rw [List.length_append]; omega
  have hd' : d'.length ≤ (d ++ e).length := by rw [h, List.length_append]; omega
  have : d.length = d'.length := by
    rcases Nat.lt_trichotomy d.length d'.length with z | z | z
    · have := put_mono hL hc z hd'
      rw [← h1, ← h2] at this
      omega
    · exact z
    · have := put_mono hL hc z hd
      rw [← h1, ← h2] at this
      omega
  rw [h1, h2, this]
theorem pass_mem {lot : List Tx} (hL : Pos lot) {text : Tx} {p : Nat} (hp : p ≤ text.length) (c : List Nat) : (c ∈ cutsAt lot text 0 ∧ passB lot c c.length p = true) ↔ ∃ d e, d ∈ preAt lot text p ∧ e ∈ cutsAt lot text p ∧ c = d ++ e := by
  rw [mem_cuts hL text.length 0 (by omega), List.drop_zero]
  refine ⟨fun ⟨⟨h1, h2⟩, h3⟩ => ?_, fun ⟨d, e, hd, he, hc⟩ => ?_⟩
  · obtain ⟨t, ht, hl⟩ := pass_iff.mp h3
    have hs : put lot (c.take t) ++ put lot (c.drop t) = text := by rw [← put_app, List.take_append_drop, h2]
    refine ⟨c.take t, c.drop t, (mem_pre hL p hp _).mpr ⟨fun i hi => h1 i (List.mem_of_mem_take hi), ?_⟩, (mem_cuts hL (text.length - p) p (by omega) _).mpr ⟨fun i hi => h1 i (List.mem_of_mem_drop hi), ?_⟩, (List.take_append_drop t c).symm⟩
    · rw [← hs, ← hl, List.take_left']; rfl
    · rw [← hs, ← hl, List.drop_left']; rfl
  · obtain ⟨d1, d2⟩ := (mem_pre hL p hp d).mp hd
    obtain ⟨e1, e2⟩ := (mem_cuts hL (text.length - p) p (by omega) e).mp he
    subst hc
    refine ⟨⟨fun i hi => (List.mem_append.mp hi).elim (d1 i) (e1 i), by rw [put_app, d2, e2, List.take_append_drop]⟩, pass_iff.mpr ⟨d.length, by rw [List.length_append]; omega, ?_⟩⟩
    rw [List.take_left' rfl, d2, List.length_take]
    omega
/-- as many as beginnings times ends -/
theorem thru_count {lot : List Tx} (hL : Pos lot) {text : Tx} {p : Nat} (hp : p ≤ text.length) : Sf lot (cutsAt lot text 0) (cutsAt lot text 0).length p = (preAt lot text p).length * (cutsAt lot text p).length := by
  unfold Sf
  rw [List.take_length]
  have h := len_nodup (l := (cutsAt lot text 0).filter fun c => passB lot c c.length p) (l' := (preAt lot text p).flatMap fun d => (cutsAt lot text p).map (d ++ ·)) (List.Pairwise.filter _ (nodup_cuts hL text.length 0 (by omega))) ?_ fun c => ?_
  · rw [h, List.length_flatMap]
    have : ∀ l : List (List Nat), (l.map fun d => ((cutsAt lot text p).map (d ++ ·)).length).sum = l.length * (cutsAt lot text p).length := fun l => by
      induction l with
      | nil => simp
      | cons a l ih => rw [List.map_cons, List.sum_cons, ih, List.length_map, List.length_cons, Nat.succ_mul, Nat.add_comm]
    exact this _
  · show List.Pairwise _ _
    rw [List.pairwise_flatMap]
    refine ⟨fun d hd => ?_, ?_⟩
    · rw [List.pairwise_map]
      exact (nodup_cuts hL (text.length - p) p (by omega)).imp fun hne z => hne (List.append_cancel_left z)
    · refine List.Pairwise.imp_of_mem (fun {d d'} hd hd' hne => ?_) (nodup_pre hL p)
      intro x hx y hy z
      obtain ⟨e, he, rfl⟩ := List.mem_map.mp hx
      obtain ⟨e', he', rfl⟩ := List.mem_map.mp hy
      obtain ⟨d1, d2⟩ := (mem_pre hL p hp d).mp hd
      obtain ⟨d1', d2'⟩ := (mem_pre hL p hp d').mp hd'
      obtain ⟨e1, e2⟩ := (mem_cuts hL (text.length - p) p (by omega) e).mp he
      exact hne (same_split hL (fun i hi => (List.mem_append.mp hi).elim (d1 i) (e1 i)) z (by rw [d2, d2']))
  · rw [List.mem_filter, pass_mem hL hp]
    rw [List.mem_flatMap]
    exact ⟨fun ⟨d, e, hd, he, hc⟩ => ⟨d, hd, List.mem_map.mpr ⟨e, he, hc.symm⟩⟩, fun ⟨d, hd, h⟩ => by
      obtain ⟨e, he, hc⟩ := List.mem_map.mp h
      exact ⟨d, e, hd, he, hc.symm⟩⟩
theorem stands_iff {lot : List Tx} {text : Tx} {p m : Nat} : stands lot text p m = true ↔ ∃ wd, lot[m]? = some wd ∧ p + wd.length ≤ text.length ∧ StAt text wd p := by
  refine ⟨fun h => wordsAt_is (List.mem_filter.mpr ⟨List.mem_range.mpr (stands_lt h), h⟩), fun ⟨wd, h1, h2, h3⟩ => (List.mem_filter.mp (wordsAt_mk h1 h2 h3)).2⟩
/-- the words of the cuts are the words that are used -/
theorem used_cuts {lot : List Tx} (hL : Pos lot) {text : Tx} {m : Nat} : (∃ c ∈ cutsAt lot text 0, m ∈ c) ↔ UT lot text text.length m := by
  refine ⟨fun ⟨c, hc, hm⟩ => ?_, fun ⟨p, hp, hs, h1, h2⟩ => ?_⟩
  · obtain ⟨h1, h2⟩ := (mem_cuts hL text.length 0 (by omega) c).mp hc
    rw [List.drop_zero] at h2
    obtain ⟨d, e, rfl⟩ := List.append_of_mem hm
    have hml : m < lot.length := h1 m hm
    have hpos := wl_pos hL hml
    have hw : lot[m]? = some lot[m] := List.getElem?_eq_getElem hml
    have hgm : lot.getD m [] = lot[m] := by rw [List.getD_eq_getElem?_getD, hw]; rfl
    have hwl := wl_of hw
    rw [put_app, put_cons, hgm] at h2
    have hlen := congrArg List.length h2
    rw [List.length_append, List.length_append] at hlen
    have hdr : text.drop (put lot d).length = lot[m] ++ put lot e := by rw [← h2, List.drop_left']; rfl
    refine ⟨(put lot d).length, by omega, stands_iff.mpr ⟨lot[m], hw, by omega, ?_⟩, ?_, ?_⟩
    · show (text.drop (put lot d).length).take lot[m].length = lot[m]
      rw [hdr, List.take_left']
      rfl
    · refine List.length_pos_iff.mpr (List.ne_nil_of_mem ((mem_pre hL _ (by omega) d).mpr ⟨fun i hi => h1 i (List.mem_append.mpr (.inl hi)), ?_⟩))
      rw [← h2, List.take_left']
      rfl
    · refine List.length_pos_iff.mpr (List.ne_nil_of_mem ((mem_cuts hL (text.length - ((put lot d).length + wl lot m)) _ (by omega) e).mpr ⟨fun i hi => h1 i (List.mem_append.mpr (.inr (List.mem_cons_of_mem _ hi))), ?_⟩))
      rw [← List.drop_drop, hdr, hwl, List.drop_left']
      rfl
  · obtain ⟨wd, hw, hle, hst⟩ := stands_iff.mp hs
    have hwl := wl_of hw
    rw [hwl] at h2
    obtain ⟨d, hd⟩ := List.exists_mem_of_length_pos h1
    obtain ⟨e, he⟩ := List.exists_mem_of_length_pos h2
    obtain ⟨d1, d2⟩ := (mem_pre hL p (by omega) d).mp hd
    obtain ⟨e1, e2⟩ := (mem_cuts hL (text.length - (p + wd.length)) _ (by omega) e).mp he
    refine ⟨d ++ m :: e, (mem_cuts hL text.length 0 (by omega) _).mpr ⟨fun i hi => ?_, ?_⟩, List.mem_append.mpr (.inr List.mem_cons_self)⟩
    · rcases List.mem_append.mp hi with z | z
      · exact d1 i z
      · rcases List.mem_cons.mp z with z | z
        · rw [z]; exact stands_lt hs
        · exact e1 i z
    · rw [put_app, put_cons, d2, e2, List.drop_zero]
      have hg : lot.getD m [] = wd := by rw [List.getD_eq_getElem?_getD, hw]; rfl
      have h3 : wd ++ text.drop (p + wd.length) = text.drop p := by
        have h4 : (text.drop p).take wd.length = wd := hst
        conv => rhs; rw [← List.take_append_drop wd.length (text.drop p), h4, List.drop_drop]
      rw [hg, h3, List.take_append_drop]
end K04
set_option Elab.async false
set_option linter.all false
set_option maxRecDepth 100000
set_option maxHeartbeats 4000000
namespace K04
open PySem PySem.Spec PyProof.Rows L2 Evl Wc Wt Wg _root_.Wd
theorem q_parLD {i j : Nat} {σ : L2.St} {H : Hp} {ta : TE} {xs : List V} {tz : TS} {D : Ends} (h : EvL ta σ H xs) (k : ∀ p d H1, H p = none → H d = none → d ≠ p → Ex H H1 → H1 p = some (.lst xs) → H1 d = some (.dK (DS [])) → tz D ((σ.set i (some (.ref p))).set j (some (.ref d))) H1) : tSeq (tPar i j (tCons ta (tCons tDNewK tNil))) tz D σ H :=
  h H (Ex.refl _) _ fun p H1 hp e1 h1 => fun d hd => ⟨_, _, rfl, k p d _ hp (fresh_back e1 hd) (fun z => by rw [z, h1] at hd; cases hd) (e1.trans (Ex.new hd)) ((Ex.new hd) _ _ h1) upd_same⟩
/-- a pair of lists -/
def RetPU (lot : List Tx) (text : Tx) (H : Hp) (Q : VK) : Prop := ∀ p q r H', Ex H H' → H' p = some (.tup [.ref q, .ref r]) → H' q = some (.lst (numV (thruL lot text))) → H' r = some (.lst (numV (usedL lot text))) → Q (.ref p) H'
theorem s_retPU {lot : List Tx} {text : Tx} {i : Nat} {q : Addr} {σ : L2.St} {H H0 : Hp} {Q : VK} {te : TE} {D : Ends} (h0 : σ[i]? = some (some (.ref q))) (hq : H q = some (.lst (numV (thruL lot text)))) (h : EvL te σ H (numV (usedL lot text))) (e : Ex H0 H) (k : RetPU lot text H0 Q) (hD : ∀ v H', Q v H' → D.rt v H') : tRet (tTup (tCons (tVar i) (tCons te tNil))) D σ H :=
  ⟨.ref q, h0, h H (Ex.refl _) _ fun r H1 hr e1 h1 => ⟨by show 2 ≤ sizeLine; decide, fun p hp => hD _ _ (k p q r _ (e.trans (e1.trans (Ex.new hp))) upd_same ((Ex.new hp) _ _ (e1 _ _ hq)) ((Ex.new hp) _ _ h1))⟩⟩
section
variable {P : Program} {w : World} {K : PySem.W.Frag} {mg : Str → Option Value} {base : Heap}
def sp_counted : Sp := fun vs H Q _ => ∃ (pl pa pb : Addr) (lot : List Tx) (text : Tx), vs = [.ref pl, T text, .ref pa, .ref pb] ∧ LotAt pl lot H ∧ text.length ≤ 400 ∧ H pa = some (.lst (aheadL lot text)) ∧ H pb = some (.lst (behL lot text)) ∧ RetPU lot text H Q
theorem ok__law_counted {f : Addr} {fd : FuncData} (F : Fun K "_law_counted" "_law_counted" st__law_counted f fd) (M : Md K mg) : FnOk P w K mg base CX0 1 f fd ["lot", "text", "ahead", "behind"] sp_counted := by
  have nd := sc__law_counted.nd
  refine F.ok sc__law_counted (fun vs H Q E h => ?_) (fun cdv A outer s H vs Q E hr h => ?_)
  · obtain ⟨_, _, _, _, _, rfl, _⟩ := h
    rfl
  · obtain ⟨pl, pa, pb, lot, text, rfl, hLA, hlen, ha, hb, ret⟩ := h
    refine ⟨_, (pss_cons (ps_par (i := 4) (j := 5) rfl nd rfl rfl (by decide) rfl rfl (pa_cons (pe_lc (own := [("one", 6), ("other", 7)]) rfl nd (kiz K (pi_zip (by rfl) M.n_zip (pa_cons (pv 2) (pa_cons (pv 3) pa_nil)))) (blkOk_by (N := N__law_counted) (sc := defScope st__law_counted) (by decide +kernel)) (fun _ _ _ _ _ => (kgt K (n := 2) (pg_tup rfl (pgs_cons (pg_name (i := 6) nd rfl (Or.inl rfl)) (pgs_cons (pg_name (i := 7) nd rfl (Or.inl rfl)) pgs_nil))))) (fun _ _ _ _ _ => pts_nil) (fun _ _ _ _ _ => (pe_op op_mulB (pv 6) (pv 7)))) (pa_cons pe_dnewK pa_nil)) (by rfl))
  (pss_cons (ps_for PassesOwn.never rfl (pi_range1 (by rfl) M.n_range (pa_cons (pe_callB cr_lenT (by rfl) M.n_len boot_len (pa_cons (pv 1) pa_nil)) pa_nil)) (pg_name (i := 8) nd rfl (Or.inl rfl))
  (pss_one (ps_for PassesOwn.never rfl (kiet K (pi_enumT (by rfl) M.n_enumerate (pa_cons (pv 0) pa_nil))) (kgt K (n := 2) (pg_tup rfl (pgs_cons (pg_name (i := 9) nd rfl (Or.inl rfl)) (pgs_cons (pg_name (i := 10) nd rfl (Or.inl rfl)) pgs_nil))))
  (pss_cons (ps_set (i := 11) nd rfl (Or.inl rfl) (pe_op op_add (pv 8) (pe_callB cr_lenT (by rfl) M.n_len boot_len (pa_cons (pv 10) pa_nil))))
  (pss_one (ps_if (PW.pt (pw_and (pt_cmpR op_le (pv 11) (pe_callB cr_lenT (by rfl) M.n_len boot_len (pa_cons (pv 1) pa_nil)) (nomark _)) (pw_and (pt_cmpR op_gt (pe_ix (kix K (r := L2.rIxL) ix_list) (pv 2) (pv 8) (fun _ _ => rfl)) pe_int (nomark _)) (pw_and (pt_cmpR op_gt (pe_ix (kix K (r := L2.rIxL) ix_list) (pv 3) (pv 11) (fun _ _ => rfl)) pe_int (nomark _)) (pw_and1 (pt_cmpR op_eqT (pe_slice sl_T (pv 1) (po_some (pv 8)) (po_some (pv 11))) (pv 10) (nomark _)))))))
  (pss_one (ps_dput (hu1 hr.units) (pv 5) (pv 9) pe_bl (by rfl)))
  pss_nil))))))
  (pss_one (ps_ret (pe_tup (pa_cons (pv 4) (pa_cons (pe_callB (kcr K (r := rSortedI) cr_sortedI) (by rfl) M.n_sorted boot_sorted (pa_cons (pe_callTy (call_list_dK rfl) (by rfl) M.n_list boot_list (pa_cons (pv 5) pa_nil)) pa_nil)) pa_nil))))))), ?_⟩
    have hL := hLA.2
    have hfew := hL.few
    refine q_parLD (el_prod hL hlen (ev_var rfl) (ev_var rfl) ha hb (fun _ _ => rfl) (fun _ _ => rfl) (fun _ _ => rfl)) fun pq pd H0 hpq hpd hne e0 hq0 hd0 => ?_
    show tSeq _ _ _ [some (.ref pl), some (T text), some (.ref pa), some (.ref pb), some (.ref pq), some (.ref pd), none, none, none, none, none, none] H0
    have lenT : ∀ {σ : L2.St} {H' : Hp}, σ[1]? = some (some (T text)) → Ev (tCB rLenT (tCons (tVar 1) tNil)) σ H' (.int (text.length : Int)) := fun h0 => ev_cb (ea_cons (ev_var h0) ea_nil) (rc_lenT (by omega))
    refine q_forW (fun c => c = pd) (src_range1 (n := text.length) (ea_cons (lenT rfl) ea_nil) (by omega)) ?_
      (fun Hs i σ' H' => ∃ (ks : List Nat) (v8 v9 v10 v11 : Option V), σ' = [some (.ref pl), some (T text), some (.ref pa), some (.ref pb), some (.ref pq), some (.ref pd), none, none, v8, v9, v10, v11] ∧ Exc (fun c => c = pd) Hs H' ∧ H' pd = some (.dK (DS ks)) ∧ ks.Nodup ∧ ∀ m, m ∈ ks ↔ UT lot text i m) ?_ ?_ ?_ ?_ ?_
    · rintro c rfl
      exact ⟨(by rw [hd0]; exact fun z => nomatch z), fun z => z⟩
    · intro Hs e
      exact ⟨[], none, none, none, none, rfl, Exc.refl _, e _ _ hd0, List.Pairwise.nil, fun m => ⟨fun z => (nomatch z), fun ⟨p, hp, _⟩ => absurd hp (by omega)⟩⟩
    · rintro Hs i σ' H' ⟨_, _, _, _, _, _, h, _⟩
      exact h
    · rintro Hs i σ' Ha Hb ⟨ks, v8, v9, v10, v11, h0, h1, h2, h3, h4⟩ e
      exact ⟨ks, v8, v9, v10, v11, h0, h1.then e, e _ _ h2, h3, h4⟩
    · rintro Hs i y σ' H' e hi ⟨ks, v8, v9, v10, v11, rfl, j1, j2, j3, j4⟩ rfl
      have kp : ∀ {Hx : Hp}, Exc (fun c => c = pd) Hs Hx → ∀ b o, H b = some o → Hx b = some o := fun ex b o hbo => ex _ _ (fun z => by rw [z, hpd] at hbo; cases hbo) (e _ _ (e0 _ _ hbo))
      show tFor _ _ _ _ [some (.ref pl), some (T text), some (.ref pa), some (.ref pb), some (.ref pq), some (.ref pd), none, none, some (.int (i : Int)), v9, v10, v11] H'
      refine s_forW (fun c => c = pd) (src_enumT (xs := lot.map T) (ev_var rfl) (st_of (kp j1 _ _ hLA.1))) ?_
        (fun Ht j σ' H9 => ∃ (ks : List Nat) (v9 v10 v11 : Option V), σ' = [some (.ref pl), some (T text), some (.ref pa), some (.ref pb), some (.ref pq), some (.ref pd), none, none, some (.int (i : Int)), v9, v10, v11] ∧ Exc (fun c => c = pd) Ht H9 ∧ H9 pd = some (.dK (DS ks)) ∧ ks.Nodup ∧ ∀ m, m ∈ ks ↔ UT lot text i m ∨ (m < j ∧ stands lot text i m = true ∧ 0 < (preAt lot text i).length ∧ 0 < (cutsAt lot text (i + wl lot m)).length)) ?_ ?_ ?_ ?_ ?_
      · rintro c rfl
        exact ⟨(by rw [j2]; exact fun z => nomatch z), fun z => by rw [z, kp j1 _ _ hLA.1] at j2; cases j2⟩
      · intro Ht e9
        exact ⟨ks, v9, v10, v11, rfl, Exc.refl _, e9 _ _ j2, j3, fun m => (j4 m).trans ⟨.inl, fun z => z.elim id fun h => absurd h.1 (by omega)⟩⟩
      · rintro Ht j σ' H9 ⟨_, _, _, _, _, h, _⟩
        exact h
      · rintro Ht j σ' Ha Hb ⟨ks, v9, v10, v11, h0, h1, h2, h3, h4⟩ e
        exact ⟨ks, v9, v10, v11, h0, h1.then e, e _ _ h2, h3, h4⟩
      · rintro Ht j y σ' H9 e9 hj ⟨ks, v9, v10, v11, rfl, k1, k2, k3, k4⟩ ⟨q, x, rfl, hx, hq⟩
        obtain ⟨wd, hw1, rfl⟩ := at_map hx
        have hlw : wd.length ≤ 12 := (hL.wd wd (List.mem_of_getElem? hw1)).1
        have hjl : j < lot.length := (List.getElem?_eq_some_iff.mp hw1).1
        have ex9 : Exc (fun c => c = pd) Hs H9 := (j1.then e9).trans k1
        have kl : ks.length ≤ 12 := by
          have := few_of (n := lot.length) k3 fun m hm => ((k4 m).mp hm).elim UT_lt fun z => stands_lt z.2.1
          omega
        refine ⟨q, _, rfl, st_of hq, rfl, _, _, rfl, _, [], rfl, rfl, ?_⟩
        show tSeq _ _ _ [some (.ref pl), some (T text), some (.ref pa), some (.ref pb), some (.ref pq), some (.ref pd), none, none, some (.int (i : Int)), some (.int (j : Int)), some (T wd), v11] H9
        refine q_asg (v := .int ((i + wd.length : Nat) : Int)) (ev_op (ev_var rfl) (ev_cb (ea_cons (ev_var rfl) ea_nil) (rc_lenT (by omega))) rv_I0) fun Ha ea => ?_
        show tIfS _ _ _ _ [some (.ref pl), some (T text), some (.ref pa), some (.ref pb), some (.ref pq), some (.ref pd), none, none, some (.int (i : Int)), some (.int (j : Int)), some (T wd), some (.int ((i + wd.length : Nat) : Int))] Ha
        have hA : Ha pa = some (.lst (aheadL lot text)) := ea _ _ (kp ex9 _ _ ha)
        have hB : Ha pb = some (.lst (behL lot text)) := ea _ _ (kp ex9 _ _ hb)
        have hst : stands lot text i j = decide (i + wd.length ≤ text.length ∧ StAt text wd i) := by
          unfold stands
          rw [hw1]
        refine s_when (b := decide (i + wd.length ≤ text.length) && (decide (0 < (preAt lot text i).length) && (decide (0 < (cutsAt lot text (i + wd.length)).length) && decide (StAt text wd i)))) (et_and (et_is (et_test (ev_op (ev_var rfl) (lenT rfl) rv_I0)) (decide_eq_decide.mpr Int.ofNat_le)) fun hle => et_and (et_is (et_test (ev_op (ev_op (ev_var rfl) (ev_var rfl) (rv_ixL (sq_of hA) (atI_nat (ah_at (by omega))))) ev_c rv_I0)) (decide_eq_decide.mpr (by omega))) fun _ => et_and (et_is (et_test (ev_op (ev_op (ev_var rfl) (ev_var rfl) (rv_ixL (sq_of hB) (atI_nat (beh_at (of_decide_eq_true hle))))) ev_c rv_I0)) (decide_eq_decide.mpr (by omega))) fun _ => et_is (et_test (ev_op (ev_slT (ev_var rfl) (eo_some (ev_var rfl)) (eo_some (ev_var rfl)) (by omega)) (ev_var rfl) rv_eqT)) (by rw [cutT_mid, Nat.add_sub_cancel_left])) (fun hc Hb eb => ?_) (fun hc Hb eb => ?_)
        · rw [Bool.and_eq_true, Bool.and_eq_true, Bool.and_eq_true, decide_eq_true_eq, decide_eq_true_eq, decide_eq_true_eq, decide_eq_true_eq] at hc
          have hs : stands lot text i j = true ∧ 0 < (preAt lot text i).length ∧ 0 < (cutsAt lot text (i + wl lot j)).length := ⟨by rw [hst]; exact decide_eq_true ⟨hc.1, hc.2.2.2⟩, hc.2.1, by rw [wl_of hw1]; exact hc.2.2.1⟩
          refine s_putD (ev_var rfl) (ev_var rfl) (eb _ _ (ea _ _ k2)) (by omega) fun Hc ec => ⟨addN ks j, _, _, _, rfl, (k1.then (ea.trans (eb.trans ec))).upd (.inl rfl), upd_same, addN_nodup k3, fun m => ?_⟩
          rw [mem_addN, k4]
          refine ⟨fun z => ?_, fun z => ?_⟩
          · rcases z with (z | z) | z
            · exact .inl z
            · exact .inr ⟨by omega, z.2⟩
            · subst z
              exact .inr ⟨by omega, hs⟩
          · rcases z with z | ⟨z, z2⟩
            · exact .inl (.inl z)
            · by_cases zz : m = j
              · exact .inr zz
              · exact .inl (.inr ⟨by omega, z2⟩)
        · refine ⟨ks, _, _, _, rfl, k1.then (ea.trans eb), eb _ _ (ea _ _ k2), k3, fun m => ?_⟩
          rw [k4]
          refine ⟨fun z => z.imp id fun z => ⟨by omega, z.2⟩, fun z => z.imp id fun ⟨z, z2⟩ => ⟨?_, z2⟩⟩
          by_cases zz : m = j
          · exfalso
            subst zz
            obtain ⟨z3, z4, z5⟩ := z2
            rw [hst] at z3
            obtain ⟨z6, z7⟩ := of_decide_eq_true z3
            rw [wl_of hw1] at z5
            rw [decide_eq_true z6, decide_eq_true z4, decide_eq_true z5, decide_eq_true z7] at hc
            cases hc
          · omega
      · rintro Ht σ' H9 e9 ⟨ks, v9, v10, v11, rfl, k1, k2, k3, k4⟩
        refine ⟨ks, _, _, _, _, rfl, (j1.then e9).trans k1, k2, k3, fun m => ?_⟩
        rw [k4, UT_succ, List.length_map]
        exact ⟨fun z => z.imp id fun z => z.2, fun z => z.imp id fun z => ⟨stands_lt z.1, z⟩⟩
    · rintro Hs σ' H' e ⟨ks, v8, v9, v10, v11, rfl, j1, j2, j3, j4⟩
      have ex1 : Ex H H' := fun b o hbo => j1 _ _ (fun z => by rw [z, hpd] at hbo; cases hbo) (e _ _ (e0 _ _ hbo))
      exact s_retPU rfl (j1 _ _ (Ne.symm hne) (e _ _ hq0)) (el_sortLD (ev_var rfl) j2 fun zs hp hs => used_is j3 j4 hp hs) ex1 ret fun v H2 q => q
def sp_tried : Sp := fun vs H Q _ => ∃ (pl pc : Addr) (lot : List Tx) (text : Tx) (ps : List Addr), vs = [.ref pl, T text, .ref pc] ∧ LotAt pl lot H ∧ text.length ≤ 400 ∧ H pc = some (.lst (ps.map V.ref)) ∧ All2 (fun a c => H a = some (.lst (numV c))) ps (cutsAt lot text 0) ∧ (cutsAt lot text 0).length ≤ 400 ∧ RetPU lot text H Q
theorem ok__law_tried {f : Addr} {fd : FuncData} (F : Fun K "_law_tried" "_law_tried" st__law_tried f fd) (M : Md K mg) : FnOk P w K mg base CX0 1 f fd ["lot", "text", "cuts"] sp_tried := by
  have nd := sc__law_tried.nd
  refine F.ok sc__law_tried (fun vs H Q E h => ?_) (fun cdv A outer s H vs Q E hr h => ?_)
  · obtain ⟨_, _, _, _, _, rfl, _⟩ := h
    rfl
  · obtain ⟨pl, pc, lot, text, ps, rfl, hLA, hlen, hpc, hal, h400, ret⟩ := h
    refine ⟨_, (pss_cons (ps_par (i := 3) (j := 4) rfl nd rfl rfl (by decide) rfl rfl (pa_cons (pe_op op_rep (pe_lst (pa_cons pe_int pa_nil)) (pe_op op_add (pe_callB cr_lenT (by rfl) M.n_len boot_len (pa_cons (pv 1) pa_nil)) pe_int)) (pa_cons pe_dnewK pa_nil)) (by rfl))
  (pss_cons (ps_for PassesOwn.never rfl (kil K (pi_list (pv 2))) (pg_name (i := 5) nd rfl (Or.inl rfl))
  (pss_cons (ps_set (i := 6) nd rfl (Or.inl rfl) pe_int)
  (pss_cons (ps_asg (pe_op op_add (pe_ix (kix K (r := L2.rIxL) ix_list) (pv 3) pe_int (fun _ _ => rfl)) pe_int) (pg_sub (pv 3) pe_int set_list))
  (pss_one (ps_for PassesOwn.never rfl (kil K (pi_list (pv 5))) (pg_name (i := 7) nd rfl (Or.inl rfl))
  (pss_cons (ps_set (i := 6) nd rfl (Or.inl rfl) (pe_op op_add (pv 6) (pe_callB cr_lenT (by rfl) M.n_len boot_len (pa_cons (pe_ix (kix K (r := L2.rIxT) ix_tup) (pv 0) (pv 7) (fun _ _ => rfl)) pa_nil))))
  (pss_cons (ps_asg (pe_op op_add (pe_ix (kix K (r := L2.rIxL) ix_list) (pv 3) (pv 6) (fun _ _ => rfl)) pe_int) (pg_sub (pv 3) (pv 6) set_list))
  (pss_one (ps_dput (hu1 hr.units) (pv 4) (pv 7) pe_bl (by rfl))))))))))
  (pss_one (ps_ret (pe_tup (pa_cons (pv 3) (pa_cons (pe_callB (kcr K (r := rSortedI) cr_sortedI) (by rfl) M.n_sorted boot_sorted (pa_cons (pe_callTy (call_list_dK rfl) (by rfl) M.n_list boot_list (pa_cons (pv 4) pa_nil)) pa_nil)) pa_nil))))))), ?_⟩
    have hL := hLA.2
    have hfew := hL.few
    have lenT : ∀ {σ : L2.St} {H' : Hp}, σ[1]? = some (some (T text)) → Ev (tCB rLenT (tCons (tVar 1) tNil)) σ H' (.int (text.length : Int)) := fun h0 => ev_cb (ea_cons (ev_var h0) ea_nil) (rc_lenT (by omega))
    refine q_parLD (xs := (List.replicate (text.length + 1) (0 : Int)).map V.int) ?_ fun pq pd H0 hpq hpd hne e0 hq0 hd0 => ?_
    · have h0 := (el_rep (n := text.length + 1) (el_lst (ea_cons (ev_c (v := V.int 0)) ea_nil) (by show 1 ≤ 100000; decide)) (ev_op (lenT rfl) ev_c rv_I0) (by simp; omega) (by omega) : EvL (tOp rRep (tLst (tCons (tC (.int 0)) tNil)) (tOp (rI0 fun i j => .int (i + j)) (tCB rLenT (tCons (tVar 1) tNil)) (tC (.int 1)))) (start N__law_tried [.ref pl, T text, .ref pc]) H _)
      rw [rep_one] at h0
      rw [List.map_replicate]
      exact h0
    show tSeq _ _ _ [some (.ref pl), some (T text), some (.ref pc), some (.ref pq), some (.ref pd), none, none, none] H0
    have old : ∀ {b : Addr} {o : HO}, H b = some o → b ≠ pq ∧ b ≠ pd := fun hb => ⟨fun z => (by rw [z, hpq] at hb; cases hb), fun z => (by rw [z, hpd] at hb; cases hb)⟩
    have hlenA := hal.len
    refine q_forW (fun c => c = pq ∨ c = pd) (src_listM (f := V.ref) (xs := ps) (ev_var rfl) (sq_of (e0 _ _ hpc))) ?_
      (fun Hs i σ' H' => ∃ (zs : List Int) (ks : List Nat) (v5 v6 v7 : Option V), σ' = [some (.ref pl), some (T text), some (.ref pc), some (.ref pq), some (.ref pd), v5, v6, v7] ∧ Exc (fun c => c = pq ∨ c = pd) Hs H' ∧ H' pq = some (.lst (zs.map V.int)) ∧ zs.length = text.length + 1 ∧ (∀ p, p ≤ text.length → zs[p]? = some ((Sf lot (cutsAt lot text 0) i p : Nat) : Int)) ∧
        H' pd = some (.dK (DS ks)) ∧ ks.Nodup ∧ ∀ m, m ∈ ks ↔ ∃ c ∈ (cutsAt lot text 0).take i, m ∈ c) ?_ ?_ ?_ ?_ ?_
    · rintro c (rfl | rfl)
      · exact ⟨(by rw [hq0]; exact fun z => nomatch z), fun z => (old hpc).1 z.symm⟩
      · exact ⟨(by rw [hd0]; exact fun z => nomatch z), fun z => (old hpc).2 z.symm⟩
    · intro Hs e
      refine ⟨_, [], none, none, none, rfl, Exc.refl _, e _ _ hq0, by simp, fun p hp => ?_, e _ _ hd0, List.Pairwise.nil, fun m => ⟨fun z => (nomatch z), fun ⟨c, hc, _⟩ => by rw [List.take_zero] at hc; cases hc⟩⟩
      rw [List.getElem?_replicate, if_pos (by omega)]
      rfl
    · rintro Hs i σ' H' ⟨_, _, _, _, _, _, h, _⟩
      exact h
    · rintro Hs i σ' Ha Hb ⟨zs, ks, v5, v6, v7, h0, h1, h2, h3, h4, h5, h6⟩ e
      exact ⟨zs, ks, v5, v6, v7, h0, h1.then e, e _ _ h2, h3, h4, e _ _ h5, h6⟩
    · rintro Hs i y σ' H' e hi ⟨zs, ks, v5, v6, v7, rfl, j1, j2, j3, j4, j5, j6, j7⟩ hy
      obtain ⟨a, ha, rfl⟩ := at_map hy
      have hic : i < (cutsAt lot text 0).length := by
        have := (List.getElem?_eq_some_iff.mp ha).1
        omega
      obtain ⟨c, hc⟩ : ∃ c, (cutsAt lot text 0)[i]? = some c := ⟨_, List.getElem?_eq_getElem hic⟩
      obtain ⟨a', ha', hca⟩ := hal.at_ hc
      rw [ha] at ha'
      cases ha'
      have hcm := List.mem_of_getElem? hc
      obtain ⟨hix, hput⟩ := (mem_cuts hL.ps text.length 0 (by omega) c).mp hcm
      rw [List.drop_zero] at hput
      have kp : ∀ {Hx : Hp}, Exc (fun c => c = pq ∨ c = pd) Hs Hx → ∀ b o, H b = some o → Hx b = some o := fun ex b o hbo => ex _ _ (fun z => z.elim (old hbo).1 (old hbo).2) (e _ _ (e0 _ _ hbo))
      show tSeq _ _ _ [some (.ref pl), some (T text), some (.ref pc), some (.ref pq), some (.ref pd), some (.ref a), v6, v7] H'
      refine q_asg (v := .int 0) ev_c fun H1 e1 => ?_
      show tSeq _ _ _ [some (.ref pl), some (T text), some (.ref pc), some (.ref pq), some (.ref pd), some (.ref a), some (.int 0), v7] H1
      have hz0 : 0 < zs.length := by omega
      refine q_setL (j := 0) (v := .int (zs[0] + 1)) (e1 _ _ j2) (ev_op (ev_op (ev_var rfl) ev_c (rv_ixL (sq_of (e1 _ _ j2)) (atI_nat (j := 0) (v := .int zs[0]) (by rw [List.getElem?_map, List.getElem?_eq_getElem hz0]; rfl)))) ev_c rv_I0) (ev_var rfl) ev_c (by rw [List.length_map]; exact hz0) fun H2 e2 => ?_
      have x2 : Exc (fun c => c = pq ∨ c = pd) Hs (upd H2 pq (.lst ((zs.map V.int).set 0 (.int (zs[0] + 1))))) := (j1.then (e1.trans e2)).upd (.inl (.inl rfl))
      have hq2 : (upd H2 pq (.lst ((zs.map V.int).set 0 (.int (zs[0] + 1))))) pq = some (.lst ((zs.set 0 (zs[0] + 1)).map V.int)) := by rw [upd_same, List.map_set]
      have hd2 : (upd H2 pq (.lst ((zs.map V.int).set 0 (.int (zs[0] + 1))))) pd = some (.dK (DS ks)) := by rw [upd_ne hne]; exact e2 _ _ (e1 _ _ j5)
      generalize upd H2 pq (.lst ((zs.map V.int).set 0 (.int (zs[0] + 1)))) = H3 at x2 hq2 hd2 ⊢
      have hz1 : ∀ p, p ≤ text.length → (zs.set 0 (zs[0] + 1))[p]? = some ((Sf lot (cutsAt lot text 0) i p + hit lot c 0 p : Nat) : Int) := fun p hp => by
        rw [hit_zero]
        by_cases z : p = 0
        · subst z
          rw [List.getElem?_set_self hz0, if_pos rfl]
          have := j4 0 (Nat.zero_le _)
          rw [List.getElem?_eq_getElem hz0] at this
          rw [Option.some.inj this]
          rfl
        · rw [List.getElem?_set_ne (Ne.symm z), if_neg z, Nat.add_zero]
          exact j4 p hp
      generalize hzz : zs.set 0 (zs[0] + 1) = zs1 at hq2 hz1
      have hz1l : zs1.length = text.length + 1 := by rw [← hzz, List.length_set]; exact j3
      clear hzz
      refine s_forW (fun c => c = pq ∨ c = pd) (src_listM (f := fun (n : Nat) => V.int (n : Int)) (xs := c) (ev_var rfl) (sq_of (kp x2 _ _ hca))) ?_
        (fun Ht j σ' H9 => ∃ (zs : List Int) (ks : List Nat) (v7 : Option V), σ' = [some (.ref pl), some (T text), some (.ref pc), some (.ref pq), some (.ref pd), some (.ref a), some (.int ((put lot (c.take j)).length : Int)), v7] ∧ Exc (fun c => c = pq ∨ c = pd) Ht H9 ∧ H9 pq = some (.lst (zs.map V.int)) ∧ zs.length = text.length + 1 ∧ (∀ p, p ≤ text.length → zs[p]? = some ((Sf lot (cutsAt lot text 0) i p + hit lot c j p : Nat) : Int)) ∧
          H9 pd = some (.dK (DS ks)) ∧ ks.Nodup ∧ ∀ m, m ∈ ks ↔ (∃ c ∈ (cutsAt lot text 0).take i, m ∈ c) ∨ m ∈ c.take j) ?_ ?_ ?_ ?_ ?_
      · rintro b (rfl | rfl)
        · exact ⟨(by rw [hq2]; exact fun z => nomatch z), fun z => (old hca).1 z.symm⟩
        · exact ⟨(by rw [hd2]; exact fun z => nomatch z), fun z => (old hca).2 z.symm⟩
      · intro Ht e9
        exact ⟨zs1, ks, v7, rfl, Exc.refl _, e9 _ _ hq2, hz1l, hz1, e9 _ _ hd2, j6, fun m => (j7 m).trans ⟨.inl, fun z => z.elim id fun h => (by rw [List.take_zero] at h; cases h)⟩⟩
      · rintro Ht j σ' H9 ⟨_, _, _, _, h, _⟩
        exact h
      · rintro Ht j σ' Ha Hb ⟨zs, ks, v7, h0, h1, h2, h3, h4, h5, h6⟩ e
        exact ⟨zs, ks, v7, h0, h1.then e, e _ _ h2, h3, h4, e _ _ h5, h6⟩
      · rintro Ht j y σ' H9 e9 hj ⟨zs, ks, v7, rfl, k1, k2, k3, k4, k5, k6, k7⟩ hy
        obtain ⟨m, hm, rfl⟩ := at_map hy
        have hml : m < lot.length := hix m (List.mem_of_getElem? hm)
        have hw1 : lot[m]? = some lot[m] := List.getElem?_eq_getElem hml
        have hlw : lot[m].length ≤ 12 := (hL.wd _ (List.getElem_mem hml)).1
        have x9 : Exc (fun c => c = pq ∨ c = pd) Hs H9 := (x2.then e9).trans k1
        have hp9 := kp x9 _ _ hLA.1
        have hts := put_take_succ (lot := lot) hm
        rw [wl_of hw1] at hts
        have hbnd := put_len hput (j + 1) (by omega)
        rw [hts] at hbnd
        have kl : ks.length ≤ 12 := by
          have := few_of (n := lot.length) k6 fun m hm => ((k7 m).mp hm).elim (fun ⟨c', hc', hm'⟩ => ((mem_cuts hL.ps text.length 0 (by omega) c').mp (List.mem_of_mem_take hc')).1 m hm') fun z => hix m (List.mem_of_mem_take z)
          omega
        show tSeq _ _ _ [some (.ref pl), some (T text), some (.ref pc), some (.ref pq), some (.ref pd), some (.ref a), some (.int ((put lot (c.take j)).length : Int)), some (.int (m : Int))] H9
        refine q_asg (v := .int (((put lot (c.take j)).length + lot[m].length : Nat) : Int)) (ev_op (ev_var rfl) (ev_cb (ea_cons (ev_op (ev_var rfl) (ev_var rfl) (rv_ixT (st_of hp9) (atI_nat (by rw [List.getElem?_map, hw1]; rfl)))) ea_nil) (rc_lenT (by omega))) rv_I0) fun Ha ea => ?_
        rw [← hts] at hbnd ⊢
        generalize hP : (put lot (c.take (j + 1))).length = at_ at hbnd ⊢
        show tSeq _ _ _ [some (.ref pl), some (T text), some (.ref pc), some (.ref pq), some (.ref pd), some (.ref a), some (.int (at_ : Int)), some (.int (m : Int))] Ha
        have hza : at_ < zs.length := by omega
        refine q_setL (j := at_) (v := .int (zs[at_] + 1)) (ea _ _ k2) (ev_op (ev_op (ev_var rfl) (ev_var rfl) (rv_ixL (sq_of (ea _ _ k2)) (atI_nat (v := .int zs[at_]) (by rw [List.getElem?_map, List.getElem?_eq_getElem hza]; rfl)))) ev_c rv_I0) (ev_var rfl) (ev_var rfl) (by rw [List.length_map]; exact hza) fun Hb eb => ?_
        have xb : Exc (fun c => c = pq ∨ c = pd) Ht (upd Hb pq (.lst ((zs.map V.int).set at_ (.int (zs[at_] + 1))))) := (k1.then (ea.trans eb)).upd (.inl (.inl rfl))
        have hdb : (upd Hb pq (.lst ((zs.map V.int).set at_ (.int (zs[at_] + 1))))) pd = some (.dK (DS ks)) := by rw [upd_ne hne]; exact eb _ _ (ea _ _ k5)
        have hqb : (upd Hb pq (.lst ((zs.map V.int).set at_ (.int (zs[at_] + 1))))) pq = some (.lst ((zs.set at_ (zs[at_] + 1)).map V.int)) := by rw [upd_same, List.map_set]
        generalize upd Hb pq (.lst ((zs.map V.int).set at_ (.int (zs[at_] + 1)))) = Hc at xb hdb hqb ⊢
        refine s_putD (ev_var rfl) (ev_var rfl) hdb (by omega) fun Hd ed => ⟨zs.set at_ (zs[at_] + 1), addN ks m, some (.int (m : Int)), rfl, (xb.then ed).upd (.inl (.inr rfl)), ?_, by rw [List.length_set]; exact k3, fun p hp => ?_, upd_same, addN_nodup k6, fun m' => ?_⟩
        · rw [upd_ne (Ne.symm hne)]
          exact ed _ _ hqb
        · rw [hit_succ hL.ps hix hj, hP]
          by_cases z : at_ = p
          · subst z
            rw [List.getElem?_set_self hza, if_pos rfl]
            have := k4 at_ hp
            rw [List.getElem?_eq_getElem hza] at this
            rw [Option.some.inj this]
            congr 1
          · rw [List.getElem?_set_ne z, if_neg z, Nat.add_zero]
            exact k4 p hp
        · rw [mem_addN, k7, List.take_add_one, hm, List.mem_append, or_assoc]
          simp
      · rintro Ht σ' H9 e9 ⟨zs, ks, v7, rfl, k1, k2, k3, k4, k5, k6, k7⟩
        refine ⟨zs, ks, _, _, _, rfl, (x2.then e9).trans k1, k2, k3, fun p hp => by rw [Sf_succ hc]; exact k4 p hp, k5, k6, fun m => ?_⟩
        rw [k7, List.take_length, List.take_add_one, hc]
        refine ⟨fun z => z.elim (fun ⟨c', h1, h2⟩ => ⟨c', List.mem_append.mpr (.inl h1), h2⟩) fun z => ⟨c, List.mem_append.mpr (.inr (by simp)), z⟩, fun ⟨c', h1, h2⟩ => ?_⟩
        rcases List.mem_append.mp h1 with z | z
        · exact .inl ⟨c', z, h2⟩
        · simp at z
          subst z
          exact .inr h2
    · rintro Hs σ' H' e ⟨zs, ks, v5, v6, v7, rfl, j1, j2, j3, j4, j5, j6, j7⟩
      have ex1 : Ex H H' := fun b o hbo => j1 _ _ (fun z => z.elim (old hbo).1 (old hbo).2) (e _ _ (e0 _ _ hbo))
      have hzs : zs.map V.int = numV (thruL lot text) := by
        refine List.ext_getElem? fun p => ?_
        by_cases hp : p ≤ text.length
        · rw [thru_at hp, List.getElem?_map, j4 p hp, hlenA, thru_count hL.ps hp]
          rfl
        · rw [List.getElem?_eq_none (by rw [List.length_map]; omega), List.getElem?_eq_none (by rw [thru_len]; omega)]
      rw [hzs] at j2
      exact s_retPU rfl j2 (el_sortLD (ev_var rfl) j5 fun zs hp hs => used_is j6 (fun m => (j7 m).trans (by rw [hlenA, List.take_length]; exact used_cuts hL.ps)) hp hs) ex1 ret fun v H2 q => q
end
end K04
set_option Elab.async false
set_option linter.all false
set_option maxRecDepth 100000
set_option maxHeartbeats 4000000
namespace K04
open PySem PySem.Spec PyProof.Rows L2 Evl Wc Wt Wg _root_.Wd
/-! ### where words lead -/
inductive Reach (lot : List Tx) (text : Tx) (ps : List Nat) : Nat → Prop
  | base {p : Nat} : p ∈ ps → Reach lot text ps p
  | step {p m : Nat} : Reach lot text ps p → stands lot text p m = true → Reach lot text ps (p + wl lot m)
/-- the places, ascending -/
structure IsReach (lot : List Tx) (text : Tx) (ps ms : List Nat) : Prop where
  asc : ms.Pairwise (· < ·)
  mem : ∀ m, m ∈ ms ↔ Reach lot text ps m
theorem stands_le {lot : List Tx} {text : Tx} {p m : Nat} (h : stands lot text p m = true) : p + wl lot m ≤ text.length := by
  obtain ⟨wd, h1, h2, _⟩ := stands_iff.mp h
  rw [wl_of h1]
  exact h2
theorem Reach.le {lot : List Tx} {text : Tx} {ps : List Nat} (hp : ∀ p ∈ ps, p ≤ text.length) {m : Nat} (h : Reach lot text ps m) : m ≤ text.length := by
  cases h with
  | base h => exact hp _ h
  | step _ h => exact stands_le h
theorem pre_last {lot : List Tx} (hL : Pos lot) {text : Tx} {p m : Nat} {d : List Nat} (hp : p ≤ text.length) (hd : d ∈ preAt lot text p) (h : stands lot text p m = true) : d ++ [m] ∈ preAt lot text (p + wl lot m) := by
  obtain ⟨d1, d2⟩ := (mem_pre hL p hp d).mp hd
  obtain ⟨wd, hw, h2, h3⟩ := stands_iff.mp h
  have hle := stands_le h
  refine (mem_pre hL _ hle _).mpr ⟨fun i hi => ?_, ?_⟩
  · rcases List.mem_append.mp hi with z | z
    · exact d1 i z
    · rw [List.mem_singleton.mp z]; exact stands_lt h
  · have hg : lot.getD m [] = wd := by rw [List.getD_eq_getElem?_getD, hw]; rfl
    have h4 : (text.drop p).take wd.length = wd := h3
    rw [put_app, put_cons, put_nil, List.append_nil, d2, hg, wl_of hw, List.take_add, h4]
theorem reach_pre {lot : List Tx} (hL : Pos lot) {text : Tx} {m : Nat} : Reach lot text [0] m ↔ m ≤ text.length ∧ 0 < (preAt lot text m).length := by
  refine ⟨fun h => ?_, fun ⟨h1, h2⟩ => ?_⟩
  · induction h with
    | base h =>
      rw [List.mem_singleton.mp h, pre_first]
      exact ⟨Nat.zero_le _, Nat.one_pos⟩
    | step _ h ih =>
      obtain ⟨d, hd⟩ := List.exists_mem_of_length_pos ih.2
      exact ⟨stands_le h, List.length_pos_iff.mpr (List.ne_nil_of_mem (pre_last hL ih.1 hd h))⟩
  · induction m using Nat.strongRecOn with
    | _ m ih =>
      by_cases h0 : m = 0
      · subst h0
        exact .base List.mem_cons_self
      · obtain ⟨c, hc⟩ := List.exists_mem_of_length_pos h2
        rw [pre_step hL (by omega), List.mem_flatMap] at hc
        obtain ⟨i, hi, hc⟩ := hc
        obtain ⟨d, hd, _⟩ := List.mem_map.mp hc
        obtain ⟨wd, w1, w2, w3, w4, w5, w6⟩ := ends_is hL hi
        have := Reach.step (lot := lot) (text := text) (ps := [0]) (p := m - wl lot i) (m := i) (ih (m - wl lot i) (by omega) ⟨by omega, List.length_pos_iff.mpr (List.ne_nil_of_mem hd)⟩ (by omega) (List.length_pos_iff.mpr (List.ne_nil_of_mem hd))) (stands_iff.mpr ⟨wd, w1, by omega, by rw [w2]; exact w6⟩)
        rw [show m - wl lot i + wl lot i = m by omega] at this
        exact this
theorem asc_unique {l l' : List Nat} (h1 : l.Pairwise (· < ·)) (h2 : l'.Pairwise (· < ·)) (h : ∀ m, m ∈ l ↔ m ∈ l') : l = l' :=
  ((List.perm_ext_iff_of_nodup (h1.imp fun h => Nat.ne_of_lt h) (h2.imp fun h => Nat.ne_of_lt h)).mpr h).eq_of_pairwise (fun a b _ _ h1 h2 => by omega) h1 h2
theorem led_is {lot : List Tx} (hL : Pos lot) {text : Tx} {ms : List Nat} (h : IsReach lot text [0] ms) : ms = ledL lot text := asc_unique h.asc (asc_lt _ _) fun m => by
  rw [h.mem, reach_pre hL]
  unfold ledL asc
  rw [List.mem_filter, List.mem_range, decide_eq_true_eq]
  exact and_congr ⟨fun z => by omega, fun z => by omega⟩ Iff.rfl
/-! ### data of lists of numbers -/
def dataC (c : List Nat) : PyData := .list (c.map fun (n : Nat) => PyData.int (n : Int))
theorem dp_c {K : PySem.W.Frag} {pc : Addr} {c : List Nat} {H : Hp} (h : H pc = some (.lst (numV c))) : Dp K H (.ref pc) (dataC c) := dp_list (f := fun (n : Nat) => V.int (n : Int)) (g := fun (n : Nat) => PyData.int (n : Int)) (sq_of h) fun n _ => .int _
theorem lay_c : ∀ c : List Nat, PyData.canLayAll0 (c.map fun (n : Nat) => PyData.int (n : Int)) = true ∧ PyData.depthAll (c.map fun (n : Nat) => PyData.int (n : Int)) = 0
  | [] => ⟨rfl, rfl⟩
  | n :: c => by
    obtain ⟨h1, h2⟩ := lay_c c
    refine ⟨?_, ?_⟩
    · rw [List.map_cons, PyData.canLayAll0, h1]; rfl
    · rw [List.map_cons, PyData.depthAll, h2]; rfl
theorem sh_c (c : List Nat) : SeqAt.shaped (dataC c) = true := by
  obtain ⟨h3, h4⟩ := lay_c c
  unfold SeqAt.shaped dataC
  rw [PyData.canLay0, h3, PyData.depth, h4]
  rfl
section
variable {K : PySem.W.Frag} {σ : L2.St} {H : Hp} {ta : TE}
theorem et_eqNil {p : Addr} {c : List Nat} (h : H p = some (.lst (numV c))) (hv : Ev ta σ H (.ref p)) : EvT (tTest (tOp (rEqD K) ta (tLst tNil))) σ H (decide (c = [])) := fun H2 e2 Q q => by
  refine hv H2 e2 _ fun H3 e3 => ⟨Nat.zero_le _, fun r hr => ?_⟩
  have e4 := Ex.new (o := HO.lst []) hr
  refine ⟨dataC c, .list [], dp_c (((e2.trans e3).trans e4) _ _ h), .lst (sq_of upd_same) .nil, sh_c c, rfl, decide (c = []), ?_, q _ (e3.trans e4)⟩
  cases c with
  | nil => rfl
  | cons n c => rfl
theorem numV_last (c : List Nat) (n : Nat) : (numV (c ++ [n]))[(numV (c ++ [n])).length - 1]? = some (.int (n : Int)) := by
  unfold numV
  rw [List.length_map, List.length_append, List.getElem?_map]
  simp
theorem q_popI {i a : Nat} {pw : Addr} {c : List Nat} {n : Nat} {D : Ends} {tz : TS} (h0 : σ[i]? = some (some (.ref pw))) (h : H pw = some (.lst (numV (c ++ [n])))) (k : tz D (σ.set a (some (.int (n : Int)))) (upd H pw (.lst (numV c)))) : tSeq (tAsg (tBM0 K "list" rPop (tVar i)) (gName a)) tz D σ H := by
  refine ⟨.ref pw, h0, Or.inl ⟨rfl, _, sq_of h⟩, pw, numV (c ++ [n]), .int (n : Int), rfl, rfl, h, numV_last c n, ?_⟩
  have e : (numV (c ++ [n])).dropLast = numV c := by unfold numV; rw [List.map_append]; exact List.dropLast_concat
  rw [e]
  exact k
theorem merge_DS : ∀ (ns ks : List Nat), mergeK (DS ks) (DS ns) = DS (addAll ks ns)
  | [], _ => rfl
  | n :: ns, ks => by
    show mergeK (putK (DS ks) (Sum.inl (n : Int)) (.bl true)) (DS ns) = _
    rw [put_DS, merge_DS ns]
    rfl
theorem paired_of {H : Hp} : ∀ {ps : List Addr} {ns : List Nat}, ps.length = ns.length → (∀ (i : Nat) (p : Addr) (n : Nat), ps[i]? = some p → ns[i]? = some n → H p = some (.tup [.int (n : Int), .bl true])) → Paired (fun p (kv : Key × V) => SqT K H p [kV kv.1, kv.2]) ps (DS ns)
  | [], [], _, _ => .nil
  | p :: ps, n :: ns, hl, h => .cons (st_of (h 0 p n rfl rfl)) (paired_of (by simpa using hl) fun i p' n' h1 h2 => h (i + 1) p' n' (by simpa using h1) (by simpa using h2))
/-- dict([(n, True) for n in ns]) -/
theorem wp_dictP {i j : Nat} {pp : Addr} {ns : List Nat} {Q : VK} (h0 : σ[i]? = some (some (.ref pp))) (h : H pp = some (.lst (numV ns))) (hl : ns.length ≤ 4000) (hw : ∀ x, wipe ((wipe σ [j]).set j (some x)) [j] = wipe σ [j]) (hj : ∀ x, ((wipe σ [j]).set j (some x))[j]? = some (some x))
    (k : ∀ d H1, H d = none → Ex H H1 → H1 d = some (.dK (DS (addAll [] ns))) → Q (.ref d) H1) : tCB (rDictP K) (tCons (tLc (iList K (tVar i)) (gName j) tYes (tTup (tCons (tVar j) (tCons (tC (.bl true)) tNil))) [j]) tNil) σ H Q := by
  have key : tLc (iList K (tVar i)) (gName j) tYes (tTup (tCons (tVar j) (tCons (tC (.bl true)) tNil))) [j] σ H (fun v H1 => rDictP K [v] H1 Q) := by
    refine lcN (n := ns.length) (fun t => .tup [.int ((ns.getD t 0 : Nat) : Int), .bl true]) (src_listM (f := fun (n : Nat) => V.int (n : Int)) (ev_var h0) (sq_of h)) (by omega) hw (fun t x H1 ht hx e1 Q' q' => ?_) fun q H2 ps hq e2 h2 hpl hn hnq => ?_
    · obtain ⟨n, hn, rfl⟩ := at_map hx
      refine ⟨_, hj _, by show 2 ≤ sizeLine; decide, fun p hp => q' p _ hp (Ex.new hp) ?_⟩
      rw [upd_same, List.getD_eq_getElem?_getD, hn]
      rfl
    · refine ⟨q, ps, DS ns, rfl, sq_of h2, paired_of hpl fun i p n h3 h4 => ?_, fun d hd => ?_⟩
      · have := hn.at_ i p h3
        rw [List.getD_eq_getElem?_getD, h4] at this
        exact this
      · have : mergeK [] (DS ns) = DS (addAll [] ns) := merge_DS ns []
        rw [this]
        exact k d _ (fresh_back e2 hd) (e2.trans (Ex.new hd)) upd_same
  exact key
end
end K04
set_option Elab.async false
set_option linter.all false
set_option maxRecDepth 100000
set_option maxHeartbeats 4000000
namespace K04
open PySem PySem.Spec PyProof.Rows L2 Evl Wc Wt Wg _root_.Wd
/-- what stands while places are found: ks met, wk on the pile; the j first words at pl seen -/
structure Met (lot : List Tx) (text : Tx) (ps ks wk : List Nat) : Prop where
  nd : ks.Nodup
  le : ∀ m ∈ ks, m ≤ text.length
  reach : ∀ m ∈ ks, Reach lot text ps m
  has : ∀ p ∈ ps, p ∈ ks
  wk : ∀ m ∈ wk, m ∈ ks
theorem Met.few {lot : List Tx} {text : Tx} {ps ks wk : List Nat} (h : Met lot text ps ks wk) : ks.length ≤ text.length + 1 := few_of h.nd fun m hm => by have := h.le m hm; omega
def Closed (lot : List Tx) (text : Tx) (ks : List Nat) (p : Nat) : Prop := ∀ m, stands lot text p m = true → p + wl lot m ∈ ks
theorem met_all {lot : List Tx} {text : Tx} {ps ks : List Nat} (h : Met lot text ps ks []) (hc : ∀ p ∈ ks, Closed lot text ks p) (m : Nat) : m ∈ ks ↔ Reach lot text ps m := by
  refine ⟨h.reach m, fun z => ?_⟩
  induction z with
  | base z => exact h.has _ z
  | step _ z ih => exact hc _ ih _ z
theorem addN_keep {ks : List Nat} {n m : Nat} (h : m ∈ ks) : m ∈ addN ks n := mem_addN.mpr (.inl h)
section
variable {P : Program} {w : World} {K : PySem.W.Frag} {mg : Str → Option Value} {base : Heap}
def sp_led : Sp := fun vs H Q _ => ∃ (pl pp : Addr) (lot : List Tx) (text : Tx) (ps : List Nat), vs = [.ref pl, T text, .ref pp] ∧ LotAt pl lot H ∧ text.length ≤ 400 ∧ H pp = some (.lst (numV ps)) ∧ ps ≠ [] ∧ ps.length ≤ 500 ∧ (∀ p ∈ ps, p ≤ text.length) ∧ ∀ ms, IsReach lot text ps ms → RetL (numV ms) H Q
set_option maxHeartbeats 8000000 in
theorem ok__law_led {f : Addr} {fd : FuncData} (F : Fun K "_law_led" "_law_led" st__law_led f fd) (M : Md K mg) : FnOk P w K mg base CX0 1 f fd ["lot", "text", "places"] sp_led := by
  have nd := sc__law_led.nd
  refine F.ok sc__law_led (fun vs H Q E h => ?_) (fun cdv A outer s H vs Q E hr h => ?_)
  · obtain ⟨_, _, _, _, _, rfl, _⟩ := h
    rfl
  · obtain ⟨pl, pp, lot, text, ps, rfl, hLA, hlen, hpp, hne, hpl, hps, ret⟩ := h
    refine ⟨_, (pss_cons (ps_par (i := 3) (j := 4) rfl nd rfl rfl (by decide) rfl rfl (pa_cons (pe_callTy (kDictP (K := K)) (by rfl) M.n_dict boot_dict (pa_cons (pe_lc (own := [("place", 5)]) rfl nd (kil K (pi_list (pv 2))) (blkOk_by (N := N__law_led) (sc := defScope st__law_led) (by decide +kernel)) (fun _ _ _ _ _ => (pg_name (i := 5) nd rfl (Or.inl rfl))) (fun _ _ _ _ _ => pts_nil) (fun _ _ _ _ _ => (pe_tup (pa_cons (pv 5) (pa_cons pe_bl pa_nil))))) pa_nil)) (pa_cons (pe_callTy (kcr K (r := rListS) call_list_of) (by rfl) M.n_list boot_list (pa_cons (pv 2) pa_nil)) pa_nil)) (by rfl))
  (pss_cons (ps_for PassesOwn.never rfl (pi_range1 (by rfl) M.n_range (pa_cons (pe_op op_add (pe_op op_add (pe_callB cr_lenT (by rfl) M.n_len boot_len (pa_cons (pv 1) pa_nil)) (pe_callB (kcr K (r := rLenS) call_len_seq) (by rfl) M.n_len boot_len (pa_cons (pv 2) pa_nil))) pe_int) pa_nil)) (pg_name (i := 6) nd rfl (Or.inl rfl))
  (pss_cons (ps_if (pt_cmpR (kop K (r := rEqD) (op_eqD hr.units)) (pv 4) (pe_lst pa_nil) (nomark _))
  (pss_one ps_break)
  pss_nil)
  (pss_cons (ps_set (i := 5) nd rfl (Or.inl rfl) (kbm0 K (pe_bm0 PySem.F.plainAttrs_list PySem.F.slot_list_pop PySem.F.type_list_pop mt_pop (pv 4))))
  (pss_one (ps_for PassesOwn.never rfl (kit K (pi_tup (pv 0))) (pg_name (i := 7) nd rfl (Or.inl rfl))
  (pss_cons (ps_set (i := 8) nd rfl (Or.inl rfl) (pe_op op_add (pv 5) (pe_callB cr_lenT (by rfl) M.n_len boot_len (pa_cons (pv 7) pa_nil))))
  (pss_one (ps_if (PW.pt (pw_and (pt_cmpR op_eqT (pe_slice sl_T (pv 1) (po_some (pv 5)) (po_some (pv 8))) (pv 7) (nomark _)) (pw_and1 (pt_cmp (pc_dnotin (hu1 hr.units) (pv 8) (pv 3))))))
  (pss_cons (ps_dput (hu1 hr.units) (pv 3) (pv 8) pe_bl (by rfl))
  (pss_one (ps_expr (kbm K (pe_bm PySem.F.plainAttrs_list PySem.F.slot_list_append PySem.F.type_list_append mt_append (pv 4) (pa_cons (pv 8) pa_nil))))))
  pss_nil))))))))
  (pss_one (ps_ret (pe_callB (kcr K (r := rSortedI) cr_sortedI) (by rfl) M.n_sorted boot_sorted (pa_cons (pe_callTy (call_list_dK rfl) (by rfl) M.n_list boot_list (pa_cons (pv 3) pa_nil)) pa_nil)))))), ?_⟩
    have hL := hLA.2
    have hfew := hL.few
    have lenT : ∀ {σ : L2.St} {H' : Hp}, σ[1]? = some (some (T text)) → Ev (tCB rLenT (tCons (tVar 1) tNil)) σ H' (.int (text.length : Int)) := fun h0 => ev_cb (ea_cons (ev_var h0) ea_nil) (rc_lenT (by omega))
    refine wp_dictP rfl hpp (by omega) (fun _ => rfl) (fun _ => rfl) fun pd H1 hpd e1 hd1 => ?_
    refine (el_list (ev_var rfl) (sq_of (e1 _ _ hpp)) : EvL (tCB (rListS K) (tCons (tVar 2) tNil)) (start N__law_led [.ref pl, T text, .ref pp]) H1 (numV ps)) H1 (Ex.refl _) _ fun pw H2 hpw e2 hw2 => ⟨_, _, rfl, ?_⟩
    have hd2 := e2 _ _ hd1
    have e02 := e1.trans e2
    have hpw0 := fresh_back e1 hpw
    have hdw : pd ≠ pw := fun z => by rw [← z, hd1] at hpw; cases hpw
    have old : ∀ {b : Addr} {o : HO}, H b = some o → b ≠ pd ∧ b ≠ pw := fun hb => ⟨fun z => (by rw [z, hpd] at hb; cases hb), fun z => (by rw [z, hpw0] at hb; cases hb)⟩
    generalize hk0 : addAll [] ps = ks0 at hd2
    have hm0 : ∀ m, m ∈ ks0 ↔ m ∈ ps := fun m => by rw [← hk0, mem_addAll]; exact ⟨fun z => z.elim (fun h => nomatch h) id, .inr⟩
    have hks0 : 1 ≤ ks0.length := by
      cases ps with
      | nil => exact absurd rfl hne
      | cons p ps => exact List.length_pos_iff.mpr (List.ne_nil_of_mem ((hm0 p).mpr List.mem_cons_self))
    have hnd0 : ks0.Nodup := by rw [← hk0]; exact addAll_nodup List.Pairwise.nil
    clear hk0 hd1 hpw
    show tSeq _ _ _ [some (.ref pl), some (T text), some (.ref pp), some (.ref pd), some (.ref pw), none, none, none, none] H2
    have kp : ∀ {Hs Hx : Hp}, Ex H2 Hs → Exc (fun c => c = pd ∨ c = pw) Hs Hx → ∀ b o, H b = some o → Hx b = some o := fun es ex b o hbo => ex _ _ (fun z => z.elim (old hbo).1 (old hbo).2) (es _ _ (e02 _ _ hbo))
    have fin : ∀ {Hs Hx : Hp} {ks : List Nat} {v5 v6 v7 v8 : Option V} {D : Ends}, Ex H2 Hs → Exc (fun c => c = pd ∨ c = pw) Hs Hx → Hx pd = some (.dK (DS ks)) → Met lot text ps ks [] → (∀ p ∈ ks, Closed lot text ks p) → (∀ v H', Q v H' → D.rt v H') → tRet (tCB (rSortedI K) (tCons (tCB rListD (tCons (tVar 3) tNil)) tNil)) D [some (.ref pl), some (T text), some (.ref pp), some (.ref pd), some (.ref pw), v5, v6, v7, v8] Hx := fun {Hs Hx ks v5 v6 v7 v8 D} es ex hd hM hC hD => by
      have hms : IsReach lot text ps (asc (text.length + 1) fun m => decide (m ∈ ks)) := ⟨asc_lt _ _, fun m => by
        unfold asc
        rw [List.mem_filter, List.mem_range, decide_eq_true_eq, ← met_all hM hC m]
        exact ⟨fun z => z.2, fun z => ⟨by have := hM.le m z; omega, z⟩⟩⟩
      have exH : Ex H Hx := fun b o hb => kp es ex b o hb
      exact s_retL (el_sortLD (ev_var rfl) hd fun zs hp hs => asc_is hM.nd (fun m => ⟨fun z => ⟨by have := hM.le m z; omega, decide_eq_true z⟩, fun z => of_decide_eq_true z.2⟩) hp hs) fun q H4 hq e4 h4 => hD _ _ (ret _ hms q H4 (fresh_back exH hq) (exH.trans e4) h4)
    refine q_forW (fun c => c = pd ∨ c = pw) (src_range1 (n := text.length + ps.length + 1) (ea_cons (ev_is (ev_op (ev_op (lenT rfl) (ev_len (ev_var rfl) (sq_of (e02 _ _ hpp))) rv_I0) ev_c rv_I0) (by rw [numV, List.length_map]; rfl)) ea_nil) (by omega)) ?_
      (fun Hs i σ' H' => ∃ (ks wk : List Nat) (v5 v6 v7 v8 : Option V), σ' = [some (.ref pl), some (T text), some (.ref pp), some (.ref pd), some (.ref pw), v5, v6, v7, v8] ∧ Exc (fun c => c = pd ∨ c = pw) Hs H' ∧ H' pd = some (.dK (DS ks)) ∧ H' pw = some (.lst (numV wk)) ∧ Met lot text ps ks wk ∧ (∀ p ∈ ks, p ∈ wk ∨ Closed lot text ks p) ∧ wk.length + i + ks0.length = ps.length + ks.length) ?_ ?_ ?_ ?_ ?_
    · rintro c (rfl | rfl)
      · exact ⟨(by rw [hd2]; exact fun z => nomatch z), fun z => z⟩
      · exact ⟨(by rw [hw2]; exact fun z => nomatch z), fun z => z⟩
    · intro Hs e
      exact ⟨ks0, ps, none, none, none, none, rfl, Exc.refl _, e _ _ hd2, e _ _ hw2, ⟨hnd0, fun m hm => hps m ((hm0 m).mp hm), fun m hm => .base ((hm0 m).mp hm), fun p hp => (hm0 p).mpr hp, fun m hm => (hm0 m).mpr hm⟩, fun p hp => .inl ((hm0 p).mp hp), by omega⟩
    · rintro Hs i σ' H' ⟨_, _, _, _, _, _, _, h, _⟩
      exact h
    · rintro Hs i σ' Ha Hb ⟨ks, wk, v5, v6, v7, v8, h0, h1, h2, h3, h4⟩ e
      exact ⟨ks, wk, v5, v6, v7, v8, h0, h1.then e, e _ _ h2, e _ _ h3, h4⟩
    · rintro Hs i y σ' H' e hi ⟨ks, wk, v5, v6, v7, v8, rfl, j1, j2, j3, j4, j5, j6⟩ rfl
      have hkf := j4.few
      show tSeq _ _ _ [some (.ref pl), some (T text), some (.ref pp), some (.ref pd), some (.ref pw), v5, some (.int (i : Int)), v7, v8] H'
      refine q_when (et_eqNil j3 (ev_var rfl)) (fun hb H3 e3 => ?_) (fun hb H3 e3 => ?_)
      · have hw0 := of_decide_eq_true hb
        subst hw0
        exact fin e (j1.then e3) (e3 _ _ j2) j4 (fun p hp => (j5 p hp).elim (fun z => nomatch z) id) fun v H' q => q
      · have hwne := of_decide_eq_false hb
        obtain ⟨wk', place, rfl⟩ : ∃ wk' place, wk = wk' ++ [place] := ⟨wk.dropLast, wk.getLast hwne, (List.dropLast_concat_getLast hwne).symm⟩
        have hplk : place ∈ ks := j4.wk place (List.mem_append.mpr (.inr List.mem_cons_self))
        have hple := j4.le place hplk
        rw [List.length_append, List.length_singleton] at j6
        refine q_popI rfl (e3 _ _ j3) ?_
        have x3 : Exc (fun c => c = pd ∨ c = pw) Hs (upd H3 pw (.lst (numV wk'))) := (j1.then e3).upd (.inl (.inr rfl))
        have hd3 : (upd H3 pw (.lst (numV wk'))) pd = some (.dK (DS ks)) := by rw [upd_ne hdw]; exact e3 _ _ j2
        have hw3 : (upd H3 pw (.lst (numV wk'))) pw = some (.lst (numV wk')) := upd_same
        generalize upd H3 pw (.lst (numV wk')) = H4 at x3 hd3 hw3 ⊢
        have hM4 : Met lot text ps ks wk' := ⟨j4.nd, j4.le, j4.reach, j4.has, fun m hm => j4.wk m (List.mem_append.mpr (.inl hm))⟩
        have hC4 : ∀ p ∈ ks, p ∈ wk' ∨ p = place ∨ Closed lot text ks p := fun p hp => (j5 p hp).elim (fun z => (List.mem_append.mp z).elim .inl fun z => .inr (.inl (List.mem_singleton.mp z))) fun z => .inr (.inr z)
        clear hb hwne j1 j2 j3 j4 j5
        show tFor _ _ _ _ [some (.ref pl), some (T text), some (.ref pp), some (.ref pd), some (.ref pw), some (.int (place : Int)), some (.int (i : Int)), v7, v8] H4
        refine s_forW (fun c => c = pd ∨ c = pw) (src_tupM (f := T) (xs := lot) (ev_var rfl) (st_of (kp e x3 _ _ hLA.1))) ?_
          (fun Ht j σ' H9 => ∃ (ks wk : List Nat) (v7 v8 : Option V), σ' = [some (.ref pl), some (T text), some (.ref pp), some (.ref pd), some (.ref pw), some (.int (place : Int)), some (.int (i : Int)), v7, v8] ∧ Exc (fun c => c = pd ∨ c = pw) Ht H9 ∧ H9 pd = some (.dK (DS ks)) ∧ H9 pw = some (.lst (numV wk)) ∧ Met lot text ps ks wk ∧ place ∈ ks ∧ (∀ p ∈ ks, p ∈ wk ∨ p = place ∨ Closed lot text ks p) ∧ wk.length + 1 + i + ks0.length = ps.length + ks.length ∧ ∀ m, m < j → stands lot text place m = true → place + wl lot m ∈ ks) ?_ ?_ ?_ ?_ ?_
        · rintro c (rfl | rfl)
          · exact ⟨(by rw [hd3]; exact fun z => nomatch z), fun z => (old hLA.1).1 z.symm⟩
          · exact ⟨(by rw [hw3]; exact fun z => nomatch z), fun z => (old hLA.1).2 z.symm⟩
        · intro Ht e9
          exact ⟨ks, wk', v7, v8, rfl, Exc.refl _, e9 _ _ hd3, e9 _ _ hw3, hM4, hplk, hC4, by omega, fun m hm => absurd hm (by omega)⟩
        · rintro Ht j σ' H9 ⟨_, _, _, _, _, h, _⟩
          exact h
        · rintro Ht j σ' Ha Hb ⟨ks, wk, v7, v8, h0, h1, h2, h3, h4⟩ e
          exact ⟨ks, wk, v7, v8, h0, h1.then e, e _ _ h2, e _ _ h3, h4⟩
        · rintro Ht j y σ' H9 e9 hj ⟨ks, wk, v7, v8, rfl, k1, k2, k3, k4, k5, k6, k7, k8⟩ hy
          obtain ⟨wd, hw1, rfl⟩ := at_map hy
          have hwm := List.mem_of_getElem? hw1
          have hlw : wd.length ≤ 12 := (hL.wd wd hwm).1
          have hwp : 0 < wd.length := List.length_pos_iff.mpr (hL.pos wd hwm)
          have hkf := k4.few
          have hst : stands lot text place j = decide (place + wd.length ≤ text.length ∧ StAt text wd place) := by
            unfold stands
            rw [hw1]
          have hstA : StAt text wd place → place + wd.length ≤ text.length := fun z => by
            have h4 : (text.drop place).take wd.length = wd := z
            have := congrArg List.length h4
            rw [List.length_take, List.length_drop] at this
            omega
          show tSeq _ _ _ [some (.ref pl), some (T text), some (.ref pp), some (.ref pd), some (.ref pw), some (.int (place : Int)), some (.int (i : Int)), some (T wd), v8] H9
          refine q_asg (v := .int ((place + wd.length : Nat) : Int)) (ev_op (ev_var rfl) (ev_cb (ea_cons (ev_var rfl) ea_nil) (rc_lenT (by omega))) rv_I0) fun Ha ea => ?_
          show tIfS _ _ _ _ [some (.ref pl), some (T text), some (.ref pp), some (.ref pd), some (.ref pw), some (.int (place : Int)), some (.int (i : Int)), some (T wd), some (.int ((place + wd.length : Nat) : Int))] Ha
          have hdA := ea _ _ k2
          have hwA := ea _ _ k3
          refine s_when (b := decide (StAt text wd place) && !decide (place + wd.length ∈ ks)) (et_and (et_is (et_test (ev_op (ev_slT (ev_var rfl) (eo_some (ev_var rfl)) (eo_some (ev_var rfl)) (by omega)) (ev_var rfl) rv_eqT)) (by rw [cutT_mid, Nat.add_sub_cancel_left])) fun _ => et_B (ev_notinD (ev_var rfl) (ev_var rfl) hdA)) (fun hc Hb eb => ?_) (fun hc Hb eb => ?_)
          · rw [Bool.and_eq_true, decide_eq_true_eq, Bool.not_eq_true', decide_eq_false_iff_not] at hc
            obtain ⟨c1, c2⟩ := hc
            have hle := hstA c1
            have hs : stands lot text place j = true := by rw [hst]; exact decide_eq_true ⟨hle, c1⟩
            have hwl := wl_of hw1
            have hadd : addN ks (place + wd.length) = ks ++ [place + wd.length] := if_neg c2
            refine q_putD (ev_var rfl) (ev_var rfl) (eb _ _ hdA) (by omega) fun Hc ec => ?_
            have xc : Exc (fun c => c = pd ∨ c = pw) Ht (upd Hc pd (.dK (DS (addN ks (place + wd.length))))) := (k1.then (ea.trans (eb.trans ec))).upd (.inl (.inl rfl))
            have hwc : (upd Hc pd (.dK (DS (addN ks (place + wd.length))))) pw = some (.lst (numV wk)) := by rw [upd_ne (Ne.symm hdw)]; exact ec _ _ (eb _ _ hwA)
            have hdc : (upd Hc pd (.dK (DS (addN ks (place + wd.length))))) pd = some (.dK (DS (addN ks (place + wd.length)))) := upd_same
            generalize upd Hc pd (.dK (DS (addN ks (place + wd.length)))) = Hd at xc hwc hdc ⊢
            have hwl2 : wk.length ≤ 2000 := by omega
            refine s_app hwc (ev_var rfl) (ev_var rfl) (by unfold numV; rw [List.length_map]; omega) fun He ee => ?_
            refine ⟨addN ks (place + wd.length), wk ++ [place + wd.length], some (T wd), some (.int ((place + wd.length : Nat) : Int)), rfl, (xc.then ee).upd (.inl (.inr rfl)), ?_, ?_, ⟨addN_nodup k4.nd, fun m hm => ?_, fun m hm => ?_, fun p hp => addN_keep (k4.has p hp), fun m hm => ?_⟩, addN_keep k5, fun p hp => ?_, ?_, fun m hm hs2 => ?_⟩
            · rw [upd_ne hdw]; exact ee _ _ hdc
            · rw [upd_same, numV_app]; rfl
            · rcases mem_addN.mp hm with z | z
              · exact k4.le m z
              · rw [z]; exact hle
            · rcases mem_addN.mp hm with z | z
              · exact k4.reach m z
              · rw [z, ← hwl]; exact .step (k4.reach place k5) hs
            · rcases List.mem_append.mp hm with z | z
              · exact addN_keep (k4.wk m z)
              · exact mem_addN.mpr (.inr (List.mem_singleton.mp z))
            · rcases mem_addN.mp hp with z | z
              · rcases k6 p z with z | z | z
                · exact .inl (List.mem_append.mpr (.inl z))
                · exact .inr (.inl z)
                · exact .inr (.inr fun m hm => addN_keep (z m hm))
              · exact .inl (List.mem_append.mpr (.inr (List.mem_singleton.mpr z)))
            · rw [hadd]
              simp only [List.length_append, List.length_cons, List.length_nil]
              omega
            · by_cases z : m = j
              · subst z
                rw [hwl]
                exact mem_addN.mpr (.inr rfl)
              · exact addN_keep (k8 m (by omega) hs2)
          · refine ⟨ks, wk, _, _, rfl, k1.then (ea.trans eb), eb _ _ hdA, eb _ _ hwA, k4, k5, k6, k7, fun m hm hs2 => ?_⟩
            by_cases z : m = j
            · subst z
              rw [hst] at hs2
              obtain ⟨z1, z2⟩ := of_decide_eq_true hs2
              rw [decide_eq_true z2, Bool.true_and, Bool.not_eq_false', decide_eq_true_eq] at hc
              rw [wl_of hw1]
              exact hc
            · exact k8 m (by omega) hs2
        · rintro Ht σ' H9 e9 ⟨ks, wk, v7, v8, rfl, k1, k2, k3, k4, k5, k6, k7, k8⟩
          refine ⟨ks, wk, _, _, _, _, rfl, (x3.then e9).trans k1, k2, k3, k4, fun p hp => ?_, by omega⟩
          rcases k6 p hp with z | z | z
          · exact .inl z
          · subst z
            exact .inr fun m hm => k8 m (stands_lt hm) hm
          · exact .inr z
    · rintro Hs σ' H' e ⟨ks, wk, v5, v6, v7, v8, rfl, j1, j2, j3, j4, j5, j6⟩
      have := j4.few
      omega
end
end K04
set_option Elab.async false
set_option linter.all false
set_option maxRecDepth 100000
set_option maxHeartbeats 4000000
namespace K04
open PySem PySem.Spec PyProof.Rows L2 Evl Wc Wt Wg _root_.Wd
/-! ### things of any kind -/
mutual
inductive Dh (H : Hp) : V → PyData → Prop
  | non : Dh H .non .none
  | bl (b : Bool) : Dh H (.bl b) (.bool b)
  | int (i : Int) : Dh H (.int i) (.int i)
  | str (x : Str) : Dh H (.str x) (.str x)
  | lst {a : Addr} {xs : List V} {ds : List PyData} : H a = some (.lst xs) → DhAll H xs ds → Dh H (.ref a) (.list ds)
  | tup {a : Addr} {xs : List V} {ds : List PyData} : H a = some (.tup xs) → DhAll H xs ds → Dh H (.ref a) (.tuple ds)
inductive DhAll (H : Hp) : List V → List PyData → Prop
  | nil : DhAll H [] []
  | cons {v : V} {vs : List V} {d : PyData} {ds : List PyData} : Dh H v d → DhAll H vs ds → DhAll H (v :: vs) (d :: ds)
end
mutual
theorem Dh.ex {H H1 : Hp} (e : Ex H H1) : ∀ {v : V} {d : PyData}, Dh H v d → Dh H1 v d
  | _, _, .non => .non
  | _, _, .bl b => .bl b
  | _, _, .int i => .int i
  | _, _, .str x => .str x
  | _, _, .lst h hs => .lst (e _ _ h) (DhAll.ex e hs)
  | _, _, .tup h hs => .tup (e _ _ h) (DhAll.ex e hs)
theorem DhAll.ex {H H1 : Hp} (e : Ex H H1) : ∀ {vs : List V} {ds : List PyData}, DhAll H vs ds → DhAll H1 vs ds
  | _, _, .nil => .nil
  | _, _, .cons h hs => .cons (Dh.ex e h) (DhAll.ex e hs)
end
mutual
theorem Dh.dp {K : PySem.W.Frag} {H : Hp} : ∀ {v : V} {d : PyData}, Dh H v d → Dp K H v d
  | _, _, .non => .non
  | _, _, .bl b => .bl b
  | _, _, .int i => .int i
  | _, _, .str x => .str x
  | _, _, .lst h hs => .lst (sq_of h) (DhAll.dp hs)
  | _, _, .tup h hs => .tup (st_of h) (DhAll.dp hs)
theorem DhAll.dp {K : PySem.W.Frag} {H : Hp} : ∀ {vs : List V} {ds : List PyData}, DhAll H vs ds → DpAll K H vs ds
  | _, _, .nil => .nil
  | _, _, .cons h hs => .cons (Dh.dp h) (DhAll.dp hs)
end
theorem DhAll.len {H : Hp} : ∀ {vs : List V} {ds : List PyData}, DhAll H vs ds → vs.length = ds.length
  | _, _, .nil => rfl
  | _, _, .cons _ h => congrArg (· + 1) (DhAll.len h)
theorem DhAll.at_ {H : Hp} : ∀ {vs : List V} {ds : List PyData} {i : Nat} {v : V}, DhAll H vs ds → vs[i]? = some v → ∃ d, ds[i]? = some d ∧ Dh H v d
  | _, _, 0, _, .cons h _, hv => by cases hv; exact ⟨_, rfl, h⟩
  | _, _, i + 1, v, .cons _ h, hv => DhAll.at_ h (i := i) hv
theorem DhAll.nums {H : Hp} (ns : List Nat) : DhAll H (numV ns) (ns.map fun (n : Nat) => PyData.int (n : Int)) := by
  induction ns with
  | nil => exact .nil
  | cons n ns ih => exact .cons (.int _) ih
theorem DhAll.app {H : Hp} : ∀ {vs ws : List V} {ds es : List PyData}, DhAll H vs ds → DhAll H ws es → DhAll H (vs ++ ws) (ds ++ es)
  | _, _, _, _, .nil, h => h
  | _, _, _, _, .cons h hs, h' => .cons h (DhAll.app hs h')
/-! ### its kind -/
def tyD : PyData → String
  | .none => "NoneType" | .bool _ => "bool" | .int _ => "int" | .str _ => "str" | .list _ => "list" | .tuple _ => "tuple" | .dict _ => "dict"
theorem Dh.ty {K : PySem.W.Frag} {H : Hp} {v : V} {d : PyData} (h : Dh H v d) : TyX K H v (.type (tyD d)) := by
  cases h with
  | non => exact .base .non
  | bl b => exact .base (.bl b)
  | int i => exact .base (.int i)
  | str x => exact .base (.str x)
  | lst h _ => exact .base (.lst h)
  | tup h _ => exact .base (.tup h)
def isL : PyData → Bool | .list _ => true | _ => false
def isI : PyData → Bool | .int _ => true | .bool _ => true | _ => false
def isB : PyData → Bool | .bool _ => true | _ => false
theorem k_l : ∀ d : PyData, (∀ kvs, d ≠ .dict kvs) → kitB (tyD d) "list" = some (isL d)
  | .none, _ => by decide +kernel | .bool _, _ => by show kitB "bool" "list" = some false; decide +kernel | .int _, _ => by show kitB "int" "list" = some false; decide +kernel | .str _, _ => by show kitB "str" "list" = some false; decide +kernel | .list _, _ => k_list_list | .tuple _, _ => by show kitB "tuple" "list" = some false; decide +kernel | .dict _, h => absurd rfl (h _)
theorem k_i : ∀ d : PyData, (∀ kvs, d ≠ .dict kvs) → kitB (tyD d) "int" = some (isI d)
  | .none, _ => by decide +kernel | .bool _, _ => k_bool_int | .int _, _ => k_int_int | .str _, _ => by show kitB "str" "int" = some false; decide +kernel | .list _, _ => by show kitB "list" "int" = some false; decide +kernel | .tuple _, _ => by show kitB "tuple" "int" = some false; decide +kernel | .dict _, h => absurd rfl (h _)
theorem k_b : ∀ d : PyData, (∀ kvs, d ≠ .dict kvs) → kitB (tyD d) "bool" = some (isB d)
  | .none, _ => by decide +kernel | .bool _, _ => k_bool_bool | .int _, _ => k_int_bool | .str _, _ => k_str_bool | .list _, _ => by show kitB "list" "bool" = some false; decide +kernel | .tuple _, _ => by show kitB "tuple" "bool" = some false; decide +kernel | .dict _, h => absurd rfl (h _)
theorem Dh.nod {H : Hp} {v : V} {d : PyData} (h : Dh H v d) : ∀ kvs, d ≠ .dict kvs := by
  cases h <;> exact fun _ z => nomatch z
section
variable {K : PySem.W.Frag} {H : Hp} {v : V} {d : PyData}
theorem rc_isL (h : Dh H v d) : RC (rIsiB K) [v, .ty "list"] H (.bl (isL d)) := rc_isi (fun H1 e => (h.ex e).ty) (k_l d h.nod)
theorem rc_isI (h : Dh H v d) : RC (rIsiB K) [v, .ty "int"] H (.bl (isI d)) := rc_isi (fun H1 e => (h.ex e).ty) (k_i d h.nod)
theorem rc_isB (h : Dh H v d) : RC (rIsiB K) [v, .ty "bool"] H (.bl (isB d)) := rc_isi (fun H1 e => (h.ex e).ty) (k_b d h.nod)
end
/-- a number in the bounds -/
def inR (a b : Int) : PyData → Bool
  | .int i => decide (a ≤ i) && decide (i ≤ b)
  | _ => false
def natD : PyData → Nat
  | .int i => i.toNat
  | _ => 0
/-- all is well with the words at p -/
def goodP (lot : List Tx) (text : Tx) (ns : List Nat) (p : Nat) : Bool := (wordsAt lot text p).all fun m => decide (p + wl lot m ∈ ns)
/-- a list of places that shows that there is no cut -/
def showsL (lot : List Tx) (text : Tx) (ds : List PyData) : Bool := ds.all (inR 0 ((text.length : Int) - 1)) && (decide ((uniq ((ds.map natD).map fun (n : Nat) => (n : Int))).length = (ds.map natD).length) && (decide (0 ∈ ds.map natD) && (ds.map natD).all (goodP lot text (ds.map natD))))
def showsD (lot : List Tx) (text : Tx) : PyData → Bool
  | .list ds => showsL lot text ds
  | _ => false
theorem in_nat {H : Hp} {b : Int} : ∀ {xs : List V} {ds : List PyData}, DhAll H xs ds → ds.all (inR 0 b) = true → xs = numV (ds.map natD) ∧ ∀ n ∈ ds.map natD, (n : Int) ≤ b
  | _, _, .nil, _ => ⟨rfl, fun n hn => nomatch hn⟩
  | _, _, .cons (v := v) (d := d) h hs, hall => by
    rw [List.all_cons, Bool.and_eq_true] at hall
    obtain ⟨h1, h2⟩ := hall
    obtain ⟨h3, h4⟩ := in_nat hs h2
    cases h with
    | int i =>
      unfold inR at h1
      rw [Bool.and_eq_true, decide_eq_true_eq, decide_eq_true_eq] at h1
      have hi : ((i.toNat : Nat) : Int) = i := Int.toNat_of_nonneg h1.1
      refine ⟨?_, fun n hn => ?_⟩
      · rw [h3]
        show V.int i :: numV _ = V.int ((i.toNat : Nat) : Int) :: numV _
        rw [hi]
      · rcases List.mem_cons.mp hn with z | z
        · rw [z]
          show ((i.toNat : Nat) : Int) ≤ b
          omega
        · exact h4 n z
    | non => cases h1
    | bl _ => cases h1
    | str _ => cases h1
    | lst _ _ => cases h1
    | tup _ _ => cases h1
theorem in_flat (ns : List Nat) : (numV ns).all flatV = true := by
  rw [List.all_eq_true]
  intro v hv
  obtain ⟨n, _, rfl⟩ := List.mem_map.mp hv
  rfl
theorem in_zero (ns : List Nat) : inV (.int 0) (numV ns) = decide (0 ∈ ns) := by
  unfold inV numV
  induction ns with
  | nil => rfl
  | cons n ns ih =>
    rw [List.map_cons, List.any_cons, ih]
    have : eqV (.int (n : Int)) (.int 0) = decide ((n : Int) = 0) := rfl
    rw [this]
    by_cases h : n = 0
    · subst h; simp
    · rw [decide_eq_false (by omega), Bool.false_or]
      exact decide_eq_decide.mpr ⟨List.mem_cons_of_mem _, fun z => (List.mem_cons.mp z).elim (fun e => absurd e.symm h) id⟩
section
variable {P : Program} {w : World} {K : PySem.W.Frag} {mg : Str → Option Value} {base : Heap}
def sp_is_integer : Sp := fun vs H Q _ => ∃ (v : V) (d : PyData), vs = [v] ∧ Dh H v d ∧ RetV (.bl (isI d && !isB d)) H Q
theorem ok_is_integer {f : Addr} {fd : FuncData} (F : Fun K "is_integer" "is_integer" st_is_integer f fd) (M : Md K mg) : FnOk P w K mg base CX0 1 f fd ["thing"] sp_is_integer := by
  have nd := sc_is_integer.nd
  refine F.ok sc_is_integer (fun vs H Q E h => ?_) (fun cdv A outer s H vs Q E hr h => ?_)
  · obtain ⟨_, _, rfl, _⟩ := h
    rfl
  · obtain ⟨v, d, rfl, hd, k⟩ := h
    refine ⟨_, (pss_one (ps_ret (pe_and (pe_callB (kcr K (r := rIsiB) cr_isi) (by rfl) M.n_isinstance boot_isinstance (pa_cons (pv 0) (pa_cons (pe_bltn (v := .ty "int") rfl M.n_int boot_int rfl) pa_nil))) (pe_one (pe_not (pe_callB (kcr K (r := rIsiB) cr_isi) (by rfl) M.n_isinstance boot_isinstance (pa_cons (pv 0) (pa_cons (pe_bltn (v := .ty "bool") rfl M.n_bool boot_bool rfl) pa_nil)))))))), ?_⟩
    exact s_ret (ev_andV (ev_cb (ea_cons (ev_var rfl) (ea_cons ev_c ea_nil)) (rc_isI hd)) fun _ => ev_notV (ev_cb (ea_cons (ev_var rfl) (ea_cons ev_c ea_nil)) (rc_isB hd))) k
def sp_is_within : Sp := fun vs H Q _ => ∃ (v : V) (d : PyData) (a b : Int), vs = [v, .int a, .int b] ∧ Dh H v d ∧ RetV (.bl (inR a b d)) H Q
theorem ok_is_within {f : Addr} {fd : FuncData} (F : Fun K "is_within" "is_within" st_is_within f fd) (M : Md K mg) (C_is_integer : Cal P w K mg base "is_integer" st_is_integer 1 ["thing"] sp_is_integer) : FnOk P w K mg base CX0 2 f fd ["thing", "least", "most"] sp_is_within := by
  have nd := sc_is_within.nd
  refine F.ok sc_is_within (fun vs H Q E h => ?_) (fun cdv A outer s H vs Q E hr h => ?_)
  · obtain ⟨_, _, _, _, rfl, _⟩ := h
    rfl
  · obtain ⟨v, d, a, b, rfl, hd, k⟩ := h
    refine ⟨_, (pss_one (ps_ret (pe_and (pe_cl C_is_integer hr (pa_cons (pv 0) pa_nil)) (pe_one (pe_chain op_le op_le (pv 1) (pv 0) (pv 2)))))), ?_⟩
    have h1 : Ev (tCall sp_is_integer [] E0 (tCons (tVar 0) tNil)) (start N_is_within [v, .int a, .int b]) H (.bl (isI d && !isB d)) := ev_call (ea_cons (ev_var rfl) ea_nil) fun H6 e6 Q6 q6 E => ⟨v, d, rfl, hd.ex e6, q6⟩
    cases hd with
    | int i => exact s_ret (ev_is (ev_andV h1 fun _ => ev_chain (ev_var rfl) (ev_var rfl) rv_I0 (ev_var rfl) rv_I0) rfl) k
    | non => exact s_ret (ev_is (ev_andV (b := false) h1 fun z => by cases z) rfl) k
    | bl _ => exact s_ret (ev_is (ev_andV (b := false) h1 fun z => by cases z) rfl) k
    | str _ => exact s_ret (ev_is (ev_andV (b := false) h1 fun z => by cases z) rfl) k
    | lst _ _ => exact s_ret (ev_is (ev_andV (b := false) h1 fun z => by cases z) rfl) k
    | tup _ _ => exact s_ret (ev_is (ev_andV (b := false) h1 fun z => by cases z) rfl) k
end
end K04
set_option Elab.async false
set_option linter.all false
set_option maxRecDepth 100000
set_option maxHeartbeats 4000000
namespace K04
open PySem PySem.Spec PyProof.Rows L2 Evl Wc Wt Wg _root_.Wd
theorem kb_no_cut_holds_2_1_0 : KB "no_cut_holds" st_no_cut_holds 0 ["lot", "text", "thing"] ["thing", "text", "lot"] sw3 sw3 := kb3 rfl (fun _ _ _ _ _ _ a b c => rfl)
theorem goodP_iff {lot : List Tx} {text : Tx} {ns : List Nat} {p : Nat} : goodP lot text ns p = true ↔ ∀ m, stands lot text p m = true → p + wl lot m ∈ ns := by
  unfold goodP
  rw [List.all_eq_true]
  exact ⟨fun h m hm => of_decide_eq_true (h m (List.mem_filter.mpr ⟨List.mem_range.mpr (stands_lt hm), hm⟩)), fun h m hm => decide_eq_true (h m (List.mem_filter.mp hm).2)⟩
theorem mem_all0 {ns : List Nat} {m : Nat} : m ∈ addAll [] ns ↔ m ∈ ns := by
  rw [mem_addAll]
  exact ⟨fun z => z.elim (fun h => nomatch h) id, .inr⟩
section
variable {K : PySem.W.Frag} {w : World} {σ : L2.St} {H : Hp} {ta : TE}
theorem q_dcN {wi : TI} {i j : Nat} {vs : List Nat} {own : Addr → Prop} {D : Ends} {tz : TS} (ns : List Nat) (hs : Src wi σ H ns.length own (fun i v _ => (ns.map fun (n : Nat) => V.int (n : Int))[i]? = some v)) (hn : ns.length ≤ 4000) (hw : ∀ x, wipe ((wipe σ vs).set j (some x)) vs = wipe σ vs) (hj : ∀ x, ((wipe σ vs).set j (some x))[j]? = some (some x))
    (k : ∀ d H2, H d = none → Ex H H2 → H2 d = some (.dK (DS (addAll [] ns))) → tz D (σ.set i (some (.ref d))) H2) : tSeq (tAsg (tDc wi (gName j) tYes (tVar j) (tC (.bl true)) vs) (gName i)) tz D σ H := dc_nums (Q := fun v H1 => tz D (σ.set i (some v)) H1) ns hs hn hw hj k
theorem q_dictP {i j l : Nat} {pp : Addr} {ns : List Nat} {D : Ends} {tz : TS} (h0 : σ[i]? = some (some (.ref pp))) (h : H pp = some (.lst (numV ns))) (hl : ns.length ≤ 4000) (hw : ∀ x, wipe ((wipe σ [j]).set j (some x)) [j] = wipe σ [j]) (hj : ∀ x, ((wipe σ [j]).set j (some x))[j]? = some (some x))
    (k : ∀ d H1, H d = none → Ex H H1 → H1 d = some (.dK (DS (addAll [] ns))) → tz D (σ.set l (some (.ref d))) H1) : tSeq (tAsg (tCB (rDictP K) (tCons (tLc (iList K (tVar i)) (gName j) tYes (tTup (tCons (tVar j) (tCons (tC (.bl true)) tNil))) [j]) tNil)) (gName l)) tz D σ H := wp_dictP (Q := fun v H1 => tz D (σ.set l (some v)) H1) h0 h hl hw hj k
/-- len(set(thing)) != len(thing) or 0 not in thing -/
theorem et_dup {i : Nat} {a : Addr} {ns : List Nat} (h0 : σ[i]? = some (some (.ref a))) (ha : H a = some (.lst (numV ns))) (hl : ns.length ≤ 500) : EvT (tOr (tTest (tOp (rI0 fun i j => .bl (!decide (i = j))) (tCB (rLenO w) (tCons (tCB (rSetN K w) (tCons (tVar i) tNil)) tNil)) (tCB (rLenS K) (tCons (tVar i) tNil)))) (tTest (tOp (rIn K true) (tC (.int 0)) (tVar i)))) σ H
    (!(decide ((uniq (ns.map fun (n : Nat) => (n : Int))).length = ns.length) && decide (0 ∈ ns))) := by
  have h1 := ev_lenSet (K := K) (w := w) (H := H) (ns := ns.map fun (n : Nat) => (n : Int)) (ev_var h0) (sq_of (show H a = some (.lst ((ns.map fun (n : Nat) => (n : Int)).map V.int)) from (by rw [num_int]; exact ha))) (by rw [List.length_map]; omega)
  have h2 : Ev (tCB (rLenS K) (tCons (tVar i) tNil)) σ H (.int (ns.length : Int)) := by
    have := ev_len (K := K) (ev_var h0) (sq_of ha)
    rw [numV, List.length_map] at this
    exact this
  refine et_is (et_or (et_test (ev_op h1 h2 rv_I0)) fun _ => et_test (ev_op ev_c (ev_var h0) (rv_niL (sq_of ha) rfl (in_flat ns)))) ?_
  rw [in_zero, Bool.not_and]
  congr 2
  exact decide_eq_decide.mpr ⟨fun z => Int.ofNat.inj z, fun z => congrArg _ z⟩
end
section
variable {P : Program} {w : World} {K : PySem.W.Frag} {mg : Str → Option Value} {base : Heap}
def sp_holds : Sp := fun vs H Q _ => ∃ (pl : Addr) (lot : List Tx) (text : Tx) (v : V) (d : PyData), vs = [.ref pl, T text, v] ∧ LotAt pl lot H ∧ text.length ≤ 400 ∧ (∀ c ∈ text, abcd c) ∧ Dh H v d ∧ (∀ ds, d = .list ds → ds.length ≤ 500) ∧ RetV (.bl (showsD lot text d)) H Q
set_option maxHeartbeats 8000000 in
theorem ok_no_cut_holds {f C : Addr} {fd : FuncData} (F : Fun K "no_cut_holds" "no_cut_holds" st_no_cut_holds f fd) (M : Md K mg) (W : WC K C) (C_need_both : Cal P w K mg base "need_both" st_need_both 5 ["lot", "text"] sp_need_both) (C_is_within : Cal P w K mg base "is_within" st_is_within 2 ["thing", "least", "most"] sp_is_within) (MK_Ways : Mak P w K mg base 2 C "Ways" (sp_Ways C)) (MT_Ways_words_at : C8.Met P w K mg base 1 C "words_at" (sp_words_at C) []) : FnOk P w K mg base CX0 6 f fd ["lot", "text", "thing"] sp_holds := by
  have nd := sc_no_cut_holds.nd
  refine F.ok sc_no_cut_holds (fun vs H Q E h => ?_) (fun cdv A outer s H vs Q E hr h => ?_)
  · obtain ⟨_, _, _, _, _, rfl, _⟩ := h
    rfl
  · obtain ⟨pl, lot, text, v, d, rfl, hLA, h1, h2, hd, h500, k⟩ := h
    refine ⟨_, (pss_cons (ps_expr (pe_cl C_need_both hr (pa_cons (pv 0) (pa_cons (pv 1) pa_nil))))
  (pss_cons (ps_if (PW.pt (pw_or (pt_not (pt_val (pe_callB (kcr K (r := rIsiB) cr_isi) (by rfl) M.n_isinstance boot_isinstance (pa_cons (pv 2) (pa_cons (pe_bltn (v := .ty "list") rfl M.n_list boot_list rfl) pa_nil))))) (pw_or1 (pt_not (pt_val (pe_callB (kcr K (r := rAll) (cr_all rfl)) (by rfl) M.n_all boot_all (pa_cons (pe_lc (own := [("place", 3)]) rfl nd (kil K (pi_list (pv 2))) (blkOk_by (N := N_no_cut_holds) (sc := defScope st_no_cut_holds) (by decide +kernel)) (fun _ _ _ _ _ => (pg_name (i := 3) nd rfl (Or.inl rfl))) (fun _ _ _ _ _ => pts_nil) (fun _ _ _ _ _ => (pe_cl C_is_within hr (pa_cons (pv 3) (pa_cons pe_int (pa_cons (pe_op op_sub (pe_callB cr_lenT (by rfl) M.n_len boot_len (pa_cons (pv 1) pa_nil)) pe_int) pa_nil)))))) pa_nil)))))))
  (pss_one (ps_ret pe_bl))
  pss_nil)
  (pss_cons (ps_if (PW.pt (pw_or (pt_cmpR op_neI (pe_callB (kLenO (w := w)) (by rfl) M.n_len boot_len (pa_cons (pe_callTy (ksetN (K := K) (w := w)) (by rfl) M.n_set boot_set (pa_cons (pv 2) pa_nil)) pa_nil)) (pe_callB (kcr K (r := rLenS) call_len_seq) (by rfl) M.n_len boot_len (pa_cons (pv 2) pa_nil)) (nomark _)) (pw_or1 (pt_cmpR (kop K (r := fun K => rIn K true) op_notIn_seq) pe_int (pv 2) (by rfl)))))
  (pss_one (ps_ret pe_bl))
  pss_nil)
  (pss_cons (ps_set (i := 4) nd rfl (Or.inr rfl) (pe_mkM MK_Ways hr (pa_cons (pv 0) (pa_cons (pv 1) pa_nil))))
  (pss_cons (ps_set (i := 5) nd rfl (Or.inr rfl) (pe_dc (own := [("place", 3)]) rfl nd (kil K (pi_list (pv 2))) (blkOk_by (N := N_no_cut_holds) (sc := defScope st_no_cut_holds) (by decide +kernel)) (fun _ _ _ _ _ => (pg_name (i := 3) nd rfl (Or.inl rfl))) (fun _ _ _ _ _ => pts_nil) (fun _ _ _ _ _ => (pv 3)) (fun _ _ _ _ _ => pe_bl)))
  (pss_one (ps_ret (pe_callB (kcr K (r := rAll) (cr_all rfl)) (by rfl) M.n_all boot_all (pa_cons (pe_lc2 (own := [("place", 3), ("index", 6)]) (vs1 := [6]) rfl nd (kil K (pi_list (pv 2))) (blkOk_by (N := N_no_cut_holds) (sc := defScope st_no_cut_holds) (by decide +kernel)) (by decide) (fun _ _ _ _ _ => (pg_name (i := 3) nd rfl (Or.inl rfl))) (fun _ _ _ _ _ => pts_nil) (fun _ _ _ _ _ => (kil K (pi_list (C8.pe_mt MT_Ways_words_at hr (by decide) (pv 4) (pa_cons (pv 3) pa_nil))))) (fun _ _ _ _ _ => (pg_name (i := 6) nd rfl (Or.inl rfl))) (fun _ _ _ _ _ => pts_nil) (fun _ _ _ _ _ => (pe_cmp (pc_din (hu1 hr.units) (pe_op op_add (pv 3) (pe_callB cr_lenT (by rfl) M.n_len boot_len (pa_cons (pe_ix (kix K (r := L2.rIxT) ix_tup) (pv 0) (pv 6) (fun _ _ => rfl)) pa_nil))) (pv 5)) rfl))) pa_nil))))))))), ?_⟩
    have hL := hLA.2
    have hfew := hL.few
    have lenT : ∀ {σ : L2.St} {H' : Hp}, σ[1]? = some (some (T text)) → Ev (tCB rLenT (tCons (tVar 1) tNil)) σ H' (.int (text.length : Int)) := fun h0 => ev_cb (ea_cons (ev_var h0) ea_nil) (rc_lenT (by omega))
    refine q_drop (ev_call (ea_cons (ev_var rfl) (ea_cons (ev_var rfl) ea_nil)) fun H1 e1 Q q E => ⟨pl, lot, text, rfl, hLA.ex e1, h1, h2, q⟩) fun H1 e1 => ?_
    have hLB := hLA.ex e1
    have hd1 := hd.ex e1
    have isl : Ev (tCB (rIsiB K) (tCons (tVar 2) (tCons (tC (.ty "list")) tNil))) (start N_no_cut_holds [.ref pl, T text, v]) H1 (.bl (isL d)) := ev_cb (ea_cons (ev_var rfl) (ea_cons ev_c ea_nil)) (rc_isL hd1)
    clear hd
    cases hd1 with
    | lst ha hs =>
      rename_i a xs ds
      have hds := h500 ds rfl
      have hxl := hs.len
      have hall : EvL (tLc (iList K (tVar 2)) (gName 3) tYes (tCall sp_is_within [] E0 (tCons (tVar 3) (tCons (tC (.int 0)) (tCons (tOp (rI0 fun i j => .int (i - j)) (tCB rLenT (tCons (tVar 1) tNil)) (tC (.int 1))) tNil)))) [3]) (start N_no_cut_holds [.ref pl, T text, .ref a]) H1 ((ds.map (inR 0 ((text.length : Int) - 1))).map V.bl) := by
        have h0 := el_lcX (wi := iList K (tVar 2)) (j := 3) (vs := [3]) (te := tCall sp_is_within [] E0 (tCons (tVar 3) (tCons (tC (.int 0)) (tCons (tOp (rI0 fun i j => .int (i - j)) (tCB rLenT (tCons (tVar 1) tNil)) (tC (.int 1))) tNil)))) (t := tYes) (σ := start N_no_cut_holds [.ref pl, T text, .ref a]) (H := H1) (p := fun _ => true) (g := fun d => V.bl (inR 0 ((text.length : Int) - 1) d)) ds (fun d x _ => Dh H1 x d) (src_list (ev_var rfl : Ev (tVar 2) (start N_no_cut_holds [.ref pl, T text, .ref a]) H1 (.ref a)) (sq_of ha)) (by omega) (fun _ => rfl) hxl.symm (fun i x H2 hx => hs.at_ hx) (fun _ _ _ _ _ _ => et_yes) (fun d x H2 e2 hm hR _ => ev_call (ea_cons (ev_var rfl) (ea_cons ev_c (ea_cons (ev_op (lenT rfl) ev_c rv_I0) ea_nil))) fun H6 e6 Q6 q6 E => ⟨x, d, 0, (text.length : Int) - 1, rfl, (hR.ex e2).ex e6, q6⟩)
        rw [List.filter_eq_self.mpr (fun _ _ => rfl)] at h0
        rw [List.map_map]
        exact h0
      have hev : Ev (tCB (rAll K) (tCons (tLc (iList K (tVar 2)) (gName 3) tYes (tCall sp_is_within [] E0 (tCons (tVar 3) (tCons (tC (.int 0)) (tCons (tOp (rI0 fun i j => .int (i - j)) (tCB rLenT (tCons (tVar 1) tNil)) (tC (.int 1))) tNil)))) [3]) tNil)) (start N_no_cut_holds [.ref pl, T text, .ref a]) H1 (.bl (ds.all (inR 0 ((text.length : Int) - 1)))) :=
        ev_is (ev_cbL hall fun p H2 hp e2 => rc_all (sq_of hp)) (by rw [List.all_map]; rfl)
      refine q_when (b := !(ds.all (inR 0 ((text.length : Int) - 1)))) (et_is (et_or (et_not (et_B isl)) fun _ => et_not (et_B hev)) (by show (!true || _) = _; rfl)) (fun hb H2 e2 => ?_) (fun hb H2 e2 => ?_)
      · rw [Bool.not_eq_true'] at hb
        have : showsD lot text (.list ds) = false := by
          show showsL lot text ds = false
          unfold showsL
          rw [hb, Bool.false_and]
        rw [this] at k
        exact s_ret ev_c fun H3 e3 => k H3 (e1.trans (e2.trans e3))
      · rw [Bool.not_eq_false'] at hb
        obtain ⟨hx, hle⟩ := in_nat hs hb
        subst hx
        have hval : showsD lot text (.list ds) = (decide ((uniq ((ds.map natD).map fun (n : Nat) => (n : Int))).length = (ds.map natD).length) && (decide (0 ∈ ds.map natD) && (ds.map natD).all (goodP lot text (ds.map natD)))) := by
          show showsL lot text ds = _
          unfold showsL
          rw [hb, Bool.true_and]
        rw [hval] at k
        clear hval hall hev hb hs isl
        have hnl : (ds.map natD).length ≤ 500 := by rw [List.length_map]; exact hds
        generalize ds.map natD = ns at ha hle k hnl
        have ha2 := e2 _ _ ha
        refine q_when (et_dup rfl ha2 hnl) (fun hb H3 e3 => ?_) (fun hb H3 e3 => ?_)
        · rw [Bool.not_eq_true'] at hb
          rw [← Bool.and_assoc, hb, Bool.false_and] at k
          exact s_ret ev_c fun H4 e4 => k H4 (e1.trans (e2.trans (e3.trans e4)))
        · rw [Bool.not_eq_false'] at hb
          rw [← Bool.and_assoc, hb, Bool.true_and] at k
          have e13 := e1.trans (e2.trans e3)
          refine q_ways (ea_cons (ev_var rfl) (ea_cons (ev_var rfl) ea_nil)) (hLA.ex e13) h1 h2 fun x fs H4 e4 W4 => ?_
          have ha4 := e4 _ _ (e3 _ _ ha2)
          show tSeq _ _ _ [some (.ref pl), some (T text), some (.ref a), none, some (.ref x), none, none] H4
          refine q_dcN ns (src_listM (f := fun (n : Nat) => V.int (n : Int)) (ev_var rfl) (sq_of ha4)) (by omega) (fun _ => rfl) (fun _ => rfl) fun pd H5 hpd e5 hd5 => ?_
          have W5 := W4.ex e5
          have ha5 := e5 _ _ ha4
          show tRet _ _ [some (.ref pl), some (T text), some (.ref a), none, some (.ref x), some (.ref pd), none] H5
          have hlc : EvL (tLc2 (iList K (tVar 2)) (gName 3) tYes (iList K (tMeth C "words_at" (sp_words_at C) [] E0 (tVar 4) (tCons (tVar 3) tNil))) (gName 6) tYes (tDIn (tOp (rI0 fun i j => .int (i + j)) (tVar 3) (tCB rLenT (tCons (tOp (L2.rIxT K) (tVar 0) (tVar 6)) tNil))) (tVar 5)) [3, 6] [6]) [some (.ref pl), some (T text), some (.ref a), none, some (.ref x), some (.ref pd), none] H5 (ns.flatMap fun p => (wordsAt lot text p).map fun m => V.bl (decide (p + wl lot m ∈ addAll [] ns))) := by
            refine el_lc2 (f := fun (n : Nat) => V.int (n : Int)) (h := fun (n : Nat) => V.int (n : Int)) (own1 := fun _ _ => False) ns (wordsAt lot text) (src_listM (f := fun (n : Nat) => V.int (n : Int)) (ev_var rfl) (sq_of ha5)) (fun p H6 e6 hp => src_newLM (el_words (place := p) (W5.ex e6).w rfl rfl)) (fun _ _ z => z.elim) ?_ (fun _ => rfl) (fun _ _ => rfl) (fun p m H6 e6 hp hm => ?_)
            · have := sum_bound (l := ns) (f := fun p => (wordsAt lot text p).length) (B := 12) fun p _ => Nat.le_trans (wordsAt_len lot text p) hfew
              omega
            · have hw := word_pos hL.ps hm
              have hw1 : lot[m]? = some lot[m] := List.getElem?_eq_getElem hw.2.2
              have hlw : lot[m].length ≤ 12 := (hL.wd _ (List.getElem_mem hw.2.2)).1
              rw [wl_of hw1]
              exact ev_inD (n := p + lot[m].length) (ev_op (ev_var rfl) (ev_cb (ea_cons (ev_op (ev_var rfl) (ev_var rfl) (rv_ixT (st_of ((e13.trans (e4.trans (e5.trans e6))) _ _ hLA.1)) (atI_nat (by rw [List.getElem?_map, hw1]; rfl)))) ea_nil) (rc_lenT (by omega))) rv_I0) (ev_var rfl) (e6 _ _ hd5)
          have hbs : (ns.flatMap fun p => (wordsAt lot text p).map fun m => V.bl (decide (p + wl lot m ∈ addAll [] ns))) = (ns.flatMap fun p => (wordsAt lot text p).map fun m => decide (p + wl lot m ∈ addAll [] ns)).map V.bl := by
            rw [List.map_flatMap]
            refine flatMap_same fun p _ => ?_
            rw [List.map_map]
            rfl
          rw [hbs] at hlc
          have hgo : (ns.flatMap fun p => (wordsAt lot text p).map fun m => decide (p + wl lot m ∈ addAll [] ns)).all id = ns.all (goodP lot text ns) := by
            rw [List.all_flatMap]
            refine congrArg (fun f => ns.all f) (funext fun p => ?_)
            unfold goodP
            rw [List.all_map]
            refine congrArg (fun f => (wordsAt lot text p).all f) (funext fun m => ?_)
            exact decide_eq_decide.mpr mem_all0
          refine s_ret (ev_is (ev_cbL hlc fun p H6 hp e6 => rc_all (sq_of hp)) (by rw [hgo])) fun H6 e6 => k H6 (e13.trans (e4.trans (e5.trans e6)))
    | _ =>
      refine q_when (b := true) (et_is (et_or (b := false) (et_not (et_B isl)) fun z => by cases z) rfl) (fun _ H2 e2 => ?_) (fun z => by cases z)
      exact s_ret ev_c fun H3 e3 => k H3 (e1.trans (e2.trans e3))
end
end K04
set_option Elab.async false
set_option linter.all false
set_option maxRecDepth 100000
set_option maxHeartbeats 4000000
namespace K04
open PySem PySem.Spec PyProof.Rows L2 Evl Wc Wt Wg _root_.Wd
section
variable {P : Program} {w : World} {K : PySem.W.Frag} {mg : Str → Option Value} {base : Heap}
def sp_shows : Sp := fun vs H Q _ => ∃ (pl : Addr) (lot : List Tx) (text : Tx) (v : V) (d : PyData), vs = [.ref pl, T text, v] ∧ LotAt pl lot H ∧ text.length ≤ 400 ∧ Dh H v d ∧ (∀ ds, d = .list ds → ds.length ≤ 500) ∧ RetV (.bl (showsD lot text d)) H Q
set_option maxHeartbeats 8000000 in
theorem ok__law_shows {f : Addr} {fd : FuncData} (F : Fun K "_law_shows" "_law_shows" st__law_shows f fd) (M : Md K mg) : FnOk P w K mg base CX0 1 f fd ["lot", "text", "thing"] sp_shows := by
  have nd := sc__law_shows.nd
  refine F.ok sc__law_shows (fun vs H Q E h => ?_) (fun cdv A outer s H vs Q E hr h => ?_)
  · obtain ⟨_, _, _, _, _, rfl, _⟩ := h
    rfl
  · obtain ⟨pl, lot, text, v, d, rfl, hLA, h1, hd, h500, k⟩ := h
    refine ⟨_, (pss_cons (ps_if (pt_not (pt_val (pe_callB (kcr K (r := rIsiB) cr_isi) (by rfl) M.n_isinstance boot_isinstance (pa_cons (pv 2) (pa_cons (pe_bltn (v := .ty "list") rfl M.n_list boot_list rfl) pa_nil)))))
  (pss_one (ps_ret pe_bl))
  pss_nil)
  (pss_cons (ps_for PassesOwn.never rfl (kil K (pi_list (pv 2))) (pg_name (i := 3) nd rfl (Or.inl rfl))
  (pss_one (ps_if (PW.pt (pw_or (pt_not (pt_val (pe_callB (kcr K (r := rIsiB) cr_isi) (by rfl) M.n_isinstance boot_isinstance (pa_cons (pv 3) (pa_cons (pe_bltn (v := .ty "int") rfl M.n_int boot_int rfl) pa_nil))))) (pw_or (pt_val (pe_callB (kcr K (r := rIsiB) cr_isi) (by rfl) M.n_isinstance boot_isinstance (pa_cons (pv 3) (pa_cons (pe_bltn (v := .ty "bool") rfl M.n_bool boot_bool rfl) pa_nil)))) (pw_or1 (pt_not (pt_chain op_le op_lt pe_int (pv 3) (pe_callB cr_lenT (by rfl) M.n_len boot_len (pa_cons (pv 1) pa_nil))))))))
  (pss_one (ps_ret pe_bl))
  pss_nil)))
  (pss_cons (ps_if (PW.pt (pw_or (pt_cmpR op_neI (pe_callB (kLenO (w := w)) (by rfl) M.n_len boot_len (pa_cons (pe_callTy (ksetN (K := K) (w := w)) (by rfl) M.n_set boot_set (pa_cons (pv 2) pa_nil)) pa_nil)) (pe_callB (kcr K (r := rLenS) call_len_seq) (by rfl) M.n_len boot_len (pa_cons (pv 2) pa_nil)) (nomark _)) (pw_or1 (pt_cmpR (kop K (r := fun K => rIn K true) op_notIn_seq) pe_int (pv 2) (by rfl)))))
  (pss_one (ps_ret pe_bl))
  pss_nil)
  (pss_cons (ps_set (i := 4) nd rfl (Or.inl rfl) (pe_callTy (kDictP (K := K)) (by rfl) M.n_dict boot_dict (pa_cons (pe_lc (own := [("place", 3)]) rfl nd (kil K (pi_list (pv 2))) (blkOk_by (N := N__law_shows) (sc := defScope st__law_shows) (by decide +kernel)) (fun _ _ _ _ _ => (pg_name (i := 3) nd rfl (Or.inl rfl))) (fun _ _ _ _ _ => pts_nil) (fun _ _ _ _ _ => (pe_tup (pa_cons (pv 3) (pa_cons pe_bl pa_nil))))) pa_nil)))
  (pss_cons (ps_for PassesOwn.never rfl (kil K (pi_list (pv 2))) (pg_name (i := 3) nd rfl (Or.inl rfl))
  (pss_one (ps_for PassesOwn.never rfl (kit K (pi_tup (pv 0))) (pg_name (i := 5) nd rfl (Or.inl rfl))
  (pss_one (ps_if (PW.pt (pw_and (pt_cmpR op_eqT (pe_slice sl_T (pv 1) (po_some (pv 3)) (po_some (pe_op op_add (pv 3) (pe_callB cr_lenT (by rfl) M.n_len boot_len (pa_cons (pv 5) pa_nil))))) (pv 5) (nomark _)) (pw_and1 (pt_cmp (pc_dnotin (hu1 hr.units) (pe_op op_add (pv 3) (pe_callB cr_lenT (by rfl) M.n_len boot_len (pa_cons (pv 5) pa_nil))) (pv 4))))))
  (pss_one (ps_ret pe_bl))
  pss_nil)))))
  (pss_one (ps_ret pe_bl))))))), ?_⟩
    have hL := hLA.2
    have hfew := hL.few
    have lenT : ∀ {σ : L2.St} {H' : Hp}, σ[1]? = some (some (T text)) → Ev (tCB rLenT (tCons (tVar 1) tNil)) σ H' (.int (text.length : Int)) := fun h0 => ev_cb (ea_cons (ev_var h0) ea_nil) (rc_lenT (by omega))
    have isl : Ev (tCB (rIsiB K) (tCons (tVar 2) (tCons (tC (.ty "list")) tNil))) (start N__law_shows [.ref pl, T text, v]) H (.bl (isL d)) := ev_cb (ea_cons (ev_var rfl) (ea_cons ev_c ea_nil)) (rc_isL hd)
    cases hd with
    | lst ha hs =>
      rename_i a xs ds
      have hds := h500 ds rfl
      have hxl := hs.len
      refine q_when (b := false) (et_is (et_not (et_B isl)) rfl) (fun z => by cases z) (fun _ H1 e1 => ?_)
      have ha1 := e1 _ _ ha
      have hs1 := hs.ex e1
      show tSeq _ _ _ [some (.ref pl), some (T text), some (.ref a), none, none, none] H1
      refine q_search (src_list (ev_var rfl) (sq_of ha1)) (by show 3 < 6; decide) (fun i => !inR 0 ((text.length : Int) - 1) (ds.getD i .none)) (fun i x H2 e2 hi hx _ => ?_) (fun i x H2 H3 e2 hi hx e3 _ hf D' hD => ?_) (fun y H2 e2 hall => ?_)
      · obtain ⟨d, hd, hR⟩ := hs1.at_ hx
        have hR2 := hR.ex e2
        have hg : ds.getD i .none = d := by rw [List.getD_eq_getElem?_getD, hd]; rfl
        rw [hg]
        have t1 : Ev (tCB (rIsiB K) (tCons (tVar 3) (tCons (tC (.ty "int")) tNil))) [some (.ref pl), some (T text), some (.ref a), some x, none, none] H2 (.bl (isI d)) := ev_cb (ea_cons (ev_var rfl) (ea_cons ev_c ea_nil)) (rc_isI hR2)
        have t2 : Ev (tCB (rIsiB K) (tCons (tVar 3) (tCons (tC (.ty "bool")) tNil))) [some (.ref pl), some (T text), some (.ref a), some x, none, none] H2 (.bl (isB d)) := ev_cb (ea_cons (ev_var rfl) (ea_cons ev_c ea_nil)) (rc_isB hR2)
        cases hR2 with
        | int i =>
          refine et_is (et_or (et_not (et_B t1)) fun _ => et_or (et_B t2) fun _ => et_not (et_test (ev_chain ev_c (ev_var rfl) rv_I0 (lenT rfl) rv_I0))) ?_
          show (!true || (false || !(decide (0 ≤ i) && decide (i < (text.length : Int))))) = !(decide (0 ≤ i) && decide (i ≤ (text.length : Int) - 1))
          rw [decide_eq_decide.mpr (show i < (text.length : Int) ↔ i ≤ (text.length : Int) - 1 by omega)]
          rfl
        | bl b => exact et_is (et_or (et_not (et_B t1)) fun _ => et_or (b := false) (et_B t2) fun z => by cases z) rfl
        | non => exact et_is (et_or (b := false) (et_not (et_B t1)) fun z => by cases z) rfl
        | str _ => exact et_is (et_or (b := false) (et_not (et_B t1)) fun z => by cases z) rfl
        | lst _ _ => exact et_is (et_or (b := false) (et_not (et_B t1)) fun z => by cases z) rfl
        | tup _ _ => exact et_is (et_or (b := false) (et_not (et_B t1)) fun z => by cases z) rfl
      · have hf2 : inR 0 ((text.length : Int) - 1) (ds.getD i .none) = false := by rw [Bool.not_eq_true'] at hf; exact hf
        have hi' : i < ds.length := by omega
        have : showsD lot text (.list ds) = false := by
          show showsL lot text ds = false
          unfold showsL
          rw [List.all_eq_false.mpr ⟨ds[i], List.getElem_mem hi', by rw [List.getD_eq_getElem?_getD, List.getElem?_eq_getElem hi'] at hf2; exact fun z => Bool.false_ne_true (hf2.symm.trans z)⟩, Bool.false_and]
        rw [this] at k
        refine s_ret ev_c fun H4 e4 => ?_
        rw [hD]
        exact k H4 (e1.trans (e2.trans (e3.trans e4)))
      · have hb : ds.all (inR 0 ((text.length : Int) - 1)) = true := by
          rw [List.all_eq_true]
          intro d hd
          obtain ⟨i, hi⟩ := List.mem_iff_getElem?.mp hd
          have := hall i (by have := (List.getElem?_eq_some_iff.mp hi).1; omega)
          rw [List.getD_eq_getElem?_getD, hi, Bool.not_eq_false'] at this
          exact this
        obtain ⟨hx, hle⟩ := in_nat hs1 hb
        subst hx
        have hval : showsD lot text (.list ds) = (decide ((uniq ((ds.map natD).map fun (n : Nat) => (n : Int))).length = (ds.map natD).length) && (decide (0 ∈ ds.map natD) && (ds.map natD).all (goodP lot text (ds.map natD)))) := by
          show showsL lot text ds = _
          unfold showsL
          rw [hb, Bool.true_and]
        rw [hval] at k
        clear hval hall hb hs hs1 isl ha
        have hnl : (ds.map natD).length ≤ 500 := by rw [List.length_map]; exact hds
        generalize ds.map natD = ns at ha1 hle k hnl
        have ha2 := e2 _ _ ha1
        show tSeq _ _ _ [some (.ref pl), some (T text), some (.ref a), y, none, none] H2
        refine q_when (et_dup rfl ha2 hnl) (fun hb H3 e3 => ?_) (fun hb H3 e3 => ?_)
        · rw [Bool.not_eq_true'] at hb
          rw [← Bool.and_assoc, hb, Bool.false_and] at k
          exact s_ret ev_c fun H4 e4 => k H4 (e1.trans (e2.trans (e3.trans e4)))
        · rw [Bool.not_eq_false'] at hb
          rw [← Bool.and_assoc, hb, Bool.true_and] at k
          have e13 := e1.trans (e2.trans e3)
          refine q_dictP rfl (e3 _ _ ha2) (by omega) (fun _ => rfl) (fun _ => rfl) fun pd H4 hpd e4 hd4 => ?_
          have ha4 := e4 _ _ (e3 _ _ ha2)
          have e14 := e13.trans e4
          show tSeq _ _ _ [some (.ref pl), some (T text), some (.ref a), y, some (.ref pd), none] H4
          refine q_forW (fun _ => False) (src_listM (f := fun (n : Nat) => V.int (n : Int)) (xs := ns) (ev_var rfl) (sq_of ha4)) (fun _ z => z.elim)
            (fun Hs i σ' H' => ∃ (v3 v5 : Option V), σ' = [some (.ref pl), some (T text), some (.ref a), v3, some (.ref pd), v5] ∧ Ex Hs H' ∧ ∀ t p, t < i → ns[t]? = some p → goodP lot text ns p = true) ?_ ?_ ?_ ?_ ?_
          · intro Hs e
            exact ⟨_, _, rfl, Ex.refl _, fun t p ht => absurd ht (by omega)⟩
          · rintro Hs i σ' H' ⟨_, _, _, z, _⟩
            exact .of z
          · rintro Hs i σ' Ha Hb ⟨v3, v5, z0, z1, z2⟩ e
            exact ⟨v3, v5, z0, z1.trans e, z2⟩
          · rintro Hs i z σ' H' e hi ⟨v3, v5, rfl, z1, z2⟩ hy
            obtain ⟨p, hp, rfl⟩ := at_map hy
            have hpm := List.mem_of_getElem? hp
            have hple := hle p hpm
            have eS := e.trans z1
            show tFor _ _ _ _ [some (.ref pl), some (T text), some (.ref a), some (.int (p : Int)), some (.ref pd), v5] H'
            refine s_forW (fun _ => False) (src_tupM (f := T) (xs := lot) (ev_var rfl) (st_of ((e14.trans eS) _ _ hLA.1))) (fun _ z => z.elim)
              (fun Ht j σ' H9 => ∃ (v5 : Option V), σ' = [some (.ref pl), some (T text), some (.ref a), some (.int (p : Int)), some (.ref pd), v5] ∧ Ex Ht H9 ∧ ∀ m, m < j → stands lot text p m = true → p + wl lot m ∈ ns) ?_ ?_ ?_ ?_ ?_
            · intro Ht e9
              exact ⟨_, rfl, Ex.refl _, fun m hm => absurd hm (by omega)⟩
            · rintro Ht j σ' H9 ⟨_, _, y1, _⟩
              exact .of y1
            · rintro Ht j σ' Ha Hb ⟨v5, y0, y1, y2⟩ e
              exact ⟨v5, y0, y1.trans e, y2⟩
            · rintro Ht j y σ' H9 e9 hj ⟨v5, rfl, y1, y2⟩ hy
              obtain ⟨wd, hw1, rfl⟩ := at_map hy
              have hwm := List.mem_of_getElem? hw1
              have hlw : wd.length ≤ 12 := (hL.wd wd hwm).1
              have hst : stands lot text p j = decide (p + wd.length ≤ text.length ∧ StAt text wd p) := by
                unfold stands
                rw [hw1]
              have hstA : StAt text wd p → p + wd.length ≤ text.length := fun z => by
                have h4 : (text.drop p).take wd.length = wd := z
                have := congrArg List.length h4
                rw [List.length_take, List.length_drop] at this
                omega
              have eU := eS.trans (e9.trans y1)
              have hend : ∀ {H' : Hp}, Ev (tOp (rI0 fun i j => .int (i + j)) (tVar 3) (tCB rLenT (tCons (tVar 5) tNil))) [some (.ref pl), some (T text), some (.ref a), some (.int (p : Int)), some (.ref pd), some (T wd)] H' (.int ((p + wd.length : Nat) : Int)) := ev_op (ev_var rfl) (ev_cb (ea_cons (ev_var rfl) ea_nil) (rc_lenT (by omega))) rv_I0
              show tIfS _ _ _ _ [some (.ref pl), some (T text), some (.ref a), some (.int (p : Int)), some (.ref pd), some (T wd)] H9
              refine s_when (b := decide (StAt text wd p) && !decide (p + wd.length ∈ ns)) (et_and (et_is (et_test (ev_op (ev_slT (ev_var rfl) (eo_some (ev_var rfl)) (eo_some hend) (by omega)) (ev_var rfl) rv_eqT)) (by rw [cutT_mid, Nat.add_sub_cancel_left])) fun _ => et_is (et_B (ev_notinD hend (ev_var rfl) (eU _ _ hd4))) (by rw [decide_eq_decide.mpr mem_all0])) (fun hc Hb eb => ?_) (fun hc Hb eb => ?_)
              · rw [Bool.and_eq_true, decide_eq_true_eq, Bool.not_eq_true', decide_eq_false_iff_not] at hc
                have hs : stands lot text p j = true := by rw [hst]; exact decide_eq_true ⟨hstA hc.1, hc.1⟩
                have hbad : ns.all (goodP lot text ns) = false := List.all_eq_false.mpr ⟨p, hpm, fun z => hc.2 (by
                  have := goodP_iff.mp z j hs
                  rw [wl_of hw1] at this
                  exact this)⟩
                rw [hbad] at k
                exact s_ret ev_c fun H6 e6 => k H6 (e14.trans (eU.trans (eb.trans e6)))
              · refine ⟨_, rfl, y1.trans eb, fun m hm hs2 => ?_⟩
                by_cases z : m = j
                · subst z
                  rw [hst] at hs2
                  obtain ⟨q1, q2⟩ := of_decide_eq_true hs2
                  rw [decide_eq_true q2, Bool.true_and, Bool.not_eq_false', decide_eq_true_eq] at hc
                  rw [wl_of hw1]
                  exact hc
                · exact y2 m (by omega) hs2
            · rintro Ht σ' H9 e9 ⟨v5, rfl, y1, y2⟩
              refine ⟨_, _, rfl, z1.trans (e9.trans y1), fun t p' ht hp' => ?_⟩
              by_cases z : t = i
              · subst z
                rw [hp] at hp'
                cases hp'
                exact goodP_iff.mpr fun m hm => y2 m (stands_lt hm) hm
              · exact z2 t p' (by omega) hp'
          · rintro Hs σ' H' e ⟨v3, v5, rfl, z1, z2⟩
            have hgood : ns.all (goodP lot text ns) = true := by
              rw [List.all_eq_true]
              intro p hp
              obtain ⟨t, ht⟩ := List.mem_iff_getElem?.mp hp
              exact z2 t p (List.getElem?_eq_some_iff.mp ht).1 ht
            rw [hgood] at k
            exact s_ret ev_c fun H6 e6 => k H6 (e14.trans (e.trans (z1.trans e6)))
    | _ =>
      refine q_when (b := true) (et_is (et_not (et_B isl)) rfl) (fun _ H2 e2 => ?_) (fun z => by cases z)
      exact s_ret ev_c fun H3 e3 => k H3 (e2.trans e3)
end
end K04
set_option Elab.async false
set_option linter.all false
set_option maxRecDepth 100000
set_option maxHeartbeats 4000000
namespace K04
open PySem PySem.Spec PyProof.Rows L2 Evl Wc Wt Wg _root_.Wd
/-! ### heaps without some objects -/
open Classical in
noncomputable def hide (B : Addr → Prop) (H : Hp) : Hp := fun b => if B b then none else H b
theorem hide_at {B : Addr → Prop} {H : Hp} {a : Addr} {o : HO} (h : H a = some o) (hb : ¬ B a) : hide B H a = some o := by unfold hide; rw [if_neg hb]; exact h
theorem hide_ex {B : Addr → Prop} {H H' : Hp} (x : Exc B H H') : Ex (hide B H) (hide B H') := fun b o hb => by
  unfold hide at hb ⊢
  by_cases h : B b
  · rw [if_pos h] at hb; cases hb
  · rw [if_neg h] at hb ⊢; exact x _ _ h hb
theorem hide_less {B B' : Addr → Prop} (h : ∀ b, B' b → B b) (H : Hp) : Ex (hide B H) (hide B' H) := fun b o hb => by
  unfold hide at hb ⊢
  by_cases z : B b
  · rw [if_pos z] at hb; cases hb
  · rw [if_neg z] at hb; rw [if_neg fun y => z (h b y)]; exact hb
theorem hide_sub {B : Addr → Prop} (H : Hp) : Ex (hide B H) H := fun b o hb => by
  unfold hide at hb
  by_cases z : B b
  · rw [if_pos z] at hb; cases hb
  · rw [if_neg z] at hb; exact hb
/-! ### small data -/
structure Elt (d : PyData) : Prop where
  few : ∀ ds, d = .list ds → ds.length ≤ 500
  sh : d.showable = true
  nd : d.hasDict = false
  dp : d.depth ≤ 10
  ln : d.shown.length ≤ 10000
structure Fine (d : PyData) : Prop where
  few : ∀ ds, d = .list ds → ds.length ≤ 500
  sh : d.showable = true
  nd : d.hasDict = false
  dp : d.depth ≤ 50
  ln : d.shown.length ≤ sizeLine
theorem Elt.fine {d : PyData} (h : Elt d) : Fine d := ⟨h.few, h.sh, h.nd, Nat.le_trans h.dp (by decide), Nat.le_trans h.ln (by decide)⟩
theorem all_of {B : Nat} : ∀ {ds : List PyData}, (∀ d ∈ ds, Elt d) → (∀ d ∈ ds, d.shown.length ≤ B) → PyData.showableAll ds = true ∧ PyData.hasDictAll ds = false ∧ PyData.depthAll ds ≤ 10 ∧ ((PyData.shownAll ds).map (·.length)).sum ≤ ds.length * B ∧ (PyData.shownAll ds).length = ds.length
  | [], _, _ => ⟨rfl, rfl, Nat.zero_le _, Nat.zero_le _, rfl⟩
  | d :: ds, h, hb => by
    obtain ⟨h1, h2, h3, h4, h5⟩ := all_of (ds := ds) (fun e he => h e (List.mem_cons_of_mem _ he)) (fun e he => hb e (List.mem_cons_of_mem _ he))
    have g := h d List.mem_cons_self
    have gb := hb d List.mem_cons_self
    refine ⟨?_, ?_, ?_, ?_, ?_⟩
    · rw [PyData.showableAll, g.sh, h1]; rfl
    · rw [PyData.hasDictAll, g.nd, h2]; rfl
    · rw [PyData.depthAll]; exact Nat.max_le.mpr ⟨g.dp, h3⟩
    · rw [PyData.shownAll, List.map_cons, List.sum_cons, List.length_cons, Nat.succ_mul]
      omega
    · rw [PyData.shownAll, List.length_cons, List.length_cons, h5]
theorem fine_list {ds : List PyData} (h : ∀ d ∈ ds, Elt d) (hl : ds.length ≤ 450) : Fine (.list ds) := by
  obtain ⟨h1, h2, h3, h4, h5⟩ := all_of h fun d hd => (h d hd).ln
  refine ⟨fun es he => by cases he; omega, ?_, ?_, ?_, ?_⟩
  · rw [PyData.showable]; exact h1
  · rw [PyData.hasDict]; exact h2
  · rw [PyData.depth]; omega
  · rw [PyData.shown]
    refine Nat.le_trans (PySem.listText_len_le _) ?_
    rw [h5]
    unfold sizeLine
    omega
theorem fine_tuple {ds : List PyData} (h : ∀ d ∈ ds, Elt d) (hl : ds.length ≤ 450) : Fine (.tuple ds) := by
  obtain ⟨h1, h2, h3, h4, h5⟩ := all_of h fun d hd => (h d hd).ln
  refine ⟨(fun es he => nomatch he), ?_, ?_, ?_, ?_⟩
  · rw [PyData.showable]; exact h1
  · rw [PyData.hasDict]; exact h2
  · rw [PyData.depth]; omega
  · rw [PyData.shown]
    refine Nat.le_trans (PySem.tupleText_len_le _) ?_
    rw [h5]
    unfold sizeLine
    omega
theorem int_small : ∀ n < 502, (PyData.shown (.int ((n : Nat) - 1 : Int))).length ≤ 4 ∧ PyData.showable (.int ((n : Nat) - 1 : Int)) = true := by decide +kernel
theorem elt_int {i : Int} (h1 : -1 ≤ i) (h2 : i ≤ 500) : Elt (.int i) ∧ (PyData.shown (.int i)).length ≤ 4 := by
  obtain ⟨n, hn⟩ := Int.eq_ofNat_of_zero_le (show 0 ≤ i + 1 by omega)
  obtain ⟨g1, g2⟩ := int_small n (by omega)
  have e : ((n : Nat) : Int) - 1 = i := by omega
  rw [e] at g1 g2
  exact ⟨⟨(fun _ z => nomatch z), g2, rfl, Nat.zero_le _, Nat.le_trans g1 (by decide)⟩, g1⟩
theorem int_big : ∀ n < 402, (PyData.shown (.int (((n : Nat) : Int) + 10 ^ 20))).length ≤ 30 ∧ PyData.showable (.int (((n : Nat) : Int) + 10 ^ 20)) = true := by decide +kernel
theorem elt_big {n : Nat} (h : n < 402) : Elt (.int ((n : Int) + 10 ^ 20)) := by
  obtain ⟨g1, g2⟩ := int_big n h
  exact ⟨(fun _ z => nomatch z), g2, rfl, Nat.zero_le _, Nat.le_trans g1 (by decide)⟩
theorem str_small : ∀ n < 502, (PyData.shown (.str (toString ((n : Nat) : Int)))).length ≤ 10 := by decide +kernel
theorem elt_str {n : Nat} (h : n < 502) : Elt (.str (toString ((n : Nat) : Int))) := ⟨(fun _ z => nomatch z), rfl, rfl, Nat.zero_le _, Nat.le_trans (str_small n h) (by decide)⟩
theorem elt_none : Elt .none := ⟨(fun _ z => nomatch z), rfl, rfl, Nat.zero_le _, by decide +kernel⟩
theorem elt_bool (b : Bool) : Elt (.bool b) := ⟨(fun _ z => nomatch z), rfl, rfl, Nat.zero_le _, by cases b <;> decide +kernel⟩
theorem elt_s0 : Elt (.str (SX.S [48])) := ⟨(fun _ z => nomatch z), rfl, rfl, Nat.zero_le _, by decide +kernel⟩
/-- a list of small numbers, as an item -/
theorem elt_list {ds : List PyData} (h : ∀ d ∈ ds, ∃ i : Int, d = .int i ∧ -1 ≤ i ∧ i ≤ 500) (hl : ds.length ≤ 450) : Elt (.list ds) := by
  have he : ∀ d ∈ ds, Elt d := fun d hd => by
    obtain ⟨i, rfl, h1, h2⟩ := h d hd
    exact (elt_int h1 h2).1
  obtain ⟨h1, h2, h3, h4, h5⟩ := all_of (B := 4) he fun d hd => by
    obtain ⟨i, rfl, h1, h2⟩ := h d hd
    exact (elt_int h1 h2).2
  refine ⟨fun es hs => by cases hs; omega, ?_, ?_, ?_, ?_⟩
  · rw [PyData.showable]; exact h1
  · rw [PyData.hasDict]; exact h2
  · have h30 : PyData.depthAll ds = 0 := by
      clear h1 h2 h3 h4 h5 he hl
      induction ds with
      | nil => rfl
      | cons d ds ih =>
        obtain ⟨i, rfl, _⟩ := h d List.mem_cons_self
        rw [PyData.depthAll, ih fun e he => h e (List.mem_cons_of_mem _ he)]
        rfl
    rw [PyData.depth, h30]
    decide
  · rw [PyData.shown]
    refine Nat.le_trans (PySem.listText_len_le _) ?_
    rw [h5]
    omega
theorem tup_small : ∀ n < 502, (PyData.shown (.tuple [.int ((n : Nat) : Int)])).length ≤ 10 ∧ PyData.showable (.tuple [.int ((n : Nat) : Int)]) = true := by decide +kernel
theorem elt_tup {n : Nat} (h : n < 502) : Elt (.tuple [.int ((n : Nat) : Int)]) := ⟨(fun _ z => nomatch z), (tup_small n h).2, rfl, Nat.le_trans (show PyData.depth (.tuple [.int ((n : Nat) : Int)]) ≤ 1 from Nat.le_refl _) (by decide), Nat.le_trans (tup_small n h).1 (by decide)⟩
/-! ### readings of such -/
def GoodL (P : PyData → Prop) (H : Hp) (vs : List V) : Prop := ∀ v ∈ vs, ∃ d, Dh H v d ∧ P d
theorem GoodL.ex {P : PyData → Prop} {H H1 : Hp} {vs : List V} (h : GoodL P H vs) (e : Ex H H1) : GoodL P H1 vs := fun v hv => by
  obtain ⟨d, hd, hp⟩ := h v hv
  exact ⟨d, hd.ex e, hp⟩
theorem GoodL.app {P : PyData → Prop} {H : Hp} {vs ws : List V} (h : GoodL P H vs) (h' : GoodL P H ws) : GoodL P H (vs ++ ws) := fun v hv => (List.mem_append.mp hv).elim (h v) (h' v)
theorem GoodL.all {H : Hp} : ∀ {vs : List V}, GoodL Elt H vs → ∃ ds, DhAll H vs ds ∧ ∀ d ∈ ds, Elt d
  | [], _ => ⟨[], .nil, fun d hd => nomatch hd⟩
  | v :: vs, h => by
    obtain ⟨d, hd, hp⟩ := h v List.mem_cons_self
    obtain ⟨ds, h1, h2⟩ := GoodL.all (vs := vs) fun u hu => h u (List.mem_cons_of_mem _ hu)
    exact ⟨d :: ds, .cons hd h1, fun e he => (List.mem_cons.mp he).elim (fun z => z ▸ hp) (h2 e)⟩
/-- a list of good items is a good thing -/
theorem good_list {H : Hp} {a : Addr} {vs : List V} (h : H a = some (.lst vs)) (hg : GoodL Elt H vs) (hl : vs.length ≤ 450) : ∃ d, Dh H (.ref a) d ∧ Fine d := by
  obtain ⟨ds, h1, h2⟩ := hg.all
  exact ⟨.list ds, .lst h h1, fine_list h2 (by rw [← h1.len]; exact hl)⟩
theorem good_tup {H : Hp} {a : Addr} {vs : List V} (h : H a = some (.tup vs)) (hg : GoodL Elt H vs) (hl : vs.length ≤ 450) : ∃ d, Dh H (.ref a) d ∧ Fine d := by
  obtain ⟨ds, h1, h2⟩ := hg.all
  exact ⟨.tuple ds, .tup h h1, fine_tuple h2 (by rw [← h1.len]; exact hl)⟩
/-- small numbers -/
def NumL (xs : List V) : Prop := ∀ v ∈ xs, ∃ i : Int, v = .int i ∧ -1 ≤ i ∧ i ≤ 500
theorem NumL.good {xs : List V} (h : NumL xs) (H : Hp) : GoodL Elt H xs := fun v hv => by
  obtain ⟨i, rfl, h1, h2⟩ := h v hv
  exact ⟨.int i, .int i, (elt_int h1 h2).1⟩
theorem NumL.app {xs ys : List V} (h : NumL xs) (h' : NumL ys) : NumL (xs ++ ys) := fun v hv => (List.mem_append.mp hv).elim (h v) (h' v)
theorem NumL.cut {xs : List V} (h : NumL xs) (lo hi : Option Int) : NumL (cutV xs lo hi) := fun v hv => h v (List.mem_of_mem_drop (List.mem_of_mem_take hv))
theorem NumL.one {i : Int} (h1 : -1 ≤ i) (h2 : i ≤ 500) : NumL [.int i] := fun v hv => ⟨i, List.mem_singleton.mp hv, h1, h2⟩
theorem NumL.rev {xs : List V} (h : NumL xs) : NumL xs.reverse := fun v hv => h v (List.mem_reverse.mp hv)
theorem NumL.num {ns : List Nat} (h : ∀ n ∈ ns, n ≤ 500) : NumL (numV ns) := fun v hv => by
  obtain ⟨n, hn, rfl⟩ := List.mem_map.mp hv
  exact ⟨(n : Int), rfl, by omega, by have := h n hn; omega⟩
/-- a list of small numbers as an item -/
theorem num_elt {H : Hp} {a : Addr} {xs : List V} (h : H a = some (.lst xs)) (hn : NumL xs) (hl : xs.length ≤ 450) : ∃ d, Dh H (.ref a) d ∧ Elt d := by
  obtain ⟨ds, h1, h2⟩ : ∃ ds, DhAll H xs ds ∧ ∀ d ∈ ds, ∃ i : Int, d = .int i ∧ -1 ≤ i ∧ i ≤ 500 := by
    clear h hl
    induction xs with
    | nil => exact ⟨[], .nil, fun d hd => nomatch hd⟩
    | cons v xs ih =>
      obtain ⟨i, rfl, g1, g2⟩ := hn v List.mem_cons_self
      obtain ⟨ds, h1, h2⟩ := ih fun u hu => hn u (List.mem_cons_of_mem _ hu)
      exact ⟨.int i :: ds, .cons (.int i) h1, fun d hd => (List.mem_cons.mp hd).elim (fun z => ⟨i, z, g1, g2⟩) (h2 d)⟩
  exact ⟨.list ds, .lst h h1, elt_list h2 (by rw [← h1.len]; exact hl)⟩
section
variable {K : PySem.W.Frag} {σ : L2.St} {H : Hp} {te : TE} {ta : TA} {B : Addr → Prop} {P : PyData → Prop}
/-- a reading that gives a good thing, apart from B -/
def EvG (B : Addr → Prop) (P : PyData → Prop) (te : TE) (σ : L2.St) (H : Hp) : Prop := ∀ H1, Ex H H1 → ∀ Q : VK, (∀ v d H2, Ex H1 H2 → Dh (hide B H2) v d → P d → Q v H2) → te σ H1 Q
def EvGA (B : Addr → Prop) (P : PyData → Prop) (n : Nat) (ta : TA) (σ : L2.St) (H : Hp) : Prop := ∀ H1, Ex H H1 → ∀ Q : List V → Hp → Prop, (∀ vs H2, Ex H1 H2 → GoodL P (hide B H2) vs → vs.length = n → Q vs H2) → ta σ H1 Q
theorem ega_nil : EvGA B P 0 tNil σ H := fun H1 e Q q => q [] H1 (Ex.refl _) (fun v hv => nomatch hv) rfl
theorem ega_cons {n : Nat} (h : EvG B P te σ H) (h2 : EvGA B P n ta σ H) : EvGA B P (n + 1) (tCons te ta) σ H := fun H1 e Q q =>
  h H1 e _ fun v d H2 e2 hd hp => h2 H2 (e.trans e2) _ fun vs H3 e3 hg hl => q (v :: vs) H3 (e2.trans e3) (fun u hu => (List.mem_cons.mp hu).elim (fun z => ⟨d, z ▸ hd.ex (hide_ex (.of e3)), hp⟩) (hg u)) (by rw [List.length_cons, hl])
theorem eg_v {v : V} {d : PyData} (h : Ev te σ H v) (hd : ∀ H, Dh H v d) (hp : P d) : EvG B P te σ H := fun H1 e Q q => h H1 e _ fun H2 e2 => q v d H2 e2 (hd _) hp
/-- a new list of good items -/
theorem eg_l {xs : List V} (hB : ∀ b, B b → H b ≠ none) (h : EvL te σ H xs) (hg : GoodL Elt (hide B H) xs) (hl : xs.length ≤ 450) : EvG B Fine te σ H := fun H1 e Q q => h H1 e _ fun p H2 hp e2 h2 => by
  have hpB : ¬ B p := fun z => hB p z (fresh_back e hp)
  obtain ⟨d, hd, hf⟩ := good_list (hide_at h2 hpB) (hg.ex (hide_ex (.of (e.trans e2)))) hl
  exact q (.ref p) d H2 e2 hd hf
theorem eg_u {xs : List V} (hB : ∀ b, B b → H b ≠ none) (h : EvU te σ H xs) (hg : GoodL Elt (hide B H) xs) (hl : xs.length ≤ 450) : EvG B Fine te σ H := fun H1 e Q q => h H1 e _ fun p H2 hp e2 h2 => by
  have hpB : ¬ B p := fun z => hB p z (fresh_back e hp)
  obtain ⟨d, hd, hf⟩ := good_tup (hide_at h2 hpB) (hg.ex (hide_ex (.of (e.trans e2)))) hl
  exact q (.ref p) d H2 e2 hd hf
end
end K04
set_option Elab.async false
set_option linter.all false
set_option maxRecDepth 100000
set_option maxHeartbeats 4000000
namespace K04
open PySem PySem.Spec PyProof.Rows L2 Evl Wc Wt Wg _root_.Wd
theorem q_par2 {ta tb : TE} {i j : Nat} {σ : L2.St} {H : Hp} {tz : TS} {D : Ends} (h : ta σ H fun v H1 => tb σ H1 fun w H2 => ∃ v' w', [v, w] = [v', w'] ∧ tz D ((σ.set i (some v')).set j (some w')) H2) : tSeq (tPar i j (tCons ta (tCons tb tNil))) tz D σ H := h
theorem q_forOf {K : PySem.W.Frag} {σ : L2.St} {H : Hp} {te0 : TE} {g : TG} {tb tz : TS} {D : Ends} (h : te0 σ H fun v H1 => tSeq (tFor (iList K (fun _ H' Q' => Q' v H')) g tb) tz D σ H1) : tSeq (tFor (iList K te0) g tb) tz D σ H := h
section
variable {K : PySem.W.Frag} {σ : L2.St} {H : Hp} {te : TE} {ta : TA} {B : Addr → Prop} {P : PyData → Prop}
theorem wp_lstG {n : Nat} {Q : VK} (hB : ∀ b, B b → H b ≠ none) (h : EvGA B P n ta σ H) (hn : n ≤ 1000) (k : ∀ p vs H1, H p = none → Ex H H1 → H1 p = some (.lst vs) → GoodL P (hide (fun b => B b ∨ b = p) H1) vs → vs.length = n → Q (.ref p) H1) : tLst ta σ H Q :=
  h H (Ex.refl _) _ fun vs H1 e1 hg hl => ⟨by rw [hl]; unfold sizeLine; omega, fun p hp => k p vs _ (fresh_back e1 hp) (e1.trans (Ex.new hp)) upd_same (hg.ex fun b o hb => by
    have hne : b ≠ p := fun z => by
      have := hide_sub H1 b o hb
      rw [z, hp] at this
      cases this
    unfold hide at hb ⊢
    by_cases z : B b
    · rw [if_pos z] at hb; cases hb
    · rw [if_neg z] at hb
      rw [if_neg fun y => y.elim z hne, upd_ne hne]
      exact hb) hl⟩
theorem q_lstG {n i : Nat} {D : Ends} {tz : TS} (hB : ∀ b, B b → H b ≠ none) (h : EvGA B P n ta σ H) (hn : n ≤ 1000) (k : ∀ p vs H1, H p = none → Ex H H1 → H1 p = some (.lst vs) → GoodL P (hide (fun b => B b ∨ b = p) H1) vs → vs.length = n → tz D (σ.set i (some (.ref p))) H1) : tSeq (tAsg (tLst ta) (gName i)) tz D σ H := wp_lstG (Q := fun v H1 => tz D (σ.set i (some v)) H1) hB h hn k
theorem q_catG {n i j : Nat} {ps : Addr} {vs : List V} {D : Ends} {tz : TS} (h0 : σ[j]? = some (some (.ref ps))) (hps : H ps = some (.lst vs)) (hv : GoodL P (hide B H) vs) (hvl : vs.length ≤ 1000) (h : EvGA B P n ta σ H) (hn : n ≤ 1000)
    (k : ∀ p ws H1, H p = none → Ex H H1 → H1 p = some (.lst (vs ++ ws)) → GoodL P (hide (fun b => B b ∨ b = p) H1) (vs ++ ws) → ws.length = n → tz D (σ.set i (some (.ref p))) H1) : tSeq (tAsg (tOp rCat (tVar j) (tLst ta)) (gName i)) tz D σ H :=
  ⟨.ref ps, h0, h H (Ex.refl _) _ fun ws H1 e1 hg hl => ⟨by rw [hl]; unfold sizeLine; omega, fun q hq => ⟨ps, q, vs, ws, rfl, rfl, (Ex.new hq) _ _ (e1 _ _ hps), upd_same, by rw [hl]; unfold sizeLine; omega, fun p hp => k p ws _ (fresh_back (e1.trans (Ex.new hq)) hp) ((e1.trans (Ex.new hq)).trans (Ex.new hp)) upd_same (GoodL.ex (H := hide B H1) ((hv.ex (hide_ex (.of e1))).app hg) fun b o hb => by
    have hb1 := hide_sub H1 b o hb
    have hb2 : (upd H1 q (.lst ws)) b = some o := (Ex.new hq) _ _ hb1
    have hne : b ≠ p := fun z => by rw [z, hp] at hb2; cases hb2
    unfold hide at hb ⊢
    by_cases z : B b
    · rw [if_pos z] at hb; cases hb
    · rw [if_neg fun y => y.elim z hne, upd_ne hne]
      exact hb2) hl⟩⟩⟩
theorem eg_str {n : Nat} (h : Ev te σ H (.int (n : Int))) (hn : n < 502) : EvG B Elt (tCB (fun xs H Q => ∃ i, xs = [.int i] ∧ i.natAbs.log2 < 1920 ∧ Q (.str (toString i)) H) (tCons te tNil)) σ H := fun H1 e Q q => h H1 e _ fun H2 e2 => ⟨(n : Int), rfl, by
    rw [Int.natAbs_natCast]
    have : n.log2 ≤ n := Nat.log2_le_self n
    omega, q _ _ H2 e2 (.str _) (elt_str hn)⟩
/-- a new list of one small number, as an item -/
theorem eg_l1 {xs : List V} (hB : ∀ b, B b → H b ≠ none) (h : EvL te σ H xs) (hn : NumL xs) (hl : xs.length ≤ 450) : EvG B Elt te σ H := fun H1 e Q q => h H1 e _ fun p H2 hp e2 h2 => by
  have hpB : ¬ B p := fun z => hB p z (fresh_back e hp)
  obtain ⟨d, hd, hf⟩ := num_elt (hide_at h2 hpB) hn hl
  exact q (.ref p) d H2 e2 hd hf
theorem eg_u1 {n : Nat} (hB : ∀ b, B b → H b ≠ none) (h : EvU te σ H [.int (n : Int)]) (hn : n < 502) : EvG B Elt te σ H := fun H1 e Q q => h H1 e _ fun p H2 hp e2 h2 => by
  have hpB : ¬ B p := fun z => hB p z (fresh_back e hp)
  exact q (.ref p) _ H2 e2 (.tup (hide_at h2 hpB) (.cons (.int _) .nil)) (elt_tup hn)
theorem el_rgv {n : Nat} (h : Ev te σ H (.int (n : Int))) (hn : n ≤ 1000000) : EvL (tLstRg (tRg1 te)) σ H (rgV 0 (n : Int)) := fun H1 e Q q => h H1 e _ fun H2 e2 => ⟨(n : Int), rfl, RgOk.of_le (by omega) (by omega) (by omega) (by omega), fun p hp => q p _ (fresh_back e2 hp) (e2.trans (Ex.new hp)) upd_same⟩
theorem rgv_num {n : Nat} (h : n ≤ 501) : NumL (rgV 0 (n : Int)) := fun v hv => by
  unfold rgV at hv
  obtain ⟨i, hi, rfl⟩ := List.mem_map.mp hv
  have := List.mem_range.mp hi
  exact ⟨_, rfl, by omega, by omega⟩
theorem eu_tupS {p : Addr} {xs : List V} (h : Ev te σ H (.ref p)) (hp : H p = some (.lst xs)) : EvU (tCB (rTupS K) (tCons te tNil)) σ H xs := fun H1 e Q q => h H1 e _ fun H2 e2 => ⟨p, xs, rfl, .inl ⟨sq_of ((e.trans e2) _ _ hp), fun r hr => q r _ (fresh_back e2 hr) (e2.trans (Ex.new hr)) upd_same⟩⟩
end
section
variable {P : Program} {w : World} {K : PySem.W.Frag} {mg : Str → Option Value} {base : Heap}
def sp_odd : Sp := fun vs H Q _ => ∃ (fa pp : Addr) (text : Tx) (ns : List Nat) (B : Addr → Prop), vs = [.ref fa, T text, .ref pp] ∧ GF fa 3 H ∧ text.length ≤ 400 ∧ H pp = some (.lst (numV ns)) ∧ B fa ∧ ¬ B pp ∧ (∀ b, B b → H b ≠ none) ∧ ns ≠ [] ∧ ns.length ≤ 402 ∧ (∀ n ∈ ns, n ≤ 400) ∧ ∀ v d H', Dh (hide B H') v d → Fine d → Rf fa 3 H H' → Q v H'
set_option maxHeartbeats 16000000 in
theorem ok__law_odd {f : Addr} {fd : FuncData} (F : Fun K "_law_odd" "_law_odd" st__law_odd f fd) (M : Md K mg) (C__law_draw : Cal P w K mg base "_law_draw" st__law_draw 1 ["feed", "many"] sp_draw) (C__law_one : Cal P w K mg base "_law_one" st__law_one 2 ["feed", "things"] (sp_one K)) : FnOk P w K mg base CX0 3 f fd ["feed", "text", "places"] sp_odd := by
  have nd := sc__law_odd.nd
  refine F.ok sc__law_odd (fun vs H Q E h => ?_) (fun cdv A outer s H vs Q E hr h => ?_)
  · obtain ⟨_, _, _, _, _, rfl, _⟩ := h
    rfl
  · obtain ⟨fa, pp, text, ns, B, rfl, G, hlen, hpp, hBf, hBp, hB, hne, hnl, hn4, k⟩ := h
    refine ⟨_, (pss_cons (ps_par (i := 3) (j := 4) rfl nd rfl rfl (by decide) rfl rfl (pa_cons (pe_cl C__law_draw hr (pa_cons (pv 0) (pa_cons (pe_callB (kcr K (r := rLenS) call_len_seq) (by rfl) M.n_len boot_len (pa_cons (pv 2) pa_nil)) pa_nil))) (pa_cons (pe_cl C__law_draw hr (pa_cons (pv 0) (pa_cons (pe_op op_add (pe_callB cr_lenT (by rfl) M.n_len boot_len (pa_cons (pv 1) pa_nil)) pe_int) pa_nil))) pa_nil)) (by rfl))
  (pss_cons (ps_set (i := 5) nd rfl (Or.inl rfl) (pe_lst (pa_cons (pe_op op_cat (pe_slice (ksl K (r := rSlL) sl_list) (pv 2) po_none (po_some (pv 3))) (pe_slice (ksl K (r := rSlL) sl_list) (pv 2) (po_some (pe_op op_add (pv 3) pe_int)) po_none)) (pa_cons (pe_op op_cat (pv 2) (pe_lst (pa_cons (pv 4) pa_nil))) (pa_cons (pe_op op_cat (pv 2) (pe_lst (pa_cons (pe_ix (kix K (r := L2.rIxL) ix_list) (pv 2) (pv 3) (fun _ _ => rfl)) pa_nil))) (pa_cons (pe_slice (ksl K (r := rSlL) sl_list) (pv 2) (po_some pe_int) po_none) (pa_cons (pe_slice (ksl K (r := rSlL) sl_list) (pv 2) po_none (po_some (pe_un un_neg pe_int))) (pa_cons (pe_op op_cat (pv 2) (pe_lst (pa_cons (pe_callB cr_lenT (by rfl) M.n_len boot_len (pa_cons (pv 1) pa_nil)) pa_nil))) (pa_cons (pe_op op_cat (pv 2) (pe_lst (pa_cons (pe_un un_neg pe_int) pa_nil))) (pa_cons (pe_lst pa_nil) (pa_cons (pe_lst (pa_cons pe_int pa_nil)) (pa_cons (krev K (pe_revL (pv 2))) pa_nil))))))))))))
  (pss_cons (ps_set (i := 5) nd rfl (Or.inl rfl) (pe_op op_cat (pv 5) (pe_lst (pa_cons (pe_callTy (kcr K (r := rTupS) call_tuple_of) (by rfl) M.n_tuple boot_tuple (pa_cons (pv 2) pa_nil)) (pa_cons pe_non (pa_cons pe_int (pa_cons (pe_sT [48]) (pa_cons (pe_listRg rfl (by rfl) M.n_list (prg_1 (by rfl) M.n_range (pe_callB cr_lenT (by rfl) M.n_len boot_len (pa_cons (pv 1) pa_nil)))) (pa_cons (pe_listRg rfl (by rfl) M.n_list (prg_1 (by rfl) M.n_range (pe_op op_add (pe_callB cr_lenT (by rfl) M.n_len boot_len (pa_cons (pv 1) pa_nil)) pe_int))) (pa_cons (pe_lst (pa_cons (pv 2) pa_nil)) (pa_cons (pe_op op_cat (pe_op op_cat (pe_slice (ksl K (r := rSlL) sl_list) (pv 2) po_none (po_some (pv 3))) (pe_lst (pa_cons (pv 4) pa_nil))) (pe_slice (ksl K (r := rSlL) sl_list) (pv 2) (po_some (pe_op op_add (pv 3) pe_int)) po_none)) pa_nil)))))))))))
  (pss_cons (ps_for PassesOwn.never rfl (kil K (pi_list (pe_lst (pa_cons (pe_cmpR op_gt (pe_ix (kix K (r := L2.rIxL) ix_list) (pv 2) (pv 3) (fun _ _ => rfl)) pe_int (nomark _)) (pa_cons (pe_callTy call_str_int (by rfl) M.n_str boot_str (pa_cons (pe_ix (kix K (r := L2.rIxL) ix_list) (pv 2) (pv 3) (fun _ _ => rfl)) pa_nil)) (pa_cons pe_non (pa_cons (pe_lst (pa_cons (pe_ix (kix K (r := L2.rIxL) ix_list) (pv 2) (pv 3) (fun _ _ => rfl)) pa_nil)) (pa_cons (pe_tup (pa_cons (pe_ix (kix K (r := L2.rIxL) ix_list) (pv 2) (pv 3) (fun _ _ => rfl)) pa_nil)) (pa_cons (pe_op op_add (pv 4) (pe_op op_pow pe_int pe_int)) (pa_cons (pe_un un_neg pe_int) (pa_cons pe_bl pa_nil))))))))))) (pg_name (i := 6) nd rfl (Or.inl rfl))
  (pss_one (ps_expr (kbm K (pe_bm PySem.F.plainAttrs_list PySem.F.slot_list_append PySem.F.type_list_append mt_append (pv 5) (pa_cons (pe_op op_cat (pe_op op_cat (pe_slice (ksl K (r := rSlL) sl_list) (pv 2) po_none (po_some (pv 3))) (pe_lst (pa_cons (pv 6) pa_nil))) (pe_slice (ksl K (r := rSlL) sl_list) (pv 2) (po_some (pe_op op_add (pv 3) pe_int)) po_none)) pa_nil))))))
  (pss_one (ps_ret (pe_cl C__law_one hr (pa_cons (pv 0) (pa_cons (pv 5) pa_nil))))))))), ?_⟩
    have npp : pp ≠ fa := fun z => hBp (z ▸ hBf)
    have hpos := List.length_pos_iff.mpr hne
    have lenT : ∀ {σ : L2.St} {H' : Hp}, σ[1]? = some (some (T text)) → Ev (tCB rLenT (tCons (tVar 1) tNil)) σ H' (.int (text.length : Int)) := fun h0 => ev_cb (ea_cons (ev_var h0) ea_nil) (rc_lenT (by omega))
    have lenP : Ev (tCB (rLenS K) (tCons (tVar 2) tNil)) (start N__law_odd [.ref fa, T text, .ref pp]) H (.int (ns.length : Int)) := by
      have := ev_len (K := K) (ev_var rfl : Ev (tVar 2) (start N__law_odd [.ref fa, T text, .ref pp]) H (.ref pp)) (sq_of hpp)
      rw [numV, List.length_map] at this
      exact this
    refine q_par2 (wp_draw rfl lenP G (by omega) (Int.le_trans (show (ns.length : Int) ≤ 1000 by omega) (by decide)) fun at_ H1 hat R1 => wp_draw rfl (ev_op (lenT rfl) ev_c rv_I0) (G.go R1 (m' := 2) (by omega)) (by omega) (Int.le_trans (show (text.length : Int) + 1 ≤ 1000 by omega) (by decide)) fun place H2 hpl R2 => ⟨_, _, rfl, ?_⟩)
    have RA : Rf fa 2 H H2 := (R1.trans R2).mono (by omega)
    have GA : GF fa 1 H2 := G.go RA (by omega)
    have hp2 := RA.at_ hpp npp
    have hB2 : ∀ b, B b → H2 b ≠ none := fun b hb => by
      by_cases z : b = fa
      · rw [z]; exact GA.is
      · cases hq : H b with
        | none => exact absurd hq (hB b hb)
        | some o => rw [RA.at_ hq z]; exact fun z => nomatch z
    clear R1 R2
    have hat' : at_ < ns.length := by omega
    have hx4 : ns[at_] ≤ 400 := hn4 _ (List.getElem_mem hat')
    have hpl' : place ≤ 400 := by omega
    have hnum : NumL (numV ns) := NumL.num fun n hn => by have := hn4 n hn; omega
    have hnvl : (numV ns).length = ns.length := by unfold numV; rw [List.length_map]
    have hcl : ∀ lo hi, (cutV (numV ns) lo hi).length ≤ 402 := fun lo hi => Nat.le_trans (cutV_length _ _ _) (by omega)
    show tSeq _ _ _ [some (.ref fa), some (T text), some (.ref pp), some (.int (at_ : Int)), some (.int (place : Int)), none, none] H2
    -- readings
    have pHd : ∀ {σ : L2.St} {Hx : Hp}, Hx pp = some (.lst (numV ns)) → σ[2]? = some (some (.ref pp)) → σ[3]? = some (some (.int (at_ : Int))) → EvL (tSl (rSlL K) (tVar 2) tNoPart (tPart (tVar 3))) σ Hx (cutV (numV ns) none (some (at_ : Int))) := fun h s2 s3 => el_sl (ev_var s2) eo_none (eo_some (ev_var s3)) (sq_of h)
    have pTl : ∀ {σ : L2.St} {Hx : Hp}, Hx pp = some (.lst (numV ns)) → σ[2]? = some (some (.ref pp)) → σ[3]? = some (some (.int (at_ : Int))) → EvL (tSl (rSlL K) (tVar 2) (tPart (tOp (rI0 fun i j => .int (i + j)) (tVar 3) (tC (.int 1)))) tNoPart) σ Hx (cutV (numV ns) (some ((at_ : Int) + 1)) none) := fun h s2 s3 => el_sl (ev_var s2) (eo_some (ev_op (ev_var s3) ev_c rv_I0)) eo_none (sq_of h)
    have pAt : ∀ {σ : L2.St} {Hx : Hp}, Hx pp = some (.lst (numV ns)) → σ[2]? = some (some (.ref pp)) → σ[3]? = some (some (.int (at_ : Int))) → Ev (tOp (L2.rIxL K) (tVar 2) (tVar 3)) σ Hx (.int (ns[at_] : Int)) := fun h s2 s3 => ev_op (ev_var s2) (ev_var s3) (rv_ixL (sq_of h) (atI_nat (by unfold numV; rw [List.getElem?_map, List.getElem?_eq_getElem hat']; rfl)))
    have one : ∀ {σ : L2.St} {Hx : Hp} {te : TE} {v : V}, Ev te σ Hx v → EvL (tLst (tCons te tNil)) σ Hx [v] := fun h => el_lst (ea_cons h ea_nil) (by show 1 ≤ 100000; decide)
    refine q_lstG (B := B) (P := Fine) (n := 10) hB2 (ega_cons (eg_l hB2 (el_catNN (pHd hp2 rfl rfl) (pTl hp2 rfl rfl) (by have := hcl none (some (at_ : Int)); have := hcl (some ((at_ : Int) + 1)) none; omega)) (((hnum.cut _ _).app (hnum.cut _ _)).good _) ?_)
      (ega_cons (eg_l hB2 (el_catVN (ev_var rfl) hp2 (one (ev_var rfl)) (by rw [hnvl]; show ns.length + 1 ≤ 100000; omega)) ((hnum.app (NumL.one (by omega) (by omega))).good _) (by rw [List.length_append, hnvl]; show ns.length + 1 ≤ 450; omega))
      (ega_cons (eg_l hB2 (el_catVN (ev_var rfl) hp2 (one (pAt hp2 rfl rfl)) (by rw [hnvl]; show ns.length + 1 ≤ 100000; omega)) ((hnum.app (NumL.one (by omega) (by omega))).good _) (by rw [List.length_append, hnvl]; show ns.length + 1 ≤ 450; omega))
      (ega_cons (eg_l hB2 (el_sl (ev_var rfl) (eo_some ev_c) eo_none (sq_of hp2)) ((hnum.cut _ _).good _) (Nat.le_trans (hcl _ _) (by decide)))
      (ega_cons (eg_l hB2 (el_sl (ev_var rfl) eo_none (eo_some (ev_un ev_c ru_neg)) (sq_of hp2)) ((hnum.cut _ _).good _) (Nat.le_trans (hcl _ _) (by decide)))
      (ega_cons (eg_l hB2 (el_catVN (ev_var rfl) hp2 (one (lenT rfl)) (by rw [hnvl]; show ns.length + 1 ≤ 100000; omega)) ((hnum.app (NumL.one (by omega) (by omega))).good _) (by rw [List.length_append, hnvl]; show ns.length + 1 ≤ 450; omega))
      (ega_cons (eg_l hB2 (el_catVN (ev_var rfl) hp2 (one (ev_un ev_c ru_neg)) (by rw [hnvl]; show ns.length + 1 ≤ 100000; omega)) ((hnum.app (NumL.one (by decide) (by decide))).good _) (by rw [List.length_append, hnvl]; show ns.length + 1 ≤ 450; omega))
      (ega_cons (eg_l (xs := []) hB2 (el_lst ea_nil (by decide)) (fun v hv => nomatch hv) (by decide))
      (ega_cons (eg_l hB2 (one ev_c) ((NumL.one (i := 0) (by decide) (by decide)).good _) (by show 1 ≤ 450; decide))
      (ega_cons (eg_l hB2 (el_revL (ev_var rfl) (sq_of hp2)) (hnum.rev.good _) (by rw [List.length_reverse, hnvl]; omega))
      ega_nil)))))))))) (by decide) fun ps vs H3 hps e3 h3 hg3 hl3 => ?_
    · rw [List.length_append]
      have h5 : (cutV (numV ns) none (some (at_ : Int))).length ≤ at_ := by rw [cutV_to, List.length_take]; omega
      have h6 : (cutV (numV ns) (some ((at_ : Int) + 1)) none).length ≤ ns.length - at_ := by
        rw [show (at_ : Int) + 1 = ((at_ + 1 : Nat) : Int) from rfl, cutV_from, List.length_drop, hnvl]
        omega
      omega
    have hpps : pp ≠ ps := fun z => by rw [z, hps] at hp2; cases hp2
    have hB3 : ∀ b, (B b ∨ b = ps) → H3 b ≠ none := fun b hb => by
      rcases hb with hb | hb
      · cases hq : H2 b with
        | none => exact absurd hq (hB2 b hb)
        | some o => rw [e3 _ _ hq]; exact fun z => nomatch z
      · rw [hb, h3]; exact fun z => nomatch z
    have hnB3 : ¬ (B pp ∨ pp = ps) := fun z => z.elim hBp hpps
    have hp3 := e3 _ _ hp2
    show tSeq _ _ _ [some (.ref fa), some (T text), some (.ref pp), some (.int (at_ : Int)), some (.int (place : Int)), some (.ref ps), none] H3
    have hc6 : (cutV (numV ns) none (some (at_ : Int))).length ≤ at_ := by rw [cutV_to, List.length_take]; omega
    have hc7 : (cutV (numV ns) (some ((at_ : Int) + 1)) none).length ≤ ns.length - at_ := by
      rw [show (at_ : Int) + 1 = ((at_ + 1 : Nat) : Int) from rfl, cutV_from, List.length_drop, hnvl]
      omega
    refine q_catG (B := fun b => B b ∨ b = ps) (P := Fine) (n := 8) rfl h3 hg3 (by omega) (ega_cons (eg_u hB3 (eu_tupS (ev_var rfl) hp3) (hnum.good _) (by omega))
      (ega_cons (eg_v ev_c (fun _ => .non) elt_none.fine)
      (ega_cons (eg_v ev_c (fun _ => .int 0) (elt_int (by decide) (by decide)).1.fine)
      (ega_cons (eg_v (v := T [48]) ev_c (fun _ => .str _) elt_s0.fine)
      (ega_cons (eg_l hB3 (el_rgv (lenT rfl) (by omega)) ((rgv_num (by omega)).good _) (by rw [rgV_length]; omega))
      (ega_cons (eg_l hB3 (el_rgv (n := text.length + 1) (ev_op (lenT rfl) ev_c rv_I0) (by omega)) ((rgv_num (by omega)).good _) (by rw [rgV_length]; omega))
      (ega_cons (eg_l hB3 (one (ev_var rfl)) (fun v hv => by rw [List.mem_singleton.mp hv]; exact num_elt (hide_at hp3 hnB3) hnum (by omega)) (by show 1 ≤ 450; decide))
      (ega_cons (eg_l hB3 (el_catNN (el_catNN (pHd hp3 rfl rfl) (one (ev_var rfl)) (by show _ + 1 ≤ 100000; omega)) (pTl hp3 rfl rfl) (by rw [List.length_append]; show _ + 1 + _ ≤ 100000; omega)) ((((hnum.cut _ _).app (NumL.one (by omega) (by omega))).app (hnum.cut _ _)).good _) (by rw [List.length_append, List.length_append]; show _ + 1 + _ ≤ 450; omega))
      ega_nil)))))))) (by decide) fun ps2 ws H4 hps2 e4 h4 hg4 hl4 => ?_
    have hB4 : ∀ b, ((B b ∨ b = ps) ∨ b = ps2) → H4 b ≠ none := fun b hb => by
      rcases hb with hb | hb
      · cases hq : H3 b with
        | none => exact absurd hq (hB3 b hb)
        | some o => rw [e4 _ _ hq]; exact fun z => nomatch z
      · rw [hb, h4]; exact fun z => nomatch z
    have hpps2 : pp ≠ ps2 := fun z => by rw [z, hps2] at hp3; cases hp3
    have hnB4 : ¬ ((B pp ∨ pp = ps) ∨ pp = ps2) := fun z => z.elim hnB3 hpps2
    have hp4 := e4 _ _ hp3
    show tSeq _ _ _ [some (.ref fa), some (T text), some (.ref pp), some (.int (at_ : Int)), some (.int (place : Int)), some (.ref ps2), none] H4
    refine q_forOf ?_
    have pow20 : ∀ {σ : L2.St} {Hx : Hp}, Ev (tOp (rI CPow fun i j => .int (i ^ j.toNat)) (tC (.int 10)) (tC (.int 20))) σ Hx (.int (10 ^ 20)) := ev_is (ev_op ev_c ev_c (rv_I (by unfold CPow; decide))) (by decide)
    refine wp_lstG (B := fun b => (B b ∨ b = ps) ∨ b = ps2) (P := Elt) (n := 8) hB4 (ega_cons (eg_v (ev_op (pAt hp4 rfl rfl) ev_c rv_I0) (fun _ => .bl _) (elt_bool _))
      (ega_cons (eg_str (pAt hp4 rfl rfl) (by omega))
      (ega_cons (eg_v ev_c (fun _ => .non) elt_none)
      (ega_cons (eg_l1 hB4 (one (pAt hp4 rfl rfl)) (NumL.one (by omega) (by omega)) (by show 1 ≤ 450; decide))
      (ega_cons (eg_u1 hB4 (eu_tup (ea_cons (pAt hp4 rfl rfl) ea_nil) (by show 1 ≤ 100000; decide)) (by omega))
      (ega_cons (eg_v (v := .int ((place : Int) + 10 ^ 20)) (ev_op (ev_var rfl) pow20 rv_I0) (fun _ => .int _) (elt_big (by omega)))
      (ega_cons (eg_v (ev_un ev_c ru_neg) (fun _ => .int _) (elt_int (by decide) (by decide)).1)
      (ega_cons (eg_v ev_c (fun _ => .bl _) (elt_bool _))
      ega_nil)))))))) (by decide) fun pq vs3 H5 hpq e5 h5 hg5 hl5 => ?_
    have hw5 := e5 _ _ h4
    have hne2 : ps2 ≠ pq := fun z => by rw [← z, h4] at hpq; cases hpq
    have hpp5 := e5 _ _ hp4
    have hws5 : GoodL Fine (hide (fun b => (B b ∨ b = ps) ∨ b = ps2) H5) (vs ++ ws) := hg4.ex (hide_ex (.of e5))
    refine q_forW (H := H5) (fun c => c = ps2) (src_list (a := pq) (xs := vs3) (fun H2 e2 Q2 q2 => q2 H2 (Ex.refl _)) (sq_of h5)) ?_
      (fun Hs i σ' H' => ∃ (us : List V) (v6 : Option V), σ' = [some (.ref fa), some (T text), some (.ref pp), some (.int (at_ : Int)), some (.int (place : Int)), some (.ref ps2), v6] ∧ Exc (fun c => c = ps2) Hs H' ∧ H' ps2 = some (.lst us) ∧ GoodL Fine (hide (fun b => (B b ∨ b = ps) ∨ b = ps2) H') us ∧ us.length = 18 + i) ?_ ?_ ?_ ?_ ?_
    · rintro b rfl
      exact ⟨(by rw [hw5]; exact fun z => nomatch z), hne2⟩
    · intro Hs e
      exact ⟨vs ++ ws, none, rfl, Exc.refl _, e _ _ hw5, hws5.ex (hide_ex (.of e)), by rw [List.length_append]; omega⟩
    · rintro Hs i σ' H' ⟨_, _, _, h, _⟩
      exact h
    · rintro Hs i σ' Ha Hb ⟨us, v6, h0, h1, h2, h3, h4⟩ e
      exact ⟨us, v6, h0, h1.then e, e _ _ h2, h3.ex (hide_ex (.of e)), h4⟩
    · rintro Hs i y σ' H' e hi ⟨us, v6, rfl, j1, j2, j3, j4⟩ hy
      obtain ⟨d, hd, hp⟩ := hg5 y (List.mem_of_getElem? hy)
      have hppx : H' pp = some (.lst (numV ns)) := j1 _ _ hpps2 (e _ _ hpp5)
      have hdx : Dh (hide (fun b => (B b ∨ b = ps) ∨ b = ps2) H') y d := ((hd.ex (hide_less (B' := fun b => (B b ∨ b = ps) ∨ b = ps2) (fun b z => .inl z) H5)).ex (hide_ex (.of e))).ex (hide_ex (j1.mono fun b z => .inr z))
      have hiv : i < 8 := by omega
      show tDrop _ _ [some (.ref fa), some (T text), some (.ref pp), some (.int (at_ : Int)), some (.int (place : Int)), some (.ref ps2), some y] H'
      refine s_appL j2 (ev_var rfl) (el_catNN (el_catNN (pHd hppx rfl rfl) (one (ev_var rfl)) (by show _ + 1 ≤ 100000; omega)) (pTl hppx rfl rfl) (by rw [List.length_append]; show _ + 1 + _ ≤ 100000; omega)) (by omega) fun p H6 hp6 e6 h6 => ?_
      have hp2' : p ≠ ps2 := fun z => by rw [z, j2] at hp6; cases hp6
      have hpB : ¬ ((B p ∨ p = ps) ∨ p = ps2) := fun z => z.elim (fun z => by
        have hne4 := hB4 p (.inl z)
        cases hq : H4 p with
        | none => exact hne4 hq
        | some o =>
          have := j1 _ _ hp2' (e _ _ (e5 _ _ hq))
          rw [hp6] at this
          cases this) hp2'
      have x6 : Exc (fun c => c = ps2) H' (upd H6 ps2 (.lst (us ++ [.ref p]))) := (Exc.of e6).upd (.inl rfl)
      refine ⟨us ++ [.ref p], _, rfl, j1.trans x6, upd_same, (j3.ex (hide_ex (x6.mono fun b z => .inr z))).app fun v hv => ?_, by rw [List.length_append, j4]; rfl⟩
      rw [List.mem_singleton.mp hv]
      have hpx : (hide (fun b => (B b ∨ b = ps) ∨ b = ps2) (upd H6 ps2 (.lst (us ++ [.ref p])))) p = some (.lst (cutV (numV ns) none (some (at_ : Int)) ++ [y] ++ cutV (numV ns) (some ((at_ : Int) + 1)) none)) := hide_at (by rw [upd_ne hp2']; exact h6) hpB
      refine good_list hpx (((hnum.cut _ _).good _).app (fun v hv => ?_) |>.app ((hnum.cut _ _).good _)) (by rw [List.length_append, List.length_append]; show _ + 1 + _ ≤ 450; omega)
      rw [List.mem_singleton.mp hv]
      exact ⟨d, hdx.ex (hide_ex (x6.mono fun b z => .inr z)), hp⟩
    · rintro Hs σ' H' e ⟨us, v6, rfl, j1, j2, j3, j4⟩
      have nps2 : ps2 ≠ fa := fun z => by
        have h9 := hB3 fa (.inl hBf)
        rw [z] at hps2
        exact h9 hps2
      have hps20 : H2 ps2 = none := fresh_back e3 hps2
      have RB : Rf fa 2 H H' := by
        have r1 : Rf fa 2 H Hs := RA.then (e3.trans (e4.trans (e5.trans e)))
        exact r1.exc j1 (RA.free G.is hps20 GA.is) nps2
      have GB : GF fa 1 H' := G.go RB (by omega)
      refine wp_oneS (xs := us) rfl (ev_var rfl) (.inl (sq_of j2)) nps2 GB (fun z => by rw [z] at j4; simp at j4; omega) (by omega) fun v H7 hv R7 => ?_
      obtain ⟨d, hd, hf⟩ := j3 v hv
      exact k v d H7 ((hd.ex (hide_less (B' := B) (fun b z => .inl (.inl z)) H')).ex (hide_ex (R7.keep.mono fun b z => by rw [z]; exact hBf))) hf ((RB.trans R7).mono (by omega))
end
end K04
set_option Elab.async false
set_option linter.all false
set_option maxRecDepth 100000
set_option maxHeartbeats 4000000
namespace K04
open PySem PySem.Spec PyProof.Rows L2 Evl Wc Wt Wg _root_.Wd
theorem kb_no_cut_paper_1_0 : KB "no_cut_paper" st_no_cut_paper 0 ["lot", "text"] ["text", "lot"] (sw2 true) (sw2 true) := kb2 true rfl (fun _ _ _ _ _ _ a b => rfl)
theorem ev_callK0 {σ : L2.St} {H : Hp} {sp : Sp} {gV : List V → List V → List V} {vs : List V} {tk : TA} {z : V} (h : EvA tk σ H vs) (hs : SpV sp (gV [] vs) H z) : Ev (tCallK0 sp gV tk) σ H z := fun H1 e Q q => h H1 e _ fun H2 e2 => hs H2 (e.trans e2) _ (fun H3 e3 => q H3 (e2.trans e3)) E0
theorem el_callK0 {σ : L2.St} {H : Hp} {sp : Sp} {gV : List V → List V → List V} {vs xs : List V} {tk : TA} (h : EvA tk σ H vs) (hs : SpL sp (gV [] vs) H xs) : EvL (tCallK0 sp gV tk) σ H xs := fun H1 e Q q => h H1 e _ fun H2 e2 => hs H2 (e.trans e2) _ (fun p H3 hp e3 h3 => q p H3 (fresh_back e2 hp) (e2.trans e3) h3) E0
theorem q_parEE {ta tb : TE} {i j : Nat} {u v : V} {σ : L2.St} {H : Hp} {tz : TS} {D : Ends} (h1 : Ev ta σ H u) (h2 : Ev tb σ H v) (k : ∀ H1, Ex H H1 → tz D ((σ.set i (some u)).set j (some v)) H1) : tSeq (tPar i j (tCons ta (tCons tb tNil))) tz D σ H :=
  h1 H (Ex.refl _) _ fun H1 e1 => h2 H1 e1 _ fun H2 e2 => ⟨u, v, rfl, k H2 (e1.trans e2)⟩
section
variable {K : PySem.W.Frag} {σ : L2.St} {H : Hp} {te : TE} {fa : Addr}
/-- a comprehension whose items are new things, by readings that draw -/
theorem lcDO {wi : TI} {j : Nat} {vs : List Nat} {n : Nat} {own : Addr → Prop} {P : Nat → V → Hp → Prop} {Q : VK} (c : Nat) (hf : H fa ≠ none) (hs : Src wi σ H n own P) (ho : ¬ own fa) (hn : n ≤ 40000) (hw : ∀ x, wipe ((wipe σ vs).set j (some x)) vs = wipe σ vs)
    (he : ∀ (i : Nat) (x : V) H1 (D : Addr), i < n → P i x H1 → Rf fa (i * c) H H1 → H D = none → H1 D ≠ none → ∀ Q' : VK, (∀ y d H2, Dh (hide (fun b => b = fa ∨ b = D) H2) y d → Fine d → Rf fa c H1 H2 → Q' y H2) → te ((wipe σ vs).set j (some x)) H1 Q')
    (k : ∀ p H2 acc, H p = none → Rf fa (n * c) H H2 → H2 p = some (.lst acc) → acc.length = n → GoodL Fine (hide (fun b => b = fa ∨ b = p) H2) acc → Q (.ref p) H2) : tLc wi (gName j) tYes te vs σ H Q :=
  hs H (Ex.refl H) _ fun J H1 S e1 w hS => fun Dl hD => by
    have hDH : H Dl = none := fresh_back e1 hD
    have hne : Dl ≠ fa := fun z => hf (z ▸ hDH)
    have hf1 : H1 fa ≠ none := by
      cases hq : H fa with
      | none => exact absurd hq hf
      | some o => rw [e1 _ _ hq]; exact fun z => nomatch z
    refine lc_it w (Qd := fun H3 => Q (.ref Dl) H3) (fun i Hi => Rf fa (i * c) H1 Hi ∧ ∃ acc, Hi Dl = some (.lst acc) ∧ acc.length = i ∧ GoodL Fine (hide (fun b => b = fa ∨ b = Dl) Hi) acc) ?_ (fun i Hi hi p => hS (fun b => b = fa) Hi (by rintro b rfl; exact ⟨hf, ho⟩) p.1.keep) ?_ ?_
    · refine ⟨?_, [], upd_same, rfl, fun v hv => nomatch hv⟩
      exact ((Rf.refl H1).upd hD hf1).mono (Nat.zero_le _)
    · rintro i x Ha Hb hi ⟨R, acc, h1, h2, h3⟩ ⟨ey, hP⟩
      refine ⟨hw x, ?_⟩
      show te ((wipe σ vs).set j (some x)) Hb fun y H4 => _
      have Rb : Rf fa (i * c) H1 Hb := R.then ey
      refine he i x Hb Dl hi hP (Rf.pre e1 Rb) hDH (by rw [ey _ _ h1]; exact fun z => nomatch z) _ fun y d H4 hy hp R4 => ?_
      have h4 : H4 Dl = some (.lst acc) := R4.at_ (ey _ _ h1) hne
      have x4 : Exc (fun b => b = fa ∨ b = Dl) Ha (upd H4 Dl (.lst (acc ++ [y]))) := ((Exc.of ey).trans (R4.keep.mono fun b z => .inl z)).upd (.inl (.inr rfl))
      have x5 : Exc (fun b => b = fa ∨ b = Dl) H4 (upd H4 Dl (.lst (acc ++ [y]))) := (Exc.refl _).upd (.inl (.inr rfl))
      refine ⟨acc, h4, sz_lt (by omega), ?_, acc ++ [y], upd_same, by rw [List.length_append, h2]; rfl, (h3.ex (hide_ex x4)).app fun v hv => ?_⟩
      · have := (Rb.trans R4).upd (p := Dl) (o := .lst (acc ++ [y])) hD hf1
        exact this.mono (by rw [Nat.succ_mul]; exact Nat.le_refl _)
      · rw [List.mem_singleton.mp hv]
        exact ⟨d, hy.ex (hide_ex x5), hp⟩
    · rintro H3 ⟨R, acc, h1, h2, h3⟩
      exact k Dl H3 acc hDH (Rf.pre e1 R) h1 h2 h3
theorem numV_of {acc : List V} {B : Nat} (h : ∀ v ∈ acc, ∃ n : Nat, v = .int (n : Int) ∧ n ≤ B) : ∃ ns : List Nat, acc = numV ns ∧ ∀ n ∈ ns, n ≤ B := by
  induction acc with
  | nil => exact ⟨[], rfl, fun i hi => nomatch hi⟩
  | cons v acc ih =>
    obtain ⟨c, rfl, hc⟩ := ih fun y hy => h y (List.mem_cons_of_mem _ hy)
    obtain ⟨n, rfl, hn⟩ := h v List.mem_cons_self
    exact ⟨n :: c, rfl, fun i hi => by
      rcases List.mem_cons.mp hi with z | z
      · rw [z]; exact hn
      · exact hc i z⟩
/-- [0] + some drawn places -/
theorem wp_some {text : Tx} {Q : VK} (hlen : text.length ≤ 400) (h0 : σ[0]? = some (some (.ref fa))) (G : GF fa 4 H) (hw : ∀ x, wipe ((wipe σ [7]).set 7 (some x)) [7] = wipe σ [7]) (hw0 : ∀ x, ((wipe σ [7]).set 7 (some x))[0]? = some (some (.ref fa))) (hw2 : ∀ x, ((wipe σ [7]).set 7 (some x))[2]? = some (some (T text)))
    (k : ∀ p ns H', Rf fa 4 H H' → H' p = some (.lst (numV (0 :: ns))) → ns.length ≤ 3 → (∀ n ∈ ns, n ≤ text.length) → Q (.ref p) H') :
    tOp rCat (tLst (tCons (tC (.int 0)) tNil)) (tLc (iRng1 (tCons (tCall sp_draw [] E0 (tCons (tVar 0) (tCons (tC (.int 4)) tNil))) tNil)) (gName 7) tYes (tCall sp_draw [] E0 (tCons (tVar 0) (tCons (tOp (rI0 fun i j => .int (i + j)) (tCB rLenT (tCons (tVar 2) tNil)) (tC (.int 1))) tNil))) [7]) σ H Q := by
  have hl : EvL (tLst (tCons (tC (.int 0)) tNil)) σ H [.int 0] := el_lst (ea_cons ev_c ea_nil) (by show 1 ≤ 100000; decide)
  unfold tOp
  refine hl H (Ex.refl _) _ fun p1 H1 hp1 e1 h1 => ?_
  refine lcRD (lo := 0) (N := 3) (c := 1) (m0 := 1) (fun v => ∃ n : Nat, v = .int (n : Int) ∧ n ≤ text.length) (dI_draw (lo := 4) (hi := 4) h0 dI_c) (by decide) (G.ex e1) hw (fun x n H2 R2 G2 Q' q' => ?_) _ fun p2 H2 acc hp2 R2 h2 hl1 hl2 hg => ?_
  · exact wp_draw (many := (text.length : Int) + 1) (hw0 x) (ev_op (ev_cb (ea_cons (ev_var (hw2 x)) ea_nil) (rc_lenT (by omega))) ev_c rv_I0) G2 (by omega) (Int.le_trans (show (text.length : Int) + 1 ≤ 1000 by omega) (by decide)) fun d H3 hd R3 => q' _ H3 ⟨d, rfl, by omega⟩ R3
  · obtain ⟨ns, rfl, hns⟩ := numV_of hg
    have np1 : p1 ≠ fa := G.new hp1
    have hnl : ns.length ≤ 3 := by unfold numV at hl2; rw [List.length_map] at hl2; exact hl2
    refine ⟨p1, p2, _, _, rfl, rfl, R2.at_ h1 np1, h2, by unfold numV; rw [List.length_map]; show 1 + ns.length ≤ sizeLine; unfold sizeLine; omega, fun p3 hp3 => ?_⟩
    exact k p3 ns _ (((Rf.pre e1 R2).then (Ex.new hp3)).mono (by omega)) upd_same hnl hns
end
theorem reach_few {lot : List Tx} {text : Tx} {ps ms : List Nat} (hp : ∀ p ∈ ps, p ≤ text.length) (h : IsReach lot text ps ms) : ms.length ≤ text.length + 1 ∧ ∀ m ∈ ms, m ≤ text.length := by
  have hle : ∀ m ∈ ms, m ≤ text.length := fun m hm => ((h.mem m).mp hm).le hp
  exact ⟨few_of (h.asc.imp fun h => Nat.ne_of_lt h) fun m hm => by have := hle m hm; omega, hle⟩
def unN : V → Nat
  | .int i => i.toNat
  | _ => 0
theorem map_unN (ns : List Nat) : (numV ns).map unN = ns := by
  unfold numV
  rw [List.map_map]
  have : (unN ∘ fun (n : Nat) => V.int (n : Int)) = id := funext fun n => Int.toNat_natCast n
  rw [this, List.map_id]
theorem perm_num {ys : List V} {ms : List Nat} {B : Nat} (hB : ∀ m ∈ ms, m ≤ B) (h : ys.Perm (numV ms)) : ∃ ns : List Nat, ys = numV ns ∧ ns.Perm ms := by
  obtain ⟨ns, rfl, _⟩ := numV_of (B := B) (acc := ys) fun v hv => by
    obtain ⟨n, hn, rfl⟩ := List.mem_map.mp (h.mem_iff.mp hv)
    exact ⟨n, rfl, hB n hn⟩
  have := h.map unN
  rw [map_unN, map_unN] at this
  exact ⟨ns, rfl, this⟩
end K04
set_option Elab.async false
set_option linter.all false
set_option maxRecDepth 100000
set_option maxHeartbeats 4000000
namespace K04
open PySem PySem.Spec PyProof.Rows L2 Evl Wc Wt Wg _root_.Wd
theorem q_wp {σ : L2.St} {H : Hp} {te : TE} {i : Nat} {D : Ends} {tz : TS} (h : te σ H fun v H1 => tz D (σ.set i (some v)) H1) : tSeq (tAsg te (gName i)) tz D σ H := h
section
variable {K : PySem.W.Frag} {σ : L2.St} {H : Hp} {te ta tb : TE} {fa pl : Addr} {lot : List Tx} {text : Tx}
theorem wp_led {Q : VK} (s1 : σ[1]? = some (some (.ref pl))) (s2 : σ[2]? = some (some (T text))) (h : te σ H fun v H1 => sp_led [.ref pl, T text, v] H1 Q E0) : tCall sp_led [] E0 (tCons (tVar 1) (tCons (tVar 2) (tCons te tNil))) σ H Q := ⟨.ref pl, s1, T text, s2, h⟩
def FoundP (lot : List Tx) (text : Tx) (v : V) (H H1 : Hp) : Prop := (0 < (cutsAt lot text 0).length ∧ v = .non) ∨ (cutsAt lot text 0 = [] ∧ ∃ p, v = .ref p ∧ H p = none ∧ H1 p = some (.lst (numV (ledL lot text))))
theorem wp_paper {Q : VK} (s1 : σ[1]? = some (some (.ref pl))) (s2 : σ[2]? = some (some (T text))) (hL : LotAt pl lot H) (h1 : text.length ≤ 400) (h2 : ∀ c ∈ text, abcd c) (k : ∀ v H1, Ex H H1 → FoundP lot text v H H1 → Q v H1) : tCall sp_paper [] E0 (tCons (tVar 1) (tCons (tVar 2) tNil)) σ H Q :=
  ⟨.ref pl, s1, T text, s2, pl, lot, text, rfl, hL, h1, h2, fun hp H1 e1 => k _ H1 e1 (.inl ⟨hp, rfl⟩), fun hn p H1 hp e1 h => k _ H1 e1 (.inr ⟨hn, p, rfl, hp, h⟩)⟩
theorem ev_listNV {c : List Nat} {q : Addr} (hl : c.length ≤ 1000) (h1 : EvL ta σ H (numV c)) (h2 : Ev tb σ H (.ref q)) (hq : H q = some (.lst (numV c))) : Ev (tCall (sp_list_same K) [] E0 (tCons ta (tCons tb tNil))) σ H (.bl true) := fun H1 e Q k =>
  h1 H1 e _ fun p H2 hp e2 h3 => h2 H2 (e.trans e2) _ fun H3 e3 => ⟨p, q, numV c, rfl, e3 _ _ h3, sq_of (((e.trans e2).trans e3) _ _ hq), flat_num c, by unfold numV; rw [List.length_map]; omega, fun H4 e4 => k H4 ((e2.trans e3).trans e4)⟩
theorem ev_listVV {c : List Nat} {p q : Addr} (hl : c.length ≤ 1000) (h1 : Ev ta σ H (.ref p)) (hp : H p = some (.lst (numV c))) (h2 : Ev tb σ H (.ref q)) (hq : H q = some (.lst (numV c))) : Ev (tCall (sp_list_same K) [] E0 (tCons ta (tCons tb tNil))) σ H (.bl true) := fun H1 e Q k =>
  h1 H1 e _ fun H2 e2 => h2 H2 (e.trans e2) _ fun H3 e3 => ⟨p, q, numV c, rfl, ((e.trans e2).trans e3) _ _ hp, sq_of (((e.trans e2).trans e3) _ _ hq), flat_num c, by unfold numV; rw [List.length_map]; omega, fun H4 e4 => k H4 ((e2.trans e3).trans e4)⟩
/-- the things that are asked of -/
theorem wp_things {Q : VK} {p4 p6 : Addr} {m4 m6 : List Nat} (hlen : text.length ≤ 400) (s0 : σ[0]? = some (some (.ref fa))) (s4 : σ[4]? = some (some (.ref p4))) (s6 : σ[6]? = some (some (.ref p6)))
    (hw : ∀ x, wipe ((wipe σ [7]).set 7 (some x)) [7] = wipe σ [7]) (w0 : ∀ x, ((wipe σ [7]).set 7 (some x))[0]? = some (some (.ref fa))) (w2 : ∀ x, ((wipe σ [7]).set 7 (some x))[2]? = some (some (T text))) (w4 : ∀ x, ((wipe σ [7]).set 7 (some x))[4]? = some (some (.ref p4))) (w6 : ∀ x, ((wipe σ [7]).set 7 (some x))[6]? = some (some (.ref p6)))
    (h4 : H p4 = some (.lst (numV m4))) (h6 : H p6 = some (.lst (numV m6))) (n4 : p4 ≠ fa) (n6 : p6 ≠ fa) (g4 : m4 ≠ []) (g6 : m6 ≠ []) (l4 : m4.length ≤ 401) (l6 : m6.length ≤ 401) (b4 : ∀ m ∈ m4, m ≤ 400) (b6 : ∀ m ∈ m6, m ≤ 400) (G : GF fa 4000 H)
    (k : ∀ p ts H', Rf fa 4000 H H' → H' p = some (.lst ts) → GoodL Fine H' ts → ts.length ≤ 100 → Q (.ref p) H') :
    tOp rCat (tLst (tCons (tVar 4) (tCons (tCall (sp_mixed K) [] E0 (tCons (tVar 0) (tCons (tVar 4) tNil))) (tCons (tVar 6) tNil)))) (tLc (iRng1 (tCons (tC (.int 8)) tNil)) (gName 7) tYes (tCall sp_odd [] E0 (tCons (tVar 0) (tCons (tVar 2) (tCons (tCall (sp_mixed K) [] E0 (tCons (tVar 0) (tCons (tIf (tTest (tOp (rI0 fun i j => .bl (decide (i = j))) (tCall sp_draw [] E0 (tCons (tVar 0) (tCons (tC (.int 2)) tNil))) (tC (.int 0)))) (tVar 6) (tVar 4)) tNil))) tNil)))) [7]) σ H Q := by
  have hvl : ∀ ms : List Nat, (numV ms).length = ms.length := fun ms => by unfold numV; rw [List.length_map]
  unfold tOp
  refine ⟨.ref p4, s4, .ref fa, s0, .ref p4, s4, fa, p4, numV m4, rfl, sq_of h4, n4, by rw [hvl]; omega, G.mono (by rw [hvl]; omega), fun q ys H1 hperm hq R1 hq1 => ⟨.ref p6, s6, by show 3 ≤ sizeLine; decide, fun p1 hp1 => ?_⟩⟩
  rw [hvl] at R1
  obtain ⟨n4s, rfl, hpm⟩ := perm_num b4 hperm
  have e1 := Ex.new (o := .lst [.ref p4, .ref q, .ref p6]) hp1
  have RA : Rf fa 401 H (upd H1 p1 (.lst [.ref p4, .ref q, .ref p6])) := (R1.then e1).mono (by omega)
  have nq : q ≠ fa := G.new hq
  have hp1' : (upd H1 p1 (.lst [.ref p4, .ref q, .ref p6])) p1 = some (.lst [.ref p4, .ref q, .ref p6]) := upd_same
  have hqA := e1 _ _ hq1
  have np1 : p1 ≠ fa := fun z => (G.go R1 (m' := 0) (by omega)).is (z ▸ hp1)
  generalize upd H1 p1 (.lst [.ref p4, .ref q, .ref p6]) = H2 at RA hp1' hqA ⊢
  have GA : GF fa 3500 H2 := G.go RA (by omega)
  refine lcDO (n := 8) (own := fun _ => False) (P := fun i v _ => v = .int (i : Int)) 405 GA.is (src_range1 (n := 8) (ea_cons ev_c ea_nil) (by decide)) (fun z => z) (by decide) hw (fun i x H3 D hi hx R3 hD hD3 Q' q' => ?_) fun p2 H3 acc hp2 R3 h3 hl hg => ?_
  · have G3 : GF fa 405 H3 := GA.go R3 (by have : i * 405 ≤ 7 * 405 := Nat.mul_le_mul_right _ (by omega); omega)
    have mix : ∀ (pm : Addr) (ms : List Nat) (H4 : Hp), Rf fa 1 H3 H4 → H pm = some (.lst (numV ms)) → pm ≠ fa → ms ≠ [] → ms.length ≤ 401 → (∀ m ∈ ms, m ≤ 400) → sp_mixed K [.ref fa, .ref pm] H4 (fun v H5 => sp_odd [.ref fa, T text, v] H5 Q' E0) E0 := fun pm ms H4 R4 hpm npm gm lm bm => by
      have hpm4 : H4 pm = some (.lst (numV ms)) := ((RA.trans R3).trans R4).at_ hpm npm
      have G4 : GF fa 404 H4 := G3.go R4 (by omega)
      refine ⟨fa, pm, numV ms, rfl, sq_of hpm4, npm, by rw [hvl]; omega, G4.mono (by rw [hvl]; omega), fun q ys H5 hperm hq5 R5 hq => ?_⟩
      rw [hvl] at R5
      obtain ⟨ns, rfl, hpn⟩ := perm_num bm hperm
      have G5 : GF fa 3 H5 := G4.go R5 (by omega)
      have hDn : D ≠ fa := fun z => GA.is (z ▸ hD)
      have hD4 : H4 D ≠ none := by
        cases hq : H3 D with
        | none => exact absurd hq hD3
        | some o => rw [R4.at_ hq hDn]; exact fun z => nomatch z
      have hD5 : H5 D ≠ none := by
        cases hq : H4 D with
        | none => exact absurd hq hD4
        | some o => rw [R5.at_ hq hDn]; exact fun z => nomatch z
      refine ⟨fa, q, text, ns, fun b => b = fa ∨ b = D, rfl, G5, hlen, hq, .inl rfl, fun z => ?_, fun b hb => ?_, fun z => ?_, by rw [hpn.length_eq]; omega, fun n hn => bm n (hpn.mem_iff.mp hn), fun v d H6 hd hf R6 => q' v d H6 hd hf (((R4.trans R5).trans R6).mono (by omega))⟩
      · rcases z with z | z
        · exact G4.is (z ▸ hq5)
        · exact hD4 (z ▸ hq5)
      · rcases hb with hb | hb
        · rw [hb]; exact G5.is
        · rw [hb]; exact hD5
      · have := hpn.length_eq
        rw [z] at this
        exact gm (List.length_eq_zero_iff.mp this.symm)
    refine ⟨.ref fa, w0 x, T text, w2 x, .ref fa, w0 x, ?_⟩
    refine dw_test (m1 := 1) (m2 := 0) (dI_draw (lo := 2) (hi := 2) (w0 x) dI_c) dI_c G3 _ fun b H4 R4 => ?_
    cases b with
    | true => exact ⟨.ref p6, w6 x, mix p6 m6 H4 R4 h6 n6 g6 l6 b6⟩
    | false => exact ⟨.ref p4, w4 x, mix p4 m4 H4 R4 h4 n4 g4 l4 b4⟩
  · refine ⟨p1, p2, _, _, rfl, rfl, R3.at_ hp1' np1, h3, by show 3 + acc.length ≤ sizeLine; rw [hl]; decide, fun p3 hp3 => ?_⟩
    have RB := (RA.trans R3).then (Ex.new (o := .lst ([.ref p4, .ref q, .ref p6] ++ acc)) hp3)
    refine k p3 _ _ (RB.mono (by omega)) upd_same (GoodL.app (fun v hv => ?_) ((hg.ex (hide_sub H3)).ex (Ex.new hp3))) (by rw [List.length_append, hl]; show 3 + 8 ≤ 100; decide)
    have b4' : ∀ n ∈ n4s, n ≤ 500 := fun n hn => Nat.le_trans (b4 n (hpm.mem_iff.mp hn)) (by decide)
    have hqB : (upd H3 p3 (.lst ([.ref p4, .ref q, .ref p6] ++ acc))) q = some (.lst (numV n4s)) := (Ex.new hp3) _ _ (R3.at_ hqA nq)
    rcases List.mem_cons.mp hv with z | hv
    · rw [z]
      exact good_list (RB.at_ h4 n4) ((NumL.num fun n hn => Nat.le_trans (b4 n hn) (by decide)).good _) (by rw [hvl]; omega)
    rcases List.mem_cons.mp hv with z | hv
    · rw [z]
      exact good_list hqB ((NumL.num b4').good _) (by rw [hvl, hpm.length_eq]; omega)
    · rw [List.mem_singleton.mp hv]
      exact good_list (RB.at_ h6 n6) ((NumL.num fun n hn => Nat.le_trans (b6 n hn) (by decide)).good _) (by rw [hvl]; omega)
end
section
variable {P : Program} {w : World} {K : PySem.W.Frag} {mg : Str → Option Value} {base : Heap}
def sp_law_paper : Sp := fun vs H Q _ => ∃ (fa pl : Addr) (lot : List Tx) (text : Tx), vs = [.ref fa, .ref pl, T text, .bl (decide (0 < (cutsAt lot text 0).length))] ∧ GF fa 5000 H ∧ LotAt pl lot H ∧ text.length ≤ 400 ∧ (∀ c ∈ text, abcd c) ∧ ∀ H', Rf fa 5000 H H' → Q (.bl true) H'
set_option maxHeartbeats 8000000 in
theorem ok__law_paper {f : Addr} {fd : FuncData} (F : Fun K "_law_paper" "_law_paper" st__law_paper f fd) (M : Md K mg) (C__law_led : Cal P w K mg base "_law_led" st__law_led 1 ["lot", "text", "places"] sp_led) (C_no_cut_paper : Cal P w K mg base "no_cut_paper" st_no_cut_paper 6 ["lot", "text"] sp_paper) (C__law_list : Cal P w K mg base "_law_list" st__law_list 1 ["actual", "due"] (sp_list_same K)) (C__law_draw : Cal P w K mg base "_law_draw" st__law_draw 1 ["feed", "many"] sp_draw)
    (C__law_mixed : Cal P w K mg base "_law_mixed" st__law_mixed 2 ["feed", "things"] (sp_mixed K)) (C__law_odd : Cal P w K mg base "_law_odd" st__law_odd 3 ["feed", "text", "places"] sp_odd) (C__law_shows : Cal P w K mg base "_law_shows" st__law_shows 1 ["lot", "text", "thing"] sp_shows) (C__law_so : Cal P w K mg base "_law_so" st__law_so 1 ["actual", "due"] sp_law_so) (C_no_cut_holds : Cal P w K mg base "no_cut_holds" st_no_cut_holds 6 ["lot", "text", "thing"] sp_holds) : FnOkG P w K mg base 7 f fd ["feed", "lot", "text", "there"] sp_law_paper := by
  have nd := sc__law_paper.nd
  refine Fun.okG F sc__law_paper (fun vs H Q E h => ?_) (fun cdv A outer s H vs Q E hr hgd h => ?_)
  · obtain ⟨_, _, _, _, rfl, _⟩ := h
    rfl
  · obtain ⟨fa, pl, lot, text, rfl, G, hLA, h1, h2, k⟩ := h
    refine ⟨_, (pss_cons (ps_set (i := 4) nd rfl (Or.inr rfl) (pe_cl C__law_led hr (pa_cons (pv 1) (pa_cons (pv 2) (pa_cons (pe_lst (pa_cons pe_int pa_nil)) pa_nil)))))
  (pss_cons (ps_set (i := 5) nd rfl (Or.inl rfl) (pe_cl C_no_cut_paper hr (pa_cons (pv 1) (pa_cons (pv 2) pa_nil))))
  (pss_cut (ps_if (pt_val (pv 3))
  (pss_one (ps_if (pt_cmpR op_notN (pv 5) pe_non (nomark _))
  (pss_one (ps_ret pe_bl))
  pss_nil))
  (pss_cons (ps_if (pt_not (pt_val (pe_cl C__law_list hr (pa_cons (pv 5) (pa_cons (pv 4) pa_nil)))))
  (pss_one (ps_ret pe_bl))
  pss_nil)
  (pss_cons (ps_expr (kbm K (pe_bm PySem.F.plainAttrs_list PySem.F.slot_list_append PySem.F.type_list_append mt_append (pv 5) (pa_cons (pe_un un_neg pe_int) pa_nil))))
  (pss_one (ps_if (pt_not (pt_val (pe_cl C__law_list hr (pa_cons (pe_clK0 C_no_cut_paper (kb_no_cut_paper_1_0) hr (pk_cons (pv 2) (pk_cons (pv 1) pk_nil))) (pa_cons (pv 4) pa_nil)))))
  (pss_one (ps_ret pe_bl))
  pss_nil)))))
  (pss_cons (ps_set (i := 6) nd rfl (Or.inr rfl) (pe_cl C__law_led hr (pa_cons (pv 1) (pa_cons (pv 2) (pa_cons (pe_op op_cat (pe_lst (pa_cons pe_int pa_nil)) (pe_lc (own := [("turn", 7)]) rfl nd (pi_range1 (by rfl) M.n_range (pa_cons (pe_cl C__law_draw hr (pa_cons (pv 0) (pa_cons pe_int pa_nil))) pa_nil)) (blkOk_by (N := N__law_paper) (sc := defScope st__law_paper) (by decide +kernel)) (fun _ _ _ _ _ => (pg_name (i := 7) nd rfl (Or.inl rfl))) (fun _ _ _ _ _ => pts_nil) (fun _ _ _ _ _ => (pe_cl C__law_draw hr (pa_cons (pv 0) (pa_cons (pe_op op_add (pe_callB cr_lenT (by rfl) M.n_len boot_len (pa_cons (pv 2) pa_nil)) pe_int) pa_nil)))))) pa_nil)))))
  (pss_cons (ps_set (i := 8) nd rfl (Or.inl rfl) (pe_op op_cat (pe_lst (pa_cons (pv 4) (pa_cons (pe_cl C__law_mixed hr (pa_cons (pv 0) (pa_cons (pv 4) pa_nil))) (pa_cons (pv 6) pa_nil)))) (pe_lc (own := [("turn", 7)]) rfl nd (pi_range1 (by rfl) M.n_range (pa_cons pe_int pa_nil)) (blkOk_by (N := N__law_paper) (sc := defScope st__law_paper) (by decide +kernel)) (fun _ _ _ _ _ => (pg_name (i := 7) nd rfl (Or.inl rfl))) (fun _ _ _ _ _ => pts_nil) (fun _ _ _ _ _ => (pe_cl C__law_odd hr (pa_cons (pv 0) (pa_cons (pv 2) (pa_cons (pe_cl C__law_mixed hr (pa_cons (pv 0) (pa_cons (pe_ifExp (pt_cmpR op_eqI (pe_cl C__law_draw hr (pa_cons (pv 0) (pa_cons pe_int pa_nil))) pe_int (nomark _)) (pv 6) (pv 4)) pa_nil))) pa_nil))))))))
  (pss_cons (ps_for PassesOwn.never rfl (kil K (pi_list (pv 8))) (pg_name (i := 9) nd rfl (Or.inl rfl))
  (pss_cons (ps_par (i := 10) (j := 11) rfl nd rfl rfl (by decide) rfl rfl (pa_cons (pe_callB (kcr K (r := rReprD) (cr_reprD hgd hr.units)) (by rfl) M.n_repr boot_repr (pa_cons (pv 9) pa_nil)) (pa_cons (pe_cl C__law_shows hr (pa_cons (pv 1) (pa_cons (pv 2) (pa_cons (pv 9) pa_nil)))) pa_nil)) (by rfl))
  (pss_one (ps_if (PW.pt (pw_or (pt_not (pt_val (pe_cl C__law_so hr (pa_cons (pe_clK0 C_no_cut_holds (kb_no_cut_holds_2_1_0) hr (pk_cons (pv 9) (pk_cons (pv 2) (pk_cons (pv 1) pk_nil)))) (pa_cons (pv 11) pa_nil))))) (pw_or1 (pt_cmpR op_neT (pe_callB (kcr K (r := rReprD) (cr_reprD hgd hr.units)) (by rfl) M.n_repr boot_repr (pa_cons (pv 9) pa_nil)) (pv 10) (nomark _)))))
  (pss_one (ps_ret pe_bl))
  pss_nil))))
  (pss_one (ps_ret pe_bl)))))))), ?_⟩
    have hL := hLA.2
    have npl : pl ≠ fa := G.ofTup hLA.1
    refine q_wp (wp_led rfl rfl ((el_lst (ea_cons ev_c ea_nil) (by show 1 ≤ 100000; decide) : EvL (tLst (tCons (tC (.int 0)) tNil)) (start N__law_paper [.ref fa, .ref pl, T text, .bl (decide (0 < (cutsAt lot text 0).length))]) H [.int 0]) H (Ex.refl _) _ fun p0 H1 hp0 e1 h10 => ⟨pl, p0, lot, text, [0], rfl, hLA.ex e1, h1, h10, by decide, by decide, fun p hp => by rw [List.mem_singleton.mp hp]; exact Nat.zero_le _, fun ms hms p4 H2 hp4 e2 h24 => ?_⟩))
    obtain rfl := led_is hL.ps hms
    obtain ⟨lf, lb⟩ := reach_few (fun p hp => by rw [List.mem_singleton.mp hp]; exact Nat.zero_le _) hms
    have lne : ledL lot text ≠ [] := List.ne_nil_of_mem ((hms.mem 0).mpr (.base List.mem_cons_self))
    have e02 := e1.trans e2
    have n4 : p4 ≠ fa := (G.ex e1).new hp4
    show tSeq _ _ _ [some (.ref fa), some (.ref pl), some (T text), some (.bl (decide (0 < (cutsAt lot text 0).length))), some (.ref p4), none, none, none, none, none, none, none] H2
    refine q_wp (wp_paper rfl rfl (hLA.ex e02) h1 h2 fun v5 H3 e3 hf3 => ?_)
    have e03 := e02.trans e3
    have h34 := e3 _ _ h24
    show tCut _ _ _ [some (.ref fa), some (.ref pl), some (T text), some (.bl (decide (0 < (cutsAt lot text 0).length))), some (.ref p4), some v5, none, none, none, none, none, none] H3
    refine q_cut (M := fun σ' H' => ∃ v : V, σ' = [some (.ref fa), some (.ref pl), some (T text), some (.bl (decide (0 < (cutsAt lot text 0).length))), some (.ref p4), some v, none, none, none, none, none, none] ∧ Ex H2 H') ?_ ?_
    · rcases hf3 with ⟨hN, rfl⟩ | ⟨hN, p5, rfl, hp5, h35⟩
      · refine s_if (b := true) (et_is (et_B (ev_var rfl)) (decide_eq_true hN)) (fun _ H4 e4 => ?_) (fun z => by cases z)
        exact s_when (b := false) (et_is (et_test (ev_op (ev_var rfl) ev_c rv_notN)) rfl) (fun z => by cases z) (fun _ H5 e5 => ⟨.non, rfl, e3.trans (e4.trans e5)⟩)
      · refine s_if (b := false) (et_is (et_B (ev_var rfl)) (decide_eq_false (by rw [hN]; decide))) (fun z => by cases z) (fun _ H4 e4 => ?_)
        refine q_when (b := false) (et_is (et_not (et_B (ev_listVV (by omega) (ev_var rfl) (e4 _ _ h35) (ev_var rfl) (e4 _ _ h34)))) rfl) (fun z => by cases z) (fun _ H5 e5 => ?_)
        refine q_app ((e4.trans e5) _ _ h35) (ev_var rfl) (ev_un ev_c ru_neg) (by unfold numV; rw [List.length_map]; omega) fun H6 e6 => ?_
        have eM : Ex H2 (upd H6 p5 (.lst (numV (ledL lot text) ++ [.int (-1)]))) := Ex.mut (e3.trans (e4.trans (e5.trans e6))) hp5
        generalize upd H6 p5 (.lst (numV (ledL lot text) ++ [.int (-1)])) = H7 at eM ⊢
        refine s_when (b := false) (et_is (et_not (et_B (ev_listNV (by omega) (el_callK0 (ea_cons (ev_var rfl) (ea_cons (ev_var rfl) ea_nil)) fun H8 e8 Q8 q8 E => ⟨pl, lot, text, rfl, (hLA.ex (e02.trans eM)).ex e8, h1, h2, fun z => absurd z (by rw [hN]; decide), fun _ => q8⟩) (ev_var rfl) (eM _ _ h24)))) rfl) (fun z => by cases z) (fun _ H8 e8 => ⟨_, rfl, eM.trans e8⟩)
    · rintro σ4 H4 ⟨v, rfl, e4⟩
      have e04 := e02.trans e4
      have G4 := G.ex e04
      have h44 := e4 _ _ h24
      have hL4 := hLA.ex e04
      clear hf3 e3 e03 h34 h24 H3 v5
      refine q_wp (wp_led rfl rfl (wp_some h1 rfl (G4.mono (by omega)) (fun _ => rfl) (fun _ => rfl) (fun _ => rfl) fun p ns H5 R5 h5 hnl hnb => ⟨pl, p, lot, text, 0 :: ns, rfl, ⟨R5.at_ hL4.1 npl, hL⟩, h1, h5, List.cons_ne_nil _ _, by rw [List.length_cons]; omega, fun q hq => ?_, fun ms2 hms2 p6 H6 hp6 e6 h66 => ?_⟩))
      · rcases List.mem_cons.mp hq with z | z
        · rw [z]; exact Nat.zero_le _
        · exact hnb q z
      have hb2 : ∀ p ∈ (0 :: ns), p ≤ text.length := fun q hq => by
        rcases List.mem_cons.mp hq with z | z
        · rw [z]; exact Nat.zero_le _
        · exact hnb q z
      obtain ⟨lf2, lb2⟩ := reach_few hb2 hms2
      have lne2 : ms2 ≠ [] := List.ne_nil_of_mem ((hms2.mem 0).mpr (.base List.mem_cons_self))
      have R6 : Rf fa 4 H H6 := (Rf.pre e04 R5).then e6
      have n6 : p6 ≠ fa := (G4.go R5 (m' := 0) (by omega)).new hp6
      have h64 : H6 p4 = some (.lst (numV (ledL lot text))) := e6 _ _ (R5.at_ h44 n4)
      show tSeq _ _ _ [some (.ref fa), some (.ref pl), some (T text), some (.bl (decide (0 < (cutsAt lot text 0).length))), some (.ref p4), some v, some (.ref p6), none, none, none, none, none] H6
      refine q_wp (wp_things h1 rfl rfl rfl (fun _ => rfl) (fun _ => rfl) (fun _ => rfl) (fun _ => rfl) (fun _ => rfl) h64 h66 n4 n6 lne lne2 (by omega) (by omega) (fun m hm => by have := lb m hm; omega) (fun m hm => by have := lb2 m hm; omega) (G.go R6 (m' := 4000) (by omega)) fun p8 ts H7 R7 h78 hg hl => ?_)
      have RX : Rf fa 4004 H H7 := (R6.trans R7).mono (by omega)
      have hL7 : LotAt pl lot H7 := ⟨RX.at_ hLA.1 npl, hL⟩
      show tSeq _ _ _ [some (.ref fa), some (.ref pl), some (T text), some (.bl (decide (0 < (cutsAt lot text 0).length))), some (.ref p4), some v, some (.ref p6), none, some (.ref p8), none, none, none] H7
      refine q_forW (fun _ => False) (src_list (ev_var rfl) (sq_of h78)) (fun _ z => z.elim)
        (fun Hs i σ' H' => ∃ (v9 v10 v11 : Option V), σ' = [some (.ref fa), some (.ref pl), some (T text), some (.bl (decide (0 < (cutsAt lot text 0).length))), some (.ref p4), some v, some (.ref p6), none, some (.ref p8), v9, v10, v11] ∧ Ex Hs H') ?_ ?_ ?_ ?_ ?_
      · intro Hs e
        exact ⟨_, _, _, rfl, Ex.refl _⟩
      · rintro Hs i σ' H' ⟨_, _, _, _, z⟩
        exact .of z
      · rintro Hs i σ' Ha Hb ⟨v9, v10, v11, z0, z1⟩ e
        exact ⟨v9, v10, v11, z0, z1.trans e⟩
      · rintro Hs i y σ' H' e hi ⟨v9, v10, v11, rfl, z1⟩ hy
        have eA := e.trans z1
        obtain ⟨d, hd0, hf⟩ := hg y (List.mem_of_getElem? hy)
        have hd := hd0.ex eA
        have hLx := hL7.ex eA
        have rr : ∀ {Hx : Hp}, Ex H' Hx → RC (rReprD K) [y] Hx (T d.shown.cps.toList) := fun ex => rc_reprD (fun H1 e1 => ((hd.ex ex).ex e1).dp) hf.sh hf.nd hf.dp hf.ln
        show tSeq _ _ _ [some (.ref fa), some (.ref pl), some (T text), some (.bl (decide (0 < (cutsAt lot text 0).length))), some (.ref p4), some v, some (.ref p6), none, some (.ref p8), some y, v10, v11] H'
        refine q_parEE (v := .bl (showsD lot text d)) (ev_cb (ea_cons (ev_var rfl) ea_nil) (rr (Ex.refl _))) (ev_call (ea_cons (ev_var rfl) (ea_cons (ev_var rfl) (ea_cons (ev_var rfl) ea_nil))) fun H6 e6 Q6 q6 E => ⟨pl, lot, text, y, d, rfl, hLx.ex e6, h1, hd.ex e6, hf.few, q6⟩) fun H8 e8 => ?_
        show tIfS _ _ _ _ [some (.ref fa), some (.ref pl), some (T text), some (.bl (decide (0 < (cutsAt lot text 0).length))), some (.ref p4), some v, some (.ref p6), none, some (.ref p8), some y, some (T d.shown.cps.toList), some (.bl (showsD lot text d))] H8
        refine s_when (b := false) (et_is (et_or (et_not (et_B (ev_is (ev_call (ea_cons (ev_callK0 (z := .bl (showsD lot text d)) (ea_cons (ev_var rfl) (ea_cons (ev_var rfl) (ea_cons (ev_var rfl) ea_nil))) fun H6 e6 Q6 q6 E => ⟨pl, lot, text, y, d, rfl, hLx.ex (e8.trans e6), h1, h2, hd.ex (e8.trans e6), hf.few, q6⟩) (ea_cons (ev_var rfl) ea_nil)) fun H6 e6 Q6 q6 E => ⟨_, _, rfl, q6⟩) (by rw [decide_eq_true rfl])))) fun _ => et_test (ev_op (ev_cb (ea_cons (ev_var rfl) ea_nil) (rr e8)) (ev_var rfl) rv_neT)) (by rw [decide_eq_true rfl]; rfl)) (fun z => by cases z) (fun _ H9 e9 => ⟨_, _, _, rfl, z1.trans (e8.trans e9)⟩)
      · rintro Hs σ' H' e ⟨v9, v10, v11, rfl, z1⟩
        exact s_ret ev_c fun H8 e8 => k H8 ((RX.then (e.trans (z1.trans e8))).mono (by omega))
end
end K04
set_option Elab.async false
set_option linter.all false
set_option maxRecDepth 100000
set_option maxHeartbeats 4000000
namespace K04
open PySem PySem.Spec PyProof.Rows L2 Evl Wc Wt Wg _root_.Wd
theorem kb_cut_places_1_0 : KB "cut_places" st_cut_places 0 ["lot", "text"] ["text", "lot"] (sw2 true) (sw2 true) := kb2 true rfl (fun _ _ _ _ _ _ a b => rfl)
theorem kb_sure_places_1_0 : KB "sure_places" st_sure_places 0 ["lot", "text"] ["text", "lot"] (sw2 true) (sw2 true) := kb2 true rfl (fun _ _ _ _ _ _ a b => rfl)
theorem kb_words_used_1_0 : KB "words_used" st_words_used 0 ["lot", "text"] ["text", "lot"] (sw2 true) (sw2 true) := kb2 true rfl (fun _ _ _ _ _ _ a b => rfl)
section
variable {K : PySem.W.Frag} {σ : L2.St} {H : Hp} {te ta tb : TE}
theorem el_listT {p : Addr} {xs : List V} (h : Ev te σ H (.ref p)) (hp : H p = some (.tup xs)) : EvL (tCB (rListS K) (tCons te tNil)) σ H xs := fun H1 e Q q => h H1 e _ fun H2 e2 => ⟨p, xs, rfl, .inr (st_of ((e.trans e2) _ _ hp)), fun r hr => q r _ (fresh_back e2 hr) (e2.trans (Ex.new hr)) upd_same⟩
theorem et_neTup {c : List Nat} {q : Addr} (h1 : EvU ta σ H (numV c)) (h2 : Ev tb σ H (.ref q)) (hq : H q = some (.tup (numV c))) : EvT (tTest (tOp (rNeD K) ta tb)) σ H false := fun H1 e Q k =>
  h1 H1 e _ fun p H2 hp e2 hp2 => h2 H2 (e.trans e2) _ fun H3 e3 => by
    have hdp : ∀ {H : Hp} {a : Addr}, H a = some (.tup (numV c)) → Dp K H (.ref a) (.tuple (c.map fun (n : Nat) => PyData.int (n : Int))) := fun {H a} h => .tup (st_of h) (DhAll.dp (DhAll.nums (H := H) c))
    obtain ⟨l1, l2⟩ := lay_c c
    have hsh : SeqAt.shaped (.tuple (c.map fun (n : Nat) => PyData.int (n : Int))) = true := by
      unfold SeqAt.shaped
      rw [PyData.canLay0, l1, PyData.depth, l2]
      rfl
    refine ⟨_, _, hdp (e3 _ _ hp2), hdp (((e.trans e2).trans e3) _ _ hq), hsh, hsh, false, ?_, k H3 (e2.trans e3)⟩
    rw [SeqAt.eqv_refl _ (by rw [PyData.canLay0, l1])]
    rfl
theorem el_asgL {i : Nat} {xs : List V} {D : Ends} {tz : TS} (h : EvL te σ H xs) (k : ∀ p H1, H p = none → Ex H H1 → H1 p = some (.lst xs) → tz D (σ.set i (some (.ref p))) H1) : tSeq (tAsg te (gName i)) tz D σ H := h H (Ex.refl _) _ k
end
section
variable {P : Program} {w : World} {K : PySem.W.Frag} {mg : Str → Option Value} {base : Heap}
def sp_law_right : Sp := fun vs H Q _ => ∃ (fa : Addr), vs = [.ref fa] ∧ GF fa 30000 H ∧ ∀ H', Rf fa 30000 H H' → Q (.bl true) H'
set_option maxHeartbeats 16000000 in
theorem ok__law_right {f : Addr} {fd : FuncData} (F : Fun K "_law_right" "_law_right" st__law_right f fd) (M : Md K mg) (C__law_case : Cal P w K mg base "_law_case" st__law_case 5 ["feed"] sp_case) (C__law_ahead : Cal P w K mg base "_law_ahead" st__law_ahead 1 ["lot", "text"] sp_ahead) (C__law_behind : Cal P w K mg base "_law_behind" st__law_behind 2 ["lot", "text"] sp_behind) (C__law_counted : Cal P w K mg base "_law_counted" st__law_counted 1 ["lot", "text", "ahead", "behind"] sp_counted)
    (C__law_tried : Cal P w K mg base "_law_tried" st__law_tried 1 ["lot", "text", "cuts"] sp_tried) (C__law_all : Cal P w K mg base "_law_all" st__law_all 1 ["lot", "text", "behind", "most"] sp_all) (C_cut_places : Cal P w K mg base "cut_places" st_cut_places 6 ["lot", "text"] sp_cut_places) (C__law_list : Cal P w K mg base "_law_list" st__law_list 1 ["actual", "due"] (sp_list_same K)) (C_sure_places : Cal P w K mg base "sure_places" st_sure_places 6 ["lot", "text"] sp_sure)
    (C_words_used : Cal P w K mg base "words_used" st_words_used 6 ["lot", "text"] sp_words_used) (C__law_paper : CalG P w K mg base "_law_paper" st__law_paper 7 ["feed", "lot", "text", "there"] sp_law_paper) : FnOkG P w K mg base 8 f fd ["feed"] sp_law_right := by
  have nd := sc__law_right.nd
  refine Fun.okG F sc__law_right (fun vs H Q E h => ?_) (fun cdv A outer s H vs Q E hr hgd h => ?_)
  · obtain ⟨_, rfl, _⟩ := h
    rfl
  · obtain ⟨fa, rfl, G, k⟩ := h
    refine ⟨_, (pss_cons (ps_asg (pe_cl C__law_case hr (pa_cons (pv 0) pa_nil)) (kgl K (n := 2) (pg_lst rfl (pgs_cons (pg_name (i := 1) nd rfl (Or.inl rfl)) (pgs_cons (pg_name (i := 2) nd rfl (Or.inl rfl)) pgs_nil)))))
  (pss_cons (ps_par (i := 3) (j := 4) rfl nd rfl rfl (by decide) rfl rfl (pa_cons (pe_cl C__law_ahead hr (pa_cons (pv 1) (pa_cons (pv 2) pa_nil))) (pa_cons (pe_cl C__law_behind hr (pa_cons (pv 1) (pa_cons (pv 2) pa_nil))) pa_nil)) (by rfl))
  (pss_cons (ps_set (i := 5) nd rfl (Or.inr rfl) (pe_ix (kix K (r := L2.rIxL) ix_list) (pv 3) (pe_un un_neg pe_int) (fun _ _ => rfl)))
  (pss_cons (ps_asg (pe_cl C__law_counted hr (pa_cons (pv 1) (pa_cons (pv 2) (pa_cons (pv 3) (pa_cons (pv 4) pa_nil))))) (kgt K (n := 2) (pg_tup rfl (pgs_cons (pg_name (i := 6) nd rfl (Or.inr rfl)) (pgs_cons (pg_name (i := 7) nd rfl (Or.inl rfl)) pgs_nil)))))
  (pss_cut (ps_if (pt_cmpR op_le (pv 5) pe_int (nomark _))
  (pss_one (ps_asg (pe_cl C__law_tried hr (pa_cons (pv 1) (pa_cons (pv 2) (pa_cons (pe_cl C__law_all hr (pa_cons (pv 1) (pa_cons (pv 2) (pa_cons (pv 4) (pa_cons (pv 5) pa_nil))))) pa_nil)))) (kgt K (n := 2) (pg_tup rfl (pgs_cons (pg_name (i := 6) nd rfl (Or.inr rfl)) (pgs_cons (pg_name (i := 7) nd rfl (Or.inl rfl)) pgs_nil))))))
  pss_nil)
  (pss_cons (ps_set (i := 8) nd rfl (Or.inl rfl) (pe_cl C_cut_places hr (pa_cons (pv 1) (pa_cons (pv 2) pa_nil))))
  (pss_cons (ps_if (PW.pt (pw_or (pt_not (pt_val (pe_callB (kcr K (r := rIsiB) cr_isi) (by rfl) M.n_isinstance boot_isinstance (pa_cons (pv 8) (pa_cons (pe_bltn (v := .ty "tuple") rfl M.n_tuple boot_tuple rfl) pa_nil))))) (pw_or (pt_not (pt_val (pe_cl C__law_list hr (pa_cons (pe_callTy (kcr K (r := rListS) call_list_of) (by rfl) M.n_list boot_list (pa_cons (pv 8) pa_nil)) (pa_cons (pv 6) pa_nil))))) (pw_or1 (pt_cmpR (kop K (r := rNeD) (op_neD hr.units)) (pe_clK0 C_cut_places (kb_cut_places_1_0) hr (pk_cons (pv 2) (pk_cons (pv 1) pk_nil))) (pv 8) (nomark _))))))
  (pss_one (ps_ret pe_bl))
  pss_nil)
  (pss_cons (ps_setLc (i := 9) (own := [("place", 10)]) rfl nd rfl rfl (sw_true rfl rfl rfl (by decide +kernel)) (pi_range1 (by rfl) M.n_range (pa_cons (pe_op op_add (pe_callB cr_lenT (by rfl) M.n_len boot_len (pa_cons (pv 2) pa_nil)) pe_int) pa_nil)) (blkOk_by (N := N__law_right) (sc := defScope st__law_right) (by decide +kernel)) (fun _ _ _ _ _ => (pg_name (i := 10) nd rfl (Or.inl rfl))) (fun _ _ _ _ _ => (pts_one (PW.pt (pw_and (pt_cmpR op_eqI (pe_ix (kix K (r := L2.rIxL) ix_list) (pv 6) (pv 10) (fun _ _ => rfl)) (pv 5) (nomark _)) (pw_and1 (pt_cmpR op_gt (pv 5) pe_int (nomark _))))))) (fun _ _ _ _ _ => (pv 10)))
  (pss_cons (ps_set (i := 11) nd rfl (Or.inl rfl) (pe_cl C_sure_places hr (pa_cons (pv 1) (pa_cons (pv 2) pa_nil))))
  (pss_cons (ps_if (pt_not (pt_val (pe_cl C__law_list hr (pa_cons (pv 11) (pa_cons (pv 9) pa_nil)))))
  (pss_one (ps_ret pe_bl))
  pss_nil)
  (pss_cons (ps_expr (kbm K (pe_bm PySem.F.plainAttrs_list PySem.F.slot_list_append PySem.F.type_list_append mt_append (pv 11) (pa_cons (pe_un un_neg pe_int) pa_nil))))
  (pss_cons (ps_if (pt_not (pt_val (pe_cl C__law_list hr (pa_cons (pe_clK0 C_sure_places (kb_sure_places_1_0) hr (pk_cons (pv 2) (pk_cons (pv 1) pk_nil))) (pa_cons (pv 9) pa_nil)))))
  (pss_one (ps_ret pe_bl))
  pss_nil)
  (pss_cons (ps_set (i := 12) nd rfl (Or.inl rfl) (pe_clK0 C_words_used (kb_words_used_1_0) hr (pk_cons (pv 2) (pk_cons (pv 1) pk_nil))))
  (pss_cons (ps_if (PW.pt (pw_or (pt_not (pt_val (pe_callB (kcr K (r := rIsiB) cr_isi) (by rfl) M.n_isinstance boot_isinstance (pa_cons (pv 12) (pa_cons (pe_bltn (v := .ty "tuple") rfl M.n_tuple boot_tuple rfl) pa_nil))))) (pw_or1 (pt_not (pt_val (pe_cl C__law_list hr (pa_cons (pe_callTy (kcr K (r := rListS) call_list_of) (by rfl) M.n_list boot_list (pa_cons (pv 12) pa_nil)) (pa_cons (pv 7) pa_nil))))))))
  (pss_one (ps_ret pe_bl))
  pss_nil)
  (pss_one (ps_ret (pe_clG C__law_paper hr hgd (pa_cons (pv 0) (pa_cons (pv 1) (pa_cons (pv 2) (pa_cons (pe_cmpR op_gt (pv 5) pe_int (nomark _)) pa_nil))))))))))))))))))))), ?_⟩
    refine ⟨.ref fa, rfl, fa, rfl, G.mono (by omega), fun q pl lot text H1 R1 hLA h1 h2 hq => ⟨q, _, rfl, sq_of hq, rfl, .ref pl, [T text], rfl, T text, [], rfl, rfl, ?_⟩⟩
    have hL := hLA.2
    have npl : pl ≠ fa := (G.go R1 (m' := 0) (by omega)).ofTup hLA.1
    clear hq
    dsimp only
    show tSeq _ _ _ [some (.ref fa), some (.ref pl), some (T text), none, none, none, none, none, none, none, none, none, none] H1
    refine q_par2 ⟨.ref pl, rfl, T text, rfl, pl, lot, text, rfl, .inl hLA.1, hL.wds, h1, fun pa H2 hpa e2 ha2 => ⟨.ref pl, rfl, T text, rfl, pl, lot, text, rfl, hLA.ex e2, h1, fun pb H3 hpb e3 hb3 => ⟨_, _, rfl, ?_⟩⟩⟩
    have ha3 := e3 _ _ ha2
    have e13 := e2.trans e3
    have hLB := hLA.ex e13
    show tSeq _ _ _ [some (.ref fa), some (.ref pl), some (T text), some (.ref pa), some (.ref pb), none, none, none, none, none, none, none, none] H3
    have hlast : atI (aheadL lot text) (-1) = some (.int ((cutsAt lot text 0).length : Int)) := by
      unfold aheadL
      rw [List.range_succ, List.map_append, List.map_singleton, atI_last, count_pre hL.ps]
    refine q_asg (ev_op (ev_var rfl) (ev_un ev_c ru_neg) (rv_ixL (sq_of ha3) hlast)) fun H4 e4 => ?_
    show tSeq _ _ _ [some (.ref fa), some (.ref pl), some (T text), some (.ref pa), some (.ref pb), some (.int ((cutsAt lot text 0).length : Int)), none, none, none, none, none, none, none] H4
    have ha4 := e4 _ _ ha3
    have hb4 := e4 _ _ hb3
    have e14 := e13.trans e4
    refine ⟨.ref pl, rfl, T text, rfl, .ref pa, rfl, .ref pb, rfl, pl, pa, pb, lot, text, rfl, hLA.ex e14, h1, ha4, hb4, fun p q r H5 e5 hp hq hr => ⟨p, _, rfl, st_of hp, rfl, .ref q, [.ref r], rfl, .ref r, [], rfl, rfl, ?_⟩⟩
    have e15 := e14.trans e5
    show tCut _ _ _ [some (.ref fa), some (.ref pl), some (T text), some (.ref pa), some (.ref pb), some (.int ((cutsAt lot text 0).length : Int)), some (.ref q), some (.ref r), none, none, none, none, none] H5
    refine q_cut (M := fun σ' H' => ∃ q r : Addr, σ' = [some (.ref fa), some (.ref pl), some (T text), some (.ref pa), some (.ref pb), some (.int ((cutsAt lot text 0).length : Int)), some (.ref q), some (.ref r), none, none, none, none, none] ∧ Ex H1 H' ∧ H' q = some (.lst (numV (thruL lot text))) ∧ H' r = some (.lst (numV (usedL lot text)))) ?_ ?_
    · refine s_when (et_test (ev_op (ev_var rfl) ev_c rv_I0)) (fun hb H6 e6 => ?_) (fun hb H6 e6 => ⟨q, r, rfl, e15.trans e6, e6 _ _ hq, e6 _ _ hr⟩)
      have h60 : (cutsAt lot text 0).length ≤ 60 := by have := of_decide_eq_true hb; omega
      have e16 := e15.trans e6
      refine ⟨.ref pl, rfl, T text, rfl, .ref pl, rfl, T text, rfl, .ref pb, rfl, .int ((cutsAt lot text 0).length : Int), rfl, pl, pb, lot, text, (cutsAt lot text 0).length, rfl, hLA.ex e16, h1, e6 _ _ (e5 _ _ hb4), Nat.le_refl _, by omega, fun qc H7 ps hqc e7 hqc7 hal => ?_⟩
      rw [List.take_length] at hal
      exact ⟨pl, qc, lot, text, ps, rfl, hLA.ex (e16.trans e7), h1, hqc7, hal.mono fun a b r => r.1, by omega, fun p q r H8 e8 hp hq hr => ⟨p, _, rfl, st_of hp, rfl, .ref q, [.ref r], rfl, .ref r, [], rfl, rfl, q, r, rfl, e16.trans (e7.trans e8), hq, hr⟩⟩
    · rintro σ6 H6 ⟨q, r, rfl, e16, hq, hr⟩
      clear hp
      have hLC := hLA.ex e16
      refine ⟨.ref pl, rfl, T text, rfl, pl, lot, text, rfl, hLC, h1, h2, fun pt H7 hpt e7 ht => ?_⟩
      have e17 := e16.trans e7
      have hLD := hLC.ex e7
      have hthl : (thruL lot text).length ≤ 1000 := by unfold thruL; rw [List.length_map, List.length_range]; omega
      have hul : (usedL lot text).length ≤ 1000 := by
        have := List.length_filter_le (usedB lot text) (List.range lot.length)
        rw [List.length_range] at this
        have := hL.few
        unfold usedL asc
        omega
      show tSeq _ _ _ [some (.ref fa), some (.ref pl), some (T text), some (.ref pa), some (.ref pb), some (.int ((cutsAt lot text 0).length : Int)), some (.ref q), some (.ref r), some (.ref pt), none, none, none, none] H7
      refine q_when (b := false) (et_is (et_or (et_not (et_B (ev_cb (ea_cons (ev_var rfl) (ea_cons ev_c ea_nil)) (rc_isi (fun H1 e1 => .base (.tup (e1 _ _ ht))) k_tuple_tuple)))) fun _ => et_or (et_not (et_B (ev_listNV hthl (el_listT (ev_var rfl) ht) (ev_var rfl) (e7 _ _ hq)))) fun _ => et_neTup (fun H8 e8 Q8 q8 => ⟨T text, rfl, .ref pl, rfl, pl, lot, text, rfl, hLD.ex e8, h1, h2, q8⟩) (ev_var rfl) ht) rfl) (fun z => by cases z) (fun _ H8 e8 => ?_)
      have hq8 := e8 _ _ (e7 _ _ hq)
      have hr8 := e8 _ _ (e7 _ _ hr)
      have e18 := e17.trans e8
      have lenT : ∀ {σ : L2.St} {H' : Hp}, σ[2]? = some (some (T text)) → Ev (tCB rLenT (tCons (tVar 2) tNil)) σ H' (.int (text.length : Int)) := fun h0 => ev_cb (ea_cons (ev_var h0) ea_nil) (rc_lenT (by omega))
      refine el_asgL (el_lcF (f := fun (n : Nat) => V.int (n : Int)) (g := fun (n : Nat) => V.int (n : Int)) (p := fun p => decide ((preAt lot text p).length * (cutsAt lot text p).length = (cutsAt lot text 0).length) && decide (0 < (cutsAt lot text 0).length)) (List.range (text.length + 1)) (src_range1L (n := text.length + 1) (ea_cons (ev_op (lenT rfl) ev_c rv_I0) ea_nil) (by omega)) (by rw [List.length_range]; omega) (fun _ => rfl) (fun p H9 e9 hp => ?_) (fun p H9 e9 hp _ => ev_var rfl)) fun ps H9 hps e9 hs9 => ?_
      · have hp' := List.mem_range.mp hp
        exact et_and (et_is (et_test (ev_op (ev_op (ev_var rfl) (ev_var rfl) (rv_ixL (sq_of (e9 _ _ hq8)) (atI_nat (thru_at (by omega))))) (ev_var rfl) rv_I0)) (decide_eq_decide.mpr ⟨fun z => Int.ofNat.inj z, fun z => congrArg _ z⟩)) fun _ => et_is (et_test (ev_op (ev_var rfl) ev_c rv_I0)) (decide_eq_decide.mpr (by omega))
      have hs9 : H9 ps = some (.lst (numV (sureL lot text))) := hs9
      have e19 := e18.trans e9
      have hsl : (sureL lot text).length ≤ 1000 := by
        unfold sureL asc
        refine Nat.le_trans (List.length_filter_le _ _) ?_
        rw [List.length_range]
        omega
      show tSeq _ _ _ [some (.ref fa), some (.ref pl), some (T text), some (.ref pa), some (.ref pb), some (.int ((cutsAt lot text 0).length : Int)), some (.ref q), some (.ref r), some (.ref pt), some (.ref ps), none, none, none] H9
      refine ⟨.ref pl, rfl, T text, rfl, pl, lot, text, rfl, hLA.ex e19, h1, h2, fun pf H10 hpf e10 hf10 => ?_⟩
      show tSeq _ _ _ [some (.ref fa), some (.ref pl), some (T text), some (.ref pa), some (.ref pb), some (.int ((cutsAt lot text 0).length : Int)), some (.ref q), some (.ref r), some (.ref pt), some (.ref ps), none, some (.ref pf), none] H10
      refine q_when (b := false) (et_is (et_not (et_B (ev_listVV hsl (ev_var rfl) hf10 (ev_var rfl) (e10 _ _ hs9)))) rfl) (fun z => by cases z) (fun _ H11 e11 => ?_)
      refine q_app (e11 _ _ hf10) (ev_var rfl) (ev_un ev_c ru_neg) (by unfold numV; rw [List.length_map]; omega) fun H12 e12 => ?_
      have eM : Ex H9 (upd H12 pf (.lst (numV (sureL lot text) ++ [.int (-1)]))) := Ex.mut (e10.trans (e11.trans e12)) hpf
      generalize upd H12 pf (.lst (numV (sureL lot text) ++ [.int (-1)])) = H13 at eM ⊢
      have e1D := e19.trans eM
      have hLE := hLA.ex e1D
      refine q_when (b := false) (et_is (et_not (et_B (ev_listNV hsl (el_callK0 (ea_cons (ev_var rfl) (ea_cons (ev_var rfl) ea_nil)) fun H8 e8 Q8 q8 E => ⟨pl, lot, text, rfl, hLE.ex e8, h1, h2, q8⟩) (ev_var rfl) (eM _ _ hs9)))) rfl) (fun z => by cases z) (fun _ H14 e14' => ?_)
      refine ⟨T text, rfl, .ref pl, rfl, pl, lot, text, rfl, hLE.ex e14', h1, h2, fun pu H15 hpu e15' hu => ?_⟩
      have e1F := e1D.trans (e14'.trans e15')
      show tSeq _ _ _ [some (.ref fa), some (.ref pl), some (T text), some (.ref pa), some (.ref pb), some (.int ((cutsAt lot text 0).length : Int)), some (.ref q), some (.ref r), some (.ref pt), some (.ref ps), none, some (.ref pf), some (.ref pu)] H15
      refine q_when (b := false) (et_is (et_or (et_not (et_B (ev_cb (ea_cons (ev_var rfl) (ea_cons ev_c ea_nil)) (rc_isi (fun H1 e1 => .base (.tup (e1 _ _ hu))) k_tuple_tuple)))) fun _ => et_not (et_B (ev_listNV hul (el_listT (ev_var rfl) hu) (ev_var rfl) ((e9.trans (eM.trans (e14'.trans e15'))) _ _ hr8)))) rfl) (fun z => by cases z) (fun _ H16 e16' => ?_)
      have RZ : Rf fa 22000 H H16 := R1.then (e1F.trans e16')
      have hv : V.bl (decide ((0 : Int) < ((cutsAt lot text 0).length : Int))) = V.bl (decide (0 < (cutsAt lot text 0).length)) := congrArg V.bl (decide_eq_decide.mpr (by omega))
      exact ⟨.ref fa, rfl, .ref pl, rfl, T text, rfl, .int ((cutsAt lot text 0).length : Int), rfl, _, _, rfl, rfl, fa, pl, lot, text, by rw [← hv]; rfl, G.go RZ (by omega), hLA.ex (e1F.trans e16'), h1, h2, fun H' R => k H' ((RZ.trans R).mono (by omega))⟩
end
end K04
set_option Elab.async false
set_option linter.all false
set_option maxRecDepth 100000
set_option maxHeartbeats 2000000
namespace K04
open PySem PySem.Spec PyProof.Rows L2 Evl Wc Wt Wg
section
variable {P : Program} {w : World} {K : PySem.W.Frag} {mg : Str → Option Value} {base : Heap}
def sp_law (K : PySem.W.Frag) : Sp := fun vs H Q _ => ∃ (a : Addr) (ns : List Int) (e : Nat), vs = [.ref a] ∧ SqL K H a (ns.map V.int) ∧ ns.length ≤ 63 ∧ 1 ≤ e ∧ e ≤ 1100000 ∧ (∀ z ∈ ns, z.natAbs < 2 ^ e) ∧ ∀ H', Q (.bl true) H'
theorem ok_law {f : Addr} {fd : FuncData} (F : Fun K "law" "law" st_law f fd) (M : Md K mg) (C__law_feed : Cal P w K mg base "_law_feed" st__law_feed 1 ["script", "k"] (sp_feed K)) (C__law_right : CalG P w K mg base "_law_right" st__law_right 8 ["feed"] sp_law_right) : FnOkG P w K mg base 9 f fd ["script"] (sp_law K) := by
  have nd := sc_law.nd
  refine Fun.okG F sc_law (fun vs H Q E h => ?_) (fun cdv A outer s H vs Q E hr hgd h => ?_)
  · obtain ⟨_, _, _, rfl, _⟩ := h
    rfl
  · obtain ⟨a, ns, e, rfl, hS, hlen, he1, he2, hz, k⟩ := h
    refine ⟨_, (pss_cons (ps_for PassesOwn.never rfl (pi_range1 (by rfl) M.n_range (pa_cons (pe_callB (call_max2 rfl) (by rfl) M.n_max boot_max (pa_cons pe_int (pa_cons (pe_callB (call_min2 rfl) (by rfl) M.n_min boot_min (pa_cons (pe_callB (kcr K (r := rLenS) call_len_seq) (by rfl) M.n_len boot_len (pa_cons (pv 0) pa_nil)) (pa_cons pe_int pa_nil))) pa_nil))) pa_nil)) (pg_name (i := 1) nd rfl (Or.inl rfl))
  (pss_one (ps_if (pt_not (pt_val (pe_clG C__law_right hr hgd (pa_cons (pe_cl C__law_feed hr (pa_cons (pv 0) (pa_cons (pv 1) pa_nil))) pa_nil))))
  (pss_one (ps_ret pe_bl))
  pss_nil)))
  (pss_one (ps_ret pe_bl))), ?_⟩
    obtain ⟨n, hn6, hn⟩ : ∃ n : Nat, n ≤ 5 ∧ (if (if (5 : Int) < ((ns.map V.int).length : Int) then (5 : Int) else ((ns.map V.int).length : Int)) > 1 then (if (5 : Int) < ((ns.map V.int).length : Int) then (5 : Int) else ((ns.map V.int).length : Int)) else 1) = (n : Int) := by
      refine ⟨max 1 (min ns.length 5), by omega, ?_⟩
      rw [List.length_map]
      split <;> split <;> omega
    have hcnt : EvA (tCons (tCB rMax2 (tCons (tC (.int 1)) (tCons (tCB rMin2 (tCons (tCB (rLenS K) (tCons (tVar 0) tNil)) (tCons (tC (.int 5)) tNil))) tNil))) tNil) (start N_law [.ref a]) H [.int (n : Int)] :=
      ea_cons (ev_is (ev_max2 ev_c (ev_min2 (ev_len (ev_var rfl) hS) ev_c)) (by rw [hn])) ea_nil
    refine q_forW (fun _ => False) (src_range1 (n := n) hcnt (by omega)) (fun _ z => z.elim)
      (fun Hs i σ' H' => ∃ v1 : Option V, σ' = [some (.ref a), v1] ∧ Ex Hs H') ?_ ?_ ?_ ?_ ?_
    · intro Hs e
      exact ⟨none, rfl, Ex.refl _⟩
    · rintro Hs i σ' H' ⟨_, _, h1⟩
      exact .of h1
    · rintro Hs i σ' Ha Hb ⟨v1, h0, h1⟩ e
      exact ⟨v1, h0, h1.trans e⟩
    · rintro Hs i x σ' H' e0 hi ⟨v1, rfl, h1⟩ rfl
      have eA : Ex H H' := e0.trans h1
      show tIfS _ _ _ _ [some (.ref a), some (.int (i : Int))] H'
      refine ⟨.ref a, rfl, .int (i : Int), rfl, a, ns, i, e, rfl, ex_l eA hS, by omega, he1, he2, hz, fun fa H2 hfa e2 hF => ?_⟩
      have G0 : GF fa 30000 H2 := ⟨0, by decide, hF⟩
      exact ⟨fa, rfl, G0, fun H3 R3 => ⟨true, rfl, ⟨_, rfl, h1.trans (ex_of_exc e2 hfa R3.keep)⟩⟩⟩
    · rintro Hs σ' H' e0 ⟨v1, rfl, h1⟩
      exact s_ret ev_c fun H2 e2 => k H2
end
end K04
set_option Elab.async false
set_option linter.all false
set_option maxRecDepth 100000
set_option maxHeartbeats 2000000
namespace K04
open PySem PySem.Spec PyProof.Rows L2 Evl Wc Wt Wg
/-- a def of the top, as it stands -/
def Top (K : PySem.W.Frag) (x : Str) (st : Stmt) : Prop := ∃ (f : Addr) (oc : Value) (od an : Option Addr) (osl : Array (Option Value)) (kV doc pm cdv ct : Value), PySem.W.nsIn K mainGlobals x = some (some (.ref f)) ∧ K.lookup f = some ⟨oc, od, .func (PySem.W.fnOf x x (defArgs st) (defBody st) (defScope st) .none kV doc pm an cdv ct), osl⟩ ∧ PySem.W.codeIn K cdv x = true ∧ PySem.W.keepIn K (.ref f) = true
theorem top_mk {K : PySem.W.Frag} {x : Str} {st : Stmt} {f : Addr} {oc : Value} {od an : Option Addr} {osl : Array (Option Value)} {kV doc pm cdv ct : Value} (a : PySem.W.nsIn K mainGlobals x = some (some (.ref f))) (l : K.lookup f = some ⟨oc, od, .func (PySem.W.fnOf x x (defArgs st) (defBody st) (defScope st) .none kV doc pm an cdv ct), osl⟩) (c : PySem.W.codeIn K cdv x = true) (k : PySem.W.keepIn K (.ref f) = true) : Top K x st := ⟨f, oc, od, an, osl, kV, doc, pm, cdv, ct, a, l, c, k⟩
section
variable {P : Program} {w : World} {K : PySem.W.Frag} {mg : Str → Option Value} {base h : Heap} {x : Str} {st : Stmt} {k : Nat} {ps : List Str} {sp : Sp}
theorem Top.cal (T : Top K x st) (X : K.In h) (G : h.Ns mainGlobals mg)
    (hb : ∀ (kV doc pm : Value) (an : Option Addr) (cdv ct : Value) (us : List Value), us.length = ps.length → bindArgs (PySem.W.fnOf x x (defArgs st) (defBody st) (defScope st) .none kV doc pm an cdv ct) ⟨us, []⟩ = pure (ps.zip us))
    (ok : ∀ f fd, Fun K x x st f fd → FnOk P w K mg base CX0 k f fd ps sp) : Cal P w K mg base x st k ps sp := by
  obtain ⟨f, oc, od, an, osl, kV, doc, pm, cdv, ct, a, l, c, k⟩ := T
  have F := fun_mk (st := st) l c k
  exact ⟨f, _, ok _ _ F, PySem.W.mg_of X G a, F, F.binds hb⟩
theorem Top.calG (T : Top K x st) (X : K.In h) (G : h.Ns mainGlobals mg)
    (hb : ∀ (kV doc pm : Value) (an : Option Addr) (cdv ct : Value) (us : List Value), us.length = ps.length → bindArgs (PySem.W.fnOf x x (defArgs st) (defBody st) (defScope st) .none kV doc pm an cdv ct) ⟨us, []⟩ = pure (ps.zip us))
    (ok : ∀ f fd, Fun K x x st f fd → FnOkG P w K mg base k f fd ps sp) : CalG P w K mg base x st k ps sp := by
  obtain ⟨f, oc, od, an, osl, kV, doc, pm, cdv, ct, a, l, c, k⟩ := T
  have F := fun_mk (st := st) l c k
  exact ⟨f, _, ok _ _ F, PySem.W.mg_of X G a, F, F.binds hb⟩
theorem Top.calS (T : Top K x st) (X : K.In h) (G : h.Ns mainGlobals mg)
    (hb : ∀ (kV doc pm : Value) (an : Option Addr) (cdv ct : Value) (us : List Value), us.length = ps.length → bindArgs (PySem.W.fnOf x x (defArgs st) (defBody st) (defScope st) .none kV doc pm an cdv ct) ⟨us, []⟩ = pure (ps.zip us))
    (ok : ∀ f fd, Fun K x x st f fd → FnOk P w K mg base (L2.CX P w) k f fd ps sp) : CalS P w K mg base x st k ps sp := by
  obtain ⟨f, oc, od, an, osl, kV, doc, pm, cdv, ct, a, l, c, k⟩ := T
  have F := fun_mk (st := st) l c k
  exact ⟨f, _, ok _ _ F, PySem.W.mg_of X G a, F, F.binds hb⟩
/-- .. by its address, its name a value -/
theorem Top.at_ (T : Top K x st) (X : K.In h) (G : h.Ns mainGlobals mg)
    (hb : ∀ (kV doc pm : Value) (an : Option Addr) (cdv ct : Value) (us : List Value), us.length = ps.length → bindArgs (PySem.W.fnOf x x (defArgs st) (defBody st) (defScope st) .none kV doc pm an cdv ct) ⟨us, []⟩ = pure (ps.zip us))
    (ok : ∀ f fd, Fun K x x st f fd → FnOk P w K mg base CX0 k f fd ps sp) : ∃ f, C8.CalAt P w K mg base k f sp ∧ ∃ u, mg x = some u ∧ RelV (.ref f) u := by
  obtain ⟨f, oc, od, an, osl, kV, doc, pm, cdv, ct, a, l, c, k⟩ := T
  have F := fun_mk (st := st) l c k
  exact ⟨f, ⟨_, ps, ok _ _ F, k, F.binds hb⟩, _, PySem.W.mg_of X G a, rfl⟩
/-- .. whatever its context -/
theorem Top.fn {CX : CXT} (T : Top K x st) (X : K.In h) (G : h.Ns mainGlobals mg)
    (hb : ∀ (kV doc pm : Value) (an : Option Addr) (cdv ct : Value) (us : List Value), us.length = ps.length → bindArgs (PySem.W.fnOf x x (defArgs st) (defBody st) (defScope st) .none kV doc pm an cdv ct) ⟨us, []⟩ = pure (ps.zip us))
    (ok : ∀ f fd, Fun K x x st f fd → FnOk P w K mg base CX k f fd ps sp) : ∃ f fd, FnOk P w K mg base CX k f fd ps sp ∧ Binds K fd ps [] ∧ mg x = some (.ref f) ∧ PySem.W.keepIn K (.ref f) = true := by
  obtain ⟨f, oc, od, an, osl, kV, doc, pm, cdv, ct, a, l, c, k⟩ := T
  have F := fun_mk (st := st) l c k
  exact ⟨f, _, ok _ _ F, F.binds hb, PySem.W.mg_of X G a, k⟩
/-- a method, as it stands -/
def TopM (K : PySem.W.Frag) (C : Addr) (m q : Str) (st : Stmt) : Prop := ∃ (f : Addr) (oc : Value) (od an : Option Addr) (osl : Array (Option Value)) (kV doc pm cdv ct : Value), PySem.W.findIn K (.ref C) m = some (some (.ref f)) ∧ PySem.W.isFn K (.ref f) = true ∧ K.lookup f = some ⟨oc, od, .func (PySem.W.fnOf m q (defArgs st) (defBody st) (defScope st) .none kV doc pm an cdv ct), osl⟩ ∧ PySem.W.codeIn K cdv q = true ∧ PySem.W.keepIn K (.ref f) = true
theorem topm_mk {C : Addr} {m q : Str} {f : Addr} {oc : Value} {od an : Option Addr} {osl : Array (Option Value)} {kV doc pm cdv ct : Value} (a : PySem.W.findIn K (.ref C) m = some (some (.ref f))) (i : PySem.W.isFn K (.ref f) = true) (l : K.lookup f = some ⟨oc, od, .func (PySem.W.fnOf m q (defArgs st) (defBody st) (defScope st) .none kV doc pm an cdv ct), osl⟩) (c : PySem.W.codeIn K cdv q = true) (k : PySem.W.keepIn K (.ref f) = true) : TopM K C m q st := ⟨f, oc, od, an, osl, kV, doc, pm, cdv, ct, a, i, l, c, k⟩
theorem TopM.met {C : Addr} {m q : Str} (T : TopM K C m q st) (cl : Cls K C)
    (hb : ∀ (kV doc pm : Value) (an : Option Addr) (cdv ct : Value) (us : List Value), us.length = ps.length → bindArgs (PySem.W.fnOf m q (defArgs st) (defBody st) (defScope st) .none kV doc pm an cdv ct) ⟨us, []⟩ = pure (ps.zip us))
    (ok : ∀ f fd, Fun K m q st f fd → FnOk P w K mg base CX0 k f fd ps sp) : C8.Met P w K mg base k C m sp [] := by
  obtain ⟨f, oc, od, an, osl, kV, doc, pm, cdv, ct, a, i, l, c, k⟩ := T
  have F := fun_mk (st := st) l c k
  exact ⟨f, _, ps, [], cl, ⟨a, i, k⟩, ok _ _ F, F.binds hb, .nil⟩
theorem TopM.mak {C : Addr} {q : Str} (T : TopM K C "__init__" q st) (X : K.In h) (G : h.Ns mainGlobals mg) (n : PySem.W.nsIn K mainGlobals x = some (some (.ref C))) (mk : PySem.W.makesIn K C = true) (kc : PySem.W.keepIn K (.ref C) = true)
    (hb : ∀ (kV doc pm : Value) (an : Option Addr) (cdv ct : Value) (us : List Value), us.length = ps.length → bindArgs (PySem.W.fnOf "__init__" q (defArgs st) (defBody st) (defScope st) .none kV doc pm an cdv ct) ⟨us, []⟩ = pure (ps.zip us))
    (ok : ∀ f fd, Fun K "__init__" q st f fd → FnOk P w K mg base CX0 k f fd ps sp) : Mak P w K mg base k C x sp := by
  obtain ⟨f, oc, od, an, osl, kV, doc, pm, cdv, ct, a, i, l, c, k⟩ := T
  have F := fun_mk (st := st) l c k
  exact ⟨f, _, ps, ⟨mk, a, i, kc⟩, ok _ _ F, F.binds hb, PySem.W.mg_of X G n⟩
end
theorem all_mk {l : PySem.W.OpenLaw} {w : World} {K : PySem.W.Frag} {h : Heap} {mg : Str → Option Value} {fa : Addr} (X : K.In h) (G : h.Ns mainGlobals mg) (hfa : mg "law" = some (.ref fa))
    (n_ValueError : PySem.W.nsIn K mainGlobals "ValueError" = some none)
    (n_all : PySem.W.nsIn K mainGlobals "all" = some none)
    (n_bool : PySem.W.nsIn K mainGlobals "bool" = some none)
    (n_dict : PySem.W.nsIn K mainGlobals "dict" = some none)
    (n_enumerate : PySem.W.nsIn K mainGlobals "enumerate" = some none)
    (n_int : PySem.W.nsIn K mainGlobals "int" = some none)
    (n_isinstance : PySem.W.nsIn K mainGlobals "isinstance" = some none)
    (n_len : PySem.W.nsIn K mainGlobals "len" = some none)
    (n_list : PySem.W.nsIn K mainGlobals "list" = some none)
    (n_max : PySem.W.nsIn K mainGlobals "max" = some none)
    (n_min : PySem.W.nsIn K mainGlobals "min" = some none)
    (n_range : PySem.W.nsIn K mainGlobals "range" = some none)
    (n_repr : PySem.W.nsIn K mainGlobals "repr" = some none)
    (n_reversed : PySem.W.nsIn K mainGlobals "reversed" = some none)
    (n_set : PySem.W.nsIn K mainGlobals "set" = some none)
    (n_sorted : PySem.W.nsIn K mainGlobals "sorted" = some none)
    (n_str : PySem.W.nsIn K mainGlobals "str" = some none)
    (n_sum : PySem.W.nsIn K mainGlobals "sum" = some none)
    (n_tuple : PySem.W.nsIn K mainGlobals "tuple" = some none)
    (n_zip : PySem.W.nsIn K mainGlobals "zip" = some none)
    {t_c_SIGNS : Tok} (c_SIGNS : PySem.W.nsIn K mainGlobals "SIGNS" = some (some (.str (Str.ofString "abcd") t_c_SIGNS)))
    {t_c_MOST_SIGNS : Tok} (c_MOST_SIGNS : PySem.W.nsIn K mainGlobals "MOST_SIGNS" = some (some (.int 400 t_c_MOST_SIGNS)))
    {t_c_MOST_LETTERS : Tok} (c_MOST_LETTERS : PySem.W.nsIn K mainGlobals "MOST_LETTERS" = some (some (.int 12 t_c_MOST_LETTERS)))
    {t_c_MOST_WORDS : Tok} (c_MOST_WORDS : PySem.W.nsIn K mainGlobals "MOST_WORDS" = some (some (.int 12 t_c_MOST_WORDS)))
    {C : Addr}
    (aW : PySem.W.nsIn K mainGlobals "Ways" = some (some (.ref C)))
    (w1 : PySem.W.plainGet K C Str.empty = true)
    (w2 : PySem.W.hasDictIn K C = true)
    (w3 : PySem.W.plainOver K C = true)
    (w4 : PySem.W.findIn K (.ref C) "__setattr__" = some (some (.builtin "object.__setattr__")))
    (w5 : PySem.W.findIn K (.ref C) "lot" = some none)
    (w6 : PySem.W.findIn K (.ref C) "text" = some none)
    (w7 : PySem.W.findIn K (.ref C) "behind" = some none)
    (w8 : PySem.W.findIn K (.ref C) "ahead" = some none)
    (w9 : PySem.W.makesIn K C = true)
    (wA : PySem.W.keepIn K (.ref C) = true)
    (TM_init : TopM K C "__init__" "Ways.__init__" st_Ways_init)
    (TM_words_at : TopM K C "words_at" "Ways.words_at" st_Ways_words_at)
    (TM_places : TopM K C "places" "Ways.places" st_Ways_places)
    (TM_led_to : TopM K C "led_to" "Ways.led_to" st_Ways_led_to)
    (TM_used : TopM K C "used" "Ways.used" st_Ways_used)
    (T_are_signs : Top K "are_signs" st_are_signs)
    (T_is_text : Top K "is_text" st_is_text)
    (T_need_text : Top K "need_text" st_need_text)
    (T_is_word : Top K "is_word" st_is_word)
    (T_is_ascending : Top K "is_ascending" st_is_ascending)
    (T_is_lot_form : Top K "is_lot_form" st_is_lot_form)
    (T_need_lot : Top K "need_lot" st_need_lot)
    (T_need_both : Top K "need_both" st_need_both)
    (T__law_draw : Top K "_law_draw" st__law_draw)
    (T__law_one : Top K "_law_one" st__law_one)
    (T__law_text : Top K "_law_text" st__law_text)
    (T__law_feed : Top K "_law_feed" st__law_feed)
    (T__law_ahead : Top K "_law_ahead" st__law_ahead)
    (T__law_behind : Top K "_law_behind" st__law_behind)
    (T_cut_places : Top K "cut_places" st_cut_places)
    (T_words_used : Top K "words_used" st_words_used)
    (T_sure_places : Top K "sure_places" st_sure_places)
    (T_no_cut_paper : Top K "no_cut_paper" st_no_cut_paper)
    (T__law_so : Top K "_law_so" st__law_so)
    (T__law_list : Top K "_law_list" st__law_list)
    (T__law_mixed : Top K "_law_mixed" st__law_mixed)
    (T__law_kept : Top K "_law_kept" st__law_kept)
    (T__law_split : Top K "_law_split" st__law_split)
    (T__law_joined : Top K "_law_joined" st__law_joined)
    (T__law_made : Top K "_law_made" st__law_made)
    (T__law_code : Top K "_law_code" st__law_code)
    (T__law_lot : Top K "_law_lot" st__law_lot)
    (T__law_put : Top K "_law_put" st__law_put)
    (T__law_near_text : Top K "_law_near_text" st__law_near_text)
    (T__law_case : Top K "_law_case" st__law_case)
    (T__law_all : Top K "_law_all" st__law_all)
    (T__law_counted : Top K "_law_counted" st__law_counted)
    (T__law_tried : Top K "_law_tried" st__law_tried)
    (T__law_led : Top K "_law_led" st__law_led)
    (T_is_integer : Top K "is_integer" st_is_integer)
    (T_is_within : Top K "is_within" st_is_within)
    (T_no_cut_holds : Top K "no_cut_holds" st_no_cut_holds)
    (T__law_shows : Top K "_law_shows" st__law_shows)
    (T__law_odd : Top K "_law_odd" st__law_odd)
    (T__law_paper : Top K "_law_paper" st__law_paper)
    (T__law_right : Top K "_law_right" st__law_right)
    (T_law : Top K "law" st_law)
    : ∃ fd : FuncData, (∀ (s : Shared) (v : Value), BindsTo s fd ⟨[v], []⟩ [("script", v)]) ∧ ∀ base : Heap, K.In base → base.Ns mainGlobals mg → FnOkG l.prog w K mg base 9 fa fd ["script"] (sp_law K) := by
  have M : Md K mg := ⟨PySem.W.mg_none_of X G n_ValueError, PySem.W.mg_none_of X G n_all, PySem.W.mg_none_of X G n_bool, PySem.W.mg_none_of X G n_dict, PySem.W.mg_none_of X G n_enumerate, PySem.W.mg_none_of X G n_int, PySem.W.mg_none_of X G n_isinstance, PySem.W.mg_none_of X G n_len, PySem.W.mg_none_of X G n_list, PySem.W.mg_none_of X G n_max, PySem.W.mg_none_of X G n_min, PySem.W.mg_none_of X G n_range, PySem.W.mg_none_of X G n_repr, PySem.W.mg_none_of X G n_reversed, PySem.W.mg_none_of X G n_set, PySem.W.mg_none_of X G n_sorted, PySem.W.mg_none_of X G n_str, PySem.W.mg_none_of X G n_sum, PySem.W.mg_none_of X G n_tuple, PySem.W.mg_none_of X G n_zip, ⟨_, PySem.W.mg_of X G c_SIGNS⟩, ⟨_, PySem.W.mg_of X G c_MOST_SIGNS⟩, ⟨_, PySem.W.mg_of X G c_MOST_LETTERS⟩, ⟨_, PySem.W.mg_of X G c_MOST_WORDS⟩⟩
  have W : WC K C := ⟨⟨w1, w2, w3, w4⟩, w5, w6, w7, w8⟩
  obtain ⟨f, oc, od, an, osl, kV, doc, pm, cdv, ct, a, lk, c, k⟩ := T_law
  have e := hfa.symm.trans (PySem.W.mg_of X G a)
  cases e
  have F := fun_mk (st := st_law) lk c k
  refine ⟨PySem.W.fnOf "law" "law" (defArgs st_law) (defBody st_law) (defScope st_law) .none kV doc pm an cdv ct, fun s v => .of_eq rfl, fun base _ _ => ?_⟩
  have C_are_signs : Cal l.prog w K mg base "are_signs" st_are_signs 1 ["thing", "most"] sp_are_signs := T_are_signs.cal X G (fun _ _ _ _ _ _ us hl => match us, hl with | [_, _], _ => rfl) fun _ _ F => ok_are_signs F M
  have C_is_text : Cal l.prog w K mg base "is_text" st_is_text 2 ["thing"] sp_is_text := T_is_text.cal X G (fun _ _ _ _ _ _ us hl => match us, hl with | [_], _ => rfl) fun _ _ F => ok_is_text F M C_are_signs
  have C_need_text : Cal l.prog w K mg base "need_text" st_need_text 3 ["text"] sp_need_text := T_need_text.cal X G (fun _ _ _ _ _ _ us hl => match us, hl with | [_], _ => rfl) fun _ _ F => ok_need_text F M C_is_text
  have C_is_word : Cal l.prog w K mg base "is_word" st_is_word 2 ["thing"] sp_is_word := T_is_word.cal X G (fun _ _ _ _ _ _ us hl => match us, hl with | [_], _ => rfl) fun _ _ F => ok_is_word F M C_are_signs
  have C_is_ascending : Cal l.prog w K mg base "is_ascending" st_is_ascending 1 ["things"] sp_ascending := T_is_ascending.cal X G (fun _ _ _ _ _ _ us hl => match us, hl with | [_], _ => rfl) fun _ _ F => ok_is_ascending F M
  have C_is_lot_form : Cal l.prog w K mg base "is_lot_form" st_is_lot_form 3 ["thing"] sp_lot_form := T_is_lot_form.cal X G (fun _ _ _ _ _ _ us hl => match us, hl with | [_], _ => rfl) fun _ _ F => ok_is_lot_form F M C_is_word C_is_ascending
  have C_need_lot : Cal l.prog w K mg base "need_lot" st_need_lot 4 ["lot"] sp_need_lot := T_need_lot.cal X G (fun _ _ _ _ _ _ us hl => match us, hl with | [_], _ => rfl) fun _ _ F => ok_need_lot F M C_is_lot_form
  have C_need_both : Cal l.prog w K mg base "need_both" st_need_both 5 ["lot", "text"] sp_need_both := T_need_both.cal X G (fun _ _ _ _ _ _ us hl => match us, hl with | [_, _], _ => rfl) fun _ _ F => ok_need_both F M C_need_lot C_need_text
  have C__law_draw : Cal l.prog w K mg base "_law_draw" st__law_draw 1 ["feed", "many"] sp_draw := T__law_draw.cal X G (fun _ _ _ _ _ _ us hl => match us, hl with | [_, _], _ => rfl) fun _ _ F => ok__law_draw F M
  have C__law_one : Cal l.prog w K mg base "_law_one" st__law_one 2 ["feed", "things"] (sp_one K) := T__law_one.cal X G (fun _ _ _ _ _ _ us hl => match us, hl with | [_, _], _ => rfl) fun _ _ F => ok__law_one F M C__law_draw
  have C__law_text : Cal l.prog w K mg base "_law_text" st__law_text 3 ["feed", "signs", "most"] sp_text := T__law_text.cal X G (fun _ _ _ _ _ _ us hl => match us, hl with | [_, _, _], _ => rfl) fun _ _ F => ok__law_text F M C__law_draw C__law_one
  have MT_Ways_words_at : C8.Met l.prog w K mg base 1 C "words_at" (sp_words_at C) [] := TM_words_at.met W.cl (fun _ _ _ _ _ _ us hl => match us, hl with | [_, _], _ => rfl) fun _ _ F => ok_words_at F M W
  have MK_Ways : Mak l.prog w K mg base 2 C "Ways" (sp_Ways C) := TM_init.mak X G aW w9 wA (fun _ _ _ _ _ _ us hl => match us, hl with | [_, _, _], _ => rfl) fun _ _ F => ok_Ways_init F M W MT_Ways_words_at
  have MT_Ways_places : C8.Met l.prog w K mg base 1 C "places" (sp_places C) [] := TM_places.met W.cl (fun _ _ _ _ _ _ us hl => match us, hl with | [_], _ => rfl) fun _ _ F => ok_Ways_places F M W
  have MT_Ways_led_to : C8.Met l.prog w K mg base 1 C "led_to" (sp_led_to C) [] := TM_led_to.met W.cl (fun _ _ _ _ _ _ us hl => match us, hl with | [_], _ => rfl) fun _ _ F => ok_Ways_led_to F M W
  have MT_Ways_used : C8.Met l.prog w K mg base 2 C "used" (sp_used C) [] := TM_used.met W.cl (fun _ _ _ _ _ _ us hl => match us, hl with | [_], _ => rfl) fun _ _ F => ok_Ways_used F M W MT_Ways_words_at
  have C__law_feed : Cal l.prog w K mg base "_law_feed" st__law_feed 1 ["script", "k"] (sp_feed K) := T__law_feed.cal X G (fun _ _ _ _ _ _ us hl => match us, hl with | [_, _], _ => rfl) fun _ _ F => ok__law_feed F M
  have C__law_ahead : Cal l.prog w K mg base "_law_ahead" st__law_ahead 1 ["lot", "text"] sp_ahead := T__law_ahead.cal X G (fun _ _ _ _ _ _ us hl => match us, hl with | [_, _], _ => rfl) fun _ _ F => ok__law_ahead F M
  have C__law_behind : Cal l.prog w K mg base "_law_behind" st__law_behind 2 ["lot", "text"] sp_behind := T__law_behind.cal X G (fun _ _ _ _ _ _ us hl => match us, hl with | [_, _], _ => rfl) fun _ _ F => ok__law_behind F M C__law_ahead
  have C_cut_places : Cal l.prog w K mg base "cut_places" st_cut_places 6 ["lot", "text"] sp_cut_places := T_cut_places.cal X G (fun _ _ _ _ _ _ us hl => match us, hl with | [_, _], _ => rfl) fun _ _ F => ok_cut_places F M W C_need_both MK_Ways MT_Ways_places
  have C_words_used : Cal l.prog w K mg base "words_used" st_words_used 6 ["lot", "text"] sp_words_used := T_words_used.cal X G (fun _ _ _ _ _ _ us hl => match us, hl with | [_, _], _ => rfl) fun _ _ F => ok_words_used F M W C_need_both MK_Ways MT_Ways_used
  have C_sure_places : Cal l.prog w K mg base "sure_places" st_sure_places 6 ["lot", "text"] sp_sure := T_sure_places.cal X G (fun _ _ _ _ _ _ us hl => match us, hl with | [_, _], _ => rfl) fun _ _ F => ok_sure_places F M W C_need_both MK_Ways MT_Ways_places
  have C_no_cut_paper : Cal l.prog w K mg base "no_cut_paper" st_no_cut_paper 6 ["lot", "text"] sp_paper := T_no_cut_paper.cal X G (fun _ _ _ _ _ _ us hl => match us, hl with | [_, _], _ => rfl) fun _ _ F => ok_no_cut_paper F M W C_need_both MK_Ways MT_Ways_led_to
  have C__law_so : Cal l.prog w K mg base "_law_so" st__law_so 1 ["actual", "due"] sp_law_so := T__law_so.cal X G (fun _ _ _ _ _ _ us hl => match us, hl with | [_, _], _ => rfl) fun _ _ F => ok__law_so F M
  have C__law_list : Cal l.prog w K mg base "_law_list" st__law_list 1 ["actual", "due"] (sp_list_same K) := T__law_list.cal X G (fun _ _ _ _ _ _ us hl => match us, hl with | [_, _], _ => rfl) fun _ _ F => ok__law_list F M
  have C__law_mixed : Cal l.prog w K mg base "_law_mixed" st__law_mixed 2 ["feed", "things"] (sp_mixed K) := T__law_mixed.cal X G (fun _ _ _ _ _ _ us hl => match us, hl with | [_, _], _ => rfl) fun _ _ F => ok__law_mixed F M C__law_draw
  have C__law_kept : Cal l.prog w K mg base "_law_kept" st__law_kept 3 ["feed", "words", "most"] (sp_kept K) := T__law_kept.cal X G (fun _ _ _ _ _ _ us hl => match us, hl with | [_, _, _], _ => rfl) fun _ _ F => ok__law_kept F M C__law_mixed
  have C__law_split : Cal l.prog w K mg base "_law_split" st__law_split 2 ["feed", "signs", "turns"] sp_split := T__law_split.cal X G (fun _ _ _ _ _ _ us hl => match us, hl with | [_, _, _], _ => rfl) fun _ _ F => ok__law_split F M C__law_draw
  have C__law_joined : Cal l.prog w K mg base "_law_joined" st__law_joined 3 ["feed", "words", "turns"] sp_joined := T__law_joined.cal X G (fun _ _ _ _ _ _ us hl => match us, hl with | [_, _, _], _ => rfl) fun _ _ F => ok__law_joined F M C__law_draw C__law_one
  have C__law_made : Cal l.prog w K mg base "_law_made" st__law_made 1 ["feed", "code", "words"] (sp_made K) := T__law_made.cal X G (fun _ _ _ _ _ _ us hl => match us, hl with | [_, _, _], _ => rfl) fun _ _ F => ok__law_made F M
  have C__law_code : Cal l.prog w K mg base "_law_code" st__law_code 3 ["feed"] sp_code := T__law_code.cal X G (fun _ _ _ _ _ _ us hl => match us, hl with | [_], _ => rfl) fun _ _ F => ok__law_code F M C__law_one
  have C__law_lot : Cal l.prog w K mg base "_law_lot" st__law_lot 4 ["feed", "most"] sp_lot := T__law_lot.cal X G (fun _ _ _ _ _ _ us hl => match us, hl with | [_, _], _ => rfl) fun _ _ F => ok__law_lot F M C__law_draw C__law_one C__law_text C__law_kept C__law_split C__law_joined C__law_made C__law_code
  have C__law_put : Cal l.prog w K mg base "_law_put" st__law_put 3 ["feed", "lot", "most"] sp_put := T__law_put.cal X G (fun _ _ _ _ _ _ us hl => match us, hl with | [_, _, _], _ => rfl) fun _ _ F => ok__law_put F M C__law_draw C__law_one
  have C__law_near_text : Cal l.prog w K mg base "_law_near_text" st__law_near_text 4 ["feed", "lot", "most"] sp_near_text := T__law_near_text.cal X G (fun _ _ _ _ _ _ us hl => match us, hl with | [_, _, _], _ => rfl) fun _ _ F => ok__law_near_text F M C__law_draw C__law_one C__law_text C__law_put
  have C__law_case : Cal l.prog w K mg base "_law_case" st__law_case 5 ["feed"] sp_case := T__law_case.cal X G (fun _ _ _ _ _ _ us hl => match us, hl with | [_], _ => rfl) fun _ _ F => ok__law_case F M C__law_draw C__law_one C__law_lot C__law_near_text
  have C__law_all : Cal l.prog w K mg base "_law_all" st__law_all 1 ["lot", "text", "behind", "most"] sp_all := T__law_all.cal X G (fun _ _ _ _ _ _ us hl => match us, hl with | [_, _, _, _], _ => rfl) fun _ _ F => ok__law_all F M
  have C__law_counted : Cal l.prog w K mg base "_law_counted" st__law_counted 1 ["lot", "text", "ahead", "behind"] sp_counted := T__law_counted.cal X G (fun _ _ _ _ _ _ us hl => match us, hl with | [_, _, _, _], _ => rfl) fun _ _ F => ok__law_counted F M
  have C__law_tried : Cal l.prog w K mg base "_law_tried" st__law_tried 1 ["lot", "text", "cuts"] sp_tried := T__law_tried.cal X G (fun _ _ _ _ _ _ us hl => match us, hl with | [_, _, _], _ => rfl) fun _ _ F => ok__law_tried F M
  have C__law_led : Cal l.prog w K mg base "_law_led" st__law_led 1 ["lot", "text", "places"] sp_led := T__law_led.cal X G (fun _ _ _ _ _ _ us hl => match us, hl with | [_, _, _], _ => rfl) fun _ _ F => ok__law_led F M
  have C_is_integer : Cal l.prog w K mg base "is_integer" st_is_integer 1 ["thing"] sp_is_integer := T_is_integer.cal X G (fun _ _ _ _ _ _ us hl => match us, hl with | [_], _ => rfl) fun _ _ F => ok_is_integer F M
  have C_is_within : Cal l.prog w K mg base "is_within" st_is_within 2 ["thing", "least", "most"] sp_is_within := T_is_within.cal X G (fun _ _ _ _ _ _ us hl => match us, hl with | [_, _, _], _ => rfl) fun _ _ F => ok_is_within F M C_is_integer
  have C_no_cut_holds : Cal l.prog w K mg base "no_cut_holds" st_no_cut_holds 6 ["lot", "text", "thing"] sp_holds := T_no_cut_holds.cal X G (fun _ _ _ _ _ _ us hl => match us, hl with | [_, _, _], _ => rfl) fun _ _ F => ok_no_cut_holds F M W C_need_both C_is_within MK_Ways MT_Ways_words_at
  have C__law_shows : Cal l.prog w K mg base "_law_shows" st__law_shows 1 ["lot", "text", "thing"] sp_shows := T__law_shows.cal X G (fun _ _ _ _ _ _ us hl => match us, hl with | [_, _, _], _ => rfl) fun _ _ F => ok__law_shows F M
  have C__law_odd : Cal l.prog w K mg base "_law_odd" st__law_odd 3 ["feed", "text", "places"] sp_odd := T__law_odd.cal X G (fun _ _ _ _ _ _ us hl => match us, hl with | [_, _, _], _ => rfl) fun _ _ F => ok__law_odd F M C__law_draw C__law_one
  have C__law_paper : CalG l.prog w K mg base "_law_paper" st__law_paper 7 ["feed", "lot", "text", "there"] sp_law_paper := T__law_paper.calG X G (fun _ _ _ _ _ _ us hl => match us, hl with | [_, _, _, _], _ => rfl) fun _ _ F => ok__law_paper F M C__law_led C_no_cut_paper C__law_list C__law_draw C__law_mixed C__law_odd C__law_shows C__law_so C_no_cut_holds
  have C__law_right : CalG l.prog w K mg base "_law_right" st__law_right 8 ["feed"] sp_law_right := T__law_right.calG X G (fun _ _ _ _ _ _ us hl => match us, hl with | [_], _ => rfl) fun _ _ F => ok__law_right F M C__law_case C__law_ahead C__law_behind C__law_counted C__law_tried C__law_all C_cut_places C__law_list C_sure_places C_words_used C__law_paper
  exact ok_law F M C__law_feed C__law_right
theorem walk {l : PySem.W.OpenLaw} {q : Program} {loose : List Str} {XP : (Str → Option Value) → Heap → Prop} {YP : World → Heap → Prop} {d : DefRec} {K : Params → PySem.W.Frag} (hn : l.most = some 63) (hdf : d.params.defaults = [])
    (hY : ∀ (w : World) (h : Heap), YP w h → (K w.params).In h)
    (F : ∀ (w : World) (mg : Str → Option Value) (fa : Addr) (h : Heap), (K w.params).In h → h.Ns mainGlobals mg → mg d.name = some (.ref fa) →
      ∃ fd : FuncData, (∀ (s : Shared) (u : Value), BindsTo s fd ⟨[u], []⟩ [("script", u)]) ∧ ∀ base : Heap, (K w.params).In base → base.Ns mainGlobals mg → FnOkG l.prog w (K w.params) mg base 9 fa fd ["script"] (sp_law (K w.params))) :
    PySem.W.WalkO q loose XP YP l.row.toRowW d [] (fun f vs => PySem.call f vs) :=
  Wg.walk_ofG (n := 63) (k := 9) (x := "script") (sp := fun w => sp_law (K w.params)) hn (by decide) hdf ⟨rfl, by decide, by decide⟩ hY F (fun _ _ a ns hl hb _ hS => ⟨a, ns, 1048576, rfl, hS, hl, by decide, by decide, fun z hz => PySem.intBits_le_iff.mp (hb z hz), fun _ => rfl⟩)
end K04
open PySem PySem.W PyProof.Rows
set_option maxRecDepth 100000 in
set_option maxHeartbeats 0 in
theorem PySem.Challenge.cw_wordscut_k04_whole_places_words_and_no_c_holds : PySem.Challenge.rw_wordscut_k04_whole_places_words_and_no_c.Holds := by
  w_on; o_law; k_head; (case hw => w_witness2)
  k_fill
  refine K04.walk (l := PySem.Challenge.rw_wordscut_k04_whole_places_words_and_no_c) rfl rfl (fun w h Y => PySem.W.kIn_of Y) ?F
  case F =>
    intro w mg fa h KX G hmg
    refine' K04.all_mk KX G hmg ?n_ValueError ?n_all ?n_bool ?n_dict ?n_enumerate ?n_int ?n_isinstance ?n_len ?n_list ?n_max ?n_min ?n_range ?n_repr ?n_reversed ?n_set ?n_sorted ?n_str ?n_sum ?n_tuple ?n_zip ?c_SIGNS ?c_MOST_SIGNS ?c_MOST_LETTERS ?c_MOST_WORDS ?aW ?w1 ?w2 ?w3 ?w4 ?w5 ?w6 ?w7 ?w8 ?w9 ?wA ?TM_init ?TM_words_at ?TM_places ?TM_led_to ?TM_used ?T_are_signs ?T_is_text ?T_need_text ?T_is_word ?T_is_ascending ?T_is_lot_form ?T_need_lot ?T_need_both ?T__law_draw ?T__law_one ?T__law_text ?T__law_feed ?T__law_ahead ?T__law_behind ?T_cut_places ?T_words_used ?T_sure_places ?T_no_cut_paper ?T__law_so ?T__law_list ?T__law_mixed ?T__law_kept ?T__law_split ?T__law_joined ?T__law_made ?T__law_code ?T__law_lot ?T__law_put ?T__law_near_text ?T__law_case ?T__law_all ?T__law_counted ?T__law_tried ?T__law_led ?T_is_integer ?T_is_within ?T_no_cut_holds ?T__law_shows ?T__law_odd ?T__law_paper ?T__law_right ?T_law
    (case n_ValueError => k_is)
    (case n_all => k_is)
    (case n_bool => k_is)
    (case n_dict => k_is)
    (case n_enumerate => k_is)
    (case n_int => k_is)
    (case n_isinstance => k_is)
    (case n_len => k_is)
    (case n_list => k_is)
    (case n_max => k_is)
    (case n_min => k_is)
    (case n_range => k_is)
    (case n_repr => k_is)
    (case n_reversed => k_is)
    (case n_set => k_is)
    (case n_sorted => k_is)
    (case n_str => k_is)
    (case n_sum => k_is)
    (case n_tuple => k_is)
    (case n_zip => k_is)
    (case c_SIGNS => k_is)
    (case c_MOST_SIGNS => k_is)
    (case c_MOST_LETTERS => k_is)
    (case c_MOST_WORDS => k_is)
    (case aW => k_is)
    (case w1 => k_is)
    (case w2 => k_is)
    (case w3 => k_is)
    (case w4 => k_is)
    (case w5 => k_is)
    (case w6 => k_is)
    (case w7 => k_is)
    (case w8 => k_is)
    (case w9 => k_is)
    (case wA => k_is)
    (case TM_init => refine' K04.topm_mk ?a ?i ?l ?c ?k; (case a => k_is); (case i => k_is); (case l => k_is); (case c => k_is); (case k => k_is))
    (case TM_words_at => refine' K04.topm_mk ?a ?i ?l ?c ?k; (case a => k_is); (case i => k_is); (case l => k_is); (case c => k_is); (case k => k_is))
    (case TM_places => refine' K04.topm_mk ?a ?i ?l ?c ?k; (case a => k_is); (case i => k_is); (case l => k_is); (case c => k_is); (case k => k_is))
    (case TM_led_to => refine' K04.topm_mk ?a ?i ?l ?c ?k; (case a => k_is); (case i => k_is); (case l => k_is); (case c => k_is); (case k => k_is))
    (case TM_used => refine' K04.topm_mk ?a ?i ?l ?c ?k; (case a => k_is); (case i => k_is); (case l => k_is); (case c => k_is); (case k => k_is))
    (case T_are_signs => refine' K04.top_mk ?a ?l ?c ?k; (case a => k_is); (case l => k_is); (case c => k_is); (case k => k_is))
    (case T_is_text => refine' K04.top_mk ?a ?l ?c ?k; (case a => k_is); (case l => k_is); (case c => k_is); (case k => k_is))
    (case T_need_text => refine' K04.top_mk ?a ?l ?c ?k; (case a => k_is); (case l => k_is); (case c => k_is); (case k => k_is))
    (case T_is_word => refine' K04.top_mk ?a ?l ?c ?k; (case a => k_is); (case l => k_is); (case c => k_is); (case k => k_is))
    (case T_is_ascending => refine' K04.top_mk ?a ?l ?c ?k; (case a => k_is); (case l => k_is); (case c => k_is); (case k => k_is))
    (case T_is_lot_form => refine' K04.top_mk ?a ?l ?c ?k; (case a => k_is); (case l => k_is); (case c => k_is); (case k => k_is))
    (case T_need_lot => refine' K04.top_mk ?a ?l ?c ?k; (case a => k_is); (case l => k_is); (case c => k_is); (case k => k_is))
    (case T_need_both => refine' K04.top_mk ?a ?l ?c ?k; (case a => k_is); (case l => k_is); (case c => k_is); (case k => k_is))
    (case T__law_draw => refine' K04.top_mk ?a ?l ?c ?k; (case a => k_is); (case l => k_is); (case c => k_is); (case k => k_is))
    (case T__law_one => refine' K04.top_mk ?a ?l ?c ?k; (case a => k_is); (case l => k_is); (case c => k_is); (case k => k_is))
    (case T__law_text => refine' K04.top_mk ?a ?l ?c ?k; (case a => k_is); (case l => k_is); (case c => k_is); (case k => k_is))
    (case T__law_feed => refine' K04.top_mk ?a ?l ?c ?k; (case a => k_is); (case l => k_is); (case c => k_is); (case k => k_is))
    (case T__law_ahead => refine' K04.top_mk ?a ?l ?c ?k; (case a => k_is); (case l => k_is); (case c => k_is); (case k => k_is))
    (case T__law_behind => refine' K04.top_mk ?a ?l ?c ?k; (case a => k_is); (case l => k_is); (case c => k_is); (case k => k_is))
    (case T_cut_places => refine' K04.top_mk ?a ?l ?c ?k; (case a => k_is); (case l => k_is); (case c => k_is); (case k => k_is))
    (case T_words_used => refine' K04.top_mk ?a ?l ?c ?k; (case a => k_is); (case l => k_is); (case c => k_is); (case k => k_is))
    (case T_sure_places => refine' K04.top_mk ?a ?l ?c ?k; (case a => k_is); (case l => k_is); (case c => k_is); (case k => k_is))
    (case T_no_cut_paper => refine' K04.top_mk ?a ?l ?c ?k; (case a => k_is); (case l => k_is); (case c => k_is); (case k => k_is))
    (case T__law_so => refine' K04.top_mk ?a ?l ?c ?k; (case a => k_is); (case l => k_is); (case c => k_is); (case k => k_is))
    (case T__law_list => refine' K04.top_mk ?a ?l ?c ?k; (case a => k_is); (case l => k_is); (case c => k_is); (case k => k_is))
    (case T__law_mixed => refine' K04.top_mk ?a ?l ?c ?k; (case a => k_is); (case l => k_is); (case c => k_is); (case k => k_is))
    (case T__law_kept => refine' K04.top_mk ?a ?l ?c ?k; (case a => k_is); (case l => k_is); (case c => k_is); (case k => k_is))
    (case T__law_split => refine' K04.top_mk ?a ?l ?c ?k; (case a => k_is); (case l => k_is); (case c => k_is); (case k => k_is))
    (case T__law_joined => refine' K04.top_mk ?a ?l ?c ?k; (case a => k_is); (case l => k_is); (case c => k_is); (case k => k_is))
    (case T__law_made => refine' K04.top_mk ?a ?l ?c ?k; (case a => k_is); (case l => k_is); (case c => k_is); (case k => k_is))
    (case T__law_code => refine' K04.top_mk ?a ?l ?c ?k; (case a => k_is); (case l => k_is); (case c => k_is); (case k => k_is))
    (case T__law_lot => refine' K04.top_mk ?a ?l ?c ?k; (case a => k_is); (case l => k_is); (case c => k_is); (case k => k_is))
    (case T__law_put => refine' K04.top_mk ?a ?l ?c ?k; (case a => k_is); (case l => k_is); (case c => k_is); (case k => k_is))
    (case T__law_near_text => refine' K04.top_mk ?a ?l ?c ?k; (case a => k_is); (case l => k_is); (case c => k_is); (case k => k_is))
    (case T__law_case => refine' K04.top_mk ?a ?l ?c ?k; (case a => k_is); (case l => k_is); (case c => k_is); (case k => k_is))
    (case T__law_all => refine' K04.top_mk ?a ?l ?c ?k; (case a => k_is); (case l => k_is); (case c => k_is); (case k => k_is))
    (case T__law_counted => refine' K04.top_mk ?a ?l ?c ?k; (case a => k_is); (case l => k_is); (case c => k_is); (case k => k_is))
    (case T__law_tried => refine' K04.top_mk ?a ?l ?c ?k; (case a => k_is); (case l => k_is); (case c => k_is); (case k => k_is))
    (case T__law_led => refine' K04.top_mk ?a ?l ?c ?k; (case a => k_is); (case l => k_is); (case c => k_is); (case k => k_is))
    (case T_is_integer => refine' K04.top_mk ?a ?l ?c ?k; (case a => k_is); (case l => k_is); (case c => k_is); (case k => k_is))
    (case T_is_within => refine' K04.top_mk ?a ?l ?c ?k; (case a => k_is); (case l => k_is); (case c => k_is); (case k => k_is))
    (case T_no_cut_holds => refine' K04.top_mk ?a ?l ?c ?k; (case a => k_is); (case l => k_is); (case c => k_is); (case k => k_is))
    (case T__law_shows => refine' K04.top_mk ?a ?l ?c ?k; (case a => k_is); (case l => k_is); (case c => k_is); (case k => k_is))
    (case T__law_odd => refine' K04.top_mk ?a ?l ?c ?k; (case a => k_is); (case l => k_is); (case c => k_is); (case k => k_is))
    (case T__law_paper => refine' K04.top_mk ?a ?l ?c ?k; (case a => k_is); (case l => k_is); (case c => k_is); (case k => k_is))
    (case T__law_right => refine' K04.top_mk ?a ?l ?c ?k; (case a => k_is); (case l => k_is); (case c => k_is); (case k => k_is))
    (case T_law => refine' K04.top_mk ?a ?l ?c ?k; (case a => k_is); (case l => k_is); (case c => k_is); (case k => k_is))
