import PyProof.Rows.All
import Wide.All
import OpenK.AllK
import Wide.FinOn
import PySem.Challenge.RW_ok0128_01
open PySem PySem.W PyProof.Rows PySem.Calls
set_option Elab.async false
set_option maxRecDepth 100000
set_option compiler.extract_closed false
namespace Mine

-- part math1
section
-- needs:
/-- the lowest `n` bits of `v`, the highest first -/
noncomputable def bitsN (v : Nat) : Nat → List Bool
  | 0 => []
  | n + 1 => v.testBit n :: bitsN v n
theorem bitsN_length (v : Nat) : ∀ n, (bitsN v n).length = n
  | 0 => rfl
  | n + 1 => by rw [bitsN, List.length_cons, bitsN_length v n]
theorem bitsN_congr {u v : Nat} : ∀ {n : Nat}, (∀ i, i < n → u.testBit i = v.testBit i) → bitsN u n = bitsN v n
  | 0, _ => rfl
  | n + 1, h => by rw [bitsN, bitsN, h n (Nat.lt_succ_self n), bitsN_congr fun i hi => h i (Nat.lt_succ_of_lt hi)]
theorem bitsN_add (v a : Nat) : ∀ b, bitsN v (b + a) = bitsN (v / 2 ^ a) b ++ bitsN v a
  | 0 => by simp [bitsN]
  | b + 1 => by
    rw [show b + 1 + a = (b + a) + 1 by omega, bitsN, bitsN, bitsN_add v a b, List.cons_append]
    congr 1
    rw [Nat.testBit_div_two_pow, Nat.add_comm]
theorem bitsN_mod (v : Nat) {n k : Nat} (h : n ≤ k) : bitsN (v % 2 ^ k) n = bitsN v n :=
  bitsN_congr fun i hi => by rw [Nat.testBit_mod_two_pow]; simp [Nat.lt_of_lt_of_le hi h]
/-- a number from its bits -/
noncomputable def valN (l : List Bool) : Nat := l.foldl (fun a b => 2 * a + b.toNat) 0
theorem valN_append_one (l : List Bool) (b : Bool) : valN (l ++ [b]) = 2 * valN l + b.toNat := by simp [valN]
theorem foldl_bits (v : Nat) : ∀ (n a : Nat), (bitsN v n).foldl (fun a b => 2 * a + b.toNat) a = a * 2 ^ n + v % 2 ^ n
  | 0, a => by simp [bitsN, Nat.mod_one]
  | n + 1, a => by
    rw [bitsN, List.foldl_cons, foldl_bits v n]
    rw [Nat.mod_pow_succ, Nat.toNat_testBit, Nat.pow_succ, Nat.add_mul, Nat.mul_comm 2 a, Nat.mul_assoc, Nat.mul_comm 2 (2 ^ n), Nat.mul_comm (2 ^ n) (v / 2 ^ n % 2)]
    omega
theorem valN_bitsN {v n : Nat} (h : v < 2 ^ n) : valN (bitsN v n) = v := by
  unfold valN
  rw [foldl_bits, Nat.mod_eq_of_lt h]
  simp
theorem valN_lt : ∀ (l : List Bool) (a : Nat), l.foldl (fun a b => 2 * a + b.toNat) a < (a + 1) * 2 ^ l.length
  | [], a => by simp
  | b :: l, a => by
    rw [List.foldl_cons, List.length_cons, Nat.pow_succ]
    refine Nat.lt_of_lt_of_le (valN_lt l _) ?_
    rw [Nat.mul_comm (2 ^ l.length) 2, ← Nat.mul_assoc]
    exact Nat.mul_le_mul_right _ (by cases b <;> simp <;> omega)
theorem valN_bound (l : List Bool) : valN l < 2 ^ l.length := by
  have := valN_lt l 0
  simpa [valN] using this
theorem bitsN_valN : ∀ (l : List Bool), bitsN (valN l) l.length = l := by
  intro l
  have key : ∀ (n : Nat) (l : List Bool), l.length = n → bitsN (valN l) n = l := by
    intro n
    induction n with
    | zero => intro l hl; rw [List.length_eq_zero_iff.mp hl]; rfl
    | succ n ih =>
      intro l hl
      have hne : l ≠ [] := by intro e; rw [e] at hl; cases hl
      obtain ⟨l', b, rfl⟩ : ∃ l' b, l = l' ++ [b] := ⟨l.dropLast, l.getLast hne, (List.dropLast_concat_getLast hne).symm⟩
      have hl' : l'.length = n := by simpa using hl
      rw [valN_append_one, bitsN_add (2 * valN l' + b.toNat) 1 n]
      have e1 : (2 * valN l' + b.toNat) / 2 ^ 1 = valN l' := by cases b <;> simp <;> omega
      rw [e1, ih l' hl']
      congr 1
      show [Nat.testBit _ 0] = [b]
      cases b <;> simp [Nat.testBit_zero] <;> omega
  exact key _ l rfl

/-- the bits of bytes -/
noncomputable def bitsB (l : List UInt8) : List Bool := l.flatMap fun c => bitsN c.toNat 8
theorem bitsB_append (l : List UInt8) (c : UInt8) : bitsB (l ++ [c]) = bitsB l ++ bitsN c.toNat 8 := by simp [bitsB]
theorem bitsB_length (l : List UInt8) : (bitsB l).length = 8 * l.length := by
  induction l with
  | nil => rfl
  | cons c l ih => rw [bitsB, List.flatMap_cons, List.length_append, bitsN_length, List.length_cons]; unfold bitsB at ih; omega

/-- what a writer's parts say: whole bytes and a rest of `z` bits -/
noncomputable def Rep (b : Array UInt8) (r z : Int) (bs : List Bool) : Prop := 0 ≤ z ∧ 0 ≤ r ∧ r < 2 ^ z.toNat ∧ bs = bitsB b.toList ++ bitsN r.toNat z.toNat
theorem rep_nil : Rep #[] 0 0 [] := ⟨Int.le_refl _, Int.le_refl _, by decide, rfl⟩

theorem Rep.len {b : Array UInt8} {r z : Int} {bs : List Bool} (p : Rep b r z bs) : bs.length = 8 * b.size + z.toNat := by
  rw [p.2.2.2, List.length_append, bitsB_length, bitsN_length]; rfl

end

-- part math2
section
-- needs: math1
theorem and_disjoint {a b i : Nat} (h : b < 2 ^ i) : a * 2 ^ i &&& b = 0 := by
  refine Nat.eq_of_testBit_eq fun j => ?_
  rw [Nat.testBit_and, Nat.zero_testBit, Nat.testBit_mul_two_pow]
  by_cases hj : i ≤ j
  · rw [Nat.testBit_lt_two_pow (Nat.lt_of_lt_of_le h (Nat.pow_le_pow_right (by decide) hj)), Bool.and_false]
  · simp [hj]
theorem two_pow_cast (k : Nat) : ((2 ^ k : Nat) : Int) = 2 ^ k := kbt_cast k
theorem toNat_lt_pow {r : Int} {k : Nat} (h : r < 2 ^ k) : r.toNat < 2 ^ k := by
  rw [← two_pow_cast] at h
  have := Nat.two_pow_pos k
  omega
theorem toNat_8 {z : Int} (h : 8 ≤ z) : z.toNat = 8 + (z - 8).toNat := by
  obtain ⟨k, rfl⟩ := Int.le.dest h
  rw [show (8 : Int) + k - 8 = k from (congrArg (· - (8 : Int)) (Int.add_comm 8 k)).trans (Int.add_sub_cancel _ _)]
  rfl
theorem pred_nat (κ : Nat) : ((κ : Int) - 1).toNat = κ - 1 := Int.toNat_sub κ 1
theorem toNat_pred {k : Int} (h : 0 ≤ k) (h0 : k ≠ 0) : k.toNat = (k - 1).toNat + 1 := by
  obtain ⟨n, rfl⟩ := Int.eq_ofNat_of_zero_le h
  rw [pred_nat]
  exact (Nat.sub_one_add_one fun e => h0 (congrArg Int.ofNat e)).symm
theorem pow_double {k : Int} (h : 0 ≤ k) (h0 : k ≠ 0) : (2 : Int) ^ k.toNat = 2 * 2 ^ (k - 1).toNat := by
  rw [toNat_pred h h0, Int.pow_succ, Int.mul_comm]
theorem fits_long {i : Int} (h0 : -32768 ≤ i) (h1 : i ≤ 32767) : Builtin.Range.rangeFitsLong i = true := by
  unfold Builtin.Range.rangeFitsLong
  rw [decide_eq_true (Int.le_trans (by decide) h0), decide_eq_true (Int.lt_of_le_of_lt h1 (by decide))]
  rfl
theorem bitOr_low {r v n : Int} (r0 : 0 ≤ r) (v0 : 0 ≤ v) (v1 : v < 2 ^ n.toNat) : Builtin.bitOr (r * 2 ^ n.toNat) v = ((r.toNat * 2 ^ n.toNat + v.toNat : Nat) : Int) := by
  obtain ⟨ρ, rfl⟩ := Int.eq_ofNat_of_zero_le r0
  obtain ⟨ν, rfl⟩ := Int.eq_ofNat_of_zero_le v0
  have hv : ν < 2 ^ n.toNat := by have := two_pow_cast n.toNat; omega
  rw [← two_pow_cast, ← Int.natCast_mul, bitOr_and, bitAnd_pp (Int.natCast_nonneg _) v0, Int.toNat_natCast, Int.toNat_natCast, and_disjoint hv]
  simp
theorem rep_put {b : Array UInt8} {r z v n : Int} {bs : List Bool} (p : Rep b r z bs) (n0 : 0 ≤ n) (v0 : 0 ≤ v) (v1 : v < 2 ^ n.toNat) : Rep b (Builtin.bitOr (r * 2 ^ n.toNat) v) (z + n) (bs ++ bitsN v.toNat n.toNat) := by
  obtain ⟨z0, r0, r1, e⟩ := p
  have hv := toNat_lt_pow v1
  have hr := toNat_lt_pow r1
  have hz := Int.toNat_add z0 n0
  rw [bitOr_low r0 v0 v1]
  refine ⟨by omega, Int.natCast_nonneg _, ?_, ?_⟩
  · rw [hz, ← two_pow_cast]
    refine Int.ofNat_lt.mpr ?_
    rw [Nat.pow_add]
    have h1 := Nat.mul_le_mul_right (2 ^ n.toNat) (Nat.succ_le_of_lt hr)
    rw [Nat.succ_mul] at h1
    omega
  · rw [hz, e, Int.toNat_natCast, bitsN_add, List.append_assoc]
    have h2 : (r.toNat * 2 ^ n.toNat + v.toNat) / 2 ^ n.toNat = r.toNat := by
      rw [Nat.add_comm, Nat.add_mul_div_right _ _ (Nat.two_pow_pos _), Nat.div_eq_of_lt hv, Nat.zero_add]
    have h3 : bitsN (r.toNat * 2 ^ n.toNat + v.toNat) n.toNat = bitsN v.toNat n.toNat := by
      rw [← bitsN_mod (r.toNat * 2 ^ n.toNat + v.toNat) (Nat.le_refl n.toNat), Nat.add_comm, Nat.add_mul_mod_self_right, Nat.mod_eq_of_lt hv]
    rw [h2, h3]
theorem turn_byte {r z : Int} (r0 : 0 ≤ r) (r1 : r < 2 ^ z.toNat) (z8 : 8 ≤ z) : Int.fdiv r (2 ^ (z - 8).toNat) = ((r.toNat / 2 ^ (z - 8).toNat : Nat) : Int) ∧ r.toNat / 2 ^ (z - 8).toNat < 256 := by
  obtain ⟨ρ, rfl⟩ := Int.eq_ofNat_of_zero_le r0
  have hz := toNat_8 z8
  refine ⟨?_, ?_⟩
  · rw [Int.fdiv_eq_ediv_of_nonneg _ (Int.le_of_lt (Int.pow_pos (by decide))), ← two_pow_cast]; rfl
  · have h2 : ρ < 2 ^ z.toNat := toNat_lt_pow r1
    rw [hz, Nat.pow_add] at h2
    refine Nat.div_lt_of_lt_mul ?_
    simpa [Nat.mul_comm] using h2
theorem turn_rest {r z : Int} (r0 : 0 ≤ r) : Builtin.bitAnd r (1 * 2 ^ (z - 8).toNat - 1) = ((r.toNat % 2 ^ (z - 8).toNat : Nat) : Int) := by
  have h1 : 1 * 2 ^ (z - 8).toNat - 1 = ((2 ^ (z - 8).toNat - 1 : Nat) : Int) := by
    have := two_pow_cast (z - 8).toNat
    have := Nat.two_pow_pos (z - 8).toNat
    omega
  rw [h1, bitAnd_pp r0 (Int.natCast_nonneg _), Int.toNat_natCast, Nat.and_two_pow_sub_one_eq_mod]
theorem rep_turn {b : Array UInt8} {r z : Int} {bs : List Bool} (p : Rep b r z bs) (z8 : 8 ≤ z) :
    Rep (b.push (Int.fdiv r (2 ^ (z - 8).toNat)).toNat.toUInt8) (Builtin.bitAnd r (1 * 2 ^ (z - 8).toNat - 1)) (z - 8) bs := by
  obtain ⟨z0, r0, r1, e⟩ := p
  obtain ⟨h1, h2⟩ := turn_byte r0 r1 z8
  have hz := toNat_8 z8
  rw [h1, turn_rest r0]
  refine ⟨by omega, Int.natCast_nonneg _, ?_, ?_⟩
  · rw [← two_pow_cast]
    exact Int.ofNat_lt.mpr (Nat.mod_lt _ (Nat.two_pow_pos _))
  · rw [e, Array.toList_push, bitsB_append, Int.toNat_natCast, Int.toNat_natCast, hz, bitsN_add, List.append_assoc, bitsN_mod _ (Nat.le_refl _)]
    have h3 : (r.toNat / 2 ^ (z - 8).toNat).toUInt8.toNat = r.toNat / 2 ^ (z - 8).toNat := by
      show (UInt8.ofNat _).toNat = _
      rw [UInt8.toNat_ofNat']
      exact Nat.mod_eq_of_lt h2
    rw [h3]

end

-- part math3
section
-- needs: math1 math2
/-- bits as a text of figures -/
noncomputable def bitCh (b : Bool) : Nat := if b then 49 else 48
noncomputable def figOf (b : Bool) : Str := ⟨#[bitCh b]⟩
noncomputable def textOf (l : List Bool) : Str := ⟨(l.map bitCh).toArray⟩
theorem textOf_append (a b : List Bool) : textOf a ++ textOf b = textOf (a ++ b) := by
  show Str.append _ _ = _
  unfold Str.append textOf
  simp
theorem textOf_nil : Str.ofString "" = textOf [] := by decide +kernel
theorem textOf_length (l : List Bool) : (textOf l).length = l.length := by simp [textOf, Str.length]
theorem textOf_size (l : List Bool) : (textOf l).cps.size = l.length := by simp [textOf]
theorem glued_figs (l : List Bool) : ∀ (a : Array Nat), (l.map figOf).foldl (fun acc p => acc ++ (Str.ofString "").cps ++ p.cps) a = a ++ (l.map bitCh).toArray := by
  have e : (Str.ofString "").cps = #[] := by decide +kernel
  induction l with
  | nil => intro a; simp
  | cons b l ih =>
    intro a
    rw [List.map_cons, List.foldl_cons, ih, e]
    simp [figOf]
theorem join_figs (l : List Bool) : Txt.join (Str.ofString "") (l.map figOf) = textOf l := by
  cases l with
  | nil => decide +kernel
  | cons b l =>
    show Builtin.Str.glued _ _ = _
    unfold Builtin.Str.glued
    rw [List.map_cons, List.headD_cons, List.drop_one, List.tail_cons, glued_figs]
    simp [figOf, textOf]
theorem figs_weight (l : List Bool) : ((l.map figOf).map (·.length)).sum + (l.map figOf).length = 2 * l.length := by
  induction l with
  | nil => rfl
  | cons b l ih =>
    rw [List.map_cons, List.map_cons, List.sum_cons, List.length_cons, List.length_cons, Nat.mul_succ, ← ih, show (figOf b).length = 1 from rfl, Nat.add_comm 1, Nat.add_assoc, Nat.add_assoc, Nat.add_comm 1]
theorem strsAre_snoc {vs : List Value} {ys : List Str} (h : StrsAre vs ys) (y : Str) (t : Tok) : StrsAre (vs ++ [.str y t]) (ys ++ [y]) := kct_snoc h
theorem bitsN_get {v : Nat} : ∀ {n i : Nat}, i < n → (bitsN v n)[i]? = some (v.testBit (n - 1 - i))
  | 0, _, h => absurd h (Nat.not_lt_zero _)
  | n + 1, 0, _ => rfl
  | n + 1, i + 1, h => by
    rw [bitsN, List.getElem?_cons_succ, bitsN_get (Nat.lt_of_succ_lt_succ h), Nat.add_sub_cancel, Nat.sub_sub, Nat.add_comm 1 i]
theorem bitsN_take {v n i : Nat} (h : i < n) : (bitsN v n).take (i + 1) = (bitsN v n).take i ++ [v.testBit (n - 1 - i)] := by
  rw [List.take_add_one, bitsN_get h]
  rfl
theorem fig_text (b : Bool) : Str.ofString (toString (if b then (1 : Int) else 0)) = figOf b := by cases b <;> decide +kernel
theorem fig_bit {v k : Int} (v0 : 0 ≤ v) (k0 : 0 ≤ k) : Int.fmod (Int.fdiv v (2 ^ k.toNat)) 2 = if v.toNat.testBit k.toNat then 1 else 0 := by
  obtain ⟨ν, rfl⟩ := Int.eq_ofNat_of_zero_le v0
  rw [Int.fdiv_eq_ediv_of_nonneg _ (Int.le_of_lt (Int.pow_pos (by decide))), Int.fmod_eq_emod_of_nonneg _ (by decide), ← two_pow_cast, ← Int.natCast_ediv, Int.toNat_natCast, Nat.testBit_eq_decide_div_mod_eq]
  have : (((ν / 2 ^ k.toNat : Nat) : Int) % 2) = ((ν / 2 ^ k.toNat % 2 : Nat) : Int) := rfl
  rw [this]
  rcases Nat.mod_two_eq_zero_or_one (ν / 2 ^ k.toNat) with e | e <;> rw [e] <;> simp

theorem textOf_get {l : List Bool} {i c : Nat} (h : (textOf l).cps[i]? = some c) : ∃ b, l[i]? = some b ∧ c = bitCh b := by
  have h1 : (l.map bitCh)[i]? = some c := by simpa [textOf] using h
  rw [List.getElem?_map] at h1
  cases hb : l[i]? with
  | none => rw [hb] at h1; cases h1
  | some b => rw [hb] at h1; cases h1; exact ⟨b, rfl, rfl⟩
theorem one_text : (⟨#[bitCh true]⟩ : Str) = Str.ofString "1" := by decide +kernel
theorem zero_text : (⟨#[bitCh false]⟩ : Str) = Str.ofString "0" := by decide +kernel
theorem fig_one : figOf true = Str.ofString "1" := by decide +kernel
theorem fig_zero : figOf false = Str.ofString "0" := by decide +kernel

theorem figs_fit (l : List Bool) (h : l.length ≤ 500000) : ((l.map figOf).map (·.length)).sum + (l.map figOf).length ≤ 1048576 := by
  rw [figs_weight]
  omega

/-- how many bits fill the last byte -/
noncomputable def padOf (l : List Bool) : Nat := (Int.fmod (-(l.length : Int)) 8).toNat
theorem pad_int (n : Nat) : (((Int.fmod (-(n : Int)) 8).toNat : Nat) : Int) = (-(n : Int)) % 8 := by
  rw [Int.fmod_eq_emod_of_nonneg _ (by decide)]
  exact Int.toNat_of_nonneg (Int.emod_nonneg _ (by decide))
theorem pad_low (n : Nat) : (Int.fmod (-(n : Int)) 8).toNat < 8 := by
  refine Int.ofNat_lt.mp ?_
  rw [pad_int]
  exact Int.emod_lt_of_pos _ (by decide)
theorem pad_len (n : Nat) : (n + (Int.fmod (-(n : Int)) 8).toNat) % 8 = 0 := by
  refine Int.ofNat_inj.mp ?_
  rw [Int.natCast_emod, Int.natCast_add, pad_int, show ((8 : Nat) : Int) = 8 from rfl, Int.add_emod_emod, Int.add_right_neg]
  rfl

end

-- part math4
section
-- needs: math1 math2 math3
theorem range_get (c : List Nat) (a : Nat) : ∀ n, (List.range n).filterMap (fun k => c[a + k]?) = (c.drop a).take n
  | 0 => by simp
  | n + 1 => by
    rw [List.range_succ, List.filterMap_append, range_get c a n, List.take_add_one, List.getElem?_drop]
    cases h : c[a + n]? <;> simp [h]
theorem clip_in {a n : Nat} (h : a ≤ n) : max 0 (min (a : Int) (n : Int)) = a := by
  rw [Int.min_eq_left (Int.ofNat_le.mpr h), Int.max_eq_right (Int.natCast_nonneg a)]
theorem slice_idx {a len : Nat} (h : a + 8 ≤ len) : Builtin.Str.strSliceIndices (some (a : Int)) (some ((a : Int) + 8)) 1 len = (List.range 8).map fun k => a + k := by
  show sliceRange (max 0 (min (if (a : Int) < 0 then (a : Int) + len else a) len)) (max 0 (min (if ((a + 8 : Nat) : Int) < 0 then ((a + 8 : Nat) : Int) + len else ((a + 8 : Nat) : Int)) len)) 1 = _
  rw [if_neg (Int.not_lt.mpr (Int.natCast_nonneg a)), if_neg (Int.not_lt.mpr (Int.natCast_nonneg _)), clip_in (Nat.le_trans (Nat.le_add_right _ _) h), clip_in h]
  unfold sliceRange
  rw [if_pos (show (1 : Int) > 0 by decide), if_pos (show (a : Int) < ((a + 8 : Nat) : Int) from Int.ofNat_lt.mpr (Nat.lt_add_of_pos_right (by decide))), Int.ediv_one, Int.add_sub_cancel, Int.natCast_add, Int.add_comm (a : Int), Int.add_sub_cancel]
  refine List.map_congr_left fun k _ => ?_
  rw [Int.one_mul]
  rfl
theorem slice_bits {l : List Bool} {i : Nat} (h : 8 * i + 8 ≤ l.length) : Txt.slice (textOf l) (some (0 + (i : Int) * 8)) (some (0 + (i : Int) * 8 + 8)) = textOf ((l.drop (8 * i)).take 8) := by
  have e0 : (0 : Int) + (i : Int) * 8 = ((8 * i : Nat) : Int) := by omega
  rw [e0]
  unfold Txt.slice
  rw [textOf_length, slice_idx h]
  split
  · rename_i hc
    have h8 : 8 = l.length := by simpa using hc
    have hi : i = 0 := by omega
    subst hi
    rw [List.drop_zero, List.take_of_length_le (by omega)]
  · show (⟨_⟩ : Str) = _
    unfold textOf
    congr 2
    rw [List.filterMap_map]
    have := range_get (l.map bitCh) (8 * i) 8
    simp only [Function.comp_def, List.getElem?_toArray, this, List.map_take, List.map_drop]
theorem ones_foldl (n : Nat) : ∀ a : Array Nat, (List.replicate n (#[49] : Array Nat)).foldl (· ++ ·) a = a ++ (List.replicate n 49).toArray := by
  induction n with
  | zero => intro a; simp
  | succ n ih =>
    intro a
    rw [List.replicate_succ, List.foldl_cons, ih, List.replicate_succ]
    show _ ++ _ = _
    rw [Array.append_assoc]
    congr 1
    apply Array.ext'
    simp
theorem ones_text (x : Int) : Txt.mul (Str.ofString "1") x = textOf (List.replicate x.toNat true) := by
  have e : Str.ofString "1" = ⟨#[49]⟩ := by decide +kernel
  unfold Txt.mul
  rw [e]
  split
  · rw [show x.toNat = 0 by omega]; rfl
  · split
    · rename_i h1 h2
      have : x = 1 := by simpa [Str.length] using h2
      rw [this]
      rfl
    · show (⟨_⟩ : Str) = _
      rw [ones_foldl]
      simp [textOf, bitCh]
/-- eight bits a number -/
noncomputable def octs (l : List Bool) (i : Nat) : List Int := (List.range i).map fun j => ((valN ((l.drop (8 * j)).take 8) : Nat) : Int)
theorem octs_succ (l : List Bool) (i : Nat) : octs l (i + 1) = octs l i ++ [((valN ((l.drop (8 * i)).take 8) : Nat) : Int)] := by
  unfold octs
  rw [List.range_succ, List.map_append]
  rfl
theorem intsAre_snoc {vs : List Value} {ns : List Int} (h : IntsAre vs ns) (n : Int) (t : Tok) : IntsAre (vs ++ [.int n t]) (ns ++ [n]) := ksk_snoc h
theorem octs_in {l : List Bool} {i : Nat} : ∀ n ∈ octs l i, 0 ≤ n ∧ n < 256 := by
  intro n hn
  obtain ⟨j, _, rfl⟩ := List.mem_map.mp hn
  refine ⟨Int.natCast_nonneg _, ?_⟩
  have h1 := valN_bound ((l.drop (8 * j)).take 8)
  have h2 : ((l.drop (8 * j)).take 8).length ≤ 8 := by rw [List.length_take]; omega
  have h3 : 2 ^ ((l.drop (8 * j)).take 8).length ≤ 2 ^ 8 := Nat.pow_le_pow_right (by decide) h2
  omega
theorem octs_bits {l : List Bool} : ∀ i, 8 * i ≤ l.length → bitsB ((octs l i).map fun n => n.toNat.toUInt8) = l.take (8 * i)
  | 0, _ => rfl
  | i + 1, h => by
    rw [octs_succ, List.map_append, List.map_cons, List.map_nil, bitsB_append, octs_bits i (by omega)]
    have h1 : ((l.drop (8 * i)).take 8).length = 8 := by rw [List.length_take, List.length_drop]; omega
    have h2 := valN_bound ((l.drop (8 * i)).take 8)
    rw [h1] at h2
    have h3 : (((valN ((l.drop (8 * i)).take 8) : Nat) : Int).toNat.toUInt8).toNat = valN ((l.drop (8 * i)).take 8) := by
      rw [Int.toNat_natCast]
      show (UInt8.ofNat _).toNat = _
      rw [UInt8.toNat_ofNat']
      exact Nat.mod_eq_of_lt h2
    rw [h3]
    have h4 := bitsN_valN ((l.drop (8 * i)).take 8)
    rw [h1] at h4
    rw [h4, show 8 * (i + 1) = 8 * i + 8 by omega, List.take_add]

end

-- part int2
section
-- needs: math1 math2 math3
noncomputable def numVal (x : (int_private% "Numeral")) : Option Int := by
  cases x
  · exact none
  · exact none
  · exact none
  · rename_i i; exact some i
theorem numVal_eq {x : (int_private% "Numeral")} {i : Int} (h : numVal x = some i) : x = (int_private% "Numeral.value") i := by
  cases x
  · cases h
  · cases h
  · cases h
  · cases h; rfl
theorem read8 : ∀ n : Nat, n < 256 → numVal ((int_private% "readNumeral") 0 2 ((bitsN n 8).map bitCh)) = some (n : Int) := by decide +kernel
theorem read_bits {l : List Bool} (h : l.length = 8) : (int_private% "readNumeral") 0 2 (l.map bitCh) = (int_private% "Numeral.value") ((valN l : Nat) : Int) := by
  have e := bitsN_valN l
  have v : valN l < 256 := by
    have v := valN_lt l 0
    rw [h] at v
    exact v
  rw [h] at e
  have r := read8 (valN l) v
  rw [e] at r
  exact numVal_eq r
theorem bits_takeWhile : ∀ l : List Bool, (l.map bitCh).takeWhile (· != 0) = l.map bitCh
  | [] => rfl
  | b :: l => by
    rw [List.map_cons, List.takeWhile_cons, bits_takeWhile l]
    cases b <;> rfl
theorem typeCall_int2 (a b : Value) : checkTypeCall "int" ⟨[a, b], []⟩ = pure () := by kernel_rfl
theorem newCall_int2 (a b : Value) : checkBuiltinCall "int.__new__" ⟨[.type "int", a, b], []⟩ = pure () := by kernel_rfl
theorem wp_text2 {M : Model} {A : Around} {E : Value → Shared → Prop} {s : Shared} {Q : Value → Shared → Prop} {v : Value} {text : List Nat} {n : Int}
    (hs : (text.takeWhile (· != 0)).length ≤ 640) (hr : (int_private% "readNumeral") 0 2 (text.takeWhile (· != 0)) = (int_private% "Numeral.value") n)
    (ha : ((text.takeWhile (· != 0)).length == text.length) = true) (h : Q (.int n s.toks) { s with toks := s.toks + 1 }) :
    wpAny M A ((int_private% "intFromText") v text 2) Q E s := by
  obtain ⟨hp, g, d, tk, os⟩ := s
  repeat (any_goals (first
    | assumption
    | (with_reducible refine wpAny_ite_true (decide_eq_true hs) ?_)
    | (with_reducible refine wpAny_ite_true (decide_eq_true ha) ?_)
    | wp_step))
  all_goals (try rw [hr])
  all_goals (try dsimp only)
  repeat (any_goals (first
    | assumption
    | (with_reducible refine wpAny_ite_true (decide_eq_true hs) ?_)
    | (with_reducible refine wpAny_ite_true (decide_eq_true ha) ?_)
    | wp_step))
theorem bits_ascii (l : List Bool) : (textOf l).cps.all (· < 128) = true := by
  unfold textOf
  rw [List.all_toArray, List.all_map, List.all_eq_true]
  intro b _
  cases b <;> decide
set_option maxHeartbeats 4000000 in
theorem gives_text2 {l : List Bool} {u t : Tok} (h8 : l.length = 8) : Gives (Builtin.«int.__new__» ⟨[.type "int", .str (textOf l) u, .int 2 t], []⟩) (.int ((valN l : Nat) : Int)) :=
  .of_wp fun M A E s Q h => by
    obtain ⟨hp, g, d, tk, os⟩ := s
    have f1 := F.conv_sub_int
    have f2 := F.madeHere_int
    have f6 : typeOf (.str (textOf l) u) = pure (.type "str") := rfl
    have f7 : (if ((textOf l).cps.all (· < 128)) = true then (textOf l).cps.toList else PySem.Unicode.numberText (textOf l).cps.toList) = l.map bitCh := by
      rw [if_pos (bits_ascii l)]
      simp [textOf]
    have hs : ((if ((textOf l).cps.all (· < 128)) = true then (textOf l).cps.toList else PySem.Unicode.numberText (textOf l).cps.toList).takeWhile (· != 0)).length ≤ 640 := by
      rw [f7, bits_takeWhile, List.length_map, h8]
      decide
    have hr : (int_private% "readNumeral") 0 2 ((if ((textOf l).cps.all (· < 128)) = true then (textOf l).cps.toList else PySem.Unicode.numberText (textOf l).cps.toList).takeWhile (· != 0)) = (int_private% "Numeral.value") ((valN l : Nat) : Int) := by
      rw [f7, bits_takeWhile]
      exact read_bits h8
    have ha : (((if ((textOf l).cps.all (· < 128)) = true then (textOf l).cps.toList else PySem.Unicode.numberText (textOf l).cps.toList).takeWhile (· != 0)).length == (if ((textOf l).cps.all (· < 128)) = true then (textOf l).cps.toList else PySem.Unicode.numberText (textOf l).cps.toList).length) = true := by
      rw [f7, bits_takeWhile]
      exact beq_self_eq_true _
    have hk := KIN.Hid.mk (And.intro hs (And.intro hr ha))
    clear hs hr ha f7
    repeat (any_goals (first
      | assumption
      | ((with_reducible show wpAny _ _ ((int_private% "intFromText") _ _ _) _ _ _); refine wp_text2 hk.out.1 hk.out.2.1 hk.out.2.2 ?_)
      | wp_step))
    all_goals first | exact ⟨_, rfl, h⟩ | skip
theorem int_bits {prog : Program} {w : World} {A : Around} {E : Value → Shared → Prop} {s : Shared} {Q : Value → Shared → Prop} {l : List Bool} {u t : Tok} (h8 : l.length = 8) (h : Q (.int ((valN l : Nat) : Int) s.toks) { s with toks := s.toks + 1 }) :
    wpAny (model prog w) A (call (.type "int") [.str (textOf l) u, .int 2 t]) Q E s :=
  callType_new F.called_int F.newNe_int (typeCall_int2 _ _) (newCall_int2 _ _) (fun obj => F.args_object_init_3 obj _ _) F.entry_int_new (gives_text2 h8).meets (show (Made.int _).post _ s from ⟨rfl, h⟩)

end

-- part clean
section
-- needs:
/-- the built-ins that hold a bytearray's memory while they run -/
noncomputable def heldIds : List String := Builtin.Bytes.decodersThatHold ++ ["bytearray.__contains__", "bytearray.__mod__", "bytearray.__rmod__", "_struct.pack_into.held", "bytearray.find.held"]
noncomputable def cl : Code → Bool
  | .builtin id _ => !heldIds.contains id
  | _ => true
noncomputable def Cln (Γ : Ctx) : Prop := cl Γ.code = true ∧ ∀ x ∈ Γ.below, cl x.1 = true

/-- as wpAny, but only where no activation under way holds a bytearray; nothing is raised -/
noncomputable def wpC {α : Type} (M : Model) (A : Around) (t : Sem α) (Q : α → Shared → Prop) (s : Shared) : Prop :=
  ∀ Γ p, Γ.In A → Cln Γ → Sem.wp M Γ t (fun a _ s' => Q a s') (fun _ _ _ => False) p s
noncomputable def okR (R : Flow → Shared → Prop) (r : Result) (s' : Shared) : Prop := match r with
  | .ok f => R f s'
  | .error _ => False
noncomputable def codeC (M : Model) (A : Around) (c : Code) (R : Flow → Shared → Prop) (s : Shared) : Prop :=
  ∀ Γ p, Γ.code = c → Γ.Below A → (∀ x ∈ Γ.below, cl x.1 = true) → wpCode M Γ (okR R) p s
noncomputable def retR (Q : Value → Shared → Prop) (f : Flow) (s' : Shared) : Prop := match f with
  | .ret v => Q v s'
  | _ => False
noncomputable def finR (M : Model) (A : Around) (R : Flow → Shared → Prop) (fin : Fin) (s' : Shared) : Prop := match fin with
  | .done f => R f s'
  | .again c' => c'.quiet = true ∧ codeC M A c' R s'

section
variable {α β : Type} {M : Model} {A : Around} {s : Shared}
theorem wpC_of_any {t : Sem α} {Q : α → Shared → Prop} (h : wpAny M A t Q (fun _ _ => False) s) : wpC M A t Q s := fun Γ p hΓ _ => h Γ p hΓ
theorem wpC_mono {t : Sem α} {Q Q' : α → Shared → Prop} (h : wpC M A t Q s) (hQ : ∀ a s, Q a s → Q' a s) : wpC M A t Q' s :=
  fun Γ p hΓ hc => Sem.wp_mono M Γ t (fun a _ s => hQ a s) (fun _ _ _ e => e) p s (h Γ p hΓ hc)
theorem wpC_pure {a : α} {Q : α → Shared → Prop} (h : Q a s) : wpC M A (pure a) Q s := fun _ _ _ _ => h
theorem wpC_bind {m : Sem α} {f : α → Sem β} {Q : β → Shared → Prop} (h : wpC M A m (fun a s' => wpC M A (f a) Q s') s) : wpC M A (m >>= f) Q s := fun Γ p hΓ hc => by
  rw [Sem.wp_bind']
  exact Sem.wp_mono M Γ m (fun a p' s' h' => h' Γ p' hΓ hc) (fun _ _ _ h' => h') p s (h Γ p hΓ hc)
theorem wpC_any_bind {m : Sem α} {f : α → Sem β} {Q : β → Shared → Prop} (h : wpAny M A m (fun a s' => wpC M A (f a) Q s') (fun _ _ => False) s) : wpC M A (m >>= f) Q s := wpC_bind (wpC_of_any h)
theorem wpC_onRaise {m : Sem α} {k : Value → Sem Unit} {Q : α → Shared → Prop} (h : wpC M A m Q s) : wpC M A (m.onRaise k) Q s := fun Γ p hΓ hc => by
  rw [Sem.wp_onRaise]
  exact Sem.wp_mono M Γ m (fun _ _ _ h' => h') (fun _ _ _ h' => h'.elim) p s (h Γ p hΓ hc)
theorem wpC_holding {vs : List Value} {m : Sem α} {Q : α → Shared → Prop} (h : wpC M A m Q s) : wpC M A (holding vs m) Q s := fun Γ p hΓ hc => by rw [Sem.wp_holding]; exact h Γ p hΓ hc
theorem wpC_keep {vs : List Value} {m : Sem α} {Q : α → Shared → Prop} (h : wpC M A m Q s) : wpC M A (m.keep vs) Q s := fun Γ p hΓ hc => by rw [Sem.wp_keep]; exact h Γ p hΓ hc
theorem wpC_operate {vs : List Value} {m : Sem Value} {Q : Value → Shared → Prop} (h : wpC M A m Q s) : wpC M A (operate vs m) Q s := fun Γ p hΓ hc => by rw [Sem.wp_operate]; exact h Γ p hΓ hc
theorem wpC_standAt {pos : Pos} {Q : Unit → Shared → Prop} (h : Q () s) : wpC M A (standAt pos) Q s := fun _ _ _ _ => h
theorem wpC_point {Q : Unit → Shared → Prop} (h : Q () s) : wpC M A point Q s := fun _ _ _ _ => h
theorem wpC_rule {tag : String} {Q : Unit → Shared → Prop} (h : Q () s) : wpC M A (rule tag) Q s := fun _ _ _ _ => h
theorem wpC_if_false {c : Bool} {a b : Sem α} {Q : α → Shared → Prop} (hc : c = false) (h : wpC M A b Q s) : wpC M A (if c = true then a else b) Q s := by subst hc; exact h
theorem wpC_if_true {c : Bool} {a b : Sem α} {Q : α → Shared → Prop} (hc : c = true) (h : wpC M A a Q s) : wpC M A (if c = true then a else b) Q s := by subst hc; exact h

theorem codeC_mono {c : Code} {R R' : Flow → Shared → Prop} (h : codeC M A c R s) (hR : ∀ f s, R f s → R' f s) : codeC M A c R' s := fun Γ p hc hb hl =>
  wpCode_mono (fun r s' => by cases r with | ok f => exact hR f s' | error e => exact id) (h Γ p hc hb hl)
theorem codeC_of_any {c : Code} {R : Flow → Shared → Prop} (h : codeAny M A c (okR R) s) : codeC M A c R s := fun Γ p hc hb _ => h Γ p hc hb
theorem codeC_of_tree {c : Code} {R : Flow → Shared → Prop} (hcl : cl c = true) (h : wpC M (A.under c) (M.den c) (finR M A R) s) : codeC M A c R s := fun Γ p hc hΓ hl => by
  rw [wpCode_iff_wp, hc]
  refine Sem.wp_mono M Γ _ (fun fin p' s' h' => ?_) (fun _ _ _ h' => h'.elim) p s (h Γ p (hc ▸ hΓ.in) ⟨hc ▸ hcl, hl⟩)
  cases fin with
  | done f => exact h'
  | again c' => exact ⟨h'.1, h'.2 (Γ.goto c') p' rfl (hΓ.goto c') hl⟩
theorem wpC_run {c : Code} {Q : Flow → Shared → Prop} (h : codeC M A c Q s) : wpC M A (run c none) Q s := fun Γ p hΓ hc => by
  rw [Sem.wp_run]
  refine wpCode_mono (fun r s' x => ?_) (h _ p rfl (hΓ.enter c none p (by intro x; cases x)) (fun x hx => ?_))
  · cases r <;> exact x
  · rcases List.mem_cons.mp hx with rfl | hx
    · exact hc.1
    · exact hc.2 x hx
theorem wpC_runValue {c : Code} {Q : Value → Shared → Prop} (h : codeC M A c (retR Q) s) : wpC M A (runValue c) Q s := fun Γ p hΓ hc => by
  rw [Sem.wp_runValue]
  refine wpCode_mono (fun r s' x => ?_) (h _ p rfl (hΓ.enter c none p (by intro x; cases x)) (fun x hx => ?_))
  · cases r with
    | error e => exact x
    | ok f => cases f <;> exact x
  · rcases List.mem_cons.mp hx with rfl | hx
    · exact hc.1
    · exact hc.2 x hx
theorem wpC_call {f : Value} {pos : List Value} {kw : List (Str × Value)} {Q : Value → Shared → Prop} (h : codeC M A (.call f ⟨pos, kw⟩) (retR Q) s) : wpC M A (call f pos kw) Q s := wpC_runValue h

theorem held_id {id : String} (h : heldIds.contains id = false) (v : String) (hv : heldIds.contains v = true) : ¬ id = v := fun e => by
  rw [e, hv] at h
  cases h
theorem wpC_exported {self : Value} {Q : Bool → Shared → Prop} (h : Q false s) : wpC M A (Builtin.Bytes.exported self) Q s := fun Γ p _ hc => by
  have hl : ∀ x ∈ (Γ.code, p) :: Γ.below, cl x.1 = true := fun x hx => by
    rcases List.mem_cons.mp hx with rfl | hx
    · exact hc.1
    · exact hc.2 x hx
  unfold Builtin.Bytes.exported
  show Q (List.any ((Γ.code, p) :: Γ.below) _) s
  refine (congrArg (Q · s) (List.any_eq_false.mpr (fun x hx => ?_))).mpr h
  have hx := hl x hx
  clear hl
  obtain ⟨c, p⟩ := x
  cases c with
  | builtin id args =>
    have hc : heldIds.contains id = false := by
      cases hb : heldIds.contains id with
      | false => rfl
      | true =>
        have h2 : (!heldIds.contains id) = true := hx
        rw [hb] at h2
        cases h2
    obtain ⟨pos, kw⟩ := args
    delta Builtin.Bytes.exported.match_1 Builtin.Bytes.exported._sparseCasesOn_1
    dsimp only
    rw [dif_neg (held_id hc "bytearray.__contains__" (by decide +kernel)), dif_neg (held_id hc "bytearray.__mod__" (by decide +kernel)), dif_neg (held_id hc "bytearray.__rmod__" (by decide +kernel)), dif_neg (held_id hc "_struct.pack_into.held" (by decide +kernel)), dif_neg (held_id hc "bytearray.find.held" (by decide +kernel))]
    cases pos with
    | nil => exact Bool.false_ne_true
    | cons v l =>
      show ¬ (Builtin.Bytes.sameRef v self && Builtin.Bytes.decodersThatHold.contains id) = true
      intro hb
      have h2 := List.contains_iff_mem.mpr (List.mem_append_left ["bytearray.__contains__", "bytearray.__mod__", "bytearray.__rmod__", "_struct.pack_into.held", "bytearray.find.held"] (List.contains_iff_mem.mp (Bool.and_eq_true_iff.mp hb).2))
      cases hc.symm.trans h2
  | _ => exact Bool.false_ne_true
end

end

-- part clean2
section
-- needs: clean
section
variable {prog : Program} {w : World} {A : Around} {s : Shared} {R : Flow → Shared → Prop}
theorem codeC_builtin {id : String} {args : Args} {b : Builtin} (hcl : cl (.builtin id args) = true) (hb : entryFor table id = some b)
    (h : wpC (model prog w) (A.under (.builtin id args)) (b args) (finR (model prog w) A R) s) : codeC (model prog w) A (.builtin id args) R s := by
  refine codeC_of_tree hcl ?_
  show wpC _ _ (match entryFor table id with | some b => b args | none => unsupported ((withoutEnding? id "#data").getD id)) _ s
  rw [hb]; exact h
theorem codeC_call_builtin_at {id : String} {args : Args} {b : Builtin} (hcl : cl (.builtin id args) = true) (hq : (Code.builtin id args).quiet = true) (hb : entryFor table id = some b)
    (h : wpAny (model prog w) A.in1 (checkBuiltinCall id args) (fun _ s₁ => wpC (model prog w) (A.under (.builtin id args)) (b args) (finR (model prog w) A R) s₁) (fun _ _ => False) s) :
    codeC (model prog w) A (.call (.builtin id) args) R s := by
  refine codeC_of_tree rfl ?_
  show wpC _ A.in1 (do checkBuiltinCall id args; again (.builtin id args)) _ s
  exact wpC_any_bind (wpAny_mono h (fun _ s₁ h₁ => wpC_pure (And.intro hq (codeC_builtin hcl hb h₁))) fun _ _ x => x)

open Builtin in
theorem ba_entry_append : entryFor table "bytearray.append" = some Builtin.«bytearray.append» := by first | exact entryFor_of_fast (by kernel_rfl) | exact entryFor_of_tree (by kernel_rfl)
theorem ba_slot_append : Slot "bytearray" "append" "bytearray.append" :=
  .of (owner := "bytearray") (n := "append") (by rw [typeLookup_type, builtinLookup_eq_fast]; kernel_rfl) (by decide +kernel) (by decide +kernel) (by decide +kernel)
    (by first | exact .inl (by decide +kernel) | exact .inr (by decide +kernel)) (by rw [isSubtype_type]; kernel_rfl)
theorem ba_args_append (a b : Value) : argsOk "bytearray.append" ⟨[a, b], []⟩ := by unfold argsOk; kernel_rfl

noncomputable abbrev baObj (b : Array UInt8) : Obj := { cls := .type "bytearray", data := .bytearray b }
theorem ba_typeIs {a : Addr} {b : Array UInt8} (h : s.heap.get? a = some (baObj b)) : s.TypeIs (.ref a) "bytearray" := ⟨_, h, rfl⟩

theorem wpC_exportsOf {M : Model} {a : Addr} {b : Array UInt8} {Q : Nat → Shared → Prop} (h : s.heap.get? a = some (baObj b)) (q : Q 0 s) : wpAny M A (Builtin.Bytes.exportsOf (.ref a)) Q (fun _ _ => False) s := by
  unfold Builtin.Bytes.exportsOf
  exact wpAny_bind (wpAny_load h (wpAny_pure q))

theorem wpC_unexported {M : Model} {a : Addr} {b : Array UInt8} {Q : Bool → Shared → Prop} (h : s.heap.get? a = some (baObj b)) (q : Q false s) :
    wpC M A (Builtin.Bytes.exported (.ref a) <||> (do return (← Builtin.Bytes.exportsOf (.ref a)) > 0)) Q s := by
  unfold orM
  refine wpC_bind (wpC_exported ?_)
  exact wpC_any_bind (wpC_exportsOf h (wpC_pure q))

theorem wpC_checkResize {M : Model} {a : Addr} {b : Array UInt8} {Q : Unit → Shared → Prop} (h : s.heap.get? a = some (baObj b)) (q : Q () s) : wpC M A (Builtin.Bytes.checkResize (.ref a)) Q s := by
  unfold Builtin.Bytes.checkResize
  refine wpC_bind (wpC_unexported h ?_)
  exact wpC_if_false rfl (wpC_pure q)

theorem ba_write {M : Model} {a : Addr} {b : Array UInt8} {f : Array UInt8 → Array UInt8} {Q : Unit → Shared → Prop} (h : s.heap.get? a = some (baObj b)) (hz : (f b).size ≤ sizeLine)
    (q : Q () { s with heap := s.heap.update a (Obj.mapBytearray f) }) : wpAny M A (Builtin.Bytes.write (.ref a) f) Q (fun _ _ => False) s := by
  show wpAny M A (updateBytearray a f) Q _ s
  unfold updateBytearray
  refine wpAny_bind (wpAny_load h ?_)
  show wpAny M A (update a (Obj.mapBytearray f) >>= fun _ => lookBehind a) Q _ s
  refine wpAny_bind (wpAny_update h ?_)
  refine wpAny_lookBehind (Heap.get?_update_self (Obj.mapBytearray f) h rfl) ?_ q
  show (if (f b).size > sizeLine then some "bytearray:memory" else none) = none
  rw [if_neg (Nat.not_lt.mpr hz)]

theorem ba_append {a : Addr} {b : Array UInt8} {v : Int} {t : Tok} {Q : Value → Shared → Prop} (h : s.heap.get? a = some (baObj b)) (h0 : 0 ≤ v) (h1 : v < 256) (hz : b.size + 1 ≤ sizeLine)
    (q : Q .none { s with heap := s.heap.update a (Obj.mapBytearray (·.push v.toNat.toUInt8)) }) : wpC (model prog w) A (call (.builtin "bytearray.append") [.ref a, .int v t]) Q s := by
  refine wpC_call (codeC_call_builtin_at (by simp only [cl]; decide +kernel) (plainId_quiet ba_slot_append.plain _) ba_entry_append (ba_slot_append.check _ _ _ _ _ _ _ _ (ba_typeIs h) (ba_args_append _ _) ?_))
  rw [Around.under_plainId ba_slot_append.plain _]
  unfold Builtin.«bytearray.append»
  show wpC _ _ (do
    let c ← Builtin.Bytes.byteValue (.int v t)
    Builtin.Bytes.checkResize (.ref a)
    Builtin.Bytes.write (.ref a) (·.push c)
    ret .none) _ s
  unfold Builtin.Bytes.byteValue
  refine wpC_any_bind (wpAny_bind (wpAny_of_eq (rfl : asIndex (.int v t) = pure v) ?_))
  refine bm_if_false (by simp only [Bool.or_eq_false_iff, decide_eq_false_iff_not]; omega) (wpAny_pure ?_)
  refine wpC_bind (wpC_checkResize h ?_)
  refine wpC_any_bind (ba_write h (by simpa using hz) ?_)
  exact wpC_pure q
end

end

-- part clean3
section
-- needs: clean clean2
section
variable {prog : Program} {w : World} {A : Around} {s : Shared} {R : Flow → Shared → Prop}
theorem ba_mro : mroOf (.type "bytearray") = pure [.type "bytearray", .type "object"] := by rw [mroOf_type]; kernel_rfl
theorem ba_lookup_new : typeLookup (.type "bytearray") "__new__" = pure (some (.builtin "bytearray.__new__")) := by rw [typeLookup_type, builtinLookup_eq_fast]; kernel_rfl
theorem ba_slot_init : Slot "bytearray" "__init__" "bytearray.__init__" :=
  .of (owner := "bytearray") (n := "__init__") (by rw [typeLookup_type, builtinLookup_eq_fast]; kernel_rfl) (by decide +kernel) (by decide +kernel) (by decide +kernel)
    (by first | exact .inl (by decide +kernel) | exact .inr (by decide +kernel)) (by rw [isSubtype_type]; kernel_rfl)
theorem ba_called : TypeCalled "bytearray" "bytearray.__new__" "bytearray.__init__" :=
  ⟨by decide +kernel, by decide +kernel, ⟨_, _, ba_mro⟩, madeBy_type ba_mro ba_lookup_new (by decide +kernel), by decide +kernel, by rw [isSubtype_type]; kernel_rfl, ba_slot_init⟩
theorem ba_typeCall : checkTypeCall "bytearray" ⟨[], []⟩ = pure () := by kernel_rfl
theorem ba_newCall : checkBuiltinCall "bytearray.__new__" ⟨[.type "bytearray"], []⟩ = pure () := by kernel_rfl
theorem ba_plain_new : plainId "bytearray.__new__" = true := by decide +kernel
theorem ba_entry_new : entryFor table "bytearray.__new__" = some Builtin.«list.__new__» := entryFor_alias (id' := "list.__new__") (by kernel_rfl) (by decide +kernel) (by decide +kernel) (by kernel_rfl)
theorem ba_entry_init : entryFor table "bytearray.__init__" = some Builtin.«bytearray.__init__» := by first | exact entryFor_of_fast (by kernel_rfl) | exact entryFor_of_tree (by kernel_rfl)
theorem ba_args_init (a : Value) : argsOk "bytearray.__init__" ⟨[a], []⟩ := by unfold argsOk; kernel_rfl
theorem ba_sub : isSubtype (.type "bytearray") (.type "bytearray") = pure true := PySem.F.sub_bytearray_bytearray
set_option maxRecDepth 1000000 in
set_option maxHeartbeats 4000000 in
theorem ba_owner : ("bytearray.__new__".splitOn ".__new__").headD "" = "bytearray" := by simp +decide [String.splitOn, String.splitOnAux]

theorem ba_new_code {E : Value → Shared → Prop} {Q₁ : Value → Shared → Prop} (h : Q₁ (.ref s.heap.objs.size) { s with heap := s.heap.push (baObj #[]) }) :
    codeAny (model prog w) A (.call (.builtin "bytearray.__new__") ⟨[.type "bytearray"], []⟩) (wants Q₁ E) s := by
  refine codeAny_of_tree ?_
  show wpAny _ A.in1 (do checkBuiltinCall "bytearray.__new__" ⟨[.type "bytearray"], []⟩; again (.builtin "bytearray.__new__" ⟨[.type "bytearray"], []⟩)) _ _ s
  refine wpAny_bind (wpAny_of_eq ba_newCall (wpAny_pure ⟨plainId_quiet ba_plain_new _, codeAny_builtin_stack ba_entry_new rfl fun p st => ?_⟩))
  rw [Around.under_plainId ba_plain_new _]
  have hsub := ba_sub
  have hown := ba_owner
  obtain ⟨hp, g, d, tk, os⟩ := s
  simp only [hown]
  wp_walk
  exact h

theorem ba_release_none : typeLookup (.type "bytearray") "__release_buffer__" = pure (some (.builtin "bytearray.__release_buffer__")) := by rw [typeLookup_type, builtinLookup_eq_fast]; kernel_rfl
theorem ba_bind0 : Builtin.Bytes.bindOptional "bytearray.__init__" "bytearray" ["source", "encoding", "errors"] [] [] = pure [none, none, none] := by kernel_rfl
theorem ba_isInst {M : Model} {E : Value → Shared → Prop} {a : Addr} {b : Array UInt8} {Q : Bool → Shared → Prop} (h : s.heap.get? a = some (baObj b)) (q : Q true s) : wpAny M A (isInstance (.ref a) (.type "bytearray")) Q E s :=
  wpAny_isInstance (ba_typeIs h) ba_sub q
theorem ba_slotOwn {M : Model} {E : Value → Shared → Prop} {a : Addr} {b : Array UInt8} {Q : Bool → Shared → Prop} {name : String} (h : s.heap.get? a = some (baObj b)) (hl : typeLookup (.type "bytearray") (Str.ofString name) = pure (some (.builtin ("bytearray." ++ name))))
    (he : (("bytearray." ++ name).endsWith ("." ++ name)) = true) (hd : ("bytearray." ++ name).dropRight (name.length + 1) = "bytearray") (q : Q true s) : wpAny M A (Builtin.Bytes.slotIsOwn (.ref a) name) Q E s := by
  unfold Builtin.Bytes.slotIsOwn
  refine wpAny_bind (wpAny_specialOf (ba_typeIs h) hl ?_)
  show wpAny M A (if (!("bytearray." ++ name).endsWith ("." ++ name)) = true then _ else _) Q E s
  rw [he]
  refine bm_if_false rfl ?_
  rw [hd]
  exact ba_isInst h q
theorem ba_ownRelease {M : Model} {E : Value → Shared → Prop} {a : Addr} {b : Array UInt8} {Q : Bool → Shared → Prop} (h : s.heap.get? a = some (baObj b)) (q : Q false s) : wpAny M A (Builtin.Bytes.ownRelease (.ref a)) Q E s := by
  unfold Builtin.Bytes.ownRelease
  exact wpAny_bind (ba_slotOwn h ba_release_none (by decide +kernel) (by decide +kernel) (wpAny_pure q))

theorem ba_init {a : Addr} {b : Array UInt8} (h : s.heap.get? a = some (baObj b)) (q : R (.ret .none) { s with heap := s.heap.update a (Obj.mapBytearray fun _ => #[]) }) :
    wpC (model prog w) A.in1 (Builtin.«bytearray.__init__» ⟨[.ref a], []⟩) (finR (model prog w) A R) s := by
  unfold Builtin.«bytearray.__init__»
  refine wpC_any_bind (ba_ownRelease h ?_)
  refine wpC_if_false rfl ?_
  refine wpC_any_bind (wpAny_of_eq ba_bind0 ?_)
  refine wpC_any_bind (wpAny_of_eq (a := ()) rfl ?_)
  refine wpC_any_bind (wpAny_of_eq (a := ()) rfl ?_)
  refine wpC_bind (wpC_unexported h ?_)
  refine wpC_if_false rfl ?_
  refine wpC_any_bind (ba_write h (Nat.zero_le _) ?_)
  exact wpC_pure (show finR (model prog w) A R (.done (.ret .none)) _ from q)

theorem ba_new {Q : Value → Shared → Prop} (q : ∀ h', (∀ b o, s.heap.get? b = some o → h'.get? b = some o) → h'.get? s.heap.objs.size = some (baObj #[]) → Q (.ref s.heap.objs.size) { s with heap := h' }) :
    wpC (model prog w) A (call (.type "bytearray") []) Q s := by
  have h1 := ba_called.notType
  have h2 := ba_called.canCreate
  have hmro := ba_mro
  have hmade := ba_called.made
  have hsub := ba_sub
  have hct := ba_typeCall
  refine wpC_call (codeC_of_tree rfl ?_)
  show wpC _ _ (callAny (.type "bytearray") _) _ _
  refine wpC_pure ⟨Code.quiet_builtin _ (by decide +kernel), codeC_builtin (by simp only [cl]; decide +kernel) F.entry_type_call ?_⟩
  rw [Around.under_plain (weight_type_call_type "bytearray" [] []) rfl]
  unfold Builtin.«type.__call__»
  refine wpC_if_false h1 ?_
  refine wpC_if_false h2 ?_
  refine wpC_any_bind (wpAny_of_eq hct ?_)
  refine wpC_any_bind (wpAny_of_eq hmro ?_)
  refine wpC_if_false rfl ?_
  refine wpC_any_bind (wpAny_of_eq hmade ?_)
  dsimp only
  refine wpC_bind (wpC_pure ?_)
  refine wpC_any_bind (wpAny_holding (wpAny_call (ba_new_code (s := s) (E := fun _ _ => False) (Q₁ := fun obj s₁ => obj = .ref s.heap.objs.size ∧ s₁ = { s with heap := s.heap.push (baObj #[]) }) ⟨rfl, rfl⟩ |> (codeAny_mono · fun r s₁ hr => ?_))))
  rcases r with e | (obj | _ | _ | _) <;> first | exact hr | skip
  obtain ⟨rfl, rfl⟩ := hr
  have ho : (s.heap.push (baObj #[])).get? s.heap.objs.size = some (baObj #[]) := Heap.get?_push_size _ rfl
  refine wpC_any_bind (ba_isInst (s := { s with heap := s.heap.push (baObj #[]) }) ho ?_)
  refine wpC_if_false rfl ?_
  refine wpC_bind (wpC_holding ?_)
  unfold callSpecial?
  refine wpC_any_bind (wpAny_specialOf (s := { s with heap := s.heap.push (baObj #[]) }) (ba_typeIs ho) ba_slot_init.lookup ?_)
  dsimp only
  refine wpC_holding ?_
  refine wpC_any_bind (wpAny_of_eq (ba_slot_init.bind _) ?_)
  dsimp only
  refine wpC_bind (wpC_call (codeC_call_builtin_at (by simp only [cl]; decide +kernel) (plainId_quiet ba_slot_init.plain _) ba_entry_init (ba_slot_init.check _ _ _ _ _ _ _ _ (ba_typeIs ho) (ba_args_init _) ?_)))
  rw [Around.under_plainId ba_slot_init.plain _]
  refine ba_init (s := { s with heap := s.heap.push (baObj #[]) }) ho ?_
  refine wpC_pure ?_
  refine wpC_if_false (by decide) ?_
  refine wpC_pure ?_
  refine q _ (fun b o e => ?_) ?_
  · exact (Heap.get?_update_other _ _ (Nat.ne_of_gt (Heap.lt_size e))).trans (Heap.get?_push_of_some _ e)
  · exact Heap.get?_update_self (Obj.mapBytearray fun _ => #[]) ho rfl
theorem ba_newK {Q : Value → Shared → Prop} {h₀ : Heap} {L : Addr} {m : Str → Option Value} {news : List (Addr × Obj)} (F : Fr h₀ L s.heap m) (N : News h₀ L s.heap news)
    (q : ∀ D h', Fr h₀ L h' m → News h₀ L h' ((D, baObj #[]) :: news) → (∀ q ∈ news, q.1 < D) → s.heap.objs.size ≤ D → Q (.ref D) { s with heap := h' }) : wpC (model prog w) A (call (.type "bytearray") []) Q s :=
  ba_new fun h' hk hn => q _ h' (F.keeps hk) (news_pushed F N hk hn rfl) (fun p hp => Heap.lt_size (N p hp).1) (Nat.le_refl _)
end

end

-- part ba1
section
-- needs: clean clean2 clean3
section
variable {prog : Program} {w : World} {A : Around} {s : Shared}
theorem ba_attrs : PlainAttrs "bytearray" :=
  ⟨⟨"bytearray.__getattribute__", by rw [typeLookup_type, builtinLookup_eq_fast]; kernel_rfl, by decide +kernel⟩, by rw [typeLookup_type, builtinLookup_eq_fast]; kernel_rfl⟩
theorem ba_type_append : typeOf (.builtin "bytearray.append") = pure (.type "method_descriptor") := by show builtinType _ = _; rw [builtinType_eq_fast]; kernel_rfl
theorem ba_getMethod {E : Value → Shared → Prop} {h₀ : Heap} {L a : Addr} {news : List (Addr × Obj)} {b : Array UInt8} {pl : Sem Bool} {Q : Value × List Value → Shared → Prop} (N : News h₀ L s.heap news) (hm : (a, baObj b) ∈ news)
    (q : Q (.builtin "bytearray.append", [.ref a]) s) : wpAny (model prog w) A (getMethod (.ref a) (Str.ofString "append") pl) Q E s :=
  getMethod_builtin (ba_typeIs (N _ hm).1) ba_attrs ba_slot_append ba_type_append (fun x e => by cases e; exact ⟨_, (N _ hm).1, rfl⟩) q
theorem ba_appendK {h₀ : Heap} {L a : Addr} {m : Str → Option Value} {news news' : List (Addr × Obj)} {b : Array UInt8} {v : Int} {t : Tok} {Q : Value → Shared → Prop} (F : Fr h₀ L s.heap m) (N : News h₀ L s.heap news)
    (U : Upd a (baObj b) (baObj (b.push v.toNat.toUInt8)) news news') (h0 : 0 ≤ v) (h1 : v < 256) (hz : b.size + 1 ≤ sizeLine)
    (q : ∀ h', Fr h₀ L h' m → News h₀ L h' news' → Q .none { s with heap := h' }) : wpC (model prog w) A (call (.builtin "bytearray.append") [.ref a, .int v t]) Q s := by
  obtain ⟨pre, post, rfl, rfl, x, y⟩ := U.split
  have z := N (a, baObj b) (List.mem_append.mpr (.inr (.head _)))
  obtain ⟨F', N'⟩ := news_upd (f := Obj.mapBytearray (·.push v.toNat.toUInt8)) F N x y rfl rfl
  exact ba_append z.1 h0 h1 hz (q _ F' N')
end

end

-- part ba2
section
-- needs: clean clean2 clean3 ba1
section
variable {prog : Program} {w : World} {A : Around} {E : Value → Shared → Prop} {s : Shared}
theorem ba_no_bytes : typeLookup (.type "bytearray") "__bytes__" = pure none := by rw [typeLookup_type, builtinLookup_eq_fast]; kernel_rfl
theorem ba_no_index : typeLookup (.type "bytearray") "__index__" = pure none := by rw [typeLookup_type, builtinLookup_eq_fast]; kernel_rfl
theorem ba_buffer : typeLookup (.type "bytearray") "__buffer__" = pure (some (.builtin "bytearray.__buffer__")) := by rw [typeLookup_type, builtinLookup_eq_fast]; kernel_rfl
theorem bb_new {a : Addr} {b : Array UInt8} {Q : Value → Shared → Prop} (h : s.heap.get? a = some (baObj b)) (hz : b.size ≤ sizeLine)
    (hQ : ∀ t k, Q (.bytes b t) { s with toks := k }) :
    codeAny (model prog w) A (.call (.builtin "bytes.__new__") ⟨[.type "bytes", .ref a], []⟩) (wants Q E) s := by
  refine codeAny_of_tree ?_
  show wpAny _ A.in1 (do checkBuiltinCall "bytes.__new__" ⟨[.type "bytes", .ref a], []⟩; again (.builtin "bytes.__new__" ⟨[.type "bytes", .ref a], []⟩)) _ _ s
  refine wpAny_bind (wpAny_of_eq (F.bm_newCall _) (wpAny_pure ⟨plainId_quiet F.bm_plain _, codeAny_builtin F.bm_entry ?_⟩))
  rw [Around.under_plainId F.bm_plain _]
  have hT : s.TypeIs (.ref a) "bytearray" := ba_typeIs h
  unfold Builtin.«bytes.__new__»
  refine wpAny_bind (wpAny_of_eq (a := true) rfl ?_)
  refine bm_if_false rfl ?_
  refine wpAny_bind (wpAny_of_eq F.bm_sub ?_)
  refine bm_if_false rfl ?_
  refine wpAny_bind (wpAny_of_eq (F.bm_bind _) ?_)
  refine wpAny_bind (wpAny_of_eq (a := ()) rfl ?_)
  refine wpAny_bind (wpAny_of_eq (a := ()) rfl ?_)
  refine bm_if_false rfl ?_
  refine wpAny_bind (wpAny_specialOf hT ba_no_bytes ?_)
  refine wpAny_bind (wpAny_bind ?_)
  show wpAny _ _ (load a >>= _) _ _ _
  refine wpAny_bind (wpAny_load h ?_)
  refine wpAny_pure (wpAny_pure ?_)
  refine bm_if_false rfl ?_
  refine wpAny_bind (wpAny_specialOf hT ba_no_index ?_)
  refine bm_if_true rfl ?_
  first
    | show wpAny _ _ (Builtin.Bytes.buffer? "bytes.__new__" (.ref a) true >>= _) _ _ _
    | (refine wpAny_bind ?_; show wpAny _ _ (Builtin.Bytes.buffer? "bytes.__new__" (.ref a) true >>= _) _ _ _)
  refine wpAny_bind ?_
  unfold Builtin.Bytes.buffer?
  refine wpAny_bind (wpAny_specialOf hT ba_buffer ?_)
  dsimp only
  refine wpAny_bind (ba_slotOwn h ba_buffer (by decide +kernel) (by decide +kernel) ?_)
  refine bm_if_false rfl ?_
  refine wpAny_bind (wpAny_specialOf hT ba_buffer ?_)
  refine wpAny_bind (ba_ownRelease h ?_)
  refine bm_if_false rfl ?_
  unfold Builtin.Bytes.payload Builtin.Bytes.payload?
  refine wpAny_bind (wpAny_bind (wpAny_bind (wpAny_load h ?_)))
  refine wpAny_pure (wpAny_pure (wpAny_pure ?_))
  refine wpAny_bind (wpAny_rule ?_)
  refine wpAny_bind (wpAny_mkBytes ?_ hz)
  show wpAny _ _ (if (Value.type "bytes" == Value.type "bytes") = true then _ else _) _ _ _
  refine bm_if_true (by decide) ?_
  first
    | exact wpAny_pure (hQ _ _)
    | exact wpAny_bind (wpAny_pure (wpAny_pure (hQ _ _)))
theorem ba_bytes {a : Addr} {b : Array UInt8} {Q : Value → Shared → Prop} (h : s.heap.get? a = some (baObj b)) (hz : b.size ≤ sizeLine)
    (hQ : ∀ t k, Q (.bytes b t) { s with toks := k }) : wpAny (model prog w) A (call (.type "bytes") [.ref a]) Q E s := by
  refine callType_codes (Q₁ := fun obj s₁ => s₁.TypeIs obj "bytes" ∧ Q obj s₁) F.bm_called (F.bm_typeCall _) F.entry_object_init
    (bb_new h hz fun t k => ⟨PySem.W.typeIs_bytes _ _ _, hQ t k⟩) fun obj s₁ h₁ => ?_
  exact ⟨h₁.1, F.args_object_init_2 obj _, object_init_meets F.bm_called.init.lookup F.bm_called.made (by decide) prog w A.in1 _ s₁ ⟨h₁.1, rfl, h₁.2⟩⟩
end

end

-- part crules
section
-- needs: clean clean2 clean3
section
variable {M : Model} {A : Around} {s : Shared} {env : Env}
theorem wpC_execs_nil {Q : Flow → Shared → Prop} (h : Q .next s) : wpC M A (execs [] env) Q s := fun _ _ _ _ => h
theorem wpC_execs_cons {st : Stmt} {rest : List Stmt} {Q : Flow → Shared → Prop}
    (h : wpC M A (exec st env) (fun f s' => match f with | .next => wpC M A (execs rest env) Q s' | f => Q f s') s) : wpC M A (execs (st :: rest) env) Q s := by
  rw [execs_cons]
  refine wpC_bind (wpC_mono h fun f s' h' => ?_)
  cases f <;> first | exact h' | exact wpC_pure h'
theorem wpC_Expr {e : Expr} {pos : Pos} {Q : Flow → Shared → Prop} (h : wpC M A (eval e env) (fun v s' => v = .none ∧ Q .next s') s)
    (hi : interactive env = false := by rfl) (hs : swapsWith e none pos.line env = pure false := by rfl) : wpC M A (exec (.Expr e pos) env) Q s := by
  rw [exec_Expr env e pos hi hs]
  refine wpC_bind (wpC_standAt (wpC_bind (wpC_mono h fun v s' h' => ?_)))
  obtain ⟨rfl, h'⟩ := h'
  rw [dropValue_plain (fun a q => by cases q)]
  exact wpC_pure h'
theorem wpC_If {test : Expr} {body orelse : List Stmt} {pos : Pos} {Q : Flow → Shared → Prop}
    (h : wpAny M A (isTrue test env (eval test env)) (fun b s₂ => if b then wpC M A (execs body env) Q s₂ else wpC M A (execs orelse env) Q s₂) (fun _ _ => False) s) :
    wpC M A (exec (.If test body orelse pos) env) Q s := by
  rw [exec_If]
  refine wpC_bind (wpC_standAt (wpC_any_bind (wpAny_mono h (fun b s₂ h₂ => ?_) fun _ _ x => x)))
  cases b <;> exact h₂
theorem wpC_Assign_Attribute {o : Expr} {attr : Str} {pos' : Pos} {value : Expr} {pos : Pos} {Q : Flow → Shared → Prop}
    (h : wpC M A (eval value env) (fun v s₁ => wpAny M A (eval o env) (fun ov s₂ => wpAny M A (setAttr ov attr v) (fun _ => Q .next) (fun _ _ => False) s₂) (fun _ _ => False) s₁) s)
    (hs : swapsWith value (some (.Attribute o attr pos')) pos.line env = pure false := by rfl) : wpC M A (exec (.Assign [.Attribute o attr pos'] value pos) env) Q s := fun Γ p hΓ hc => by
  simp only [plainObj_exec_Assign_Attribute o attr pos' value pos hs, assign_Attribute, Sem.wp_bind', Sem.wp_holding, Sem.wp_cmd_standAt, Sem.wp_release, Sem.wp_pure']
  exact Sem.wp_mono M Γ _ (fun v p₁ s₁ h₁ => Sem.wp_mono M Γ _ (fun ov _ s₂ h₂ => h₂ Γ _ hΓ) (fun _ _ _ h' => h') _ _ (h₁ Γ p₁ hΓ)) (fun _ _ _ h' => h') _ _ (h Γ _ hΓ hc)
theorem wpC_Assign_Tuple {elts : List Expr} {k : Nat} {tpos : Pos} {value : Expr} {pos : Pos} {Q : Flow → Shared → Prop}
    (h : wpC M A (eval value env) (fun v s₁ => wpAny M A (assign (.Tuple elts k tpos) env v) (fun _ => Q .next) (fun _ _ => False) s₁) s)
    (hs : swapsWithSole [.Tuple elts k tpos] value pos.line env = pure false := by rfl)
    (hw : swappedStores [.Tuple elts k tpos] value env = pure none := by rfl) : wpC M A (exec (.Assign [.Tuple elts k tpos] value pos) env) Q s := by
  rw [exec_Assign]
  refine wpC_bind (wpC_standAt ?_)
  rw [hs]
  refine wpC_bind (wpC_pure ?_)
  rw [if_neg (by decide)]
  refine wpC_bind (wpC_mono h fun v s₁ h₁ => ?_)
  rw [hw]
  refine wpC_bind (wpC_pure ?_)
  show wpC M A (do assignAll v [assign (.Tuple elts k tpos) env]; pure .next) Q s₁
  exact wpC_any_bind (wpAny_mono h₁ (fun _ _ x => wpC_pure x) fun _ _ x => x)
theorem wpC_Tuple {elts : List Expr} {k : Nat} {pos : Pos} {Q : Value → Shared → Prop}
    (h : wpC M A (spliced (backTo pos (starEach elts env))) (fun vs s₁ => wpAny M A (newTuple vs) Q (fun _ _ => False) s₁) s) : wpC M A (eval (.Tuple elts k pos) env) Q s := by
  show wpC M A (do standAt pos; newTuple (← spliced (backTo pos (starEach elts env)))) Q s
  exact wpC_bind (wpC_standAt (wpC_bind (wpC_mono h fun vs s₁ h₁ => wpC_of_any h₁)))
theorem wpC_spliced_cons {x : Sem Value} {rest : List (Bool × Sem Value)} {Q : List Value → Shared → Prop}
    (h : wpC M A x (fun v s₁ => wpC M A (spliced rest) (fun vs s₂ => Q (v :: vs) s₂) s₁) s) : wpC M A (spliced ((false, x) :: rest)) Q s := by
  rw [spliced]
  refine wpC_bind (wpC_mono h fun v s₁ h₁ => ?_)
  simp only [Bool.false_eq_true, if_false]
  exact wpC_bind (wpC_pure (wpC_bind (wpC_holding (wpC_mono h₁ fun vs s₂ h₂ => wpC_pure h₂))))
theorem wpC_spliced_nil {Q : List Value → Shared → Prop} (h : Q [] s) : wpC M A (spliced []) Q s := wpC_pure h

theorem wpC_callWith_of {pos : Pos} {f : Value} {first : List Value} {P : Heap → Prop} {args : List (Bool × Sem Value)} {Q : Value → Shared → Prop} (hplain : args.any (·.1) = false)
    (hk : ∀ h, P h → ∃ k, (k = Keeper.frame ∨ k = Keeper.machine ∨ k = Keeper.boundFrame) ∧ Looks M h (keeperOf f) k)
    (h : wpAny M A (evalArgs f true args []) (fun a s₁ => P s₁.heap ∧ wpC M A (call f (first ++ a.pos) a.kw) Q s₁) (fun _ _ => False) s) : wpC M A (callWith pos f first args []) Q s := by
  unfold callWith
  refine wpC_any_bind (wpAny_holding (wpAny_mono h (fun a s₁ h₁ => ?_) fun _ _ x => x))
  refine wpC_bind (wpC_standAt ?_)
  obtain ⟨k, hk', L⟩ := hk _ h₁.1
  simp only [hplain, List.any_nil, Bool.or_false]
  refine wpC_any_bind (L.here ?_)
  have tail : ∀ {t : Sem Value}, wpC M A t Q s₁ → wpC M A (t >>= fun r => holding [r] point >>= fun _ => pure r) Q s₁ :=
    fun ht => wpC_bind (wpC_mono ht fun r s₂ hr => wpC_bind (wpC_holding (wpC_point (wpC_pure hr))))
  have marked (mk : Value) : wpC M A (callMarked mk f (first ++ a.pos) a.kw) Q s₁ := by unfold callMarked; exact wpC_keep h₁.2
  rcases hk' with rfl | rfl | rfl <;> dsimp only <;> first | exact tail h₁.2 | (split <;> first | exact tail h₁.2 | exact tail (marked _))
theorem wpC_callWith_builtin {pos : Pos} {id : String} {first : List Value} {args : List (Bool × Sem Value)} {Q : Value → Shared → Prop} (hplain : args.any (·.1) = false)
    (h : wpAny M A (evalArgs (.builtin id) true args []) (fun a s₁ => wpC M A (call (.builtin id) (first ++ a.pos) a.kw) Q s₁) (fun _ _ => False) s) : wpC M A (callWith pos (.builtin id) first args []) Q s :=
  wpC_callWith_of (P := fun _ => True) hplain (fun _ _ => ⟨.machine, .inr (.inl rfl), Looks.of_pure rfl⟩) (wpAny_mono h (fun _ _ x => ⟨trivial, x⟩) fun _ _ x => x)
theorem wpC_callWith_type {pos : Pos} {T : String} {first : List Value} {args : List (Bool × Sem Value)} {Q : Value → Shared → Prop} (hplain : args.any (·.1) = false)
    (h : wpAny M A (evalArgs (.type T) true args []) (fun a s₁ => wpC M A (call (.type T) (first ++ a.pos) a.kw) Q s₁) (fun _ _ => False) s) : wpC M A (callWith pos (.type T) first args []) Q s :=
  wpC_callWith_of (P := fun _ => True) hplain (fun _ _ => ⟨.machine, .inr (.inl rfl), Looks.of_pure rfl⟩) (wpAny_mono h (fun _ _ x => ⟨trivial, x⟩) fun _ _ x => x)
/-- a method's call: the receiver and the method are looked up by the walk -/
theorem wpC_method {o : Expr} {name : Str} {apos pos : Pos} {args : List Expr} {pl : Sem Bool} {Q : Value → Shared → Prop}
    (h : wpAny M A (eval o env) (fun ov s₁ => wpAny M A (getMethod ov name pl) (fun fx s₂ => wpC M A (callWith pos fx.1 fx.2 (backTo pos (starEach args env)) []) Q s₂) (fun _ _ => False) s₁) (fun _ _ => False) s)
    (he : eval (.Call (.Attribute o name apos) args [] pos) env = (do
      let ov ← eval o env
      standAt apos.atName
      let (f, first) ← holding [ov] (getMethod ov name pl)
      callWith pos f first (backTo pos (starEach args env)) []) := by rfl) : wpC M A (eval (.Call (.Attribute o name apos) args [] pos) env) Q s := by
  rw [he]
  exact wpC_any_bind (wpAny_mono h (fun ov s₁ h₁ => wpC_bind (wpC_standAt (wpC_any_bind (wpAny_holding (wpAny_mono h₁ (fun fx s₂ h₂ => h₂) fun _ _ x => x))))) fun _ _ x => x)
theorem wpC_callName {f : Expr} {pos : Pos} {args : List Expr} {Q : Value → Shared → Prop}
    (h : wpAny M A (eval f env) (fun fv s₁ => wpC M A (callWith pos fv [] (backTo pos (starEach args env)) []) Q s₁) (fun _ _ => False) s)
    (he : eval (.Call f args [] pos) env = (do callWith pos (← eval f env) [] (backTo pos (starEach args env)) []) := by rfl) : wpC M A (eval (.Call f args [] pos) env) Q s := by
  rw [he]
  exact wpC_any_bind h
theorem evalArgs_pos {E : Value → Shared → Prop} {f : Value} {pos : Pos} {e : Expr} {rest : List Expr} {Q : Args → Shared → Prop}
    (h : wpAny M A (spliced (backTo pos (starEach (e :: rest) env))) (fun vs s₁ => Q ⟨vs, []⟩ s₁) E s)
    (he : starEach (e :: rest) env = (false, eval e env) :: starEach rest env := by rfl) : wpAny M A (evalArgs f true (backTo pos (starEach (e :: rest) env)) []) Q E s := by
  rw [he] at h ⊢
  exact evalArgs_kw rfl (wpAny_mono h (fun vs s₁ h₁ => wpAny_evalAll_nil h₁) fun _ _ x => x)
theorem wpC_runOwn {c : Code} {Q : Flow → Shared → Prop} (h : codeC M A c Q s) : wpC M A (runOwn c env none) Q s := by
  unfold runOwn
  exact wpC_onRaise (wpC_run h)
end

section
variable {prog : Program} {w : World} {A : Around} {s : Shared} {env : Env} {R : Flow → Shared → Prop}
theorem codeC_while {test : Expr} {body : List Stmt} (I : Nat → Shared → Prop)
    (turn : ∀ n s, I n s → wpAny (model prog w) A (isTrue test env (eval test env)) (fun b s₂ =>
        if b = true then wpC (model prog w) A (execs body env) (fun f s₃ => f = .next ∧ ∃ m, m < n ∧ I m s₃) s₂ else R .next s₂) (fun _ _ => False) s) :
    ∀ (n : Nat) (s : Shared), I n s → codeC (model prog w) A (.whileLoop test body [] env) R s := by
  intro n
  induction n using Nat.strongRecOn with
  | ind n ih =>
    intro s hI
    refine codeC_of_tree rfl ?_
    show wpC _ A ((whileTurn test body [] env).onRaise (fun x => do noteFrame x env; theTreesLotGoes x)) _ s
    refine wpC_onRaise ?_
    simp only [whileTurn]
    refine wpC_any_bind (wpAny_mono (turn n s hI) (fun b s₂ h₂ => ?_) fun _ _ x => x)
    cases b with
    | false =>
      simp only [Bool.false_eq_true, if_false] at h₂ ⊢
      exact wpC_bind (wpC_execs_nil (wpC_pure h₂))
    | true =>
      simp only [if_true] at h₂ ⊢
      refine wpC_bind (wpC_mono h₂ fun f s₃ h₃ => ?_)
      obtain ⟨rfl, m, hm, hI'⟩ := h₃
      exact wpC_pure (And.intro rfl (ih m hm s₃ hI'))
theorem wpC_While {test : Expr} {body : List Stmt} {pos : Pos} (h : codeC (model prog w) A (.whileLoop test body [] env) R s) : wpC (model prog w) A (exec (.While test body [] pos) env) R s := by
  rw [exec_While]
  exact wpC_bind (wpC_standAt (wpC_runOwn h))
/-- a for over what `Walks` goes through, into a name -/
theorem codeC_for {I : Addr} {fp wr : List Addr} {n : Nat} {P : Nat → Value → Prop} {St : Nat → Heap → Prop} {x : Str} {px : Pos} {body : List Stmt} (W : Walks prog w A I fp wr n P St) (J : Nat → Shared → Prop)
    (hst : ∀ i s, J i s → St i s.heap)
    (turn : ∀ i s v h' tk, i < n → J i s → P i v → St (i + 1) h' → (∀ b o, b ∉ wr → s.heap.get? b = some o → h'.get? b = some o) →
      wpAny (model prog w) A (storeName env x v) (fun _ s₂ => wpC (model prog w) A (execs body env) (fun f s₃ => f = .next ∧ J (i + 1) s₃) s₂) (fun _ _ => False) { s with heap := h', toks := tk })
    (stop : ∀ s h' tk, J n s → (∀ b o, b ∉ wr → s.heap.get? b = some o → h'.get? b = some o) → R .next { s with heap := h', toks := tk }) :
    ∀ (k i : Nat) (s : Shared), i + k = n → J i s → codeC (model prog w) A (.forLoop (.Name x px) (.ref I) body [] env) R s := by
  intro k
  induction k with
  | zero =>
    intro i s hk hJ
    obtain rfl : i = n := by omega
    refine codeC_of_tree rfl ?_
    show wpC _ A ((forTurn (.Name x px) (.ref I) body [] env).onRaise (fun x => do noteFrame x env; theTreesLotGoes x)) _ s
    refine wpC_onRaise ?_
    unfold forTurn
    refine wpC_bind (wpC_standAt (wpC_bind (wpC_onRaise (wpC_of_any (W.done s _ _ (hst _ _ hJ) fun h' tk hkp => ?_)))))
    refine wpC_pure (And.intro rfl ?_)
    refine codeC_of_tree rfl ?_
    have e : A.under (.block [] env) = A := Around.under_of_weight rfl
    rw [e]
    exact wpC_bind (wpC_onRaise (wpC_execs_nil (wpC_pure (stop s h' tk hJ hkp))))
  | succ k ih =>
    intro i s hk hJ
    refine codeC_of_tree rfl ?_
    show wpC _ A ((forTurn (.Name x px) (.ref I) body [] env).onRaise (fun x => do noteFrame x env; theTreesLotGoes x)) _ s
    refine wpC_onRaise ?_
    unfold forTurn
    refine wpC_bind (wpC_standAt (wpC_bind (wpC_onRaise (wpC_of_any (W.item i s _ _ (by omega) (hst _ _ hJ) fun v h' tk hP hS hkp => ?_)))))
    refine wpC_bind (wpC_pure ?_)
    refine wpC_any_bind (assign_Name (wpAny_mono (turn i s v h' tk (by omega) hJ hP hS hkp) (fun _ s₂ h₂ => ?_) fun _ _ x => x))
    refine wpC_bind (wpC_mono h₂ fun f s₃ h₃ => ?_)
    obtain ⟨rfl, hJ'⟩ := h₃
    exact wpC_pure (And.intro rfl (ih (i + 1) s₃ (by omega) hJ'))
end

end

-- part crules2
section
-- needs: clean clean2 clean3 crules
section
variable {prog : Program} {w : World} {A : Around} {s : Shared} {R : Flow → Shared → Prop}
theorem codeC_func {body : List Stmt} {env : Env} (h : wpC (model prog w) (A.deeper env) (execs body env) (fun f s' => R (.ret (match f with | .ret v => v | _ => .none)) s') s) :
    codeC (model prog w) A (.func body env) R s := by
  refine codeC_of_tree rfl ?_
  show wpC _ (A.deeper env) (do point; match ← (execs body env).onRaise (leaving env) with | .ret v => ret v | _ => ret .none) _ s
  refine wpC_bind (wpC_point (wpC_bind (wpC_onRaise (wpC_mono h fun f s' h' => ?_))))
  cases f <;> exact wpC_pure h'
theorem codeC_call_function {a : Addr} {args : Args} {o : Obj} {fd : FuncData} {body : List Stmt} (hroom : A.depth < recursionLimit) (ho : s.heap.get? a = some o)
    (hd' : o.data = .func fd) (hco : fd.scope.isCoroutine = false) (hgen : fd.scope.isGenerator = false) (hbody : fd.body = .stmts body) (hcd : s.heap.CodeRec fd.code fd.qualname)
    (h : wpAny (model prog w) A.in1 (bindArgs fd args) (fun binds s₁ =>
      wpAny (model prog w) A.in1 (newFunctionEnv fd.scope fd.globals fd.closure binds (fd.qualname ++ ".<locals>.") (some a) fd.code none fd.builtins)
        (fun env s₂ => s₂.heap.NoLimit ∧ codeC (model prog w) A (.func body env) R s₂) (fun _ _ => False) s₁) (fun _ _ => False) s) :
    codeC (model prog w) A (.call (.ref a) args) R s := by
  refine codeC_of_tree rfl (wpC_of_any ?_)
  show wpAny _ A.in1 (callAny (.ref a) args) _ _ s
  simp only [callAny]
  refine wpAny_bind (wpAny_load ho ?_)
  obtain ⟨c, oc, vs, tq, hc, hoc, hdc, hq⟩ := hcd
  simp only [hd', callFunction, hco, hgen, hbody, hc]
  rw [hc] at h
  refine wpAny_bind (m := field (.ref c) 1) (wpAny_field hoc hdc hq (wpAny_bind (wpAny_pure ?_)))
  exact wpAny_bind (wpAny_mono h (fun binds s₁ h₁ => wpAny_bind (wpAny_mono h₁ (fun env s₂ h₂ => wpAny_bind (wpAny_enterFrame h₂.1 hroom
    (wpAny_pure (And.intro rfl h₂.2)))) fun _ _ h' => h')) fun _ _ h' => h')
theorem codeC_call_def {a : Addr} {o : Obj} {fd : FuncData} {body : List Stmt} {args : Args} {binds : List (Str × Value)}
    (hroom : A.depth < recursionLimit) (ho : s.heap.get? a = some o) (hdata : o.data = .func fd) (hlim : s.heap.NoLimit) (hcd : s.heap.CodeRec fd.code fd.qualname)
    (hbody : fd.body = .stmts body) (hbind : BindsTo s fd args binds)
    (hcell : ∀ x ∈ fd.scope.names, x.2 ≠ .cell) (hloc : ∀ x ∈ binds, fd.scope.names.lookup x.1 = some .local)
    (h : ∀ h₀, h₀.Ns s.heap.objs.size (fun x => binds.reverse.lookup x) → (∀ b o, s.heap.get? b = some o → h₀.get? b = some o) →
      wpC (model prog w) (A.deeper (callEnv fd s.heap.objs.size a)) (execs body (callEnv fd s.heap.objs.size a)) (fun f s' => R (.ret (match f with | .ret v => v | _ => .none)) s')
        { s with heap := h₀, toks := s.toks + binds.length })
    (hco : fd.scope.isCoroutine = false) (hgen : fd.scope.isGenerator = false) (hk : fd.scope.kind = .function) :
    codeC (model prog w) A (.call (.ref a) args) R s := by
  refine codeC_call_function hroom ho hdata hco hgen hbody hcd (hbind _ _ _ _ ?_)
  refine wpAny_newFunctionEnv hcell hloc (fun h₀ hns₀ hsb₀ => ⟨hlim.fresh _ hsb₀, codeC_func (h h₀ hns₀ fun b o e => ?_)⟩) hk
  exact hsb₀.extBut b o (Nat.ne_of_lt (Heap.lt_size e)) (Heap.get?_push_of_some _ e)

/-- an object is made: its class's own __init__, a def, is what is left -/
theorem codeC_make {C fI : Addr} {K : Frag} (X : K.In s.heap) (hm : makesIn K C = true) (hi : findIn K (.ref C) "__init__" = some (some (.ref fI))) (hf : typeIn K (.ref fI) = some (.type "function"))
    (hq : codeC (model prog w) (A.under (.builtin "type.__call__" ⟨[.ref C], []⟩)) (.call (.ref fI) ⟨[.ref (s.heap.objs.size + 1)], []⟩) (retR fun v s' => v = .none ∧ R (.ret (.ref (s.heap.objs.size + 1))) s')
      { s with heap := (s.heap.push emptyDict).push (instObj C s.heap.objs.size) }) :
    codeC (model prog w) A (.call (.ref C) ⟨[], []⟩) R s := by
  obtain ⟨h, g, d, t, os⟩ := s
  have hi' := looks_findIn (M := model prog w) X hi
  have hb := fun self => bind_fn (M := model prog w) X self hf
  have Y := makes_of (M := model prog w) X hm
  have Y' := Y
  obtain ⟨⟨oc, od, cd, sl, hC, e1, e2, e4⟩, made, base, self, top, call, typ⟩ := Y
  refine codeC_of_tree rfl (wpC_of_any ?_)
  show wpAny _ _ (callAny (.ref C) _) _ _ _
  refine nd_load hC ?_
  show wpAny _ _ (callAny.viaDunder (.ref C) _) _ _ _
  unfold callAny.viaDunder
  refine wpAny_bind (call.at ?_)
  dsimp only
  rw [tc_bind]
  refine wpAny_bind (wpAny_pure (wpAny_bind (wpAny_pure ?_)))
  refine wpAny_pure (a := Fin.again (.call (.builtin "type.__call__") ⟨[.ref C], []⟩)) (And.intro rfl ?_)
  refine codeC_call_builtin_at (by simp only [cl]; decide +kernel) (Code.quiet_builtin _ (by decide +kernel)) entry_typeCall (check_slot tc_kind tc_split typ (tc_args _ _ _) ?_)
  unfold Builtin.«type.__call__»
  have hmr : Looks (model prog w) h (mroOf (.ref C)) cd.mro := ((Looks.ld (part := none) hC).andThen .now).andThen .now
  refine wpC_if_false rfl ?_
  dsimp only
  refine wpC_any_bind (hmr.at ?_)
  refine wpC_if_false e4 ?_
  refine wpC_any_bind (made.at ?_)
  dsimp only
  refine wpC_bind (wpC_pure ?_)
  refine wpC_any_bind (wpAny_holding (wpAny_call ?_))
  refine new_K Y' hi' (.inl rfl) ?_
  have k : ∀ b o, h.get? b = some o → ((h.push emptyDict).push (instObj C h.objs.size)).get? b = some o := fun b o e => Heap.get?_push_of_some _ (Heap.get?_push_of_some _ e)
  have hx : ((h.push emptyDict).push (instObj C h.objs.size)).get? (h.objs.size + 1) = some (instObj C h.objs.size) := by heap_get
  have t1 : Looks (model prog w) ((h.push emptyDict).push (instObj C h.objs.size)) (typeOf (.ref (h.objs.size + 1))) (.ref C) := (Looks.ld hx).andThen .now
  have s1 := self.keeps k
  have i1 := hi'.keeps k
  have b1 := (hb (.ref (h.objs.size + 1))).keeps k
  dsimp only
  have isI : Looks (model prog w) ((h.push emptyDict).push (instObj C h.objs.size)) (isInstance (.ref (h.objs.size + 1)) (.ref C)) true := t1.andThen s1
  have spI : Looks (model prog w) ((h.push emptyDict).push (instObj C h.objs.size)) (specialOf (.ref (h.objs.size + 1)) (Str.ofString "__init__")) (some (.ref fI)) := t1.andThen i1
  refine wpC_any_bind (isI.at ?_)
  refine wpC_if_false rfl ?_
  refine wpC_bind (wpC_holding ?_)
  unfold callSpecial?
  refine wpC_any_bind (spI.at ?_)
  dsimp only
  refine wpC_holding ?_
  refine wpC_any_bind (b1.at ?_)
  dsimp only
  refine wpC_bind (wpC_call (codeC_mono hq fun f s' z => ?_))
  cases f with
  | ret v =>
    obtain ⟨rfl, z⟩ := z
    exact wpC_pure (wpC_if_false (by decide) (wpC_pure z))
  | _ => exact z
end

end

-- part bridge
section
-- needs: clean
/-- the tree of a call that asks first whether the stack is clean -/
noncomputable def askClean (t : Sem PySem.Fin) : Sem PySem.Fin := stack >>= fun st => if st.all (fun x => cl x.1) = true then t else ret (.bool true)
noncomputable def runClean (f : Value) (vs : List Value) : Sem Value := stack >>= fun st => if st.all (fun x => cl x.1) = true then call f vs else pure (.bool true)

theorem cln_of_all {Γ : Ctx} {p : Pos} (h : (((Γ.code, p) :: Γ.below).all fun x => cl x.1) = true) : Cln Γ := by
  rw [List.all_cons, Bool.and_eq_true] at h
  exact ⟨h.1, fun x hx => List.all_eq_true.mp h.2 x hx⟩

theorem wpAny_runClean {M : Model} {A : Around} {f : Value} {vs : List Value} {Q E : Value → Shared → Prop} {s : Shared} (h : wpC M A (call f vs) Q s) (h0 : Q (.bool true) s) : wpAny M A (runClean f vs) Q E s := fun Γ p hΓ => by
  show Sem.wp M Γ (if ((Γ.code, p) :: Γ.below).all (fun x => cl x.1) = true then call f vs else pure (.bool true)) _ _ p s
  cases hb : ((Γ.code, p) :: Γ.below).all (fun x => cl x.1) with
  | true =>
    rw [if_pos rfl]
    exact Sem.wp_mono M Γ _ (fun _ _ _ x => x) (fun _ _ _ x => x.elim) p s (h Γ p hΓ (cln_of_all hb))
  | false =>
    rw [if_neg Bool.false_ne_true]
    exact h0

theorem wpAny_askClean {M : Model} {A : Around} {name : Str} {f : Value} {vs : List Value} {mg : Str → Option Value} {Q : PySem.Fin → Shared → Prop} {E : Value → Shared → Prop} {s : Shared} (hg : s.heap.Ns mainGlobals mg) (hf : mg name = some f)
    (h : wpAny M A (runClean f vs) (fun v s' => Q (.done (.ret v)) s') E s) :
    wpAny M A (askClean (do match ← nsGet mainNs name with
      | some f => do ret (← call f vs)
      | none => unsupported "claim.caller:no-such-global")) Q E s := fun Γ p hΓ => by
  have h1 := h Γ p hΓ
  change Sem.wp M Γ (if ((Γ.code, p) :: Γ.below).all (fun x => cl x.1) = true then call f vs else pure (.bool true)) _ _ p s at h1
  show Sem.wp M Γ (if ((Γ.code, p) :: Γ.below).all (fun x => cl x.1) = true then _ else ret (.bool true)) _ _ p s
  cases hb : ((Γ.code, p) :: Γ.below).all (fun x => cl x.1) with
  | true =>
    rw [hb, if_pos rfl] at h1
    rw [if_pos rfl, Sem.wp_bind', Sem.wp_nsGet M Γ _ p s (show s.heap.Ns mainNs mg from hg), hf]
    show Sem.wp M Γ (call f vs >>= fun v => ret v) _ _ p s
    rw [Sem.wp_bind']
    exact Sem.wp_mono M Γ _ (fun _ _ _ x => x) (fun _ _ _ x => x) p s h1
  | false =>
    rw [hb, if_neg Bool.false_ne_true] at h1
    rw [if_neg Bool.false_ne_true]
    exact h1

theorem cl_caller : ([((Code.builtin "claim.caller" {}), (default : Pos))].all fun x => cl x.1) = true := by decide +kernel

theorem sched_askClean {prog : Program} {w : World} {t : Sem PySem.Fin} {s s' : Shared} {n : Nat} {o : Outcome} (hz : s.asleep)
    (h : schedN (denote table) prog w n (.single s ⟨askClean t, .builtin "claim.caller" {}, default, []⟩) = .halted o s') :
    ∃ m, schedN (denote table) prog w m (.single s ⟨t, .builtin "claim.caller" {}, default, []⟩) = .halted o s' := by
  cases n with
  | zero => cases h
  | succ n =>
    have hst : step (denote table) prog w s ⟨askClean t, .builtin "claim.caller" {}, default, []⟩ = .go s ⟨t, .builtin "claim.caller" {}, default, []⟩ := by
      obtain ⟨heap, gens, drawn, toks, os⟩ := s
      show Step.go _ ⟨(if ([((Code.builtin "claim.caller" {}), (default : Pos))].all fun x => cl x.1) = true then t else ret (.bool true)), _, _, _⟩ = _
      rw [cl_caller, if_pos rfl]
    have e : sstep (denote table) prog w (.single s ⟨askClean t, .builtin "claim.caller" {}, default, []⟩) = .go (.single s ⟨t, .builtin "claim.caller" {}, default, []⟩) := by
      rcases sstep_single (denote table) prog w s ⟨askClean t, .builtin "claim.caller" {}, default, []⟩ rfl hz with e | e
      · rw [e, hst]; rfl
      · rw [hst] at e; cases e
    refine ⟨n, ?_⟩
    unfold schedN at h
    rw [e] at h
    exact h

theorem callFrom_askClean {c : ClaimW} {w : World} {tree : List Value → Sem PySem.Fin} {free : Addr → Prop} {gens : Prop} {kept : Heap → Prop} {s : Shared} (hz : s.asleep)
    (h : c.CallFrom (fun vs => ⟨askClean (tree vs), .builtin "claim.caller" {}, default, []⟩) w free gens kept s) : c.CallFrom (fun vs => ⟨tree vs, .builtin "claim.caller" {}, default, []⟩) w free gens kept s := by
  intro args h1 h2 ord h3
  obtain ⟨vs, s₁, hl, n, o, s', hr, rest⟩ := h args h1 h2 ord h3
  have hal := layAllW_rest _ _ _ hl
  obtain ⟨m, hm⟩ := sched_askClean (Shared.asleep_of_life hal.2.2.2 hz) hr
  exact ⟨vs, s₁, hl, m, o, s', hm, rest⟩

/-- what is asked of the call: as the library's WalkO, but in clean contexts alone -/
noncomputable abbrev WalkC (q : Program) (loose : List Str) (XP : (Str → Option Value) → Heap → Prop) (YP : World → Heap → Prop) (r : RowW) (d : DefRec) (kwd : List (Str × Expr)) : Prop :=
  ∀ (w : World) (s₀ s₁ : Shared) (mg mb : Str → Option Value), Ground q loose r.records XP w s₀ mg mb s₁.heap → YP w s₁.heap → ∀ (a : Addr) (o : Obj) (pm cd doc dV kV : Value), s₁.heap.get? a = some o →
    o.data = .func { docDef d.name d.params d.body d.scope pm cd doc with defaults := dV, kwdefaults := kV } → s₁.heap.CodeRec cd d.name → Dflts mg s₁.heap d.params kwd dV kV → mg d.name = some (.ref a) → s₁.gens = #[] →
    ∀ (args : List WData) (vals : List Value) (as : List Addr), r.claim.pre args = true → WData.layableAll args = true → ReadsAllW r.records (classAt s₀.heap) s₁.heap vals args as → WellAll w.params s₁.heap vals args → (∀ a ∈ as, (a == sysModules) = false) →
      GoodWG r.claim (classAt s₀.heap) (ExcName.means s₀.heap) args s₁ (.ok (.ret (.bool true))) s₁ ∧
      wpC (model r.prog w) callerA (call (.ref a) vals) (fun v s' => GoodWG r.claim (classAt s₀.heap) (ExcName.means s₀.heap) args s₁ (.ok (.ret v)) s') s₁

theorem holds_clean {r : OpenRow} {q : Program} {loose : List Str} {Xt : Shared → Bool} {XP : (Str → Option Value) → Heap → Prop} {α : Type} {Yf : Shared → α} {Ya : World → α} {YP : World → Heap → Prop} {d : DefRec} {kwd : List (Str × Expr)} {N : Nat}
    (left : LeftO r.prog q loose Xt Yf Ya N) (hY : ∀ w s, Yf s = Ya w → YP w s.heap) (hYk : ∀ w h h', YP w h → (∀ b o, h.get? b = some o → h'.get? b = some o) → YP w h')
    (hX : ∀ s, Xt s = true → XP (s.heap.nsMap mainGlobals) s.heap) (hXk : ∀ mg h h', XP mg h → (∀ b o, h.get? b = some o → h'.get? b = some o) → XP mg h')
    (hdef : defOf q r.name = some (d, kwd)) (hp : r.prog.theDef r.name = some (d.params, d.body, d.scope)) (hk : kwWritten? d.params.kwonlyargs d.params.kw_defaults = some kwd) (hRf : ∀ s, Xt s = true → RecFacts r.records s.heap) (hwr : (!r.writes || r.records.isEmpty) = true)
    (k1 : r.wellSaid = true) (ok : (chainsOk q && opensWell r.prog && (frees r.toRowW && r.within.isEmpty)) = true) (hb : r.prog.bare) (hw : r.toRowW.promised)
    (call : WalkC q loose XP YP r.toRowW d kwd) : r.Holds := by
  have H := open_anyG (r := r.toRowW) (defs := if r.pinned then [r.name] else []) (kps := r.keeps) (run := runClean) (tree := fun vs => askClean (do match ← nsGet mainNs r.name with
      | some f => do ret (← PySem.call f vs)
      | none => unsupported "claim.caller:no-such-global")) left hY hYk hX hXk hRf hwr ok hb hw
    (fun vs w s mg f Q E hg hf h => wpAny_askClean hg hf h)
    (fun w s hg G n hn => by
      obtain rfl : n = r.name := by split at hn <;> simp_all
      exact pinned_of_view hg G hdef hp hk)
    (fun w s₀ s₁ mg mb G Y args vs as hpre hlay L low => by
      obtain ⟨a, o, pm, cd, doc, dV, kV, h1, h2, h3, h4, h5⟩ := G.fn hdef
      obtain ⟨g0, g1⟩ := call w s₀ s₁ mg mb G Y a o pm cd doc dV kV h2 h3 h4 h5 (defOf_name hdef ▸ h1) L.gens args vs as hpre hlay L.reads L.well (L.low low)
      exact ⟨.ref a, h1, wpAny_runClean g1 g0⟩)
  have hch : chainsOk q = true := (Bool.and_eq_true_iff.mp (Bool.and_eq_true_iff.mp ok).1).1
  refine ⟨k1, hw, H.1, H.2.1, fun w => ⟨(H.2.2 w).1, fun s hs => ?_⟩⟩
  obtain ⟨s₀, hf, hg0, s₁, hT, d1, d2, d3, CF⟩ := (H.2.2 w).2 s hs
  obtain ⟨s₀', hf', _, s₁', hT', hz', _⟩ := (left.behind (XP := XP) hX hch w).2 s hs
  obtain rfl : s₀ = s₀' := Option.some.inj (hf.symm.trans hf')
  have hz : s₁.asleep := Shared.asleep_of_life (hT.2.1.trans hT'.2.1.symm) hz'
  exact ⟨s₀, hf, hg0, s₁, hT, d1, d2, d3, callFrom_askClean hz CF⟩

end

-- part head
section
-- needs: clean bridge
namespace Head.PySem.W
/-- the bridge, under the name by which the library's head asks for a bridge: within this namespace alone -/
theorem holds_open {r : OpenRow} {q : Program} {loose : List Str} {Xt : Shared → Bool} {XP : (Str → Option Value) → Heap → Prop} {α : Type} {Yf : Shared → α} {Ya : World → α} {YP : World → Heap → Prop} {d : DefRec} {kwd : List (Str × Expr)} {N : Nat}
    (left : LeftO r.prog q loose Xt Yf Ya N) (hY : ∀ w s, Yf s = Ya w → YP w s.heap) (hYk : ∀ w h h', YP w h → (∀ b o, h.get? b = some o → h'.get? b = some o) → YP w h')
    (hX : ∀ s, Xt s = true → XP (s.heap.nsMap mainGlobals) s.heap) (hXk : ∀ mg h h', XP mg h → (∀ b o, h.get? b = some o → h'.get? b = some o) → XP mg h')
    (hdef : defOf q r.name = some (d, kwd)) (hp : r.prog.theDef r.name = some (d.params, d.body, d.scope)) (hk : kwWritten? d.params.kwonlyargs d.params.kw_defaults = some kwd) (hRf : ∀ s, Xt s = true → RecFacts r.records s.heap) (hwr : (!r.writes || r.records.isEmpty) = true)
    (k1 : r.wellSaid = true) (ok : (chainsOk q && opensWell r.prog && (frees r.toRowW && r.within.isEmpty)) = true) (hb : r.prog.bare) (hw : r.toRowW.promised)
    (call : WalkC q loose XP YP r.toRowW d kwd) : r.Holds := holds_clean left hY hYk hX hXk hdef hp hk hRf hwr k1 ok hb hw call
end Head.PySem.W
namespace Head
set_option maxHeartbeats 8000000 in
open_top hd for PySem.Challenge.rw_ok0128_01
end Head

end

-- part base
section
-- needs: clean clean2 clean3 crules bridge head
/-- a frame's surroundings: no handler at work, `fr` the frames' stack -/
noncomputable abbrev Ar (dp un : Nat) (fr : List Env) : Around := { handled := none, depth := dp, frames := some fr, guards := some [], units := un }

/-- all of `g` stands in `h` -/
noncomputable abbrev Keeps (g h : Heap) : Prop := ∀ b o, g.get? b = some o → h.get? b = some o

theorem below_le {A : Around} {dp un : Nat} {fr : List Env} {Γ : Ctx} (h1 : A.handled = none) (h2 : A.frames = some fr) (h3 : A.guards = some []) (h4 : Nat.ble A.depth dp = true) (h5 : Nat.ble A.units un = true) (b : Γ.Below A) : Γ.Below (Ar dp un fr) := by
  obtain ⟨b1, b2, b3, b4, b5⟩ := b
  exact ⟨b1.trans h1, Nat.le_trans b2 (Nat.le_of_ble_eq_true h4), fun l e => b3 l (h2.trans e), fun l e => b4 l (h3.trans e), Nat.le_trans b5 (Nat.le_of_ble_eq_true h5)⟩

/-- what stands where a def is called: `A` in the frame `env` at `L`, under at most `dp` frames and `un` units -/
structure Sits (A : Around) (env : Env) (outer : List Env) (L : Addr) (dp un : Nat) : Prop where
  hd : A.handled = none
  fr : A.frames = some (env :: outer)
  gd : A.guards = some []
  dp : Nat.ble A.depth dp = true
  un : Nat.ble A.units un = true
  ef : env.frame = some L
  ek : env.scope.kind = .function

theorem Sits.code {M : Model} {A : Around} {env : Env} {outer : List Env} {L : Addr} {dp un : Nat} {c : Code} {R : Result → Shared → Prop} {s : Shared} (S : Sits A env outer L dp un)
    (h : codeAny M (Ar dp un (env :: outer)) c R s) : codeAny M A c R s := fun Γ p hc hb => h Γ p hc (below_le S.hd S.fr S.gd S.dp S.un hb)

section
variable {prog : Program} {w : World} {dp un : Nat} {fr : List Env} {base g : Heap} {s : Shared} {news : List (Addr × Obj)} {K : Frag}
  {p : Program} {loose : List Str} {mean : ExcName → Option Value} {mg mb : Str → Option Value} {R : Result → Shared → Prop}
  {name qual : Str} {params : Arguments} {body : List Stmt} {scope : Scope} {dV kV doc pm cdv ct oc : Value} {an od : Option Addr} {osl : Array (Option Value)} {f : Addr} {args : Args} {binds : List (Str × Value)}

/-- a def's body, entered from any heap: `g` is what must stand, `news` what may turn -/
theorem enter (binds : List (Str × Value)) (B : Below (Ar dp un fr) base fr g) (X : K.In g) (T : Top p loose mean mg mb g) (kg : Keeps g s.heap) (sz : g.objs.size ≤ s.heap.objs.size)
    (N : ∀ q ∈ news, s.heap.get? q.1 = some q.2 ∧ g.get? q.1 = none)
    (ho : K.lookup f = some ⟨oc, od, .func (fnOf name qual params body scope dV kV doc pm an cdv ct), osl⟩) (hcd : codeIn K cdv qual = true) (hroom : dp < recursionLimit)
    (hbind : BindsTo s (fnOf name qual params body scope dV kV doc pm an cdv ct) args binds) (hloc : ∀ y ∈ binds, scope.names.lookup y.1 = some .local)
    (h : ∀ L' h₁, Below (Ar dp un fr) base fr g → Fr g L' h₁ (fun y => binds.reverse.lookup y) → News g L' h₁ news → (∀ q ∈ news, q.1 < L') → s.heap.objs.size ≤ L' →
      wpAny (model prog w) ((Ar dp un fr).deeper (envOf qual scope L' f cdv)) (execs body (envOf qual scope L' f cdv))
        (fun fl s' => R (.ok (.ret (match fl with | .ret v => v | _ => .none))) s')
        (fun e s' => wpAny (model prog w) ((Ar dp un fr).deeper (envOf qual scope L' f cdv)) (leaving (envOf qual scope L' f cdv) e) (fun _ s'' => R (.error e) s'') (fun e' s'' => R (.error e') s'') s')
        { s with heap := h₁, toks := s.toks + binds.length })
    (hco : scope.isCoroutine = false) (hgen : scope.isGenerator = false) (hk : scope.kind = .function)
    (hcell : ∀ x ∈ scope.names, x.2 ≠ .cell) : codeAny (model prog w) (Ar dp un fr) (.call (.ref f) args) R s := by
  have Xs : K.In s.heap := X.keeps kg
  refine codeAny_call_def (fd := fnOf name qual params body scope dV kV doc pm an cdv ct) (body := body) (binds := binds) hroom (Xs _ _ ho) rfl (T.nolimit.keeps kg) (codeRec_of Xs hcd) rfl hbind hcell hloc (fun h₁ hns hk₁ => ?_) hco hgen hk
  refine h s.heap.objs.size h₁ B ⟨hns, fun b o e => hk₁ b o (kg b o e), sz⟩ (fun q hq => ⟨hk₁ _ _ (N q hq).1, Nat.ne_of_lt (Heap.lt_size (N q hq).1), (N q hq).2⟩) (fun q hq => Heap.lt_size (N q hq).1) (Nat.le_refl _)
end

section
variable {A A₀ : Around} {base h₀ : Heap} {outer : List Env} {L : Addr} {m : Str → Option Value} {env : Env} {s : Shared} {news sub : List (Addr × Obj)} {K : Frag} {dp un : Nat}
  {p : Program} {loose : List Str} {mean : ExcName → Option Value} {mg mb : Str → Option Value}

/-- what a caller knows when a call has gone: the heap `h'` keeps `g` -/
structure Left (h₀ : Heap) (L : Addr) (m : Str → Option Value) (g : Heap) (news sub : List (Addr × Obj)) (sz : Nat) : Prop where
  fr : ∀ h', Keeps g h' → Fr h₀ L h' m
  old : ∀ h', Keeps g h' → ∀ q ∈ news, q.1 ∉ sub.map (·.1) → h'.get? q.1 = some q.2
  off : ∀ q ∈ news, q.1 ≠ L ∧ h₀.get? q.1 = none
  new : ∀ a, sz ≤ a → a ≠ L ∧ h₀.get? a = none
  lt : ∀ q ∈ news, q.1 < sz

/-- the sub-heap `g` under a call: all that stands but `sub` -/
theorem under (B : Below A₀ base outer h₀) (F : Fr h₀ L s.heap m) (X : K.In h₀) (N : News h₀ L s.heap news) (T : Top p loose mean mg mb h₀) (S : Sits A env outer L dp un)
    (hs : ∀ q ∈ sub, q ∈ news) :
    ∃ g, Below (Ar dp un (env :: outer)) base (env :: outer) g ∧ K.In g ∧ Top p loose mean mg mb g ∧ Keeps g s.heap ∧ g.objs.size ≤ s.heap.objs.size ∧ (∀ q ∈ sub, s.heap.get? q.1 = some q.2 ∧ g.get? q.1 = none) ∧ Left h₀ L m g news sub s.heap.objs.size := by
  have N' : News h₀ L s.heap sub := fun q hq => N q (hs q hq)
  obtain ⟨FG, BG, st, _⟩ := groundX (R := fun _ _ => True) B F N' S.fr S.ef S.ek
  refine ⟨_, ⟨rfl, BG.stays, BG.frames⟩, X.keeps st, T.keeps st, fun b o q => of_hideAll _ q, Nat.le_of_eq (hideAll_size _ _), fun q hq => ⟨(N q (hs q hq)).1, hideAll_none _ (List.mem_map_of_mem hq)⟩, ?_⟩
  refine ⟨fun h' k => ⟨FG.ns.keeps k, fun b o e => k b o (st b o e), F.above⟩, fun h' k q hq hn => k _ _ (hideAll_get _ (N q hq).1 hn), fun q hq => (N q hq).2, fun a ha => ⟨?_, ?_⟩, fun q hq => Heap.lt_size (N q hq).1⟩
  · intro e
    exact absurd F.ns.lt (Nat.not_lt.mpr (e ▸ ha))
  · cases q : h₀.get? a with
    | none => rfl
    | some o => exact absurd (Heap.lt_size (F.keep _ _ q)) (Nat.not_lt.mpr ha)

/-- one object of the ledger has turned -/
theorem Left.one {g h' : Heap} {d : Addr} {o : Obj} {G : Obj → List (Addr × Obj)} {sz : Nat} (Y : Left h₀ L m g news [(d, o)] sz) (U : UpdF d o news G) (k : Keeps g h') {o' : Obj} (ho : h'.get? d = some o') :
    Fr h₀ L h' m ∧ News h₀ L h' (G o') := by
  refine ⟨Y.fr h' k, ?_⟩
  obtain ⟨pre, post, e, hG, h1, h2⟩ := U.split
  rw [hG]
  subst e
  intro q hq
  rcases List.mem_append.mp hq with hm | hm
  · exact ⟨Y.old h' k q (List.mem_append_left _ hm) (by simpa using h1 q hm), Y.off q (List.mem_append_left _ hm)⟩
  · rcases List.mem_cons.mp hm with rfl | hm
    · exact ⟨ho, Y.off (d, o) (List.mem_append_right _ (.head _))⟩
    · exact ⟨Y.old h' k q (List.mem_append_right _ (.tail _ hm)) (by simpa using h2 q hm), Y.off q (List.mem_append_right _ (.tail _ hm))⟩
theorem updF_mem {d : Addr} {o : Obj} {G : Obj → List (Addr × Obj)} (U : UpdF d o news G) : ∀ q ∈ [(d, o)], q ∈ news := by
  obtain ⟨pre, post, e, _⟩ := U.split
  subst e
  intro q hq
  rw [List.mem_singleton.mp hq]
  exact List.mem_append_right _ (.head _)
/-- nothing of the ledger has turned -/
theorem Left.none {g h' : Heap} {sz : Nat} (Y : Left h₀ L m g news [] sz) (k : Keeps g h') : Fr h₀ L h' m ∧ News h₀ L h' news :=
  ⟨Y.fr h' k, fun q hq => ⟨Y.old h' k q hq (by simp), Y.off q hq⟩⟩
/-- a new object has come -/
theorem Left.more {g h' : Heap} {sz : Nat} {sub : List (Addr × Obj)} (Y : Left h₀ L m g news sub sz) {led : List (Addr × Obj)} (N : News h₀ L h' led) {a : Addr} {o : Obj} (ha : sz ≤ a) (ho : h'.get? a = some o) : News h₀ L h' ((a, o) :: led) := by
  intro q hq
  rcases List.mem_cons.mp hq with rfl | hq
  · exact ⟨ho, Y.new a ha⟩
  · exact N q hq
end

/-- a mark at which the walk stops -/
noncomputable def Marked (P : Prop) : Prop := P
theorem stopHere {P : Prop} (h : Marked P) : P := h


end
-- MACROS
local macro_rules | `(tactic| walk_at $s:str) => match s.getString with
  | "MY sub" => `(tactic| first | exact List.forall_mem_nil _ | (refine List.forall_mem_cons.mpr ⟨?_, ?_⟩ <;> first | k_mem | walk_at "MY sub"))
  | "MY steps" => `(tactic| repeat' (first | (k_unfold; (try dsimp only)) | (k_end; wrow_close) | (walk1; (all_goals (try dsimp only))) | (dsimp only; walk1)))
  | "evalArgs" => `(tactic| first | refine evalArgs_pos ?_ | refine evalArgs_nil3 ?_)
  | "MY sits" => `(tactic| constructor <;> rfl)
  | "MY five" => `(tactic| ((case B | F | X | N | T => k_asm); (case S => walk_at "MY sits")))
  | "MY rest" => `(tactic| ((try k_sweep); (try dsimp only)))
  | "MY head" => `(tactic| (try simp only [List.cons_append, List.nil_append, List.append_nil]))
  | "MY stop" => `(tactic| refine stopHere ?_)
  | _ => Lean.Macro.throwUnsupported
section


/-- a def's contract: called with `args` from any heap where `news` stand as written, it ends; all else is kept; what it hands back and how `news` stand then is `Post` -/
noncomputable def Does (prog : Program) (w : World) (dp un : Nat) (f : Addr) (args : List Value) (news : List (Addr × Obj)) (Post : Heap → Nat → Value → Prop) : Prop :=
  ∀ (fr : List Env) (base g : Heap) (s : Shared) (loose : List Str) (mean : ExcName → Option Value) (mg mb : Str → Option Value) (R : Result → Shared → Prop),
    Below (Ar dp un fr) base fr g → (Mine.Head.hd.heap_39 w.params).In g → Top Mine.Head.hd.view_39 loose mean mg mb g → Keeps g s.heap → g.objs.size ≤ s.heap.objs.size → (∀ q ∈ news, s.heap.get? q.1 = some q.2 ∧ g.get? q.1 = none) →
    (∀ h' tk v, Keeps g h' → Post h' s.heap.objs.size v → R (.ok (.ret v)) { s with heap := h', toks := tk }) → codeAny (model prog w) (Ar dp un fr) (.call (.ref f) ⟨args, []⟩) R s

section
variable {prog : Program} {w : World} {A A₀ : Around} {base h₀ : Heap} {outer : List Env} {L : Addr} {m : Str → Option Value} {env : Env} {s : Shared} {news sub : List (Addr × Obj)} {dp un : Nat} {f : Addr} {args : List Value}
  {loose : List Str} {mean : ExcName → Option Value} {mg mb : Str → Option Value} {Q E : Value → Shared → Prop} {Post : Heap → Nat → Value → Prop}

theorem Does.code {R : Result → Shared → Prop} (D : Does prog w dp un f args sub Post) (B : Below A₀ base outer h₀) (F : Fr h₀ L s.heap m) (X : (Mine.Head.hd.heap_39 w.params).In h₀) (N : News h₀ L s.heap news) (T : Top Mine.Head.hd.view_39 loose mean mg mb h₀) (S : Sits A env outer L dp un)
    (hs : ∀ q ∈ sub, q ∈ news) (h : ∀ g h' tk v, Left h₀ L m g news sub s.heap.objs.size → Keeps g h' → Post h' s.heap.objs.size v → R (.ok (.ret v)) { s with heap := h', toks := tk }) : codeAny (model prog w) A (.call (.ref f) ⟨args, []⟩) R s := by
  obtain ⟨g, Bg, Xg, Tg, kg, sz, Ng, Y⟩ := under B F X N T S hs
  exact S.code (D _ _ g s _ _ _ _ _ Bg Xg Tg kg sz Ng fun h' tk v k p => h g h' tk v Y k p)
theorem Does.walk (D : Does prog w dp un f args sub Post) (B : Below A₀ base outer h₀) (F : Fr h₀ L s.heap m) (X : (Mine.Head.hd.heap_39 w.params).In h₀) (N : News h₀ L s.heap news) (T : Top Mine.Head.hd.view_39 loose mean mg mb h₀) (S : Sits A env outer L dp un)
    (hs : ∀ q ∈ sub, q ∈ news) (h : ∀ g h' tk v, Left h₀ L m g news sub s.heap.objs.size → Keeps g h' → Post h' s.heap.objs.size v → Q v { s with heap := h', toks := tk }) : wpAny (model prog w) A (call (.ref f) args) Q E s :=
  wpAny_call (D.code B F X N T S hs h)
theorem Does.walk0 (D : Does prog w dp un f args [] Post) (B : Below A₀ base outer h₀) (F : Fr h₀ L s.heap m) (X : (Mine.Head.hd.heap_39 w.params).In h₀) (N : News h₀ L s.heap news) (T : Top Mine.Head.hd.view_39 loose mean mg mb h₀) (S : Sits A env outer L dp un)
    (h : ∀ h' tk v, Fr h₀ L h' m → News h₀ L h' news → Post h' s.heap.objs.size v → Q v { s with heap := h', toks := tk }) : wpAny (model prog w) A (call (.ref f) args) Q E s :=
  D.walk B F X N T S (fun _ h => nomatch h) fun _ h' tk v Y k p => h h' tk v (Y.none k).1 (Y.none k).2 p
theorem Does.walk1 {d : Addr} {o : Obj} {P : Obj → Value → Prop} {G : Obj → List (Addr × Obj)} (D : Does prog w dp un f args [(d, o)] (fun h' _ v => ∃ o', h'.get? d = some o' ∧ P o' v)) (B : Below A₀ base outer h₀) (F : Fr h₀ L s.heap m) (X : (Mine.Head.hd.heap_39 w.params).In h₀) (N : News h₀ L s.heap news) (T : Top Mine.Head.hd.view_39 loose mean mg mb h₀) (S : Sits A env outer L dp un)
    (U : UpdF d o news G) (h : ∀ h' tk v o', Fr h₀ L h' m → News h₀ L h' (G o') → P o' v → Q v { s with heap := h', toks := tk }) : wpAny (model prog w) A (call (.ref f) args) Q E s :=
  D.walk B F X N T S (updF_mem U) fun _ h' tk v Y k ⟨o', ho, p⟩ => h h' tk v o' (Y.one U k ho).1 (Y.one U k ho).2 p
end

noncomputable def absI (v : Int) : Int := if v < 0 then -v else v

end

-- part base2
section
-- needs: clean clean2 clean3 crules crules2 bridge head base
theorem Sits.codeC {M : Model} {A : Around} {env : Env} {outer : List Env} {L : Addr} {dp un : Nat} {c : Code} {R : Flow → Shared → Prop} {s : Shared} (S : Sits A env outer L dp un)
    (h : codeC M (Ar dp un (env :: outer)) c R s) : Mine.codeC M A c R s := fun Γ p hc hb hl => h Γ p hc (below_le S.hd S.fr S.gd S.dp S.un hb) hl

section
variable {prog : Program} {w : World} {dp un : Nat} {fr : List Env} {base g : Heap} {s : Shared} {news : List (Addr × Obj)} {K : Frag}
  {p : Program} {loose : List Str} {mean : ExcName → Option Value} {mg mb : Str → Option Value} {R : Flow → Shared → Prop}
  {name qual : Str} {params : Arguments} {body : List Stmt} {scope : Scope} {dV kV doc pm cdv ct oc : Value} {an od : Option Addr} {osl : Array (Option Value)} {f : Addr} {args : Args}
theorem enterC (binds : List (Str × Value)) (B : Below (Ar dp un fr) base fr g) (X : K.In g) (T : Top p loose mean mg mb g) (kg : Keeps g s.heap) (sz : g.objs.size ≤ s.heap.objs.size)
    (N : ∀ q ∈ news, s.heap.get? q.1 = some q.2 ∧ g.get? q.1 = none)
    (ho : K.lookup f = some ⟨oc, od, .func (fnOf name qual params body scope dV kV doc pm an cdv ct), osl⟩) (hcd : codeIn K cdv qual = true) (hroom : dp < recursionLimit)
    (hbind : BindsTo s (fnOf name qual params body scope dV kV doc pm an cdv ct) args binds) (hloc : ∀ y ∈ binds, scope.names.lookup y.1 = some .local)
    (h : ∀ L' h₁, Below (Ar dp un fr) base fr g → Fr g L' h₁ (fun y => binds.reverse.lookup y) → News g L' h₁ news → (∀ q ∈ news, q.1 < L') → s.heap.objs.size ≤ L' →
      wpC (model prog w) ((Ar dp un fr).deeper (envOf qual scope L' f cdv)) (execs body (envOf qual scope L' f cdv))
        (fun fl s' => R (.ret (match fl with | .ret v => v | _ => .none)) s')
        { s with heap := h₁, toks := s.toks + binds.length })
    (hco : scope.isCoroutine = false) (hgen : scope.isGenerator = false) (hk : scope.kind = .function)
    (hcell : ∀ x ∈ scope.names, x.2 ≠ .cell) : codeC (model prog w) (Ar dp un fr) (.call (.ref f) args) R s := by
  have Xs : K.In s.heap := X.keeps kg
  refine codeC_call_def (fd := fnOf name qual params body scope dV kV doc pm an cdv ct) (body := body) (binds := binds) hroom (Xs _ _ ho) rfl (T.nolimit.keeps kg) (codeRec_of Xs hcd) rfl hbind hcell hloc (fun h₁ hns hk₁ => ?_) hco hgen hk
  exact h s.heap.objs.size h₁ B ⟨hns, fun b o e => hk₁ b o (kg b o e), sz⟩ (fun q hq => ⟨hk₁ _ _ (N q hq).1, Nat.ne_of_lt (Heap.lt_size (N q hq).1), (N q hq).2⟩) (fun q hq => Heap.lt_size (N q hq).1) (Nat.le_refl _)
end

/-- a def's contract in clean contexts -/
noncomputable def DoesC (prog : Program) (w : World) (dp un : Nat) (f : Addr) (args : List Value) (news : List (Addr × Obj)) (Post : Heap → Nat → Value → Prop) : Prop :=
  ∀ (fr : List Env) (base g : Heap) (s : Shared) (loose : List Str) (mean : ExcName → Option Value) (mg mb : Str → Option Value) (R : Flow → Shared → Prop),
    Below (Ar dp un fr) base fr g → (Mine.Head.hd.heap_39 w.params).In g → Top Mine.Head.hd.view_39 loose mean mg mb g → Keeps g s.heap → g.objs.size ≤ s.heap.objs.size → (∀ q ∈ news, s.heap.get? q.1 = some q.2 ∧ g.get? q.1 = none) →
    (∀ h' tk v, Keeps g h' → Post h' s.heap.objs.size v → R (.ret v) { s with heap := h', toks := tk }) → codeC (model prog w) (Ar dp un fr) (.call (.ref f) ⟨args, []⟩) R s

section
variable {prog : Program} {w : World} {A A₀ : Around} {base h₀ : Heap} {outer : List Env} {L : Addr} {m : Str → Option Value} {env : Env} {s : Shared} {news sub : List (Addr × Obj)} {dp un : Nat} {f : Addr} {args : List Value}
  {loose : List Str} {mean : ExcName → Option Value} {mg mb : Str → Option Value} {Q : Value → Shared → Prop} {Post : Heap → Nat → Value → Prop}
theorem DoesC.code {R : Flow → Shared → Prop} (D : DoesC prog w dp un f args sub Post) (B : Below A₀ base outer h₀) (F : Fr h₀ L s.heap m) (X : (Mine.Head.hd.heap_39 w.params).In h₀) (N : News h₀ L s.heap news) (T : Top Mine.Head.hd.view_39 loose mean mg mb h₀) (S : Sits A env outer L dp un)
    (hs : ∀ q ∈ sub, q ∈ news) (h : ∀ g h' tk v, Left h₀ L m g news sub s.heap.objs.size → Keeps g h' → Post h' s.heap.objs.size v → R (.ret v) { s with heap := h', toks := tk }) : codeC (model prog w) A (.call (.ref f) ⟨args, []⟩) R s := by
  obtain ⟨g, Bg, Xg, Tg, kg, sz, Ng, Y⟩ := under B F X N T S hs
  exact S.codeC (D _ _ g s _ _ _ _ _ Bg Xg Tg kg sz Ng fun h' tk v k p => h g h' tk v Y k p)
theorem DoesC.walk (D : DoesC prog w dp un f args sub Post) (B : Below A₀ base outer h₀) (F : Fr h₀ L s.heap m) (X : (Mine.Head.hd.heap_39 w.params).In h₀) (N : News h₀ L s.heap news) (T : Top Mine.Head.hd.view_39 loose mean mg mb h₀) (S : Sits A env outer L dp un)
    (hs : ∀ q ∈ sub, q ∈ news) (h : ∀ g h' tk v, Left h₀ L m g news sub s.heap.objs.size → Keeps g h' → Post h' s.heap.objs.size v → Q v { s with heap := h', toks := tk }) : wpC (model prog w) A (call (.ref f) args) Q s :=
  wpC_call (D.code B F X N T S hs h)
end

section
variable {prog : Program} {w : World} {A : Around} {s : Shared} {K : Frag} {env : Env}
/-- a def or class that stands in the fragment, called -/
theorem wpC_callWith_K {pos : Pos} {f : Value} {first : List Value} {args : List (Bool × Sem Value)} {Q : Value → Shared → Prop} (hk : keepIn K f = true) (hplain : args.any (·.1) = false)
    (h : wpAny (model prog w) A (evalArgs f true args []) (fun a s₁ => K.In s₁.heap ∧ wpC (model prog w) A (call f (first ++ a.pos) a.kw) Q s₁) (fun _ _ => False) s) : wpC (model prog w) A (callWith pos f first args []) Q s :=
  wpC_callWith_of hplain (keeps_K hk) h
end

section
variable {h₀ : Heap} {L : Addr} {m : Str → Option Value} {news sub : List (Addr × Obj)}
/-- the ledger after a call, each object as it stands then -/
theorem Left.turn {g h' : Heap} {sz : Nat} (Y : Left h₀ L m g news sub sz) {news' : List (Addr × Obj)} (H : ∀ q ∈ news', h'.get? q.1 = some q.2 ∧ ((∃ o, (q.1, o) ∈ news) ∨ sz ≤ q.1)) : News h₀ L h' news' := by
  intro q hq
  obtain ⟨a, b | b⟩ := H q hq
  · obtain ⟨o, ho⟩ := b
    exact ⟨a, Y.off (q.1, o) ho⟩
  · exact ⟨a, Y.new _ b⟩
end
theorem all2 {α : Type} {P : α → Prop} {a b : α} (h1 : P a) (h2 : P b) : ∀ q ∈ [a, b], P q := by
  intro q hq
  simp only [List.mem_cons, List.not_mem_nil, or_false] at hq
  rcases hq with rfl | rfl <;> assumption
theorem all3 {α : Type} {P : α → Prop} {a b c : α} (h1 : P a) (h2 : P b) (h3 : P c) : ∀ q ∈ [a, b, c], P q := by
  intro q hq
  simp only [List.mem_cons, List.not_mem_nil, or_false] at hq
  rcases hq with rfl | rfl | rfl <;> assumption

section
variable {prog : Program} {w : World} {A A₀ : Around} {base h₀ : Heap} {outer : List Env} {L : Addr} {m : Str → Option Value} {env : Env} {s : Shared} {news : List (Addr × Obj)} {dp un : Nat} {f : Addr} {args : List Value}
  {loose : List Str} {mean : ExcName → Option Value} {mg mb : Str → Option Value} {Q E : Value → Shared → Prop}
/-- two objects were lent: the first stands as before, the second has turned -/
theorem Left.two {g h h' : Heap} {x d : Addr} {o1 o2 o2' : Obj} {G : Obj → List (Addr × Obj)} {sz : Nat} (Y : Left h₀ L m g news [(x, o1), (d, o2)] sz) (N : News h₀ L h news) (hx : (x, o1) ∈ news) (U : UpdF d o2 news G) (k : Keeps g h') (e1 : h'.get? x = some o1) (e2 : h'.get? d = some o2') :
    Fr h₀ L h' m ∧ News h₀ L h' (G o2') := by
  refine ⟨Y.fr h' k, ?_⟩
  obtain ⟨pre, post, e, hG, h1, h2⟩ := U.split
  rw [hG]
  have old : ∀ q ∈ news, q.1 ≠ d → h'.get? q.1 = some q.2 := by
    intro q hq hd
    by_cases hqx : q.1 = x
    · have a1 := (N q hq).1
      have a2 := (N (x, o1) hx).1
      rw [hqx] at a1 ⊢
      rw [a1] at a2
      cases a2
      exact e1
    · exact Y.old h' k q hq (by simpa using ⟨hqx, hd⟩)
  subst e
  intro q hq
  rcases List.mem_append.mp hq with hm | hm
  · exact ⟨old q (List.mem_append_left _ hm) (h1 q hm), Y.off q (List.mem_append_left _ hm)⟩
  · rcases List.mem_cons.mp hm with rfl | hm
    · exact ⟨e2, Y.off (d, o2) (List.mem_append_right _ (.head _))⟩
    · exact ⟨old q (List.mem_append_right _ (.tail _ hm)) (h2 q hm), Y.off q (List.mem_append_right _ (.tail _ hm))⟩
theorem Does.walk2 {x d : Addr} {o1 o2 : Obj} {P : Obj → Value → Prop} {G : Obj → List (Addr × Obj)} (D : Does prog w dp un f args [(x, o1), (d, o2)] (fun h' _ v => h'.get? x = some o1 ∧ ∃ o', h'.get? d = some o' ∧ P o' v)) (B : Below A₀ base outer h₀) (F : Fr h₀ L s.heap m) (X : (Mine.Head.hd.heap_39 w.params).In h₀) (N : News h₀ L s.heap news) (T : Top Mine.Head.hd.view_39 loose mean mg mb h₀) (S : Sits A env outer L dp un)
    (hx : (x, o1) ∈ news) (U : UpdF d o2 news G) (h : ∀ h' tk v o', Fr h₀ L h' m → News h₀ L h' (G o') → P o' v → Q v { s with heap := h', toks := tk }) : wpAny (model prog w) A (call (.ref f) args) Q E s := by
  refine D.walk B F X N T S ?_ fun _ h' tk v Y k ⟨e1, o', e2, p⟩ => h h' tk v o' (Y.two N hx U k e1 e2).1 (Y.two N hx U k e1 e2).2 p
  intro q hq
  simp only [List.mem_cons, List.not_mem_nil, or_false] at hq
  rcases hq with rfl | rfl
  · exact hx
  · exact updF_mem U _ (.head _)
end

section
variable {prog : Program} {w : World} {A A₀ : Around} {base h₀ : Heap} {outer : List Env} {L : Addr} {m : Str → Option Value} {env : Env} {s : Shared} {news : List (Addr × Obj)} {dp un : Nat} {f : Addr} {args : List Value}
  {loose : List Str} {mean : ExcName → Option Value} {mg mb : Str → Option Value} {Q E : Value → Shared → Prop}
/-- a def that hands back a value and keeps all -/
theorem Does.walkV {V : Tok → Value} (D : Does prog w dp un f args [] (fun _ _ r => ∃ t, r = V t)) (B : Below A₀ base outer h₀) (F : Fr h₀ L s.heap m) (X : (Mine.Head.hd.heap_39 w.params).In h₀) (N : News h₀ L s.heap news) (T : Top Mine.Head.hd.view_39 loose mean mg mb h₀) (S : Sits A env outer L dp un)
    (h : ∀ h' tk, Fr h₀ L h' m → News h₀ L h' news → ∀ t, Q (V t) { s with heap := h', toks := tk }) : wpAny (model prog w) A (call (.ref f) args) Q E s :=
  D.walk0 B F X N T S fun h' tk _ F' N' ⟨t, e⟩ => e ▸ h h' tk F' N' t
/-- a def that keeps the first of two lent objects and turns the second -/
theorem Does.walkT {x d : Addr} {o1 o2 : Obj} {O : Tok → Obj} {V : Tok → Value} {Hy : Prop} {G : Obj → List (Addr × Obj)} (D : Hy → Does prog w dp un f args [(x, o1), (d, o2)] (fun h' _ v => h'.get? x = some o1 ∧ ∃ o', h'.get? d = some o' ∧ (∃ t2, o' = O t2) ∧ ∃ t, v = V t))
    (B : Below A₀ base outer h₀) (F : Fr h₀ L s.heap m) (X : (Mine.Head.hd.heap_39 w.params).In h₀) (N : News h₀ L s.heap news) (T : Top Mine.Head.hd.view_39 loose mean mg mb h₀) (S : Sits A env outer L dp un)
    (M : (x, o1) ∈ news) (U : UpdF d o2 news G) (H : Hy) (h : ∀ h' tk, Fr h₀ L h' m → ∀ t2 t, News h₀ L h' (G (O t2)) → Q (V t) { s with heap := h', toks := tk }) : wpAny (model prog w) A (call (.ref f) args) Q E s :=
  Does.walk2 (P := fun o' v => (∃ t2, o' = O t2) ∧ ∃ t, v = V t) (D H) B F X N T S M U fun h' tk _ _ F' N' ⟨⟨t2, e1⟩, t, e2⟩ => by subst e1; subst e2; exact h h' tk F' t2 t N'
end


end
-- MACROS
local macro_rules | `(tactic| walk_at $s:str) => match s.getString with
  | "MY call0" => `(tactic| (k_dflt ((with_reducible refine' Does.walkV ?D ?B ?F ?X ?N ?T ?S ?_); (case D => walk_at "MY def0"); walk_at "MY five"; k_whole); intros; walk_at "MY rest"))
  | "MY tail" => `(tactic| (walk_at "MY five"; (try case M => k_mem); (case U => k_updF); (case H => walk_at "MY hyps"); k_whole))
  | _ => Lean.Macro.throwUnsupported

-- part base3
section
-- needs: clean clean2 clean3 crules crules2 bridge head base base2
section
variable {prog : Program} {w : World} {dp un : Nat} {fr : List Env} {base g : Heap} {s : Shared} {news : List (Addr × Obj)} {K : Frag}
  {p : Program} {loose : List Str} {mean : ExcName → Option Value} {mg mb : Str → Option Value}
  {name qual : Str} {params : Arguments} {body : List Stmt} {scope : Scope} {dV kV doc pm cdv ct oc : Value} {an od : Option Addr} {osl : Array (Option Value)} {f : Addr} {args : Args}

theorem cellEnv {Q : Env → Shared → Prop} {E : Value → Shared → Prop} {A : Around} {binds : List (Str × Value)} (kg : Keeps g s.heap) (sz : g.objs.size ≤ s.heap.objs.size) (N : ∀ q ∈ news, s.heap.get? q.1 = some q.2 ∧ g.get? q.1 = none)
    (hkind : (binds.all fun y => scope.names.lookup y.1 == some .local || scope.names.lookup y.1 == some .cell) = true)
    (hnd : ((cellsFrom 0 scope.names []).map (·.1)).Nodup) (hk : scope.kind = .function)
    (h : ∀ h₁ tk cells, Fr g s.heap.objs.size h₁ (bindL (envOfC qual scope s.heap.objs.size f cdv).kindOf binds fun _ => none) → News g s.heap.objs.size h₁ (cells ++ news) →
      CellsAre (bindC (envOfC qual scope s.heap.objs.size f cdv).kindOf binds fun _ => none) (cellsFrom (s.heap.objs.size + 1) scope.names []) cells → Keeps s.heap h₁ →
      Q (envOfC qual scope s.heap.objs.size f cdv) { s with heap := h₁, toks := tk }) :
    wpAny (model prog w) A (newFunctionEnv scope mainGlobals [] binds (qual ++ ".<locals>.") (some f) cdv none builtinsNs) Q E s := by
  refine wpAny_newFunctionEnv_cells hk (kindsX hkind _) fun env' he s' x => ?_
  subst he
  obtain ⟨h₁, tk, rfl, _⟩ := x.done
  have hk₁ := x.toInCall.keep
  obtain ⟨cells, NC, Y⟩ := Cl.news (h₀ := s.heap) (Nat.le_refl _) fun n c hm => ⟨x.cell n c (lookup_of_mem_nodup (cellsFrom_names scope.names 0 (s.heap.objs.size + 1) [] [] rfl ▸ hnd) hm), x.above n c hm⟩
  refine h h₁ tk cells ⟨x.toInCall.ns, fun b o e => hk₁ b o (kg b o e), sz⟩ (fun q hq => ?_) Y hk₁
  rcases List.mem_append.mp hq with hq | hq
  · refine ⟨(NC q hq).1, (NC q hq).2.1, ?_⟩
    cases z : g.get? q.1 with
    | none => rfl
    | some o => have := kg _ _ z; rw [(NC q hq).2.2] at this; cases this
  · exact ⟨hk₁ _ _ (N q hq).1, Nat.ne_of_lt (Heap.lt_size (N q hq).1), (N q hq).2⟩

theorem enterCell {R : Result → Shared → Prop} (binds : List (Str × Value)) (B : Below (Ar dp un fr) base fr g) (X : K.In g) (T : Top p loose mean mg mb g) (kg : Keeps g s.heap) (sz : g.objs.size ≤ s.heap.objs.size)
    (N : ∀ q ∈ news, s.heap.get? q.1 = some q.2 ∧ g.get? q.1 = none)
    (ho : K.lookup f = some ⟨oc, od, .func (fnOf name qual params body scope dV kV doc pm an cdv ct), osl⟩) (hcd : codeIn K cdv qual = true) (hroom : dp < recursionLimit)
    (hbind : BindsTo s (fnOf name qual params body scope dV kV doc pm an cdv ct) args binds) (hkind : (binds.all fun y => scope.names.lookup y.1 == some .local || scope.names.lookup y.1 == some .cell) = true)
    (hnd : ((cellsFrom 0 scope.names []).map (·.1)).Nodup)
    (h : ∀ L' h₁ tk cells, Below (Ar dp un fr) base fr g → Fr g L' h₁ (bindL (envOfC qual scope L' f cdv).kindOf binds fun _ => none) → News g L' h₁ (cells ++ news) →
      CellsAre (bindC (envOfC qual scope L' f cdv).kindOf binds fun _ => none) (cellsFrom (L' + 1) scope.names []) cells → (∀ q ∈ news, q.1 < L') → s.heap.objs.size ≤ L' →
      wpAny (model prog w) ((Ar dp un fr).deeper (envOfC qual scope L' f cdv)) (execs body (envOfC qual scope L' f cdv))
        (fun fl s' => R (.ok (.ret (match fl with | .ret v => v | _ => .none))) s')
        (fun e s' => wpAny (model prog w) ((Ar dp un fr).deeper (envOfC qual scope L' f cdv)) (leaving (envOfC qual scope L' f cdv) e) (fun _ s'' => R (.error e) s'') (fun e' s'' => R (.error e') s'') s')
        { s with heap := h₁, toks := tk })
    (hco : scope.isCoroutine = false) (hgen : scope.isGenerator = false) (hk : scope.kind = .function) : codeAny (model prog w) (Ar dp un fr) (.call (.ref f) args) R s := by
  have Xs : K.In s.heap := X.keeps kg
  refine codeAny_call_function hroom (Xs _ _ ho) rfl hco hgen rfl (codeRec_of Xs hcd) (hbind _ _ _ _ ?_)
  refine cellEnv kg sz N hkind hnd hk fun h₁ tk cells F' N' Y hk₁ => ?_
  exact ⟨(T.nolimit.keeps kg).keeps hk₁, codeAny_func (h _ h₁ tk cells B F' N' Y (fun q hq => Heap.lt_size (N q hq).1) (Nat.le_refl _))⟩

theorem enterCellC {R : Flow → Shared → Prop} (binds : List (Str × Value)) (B : Below (Ar dp un fr) base fr g) (X : K.In g) (T : Top p loose mean mg mb g) (kg : Keeps g s.heap) (sz : g.objs.size ≤ s.heap.objs.size)
    (N : ∀ q ∈ news, s.heap.get? q.1 = some q.2 ∧ g.get? q.1 = none)
    (ho : K.lookup f = some ⟨oc, od, .func (fnOf name qual params body scope dV kV doc pm an cdv ct), osl⟩) (hcd : codeIn K cdv qual = true) (hroom : dp < recursionLimit)
    (hbind : BindsTo s (fnOf name qual params body scope dV kV doc pm an cdv ct) args binds) (hkind : (binds.all fun y => scope.names.lookup y.1 == some .local || scope.names.lookup y.1 == some .cell) = true)
    (hnd : ((cellsFrom 0 scope.names []).map (·.1)).Nodup)
    (h : ∀ L' h₁ tk cells, Below (Ar dp un fr) base fr g → Fr g L' h₁ (bindL (envOfC qual scope L' f cdv).kindOf binds fun _ => none) → News g L' h₁ (cells ++ news) →
      CellsAre (bindC (envOfC qual scope L' f cdv).kindOf binds fun _ => none) (cellsFrom (L' + 1) scope.names []) cells → (∀ q ∈ news, q.1 < L') → s.heap.objs.size ≤ L' →
      wpC (model prog w) ((Ar dp un fr).deeper (envOfC qual scope L' f cdv)) (execs body (envOfC qual scope L' f cdv))
        (fun fl s' => R (.ret (match fl with | .ret v => v | _ => .none)) s')
        { s with heap := h₁, toks := tk })
    (hco : scope.isCoroutine = false) (hgen : scope.isGenerator = false) (hk : scope.kind = .function) : codeC (model prog w) (Ar dp un fr) (.call (.ref f) args) R s := by
  have Xs : K.In s.heap := X.keeps kg
  refine codeC_call_function hroom (Xs _ _ ho) rfl hco hgen rfl (codeRec_of Xs hcd) (hbind _ _ _ _ ?_)
  refine cellEnv kg sz N hkind hnd hk fun h₁ tk cells F' N' Y hk₁ => ?_
  exact ⟨(T.nolimit.keeps kg).keeps hk₁, codeC_func (h _ h₁ tk cells B F' N' Y (fun q hq => Heap.lt_size (N q hq).1) (Nat.le_refl _))⟩
end

end

-- part cfor
section
-- needs: clean clean2 clean3 crules crules2 bridge head base base2
/-- a turn's end: the ledger's objects as `J` says, the iterator's own as it was -/
noncomputable def EndTurn (h₀ : Heap) (L : Addr) (s : Shared) (I : Addr) (ob : Obj) (J : (Str → Option Value) → List (Addr × Obj) → Prop) (f : Flow) (s₃ : Shared) : Prop :=
  f = .next ∧ ∃ h' tk' m' news', s₃ = { s with heap := h', toks := tk' } ∧ Fr h₀ L h' m' ∧ News h₀ L h' ((I, ob) :: news') ∧ (∀ q ∈ news', q.1 ≠ I) ∧ J m' news'
theorem EndTurn.intro {h₀ : Heap} {L : Addr} {s : Shared} {I : Addr} {ob : Obj} {J : (Str → Option Value) → List (Addr × Obj) → Prop} {h' : Heap} {tk' : Nat} {m' : Str → Option Value} {news news' : List (Addr × Obj)} (F : Fr h₀ L h' m') (N : News h₀ L h' news) (hn : ∀ q ∈ (I, ob) :: news', q ∈ news) (o : ∀ q ∈ news', q.1 ≠ I) (j : J m' news') :
    EndTurn h₀ L s I ob J .next { s with heap := h', toks := tk' } := ⟨rfl, h', tk', m', news', rfl, F, fun q hq => N q (hn q hq), o, j⟩
section
variable {prog : Program} {w : World} {A : Around} {s : Shared} {env : Env} {Q : Flow → Shared → Prop} {h₀ : Heap} {L : Addr}
theorem wpC_For {x : Str} {px : Pos} {iter : Expr} {body : List Stmt} {pos : Pos}
    (h : wpAny (model prog w) A (eval iter env) (fun v s₁ => wpAny (model prog w) A (pyIter v) (fun it s₂ => codeC (model prog w) A (.forLoop (.Name x px) it body [] env) Q s₂) (fun _ _ => False) s₁) (fun _ _ => False) s)
    (hs : ∀ x, foldedSetIterable iter env x = pure x := by intro _; rfl) : wpC (model prog w) A (exec (.For (.Name x px) iter body [] pos) env) Q s := by
  rw [exec_For]
  refine wpC_bind (wpC_standAt (wpC_any_bind (wpAny_mono h (fun v s₁ h₁ => ?_) fun _ _ x => x)))
  rw [hs]
  refine wpC_bind (wpC_pure (wpC_bind (wpC_standAt (wpC_bind (wpC_holding (wpC_of_any (wpAny_mono h₁ (fun it s₂ h₂ => ?_) fun _ _ x => x)))))))
  exact wpC_runOwn h₂
theorem Fr.moved {h h' : Heap} {m : Str → Option Value} {I : Addr} (F : Fr h₀ L h m) (hk : ∀ b o, b ∉ [I] → h.get? b = some o → h'.get? b = some o) (hI : I ≠ L) (h0 : h₀.get? I = none) : Fr h₀ L h' m := kmk_fr F hk hI h0
theorem News.moved {h h' : Heap} {I : Addr} {news : List (Addr × Obj)} (N : News h₀ L h news) (hk : ∀ b o, b ∉ [I] → h.get? b = some o → h'.get? b = some o) (hI : ∀ q ∈ news, q.1 ≠ I) : News h₀ L h' news := LCg.news_but N hk hI

/-- a for in clean contexts: the ledger's addresses are the caller's, the iterator's own object stands ahead of them -/
theorem forC {I : Addr} {fp : List Addr} {n : Nat} {P : Nat → Value → Prop} {St : Nat → Heap → Prop} {x : Str} {px : Pos} {body : List Stmt} (W : Walks prog w A I fp [I] n P St)
    (J : Nat → (Str → Option Value) → List (Addr × Obj) → Prop) (hob : ∀ i h, St i h → ∃ o, h.get? I = some o)
    (hfp : ∀ b ∈ fp, b = I ∨ ∃ o, ∀ i m news, J i m news → (b, o) ∈ news) (hI : I ≠ L) (h0 : h₀.get? I = none)
    (hsto : ∀ (s : Shared) (m : Str → Option Value) (news : List (Addr × Obj)) (v : Value) (Q : Unit → Shared → Prop) (E : Value → Shared → Prop), Fr h₀ L s.heap m → News h₀ L s.heap news →
      (∀ h', Fr h₀ L h' (fun y => if y = x then some v else m y) → News h₀ L h' news → Q () { s with heap := h', toks := s.toks + 1 }) → wpAny (model prog w) A (storeName env x v) Q E s)
    (turn : ∀ i m news h tk v ob, i < n → P i v → J i m news → (∀ q ∈ news, q.1 ≠ I) → Fr h₀ L h (fun y => if y = x then some v else m y) → News h₀ L h ((I, ob) :: news) →
      wpC (model prog w) A (execs body env) (EndTurn h₀ L s I ob (J (i + 1))) { s with heap := h, toks := tk })
    (done : ∀ m news h tk, J n m news → Fr h₀ L h m → News h₀ L h news → Q .next { s with heap := h, toks := tk })
    {m₀ : Str → Option Value} {news₀ : List (Addr × Obj)} (F : Fr h₀ L s.heap m₀) (N : News h₀ L s.heap news₀) (hN : ∀ q ∈ news₀, q.1 ≠ I) (st : St 0 s.heap) (hj : J 0 m₀ news₀) :
    codeC (model prog w) A (.forLoop (.Name x px) (.ref I) body [] env) Q s := by
  refine codeC_for W (fun i s' => ∃ h tk m news, s' = { s with heap := h, toks := tk } ∧ Fr h₀ L h m ∧ News h₀ L h news ∧ (∀ q ∈ news, q.1 ≠ I) ∧ St i h ∧ J i m news) ?_ ?_ ?_ n 0 s (Nat.zero_add n) ⟨_, _, _, _, rfl, F, N, hN, st, hj⟩
  · rintro i _ ⟨h, tk, m, news, rfl, _, _, _, q, _⟩
    exact q
  · rintro i _ v h' tk' hi ⟨h, tk, m, news, rfl, F₁, N₁, o₁, _, j₁⟩ hP hS hk
    dsimp only at hk ⊢
    obtain ⟨ob, hob'⟩ := hob _ _ hS
    have F₂ := Fr.moved F₁ hk hI h0
    have N₂ : News h₀ L h' ((I, ob) :: news) := by
      intro q hq
      rcases List.mem_cons.mp hq with rfl | hq
      · exact ⟨hob', hI, h0⟩
      · exact News.moved N₁ hk o₁ q hq
    refine hsto { s with heap := h', toks := tk' } m _ v _ _ F₂ N₂ fun h₂ F₃ N₃ => ?_
    refine wpC_mono (turn i m news h₂ _ v ob hi hP j₁ o₁ F₃ N₃) fun f s₃ z => ?_
    obtain ⟨rfl, h₃, tk₃, m₃, news₃, rfl, F₄, N₄, o₄, j₄⟩ := z
    refine ⟨rfl, h₃, tk₃, m₃, news₃, rfl, F₄, fun q hq => N₄ q (.tail _ hq), o₄, ?_, j₄⟩
    refine W.frame (i + 1) h' h₃ hS fun b hb o ho => ?_
    rcases hfp b hb with rfl | ⟨o', ho'⟩
    · rw [hob'] at ho
      cases ho
      exact (N₄ _ (.head _)).1
    · have e1 := (N₂ (b, o') (.tail _ (ho' _ _ _ j₁))).1
      rw [show h'.get? b = some o' from e1] at ho
      cases ho
      exact (N₄ (b, _) (.tail _ (ho' _ _ _ j₄))).1
  · rintro _ h' tk' ⟨h, tk, m, news, rfl, F₁, N₁, o₁, _, j₁⟩ hk
    dsimp only at hk ⊢
    exact done m news h' tk' j₁ (Fr.moved F₁ hk hI h0) (News.moved N₁ hk o₁)

variable {m₀ : Str → Option Value} {news₀ : List (Addr × Obj)} {x : Str} {px : Pos} {body : List Stmt}
theorem forC_range {r : Addr} {a b : Int} {t u v : Tok} {n : Nat} (J : Nat → (Str → Option Value) → List (Addr × Obj) → Prop) (hh : A.handled = none) (hr : IsRange s.heap r a b 1 t u v) (hsmall : Builtin.Range.small a b 1 = true)
    (hn : Builtin.Range.rangeSize a b 1 = (n : Int)) (F : Fr h₀ L s.heap m₀) (N : News h₀ L s.heap news₀) (hj : J 0 m₀ news₀)
    (hsto : ∀ (s : Shared) (m : Str → Option Value) (news : List (Addr × Obj)) (v : Value) (Q : Unit → Shared → Prop) (E : Value → Shared → Prop), Fr h₀ L s.heap m → News h₀ L s.heap news →
      (∀ h', Fr h₀ L h' (fun y => if y = x then some v else m y) → News h₀ L h' news → Q () { s with heap := h', toks := s.toks + 1 }) → wpAny (model prog w) A (storeName env x v) Q E s)
    (turn : ∀ i m news h tk t I ob, i < n → J i m news → (∀ q ∈ news, q.1 ≠ I) → Fr h₀ L h (fun y => if y = x then some (.int (a + (i : Nat)) t) else m y) → News h₀ L h ((I, ob) :: news) →
      wpC (model prog w) A (execs body env) (EndTurn h₀ L s I ob (J (i + 1))) { s with heap := h, toks := tk })
    (done : ∀ m news h tk, J n m news → Fr h₀ L h m → News h₀ L h news → Q .next { s with heap := h, toks := tk }) :
    wpAny (model prog w) A (pyIter (.ref r)) (fun it s₂ => codeC (model prog w) A (.forLoop (.Name x px) it body [] env) Q s₂) (fun _ _ => False) s := by
  refine wpAny_pyIter_range hr hsmall ?_
  have hI : s.heap.objs.size ≠ L := Nat.ne_of_gt F.ns.lt
  refine forC (s := { s with heap := s.heap.push _ }) (Walks.range hh _ a 1 n) J (fun i h st => ⟨_, st⟩) (fun b hb => .inl (List.mem_singleton.mp hb)) hI (none_at_size F) hsto ?_ done (F.push _) (fun q hq => ⟨Heap.get?_push_of_some _ (N q hq).1, (N q hq).2⟩) (fun q hq => Nat.ne_of_lt (Heap.lt_size (N q hq).1)) ?_ hj
  · rintro i m news h tk v ob hi ⟨t', rfl⟩ j o₁ F₁ N₁
    rw [Int.mul_one] at F₁
    exact turn i m news h tk t' _ ob hi j o₁ F₁ N₁
  · rw [hn]
    simpa using Heap.get?_push_size _ rfl
theorem forC_list {l : Addr} {items : Array Value} {c : Nat} (J : Nat → (Str → Option Value) → List (Addr × Obj) → Prop) (hh : A.handled = none) (hJ : ∀ i m news, J i m news → (l, listOf items c) ∈ news)
    (F : Fr h₀ L s.heap m₀) (N : News h₀ L s.heap news₀) (hj : J 0 m₀ news₀)
    (hsto : ∀ (s : Shared) (m : Str → Option Value) (news : List (Addr × Obj)) (v : Value) (Q : Unit → Shared → Prop) (E : Value → Shared → Prop), Fr h₀ L s.heap m → News h₀ L s.heap news →
      (∀ h', Fr h₀ L h' (fun y => if y = x then some v else m y) → News h₀ L h' news → Q () { s with heap := h', toks := s.toks + 1 }) → wpAny (model prog w) A (storeName env x v) Q E s)
    (turn : ∀ i m news h tk v I ob, i < items.size → items[i]? = some v → J i m news → (∀ q ∈ news, q.1 ≠ I) → Fr h₀ L h (fun y => if y = x then some v else m y) → News h₀ L h ((I, ob) :: news) →
      wpC (model prog w) A (execs body env) (EndTurn h₀ L s I ob (J (i + 1))) { s with heap := h, toks := tk })
    (done : ∀ m news h tk, J items.size m news → Fr h₀ L h m → News h₀ L h news → Q .next { s with heap := h, toks := tk }) :
    wpAny (model prog w) A (pyIter (.ref l)) (fun it s₂ => codeC (model prog w) A (.forLoop (.Name x px) it body [] env) Q s₂) (fun _ _ => False) s := by
  have hl : s.heap.IsList l items := News.isList N (hJ _ _ _ hj)
  refine wpAny_pyIter_list hl ?_
  have hI : s.heap.objs.size ≠ L := Nat.ne_of_gt F.ns.lt
  have hne : l ≠ s.heap.objs.size := Nat.ne_of_lt (Heap.lt_size (N _ (hJ _ _ _ hj)).1)
  refine forC (s := { s with heap := s.heap.push _ }) (Walks.list hh _ l hne items) J (fun i h st => ?_) (fun b hb => ?_) hI (none_at_size F) hsto ?_ done (F.push _) (fun q hq => ⟨Heap.get?_push_of_some _ (N q hq).1, (N q hq).2⟩) (fun q hq => Nat.ne_of_lt (Heap.lt_size (N q hq).1)) ?_ hj
  · obtain ⟨⟨o, ho, _⟩, _⟩ := st
    exact ⟨o, ho⟩
  · simp only [List.mem_cons, List.not_mem_nil, or_false] at hb
    rcases hb with rfl | rfl
    · exact .inl rfl
    · exact .inr ⟨_, hJ⟩
  · intro i m news h tk v ob hi hP j o₁ F₁ N₁
    exact turn i m news h tk v _ ob hi hP j o₁ F₁ N₁
  · exact ⟨⟨_, Heap.get?_push_size _ rfl, rfl, rfl⟩, hl.push _⟩
end

end

-- part nfor
section
-- needs: clean clean2 clean3 crules crules2 bridge head base base2 cfor
/-- wpAny, nothing raised -/
noncomputable abbrev wpN {α : Type} (M : Model) (A : Around) (t : Sem α) (Q : α → Shared → Prop) (s : Shared) : Prop := wpAny M A t Q (fun _ _ => False) s
noncomputable abbrev codeN (M : Model) (A : Around) (c : Code) (R : Flow → Shared → Prop) (s : Shared) : Prop := codeAny M A c (okR R) s
section
variable {α β : Type} {M : Model} {A : Around} {s : Shared} {env : Env}
theorem wpN_of_any {t : Sem α} {Q : α → Shared → Prop} (h : wpAny M A t Q (fun _ _ => False) s) : wpN M A t Q s := h
theorem wpN_mono {t : Sem α} {Q Q' : α → Shared → Prop} (h : wpN M A t Q s) (hQ : ∀ a s, Q a s → Q' a s) : wpN M A t Q' s := wpAny_mono h hQ fun _ _ x => x
theorem wpN_pure {a : α} {Q : α → Shared → Prop} (h : Q a s) : wpN M A (pure a) Q s := wpAny_pure h
theorem wpN_bind {m : Sem α} {f : α → Sem β} {Q : β → Shared → Prop} (h : wpN M A m (fun a s' => wpN M A (f a) Q s') s) : wpN M A (m >>= f) Q s := wpAny_bind h
theorem wpN_any_bind {m : Sem α} {f : α → Sem β} {Q : β → Shared → Prop} (h : wpAny M A m (fun a s' => wpN M A (f a) Q s') (fun _ _ => False) s) : wpN M A (m >>= f) Q s := wpAny_bind h
theorem wpN_onRaise {m : Sem α} {k : Value → Sem Unit} {Q : α → Shared → Prop} (h : wpN M A m Q s) : wpN M A (m.onRaise k) Q s := wpAny_onRaise (wpAny_mono h (fun _ _ x => x) fun _ _ x => x.elim)
theorem wpN_standAt {pos : Pos} {Q : Unit → Shared → Prop} (h : Q () s) : wpN M A (standAt pos) Q s := wpAny_standAt h
theorem wpN_execs_nil {Q : Flow → Shared → Prop} (h : Q .next s) : wpN M A (execs [] env) Q s := by rw [execs_nil]; exact wpAny_pure h
theorem codeN_of_tree {c : Code} {R : Flow → Shared → Prop} (_ : cl c = true) (h : wpN M (A.under c) (M.den c) (fun fin s' => match fin with | .done f => R f s' | .again c' => c'.quiet = true ∧ codeN M A c' R s') s) : codeN M A c R s :=
  codeAny_of_tree (wpAny_mono h (fun fin s' x => by cases fin <;> exact x) fun _ _ x => x.elim)
end
section
variable {prog : Program} {w : World} {A : Around} {s : Shared} {env : Env} {R : Flow → Shared → Prop}
/-- a for over what `Walks` goes through, into a name -/
theorem codeN_for {I : Addr} {fp wr : List Addr} {n : Nat} {P : Nat → Value → Prop} {St : Nat → Heap → Prop} {x : Str} {px : Pos} {body : List Stmt} (W : Walks prog w A I fp wr n P St) (J : Nat → Shared → Prop)
    (hst : ∀ i s, J i s → St i s.heap)
    (turn : ∀ i s v h' tk, i < n → J i s → P i v → St (i + 1) h' → (∀ b o, b ∉ wr → s.heap.get? b = some o → h'.get? b = some o) →
      wpAny (model prog w) A (storeName env x v) (fun _ s₂ => wpN (model prog w) A (execs body env) (fun f s₃ => f = .next ∧ J (i + 1) s₃) s₂) (fun _ _ => False) { s with heap := h', toks := tk })
    (stop : ∀ s h' tk, J n s → (∀ b o, b ∉ wr → s.heap.get? b = some o → h'.get? b = some o) → R .next { s with heap := h', toks := tk }) :
    ∀ (k i : Nat) (s : Shared), i + k = n → J i s → codeN (model prog w) A (.forLoop (.Name x px) (.ref I) body [] env) R s := by
  intro k
  induction k with
  | zero =>
    intro i s hk hJ
    obtain rfl : i = n := by omega
    refine codeN_of_tree rfl ?_
    show wpN _ A ((forTurn (.Name x px) (.ref I) body [] env).onRaise (fun x => do noteFrame x env; theTreesLotGoes x)) _ s
    refine wpN_onRaise ?_
    unfold forTurn
    refine wpN_bind (wpN_standAt (wpN_bind (wpN_onRaise (wpN_of_any (W.done s _ _ (hst _ _ hJ) fun h' tk hkp => ?_)))))
    refine wpN_pure (And.intro rfl ?_)
    refine codeN_of_tree rfl ?_
    have e : A.under (.block [] env) = A := Around.under_of_weight rfl
    rw [e]
    exact wpN_bind (wpN_onRaise (wpN_execs_nil (wpN_pure (stop s h' tk hJ hkp))))
  | succ k ih =>
    intro i s hk hJ
    refine codeN_of_tree rfl ?_
    show wpN _ A ((forTurn (.Name x px) (.ref I) body [] env).onRaise (fun x => do noteFrame x env; theTreesLotGoes x)) _ s
    refine wpN_onRaise ?_
    unfold forTurn
    refine wpN_bind (wpN_standAt (wpN_bind (wpN_onRaise (wpN_of_any (W.item i s _ _ (by omega) (hst _ _ hJ) fun v h' tk hP hS hkp => ?_)))))
    refine wpN_bind (wpN_pure ?_)
    refine wpN_any_bind (assign_Name (wpAny_mono (turn i s v h' tk (by omega) hJ hP hS hkp) (fun _ s₂ h₂ => ?_) fun _ _ x => x))
    refine wpN_bind (wpN_mono h₂ fun f s₃ h₃ => ?_)
    obtain ⟨rfl, hJ'⟩ := h₃
    exact wpN_pure (And.intro rfl (ih (i + 1) s₃ (by omega) hJ'))
end
section
variable {prog : Program} {w : World} {A : Around} {s : Shared} {env : Env} {Q : Flow → Shared → Prop} {h₀ : Heap} {L : Addr}
/-- a for where nothing is raised: the ledger's addresses are the caller's, the iterator's own object stands ahead of them -/
theorem forN {I : Addr} {fp : List Addr} {n : Nat} {P : Nat → Value → Prop} {St : Nat → Heap → Prop} {x : Str} {px : Pos} {body : List Stmt} (W : Walks prog w A I fp [I] n P St)
    (J : Nat → (Str → Option Value) → List (Addr × Obj) → Prop) (hob : ∀ i h, St i h → ∃ o, h.get? I = some o)
    (hfp : ∀ b ∈ fp, b = I ∨ ∃ o, ∀ i m news, J i m news → (b, o) ∈ news) (hI : I ≠ L) (h0 : h₀.get? I = none)
    (hsto : ∀ (s : Shared) (m : Str → Option Value) (news : List (Addr × Obj)) (v : Value) (Q : Unit → Shared → Prop) (E : Value → Shared → Prop), Fr h₀ L s.heap m → News h₀ L s.heap news →
      (∀ h', Fr h₀ L h' (fun y => if y = x then some v else m y) → News h₀ L h' news → Q () { s with heap := h', toks := s.toks + 1 }) → wpAny (model prog w) A (storeName env x v) Q E s)
    (turn : ∀ i m news h tk v ob, i < n → P i v → J i m news → (∀ q ∈ news, q.1 ≠ I) → Fr h₀ L h (fun y => if y = x then some v else m y) → News h₀ L h ((I, ob) :: news) →
      wpN (model prog w) A (execs body env) (EndTurn h₀ L s I ob (J (i + 1))) { s with heap := h, toks := tk })
    (done : ∀ m news h tk, J n m news → Fr h₀ L h m → News h₀ L h news → Q .next { s with heap := h, toks := tk })
    {m₀ : Str → Option Value} {news₀ : List (Addr × Obj)} (F : Fr h₀ L s.heap m₀) (N : News h₀ L s.heap news₀) (hN : ∀ q ∈ news₀, q.1 ≠ I) (st : St 0 s.heap) (hj : J 0 m₀ news₀) :
    codeN (model prog w) A (.forLoop (.Name x px) (.ref I) body [] env) Q s := by
  refine codeN_for W (fun i s' => ∃ h tk m news, s' = { s with heap := h, toks := tk } ∧ Fr h₀ L h m ∧ News h₀ L h news ∧ (∀ q ∈ news, q.1 ≠ I) ∧ St i h ∧ J i m news) ?_ ?_ ?_ n 0 s (Nat.zero_add n) ⟨_, _, _, _, rfl, F, N, hN, st, hj⟩
  · rintro i _ ⟨h, tk, m, news, rfl, _, _, _, q, _⟩
    exact q
  · rintro i _ v h' tk' hi ⟨h, tk, m, news, rfl, F₁, N₁, o₁, _, j₁⟩ hP hS hk
    dsimp only at hk ⊢
    obtain ⟨ob, hob'⟩ := hob _ _ hS
    have F₂ := Fr.moved F₁ hk hI h0
    have N₂ : News h₀ L h' ((I, ob) :: news) := by
      intro q hq
      rcases List.mem_cons.mp hq with rfl | hq
      · exact ⟨hob', hI, h0⟩
      · exact News.moved N₁ hk o₁ q hq
    refine hsto { s with heap := h', toks := tk' } m _ v _ _ F₂ N₂ fun h₂ F₃ N₃ => ?_
    refine wpN_mono (turn i m news h₂ _ v ob hi hP j₁ o₁ F₃ N₃) fun f s₃ z => ?_
    obtain ⟨rfl, h₃, tk₃, m₃, news₃, rfl, F₄, N₄, o₄, j₄⟩ := z
    refine ⟨rfl, h₃, tk₃, m₃, news₃, rfl, F₄, fun q hq => N₄ q (.tail _ hq), o₄, ?_, j₄⟩
    refine W.frame (i + 1) h' h₃ hS fun b hb o ho => ?_
    rcases hfp b hb with rfl | ⟨o', ho'⟩
    · rw [hob'] at ho
      cases ho
      exact (N₄ _ (.head _)).1
    · have e1 := (N₂ (b, o') (.tail _ (ho' _ _ _ j₁))).1
      rw [show h'.get? b = some o' from e1] at ho
      cases ho
      exact (N₄ (b, _) (.tail _ (ho' _ _ _ j₄))).1
  · rintro _ h' tk' ⟨h, tk, m, news, rfl, F₁, N₁, o₁, _, j₁⟩ hk
    dsimp only at hk ⊢
    exact done m news h' tk' j₁ (Fr.moved F₁ hk hI h0) (News.moved N₁ hk o₁)

variable {m₀ : Str → Option Value} {news₀ : List (Addr × Obj)} {x : Str} {px : Pos} {body : List Stmt}
theorem forN_range {r : Addr} {a b : Int} {t u v : Tok} {n : Nat} (J : Nat → (Str → Option Value) → List (Addr × Obj) → Prop) (hh : A.handled = none) (hr : IsRange s.heap r a b 1 t u v) (hsmall : Builtin.Range.small a b 1 = true)
    (hn : Builtin.Range.rangeSize a b 1 = (n : Int)) (F : Fr h₀ L s.heap m₀) (N : News h₀ L s.heap news₀) (hj : J 0 m₀ news₀)
    (hsto : ∀ (s : Shared) (m : Str → Option Value) (news : List (Addr × Obj)) (v : Value) (Q : Unit → Shared → Prop) (E : Value → Shared → Prop), Fr h₀ L s.heap m → News h₀ L s.heap news →
      (∀ h', Fr h₀ L h' (fun y => if y = x then some v else m y) → News h₀ L h' news → Q () { s with heap := h', toks := s.toks + 1 }) → wpAny (model prog w) A (storeName env x v) Q E s)
    (turn : ∀ i m news h tk t I ob, i < n → J i m news → (∀ q ∈ news, q.1 ≠ I) → Fr h₀ L h (fun y => if y = x then some (.int (a + (i : Nat)) t) else m y) → News h₀ L h ((I, ob) :: news) →
      wpN (model prog w) A (execs body env) (EndTurn h₀ L s I ob (J (i + 1))) { s with heap := h, toks := tk })
    (done : ∀ m news h tk, J n m news → Fr h₀ L h m → News h₀ L h news → Q .next { s with heap := h, toks := tk }) :
    wpAny (model prog w) A (pyIter (.ref r)) (fun it s₂ => codeN (model prog w) A (.forLoop (.Name x px) it body [] env) Q s₂) (fun _ _ => False) s := by
  refine wpAny_pyIter_range hr hsmall ?_
  have hI : s.heap.objs.size ≠ L := Nat.ne_of_gt F.ns.lt
  refine forN (s := { s with heap := s.heap.push _ }) (Walks.range hh _ a 1 n) J (fun i h st => ⟨_, st⟩) (fun b hb => .inl (List.mem_singleton.mp hb)) hI (none_at_size F) hsto ?_ done (F.push _) (fun q hq => ⟨Heap.get?_push_of_some _ (N q hq).1, (N q hq).2⟩) (fun q hq => Nat.ne_of_lt (Heap.lt_size (N q hq).1)) ?_ hj
  · rintro i m news h tk v ob hi ⟨t', rfl⟩ j o₁ F₁ N₁
    rw [Int.mul_one] at F₁
    exact turn i m news h tk t' _ ob hi j o₁ F₁ N₁
  · rw [hn]
    simpa using Heap.get?_push_size _ rfl
theorem forN_list {l : Addr} {items : Array Value} {c : Nat} (J : Nat → (Str → Option Value) → List (Addr × Obj) → Prop) (hh : A.handled = none) (hJ : ∀ i m news, J i m news → (l, listOf items c) ∈ news)
    (F : Fr h₀ L s.heap m₀) (N : News h₀ L s.heap news₀) (hj : J 0 m₀ news₀)
    (hsto : ∀ (s : Shared) (m : Str → Option Value) (news : List (Addr × Obj)) (v : Value) (Q : Unit → Shared → Prop) (E : Value → Shared → Prop), Fr h₀ L s.heap m → News h₀ L s.heap news →
      (∀ h', Fr h₀ L h' (fun y => if y = x then some v else m y) → News h₀ L h' news → Q () { s with heap := h', toks := s.toks + 1 }) → wpAny (model prog w) A (storeName env x v) Q E s)
    (turn : ∀ i m news h tk v I ob, i < items.size → items[i]? = some v → J i m news → (∀ q ∈ news, q.1 ≠ I) → Fr h₀ L h (fun y => if y = x then some v else m y) → News h₀ L h ((I, ob) :: news) →
      wpN (model prog w) A (execs body env) (EndTurn h₀ L s I ob (J (i + 1))) { s with heap := h, toks := tk })
    (done : ∀ m news h tk, J items.size m news → Fr h₀ L h m → News h₀ L h news → Q .next { s with heap := h, toks := tk }) :
    wpAny (model prog w) A (pyIter (.ref l)) (fun it s₂ => codeN (model prog w) A (.forLoop (.Name x px) it body [] env) Q s₂) (fun _ _ => False) s := by
  have hl : s.heap.IsList l items := News.isList N (hJ _ _ _ hj)
  refine wpAny_pyIter_list hl ?_
  have hI : s.heap.objs.size ≠ L := Nat.ne_of_gt F.ns.lt
  have hne : l ≠ s.heap.objs.size := Nat.ne_of_lt (Heap.lt_size (N _ (hJ _ _ _ hj)).1)
  refine forN (s := { s with heap := s.heap.push _ }) (Walks.list hh _ l hne items) J (fun i h st => ?_) (fun b hb => ?_) hI (none_at_size F) hsto ?_ done (F.push _) (fun q hq => ⟨Heap.get?_push_of_some _ (N q hq).1, (N q hq).2⟩) (fun q hq => Nat.ne_of_lt (Heap.lt_size (N q hq).1)) ?_ hj
  · obtain ⟨⟨o, ho, _⟩, _⟩ := st
    exact ⟨o, ho⟩
  · simp only [List.mem_cons, List.not_mem_nil, or_false] at hb
    rcases hb with rfl | rfl
    · exact .inl rfl
    · exact .inr ⟨_, hJ⟩
  · intro i m news h tk v ob hi hP j o₁ F₁ N₁
    exact turn i m news h tk v _ ob hi hP j o₁ F₁ N₁
  · exact ⟨⟨_, Heap.get?_push_size _ rfl, rfl, rfl⟩, hl.push _⟩
theorem wpAny_ForN {E : Value → Shared → Prop} {iter : Expr} {pos : Pos}
    (h : wpAny (model prog w) A (eval iter env) (fun v s₁ => wpAny (model prog w) A (pyIter v) (fun it s₂ => codeN (model prog w) A (.forLoop (.Name x px) it body [] env) Q s₂) (fun _ _ => False) s₁) E s)
    (hs : ∀ x, foldedSetIterable iter env x = pure x := by intro _; rfl) : wpAny (model prog w) A (exec (.For (.Name x px) iter body [] pos) env) Q E s :=
  wpAny_For (wpAny_mono h (fun _ s₁ h₁ => wpAny_mono h₁ (fun _ s₂ h₂ => codeAny_mono h₂ fun r s' z => by cases r with | ok f => exact z | error e => exact z.elim) fun _ _ x => x.elim) fun _ _ x => x) hs
end

theorem kstB_self {m : Str → Option Value} {ps : List (Str × Value)} (h : ∀ p ∈ ps, m p.1 = some p.2) : m = kstB m ps := funext fun _ => (kstB_eq h fun _ => rfl).symm

end

-- part comp
section
-- needs: clean clean2 clean3 crules crules2 bridge head base base2 base3 cfor nfor
section
variable {prog : Program} {w : World} {A : Around} {E : Value → Shared → Prop} {s : Shared} {h₀ : Heap} {L : Addr} {m : Str → Option Value} {env : Env} {elt : Expr} {x : Str} {scope : Scope} {cl : List (Str × Addr)} {Q : Value → Shared → Prop}
/-- a comprehension's turn has ended with `y` -/
noncomputable def EltEnd (h₀ : Heap) (L : Addr) (m : Str → Option Value) (s : Shared) (I : Addr) (oI : Obj) (C : Addr) (oC : Obj) (D : Addr) (oD : Obj) (J : Value → List (Addr × Obj) → Prop) (y : Value) (s₂ : Shared) : Prop :=
  ∃ h' tk' news', s₂ = { s with heap := h', toks := tk' } ∧ Fr h₀ L h' m ∧ News h₀ L h' ((I, oI) :: (C, oC) :: (D, oD) :: news') ∧ LCg.Off3 I C D news' ∧ J y news'
theorem EltEnd.intro {I C D : Addr} {oI oC oD : Obj} {J : Value → List (Addr × Obj) → Prop} {y : Value} {h' : Heap} {tk' : Nat} {news news' : List (Addr × Obj)} (F : Fr h₀ L h' m) (N : News h₀ L h' news) (hn : ∀ q ∈ (I, oI) :: (C, oC) :: (D, oD) :: news', q ∈ news) (o : LCg.Off3 I C D news') (j : J y news') :
    EltEnd h₀ L m s I oI C oC D oD J y { s with heap := h', toks := tk' } := ⟨h', tk', news', rfl, F, fun q hq => N q (hn q hq), o, j⟩
noncomputable def LcTurn (prog : Program) (w : World) (A : Around) (h₀ : Heap) (L : Addr) (m : Str → Option Value) (env : Env) (elt : Expr) (x : Str) (scope : Scope) (cl : List (Str × Addr)) (s : Shared) (n : Nat) (P : Nat → Value → Prop) (J : Nat → List Value → List (Addr × Obj) → Prop) : Prop :=
  ∀ i ys news v I oI C oC D m₂ h tk (E' : Value → Shared → Prop), i < n → P i v → J i ys news → LCg.NsObj oC m₂ → m₂ x = some v → Fr h₀ L h m → News h₀ L h ((I, oI) :: (C, oC) :: (D, LCg.lst ys) :: news) → LCg.Off3 I C D news → ((@Ne Nat I C) ∧ (@Ne Nat I D) ∧ (@Ne Nat C D)) →
    wpAny (model prog w) A (eval elt (compEnvC scope cl C env)) (EltEnd h₀ L m { s with heap := h, toks := tk } I oI C oC D (LCg.lst ys) (fun y news' => J (i + 1) (ys ++ [y]) news')) E' { s with heap := h, toks := tk }

theorem rest_of {n : Nat} {P : Nat → Value → Prop} {J : Nat → List Value → List (Addr × Obj) → Prop} (T : LcTurn prog w A h₀ L m env elt x scope cl s n P J)
    (fin : ∀ D ys news h tk, J n ys news → Fr h₀ L h m → News h₀ L h ((D, LCg.lst ys) :: news) → LCg.Off1 D news → Q (.ref D) { s with heap := h, toks := tk }) :
    ∀ k i ys news, i + k = n → J i ys news → LCg.CompRest prog w A h₀ L m env elt x scope cl s (fun _ => True) P (LCg.FinE h₀ L m s Q) k i ys news := by
  intro k
  induction k with
  | zero =>
    intro i ys news hk j
    obtain rfl : i = n := by omega
    exact LCg.CompRest.zero fun D h tk F N o => fin D ys news h tk j F N o
  | succ k ih =>
    intro i ys news hk j
    refine LCg.CompRest.succ fun v I oI C oC D m₂ h tk E' hP hC hx F N o ne => ?_
    refine wpAny_mono (T i ys news v I oI C oC D m₂ h tk E' (by omega) hP j hC hx F N o ne) (fun y s₂ z => ?_) fun _ _ e => e
    obtain ⟨h', tk', news', rfl, F', N', o', j'⟩ := z
    exact ⟨h', tk', news', rfl, F', N', o', trivial, ih (i + 1) (ys ++ [y]) news' (by omega) j'⟩

/-- the iterator of a comprehension stands; what its turns and its end are -/
noncomputable def LcAt (prog : Program) (w : World) (A : Around) (h₀ : Heap) (L : Addr) (m : Str → Option Value) (env : Env) (elt : Expr) (x : Str) (scope : Scope) (cl : List (Str × Addr)) (Q : Value → Shared → Prop) (it : Value) (s₂ : Shared) : Prop :=
  ∃ (I : Addr) (n : Nat) (P : Nat → Value → Prop) (St : Nat → Heap → Prop) (J : Nat → List Value → List (Addr × Obj) → Prop) (news : List (Addr × Obj)),
    it = .ref I ∧ Walks prog w A I [I] [I] n P St ∧ n ≤ sizeLine ∧ (∀ i h, St i h → ∃ o, h.get? I = some o) ∧ St 0 s₂.heap ∧ I < s₂.heap.objs.size ∧ Fr h₀ L s₂.heap m ∧ News h₀ L s₂.heap news ∧ L ≠ I ∧ h₀.get? I = none ∧ (∀ p ∈ news, p.1 ≠ I) ∧ J 0 [] news ∧
    LcTurn prog w A h₀ L m env elt x scope cl s₂ n P J ∧
    (∀ D ys news h tk, J n ys news → Fr h₀ L h m → News h₀ L h ((D, LCg.lst ys) :: news) → LCg.Off1 D news → Q (.ref D) { s₂ with heap := h, toks := tk })

theorem ListComp_my {px : Pos} {iter : Expr} {pos : Pos} (_F₀ : Fr h₀ L s.heap m) (hclos : closureFor scope env = pure cl) (hcell : ∀ y ∈ scope.names, y.2 ≠ .cell) (hkind : scope.kind = .function)
    (hnames : ∀ y ∈ scope.names, y.2 = .local → scope.names.lookup y.1 = some .local) (hx : scope.names.lookup x = some .local)
    (h : wpAny (model prog w) A (eval iter env) (fun xv s₁ => wpAny (model prog w) A (pyIter xv) (LcAt prog w A h₀ L m env elt x scope cl Q) E s₁) E s)
    (hs : ∀ x, foldedSetIterable iter env x = pure x := by intro _; rfl) :
    wpAny (model prog w) A (eval (.ListComp elt [⟨.Name x px, iter, [], 0⟩] scope pos) env) Q E s := by
  rw [eval_ListComp]
  refine wpAny_comprehension_free (use := none) rfl hs hclos hkind hnames (wpAny_mono h (fun xv s₁ h₁ => wpAny_mono h₁ (fun it s₂ h₂ => ?_) fun _ _ e => e) fun _ _ e => e)
  obtain ⟨I, n, P, St, J, news, rfl, W, hsz, hob, hst, hI, F, N, hIL, hI₀, off, j, T, fin⟩ := h₂
  refine LCg.block_U (S := fun _ => True) (Fin := LCg.FinE h₀ L m s₂ Q) W hsz hob (fun i h h' o nw st e e' _ _ _ => W.frame i h h' st fun b hb o₁ ho₁ => ?_) hcell hkind hx hst (fun b hb => ?_) F N hIL hI₀ off trivial (rest_of T fin n 0 [] news (Nat.zero_add n) j) ?_
  · rw [List.mem_singleton.mp hb] at ho₁ ⊢
    rw [e] at ho₁
    cases ho₁
    exact e'
  · rw [List.mem_singleton.mp hb]; exact hI
  · intro D C h tk m' ys news' F' N' o1 hn hC₀ hD₀ hCL hDL hCD offC fin
    refine ⟨m', hn, fun h'' hs'' => fin D h'' tk (F'.change hs'' hCL hC₀) (fun p hp => ?_) o1⟩
    refine ⟨hs''.extBut _ _ ?_ (N' p hp).1, (N' p hp).2⟩
    rcases List.mem_cons.mp hp with rfl | hp
    · exact Ne.symm hCD
    · exact offC p hp

variable {news : List (Addr × Obj)}
theorem lc_range {r : Addr} {a b c : Int} {t u v : Tok} {n : Nat} (J : Nat → List Value → List (Addr × Obj) → Prop) (hh : A.handled = none) (hr : IsRange s.heap r a b c t u v) (hsmall : Builtin.Range.small a b c = true)
    (hn : Builtin.Range.rangeSize a b c = (n : Int)) (hsz : n ≤ sizeLine) (F : Fr h₀ L s.heap m) (N : News h₀ L s.heap news) (hj : J 0 [] news)
    (turn : ∀ g, LcTurn prog w A h₀ L m env elt x scope cl { s with heap := g } n (fun i v => ∃ t, v = .int (a + (i : Nat) * c) t) J)
    (fin : ∀ D ys news h tk, J n ys news → Fr h₀ L h m → News h₀ L h ((D, LCg.lst ys) :: news) → LCg.Off1 D news → Q (.ref D) { s with heap := h, toks := tk }) :
    wpAny (model prog w) A (pyIter (.ref r)) (LcAt prog w A h₀ L m env elt x scope cl Q) E s := by
  refine wpAny_pyIter_range hr hsmall ?_
  exact ⟨_, n, _, _, J, news, rfl, Walks.range hh _ a c n, hsz, fun i h st => ⟨_, st⟩, by rw [hn]; simpa using Heap.get?_push_size _ rfl, by rw [Heap.size_push]; exact Nat.lt_succ_self _, F.push _, fun q hq => ⟨Heap.get?_push_of_some _ (N q hq).1, (N q hq).2⟩,
    Nat.ne_of_lt F.ns.lt, none_at_size F, fun q hq => Nat.ne_of_lt (Heap.lt_size (N q hq).1), hj, turn _, fin⟩
theorem lc_str {tx : Str} {t : Tok} (J : Nat → List Value → List (Addr × Obj) → Prop) (hh : A.handled = none) (hsz : tx.cps.size ≤ sizeLine) (F : Fr h₀ L s.heap m) (N : News h₀ L s.heap news) (hj : J 0 [] news)
    (turn : ∀ g, LcTurn prog w A h₀ L m env elt x scope cl { s with heap := g } tx.cps.size (SignAt tx) J)
    (fin : ∀ D ys news h tk, J tx.cps.size ys news → Fr h₀ L h m → News h₀ L h ((D, LCg.lst ys) :: news) → LCg.Off1 D news → Q (.ref D) { s with heap := h, toks := tk }) :
    wpAny (model prog w) A (pyIter (.str tx t)) (LcAt prog w A h₀ L m env elt x scope cl Q) E s := by
  have go : ∀ (T : String) (o : Obj), Walks prog w A s.heap.objs.size [s.heap.objs.size] [s.heap.objs.size] tx.cps.size (SignAt tx) (fun i h => h.IsStrIter s.heap.objs.size T tx t i) →
      (s.heap.push o).IsStrIter s.heap.objs.size T tx t 0 → LcAt prog w A h₀ L m env elt x scope cl Q (.ref s.heap.objs.size) { s with heap := s.heap.push o } := fun T o W st =>
    ⟨_, tx.cps.size, _, _, J, news, rfl, W, hsz, fun i h st => by obtain ⟨o, ho, _⟩ := st; exact ⟨o, ho⟩, st, by rw [Heap.size_push]; exact Nat.lt_succ_self _, F.push _, fun q hq => ⟨Heap.get?_push_of_some _ (N q hq).1, (N q hq).2⟩,
      Nat.ne_of_lt F.ns.lt, none_at_size F, fun q hq => Nat.ne_of_lt (Heap.lt_size (N q hq).1), hj, turn _, fin⟩
  cases ha : tx.cps.all (· < 128)
  · exact wpAny_pyIter_wide ha (go "str_iterator" _ (Walks.strWide hh _ tx t) ⟨_, Heap.get?_push_size _ rfl, rfl, rfl⟩)
  · exact wpAny_pyIter_ascii ha (go "str_ascii_iterator" _ (Walks.strAscii hh _ tx t) ⟨_, Heap.get?_push_size _ rfl, rfl, rfl⟩)

/-- a comprehension that is stored in a name at once -/
theorem rest_ofA {y : Str} {Q : Flow → Shared → Prop} {n : Nat} {P : Nat → Value → Prop} {J : Nat → List Value → List (Addr × Obj) → Prop} (T : LcTurn prog w A h₀ L m env elt x scope cl s n P J)
    (fin : ∀ D ys news h tk, J n ys news → Fr h₀ L h (fun z => if z = y then some (.ref D) else m z) → News h₀ L h ((D, LCg.lst ys) :: news) → LCg.Off1 D news → Q .next { s with heap := h, toks := tk }) :
    ∀ k i ys news, i + k = n → J i ys news → LCg.CompRest prog w A h₀ L m env elt x scope cl s (fun _ => True) P (LCg.FinA h₀ L m s y Q) k i ys news := by
  intro k
  induction k with
  | zero =>
    intro i ys news hk j
    obtain rfl : i = n := by omega
    exact LCg.CompRest.zero fun D h tk F N o => fin D ys news h tk j F N o
  | succ k ih =>
    intro i ys news hk j
    refine LCg.CompRest.succ fun v I oI C oC D m₂ h tk E' hP hC hx F N o ne => ?_
    refine wpAny_mono (T i ys news v I oI C oC D m₂ h tk E' (by omega) hP j hC hx F N o ne) (fun y s₂ z => ?_) fun _ _ e => e
    obtain ⟨h', tk', news', rfl, F', N', o', j'⟩ := z
    exact ⟨h', tk', news', rfl, F', N', o', trivial, ih (i + 1) (ys ++ [y]) news' (by omega) j'⟩
noncomputable def LcAtA (prog : Program) (w : World) (A : Around) (h₀ : Heap) (L : Addr) (m : Str → Option Value) (env : Env) (elt : Expr) (x : Str) (scope : Scope) (cl : List (Str × Addr)) (y : Str) (Q : Flow → Shared → Prop) (it : Value) (s₂ : Shared) : Prop :=
  ∃ (I : Addr) (n : Nat) (P : Nat → Value → Prop) (St : Nat → Heap → Prop) (J : Nat → List Value → List (Addr × Obj) → Prop) (news : List (Addr × Obj)),
    it = .ref I ∧ Walks prog w A I [I] [I] n P St ∧ n ≤ sizeLine ∧ (∀ i h, St i h → ∃ o, h.get? I = some o) ∧ St 0 s₂.heap ∧ I < s₂.heap.objs.size ∧ Fr h₀ L s₂.heap m ∧ News h₀ L s₂.heap news ∧ L ≠ I ∧ h₀.get? I = none ∧ (∀ p ∈ news, p.1 ≠ I) ∧ J 0 [] news ∧
    LcTurn prog w A h₀ L m env elt x scope cl s₂ n P J ∧
    (∀ D ys news h tk, J n ys news → Fr h₀ L h (fun z => if z = y then some (.ref D) else m z) → News h₀ L h ((D, LCg.lst ys) :: news) → LCg.Off1 D news → Q .next { s₂ with heap := h, toks := tk })
theorem Assign_ListComp_my {px py : Pos} {iter : Expr} {pos spos : Pos} {y : Str} {Q : Flow → Shared → Prop} (_F₀ : Fr h₀ L s.heap m) (hLe : env.locals = L)
    (hsw : swapsWith (.ListComp elt [⟨.Name x px, iter, [], 0⟩] scope pos) (some (.Name y py)) spos.line env = pure true)
    (hclos : closureFor scope env = pure cl) (hcell : ∀ z ∈ scope.names, z.2 ≠ .cell) (hkind : scope.kind = .function)
    (hnames : ∀ z ∈ scope.names, z.2 = .local → scope.names.lookup z.1 = some .local) (hx : scope.names.lookup x = some .local)
    (hy : env.kindOf y = some .local) (hp : (env.scope.kind == .class || (env.scope.kind == .module && env.locals != env.globals)) = false)
    (h : wpAny (model prog w) A (eval iter env) (fun xv s₁ => wpAny (model prog w) A (pyIter xv) (LcAtA prog w A h₀ L m env elt x scope cl y Q) E s₁) E s)
    (hs : ∀ x, foldedSetIterable iter env x = pure x := by intro _; rfl) :
    wpAny (model prog w) A (exec (.Assign [.Name y py] (.ListComp elt [⟨.Name x px, iter, [], 0⟩] scope pos) spos) env) Q E s := by
  subst hLe
  rw [exec_Assign_Name_used _ _ _ _ hsw]
  refine wpAny_bind (wpAny_standAt (wpAny_bind ?_))
  show wpAny _ A (do let _ ← comprehension (.ListComp elt [⟨.Name x px, iter, [], 0⟩] scope pos) scope env _ (newList []) false (eval iter env) (some (assign (.Name y py) env))) _ _ s
  refine wpAny_bind (wpAny_mono (wpAny_comprehension_free (use := some (assign (.Name y py) env)) (Q := fun _ s' => Q .next s') rfl hs hclos hkind hnames
    (wpAny_mono h (fun xv s₁ h₁ => wpAny_mono h₁ (fun it s₂ h₂ => ?_) fun _ _ e => e) fun _ _ e => e)) (fun _ s' hq => wpAny_pure (wpAny_pure hq)) fun _ _ e => e)
  obtain ⟨I, n, P, St, J, news, rfl, W, hsz, hob, hst, hI, F, N, hIL, hI₀, off, j, T, fin⟩ := h₂
  refine LCg.block_U (S := fun _ => True) (Fin := LCg.FinA h₀ env.locals m s₂ y Q) W hsz hob (fun i h h' o nw st e e' _ _ _ => W.frame i h h' st fun b hb o₁ ho₁ => ?_) hcell hkind hx hst (fun b hb => ?_) F N hIL hI₀ off trivial (rest_ofA T fin n 0 [] news (Nat.zero_add n) j) ?_
  · rw [List.mem_singleton.mp hb] at ho₁ ⊢
    rw [e] at ho₁
    cases ho₁
    exact e'
  · rw [List.mem_singleton.mp hb]; exact hI
  · intro D C h' tk m' ys news' F' N' o1 hn hC₀ hD₀ hCL hDL hCD offC fin
    show wpAny _ A (assign (.Name y py) env (.ref D)) _ _ _
    refine wpAny_assign_Name (wpAny_storeName_local hy F'.ns (fun h₂ hn₂ hs₂ => ?_) hp)
    have hL₀ : h₀.get? env.locals = none := Heap.get?_none_of_le F'.above
    have F₂ : Fr h₀ env.locals h₂ (fun z => if z = y then some (.ref D) else m z) := ⟨hn₂, fun b o e => hs₂.extBut b o (fun q => by rw [q, hL₀] at e; cases e) (F'.keep b o e), F'.above⟩
    refine ⟨m', hn.sameBut hs₂ hCL, fun h'' hs'' => fin D h'' _ (F₂.change hs'' hCL hC₀) (fun p hp => ?_) o1⟩
    have z : h₂.get? p.1 = some p.2 := hs₂.extBut _ _ (N' p hp).2.1 (N' p hp).1
    refine ⟨hs''.extBut _ _ ?_ z, (N' p hp).2⟩
    rcases List.mem_cons.mp hp with rfl | hp
    · exact Ne.symm hCD
    · exact offC p hp
theorem lcA_range {y : Str} {Q : Flow → Shared → Prop} {r : Addr} {a b c : Int} {t u v : Tok} {n : Nat} (J : Nat → List Value → List (Addr × Obj) → Prop) (hh : A.handled = none) (hr : IsRange s.heap r a b c t u v) (hsmall : Builtin.Range.small a b c = true)
    (hn : Builtin.Range.rangeSize a b c = (n : Int)) (hsz : n ≤ sizeLine) (F : Fr h₀ L s.heap m) (N : News h₀ L s.heap news) (hj : J 0 [] news)
    (turn : ∀ g, LcTurn prog w A h₀ L m env elt x scope cl { s with heap := g } n (fun i v => ∃ t, v = .int (a + (i : Nat) * c) t) J)
    (fin : ∀ D ys news h tk, J n ys news → Fr h₀ L h (fun z => if z = y then some (.ref D) else m z) → News h₀ L h ((D, LCg.lst ys) :: news) → LCg.Off1 D news → Q .next { s with heap := h, toks := tk }) :
    wpAny (model prog w) A (pyIter (.ref r)) (LcAtA prog w A h₀ L m env elt x scope cl y Q) E s := by
  refine wpAny_pyIter_range hr hsmall ?_
  exact ⟨_, n, _, _, J, news, rfl, Walks.range hh _ a c n, hsz, fun i h st => ⟨_, st⟩, by rw [hn]; simpa using Heap.get?_push_size _ rfl, by rw [Heap.size_push]; exact Nat.lt_succ_self _, F.push _, fun q hq => ⟨Heap.get?_push_of_some _ (N q hq).1, (N q hq).2⟩,
    Nat.ne_of_lt F.ns.lt, none_at_size F, fun q hq => Nat.ne_of_lt (Heap.lt_size (N q hq).1), hj, turn _, fin⟩
end

end

-- part f1
section
noncomputable def bitsOf (v size : Int) : Int := if v < 0 then v + 2 ^ size.toNat - 1 else v
noncomputable def valueOf (b size : Int) : Int := if 0 < size ∧ b < 2 ^ (size - 1).toNat then b - 2 ^ size.toNat + 1 else b

set_option maxHeartbeats 4000000 in
theorem bits_of_does {prog : Program} {w : World} {v size : Int} {u u' : Tok} (h0 : 0 ≤ size) (h1 : size ≤ 15) :
    Does prog w 500 4000 28 [.int v u, .int size u'] [] (fun _ _ r => ∃ t, r = .int (bitsOf v size) t) := by
  intro fr base g s loose mean mg mb R B X T kg sz hN h
  k_dflt (refine' enter [(Str.ofString "v", Value.int v u), (Str.ofString "size", Value.int size u')] ?kB0 ?kX ?kT ?kg ?ksz ?kN ?k6 ?k7 ?k8 ?k9 ?kB ?_ ?c2 ?c3 ?c4 ?c5; (case kB0 | kX | kT | kg | ksz | kN => assumption); (case k6 | k7 => k_is); (case k8 => decide); (case k9 => exact BindsTo.of_eq rfl); (case c2 | c3 | c4 => exact rfl); (case c5 => decide); (case kB => exact locs rfl))
  clear B
  intro L' h' B' F' N' l1 lz
  (try dsimp only)
  (try k_fold)
  k_steps
  all_goals dsimp only
  all_goals ((with_reducible rename Fr _ _ _ _ => kF); refine h _ _ _ kF.keep ⟨_, congrArg (Value.int · _) ?_⟩)
  all_goals (unfold bitsOf; split <;> first | rfl | omega)

set_option maxHeartbeats 4000000 in
theorem value_of_does {prog : Program} {w : World} {v size : Int} {u u' : Tok} (h0 : 0 ≤ size) (h1 : size ≤ 15) :
    Does prog w 500 4000 35 [.int v u, .int size u'] [] (fun _ _ r => ∃ t, r = .int (valueOf v size) t) := by
  intro fr base g s loose mean mg mb R B X T kg sz hN h
  k_dflt (refine' enter [(Str.ofString "bits", Value.int v u), (Str.ofString "size", Value.int size u')] ?kB0 ?kX ?kT ?kg ?ksz ?kN ?k6 ?k7 ?k8 ?k9 ?kB ?_ ?c2 ?c3 ?c4 ?c5; (case kB0 | kX | kT | kg | ksz | kN => assumption); (case k6 | k7 => k_is); (case k8 => decide); (case k9 => exact BindsTo.of_eq rfl); (case c2 | c3 | c4 => exact rfl); (case c5 => decide); (case kB => exact locs rfl))
  clear B
  intro L' h' B' F' N' l1 lz
  (try dsimp only)
  (try k_fold)
  k_steps
  all_goals dsimp only
  all_goals ((with_reducible rename Fr _ _ _ _ => kF); refine h _ _ _ kF.keep ⟨_, congrArg (Value.int · _) ?_⟩)
  all_goals (unfold valueOf; simp only [*, and_true, and_false, true_and, false_and, if_true, if_false])

set_option maxHeartbeats 4000000 in
theorem category_does {prog : Program} {w : World} {v : Int} {u : Tok} :
    Does prog w 500 4000 21 [.int v u] [] (fun _ _ r => ∃ t, r = .int ((Builtin.Int.intBits (absI v) : Nat) : Int) t) := by
  intro fr base g s loose mean mg mb R B X T kg sz hN h
  k_dflt (refine' enter [(Str.ofString "v", Value.int v u)] ?kB0 ?kX ?kT ?kg ?ksz ?kN ?k6 ?k7 ?k8 ?k9 ?kB ?_ ?c2 ?c3 ?c4 ?c5; (case kB0 | kX | kT | kg | ksz | kN => assumption); (case k6 | k7 => k_is); (case k8 => decide); (case k9 => exact BindsTo.of_eq rfl); (case c2 | c3 | c4 => exact rfl); (case c5 => decide); (case kB => exact locs rfl))
  clear B
  intro L' h' B' F' N' l1 lz
  (try dsimp only)
  (try k_fold)
  k_steps
  all_goals (try dsimp only)
  all_goals ((with_reducible rename Fr _ _ _ _ => kF); refine h _ _ _ kF.keep ⟨_, congrArg (Value.int · _) ?_⟩)
  all_goals rfl

end

-- part f2
section
-- needs: clean bridge head base
noncomputable abbrev srcOf (a b : Int) (ta tb : Tok) (n : Nat) : Obj := listOf #[.int a ta, .int b tb] n
noncomputable def SrcOk (a b : Int) : Prop := 0 ≤ a ∧ 0 ≤ b ∧ b < 2147483647
noncomputable def SrcIs (o : Obj) : Prop := ∃ a b ta tb n, o = srcOf a b ta tb n ∧ SrcOk a b

theorem fmod_in (x k : Int) (h : 0 < k) : 0 ≤ Int.fmod x k ∧ Int.fmod x k < k := ⟨Int.fmod_nonneg_of_pos x h, Int.fmod_lt_of_pos x h⟩
theorem take_mulOk {a x y : Int} : IntMulOk (List.getD [a, Int.fmod x 2147483647] (Int.toNat 1) 0) y := by
  have h := fmod_in x 2147483647 (by decide)
  refine IntMulOk.of_left (intBits_le_64 ?_ ?_)
  · show _ < Int.fmod x 2147483647; omega
  · show Int.fmod x 2147483647 < _; omega
local macro_rules | `(tactic| walk_at "binaryOp Mult int int") => `(tactic| (with_reducible refine mul_int ?_ take_mulOk))

set_option maxHeartbeats 4000000 in
theorem take_does {prog : Program} {w : World} {src : Addr} {a b top : Int} {ta tb u : Tok} {n : Nat} (h0 : 0 ≤ a) (h1 : 0 ≤ b) (h2 : b < 2147483647) (h3 : 0 < top) (h4 : top < 1073741824) :
    Does prog w 500 4000 177 [.ref src, .int top u] [(src, srcOf a b ta tb n)] (fun h' _ r => ∃ o', h'.get? src = some o' ∧ SrcIs o' ∧ ∃ x t, r = .int x t ∧ 0 ≤ x ∧ x < top) := by
  intro fr base g s loose mean mg mb R B X T kg sz hN h
  k_dflt (refine' enter [(Str.ofString "source", Value.ref src), (Str.ofString "top", Value.int top u)] ?kB0 ?kX ?kT ?kg ?ksz ?kN ?k6 ?k7 ?k8 ?k9 ?kB ?_ ?c2 ?c3 ?c4 ?c5; (case kB0 | kX | kT | kg | ksz | kN => assumption); (case k6 | k7 => k_is); (case k8 => decide); (case k9 => exact BindsTo.of_eq rfl); (case c2 | c3 | c4 => exact rfl); (case c5 => decide); (case kB => exact locs rfl))
  clear B
  intro L' h' B' F' N' l1 lz
  (try dsimp only)
  (try k_fold)
  k_steps
  all_goals (try dsimp only)
  all_goals ((with_reducible rename Fr _ _ _ _ => kF); (with_reducible rename News _ _ _ _ => kN); refine h _ _ _ kF.keep ⟨_, (kN _ (.head _)).1, ?_, _, _, rfl, ?_⟩)
  all_goals first
    | exact fmod_in _ _ h3
    | exact ⟨_, _, _, _, _, rfl, h0, fmod_in _ _ (by decide)⟩
    | exact ⟨_, _, _, _, _, rfl, Int.fdiv_nonneg h0 (Int.le_of_lt h3), h1, h2⟩

section
variable {prog : Program} {w : World} {A A₀ : Around} {base h₀ : Heap} {outer : List Env} {L : Addr} {m : Str → Option Value} {env : Env} {s : Shared} {news : List (Addr × Obj)} {dp un : Nat} {f : Addr} {args : List Value}
  {loose : List Str} {mean : ExcName → Option Value} {mg mb : Str → Option Value} {Q E : Value → Shared → Prop}
/-- a def that turns the source and hands back a number -/
theorem Does.walkS {src : Addr} {o : Obj} {P1 P2 : Int → Prop} {Hy : Prop} {G : Obj → List (Addr × Obj)} (D : Hy → Does prog w dp un f args [(src, o)] (fun h' _ r => ∃ o', h'.get? src = some o' ∧ SrcIs o' ∧ ∃ x t, r = .int x t ∧ P1 x ∧ P2 x))
    (B : Below A₀ base outer h₀) (F : Fr h₀ L s.heap m) (X : (Mine.Head.hd.heap_39 w.params).In h₀) (N : News h₀ L s.heap news) (T : Top Mine.Head.hd.view_39 loose mean mg mb h₀) (S : Sits A env outer L dp un)
    (U : UpdF src o news G) (H : Hy) (h : ∀ h' tk, Fr h₀ L h' m → ∀ a b ta tb n, 0 ≤ a → 0 ≤ b → b < 2147483647 → ∀ x t, P1 x → P2 x → News h₀ L h' (G (srcOf a b ta tb n)) → Q (.int x t) { s with heap := h', toks := tk }) : wpAny (model prog w) A (call (.ref f) args) Q E s :=
  Does.walk1 (P := fun o' r => SrcIs o' ∧ ∃ x t, r = .int x t ∧ P1 x ∧ P2 x) (D H) B F X N T S U fun h' tk _ _ F' N' ⟨⟨a, b, ta, tb, n, e1, q0, q1, q2⟩, x, t, e2, q3, q4⟩ => by subst e1; subst e2; exact h h' tk F' a b ta tb n q0 q1 q2 x t q3 q4 N'
end
theorem take_c {prog : Program} {w : World} {src : Addr} {a b top : Int} {ta tb u : Tok} {n : Nat} (h : 0 ≤ a ∧ 0 ≤ b ∧ b < 2147483647 ∧ 0 < top ∧ top < 1073741824) :
    Does prog w 500 4000 177 [.ref src, .int top u] [(src, srcOf a b ta tb n)] (fun h' _ r => ∃ o', h'.get? src = some o' ∧ SrcIs o' ∧ ∃ x t, r = .int x t ∧ 0 ≤ x ∧ x < top) :=
  take_does h.1 h.2.1 h.2.2.1 h.2.2.2.1 h.2.2.2.2

end
-- MACROS
local macro_rules | `(tactic| walk_at $s:str) => match s.getString with
  | "MY hyps" => `(tactic| and_intros <;> first | with_reducible assumption | walk_at "MY top")
  | "call ref" => `(tactic| (k_dflt ((with_reducible refine' Does.walkS take_c ?B ?F ?X ?N ?T ?S ?U ?H ?_); walk_at "MY tail"); intros; walk_at "MY rest"))
  | "MY top" => `(tactic| omega)
  | _ => Lean.Macro.throwUnsupported

-- part f3
section
-- needs: math1 math2 clean bridge head base f2
theorem num_top {z : Int} (h0 : ¬ z = 0) (h1 : 0 ≤ z) (h2 : z < 16) : (2 : Int) ^ z.toNat = 2 * 2 ^ (z - 1).toNat ∧ (1 : Int) ≤ 2 ^ (z - 1).toNat ∧ (2 : Int) ^ (z - 1).toNat ≤ 16384 := by
  refine ⟨pow_double h1 h0, Int.pow_pos (by decide), ?_⟩
  rw [← two_pow_cast]
  exact Int.ofNat_le.mpr (Nat.pow_le_pow_right (by decide) (Int.toNat_le.mpr (Int.sub_le_sub_right (Int.le_of_lt_add_one (b := 15) h2) 1)) : 2 ^ (z - 1).toNat ≤ 2 ^ 14)
local macro_rules | `(tactic| walk_at "MY top") => `(tactic| first | omega | ((have q9 := num_top (by assumption) (by assumption) (by assumption)); omega))

theorem num_sign (j : Nat) : List.getD [(1 : Int), -1] j 0 = 1 ∨ List.getD [(1 : Int), -1] j 0 = -1 ∨ List.getD [(1 : Int), -1] j 0 = 0 := by
  rcases j with _ | _ | j <;> simp
theorem num_mulOk {x : Int} {j : Nat} : IntMulOk x (List.getD [(1 : Int), -1] j 0) := by
  refine IntMulOk.of_right (intBits_le_64 ?_ ?_) <;> rcases num_sign j with e | e | e <;> rw [e] <;> decide
local macro_rules | `(tactic| walk_at "binaryOp Mult int int") => `(tactic| (with_reducible refine mul_int ?_ num_mulOk))
theorem worth1 {P S : Int} (e : S = 2 * P) (h1 : 1 ≤ P) (h2 : P ≤ 16384) : 0 ≤ S - 1 ∧ S - 1 ≤ 32767 := by omega
theorem worth2 {P S r : Int} (e : S = 2 * P) (h2 : P ≤ 16384) (r1 : r < S - 1 - P + 1) : P + r ≤ 32767 := by omega
theorem num_worth {P S r : Int} (e : S = 2 * P) (h1 : 1 ≤ P) (h2 : P ≤ 16384) (r0 : 0 ≤ r) (r1 : r < S - 1 - P + 1) (i : Nat) : 0 ≤ List.getD [P, S - 1, P + r] i 0 ∧ List.getD [P, S - 1, P + r] i 0 ≤ 32767 := by
  have h0 : 0 ≤ P := Int.le_trans (b := 1) (by decide) h1
  rcases i with _ | _ | _ | i
  · exact ⟨h0, Int.le_trans h2 (by decide)⟩
  · exact worth1 e h1 h2
  · exact ⟨Int.add_nonneg h0 r0, worth2 e h2 r1⟩
  · exact ⟨Int.le_refl 0, (by decide : (0 : Int) ≤ 32767)⟩
theorem num_end {P S r : Int} (e : S = 2 * P) (h1 : 1 ≤ P) (h2 : P ≤ 16384) (r0 : 0 ≤ r) (r1 : r < S - 1 - P + 1) (i j : Nat) :
    -32767 ≤ List.getD [P, S - 1, P + r] i 0 * List.getD [(1 : Int), -1] j 0 ∧ List.getD [P, S - 1, P + r] i 0 * List.getD [(1 : Int), -1] j 0 ≤ 32767 := by
  have h := num_worth e h1 h2 r0 r1 i
  rcases num_sign j with q | q | q <;> rw [q] <;> omega

theorem num_fin {z r : Int} (h0 : z ≠ 0) (h1 : 0 ≤ z) (h2 : z < 16) (r0 : 0 ≤ r) (r1 : r < 2 ^ z.toNat - 1 - 2 ^ (z - 1).toNat + 1) (i j : Nat) :
    -32767 ≤ List.getD [2 ^ (z - 1).toNat, 2 ^ z.toNat - 1, 2 ^ (z - 1).toNat + r] i 0 * List.getD [(1 : Int), -1] j 0 ∧ List.getD [2 ^ (z - 1).toNat, 2 ^ z.toNat - 1, 2 ^ (z - 1).toNat + r] i 0 * List.getD [(1 : Int), -1] j 0 ≤ 32767 :=
  have q := num_top h0 h1 h2
  num_end q.1 q.2.1 q.2.2 r0 r1 i j

set_option maxHeartbeats 4000000 in
theorem number_does {prog : Program} {w : World} {src : Addr} {a b : Int} {ta tb : Tok} {n : Nat} (h0 : 0 ≤ a) (h1 : 0 ≤ b) (h2 : b < 2147483647) :
    Does prog w 480 3000 184 [.ref src] [(src, srcOf a b ta tb n)] (fun h' _ r => ∃ o', h'.get? src = some o' ∧ SrcIs o' ∧ ∃ x t, r = .int x t ∧ -32767 ≤ x ∧ x ≤ 32767) := by
  intro fr base g s loose mean mg mb R B X T kg sz hN h
  k_dflt (refine' enter [(Str.ofString "source", Value.ref src)] ?kB0 ?kX ?kT ?kg ?ksz ?kN ?k6 ?k7 ?k8 ?k9 ?kB ?_ ?c2 ?c3 ?c4 ?c5; (case kB0 | kX | kT | kg | ksz | kN => assumption); (case k6 | k7 => k_is); (case k8 => decide); (case k9 => exact BindsTo.of_eq rfl); (case c2 | c3 | c4 => exact rfl); (case c5 => decide); (case kB => exact locs rfl))
  clear B
  intro L' h' B' F' N' l1 lz
  (try dsimp only)
  (try k_fold)
  k_steps
  all_goals (try dsimp only)
  all_goals ((with_reducible rename Fr _ _ _ _ => kF); (with_reducible rename News _ _ _ _ => kN); refine h _ _ _ kF.keep ⟨_, (kN (src, _) (by k_mem)).1, ⟨_, _, _, _, _, rfl, by assumption, by assumption, by assumption⟩, _, _, rfl, ?_⟩)
  · decide
  · exact num_fin (by assumption) (by assumption) (by assumption) (by assumption) (by assumption) _ _
theorem number_c {prog : Program} {w : World} {src : Addr} {a b : Int} {ta tb : Tok} {n : Nat} (h : 0 ≤ a ∧ 0 ≤ b ∧ b < 2147483647) :
    Does prog w 480 3000 184 [.ref src] [(src, srcOf a b ta tb n)] (fun h' _ r => ∃ o', h'.get? src = some o' ∧ SrcIs o' ∧ ∃ x t, r = .int x t ∧ -32767 ≤ x ∧ x ≤ 32767) := number_does h.1 h.2.1 h.2.2

end

-- part f4
section
-- needs: clean bridge head base
/-- the least size whose numbers go so far -/
noncomputable def SizeIs (v k : Int) : Prop := 0 ≤ k ∧ k ≤ 15 ∧ absI v < 2 ^ k.toNat ∧ (k = 0 ∨ (2 : Int) ^ (k - 1).toNat ≤ absI v)
noncomputable def SizeUp (v k : Int) : Prop := 0 ≤ k ∧ k ≤ 15 ∧ (k = 0 ∨ (2 : Int) ^ (k - 1).toNat ≤ absI v)

theorem size_stop {v k : Int} (p : SizeUp v k) (h1 : 1 - 2 ^ k.toNat ≤ v) (h2 : v ≤ 2 ^ k.toNat - 1) : SizeIs v k :=
  ⟨p.1, p.2.1, by unfold absI; split <;> omega, p.2.2⟩
theorem size_more {v k : Int} (h0 : -32767 ≤ v) (h1 : v ≤ 32767) (p : SizeUp v k) (h : (2 : Int) ^ k.toNat ≤ absI v) : SizeUp v (k + 1) := by
  have h2 : absI v ≤ 32767 := by unfold absI; split <;> omega
  have h3 : k ≠ 15 := by
    intro e
    subst e
    have : (2 : Int) ^ (15 : Int).toNat = 32768 := by decide
    omega
  have h4 := p.1
  have h5 := p.2.1
  exact ⟨by omega, by omega, .inr (by rw [Int.add_sub_cancel]; exact h)⟩
theorem size_more1 {v k : Int} (h0 : -32767 ≤ v) (h1 : v ≤ 32767) (p : SizeUp v k) (h : ¬ v ≤ 2 ^ k.toNat - 1) : SizeUp v (k + 1) := size_more h0 h1 p (by
  have : (1 : Int) ≤ 2 ^ k.toNat := Int.pow_pos (by decide)
  unfold absI; split <;> omega)
theorem size_more2 {v k : Int} (h0 : -32767 ≤ v) (h1 : v ≤ 32767) (p : SizeUp v k) (h : ¬ 1 - 2 ^ k.toNat ≤ v) : SizeUp v (k + 1) := size_more h0 h1 p (by
  have : (1 : Int) ≤ 2 ^ k.toNat := Int.pow_pos (by decide)
  unfold absI; split <;> omega)
theorem size_less {v k : Int} (p : SizeUp v k) : (16 - (k + 1)).toNat < (16 - k).toNat := by
  obtain ⟨κ, rfl⟩ := Int.eq_ofNat_of_zero_le p.1
  rw [show (16 : Int) - (κ + 1) = ((16 : Nat) : Int) - ((κ + 1 : Nat) : Int) from rfl, show (16 : Int) - κ = ((16 : Nat) : Int) - (κ : Nat) from rfl, Int.toNat_sub, Int.toNat_sub]
  exact Nat.sub_lt_sub_left (Nat.lt_succ_of_le (Int.ofNat_le.mp p.2.1)) (Nat.lt_succ_self κ)
local macro_rules | `(tactic| walk_at $s:str) => match s.getString with
  | "KswEnd" | "exec While" => `(tactic| walk_at "MY stop")
  | _ => Lean.Macro.throwUnsupported

set_option maxHeartbeats 4000000 in
theorem size_does {prog : Program} {w : World} {v : Int} {u : Tok} (h0 : -32767 ≤ v) (h1 : v ≤ 32767) :
    Does prog w 500 4000 191 [.int v u] [] (fun _ _ r => ∃ k t, r = .int k t ∧ SizeIs v k) := by
  intro fr base g s loose mean mg mb R B X T kg sz hN h
  k_dflt (refine' enter [(Str.ofString "number", Value.int v u)] ?kB0 ?kX ?kT ?kg ?ksz ?kN ?k6 ?k7 ?k8 ?k9 ?kB ?_ ?c2 ?c3 ?c4 ?c5; (case kB0 | kX | kT | kg | ksz | kN => assumption); (case k6 | k7 => k_is); (case k8 => decide); (case k9 => exact BindsTo.of_eq rfl); (case c2 | c3 | c4 => exact rfl); (case c5 => decide); (case kB => exact locs rfl))
  clear B
  intro L' h' B' F' N' l1 lz
  (try dsimp only)
  (try k_fold)
  k_steps
  unfold Marked
  (with_reducible rename Fr _ _ _ _ => kF); (with_reducible rename News _ _ _ _ => kN)
  refine ksw_while (fun _ => []) (fun c : Int × Nat => [(Str.ofString "size", .int c.1 c.2)]) (fun _ => True) [Str.ofString "size"] (fun c => SizeUp v c.1) (fun c => (16 - c.1).toNat) (0, _) kF kN trivial (by kst_all) ⟨Int.le_refl _, by omega, .inl rfl⟩ ?_
  clear kF kN
  rintro ⟨k, t⟩ u' h2 tk _ pU kF kN
  dsimp only at pU kF ⊢
  have p0 := pU.1
  have p1 := pU.2.1
  k_steps
  all_goals ((with_reducible rename Fr _ _ _ _ => kF); (with_reducible rename News _ _ _ _ => kN))
  · exact h _ _ _ kF.keep ⟨_, _, rfl, size_stop pU (by assumption) (by assumption)⟩
  · unfold Marked
    exact ksw_end (k + 1, _) kF kN (fun _ hp => nomatch hp) trivial (by kst_all) (by intro z h2 h3; (simp only [List.forall_mem_cons, List.not_mem_nil, false_implies, implies_true, and_true, ne_eq] at h2); (try simp only [List.contains_cons, List.contains_nil, Bool.or_false, Bool.or_eq_false_iff, beq_eq_false_iff_ne, ne_eq] at h3); (simp [kstB, h2, h3]; done)) (size_more1 h0 h1 pU (by assumption)) (size_less pU)
  · unfold Marked
    exact ksw_end (k + 1, _) kF kN (fun _ hp => nomatch hp) trivial (by kst_all) (by intro z h2 h3; (simp only [List.forall_mem_cons, List.not_mem_nil, false_implies, implies_true, and_true, ne_eq] at h2); (try simp only [List.contains_cons, List.contains_nil, Bool.or_false, Bool.or_eq_false_iff, beq_eq_false_iff_ne, ne_eq] at h3); (simp [kstB, h2, h3]; done)) (size_more2 h0 h1 pU (by assumption)) (size_less pU)

end

-- part math5
section
-- needs: math1 math2 math3 math4 clean clean2 clean3 crules bridge head base f1 f4
theorem absI_nonneg (v : Int) : 0 ≤ absI v := by unfold absI; split <;> omega
theorem pow_cast (k : Nat) : ((2 ^ k : Nat) : Int) = 2 ^ k := kbt_cast k
theorem neg_sub {v : Int} {p : Nat} (h : v < 0) : (v + (p : Int) - 1).toNat = p - 1 - (-v).toNat := by
  obtain ⟨w, hw⟩ := Int.eq_ofNat_of_zero_le (Int.le_of_lt (Int.neg_pos_of_neg h))
  rw [hw, Int.toNat_natCast, Nat.sub_sub, ← Int.toNat_sub p (1 + w)]
  congr 1
  omega
theorem size_bits {v k : Int} (p : SizeIs v k) : k = ((Builtin.Int.intBits (absI v) : Nat) : Int) := by
  obtain ⟨k0, _, h1, h2⟩ := p
  obtain ⟨κ, rfl⟩ := Int.eq_ofNat_of_zero_le k0
  obtain ⟨a, ea⟩ := Int.eq_ofNat_of_zero_le (absI_nonneg v)
  rw [ea] at h1 h2 ⊢
  rw [Int.toNat_natCast, ← pow_cast] at h1
  refine congrArg Int.ofNat (Nat.le_antisymm (Nat.le_of_not_lt fun hl => ?_) (intBits_le_iff.mpr (Int.ofNat_lt.mp h1)))
  rcases h2 with h2 | h2
  · exact Nat.not_lt_zero _ (Int.ofNat_eq_zero.mp h2 ▸ hl)
  · rw [pred_nat, ← pow_cast] at h2
    exact Nat.not_lt.mpr (Int.ofNat_le.mp h2) (intBits_le_iff.mp (Nat.le_sub_one_of_lt hl))
/-- the size of a number -/
noncomputable def szOf (v : Int) : Int := ((Builtin.Int.intBits (absI v) : Nat) : Int)
theorem szOf_is {v k : Int} (p : SizeIs v k) : k = szOf v := size_bits p
theorem absI_le {v b : Int} (h0 : -b ≤ v) (h1 : v ≤ b) : absI v ≤ b := by
  unfold absI
  split
  · exact Int.neg_le_of_neg_le h0
  · exact h1
theorem szOf_in {v : Int} (h0 : -32767 ≤ v) (h1 : v ≤ 32767) : 0 ≤ szOf v ∧ szOf v ≤ 15 ∧ absI v < 2 ^ (szOf v).toNat ∧ (szOf v = 0 ∨ (2 : Int) ^ (szOf v - 1).toNat ≤ absI v) := by
  have hab := absI_le h0 h1
  unfold szOf
  obtain ⟨a, ea⟩ := Int.eq_ofNat_of_zero_le (absI_nonneg v)
  rw [ea] at hab ⊢
  refine ⟨Int.natCast_nonneg _, Int.ofNat_le.mpr (intBits_le_iff.mpr (Nat.lt_succ_of_le (Int.ofNat_le.mp hab))), ?_, ?_⟩
  · rw [Int.toNat_natCast, ← pow_cast]
    exact Int.ofNat_lt.mpr (intBits_le_iff (x := (a : Int)).mp (Nat.le_refl _))
  · by_cases hz : Builtin.Int.intBits (a : Int) = 0
    · exact .inl (congrArg Int.ofNat hz)
    · refine .inr ?_
      rw [pred_nat, ← pow_cast]
      exact Int.ofNat_le.mpr (Nat.le_of_not_lt fun h => absurd (intBits_le_iff.mpr h) (Nat.not_le.mpr (Nat.sub_one_lt hz)))
/-- the bits of the number as laid -/
theorem bitsOf_in {v : Int} (h0 : -32767 ≤ v) (h1 : v ≤ 32767) : 0 ≤ bitsOf v (szOf v) ∧ bitsOf v (szOf v) < 2 ^ (szOf v).toNat := by
  obtain ⟨_, _, c, _⟩ := szOf_in h0 h1
  unfold bitsOf
  unfold absI at c
  split <;> rename_i hv
  · rw [if_pos hv] at c
    have h := Int.add_lt_add_left c v
    rw [Int.add_right_neg] at h
    exact ⟨Int.le_sub_one_of_lt h, Int.sub_one_lt_of_le (Int.le_trans (Int.add_le_add_right (Int.le_of_lt hv) _) (Int.le_of_eq (Int.zero_add _)))⟩
  · rw [if_neg hv] at c
    exact ⟨Int.not_lt.mp hv, c⟩
theorem val_lower {v S P : Int} (d : P ≤ -v) (e : S = 2 * P) : v + S - 1 < P := by
  have h := Int.add_le_add_left d v
  rw [Int.add_right_neg] at h
  rw [e, Int.two_mul, ← Int.add_assoc]
  exact Int.sub_one_lt_of_le (Int.le_trans (Int.add_le_add_right h P) (Int.le_of_eq (Int.zero_add P)))
theorem val_again {v S : Int} : v + S - 1 - S + 1 = v := by
  omega
theorem value_back {v : Int} (h0 : -32767 ≤ v) (h1 : v ≤ 32767) : valueOf (bitsOf v (szOf v)) (szOf v) = v := by
  obtain ⟨a, _, c, d⟩ := szOf_in h0 h1
  unfold valueOf bitsOf
  unfold absI at c d
  by_cases hv : v < 0
  · rw [if_pos hv] at c d ⊢
    have hz : szOf v ≠ 0 := fun hz => by
      rw [hz] at c
      exact absurd (Int.neg_pos_of_neg hv) (Int.not_lt.mpr (Int.le_of_lt_add_one (b := 0) c))
    rw [if_pos ⟨Int.lt_iff_le_and_ne.mpr ⟨a, hz.symm⟩, val_lower (d.resolve_left hz) (pow_double a hz)⟩]
    exact val_again
  · rw [if_neg hv] at c d ⊢
    rw [if_neg]
    rintro ⟨e1, e2⟩
    exact absurd (d.resolve_left (Int.ne_of_gt e1)) (Int.not_le.mpr e2)
theorem testBit_compl {a n i : Nat} (ha : a < 2 ^ n) (hi : i < n) : (2 ^ n - 1 - a).testBit i = !a.testBit i := by
  rw [Nat.sub_sub, Nat.add_comm 1 a, Nat.testBit_two_pow_sub_succ ha, decide_eq_true hi, Bool.true_and]
theorem bitsN_compl {a n : Nat} (ha : a < 2 ^ n) : ∀ k, k ≤ n → bitsN (2 ^ n - 1 - a) k = (bitsN a k).map (!·)
  | 0, _ => rfl
  | k + 1, h => by rw [bitsN, bitsN, List.map_cons, testBit_compl ha h, bitsN_compl ha k (Nat.le_of_succ_le h)]
theorem bits_turned {v : Int} (h0 : -32767 ≤ v) (h1 : v ≤ 32767) : bitsN (bitsOf v (szOf v)).toNat (szOf v).toNat = (if v < 0 then (bitsN (absI v).toNat (szOf v).toNat).map (!·) else bitsN (absI v).toNat (szOf v).toNat) := by
  obtain ⟨a, b, c, d⟩ := szOf_in h0 h1
  have ha := absI_nonneg v
  have hc := toNat_lt_pow c
  split <;> rename_i hv
  · rw [← bitsN_compl hc _ (Nat.le_refl _)]
    congr 1
    unfold bitsOf
    rw [if_pos hv]
    have e : absI v = -v := if_pos hv
    rw [e] at hc ⊢
    rw [← pow_cast]
    exact neg_sub hv
  · unfold bitsOf absI
    rw [if_neg hv, if_neg hv]
theorem ones_bits (n : Nat) : bitsN (2 ^ n - 1) n = List.replicate n true := by
  have key : ∀ k, k ≤ n → bitsN (2 ^ n - 1) k = List.replicate k true := by
    intro k
    induction k with
    | zero => intro _; rfl
    | succ k ih =>
      intro h
      rw [bitsN, ih (Nat.le_of_succ_le h), List.replicate_succ, Nat.testBit_two_pow_sub_one]
      simp [Nat.lt_of_succ_le h]
  exact key n (Nat.le_refl n)

end

-- part w0
section
-- needs: clean clean2 clean3 crules crules2 bridge head base base2
noncomputable abbrev wEs (h1 h2 h3 : Int) (k1 k2 k3 : Tok) (f : Addr) (r z : Int) (t1 t2 : Tok) : List DictEntry :=
  [⟨h1, .str (Str.ofString "full") k1, .ref f⟩, ⟨h2, .str (Str.ofString "rest") k2, .int r t1⟩, ⟨h3, .str (Str.ofString "size") k3, .int z t2⟩]

set_option maxHeartbeats 4000000 in
theorem winit_does {prog : Program} {w : World} {x dx : Addr} (hne : dx < x) :
    DoesC prog w 520 5000 93 [.ref x] [(x, instObj 117 dx), (dx, dictOf [] 0)]
      (fun h' sz v => v = .none ∧ ∃ f h1 h2 h3 k1 k2 k3 t1 t2, sz ≤ f ∧ h'.get? x = some (instObj 117 dx) ∧ h'.get? dx = some (dictOf (wEs h1 h2 h3 k1 k2 k3 f 0 0 t1 t2) 3) ∧ h'.get? f = some (baObj #[])) := by
  intro fr base g s loose mean mg mb R B X T kg sz hN h
  k_dflt (refine' enterC [(Str.ofString "self", Value.ref x)] ?kB0 ?kX ?kT ?kg ?ksz ?kN ?k6 ?k7 ?k8 ?k9 ?kB ?_ ?c2 ?c3 ?c4 ?c5; (case kB0 | kX | kT | kg | ksz | kN => assumption); (case k6 | k7 => k_is); (case k8 => decide); (case k9 => exact BindsTo.of_eq rfl); (case c2 | c3 | c4 => exact rfl); (case c5 => decide); (case kB => exact locs rfl))
  clear B
  intro L' h' B' F' N' l1 lz
  (try dsimp only)
  refine wpC_execs_cons (wpC_Assign_Attribute (wpC_callName ?_))
  k_steps
  refine wpC_callWith_type rfl (evalArgs_nil3 ?_)
  refine ba_newK (by with_reducible assumption) N' fun D h2 F2 N2 lD lD2 => ?_
  (with_reducible rename Fr _ _ h' _ => kF)
  have hF := kF.ns.lt
  clear kF N'
  k_lt lD
  have lL : L' < D := Nat.lt_of_lt_of_le hF lD2
  dsimp only at lD2 ⊢
  replace hne := ltN hne
  k_steps
  refine wpC_of_any ?_
  k_steps
  (with_reducible rename Fr _ _ _ _ => kF); (with_reducible rename News _ _ _ _ => kN)
  try dsimp only
  exact h _ _ _ kF.keep ⟨rfl, D, _, _, _, _, _, _, _, _, Nat.le_trans lz (Nat.le_of_lt lL), (kN (x, _) (by k_mem)).1, (kN (dx, _) (by k_mem)).1, (kN (D, _) (by k_mem)).1⟩

end

-- part w1
section
-- needs: math1 math2 clean clean2 clean3 ba1 crules crules2 bridge head base base2 w0
theorem size_line {n : Nat} (h : n ≤ 9000) : n ≤ sizeLine := Nat.le_trans h (by decide)
theorem rest_low {r z : Int} (z1 : z < 8) (r1 : r < 2 ^ z.toNat) : r < 128 := by
  have h1 : (2 : Nat) ^ z.toNat ≤ 2 ^ 7 := Nat.pow_le_pow_right (by decide) (by omega)
  have h2 : ((2 ^ z.toNat : Nat) : Int) = 2 ^ z.toNat := by simp
  omega
theorem val_low {v n : Int} (n1 : n ≤ 15) (v1 : v < 2 ^ n.toNat) : v < 32768 := by
  have h1 : (2 : Nat) ^ n.toNat ≤ 2 ^ 15 := Nat.pow_le_pow_right (by decide) (by omega)
  have h2 : ((2 ^ n.toNat : Nat) : Int) = 2 ^ n.toNat := by simp
  omega

local macro_rules | `(tactic| walk_at "getMethod ref") => `(tactic| walk_at "MY stop")

theorem put_size {l a b : Nat} {z z' n : Int} (h1 : l = 8 * a + z.toNat + n.toNat) (h2 : l = 8 * b + z'.toNat) (ha : a ≤ 1000) (z1 : z < 8) (n1 : n ≤ 15) : b + 1 ≤ 9000 := by
  have h3 : b ≤ l := h2 ▸ Nat.le_trans (Nat.le_mul_of_pos_left b (by decide)) (Nat.le_add_right _ _)
  have h4 : l ≤ 8 * 1000 + 8 + 15 := h1 ▸ Nat.add_le_add (Nat.add_le_add (Nat.mul_le_mul_left 8 ha) (Int.toNat_le.mpr (Int.le_of_lt z1))) (Int.toNat_le.mpr n1)
  exact Nat.le_trans (Nat.succ_le_succ (Nat.le_trans h3 h4)) (by decide)
set_option maxHeartbeats 4000000 in
theorem put_does {prog : Program} {w : World} {x dx f : Addr} {v n r z h1 h2 h3 : Int} {k1 k2 k3 t1 t2 u u' : Tok} {b : Array UInt8} {bs : List Bool} (hn1 : x ≠ dx) (hn2 : x ≠ f) (hn3 : dx ≠ f) (n0 : 0 ≤ n) (n1 : n ≤ 15) (v0 : 0 ≤ v) (v1 : v < 2 ^ n.toNat) (z1 : z < 8) (hr : Rep b r z bs) (hb : b.size ≤ 1000) :
    DoesC prog w 520 5000 100 [.ref x, .int v u, .int n u'] [(x, instObj 117 dx), (dx, dictOf (wEs h1 h2 h3 k1 k2 k3 f r z t1 t2) 3), (f, baObj b)]
      (fun h' sz res => res = .none ∧ ∃ b' r' z' t1' t2', h'.get? x = some (instObj 117 dx) ∧ h'.get? dx = some (dictOf (wEs h1 h2 h3 k1 k2 k3 f r' z' t1' t2') 3) ∧ h'.get? f = some (baObj b') ∧ z' < 8 ∧ Rep b' r' z' (bs ++ bitsN v.toNat n.toNat)) := by
  intro fr base g s loose mean mg mb R B X T kg sz hN h
  k_dflt (refine' enterC [(Str.ofString "self", Value.ref x), (Str.ofString "value", Value.int v u), (Str.ofString "size", Value.int n u')] ?kB0 ?kX ?kT ?kg ?ksz ?kN ?k6 ?k7 ?k8 ?k9 ?kB ?_ ?c2 ?c3 ?c4 ?c5; (case kB0 | kX | kT | kg | ksz | kN => assumption); (case k6 | k7 => k_is); (case k8 => decide); (case k9 => exact BindsTo.of_eq rfl); (case c2 | c3 | c4 => exact rfl); (case c5 => decide); (case kB => exact locs rfl))
  clear B
  intro L' h' B' F' N' l1 lz
  (try dsimp only)
  have z0 := hr.1
  have r0 := hr.2.1
  have r1 := hr.2.2.1
  have r2 := rest_low z1 r1
  have v2 := val_low n1 v1
  replace hn1 := neN hn1
  replace hn2 := neN hn2
  replace hn3 := neN hn3
  refine wpC_execs_cons (wpC_of_any ?_)
  k_steps
  refine wpC_execs_cons (wpC_of_any ?_)
  k_steps
  (try dsimp only)
  refine wpC_execs_cons (wpC_of_any ?_)
  k_steps
  (try dsimp only)
  refine wpC_execs_cons (wpC_While ?_)
  (with_reducible rename Fr _ _ _ _ => kF); (with_reducible rename News _ _ _ _ => kN)
  have hb2 := hr.len
  have p0 := rep_put hr n0 v0 v1
  generalize hB : bs ++ bitsN v.toNat n.toNat = bs' at p0 ⊢
  have hb3 : bs'.length = 8 * b.size + z.toNat + n.toNat := by rw [← hB, List.length_append, bitsN_length, ← hb2]
  refine codeC_while (fun k s' => ∃ b' r' z' t1' t2' tk h', s' = { s with heap := h', toks := tk } ∧ Fr g L' h' (fun y => List.lookup y [(Str.ofString "self", Value.ref x), (Str.ofString "value", Value.int v u), (Str.ofString "size", Value.int n u')].reverse) ∧
    News g L' h' [(x, instObj 117 dx), (dx, dictOf (wEs h1 h2 h3 k1 k2 k3 f r' z' t1' t2') 3), (f, baObj b')] ∧ Rep b' r' z' bs' ∧ z' ≤ 22 ∧ k = z'.toNat) ?_ (z + n).toNat _ ⟨_, _, _, _, _, _, _, rfl, kF, kN, p0, by omega, rfl⟩
  clear kF kN p0
  rintro k _ ⟨b', r', z', t1', t2', tk, h', rfl, kF, kN, p, zl, rfl⟩
  have q0 := p.1
  have q1 := p.2.1
  have q2 := p.2.2.1
  have q3 := p.len
  k_steps
  · refine wpC_execs_cons (wpC_of_any ?_)
    k_steps
    (try dsimp only)
    refine wpC_execs_cons (wpC_Expr (wpC_method ?_))
    k_steps
    unfold Marked
    k_dflt (refine ba_getMethod (by k_asm) (by k_mem) ?_)
    k_steps
    refine wpC_callWith_builtin rfl ?_
    k_steps
    (with_reducible rename Fr _ _ _ _ => kF); (with_reducible rename News _ _ _ _ => kN)
    try dsimp only at kN
    obtain ⟨y1, y2⟩ := turn_byte q1 q2 (by assumption)
    have pT := rep_turn p (by assumption)
    refine ba_appendK kF kN (by k_upd) (y1.symm ▸ Int.natCast_nonneg _) (y1.symm ▸ Int.ofNat_lt.mpr y2) (size_line (put_size hb3 q3 hb z1 n1)) fun h'' F'' N'' => ⟨rfl, ?_⟩
    clear kF kN
    refine wpC_execs_cons (wpC_of_any ?_)
    k_steps
    (with_reducible rename Fr _ _ _ _ => kF); (with_reducible rename News _ _ _ _ => kN)
    try dsimp only at kN
    try dsimp only
    refine wpC_execs_nil ⟨rfl, (z' - 8).toNat, by omega, _, _, _, _, _, _, _, rfl, kF, kN, pT, by omega, rfl⟩
  · try dsimp only
    (with_reducible rename Fr _ _ _ _ => kF); (with_reducible rename News _ _ _ _ => kN)
    exact wpC_execs_nil (h _ _ _ kF.keep ⟨rfl, _, _, _, _, _, (kN (x, _) (by k_mem)).1, (kN (dx, _) (by k_mem)).1, (kN (f, _) (by k_mem)).1, by omega, hB ▸ p⟩)

end

-- part w2
section
-- needs: math1 math2 clean clean2 clean3 ba1 crules crules2 bridge head base base2 w0 w1
theorem pad_val {z : Int} (z0 : 0 < z) (z1 : z < 8) : 0 ≤ 1 * (2 : Int) ^ (8 - z).toNat - 1 ∧ 1 * (2 : Int) ^ (8 - z).toNat - 1 < 2 ^ (8 - z).toNat := by
  have h : (1 : Int) ≤ 2 ^ (8 - z).toNat := Int.pow_pos (by decide)
  omega

theorem pad_mod {l b : Nat} {z : Int} (h : l = 8 * b + z.toNat) (z0 : 0 ≤ z) (z1 : z < 8) : (l + (8 - z).toNat) % 8 = 0 := by
  obtain ⟨k, rfl⟩ := Int.eq_ofNat_of_zero_le z0
  have z2 : k ≤ 8 := Int.ofNat_le.mp (Int.le_of_lt z1)
  rw [h, Int.toNat_natCast, show ((8 : Int) - k).toNat = 8 - k from Int.toNat_sub 8 k, Nat.add_assoc, Nat.add_sub_cancel' z2, ← Nat.mul_succ, Nat.mul_mod_right]
theorem pad_mod0 {l b : Nat} {z : Int} (h : l = 8 * b + z.toNat) (z0 : 0 ≤ z) (z1 : ¬ 0 < z) : (l + 0) % 8 = 0 := by
  rw [h, Int.toNat_of_nonpos (Int.not_lt.mp z1)]
  exact Nat.mul_mod_right 8 b
theorem one_pow {p : Nat} {P : Int} (h : (p : Int) = P) : (1 * P - 1).toNat = p - 1 := by
  rw [← h, Int.one_mul]
  exact Int.toNat_sub p 1
set_option maxHeartbeats 4000000 in
theorem pad_does {prog : Program} {w : World} {x dx f : Addr} {r z h1 h2 h3 : Int} {k1 k2 k3 t1 t2 : Tok} {b : Array UInt8} {bs : List Bool} (hn1 : x ≠ dx) (hn2 : x ≠ f) (hn3 : dx ≠ f) (z1 : z < 8) (hr : Rep b r z bs) (hb : b.size ≤ 1000) :
    DoesC prog w 480 4000 107 [.ref x] [(x, instObj 117 dx), (dx, dictOf (wEs h1 h2 h3 k1 k2 k3 f r z t1 t2) 3), (f, baObj b)]
      (fun h' sz res => res = .none ∧ ∃ b' r' z' t1' t2', h'.get? x = some (instObj 117 dx) ∧ h'.get? dx = some (dictOf (wEs h1 h2 h3 k1 k2 k3 f r' z' t1' t2') 3) ∧ h'.get? f = some (baObj b') ∧ ∃ n, n < 8 ∧ (bs.length + n) % 8 = 0 ∧ z' < 8 ∧ Rep b' r' z' (bs ++ bitsN (2 ^ n - 1) n)) := by
  intro fr base g s loose mean mg mb R B X T kg sz hN h
  k_dflt (refine' enterC [(Str.ofString "self", Value.ref x)] ?kB0 ?kX ?kT ?kg ?ksz ?kN ?k6 ?k7 ?k8 ?k9 ?kB ?_ ?c2 ?c3 ?c4 ?c5; (case kB0 | kX | kT | kg | ksz | kN => assumption); (case k6 | k7 => k_is); (case k8 => decide); (case k9 => exact BindsTo.of_eq rfl); (case c2 | c3 | c4 => exact rfl); (case c5 => decide); (case kB => exact locs rfl))
  clear B
  intro L' h' B' F' N' l1 lz
  (try dsimp only)
  have z0 := hr.1
  have hb2 := hr.len
  have hn1' := hn1
  have hn2' := hn2
  have hn3' := hn3
  replace hn1 := neN hn1
  replace hn2 := neN hn2
  replace hn3 := neN hn3
  refine wpC_execs_cons (wpC_If ?_)
  k_steps
  · refine wpC_execs_cons (wpC_Expr (wpC_method ?_))
    k_steps
    k_dflt (refine wpC_callWith_K (K := Mine.Head.hd.heap_39 w.params) (by k_is) rfl ?_)
    k_steps
    (with_reducible rename Fr _ _ _ _ => kF); (with_reducible rename News _ _ _ _ => kN)
    have pz : 0 < z := by assumption
    refine (put_does hn1' hn2' hn3' (by omega) (by omega) (pad_val pz z1).1 (pad_val pz z1).2 z1 hr hb).walk B' kF X kN T (by walk_at "MY sits") (fun _ h => h) ?_
    rintro g' h'' tk v Y k ⟨rfl, b', r', z', t1', t2', e1, e2, e3, e4, e5⟩
    refine ⟨rfl, wpC_execs_nil (wpC_execs_nil (h _ _ _ (Y.fr h'' k).keep ⟨rfl, _, _, _, _, _, e1, e2, e3, (8 - z).toNat, by omega, pad_mod hb2 z0 z1, e4, ?_⟩))⟩
    have h9 := one_pow (two_pow_cast (8 - z).toNat)
    rw [← h9]
    exact e5
  · refine wpC_execs_nil (wpC_execs_nil ?_)
    (with_reducible rename Fr _ _ _ _ => kF); (with_reducible rename News _ _ _ _ => kN)
    refine h _ _ _ kF.keep ⟨rfl, _, _, _, _, _, (kN (x, _) (by k_mem)).1, (kN (dx, _) (by k_mem)).1, (kN (f, _) (by k_mem)).1, 0, by omega, pad_mod0 hb2 z0 (by assumption), z1, ?_⟩
    rw [show bitsN (2 ^ 0 - 1) 0 = [] from rfl, List.append_nil]
    exact hr

end

-- part w3
section
-- needs: math1 math2 clean clean2 clean3 ba1 ba2 crules crules2 bridge head base base2 w0
local macro_rules | `(tactic| walk_at "call type:bytes") => `(tactic| walk_at "MY stop")

set_option maxHeartbeats 4000000 in
theorem octets_does {prog : Program} {w : World} {x dx f : Addr} {r z h1 h2 h3 : Int} {k1 k2 k3 t1 t2 : Tok} {b : Array UInt8} (hn1 : x ≠ dx) (hn2 : x ≠ f) (hn3 : dx ≠ f) (hb : b.size ≤ sizeLine) :
    Does prog w 500 4000 114 [.ref x] [(x, instObj 117 dx), (dx, dictOf (wEs h1 h2 h3 k1 k2 k3 f r z t1 t2) 3), (f, baObj b)]
      (fun h' sz res => (∃ t, res = .bytes b t) ∧ h'.get? x = some (instObj 117 dx) ∧ h'.get? dx = some (dictOf (wEs h1 h2 h3 k1 k2 k3 f r z t1 t2) 3) ∧ h'.get? f = some (baObj b)) := by
  intro fr base g s loose mean mg mb R B X T kg sz hN h
  k_dflt (refine' enter [(Str.ofString "self", Value.ref x)] ?kB0 ?kX ?kT ?kg ?ksz ?kN ?k6 ?k7 ?k8 ?k9 ?kB ?_ ?c2 ?c3 ?c4 ?c5; (case kB0 | kX | kT | kg | ksz | kN => assumption); (case k6 | k7 => k_is); (case k8 => decide); (case k9 => exact BindsTo.of_eq rfl); (case c2 | c3 | c4 => exact rfl); (case c5 => decide); (case kB => exact locs rfl))
  clear B
  intro L' h' B' F' N' l1 lz
  (try dsimp only)
  replace hn1 := neN hn1
  replace hn2 := neN hn2
  replace hn3 := neN hn3
  (try k_fold)
  k_steps
  unfold Marked
  k_dflt (refine ba_bytes (News.get (by k_asm) (by k_mem)) (by assumption) ?_)
  intros
  k_steps
  (with_reducible rename Fr _ _ _ _ => kF); (with_reducible rename News _ _ _ _ => kN)
  exact h _ _ _ kF.keep ⟨⟨_, rfl⟩, (kN (x, _) (by k_mem)).1, (kN (dx, _) (by k_mem)).1, (kN (f, _) (by k_mem)).1⟩

end

-- part r1
section
-- needs: math1 math2 clean clean2 clean3 crules crules2 bridge head base base2 cfor nfor
noncomputable abbrev rEs (h1 h2 : Int) (k1 k2 : Tok) (b : Array UInt8) (k : Int) (t1 t2 : Tok) : List DictEntry :=
  [⟨h1, .str (Str.ofString "source") k1, .bytes b t1⟩, ⟨h2, .str (Str.ofString "at") k2, .int k t2⟩]

theorem r_mulOk {x : Int} : IntMulOk 8 x := IntMulOk.of_left (intBits_le_64 (by decide) (by decide))
local macro_rules | `(tactic| walk_at "binaryOp Mult int int") => `(tactic| (with_reducible refine mul_int ?_ r_mulOk))

noncomputable def byteAt (b : Array UInt8) (k : Int) : Int := ((b.toList.getD (Int.fdiv k (2 ^ Int.toNat 3)).toNat 0).toNat : Int)
theorem byteAt_in (b : Array UInt8) (k : Int) : 0 ≤ byteAt b k ∧ byteAt b k < 256 := ⟨Int.natCast_nonneg _, by
  unfold byteAt
  have := (b.toList.getD (Int.fdiv k (2 ^ Int.toNat 3)).toNat 0).toNat_lt
  omega⟩
noncomputable def bitAt (b : Array UInt8) (k : Int) : Int := Builtin.bitAnd ((byteAt b k).fdiv (2 ^ (7 - Builtin.bitAnd k 7).toNat)) 1
theorem idx_in {k n : Int} (q0 : 0 ≤ k) (q1 : k < 8 * n) : 0 ≤ Int.fdiv k (2 ^ Int.toNat 3) ∧ Int.fdiv k (2 ^ Int.toNat 3) < n := by
  have e : (2 : Int) ^ Int.toNat 3 = 8 := by decide
  rw [e, Int.fdiv_eq_ediv_of_nonneg _ (by decide)]
  omega
theorem r_item {prog : Program} {w : World} {A : Around} {E : Value → Shared → Prop} {s : Shared} {b : Array UInt8} {k : Int} {t ui : Tok} {value slice : Expr} {Q : Value → Shared → Prop} (hb : b.size ≤ 100000) (q0 : 0 ≤ k) (q1 : k < 8 * (b.size : Int))
    (h : 0 ≤ byteAt b k → byteAt b k < 256 → Q (.int (byteAt b k) s.toks) { s with toks := s.toks + 1 })
    (hs : subscripted slice false (.bytes b t) (.int (Int.fdiv k (2 ^ Int.toNat 3)) ui) = operate [.bytes b t, .int (Int.fdiv k (2 ^ Int.toNat 3)) ui] (getItem (.bytes b t) (.int (Int.fdiv k (2 ^ Int.toNat 3)) ui)) := by with_unfolding_all rfl)
    (ht : ∀ r, letTemporaryGo value (.bytes b t) r = pure () := by intro _; with_unfolding_all rfl) : wpAny (model prog w) A (subscriptTail value slice (.bytes b t) (.int (Int.fdiv k (2 ^ Int.toNat 3)) ui)) Q E s :=
  bytes_item_K (x := b.toList) (k := byteAt b k) (Nat.le_trans hb (by decide)) (idx_in q0 q1).1 (idx_in q0 q1).2 rfl (h (byteAt_in b k).1 (byteAt_in b k).2) hs ht
theorem and7_in (k : Int) : 0 ≤ Builtin.bitAnd k 7 ∧ Builtin.bitAnd k 7 ≤ 7 := by rw [bitAnd_m3]; omega
local macro_rules | `(tactic| walk_at "subscriptTail") => `(tactic| walk_at "MY stop")

set_option maxHeartbeats 4000000 in
theorem left_does {prog : Program} {w : World} {x dx : Addr} {k h1 h2 : Int} {k1 k2 t1 t2 : Tok} {b : Array UInt8} (hn1 : x ≠ dx) (hb : b.size ≤ 100000) (q0 : 0 ≤ k) (q1 : k ≤ 100000000) :
    Does prog w 520 5000 142 [.ref x] [(x, instObj 159 dx), (dx, dictOf (rEs h1 h2 k1 k2 b k t1 t2) 2)]
      (fun h' _ res => h'.get? x = some (instObj 159 dx) ∧ ∃ o', h'.get? dx = some o' ∧ o' = dictOf (rEs h1 h2 k1 k2 b k t1 t2) 2 ∧ ∃ t, res = .int (8 * (b.size : Int) - k) t) := by
  intro fr base g s loose mean mg mb R B X T kg sz hN h
  k_dflt (refine' enter [(Str.ofString "self", Value.ref x)] ?kB0 ?kX ?kT ?kg ?ksz ?kN ?k6 ?k7 ?k8 ?k9 ?kB ?_ ?c2 ?c3 ?c4 ?c5; (case kB0 | kX | kT | kg | ksz | kN => assumption); (case k6 | k7 => k_is); (case k8 => decide); (case k9 => exact BindsTo.of_eq rfl); (case c2 | c3 | c4 => exact rfl); (case c5 => decide); (case kB => exact locs rfl))
  clear B
  intro L' h' B' F' N' l1 lz
  (try dsimp only)
  replace hn1 := neN hn1
  (try k_fold)
  walk_at "MY steps"
  (with_reducible rename Fr _ _ _ _ => kF); (with_reducible rename News _ _ _ _ => kN)
  exact h _ _ _ kF.keep ⟨(kN (x, _) (by k_mem)).1, _, (kN (dx, _) (by k_mem)).1, rfl, _, rfl⟩

set_option maxHeartbeats 4000000 in
theorem bit_does {prog : Program} {w : World} {x dx : Addr} {k h1 h2 : Int} {k1 k2 t1 t2 : Tok} {b : Array UInt8} (hn1 : x ≠ dx) (hb : b.size ≤ 100000) (q0 : 0 ≤ k) (q1 : k < 8 * (b.size : Int)) :
    Does prog w 520 5000 149 [.ref x] [(x, instObj 159 dx), (dx, dictOf (rEs h1 h2 k1 k2 b k t1 t2) 2)]
      (fun h' _ res => h'.get? x = some (instObj 159 dx) ∧ ∃ o', h'.get? dx = some o' ∧ (∃ t2', o' = dictOf (rEs h1 h2 k1 k2 b (k + 1) t1 t2') 2) ∧ ∃ t, res = .int (bitAt b k) t) := by
  intro fr base g s loose mean mg mb R B X T kg sz hN h
  k_dflt (refine' enter [(Str.ofString "self", Value.ref x)] ?kB0 ?kX ?kT ?kg ?ksz ?kN ?k6 ?k7 ?k8 ?k9 ?kB ?_ ?c2 ?c3 ?c4 ?c5; (case kB0 | kX | kT | kg | ksz | kN => assumption); (case k6 | k7 => k_is); (case k8 => decide); (case k9 => exact BindsTo.of_eq rfl); (case c2 | c3 | c4 => exact rfl); (case c5 => decide); (case kB => exact locs rfl))
  clear B
  intro L' h' B' F' N' l1 lz
  (try dsimp only)
  replace hn1 := neN hn1
  (try k_fold)
  obtain ⟨a70, a71⟩ := and7_in k
  walk_at "MY steps"
  unfold Marked
  refine r_item (by assumption) (by assumption) (by assumption) ?_
  intros
  walk_at "MY steps"
  (with_reducible rename Fr _ _ _ _ => kF); (with_reducible rename News _ _ _ _ => kN)
  exact h _ _ _ kF.keep ⟨(kN (x, _) (by k_mem)).1, _, (kN (dx, _) (by k_mem)).1, ⟨_, rfl⟩, _, rfl⟩

noncomputable def readN (b : Array UInt8) (k : Int) : Nat → Int
  | 0 => 0
  | n + 1 => readN b k n * 2 + bitAt b (k + (n : Int))
theorem read_mulOk {x : Int} : IntMulOk x 2 := IntMulOk.of_right (intBits_le_64 (by decide) (by decide))
local macro_rules | `(tactic| walk_at "binaryOp Mult int int") => `(tactic| (with_reducible refine mul_int ?_ read_mulOk))
theorem left_c {prog : Program} {w : World} {x dx : Addr} {k h1 h2 : Int} {k1 k2 t1 t2 : Tok} {b : Array UInt8} (hy : x ≠ dx ∧ b.size ≤ 100000 ∧ 0 ≤ k ∧ k ≤ 100000000) :
    Does prog w 520 5000 142 [.ref x] [(x, instObj 159 dx), (dx, dictOf (rEs h1 h2 k1 k2 b k t1 t2) 2)]
      (fun h' _ res => h'.get? x = some (instObj 159 dx) ∧ ∃ o', h'.get? dx = some o' ∧ (∃ t2', o' = dictOf (rEs h1 h2 k1 k2 b k t1 t2') 2) ∧ ∃ t, res = .int (8 * (b.size : Int) - k) t) :=
  fun fr base g s loose mean mg mb R B X T kg sz hN h => left_does hy.1 hy.2.1 hy.2.2.1 hy.2.2.2 fr base g s loose mean mg mb R B X T kg sz hN fun h' tk v k ⟨e1, o', e2, e3, e4⟩ => h h' tk v k ⟨e1, o', e2, ⟨_, e3⟩, e4⟩
theorem bit_c {prog : Program} {w : World} {x dx : Addr} {k h1 h2 : Int} {k1 k2 t1 t2 : Tok} {b : Array UInt8} (hy : x ≠ dx ∧ b.size ≤ 100000 ∧ 0 ≤ k ∧ k < 8 * (b.size : Int)) :
    Does prog w 520 5000 149 [.ref x] [(x, instObj 159 dx), (dx, dictOf (rEs h1 h2 k1 k2 b k t1 t2) 2)]
      (fun h' _ res => h'.get? x = some (instObj 159 dx) ∧ ∃ o', h'.get? dx = some o' ∧ (∃ t2', o' = dictOf (rEs h1 h2 k1 k2 b (k + 1) t1 t2') 2) ∧ ∃ t, res = .int (bitAt b k) t) :=
  bit_does hy.1 hy.2.1 hy.2.2.1 hy.2.2.2

end

-- part math6
section
-- needs: math1 math2 math3 math4 clean clean2 clean3 crules crules2 bridge head base base2 cfor nfor r1
theorem bitsB_cons (c : UInt8) (l : List UInt8) : bitsB (c :: l) = bitsN c.toNat 8 ++ bitsB l := rfl
theorem bitsB_get : ∀ (l : List UInt8) (κ : Nat), (bitsB l)[κ]? = (l[κ / 8]?).map fun c => c.toNat.testBit (7 - κ % 8)
  | [], _ => rfl
  | c :: l, κ => by
    rw [bitsB_cons]
    by_cases h : κ < 8
    · rw [List.getElem?_append_left (by rw [bitsN_length]; exact h), bitsN_get h, Nat.div_eq_of_lt h, Nat.mod_eq_of_lt h]
      rfl
    · obtain ⟨j, rfl⟩ := Nat.exists_eq_add_of_le' (Nat.not_lt.mp h)
      rw [List.getElem?_append_right (by rw [bitsN_length]; exact Nat.le_add_left 8 j), bitsN_length, Nat.add_sub_cancel, bitsB_get l j, Nat.add_div_right j (by decide), Nat.add_mod_right, List.getElem?_cons_succ]
theorem bitAt_eq {b : Array UInt8} {κ : Nat} {x : Bool} (h : (bitsB b.toList)[κ]? = some x) : bitAt b (κ : Int) = (x.toNat : Int) := by
  rw [bitsB_get] at h
  obtain ⟨c, hc, rfl⟩ := Option.map_eq_some_iff.mp h
  have hi : (Int.fdiv (κ : Int) (2 ^ Int.toNat 3)).toNat = κ / 8 := by
    have e : (2 : Int) ^ Int.toNat 3 = 8 := by decide
    rw [e, Int.fdiv_eq_ediv_of_nonneg _ (by decide)]
    rfl
  have hs : (7 - Builtin.bitAnd (κ : Int) 7).toNat = 7 - κ % 8 := by
    rw [bitAnd_m3]
    exact Int.toNat_sub 7 (κ % 8)
  unfold bitAt byteAt
  rw [hi, hs, bitAnd_m1, List.getD_eq_getElem?_getD, hc, Option.getD_some, Int.fdiv_eq_ediv_of_nonneg _ (Int.le_of_lt (Int.pow_pos (by decide))), ← two_pow_cast, ← Int.natCast_ediv, Nat.testBit_eq_decide_div_mod_eq]
  have e : (((c.toNat / 2 ^ (7 - κ % 8) : Nat) : Int) % 2) = ((c.toNat / 2 ^ (7 - κ % 8) % 2 : Nat) : Int) := rfl
  rw [e]
  rcases Nat.mod_two_eq_zero_or_one (c.toNat / 2 ^ (7 - κ % 8)) with e | e <;> rw [e] <;> rfl
theorem readN_eq {b : Array UInt8} {κ : Nat} : ∀ n, κ + n ≤ (bitsB b.toList).length → readN b (κ : Int) n = ((valN (((bitsB b.toList).drop κ).take n) : Nat) : Int)
  | 0, _ => by simp [readN, valN]
  | n + 1, h => by
    have hx : κ + n < (bitsB b.toList).length := by omega
    have hg : (bitsB b.toList)[κ + n]? = some ((bitsB b.toList)[κ + n]) := List.getElem?_eq_getElem hx
    have h1 := bitAt_eq hg
    rw [readN, readN_eq n (by omega), List.take_add_one, List.getElem?_drop, hg]
    have e : (κ : Int) + (n : Int) = ((κ + n : Nat) : Int) := by omega
    rw [e, h1]
    show _ = ((valN (_ ++ [_]) : Nat) : Int)
    rw [valN_append_one]
    omega
/-- what the reader gives where the bits of a number lie -/
theorem read_at {b : Array UInt8} {pre l post : List Bool} (h : bitsB b.toList = pre ++ (l ++ post)) {k n : Int} (hk : k = (pre.length : Int)) (hn : n = (l.length : Int)) : readN b k n.toNat = ((valN l : Nat) : Int) := by
  subst hk hn
  rw [Int.toNat_natCast, readN_eq _ (by rw [h]; simp), h, List.drop_left, List.take_left]
theorem bitsB_inj : ∀ {l1 l2 : List UInt8}, bitsB l1 = bitsB l2 → l1 = l2
  | [], [], _ => rfl
  | [], c :: l, h => by have := congrArg List.length h; rw [bitsB_length, bitsB_length] at this; simp at this
  | c :: l, [], h => by have := congrArg List.length h; rw [bitsB_length, bitsB_length] at this; simp at this
  | c :: l, d :: l', h => by
    rw [bitsB_cons, bitsB_cons] at h
    obtain ⟨h1, h2⟩ := List.append_inj h (by rw [bitsN_length, bitsN_length])
    have e1 := valN_bitsN (v := c.toNat) (n := 8) c.toNat_lt
    have e2 := valN_bitsN (v := d.toNat) (n := 8) d.toNat_lt
    rw [h1, e2] at e1
    rw [bitsB_inj h2, UInt8.toNat_inj.mp e1.symm]
theorem bytes_eq {b b' : Array UInt8} (h : bitsB b.toList = bitsB b'.toList) : b = b' := Array.ext' (bitsB_inj h)
theorem pad_is {l : List Bool} {n : Nat} (h : n < 8) (h2 : (l.length + n) % 8 = 0) : n = padOf l := by
  unfold padOf
  rw [Int.fmod_eq_emod_of_nonneg _ (by decide)]
  omega
theorem rep_whole {b : Array UInt8} {r z : Int} {l : List Bool} (p : Rep b r z l) (z1 : z < 8) (h : l.length % 8 = 0) : bitsB b.toList = l := by
  rw [p.len, Nat.mul_add_mod, Nat.mod_eq_of_lt ((Int.toNat_lt p.1).mpr z1)] at h
  rw [p.2.2.2, h]
  exact (List.append_nil _).symm

end

-- part r2
section
-- needs: math1 math2 clean clean2 clean3 crules crules2 bridge head base base2 cfor nfor r1
local macro_rules | `(tactic| walk_at $s:str) => match s.getString with
  | "binaryOp Mult int int" => `(tactic| (with_reducible refine mul_int ?_ read_mulOk))
  | "call ref" => `(tactic| ((walk_at "MY head"); k_dflt ((with_reducible first | refine' Does.walkT bit_c ?B ?F ?X ?N ?T ?S ?M ?U ?H ?_ | refine' Does.walkT left_c ?B ?F ?X ?N ?T ?S ?M ?U ?H ?_); walk_at "MY tail"); intros; walk_at "MY rest"))
  | "exec For Name Call cons nil" | "pyIter ref" => `(tactic| walk_at "MY stop")
  | _ => Lean.Macro.throwUnsupported

set_option maxHeartbeats 4000000 in
theorem bits_does {prog : Program} {w : World} {x dx : Addr} {k n h1 h2 : Int} {k1 k2 t1 t2 u : Tok} {b : Array UInt8} (hn1 : x ≠ dx) (hb : b.size ≤ 100000) (q0 : 0 ≤ k) (n0 : 0 ≤ n) (q1 : k + n ≤ 8 * (b.size : Int)) :
    Does prog w 480 4000 156 [.ref x, .int n u] [(x, instObj 159 dx), (dx, dictOf (rEs h1 h2 k1 k2 b k t1 t2) 2)]
      (fun h' _ res => h'.get? x = some (instObj 159 dx) ∧ ∃ o', h'.get? dx = some o' ∧ (∃ t2', o' = dictOf (rEs h1 h2 k1 k2 b (k + n) t1 t2') 2) ∧ ∃ t, res = .int (readN b k n.toNat) t) := by
  intro fr base g s loose mean mg mb R B X T kg sz hN h
  k_dflt (refine' enter [(Str.ofString "self", Value.ref x), (Str.ofString "size", Value.int n u)] ?kB0 ?kX ?kT ?kg ?ksz ?kN ?k6 ?k7 ?k8 ?k9 ?kB ?_ ?c2 ?c3 ?c4 ?c5; (case kB0 | kX | kT | kg | ksz | kN => assumption); (case k6 | k7 => k_is); (case k8 => decide); (case k9 => exact BindsTo.of_eq rfl); (case c2 | c3 | c4 => exact rfl); (case c5 => decide); (case kB => exact locs rfl))
  clear B
  intro L' h' B' F' N' l1 lz
  (try dsimp only)
  have hn1' := hn1
  replace hn1 := neN hn1
  (try k_fold)
  walk_at "MY steps"
  unfold Marked
  refine wpAny_ForN ?_
  walk_at "MY steps"
  unfold Marked
  (with_reducible rename Fr _ _ _ _ => kF); (with_reducible rename News _ _ _ _ => kN); (with_reducible rename IsRange _ _ _ _ _ _ _ _ => rg)
  refine forN_range (n := n.toNat) (fun i m news => ∃ tF t2', (∀ p ∈ [(Str.ofString "self", Value.ref x), (Str.ofString "found", Value.int (readN b k i) tF)], m p.1 = some p.2) ∧ news = [(x, instObj 159 dx), (dx, dictOf (rEs h1 h2 k1 k2 b (k + (i : Nat)) t1 t2') 2)]) rfl rg (small_one (by omega) (by omega) (by omega) (by omega)) (by rw [rangeSize_nat, Int.sub_zero]) kF kN ⟨_, _, by kst_all, by rw [Int.natCast_zero, Int.add_zero]⟩ (fun s m news v Q E F N h => storeX_L F N h) ?_ ?_
  · clear kF kN rg
    rintro i m news h tk t I ob hi ⟨tF, t2', hm, rfl⟩ o₁ kF kN
    have i1 := neN (o₁ (x, _) (.head _))
    have i2 := neN (o₁ (dx, _) (.tail _ (.head _)))
    rw [kstB_self hm] at kF
    show wpAny _ _ _ _ _ _
    (try k_fold)
    walk_at "MY steps"
    (with_reducible rename Fr _ _ _ _ => kF); (with_reducible rename News _ _ _ _ => kN)
    have e9 : k + ((i + 1 : Nat) : Int) = k + (i : Int) + 1 := by omega
    refine EndTurn.intro (news' := [(x, instObj 159 dx), (dx, dictOf (rEs h1 h2 k1 k2 b (k + (i : Int) + 1) t1 _) 2)]) kF kN (by walk_at "MY sub") (all2 (P := fun q : Addr × Obj => q.1 ≠ I) (show x ≠ I from o₁ (x, _) (.head _)) (show dx ≠ I from o₁ (dx, _) (.tail _ (.head _)))) ⟨_, _, by kst_all, by rw [e9]⟩
  · rintro m news h' tk ⟨tF, t2', hm, rfl⟩ kF kN
    rw [kstB_self hm] at kF
    dsimp only
    (try k_fold)
    walk_at "MY steps"
    (with_reducible rename Fr _ _ _ _ => kF); (with_reducible rename News _ _ _ _ => kN)
    have e9 : k + (n.toNat : Int) = k + n := by omega
    rw [e9] at kN
    exact h _ _ _ kF.keep ⟨(kN (x, _) (by k_mem)).1, _, (kN (dx, _) (by k_mem)).1, ⟨_, rfl⟩, _, rfl⟩

end

-- part p1
section
-- needs: math1 clean clean2 clean3 crules crules2 bridge head base base2 f2
theorem pool_mulOk {x y : Int} (h0 : 0 ≤ y) (h1 : y ≤ 1) : IntMulOk x y := IntMulOk.of_right (intBits_le_64 (by omega) (by omega))
theorem newList_my {M : Model} {A : Around} {E : Value → Shared → Prop} {s : Shared} {h₀ : Heap} {L : Addr} {m : Str → Option Value} {news : List (Addr × Obj)} {vs : List Value} {Q : Value → Shared → Prop} (F : Fr h₀ L s.heap m) (N : News h₀ L s.heap news)
    (h : ∀ l h', Fr h₀ L h' m → News h₀ L h' ((l, listOf vs.toArray 0) :: news) → L < l → Q (.ref l) { s with heap := h' }) (hsz : vs.length ≤ sizeLine := by size_fits) : wpAny M A (newList vs) Q E s :=
  newList_N F N (fun h' F' N' => h _ h' F' N' F.ns.lt) hsz
local macro_rules | `(tactic| walk_at "MY none") => `(tactic| skip)
local macro_rules | `(tactic| walk_at "newList") => `(tactic| walk_at "MY stop")
theorem pool_big (c : Int) : 0 ≤ (if -1 - c > c then -1 - c else c) := by split <;> omega
theorem pool_fin {B M : Int} {P : Prop} [Decidable P] {ta tb : Tok} {n : Nat} (hB : 0 ≤ B) : SrcIs (listOf #[.int (B * if decide P = true then 1 else 0) ta, .int (Int.fmod M 2147483647) tb] n) := by
  refine ⟨_, _, _, _, _, rfl, ?_, fmod_in _ _ (by decide)⟩
  split <;> simp [hB]
set_option maxHeartbeats 4000000 in
theorem pool_does {prog : Program} {w : World} {l : Addr} {vs : List Value} {ns : List Int} (hi : IntsAre vs ns) (hz : vs.length ≤ 63)
    (fr : List Env) (base g : Heap) (s : Shared) (loose : List Str) (mean : ExcName → Option Value) (mg mb : Str → Option Value) (R : Result → Shared → Prop)
    (B : Below (Ar 500 4000 fr) base fr g) (X : (Mine.Head.hd.heap_39 w.params).In g) (T : Top Mine.Head.hd.view_39 loose mean mg mb g) (kg : Keeps g s.heap) (sz : g.objs.size ≤ s.heap.objs.size) (hl : g.IsList l vs.toArray)
    (h : ∀ h' tk v, Keeps g h' → (∃ D o', v = .ref D ∧ s.heap.objs.size ≤ D ∧ h'.get? D = some o' ∧ SrcIs o') → R (.ok (.ret v)) { s with heap := h', toks := tk }) :
    codeAny (model prog w) (Ar 500 4000 fr) (.call (.ref 170) ⟨[.ref l], []⟩) R s := by
  have hN : ∀ q ∈ ([] : List (Addr × Obj)), s.heap.get? q.1 = some q.2 ∧ g.get? q.1 = none := fun _ h => nomatch h
  k_dflt (refine' enter [(Str.ofString "script", Value.ref l)] ?kB0 ?kX ?kT ?kg ?ksz ?kN ?k6 ?k7 ?k8 ?k9 ?kB ?_ ?c2 ?c3 ?c4 ?c5; (case kB0 | kX | kT | kg | ksz | kN => assumption); (case k6 | k7 => k_is); (case k8 => decide); (case k9 => exact BindsTo.of_eq rfl); (case c2 | c3 | c4 => exact rfl); (case c5 => decide); (case kB => exact locs rfl))
  clear B
  intro L' h' B' F' N' l1 lz
  (try dsimp only)
  have hlen : vs.length = ns.length := hi.length
  (try k_fold)
  walk_at "MY steps"
  all_goals unfold Marked
  all_goals k_dflt (refine newList_my (by k_asm) (by k_asm) ?_)
  all_goals intros
  all_goals (try k_sweep)
  all_goals walk_at "MY steps"
  all_goals ((with_reducible rename Fr _ _ _ _ => kF); (with_reducible rename News _ _ _ _ => kN); (rename _ < _ => kL))
  all_goals exact h _ _ _ kF.keep ⟨_, _, rfl, Nat.le_trans lz (Nat.le_of_lt kL), (kN _ (.head _)).1, pool_fin (pool_big _)⟩

end

-- part t1
section
-- needs: math1 math2 math3 clean clean2 clean3 crules crules2 bridge head base base2 base3 cfor nfor comp
theorem fig_size {n : Int} (n0 : 0 ≤ n) : Builtin.Range.rangeSize (n - 1) (-1) (-1) = (n.toNat : Int) := by
  obtain ⟨k, rfl⟩ := Int.eq_ofNat_of_zero_le n0
  cases k with
  | zero => rfl
  | succ j =>
    unfold Builtin.Range.rangeSize
    rw [if_neg (by decide), Int.natCast_add, show ((1 : Nat) : Int) = 1 from rfl, Int.add_sub_cancel, if_pos (show (j : Int) > -1 from Int.lt_of_lt_of_le (by decide) (Int.natCast_nonneg j)), Int.neg_neg, Int.ediv_one, Int.sub_neg, Int.add_sub_cancel]
    rfl
theorem fig_small {n : Int} (n0 : 0 ≤ n) (n1 : n ≤ 15) : Builtin.Range.small (n - 1) (-1) (-1) = true := by
  have h1 : Builtin.Range.rangeFitsLong (-1) = true := by decide
  unfold Builtin.Range.small
  rw [fig_size n0, Int.toNat_of_nonneg n0, h1, fits_long (Int.le_trans (by decide) (Int.sub_le_sub_right n0 1)) (Int.le_trans (Int.sub_le_self n (by decide)) (Int.le_trans n1 (by decide))),
    fits_long (Int.le_trans (by decide) n0) (Int.le_trans n1 (by decide)), if_neg (by decide), show (-1 + (-1 + 1) : Int) = -1 from rfl, h1, Bool.or_true]
  rfl
theorem fig_at {n : Int} {i : Nat} (n0 : 0 ≤ n) (n1 : n ≤ 15) (hi : i < n.toNat) : 0 ≤ n - 1 + (i : Int) * (-1) ∧ n - 1 + (i : Int) * (-1) ≤ 14 := by
  obtain ⟨k, rfl⟩ := Int.eq_ofNat_of_zero_le n0
  rw [Int.toNat_natCast] at hi
  rw [Int.mul_neg, Int.mul_one, ← Int.sub_eq_add_neg]
  exact ⟨Int.sub_nonneg_of_le (Int.le_sub_one_of_lt (Int.ofNat_lt.mpr hi)), Int.le_trans (Int.sub_le_self _ (Int.natCast_nonneg i)) (Int.sub_le_sub_right n1 1)⟩
local macro_rules | `(tactic| walk_at $s:str) => match s.getString with
  | "eval ListComp" | "call builtin:str.join" | "pyIter ref" => `(tactic| walk_at "MY stop")
  | _ => Lean.Macro.throwUnsupported
theorem fig_idx {n : Int} {i : Nat} (n0 : 0 ≤ n) (hi : i < n.toNat) : (n - 1 + (i : Int) * (-1)).toNat = n.toNat - 1 - i := by
  obtain ⟨k, rfl⟩ := Int.eq_ofNat_of_zero_le n0
  rw [Int.mul_neg, Int.mul_one, ← Int.sub_eq_add_neg, Int.sub_sub, Int.toNat_natCast, Nat.sub_sub]
  exact Int.toNat_sub k (1 + i)
theorem sum_small {a : Nat} {n : Int} (h : a = 2 * min n.toNat n.toNat) (n1 : n ≤ 15) : a ≤ 1048576 := by
  rw [h, Nat.min_self]
  exact Nat.le_trans (Nat.mul_le_mul_left 2 (Int.toNat_le.mpr n1)) (by decide)
set_option maxHeartbeats 4000000 in
theorem figures_does {prog : Program} {w : World} {v n : Int} {u u' : Tok} (v0 : 0 ≤ v) (v1 : v < 32768) (n0 : 0 ≤ n) (n1 : n ≤ 15) :
    Does prog w 480 4000 196 [.int v u, .int n u'] [] (fun _ _ res => ∃ t, res = .str (textOf (bitsN v.toNat n.toNat)) t) := by
  intro fr base g s loose mean mg mb R B X T kg sz hN h
  k_dflt (refine' enterCell [(Str.ofString "worth", Value.int v u), (Str.ofString "size", Value.int n u')] ?kB0 ?kX ?kT ?kg ?ksz ?kN ?k6 ?k7 ?k8 ?k9 ?kB ?kD ?_ ?c2 ?c3 ?c4; (case kB0 | kX | kT | kg | ksz | kN => assumption); (case k6 | k7 => k_is); (case k8 => decide); (case k9 => exact BindsTo.of_eq rfl); (case c2 | c3 | c4 => exact rfl); (case kB => exact rfl); (case kD => decide +kernel))
  clear B
  intro L' h' tk' cells' B' F' N' Y' l1 lz
  k_cells Y'
  (try simp only [List.cons_append, List.nil_append] at N')
  (try dsimp only)
  (try k_fold)
  walk_at "MY steps"
  unfold Marked
  k_dflt (refine ListComp_my (by k_asm) (by with_unfolding_all rfl) (by decide) (by rfl) (by decide) (by rfl) ?_)
  walk_at "MY steps"
  unfold Marked
  (with_reducible rename Fr _ _ _ _ => kF); (with_reducible rename News _ _ _ _ => kN); (with_reducible rename IsRange _ _ _ _ _ _ _ _ => rg)
  refine lc_range (n := n.toNat) (fun i ys news => news = [(L' + 1, _)] ∧ StrsAre ys (((bitsN v.toNat n.toNat).take i).map figOf)) rfl rg (fig_small n0 n1) (fig_size n0) (by rw [sizeLine_eq]; omega) kF kN ⟨rfl, .nil⟩ ?_ ?_
  · clear kF kN rg
    rintro g' i ys news v' I oI C oC D m₂ h tk E' hi ⟨t, rfl⟩ ⟨rfl, hys⟩ hC hx kF kN off ne
    have hat := fig_at n0 n1 hi
    (try dsimp only at kN)
    (try simp only [LCg.Off3, and_true] at off)
    (try k_fold)
    walk_at "MY steps"
    (with_reducible rename Fr _ _ _ _ => kF); (with_reducible rename News _ _ _ _ => kN)
    refine EltEnd.intro (news' := [(L' + 1, _)]) kF kN (by walk_at "MY sub") ⟨off, trivial⟩ ⟨rfl, ?_⟩
    rw [bitsN_take hi, List.map_append, List.map_cons, List.map_nil, fig_bit v0 hat.1, fig_text]
    have e9 := fig_idx n0 hi
    rw [e9]
    exact strsAre_snoc hys _ _
  · clear kF kN rg
    rintro D ys news h' tk ⟨rfl, hys⟩ kF kN o1
    have hw := figs_weight ((bitsN v.toNat n.toNat).take n.toNat)
    rw [List.length_take, bitsN_length] at hw
    have hw2 : ((((bitsN v.toNat n.toNat).take n.toNat).map figOf).map (·.length)).sum + (((bitsN v.toNat n.toNat).take n.toNat).map figOf).length ≤ 1048576 := sum_small hw n1
    clear hw
    dsimp only
    walk_at "MY steps"
    unfold Marked
    walk_at "MY head"
    k_dflt ((with_reducible refine' join_listW (News.isList ?N ?M) ?S (by decide) ?W ?_); (case N => k_asm); (case M => k_mem); (case S | W => assumption))
    intros
    walk_at "MY steps"
    (with_reducible rename Fr _ _ _ _ => kF)
    refine h _ _ _ kF.keep ⟨_, congrArg (Value.str · _) ?_⟩
    rw [join_figs, List.take_of_length_le (Nat.le_of_eq (bitsN_length _ _))]

end

-- part t2
section
-- needs: math1 math2 math3 clean clean2 clean3 crules crules2 bridge head base base2 base3 cfor nfor comp t1
noncomputable def turnOf (v : Int) (l : List Bool) : List Bool := if v < 0 then l.map (!·) else l
theorem turnOf_pos {v : Int} {l : List Bool} (h : ¬ v < 0) : turnOf v l = l := if_neg h
theorem turnOf_neg {v : Int} {l : List Bool} (h : v < 0) : turnOf v l = l.map (!·) := if_pos h
local macro_rules | `(tactic| walk_at "call ref") => `(tactic| walk_at "MY stop")
local macro_rules | `(tactic| walk_at $s:str) => match s.getString with
  | "eval ListComp" | "call builtin:str.join" | "pyIter str" => `(tactic| walk_at "MY stop")
  | _ => Lean.Macro.throwUnsupported
set_option maxHeartbeats 4000000 in
theorem turned_does {prog : Program} {w : World} {v n : Int} {u u' : Tok} (v0 : -32767 ≤ v) (v1 : v ≤ 32767) (n0 : 0 ≤ n) (n1 : n ≤ 15) :
    Does prog w 460 3500 201 [.int v u, .int n u'] [] (fun _ _ res => ∃ t, res = .str (textOf (turnOf v (bitsN (absI v).toNat n.toNat))) t) := by
  intro fr base g s loose mean mg mb R B X T kg sz hN h
  k_dflt (refine' enter [(Str.ofString "number", Value.int v u), (Str.ofString "size", Value.int n u')] ?kB0 ?kX ?kT ?kg ?ksz ?kN ?k6 ?k7 ?k8 ?k9 ?kB ?_ ?c2 ?c3 ?c4 ?c5; (case kB0 | kX | kT | kg | ksz | kN => assumption); (case k6 | k7 => k_is); (case k8 => decide); (case k9 => exact BindsTo.of_eq rfl); (case c2 | c3 | c4 => exact rfl); (case c5 => decide); (case kB => exact locs rfl))
  clear B
  intro L' h' B' F' N' l1 lz
  (try dsimp only)
  (try k_fold)
  walk_at "MY steps"
  unfold Marked
  walk_at "MY head"
  k_dflt ((with_reducible refine' Does.walkV (figures_does ?a0 ?a1 ?a2 ?a3) ?B ?F ?X ?N ?T ?S ?_); walk_at "MY five"; (case a0 | a1 | a2 | a3 => first | omega | assumption))
  intros
  walk_at "MY rest"
  walk_at "MY steps"
  · (with_reducible rename Fr _ _ _ _ => kF)
    refine h _ _ _ kF.keep ⟨_, congrArg (Value.str · _) ?_⟩
    rw [turnOf_pos (by omega)]
    rfl
  · unfold Marked
    k_dflt (refine ListComp_my (by k_asm) (by with_unfolding_all rfl) (by decide) (by rfl) (by decide) (by rfl) ?_)
    walk_at "MY steps"
    unfold Marked
    (with_reducible rename Fr _ _ _ _ => kF); (with_reducible rename News _ _ _ _ => kN)
    have hl := bitsN_length (if v < 0 then -v else v).toNat n.toNat
    have fin : turnOf v (bitsN (absI v).toNat n.toNat) = (bitsN (if v < 0 then -v else v).toNat n.toNat).map (!·) := by
      rw [turnOf_neg (by omega)]
      rfl
    generalize bitsN (if v < 0 then -v else v).toNat n.toNat = l at hl fin kF ⊢
    refine lc_str (fun i ys news => news = [] ∧ StrsAre ys (((l.map (!·)).take i).map figOf)) rfl (by rw [textOf_size, sizeLine_eq]; omega) kF kN ⟨rfl, .nil⟩ ?_ ?_
    · clear kF kN
      rintro g' i ys news v' I oI C oC D m₂ h tk E' hi ⟨c, tv, hc, rfl⟩ ⟨rfl, hys⟩ hC hx kF kN off ne
      obtain ⟨b, hb, rfl⟩ := textOf_get hc
      have hn : ((l.map (!·)).take (i + 1)) = (l.map (!·)).take i ++ [!b] := by
        rw [List.take_add_one, List.getElem?_map, hb]
        rfl
      (try dsimp only at kN)
      cases b
      · rw [zero_text] at hx
        (try k_fold)
        walk_at "MY steps"
        (with_reducible rename Fr _ _ _ _ => kF); (with_reducible rename News _ _ _ _ => kN)
        refine EltEnd.intro (news' := []) kF kN (by walk_at "MY sub") trivial ⟨rfl, ?_⟩
        rw [hn, List.map_append, List.map_cons, List.map_nil]
        exact fig_one ▸ strsAre_snoc hys _ _
      · rw [one_text] at hx
        (try k_fold)
        walk_at "MY steps"
        (with_reducible rename Fr _ _ _ _ => kF); (with_reducible rename News _ _ _ _ => kN)
        refine EltEnd.intro (news' := []) kF kN (by walk_at "MY sub") trivial ⟨rfl, ?_⟩
        rw [hn, List.map_append, List.map_cons, List.map_nil]
        exact fig_zero ▸ strsAre_snoc hys _ _
    · clear kF kN
      rintro D ys news h' tk ⟨rfl, hys⟩ kF kN o1
      have hs := textOf_size l
      have hw2 := figs_fit ((l.map (!·)).take (textOf l).cps.size) (by rw [List.length_take, List.length_map]; omega)
      dsimp only
      walk_at "MY steps"
      unfold Marked
      walk_at "MY head"
      k_dflt ((with_reducible refine' join_listW (News.isList ?N ?M) ?S (by decide) ?W ?_); (case N => k_asm); (case M => k_mem); (case S | W => assumption))
      intros
      walk_at "MY steps"
      (with_reducible rename Fr _ _ _ _ => kF)
      refine h _ _ _ kF.keep ⟨_, congrArg (Value.str · _) ?_⟩
      rw [join_figs, fin, List.take_of_length_le (by rw [List.length_map, textOf_size]; exact Nat.le_refl _)]

end

-- part t3
section
-- needs: math1 math2 math3 math4 int2 clean clean2 clean3 crules crules2 bridge head base base2 base3 cfor nfor comp
theorem oct_size {n : Nat} (h : n % 8 = 0) : Builtin.Range.rangeSize 0 (n : Int) 8 = ((n / 8 : Nat) : Int) := by
  obtain ⟨k, rfl⟩ := Nat.dvd_of_mod_eq_zero h
  rw [Nat.mul_div_cancel_left k (by decide)]
  cases k with
  | zero => rfl
  | succ j =>
    unfold Builtin.Range.rangeSize
    rw [if_pos (by decide), if_pos (Int.natCast_pos.mpr (Nat.mul_pos (by decide) (Nat.succ_pos j))), Int.sub_zero]
    have e : ((8 * (j + 1) : Nat) : Int) - 1 = ((8 * j + 7 : Nat) : Int) := Int.add_sub_cancel ((8 * j + 7 : Nat) : Int) 1
    have e2 : ((8 * j + 7 : Nat) : Int) / 8 = (((8 * j + 7) / 8 : Nat) : Int) := rfl
    rw [e, e2, Nat.mul_add_div (by decide)]
    rfl
theorem oct_small {n : Nat} (h : n % 8 = 0 ∧ n ≤ 1007) : Builtin.Range.small 0 (n : Int) 8 = true := by
  have n0 := Int.natCast_nonneg n
  have n1 : (n : Int) ≤ 1007 := Int.ofNat_le.mpr h.2
  unfold Builtin.Range.small
  rw [oct_size h.1, fits_long (by decide) (by decide), fits_long (Int.le_trans (by decide) n0) (Int.le_trans n1 (by decide)), fits_long (by decide) (by decide),
    fits_long (Int.le_trans (by decide) (Int.natCast_nonneg _)) (Int.ofNat_le.mpr (Nat.le_trans (Nat.div_le_self n 8) (Nat.le_trans h.2 (by decide)))), if_pos (by decide),
    fits_long (Int.le_trans (by decide) (Int.add_nonneg n0 (by decide))) (Int.le_trans (Int.add_le_add_right n1 _) (by decide)), Bool.or_true]
  rfl
theorem add_text {prog : Program} {w : World} {A : Around} {E : Value → Shared → Prop} {s : Shared} {x y : Str} {t u : Tok} {Q : Value → Shared → Prop} (hsz : x.length + y.length ≤ sizeLine) (h : ∀ t' tk, Q (.str (x ++ y) t') { s with toks := tk }) : wpAny (model prog w) A (binaryOp .Add (.str x t) (.str y u)) Q E s := PyProof.Rows.add_str h hsz
local macro_rules | `(tactic| walk_at $s:str) => match s.getString with
  | "eval ListComp" | "binaryOp Add str str" | "call type:int" | "call type:bytes" | "pyIter ref" => `(tactic| walk_at "MY stop")
  | _ => Lean.Macro.throwUnsupported
set_option maxHeartbeats 4000000 in
theorem loctets_does {prog : Program} {w : World} {l : List Bool} {u : Tok} (hl : l.length ≤ 1000) :
    Does prog w 460 3500 206 [.str (textOf l) u] [] (fun _ _ res => ∃ b t, res = .bytes b t ∧ bitsB b.toList = l ++ List.replicate (padOf l) true) := by
  intro fr base g s loose mean mg mb R B X T kg sz hN h
  k_dflt (refine' enterCell [(Str.ofString "text", Value.str (textOf l) u)] ?kB0 ?kX ?kT ?kg ?ksz ?kN ?k6 ?k7 ?k8 ?k9 ?kB ?kD ?_ ?c2 ?c3 ?c4; (case kB0 | kX | kT | kg | ksz | kN => assumption); (case k6 | k7 => k_is); (case k8 => decide); (case k9 => exact BindsTo.of_eq rfl); (case c2 | c3 | c4 => exact rfl); (case kB => exact rfl); (case kD => decide +kernel))
  clear B
  intro L' h' tk' cells' B' F' N' Y' l1 lz
  k_cells Y'
  (try simp only [List.cons_append, List.nil_append] at N')
  (try dsimp only)
  have hlen := textOf_length l
  (try k_fold)
  walk_at "MY steps"
  unfold Marked
  rw [ones_text]
  have hpl := pad_low l.length
  refine add_text (by rw [hlen, textOf_length, List.length_replicate, sizeLine_eq]; omega) fun t2 k2 => ?_
  rw [textOf_append]
  have hpe : (Int.fmod (-((textOf l).length : Int)) 8).toNat = padOf l := by rw [hlen]; rfl
  rw [hpe]
  have h8 : (l ++ List.replicate (padOf l) true).length % 8 = 0 := by
    rw [List.length_append, List.length_replicate]
    exact pad_len _
  have h9 : (l ++ List.replicate (padOf l) true).length ≤ 1007 := by
    rw [List.length_append, List.length_replicate]
    unfold padOf
    omega
  generalize l ++ List.replicate (padOf l) true = l2 at h8 h9 h ⊢
  have hlen2 := textOf_length l2
  walk_at "MY steps"
  unfold Marked
  k_dflt (refine ListComp_my (by k_asm) (by with_unfolding_all rfl) (by decide) (by rfl) (by decide) (by rfl) ?_)
  walk_at "MY steps"
  unfold Marked
  (with_reducible rename Fr _ _ _ _ => kF); (with_reducible rename News _ _ _ _ => kN); (with_reducible rename IsRange _ _ _ _ _ _ _ _ => rg)
  refine lc_range (n := l2.length / 8) (fun i ys news => news = [(L' + 1, _)] ∧ IntsAre ys (octs l2 i)) rfl rg (by rw [hlen2]; exact oct_small (by omega)) (by rw [hlen2]; exact oct_size (by omega)) (by rw [sizeLine_eq]; omega) kF kN ⟨rfl, .nil⟩ ?_ ?_
  · clear kF kN rg
    rintro g' i ys news v' I oI C oC D m₂ h tk E' hi ⟨t, rfl⟩ ⟨rfl, hys⟩ hC hx kF kN off ne
    (try dsimp only at kN)
    (try simp only [LCg.Off3, and_true] at off)
    (try k_fold)
    walk_at "MY steps"
    unfold Marked
    have hb : 8 * i + 8 ≤ l2.length := by omega
    rw [slice_bits hb]
    refine int_bits (by rw [List.length_take, List.length_drop]; exact Nat.min_eq_left (Nat.le_sub_of_add_le (by rw [Nat.add_comm]; exact hb))) ?_
    walk_at "MY steps"
    (with_reducible rename Fr _ _ _ _ => kF); (with_reducible rename News _ _ _ _ => kN)
    refine EltEnd.intro (news' := [(L' + 1, _)]) kF kN (by walk_at "MY sub") ⟨off, trivial⟩ ⟨rfl, ?_⟩
    rw [octs_succ]
    exact intsAre_snoc hys _ _
  · clear kF kN rg
    rintro D ys news h' tk ⟨rfl, hys⟩ kF kN o1
    dsimp only
    walk_at "MY steps"
    unfold Marked
    (with_reducible rename Fr _ _ _ _ => kF); (with_reducible rename News _ _ _ _ => kN)
    have hyl := hys.length
    have hol : (octs l2 (l2.length / 8)).length = l2.length / 8 := by unfold octs; rw [List.length_map, List.length_range]
    refine bytes_K kF kN (News.isList kN (.head _)) hys octs_in (by rw [sizeLine_eq]; omega) rfl fun h2 t3 k3 kF2 kN2 _ => ?_
    walk_at "MY steps"
    refine h _ _ _ kF2.keep ⟨_, _, rfl, ?_⟩
    rw [List.toList_toArray, octs_bits _ (by omega), List.take_of_length_le (by omega)]

end

-- part x0
section
-- needs: math1 math2 clean clean2 clean3 crules crules2 bridge head base base2 base3 cfor nfor
noncomputable abbrev excObj (C : Addr) (d : Option Addr) (t : Addr) : Obj := { cls := .ref C, dict := d, data := .fields #[.ref t, .none, .none, .none, .bool false, .none] }
noncomputable def Cls77 (K : Frag) : Prop := ∃ nm q N bs sn sub ab col dd k0 k1 k2 k3 k5, K.lookup 77 = some (excClassObj nm q 77 N bs [.ref 52, .type "Exception", .type "BaseException", .type "object"] true sn sub ab col dd k0 k1 k2 k3 k5 "Exception.__new__")
theorem cls77_mk {K : Frag} {nm q : Str} {N : Addr} {bs : List Value} {sn : List Str} {sub : List Value} {ab : Bool} {col : Option Bool} {dd : Option Addr} {k0 k1 k2 k3 k5 : Option Value}
    (h : K.lookup 77 = some (excClassObj nm q 77 N bs [.ref 52, .type "Exception", .type "BaseException", .type "object"] true sn sub ab col dd k0 k1 k2 k3 k5 "Exception.__new__")) : Cls77 K := ⟨_, _, _, _, _, _, _, _, _, _, _, _, _, _, h⟩
theorem cls77 (P : World) : Cls77 (Mine.Head.hd.heap_39 P.params) := by
  refine' cls77_mk ?h
  case h => k_dflt k_is
theorem init77 (P : World) : findIn (Mine.Head.hd.heap_39 P.params) (.ref 77) "__init__" = some (some (.ref 49)) := by k_dflt k_is
theorem fn49 (P : World) : typeIn (Mine.Head.hd.heap_39 P.params) (.ref 49) = some (.type "function") := by k_dflt k_is
theorem exc_meta : typeOf (.type "Exception") = pure (.type "type") := by kernel_rfl
theorem check77 {M : Model} {A : Around} {E : Value → Shared → Prop} {h : Heap} {g : Array GenState} {d : Drawn} {t : Nat} {os : OsState} {nm q : Str} {C N : Addr} {bs : List Value} {hdct : Bool} {sn : List Str} {sub : List Value} {ab : Bool} {col : Option Bool} {dd : Option Addr} {k0 k1 k2 k3 k5 : Option Value}
    {e : Addr} {oe : Obj} {rest : List Value} {Q : Unit → Shared → Prop}
    (hC : h.get? C = some (excClassObj nm q C N bs [.ref 52, .type "Exception", .type "BaseException", .type "object"] hdct sn sub ab col dd k0 k1 k2 k3 k5 "Exception.__new__")) (he : h.get? e = some oe) (hcls : oe.cls = .ref C) (hq : Q () ⟨h, g, d, t, os⟩) :
    wpAny M A (checkBuiltinCall "Exception.__init__" ⟨.ref e :: rest, []⟩) Q E ⟨h, g, d, t, os⟩ := by
  have F := F.excBase_Exception
  have hcB : (Value.ref C :: [.ref 52, .type "Exception", .type "BaseException", .type "object"]).contains (.type "Exception") = true := by rw [List.contains_cons]; rfl
  have hshort := F.noStar
  simp only [checkBuiltinCall, F.initKind, F.initSplit, F.initRow]
  repeat (first | (with_reducible refine wpAny_loadPart_at he ?_; rw [hcls]) | with_reducible refine wpAny_loadPart_at hC ?_ | (with_reducible refine wpAny_isSubtype_exc hC ?_; rw [hcB]) | wp_step)
  refine wpAny_onRaise ?_
  rw [show ∀ (a b : String) (n : Nat), Bind.check ⟨.positional, "*", "Exception", .self, [⟨"args", .varPos, false⟩]⟩ a b n (List.map (fun x => x.fst) ({ pos := Value.ref e :: rest } : Args).kw) = pure () from
    fun a b n => check_star_args _ _ _ _ _ _]
  exact wpAny_pure hq
theorem exc_init {prog : Program} {P : World} {A : Around} {E : Value → Shared → Prop} {s : Shared} {Q : Value → Shared → Prop} {e t0 : Addr} {d : Option Addr} {v : Value} (X : (Mine.Head.hd.heap_39 P.params).In s.heap) (he : s.heap.get? e = some (excObj 77 d t0))
    (q : Q .none { s with heap := (s.heap.push { cls := .type "tuple", data := .seq #[v] }).update e (Obj.mapFields (·.setIfInBounds 0 (.ref s.heap.objs.size))) }) :
    wpAny (model prog P) A (call (.builtin "Exception.__init__") [.ref e, v]) Q E s := by
  obtain ⟨nm, q', N, bs, sn, sub, ab, col, dd, k0, k1, k2, k3, k5, hC⟩ := cls77 P
  have hC' := X _ _ hC
  obtain ⟨h, g, dr, t, os⟩ := s
  dsimp only at he hC' q
  have F := F.excBase_Exception
  refine wpAny_call (codeAny_call_builtin F.init.plain F.initEntry (check77 hC' he rfl ?_))
  wp_walk
  exact q
theorem exc_initK {prog : Program} {P : World} {A : Around} {E : Value → Shared → Prop} {s : Shared} {Q : Value → Shared → Prop} {h₀ : Heap} {L e t0 : Addr} {d : Option Addr} {v : Value} {m : Str → Option Value} {news : List (Addr × Obj)} {G : Obj → List (Addr × Obj)} (X : (Mine.Head.hd.heap_39 P.params).In h₀) (F : Fr h₀ L s.heap m) (N : News h₀ L s.heap news)
    (U : UpdF e (excObj 77 d t0) news G) (q : ∀ h' t, Fr h₀ L h' m → News h₀ L h' (G (excObj 77 d t)) → Q .none { s with heap := h' }) :
    wpAny (model prog P) A (call (.builtin "Exception.__init__") [.ref e, v]) Q E s := by
  obtain ⟨pre, post, rfl, hG, h1, h2⟩ := U.split
  have z := N (e, excObj 77 d t0) (List.mem_append.mpr (.inr (.head _)))
  refine exc_init (X.keeps F.keep) z.1 ?_
  obtain ⟨F', N'⟩ := news_upd (f := Obj.mapFields (·.setIfInBounds 0 (.ref s.heap.objs.size))) (o := excObj 77 d t0) (o' := excObj 77 d s.heap.objs.size) (F.push { cls := .type "tuple", data := .seq #[v] }) (fun q hq => ⟨Heap.get?_push_of_some _ (N q hq).1, (N q hq).2⟩) h1 h2 rfl rfl
  exact q _ _ F' (hG _ ▸ N')
theorem set77 (P : World) : findIn (Mine.Head.hd.heap_39 P.params) (.ref 77) "__setattr__" = some (some (.builtin "object.__setattr__")) := by k_dflt k_is
theorem msg77 (P : World) : findIn (Mine.Head.hd.heap_39 P.params) (.ref 77) (Str.ofString "message") = some none := by k_dflt k_is
theorem refuse77 (self : Value) : refuseLoop self "__setattr__" [.ref 77, .ref 52, .type "Exception", .type "BaseException", .type "object"] = pure () := by
  rw [refuseLoop_ref, refuseLoop_ref]
  kernel_rfl
theorem exc_set {prog : Program} {P : World} {A : Around} {E : Value → Shared → Prop} {s : Shared} {Q : Unit → Shared → Prop} {e : Addr} {v : Value} {o : Obj} (X : (Mine.Head.hd.heap_39 P.params).In s.heap) (he : s.heap.get? e = some o) (hc : o.cls = .ref 77) (hdn : o.dict = none) (hnc : ∀ c, o.data ≠ .cls c)
    (q : ∀ h' tk', (∀ b o, b ≠ e → s.heap.get? b = some o → h'.get? b = some o) → h'.get? e = some { cls := o.cls, dict := some s.heap.objs.size, data := o.data, slots := o.slots } → Q () { s with heap := h', toks := tk' }) :
    wpAny (model prog P) A (setAttr (.ref e) (Str.ofString "message") v) Q E s := by
  obtain ⟨nm, q', N, bs, sn, sub, ab, col, dd, k0, k1, k2, k3, k5, hC⟩ := cls77 P
  have hC' := X _ _ hC
  obtain ⟨h, g, dr, tk, os⟩ := s
  dsimp only at he hC' q X
  have SF := PySem.F.store_object
  have ty : Looks (model prog P) h (typeOf (.ref e)) (.ref 77) := hc ▸ (Looks.ld he).andThen .now
  have isO : Looks (model prog P) h (isInstance (.ref e) (.type "object")) true := ty.andThen (((Looks.ld (part := none) hC').andThen .now).andThen .now)
  have hm : Looks (model prog P) h (mroOf (.ref 77)) [.ref 77, .ref 52, .type "Exception", .type "BaseException", .type "object"] := ((Looks.ld (part := none) hC').andThen .now).andThen .now
  have ms := looks_findIn (M := model prog P) X (msg77 P)
  have st := looks_findIn (M := model prog P) X (set77 P)
  have hxs : e ≠ h.objs.size := Nat.ne_of_lt (Heap.lt_size he)
  refine wpAny_bind (wpAny_mkText (wpAny_bind (wpAny_bind (wpAny_bind (ty.at (st.at (wpAny_holding ?_)))))))
  rw [SF.slot.bind]
  refine wpAny_bind (wpAny_pure (wpAny_bind (wpAny_call ?_)))
  refine codeAny_call_builtin SF.slot.plain SF.entry (@check_slot (model prog P) _ _ _ "object.__setattr__" "object" "__setattr__" (.ref e) [.str (Str.ofString "message") tk, v] [] _ SF.kind SF.split isO (SF.args (.ref e) _ v) ?_)
  rw [List.cons_append, List.nil_append, osa_eq, refuse_eq]
  refine wpAny_bind (wpAny_bind (ty.at (wpAny_bind (hm.at ?_))))
  rw [refuse77]
  refine wpAny_pure (wpAny_bind (ty.at (wpAny_bind (ms.at (wpAny_bind (wpAny_pure ?_))))))
  unfold Builtin.ObjectAttr.storeInOwnDict
  repeat (first | (with_reducible refine wpAny_loadPart_at he ?_; rw [hc]) | (with_reducible refine wpAny_loadPart_at hC' ?_) | wp_step)
  rw [hdn, if_neg (by simp [typeHasDict])]
  split
  · rename_i hcd
    cases hcd
  split
  · rename_i c hcd
    exact absurd hcd (hnc c)
  · have hx₁ : (h.push { cls := .type "dict", data := .dict #[] }).get? e = some o := Heap.get?_push_of_some _ he
    refine wpAny_bind (wpAny_alloc' ?_)
    refine wpAny_bind (wpAny_update' hx₁ ?_)
    refine wpAny_pure ?_
    have hgd : ((h.push { cls := .type "dict", data := .dict #[] }).update e fun o => { cls := o.cls, dict := some h.objs.size, data := o.data, slots := o.slots }).get? h.objs.size
        = some { cls := .type "dict", data := .dict #[] } :=
      (Heap.get?_update_ne _ _ _ _ hxs.symm).trans (Heap.get?_push_at rfl rfl)
    have hnd : ((h.push { cls := .type "dict", data := .dict #[] }).update e fun o => { cls := o.cls, dict := some h.objs.size, data := o.data, slots := o.slots }).Ns h.objs.size (fun _ => none) :=
      ⟨_, #[], _, hgd, rfl, fun e he => absurd he (by simp), fun _ => rfl⟩
    show wpAny _ _ (Builtin.ObjectAttr.storeInDict h.objs.size (.str (Str.ofString "message") tk) (Str.ofString "message") v) _ _ _
    unfold Builtin.ObjectAttr.storeInDict Builtin.ObjectAttr.newKeyGuard
    refine wpAny_bind (wpAny_pure (wpAny_bind (wpAny_nsSet1 (Heap.Ns1.of_empty hnd) fun h' hn' hs => ?_)))
    obtain ⟨oD, esD, epD, hoD, hdD, hcD⟩ := hn'.count (Within.cons (Str.ofString "message") v Within.nil)
    refine wpAny_bind (wpAny_lookBehind hoD (by rw [hdD]; exact pastItsLine_dict (Nat.le_trans hcD (by rw [List.length_cons, List.length_nil, sizeLine_eq]; omega))) ?_)
    wp_walk
    refine q h' _ (fun b ob hbx hb => ?_) ?_
    · exact (hs.2 b (Nat.ne_of_lt (Heap.lt_size hb))).trans ((Heap.get?_update_ne _ _ _ _ hbx).trans (Heap.get?_push_of_some _ hb))
    · refine (hs.2 e hxs).trans (Heap.get?_update_self _ hx₁ ?_)
      have hfr := (Heap.get?_some_iff.mp he).2
      obtain ⟨oc, od, odt, osl⟩ := o
      cases odt <;> first | rfl | exact hfr
theorem exc_setK {prog : Program} {P : World} {A : Around} {E : Value → Shared → Prop} {s : Shared} {Q : Unit → Shared → Prop} {h₀ : Heap} {L e t0 : Addr} {v : Value} {m : Str → Option Value} {news : List (Addr × Obj)} {G : Obj → List (Addr × Obj)} (X : (Mine.Head.hd.heap_39 P.params).In h₀) (F : Fr h₀ L s.heap m) (N : News h₀ L s.heap news)
    (U : UpdF e (excObj 77 none t0) news G) (q : ∀ h' d tk, Fr h₀ L h' m → News h₀ L h' (G (excObj 77 (some d) t0)) → Q () { s with heap := h', toks := tk }) :
    wpAny (model prog P) A (setAttr (.ref e) (Str.ofString "message") v) Q E s := by
  obtain ⟨pre, post, rfl, hG, h1, h2⟩ := U.split
  have z := N (e, excObj 77 none t0) (List.mem_append.mpr (.inr (.head _)))
  refine exc_set (X.keeps F.keep) z.1 rfl rfl (fun c => by intro h; cases h) fun h' tk' hk hx => ?_
  have hk' : ∀ b o, b ∉ [e] → s.heap.get? b = some o → h'.get? b = some o := fun b o hb => hk b o fun q => hb (List.mem_singleton.mpr q)
  refine q h' s.heap.objs.size tk' (Fr.moved F hk' z.2.1 z.2.2) ?_
  rw [hG]
  intro q hq
  rcases List.mem_append.mp hq with hm | hm
  · exact ⟨hk _ _ (h1 q hm) (N q (List.mem_append_left _ hm)).1, (N q (List.mem_append_left _ hm)).2⟩
  · rcases List.mem_cons.mp hm with rfl | hm
    · exact ⟨hx, z.2⟩
    · exact ⟨hk _ _ (h2 q hm) (N q (List.mem_append_right _ (.tail _ hm))).1, (N q (List.mem_append_right _ (.tail _ hm))).2⟩
local macro_rules | `(tactic| walk_at "setAttr ref") => `(tactic| walk_at "MY stop")
local macro_rules | `(tactic| walk_at $s:str) => match s.getString with
  | "getMethod type:Exception" | "call builtin:Exception.__init__" => `(tactic| walk_at "MY stop")
  | _ => Lean.Macro.throwUnsupported
set_option maxHeartbeats 4000000 in
theorem init49_does {prog : Program} {w : World} {e t0 : Addr} {u : Tok} {msg : Str} :
    Does prog w 560 7000 49 [.ref e, .str msg u] [(e, excObj 77 none t0)]
      (fun h' sz res => ∃ o', h'.get? e = some o' ∧ (∃ d t, o' = excObj 77 d t) ∧ res = .none) := by
  intro fr base g s loose mean mg mb R B X T kg sz hN h
  k_dflt (refine' enter [(Str.ofString "self", Value.ref e), (Str.ofString "message", Value.str msg u)] ?kB0 ?kX ?kT ?kg ?ksz ?kN ?k6 ?k7 ?k8 ?k9 ?kB ?_ ?c2 ?c3 ?c4 ?c5; (case kB0 | kX | kT | kg | ksz | kN => assumption); (case k6 | k7 => k_is); (case k8 => decide); (case k9 => exact BindsTo.of_eq rfl); (case c2 | c3 | c4 => exact rfl); (case c5 => decide); (case kB => exact locs rfl))
  clear B
  intro L' h' B' F' N' l1 lz
  (try dsimp only)
  (try k_fold)
  walk_at "MY steps"
  unfold Marked
  refine method_type (by k_asm) (by k_asm) exc_meta (by decide +kernel) (by k_dflt k_is) (by k_handed) ?_
  walk_at "MY steps"
  unfold Marked
  k_dflt (refine exc_initK (by k_asm) (by k_asm) (by k_asm) (by k_updF) ?_)
  intros
  (try k_sweep)
  walk_at "MY steps"
  unfold Marked
  k_dflt (refine exc_setK (by k_asm) (by k_asm) (by k_asm) (by k_updF) ?_)
  intros
  (try k_sweep)
  walk_at "MY steps"
  (with_reducible rename Fr _ _ _ _ => kF); (with_reducible rename News _ _ _ _ => kN)
  exact h _ _ _ kF.keep ⟨_, (kN (e, _) (by k_mem)).1, ⟨_, _, rfl⟩, rfl⟩

end

-- part x1
section
-- needs: math1 math2 clean clean2 clean3 crules crules2 bridge head base base2 base3 cfor nfor w0 x0
section
variable {M : Model} {A : Around} {E : Value → Shared → Prop} {h : Heap} {g : Array GenState} {d : Drawn} {t : Nat} {os : OsState} {nm q : Str} {N : Addr} {bs : List Value} {sn : List Str} {sub : List Value} {ab : Bool} {col : Option Bool} {dd : Option Addr} {k0 k1 k2 k3 k5 : Option Value}
noncomputable abbrev mro77 : List Value := [.ref 52, .type "Exception", .type "BaseException", .type "object"]
theorem checkNew77 {rest : List Value} {Q : Unit → Shared → Prop} (hC : h.get? 77 = some (excClassObj nm q 77 N bs mro77 true sn sub ab col dd k0 k1 k2 k3 k5 "Exception.__new__"))
    (hq : Q () ⟨h, g, d, t, os⟩) : wpAny M A (checkBuiltinCall "Exception.__new__" ⟨.ref 77 :: rest, []⟩) Q E ⟨h, g, d, t, os⟩ :=
  wpAny_check_new_subU F.excBase_Exception (by decide) .base hC hq
end
section
variable {prog : Program} {w : World} {A : Around} {R : Result → Shared → Prop} {h : Heap} {g : Array GenState} {d : Drawn} {t : Nat} {os : OsState} {nm q : Str} {N : Addr} {bs : List Value} {sn : List Str} {sub : List Value} {ab : Bool} {col : Option Bool} {dd : Option Addr} {k0 k1 k2 k3 k5 : Option Value}
theorem new77 {rest : List Value} (hC : h.get? 77 = some (excClassObj nm q 77 N bs mro77 true sn sub ab col dd k0 k1 k2 k3 k5 "Exception.__new__"))
    (hq : R (.ok (.ret (.ref (h.objs.size + 1)))) ⟨(h.push { cls := .type "tuple", data := .seq rest.toArray }).push (excObj 77 none h.objs.size), g, d, t, os⟩) (hrest : rest.length ≤ sizeLine) :
    codeAny (model prog w) A (.builtin "Exception.__new__" ⟨.ref 77 :: rest, []⟩) R ⟨h, g, d, t, os⟩ := by
  have F := F.excBase_Exception
  have hends := F.ends
  have hcB : (Value.ref 77 :: mro77).contains (.type "Exception") = true := by decide
  have hcA : (Value.ref 77 :: mro77).contains (.type "AttributeError") = false := by decide
  have hcN : (Value.ref 77 :: mro77).contains (.type "NameError") = false := by decide
  refine PySem.codeAny_builtinAt F.entry ?_
  unfold Builtin.«BaseException.__new__»
  refine PySem.wpAt_bind ?_
  show PySem.wpAt _ _ _ (stack >>= _) _ _ _
  refine PySem.wpAt_bind (PySem.wpAt_stack fun p below => PySem.wpAt_of_wpAny ?_)
  wp_walk
  refine PySem.wpAt_of_wpAny ?_
  rw [F.owner]
  repeat (first | with_reducible refine wpAny_madeHere_exc F.canon hC ?_ | with_reducible refine wpAny_loadPart_at hC ?_ | (with_reducible refine wpAny_isSubtype_exc hC ?_; first | rw [hcB] | rw [hcA] | rw [hcN]) | wp_step)
  show R _ _
  rw [Heap.size_push]
  exact hq
end

set_option maxHeartbeats 1000000 in
theorem exc_make {prog : Program} {w : World} {A A₀ : Around} {base h₀ : Heap} {outer : List Env} {L : Addr} {m : Str → Option Value} {env : Env} {s : Shared} {news : List (Addr × Obj)} {loose : List Str} {mean : ExcName → Option Value} {mg mb : Str → Option Value} {Q E : Value → Shared → Prop} {msg : Str} {u : Tok}
    (B : Below A₀ base outer h₀) (F : Fr h₀ L s.heap m) (X : (Mine.Head.hd.heap_39 w.params).In h₀) (N : News h₀ L s.heap news) (T : Top Mine.Head.hd.view_39 loose mean mg mb h₀) (S : Sits (A.under (.builtin "type.__call__" ⟨[.ref 77, .str msg u], []⟩)) env outer L 560 7000)
    (q : ∀ h' tk e d t, L < e → Fr h₀ L h' m → News h₀ L h' ((e, excObj 77 d t) :: news) → Q (.ref e) { s with heap := h', toks := tk }) : wpAny (model prog w) A (call (.ref 77) [.str msg u]) Q E s := by
  obtain ⟨nm, q', NN, bs, sn, sub, ab, col, dd, k0, k1, k2, k3, k5, hC⟩ := cls77 w
  have hC' := (X.keeps F.keep) _ _ hC
  obtain ⟨h, g, dr, tk, os⟩ := s
  dsimp only at F N q hC'
  have FB := PySem.F.excBase_Exception
  have f1 := tc_lookup
  have f2 := tc_bind (.ref 77)
  have hT : (⟨h, g, dr, tk, os⟩ : Shared).TypeIs (.ref 77) "type" := ⟨_, hC', rfl⟩
  refine wpAny_call (codeAny_of_tree ?_)
  show wpAny _ _ (callAny (.ref 77) _) _ _ _
  repeat (any_goals (first | assumption | with_reducible refine wpAny_loadPart_at hC' ?_ | wp_step))
  refine ⟨rfl, ?_⟩
  refine codeAny_call_builtin_at (Code.quiet_builtin _ (by decide +kernel)) entry_typeCall (wpAny_check_type_call_sub hC' ?_)
  repeat (first | with_reducible refine wpAny_loadPart_at hC' ?_ | with_reducible refine wpAny_madeBy_exc hC' ?_ | wp_step)
  refine codeAny_call_builtin_code (Code.quiet_builtin _ FB.quiet) (checkNew77 hC' ?_)
  refine new77 hC' ?_ (show 1 ≤ sizeLine by rw [sizeLine_eq]; decide)
  show wpAny (model prog w) _ _ _ _ ⟨(h.push { cls := .type "tuple", data := .seq #[.str msg u] }).push (excObj 77 none h.objs.size), g, dr, tk, os⟩
  have k : ∀ b o, h.get? b = some o → ((h.push { cls := .type "tuple", data := .seq #[.str msg u] }).push (excObj 77 none h.objs.size)).get? b = some o := fun b o e => Heap.get?_push_of_some _ (Heap.get?_push_of_some _ e)
  have hC₁ := k _ _ hC'
  have hget : ((h.push { cls := .type "tuple", data := .seq #[.str msg u] }).push (excObj 77 none h.objs.size)).get? (h.objs.size + 1) = some (excObj 77 none h.objs.size) := by heap_get
  have hcC : (Value.ref 77 :: mro77).contains (.ref 77) = true := by decide
  have X₁ : (Mine.Head.hd.heap_39 w.params).In ((h.push { cls := .type "tuple", data := .seq #[.str msg u] }).push (excObj 77 none h.objs.size)) := (X.keeps F.keep).keeps k
  have F₁ : Fr h₀ L ((h.push { cls := .type "tuple", data := .seq #[.str msg u] }).push (excObj 77 none h.objs.size)) m := F.keeps k
  have N₁ : News h₀ L ((h.push { cls := .type "tuple", data := .seq #[.str msg u] }).push (excObj 77 none h.objs.size)) ((h.objs.size + 1, excObj 77 none h.objs.size) :: news) := by
    intro q hq
    rcases List.mem_cons.mp hq with rfl | hq
    · refine ⟨hget, Nat.ne_of_gt (Nat.lt_succ_of_lt F.ns.lt), ?_⟩
      cases z : h₀.get? (h.objs.size + 1) with
      | none => rfl
      | some o => exact absurd (Heap.lt_size (F.keep _ _ z)) (Nat.not_lt.mpr (Nat.le_succ _))
    · exact ⟨k _ _ (N q hq).1, (N q hq).2⟩
  have it := looks_findIn (M := model prog w) X₁ (init77 w)
  have bf := bind_fn (M := model prog w) X₁ (.ref (h.objs.size + 1)) (fn49 w)
  have t1 : Looks (model prog w) ((h.push { cls := .type "tuple", data := .seq #[.str msg u] }).push (excObj 77 none h.objs.size)) (typeOf (.ref (h.objs.size + 1))) (.ref 77) := (Looks.ld hget).andThen .now
  have isI : Looks (model prog w) ((h.push { cls := .type "tuple", data := .seq #[.str msg u] }).push (excObj 77 none h.objs.size)) (isInstance (.ref (h.objs.size + 1)) (.ref 77)) true := t1.andThen (((Looks.ld (part := none) hC₁).andThen .now).andThen .now)
  have spI : Looks (model prog w) ((h.push { cls := .type "tuple", data := .seq #[.str msg u] }).push (excObj 77 none h.objs.size)) (specialOf (.ref (h.objs.size + 1)) (Str.ofString "__init__")) (some (.ref 49)) := t1.andThen it
  refine wpAny_bind (isI.at ?_)
  refine bm_if_false rfl ?_
  refine wpAny_bind (wpAny_holding ?_)
  unfold callSpecial?
  refine wpAny_bind (spI.at ?_)
  dsimp only
  refine wpAny_holding ?_
  refine wpAny_bind (bf.at ?_)
  dsimp only
  refine wpAny_bind (wpAny_call (init49_does.code B F₁ X N₁ T S (fun q hq => by rw [List.mem_singleton.mp hq]; exact .head _) fun g' h' tk' v Y kk hp => ?_))
  obtain ⟨o', ho', ⟨d', t', rfl⟩, rfl⟩ := hp
  refine wpAny_pure (bm_if_false (by decide) (wpAny_pure ?_))
  have hoff : ∀ p ∈ news, p.1 ≠ h.objs.size + 1 := fun p hp => Nat.ne_of_lt (Nat.lt_succ_of_lt (Heap.lt_size (N p hp).1))
  obtain ⟨F₂, N₂⟩ := Y.one (G := fun o => (h.objs.size + 1, o) :: news) (UpdF.head hoff) kk ho'
  exact q h' tk' _ d' t' (Nat.lt_succ_of_lt F.ns.lt) F₂ N₂

end

-- part x2
section
-- needs: math1 math2 clean clean2 clean3 crules crules2 bridge head base base2 base3 cfor nfor w0 x0 x1
theorem raiseStmt77 {M : Model} {A : Around} {E : Value → Shared → Prop} {env : Env} {nm q : Str} {N : Addr} {bs : List Value} {sn : List Str} {sub : List Value} {ab : Bool} {col : Option Bool} {dd : Option Addr} {k0 k1 k2 k3 k5 : Option Value} {s : Shared} {x : Sem Value} {Q : Flow → Shared → Prop} (hh : A.handled = none)
    (h : wpAny M A x (fun v s₁ => ∃ e d t, v = .ref e ∧ s₁.heap.get? 77 = some (excClassObj nm q 77 N bs mro77 true sn sub ab col dd k0 k1 k2 k3 k5 "Exception.__new__") ∧ s₁.heap.get? e = some (excObj 77 d t) ∧ E (.ref e) s₁) E s) :
    wpAny M A (raiseStmt env (some x) none) Q E s := by
  have hcB : (Value.ref 77 :: mro77).contains (.type "BaseException") = true := by decide
  unfold raiseStmt
  refine wpAny_bind (wpAny_mono h (fun v s₁ h₁ => ?_) fun _ _ x => x)
  obtain ⟨e, d, t, rfl, hC, he, hE⟩ := h₁
  obtain ⟨hp, g, dr, tk, os⟩ := s₁
  repeat (first | with_reducible refine wpAny_loadPart_at he ?_ | with_reducible refine wpAny_loadPart_at hC ?_ | (with_reducible refine wpAny_isSubtype_exc hC ?_; rw [hcB]) | wp_step)
  exact wpAny_raiseNew_none hh hE

/-- the exception has been made, and is what is raised -/
noncomputable def Made77 (P : World) (E : Value → Shared → Prop) (v : Value) (s₁ : Shared) : Prop := ∃ e d t, v = .ref e ∧ (Mine.Head.hd.heap_39 P.params).In s₁.heap ∧ s₁.heap.get? e = some (excObj 77 d t) ∧ E (.ref e) s₁
theorem raise77 {prog : Program} {P : World} {A : Around} {E : Value → Shared → Prop} {env : Env} {s : Shared} {x : Expr} {pos : Pos} {Q : Flow → Shared → Prop} (hh : A.handled = none) (h : wpAny (model prog P) A (eval x env) (Made77 P E) E s) :
    wpAny (model prog P) A (exec (.Raise (some x) none pos) env) Q E s := by
  obtain ⟨nm, q', NN, bs, sn, sub, ab, col, dd, k0, k1, k2, k3, k5, hC⟩ := cls77 P
  rw [arm_exec_Raise]
  show wpAny _ A (do standAt pos; raiseStmt env (some (do let v ← eval x env; standAt pos; pure v)) none) Q E s
  refine wpAny_bind (wpAny_standAt (raiseStmt77 hh (nm := nm) (q := q') (N := NN) (bs := bs) (sn := sn) (sub := sub) (ab := ab) (col := col) (dd := dd) (k0 := k0) (k1 := k1) (k2 := k2) (k3 := k3) (k5 := k5) ?_))
  refine wpAny_bind (wpAny_mono h (fun v s₁ h₁ => wpAny_bind (wpAny_standAt (wpAny_pure ?_))) fun _ _ x => x)
  obtain ⟨e, d, t, rfl, X, he, hE⟩ := h₁
  exact ⟨e, d, t, rfl, X _ _ hC, he, hE⟩

/-- the frames' objects of a stack -/
noncomputable abbrev fs (fr : List Env) : List Addr := fr.filterMap (·.frame)
theorem funFrames_to {base B h : Heap} : ∀ {l : List Env}, h.FunFrames base l → (∀ env ∈ l, ∀ a, env.frame = some a → B.get? a = none) → h.FunFrames B l
  | [], _, _ => trivial
  | env :: _, ⟨hk, ⟨L, o, hf, _, ho, hd⟩, hr⟩, hin => ⟨hk, ⟨L, o, hf, hin env (.head _) L hf, ho, hd⟩, funFrames_to hr fun e he => hin e (.tail _ he)⟩

/-- the first def that an exception leaves -/
theorem leave77 {M : Model} {A : Around} {E : Value → Shared → Prop} {base g h₀ : Heap} {fr : List Env} {L a e t : Addr} {d : Option Addr} {m : Str → Option Value} {name : Str} {scope : Scope} {cd : Value} {Q : Unit → Shared → Prop} {s : Shared} (K : Below A base fr g) (F : Fr g L s.heap m) (he : s.heap.get? e = some (excObj 77 d t))
    (hh : ∀ b o, h₀.get? b = some o → s.heap.get? b = some o) (hL : h₀.get? L = none) (hen : h₀.get? e = none) (hk : scope.kind = .function)
    (hQ : ∀ h', Heap.FlyingW (hideAll h₀ (fs fr)) fr e (.ref 77) (.ref t) h' → h₀.UpToSlots h' → Q () { s with heap := h' }) :
    wpAny M (A.deeper (envOf name scope L a cd)) (leaving (envOf name scope L a cd) (.ref e)) Q E s := by
  have K' := K.push (name := name) (a := a) (cd := cd) F hk
  have hB : ∀ env ∈ envOf name scope L a cd :: fr, ∀ b, env.frame = some b → (hideAll h₀ (fs fr)).get? b = none := by
    intro env he b hb
    rcases List.mem_cons.mp he with rfl | he
    · obtain rfl : L = b := Option.some.inj hb
      cases q : (hideAll h₀ (fs fr)).get? L with
      | none => rfl
      | some o => have := of_hideAll _ q; rw [hL] at this; cases this
    · exact hideAll_none _ (List.mem_filterMap.mpr ⟨env, he, hb⟩)
  refine wpAny_leaving_firstW (base := hideAll h₀ (fs fr)) (Around.frames_deeper K.stack) (funFrames_to K'.frames hB) rfl he (fun b o q => hh b o (of_hideAll _ q)) ?_ rfl rfl rfl fun h' x => ?_
  · cases q : (hideAll h₀ (fs fr)).get? e with
    | none => rfl
    | some o => have := of_hideAll _ q; rw [hen] at this; cases this
  · obtain ⟨k1, ⟨_, _, k2⟩, k3, k4⟩ := x
    refine hQ h' ⟨k1, ?_, k2, k3⟩ ((Heap.UpToSlots.of_keeps hh).trans k4)
    cases q : (hideAll h₀ (fs fr)).get? e with
    | none => rfl
    | some o => have := of_hideAll _ q; rw [hen] at this; cases this

end

-- part x3
section
-- needs: math1 math2 clean clean2 clean3 crules crules2 bridge head base base2 base3 cfor nfor w0 x0 x1 x2
local macro_rules | `(tactic| walk_at $s:str) => match s.getString with
  | "exec Raise some none" | "call ref" | "Made77" => `(tactic| walk_at "MY stop")
  | _ => Lean.Macro.throwUnsupported

set_option maxHeartbeats 4000000 in
theorem put_raises {prog : Program} {w : World} {x dx f : Addr} {v n r z h1 h2 h3 : Int} {k1 k2 k3 t1 t2 u u' : Tok} {b : Array UInt8} (n0 : 0 ≤ n) (n1 : n ≤ 15) (hv : v < 0 ∨ 2 ^ n.toNat ≤ v)
    (fr : List Env) (base g : Heap) (s : Shared) (loose : List Str) (mean : ExcName → Option Value) (mg mb : Str → Option Value) (R : Result → Shared → Prop)
    (B : Below (Ar 520 5000 fr) base fr g) (X : (Mine.Head.hd.heap_39 w.params).In g) (T : Top Mine.Head.hd.view_39 loose mean mg mb g) (kg : Keeps g s.heap) (sz : g.objs.size ≤ s.heap.objs.size)
    (hN : ∀ q ∈ [(x, instObj 117 dx), (dx, dictOf (wEs h1 h2 h3 k1 k2 k3 f r z t1 t2) 3), (f, baObj b)], s.heap.get? q.1 = some q.2 ∧ g.get? q.1 = none)
    (hall : ∀ b' o, s.heap.get? b' = some o → g.get? b' = some o ∨ (b', o) ∈ [(x, instObj 117 dx), (dx, dictOf (wEs h1 h2 h3 k1 k2 k3 f r z t1 t2) 3), (f, baObj b)])
    (h : ∀ h' tk e a0, Heap.FlyingW (hideAll s.heap (fs fr)) fr e (.ref 77) a0 h' → s.heap.UpToSlots h' → R (.error (.ref e)) { s with heap := h', toks := tk }) :
    codeAny (model prog w) (Ar 520 5000 fr) (.call (.ref 100) ⟨[.ref x, .int v u, .int n u'], []⟩) R s := by
  k_dflt (refine' enter [(Str.ofString "self", Value.ref x), (Str.ofString "value", Value.int v u), (Str.ofString "size", Value.int n u')] ?kB0 ?kX ?kT ?kg ?ksz ?kN ?k6 ?k7 ?k8 ?k9 ?kB ?_ ?c2 ?c3 ?c4 ?c5; (case kB0 | kX | kT | kg | ksz | kN => assumption); (case k6 | k7 => k_is); (case k8 => decide); (case k9 => exact BindsTo.of_eq rfl); (case c2 | c3 | c4 => exact rfl); (case c5 => decide); (case kB => exact locs rfl))
  intro L' h' B' F' N' l1 lz
  clear B
  (try dsimp only)
  have fin : ∀ h₁ tk e d t mm, L' < e → Fr g L' h₁ mm → News g L' h₁ ((e, excObj 77 d t) :: [(x, instObj 117 dx), (dx, dictOf (wEs h1 h2 h3 k1 k2 k3 f r z t1 t2) 3), (f, baObj b)]) → ∀ Q' (name : Str) (scope : Scope) (a : Addr) (cd : Value), scope.kind = .function →
      (∀ h' a0, Heap.FlyingW (hideAll s.heap (fs fr)) fr e (.ref 77) a0 h' → s.heap.UpToSlots h' → Q' () { s with heap := h', toks := tk }) →
      wpAny (model prog w) ((Ar 520 5000 fr).deeper (envOf name scope L' a cd)) (leaving (envOf name scope L' a cd) (.ref e)) Q' (fun e' s'' => R (.error e') s'') { s with heap := h₁, toks := tk } := by
    intro h₁ tk e d t mm lE F₁ N₁ Q' name scope a cd hk hq
    have none_of : ∀ a, s.heap.objs.size ≤ a → s.heap.get? a = none := fun a ha => by
      cases q : s.heap.get? a with
      | none => rfl
      | some o => exact absurd (Heap.lt_size q) (Nat.not_lt.mpr ha)
    refine leave77 (h₀ := s.heap) B' F₁ (N₁ _ (.head _)).1 (fun b' o ho => ?_) (none_of _ lz) (none_of _ (Nat.le_trans lz (Nat.le_of_lt lE))) hk fun h' fl us => hq h' _ fl us
    rcases hall b' o ho with hg | hm
    · exact F₁.keep _ _ hg
    · exact (N₁ (b', o) (.tail _ hm)).1
  rcases hv with hv | hv
  all_goals (try k_fold)
  all_goals walk_at "MY steps"
  all_goals unfold Marked
  all_goals refine raise77 rfl ?_
  all_goals walk_at "MY steps"
  all_goals unfold Marked
  all_goals walk_at "MY head"
  all_goals k_dflt ((with_reducible refine' exc_make ?B ?F ?X ?N ?T ?S ?_); walk_at "MY five")
  all_goals intros
  all_goals walk_at "MY steps"
  all_goals unfold Marked
  all_goals ((with_reducible rename Fr _ _ _ _ => kF); (with_reducible rename News _ _ _ _ => kN); (rename _ < _ => kE))
  all_goals exact ⟨_, _, _, rfl, X.keeps kF.keep, (kN _ (.head _)).1, fin _ _ _ _ _ _ kE kF kN _ _ _ _ _ rfl fun h' a0 fl us => h h' _ _ a0 fl us⟩

end

-- part x4
section
-- needs: math1 math2 clean clean2 clean3 crules crules2 bridge head base base2 base3 cfor nfor w0 x0 x1 x2 x3
section
variable {A A₀ : Around} {base h₀ : Heap} {outer : List Env} {L : Addr} {m : Str → Option Value} {env : Env} {s : Shared} {news sub : List (Addr × Obj)} {K : Frag} {dp un : Nat}
  {p : Program} {loose : List Str} {mean : ExcName → Option Value} {mg mb : Str → Option Value}
/-- as `under`, and all that stands is in `g` or lent -/
theorem underA (B : Below A₀ base outer h₀) (F : Fr h₀ L s.heap m) (X : K.In h₀) (N : News h₀ L s.heap news) (T : Top p loose mean mg mb h₀) (S : Sits A env outer L dp un)
    (hs : ∀ q ∈ sub, q ∈ news) :
    ∃ g, Below (Ar dp un (env :: outer)) base (env :: outer) g ∧ K.In g ∧ Top p loose mean mg mb g ∧ Keeps g s.heap ∧ g.objs.size ≤ s.heap.objs.size ∧ (∀ q ∈ sub, s.heap.get? q.1 = some q.2 ∧ g.get? q.1 = none) ∧ (∀ b o, s.heap.get? b = some o → g.get? b = some o ∨ (b, o) ∈ sub) := by
  have N' : News h₀ L s.heap sub := fun q hq => N q (hs q hq)
  obtain ⟨FG, BG, st, _⟩ := groundX (R := fun _ _ => True) B F N' S.fr S.ef S.ek
  refine ⟨_, ⟨rfl, BG.stays, BG.frames⟩, X.keeps st, T.keeps st, fun b o q => of_hideAll _ q, Nat.le_of_eq (hideAll_size _ _), fun q hq => ⟨(N q (hs q hq)).1, hideAll_none _ (List.mem_map_of_mem hq)⟩, fun b o ho => ?_⟩
  by_cases hb : b ∈ sub.map (·.1)
  · obtain ⟨q, hq, rfl⟩ := List.mem_map.mp hb
    have := (N' q hq).1
    rw [ho] at this
    cases this
    exact .inr hq
  · exact .inl (hideAll_get _ ho hb)
end

theorem put_raises_walk {prog : Program} {w : World} {A A₀ : Around} {base h₀ : Heap} {outer : List Env} {L : Addr} {m : Str → Option Value} {env : Env} {s : Shared} {news : List (Addr × Obj)} {loose : List Str} {mean : ExcName → Option Value} {mg mb : Str → Option Value} {Q E : Value → Shared → Prop}
    {x dx f : Addr} {v n r z h1 h2 h3 : Int} {k1 k2 k3 t1 t2 u u' : Tok} {b : Array UInt8} (n0 : 0 ≤ n) (n1 : n ≤ 15) (hv : v < 0 ∨ 2 ^ n.toNat ≤ v)
    (B : Below A₀ base outer h₀) (F : Fr h₀ L s.heap m) (X : (Mine.Head.hd.heap_39 w.params).In h₀) (N : News h₀ L s.heap news) (T : Top Mine.Head.hd.view_39 loose mean mg mb h₀) (S : Sits A env outer L 520 5000)
    (hs : ∀ q ∈ [(x, instObj 117 dx), (dx, dictOf (wEs h1 h2 h3 k1 k2 k3 f r z t1 t2) 3), (f, baObj b)], q ∈ news)
    (q : ∀ h' tk e a0, Heap.FlyingW (hideAll s.heap (fs (env :: outer))) (env :: outer) e (.ref 77) a0 h' → s.heap.UpToSlots h' → E (.ref e) { s with heap := h', toks := tk }) :
    wpAny (model prog w) A (call (.ref 100) [.ref x, .int v u, .int n u']) Q E s := by
  obtain ⟨g, Bg, Xg, Tg, kg, sz, Ng, hall⟩ := underA B F X N T S hs
  exact wpAny_call (S.code (put_raises n0 n1 hv _ _ g s _ _ _ _ _ Bg Xg Tg kg sz Ng hall fun h' tk e a0 fl us => q h' tk e a0 fl us))

section
variable {prog : Program} {w : World} {A₀ : Around} {E : Value → Shared → Prop} {s' : Shared} {base B h : Heap} {outer : List Env} {L a e : Addr} {a0 : Value} {m : Str → Option Value} {name : Str} {scope : Scope} {cd : Value}
  {b₀ : Stmt} {suite : List Stmt} {pos np : Pos} {rest : List ExceptHandler} {Q : Flow → Shared → Prop} {p : Program} {loose : List Str} {mg mb : Str → Option Value} {x : Str}
theorem caught77 (hfr : A₀.frames = some outer) (hfl : Heap.FlyingW B (envOf name scope L a cd :: outer) e (.ref 77) a0 s'.heap) (Fb : Fr base L h m) (hB : base.StaysIn B) (us : h.UpToSlots s'.heap)
    (X : (Mine.Head.hd.heap_39 w.params).In base) (T : TopRead p loose mg mb base) (ex : nsIn (Mine.Head.hd.heap_39 w.params) mainGlobals x = some (some (.ref 77)))
    (k : ∀ h', B.StaysIn h' → h.UpToSlots h' → Fr base L h' m → wpAny (model prog w) ((A₀.deeper (envOf name scope L a cd)).mark (some (.ref e))) (execs (b₀ :: suite) (envOf name scope L a cd)) Q E { s' with heap := h' })
    (hk : scope.kind = .function := by rfl) (hx : (envOf name scope L a cd).kindOf x = some .globalImplicit := by rfl) (hd : (x == ("__debug__" : Str)) = false := by decide)
    (hE : PassesOwnAt (model prog w) ((A₀.deeper (envOf name scope L a cd)).mark (some (.ref e))) (A₀.deeper (envOf name scope L a cd)) (envOf name scope L a cd) E := by passes_own) :
    wpAny (model prog w) (A₀.deeper (envOf name scope L a cd)) (noteFrame (.ref e) (envOf name scope L a cd))
      (fun _ s₂ => wpAny (model prog w) (A₀.deeper (envOf name scope L a cd)) (setFlight (.ref e) none) (fun _ s₃ =>
        wpAny (model prog w) (A₀.deeper (envOf name scope L a cd)) (handleBy (.ref e) (envOf name scope L a cd) (.ExceptHandler (some (.Name x np)) none (b₀ :: suite) pos :: rest)) Q E s₃) E s₂) E s' := by
  obtain ⟨nm, q', NN, bs, sn, sub, ab, col, dd, k0, k1, k2, k3, k5, hC⟩ := cls77 w
  refine wpAny_looks_onW (Around.frames_deeper hfr) rfl hfl fun h₄ hheld₄ hsm₄ => ?_
  refine wpAny_landsW hheld₄ fun h₅ hheld hsm₅' => ?_
  have hsm₅ := hsm₄.trans hsm₅'
  have hheld' := flyingW_base hB hheld
  have F₅ := Fb.of_stays hheld'.1 (us.trans hsm₅)
  obtain ⟨ob, hob, hobc⟩ := hheld'.there
  refine wpAny_handleBy_cons (codeAny_handlers_test (name_K F₅ X T ex ?_ hk hx hd)) (by intro q; cases q)
  refine wpAny_excMatches_sub_self ((X.keeps F₅.keep) _ _ hC) hob hobc (by decide) (codeAny_handlers_suite ?_)
  refine lands_againW hheld fun h₆ hfl₆ hsm₆ => ?_
  exact wpAny_passesOwnAt hE (k h₆ hfl₆.1 ((us.trans hsm₅).trans hsm₆) (Fb.of_stays (flyingW_base hB hfl₆).1 ((us.trans hsm₅).trans hsm₆)))
end

end

-- part x5
section
-- needs: math1 math2 clean clean2 clean3 crules crules2 bridge head base base2 base3 cfor nfor w0 x0 x1 x2 x3 x4
local macro_rules | `(tactic| walk_at "noteFrame ref") => `(tactic| walk_at "MY stop")
local macro_rules | `(tactic| walk_at "call ref") => `(tactic| walk_at "MY stop")

set_option maxHeartbeats 4000000 in
theorem refused_does {prog : Program} {w : World} {x dx f : Addr} {v n r z h1 h2 h3 : Int} {k1 k2 k3 t1 t2 u u' : Tok} {b : Array UInt8} (n0 : 0 ≤ n) (n1 : n ≤ 15) (hv : v < 0 ∨ 2 ^ n.toNat ≤ v)
    (fr : List Env) (base g : Heap) (s : Shared) (loose : List Str) (mean : ExcName → Option Value) (mg mb : Str → Option Value) (R : Result → Shared → Prop)
    (B : Below (Ar 460 3500 fr) base fr g) (Xb : (Mine.Head.hd.heap_39 w.params).In base) (Tb : Top Mine.Head.hd.view_39 loose mean mg mb base) (kg : Keeps g s.heap) (sz : g.objs.size ≤ s.heap.objs.size) (bz : base.objs.size ≤ s.heap.objs.size)
    (hN : ∀ q ∈ [(x, instObj 117 dx), (dx, dictOf (wEs h1 h2 h3 k1 k2 k3 f r z t1 t2) 3), (f, baObj b)], s.heap.get? q.1 = some q.2 ∧ g.get? q.1 = none)
    (hall : ∀ b' o, s.heap.get? b' = some o → g.get? b' = some o ∨ (b', o) ∈ [(x, instObj 117 dx), (dx, dictOf (wEs h1 h2 h3 k1 k2 k3 f r z t1 t2) 3), (f, baObj b)])
    (h : ∀ h' tk, (∀ b' o, s.heap.get? b' = some o → b' ∉ fs fr → h'.get? b' = some o) → s.heap.UpToSlots h' → R (.ok (.ret (.bool true))) { s with heap := h', toks := tk }) :
    codeAny (model prog w) (Ar 460 3500 fr) (.call (.ref 213) ⟨[.ref x, .int v u, .int n u'], []⟩) R s := by
  have X := Xb.keeps B.stays
  have T := Tb.keeps B.stays
  have stk := B.stack
  have bst := B.stays
  k_dflt (refine' enter [(Str.ofString "writer", Value.ref x), (Str.ofString "worth", Value.int v u), (Str.ofString "size", Value.int n u')] ?kB0 ?kX ?kT ?kg ?ksz ?kN ?k6 ?k7 ?k8 ?k9 ?kB ?_ ?c2 ?c3 ?c4 ?c5; (case kB0 | kX | kT | kg | ksz | kN => assumption); (case k6 | k7 => k_is); (case k8 => decide); (case k9 => exact BindsTo.of_eq rfl); (case c2 | c3 | c4 => exact rfl); (case c5 => decide); (case kB => exact locs rfl))
  intro L' h' B' F' N' l1 lz
  clear B
  (try dsimp only)
  have hkp : ∀ b' o, s.heap.get? b' = some o → h'.get? b' = some o := fun b' o ho => by
    rcases hall b' o ho with hg | hm
    · exact F'.keep _ _ hg
    · exact (N' (b', o) hm).1
  have Fb : Marked (Fr base L' h' (fun y => List.lookup y [(Str.ofString "writer", Value.ref x), (Str.ofString "worth", Value.int v u), (Str.ofString "size", Value.int n u')].reverse)) := ⟨F'.ns, fun b' o ho => F'.keep _ _ (bst _ _ ho), Nat.le_trans bz lz⟩
  (try k_fold)
  replace Xb : Marked _ := Xb
  replace Tb : Marked _ := Tb
  replace bst : Marked _ := bst
  walk_at "MY steps"
  unfold Marked
  walk_at "MY head"
  k_dflt ((with_reducible refine' put_raises_walk ?n0 ?n1 ?hv ?B ?F ?X ?N ?T ?S ?M ?_); (case n0 | n1 | hv => assumption); walk_at "MY five"; (case M => exact fun _ h => h))
  intros
  walk_at "MY steps"
  unfold Marked at Fb Xb Tb bst ⊢
  rename Heap.FlyingW _ _ _ _ _ _ => fl; rename Heap.UpToSlots _ _ => us
  dsimp only at fl us
  have hst : base.StaysIn (hideAll h' (fs (envOf (Str.ofString "_law_is_refused") { kind := ScopeKind.function, names := [(Str.ofString "writer", NameKind.local), (Str.ofString "worth", NameKind.local), (Str.ofString "size", NameKind.local), (Str.ofString "RangeError", NameKind.globalImplicit)], isGenerator := false, isCoroutine := false } L' 213 (Value.ref 212) :: fr))) := by
    intro b' o ho
    refine hideAll_get _ (Fb.keep _ _ ho) fun hm => ?_
    rcases List.mem_cons.mp hm with rfl | hm
    · exact absurd (Heap.lt_size ho) (Nat.not_lt.mpr (Nat.le_trans bz lz))
    · have := (B'.frames.mem hm).1
      rw [ho] at this
      cases this
  refine caught77 rfl fl Fb hst us Xb (topRead_of Tb) (by k_dflt k_is) fun h2 st2 us2 F2 => ?_
  walk_at "MY steps"
  refine h h2 _ (fun b' o ho hb => st2 _ _ (hideAll_get _ (hkp _ _ ho) fun hm => ?_)) ((Heap.UpToSlots.of_keeps hkp).trans us2)
  rcases List.mem_cons.mp hm with rfl | hm
  · exact absurd (Heap.lt_size ho) (Nat.not_lt.mpr lz)
  · exact hb hm

end

-- part l0
section
-- needs: math1 math2 math3 math4 math5 math6 int2 clean clean2 clean3 ba1 ba2 crules crules2 bridge head base base2 base3 cfor nfor comp f1 f2 f3 f4 w0 w1 w2 w3 r1 r2 p1 t1 t2 t3 x0 x1 x2 x3 x4 x5
section
variable {prog : Program} {w : World} {A A₀ : Around} {base h₀ : Heap} {outer : List Env} {L : Addr} {m : Str → Option Value} {env : Env} {s : Shared} {news : List (Addr × Obj)}
  {loose : List Str} {mean : ExcName → Option Value} {mg mb : Str → Option Value} {Q E : Value → Shared → Prop}
theorem pool_walk {l : Addr} {vs : List Value} {ns : List Int} (hi : IntsAre vs ns) (hz : vs.length ≤ 63) (hl : base.IsList l vs.toArray) (B : Below A₀ base outer h₀) (F : Fr h₀ L s.heap m) (X : (Mine.Head.hd.heap_39 w.params).In h₀) (N : News h₀ L s.heap news) (T : Top Mine.Head.hd.view_39 loose mean mg mb h₀) (S : Sits A env outer L 500 4000)
    (h : ∀ h' tk D, Fr h₀ L h' m → L < D → (∀ q ∈ news, q.1 < D) → ∀ a b ta tb n, 0 ≤ a → 0 ≤ b → b < 2147483647 → News h₀ L h' ((D, srcOf a b ta tb n) :: news) → Q (.ref D) { s with heap := h', toks := tk }) : wpAny (model prog w) A (call (.ref 170) [.ref l]) Q E s := by
  obtain ⟨g, Bg, Xg, Tg, kg, sz, Ng, Y⟩ := under B F X N T S (sub := []) (fun _ h => nomatch h)
  have hlg : g.IsList l vs.toArray := by
    obtain ⟨o, ho, r⟩ := hl
    exact ⟨o, Bg.stays _ _ ho, r⟩
  refine wpAny_call (S.code (pool_does hi hz _ _ g s _ _ _ _ _ Bg Xg Tg kg sz hlg fun h' tk v k hp => ?_))
  obtain ⟨D, o', rfl, hD, ho, a, b, ta, tb, n, rfl, q0, q1, q2⟩ := hp
  obtain ⟨F', N'⟩ := Y.none k
  exact h h' tk D F' (Nat.lt_of_lt_of_le F.ns.lt hD) (fun q hq => Nat.lt_of_lt_of_le (Heap.lt_size (N q hq).1) hD) a b ta tb n q0 q1 q2 (Y.more N' hD ho)

/-- what the frames' turning leaves of a caller's ledger -/
theorem refused_walk {x dx f : Addr} {v n r z h1 h2 h3 : Int} {k1 k2 k3 t1 t2 u u' : Tok} {b : Array UInt8} (n0 : 0 ≤ n) (n1 : n ≤ 15) (hv : v < 0 ∨ 2 ^ n.toNat ≤ v)
    (B : Below A₀ h₀ [] h₀) (F : Fr h₀ L s.heap m) (X : (Mine.Head.hd.heap_39 w.params).In h₀) (N : News h₀ L s.heap news) (T : Top Mine.Head.hd.view_39 loose mean mg mb h₀) (S : Sits A env [] L 460 3500)
    (hs : ∀ q ∈ [(x, instObj 117 dx), (dx, dictOf (wEs h1 h2 h3 k1 k2 k3 f r z t1 t2) 3), (f, baObj b)], q ∈ news)
    (h : ∀ h' tk, Fr h₀ L h' m → News h₀ L h' news → Q (.bool true) { s with heap := h', toks := tk }) :
    wpAny (model prog w) A (call (.ref 213) [.ref x, .int v u, .int n u']) Q E s := by
  obtain ⟨g, Bg, Xg, Tg, kg, sz, Ng, hall⟩ := underA B F X N T S hs
  have hlt : h₀.objs.size ≤ s.heap.objs.size := Nat.le_trans F.above (Nat.le_of_lt F.ns.lt)
  refine wpAny_call (S.code (refused_does n0 n1 hv _ _ g s _ _ _ _ _ Bg X T kg sz hlt Ng hall fun h' tk kp us => ?_))
  have hfs : ∀ b', b' ∈ fs [env] → b' = L := fun b' hb => by
    obtain ⟨e, he, hf⟩ := List.mem_filterMap.mp hb
    rw [List.mem_singleton.mp he, S.ef] at hf
    exact (Option.some.inj hf).symm
  refine h h' tk ⟨us.ns F.ns, fun b' o ho => kp _ _ (F.keep _ _ ho) fun hm => ?_, F.above⟩ fun q hq => ⟨kp _ _ (N q hq).1 fun hm => (N q hq).2.1 (hfs _ hm), (N q hq).2⟩
  have := hfs _ hm
  subst this
  exact absurd (Heap.lt_size ho) (Nat.not_lt.mpr F.above)
end

section
variable {M : Model} {A : Around} {s : Shared} {env : Env}
theorem wpC_spliced_more {e : Expr} {rest : List Expr} {pos : Pos} {Q : List Value → Shared → Prop}
    (h : wpC M A (eval e env) (fun v s₁ => wpC M A (spliced (backTo pos (starEach rest env))) (fun vs s₂ => Q (v :: vs) s₂) s₁) s)
    (he : starEach (e :: rest) env = (false, eval e env) :: starEach rest env := by rfl) : wpC M A (spliced (backTo pos (starEach (e :: rest) env))) Q s := by
  rw [he]
  exact wpC_spliced_cons h
theorem wpC_spliced_none {pos : Pos} {Q : List Value → Shared → Prop} (h : Q [] s) : wpC M A (spliced (backTo pos (starEach [] env))) Q s := wpC_spliced_nil h
end

section
variable {M : Model} {A : Around} {s : Shared} {env : Env}
theorem wpC_Assign_TupleS {elts : List Expr} {k : Nat} {tpos : Pos} {value : Expr} {pos : Pos} {names : List Str} {Q : Flow → Shared → Prop}
    (hw : swappedStores [.Tuple elts k tpos] value env = pure (some names))
    (h : wpC M A (eval value env) (fun v s₁ => wpAny M A (unpackItems v names.length none) (fun items s₂ =>
      wpAny M A (assignInOrder (names.reverse.map fun n => bindName env n) items.reverse) (fun _ => Q .next) (fun _ _ => False) s₂) (fun _ _ => False) s₁) s)
    (hs : swapsWithSole [.Tuple elts k tpos] value pos.line env = pure false := by rfl) : wpC M A (exec (.Assign [.Tuple elts k tpos] value pos) env) Q s := by
  rw [exec_Assign]
  refine wpC_bind (wpC_standAt ?_)
  rw [hs]
  refine wpC_bind (wpC_pure ?_)
  rw [if_neg (by decide)]
  refine wpC_bind (wpC_mono h fun v s₁ h₁ => ?_)
  rw [hw]
  refine wpC_bind (wpC_pure ?_)
  show wpC M A (do rule "assign.swapped-stores"; let items ← unpackItems v names.length none; assignInOrder (names.reverse.map fun n => bindName env n) items.reverse; pure .next) Q s₁
  exact wpC_of_any (wpAny_bind (wpAny_rule (wpAny_bind (wpAny_mono h₁ (fun items s₂ h₂ => wpAny_bind (wpAny_mono h₂ (fun _ _ x => wpAny_pure x) fun _ _ x => x)) fun _ _ x => x))))
end

theorem makes117 (P : World) : makesIn (Mine.Head.hd.heap_39 P.params) 117 = true := by k_dflt k_is
theorem init117 (P : World) : findIn (Mine.Head.hd.heap_39 P.params) (.ref 117) "__init__" = some (some (.ref 93)) := by k_dflt k_is
theorem fn93 (P : World) : typeIn (Mine.Head.hd.heap_39 P.params) (.ref 93) = some (.type "function") := by k_dflt k_is
theorem make_writer {prog : Program} {w : World} {A A₀ : Around} {base h₀ : Heap} {outer : List Env} {L : Addr} {m : Str → Option Value} {env : Env} {s : Shared} {news : List (Addr × Obj)}
    {loose : List Str} {mean : ExcName → Option Value} {mg mb : Str → Option Value} {Q : Value → Shared → Prop} (B : Below A₀ base outer h₀) (F : Fr h₀ L s.heap m) (X : (Mine.Head.hd.heap_39 w.params).In h₀) (N : News h₀ L s.heap news) (T : Top Mine.Head.hd.view_39 loose mean mg mb h₀)
    (S : Sits (A.under (.builtin "type.__call__" ⟨[.ref 117], []⟩)) env outer L 520 5000)
    (q : ∀ h' tk x dx f h1 h2 h3 k1 k2 k3 t1 t2, L < dx → dx < x → x < f → (∀ q ∈ news, q.1 < dx) → Fr h₀ L h' m → News h₀ L h' ((f, baObj #[]) :: (x, instObj 117 dx) :: (dx, dictOf (wEs h1 h2 h3 k1 k2 k3 f 0 0 t1 t2) 3) :: news) → Q (.ref x) { s with heap := h', toks := tk }) :
    wpC (model prog w) A (call (.ref 117) []) Q s := by
  obtain ⟨h, g, dr, tk, os⟩ := s
  dsimp only at F N q
  have k : ∀ b o, h.get? b = some o → ((h.push emptyDict).push (instObj 117 h.objs.size)).get? b = some o := fun b o e => Heap.get?_push_of_some _ (Heap.get?_push_of_some _ e)
  have hx : ((h.push emptyDict).push (instObj 117 h.objs.size)).get? (h.objs.size + 1) = some (instObj 117 h.objs.size) := by heap_get
  have hd : ((h.push emptyDict).push (instObj 117 h.objs.size)).get? h.objs.size = some (dictOf [] 0) := Heap.get?_push_of_some _ (Heap.get?_push_size _ rfl)
  have off : ∀ a, h.objs.size ≤ a → a ≠ L ∧ h₀.get? a = none := fun a ha => by
    refine ⟨fun e => absurd F.ns.lt (Nat.not_lt.mpr (e ▸ ha)), ?_⟩
    cases z : h₀.get? a with
    | none => rfl
    | some o => exact absurd (Heap.lt_size (F.keep _ _ z)) (Nat.not_lt.mpr ha)
  have N₁ : News h₀ L ((h.push emptyDict).push (instObj 117 h.objs.size)) ((h.objs.size + 1, instObj 117 h.objs.size) :: (h.objs.size, dictOf [] 0) :: news) := by
    intro p hp
    rcases List.mem_cons.mp hp with rfl | hp
    · exact ⟨hx, off _ (Nat.le_succ _)⟩
    · rcases List.mem_cons.mp hp with rfl | hp
      · exact ⟨hd, off _ (Nat.le_refl _)⟩
      · exact ⟨k _ _ (N p hp).1, (N p hp).2⟩
  have hsz : ((h.push emptyDict).push (instObj 117 h.objs.size)).objs.size = h.objs.size + 1 + 1 := by rw [Heap.size_push, Heap.size_push]
  refine wpC_call (codeC_make (X.keeps F.keep) (makes117 w) (init117 w) (fn93 w) ?_)
  refine (winit_does (Nat.lt_succ_self _)).code B (F.keeps k) X N₁ T S (fun p hp => ?_) fun g' h' tk' v Y kk hp => ?_
  · simp only [List.mem_cons, List.not_mem_nil, or_false] at hp ⊢
    rcases hp with rfl | rfl
    · exact .inl rfl
    · exact .inr (.inl rfl)
  · obtain ⟨rfl, f, h1, h2, h3, k1, k2, k3, t1, t2, hf, g1, g2, g3⟩ := hp
    refine ⟨rfl, q h' tk' _ _ f h1 h2 h3 k1 k2 k3 t1 t2 F.ns.lt (Nat.lt_succ_self _) ?_ (fun p hp => Heap.lt_size (N p hp).1) (Y.fr h' kk) ?_⟩
    · have hf2 : h.objs.size + 1 + 1 ≤ f := by
        rw [← hsz]
        exact hf
      exact hf2
    · refine Y.turn fun p hp => ?_
      rcases List.mem_cons.mp hp with rfl | hp
      · exact ⟨g3, .inr hf⟩
      · rcases List.mem_cons.mp hp with rfl | hp
        · exact ⟨g1, .inl ⟨_, .head _⟩⟩
        · rcases List.mem_cons.mp hp with rfl | hp
          · exact ⟨g2, .inl ⟨_, .tail _ (.head _)⟩⟩
          · refine ⟨Y.old h' kk p (.tail _ (.tail _ hp)) ?_, .inl ⟨p.2, .tail _ (.tail _ hp)⟩⟩
            have hlt := Heap.lt_size (N p hp).1
            simp only [List.map_cons, List.map_nil, List.mem_cons, List.not_mem_nil, or_false, not_or]
            exact ⟨Nat.ne_of_lt (Nat.lt_succ_of_lt hlt), Nat.ne_of_lt hlt⟩

/-- what is laid for a number -/
noncomputable def enc (v : Int) : List Bool := bitsN (szOf v).toNat 4 ++ turnOf v (bitsN (absI v).toNat (szOf v).toNat)
noncomputable def encs (l : List Int) : List Bool := l.flatMap enc
theorem encs_snoc (l : List Int) (v : Int) : encs (l ++ [v]) = encs l ++ enc v := by simp [encs]
theorem turnOf_length (v : Int) (l : List Bool) : (turnOf v l).length = l.length := by unfold turnOf; split <;> simp
theorem enc_length {v : Int} (h0 : -32767 ≤ v) (h1 : v ≤ 32767) : (enc v).length ≤ 19 := by
  unfold enc
  rw [List.length_append, bitsN_length, turnOf_length, bitsN_length]
  exact Nat.add_le_add_left (Int.toNat_le.mpr (szOf_in h0 h1).2.1) 4
theorem encs_length {l : List Int} (h : ∀ z ∈ l, -32767 ≤ z ∧ z ≤ 32767) : (encs l).length ≤ 19 * l.length := by
  induction l with
  | nil => simp [encs]
  | cons v l ih =>
    have h1 := enc_length (h v (.head _)).1 (h v (.head _)).2
    have h2 := ih fun z hz => h z (.tail _ hz)
    have e : encs (v :: l) = enc v ++ encs l := by simp [encs]
    rw [e, List.length_append, List.length_cons, Nat.mul_succ, Nat.add_comm]
    exact Nat.add_le_add h2 h1
theorem News.sub' {h₀ h : Heap} {L : Addr} {l l' : List (Addr × Obj)} (N : News h₀ L h l) (hs : ∀ q ∈ l', q ∈ l) : News h₀ L h l' := PyProof.Rows.News.perm N hs

theorem size_is {prog : Program} {w : World} {v : Int} {u : Tok} (h0 : -32767 ≤ v) (h1 : v ≤ 32767) : Does prog w 500 4000 191 [.int v u] [] (fun _ _ r => ∃ t, r = .int (szOf v) t) := by
  intro fr base g s loose mean mg mb R B X T kg sz hN h
  refine size_does h0 h1 fr base g s loose mean mg mb R B X T kg sz hN fun h' tk v' k p => h h' tk v' k ?_
  obtain ⟨κ, t, rfl, hs⟩ := p
  exact ⟨t, by rw [szOf_is hs]⟩
theorem category_is {prog : Program} {w : World} {v : Int} {u : Tok} : Does prog w 500 4000 21 [.int v u] [] (fun _ _ r => ∃ t, r = .int (szOf v) t) := category_does
theorem Left.three {h₀ : Heap} {L : Addr} {m : Str → Option Value} {g h' : Heap} {sz : Nat} {pre post : List (Addr × Obj)} {x dx f : Addr} {o1 o2 o3 o1' o2' o3' : Obj} (Y : Left h₀ L m g (pre ++ (f, o1) :: (x, o2) :: (dx, o3) :: post) [(x, o2), (dx, o3), (f, o1)] sz)
    (off : ∀ q ∈ pre ++ post, q.1 ≠ x ∧ q.1 ≠ dx ∧ q.1 ≠ f) (k : Keeps g h') (e1 : h'.get? f = some o1') (e2 : h'.get? x = some o2') (e3 : h'.get? dx = some o3') : News h₀ L h' (pre ++ (f, o1') :: (x, o2') :: (dx, o3') :: post) := by
  have old : ∀ q ∈ pre ++ post, q ∈ pre ++ (f, o1) :: (x, o2) :: (dx, o3) :: post → h'.get? q.1 = some q.2 := fun q hq hm => by
    obtain ⟨a, b, c⟩ := off q hq
    exact Y.old h' k q hm (by simpa using ⟨a, b, c⟩)
  refine Y.turn fun q hq => ?_
  rcases List.mem_append.mp hq with hq | hq
  · exact ⟨old q (List.mem_append_left _ hq) (List.mem_append_left _ hq), .inl ⟨q.2, List.mem_append_left _ hq⟩⟩
  · rcases List.mem_cons.mp hq with rfl | hq
    · exact ⟨e1, .inl ⟨_, List.mem_append_right _ (.head _)⟩⟩
    · rcases List.mem_cons.mp hq with rfl | hq
      · exact ⟨e2, .inl ⟨_, List.mem_append_right _ (.tail _ (.head _))⟩⟩
      · rcases List.mem_cons.mp hq with rfl | hq
        · exact ⟨e3, .inl ⟨_, List.mem_append_right _ (.tail _ (.tail _ (.head _)))⟩⟩
        · exact ⟨old q (List.mem_append_right _ hq) (List.mem_append_right _ (.tail _ (.tail _ (.tail _ hq)))), .inl ⟨q.2, List.mem_append_right _ (.tail _ (.tail _ (.tail _ hq)))⟩⟩
theorem three_sub {pre post : List (Addr × Obj)} {x dx f : Addr} {o1 o2 o3 : Obj} : ∀ q ∈ [(x, o2), (dx, o3), (f, o1)], q ∈ pre ++ (f, o1) :: (x, o2) :: (dx, o3) :: post := by
  intro q hq
  simp only [List.mem_cons, List.not_mem_nil, or_false] at hq
  refine List.mem_append_right _ ?_
  rcases hq with rfl | rfl | rfl
  · exact .tail _ (.head _)
  · exact .tail _ (.tail _ (.head _))
  · exact .head _
section
variable {prog : Program} {w : World} {A A₀ : Around} {base h₀ : Heap} {outer : List Env} {L : Addr} {m : Str → Option Value} {env : Env} {s : Shared} {pre post : List (Addr × Obj)} {loose : List Str} {mean : ExcName → Option Value} {mg mb : Str → Option Value} {Q : Value → Shared → Prop}
  {x dx f : Addr} {v n r z h1 h2 h3 : Int} {k1 k2 k3 t1 t2 u u' : Tok} {b : Array UInt8} {bs : List Bool}
theorem put_walk (hn1 : x ≠ dx) (hn2 : x ≠ f) (hn3 : dx ≠ f) (n0 : 0 ≤ n) (n1 : n ≤ 15) (v0 : 0 ≤ v) (v1 : v < 2 ^ n.toNat) (z1 : z < 8) (hr : Rep b r z bs) (hb : b.size ≤ 1000)
    (B : Below A₀ base outer h₀) (F : Fr h₀ L s.heap m) (X : (Mine.Head.hd.heap_39 w.params).In h₀) (N : News h₀ L s.heap (pre ++ (f, baObj b) :: (x, instObj 117 dx) :: (dx, dictOf (wEs h1 h2 h3 k1 k2 k3 f r z t1 t2) 3) :: post)) (T : Top Mine.Head.hd.view_39 loose mean mg mb h₀) (S : Sits A env outer L 520 5000)
    (off : ∀ q ∈ pre ++ post, q.1 ≠ x ∧ q.1 ≠ dx ∧ q.1 ≠ f)
    (q : ∀ h' tk b' r' z' t1' t2', z' < 8 → Rep b' r' z' (bs ++ bitsN v.toNat n.toNat) → Fr h₀ L h' m → News h₀ L h' (pre ++ (f, baObj b') :: (x, instObj 117 dx) :: (dx, dictOf (wEs h1 h2 h3 k1 k2 k3 f r' z' t1' t2') 3) :: post) → Q .none { s with heap := h', toks := tk }) :
    wpC (model prog w) A (call (.ref 100) [.ref x, .int v u, .int n u']) Q s := by
  refine (put_does hn1 hn2 hn3 n0 n1 v0 v1 z1 hr hb).walk B F X N T S three_sub ?_
  rintro g' h' tk v' Y k ⟨rfl, b', r', z', t1', t2', e1, e2, e3, e4, e5⟩
  exact q h' tk b' r' z' t1' t2' e4 e5 (Y.fr h' k) (Y.three off k e3 e1 e2)
theorem pad_walk (hn1 : x ≠ dx) (hn2 : x ≠ f) (hn3 : dx ≠ f) (z1 : z < 8) (hr : Rep b r z bs) (hb : b.size ≤ 1000)
    (B : Below A₀ base outer h₀) (F : Fr h₀ L s.heap m) (X : (Mine.Head.hd.heap_39 w.params).In h₀) (N : News h₀ L s.heap (pre ++ (f, baObj b) :: (x, instObj 117 dx) :: (dx, dictOf (wEs h1 h2 h3 k1 k2 k3 f r z t1 t2) 3) :: post)) (T : Top Mine.Head.hd.view_39 loose mean mg mb h₀) (S : Sits A env outer L 480 4000)
    (off : ∀ q ∈ pre ++ post, q.1 ≠ x ∧ q.1 ≠ dx ∧ q.1 ≠ f)
    (q : ∀ h' tk b' r' z' t1' t2', bitsB b'.toList = bs ++ List.replicate (padOf bs) true → Fr h₀ L h' m → News h₀ L h' (pre ++ (f, baObj b') :: (x, instObj 117 dx) :: (dx, dictOf (wEs h1 h2 h3 k1 k2 k3 f r' z' t1' t2') 3) :: post) → Q .none { s with heap := h', toks := tk }) :
    wpC (model prog w) A (call (.ref 107) [.ref x]) Q s := by
  refine (pad_does hn1 hn2 hn3 z1 hr hb).walk B F X N T S three_sub ?_
  rintro g' h' tk v' Y k ⟨rfl, b', r', z', t1', t2', e1, e2, e3, n, n8, nl, e4, e5⟩
  refine q h' tk b' r' z' t1' t2' ?_ (Y.fr h' k) (Y.three off k e3 e1 e2)
  rw [ones_bits] at e5
  rw [← pad_is n8 nl]
  exact rep_whole e5 e4 (by rw [List.length_append, List.length_replicate]; exact nl)
end
theorem octets_walk {prog : Program} {w : World} {A A₀ : Around} {base h₀ : Heap} {outer : List Env} {L : Addr} {m : Str → Option Value} {env : Env} {s : Shared} {pre post : List (Addr × Obj)} {loose : List Str} {mean : ExcName → Option Value} {mg mb : Str → Option Value} {Q E : Value → Shared → Prop}
    {x dx f : Addr} {r z h1 h2 h3 : Int} {k1 k2 k3 t1 t2 : Tok} {b : Array UInt8} (hn1 : x ≠ dx) (hn2 : x ≠ f) (hn3 : dx ≠ f) (hb : b.size ≤ sizeLine)
    (off : ∀ q ∈ pre ++ post, q.1 ≠ x ∧ q.1 ≠ dx ∧ q.1 ≠ f)
    (B : Below A₀ base outer h₀) (F : Fr h₀ L s.heap m) (X : (Mine.Head.hd.heap_39 w.params).In h₀) (N : News h₀ L s.heap (pre ++ (f, baObj b) :: (x, instObj 117 dx) :: (dx, dictOf (wEs h1 h2 h3 k1 k2 k3 f r z t1 t2) 3) :: post)) (T : Top Mine.Head.hd.view_39 loose mean mg mb h₀) (S : Sits A env outer L 500 4000)
    (q : ∀ h' tk t, Fr h₀ L h' m → News h₀ L h' (pre ++ (f, baObj b) :: (x, instObj 117 dx) :: (dx, dictOf (wEs h1 h2 h3 k1 k2 k3 f r z t1 t2) 3) :: post) → Q (.bytes b t) { s with heap := h', toks := tk }) :
    wpAny (model prog w) A (call (.ref 114) [.ref x]) Q E s := by
  refine (octets_does hn1 hn2 hn3 hb).walk B F X N T S three_sub ?_
  rintro g' h' tk v' Y k ⟨⟨t, rfl⟩, e1, e2, e3⟩
  exact q h' tk t (Y.fr h' k) (Y.three off k e3 e1 e2)
/-- a statement that leaves the frame and the ledger as they are -/
noncomputable def Same (h₀ : Heap) (L : Addr) (s : Shared) (m : Str → Option Value) (news : List (Addr × Obj)) (f : Flow) (s' : Shared) : Prop := f = .next ∧ ∃ h' tk, s' = { s with heap := h', toks := tk } ∧ Fr h₀ L h' m ∧ News h₀ L h' news
theorem Same.intro {h₀ : Heap} {L : Addr} {s : Shared} {m : Str → Option Value} {news news' : List (Addr × Obj)} {h' : Heap} {tk : Nat} (F : Fr h₀ L h' m) (N : News h₀ L h' news') (hs : ∀ q ∈ news, q ∈ news') : Same h₀ L s m news .next { s with heap := h', toks := tk } := ⟨rfl, h', tk, rfl, F, News.sub' N hs⟩
theorem wpC_execs_same {prog : Program} {w : World} {A : Around} {h₀ : Heap} {L : Addr} {m : Str → Option Value} {env : Env} {s : Shared} {news : List (Addr × Obj)} {st : Stmt} {rest : List Stmt} {Q : Flow → Shared → Prop} (_F : Fr h₀ L s.heap m) (_N : News h₀ L s.heap news)
    (h1 : wpAny (model prog w) A (exec st env) (Same h₀ L s m news) (fun _ _ => False) s) (h2 : ∀ h' tk, Fr h₀ L h' m → News h₀ L h' news → wpC (model prog w) A (execs rest env) Q { s with heap := h', toks := tk }) : wpC (model prog w) A (execs (st :: rest) env) Q s := by
  refine wpC_execs_cons (wpC_of_any (wpAny_mono h1 (fun f s' z => ?_) fun _ _ x => x))
  obtain ⟨rfl, h', tk, rfl, F, N⟩ := z
  exact h2 h' tk F N
theorem add_bits {prog : Program} {w : World} {A : Around} {E : Value → Shared → Prop} {s : Shared} {a b : List Bool} {t u : Tok} {Q : Value → Shared → Prop} (hsz : a.length + b.length ≤ 100000) (h : ∀ t' tk, Q (.str (textOf (a ++ b)) t') { s with toks := tk }) : wpAny (model prog w) A (binaryOp .Add (.str (textOf a) t) (.str (textOf b) u)) Q E s :=
  add_text (by rw [textOf_length, textOf_length, sizeLine_eq]; omega) fun t' tk => by rw [textOf_append]; exact h t' tk
theorem turned_bits {v : Int} (h0 : -32767 ≤ v) (h1 : v ≤ 32767) : bitsN (bitsOf v (szOf v)).toNat (szOf v).toNat = turnOf v (bitsN (absI v).toNat (szOf v).toNat) := bits_turned h0 h1
theorem bits_is {prog : Program} {w : World} {x dx : Addr} {k n h1 h2 val : Int} {k1 k2 t1 t2 u : Tok} {b : Array UInt8} (hy : x ≠ dx ∧ b.size ≤ 100000 ∧ 0 ≤ k ∧ 0 ≤ n ∧ k + n ≤ 8 * (b.size : Int) ∧ readN b k n.toNat = val) :
    Does prog w 480 4000 156 [.ref x, .int n u] [(x, instObj 159 dx), (dx, dictOf (rEs h1 h2 k1 k2 b k t1 t2) 2)]
      (fun h' _ res => h'.get? x = some (instObj 159 dx) ∧ ∃ o', h'.get? dx = some o' ∧ (∃ t2', o' = dictOf (rEs h1 h2 k1 k2 b (k + n) t1 t2') 2) ∧ ∃ t, res = .int val t) := by
  obtain ⟨hn1, hb, q0, n0, q1, rfl⟩ := hy
  exact bits_does hn1 hb q0 n0 q1
theorem reader_pack {h₀ h : Heap} {L X2 DX2 D2 : Addr} {mm : Str → Option Value} {e1 e2 : Int} {ka kb ta tb tt : Tok} {b : Array UInt8} {tx : Str} {rest : List (Addr × Obj)} {o2 : Obj}
    (hm : ∀ p ∈ [(Str.ofString "reader", Value.ref X2), (Str.ofString "numbers", Value.ref D2), (Str.ofString "text", Value.str tx tt)], mm p.1 = some p.2) (F : Fr h₀ L h mm)
    (N : News h₀ L h ((X2, instObj 159 DX2) :: (DX2, dictOf (rEs e1 e2 ka kb b 0 ta tb) 2) :: rest)) (hD : (D2, o2) ∈ rest) (l1 : @LT.lt Nat _ DX2 X2) (l2 : @LT.lt Nat _ D2 DX2) :
    ∃ X2 DX2 e1 e2 ka kb ta tb mm, (∀ p ∈ [(Str.ofString "reader", Value.ref X2), (Str.ofString "numbers", Value.ref D2), (Str.ofString "text", Value.str tx tt)], mm p.1 = some p.2) ∧ Fr h₀ L h mm ∧
      News h₀ L h [(X2, instObj 159 DX2), (DX2, dictOf (rEs e1 e2 ka kb b 0 ta tb) 2), (D2, o2)] ∧ @LT.lt Nat _ DX2 X2 ∧ @LT.lt Nat _ D2 DX2 :=
  ⟨X2, DX2, e1, e2, ka, kb, ta, tb, mm, hm, F, News.sub' N (fun q hq => by
    simp only [List.mem_cons, List.not_mem_nil, or_false] at hq
    rcases hq with rfl | rfl | rfl
    · exact .head _
    · exact .tail _ (.head _)
    · exact .tail _ (.tail _ hD)), l1, l2⟩
theorem take_get {zs : List Int} {i : Nat} {z : Int} (hz : zs[i]? = some z) : zs.take (i + 1) = zs.take i ++ [z] := by
  rw [List.take_add_one, hz]
  rfl
theorem one_five {x : Int} {n : Nat} (h0 : 0 ≤ x) (h1 : x < 5) (h : n = (1 + x).toNat) : 1 ≤ n ∧ n ≤ 5 := by
  obtain ⟨k, rfl⟩ := Int.eq_ofNat_of_zero_le h0
  subst h
  exact ⟨Nat.le_add_right 1 k, Nat.add_le_add_left (Nat.le_of_lt_succ (Int.ofNat_lt.mp h1)) 1⟩
theorem small_in {b : Int} (h0 : 0 ≤ b) (h1 : b ≤ 5) : Builtin.Range.small 0 b 1 = true := small_one (by decide) (by decide) (Int.le_trans (by decide) h0) (Int.lt_of_le_of_lt h1 (by decide))
theorem size8 {a B p : Nat} (h : 8 * B = a + p) (h1 : a ≤ 19 * 5) (h2 : p < 8) : B ≤ 12 :=
  Nat.le_of_lt_succ (Nat.lt_of_mul_lt_mul_left (a := 8) (h ▸ Nat.lt_of_lt_of_le (Nat.add_lt_add_of_le_of_lt h1 h2) (by decide)))
theorem nat_end {κ s : Int} {p q : Nat} (hκ : κ = (p : Int)) (s0 : 0 ≤ s) (h : q = p + (4 + s.toNat)) : (q : Int) = κ + 4 + s := by
  rw [h, hκ, Int.natCast_add, Int.natCast_add, Int.toNat_of_nonneg s0, Int.add_assoc]
  rfl
theorem read_step {b : Array UInt8} {zs : List Int} {post : List Bool} (hzs : ∀ z ∈ zs, -32767 ≤ z ∧ z ≤ 32767) (hb : bitsB b.toList = encs zs ++ post) {i : Nat} {z κ : Int} (hz : zs[i]? = some z) (hκ : κ = ((encs (zs.take i)).length : Int)) :
    readN b κ (Int.toNat 4) = szOf z ∧ readN b (κ + 4) (szOf z).toNat = bitsOf z (szOf z) ∧ κ + 4 + szOf z ≤ 8 * (b.size : Int) ∧ ((encs (zs.take (i + 1))).length : Int) = κ + 4 + szOf z := by
  obtain ⟨r0, r1⟩ := hzs z (List.mem_of_getElem? hz)
  obtain ⟨s0, s1, _, _⟩ := szOf_in r0 r1
  obtain ⟨w0, w1⟩ := bitsOf_in r0 r1
  have hd : encs zs = encs (zs.take i) ++ (enc z ++ encs (zs.drop (i + 1))) := by
    have e := List.take_append_drop (i + 1) zs
    rw [take_get hz] at e
    have e2 : encs zs = encs ((zs.take i ++ [z]) ++ zs.drop (i + 1)) := by rw [e]
    rw [e2]
    simp [encs]
  have hb1 : bitsB b.toList = encs (zs.take i) ++ (bitsN (szOf z).toNat 4 ++ (turnOf z (bitsN (absI z).toNat (szOf z).toNat) ++ (encs (zs.drop (i + 1)) ++ post))) := by
    rw [hb, hd]
    unfold enc
    simp only [List.append_assoc]
  have hb2 : bitsB b.toList = (encs (zs.take i) ++ bitsN (szOf z).toNat 4) ++ (turnOf z (bitsN (absI z).toNat (szOf z).toNat) ++ (encs (zs.drop (i + 1)) ++ post)) := by
    rw [hb1, List.append_assoc]
  have e4 : (Int.toNat 4) = 4 := by decide
  have c1 := read_at hb1 (k := κ) (n := 4) hκ (by rw [bitsN_length]; rfl)
  have c2 := read_at hb2 (k := κ + 4) (n := szOf z) (by rw [List.length_append, bitsN_length, hκ]; rfl) (by rw [turnOf_length, bitsN_length, Int.toNat_of_nonneg s0])
  refine ⟨?_, ?_, ?_, ?_⟩
  · rw [c1, valN_bitsN (Nat.lt_succ_of_le (Int.toNat_le.mpr s1) : _ < 2 ^ 4), Int.toNat_of_nonneg s0]
  · rw [c2, ← turned_bits r0 r1, valN_bitsN (toNat_lt_pow w1), Int.toNat_of_nonneg w0]
  · have hl := congrArg List.length hb2
    rw [bitsB_length, List.length_append, List.length_append, List.length_append, bitsN_length, turnOf_length, bitsN_length] at hl
    rw [Nat.add_assoc, ← Nat.add_assoc 4, ← Nat.add_assoc] at hl
    rw [← nat_end hκ s0 rfl]
    exact Int.ofNat_le.mpr (Nat.le_trans (Nat.le_add_right _ _) (Nat.le_of_eq hl.symm))
  · rw [take_get hz, encs_snoc, List.length_append]
    unfold enc
    rw [List.length_append, bitsN_length, turnOf_length, bitsN_length]
    exact nat_end hκ s0 rfl
theorem read_end {b : Array UInt8} {l : List Bool} (hb : bitsB b.toList = l ++ List.replicate (padOf l) true) {κ : Int} (hκ : κ = (l.length : Int)) :
    8 * (b.size : Int) - κ = Int.fmod (-((textOf l).length : Int)) 8 ∧ readN b κ (8 * (b.size : Int) - κ).toNat = 2 ^ (Int.fmod (-((textOf l).length : Int)) 8).toNat - 1 ∧ κ ≤ 8 * (b.size : Int) := by
  have hl := congrArg List.length hb
  rw [bitsB_length, List.length_append, List.length_replicate] at hl
  have hp : ((padOf l : Nat) : Int) = Int.fmod (-(l.length : Int)) 8 := Int.toNat_of_nonneg (Int.fmod_nonneg_of_pos _ (by decide))
  have h8 : 8 * (b.size : Int) = (l.length : Int) + (padOf l : Int) := congrArg Int.ofNat hl
  have h1 : 8 * (b.size : Int) - κ = ((padOf l : Nat) : Int) := by rw [h8, hκ, Int.add_comm, Int.add_sub_cancel]
  rw [textOf_length, ← hp, h1]
  refine ⟨rfl, ?_, by rw [h8, hκ]; exact Int.le_add_of_nonneg_right (Int.natCast_nonneg _)⟩
  have hb1 : bitsB b.toList = l ++ (List.replicate (padOf l) true ++ []) := by rw [hb, List.append_nil]
  have c := read_at hb1 (k := κ) (n := ((padOf l : Nat) : Int)) hκ (by rw [List.length_replicate])
  rw [c, ← ones_bits, valN_bitsN (Nat.sub_lt (Nat.two_pow_pos _) Nat.one_pos), Int.toNat_natCast, Int.natCast_sub (Nat.two_pow_pos _), pow_cast]
  rfl
section
variable {prog : Program} {w : World} {A A₀ : Around} {base h₀ : Heap} {outer : List Env} {L : Addr} {m : Str → Option Value} {env : Env} {s : Shared} {news : List (Addr × Obj)} {dp un : Nat} {f : Addr} {args : List Value}
  {loose : List Str} {mean : ExcName → Option Value} {mg mb : Str → Option Value} {Q E : Value → Shared → Prop}
theorem octets_walk0 {post : List (Addr × Obj)} {x dx g : Addr} {r z h1 h2 h3 : Int} {k1 k2 k3 t1 t2 : Tok} {b : Array UInt8} (hn1 : x ≠ dx) (hn2 : x ≠ g) (hn3 : dx ≠ g) (hb : b.size ≤ sizeLine) (off : ∀ q ∈ [] ++ post, q.1 ≠ x ∧ q.1 ≠ dx ∧ q.1 ≠ g)
    (B : Below A₀ base outer h₀) (F : Fr h₀ L s.heap m) (X : (Mine.Head.hd.heap_39 w.params).In h₀) (N : News h₀ L s.heap ((g, baObj b) :: (x, instObj 117 dx) :: (dx, dictOf (wEs h1 h2 h3 k1 k2 k3 g r z t1 t2) 3) :: post)) (T : Top Mine.Head.hd.view_39 loose mean mg mb h₀) (S : Sits A env outer L 500 4000)
    (q : ∀ h' tk t, Fr h₀ L h' m → News h₀ L h' ((g, baObj b) :: (x, instObj 117 dx) :: (dx, dictOf (wEs h1 h2 h3 k1 k2 k3 g r z t1 t2) 3) :: post) → Q (.bytes b t) { s with heap := h', toks := tk }) :
    wpAny (model prog w) A (call (.ref 114) [.ref x]) Q E s := octets_walk (pre := []) hn1 hn2 hn3 hb off B F X N T S q
theorem loctets_walk {l : List Bool} {u : Tok} (hl : l.length ≤ 1000) (B : Below A₀ base outer h₀) (F : Fr h₀ L s.heap m) (X : (Mine.Head.hd.heap_39 w.params).In h₀) (N : News h₀ L s.heap news) (T : Top Mine.Head.hd.view_39 loose mean mg mb h₀) (S : Sits A env outer L 460 3500)
    (h : ∀ h' tk, Fr h₀ L h' m → News h₀ L h' news → ∀ b t, bitsB b.toList = l ++ List.replicate (padOf l) true → Q (.bytes b t) { s with heap := h', toks := tk }) : wpAny (model prog w) A (call (.ref 206) [.str (textOf l) u]) Q E s :=
  (loctets_does hl).walk0 B F X N T S fun h' tk _ F' N' ⟨b, t, e, hb⟩ => e ▸ h h' tk F' N' b t hb
end

section
universe u
variable {α1 α2 α3 α4 α5 α6 α7 : Type} {G q1 q2 q3 q4 q5 q6 q7 : Prop}
theorem ex2i {P : α1 → α2 → Prop} (k : ∀ a b, P a b → G) : (∃ a b, P a b) → G := fun ⟨a, b, h⟩ => k a b h
theorem ex6i {P : α1 → α2 → α3 → α4 → α5 → α6 → Prop} (k : ∀ a b c d e f, P a b c d e f → G) : (∃ a b c d e f, P a b c d e f) → G := fun ⟨a, b, c, d, e, f, h⟩ => k a b c d e f h
theorem ex7i {P : α1 → α2 → α3 → α4 → α5 → α6 → α7 → Prop} (k : ∀ a b c d e f g, P a b c d e f g → G) : (∃ a b c d e f g, P a b c d e f g) → G := fun ⟨a, b, c, d, e, f, g, h⟩ => k a b c d e f g h
theorem and3i (k : q1 → q2 → q3 → G) : q1 ∧ q2 ∧ q3 → G := fun h => k h.1 h.2.1 h.2.2
theorem and5i (k : q1 → q2 → q3 → q4 → q5 → G) : q1 ∧ q2 ∧ q3 ∧ q4 ∧ q5 → G := fun h => k h.1 h.2.1 h.2.2.1 h.2.2.2.1 h.2.2.2.2
theorem and7i (k : q1 → q2 → q3 → q4 → q5 → q6 → q7 → G) : q1 ∧ q2 ∧ q3 ∧ q4 ∧ q5 ∧ q6 ∧ q7 → G := fun h => k h.1 h.2.1 h.2.2.1 h.2.2.2.1 h.2.2.2.2.1 h.2.2.2.2.2.1 h.2.2.2.2.2.2
end

theorem sz_le {l b : Nat} {z : Int} (h : l = 8 * b + z.toNat) (hl : l ≤ 8000) : b ≤ 1000 := by omega
theorem stopIf {M : Model} {A : Around} {args : List Value} {Q E : Value → Shared → Prop} {s : Shared} {f : Addr} (_h : [170, 184, 206, 114].contains f = true) (h : Marked (wpAny M A (call (.ref f) args) Q E s)) : wpAny M A (call (.ref f) args) Q E s := h


end
-- MACROS
local macro_rules | `(tactic| walk_at $s:str) => match s.getString with
  | "MY def0" => `(tactic| (first | apply size_is | apply category_is | apply bits_of_does | apply value_of_does | apply figures_does | apply turned_does) <;> first | with_reducible assumption | omega)
  | "MY hv" => `(tactic| first | exact Or.inl (by omega) | exact Or.inr (Int.le_refl _))
  | "call ref" => `(tactic| first
    | walk_at "MY call0"
    | ((walk_at "MY head"); k_dflt ((with_reducible first | refine' Does.walkT bits_is ?B ?F ?X ?N ?T ?S ?M ?U ?H ?_ | refine' Does.walkT left_c ?B ?F ?X ?N ?T ?S ?M ?U ?H ?_); walk_at "MY tail"); intros; walk_at "MY rest")
    | (k_dflt ((with_reducible refine' refused_walk ?n0 ?n1 ?hv ?B ?F ?X ?N ?T ?S ?M ?_); (case n0 | n1 => assumption); (case hv => walk_at "MY hv"); walk_at "MY five"; (case M => walk_at "MY sub"); k_whole); intros; walk_at "MY rest"))
  | "binaryOp Add str str" => `(tactic| ((with_reducible refine add_bits (by simp only [List.length_append, bitsN_length, turnOf_length]; omega) ?_); intros))
  | _ => Lean.Macro.throwUnsupported

-- part l1
section
-- needs: math1 math2 math3 math4 math5 math6 int2 clean clean2 clean3 ba1 ba2 crules crules2 bridge head base base2 base3 cfor nfor comp f1 f2 f3 f4 w0 w1 w2 w3 r1 r2 p1 t1 t2 t3 x0 x1 x2 x3 x4 x5 l0
local macro_rules | `(tactic| walk_at "call ref") => `(tactic| refine stopIf rfl ?_)
local macro_rules | `(tactic| walk_at $s:str) => match s.getString with
  | "pyIter ref" | "exec Assign cons ListComp" => `(tactic| walk_at "MY stop")
  | _ => Lean.Macro.throwUnsupported

set_option maxHeartbeats 8000000 in
theorem law_does {prog : Program} {w : World} {l : Addr} {vs : List Value} {ns : List Int} (hi : IntsAre vs ns) (hz : vs.length ≤ 63)
    (s : Shared) (loose : List Str) (mean : ExcName → Option Value) (mg mb : Str → Option Value) (R : Flow → Shared → Prop)
    (X : (Mine.Head.hd.heap_39 w.params).In s.heap) (T : Top Mine.Head.hd.view_39 loose mean mg mb s.heap) (hl : s.heap.IsList l vs.toArray)
    (h : ∀ h' tk, Keeps s.heap h' → R (.ret (.bool true)) { s with heap := h', toks := tk }) :
    codeC (model prog w) (Ar 301 4 []) (.call (.ref 218) ⟨[.ref l], []⟩) R s := by
  have B : Below (Ar 301 4 []) s.heap [] s.heap := ⟨rfl, fun _ _ e => e, trivial⟩
  have hN : ∀ q ∈ ([] : List (Addr × Obj)), s.heap.get? q.1 = some q.2 ∧ s.heap.get? q.1 = none := fun _ h => nomatch h
  have kg : Keeps s.heap s.heap := fun _ _ e => e
  have sz : s.heap.objs.size ≤ s.heap.objs.size := Nat.le_refl _
  k_dflt (refine' enterCellC [(Str.ofString "script", Value.ref l)] ?kB0 ?kX ?kT ?kg ?ksz ?kN ?k6 ?k7 ?k8 ?k9 ?kB ?kD ?_ ?c2 ?c3 ?c4; (case kB0 | kX | kT | kg | ksz | kN => assumption); (case k6 | k7 => k_is); (case k8 => decide); (case k9 => exact BindsTo.of_eq rfl); (case c2 | c3 | c4 => exact rfl); (case kB => exact rfl); (case kD => decide +kernel))
  clear B
  intro L' h' tk' cells' B' F' N' Y' l1 lz
  k_cells Y'
  (try simp only [List.cons_append, List.nil_append] at N')
  (try dsimp only)
  clear kg sz hN l1
  refine wpC_execs_cons (wpC_of_any ?_)
  walk_at "MY steps"
  unfold Marked
  k_dflt ((with_reducible refine' pool_walk ?hi ?hz ?hl ?B ?F ?X ?N ?T ?S ?_); (case hi | hz | hl => assumption); walk_at "MY five")
  intro _ _ _ _ _ lD2
  intros
  (try k_lt lD2)
  walk_at "MY rest"
  walk_at "MY steps"
  (try dsimp only)
  refine wpC_execs_cons (wpC_of_any ?_)
  walk_at "MY steps"
  unfold Marked
  k_dflt (refine Assign_ListComp_my (by k_asm) (by rfl) (by with_unfolding_all rfl) (by with_unfolding_all rfl) (by decide) (by rfl) (by decide) (by rfl) (by rfl) (by rfl) ?_)
  walk_at "MY steps"
  unfold Marked
  (with_reducible rename Fr _ _ _ _ => kF); (with_reducible rename News _ _ _ _ => kN); (with_reducible rename IsRange _ _ _ _ _ _ _ _ => rg)
  rename_i D lD sa sb ta tb sn q0a q1a q2a h2 oc dc h3 tk3 F3 a3 b3 ta3 tb3 n3 q0 q1 q2 x3 t3 q3 q4 N3 h4 tk4 t14 u14 v14 hk4
  clear q0a q1a q2a F3 N3
  refine lcA_range (n := (1 + x3).toNat) (fun i ys news => ∃ a b ta tb n zs, news = [(D, srcOf a b ta tb n), (L' + 1, oc)] ∧ 0 ≤ a ∧ 0 ≤ b ∧ b < 2147483647 ∧ IntsAre ys zs ∧ zs.length = i ∧ ∀ z ∈ zs, -32767 ≤ z ∧ z ≤ 32767) rfl rg (small_in (Int.add_nonneg (by decide) q3) (Int.add_le_add_left (Int.le_of_lt_add_one (b := 4) q4) 1)) (by rw [rangeSize_nat, Int.sub_zero]) (by rw [sizeLine_eq]; exact Nat.le_trans (one_five q3 q4 rfl).2 (by decide)) kF kN ⟨_, _, _, _, _, [], rfl, q0, q1, q2, .nil, rfl, fun _ h => nomatch h⟩ ?_ ?_
  · clear kF kN rg hk4
    rintro g' i ys news v' I oI C oC D2 m₂ h tk E' hi ⟨t, rfl⟩
    refine ex6i fun a b ta tb n zs => and7i fun e p0 p1 p2 hys hzl hzs => ?_
    subst e
    intro hC hx kF kN off ne
    (try dsimp only at kN)
    (try simp only [LCg.Off3, and_true] at off)
    obtain ⟨⟨off1, off2, off3⟩, off4⟩ := off
    (try k_fold)
    walk_at "MY steps"
    unfold Marked
    k_dflt ((with_reducible refine' Does.walkS number_c ?B ?F ?X ?N ?T ?S ?U ?H ?_); walk_at "MY tail")
    intros
    walk_at "MY rest"
    walk_at "MY steps"
    (with_reducible rename Fr _ _ _ _ => kF); (with_reducible rename News _ _ _ _ => kN)
    refine EltEnd.intro (news' := [(D, srcOf _ _ _ _ _), (L' + 1, oc)]) kF kN (by walk_at "MY sub") ⟨⟨off1, off2, off3⟩, off4, trivial⟩ ⟨_, _, _, _, _, zs ++ [_], rfl, by assumption, by assumption, by assumption, intsAre_snoc hys _ _, by rw [List.length_append, hzl]; rfl, fun z hz => ?_⟩
    rcases List.mem_append.mp hz with hz | hz
    · exact hzs z hz
    · rw [List.mem_singleton.mp hz]
      exact ⟨by assumption, by assumption⟩
  · clear kF kN rg hk4
    intro D2 ys news h5 tk5
    refine ex6i fun a b ta tb n zs => and7i fun e p0 p1 p2 hys hzl hzs => ?_
    subst e
    intro kF kN o1
    (try dsimp only)
    have hyl := hys.length
    have hz1 := one_five q3 q4 (hyl.trans hzl)
    have hz5 : zs.length ≤ 5 := hyl ▸ hz1.2
    simp only [LCg.Off1, and_true] at o1
    obtain ⟨o1, o2⟩ := o1
    clear hzl
    clear q0 q1 q2
    refine wpC_execs_cons (wpC_Assign_TupleS (names := [Str.ofString "bent", Str.ofString "writer", Str.ofString "text"]) (by with_unfolding_all rfl) (wpC_Tuple (wpC_spliced_more (wpC_of_any ?_))))
    walk_at "MY steps"
    rename_i h5' tk5' F5 a5 b5 ta5 tb5 n5 q05 q15 q25 be tbe qb0 qb1 N5
    (try dsimp only)
    refine wpC_spliced_more (wpC_callName ?_)
    walk_at "MY steps"
    k_dflt (refine wpC_callWith_K (K := Mine.Head.hd.heap_39 w.params) (by k_is) rfl ?_)
    walk_at "MY steps"
    (with_reducible rename Fr _ _ _ _ => kF); (with_reducible rename News _ _ _ _ => kN)
    refine make_writer B' kF X kN T (by walk_at "MY sits") fun h6 tk6 x dx f g1 g2 g3 k1 k2 k3 t1 t2 lx1 lx2 lx3 lx4 F6 N6 => ?_
    clear kF kN
    k_lt lx4
    replace lx1 := ltN lx1
    replace lx2 := ltN lx2
    replace lx3 := ltN lx3
    (try dsimp only)
    refine wpC_spliced_more (wpC_of_any ?_)
    walk_at "MY steps"
    (try dsimp only)
    refine wpC_spliced_none ?_
    walk_at "MY steps"
    refine wpC_execs_cons (wpC_For ?_)
    walk_at "MY steps"
    unfold Marked
    (with_reducible rename Fr _ _ _ _ => kF); (with_reducible rename News _ _ _ _ => kN); (with_reducible rename IsRange _ _ _ _ _ _ _ _ => rg)
    refine forC_range (n := zs.length) (fun i m news => ∃ r z t1' t2' b bs tt, (∀ p ∈ [(Str.ofString "numbers", Value.ref D2), (Str.ofString "bent", Value.int be tbe), (Str.ofString "writer", Value.ref x), (Str.ofString "text", Value.str (textOf bs) tt)], m p.1 = some p.2) ∧
      news = [(f, baObj b), (x, instObj 117 dx), (dx, dictOf (wEs g1 g2 g3 k1 k2 k3 f r z t1' t2') 3), (D2, LCg.lst ys)] ∧ Rep b r z bs ∧ z < 8 ∧ bs = encs (zs.take i)) rfl rg (small_in (Int.natCast_nonneg _) (Int.ofNat_le.mpr hz5)) (by rw [rangeSize_nat, Int.sub_zero, Int.toNat_natCast]) kF (News.sub' kN (by walk_at "MY sub"))
      ⟨0, 0, _, _, #[], [], _, by rw [← textOf_nil]; kst_all, rfl, rep_nil, by decide, rfl⟩ (fun s m news v Q E F N h => storeX_L F N h) ?_ ?_
    · clear kF kN rg
      intro i m news h tk t I ob hzi
      clear hz1
      refine ex7i fun r z t1' t2' b bs tt => and5i fun hm e hr z1 hbs => ?_
      subst e
      intro o₁ kF kN
      have i1 := neN (o₁ (f, _) (.head _))
      have i2 := neN (o₁ (x, _) (.tail _ (.head _)))
      have i3 := neN (o₁ (dx, _) (.tail _ (.tail _ (.head _))))
      have i4 := neN (o₁ (D2, _) (.tail _ (.tail _ (.tail _ (.head _)))))
      rw [kstB_self hm] at kF
      have hgv : zs.getD (0 + (i : Int)).toNat 0 = zs[i] := by
        rw [Int.zero_add, Int.toNat_natCast]
        simp [hzi]
      have hv0 : -32767 ≤ zs.getD (0 + (i : Int)).toNat 0 := hgv ▸ (hzs _ (List.getElem_mem hzi)).1
      have hv1 : zs.getD (0 + (i : Int)).toNat 0 ≤ 32767 := hgv ▸ (hzs _ (List.getElem_mem hzi)).2
      obtain ⟨s0, s1, s2, s3⟩ := szOf_in hv0 hv1
      clear s2 s3
      refine wpC_execs_cons (wpC_of_any ?_)
      walk_at "MY steps"
      (try dsimp only)
      refine wpC_execs_cons (wpC_of_any ?_)
      walk_at "MY steps"
      · exfalso
        omega
      (try dsimp only)
      refine wpC_execs_cons (wpC_Expr (wpC_method ?_))
      walk_at "MY steps"
      k_dflt (refine wpC_callWith_K (K := Mine.Head.hd.heap_39 w.params) (by k_is) rfl ?_)
      walk_at "MY steps"
      (with_reducible rename Fr _ _ _ _ => kF); (with_reducible rename News _ _ _ _ => kN)
      have hbl := hr.len
      have hbe : bs.length ≤ 19 * 5 := by
        rw [hbs]
        refine Nat.le_trans (encs_length fun z hz => hzs z (List.mem_of_mem_take hz)) (Nat.mul_le_mul_left _ ?_)
        rw [List.length_take]
        exact Nat.le_trans (Nat.min_le_right _ _) hz5
      have hn1 : x ≠ dx := Nat.ne_of_gt lx2
      have hn2 : x ≠ f := Nat.ne_of_lt lx3
      have hn3 : dx ≠ f := Nat.ne_of_lt (Nat.lt_trans lx2 lx3)
      have hoff : ∀ q ∈ [(I, ob)] ++ [(D2, LCg.lst ys)], q.1 ≠ x ∧ q.1 ≠ dx ∧ q.1 ≠ f := all2 (P := fun q : Addr × Obj => q.1 ≠ x ∧ q.1 ≠ dx ∧ q.1 ≠ f) ⟨Ne.symm i2, Ne.symm i3, Ne.symm i1⟩ ⟨Nat.ne_of_lt (Nat.lt_trans lx4.1 lx2), Nat.ne_of_lt lx4.1, Nat.ne_of_lt (Nat.lt_trans lx4.1 (Nat.lt_trans lx2 lx3))⟩
      refine put_walk (pre := [(I, ob)]) (post := [(D2, LCg.lst ys)]) hn1 hn2 hn3 (by decide) (by decide) s0 (Int.lt_of_le_of_lt s1 (by decide)) z1 hr (sz_le hbl (Nat.le_trans hbe (by decide))) B' kF X kN T (by walk_at "MY sits") hoff fun h7 tk7 b7 r7 z7 t17 t27 z17 hr7 F7 N7 => ⟨rfl, ?_⟩
      clear kF kN
      (try simp only [List.cons_append, List.nil_append] at N7)
      refine wpC_execs_same F7 N7 ?_ fun h8 tk8 F8 N8 => ?_
      · walk_at "MY steps"
        all_goals ((with_reducible rename Fr _ _ _ _ => kF); (with_reducible rename News _ _ _ _ => kN))
        all_goals exact Same.intro kF kN (by walk_at "MY sub")
      clear F7 N7
      refine wpC_execs_same F8 N8 ?_ fun h9 tk9 F9 N9 => ?_
      · walk_at "MY steps"
        all_goals ((with_reducible rename Fr _ _ _ _ => kF); (with_reducible rename News _ _ _ _ => kN))
        all_goals exact Same.intro kF kN (by walk_at "MY sub")
      clear F8 N8
      refine wpC_execs_cons (wpC_Expr (wpC_method ?_))
      walk_at "MY steps"
      k_dflt (refine wpC_callWith_K (K := Mine.Head.hd.heap_39 w.params) (by k_is) rfl ?_)
      walk_at "MY steps"
      (with_reducible rename Fr _ _ _ _ => kF); (with_reducible rename News _ _ _ _ => kN)
      have hbl7 := hr7.len
      rw [List.length_append, bitsN_length] at hbl7
      have h44 : (4 : Int).toNat = 4 := by decide
      obtain ⟨w0, w1⟩ := bitsOf_in hv0 hv1
      refine put_walk (pre := [(I, ob)]) (post := [(D2, LCg.lst ys)]) hn1 hn2 hn3 s0 s1 w0 w1 z17 hr7 (sz_le hbl7 (Nat.le_trans (Nat.add_le_add_right hbe _) (by decide))) B' kF X kN T (by walk_at "MY sits") hoff fun h10 tk10 b10 r10 z10 t110 t210 z110 hr10 F10 N10 => ⟨rfl, ?_⟩
      clear kF kN
      (try simp only [List.cons_append, List.nil_append] at N10)
      refine wpC_execs_cons (wpC_of_any ?_)
      walk_at "MY steps"
      (with_reducible rename Fr _ _ _ _ => kF); (with_reducible rename News _ _ _ _ => kN)
      (try dsimp only)
      have hen : encs (zs.take (i + 1)) = bs ++ bitsN (szOf (zs.getD (0 + (i : Int)).toNat 0)).toNat (4 : Int).toNat ++ turnOf (zs.getD (0 + (i : Int)).toNat 0) (bitsN (absI (zs.getD (0 + (i : Int)).toNat 0)).toNat (szOf (zs.getD (0 + (i : Int)).toNat 0)).toNat) := by
        rw [List.take_add_one, List.getElem?_eq_getElem hzi, hbs, ← hgv]
        show encs (_ ++ [_]) = _
        rw [encs_snoc, List.append_assoc]
        rfl
      rw [turned_bits hv0 hv1] at hr10
      refine wpC_execs_nil ?_
      refine EndTurn.intro (news' := [(f, baObj b10), (x, instObj 117 dx), (dx, dictOf (wEs g1 g2 g3 k1 k2 k3 f r10 z10 t110 t210) 3), (D2, LCg.lst ys)]) kF kN (by walk_at "MY sub") (fun q hq => ?_) ⟨r10, z10, t110, t210, b10, _, _, by kst_all, rfl, hr10, z110, hen.symm⟩
      simp only [List.mem_cons, List.not_mem_nil, or_false] at hq
      rcases hq with rfl | rfl | rfl | rfl
      · exact i1
      · exact i2
      · exact i3
      · exact i4
    · clear kF kN rg
      intro m news h7 tk7
      refine ex7i fun r z t1' t2' b bs tt => and5i fun hm e hr z1 hbs => ?_
      subst e
      intro kF kN
      rw [List.take_length] at hbs
      rw [kstB_self hm] at kF
      (try dsimp only)
      refine wpC_execs_cons (wpC_Expr (wpC_method ?_))
      walk_at "MY steps"
      k_dflt (refine wpC_callWith_K (K := Mine.Head.hd.heap_39 w.params) (by k_is) rfl ?_)
      walk_at "MY steps"
      (with_reducible rename Fr _ _ _ _ => kF); (with_reducible rename News _ _ _ _ => kN)
      have hbl := hr.len
      have hbe : bs.length ≤ 19 * 5 := by
        rw [hbs]
        exact Nat.le_trans (encs_length hzs) (Nat.mul_le_mul_left _ hz5)
      have hn1 : x ≠ dx := Nat.ne_of_gt lx2
      have hn2 : x ≠ f := Nat.ne_of_lt lx3
      have hn3 : dx ≠ f := Nat.ne_of_lt (Nat.lt_trans lx2 lx3)
      have hoff : ∀ q ∈ ([] : List (Addr × Obj)) ++ [(D2, LCg.lst ys)], q.1 ≠ x ∧ q.1 ≠ dx ∧ q.1 ≠ f := by
        intro q hq
        rw [List.nil_append, List.mem_singleton] at hq
        subst hq
        exact ⟨Nat.ne_of_lt (Nat.lt_trans lx4.1 lx2), Nat.ne_of_lt lx4.1, Nat.ne_of_lt (Nat.lt_trans lx4.1 (Nat.lt_trans lx2 lx3))⟩
      refine pad_walk (pre := []) (post := [(D2, LCg.lst ys)]) hn1 hn2 hn3 z1 hr (sz_le hbl (Nat.le_trans hbe (by decide))) B' kF X kN T (by walk_at "MY sits") hoff fun h8 tk8 b8 r8 z8 t18 t28 hb8 F8 N8 => ⟨rfl, ?_⟩
      clear kF kN
      (try simp only [List.cons_append, List.nil_append] at N8)
      have hb8l : 8 * b8.size = bs.length + padOf bs := by
        have := congrArg List.length hb8
        rw [bitsB_length, List.length_append, List.length_replicate] at this
        exact this
      have hb12 := size8 hb8l hbe (pad_low _)
      have hb8s : b8.size ≤ sizeLine := by rw [sizeLine_eq]; exact Nat.le_trans hb12 (by decide)
      clear hb8l hbl
      refine wpC_execs_same F8 N8 ?_ fun h9 tk9 F9 N9 => ?_
      · walk_at "MY steps"
        unfold Marked
        walk_at "MY head"
        k_dflt ((with_reducible refine' octets_walk0 ?oc1 ?oc2 ?oc3 ?oc4 ?oc5 ?B ?F ?X ?N ?T ?S ?_); walk_at "MY five"; (case oc1 | oc2 | oc3 | oc4 | oc5 => assumption))
        intros
        walk_at "MY rest"
        walk_at "MY steps"
        unfold Marked
        k_dflt ((with_reducible refine' loctets_walk ?a0 ?B ?F ?X ?N ?T ?S ?_); walk_at "MY five"; (case a0 => exact Nat.le_trans hbe (by decide)))
        intros
        walk_at "MY rest"
        walk_at "MY steps"
        all_goals rename_i b' tb' hb' ab
        · rw [bitsB_inj (hb8.trans hb'.symm)] at ab
          simp at ab
        · (with_reducible rename Fr _ _ _ _ => kF); (with_reducible rename News _ _ _ _ => kN)
          exact Same.intro kF kN (by walk_at "MY sub")
      clear F8 N8
      refine wpC_execs_cons (wpC_of_any ?_)
      walk_at "MY steps"
      unfold Marked
      walk_at "MY head"
      k_dflt ((with_reducible refine' octets_walk0 ?oc1 ?oc2 ?oc3 ?oc4 ?oc5 ?B ?F ?X ?N ?T ?S ?_); walk_at "MY five"; (case oc1 | oc2 | oc3 | oc4 | oc5 => assumption))
      intros
      walk_at "MY rest"
      walk_at "MY steps"
      (try dsimp only)
      (with_reducible rename Fr _ _ _ _ => kF); (with_reducible rename News _ _ _ _ => kN)
      obtain ⟨X2, DX2, e1, e2, ka, kb, ta2, tb2, mm, hmm, kF2, kN2, lX, lD2'⟩ := reader_pack (D2 := D2) (o2 := LCg.lst ys) (tx := textOf bs) (tt := tt) (by kst_all) kF kN (by k_mem) (by omega) (by omega)
      clear kF kN
      (with_reducible rename Below _ _ _ _ => bJ)
      (rename Top _ _ _ _ _ _ => tJ)
      (rename (Mine.Head.hd.heap_39 w.params).In _ => xJ)
      clear bJ tJ xJ
      refine wpC_execs_cons (wpC_of_any (wpAny_ForN ?_))
      rw [kstB_self hmm] at kF2
      walk_at "MY steps"
      unfold Marked
      have hb9 : bitsB b8.toList = encs zs ++ List.replicate (padOf bs) true := by rw [hb8, hbs]
      have hne2 : X2 ≠ DX2 := Nat.ne_of_gt lX
      refine forN_list (l := D2) (items := ys.toArray) (c := ys.length) (fun i m news => ∃ κ tb', κ = ((encs (zs.take i)).length : Int) ∧ (∀ p ∈ [(Str.ofString "reader", Value.ref X2), (Str.ofString "text", Value.str (textOf bs) tt)], m p.1 = some p.2) ∧
        news = [(X2, instObj 159 DX2), (DX2, dictOf (rEs e1 e2 ka kb b8 κ ta2 tb') 2), (D2, listOf ys.toArray ys.length)]) rfl ?_ kF2 kN2 ⟨0, tb2, rfl, by kst_all, rfl⟩ (fun s m news v Q E F N h => storeX_L F N h) ?_ ?_
      · rintro i m news ⟨κ, tb', _, _, rfl⟩
        exact .tail _ (.tail _ (.head _))
      · clear kF2 kN2
        intro i m news h tk v I ob hi' hv
        refine ex2i fun κ tb' => and3i fun hκ hm e => ?_
        subst e
        intro o₁ kF kN
        have i1 := neN (o₁ (X2, _) (.head _))
        have i2 := neN (o₁ (DX2, _) (.tail _ (.head _)))
        have i3 := neN (o₁ (D2, _) (.tail _ (.tail _ (.head _))))
        obtain ⟨z, tz, rfl, hzi⟩ := IntsAre.at hys i v (by simpa using hv)
        obtain ⟨r0, r1⟩ := hzs z (List.mem_of_getElem? hzi)
        obtain ⟨s0, s1, s2, s3⟩ := szOf_in r0 r1
        clear s2 s3
        have hvb := value_back r0 r1
        obtain ⟨rd4, rds, rdl, rdn⟩ := read_step hzs hb9 hzi hκ
        have hκ0 : 0 ≤ κ := hκ ▸ Int.natCast_nonneg _
        have hb100 : b8.size ≤ 100000 := Nat.le_trans hb12 (by decide)
        have hκ4 : κ + 4 ≤ 8 * (b8.size : Int) := Int.le_trans (Int.le_add_of_nonneg_right s0) rdl
        have hκ5 : 0 ≤ κ + 4 := Int.add_nonneg hκ0 (by decide)
        rw [kstB_self hm] at kF
        show wpAny _ _ _ _ _ _
        (try k_fold)
        walk_at "MY steps"
        all_goals rename_i ab
        · exact absurd hvb ab
        (with_reducible rename Fr _ _ _ _ => kF)
        (with_reducible rename News _ _ _ _ => kN)
        refine EndTurn.intro (news' := [(X2, instObj 159 DX2), (DX2, dictOf (rEs e1 e2 ka kb b8 (κ + 4 + szOf z) ta2 _) 2), (D2, listOf ys.toArray ys.length)]) kF kN (by walk_at "MY sub") (fun q hq => ?_) ⟨_, _, rdn.symm, by kst_all, rfl⟩
        simp only [List.mem_cons, List.not_mem_nil, or_false] at hq
        rcases hq with rfl | rfl | rfl
        · exact i1
        · exact i2
        · exact i3
      · clear kF2 kN2
        intro m news h10 tk10
        refine ex2i fun κ tb' => and3i fun hκ hm e => ?_
        subst e
        intro kF kN
        rw [List.take_of_length_le (by simp only [List.size_toArray]; exact Nat.le_of_eq hyl.symm)] at hκ
        obtain ⟨re1, re2, re3⟩ := read_end (hbs ▸ hb8) hκ
        rw [kstB_self hm] at kF
        have hκ0 : 0 ≤ κ := hκ ▸ Int.natCast_nonneg _
        have hb100 : b8.size ≤ 100000 := Nat.le_trans hb12 (by decide)
        have hκ8 : κ ≤ 100000000 := hκ ▸ Int.ofNat_le.mpr (Nat.le_trans (hbs ▸ hbe) (by decide))
        have f0 : 0 ≤ Int.fmod (-((textOf (encs zs)).length : Int)) 8 := Int.fmod_nonneg_of_pos _ (by decide)
        have f1 : Int.fmod (-((textOf (encs zs)).length : Int)) 8 < 8 := Int.fmod_lt_of_pos _ (by decide)
        subst hbs
        (rename (Mine.Head.hd.heap_39 w.params).In _ => xJ)
        (rename Top _ _ _ _ _ _ => tJ)
        clear xJ tJ
        have htl : (textOf (encs zs)).length ≤ 95 := by rw [textOf_length]; exact hbe
        (try dsimp only)
        refine wpC_execs_cons (wpC_of_any ?_)
        walk_at "MY steps"
        all_goals ((with_reducible rename Fr _ _ _ _ => kF); (with_reducible rename News _ _ _ _ => kN))
        · rw [beq_self_eq_true]
          exact h _ _ kF.keep
        · rw [re1, beq_self_eq_true]
          exact h _ _ kF.keep

end

end Mine
-- needs: head l1
set_option maxHeartbeats 8000000 in
theorem PySem.Challenge.cw_ok0128_01_holds : PySem.Challenge.rw_ok0128_01.Holds := by
  refine Mine.Head.hd ?_
  intro w s₀ s₁ mg mb G Y a o pm cd doc dV kV ho hd hcd hD hmg hg args vals as hpre hlay hrd hwl hlo
  have KX := kIn_of Y
  refine Ground.open G ?_
  intro T B D TE TW
  have e := PySem.W.mg_of KX T.g (n := PySem.Str.ofString "law") (v := .ref 218) (by k_is)
  have ea : a = 218 := by
    have h1 := hmg.symm.trans e
    injection h1 with h1
    injection h1 with h1
  subst ea
  clear D TE TW B hmg e hcd hD ho hd
  wrow_args hpre hlay hrd hwl hlo
  rename_i ns hs hla hL1 hr1 hl2 as4 as3 l vs as0 hL ra w1 r0 hI hr hc1 hc2
  have hlen : vs.length ≤ 63 := by
    have := hI.length
    omega
  have good : ∀ (h' : Heap) (tk : Nat), Mine.Keeps s₁.heap h' → GoodWG PySem.Challenge.rw_ok0128_01.row.claim (classAt s₀.heap) (ExcName.means s₀.heap) [ofPy (PyData.list (ns.map PyData.int))] s₁ (.ok (.ret (.bool true))) { s₁ with heap := h', toks := tk } := by
    intro h' tk hk
    refine GoodW.toG ⟨.inl ⟨_, _, _, rfl, raisesW_false ?_, .bool true, ?_, unshared_nil⟩, hk, rfl, hg⟩
    · wrow_none_raised
    · wrow_post
  refine ⟨good s₁.heap s₁.toks (fun _ _ h => h), Mine.wpC_call (Mine.law_does hI hlen s₁ _ _ _ _ _ KX T hL fun h' tk hk => ?_)⟩
  exact good h' tk hk
