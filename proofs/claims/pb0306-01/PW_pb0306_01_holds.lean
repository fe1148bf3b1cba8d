import PyProof.Rows.All
import Wide.All
import OpenK.AllK
import Wide.FinOn
import PySem.Challenge.RW_pb0306_01
open PySem PySem.W PyProof.Rows PySem.Spec PySem.Calls
set_option Elab.async false
set_option maxRecDepth 100000
set_option maxHeartbeats 8000000
namespace Mine
open_top hd for PySem.Challenge.rw_pb0306_01
end Mine
/-! part Base -/
namespace Mine
abbrev tupObj (vs : List Value) (c : Nat) : Obj := { cls := .type "tuple", data := .seq vs.toArray c }
/-- a word read as a number of either sign -/
def Sg (x : Int) : Int := if x < 2147483648 then x else x - 4294967296
abbrev RetTy : Type := Heap → Addr → (Str → Option Value) → List (Addr × Obj) → Shared → (Value → Shared → Prop) → Prop
abbrev Ret6 (S : Int → Int → Int → Int → Int → Prop) : RetTy := fun h₀ L m news s Q =>
  ∀ (r n z c v : Int) (t0 t1 t2 t3 t4 : Tok) (k : Nat) (D : Addr) (h' : Heap) (tk' : Nat), S r n z c v → Fr h₀ L h' m →
    News h₀ L h' ((D, tupObj [.int r t0, .int n t1, .int z t2, .int c t3, .int v t4, .none] k) :: news) → Q (.ref D) { s with heap := h', toks := tk' }
abbrev Ret6h (S : Int → Int → Int → Int → Int → Int → Prop) : RetTy := fun h₀ L m news s Q =>
  ∀ (r n z c v o : Int) (t0 t1 t2 t3 t4 t5 : Tok) (k : Nat) (D : Addr) (h' : Heap) (tk' : Nat), S r n z c v o → Fr h₀ L h' m →
    News h₀ L h' ((D, tupObj [.int r t0, .int n t1, .int z t2, .int c t3, .int v t4, .int o t5] k) :: news) → Q (.ref D) { s with heap := h', toks := tk' }
abbrev Ret2 (S : Int → Int → Prop) : RetTy := fun h₀ L m news s Q =>
  ∀ (r n : Int) (t0 t1 : Tok) (k : Nat) (D : Addr) (h' : Heap) (tk' : Nat), S r n → Fr h₀ L h' m →
    News h₀ L h' ((D, tupObj [.int r t0, .int n t1] k) :: news) → Q (.ref D) { s with heap := h', toks := tk' }
abbrev RetI (S : Int → Prop) : RetTy := fun h₀ L m news s Q =>
  ∀ (r : Int) (t0 : Tok) (h' : Heap) (tk' : Nat), S r → Fr h₀ L h' m → News h₀ L h' news → Q (.int r t0) { s with heap := h', toks := tk' }
abbrev RetV (v : Int) (B : Prop) : RetTy := fun h₀ L m news s Q =>
  ∀ (t0 : Tok) (h' : Heap) (tk' : Nat), B → Fr h₀ L h' m → News h₀ L h' news → Q (.int v t0) { s with heap := h', toks := tk' }
abbrev RetN : RetTy := fun h₀ L m news s Q =>
  ∀ (h' : Heap) (tk' : Nat), Fr h₀ L h' m → News h₀ L h' news → Q .none { s with heap := h', toks := tk' }
abbrev Cut (lv : Nat) (f : Addr) (vs : List Value) (R : RetTy) : Prop :=
  ∀ (w : World) (mean : ExcName → Option Value) (mg mb : Str → Option Value) (dp un : Nat) (gd : Option (List Code)) (cn : Str) (cs : Scope) (a : Addr) (ccd : Value) (cl : List (Str × Addr)) (outer : List Env) (A₀ : Around) (base h₀ : Heap) (L : Addr) (m : Str → Option Value) (s : Shared) (Q E : Value → Shared → Prop) (news : List (Addr × Obj)),
    Below A₀ base outer h₀ → Fr h₀ L s.heap m → (hd.heap_39 w.params).In h₀ → News h₀ L s.heap news → Top hd.view_39 (looseW hd.view_39 [Str.ofString "flagged"]) mean mg mb h₀ → cs.kind = .function →
    dp + lv < recursionLimit → un + 16 * lv < cLine → R h₀ L m news s Q →
      wpAny (model PySem.Challenge.rw_pb0306_01.row.prog w) (ktrTop dp un gd cn cs L a ccd cl outer) (call (.ref f) vs) Q E s
section
variable {h₀ h : Heap} {L : Addr} {a b c d e f : Addr × Obj} {news : List (Addr × Obj)}
theorem news2 (N : News h₀ L h (a :: b :: news)) : News h₀ L h (a :: news) := fun p hp => N p (by
  rcases List.mem_cons.mp hp with q | q
  · exact List.mem_cons.mpr (.inl q)
  · exact List.mem_cons_of_mem _ (List.mem_cons_of_mem _ q))
theorem news3 (N : News h₀ L h (a :: b :: c :: news)) : News h₀ L h (a :: news) := news2 (news2 N)
theorem news4 (N : News h₀ L h (a :: b :: c :: d :: news)) : News h₀ L h (a :: news) := news3 (news2 N)
theorem news5 (N : News h₀ L h (a :: b :: c :: d :: e :: news)) : News h₀ L h (a :: news) := news4 (news2 N)
theorem news6 (N : News h₀ L h (a :: b :: c :: d :: e :: f :: news)) : News h₀ L h (a :: news) := news5 (news2 N)
theorem news1 (N : News h₀ L h (a :: news)) : News h₀ L h news := fun p hp => N p (List.mem_cons_of_mem _ hp)
end
end Mine
/-! part Plain1 -/
namespace Mine
theorem sg_of {x : Int} (h : 0 ≤ x ∧ x < 4294967296) : x - 2 * Builtin.bitAnd x 2147483648 = Sg x := by
  have e : Builtin.bitAnd x 2147483648 = (x / 2147483648 % 2) * 2147483648 := kbt_bit x 31
  rw [e]; unfold Sg; split <;> omega
theorem sg_bnd {x : Int} (h : 0 ≤ x ∧ x < 4294967296) : -2147483648 ≤ Sg x ∧ Sg x < 2147483648 := by
  unfold Sg; split <;> omega
theorem shl_of (x y : Int) : Builtin.bitAnd (x * 2 ^ (Builtin.bitAnd y 31).toNat) 4294967295 = x * 2 ^ (y % 32).toNat % 4294967296 := by
  rw [bitAnd_m32, bitAnd_m5]
theorem pow_nonneg (k : Nat) : (0 : Int) ≤ 2 ^ k := Int.le_of_lt (kbt_pos k)
theorem sar_of {x : Int} (y : Int) (h : 0 ≤ x ∧ x < 4294967296) : Builtin.bitAnd ((x - 2 * Builtin.bitAnd x 2147483648).fdiv (2 ^ (Builtin.bitAnd y 31).toNat)) 4294967295 = Sg x / 2 ^ (y % 32).toNat % 4294967296 := by
  rw [bitAnd_m32, bitAnd_m5, sg_of h, Int.fdiv_eq_ediv_of_nonneg _ (pow_nonneg _)]
/-- a word turned to the right by k, as the text writes it -/
def rotI (x k : Int) : Int := Builtin.bitAnd (Builtin.bitOr (x / 2 ^ k.toNat) (x * 2 ^ (32 - k).toNat)) 4294967295
theorem rot_of (x y : Int) : Builtin.bitAnd (Builtin.bitOr (x.fdiv (2 ^ (Builtin.bitAnd y 31).toNat)) (x * 2 ^ (32 - Builtin.bitAnd y 31).toNat)) 4294967295 = rotI x (y % 32) := by
  rw [bitAnd_m5, Int.fdiv_eq_ediv_of_nonneg _ (pow_nonneg _)]; rfl
/-- what mul tells of the product P -/
def MulS (P r n z c v o : Int) : Prop := r = P % 4294967296 ∧ o = P / 4294967296 % 4294967296 ∧ (Sg r = P → v = 0) ∧ (Sg r ≠ P → v = 1) ∧ n = r / 2147483648 ∧ (r = 0 → z = 1) ∧ (r ≠ 0 → z = 0) ∧ c = 0
theorem no_pylong {x y : Int} (h : y.natAbs < 4294967296) : Builtin.divisionGoesByPylong x y = false := by
  refine PyProof.noPylong_of_log2 ?_
  by_cases h0 : y.natAbs = 0
  · rw [h0]; decide +kernel
  · have h30 : y.natAbs.log2 < 32 := (Nat.log2_lt h0).mpr h
    omega
theorem mul_fin (P z v : Int) (h1 : Builtin.bitAnd P 4294967295 = 0 → z = 1) (h2 : Builtin.bitAnd P 4294967295 ≠ 0 → z = 0)
    (h3 : Builtin.bitAnd P 4294967295 - 2 * Builtin.bitAnd (Builtin.bitAnd P 4294967295) 2147483648 = P → v = 0) (h4 : Builtin.bitAnd P 4294967295 - 2 * Builtin.bitAnd (Builtin.bitAnd P 4294967295) 2147483648 ≠ P → v = 1) :
    MulS P (Builtin.bitAnd P 4294967295) ((Builtin.bitAnd P 4294967295).fdiv (2 ^ Int.toNat 31)) z 0 v (Builtin.bitAnd (P.fdiv (2 ^ Int.toNat 32)) 4294967295) := by
  have e := bitAnd_m32 P
  have hr : 0 ≤ Builtin.bitAnd P 4294967295 ∧ Builtin.bitAnd P 4294967295 < 4294967296 := by rw [e]; omega
  rw [sg_of hr] at h3 h4
  refine ⟨e, ?_, h3, h4, ?_, h1, h2, rfl⟩
  · rw [bitAnd_m32, Int.fdiv_eq_ediv_of_nonneg _ (by decide)]; rfl
  · rw [Int.fdiv_eq_ediv_of_nonneg _ (by decide)]; rfl
end Mine
/-! part Plain2 -/
namespace Mine
theorem xor_nat_eq (m : Nat) : ∀ n : Nat, (m ^^^ n) + 2 * (m &&& n) = m + n := by
  induction m using Nat.strongRecOn with
  | ind m ih =>
    intro n
    by_cases h0 : m = 0
    · subst h0; simp
    · have ih' := ih (m / 2) (by omega) (n / 2)
      rw [← Nat.xor_div_two, ← Nat.and_div_two] at ih'
      have o1 := @Nat.xor_mod_two_eq_one m n
      have a1 := @Nat.and_mod_two_eq_one m n
      omega
theorem and_nat (a b : Nat) : Builtin.bitAnd (a : Int) (b : Int) = ((a &&& b : Nat) : Int) := by
  rw [bitAnd_pp (by omega) (by omega)]; simp
theorem or_nat (a b : Nat) : Builtin.bitOr (a : Int) (b : Int) = ((a ||| b : Nat) : Int) := by
  rw [bitOr_and, and_nat]
  have h := nat_or_add_and a b
  omega
theorem xor_nat (a b : Nat) : Builtin.bitXor (a : Int) (b : Int) = ((a ^^^ b : Nat) : Int) := by
  rw [bitXor_and, and_nat]
  have h := xor_nat_eq a b
  omega
theorem toNat_w {x : Int} (h : 0 ≤ x ∧ x < 4294967296) : ∃ n : Nat, x = (n : Int) ∧ n < 2 ^ 32 := ⟨x.toNat, by omega, by omega⟩
/-- the range of AND, ANN, IOR, XOR of two words -/
theorem and_w {x y : Int} (hx : 0 ≤ x ∧ x < 4294967296) (hy : 0 ≤ y ∧ y < 4294967296) : 0 ≤ Builtin.bitAnd x y ∧ Builtin.bitAnd x y < 4294967296 := by
  have h := bitAnd_range x hy.1
  omega
theorem or_w {x y : Int} (hx : 0 ≤ x ∧ x < 4294967296) (hy : 0 ≤ y ∧ y < 4294967296) : 0 ≤ Builtin.bitOr x y ∧ Builtin.bitOr x y < 4294967296 := by
  obtain ⟨a, rfl, ha⟩ := toNat_w hx
  obtain ⟨b, rfl, hb⟩ := toNat_w hy
  rw [or_nat]
  have h := Nat.or_lt_two_pow ha hb
  omega
theorem xor_w {x y : Int} (hx : 0 ≤ x ∧ x < 4294967296) (hy : 0 ≤ y ∧ y < 4294967296) : 0 ≤ Builtin.bitXor x y ∧ Builtin.bitXor x y < 4294967296 := by
  obtain ⟨a, rfl, ha⟩ := toNat_w hx
  obtain ⟨b, rfl, hb⟩ := toNat_w hy
  rw [xor_nat]
  have h := Nat.xor_lt_two_pow ha hb
  omega
theorem ann_w {x y : Int} (hx : 0 ≤ x ∧ x < 4294967296) (hy : 0 ≤ y ∧ y < 4294967296) : 0 ≤ Builtin.bitAnd x (Builtin.bitXor y 4294967295) ∧ Builtin.bitAnd x (Builtin.bitXor y 4294967295) < 4294967296 :=
  and_w hx (xor_w hy (by decide))
theorem nat_parts (a b : Nat) (ha : a < 2 ^ 32) : (a &&& b) ||| (a &&& (b ^^^ (2 ^ 32 - 1))) = a ∧ (a &&& b) ^^^ (a &&& (b ^^^ (2 ^ 32 - 1))) = a ∧ (a &&& b) &&& (a &&& (b ^^^ (2 ^ 32 - 1))) = 0 := by
  have hz : ∀ i, 32 ≤ i → a.testBit i = false := fun i hi => Nat.testBit_lt_two_pow (Nat.lt_of_lt_of_le ha (Nat.pow_le_pow_right (by decide) hi))
  refine ⟨?_, ?_, ?_⟩ <;> apply Nat.eq_of_testBit_eq <;> intro i <;>
    simp only [Nat.testBit_or, Nat.testBit_and, Nat.testBit_xor, Nat.testBit_two_pow_sub_one, Nat.zero_testBit] <;>
    by_cases hi : i < 32 <;> simp only [hi, decide_true, decide_false] <;>
    first
    | (cases a.testBit i <;> cases b.testBit i <;> rfl)
    | (rw [hz i (by omega)]; cases b.testBit i <;> rfl)
theorem parts {a b i e : Int} (hx : 0 ≤ a ∧ a < 4294967296) (hy : 0 ≤ b ∧ b < 4294967296) (hi : i = Builtin.bitAnd a b) (he : e = Builtin.bitAnd a (Builtin.bitXor b 4294967295)) :
    Builtin.bitOr i e = a ∧ Builtin.bitXor i e = a ∧ Builtin.bitAnd i e = 0 := by
  obtain ⟨m, rfl, hm⟩ := toNat_w hx
  obtain ⟨n, rfl, hn⟩ := toNat_w hy
  have e1 : (4294967295 : Int) = ((2 ^ 32 - 1 : Nat) : Int) := by decide
  rw [e1, xor_nat, and_nat] at he
  rw [and_nat] at hi
  subst hi; subst he
  obtain ⟨p, q, r⟩ := nat_parts m n hm
  rw [or_nat, xor_nat, and_nat]
  exact ⟨congrArg _ p, congrArg _ q, congrArg _ r⟩
theorem xor_back {c d x y : Int} (hc : 0 ≤ c ∧ c < 4294967296) (hd : 0 ≤ d ∧ d < 4294967296) (hx : x = Builtin.bitXor c d) (hy : y = Builtin.bitXor x d) : y = c := by
  obtain ⟨m, rfl, hm⟩ := toNat_w hc
  obtain ⟨n, rfl, hn⟩ := toNat_w hd
  rw [xor_nat] at hx
  subst hx
  rw [xor_nat] at hy
  rw [hy, Nat.xor_assoc, Nat.xor_self, Nat.xor_zero]
/-- a sum as XOR and twice AND -/
theorem sum_parts {a b x i s t u : Int} (hx : x = Builtin.bitXor a b) (hi : i = Builtin.bitAnd a b) (hs : s = i * 2 ^ ((1 : Int) % 32).toNat % 4294967296) (ht : t = (x + s) % 4294967296) (hu : u = (a + b) % 4294967296) : t = u := by
  rw [bitXor_and] at hx
  have e : (2 : Int) ^ ((1 : Int) % 32).toNat = 2 := by decide
  rw [e] at hs
  rw [← hi] at hx
  omega
end Mine
/-! part Plain3 -/
namespace Mine
theorem sg_mod {x : Int} (h : 0 ≤ x ∧ x < 4294967296) : ∃ k, Sg x = x + 4294967296 * k := by
  unfold Sg; split
  · exact ⟨0, by omega⟩
  · exact ⟨-1, by omega⟩
theorem sg_of_mod {p : Int} (h : -2147483648 ≤ p ∧ p < 2147483648) : Sg (p % 4294967296) = p := by
  unfold Sg; split <;> omega
/-- the quotient times the divisor and the rest give the dividend -/
theorem div_back {x y r o m b : Int} (hx : 0 ≤ x ∧ x < 4294967296) (hr : r = Sg x / Sg y % 4294967296) (ho : o = Sg x % Sg y) (hm : m = Sg r * Sg y % 4294967296) (hb : b = (m + o) % 4294967296) : b = x := by
  have hrw : 0 ≤ r ∧ r < 4294967296 := by omega
  obtain ⟨k, hk⟩ := sg_mod hrw
  obtain ⟨j, hj⟩ := sg_mod hx
  have e1 : Sg y * (Sg x / Sg y) + Sg x % Sg y = Sg x := Int.mul_ediv_add_emod _ _
  have e2 : r = Sg x / Sg y - 4294967296 * (Sg x / Sg y / 4294967296) := by omega
  generalize Sg x / Sg y = q at *
  generalize q / 4294967296 = l at *
  have e3 : Sg r * Sg y = Sg y * q + 4294967296 * ((k - l) * Sg y) := by
    rw [hk, e2, show q - 4294967296 * l + 4294967296 * k = q + 4294967296 * (k - l) by omega, Int.add_mul, Int.mul_assoc, Int.mul_comm q]
  rw [e3] at hm
  generalize (k - l) * Sg y = z at *
  generalize Sg y * q = u at *
  omega
theorem div_back0 {x y r o m b : Int} (hx : 0 ≤ x ∧ x < 4294967296) (hr : r = Sg x / Sg y % 4294967296) (ho : o = Sg x % Sg y) (hm : m = Sg r * Sg y % 4294967296) (hb : b = (m + o) % 4294967296) : (b != x) = false := by
  rw [div_back hx hr ho hm hb]; simp
/-- a shift to the left is a product by a power -/
theorem shl_mul {b i p m s : Int} (hb : 0 ≤ b ∧ b < 4294967296) (hp : p = 1 * 2 ^ (i % 32).toNat % 4294967296) (hs : s = b * 2 ^ (i % 32).toNat % 4294967296) (hm : m = Sg b * Sg p % 4294967296) : s = m := by
  have hpw : 0 ≤ p ∧ p < 4294967296 := by omega
  obtain ⟨k, hk⟩ := sg_mod hpw
  obtain ⟨j, hj⟩ := sg_mod hb
  rw [Int.one_mul] at hp
  generalize (2 : Int) ^ (i % 32).toNat = w at *
  have e2 : p = w - 4294967296 * (w / 4294967296) := by omega
  generalize w / 4294967296 = l at *
  have e3 : Sg b * Sg p = b * w + 4294967296 * (j * w + (b + 4294967296 * j) * (k - l)) := by
    rw [hk, hj, e2, show w - 4294967296 * l + 4294967296 * k = w + 4294967296 * (k - l) by omega, Int.mul_add, Int.add_mul, Int.mul_add, Int.mul_assoc 4294967296 j w, Int.mul_left_comm (b + 4294967296 * j) 4294967296 (k - l)]
    omega
  rw [e3] at hm
  generalize j * w + (b + 4294967296 * j) * (k - l) = z at *
  generalize b * w = u at *
  omega
theorem shl_round {b i s t : Int} (hs : s = b * 2 ^ ((i + 32) % 32).toNat % 4294967296) (ht : t = b * 2 ^ (i % 32).toNat % 4294967296) : s = t := by
  rw [hs, ht, show (i + 32) % 32 = i % 32 by omega]
/-- one to the right is the floor of a quotient -/
theorem sar_floor {c j d : Int} (hc : 0 ≤ c ∧ c < 4294967296) (hj : 0 ≤ j ∧ j < 32) (hd : d = Sg c / 2 ^ (j % 32).toNat % 4294967296) : Sg d * 2 ^ j.toNat ≤ Sg c ∧ Sg c < (Sg d + 1) * 2 ^ j.toNat := by
  have hb := sg_bnd hc
  rw [show j % 32 = j by omega] at hd
  have hp := kbt_pos j.toNat
  generalize (2 : Int) ^ j.toNat = w at *
  have hq : -2147483648 ≤ Sg c / w ∧ Sg c / w < 2147483648 := by
    constructor
    · rw [Int.le_ediv_iff_mul_le hp]
      have : (2147483648 : Int) * 1 ≤ 2147483648 * w := Int.mul_le_mul_of_nonneg_left (by omega) (by decide)
      omega
    · rw [Int.ediv_lt_iff_lt_mul hp]
      have : (2147483648 : Int) * 1 ≤ 2147483648 * w := Int.mul_le_mul_of_nonneg_left (by omega) (by decide)
      omega
  rw [hd, sg_of_mod hq]
  refine ⟨Int.ediv_mul_le _ (by omega), ?_⟩
  have h := Int.lt_ediv_add_one_mul_self (Sg c) hp
  exact h
end Mine
/-! part Plain4 -/
namespace Mine
def rotN (n k : Nat) : Nat := ((n >>> k) ||| (n <<< (32 - k))) % 2 ^ 32
theorem rotN_lt (n k : Nat) : rotN n k < 2 ^ 32 := Nat.mod_lt _ (by decide)
theorem rotN_bit {n k i : Nat} (hn : n < 2 ^ 32) (hk : k < 32) (hi : i < 32) : (rotN n k).testBit i = n.testBit ((i + k) % 32) := by
  have hz : ∀ i, 32 ≤ i → n.testBit i = false := fun i hi => Nat.testBit_lt_two_pow (Nat.lt_of_lt_of_le hn (Nat.pow_le_pow_right (by decide) hi))
  unfold rotN
  rw [Nat.testBit_mod_two_pow, Nat.testBit_or, Nat.testBit_shiftRight, Nat.testBit_shiftLeft]
  by_cases h : i + k < 32
  · rw [Nat.mod_eq_of_lt h, Nat.add_comm k i]
    have h2 : ¬ (i ≥ 32 - k) := by omega
    simp [hi, h2]
  · rw [hz (k + i) (by omega), show i - (32 - k) = (i + k) % 32 by omega]
    have h2 : i ≥ 32 - k := by omega
    simp [hi, h2]
theorem rotN_ext {m n : Nat} (hm : m < 2 ^ 32) (hn : n < 2 ^ 32) (h : ∀ i, i < 32 → m.testBit i = n.testBit i) : m = n := by
  apply Nat.eq_of_testBit_eq
  intro i
  by_cases hi : i < 32
  · exact h i hi
  · rw [Nat.testBit_lt_two_pow (Nat.lt_of_lt_of_le hm (Nat.pow_le_pow_right (by decide) (by omega))), Nat.testBit_lt_two_pow (Nat.lt_of_lt_of_le hn (Nat.pow_le_pow_right (by decide) (by omega)))]
theorem rotN_two {n i j : Nat} (hn : n < 2 ^ 32) (hi : i < 32) (hj : j < 32) : rotN (rotN n i) j = rotN n ((i + j) % 32) := by
  refine rotN_ext (rotN_lt _ _) (rotN_lt _ _) fun t ht => ?_
  rw [rotN_bit (rotN_lt _ _) hj ht, rotN_bit hn hi (Nat.mod_lt _ (by decide)), rotN_bit hn (Nat.mod_lt _ (by decide)) ht]
  congr 1
  omega
theorem rotN_zero {n : Nat} (hn : n < 2 ^ 32) : rotN n 0 = n := by
  refine rotN_ext (rotN_lt _ _) hn fun t ht => ?_
  rw [rotN_bit hn (by decide) ht]
  congr 1
  omega
theorem rotI_nat (n k : Nat) (hk : k < 32) : rotI (n : Int) (k : Int) = (rotN n k : Nat) := by
  have e1 : ((n : Int) / 2 ^ ((k : Int)).toNat) = ((n >>> k : Nat) : Int) := by
    rw [Nat.shiftRight_eq_div_pow]; simp
  have e2 : (n : Int) * 2 ^ (32 - (k : Int)).toNat = ((n <<< (32 - k) : Nat) : Int) := by
    rw [Nat.shiftLeft_eq, show (32 - (k : Int)).toNat = 32 - k by omega]; simp
  unfold rotI rotN
  rw [e1, e2, or_nat, bitAnd_m32]
  simp
theorem w_of {r t : Int} (h : r = t % 4294967296) : (0 ≤ r ∧ r < 4294967296) ∧ r = t % 4294967296 := ⟨by omega, h⟩
theorem div_of {r o p q : Int} (h1 : r = p / q % 4294967296) (h2 : o = p % q) (hq : 0 < q) : r = p / q % 4294967296 ∧ o = p % q ∧ (0 ≤ r ∧ r < 4294967296) ∧ 0 ≤ o ∧ o < q :=
  ⟨h1, h2, ⟨by omega, by omega⟩, by rw [h2]; exact Int.emod_nonneg _ (by omega), by rw [h2]; exact Int.emod_lt_of_pos _ hq⟩
theorem rot_w {r x k : Int} (h : r = rotI x k) : 0 ≤ r ∧ r < 4294967296 := by
  rw [h]; unfold rotI; rw [bitAnd_m32]; omega
theorem toNat_k {x : Int} (h : 0 ≤ x ∧ x < 32) : ∃ n : Nat, x = (n : Int) ∧ n < 32 := ⟨x.toNat, by omega, by omega⟩
theorem rot_two {a i j k r1 r2 r3 : Int} (ha : 0 ≤ a ∧ a < 4294967296) (hi : 0 ≤ i ∧ i < 32) (hj : 0 ≤ j ∧ j < 32) (hk : k = (i + j) % 32) (h1 : r1 = rotI a (i % 32)) (h2 : r2 = rotI r1 (j % 32)) (h3 : r3 = rotI a (k % 32)) : r2 = r3 := by
  obtain ⟨n, rfl, hn⟩ := toNat_w ha
  obtain ⟨p, rfl, hp⟩ := toNat_k hi
  obtain ⟨q, rfl, hq⟩ := toNat_k hj
  rw [show (p : Int) % 32 = p by omega, rotI_nat n p hp] at h1
  rw [show (q : Int) % 32 = q by omega, h1, rotI_nat _ q hq, rotN_two hn hp hq] at h2
  rw [hk, show ((p : Int) + q) % 32 % 32 = (((p + q) % 32 : Nat) : Int) by omega, rotI_nat n _ (Nat.mod_lt _ (by decide))] at h3
  rw [h2, h3]
theorem rot_full {a i r1 r2 : Int} (ha : 0 ≤ a ∧ a < 4294967296) (hi : 0 ≤ i ∧ i < 32) (h1 : r1 = rotI a (i % 32)) (h2 : r2 = rotI r1 ((32 - i) % 32)) : r2 = a := by
  obtain ⟨n, rfl, hn⟩ := toNat_w ha
  obtain ⟨p, rfl, hp⟩ := toNat_k hi
  rw [show (p : Int) % 32 = p by omega, rotI_nat n p hp] at h1
  rw [show (32 - (p : Int)) % 32 = (((32 - p) % 32 : Nat) : Int) by omega, h1, rotI_nat _ _ (Nat.mod_lt _ (by decide)), rotN_two hn hp (Nat.mod_lt _ (by decide)), show (p + (32 - p) % 32) % 32 = 0 by omega, rotN_zero hn] at h2
  exact h2
theorem bne_f {x y : Int} (h : x = y) : (x != y) = false := by subst h; simp
theorem beq_t {x y : Int} (h : x = y) : (x == y) = true := by subst h; simp
theorem rot_two' {a i j k r1 r2 r3 : Int} (h2 : r2 = rotI r1 (j % 32)) (h1 : r1 = rotI a (i % 32)) (h3 : r3 = rotI a (k % 32)) (hk : k = (i + j) % 32) (ha : 0 ≤ a ∧ a < 4294967296) (hi : 0 ≤ i ∧ i < 32) (hj : 0 ≤ j ∧ j < 32) : r2 = r3 := rot_two ha hi hj hk h1 h2 h3
theorem rot_full' {a i r1 r2 : Int} (h2 : r2 = rotI r1 ((32 - i) % 32)) (h1 : r1 = rotI a (i % 32)) (ha : 0 ≤ a ∧ a < 4294967296) (hi : 0 ≤ i ∧ i < 32) : r2 = a := rot_full ha hi h1 h2
theorem shl_mul' {b i p m s : Int} (hs : s = b * 2 ^ (i % 32).toNat % 4294967296) (hm : m = Sg b * Sg p % 4294967296) (hp : p = 1 * 2 ^ (i % 32).toNat % 4294967296) (hb : 0 ≤ b ∧ b < 4294967296) : s = m := shl_mul hb hp hs hm
theorem parts_or {r i e a b : Int} (hr : r = Builtin.bitOr i e) (hi : i = Builtin.bitAnd a b) (he : e = Builtin.bitAnd a (Builtin.bitXor b 4294967295)) (ha : 0 ≤ a ∧ a < 4294967296) (hb : 0 ≤ b ∧ b < 4294967296) : r = a := hr.trans (parts ha hb hi he).1
theorem parts_xor {r i e a b : Int} (hr : r = Builtin.bitXor i e) (hi : i = Builtin.bitAnd a b) (he : e = Builtin.bitAnd a (Builtin.bitXor b 4294967295)) (ha : 0 ≤ a ∧ a < 4294967296) (hb : 0 ≤ b ∧ b < 4294967296) : r = a := hr.trans (parts ha hb hi he).2.1
theorem parts_and {r i e a b : Int} (hr : r = Builtin.bitAnd i e) (hi : i = Builtin.bitAnd a b) (he : e = Builtin.bitAnd a (Builtin.bitXor b 4294967295)) (ha : 0 ≤ a ∧ a < 4294967296) (hb : 0 ≤ b ∧ b < 4294967296) : r = 0 := hr.trans (parts ha hb hi he).2.2
theorem sum_parts' {a b x i s t u : Int} (ht : t = (x + s) % 4294967296) (hu : u = (a + b) % 4294967296) (hx : x = Builtin.bitXor a b) (hs : s = i * 2 ^ ((1 : Int) % 32).toNat % 4294967296) (hi : i = Builtin.bitAnd a b) : t = u := sum_parts hx hi hs ht hu
theorem xor_back' {c d x y : Int} (hy : y = Builtin.bitXor x d) (hx : x = Builtin.bitXor c d) (hc : 0 ≤ c ∧ c < 4294967296) (hd : 0 ≤ d ∧ d < 4294967296) : y = c := xor_back hc hd hx hy
end Mine
/-! part Ext -/
namespace Mine
def nth : List Stmt → Nat → Stmt
  | [], _ => .Pass ⟨0, 0, 0, 0⟩
  | s :: _, 0 => s
  | _ :: r, n + 1 => nth r n
def bodyOf : Stmt → List Stmt
  | .FunctionDef _ _ b _ _ _ _ _ _ _ => b
  | .For _ _ b _ _ => b
  | _ => []
def scopeOf : Stmt → Scope
  | .FunctionDef _ _ _ _ _ _ s _ _ _ => s
  | _ => { kind := .function, names := [], isGenerator := false, isCoroutine := false }
def cut (n : Nat) : List Stmt → List Stmt
  | [] => []
  | s :: r => match n with
    | 0 => s :: r
    | n + 1 => cut n r
/-- the law's scope, the loop's body, what stands behind the loop: read off the given program -/
noncomputable def lawScope : { b : Scope // scopeOf (nth PySem.Challenge.pw_pb0306_01.main.body 19) = b } := by
  refine ⟨?b, ?h⟩
  case h =>
    dsimp only [PySem.Challenge.pw_pb0306_01, nth, scopeOf]
    exact rfl
noncomputable def turnBody : { b : List Stmt // bodyOf (nth (bodyOf (nth PySem.Challenge.pw_pb0306_01.main.body 19)) 14) = b } := by
  refine ⟨?b, ?h⟩
  case h =>
    dsimp only [PySem.Challenge.pw_pb0306_01, nth, bodyOf]
    exact rfl
noncomputable def tailBody : { b : List Stmt // cut 15 (bodyOf (nth PySem.Challenge.pw_pb0306_01.main.body 19)) = b } := by
  refine ⟨?b, ?h⟩
  case h =>
    dsimp only [PySem.Challenge.pw_pb0306_01, nth, bodyOf, cut]
    exact rfl
def Hold (P : Prop) : Prop := P
theorem hold {P : Prop} (h : Hold P) : P := h
theorem ite_isTrue {b : Bool} {p q : Prop} (h : b = true) (hp : p) : if b = true then p else q := by rw [h]; exact hp
end Mine
/-! part C_a -/
namespace Mine
local macro_rules | `(tactic| k_room) => `(tactic| ktr_room)
theorem sg_cut (x : Int) (tx : Tok) (hx : 0 ≤ x ∧ x < 4294967296) :
    Cut 4 21 [.int x tx] (RetV (Sg x) (-2147483648 ≤ Sg x ∧ Sg x < 2147483648)) := by
  dsimp only [Cut, Ret6, Ret6h, Ret2, RetI, RetV, RetN]
  w_top off
  k_fill
  intro w mean mg mb dp un gd cn cs a ccd cl outer A₀ base h₀ L m s Q E news B F X N T hk hdp hun hret
  refine wpAny_call ?_
  k_dflt cell_enter
  k_steps
  all_goals (rw [sg_of hx])
  all_goals (refine' hret _ _ _ (sg_bnd hx) (by assumption) (by assumption))
theorem add_cut (x y : Int) (tx ty : Tok) (hx : (0 ≤ x ∧ x < 4294967296) ∧ 0 ≤ y ∧ y < 4294967296) :
    Cut 4 36 [.int x tx, .int y ty] (Ret6 (fun r n z c v => r = (x + y) % 4294967296 ∧ c = (x + y) / 4294967296)) := by
  obtain ⟨⟨hx0, hx1⟩, hy0, hy1⟩ := hx
  dsimp only [Cut, Ret6, Ret6h, Ret2, RetI, RetV, RetN]
  w_top off
  k_fill
  intro w mean mg mb dp un gd cn cs a ccd cl outer A₀ base h₀ L m s Q E news B F X N T hk hdp hun hret
  refine wpAny_call ?_
  k_dflt cell_enter
  k_steps
  all_goals (refine' hret _ _ _ _ _ _ _ _ _ _ _ _ _ _ ?_ (by assumption) (by first | assumption | exact news2 (by assumption) | exact news3 (by assumption) | exact news4 (by assumption) | exact news5 (by assumption) | exact news6 (by assumption)))
  all_goals (refine ⟨bitAnd_m32 _, ?_⟩; rw [Int.fdiv_eq_ediv_of_nonneg _ (by decide)]; rfl)
theorem sub_cut (x y : Int) (tx ty : Tok) (hx : (0 ≤ x ∧ x < 4294967296) ∧ 0 ≤ y ∧ y < 4294967296) :
    Cut 4 43 [.int x tx, .int y ty] (Ret6 (fun r n z c v => r = (x - y) % 4294967296 ∧ (x < y → c = 1) ∧ (y ≤ x → c = 0))) := by
  obtain ⟨⟨hx0, hx1⟩, hy0, hy1⟩ := hx
  dsimp only [Cut, Ret6, Ret6h, Ret2, RetI, RetV, RetN]
  w_top off
  k_fill
  intro w mean mg mb dp un gd cn cs a ccd cl outer A₀ base h₀ L m s Q E news B F X N T hk hdp hun hret
  refine wpAny_call ?_
  k_dflt cell_enter
  k_steps
  all_goals (refine' hret _ _ _ _ _ _ _ _ _ _ _ _ _ _ ?_ (by assumption) (by first | assumption | exact news2 (by assumption) | exact news3 (by assumption) | exact news4 (by assumption) | exact news5 (by assumption) | exact news6 (by assumption)))
  all_goals (refine ⟨bitAnd_m32 _, ?_⟩; constructor <;> intro _ <;> omega)
end Mine
/-! part C_b -/
namespace Mine
local macro_rules | `(tactic| k_room) => `(tactic| ktr_room)
theorem shl_cut (x y : Int) (tx ty : Tok) (hx : (0 ≤ x ∧ x < 4294967296) ∧ 0 ≤ y ∧ y < 4294967296) :
    Cut 4 64 [.int x tx, .int y ty] (Ret6 (fun r n z c v => (0 ≤ r ∧ r < 4294967296) ∧ r = x * 2 ^ (y % 32).toNat % 4294967296)) := by
  obtain ⟨⟨hx0, hx1⟩, hy0, hy1⟩ := hx
  have hb := bitAnd_range y (y := 31) (by decide)
  dsimp only [Cut, Ret6, Ret6h, Ret2, RetI, RetV, RetN]
  w_top off
  k_fill
  intro w mean mg mb dp un gd cn cs a ccd cl outer A₀ base h₀ L m s Q E news B F X N T hk hdp hun hret
  refine wpAny_call ?_
  k_dflt cell_enter
  k_steps
  all_goals (refine' hret _ _ _ _ _ _ _ _ _ _ _ _ _ _ ?_ (by assumption) (by first | assumption | exact news2 (by assumption) | exact news3 (by assumption) | exact news4 (by assumption) | exact news5 (by assumption) | exact news6 (by assumption)))
  all_goals exact w_of (shl_of x y)
theorem sar_cut (x y : Int) (tx ty : Tok) (hx : (0 ≤ x ∧ x < 4294967296) ∧ 0 ≤ y ∧ y < 4294967296) :
    Cut 4 71 [.int x tx, .int y ty] (Ret6 (fun r n z c v => (0 ≤ r ∧ r < 4294967296) ∧ r = Sg x / 2 ^ (y % 32).toNat % 4294967296)) := by
  have hb := bitAnd_range y (y := 31) (by decide)
  dsimp only [Cut, Ret6, Ret6h, Ret2, RetI, RetV, RetN]
  w_top off
  k_fill
  intro w mean mg mb dp un gd cn cs a ccd cl outer A₀ base h₀ L m s Q E news B F X N T hk hdp hun hret
  refine wpAny_call ?_
  k_dflt cell_enter
  k_steps
  all_goals (refine' hret _ _ _ _ _ _ _ _ _ _ _ _ _ _ ?_ (by assumption) (by first | assumption | exact news2 (by assumption) | exact news3 (by assumption) | exact news4 (by assumption) | exact news5 (by assumption) | exact news6 (by assumption)))
  all_goals exact w_of (sar_of y hx.1)
theorem rot_cut (x y : Int) (tx ty : Tok) (hx : (0 ≤ x ∧ x < 4294967296) ∧ 0 ≤ y ∧ y < 4294967296) :
    Cut 4 78 [.int x tx, .int y ty] (Ret6 (fun r n z c v => (0 ≤ r ∧ r < 4294967296) ∧ r = rotI x (y % 32))) := by
  have hb := bitAnd_range y (y := 31) (by decide)
  dsimp only [Cut, Ret6, Ret6h, Ret2, RetI, RetV, RetN]
  w_top off
  k_fill
  intro w mean mg mb dp un gd cn cs a ccd cl outer A₀ base h₀ L m s Q E news B F X N T hk hdp hun hret
  refine wpAny_call ?_
  k_dflt cell_enter
  k_steps
  all_goals (refine' hret _ _ _ _ _ _ _ _ _ _ _ _ _ _ ?_ (by assumption) (by first | assumption | exact news2 (by assumption) | exact news3 (by assumption) | exact news4 (by assumption) | exact news5 (by assumption) | exact news6 (by assumption)))
  all_goals exact ⟨rot_w (rot_of x y), rot_of x y⟩
end Mine
/-! part C_c -/
namespace Mine
local macro_rules | `(tactic| k_room) => `(tactic| ktr_room)
theorem mul_cut (x y : Int) (tx ty : Tok) (hx : (0 ≤ x ∧ x < 4294967296) ∧ 0 ≤ y ∧ y < 4294967296) :
    Cut 4 50 [.int x tx, .int y ty] (Ret6h (MulS (Sg x * Sg y))) := by
  have hb := sg_of hx.1
  have hc := sg_of hx.2
  have hb2 := sg_bnd hx.1
  have hc2 := sg_bnd hx.2
  dsimp only [Cut, Ret6, Ret6h, Ret2, RetI, RetV, RetN]
  w_top off
  k_fill
  intro w mean mg mb dp un gd cn cs a ccd cl outer A₀ base h₀ L m s Q E news B F X N T hk hdp hun hret
  refine wpAny_call ?_
  k_dflt cell_enter
  k_steps
  all_goals (refine' hret _ _ _ _ _ _ _ _ _ _ _ _ _ _ _ _ ?_ (by assumption) (by first | assumption | exact news2 (by assumption) | exact news3 (by assumption) | exact news4 (by assumption) | exact news5 (by assumption) | exact news6 (by assumption)))
  all_goals (rw [show Sg x * Sg y = (x - 2 * Builtin.bitAnd x 2147483648) * (y - 2 * Builtin.bitAnd y 2147483648) by rw [hb, hc]]; refine mul_fin _ _ _ ?_ ?_ ?_ ?_ <;> intro h9 <;> first | rfl | (exfalso; contradiction) | (exfalso; exact h9 (by assumption)))
end Mine
/-! part C_d -/
namespace Mine
local macro_rules | `(tactic| k_room) => `(tactic| ktr_room)
theorem div0_cut (x y : Int) (tx ty : Tok) (hx : ((0 ≤ x ∧ x < 4294967296) ∧ 0 ≤ y ∧ y < 4294967296) ∧ Sg y ≤ 0) :
    Cut 4 57 [.int x tx, .int y ty] (RetN) := by
  have hb := sg_of hx.1.1
  have hc := sg_of hx.1.2
  have hb2 := sg_bnd hx.1.1
  have hc2 := sg_bnd hx.1.2
  have hd := hx.2
  dsimp only [Cut, Ret6, Ret6h, Ret2, RetI, RetV, RetN]
  w_top off
  k_fill
  intro w mean mg mb dp un gd cn cs a ccd cl outer A₀ base h₀ L m s Q E news B F X N T hk hdp hun hret
  refine wpAny_call ?_
  k_dflt cell_enter
  k_steps
  all_goals (refine' hret _ _ (by assumption) (by assumption))
local macro_rules | `(tactic| walk_at "call builtin:divmod") => `(tactic| (k_here; (with_reducible show wpAny _ _ (call (Value.builtin "divmod") [Value.int _ _, Value.int _ _]) _ _ _); (k_dflt (refine divmod_N (by assumption) (by assumption) (by omega) ?_ (Or.inl (no_pylong (by omega))))); intro h' F' N'))
theorem div1_cut (x y : Int) (tx ty : Tok) (hx : ((0 ≤ x ∧ x < 4294967296) ∧ 0 ≤ y ∧ y < 4294967296) ∧ 0 < Sg y) :
    Cut 4 57 [.int x tx, .int y ty] (Ret6h (fun r n z c v o => r = Sg x / Sg y % 4294967296 ∧ o = Sg x % Sg y ∧ (0 ≤ r ∧ r < 4294967296) ∧ 0 ≤ o ∧ o < Sg y)) := by
  have hb := sg_of hx.1.1
  have hc := sg_of hx.1.2
  have hb2 := sg_bnd hx.1.1
  have hc2 := sg_bnd hx.1.2
  have hd := hx.2
  dsimp only [Cut, Ret6, Ret6h, Ret2, RetI, RetV, RetN]
  w_top off
  k_fill
  intro w mean mg mb dp un gd cn cs a ccd cl outer A₀ base h₀ L m s Q E news B F X N T hk hdp hun hret
  refine wpAny_call ?_
  k_dflt cell_enter
  k_steps
  all_goals (refine' hret _ _ _ _ _ _ _ _ _ _ _ _ _ _ _ _ ?_ (by assumption) (by first | assumption | exact news2 (by assumption) | exact news3 (by assumption) | exact news4 (by assumption) | exact news5 (by assumption) | exact news6 (by assumption)))
  all_goals exact div_of (by rw [bitAnd_m32, hb, hc, Int.fdiv_eq_ediv_of_nonneg _ (Int.le_of_lt hd)]) (by rw [hb, hc, Int.fmod_eq_emod_of_nonneg _ (Int.le_of_lt hd)]) hd
end Mine
/-! part C_e -/
namespace Mine
local macro_rules | `(tactic| k_room) => `(tactic| ktr_room)
theorem bwAND_cut (x y : Int) (tx ty : Tok) (t : Tok) (hx : (0 ≤ x ∧ x < 4294967296) ∧ 0 ≤ y ∧ y < 4294967296) :
    Cut 4 85 [.str (Str.ofString "AND") t, .int x tx, .int y ty] (Ret6 (fun r n z c v => (0 ≤ r ∧ r < 4294967296) ∧ r = Builtin.bitAnd x y)) := by
  dsimp only [Cut, Ret6, Ret6h, Ret2, RetI, RetV, RetN]
  w_top off
  k_fill
  intro w mean mg mb dp un gd cn cs a ccd cl outer A₀ base h₀ L m s Q E news B F X N T hk hdp hun hret
  refine wpAny_call ?_
  k_dflt cell_enter
  k_steps
  all_goals (refine' hret _ _ _ _ _ _ _ _ _ _ _ _ _ _ ?_ (by assumption) (by first | assumption | exact news2 (by assumption) | exact news3 (by assumption) | exact news4 (by assumption) | exact news5 (by assumption) | exact news6 (by assumption)))
  all_goals exact ⟨and_w hx.1 hx.2, rfl⟩
theorem bwANN_cut (x y : Int) (tx ty : Tok) (t : Tok) (hx : (0 ≤ x ∧ x < 4294967296) ∧ 0 ≤ y ∧ y < 4294967296) :
    Cut 4 85 [.str (Str.ofString "ANN") t, .int x tx, .int y ty] (Ret6 (fun r n z c v => (0 ≤ r ∧ r < 4294967296) ∧ r = Builtin.bitAnd x (Builtin.bitXor y 4294967295))) := by
  dsimp only [Cut, Ret6, Ret6h, Ret2, RetI, RetV, RetN]
  w_top off
  k_fill
  intro w mean mg mb dp un gd cn cs a ccd cl outer A₀ base h₀ L m s Q E news B F X N T hk hdp hun hret
  refine wpAny_call ?_
  k_dflt cell_enter
  k_steps
  all_goals (refine' hret _ _ _ _ _ _ _ _ _ _ _ _ _ _ ?_ (by assumption) (by first | assumption | exact news2 (by assumption) | exact news3 (by assumption) | exact news4 (by assumption) | exact news5 (by assumption) | exact news6 (by assumption)))
  all_goals exact ⟨ann_w hx.1 hx.2, rfl⟩
theorem bwIOR_cut (x y : Int) (tx ty : Tok) (t : Tok) (hx : (0 ≤ x ∧ x < 4294967296) ∧ 0 ≤ y ∧ y < 4294967296) :
    Cut 4 85 [.str (Str.ofString "IOR") t, .int x tx, .int y ty] (Ret6 (fun r n z c v => (0 ≤ r ∧ r < 4294967296) ∧ r = Builtin.bitOr x y)) := by
  dsimp only [Cut, Ret6, Ret6h, Ret2, RetI, RetV, RetN]
  w_top off
  k_fill
  intro w mean mg mb dp un gd cn cs a ccd cl outer A₀ base h₀ L m s Q E news B F X N T hk hdp hun hret
  refine wpAny_call ?_
  k_dflt cell_enter
  k_steps
  all_goals (refine' hret _ _ _ _ _ _ _ _ _ _ _ _ _ _ ?_ (by assumption) (by first | assumption | exact news2 (by assumption) | exact news3 (by assumption) | exact news4 (by assumption) | exact news5 (by assumption) | exact news6 (by assumption)))
  all_goals exact ⟨or_w hx.1 hx.2, rfl⟩
theorem bwXOR_cut (x y : Int) (tx ty : Tok) (t : Tok) (hx : (0 ≤ x ∧ x < 4294967296) ∧ 0 ≤ y ∧ y < 4294967296) :
    Cut 4 85 [.str (Str.ofString "XOR") t, .int x tx, .int y ty] (Ret6 (fun r n z c v => (0 ≤ r ∧ r < 4294967296) ∧ r = Builtin.bitXor x y)) := by
  dsimp only [Cut, Ret6, Ret6h, Ret2, RetI, RetV, RetN]
  w_top off
  k_fill
  intro w mean mg mb dp un gd cn cs a ccd cl outer A₀ base h₀ L m s Q E news B F X N T hk hdp hun hret
  refine wpAny_call ?_
  k_dflt cell_enter
  k_steps
  all_goals (refine' hret _ _ _ _ _ _ _ _ _ _ _ _ _ _ ?_ (by assumption) (by first | assumption | exact news2 (by assumption) | exact news3 (by assumption) | exact news4 (by assumption) | exact news5 (by assumption) | exact news6 (by assumption)))
  all_goals exact ⟨xor_w hx.1 hx.2, rfl⟩
theorem bwNOT_cut (x y : Int) (tx ty : Tok) (t : Tok) (hx : (0 ≤ x ∧ x < 4294967296) ∧ 0 ≤ y ∧ y < 4294967296) :
    Cut 4 85 [.str (Str.ofString "NOT") t, .int x tx, .int y ty] (RetN) := by
  dsimp only [Cut, Ret6, Ret6h, Ret2, RetI, RetV, RetN]
  w_top off
  k_fill
  intro w mean mg mb dp un gd cn cs a ccd cl outer A₀ base h₀ L m s Q E news B F X N T hk hdp hun hret
  refine wpAny_call ?_
  k_dflt cell_enter
  k_steps
  all_goals (refine' hret _ _ (by assumption) (by assumption))
end Mine
/-! part C_f -/
namespace Mine
local macro_rules | `(tactic| k_room) => `(tactic| ktr_room)
local macro_rules | `(tactic| walk_at "call ref") => `(tactic| (k_here; ((k_dflt (refine' add_cut _ _ _ _ ?h0 _ _ _ _ _ _ _ _ _ _ _ _ _ _ _ _ _ _ _ _ _ _ ?k1 ?k2 ?k3 ?k4 ?k5 ?kK ?kd ?ku ?_)); (case k1 => k_asm); (case k2 => k_asm); (case k3 => k_asm); (case k4 => k_asm); (case k5 => k_asm); (case kK => first | exact rfl | assumption); (case kd => ktr_room); (case ku => ktr_units); (case h0 => first | omega | (law_clear; (try law_fm); omega)); (intro r n z c v t0 t1 t2 t3 t4 k D h9 tk9 hS F9 N9; (rcases hS with ⟨e1, e2⟩); (try dsimp only); (try k_fold)))))
theorem wsum_cut (x y u v : Int) (tx ty tu tv : Tok) (hx : ((0 ≤ x ∧ x < 4294967296) ∧ 0 ≤ y ∧ y < 4294967296) ∧ (0 ≤ u ∧ u < 4294967296) ∧ 0 ≤ v ∧ v < 4294967296) :
    Cut 6 113 [.int x tx, .int y ty, .int u tu, .int v tv] (Ret2 (fun lo hi => 0 ≤ lo ∧ lo < 4294967296 ∧ 0 ≤ hi ∧ hi < 4294967296 ∧ lo + hi * 4294967296 = (x + y * 4294967296 + (u + v * 4294967296)) % 18446744073709551616)) := by
  dsimp only [Cut, Ret6, Ret6h, Ret2, RetI, RetV, RetN]
  w_top off
  k_fill
  intro w mean mg mb dp un gd cn cs a ccd cl outer A₀ base h₀ L m s Q E news B F X N T hk hdp hun hret
  refine wpAny_call ?_
  k_dflt cell_enter
  k_steps
  all_goals (refine' hret _ _ _ _ _ _ _ _ ?_ (by assumption) (by first | assumption | exact news2 (by assumption) | exact news3 (by assumption) | exact news4 (by assumption) | exact news5 (by assumption) | exact news6 (by assumption)))
  all_goals (clear hret; refine ⟨?_, ?_, ?_, ?_, ?_⟩ <;> omega)
end Mine
/-! part C_g -/
namespace Mine
local macro_rules | `(tactic| walk_at "a key of no tree") => `(tactic| skip)
local macro_rules | `(tactic| k_room) => `(tactic| ktr_room)
local macro_rules | `(tactic| walk_at "call ref") => `(tactic| (k_here; ((k_dflt (refine' sub_cut _ _ _ _ ?h0 _ _ _ _ _ _ _ _ _ _ _ _ _ _ _ _ _ _ _ _ _ _ ?k1 ?k2 ?k3 ?k4 ?k5 ?kK ?kd ?ku ?_)); (case k1 => k_asm); (case k2 => k_asm); (case k3 => k_asm); (case k4 => k_asm); (case k5 => k_asm); (case kK => first | exact rfl | assumption); (case kd => ktr_room); (case ku => ktr_units); (case h0 => first | omega | (law_clear; (try law_fm); omega)); (intro r n z c v t0 t1 t2 t3 t4 k D h9 tk9 hS F9 N9; (rcases hS with ⟨e1, e2, e3⟩); (try dsimp only); (try k_fold)))))
theorem wgap_cut (x y u v : Int) (tx ty tu tv : Tok) (hx : ((0 ≤ x ∧ x < 4294967296) ∧ 0 ≤ y ∧ y < 4294967296) ∧ (0 ≤ u ∧ u < 4294967296) ∧ 0 ≤ v ∧ v < 4294967296) :
    Cut 6 120 [.int x tx, .int y ty, .int u tu, .int v tv] (Ret2 (fun lo hi => 0 ≤ lo ∧ lo < 4294967296 ∧ 0 ≤ hi ∧ hi < 4294967296 ∧ lo + hi * 4294967296 = (x + y * 4294967296 - (u + v * 4294967296)) % 18446744073709551616)) := by
  dsimp only [Cut, Ret6, Ret6h, Ret2, RetI, RetV, RetN]
  w_top off
  k_fill
  intro w mean mg mb dp un gd cn cs a ccd cl outer A₀ base h₀ L m s Q E news B F X N T hk hdp hun hret
  refine wpAny_call ?_
  k_dflt cell_enter
  k_steps
  all_goals (refine' hret _ _ _ _ _ _ _ _ ?_ (by assumption) (by first | assumption | exact news2 (by assumption) | exact news3 (by assumption) | exact news4 (by assumption) | exact news5 (by assumption) | exact news6 (by assumption)))
  all_goals (clear hret; refine ⟨?_, ?_, ?_, ?_, ?_⟩ <;> omega)
end Mine
/-! part C_h -/
namespace Mine
local macro_rules | `(tactic| k_room) => `(tactic| ktr_room)
local macro_rules | `(tactic| units_room) => `(tactic| ktr_units)
local macro_rules | `(tactic| k_units) => `(tactic| ktr_units)
abbrev CutQ (lv : Nat) (f : Addr) (q : Addr) (vs0 : List Value) (n0 : Nat) (vs : List Value) (R : RetTy) : Prop :=
  ∀ (w : World) (mean : ExcName → Option Value) (mg mb : Str → Option Value) (dp un : Nat) (gd : Option (List Code)) (cn : Str) (cs : Scope) (a : Addr) (ccd : Value) (cl : List (Str × Addr)) (outer : List Env) (A₀ : Around) (base h₀ : Heap) (L : Addr) (m : Str → Option Value) (s : Shared) (Q E : Value → Shared → Prop),
    Below A₀ base outer h₀ → Fr h₀ L s.heap m → (hd.heap_39 w.params).In h₀ → News h₀ L s.heap [(q, listOf vs0.toArray n0)] → Top hd.view_39 (looseW hd.view_39 [Str.ofString "flagged"]) mean mg mb h₀ → cs.kind = .function →
    dp + lv < recursionLimit → un + 16 * lv < cLine → R h₀ L m [] s Q →
      wpAny (model PySem.Challenge.rw_pb0306_01.row.prog w) (ktrTop dp un gd cn cs L a ccd cl outer) (call (.ref f) vs) Q E s
/-- an int in a range handed back; the list of ints at q is another one, no longer -/
abbrev RetQ (q : Addr) (k : Nat) (M : Int) : RetTy := fun h₀ L m _ s Q =>
  ∀ (r : Int) (t0 : Tok) (vs' : List Value) (ns' : List Int) (n' : Nat) (h' : Heap) (tk' : Nat), 0 ≤ r → r < M → IntsAre vs' ns' → ns'.length ≤ k → Fr h₀ L h' m →
    News h₀ L h' [(q, listOf vs'.toArray n')] → Q (.int r t0) { s with heap := h', toks := tk' }
theorem my_pop0 {prog : Program} {w : World} {A : Around} {E : Value → Shared → Prop} {s : Shared} {h₀ : Heap} {L D : Addr} {m : Str → Option Value} {news news' : List (Addr × Obj)} {n : Nat} {y : Value} {q : List Value} {u : Tok} {Q : Value → Shared → Prop}
    (F : Fr h₀ L s.heap m) (N : News h₀ L s.heap news) (U : Upd D (listOf (y :: q).toArray n) (listOf q.toArray (n + 1)) news news') (hz : q.length ≤ 1000)
    (h : ∀ h', Fr h₀ L h' m → News h₀ L h' news' → Q y { s with heap := h' }) : wpAny (model prog w) A (call (.builtin "list.pop") [.ref D, .int 0 u]) Q E s :=
  kl_popAt (k := 0) (p := []) F N rfl (by simp [seqIndex?]) rfl U (by rw [PySem.sizeLine_eq]; simp; omega) h
local macro_rules | `(tactic| walk_at "call builtin:list.pop") => `(tactic| (k_here; (with_reducible show wpAny _ _ (call (Value.builtin _) [Value.ref _, Value.int _ _]) _ _ _); k_dflt (refine' my_pop0 ?F ?N ?U ?z ?_); (case F => k_asm); (case N => k_asm); (case U => k_upd); (case z => omega); (intro h' F' N'; (try dsimp only [List.nil_append, List.cons_append] at N'))))
theorem bite_cut (q : Addr) (vs0 : List Value) (ns : List Int) (n0 : Nat) (M : Int) (tM : Tok) (hx : (0 < M ∧ M < 4294967296) ∧ ns.length ≤ 128) (hI : IntsAre vs0 ns) :
    CutQ 8 99 q vs0 n0 [.ref q, .int M tM] (RetQ q ns.length M) := by
  cases hI with
  | nil =>
    dsimp only [CutQ, RetQ]
    w_top off
    k_fill
    intro w mean mg mb dp un gd cn cs a ccd cl outer A₀ base h₀ L m s Q E B F X N T hk hdp hun hret
    refine wpAny_call ?_
    k_dflt cell_enter
    k_steps
    all_goals (refine' hret _ _ _ _ _ _ _ (by omega) (by omega) IntsAre.nil (Nat.le_refl _) (by assumption) (news1 (by assumption)))
  | @cons n tn vs1 ns1 hI1 =>
    have hl9 := IntsAre.length hI1
    simp only [List.length_cons] at hx
    dsimp only [CutQ, RetQ]
    w_top off
    k_fill
    intro w mean mg mb dp un gd cn cs a ccd cl outer A₀ base h₀ L m s Q E B F X N T hk hdp hun hret
    refine wpAny_call ?_
    k_dflt cell_enter
    k_steps
    all_goals first
      | (refine' hret _ _ _ _ _ _ _ (by omega) (by omega) (IntsAre.cons n tn hI1) (Nat.le_refl _) (by assumption) (news1 (by assumption)))
      | (refine' hret _ _ _ _ _ _ _ ?_ ?_ hI1 (by simp) (by assumption) (news1 (by assumption)); (rw [Int.fmod_eq_emod_of_nonneg _ (Int.le_of_lt hx.1.1)]; exact Int.emod_nonneg _ (by omega)); (rw [Int.fmod_eq_emod_of_nonneg _ (Int.le_of_lt hx.1.1)]; exact Int.emod_lt_of_pos _ hx.1.1))
end Mine
/-! part C_i -/
namespace Mine
local macro_rules | `(tactic| walk_at "a key of no tree") => `(tactic| skip)
local macro_rules | `(tactic| k_room) => `(tactic| ktr_room)
local macro_rules | `(tactic| units_room) => `(tactic| ktr_units)
local macro_rules | `(tactic| k_units) => `(tactic| ktr_units)
local macro_rules | `(tactic| walk_at "call ref") => `(tactic| (k_here; ((k_dflt (refine' bite_cut _ _ _ _ _ _ ?h0 ?hI _ _ _ _ _ _ _ _ _ _ _ _ _ _ _ _ _ _ _ _ _ ?k1 ?k2 ?k3 ?k4 ?k5 ?kK ?kd ?ku ?_)); (case k1 => k_asm); (case k2 => k_asm); (case k3 => k_asm); (case k4 => k_asm); (case k5 => k_asm); (case kK => first | exact rfl | assumption); (case kd => ktr_room); (case ku => ktr_units); (case hI => assumption); (case h0 => omega); (intro r t0 vs' ns' n' h9 tk9 e1 e2 hI9 e3 F9 N9; (try dsimp only); (try k_fold)))))
theorem word_cut (q : Addr) (vs0 : List Value) (ns : List Int) (n0 : Nat) (hx : ns.length ≤ 128) (hI : IntsAre vs0 ns) :
    CutQ 10 106 q vs0 n0 [.ref q] (RetQ q ns.length 4294967296) := by
  dsimp only [CutQ, RetQ]
  w_top off
  k_fill
  intro w mean mg mb dp un gd cn cs a ccd cl outer A₀ base h₀ L m s Q E B F X N T hk hdp hun hret
  refine wpAny_call ?_
  k_dflt cell_enter
  k_steps
  all_goals (refine' hret _ _ _ _ _ _ _ ?_ ?_ (by assumption) ?_ (by assumption) (by assumption))
  all_goals clear hret
  all_goals first | omega | (rw [Int.fmod_eq_emod_of_nonneg _ (by decide)]; omega)
end Mine
/-! part C_j -/
namespace Mine
local macro_rules | `(tactic| k_room) => `(tactic| ktr_room)
local macro_rules | `(tactic| units_room) => `(tactic| ktr_units)
local macro_rules | `(tactic| k_units) => `(tactic| ktr_units)
abbrev CutL (lv : Nat) (f : Addr) (l : Addr) (vs0 : List Value) (R : RetTy) : Prop :=
  ∀ (w : World) (mean : ExcName → Option Value) (mg mb : Str → Option Value) (dp un : Nat) (gd : Option (List Code)) (cn : Str) (cs : Scope) (a : Addr) (ccd : Value) (cl : List (Str × Addr)) (outer : List Env) (A₀ : Around) (base h₀ : Heap) (L : Addr) (m : Str → Option Value) (s : Shared) (Q E : Value → Shared → Prop),
    Below A₀ base outer h₀ → Fr h₀ L s.heap m → (hd.heap_39 w.params).In h₀ → News h₀ L s.heap [] → Top hd.view_39 (looseW hd.view_39 [Str.ofString "flagged"]) mean mg mb h₀ → cs.kind = .function →
    dp + lv < recursionLimit → un + 16 * lv < cLine → base.IsList l vs0.toArray → R h₀ L m [] s Q →
      wpAny (model PySem.Challenge.rw_pb0306_01.row.prog w) (ktrTop dp un gd cn cs L a ccd cl outer) (call (.ref f) [.ref l]) Q E s
abbrev RetL : RetTy := fun h₀ L m _ s Q =>
  ∀ (q : Addr) (vs' : List Value) (ns' : List Int) (n' : Nat) (h' : Heap) (tk' : Nat), IntsAre vs' ns' → ns'.length ≤ 128 → Fr h₀ L h' m →
    News h₀ L h' [(q, listOf vs'.toArray n')] → Q (.ref q) { s with heap := h', toks := tk' }
theorem len_grab {q pre : List Int} (h : q.length ≤ 8 * pre.length) : ∃ K, K = 8 * pre.length ∧ q.length ≤ K := ⟨_, rfl, h⟩
theorem fed_cut (l : Addr) (vs0 : List Value) (ns : List Int) (hx : ns.length ≤ 63) (hlay : (PyData.list (List.map PyData.int ns)).layable0 = true) (hI : IntsAre vs0 ns) :
    CutL 10 92 l vs0 RetL := by
  dsimp only [CutL, RetL]
  w_top off
  k_fill
  intro w mean mg mb dp un gd cn cs a ccd cl outer A₀ base h₀ L m s Q E B F X N T hk hdp hun hL hret
  refine wpAny_call ?_
  k_dflt cell_enter
  k_with "pyIter ref" => (k_of "one" => k_state (fun pre q => q.length ≤ 8 * pre.length) "queue")
  k_with "pyIter ref" => (k_of "hop" => ((rename List.length _ ≤ 8 * List.length _ => hq0); (obtain ⟨K0, hK0, hK1⟩ := len_grab hq0); k_state_short (fun (pre : List Int) (q : List Int) (_ : Int) => q.length ≤ K0 + pre.length) "queue" "left"))
  k_steps
  all_goals (refine' hret _ _ _ _ _ _ (by assumption) ?_ (by assumption) (news1 (by assumption)))
  all_goals clear hret
  all_goals omega
end Mine
/-! part C_k -/
namespace Mine
local macro_rules | `(tactic| k_room) => `(tactic| ktr_room)
local macro_rules | `(tactic| units_room) => `(tactic| ktr_units)
local macro_rules | `(tactic| k_units) => `(tactic| ktr_units)
theorem mul_same {P P' r n z c v o r' n' z' c' v' o' : Int} (h : MulS P r n z c v o) (h' : MulS P' r' n' z' c' v' o') (e : P = P') : (!(r == r' && (n == n' && (z == z' && (c == c' && (v == v' && o == o')))))) = false := by
  subst e
  obtain ⟨a1, a2, a3, a4, a5, a6, a7, a8⟩ := h
  obtain ⟨b1, b2, b3, b4, b5, b6, b7, b8⟩ := h'
  have q1 : r = r' := by omega
  subst q1
  have q2 : n = n' := by omega
  have q3 : o = o' := by omega
  have q4 : v = v' := by
    by_cases hq : Sg r = P
    · rw [a3 hq, b3 hq]
    · rw [a4 hq, b4 hq]
  have q5 : z = z' := by
    by_cases hq : r = 0
    · rw [a6 hq, b6 hq]
    · rw [a7 hq, b7 hq]
  have q6 : c = c' := by omega
  subst q2; subst q3; subst q4; subst q5; subst q6
  simp
theorem mul_flag {v p q : Int} (h1 : q = p → v = 0) (h2 : q ≠ p → v = 1) : ((v == 0) != (q == p)) = false := by
  by_cases h : q = p
  · rw [h1 h, h]; simp
  · rw [h2 h]; simp [h]
local macro_rules | `(tactic| walk_at "ite") => `(tactic| (k_here; first | (refine ite_isFalse (by with_reducible rfl) ?_) | (refine ite_isTrue (by with_reducible rfl) ?_) | ((refine ite_isFalse ?e1 ?_); (case e1 => (law_clear; (try law_fm); (try simp only [bne_iff_ne, ne_eq, bne_eq_false_iff_eq, decide_eq_false_iff_not, decide_eq_true_eq, Bool.not_eq_false', Bool.not_eq_true', Bool.and_eq_true, Bool.and_eq_false_iff, Bool.or_eq_true, Bool.or_eq_false_iff, beq_iff_eq, beq_eq_false_iff_ne, Decidable.not_not]); omega))) | ((refine ite_isTrue ?e2 ?_); (case e2 => (law_clear; (try law_fm); (try simp only [bne_iff_ne, ne_eq, bne_eq_false_iff_eq, decide_eq_false_iff_not, decide_eq_true_eq, Bool.not_eq_false', Bool.not_eq_true', Bool.and_eq_true, Bool.and_eq_false_iff, Bool.or_eq_true, Bool.or_eq_false_iff, beq_iff_eq, beq_eq_false_iff_ne, Decidable.not_not]); omega))) | (refine ite_isFalse (mul_flag (by assumption) (by assumption)) ?_) | (refine ite_isFalse (mul_same (by assumption) (by assumption) (Int.mul_comm _ _)) ?_) | (refine ite_isFalse (div_back0 (by omega) (by assumption) (by assumption) (by assumption) (by assumption)) ?_) | (refine hold ?_)))
local macro_rules | `(tactic| walk_at "call ref") => `(tactic| (k_here; ((k_dflt (refine' sg_cut _ _ ?h0 _ _ _ _ _ _ _ _ _ _ _ _ _ _ _ _ _ _ _ _ _ _ ?k1 ?k2 ?k3 ?k4 ?k5 ?kK ?kd ?ku ?_)); (case k1 => k_asm); (case k2 => k_asm); (case k3 => k_asm); (case k4 => k_asm); (case k5 => k_asm); (case kK => first | exact rfl | assumption); (case kd => ktr_room); (case ku => ktr_units); (case h0 => first | omega | (law_clear; (try law_fm); omega)); (intro t0 h9 tk9 hB F9 N9; (rcases hB with ⟨e1, e2⟩); (try dsimp only); (try k_fold)))))
local macro_rules | `(tactic| walk_at "call ref") => `(tactic| (k_here; ((k_dflt (refine' add_cut _ _ _ _ ?h0 _ _ _ _ _ _ _ _ _ _ _ _ _ _ _ _ _ _ _ _ _ _ ?k1 ?k2 ?k3 ?k4 ?k5 ?kK ?kd ?ku ?_)); (case k1 => k_asm); (case k2 => k_asm); (case k3 => k_asm); (case k4 => k_asm); (case k5 => k_asm); (case kK => first | exact rfl | assumption); (case kd => ktr_room); (case ku => ktr_units); (case h0 => first | omega | (law_clear; (try law_fm); omega)); (intro r n z c v t0 t1 t2 t3 t4 k D h9 tk9 hS F9 N9; (rcases hS with ⟨e1, e2⟩); (try dsimp only); (try k_fold)))))
local macro_rules | `(tactic| walk_at "call ref") => `(tactic| (k_here; ((k_dflt (refine' mul_cut _ _ _ _ ?h0 _ _ _ _ _ _ _ _ _ _ _ _ _ _ _ _ _ _ _ _ _ _ ?k1 ?k2 ?k3 ?k4 ?k5 ?kK ?kd ?ku ?_)); (case k1 => k_asm); (case k2 => k_asm); (case k3 => k_asm); (case k4 => k_asm); (case k5 => k_asm); (case kK => first | exact rfl | assumption); (case kd => ktr_room); (case ku => ktr_units); (case h0 => first | omega | (law_clear; (try law_fm); omega)); (intro r n z c v o t0 t1 t2 t3 t4 t5 k D h9 tk9 hS F9 N9; (have hM := hS); (k_dflt (rcases hS with ⟨e1, e2, e3, e4, e5, e6, e7, e8⟩)); (try dsimp only); (try k_fold)))))
local macro_rules | `(tactic| walk_at "call ref") => `(tactic| (k_here; ((k_dflt (refine' div0_cut _ _ _ _ ?h0 _ _ _ _ _ _ _ _ _ _ _ _ _ _ _ _ _ _ _ _ _ _ ?k1 ?k2 ?k3 ?k4 ?k5 ?kK ?kd ?ku ?_)); (case k1 => k_asm); (case k2 => k_asm); (case k3 => k_asm); (case k4 => k_asm); (case k5 => k_asm); (case kK => first | exact rfl | assumption); (case kd => ktr_room); (case ku => ktr_units); (case h0 => first | omega | (law_clear; (try law_fm); omega)); (intro h9 tk9 F9 N9; (try dsimp only); (try k_fold)))))
local macro_rules | `(tactic| walk_at "call ref") => `(tactic| (k_here; ((k_dflt (refine' div1_cut _ _ _ _ ?h0 _ _ _ _ _ _ _ _ _ _ _ _ _ _ _ _ _ _ _ _ _ _ ?k1 ?k2 ?k3 ?k4 ?k5 ?kK ?kd ?ku ?_)); (case k1 => k_asm); (case k2 => k_asm); (case k3 => k_asm); (case k4 => k_asm); (case k5 => k_asm); (case kK => first | exact rfl | assumption); (case kd => ktr_room); (case ku => ktr_units); (case h0 => first | omega | (law_clear; (try law_fm); omega)); (intro r n z c v o t0 t1 t2 t3 t4 t5 k D h9 tk9 hS F9 N9; (rcases hS with ⟨e1, e2, ⟨e3, e4⟩, e5, e6⟩); (try dsimp only); (try k_fold)))))
abbrev TN : List Str := [Str.ofString "made", Str.ofString "parted", Str.ofString "back"]
theorem fr_xy {h₀ h : Heap} {L : Addr} {m : Str → Option Value} {u v : Value} (F : Fr h₀ L h m) (hx : m (Str.ofString "x") = some u) (hy : m (Str.ofString "y") = some v) :
    Fr h₀ L h (fun z => if z = Str.ofString "y" then some v else if z = Str.ofString "x" then some u else m z) := by
  have e : (fun z => if z = Str.ofString "y" then some v else if z = Str.ofString "x" then some u else m z) = m := by
    funext z
    by_cases h1 : z = Str.ofString "y"
    · rw [if_pos h1, h1, hy]
    · rw [if_neg h1]
      by_cases h2 : z = Str.ofString "x"
      · rw [if_pos h2, h2, hx]
      · rw [if_neg h2]
  rw [e]; exact F
theorem fr_off {h₀ h : Heap} {L : Addr} {m M : Str → Option Value} {ts : List Str} (F : Fr h₀ L h M) (e : ∀ z, ts.contains z = false → M z = m z) : Fr h₀ L h (fun z => if ts.contains z then M z else m z) := by
  have e : (fun z => if ts.contains z then M z else m z) = M := by
    funext z
    cases hz : ts.contains z with
    | true => simp
    | false => simp [e z hz]
  rw [e]; exact F
theorem turn_cut (x y : Int) (tx ty : Tok) (hx : (0 ≤ x ∧ x < 4294967296) ∧ 0 ≤ y ∧ y < 4294967296) :
    ∀ (w : World) (mean : ExcName → Option Value) (mg mb : Str → Option Value) (dp un : Nat) (gd : Option (List Code)) (a : Addr) (ccd : Value) (outer : List Env) (A₀ : Around) (base h₀ : Heap) (L : Addr) (m : Str → Option Value) (s : Shared) (Q : Flow → Shared → Prop) (E : Value → Shared → Prop) (news : List (Addr × Obj)),
    Below A₀ base outer h₀ → Fr h₀ L s.heap m → (hd.heap_39 w.params).In h₀ → News h₀ L s.heap news → Top hd.view_39 (looseW hd.view_39 [Str.ofString "flagged"]) mean mg mb h₀ →
    m (Str.ofString "x") = some (.int x tx) → m (Str.ofString "y") = some (.int y ty) →
    dp + 8 < recursionLimit → un + 160 < cLine →
    (∀ (fl : Flow) (h' : Heap) (tk' : Nat) (U : Str → Option Value), (fl = .next ∨ fl = .cont) → Fr h₀ L h' (fun z => if TN.contains z then U z else m z) → News h₀ L h' news → Q fl { s with heap := h', toks := tk' }) →
      wpAny (model PySem.Challenge.rw_pb0306_01.row.prog w) (ktrTop dp un gd (Str.ofString "law") lawScope.1 L a ccd [] outer) (execs turnBody.1 (envOf (Str.ofString "law") lawScope.1 L a ccd)) Q E s := by
  have hb2 := sg_bnd hx.1
  have hc2 := sg_bnd hx.2
  dsimp only [turnBody, lawScope]
  w_top off
  k_fill
  intro w mean mg mb dp un gd a ccd outer A₀ base h₀ L m s Q E news B F0 X N T hmx hmy hdp hun hret
  have F := fr_xy F0 hmx hmy
  clear F0
  by_cases hs : Sg y ≤ 0
  · k_steps
    all_goals (try dsimp only)
    all_goals ((refine' hret _ _ _ _ (by first | exact Or.inl rfl | exact Or.inr rfl) (fr_off (by assumption) ?_) (by (first | assumption | exact news1 (by assumption) | exact news1 (news1 (by assumption)) | exact news1 (news1 (news1 (by assumption))) | exact news1 (news1 (news1 (news1 (by assumption)))) | exact news1 (news1 (news1 (news1 (news1 (by assumption))))) | exact news1 (news1 (news1 (news1 (news1 (news1 (by assumption)))))) ))); (intro z hz; (have h1 : z ≠ Str.ofString "made" := by rintro rfl; exact absurd hz (by decide)); (have h2 : z ≠ Str.ofString "parted" := by rintro rfl; exact absurd hz (by decide)); (have h3 : z ≠ Str.ofString "back" := by rintro rfl; exact absurd hz (by decide)); (simp only [if_neg h1, if_neg h2, if_neg h3]); (by_cases h4 : z = Str.ofString "y"); (rw [if_pos h4, h4]; exact hmy.symm); (rw [if_neg h4]); (by_cases h5 : z = Str.ofString "x"); (rw [if_pos h5, h5]; exact hmx.symm); (rw [if_neg h5])))
  · k_steps
    all_goals (try dsimp only)
    all_goals ((refine' hret _ _ _ _ (by first | exact Or.inl rfl | exact Or.inr rfl) (fr_off (by assumption) ?_) (by (first | assumption | exact news1 (by assumption) | exact news1 (news1 (by assumption)) | exact news1 (news1 (news1 (by assumption))) | exact news1 (news1 (news1 (news1 (by assumption)))) | exact news1 (news1 (news1 (news1 (news1 (by assumption))))) | exact news1 (news1 (news1 (news1 (news1 (news1 (by assumption)))))) ))); (intro z hz; (have h1 : z ≠ Str.ofString "made" := by rintro rfl; exact absurd hz (by decide)); (have h2 : z ≠ Str.ofString "parted" := by rintro rfl; exact absurd hz (by decide)); (have h3 : z ≠ Str.ofString "back" := by rintro rfl; exact absurd hz (by decide)); (simp only [if_neg h1, if_neg h2, if_neg h3]); (by_cases h4 : z = Str.ofString "y"); (rw [if_pos h4, h4]; exact hmy.symm); (rw [if_neg h4]); (by_cases h5 : z = Str.ofString "x"); (rw [if_pos h5, h5]; exact hmx.symm); (rw [if_neg h5])))
end Mine
/-! part C_l -/
namespace Mine
local macro_rules | `(tactic| k_room) => `(tactic| ktr_room)
local macro_rules | `(tactic| units_room) => `(tactic| ktr_units)
local macro_rules | `(tactic| k_units) => `(tactic| ktr_units)
theorem sar_lo {c j d : Int} (hd : d = Sg c / 2 ^ (j % 32).toNat % 4294967296) (hc : 0 ≤ c ∧ c < 4294967296) (hj : 0 ≤ j ∧ j < 32) : decide (Sg d * 2 ^ j.toNat ≤ Sg c) = true := decide_eq_true (sar_floor hc hj hd).1
theorem sar_hi {c j d : Int} (hd : d = Sg c / 2 ^ (j % 32).toNat % 4294967296) (hc : 0 ≤ c ∧ c < 4294967296) (hj : 0 ≤ j ∧ j < 32) : (!decide (Sg c < (Sg d + 1) * 2 ^ j.toNat)) = false := by rw [decide_eq_true (sar_floor hc hj hd).2]; rfl
local macro_rules | `(tactic| walk_at "ite") => `(tactic| (k_here; first | (refine ite_isFalse (by with_reducible rfl) ?_) | (refine ite_isTrue (by with_reducible rfl) ?_) | (refine ite_isFalse (bne_f (by (first | exact rot_two' (by assumption) (by assumption) (by assumption) (by first | rfl | exact Int.fmod_eq_emod_of_nonneg _ (by decide)) (by omega) (by omega) (by omega) | exact rot_full' (by assumption) (by assumption) (by omega) (by omega) | exact shl_mul' (by assumption) (by assumption) (by assumption) (by omega) | exact shl_round (by assumption) (by assumption) | exact parts_or (by assumption) (by assumption) (by assumption) (by omega) (by omega) | exact parts_xor (by assumption) (by assumption) (by assumption) (by omega) (by omega) | exact parts_and (by assumption) (by assumption) (by assumption) (by omega) (by omega) | exact sum_parts' (by assumption) (by assumption) (by assumption) (by assumption) (by assumption)))) ?_) | (refine ite_isTrue (beq_t (by exact xor_back' (by assumption) (by assumption) (by omega) (by omega))) ?_) | (refine ite_isTrue (sar_lo (by assumption) (by omega) (by omega)) ?_) | (refine ite_isFalse (sar_hi (by assumption) (by omega) (by omega)) ?_) | ((refine ite_isFalse ?e1 ?_); (case e1 => (law_clear; (try law_fm); (try simp only [bne_iff_ne, ne_eq, bne_eq_false_iff_eq, decide_eq_false_iff_not, decide_eq_true_eq, Bool.not_eq_false', Bool.not_eq_true', Bool.and_eq_true, Bool.and_eq_false_iff, Bool.or_eq_true, Bool.or_eq_false_iff, beq_iff_eq, beq_eq_false_iff_ne, Decidable.not_not]); omega))) | ((refine ite_isTrue ?e2 ?_); (case e2 => (law_clear; (try law_fm); (try simp only [bne_iff_ne, ne_eq, bne_eq_false_iff_eq, decide_eq_false_iff_not, decide_eq_true_eq, Bool.not_eq_false', Bool.not_eq_true', Bool.and_eq_true, Bool.and_eq_false_iff, Bool.or_eq_true, Bool.or_eq_false_iff, beq_iff_eq, beq_eq_false_iff_ne, Decidable.not_not]); omega))) | (refine hold ?_)))
local macro_rules | `(tactic| walk_at "call ref") => `(tactic| (k_here; ((k_dflt (refine' sg_cut _ _ ?h0 _ _ _ _ _ _ _ _ _ _ _ _ _ _ _ _ _ _ _ _ _ _ ?k1 ?k2 ?k3 ?k4 ?k5 ?kK ?kd ?ku ?_)); (case k1 => k_asm); (case k2 => k_asm); (case k3 => k_asm); (case k4 => k_asm); (case k5 => k_asm); (case kK => first | exact rfl | assumption); (case kd => ktr_room); (case ku => ktr_units); (case h0 => first | omega | (law_clear; (try law_fm); omega)); (intro t0 h9 tk9 hB F9 N9; (rcases hB with ⟨e1, e2⟩); (try dsimp only); (try k_fold)))))
local macro_rules | `(tactic| walk_at "call ref") => `(tactic| (k_here; ((k_dflt (refine' add_cut _ _ _ _ ?h0 _ _ _ _ _ _ _ _ _ _ _ _ _ _ _ _ _ _ _ _ _ _ ?k1 ?k2 ?k3 ?k4 ?k5 ?kK ?kd ?ku ?_)); (case k1 => k_asm); (case k2 => k_asm); (case k3 => k_asm); (case k4 => k_asm); (case k5 => k_asm); (case kK => first | exact rfl | assumption); (case kd => ktr_room); (case ku => ktr_units); (case h0 => first | omega | (law_clear; (try law_fm); omega)); (intro r n z c v t0 t1 t2 t3 t4 k D h9 tk9 hS F9 N9; (rcases hS with ⟨e1, e2⟩); (try dsimp only); (try k_fold)))))
local macro_rules | `(tactic| walk_at "call ref") => `(tactic| (k_here; ((k_dflt (refine' mul_cut _ _ _ _ ?h0 _ _ _ _ _ _ _ _ _ _ _ _ _ _ _ _ _ _ _ _ _ _ ?k1 ?k2 ?k3 ?k4 ?k5 ?kK ?kd ?ku ?_)); (case k1 => k_asm); (case k2 => k_asm); (case k3 => k_asm); (case k4 => k_asm); (case k5 => k_asm); (case kK => first | exact rfl | assumption); (case kd => ktr_room); (case ku => ktr_units); (case h0 => first | omega | (law_clear; (try law_fm); omega)); (intro r n z c v o t0 t1 t2 t3 t4 t5 k D h9 tk9 hS F9 N9; (have hM := hS); (k_dflt (rcases hS with ⟨e1, e2, e3, e4, e5, e6, e7, e8⟩)); (try dsimp only); (try k_fold)))))
local macro_rules | `(tactic| walk_at "call ref") => `(tactic| (k_here; ((k_dflt (refine' shl_cut _ _ _ _ ?h0 _ _ _ _ _ _ _ _ _ _ _ _ _ _ _ _ _ _ _ _ _ _ ?k1 ?k2 ?k3 ?k4 ?k5 ?kK ?kd ?ku ?_)); (case k1 => k_asm); (case k2 => k_asm); (case k3 => k_asm); (case k4 => k_asm); (case k5 => k_asm); (case kK => first | exact rfl | assumption); (case kd => ktr_room); (case ku => ktr_units); (case h0 => first | omega | (law_clear; (try law_fm); omega)); (intro r n z c v t0 t1 t2 t3 t4 k D h9 tk9 hS F9 N9; (rcases hS with ⟨⟨e1, e2⟩, e3⟩); (try dsimp only); (try k_fold)))))
local macro_rules | `(tactic| walk_at "call ref") => `(tactic| (k_here; ((k_dflt (refine' sar_cut _ _ _ _ ?h0 _ _ _ _ _ _ _ _ _ _ _ _ _ _ _ _ _ _ _ _ _ _ ?k1 ?k2 ?k3 ?k4 ?k5 ?kK ?kd ?ku ?_)); (case k1 => k_asm); (case k2 => k_asm); (case k3 => k_asm); (case k4 => k_asm); (case k5 => k_asm); (case kK => first | exact rfl | assumption); (case kd => ktr_room); (case ku => ktr_units); (case h0 => first | omega | (law_clear; (try law_fm); omega)); (intro r n z c v t0 t1 t2 t3 t4 k D h9 tk9 hS F9 N9; (rcases hS with ⟨⟨e1, e2⟩, e3⟩); (try dsimp only); (try k_fold)))))
local macro_rules | `(tactic| walk_at "call ref") => `(tactic| (k_here; ((k_dflt (refine' rot_cut _ _ _ _ ?h0 _ _ _ _ _ _ _ _ _ _ _ _ _ _ _ _ _ _ _ _ _ _ ?k1 ?k2 ?k3 ?k4 ?k5 ?kK ?kd ?ku ?_)); (case k1 => k_asm); (case k2 => k_asm); (case k3 => k_asm); (case k4 => k_asm); (case k5 => k_asm); (case kK => first | exact rfl | assumption); (case kd => ktr_room); (case ku => ktr_units); (case h0 => first | omega | (law_clear; (try law_fm); omega)); (intro r n z c v t0 t1 t2 t3 t4 k D h9 tk9 hS F9 N9; (rcases hS with ⟨⟨e1, e2⟩, e3⟩); (try dsimp only); (try k_fold)))))
local macro_rules | `(tactic| walk_at "call ref") => `(tactic| (k_here; ((k_dflt (refine' bwAND_cut _ _ _ _ _ ?h0 _ _ _ _ _ _ _ _ _ _ _ _ _ _ _ _ _ _ _ _ _ _ ?k1 ?k2 ?k3 ?k4 ?k5 ?kK ?kd ?ku ?_)); (case k1 => k_asm); (case k2 => k_asm); (case k3 => k_asm); (case k4 => k_asm); (case k5 => k_asm); (case kK => first | exact rfl | assumption); (case kd => ktr_room); (case ku => ktr_units); (case h0 => first | omega | (law_clear; (try law_fm); omega)); (intro r n z c v t0 t1 t2 t3 t4 k D h9 tk9 hS F9 N9; (rcases hS with ⟨⟨e1, e2⟩, e3⟩); (try dsimp only); (try k_fold)))))
local macro_rules | `(tactic| walk_at "call ref") => `(tactic| (k_here; ((k_dflt (refine' bwANN_cut _ _ _ _ _ ?h0 _ _ _ _ _ _ _ _ _ _ _ _ _ _ _ _ _ _ _ _ _ _ ?k1 ?k2 ?k3 ?k4 ?k5 ?kK ?kd ?ku ?_)); (case k1 => k_asm); (case k2 => k_asm); (case k3 => k_asm); (case k4 => k_asm); (case k5 => k_asm); (case kK => first | exact rfl | assumption); (case kd => ktr_room); (case ku => ktr_units); (case h0 => first | omega | (law_clear; (try law_fm); omega)); (intro r n z c v t0 t1 t2 t3 t4 k D h9 tk9 hS F9 N9; (rcases hS with ⟨⟨e1, e2⟩, e3⟩); (try dsimp only); (try k_fold)))))
local macro_rules | `(tactic| walk_at "call ref") => `(tactic| (k_here; ((k_dflt (refine' bwIOR_cut _ _ _ _ _ ?h0 _ _ _ _ _ _ _ _ _ _ _ _ _ _ _ _ _ _ _ _ _ _ ?k1 ?k2 ?k3 ?k4 ?k5 ?kK ?kd ?ku ?_)); (case k1 => k_asm); (case k2 => k_asm); (case k3 => k_asm); (case k4 => k_asm); (case k5 => k_asm); (case kK => first | exact rfl | assumption); (case kd => ktr_room); (case ku => ktr_units); (case h0 => first | omega | (law_clear; (try law_fm); omega)); (intro r n z c v t0 t1 t2 t3 t4 k D h9 tk9 hS F9 N9; (rcases hS with ⟨⟨e1, e2⟩, e3⟩); (try dsimp only); (try k_fold)))))
local macro_rules | `(tactic| walk_at "call ref") => `(tactic| (k_here; ((k_dflt (refine' bwXOR_cut _ _ _ _ _ ?h0 _ _ _ _ _ _ _ _ _ _ _ _ _ _ _ _ _ _ _ _ _ _ ?k1 ?k2 ?k3 ?k4 ?k5 ?kK ?kd ?ku ?_)); (case k1 => k_asm); (case k2 => k_asm); (case k3 => k_asm); (case k4 => k_asm); (case k5 => k_asm); (case kK => first | exact rfl | assumption); (case kd => ktr_room); (case ku => ktr_units); (case h0 => first | omega | (law_clear; (try law_fm); omega)); (intro r n z c v t0 t1 t2 t3 t4 k D h9 tk9 hS F9 N9; (rcases hS with ⟨⟨e1, e2⟩, e3⟩); (try dsimp only); (try k_fold)))))
local macro_rules | `(tactic| walk_at "call ref") => `(tactic| (k_here; ((k_dflt (refine' bwNOT_cut _ _ _ _ _ ?h0 _ _ _ _ _ _ _ _ _ _ _ _ _ _ _ _ _ _ _ _ _ _ ?k1 ?k2 ?k3 ?k4 ?k5 ?kK ?kd ?ku ?_)); (case k1 => k_asm); (case k2 => k_asm); (case k3 => k_asm); (case k4 => k_asm); (case k5 => k_asm); (case kK => first | exact rfl | assumption); (case kd => ktr_room); (case ku => ktr_units); (case h0 => first | omega | (law_clear; (try law_fm); omega)); (intro h9 tk9 F9 N9; (try dsimp only); (try k_fold)))))
theorem fr_put {h₀ h : Heap} {L : Addr} {m : Str → Option Value} {u : Value} {x : Str} (F : Fr h₀ L h m) (hx : m x = some u) : Fr h₀ L h (fun z => if z = x then some u else m z) := by
  have e : (fun z => if z = x then some u else m z) = m := by
    funext z
    by_cases h1 : z = x
    · rw [if_pos h1, h1, hx]
    · rw [if_neg h1]
  rw [e]; exact F
theorem fr_abc {h₀ h : Heap} {L : Addr} {m : Str → Option Value} {a b c d i j : Value} (F : Fr h₀ L h m) (ha : m (Str.ofString "a") = some a) (hb : m (Str.ofString "b") = some b) (hc : m (Str.ofString "c") = some c) (hd : m (Str.ofString "d") = some d) (hi : m (Str.ofString "i") = some i) (hj : m (Str.ofString "j") = some j) :
    Fr h₀ L h (fun z => if z = Str.ofString "a" then some a else if z = Str.ofString "b" then some b else if z = Str.ofString "c" then some c else if z = Str.ofString "d" then some d else if z = Str.ofString "i" then some i else if z = Str.ofString "j" then some j else m z) :=
  fr_put (fr_put (fr_put (fr_put (fr_put (fr_put F hj) (by with_unfolding_all exact hi)) (by with_unfolding_all exact hd)) (by with_unfolding_all exact hc)) (by with_unfolding_all exact hb)) (by with_unfolding_all exact ha)
theorem tail_cut (a b c d i j : Int) (ta tb tc td ti tj : Tok) (hx : (0 ≤ a ∧ a < 4294967296) ∧ (0 ≤ b ∧ b < 4294967296) ∧ (0 ≤ c ∧ c < 4294967296) ∧ (0 ≤ d ∧ d < 4294967296) ∧ (0 ≤ i ∧ i < 32) ∧ 0 ≤ j ∧ j < 32) :
    ∀ (w : World) (mean : ExcName → Option Value) (mg mb : Str → Option Value) (dp un : Nat) (gd : Option (List Code)) (fa : Addr) (ccd : Value) (outer : List Env) (A₀ : Around) (base h₀ : Heap) (L : Addr) (m : Str → Option Value) (s : Shared) (Q : Flow → Shared → Prop) (E : Value → Shared → Prop),
    Below A₀ base outer h₀ → Fr h₀ L s.heap m → (hd.heap_39 w.params).In h₀ → Top hd.view_39 (looseW hd.view_39 [Str.ofString "flagged"]) mean mg mb h₀ →
    m (Str.ofString "a") = some (.int a ta) → m (Str.ofString "b") = some (.int b tb) → m (Str.ofString "c") = some (.int c tc) → m (Str.ofString "d") = some (.int d td) → m (Str.ofString "i") = some (.int i ti) → m (Str.ofString "j") = some (.int j tj) →
    dp + 8 < recursionLimit → un + 160 < cLine →
    (∀ (h' : Heap) (tk' : Nat) (U : Str → Option Value), Fr h₀ L h' U → Q (.ret (.bool true)) { s with heap := h', toks := tk' }) →
      wpAny (model PySem.Challenge.rw_pb0306_01.row.prog w) (ktrTop dp un gd (Str.ofString "law") lawScope.1 L fa ccd [] outer) (execs tailBody.1 (envOf (Str.ofString "law") lawScope.1 L fa ccd)) Q E s := by
  dsimp only [tailBody, lawScope]
  w_top off
  k_fill
  intro w mean mg mb dp un gd fa ccd outer A₀ base h₀ L m s Q E B F0 X T hma hmb hmc hmd hmi hmj hdp hun hret
  have F := fr_abc F0 hma hmb hmc hmd hmi hmj
  have N : News h₀ L s.heap [] := News.nil
  obtain ⟨⟨a0, a1⟩, ⟨b0, b1⟩, ⟨c0, c1⟩, ⟨d0, d1⟩, ⟨i0, i1⟩, j0, j1⟩ := hx
  clear F0 hma hmb hmc hmd hmi hmj
  k_steps
  all_goals (try dsimp only)
  all_goals (refine' hret _ _ _ (by assumption))
end Mine
/-! part T6 -/
namespace Mine
local macro_rules | `(tactic| k_room) => `(tactic| ktr_room)
local macro_rules | `(tactic| units_room) => `(tactic| ktr_units)
local macro_rules | `(tactic| k_units) => `(tactic| ktr_units)
local macro_rules | `(tactic| walk_at "ite") => `(tactic| (k_here; first | (refine ite_isFalse (by with_reducible rfl) ?_) | (refine ite_isTrue (by with_reducible rfl) ?_) | ((refine ite_isFalse ?e1 ?_); (case e1 => (law_clear; (try law_fm); (try simp only [bne_iff_ne, ne_eq, bne_eq_false_iff_eq, decide_eq_false_iff_not, decide_eq_true_eq, Bool.not_eq_false', Bool.not_eq_true', Bool.and_eq_true, Bool.and_eq_false_iff, Bool.or_eq_true, Bool.or_eq_false_iff, beq_iff_eq, beq_eq_false_iff_ne, Decidable.not_not]); omega))) | ((refine ite_isTrue ?e2 ?_); (case e2 => (law_clear; (try law_fm); (try simp only [bne_iff_ne, ne_eq, bne_eq_false_iff_eq, decide_eq_false_iff_not, decide_eq_true_eq, Bool.not_eq_false', Bool.not_eq_true', Bool.and_eq_true, Bool.and_eq_false_iff, Bool.or_eq_true, Bool.or_eq_false_iff, beq_iff_eq, beq_eq_false_iff_ne, Decidable.not_not]); omega)))))
local macro_rules | `(tactic| walk_at "call ref") => `(tactic| (k_here; ((k_dflt (refine' fed_cut _ _ _ ?h0 ?hlay ?hI _ _ _ _ _ _ _ _ _ _ _ _ _ _ _ _ _ _ _ _ _ ?k1 ?k2 ?k3 ?k4 ?k5 ?kK ?kd ?ku ?kL ?_)); (case k1 => k_asm); (case k2 => k_asm); (case k3 => k_asm); (case k4 => exact News.nil); (case k5 => k_asm); (case kK => first | exact rfl | assumption); (case kd => ktr_room); (case ku => ktr_units); (case kL => assumption); (case hlay => assumption); (case hI => assumption); (case h0 => omega); (intro q vs' ns' n' h9 tk9 hI9 e3 F9 N9; (try dsimp only); (try k_fold)))))
local macro_rules | `(tactic| walk_at "call ref") => `(tactic| (k_here; ((k_dflt (refine' word_cut _ _ _ _ ?h0 ?hI _ _ _ _ _ _ _ _ _ _ _ _ _ _ _ _ _ _ _ _ _ ?k1 ?k2 ?k3 ?k4 ?k5 ?kK ?kd ?ku ?_)); (case k1 => k_asm); (case k2 => k_asm); (case k3 => k_asm); (case k4 => k_asm); (case k5 => k_asm); (case kK => first | exact rfl | assumption); (case kd => ktr_room); (case ku => ktr_units); (case hI => assumption); (case h0 => omega); (intro r t0 vs' ns' n' h9 tk9 e1 e2 hI9 e3 F9 N9; (try dsimp only); (try k_fold)))))
local macro_rules | `(tactic| walk_at "call ref") => `(tactic| (k_here; ((k_dflt (refine' bite_cut _ _ _ _ _ _ ?h0 ?hI _ _ _ _ _ _ _ _ _ _ _ _ _ _ _ _ _ _ _ _ _ ?k1 ?k2 ?k3 ?k4 ?k5 ?kK ?kd ?ku ?_)); (case k1 => k_asm); (case k2 => k_asm); (case k3 => k_asm); (case k4 => k_asm); (case k5 => k_asm); (case kK => first | exact rfl | assumption); (case kd => ktr_room); (case ku => ktr_units); (case hI => assumption); (case h0 => omega); (intro r t0 vs' ns' n' h9 tk9 e1 e2 hI9 e3 F9 N9; (try dsimp only); (try k_fold)))))
local macro_rules | `(tactic| walk_at "call ref") => `(tactic| (k_here; ((k_dflt (refine' sg_cut _ _ ?h0 _ _ _ _ _ _ _ _ _ _ _ _ _ _ _ _ _ _ _ _ _ _ ?k1 ?k2 ?k3 ?k4 ?k5 ?kK ?kd ?ku ?_)); (case k1 => k_asm); (case k2 => k_asm); (case k3 => k_asm); (case k4 => k_asm); (case k5 => k_asm); (case kK => first | exact rfl | assumption); (case kd => ktr_room); (case ku => ktr_units); (case h0 => first | omega | (law_clear; (try law_fm); omega)); (intro t0 h9 tk9 hB F9 N9; (rcases hB with ⟨e1, e2⟩); (try dsimp only); (try k_fold)))))
local macro_rules | `(tactic| walk_at "call ref") => `(tactic| (k_here; ((k_dflt (refine' wsum_cut _ _ _ _ _ _ _ _ ?h0 _ _ _ _ _ _ _ _ _ _ _ _ _ _ _ _ _ _ _ _ _ _ ?k1 ?k2 ?k3 ?k4 ?k5 ?kK ?kd ?ku ?_)); (case k1 => k_asm); (case k2 => k_asm); (case k3 => k_asm); (case k4 => k_asm); (case k5 => k_asm); (case kK => first | exact rfl | assumption); (case kd => ktr_room); (case ku => ktr_units); (case h0 => first | omega | (law_clear; (try law_fm); omega)); (intro r n t0 t1 k D h9 tk9 hS F9 N9; (rcases hS with ⟨e1, e2, e3, e4, e5⟩); (try dsimp only); (try k_fold)))))
local macro_rules | `(tactic| walk_at "call ref") => `(tactic| (k_here; ((k_dflt (refine' wgap_cut _ _ _ _ _ _ _ _ ?h0 _ _ _ _ _ _ _ _ _ _ _ _ _ _ _ _ _ _ _ _ _ _ ?k1 ?k2 ?k3 ?k4 ?k5 ?kK ?kd ?ku ?_)); (case k1 => k_asm); (case k2 => k_asm); (case k3 => k_asm); (case k4 => k_asm); (case k5 => k_asm); (case kK => first | exact rfl | assumption); (case kd => ktr_room); (case ku => ktr_units); (case h0 => first | omega | (law_clear; (try law_fm); omega)); (intro r n t0 t1 k D h9 tk9 hS F9 N9; (rcases hS with ⟨e1, e2, e3, e4, e5⟩); (try dsimp only); (try k_fold)))))
theorem turn_cut' (x y : Int) (tx ty : Tok) (hx : (0 ≤ x ∧ x < 4294967296) ∧ 0 ≤ y ∧ y < 4294967296) :
    ∀ (w : World) (mean : ExcName → Option Value) (mg mb : Str → Option Value) (dp un : Nat) (gd : Option (List Code)) (a : Addr) (ccd : Value) (outer : List Env) (A₀ : Around) (base h₀ : Heap) (L : Addr) (m : Str → Option Value) (s : Shared) (Q : Flow → Shared → Prop) (E : Value → Shared → Prop) (news : List (Addr × Obj)),
    Below A₀ base outer h₀ → Fr h₀ L s.heap m → (hd.heap_39 w.params).In h₀ → News h₀ L s.heap news → Top hd.view_39 (looseW hd.view_39 [Str.ofString "flagged"]) mean mg mb h₀ →
    m (Str.ofString "x") = some (.int x tx) → m (Str.ofString "y") = some (.int y ty) →
    dp + 8 < recursionLimit → un + 160 < cLine → (∀ s', Q .next s' → Q .cont s') →
    (∀ (h' : Heap) (tk' : Nat) (U : Str → Option Value), Fr h₀ L h' (fun z => if TN.contains z then U z else m z) → News h₀ L h' news → Q .next { s with heap := h', toks := tk' }) →
      wpAny (model PySem.Challenge.rw_pb0306_01.row.prog w) (ktrTop dp un gd (Str.ofString "law") lawScope.1 L a ccd [] outer) (execs turnBody.1 (envOf (Str.ofString "law") lawScope.1 L a ccd)) Q E s := by
  intro w mean mg mb dp un gd a ccd outer A₀ base h₀ L m s Q E news B F X N T hmx hmy hdp hun hs hret
  refine turn_cut x y tx ty hx w mean mg mb dp un gd a ccd outer A₀ base h₀ L m s Q E news B F X N T hmx hmy hdp hun fun fl h' tk' U hfl F' N' => ?_
  rcases hfl with rfl | rfl
  · exact hret h' tk' U F' N'
  · exact hs _ (hret h' tk' U F' N')
local macro_rules | `(tactic| walk_at "execs cons") => `(tactic| (k_here; (with_reducible show wpAny _ _ (execs (Stmt.Assign [Expr.Name (Str.ofString "made") _] _ _ :: _) _) _ _ _); refine hold ?_))
local macro_rules | `(tactic| walk_at "execs cons") => `(tactic| (k_here; (with_reducible show wpAny _ _ (execs (Stmt.Assign [Expr.Name (Str.ofString "spun") _] _ _ :: _) _) _ _ _); refine hold ?_))
theorem w1 : PySem.Challenge.rw_pb0306_01.Holds := hd (by
  k_go0
  all_goals try k_fold
  k_steps
  unfold Hold
  with_reducible ((k_dflt (refine' turn_cut' _ _ _ _ ?z0h0 _ _ _ _ _ _ _ _ _ _ _ _ _ _ _ _ _ _ _ ?z0k1 ?z0k2 ?z0k3 ?z0k4 ?z0k5 ?z0kx ?z0ky ?z0kd ?z0ku ?z0ks ?_)); (case z0k1 => k_asm); (case z0k2 => first | k_asm | k_dflt assumption); (case z0k3 => k_asm); (case z0k4 => k_asm); (case z0k5 => k_asm); (case z0kx => (first | exact rfl | with_unfolding_all exact rfl)); (case z0ky => (first | exact rfl | with_unfolding_all exact rfl)); (case z0kd => ktr_room); (case z0ku => ktr_units); (case z0h0 => omega); (case z0ks => k_dflt (exact fun _ h => h)); (intro h9 tk9 U F9 N9; (try dsimp only); (try k_fold)))
  k_steps
  unfold Hold
  with_reducible ((k_dflt (refine' turn_cut' _ _ _ _ ?z1h0 _ _ _ _ _ _ _ _ _ _ _ _ _ _ _ _ _ _ _ ?z1k1 ?z1k2 ?z1k3 ?z1k4 ?z1k5 ?z1kx ?z1ky ?z1kd ?z1ku ?z1ks ?_)); (case z1k1 => k_asm); (case z1k2 => first | k_asm | k_dflt assumption); (case z1k3 => k_asm); (case z1k4 => k_asm); (case z1k5 => k_asm); (case z1kx => (first | exact rfl | with_unfolding_all exact rfl)); (case z1ky => (first | exact rfl | with_unfolding_all exact rfl)); (case z1kd => ktr_room); (case z1ku => ktr_units); (case z1h0 => omega); (case z1ks => k_dflt (exact fun _ h => h)); (intro h9 tk9 U F9 N9; (try dsimp only); (try k_fold)))
  k_steps
  unfold Hold
  with_reducible ((k_dflt (refine' turn_cut' _ _ _ _ ?z2h0 _ _ _ _ _ _ _ _ _ _ _ _ _ _ _ _ _ _ _ ?z2k1 ?z2k2 ?z2k3 ?z2k4 ?z2k5 ?z2kx ?z2ky ?z2kd ?z2ku ?z2ks ?_)); (case z2k1 => k_asm); (case z2k2 => first | k_asm | k_dflt assumption); (case z2k3 => k_asm); (case z2k4 => k_asm); (case z2k5 => k_asm); (case z2kx => (first | exact rfl | with_unfolding_all exact rfl)); (case z2ky => (first | exact rfl | with_unfolding_all exact rfl)); (case z2kd => ktr_room); (case z2ku => ktr_units); (case z2h0 => omega); (case z2ks => k_dflt (exact fun _ h => h)); (intro h9 tk9 U F9 N9; (try dsimp only); (try k_fold)))
  k_steps
  unfold Hold
  with_reducible ((k_dflt (refine' turn_cut' _ _ _ _ ?z3h0 _ _ _ _ _ _ _ _ _ _ _ _ _ _ _ _ _ _ _ ?z3k1 ?z3k2 ?z3k3 ?z3k4 ?z3k5 ?z3kx ?z3ky ?z3kd ?z3ku ?z3ks ?_)); (case z3k1 => k_asm); (case z3k2 => first | k_asm | k_dflt assumption); (case z3k3 => k_asm); (case z3k4 => k_asm); (case z3k5 => k_asm); (case z3kx => (first | exact rfl | with_unfolding_all exact rfl)); (case z3ky => (first | exact rfl | with_unfolding_all exact rfl)); (case z3kd => ktr_room); (case z3ku => ktr_units); (case z3h0 => omega); (case z3ks => k_dflt (exact fun _ h => h)); (intro h9 tk9 U F9 N9; (try dsimp only); (try k_fold)))
  k_steps
  unfold Hold
  with_reducible ((k_dflt (refine' tail_cut _ _ _ _ _ _ _ _ _ _ _ _ ?z4h0 _ _ _ _ _ _ _ _ _ _ _ _ _ _ _ _ _ _ ?z4k1 ?z4k2 ?z4k3 ?z4k5 ?z4m1 ?z4m2 ?z4m3 ?z4m4 ?z4m5 ?z4m6 ?z4kd ?z4ku ?_)); (case z4k1 => k_asm); (case z4k2 => first | k_asm | k_dflt assumption); (case z4k3 => k_asm); (case z4k5 => k_asm); (case z4m1 => (first | exact rfl | with_unfolding_all exact rfl)); (case z4m2 => (first | exact rfl | with_unfolding_all exact rfl)); (case z4m3 => (first | exact rfl | with_unfolding_all exact rfl)); (case z4m4 => (first | exact rfl | with_unfolding_all exact rfl)); (case z4m5 => (first | exact rfl | with_unfolding_all exact rfl)); (case z4m6 => (first | exact rfl | with_unfolding_all exact rfl)); (case z4kd => ktr_room); (case z4ku => ktr_units); (case z4h0 => omega); (intro h9 tk9 U F9; (try dsimp only); (try k_fold)))
  k_steps
)
end Mine
theorem PySem.Challenge.cw_pb0306_01_holds : PySem.Challenge.rw_pb0306_01.Holds := by
  exact Mine.w1
