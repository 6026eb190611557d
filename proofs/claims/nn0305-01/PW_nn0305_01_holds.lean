import PyProof.Rows.All
import Wide.All
import OpenK.AllK
import Wide.FinOn
import PySem.Challenge.RW_nn0305_01
open PySem PySem.W PyProof.Rows
set_option Elab.async false
namespace Mine
set_option synthInstance.maxSize 1 in
set_option maxRecDepth 100000 in
set_option maxHeartbeats 8000000 in
open_top hd for PySem.Challenge.rw_nn0305_01
local macro_rules | `(tactic| walk_at $s:str) => `(tactic| k_extra $s)
section
/-! the plain law, part 1: bits of ints -/
theorem band_mask (x : Int) (n : Nat) : Builtin.bitAnd x (2 ^ n - 1) = x % 2 ^ n := by
  have hp : (0 : Int) < 2 ^ n := Int.pow_pos (by decide)
  have hm : (0 : Int) ≤ 2 ^ n - 1 := by omega
  have hn : ((2 : Int) ^ n - 1).toNat = 2 ^ n - 1 := by
    have : ((2 ^ n : Nat) : Int) = (2 : Int) ^ n := by simp
    omega
  by_cases hx : 0 ≤ x
  · rw [bitAnd_pp hx hm, hn, Nat.and_two_pow_sub_one_eq_mod]
    obtain ⟨k, rfl⟩ : ∃ k : Nat, x = k := ⟨x.toNat, by omega⟩
    simp
  · rw [bitAnd_np hx hm, hn, Nat.and_comm, Nat.and_two_pow_sub_one_eq_mod]
    have e : Builtin.bitNot x = -x - 1 := by simp [Builtin.bitNot]; try omega
    rw [e]
    obtain ⟨k, hk⟩ : ∃ k : Nat, -x - 1 = k := ⟨(-x - 1).toNat, by omega⟩
    rw [hk]
    have e2 : x = -(k : Int) - 1 := by omega
    rw [e2]
    simp only [Int.toNat_natCast, Int.natCast_emod, Int.natCast_pow]
    have h1 := Int.emod_add_mul_ediv (k : Int) (2 ^ n)
    have h2 := Int.emod_nonneg (k : Int) (by omega : (2 : Int) ^ n ≠ 0)
    have h3 := Int.emod_lt_of_pos (k : Int) hp
    generalize hq : (k : Int) / 2 ^ n = q at *
    generalize hr : (k : Int) % 2 ^ n = r at *
    have h4 : -(k : Int) - 1 = (2 ^ n - 1 - r) + 2 ^ n * (-q - 1) := by
      rw [← h1, Int.mul_sub, Int.mul_neg]; omega
    rw [h4, Int.add_mul_emod_self_left]
    exact (Int.emod_eq_of_lt (by omega) (by omega)).symm
theorem band_mask1 (x : Int) (n : Nat) : Builtin.bitAnd x (1 * 2 ^ n - 1) = x % 2 ^ n := by rw [Int.one_mul]; exact band_mask x n

end
section

def oV : Option Int → Tok → Value
  | none, _ => .none
  | some i, t => .int i t
def vA (w : Int) : Option Int → Int
  | none => 2 ^ w.toNat - 1
  | some n => n % 2 ^ w.toNat
def vB (w : Int) : Option Int → Int
  | none => 2 ^ w.toNat - 1
  | some _ => 0
abbrev vecO (k x y : Int) (t1 t2 t3 : Tok) : Obj := { cls := .type "tuple", data := .seq #[.int k t1, .int x t2, .int y t3] 0 }
def toInt (k x y : Int) (sg : Bool) : Option Int := if y = 0 then (if sg = true ∧ x.fdiv (2 ^ (k - 1).toNat) = 1 then some (x - 2 ^ k.toNat) else some x) else none
section
variable {h₀ h' : Heap} {L : Addr} {m : Str → Option Value} {news : List (Addr × Obj)} {s : Shared} {Q : Value → Shared → Prop} {t : Tok} {tk' : Nat} {v v' : Int} {b b' : Bool} {o : Option Int}
theorem retI (ret : ∀ t h' tk', Fr h₀ L h' m → News h₀ L h' news → Q (oV o t) { s with heap := h', toks := tk' }) (e : o = some v) (F : Fr h₀ L h' m) (N : News h₀ L h' news) : Q (.int v t) { s with heap := h', toks := tk' } := by
  subst e; exact ret t h' tk' F N
theorem retN (ret : ∀ t h' tk', Fr h₀ L h' m → News h₀ L h' news → Q (oV o t) { s with heap := h', toks := tk' }) (e : o = none) (F : Fr h₀ L h' m) (N : News h₀ L h' news) : Q .none { s with heap := h', toks := tk' } := by
  subst e; exact ret 0 h' tk' F N
theorem retZ (ret : ∀ t h' tk', Fr h₀ L h' m → News h₀ L h' news → Q (.int v t) { s with heap := h', toks := tk' }) (e : v = v') (F : Fr h₀ L h' m) (N : News h₀ L h' news) : Q (.int v' t) { s with heap := h', toks := tk' } := by
  subst e; exact ret t h' tk' F N
theorem retV {k : Int} {o' : Option Int} {r : Addr} {t1 t2 t3 : Tok} (ret : ∀ r t1 t2 t3 h' tk', Fr h₀ L h' m → News h₀ L h' ((r, vecO k (vA k o) (vB k o) t1 t2 t3) :: news) → (∀ p ∈ news, p.1 < r) → Q (.ref r) { s with heap := h', toks := tk' }) (e : o = o')
    (F : Fr h₀ L h' m) (N : News h₀ L h' ((r, vecO k (vA k o') (vB k o') t1 t2 t3) :: news)) (l : ∀ p ∈ news, p.1 < r) : Q (.ref r) { s with heap := h', toks := tk' } := by
  subst e; exact ret r t1 t2 t3 h' tk' F N l
theorem retW {k x y x' y' : Int} {r : Addr} {t1 t2 t3 : Tok} (ret : ∀ r t1 t2 t3 h' tk', Fr h₀ L h' m → News h₀ L h' ((r, vecO k x y t1 t2 t3) :: news) → (∀ p ∈ news, p.1 < r) → Q (.ref r) { s with heap := h', toks := tk' }) (e : x = x') (e2 : y = y')
    (F : Fr h₀ L h' m) (N : News h₀ L h' ((r, vecO k x' y' t1 t2 t3) :: news)) (l : ∀ p ∈ news, p.1 < r) : Q (.ref r) { s with heap := h', toks := tk' } := by
  subst e; subst e2; exact ret r t1 t2 t3 h' tk' F N l
theorem retB (ret : ∀ h' tk', Fr h₀ L h' m → News h₀ L h' news → Q (.bool b) { s with heap := h', toks := tk' }) (e : b = b') (F : Fr h₀ L h' m) (N : News h₀ L h' news) : Q (.bool b') { s with heap := h', toks := tk' } := by
  subst e; exact ret h' tk' F N
end
section
variable {h₀ h : Heap} {L : Addr} {p0 p1 p2 p3 p4 : Addr × Obj} {news : List (Addr × Obj)}
theorem ld1 (N : News h₀ L h (p1 :: news)) : News h₀ L h news := fun p hp => N p (.tail _ hp)
theorem ld2 (N : News h₀ L h (p1 :: p2 :: news)) : News h₀ L h news := ld1 (ld1 N)
theorem ld3 (N : News h₀ L h (p1 :: p2 :: p3 :: news)) : News h₀ L h news := ld2 (ld1 N)
theorem le1 (N : News h₀ L h (p0 :: p1 :: news)) : News h₀ L h (p0 :: news) := fun p hp => by
  rcases List.mem_cons.mp hp with rfl | hp
  · exact N _ (.head _)
  · exact N _ (.tail _ (.tail _ hp))
theorem le2 (N : News h₀ L h (p0 :: p1 :: p2 :: news)) : News h₀ L h (p0 :: news) := le1 (le1 N)
theorem le3 (N : News h₀ L h (p0 :: p1 :: p2 :: p3 :: news)) : News h₀ L h (p0 :: news) := le1 (le1 (le1 N))
theorem le4 (N : News h₀ L h (p0 :: p1 :: p2 :: p3 :: p4 :: news)) : News h₀ L h (p0 :: news) := le1 (le1 (le1 (le1 N)))
end

end
section

def pwo (k : Int) : Option Int → Option Int → Option Int
  | some b, some e => if 0 ≤ e then some (b ^ e.toNat % 2 ^ k.toNat) else if b = 0 then none else if b = 1 then some 1 else if b = -1 then (if e.fmod 2 = 1 then some (-1) else some 1) else some 0
  | _, _ => none
theorem pw_z (k : Int) : vA k (some 0) = 0 := by unfold vA; exact Int.zero_emod _
theorem pw_zb (k n : Int) : vB k (some n) = 0 := rfl
theorem pwo_0 {k b e : Int} (h : ¬ 0 ≤ e) (h0 : b = 0) : pwo k (some b) (some e) = none := by simp only [pwo, if_neg h, if_pos h0]
theorem pwo_p {k b e : Int} (h : 0 ≤ e) : pwo k (some b) (some e) = some (b ^ e.toNat % 2 ^ k.toNat) := by simp only [pwo, if_pos h]
theorem pwo_1 {k b e : Int} (h : ¬ 0 ≤ e) (h0 : ¬ b = 0) (h1 : b = 1) : pwo k (some b) (some e) = some 1 := by simp only [pwo, if_neg h, if_neg h0, if_pos h1]
theorem pwo_m1 {k b e : Int} (h : ¬ 0 ≤ e) (h0 : ¬ b = 0) (h1 : ¬ b = 1) (h2 : b = -1) (h3 : e.fmod 2 = 1) : pwo k (some b) (some e) = some (-1) := by simp only [pwo, if_neg h, if_neg h0, if_neg h1, if_pos h2, if_pos h3]
theorem pwo_m2 {k b e : Int} (h : ¬ 0 ≤ e) (h0 : ¬ b = 0) (h1 : ¬ b = 1) (h2 : b = -1) (h3 : ¬ e.fmod 2 = 1) : pwo k (some b) (some e) = some 1 := by simp only [pwo, if_neg h, if_neg h0, if_neg h1, if_pos h2, if_neg h3]
theorem pwo_n {k b e : Int} (h : ¬ 0 ≤ e) (h0 : ¬ b = 0) (h1 : ¬ b = 1) (h2 : ¬ b = -1) : pwo k (some b) (some e) = some 0 := by simp only [pwo, if_neg h, if_neg h0, if_neg h1, if_neg h2]
theorem pwA {k : Int} {o : Option Int} (h : o = some 0) : vA k o = 0 := by rw [h]; exact pw_z k
theorem pwB {k : Int} {o : Option Int} (h : o = some 0) : vB k o = 0 := by rw [h]; rfl

end
section

theorem pow_emod_l (a m : Int) : ∀ n : Nat, (a % m) ^ n % m = a ^ n % m
  | 0 => by simp
  | n + 1 => by rw [Int.pow_succ, Int.pow_succ, Int.mul_emod, pow_emod_l a m n, Int.emod_emod, ← Int.mul_emod]
theorem pow20 {k : Int} (h0 : 1 ≤ k) (h1 : k ≤ 20) : (2 : Int) ≤ 2 ^ k.toNat ∧ (2 : Int) ^ k.toNat ≤ 1048576 := by
  obtain ⟨n, rfl⟩ : ∃ n : Nat, k = n := ⟨k.toNat, by omega⟩
  have hn : n < 21 := by omega
  have hn0 : 1 ≤ n := by omega
  clear h0 h1
  simp only [Int.toNat_natCast]
  have : ∀ n : Fin 21, 1 ≤ n.val → (2 : Int) ≤ 2 ^ n.val ∧ (2 : Int) ^ n.val ≤ 1048576 := by decide
  exact this ⟨n, hn⟩ hn0
def Rwi (b e M result square rest : Int) : Prop := 0 ≤ result ∧ result < M ∧ 0 ≤ square ∧ square < M ∧ (result * square ^ rest.toNat) % M = b ^ e.toNat % M
theorem rwi_lt {b e M r s q : Int} (h : Rwi b e M r s q) (hM : M ≤ 1048576) : 0 ≤ r ∧ r < 1048576 ∧ 0 ≤ s ∧ s < 1048576 := by
  obtain ⟨h1, h2, h3, h4, _⟩ := h; omega
theorem rwi_start {b e M : Int} (hM : 2 ≤ M) : Rwi b e M 1 (b % M) e :=
  ⟨by omega, by omega, Int.emod_nonneg _ (by omega), Int.emod_lt_of_pos _ (by omega), by rw [Int.one_mul, pow_emod_l]⟩
theorem half_odd {q : Int} (h0 : 0 < q) (h1 : q % 2 = 1) : q.toNat = 2 * (q.fdiv 2).toNat + 1 := by
  rw [Int.fdiv_eq_ediv_of_nonneg _ (by decide)]; omega
theorem half_even {q : Int} (h0 : 0 < q) (h1 : ¬ q % 2 = 1) : q.toNat = 2 * (q.fdiv 2).toNat := by
  rw [Int.fdiv_eq_ediv_of_nonneg _ (by decide)]; omega
theorem rwi_odd {b e M r s q : Int} (hM : 2 ≤ M) (h : Rwi b e M r s q) (h0 : 0 < q) (h1 : q % 2 = 1) : Rwi b e M (r * s % M) (s * s % M) (q.fdiv 2) := by
  obtain ⟨_, _, _, _, he⟩ := h
  refine ⟨Int.emod_nonneg _ (by omega), Int.emod_lt_of_pos _ (by omega), Int.emod_nonneg _ (by omega), Int.emod_lt_of_pos _ (by omega), ?_⟩
  rw [← he, half_odd h0 h1]
  generalize (q.fdiv 2).toNat = n
  rw [Int.mul_emod, pow_emod_l, Int.emod_emod, ← Int.mul_emod, Int.pow_succ, Int.pow_mul]
  congr 1
  have : s ^ 2 = s * s := by rw [Int.pow_succ, Int.pow_succ, Int.pow_zero, Int.one_mul]
  rw [this, Int.mul_assoc, Int.mul_comm s]
theorem rwi_even {b e M r s q : Int} (hM : 2 ≤ M) (h : Rwi b e M r s q) (h0 : 0 < q) (h1 : ¬ q % 2 = 1) : Rwi b e M r (s * s % M) (q.fdiv 2) := by
  obtain ⟨a1, a2, _, _, he⟩ := h
  refine ⟨a1, a2, Int.emod_nonneg _ (by omega), Int.emod_lt_of_pos _ (by omega), ?_⟩
  rw [← he, half_even h0 h1]
  generalize (q.fdiv 2).toNat = n
  rw [Int.mul_emod, pow_emod_l, ← Int.mul_emod, Int.pow_mul]
  have : s ^ 2 = s * s := by rw [Int.pow_succ, Int.pow_succ, Int.pow_zero, Int.one_mul]
  rw [this]
theorem rwi_end {b e M r s q : Int} (h : Rwi b e M r s q) (h0 : q = 0) : b ^ e.toNat % M = r := by
  obtain ⟨a1, a2, _, _, he⟩ := h
  subst h0
  rw [← he]
  simp only [Int.toNat_zero, Int.pow_zero, Int.mul_one]
  exact Int.emod_eq_of_lt a1 a2
theorem w_fdiv1 (q : Int) : q.fdiv (2 ^ Int.toNat 1) = q.fdiv 2 := rfl
theorem w_half {q : Int} (h0 : 0 < q) (h4 : q ≤ 4096) : 0 ≤ q.fdiv 2 ∧ q.fdiv 2 ≤ 4096 ∧ (q.fdiv 2).toNat < q.toNat := by
  rw [Int.fdiv_eq_ediv_of_nonneg _ (by decide)]; omega
theorem w_start {b e : Int} {n : Nat} (hM1 : (2 : Int) ≤ 2 ^ n) (hM2 : (2 : Int) ^ n ≤ 1048576) (e0 : 0 ≤ e) (e1 : e ≤ 4096) :
    0 ≤ e ∧ e ≤ 4096 ∧ (0 : Int) ≤ 1 ∧ (1 : Int) < 1048576 ∧ 0 ≤ Builtin.bitAnd b (2 ^ n - 1) ∧ Builtin.bitAnd b (2 ^ n - 1) < 1048576 ∧ Rwi b e (2 ^ n) 1 (Builtin.bitAnd b (2 ^ n - 1)) e := by
  rw [band_mask]
  have h := rwi_start (b := b) (e := e) hM1
  have h2 := rwi_lt h hM2
  exact ⟨e0, e1, by decide, by decide, h2.2.2.1, h2.2.2.2, h⟩
theorem w_odd {b e r s q : Int} {n : Nat} (hM1 : (2 : Int) ≤ 2 ^ n) (hM2 : (2 : Int) ^ n ≤ 1048576) (h : Rwi b e (2 ^ n) r s q) (h0 : 0 < q) (h4 : q ≤ 4096) (h1 : Builtin.bitAnd q 1 = 1) :
    0 ≤ q.fdiv (2 ^ Int.toNat 1) ∧ q.fdiv (2 ^ Int.toNat 1) ≤ 4096 ∧ 0 ≤ Builtin.bitAnd (r * s) (2 ^ n - 1) ∧ Builtin.bitAnd (r * s) (2 ^ n - 1) < 1048576 ∧ 0 ≤ Builtin.bitAnd (s * s) (2 ^ n - 1) ∧ Builtin.bitAnd (s * s) (2 ^ n - 1) < 1048576 ∧
      Rwi b e (2 ^ n) (Builtin.bitAnd (r * s) (2 ^ n - 1)) (Builtin.bitAnd (s * s) (2 ^ n - 1)) (q.fdiv (2 ^ Int.toNat 1)) := by
  rw [w_fdiv1, band_mask, band_mask]
  have a := w_half h0 h4
  rw [bitAnd_m1] at h1
  have b := rwi_odd hM1 h h0 h1
  have c := rwi_lt b hM2
  exact ⟨a.1, a.2.1, c.1, c.2.1, c.2.2.1, c.2.2.2, b⟩
theorem w_even {b e r s q : Int} {n : Nat} (hM1 : (2 : Int) ≤ 2 ^ n) (hM2 : (2 : Int) ^ n ≤ 1048576) (h : Rwi b e (2 ^ n) r s q) (h0 : 0 < q) (h4 : q ≤ 4096) (h1 : ¬ Builtin.bitAnd q 1 = 1) :
    0 ≤ q.fdiv (2 ^ Int.toNat 1) ∧ q.fdiv (2 ^ Int.toNat 1) ≤ 4096 ∧ 0 ≤ r ∧ r < 1048576 ∧ 0 ≤ Builtin.bitAnd (s * s) (2 ^ n - 1) ∧ Builtin.bitAnd (s * s) (2 ^ n - 1) < 1048576 ∧
      Rwi b e (2 ^ n) r (Builtin.bitAnd (s * s) (2 ^ n - 1)) (q.fdiv (2 ^ Int.toNat 1)) := by
  rw [w_fdiv1, band_mask]
  have a := w_half h0 h4
  rw [bitAnd_m1] at h1
  have b := rwi_even hM1 h h0 h1
  have c := rwi_lt b hM2
  exact ⟨a.1, a.2.1, c.1, c.2.1, c.2.2.1, c.2.2.2, b⟩

end
section

def slO (k a c z : Int) : Int := if z = 0 then (if k ≤ c then 0 else a * 2 ^ c.toNat % 2 ^ k.toNat) else 2 ^ k.toNat - 1
def srO (k a c z : Int) : Int := if z = 0 then (if k ≤ c then 0 else a.fdiv (2 ^ c.toNat)) else 2 ^ k.toNat - 1
def saO (k a c z : Int) (sg : Bool) : Int := if sg = true ∧ z = 0 then (if k ≤ c then (if a.fdiv (2 ^ (k - 1).toNat) % 2 = 1 then 2 ^ k.toNat - 1 else 0) else a.fdiv (2 ^ c.toNat) + (if a.fdiv (2 ^ (k - 1).toNat) % 2 = 1 then 2 ^ k.toNat - 2 ^ (k - c).toNat else 0)) else srO k a c z
section
variable {k a c z : Int}
theorem sl_z0 (h : z = 0) (h2 : k ≤ c) : slO k a c z = 0 := by unfold slO; rw [if_pos h, if_pos h2]
theorem sl_n0 (h : z = 0) (h2 : ¬ k ≤ c) : slO k a c z = a * 2 ^ c.toNat % 2 ^ k.toNat := by unfold slO; rw [if_pos h, if_neg h2]
theorem sl_x (h : ¬ z = 0) : slO k a c z = 2 ^ k.toNat - 1 := by unfold slO; rw [if_neg h]
theorem sr_z0 (h : z = 0) (h2 : k ≤ c) : srO k a c z = 0 := by unfold srO; rw [if_pos h, if_pos h2]
theorem sr_n0 (h : z = 0) (h2 : ¬ k ≤ c) : srO k a c z = a.fdiv (2 ^ c.toNat) := by unfold srO; rw [if_pos h, if_neg h2]
theorem sr_x (h : ¬ z = 0) : srO k a c z = 2 ^ k.toNat - 1 := by unfold srO; rw [if_neg h]
end

end
section

theorem and_hi {a : Nat} {m c : Nat} (h1 : a < 2 ^ m) : a &&& (2 ^ m * c) = 0 := by
  apply Nat.eq_of_testBit_eq
  intro i
  rw [Nat.testBit_and, Nat.testBit_two_pow_mul, Nat.zero_testBit]
  by_cases h : m ≤ i
  · rw [Nat.testBit_lt_two_pow (Nat.lt_of_lt_of_le h1 (Nat.pow_le_pow_right (by decide) h)), Bool.false_and]
  · simp [h]
theorem ipow_le {m k : Nat} (h : m ≤ k) : (2 : Int) ^ m ≤ 2 ^ k := by
  have : 2 ^ m ≤ 2 ^ k := Nat.pow_le_pow_right (by decide) h
  exact_mod_cast this
theorem ipow_pos (m : Nat) : (0 : Int) < 2 ^ m := Int.pow_pos (by decide)
theorem xor_masks {k m : Nat} (h : m ≤ k) : Builtin.bitXor (2 ^ k - 1) (2 ^ m - 1) = 2 ^ k - 2 ^ m := by
  rw [bitXor_and, band_mask]
  obtain ⟨d, rfl⟩ : ∃ d, k = m + d := ⟨k - m, by omega⟩
  have e : ((2 : Int) ^ (m + d) - 1) = (2 ^ m - 1) + 2 ^ m * (2 ^ d - 1) := by
    rw [Int.pow_add, Int.mul_sub, Int.mul_one]; omega
  have e2 : ((2 : Int) ^ (m + d) - 1) % 2 ^ m = 2 ^ m - 1 := by
    rw [e, Int.add_mul_emod_self_left]
    have := ipow_pos m
    exact Int.emod_eq_of_lt (by omega) (by omega)
  rw [e2]; omega
theorem or_fill {a : Int} {k m : Nat} (h0 : 0 ≤ a) (h1 : a < 2 ^ m) (hm : m ≤ k) : Builtin.bitOr a (Builtin.bitXor (2 ^ k - 1) (2 ^ m - 1)) = a + (2 ^ k - 2 ^ m) := by
  rw [xor_masks hm, bitOr_and]
  have hle := ipow_le hm
  obtain ⟨n, rfl⟩ : ∃ n : Nat, a = n := ⟨a.toNat, by omega⟩
  obtain ⟨d, rfl⟩ : ∃ d, k = m + d := ⟨k - m, by omega⟩
  have hd : (1 : Nat) ≤ 2 ^ d := Nat.one_le_two_pow
  have e : ((2 : Int) ^ (m + d) - 2 ^ m) = ((2 ^ m * (2 ^ d - 1) : Nat) : Int) := by
    rw [Nat.mul_sub, Nat.mul_one, ← Nat.pow_add, Int.natCast_sub (Nat.pow_le_pow_right (by decide) hm)]; simp
  rw [e, bitAnd_pp h0 (by omega)]
  have : n < 2 ^ m := by exact_mod_cast h1
  simp only [Int.toNat_natCast, and_hi this]
  omega
theorem fdiv_lt {a : Int} {k c : Nat} (h0 : 0 ≤ a) (h1 : a < 2 ^ k) (hc : c ≤ k) : 0 ≤ a.fdiv (2 ^ c) ∧ a.fdiv (2 ^ c) < 2 ^ (k - c) := by
  have hp := ipow_pos c
  rw [Int.fdiv_eq_ediv_of_nonneg _ (Int.le_of_lt hp)]
  refine ⟨Int.ediv_nonneg h0 (Int.le_of_lt hp), Int.ediv_lt_of_lt_mul hp ?_⟩
  rw [← Int.pow_add]
  rwa [Nat.sub_add_cancel hc]
theorem sa_key {k a c : Int} (h0 : 0 ≤ a) (h1 : a < 2 ^ k.toNat) (hk : 1 ≤ k) (hc : 0 ≤ c) (f : Int) (hf : f = if a.fdiv (2 ^ (k - 1).toNat) % 2 = 1 then Builtin.bitXor (2 ^ k.toNat - 1) (2 ^ (k - if k < c then k else c).toNat - 1) else 0) :
    Builtin.bitOr (a.fdiv (2 ^ (if k < c then k else c).toNat)) f = saO k a c 0 true := by
  have hcc : ∃ e : Nat, (if k < c then k else c) = e ∧ e ≤ k.toNat ∧ (k ≤ c → e = k.toNat) ∧ (¬ k ≤ c → (e : Int) = c) := by
    refine ⟨(if k < c then k else c).toNat, ?_⟩
    split <;> omega
  obtain ⟨e, he, hek, hx1, hx2⟩ := hcc
  have hke : (k - (e : Int)).toNat = k.toNat - e := by omega
  rw [he] at hf ⊢
  rw [hke] at hf
  simp only [Int.toNat_natCast]
  have hq := fdiv_lt h0 h1 hek
  unfold saO
  rw [if_pos ⟨rfl, rfl⟩]
  by_cases ht : a.fdiv (2 ^ (k - 1).toNat) % 2 = 1
  · rw [if_pos ht] at hf
    rw [if_pos ht, hf, or_fill hq.1 hq.2 (by omega)]
    by_cases hkc : k ≤ c
    · rw [if_pos hkc]
      have := hx1 hkc
      subst this
      rw [Nat.sub_self] at hq ⊢
      simp only [Int.pow_zero] at hq ⊢
      omega
    · rw [if_neg hkc, if_pos ht]
      have := hx2 hkc
      have hc2 : c.toNat = e := by omega
      have hc3 : (k - c).toNat = k.toNat - e := by omega
      rw [hc2, hc3]
  · rw [if_neg ht] at hf
    rw [if_neg ht, hf, bitOr_and, bitAnd_zero]
    by_cases hkc : k ≤ c
    · rw [if_pos hkc]
      have := hx1 hkc
      subst this
      rw [Nat.sub_self] at hq
      simp only [Int.pow_zero] at hq
      omega
    · rw [if_neg hkc, if_neg ht]
      have := hx2 hkc
      have hc2 : c.toNat = e := by omega
      rw [hc2]; omega
theorem top1 (x y : Int) : Builtin.bitAnd (x % 2 + 2 * (y % 2)) 1 = x % 2 := by rw [bitAnd_m1]; omega
theorem top2 (x y : Int) : Builtin.bitAnd (x % 2 + 2 * (y % 2)) 2 = 2 * (y % 2) := by
  rcases Int.emod_two_eq x with h | h <;> rcases Int.emod_two_eq y with h2 | h2 <;> rw [h, h2] <;> decide
section
variable {k x y c z : Int} {p q : Int}
theorem saA1 (h0 : 0 ≤ x) (h1 : x < 2 ^ k.toNat) (hk : 1 ≤ k) (hc : 0 ≤ c) (hz : z = 0) (ht : Builtin.bitAnd (x.fdiv (2 ^ (k - 1).toNat) % 2 + 2 * (y % 2)) 1 = 1) :
    saO k x c z true = Builtin.bitOr (x.fdiv (2 ^ (if k < c then k else c).toNat)) (Builtin.bitXor (2 ^ k.toNat - 1) (2 ^ (k - if k < c then k else c).toNat - 1)) := by
  subst hz; rw [top1] at ht
  exact (sa_key h0 h1 hk hc _ (by rw [if_pos ht])).symm
theorem saA0 (h0 : 0 ≤ x) (h1 : x < 2 ^ k.toNat) (hk : 1 ≤ k) (hc : 0 ≤ c) (hz : z = 0) (ht : ¬ Builtin.bitAnd (x.fdiv (2 ^ (k - 1).toNat) % 2 + 2 * (y % 2)) 1 = 1) :
    saO k x c z true = Builtin.bitOr (x.fdiv (2 ^ (if k < c then k else c).toNat)) 0 := by
  subst hz; rw [top1] at ht
  exact (sa_key h0 h1 hk hc _ (by rw [if_neg ht])).symm
theorem saB1 (h0 : 0 ≤ y) (h1 : y < 2 ^ k.toNat) (hk : 1 ≤ k) (hc : 0 ≤ c) (hz : z = 0) (ht : Builtin.bitAnd (x % 2 + 2 * (y.fdiv (2 ^ (k - 1).toNat) % 2)) 2 = 2) :
    saO k y c z true = Builtin.bitOr (y.fdiv (2 ^ (if k < c then k else c).toNat)) (Builtin.bitXor (2 ^ k.toNat - 1) (2 ^ (k - if k < c then k else c).toNat - 1)) := by
  subst hz; rw [top2] at ht
  exact (sa_key h0 h1 hk hc _ (by rw [if_pos (show y.fdiv (2 ^ (k - 1).toNat) % 2 = 1 by omega)])).symm
theorem saB0 (h0 : 0 ≤ y) (h1 : y < 2 ^ k.toNat) (hk : 1 ≤ k) (hc : 0 ≤ c) (hz : z = 0) (ht : ¬ Builtin.bitAnd (x % 2 + 2 * (y.fdiv (2 ^ (k - 1).toNat) % 2)) 2 = 2) :
    saO k y c z true = Builtin.bitOr (y.fdiv (2 ^ (if k < c then k else c).toNat)) 0 := by
  subst hz; rw [top2] at ht
  exact (sa_key h0 h1 hk hc _ (by rw [if_neg (show ¬ y.fdiv (2 ^ (k - 1).toNat) % 2 = 1 by omega)])).symm
theorem saN (hz : ¬ z = 0) : saO k x c z true = srO k x c z := by unfold saO; rw [if_neg (fun h => hz h.2)]
theorem saF : saO k x c z false = srO k x c z := by unfold saO; rw [if_neg (fun h => by cases h.1)]
end

end
section

@[irreducible] def RowB (row : List Int) : Prop := ∀ x ∈ row, 0 ≤ x ∧ x < 1024
theorem rowb_nil : RowB [] := by unfold RowB; simp
theorem rowb_push {row : List Int} {x : Int} (h : RowB row) : RowB (row ++ [Int.fmod x 1024]) := by
  unfold RowB at *
  intro y hy
  rcases List.mem_append.mp hy with hy | hy
  · exact h y hy
  · rw [List.mem_singleton.mp hy]
    exact ⟨Int.fmod_nonneg_of_pos x (by decide), Int.fmod_lt_of_pos x (by decide)⟩
theorem rowb_take {row : List Int} (k : Nat) (h : RowB row) : RowB (row.take k) := by
  unfold RowB at *
  exact fun y hy => h y (List.mem_of_mem_take hy)
theorem rowb_reverse {row : List Int} (h : RowB row) : RowB row.reverse := by
  unfold RowB at *
  exact fun y hy => h y (by simpa using hy)
theorem rowb_at {row : List Int} {x : Int} (h : RowB row) (hx : x ∈ row) : 0 ≤ x ∧ x < 1024 := by
  unfold RowB at h; exact h x hx
theorem rowb_sub {row row' : List Int} (h : RowB row) (hs : ∀ x ∈ row', x ∈ row) : RowB row' := by
  unfold RowB at *
  exact fun y hy => h y (hs y hy)
theorem fdiv_pos1024 {x : Int} (h : 0 ≤ x) : 0 ≤ x.fdiv 1024 := Int.fdiv_nonneg h (by decide)
theorem lr_in0 {r : List Int} : r.length ≤ r.length + ([] : List Int).length := by simp
theorem lr_in1 {r r0 pre : List Int} {x k : Int} (h : r.length ≤ r0.length + pre.length) : (r ++ [x]).length ≤ r0.length + (pre ++ [k]).length := by simp; omega
theorem lr_in2 {r r0 pre : List Int} {k : Int} (h : r.length ≤ r0.length + pre.length) : r.length ≤ r0.length + (pre ++ [k]).length := by simp; omega
theorem lr_out {r2 r4 pre : List Int} {x n : Int} (h1 : r2.length ≤ (r4 ++ [x]).length + (rangeKs 0 30).length) (h2 : r4.length ≤ 31 * pre.length) : r2.length ≤ 31 * (pre ++ [n]).length := by
  simp [rangeKs_length] at *; omega
section
variable {h₀ h : Heap} {L : Addr} {p0 p1 p2 p3 p4 p5 p6 p7 p8 p9 p10 p11 p12 p13 p14 : Addr × Obj} {news : List (Addr × Obj)}
theorem rotA {l : List (Addr × Obj)} {p : Addr × Obj} (N : News h₀ L h (l ++ p :: news)) : News h₀ L h (p :: (l ++ news)) := fun q hq => N q (by
  rcases List.mem_cons.mp hq with h | h
  · subst h; exact List.mem_append_right _ (.head _)
  · rcases List.mem_append.mp h with h | h
    · exact List.mem_append_left _ h
    · exact List.mem_append_right _ (.tail _ h))
theorem rot1 (N : News h₀ L h (p0 :: p1 :: news)) : News h₀ L h (p1 :: p0 :: news) := rotA (l := [p0]) N
theorem rot2 (N : News h₀ L h (p0 :: p1 :: p2 :: news)) : News h₀ L h (p2 :: p0 :: p1 :: news) := rotA (l := [p0, p1]) N
theorem rot3 (N : News h₀ L h (p0 :: p1 :: p2 :: p3 :: news)) : News h₀ L h (p3 :: p0 :: p1 :: p2 :: news) := rotA (l := [p0, p1, p2]) N
theorem rot4 (N : News h₀ L h (p0 :: p1 :: p2 :: p3 :: p4 :: news)) : News h₀ L h (p4 :: p0 :: p1 :: p2 :: p3 :: news) := rotA (l := [p0, p1, p2, p3]) N
theorem rot5 (N : News h₀ L h (p0 :: p1 :: p2 :: p3 :: p4 :: p5 :: news)) : News h₀ L h (p5 :: p0 :: p1 :: p2 :: p3 :: p4 :: news) := rotA (l := [p0, p1, p2, p3, p4]) N
theorem rot6 (N : News h₀ L h (p0 :: p1 :: p2 :: p3 :: p4 :: p5 :: p6 :: news)) : News h₀ L h (p6 :: p0 :: p1 :: p2 :: p3 :: p4 :: p5 :: news) := rotA (l := [p0, p1, p2, p3, p4, p5]) N
theorem rot7 (N : News h₀ L h (p0 :: p1 :: p2 :: p3 :: p4 :: p5 :: p6 :: p7 :: news)) : News h₀ L h (p7 :: p0 :: p1 :: p2 :: p3 :: p4 :: p5 :: p6 :: news) := rotA (l := [p0, p1, p2, p3, p4, p5, p6]) N
theorem rot8 (N : News h₀ L h (p0 :: p1 :: p2 :: p3 :: p4 :: p5 :: p6 :: p7 :: p8 :: news)) : News h₀ L h (p8 :: p0 :: p1 :: p2 :: p3 :: p4 :: p5 :: p6 :: p7 :: news) := rotA (l := [p0, p1, p2, p3, p4, p5, p6, p7]) N
theorem rot9 (N : News h₀ L h (p0 :: p1 :: p2 :: p3 :: p4 :: p5 :: p6 :: p7 :: p8 :: p9 :: news)) : News h₀ L h (p9 :: p0 :: p1 :: p2 :: p3 :: p4 :: p5 :: p6 :: p7 :: p8 :: news) := rotA (l := [p0, p1, p2, p3, p4, p5, p6, p7, p8]) N
theorem rot10 (N : News h₀ L h (p0 :: p1 :: p2 :: p3 :: p4 :: p5 :: p6 :: p7 :: p8 :: p9 :: p10 :: news)) : News h₀ L h (p10 :: p0 :: p1 :: p2 :: p3 :: p4 :: p5 :: p6 :: p7 :: p8 :: p9 :: news) := rotA (l := [p0, p1, p2, p3, p4, p5, p6, p7, p8, p9]) N
theorem rot11 (N : News h₀ L h (p0 :: p1 :: p2 :: p3 :: p4 :: p5 :: p6 :: p7 :: p8 :: p9 :: p10 :: p11 :: news)) : News h₀ L h (p11 :: p0 :: p1 :: p2 :: p3 :: p4 :: p5 :: p6 :: p7 :: p8 :: p9 :: p10 :: news) := rotA (l := [p0, p1, p2, p3, p4, p5, p6, p7, p8, p9, p10]) N
theorem rot12 (N : News h₀ L h (p0 :: p1 :: p2 :: p3 :: p4 :: p5 :: p6 :: p7 :: p8 :: p9 :: p10 :: p11 :: p12 :: news)) : News h₀ L h (p12 :: p0 :: p1 :: p2 :: p3 :: p4 :: p5 :: p6 :: p7 :: p8 :: p9 :: p10 :: p11 :: news) := rotA (l := [p0, p1, p2, p3, p4, p5, p6, p7, p8, p9, p10, p11]) N
theorem rot13 (N : News h₀ L h (p0 :: p1 :: p2 :: p3 :: p4 :: p5 :: p6 :: p7 :: p8 :: p9 :: p10 :: p11 :: p12 :: p13 :: news)) : News h₀ L h (p13 :: p0 :: p1 :: p2 :: p3 :: p4 :: p5 :: p6 :: p7 :: p8 :: p9 :: p10 :: p11 :: p12 :: news) := rotA (l := [p0, p1, p2, p3, p4, p5, p6, p7, p8, p9, p10, p11, p12]) N
theorem rot14 (N : News h₀ L h (p0 :: p1 :: p2 :: p3 :: p4 :: p5 :: p6 :: p7 :: p8 :: p9 :: p10 :: p11 :: p12 :: p13 :: p14 :: news)) : News h₀ L h (p14 :: p0 :: p1 :: p2 :: p3 :: p4 :: p5 :: p6 :: p7 :: p8 :: p9 :: p10 :: p11 :: p12 :: p13 :: news) := rotA (l := [p0, p1, p2, p3, p4, p5, p6, p7, p8, p9, p10, p11, p12, p13]) N
end
theorem allLt_ne {d c : Addr} {l : List (Addr × Obj)} (h : AllLt d l) (e : @LE.le Nat _ d c) : ∀ p ∈ l, p.1 ≠ c := fun p hp => Nat.ne_of_lt (Nat.lt_of_lt_of_le (ktn_ltOf h p hp) e)
theorem hne_cons {p : Addr × Obj} {l : List (Addr × Obj)} {r : Addr} (h : p.1 ≠ r) (h2 : ∀ q ∈ l, q.1 ≠ r) : ∀ q ∈ p :: l, q.1 ≠ r := List.forall_mem_cons.mpr ⟨h, h2⟩
theorem hne_app {l l' : List (Addr × Obj)} {r : Addr} (h : ∀ q ∈ l, q.1 ≠ r) (h2 : ∀ q ∈ l', q.1 ≠ r) : ∀ q ∈ l ++ l', q.1 ≠ r := List.forall_mem_append.mpr ⟨h, h2⟩
theorem gen_push1 {h₀ h : Heap} {L l : Addr} {p : Addr × Obj} {us : List Value} {k : Int} {t : Tok} {n : Nat} {rest : List (Addr × Obj)} {ns : List Int} (N : News h₀ L h (p :: (l, W.listOf (us.toArray.push (.int k t)) n) :: rest)) (hi : IntsAre us ns) :
    ∃ us', IntsAre us' (ns ++ [k]) ∧ News h₀ L h (p :: (l, W.listOf us'.toArray n) :: rest) := by
  refine ⟨us ++ [.int k t], IntsAre.append hi (.cons _ _ .nil), ?_⟩
  rw [List.push_toArray] at N
  exact N
theorem pop_ne {vs : List Value} {ns : List Int} (hi : IntsAre vs ns) (h : decide (ns = []) = false) : 0 < vs.length := by
  have e := IntsAre.length hi
  cases ns with
  | nil => simp at h
  | cons a r => simp at e; omega
theorem ints_room {vs : List Value} {ns : List Int} (hi : IntsAre vs ns) (h : ns.length ≤ 4000) : vs.length ≤ sizeLine := by
  rw [PySem.sizeLine_eq]; have e := IntsAre.length hi; omega
theorem getLastD_mem {ns : List Int} (h : decide (ns = []) = false) : ns.getLastD 0 ∈ ns := by
  have hn : ns ≠ [] := of_decide_eq_false h
  rw [List.getLastD_eq_getLast?, List.getLast?_eq_some_getLast hn]
  exact List.getLast_mem hn
theorem rowb_last {ns : List Int} (hb : RowB ns) (h : decide (ns = []) = false) : 0 ≤ ns.getLastD 0 ∧ ns.getLastD 0 < 1024 := rowb_at hb (getLastD_mem h)
theorem rowb_drop {ns : List Int} (hb : RowB ns) : RowB ns.dropLast := rowb_sub hb fun _ h => List.dropLast_subset _ h
theorem len_drop {ns : List Int} (h : ns.length ≤ 160) : ns.dropLast.length ≤ 160 := by simp; omega

end
section
variable {w : World} {mean : ExcName → Option Value} {mg mb : Str → Option Value} {dp un : Nat} {gd : Option (List Code)} {cn : Str} {cs : Scope} {a : Addr} {ccd : Value} {cl : List (Str × Addr)} {outer : List Env} {A₀ : Around} {base h₀ : Heap} {L : Addr} {m : Str → Option Value} {news : List (Addr × Obj)} {s : Shared} {Q E : Value → Shared → Prop}

local macro_rules | `(tactic| k_all) => `(tactic| assumption)
set_option maxRecDepth 100000 in
set_option maxHeartbeats 4000000 in
theorem law_next_spec {r : Addr} {vs : List Value} {ns : List Int} {n0 : Nat} (B : Below A₀ base outer h₀) (F : Fr h₀ L s.heap m) (X : (hd.heap_39 w.params).In h₀) (N : News h₀ L s.heap ((r, W.listOf vs.toArray n0) :: news)) (T : Top hd.view_39 (looseW hd.view_39 []) mean mg mb h₀) (hk : cs.kind = .function)
   (hd : dp + 2 < recursionLimit) (hu : un + 100 < cLine) (hi : IntsAre vs ns) (hb : RowB ns) (hl : ns.length ≤ 160) (hne : ∀ p ∈ news, p.1 ≠ r)
   (ret : ∀ v t vs' ns' n' h' tk', Fr h₀ L h' m → News h₀ L h' ((r, W.listOf (List.toArray vs') n') :: news) → IntsAre vs' ns' → RowB ns' → ns'.length ≤ 160 → 0 ≤ v → v < 1024 → Q (.int v t) { s with heap := h', toks := tk' }) :
   wpAny (model (PySem.Challenge.rw_nn0305_01.row.prog) w) (ktrTop dp un gd cn cs L a ccd cl outer) (call (.ref 196) [.ref r]) Q E s := by
  w_top off
  revert X
  k_fill
  intro X
  k_with_none
  k_with "compareOp NotEq ref ref" => ((k_here; (with_reducible show wpAny _ _ (compareOp CmpOp.NotEq (Value.ref _) (Value.ref _)) _ _ _); k_dflt (refine ke_ne_ints (by is_list) (by is_list) (by l_ints) (by l_ints) (by ktr_units) ?_); ke_norm))
  k_with "call builtin:list.pop" => ((k_here; (with_reducible show wpAny _ _ (call (Value.builtin _) [Value.ref _]) _ _ _); k_dflt (refine' kpa_pop ?_ ?_ ?_ ?_ ?_ ?_ ?_; rotate_right 7; (· k_asm); (· k_asm); (· k_upd); (· with_reducible assumption); (· exact pop_ne (by assumption) (by assumption)); (· exact ints_room (by assumption) (by omega))); (intro h' t' F' N' hI'; (try dsimp only [List.nil_append, List.cons_append] at N'))))
  all_goals refine wpAny_call ?_
  all_goals (k_dflt cell_enter)
  all_goals k_steps
  · exact ret _ _ _ _ _ _ _ (by assumption) (ld1 (by assumption)) hi hb hl (by decide) (by decide)
  · (rename decide _ = false => hq)
    have hx := rowb_last hb hq
    exact ret _ _ _ _ _ _ _ (by assumption) (ld1 (by assumption)) (by assumption) (rowb_drop hb) (len_drop hl) hx.1 hx.2

end
section

theorem off1_of {d : Addr} : ∀ {l : List (Addr × Obj)}, AllLt d l → LCg.Off1 d l
  | [], _ => trivial
  | p :: r, h => ⟨Nat.ne_of_lt h.1, off1_of h.2⟩
theorem off1_all {d : Addr} : ∀ {l : List (Addr × Obj)}, LCg.Off1 d l → ∀ p ∈ l, p.1 ≠ d
  | [], _, _, hp => nomatch hp
  | q :: r, h, p, hp => by
    rcases List.mem_cons.mp hp with e | e
    · subst e; exact h.1
    · exact off1_all h.2 p e
theorem pick2 {h₀ h : Heap} {L : Addr} {p1 p2 : Addr × Obj} {l news : List (Addr × Obj)} (N : News h₀ L h l) (h1 : p1 ∈ l) (h2 : p2 ∈ l) (h3 : ∀ p ∈ news, p ∈ l) : News h₀ L h (p1 :: p2 :: news) := fun p hp => N p (by
  rcases List.mem_cons.mp hp with e | hp
  · exact e ▸ h1
  · rcases List.mem_cons.mp hp with e | hp
    · exact e ▸ h2
    · exact h3 p hp)
theorem len_rep (n : Nat) (c : Int) : (List.replicate n [c]).flatten.length = n := by simp
theorem flat_rep (n : Nat) (c : Int) : (List.replicate n [c]).flatten = List.replicate n c := by
  induction n with
  | zero => rfl
  | succ n ih => rw [List.replicate_succ, List.flatten_cons, ih]; rfl
@[irreducible] def BitB (bits : List Int) : Prop := ∀ x ∈ bits, 0 ≤ x ∧ x < 4
theorem bitb_nil : BitB [] := by unfold BitB; simp
theorem bitb_at {bits : List Int} {x : Int} (h : BitB bits) (hx : x ∈ bits) : 0 ≤ x ∧ x < 4 := by
  unfold BitB at h; exact h x hx
theorem bitb_of {bits : List Int} (h : ∀ x ∈ bits, 0 ≤ x ∧ x < 4) : BitB bits := by unfold BitB; exact h
theorem bitb_push {bits : List Int} {x : Int} (h : BitB bits) : BitB (bits ++ [Int.fmod x 4]) := by
  refine bitb_of fun y hy => ?_
  rcases List.mem_append.mp hy with hy | hy
  · exact bitb_at h hy
  · rw [List.mem_singleton.mp hy]
    exact ⟨Int.fmod_nonneg_of_pos x (by decide), Int.fmod_lt_of_pos x (by decide)⟩
theorem bitb_take {bits : List Int} (k : Nat) (h : BitB bits) : BitB (bits.take k) := bitb_of fun y hy => bitb_at h (List.mem_of_mem_take hy)
theorem bitb_rep {n : Nat} {c : Int} (h : 0 ≤ c ∧ c < 4) : BitB (List.replicate n [c]).flatten := by
  rw [flat_rep]; exact bitb_of fun y hy => by rw [List.eq_of_mem_replicate hy]; exact h
theorem bitb_cat {n : Nat} {c d : Int} (h : 0 ≤ c ∧ c < 4) (h2 : 0 ≤ d ∧ d < 4) : BitB ([d] ++ (List.replicate n [c]).flatten) := by
  refine bitb_of fun y hy => ?_
  rcases List.mem_append.mp hy with hy | hy
  · rw [List.mem_singleton.mp hy]; exact h2
  · exact bitb_at (bitb_rep h) hy
theorem len_cat (n : Nat) (c d : Int) : (([d] ++ (List.replicate n [c]).flatten).take n).length = n := by
  rw [List.length_take, List.length_append, len_rep]; simp
theorem bitb_map {n : Nat} {a : Int} {f : Int → Int} : BitB ((rangeKs a n).map fun k => Int.fmod (f k) 2) := bitb_of fun y hy => by
  obtain ⟨k, _, rfl⟩ := List.mem_map.mp hy
  have h1 := Int.fmod_nonneg_of_pos (f k) (show (0 : Int) < 2 by decide)
  have h2 := Int.fmod_lt_of_pos (f k) (show (0 : Int) < 2 by decide)
  omega
theorem len_map {k : Int} {f : Int → Int} : ((rangeKs 0 (k - 0).toNat).map f).length = k.toNat := by
  rw [List.length_map, rangeKs_length]; omega
theorem fdiv_pos4 {x : Int} (h : 0 ≤ x) : 0 ≤ x.fdiv 4 := Int.fdiv_nonneg h (by decide)
theorem lb_in1 {r pre : List Int} {x k : Int} {c : Nat} (h : r.length = c + pre.length) : (r ++ [x]).length = c + (pre ++ [k]).length := by simp; omega
theorem lb_in0 {r : List Int} {c : Nat} (h : r.length = c) : r.length = c + ([] : List Int).length := by simp [h]
theorem lb_out {r2 pre : List Int} {n : Int} (h1 : r2.length = 5 * pre.length + (rangeKs 0 5).length) : r2.length = 5 * (pre ++ [n]).length := by
  simp [rangeKs_length] at *; omega
theorem lb_end {r : List Int} {k : Int} (h : r.length = 5 * (rangeKs 0 ((k + 4).fdiv 5 - 0).toNat).length) (h0 : 1 ≤ k) (h1 : k ≤ 20) : k.toNat ≤ r.length ∧ r.length ≤ 100 := by
  rw [rangeKs_length, Int.fdiv_eq_ediv_of_nonneg _ (by decide)] at h
  omega
theorem lb_room {vs : List Value} {r : List Int} {k : Int} (hi : IntsAre vs r) (h : r.length = 5 * (rangeKs 0 ((k + 4).fdiv 5 - 0).toNat).length) (h0 : 1 ≤ k) (h1 : k ≤ 20) : vs.toArray.size ≤ sizeLine := by
  rw [List.size_toArray]
  exact ints_room hi (by have := lb_end h h0 h1; omega)
theorem lb_len {r : List Int} {k : Int} (h : r.length = 5 * (rangeKs 0 ((k + 4).fdiv 5 - 0).toNat).length) (h0 : 1 ≤ k) (h1 : k ≤ 20) : (r.take k.toNat).length = k.toNat := by
  have := lb_end h h0 h1
  rw [List.length_take]; omega
theorem lb_out0 : ([] : List Int).length = 5 * ([] : List Int).length := by simp

end
section
variable {w : World} {mean : ExcName → Option Value} {mg mb : Str → Option Value} {dp un : Nat} {gd : Option (List Code)} {cn : Str} {cs : Scope} {a : Addr} {ccd : Value} {cl : List (Str × Addr)} {outer : List Env} {A₀ : Around} {base h₀ : Heap} {L : Addr} {m : Str → Option Value} {news : List (Addr × Obj)} {s : Shared} {Q E : Value → Shared → Prop}

local macro_rules | `(tactic| k_all) => `(tactic| assumption)
set_option maxRecDepth 100000 in
set_option maxHeartbeats 4000000 in
theorem law_bits_spec {r : Addr} {vs : List Value} {ns : List Int} {n0 : Nat} {k : Int} {t : Tok} (B : Below A₀ base outer h₀) (F : Fr h₀ L s.heap m) (X : (hd.heap_39 w.params).In h₀) (N : News h₀ L s.heap ((r, W.listOf vs.toArray n0) :: news)) (T : Top hd.view_39 (looseW hd.view_39 []) mean mg mb h₀) (hk : cs.kind = .function)
   (hd : dp + 4 < recursionLimit) (hu : un + 200 < cLine) (hi : IntsAre vs ns) (hb : RowB ns) (hl : ns.length ≤ 160) (hne : ∀ p ∈ news, p.1 ≠ r) (w0 : 1 ≤ k) (w1 : k ≤ 20)
   (ret : ∀ q vb bits nb vs' ns' n' h' tk', Fr h₀ L h' m → News h₀ L h' ((q, W.listOf (List.toArray vb) nb) :: (r, W.listOf (List.toArray vs') n') :: news) → IntsAre vb bits → BitB bits → bits.length = k.toNat → IntsAre vs' ns' → RowB ns' → ns'.length ≤ 160 → @Ne Nat r q → LCg.Off1 q news → Q (.ref q) { s with heap := h', toks := tk' }) :
   wpAny (model (PySem.Challenge.rw_nn0305_01.row.prog) w) (ktrTop dp un gd cn cs L a ccd cl outer) (call (.ref 203) [.ref r, .int k t]) Q E s := by
  w_top off
  revert X
  k_fill
  intro X
  k_with_none
  k_with "eval Call" => ((k_here; k_dflt (refine Call_ ?_)))
  k_with "call ref" => ((k_here; (with_reducible show wpAny _ _ (call (Value.ref 196) _) _ _ _); k_dflt (refine' law_next_spec ?_ ?_ ?_ ?_ ?_ ?_ ?_ ?_ ?_ ?_ ?_ ?_ ?_; rotate_right 13; (· k_asm); (· k_asm); (· k_asm); (· first | k_asm | exact rot1 (by k_asm) | exact rot2 (by k_asm) | exact rot3 (by k_asm) | exact rot4 (by k_asm) | exact rot5 (by k_asm) | exact rot6 (by k_asm) | exact rot7 (by k_asm) | exact rot8 (by k_asm) | exact rot9 (by k_asm) | exact rot10 (by k_asm) | exact rot11 (by k_asm) | exact rot12 (by k_asm) | exact rot13 (by k_asm) | exact rot14 (by k_asm)); (· k_asm); (· first | exact rfl | assumption); (· ktr_room); (· ktr_units); (· first | assumption | l_ints); (· first | assumption); (· first | assumption | omega); (· (repeat' first | assumption | exact OwnOff.ne (by assumption) (by k_memK) | refine hne_app ?_ ?_ | refine hne_cons ?_ ?_ | k_ne | k_all)); intro v9 t9 vs9 ns9 n9 h9 tk9 F9 N9 i9 b9 g9 lo9 hi9;  (try dsimp only); (try k_fold))))
  k_with "subscriptTail Name Slice ref ref" => ((k_here; (with_reducible show wpAny _ _ (subscriptTail _ (PySem.Expr.Slice _ _ none _) (Value.ref _) (Value.ref _)) _ _ _); k_dflt (refine' kmk_slice_ints ?_ ?_ ?_ ?_ ?_ ?_ ?_ ?_ ?_ ?_ ?_ ?_; rotate_right 12; (· k_asm); (· k_asm); (· kmk_list); (· kmk_part); (· kmk_part); (· l_ints); (· kmk_nums); (· kmk_len); rotate_left 1; (· with_unfolding_all rfl); (· kmk_pure); (· exact lb_room (by assumption) (by assumption) (by assumption) (by assumption)); rotate_right 1); intro D' ws' h' F' N' l1 hI' hC' hL'; (try k_lt l1); (try k_sweep)))
  k_with "state" => ((repeat' apply And.intro) <;> first | exact bitb_nil | exact bitb_push (by assumption) | assumption | exact fdiv_pos4 (by first | assumption | omega) | exact lb_in0 (by assumption) | exact lb_in1 (by assumption) | exact lb_out (by assumption) | exact lb_out0)
  k_with "exec For Name Call cons nil" => kpr_for
  k_with "pyIter ref" => (k_of "turn" => k_state (fun pre bits row => bits.length = 5 * pre.length ∧ BitB bits ∧ RowB row ∧ row.length ≤ 160) "bits" "row")
  k_with "pyIter ref" => (k_of "step" => k_state_short (fun pre bits number => bits.length = 5 * kPre.length + pre.length ∧ 0 ≤ number ∧ BitB bits) "bits" "number")
  all_goals refine wpAny_call ?_
  all_goals (k_dflt cell_enter)
  all_goals k_steps
  all_goals (refine' ret _ _ _ _ _ _ _ _ _ ?zF ?zN ?za ?zb ?zc ?zd ?ze ?zf ?zg ?zh)
  case zF => assumption
  case zN => exact le1 (by assumption)
  case za => assumption
  case zb => exact bitb_take _ (by assumption)
  case zc => exact lb_len (by assumption) w0 w1
  case zd => assumption
  case ze => assumption
  case zf => assumption
  case zg => k_ne
  case zh => (first | exact o9 | exact off1_of (by assumption) | exact off1_of (And.right (by assumption)) | exact off1_of (And.right (And.right (by assumption))) | exact off1_of (And.right (And.right (And.right (by assumption)))) | exact off1_of (And.right (And.right (And.right (And.right (by assumption))))) | exact off1_of (And.right (And.right (And.right (And.right (And.right (by assumption)))))) | exact off1_of (And.right (And.right (And.right (And.right (And.right (And.right (by assumption))))))) | exact off1_of (And.right (And.right (And.right (And.right (And.right (And.right (And.right (by assumption)))))))) | exact off1_of (And.right (And.right (And.right (And.right (And.right (And.right (And.right (And.right (by assumption))))))))) | exact off1_of (And.right (And.right (And.right (And.right (And.right (And.right (And.right (And.right (And.right (by assumption)))))))))) | exact off1_of (And.right (And.right (And.right (And.right (And.right (And.right (And.right (And.right (And.right (And.right (by assumption))))))))))) | exact off1_of (And.right (And.right (And.right (And.right (And.right (And.right (And.right (And.right (And.right (And.right (And.right (by assumption)))))))))))) | exact off1_of (And.right (And.right (And.right (And.right (And.right (And.right (And.right (And.right (And.right (And.right (And.right (And.right (by assumption))))))))))))) | exact off1_of (And.right (And.right (And.right (And.right (And.right (And.right (And.right (And.right (And.right (And.right (And.right (And.right (And.right (by assumption)))))))))))))) | exact off1_of (And.right (And.right (And.right (And.right (And.right (And.right (And.right (And.right (And.right (And.right (And.right (And.right (And.right (And.right (by assumption))))))))))))))) | exact off1_of (And.right (And.right (And.right (And.right (And.right (And.right (And.right (And.right (And.right (And.right (And.right (And.right (And.right (And.right (And.right (by assumption)))))))))))))))) | exact by assumption | exact And.right (by assumption) | exact And.right (And.right (by assumption)) | exact And.right (And.right (And.right (by assumption))))

end
section

theorem unr_own {h₀ : Heap} {L I : Addr} {it : Obj} {rest : (Str → Option Value) → List (Addr × Obj) → Prop} {s₁ : Shared} {h' : Heap} {tk : Nat} {m' : Str → Option Value} {news' : List (Addr × Obj)} (F : Fr h₀ L h' m') (N : News h₀ L h' ((I, it) :: news'))
    (off : ∀ p ∈ news', p.1 ≠ I) (r : rest m' news') : UnrEnd h₀ L s₁ I it rest { s₁ with heap := h', toks := tk } := UnrEnd.intro F N news' (fun _ h => h) off r

section
variable {M : Model} {A : Around} {Q : Value → Shared → Prop} {E : Value → Shared → Prop} {s : Shared} {v : Int} {t : Tok} {a b : PySem.Expr} {l : Addr}
theorem fmod3 (v : Int) : v.fmod 3 = 0 ∨ v.fmod 3 = 1 ∨ v.fmod 3 = 2 := by
  have h1 := Int.fmod_nonneg_of_pos v (show (0 : Int) < 3 by decide)
  have h2 := Int.fmod_lt_of_pos v (show (0 : Int) < 3 by decide)
  omega
theorem split3w (h0 : wpAny M A (subscriptTail a b (.ref l) (.int 0 t)) Q E s) (h1 : wpAny M A (subscriptTail a b (.ref l) (.int 1 t)) Q E s) (h2 : wpAny M A (subscriptTail a b (.ref l) (.int 2 t)) Q E s) : wpAny M A (subscriptTail a b (.ref l) (.int (v.fmod 3) t)) Q E s := by
  rcases fmod3 v with e | e | e <;> rw [e] <;> assumption
theorem lo3 {k : Int} (h0 : 1 ≤ k) (h1 : k ≤ 20) : 1 + k.fdiv 10 = 1 ∨ 1 + k.fdiv 10 = 2 ∨ 1 + k.fdiv 10 = 3 := by
  rw [Int.fdiv_eq_ediv_of_nonneg _ (by decide)]; omega
theorem range3 (hv : v = 1 ∨ v = 2 ∨ v = 3) (h0 : wpAny M A (call (.type "range") [.int 1 t]) Q E s) (h1 : wpAny M A (call (.type "range") [.int 2 t]) Q E s) (h2 : wpAny M A (call (.type "range") [.int 3 t]) Q E s) : wpAny M A (call (.type "range") [.int v t]) Q E s := by
  rcases hv with e | e | e <;> rw [e] <;> assumption
end

end
section
variable {w : World} {mean : ExcName → Option Value} {mg mb : Str → Option Value} {dp un : Nat} {gd : Option (List Code)} {cn : Str} {cs : Scope} {a : Addr} {ccd : Value} {cl : List (Str × Addr)} {outer : List Env} {A₀ : Around} {base h₀ : Heap} {L : Addr} {m : Str → Option Value} {news : List (Addr × Obj)} {s : Shared} {Q E : Value → Shared → Prop}

local macro_rules | `(tactic| k_all) => `(tactic| first | assumption | exact allLt_ne (by assumption) (by first | exact Nat.le_refl _ | exact Nat.le_succ _) | exact allLt_ne (And.right (by assumption)) (by first | exact Nat.le_refl _ | exact Nat.le_succ _) | exact allLt_ne (And.right (And.right (by assumption))) (by first | exact Nat.le_refl _ | exact Nat.le_succ _))
set_option maxRecDepth 100000 in
set_option maxHeartbeats 4000000 in
theorem law_operand_spec {r : Addr} {vs : List Value} {ns : List Int} {n0 : Nat} {k : Int} {t : Tok} (B : Below A₀ base outer h₀) (F : Fr h₀ L s.heap m) (X : (hd.heap_39 w.params).In h₀) (N : News h₀ L s.heap ((r, W.listOf vs.toArray n0) :: news)) (T : Top hd.view_39 (looseW hd.view_39 []) mean mg mb h₀) (hk : cs.kind = .function)
   (hd : dp + 6 < recursionLimit) (hu : un + 300 < cLine) (hi : IntsAre vs ns) (hb : RowB ns) (hl : ns.length ≤ 160) (hne : ∀ p ∈ news, p.1 ≠ r) (w0 : 1 ≤ k) (w1 : k ≤ 20)
   (ret : ∀ q vb bits nb vs' ns' n' h' tk', Fr h₀ L h' m → News h₀ L h' ((q, W.listOf (List.toArray vb) nb) :: (r, W.listOf (List.toArray vs') n') :: news) → IntsAre vb bits → BitB bits → bits.length = k.toNat → IntsAre vs' ns' → RowB ns' → ns'.length ≤ 160 → @Ne Nat r q → LCg.Off1 q news → Q (.ref q) { s with heap := h', toks := tk' }) :
   wpAny (model (PySem.Challenge.rw_nn0305_01.row.prog) w) (ktrTop dp un gd cn cs L a ccd cl outer) (call (.ref 215) [.ref r, .int k t]) Q E s := by
  w_top off
  revert X
  k_fill
  intro X
  k_with_none
  k_with "eval Call" => ((k_here; k_dflt (refine Call_ ?_)))
  k_with "UnrEnd" => ((k_here; k_dflt (refine' unr_own ?_ ?_ ?_ ?_; rotate_right 4; (· k_asm); (· first | k_asm | exact rot1 (by k_asm) | exact rot2 (by k_asm) | exact rot3 (by k_asm) | exact rot4 (by k_asm) | exact rot5 (by k_asm) | exact rot6 (by k_asm) | exact rot7 (by k_asm) | exact rot8 (by k_asm) | exact rot9 (by k_asm) | exact rot10 (by k_asm) | exact rot11 (by k_asm) | exact rot12 (by k_asm) | exact rot13 (by k_asm) | exact rot14 (by k_asm)); (· (repeat' first | assumption | exact OwnOff.ne (by assumption) (by k_memK) | refine hne_app ?_ ?_ | refine hne_cons ?_ ?_ | k_ne | k_all)))))
  k_with "call ref" => ((k_here; (with_reducible show wpAny _ _ (call (Value.ref 196) _) _ _ _); k_dflt (refine' law_next_spec ?_ ?_ ?_ ?_ ?_ ?_ ?_ ?_ ?_ ?_ ?_ ?_ ?_; rotate_right 13; (· k_asm); (· k_asm); (· k_asm); (· first | k_asm | exact rot1 (by k_asm) | exact rot2 (by k_asm) | exact rot3 (by k_asm) | exact rot4 (by k_asm) | exact rot5 (by k_asm) | exact rot6 (by k_asm) | exact rot7 (by k_asm) | exact rot8 (by k_asm) | exact rot9 (by k_asm) | exact rot10 (by k_asm) | exact rot11 (by k_asm) | exact rot12 (by k_asm) | exact rot13 (by k_asm) | exact rot14 (by k_asm)); (· k_asm); (· first | exact rfl | assumption); (· ktr_room); (· ktr_units); (· first | assumption | l_ints); (· first | assumption); (· first | assumption | omega); (· (repeat' first | assumption | exact OwnOff.ne (by assumption) (by k_memK) | refine hne_app ?_ ?_ | refine hne_cons ?_ ?_ | k_ne | k_all)); intro v9 t9 vs9 ns9 n9 h9 tk9 F9 N9 i9 b9 g9 lo9 hi9;  (try dsimp only); (try k_fold))))
  k_with "call ref" => ((k_here; (with_reducible show wpAny _ _ (call (Value.ref 203) _) _ _ _); k_dflt (refine' law_bits_spec ?_ ?_ ?_ ?_ ?_ ?_ ?_ ?_ ?_ ?_ ?_ ?_ ?_ ?_ ?_; rotate_right 15; (· k_asm); (· k_asm); (· k_asm); (· first | k_asm | exact rot1 (by k_asm) | exact rot2 (by k_asm) | exact rot3 (by k_asm) | exact rot4 (by k_asm) | exact rot5 (by k_asm) | exact rot6 (by k_asm) | exact rot7 (by k_asm) | exact rot8 (by k_asm) | exact rot9 (by k_asm) | exact rot10 (by k_asm) | exact rot11 (by k_asm) | exact rot12 (by k_asm) | exact rot13 (by k_asm) | exact rot14 (by k_asm)); (· k_asm); (· first | exact rfl | assumption); (· ktr_room); (· ktr_units); (· first | assumption | l_ints); (· first | assumption); (· first | assumption | omega); (· (repeat' first | assumption | exact OwnOff.ne (by assumption) (by k_memK) | refine hne_app ?_ ?_ | refine hne_cons ?_ ?_ | k_ne | k_all)); (· first | assumption | decide | omega | l_fact); (· first | assumption | decide | omega | l_fact); intro q9 vb9 bits9 nb9 vs9 ns9 n9 h9 tk9 F9 N9 ib9 bb9 lb9 i9 b9 g9 rq9 o9;  (try dsimp only); (try k_fold))))
  k_with "subscriptTail" => ((k_here; (with_reducible show wpAny _ _ (subscriptTail _ _ (Value.ref _) (Value.int (Int.fmod _ 3) _)) _ _ _); refine split3w ?_ ?_ ?_))
  k_with "call type:range" => ((k_here; (with_reducible show wpAny _ _ (call (Value.type "range") [Value.int (1 + Int.fdiv _ 10) _]) _ _ _); refine range3 (lo3 (by assumption) (by assumption)) ?_ ?_ ?_))
  all_goals refine wpAny_call ?_
  all_goals (k_dflt (refine' code_defC ?k1 ?k2 ?k3 ?k4 ?k5 ?kA ?kF ?kK ?k6 ?k7 ?k8 ?k9 ?kB ?kD ?_ ?c2 ?c3 ?c4; (case kA => exact rfl); (case kF => exact rfl); (case kK => assumption); (case k1 => k_asm); (case k2 => k_asm); (case k3 => k_asm); (case k4 => k_asm); (case k5 => k_asm); (case k6 => k_is); (case k7 => k_is); (case k8 => ktr_room); (case k9 => exact BindsTo.of_eq rfl); (case kB => exact rfl); (case kD => decide +kernel); (case c2 => exact rfl); (case c3 => exact rfl); (case c4 => exact rfl); k_whole; intro g' L' h' tk' cells' FG' F' N' Y' B' X' T' l1; (try k_lt l1); k_cells Y'; (try simp only [List.cons_append, List.nil_append] at N'); (try dsimp only); (try k_lift B'); (try k_fold)))
  all_goals k_steps
  all_goals (refine' ret _ _ _ _ _ _ _ _ _ ?zF ?zN ?za ?zb ?zc ?zd ?ze ?zf ?zg ?zh; (case zF => assumption); (case zN => exact pick2 (by assumption) (by k_mem) (by k_mem) (by (intro p9 h9; kst_mem))); (case za => assumption); (case zb => first | assumption | exact bitb_rep (by decide) | exact bitb_take _ (bitb_cat (by decide) (by decide)) | exact bitb_map); (case zc => first | assumption | exact len_rep _ _ | exact len_cat _ _ _ | exact len_map); (case zd => assumption); (case ze => assumption); (case zf => assumption); (case zg => first | assumption | k_ne); (case zh => first | exact And.right (by assumption) | (first | exact o9 | exact off1_of (by assumption) | exact off1_of (And.right (by assumption)) | exact off1_of (And.right (And.right (by assumption))) | exact off1_of (And.right (And.right (And.right (by assumption)))) | exact off1_of (And.right (And.right (And.right (And.right (by assumption))))) | exact off1_of (And.right (And.right (And.right (And.right (And.right (by assumption)))))) | exact off1_of (And.right (And.right (And.right (And.right (And.right (And.right (by assumption))))))) | exact off1_of (And.right (And.right (And.right (And.right (And.right (And.right (And.right (by assumption)))))))) | exact off1_of (And.right (And.right (And.right (And.right (And.right (And.right (And.right (And.right (by assumption))))))))) | exact off1_of (And.right (And.right (And.right (And.right (And.right (And.right (And.right (And.right (And.right (by assumption)))))))))) | exact off1_of (And.right (And.right (And.right (And.right (And.right (And.right (And.right (And.right (And.right (And.right (by assumption))))))))))) | exact off1_of (And.right (And.right (And.right (And.right (And.right (And.right (And.right (And.right (And.right (And.right (And.right (by assumption)))))))))))) | exact off1_of (And.right (And.right (And.right (And.right (And.right (And.right (And.right (And.right (And.right (And.right (And.right (And.right (by assumption))))))))))))) | exact off1_of (And.right (And.right (And.right (And.right (And.right (And.right (And.right (And.right (And.right (And.right (And.right (And.right (And.right (by assumption)))))))))))))) | exact off1_of (And.right (And.right (And.right (And.right (And.right (And.right (And.right (And.right (And.right (And.right (And.right (And.right (And.right (And.right (by assumption))))))))))))))) | exact off1_of (And.right (And.right (And.right (And.right (And.right (And.right (And.right (And.right (And.right (And.right (And.right (And.right (And.right (And.right (And.right (by assumption)))))))))))))))) | exact by assumption | exact And.right (by assumption) | exact And.right (And.right (by assumption)) | exact And.right (And.right (And.right (by assumption))))))

end
section

def sumB (f : Int → Int) : List Int → Int
  | [] => 0
  | b :: r => f b + 2 * sumB f r
def lowB (bits : List Int) : Int := sumB (fun b => b.fmod 2) bits
def highB (bits : List Int) : Int := sumB (fun b => b.fdiv 2) bits
theorem sumB_snoc (f : Int → Int) (b : Int) : ∀ l : List Int, sumB f (l ++ [b]) = sumB f l + f b * 2 ^ l.length
  | [] => by simp [sumB]
  | a :: r => by
    show f a + 2 * sumB f (r ++ [b]) = f a + 2 * sumB f r + f b * 2 ^ (r.length + 1)
    rw [sumB_snoc f b r, Int.pow_succ, Int.mul_add, Int.mul_comm 2 (f b * _), Int.mul_assoc]; omega
theorem sumB_range {f : Int → Int} : ∀ {l : List Int}, (∀ b ∈ l, 0 ≤ f b ∧ f b ≤ 1) → 0 ≤ sumB f l ∧ sumB f l < 2 ^ l.length
  | [], _ => by simp [sumB]
  | a :: r, h => by
    have h1 := h a (.head _)
    have h2 := sumB_range (l := r) fun b hb => h b (.tail _ hb)
    have e : (2 : Int) ^ (a :: r).length = 2 * 2 ^ r.length := by rw [List.length_cons, Int.pow_succ, Int.mul_comm]
    rw [e]
    show 0 ≤ f a + 2 * sumB f r ∧ f a + 2 * sumB f r < _
    omega
theorem getD_bit {bits : List Int} (h : BitB bits) (j : Nat) : 0 ≤ bits.getD j 0 ∧ bits.getD j 0 < 4 := by
  by_cases hj : j < bits.length
  · have e : bits.getD j 0 = bits[j] := by simp [List.getD, hj]
    rw [e]; exact bitb_at h (List.getElem_mem hj)
  · have e : bits.getD j 0 = 0 := by simp [List.getD, Nat.not_lt.mp hj]
    rw [e]; decide
theorem mulok_bit {bits : List Int} {j : Nat} {c : Int} (h : BitB bits) : IntMulOk ((bits.getD j 0).fdiv 2) c := by
  have := getD_bit h j
  refine IntMulOk.of_left (intBits_le_iff.mpr ?_)
  rw [Int.fdiv_eq_ediv_of_nonneg _ (by decide)]
  omega
theorem mulok_bit1 {bits : List Int} {j : Nat} {c : Int} (h : BitB bits) : IntMulOk (bits.getD j 0) c := by
  have := getD_bit h j
  refine IntMulOk.of_left (intBits_le_iff.mpr ?_)
  omega
theorem sm0 {f : Int → Int} {bits : List Int} : 0 = sumB f (bits.take ([] : List Int).length) := rfl
theorem sm1 {f : Int → Int} {bits pre : List Int} {a kN : Int} (h : a = sumB f (bits.take pre.length)) (e : kN = 0 + (pre.length : Int)) (l : pre.length < ((bits.length : Int) - 0).toNat) : a + f (bits.getD kN.toNat 0) * 2 ^ kN.toNat = sumB f (bits.take (pre ++ [kN]).length) := by
  have hk : kN.toNat = pre.length := by omega
  have hl : pre.length < bits.length := by omega
  rw [List.length_append, List.length_singleton, hk, List.take_add_one, List.getElem?_eq_getElem hl]
  show _ = sumB f (bits.take pre.length ++ [bits[pre.length]])
  rw [sumB_snoc, ← h, List.length_take, Nat.min_eq_left (Nat.le_of_lt hl)]
  have e : bits.getD pre.length 0 = bits[pre.length] := by simp [List.getD, hl]
  rw [e]
theorem sm2 {f : Int → Int} {bits : List Int} {a : Int} (h : a = sumB f (bits.take (rangeKs 0 ((bits.length : Int) - 0).toNat).length)) : a = sumB f bits := by
  rw [h, rangeKs_length, List.take_of_length_le (by omega)]
theorem retM {h₀ : Heap} {L : Addr} {news' : List (Addr × Obj)} {h' : Heap} {r : Addr} {k k' x x' y y' : Int} {t1 t2 t3 : Tok} (N : News h₀ L h' ((r, vecO k' x' y' t1 t2 t3) :: news')) (e : k' = k) (e1 : x' = x) (e2 : y' = y) : News h₀ L h' ((r, vecO k x y t1 t2 t3) :: news') := by
  subst e; subst e1; subst e2; exact N

end
section
variable {w : World} {mean : ExcName → Option Value} {mg mb : Str → Option Value} {dp un : Nat} {gd : Option (List Code)} {cn : Str} {cs : Scope} {a : Addr} {ccd : Value} {cl : List (Str × Addr)} {outer : List Env} {A₀ : Around} {base h₀ : Heap} {L : Addr} {m : Str → Option Value} {news : List (Addr × Obj)} {s : Shared} {Q E : Value → Shared → Prop}

local macro_rules | `(tactic| k_all) => `(tactic| assumption)
set_option maxRecDepth 100000 in
set_option maxHeartbeats 4000000 in
theorem law_made_spec {b : Addr} {vb : List Value} {bits : List Int} {nb : Nat} {k : Int} (B : Below A₀ base outer h₀) (F : Fr h₀ L s.heap m) (X : (hd.heap_39 w.params).In h₀) (N : News h₀ L s.heap ((b, W.listOf vb.toArray nb) :: news)) (T : Top hd.view_39 (looseW hd.view_39 []) mean mg mb h₀) (hk : cs.kind = .function)
   (hd : dp + 2 < recursionLimit) (hu : un + 100 < cLine) (ib : IntsAre vb bits) (bb : BitB bits) (lb : bits.length = k.toNat) (w0 : 1 ≤ k) (w1 : k ≤ 20)
   (ret : ∀ r t1 t2 t3 h' tk', Fr h₀ L h' m → News h₀ L h' ((r, vecO k (lowB bits) (highB bits) t1 t2 t3) :: (b, W.listOf vb.toArray nb) :: news) → (∀ p ∈ news, p.1 < r) → Q (.ref r) { s with heap := h', toks := tk' }) :
   wpAny (model (PySem.Challenge.rw_nn0305_01.row.prog) w) (ktrTop dp un gd cn cs L a ccd cl outer) (call (.ref 210) [.ref b]) Q E s := by
  w_top off
  revert X
  k_fill
  intro X
  k_with_none
  k_with "eval Call" => ((k_here; k_dflt (refine Call_ ?_)))
  k_with "binaryOp Mult int int" => ((k_here; (with_reducible show wpAny _ _ (binaryOp Operator.Mult (Value.int (Int.fdiv (List.getD _ _ _) 2) _) (Value.int _ _)) _ _ _); refine mul_int ?_ (mulok_bit (by assumption))))
  k_with "binaryOp Mult int int" => ((k_here; (with_reducible show wpAny _ _ (binaryOp Operator.Mult (Value.int (List.getD _ _ _) _) (Value.int _ _)) _ _ _); refine mul_int ?_ (mulok_bit1 (by assumption))))
  k_with "state" => ((repeat' apply And.intro) <;> first | assumption | exact sm0 | exact sm1 (f := fun b => b.fmod 2) (by assumption) (by assumption) (by assumption) | exact sm1 (f := fun b => b.fdiv 2) (by assumption) (by assumption) (by assumption))
  k_with "pyIter ref" => (k_of "spot" => k_state_given ["bits"] (fun bits pre low high => low = sumB (fun b => b.fmod 2) (bits.take pre.length) ∧ high = sumB (fun b => b.fdiv 2) (bits.take pre.length)) "low" "high")
  all_goals refine wpAny_call ?_
  all_goals (k_dflt cell_enter)
  all_goals k_steps
  all_goals (refine' ret _ _ _ _ _ _ ?zF ?zN ?zo; (case zF => assumption); (case zN => exact retM (by assumption) (by rw [lb]; omega) (sm2 (by assumption)) (sm2 (by assumption))); (case zo => first | exact ktn_ltOf (And.right (by assumption)) | exact ktn_ltOf (by assumption)))

end
section

theorem drop_own {h₀ h : Heap} {L : Addr} {p : Addr × Obj} {news own : List (Addr × Obj)} (N : News h₀ L h (p :: (news ++ own))) : News h₀ L h (p :: news) := fun q hq => N q (by
  rcases List.mem_cons.mp hq with e | e
  · exact e ▸ .head _
  · exact .tail _ (List.mem_append_left _ e))
theorem sumB_congr {f g : Int → Int} : ∀ {l : List Int}, (∀ b ∈ l, f b = g b) → sumB f l = sumB g l
  | [], _ => rfl
  | a :: r, h => by
    show f a + 2 * sumB f r = g a + 2 * sumB g r
    rw [h a (.head _), sumB_congr fun b hb => h b (.tail _ hb)]
theorem sumB_zero {f : Int → Int} : ∀ {l : List Int}, (∀ b ∈ l, f b = 0) → sumB f l = 0
  | [], _ => rfl
  | a :: r, h => by
    show f a + 2 * sumB f r = 0
    rw [h a (.head _), sumB_zero fun b hb => h b (.tail _ hb)]; rfl
theorem sumB_nonneg {f : Int → Int} : ∀ {l : List Int}, (∀ b ∈ l, 0 ≤ f b) → 0 ≤ sumB f l
  | [], _ => Int.le_refl _
  | a :: r, h => by
    show 0 ≤ f a + 2 * sumB f r
    have h1 := h a (.head _)
    have h2 := sumB_nonneg (l := r) fun b hb => h b (.tail _ hb)
    omega
theorem sumB_pos {f : Int → Int} {x : Int} : ∀ {l : List Int}, (∀ b ∈ l, 0 ≤ f b) → x ∈ l → 0 < f x → 0 < sumB f l
  | [], _, hx, _ => nomatch hx
  | a :: r, h, hx, h0 => by
    show 0 < f a + 2 * sumB f r
    have h1 := h a (.head _)
    have h2 := sumB_nonneg (l := r) fun b hb => h b (.tail _ hb)
    rcases List.mem_cons.mp hx with e | e
    · subst e; omega
    · have h3 := sumB_pos (l := r) (fun b hb => h b (.tail _ hb)) e h0
      omega
theorem low_bit {b : Int} (h : 0 ≤ b ∧ b < 4) : 0 ≤ b.fmod 2 ∧ b.fmod 2 ≤ 1 := by
  rw [Int.fmod_eq_emod_of_nonneg _ (by decide)]; omega
theorem high_bit {b : Int} (h : 0 ≤ b ∧ b < 4) : 0 ≤ b.fdiv 2 ∧ b.fdiv 2 ≤ 1 := by
  rw [Int.fdiv_eq_ediv_of_nonneg _ (by decide)]; omega
theorem lowB_range {bits : List Int} (hb : BitB bits) : 0 ≤ lowB bits ∧ lowB bits < 2 ^ bits.length := sumB_range fun b h => low_bit (bitb_at hb h)
theorem highB_range {bits : List Int} (hb : BitB bits) : 0 ≤ highB bits ∧ highB bits < 2 ^ bits.length := sumB_range fun b h => high_bit (bitb_at hb h)
theorem top_bit {f : Int → Int} {bits : List Int} {n : Nat} (h : ∀ b ∈ bits, 0 ≤ f b ∧ f b ≤ 1) (hn : bits.length = n + 1) : (sumB f bits).fdiv (2 ^ n) = f (bits.getD n 0) := by
  have hl : n < bits.length := by omega
  have e : bits = bits.take n ++ [bits[n]] := by
    have := List.take_append_drop (n + 1) bits
    rw [List.take_add_one, List.getElem?_eq_getElem hl, List.drop_of_length_le (by omega), List.append_nil] at this
    exact this.symm
  have e2 : bits.getD n 0 = bits[n] := by simp [List.getD, hl]
  have h2 := sumB_range (f := f) (l := bits.take n) fun b hb => h b (List.mem_of_mem_take hb)
  have ht : (bits.take n).length = n := by rw [List.length_take]; omega
  rw [ht] at h2
  have e3 : sumB f bits = sumB f (bits.take n) + f bits[n] * 2 ^ n := by
    have := sumB_snoc f bits[n] (bits.take n)
    rw [← e, ht] at this
    exact this
  have hp := ipow_pos n
  rw [e3, e2, Int.fdiv_eq_ediv_of_nonneg _ (Int.le_of_lt hp), Int.add_mul_ediv_right _ _ (Int.ne_of_gt hp), Int.ediv_eq_zero_of_lt h2.1 h2.2, Int.zero_add]
theorem take_all {bits : List Int} : bits.take (rangeKs 0 ((bits.length : Int) - 0).toNat).length = bits := by
  rw [rangeKs_length]; exact List.take_of_length_le (by omega)
theorem lw_all {bits : List Int} (hb : BitB bits) (h1 : ∀ x ∈ bits.take (rangeKs 0 ((bits.length : Int) - 0).toNat).length, x ≤ 1) : highB bits = 0 ∧ lowB bits = sumB (fun b => b) bits ∧ ∀ x ∈ bits, 0 ≤ x ∧ x ≤ 1 := by
  rw [take_all] at h1
  have h2 : ∀ x ∈ bits, 0 ≤ x ∧ x ≤ 1 := fun x hx => ⟨(bitb_at hb hx).1, h1 x hx⟩
  refine ⟨sumB_zero fun x hx => ?_, sumB_congr fun x hx => ?_, h2⟩
  · have := h2 x hx
    rw [Int.fdiv_eq_ediv_of_nonneg _ (by decide)]; omega
  · have := h2 x hx
    show x.fmod 2 = x
    rw [Int.fmod_eq_emod_of_nonneg _ (by decide)]; omega
theorem lw_none {bits : List Int} {j : Nat} {k : Int} {sg : Bool} (hb : BitB bits) (hj : 1 < bits.getD j 0) : toInt k (lowB bits) (highB bits) sg = none := by
  have hl : j < bits.length := by
    by_cases h : j < bits.length
    · exact h
    · have e : bits.getD j 0 = 0 := by simp [List.getD, Nat.not_lt.mp h]
      omega
  have e : bits.getD j 0 = bits[j] := by simp [List.getD, hl]
  have hm : bits[j] ∈ bits := List.getElem_mem hl
  have hr := bitb_at hb hm
  have hp : 0 < highB bits := sumB_pos (x := bits[j]) (fun b h => (high_bit (bitb_at hb h)).1) hm (by
    rw [e] at hj
    show 0 < bits[j].fdiv 2
    rw [Int.fdiv_eq_ediv_of_nonneg _ (by decide)]; omega)
  unfold toInt
  rw [if_neg (by omega)]
theorem lw_fig {bits : List Int} {k a : Int} (hb : BitB bits) (h1 : ∀ x ∈ bits.take (rangeKs 0 ((bits.length : Int) - 0).toNat).length, x ≤ 1) (ha : a = sumB (fun b => b) (bits.take (rangeKs 0 ((bits.length : Int) - 0).toNat).length)) (lb : bits.length = k.toNat) (hk : 1 ≤ k) :
    highB bits = 0 ∧ lowB bits = a ∧ (lowB bits).fdiv (2 ^ (k - 1).toNat) = bits.getD (-1 + (bits.length : Int)).toNat 0 := by
  obtain ⟨e1, e2, e3⟩ := lw_all hb h1
  rw [take_all] at ha
  refine ⟨e1, e2.trans ha.symm, ?_⟩
  rw [e2, top_bit (n := (k - 1).toNat) e3 (by omega)]
  have : (-1 + (bits.length : Int)).toNat = (k - 1).toNat := by omega
  rw [this]
theorem lw_neg {bits : List Int} {k a : Int} {sg : Bool} (hb : BitB bits) (h1 : ∀ x ∈ bits.take (rangeKs 0 ((bits.length : Int) - 0).toNat).length, x ≤ 1) (ha : a = sumB (fun b => b) (bits.take (rangeKs 0 ((bits.length : Int) - 0).toNat).length)) (lb : bits.length = k.toNat) (hk : 1 ≤ k) (hs : sg = true) (ht : bits.getD (-1 + (bits.length : Int)).toNat 0 = 1) :
    toInt k (lowB bits) (highB bits) sg = some (a - 2 ^ ((bits.length : Int)).toNat) := by
  obtain ⟨e1, e2, e3⟩ := lw_fig hb h1 ha lb hk
  have e4 : ((bits.length : Int)).toNat = k.toNat := by omega
  unfold toInt
  rw [if_pos e1, if_pos ⟨hs, e3.trans ht⟩, e2, e4]
theorem lw_pos {bits : List Int} {k a : Int} {sg : Bool} (hb : BitB bits) (h1 : ∀ x ∈ bits.take (rangeKs 0 ((bits.length : Int) - 0).toNat).length, x ≤ 1) (ha : a = sumB (fun b => b) (bits.take (rangeKs 0 ((bits.length : Int) - 0).toNat).length)) (lb : bits.length = k.toNat) (hk : 1 ≤ k) (ht : ¬ bits.getD (-1 + (bits.length : Int)).toNat 0 = 1) :
    toInt k (lowB bits) (highB bits) sg = some a := by
  obtain ⟨e1, e2, e3⟩ := lw_fig hb h1 ha lb hk
  unfold toInt
  rw [if_pos e1, if_neg (fun h => ht (e3.symm.trans h.2)), e2]
theorem lw_uns {bits : List Int} {k a : Int} {sg : Bool} (hb : BitB bits) (h1 : ∀ x ∈ bits.take (rangeKs 0 ((bits.length : Int) - 0).toNat).length, x ≤ 1) (ha : a = sumB (fun b => b) (bits.take (rangeKs 0 ((bits.length : Int) - 0).toNat).length)) (lb : bits.length = k.toNat) (hk : 1 ≤ k) (hs : sg = false) :
    toInt k (lowB bits) (highB bits) sg = some a := by
  obtain ⟨e1, e2, e3⟩ := lw_fig hb h1 ha lb hk
  unfold toInt
  rw [if_pos e1, if_neg (fun h => by rw [hs] at h; cases h.1), e2]
theorem sw0 {bits : List Int} : ∀ x ∈ bits.take ([] : List Int).length, x ≤ 1 := fun x hx => nomatch hx
theorem sw1 {bits pre : List Int} {kN : Int} (h : ∀ x ∈ bits.take pre.length, x ≤ 1) (e : kN = 0 + (pre.length : Int)) (l : pre.length < ((bits.length : Int) - 0).toNat) (h2 : ¬ 1 < bits.getD kN.toNat 0) : ∀ x ∈ bits.take (pre ++ [kN]).length, x ≤ 1 := by
  have hk : kN.toNat = pre.length := by omega
  have hl : pre.length < bits.length := by omega
  have e : bits.getD pre.length 0 = bits[pre.length] := by simp [List.getD, hl]
  rw [hk, e] at h2
  rw [List.length_append, List.length_singleton, List.take_add_one, List.getElem?_eq_getElem hl]
  intro x hx
  rcases List.mem_append.mp hx with hx | hx
  · exact h x hx
  · have : x = bits[pre.length] := by simpa using hx
    omega

end
section
variable {w : World} {mean : ExcName → Option Value} {mg mb : Str → Option Value} {dp un : Nat} {gd : Option (List Code)} {cn : Str} {cs : Scope} {a : Addr} {ccd : Value} {cl : List (Str × Addr)} {outer : List Env} {A₀ : Around} {base h₀ : Heap} {L : Addr} {m : Str → Option Value} {news : List (Addr × Obj)} {s : Shared} {Q E : Value → Shared → Prop}

local macro_rules | `(tactic| k_all) => `(tactic| assumption)
set_option maxRecDepth 100000 in
set_option maxHeartbeats 4000000 in
theorem law_whole_spec {b : Addr} {vb : List Value} {bits : List Int} {nb : Nat} {k : Int} {sg : Bool} {o : Option Int} (B : Below A₀ base outer h₀) (F : Fr h₀ L s.heap m) (X : (hd.heap_39 w.params).In h₀) (N : News h₀ L s.heap ((b, W.listOf vb.toArray nb) :: news)) (T : Top hd.view_39 (looseW hd.view_39 []) mean mg mb h₀) (hk : cs.kind = .function)
   (hd : dp + 2 < recursionLimit) (hu : un + 100 < cLine) (ib : IntsAre vb bits) (bb : BitB bits) (lb : bits.length = k.toNat) (w0 : 1 ≤ k) (w1 : k ≤ 20) (ho : toInt k (lowB bits) (highB bits) sg = o)
   (ret : ∀ t h' tk', Fr h₀ L h' m → News h₀ L h' ((b, W.listOf vb.toArray nb) :: news) → Q (oV o t) { s with heap := h', toks := tk' }) :
   wpAny (model (PySem.Challenge.rw_nn0305_01.row.prog) w) (ktrTop dp un gd cn cs L a ccd cl outer) (call (.ref 222) [.ref b, .bool sg]) Q E s := by
  w_top off
  revert X
  k_fill
  intro X
  subst ho
  k_with_none
  k_with "eval Call" => ((k_here; k_dflt (refine Call_ ?_)))
  k_with "binaryOp Mult int int" => ((k_here; (with_reducible show wpAny _ _ (binaryOp Operator.Mult (Value.int (Int.fdiv (List.getD _ _ _) 2) _) (Value.int _ _)) _ _ _); refine mul_int ?_ (mulok_bit (by assumption))))
  k_with "binaryOp Mult int int" => ((k_here; (with_reducible show wpAny _ _ (binaryOp Operator.Mult (Value.int (List.getD _ _ _) _) (Value.int _ _)) _ _ _); refine mul_int ?_ (mulok_bit1 (by assumption))))
  k_with "state" => ((repeat' apply And.intro) <;> first | assumption | exact sm0 | exact sw0 | exact sm1 (f := fun b => b) (by assumption) (by assumption) (by assumption) | exact sw1 (by assumption) (by assumption) (by assumption) (by assumption))
  k_with "pyIter ref" => (k_of "spot" => (k_state_given ["bits"] (fun bits pre figure => figure = sumB (fun b => b) (bits.take pre.length) ∧ ∀ x ∈ bits.take pre.length, x ≤ 1) "figure"))
  all_goals refine wpAny_call ?_
  all_goals (k_dflt cell_enter)
  all_goals k_steps
  all_goals first
    | (refine' retN ret ?ze ?zF ?zN; (case zF => assumption); (case zN => first | assumption | exact drop_own (by assumption)); (case ze => exact lw_none bb (by assumption)))
    | (refine' retI ret ?ze ?zF ?zN; (case zF => assumption); (case zN => assumption); (case ze => first | exact lw_neg bb (by assumption) (by assumption) lb w0 (by assumption) (by assumption) | exact lw_pos bb (by assumption) (by assumption) lb w0 (by assumption) | exact lw_uns bb (by assumption) (by assumption) lb w0 (by assumption)))

end
section
variable {w : World} {mean : ExcName → Option Value} {mg mb : Str → Option Value} {dp un : Nat} {gd : Option (List Code)} {cn : Str} {cs : Scope} {a : Addr} {ccd : Value} {cl : List (Str × Addr)} {outer : List Env} {A₀ : Around} {base h₀ : Heap} {L : Addr} {m : Str → Option Value} {news : List (Addr × Obj)} {s : Shared} {Q E : Value → Shared → Prop}
set_option maxRecDepth 100000 in
set_option maxHeartbeats 4000000 in
theorem mask_spec {k : Int} {t : Tok} (B : Below A₀ base outer h₀) (F : Fr h₀ L s.heap m) (X : (hd.heap_39 w.params).In h₀) (N : News h₀ L s.heap news) (T : Top hd.view_39 (looseW hd.view_39 []) mean mg mb h₀) (hk : cs.kind = .function)
   (hd : dp + 2 < recursionLimit) (hu : un + 16 < cLine) (h0 : 0 ≤ k) (h1 : k ≤ 40)
   (ret : ∀ t h' tk', Fr h₀ L h' m → News h₀ L h' news → Q (.int (2 ^ k.toNat - 1) t) { s with heap := h', toks := tk' }) :
   wpAny (model (PySem.Challenge.rw_nn0305_01.row.prog) w) (ktrTop dp un gd cn cs L a ccd cl outer) (call (.ref 21) [.int k t]) Q E s := by
  w_top off
  revert X
  k_fill
  intro X
  k_with_none
  all_goals refine wpAny_call ?_
  all_goals (k_dflt cell_enter)
  all_goals k_steps
  rw [Int.one_mul]
  exact ret _ _ _ (by assumption) (by assumption)
set_option maxRecDepth 100000 in
set_option maxHeartbeats 4000000 in
theorem zeros_spec {k : Int} {t : Tok} (B : Below A₀ base outer h₀) (F : Fr h₀ L s.heap m) (X : (hd.heap_39 w.params).In h₀) (N : News h₀ L s.heap news) (T : Top hd.view_39 (looseW hd.view_39 []) mean mg mb h₀) (hk : cs.kind = .function)
   (hd : dp + 2 < recursionLimit) (hu : un + 16 < cLine) 
   (ret : ∀ r t1 t2 t3 h' tk', Fr h₀ L h' m → News h₀ L h' ((r, vecO (k) (0) (0) t1 t2 t3) :: news) → (∀ p ∈ news, p.1 < r) → Q (.ref r) { s with heap := h', toks := tk' }) :
   wpAny (model (PySem.Challenge.rw_nn0305_01.row.prog) w) (ktrTop dp un gd cn cs L a ccd cl outer) (call (.ref 28) [.int k t]) Q E s := by
  w_top off
  revert X
  k_fill
  intro X
  k_with_none
  all_goals refine wpAny_call ?_
  all_goals (k_dflt cell_enter)
  all_goals k_steps
  exact ret _ _ _ _ _ _ (by assumption) (by first | assumption | exact le1 (by assumption) | exact le2 (by assumption) | exact le3 (by assumption)) (by first | assumption | exact ktn_ltOf (by assumption))
set_option maxRecDepth 100000 in
set_option maxHeartbeats 4000000 in
theorem all_x_spec {k : Int} {t : Tok} (B : Below A₀ base outer h₀) (F : Fr h₀ L s.heap m) (X : (hd.heap_39 w.params).In h₀) (N : News h₀ L s.heap news) (T : Top hd.view_39 (looseW hd.view_39 []) mean mg mb h₀) (hk : cs.kind = .function)
   (hd : dp + 4 < recursionLimit) (hu : un + 32 < cLine) (h0 : 0 ≤ k) (h1 : k ≤ 40)
   (ret : ∀ r t1 t2 t3 h' tk', Fr h₀ L h' m → News h₀ L h' ((r, vecO (k) (vA k none) (vB k none) t1 t2 t3) :: news) → (∀ p ∈ news, p.1 < r) → Q (.ref r) { s with heap := h', toks := tk' }) :
   wpAny (model (PySem.Challenge.rw_nn0305_01.row.prog) w) (ktrTop dp un gd cn cs L a ccd cl outer) (call (.ref 35) [.int k t]) Q E s := by
  w_top off
  revert X
  k_fill
  intro X
  k_with_none
  k_with "call ref" => ((k_here; (with_reducible show wpAny _ _ (call (Value.ref 21) _) _ _ _); k_dflt (refine' mask_spec ?_ ?_ ?_ ?_ ?_ ?_ ?_ ?_ ?_ ?_ ?_; rotate_right 11; (· k_asm); (· k_asm); (· k_asm); (· k_asm); (· k_asm); (· first | exact rfl | assumption); (· ktr_room); (· ktr_units); (· first | assumption | decide | omega | l_fact); (· first | assumption | decide | omega | l_fact); intro t9 h9 tk9 F9 N9;  (try dsimp only); (try k_fold))))
  all_goals refine wpAny_call ?_
  all_goals (k_dflt cell_enter)
  all_goals k_steps
  exact ret _ _ _ _ _ _ (by assumption) (by first | assumption | exact le1 (by assumption) | exact le2 (by assumption) | exact le3 (by assumption)) (by first | assumption | exact ktn_ltOf (by assumption))
set_option maxRecDepth 100000 in
set_option maxHeartbeats 4000000 in
theorem from_int_spec {k n : Int} {t t1 : Tok} (B : Below A₀ base outer h₀) (F : Fr h₀ L s.heap m) (X : (hd.heap_39 w.params).In h₀) (N : News h₀ L s.heap news) (T : Top hd.view_39 (looseW hd.view_39 []) mean mg mb h₀) (hk : cs.kind = .function)
   (hd : dp + 4 < recursionLimit) (hu : un + 32 < cLine) (h0 : 0 ≤ k) (h1 : k ≤ 40)
   (ret : ∀ r t1 t2 t3 h' tk', Fr h₀ L h' m → News h₀ L h' ((r, vecO (k) (vA k (some n)) (vB k (some n)) t1 t2 t3) :: news) → (∀ p ∈ news, p.1 < r) → Q (.ref r) { s with heap := h', toks := tk' }) :
   wpAny (model (PySem.Challenge.rw_nn0305_01.row.prog) w) (ktrTop dp un gd cn cs L a ccd cl outer) (call (.ref 42) [.int k t, .int n t1]) Q E s := by
  w_top off
  revert X
  k_fill
  intro X
  k_with_none
  k_with "call ref" => ((k_here; (with_reducible show wpAny _ _ (call (Value.ref 21) _) _ _ _); k_dflt (refine' mask_spec ?_ ?_ ?_ ?_ ?_ ?_ ?_ ?_ ?_ ?_ ?_; rotate_right 11; (· k_asm); (· k_asm); (· k_asm); (· k_asm); (· k_asm); (· first | exact rfl | assumption); (· ktr_room); (· ktr_units); (· first | assumption | decide | omega | l_fact); (· first | assumption | decide | omega | l_fact); intro t9 h9 tk9 F9 N9;  (try dsimp only); (try k_fold))))
  all_goals refine wpAny_call ?_
  all_goals (k_dflt cell_enter)
  all_goals k_steps
  (rename News _ _ _ _ => nE)
  rw [band_mask] at nE
  exact ret _ _ _ _ _ _ (by assumption) (by first | assumption | exact le1 (by assumption) | exact le2 (by assumption) | exact le3 (by assumption)) (by first | assumption | exact ktn_ltOf (by assumption))
set_option maxRecDepth 100000 in
set_option maxHeartbeats 4000000 in
theorem is_known_spec {u : Addr} {k x y : Int} {t1 t2 t3 : Tok} (B : Below A₀ base outer h₀) (F : Fr h₀ L s.heap m) (X : (hd.heap_39 w.params).In h₀) (N : News h₀ L s.heap news) (T : Top hd.view_39 (looseW hd.view_39 []) mean mg mb h₀) (hk : cs.kind = .function)
   (hd : dp + 2 < recursionLimit) (hu : un + 16 < cLine) (mu : (u, vecO k x y t1 t2 t3) ∈ news)
   (ret : ∀ h' tk', Fr h₀ L h' m → News h₀ L h' news → Q (.bool (y == 0)) { s with heap := h', toks := tk' }) :
   wpAny (model (PySem.Challenge.rw_nn0305_01.row.prog) w) (ktrTop dp un gd cn cs L a ccd cl outer) (call (.ref 49) [.ref u]) Q E s := by
  w_top off
  revert X
  k_fill
  intro X
  k_with_none
  k_with "call ref" => ((k_here; (with_reducible show wpAny _ _ (call (Value.ref 21) _) _ _ _); k_dflt (refine' mask_spec ?_ ?_ ?_ ?_ ?_ ?_ ?_ ?_ ?_ ?_ ?_; rotate_right 11; (· k_asm); (· k_asm); (· k_asm); (· k_asm); (· k_asm); (· first | exact rfl | assumption); (· ktr_room); (· ktr_units); (· first | assumption | decide | omega | l_fact); (· first | assumption | decide | omega | l_fact); intro t9 h9 tk9 F9 N9;  (try dsimp only); (try k_fold))))
  all_goals refine wpAny_call ?_
  all_goals (k_dflt cell_enter)
  all_goals k_steps
  exact ret _ _ (by assumption) (by assumption)
set_option maxRecDepth 100000 in
set_option maxHeartbeats 4000000 in
theorem to_int_spec {u : Addr} {k x y : Int} {t1 t2 t3 : Tok} {sg : Bool} {o : Option Int} (B : Below A₀ base outer h₀) (F : Fr h₀ L s.heap m) (X : (hd.heap_39 w.params).In h₀) (N : News h₀ L s.heap news) (T : Top hd.view_39 (looseW hd.view_39 []) mean mg mb h₀) (hk : cs.kind = .function)
   (hd : dp + 2 < recursionLimit) (hu : un + 16 < cLine) (mu : (u, vecO k x y t1 t2 t3) ∈ news) (h0 : 1 ≤ k) (h1 : k ≤ 40) (ho : toInt k x y sg = o)
   (ret : ∀ t h' tk', Fr h₀ L h' m → News h₀ L h' news → Q (oV (o) t) { s with heap := h', toks := tk' }) :
   wpAny (model (PySem.Challenge.rw_nn0305_01.row.prog) w) (ktrTop dp un gd cn cs L a ccd cl outer) (call (.ref 56) [.ref u, .bool sg]) Q E s := by
  w_top off
  revert X
  k_fill
  intro X
  k_with_none
  k_with "call ref" => ((k_here; (with_reducible show wpAny _ _ (call (Value.ref 21) _) _ _ _); k_dflt (refine' mask_spec ?_ ?_ ?_ ?_ ?_ ?_ ?_ ?_ ?_ ?_ ?_; rotate_right 11; (· k_asm); (· k_asm); (· k_asm); (· k_asm); (· k_asm); (· first | exact rfl | assumption); (· ktr_room); (· ktr_units); (· first | assumption | decide | omega | l_fact); (· first | assumption | decide | omega | l_fact); intro t9 h9 tk9 F9 N9;  (try dsimp only); (try k_fold))))
  all_goals refine wpAny_call ?_
  all_goals (k_dflt cell_enter)
  all_goals k_steps
  · exact retN ret (by subst ho; unfold toInt; rw [if_neg]; assumption) (by assumption) (by assumption)
  · exact retI ret (by subst ho; unfold toInt; rw [if_pos (by assumption), if_pos ⟨by assumption, by assumption⟩, Int.one_mul]) (by assumption) (by assumption)
  · exact retI ret (by subst ho; unfold toInt; rw [if_pos (by assumption), if_neg (by rintro ⟨-, h⟩; exact absurd h (by assumption))]) (by assumption) (by assumption)
  · exact retI ret (by subst ho; unfold toInt; rw [if_pos (by assumption), if_neg (by rintro ⟨h, -⟩; first | exact absurd h (by assumption) | (rename (_ = false) => q; rw [q] at h; cases h))]) (by assumption) (by assumption)

end
section
variable {w : World} {mean : ExcName → Option Value} {mg mb : Str → Option Value} {dp un : Nat} {gd : Option (List Code)} {cn : Str} {cs : Scope} {a : Addr} {ccd : Value} {cl : List (Str × Addr)} {outer : List Env} {A₀ : Around} {base h₀ : Heap} {L : Addr} {m : Str → Option Value} {news : List (Addr × Obj)} {s : Shared} {Q E : Value → Shared → Prop}
set_option maxRecDepth 100000 in
set_option maxHeartbeats 4000000 in
theorem add_spec {u v : Addr} {k x y k2 x2 y2 : Int} {t1 t2 t3 t4 t5 t6 : Tok} (B : Below A₀ base outer h₀) (F : Fr h₀ L s.heap m) (X : (hd.heap_39 w.params).In h₀) (N : News h₀ L s.heap news) (T : Top hd.view_39 (looseW hd.view_39 []) mean mg mb h₀) (hk : cs.kind = .function)
   (hd : dp + 6 < recursionLimit) (hu : un + 48 < cLine) (mu : (u, vecO k x y t1 t2 t3) ∈ news) (mv : (v, vecO k2 x2 y2 t4 t5 t6) ∈ news) (h0 : 0 ≤ k) (h1 : k ≤ 40)
   (ret : ∀ r t1 t2 t3 h' tk', Fr h₀ L h' m → News h₀ L h' ((r, vecO (k) (vA k (if y = 0 ∧ y2 = 0 then some (x + x2) else none)) (vB k (if y = 0 ∧ y2 = 0 then some (x + x2) else none)) t1 t2 t3) :: news) → (∀ p ∈ news, p.1 < r) → Q (.ref r) { s with heap := h', toks := tk' }) :
   wpAny (model (PySem.Challenge.rw_nn0305_01.row.prog) w) (ktrTop dp un gd cn cs L a ccd cl outer) (call (.ref 70) [.ref u, .ref v]) Q E s := by
  w_top off
  revert X
  k_fill
  intro X
  k_with_none
  k_with "call ref" => ((k_here; (with_reducible show wpAny _ _ (call (Value.ref 49) _) _ _ _); k_dflt (refine' is_known_spec ?_ ?_ ?_ ?_ ?_ ?_ ?_ ?_ ?_ ?_; rotate_right 10; (· k_asm); (· k_asm); (· k_asm); (· k_asm); (· k_asm); (· first | exact rfl | assumption); (· ktr_room); (· ktr_units); (· k_mem); intro h9 tk9 F9 N9;  (try dsimp only); (try k_fold))))
  k_with "call ref" => ((k_here; (with_reducible show wpAny _ _ (call (Value.ref 35) _) _ _ _); k_dflt (refine' all_x_spec ?_ ?_ ?_ ?_ ?_ ?_ ?_ ?_ ?_ ?_ ?_; rotate_right 11; (· k_asm); (· k_asm); (· k_asm); (· k_asm); (· k_asm); (· first | exact rfl | assumption); (· ktr_room); (· ktr_units); (· first | assumption | decide | omega | l_fact); (· first | assumption | decide | omega | l_fact); intro r9 t91 t92 t93 h9 tk9 F9 N9 l9;  (try dsimp only); (try k_fold))))
  k_with "call ref" => ((k_here; (with_reducible show wpAny _ _ (call (Value.ref 42) _) _ _ _); k_dflt (refine' from_int_spec ?_ ?_ ?_ ?_ ?_ ?_ ?_ ?_ ?_ ?_ ?_; rotate_right 11; (· k_asm); (· k_asm); (· k_asm); (· k_asm); (· k_asm); (· first | exact rfl | assumption); (· ktr_room); (· ktr_units); (· first | assumption | decide | omega | l_fact); (· first | assumption | decide | omega | l_fact); intro r9 t91 t92 t93 h9 tk9 F9 N9 l9;  (try dsimp only); (try k_fold))))
  all_goals refine wpAny_call ?_
  all_goals (k_dflt cell_enter)
  all_goals k_steps
  all_goals (refine' retV ret ?e ?F ?N ?l; (case F => assumption); (case N => (first | assumption | (refine le1 ?_; assumption) | (refine le2 ?_; assumption) | (refine le3 ?_; assumption))); (case l => (first | assumption | (refine ktn_ltOf ?_; assumption))); (case e => first | (refine if_pos ?_; assumption) | (refine if_pos (And.intro ?_ ?_) <;> assumption) | (refine if_neg ?_; assumption) | (refine if_neg (fun q => absurd q.1 ?_); assumption) | (refine if_neg (fun q => absurd q.2 ?_); assumption)))
set_option maxRecDepth 100000 in
set_option maxHeartbeats 4000000 in
theorem sub_spec {u v : Addr} {k x y k2 x2 y2 : Int} {t1 t2 t3 t4 t5 t6 : Tok} (B : Below A₀ base outer h₀) (F : Fr h₀ L s.heap m) (X : (hd.heap_39 w.params).In h₀) (N : News h₀ L s.heap news) (T : Top hd.view_39 (looseW hd.view_39 []) mean mg mb h₀) (hk : cs.kind = .function)
   (hd : dp + 6 < recursionLimit) (hu : un + 48 < cLine) (mu : (u, vecO k x y t1 t2 t3) ∈ news) (mv : (v, vecO k2 x2 y2 t4 t5 t6) ∈ news) (h0 : 0 ≤ k) (h1 : k ≤ 40)
   (ret : ∀ r t1 t2 t3 h' tk', Fr h₀ L h' m → News h₀ L h' ((r, vecO (k) (vA k (if y = 0 ∧ y2 = 0 then some (x - x2) else none)) (vB k (if y = 0 ∧ y2 = 0 then some (x - x2) else none)) t1 t2 t3) :: news) → (∀ p ∈ news, p.1 < r) → Q (.ref r) { s with heap := h', toks := tk' }) :
   wpAny (model (PySem.Challenge.rw_nn0305_01.row.prog) w) (ktrTop dp un gd cn cs L a ccd cl outer) (call (.ref 77) [.ref u, .ref v]) Q E s := by
  w_top off
  revert X
  k_fill
  intro X
  k_with_none
  k_with "call ref" => ((k_here; (with_reducible show wpAny _ _ (call (Value.ref 49) _) _ _ _); k_dflt (refine' is_known_spec ?_ ?_ ?_ ?_ ?_ ?_ ?_ ?_ ?_ ?_; rotate_right 10; (· k_asm); (· k_asm); (· k_asm); (· k_asm); (· k_asm); (· first | exact rfl | assumption); (· ktr_room); (· ktr_units); (· k_mem); intro h9 tk9 F9 N9;  (try dsimp only); (try k_fold))))
  k_with "call ref" => ((k_here; (with_reducible show wpAny _ _ (call (Value.ref 35) _) _ _ _); k_dflt (refine' all_x_spec ?_ ?_ ?_ ?_ ?_ ?_ ?_ ?_ ?_ ?_ ?_; rotate_right 11; (· k_asm); (· k_asm); (· k_asm); (· k_asm); (· k_asm); (· first | exact rfl | assumption); (· ktr_room); (· ktr_units); (· first | assumption | decide | omega | l_fact); (· first | assumption | decide | omega | l_fact); intro r9 t91 t92 t93 h9 tk9 F9 N9 l9;  (try dsimp only); (try k_fold))))
  k_with "call ref" => ((k_here; (with_reducible show wpAny _ _ (call (Value.ref 42) _) _ _ _); k_dflt (refine' from_int_spec ?_ ?_ ?_ ?_ ?_ ?_ ?_ ?_ ?_ ?_ ?_; rotate_right 11; (· k_asm); (· k_asm); (· k_asm); (· k_asm); (· k_asm); (· first | exact rfl | assumption); (· ktr_room); (· ktr_units); (· first | assumption | decide | omega | l_fact); (· first | assumption | decide | omega | l_fact); intro r9 t91 t92 t93 h9 tk9 F9 N9 l9;  (try dsimp only); (try k_fold))))
  all_goals refine wpAny_call ?_
  all_goals (k_dflt cell_enter)
  all_goals k_steps
  all_goals (refine' retV ret ?e ?F ?N ?l; (case F => assumption); (case N => (first | assumption | (refine le1 ?_; assumption) | (refine le2 ?_; assumption) | (refine le3 ?_; assumption))); (case l => (first | assumption | (refine ktn_ltOf ?_; assumption))); (case e => first | (refine if_pos ?_; assumption) | (refine if_pos (And.intro ?_ ?_) <;> assumption) | (refine if_neg ?_; assumption) | (refine if_neg (fun q => absurd q.1 ?_); assumption) | (refine if_neg (fun q => absurd q.2 ?_); assumption)))
set_option maxRecDepth 100000 in
set_option maxHeartbeats 4000000 in
theorem mul_spec {u v : Addr} {k x y k2 x2 y2 : Int} {t1 t2 t3 t4 t5 t6 : Tok} (B : Below A₀ base outer h₀) (F : Fr h₀ L s.heap m) (X : (hd.heap_39 w.params).In h₀) (N : News h₀ L s.heap news) (T : Top hd.view_39 (looseW hd.view_39 []) mean mg mb h₀) (hk : cs.kind = .function)
   (hd : dp + 6 < recursionLimit) (hu : un + 48 < cLine) (mu : (u, vecO k x y t1 t2 t3) ∈ news) (mv : (v, vecO k2 x2 y2 t4 t5 t6) ∈ news) (h0 : 0 ≤ k) (h1 : k ≤ 40) (b1 : 0 ≤ x) (b2 : x < 2097152) (b3 : 0 ≤ x2) (b4 : x2 < 2097152)
   (ret : ∀ r t1 t2 t3 h' tk', Fr h₀ L h' m → News h₀ L h' ((r, vecO (k) (vA k (if y = 0 ∧ y2 = 0 then some (x * x2) else none)) (vB k (if y = 0 ∧ y2 = 0 then some (x * x2) else none)) t1 t2 t3) :: news) → (∀ p ∈ news, p.1 < r) → Q (.ref r) { s with heap := h', toks := tk' }) :
   wpAny (model (PySem.Challenge.rw_nn0305_01.row.prog) w) (ktrTop dp un gd cn cs L a ccd cl outer) (call (.ref 84) [.ref u, .ref v]) Q E s := by
  w_top off
  revert X
  k_fill
  intro X
  k_with_none
  k_with "call ref" => ((k_here; (with_reducible show wpAny _ _ (call (Value.ref 49) _) _ _ _); k_dflt (refine' is_known_spec ?_ ?_ ?_ ?_ ?_ ?_ ?_ ?_ ?_ ?_; rotate_right 10; (· k_asm); (· k_asm); (· k_asm); (· k_asm); (· k_asm); (· first | exact rfl | assumption); (· ktr_room); (· ktr_units); (· k_mem); intro h9 tk9 F9 N9;  (try dsimp only); (try k_fold))))
  k_with "call ref" => ((k_here; (with_reducible show wpAny _ _ (call (Value.ref 35) _) _ _ _); k_dflt (refine' all_x_spec ?_ ?_ ?_ ?_ ?_ ?_ ?_ ?_ ?_ ?_ ?_; rotate_right 11; (· k_asm); (· k_asm); (· k_asm); (· k_asm); (· k_asm); (· first | exact rfl | assumption); (· ktr_room); (· ktr_units); (· first | assumption | decide | omega | l_fact); (· first | assumption | decide | omega | l_fact); intro r9 t91 t92 t93 h9 tk9 F9 N9 l9;  (try dsimp only); (try k_fold))))
  k_with "call ref" => ((k_here; (with_reducible show wpAny _ _ (call (Value.ref 42) _) _ _ _); k_dflt (refine' from_int_spec ?_ ?_ ?_ ?_ ?_ ?_ ?_ ?_ ?_ ?_ ?_; rotate_right 11; (· k_asm); (· k_asm); (· k_asm); (· k_asm); (· k_asm); (· first | exact rfl | assumption); (· ktr_room); (· ktr_units); (· first | assumption | decide | omega | l_fact); (· first | assumption | decide | omega | l_fact); intro r9 t91 t92 t93 h9 tk9 F9 N9 l9;  (try dsimp only); (try k_fold))))
  all_goals refine wpAny_call ?_
  all_goals (k_dflt cell_enter)
  all_goals k_steps
  all_goals (refine' retV ret ?e ?F ?N ?l; (case F => assumption); (case N => (first | assumption | (refine le1 ?_; assumption) | (refine le2 ?_; assumption) | (refine le3 ?_; assumption))); (case l => (first | assumption | (refine ktn_ltOf ?_; assumption))); (case e => first | (refine if_pos ?_; assumption) | (refine if_pos (And.intro ?_ ?_) <;> assumption) | (refine if_neg ?_; assumption) | (refine if_neg (fun q => absurd q.1 ?_); assumption) | (refine if_neg (fun q => absurd q.2 ?_); assumption)))
set_option maxRecDepth 100000 in
set_option maxHeartbeats 4000000 in
theorem neg_spec {u : Addr} {k x y : Int} {t1 t2 t3 : Tok} (B : Below A₀ base outer h₀) (F : Fr h₀ L s.heap m) (X : (hd.heap_39 w.params).In h₀) (N : News h₀ L s.heap news) (T : Top hd.view_39 (looseW hd.view_39 []) mean mg mb h₀) (hk : cs.kind = .function)
   (hd : dp + 6 < recursionLimit) (hu : un + 48 < cLine) (mu : (u, vecO k x y t1 t2 t3) ∈ news) (h0 : 0 ≤ k) (h1 : k ≤ 40)
   (ret : ∀ r t1 t2 t3 h' tk', Fr h₀ L h' m → News h₀ L h' ((r, vecO (k) (vA k (if y = 0 then some (0 - x) else none)) (vB k (if y = 0 then some (0 - x) else none)) t1 t2 t3) :: news) → (∀ p ∈ news, p.1 < r) → Q (.ref r) { s with heap := h', toks := tk' }) :
   wpAny (model (PySem.Challenge.rw_nn0305_01.row.prog) w) (ktrTop dp un gd cn cs L a ccd cl outer) (call (.ref 91) [.ref u]) Q E s := by
  w_top off
  revert X
  k_fill
  intro X
  k_with_none
  k_with "call ref" => ((k_here; (with_reducible show wpAny _ _ (call (Value.ref 49) _) _ _ _); k_dflt (refine' is_known_spec ?_ ?_ ?_ ?_ ?_ ?_ ?_ ?_ ?_ ?_; rotate_right 10; (· k_asm); (· k_asm); (· k_asm); (· k_asm); (· k_asm); (· first | exact rfl | assumption); (· ktr_room); (· ktr_units); (· k_mem); intro h9 tk9 F9 N9;  (try dsimp only); (try k_fold))))
  k_with "call ref" => ((k_here; (with_reducible show wpAny _ _ (call (Value.ref 35) _) _ _ _); k_dflt (refine' all_x_spec ?_ ?_ ?_ ?_ ?_ ?_ ?_ ?_ ?_ ?_ ?_; rotate_right 11; (· k_asm); (· k_asm); (· k_asm); (· k_asm); (· k_asm); (· first | exact rfl | assumption); (· ktr_room); (· ktr_units); (· first | assumption | decide | omega | l_fact); (· first | assumption | decide | omega | l_fact); intro r9 t91 t92 t93 h9 tk9 F9 N9 l9;  (try dsimp only); (try k_fold))))
  k_with "call ref" => ((k_here; (with_reducible show wpAny _ _ (call (Value.ref 42) _) _ _ _); k_dflt (refine' from_int_spec ?_ ?_ ?_ ?_ ?_ ?_ ?_ ?_ ?_ ?_ ?_; rotate_right 11; (· k_asm); (· k_asm); (· k_asm); (· k_asm); (· k_asm); (· first | exact rfl | assumption); (· ktr_room); (· ktr_units); (· first | assumption | decide | omega | l_fact); (· first | assumption | decide | omega | l_fact); intro r9 t91 t92 t93 h9 tk9 F9 N9 l9;  (try dsimp only); (try k_fold))))
  all_goals refine wpAny_call ?_
  all_goals (k_dflt cell_enter)
  all_goals k_steps
  all_goals (refine' retV ret ?e ?F ?N ?l; (case F => assumption); (case N => (first | assumption | (refine le1 ?_; assumption) | (refine le2 ?_; assumption) | (refine le3 ?_; assumption))); (case l => (first | assumption | (refine ktn_ltOf ?_; assumption))); (case e => first | (refine if_pos ?_; assumption) | (refine if_pos (And.intro ?_ ?_) <;> assumption) | (refine if_neg ?_; assumption) | (refine if_neg (fun q => absurd q.1 ?_); assumption) | (refine if_neg (fun q => absurd q.2 ?_); assumption)))

end
section

def ab (a : Int) : Int := if a < 0 then -a else a
def qt (m n : Int) : Int := if (decide (m < 0) != decide (n < 0)) = true then 0 - (ab m).fdiv (ab n) else (ab m).fdiv (ab n)
def dvo : Option Int → Option Int → Option Int
  | some m, some n => if n = 0 then none else some (qt m n)
  | _, _ => none
def mdo : Option Int → Option Int → Option Int
  | some m, some n => if n = 0 then none else some (m - n * qt m n)
  | _, _ => none
def odo : Option Int → Option Int → Option Int
  | some m, some n => if m = n then some 0 else if m < n then some (-1) else some 1
  | _, _ => none
theorem ab_bound {a : Int} (h1 : -2097152 ≤ a) (h2 : a ≤ 2097152) : 0 ≤ ab a ∧ ab a ≤ 2097152 := by unfold ab; split <;> omega
theorem qt_bound {m n : Int} (b1 : -2097152 ≤ m) (b2 : m ≤ 2097152) : -2097152 ≤ qt m n ∧ qt m n ≤ 2097152 := by
  have h1 := ab_bound b1 b2
  have h3 : 0 ≤ ab n := by unfold ab; split <;> omega
  have h4 : 0 ≤ (ab m).fdiv (ab n) := Int.fdiv_nonneg h1.1 h3
  have h5 : (ab m).fdiv (ab n) ≤ ab m := by
    rw [Int.fdiv_eq_ediv_of_nonneg _ h3]
    exact Int.ediv_le_self _ h1.1
  unfold qt
  split <;> omega
variable {w : World} {mean : ExcName → Option Value} {mg mb : Str → Option Value} {dp un : Nat} {gd : Option (List Code)} {cn : Str} {cs : Scope} {a : Addr} {ccd : Value} {cl : List (Str × Addr)} {outer : List Env} {A₀ : Around} {base h₀ : Heap} {L : Addr} {m : Str → Option Value} {news : List (Addr × Obj)} {s : Shared} {Q E : Value → Shared → Prop}

set_option maxRecDepth 100000 in
set_option maxHeartbeats 4000000 in
theorem quotient_spec {m1 n1 : Int} {t t1 : Tok} (B : Below A₀ base outer h₀) (F : Fr h₀ L s.heap m) (X : (hd.heap_39 w.params).In h₀) (N : News h₀ L s.heap news) (T : Top hd.view_39 (looseW hd.view_39 []) mean mg mb h₀) (hk : cs.kind = .function)
   (hd : dp + 2 < recursionLimit) (hu : un + 16 < cLine) (hn : n1 ≠ 0) (b1 : -2097152 ≤ m1) (b2 : m1 ≤ 2097152) (b3 : -2097152 ≤ n1) (b4 : n1 ≤ 2097152)
   (ret : ∀ t h' tk', Fr h₀ L h' m → News h₀ L h' news → -2097152 ≤ qt m1 n1 → qt m1 n1 ≤ 2097152 → Q (.int (qt m1 n1) t) { s with heap := h', toks := tk' }) :
   wpAny (model (PySem.Challenge.rw_nn0305_01.row.prog) w) (ktrTop dp un gd cn cs L a ccd cl outer) (call (.ref 98) [.int m1 t, .int n1 t1]) Q E s := by
  w_top off
  revert X
  k_fill
  intro X
  k_with_none
  k_with "binaryOp FloorDiv int int" => ((k_here; k_dflt (refine' floordiv_int ?_ ?_ (Or.inl (PyProof.noPylong_small ?_)); rotate_right 3; (· (split <;> omega)); rotate_left 1; (· (split <;> omega)); rotate_right 1)))
  all_goals refine wpAny_call ?_
  all_goals (k_dflt cell_enter)
  all_goals k_steps
  all_goals refine retZ (fun t h' tk' F N => ret t h' tk' F N (qt_bound b1 b2).1 (qt_bound b1 b2).2) ?_ (by assumption) (by assumption)
  all_goals (first | (refine if_pos ?_; assumption) | (refine if_neg ?_; rename ((_ != _) = false) => q; rw [q]; decide))
set_option maxRecDepth 100000 in
set_option maxHeartbeats 4000000 in
theorem ordered_spec {u v : Addr} {k x y k2 x2 y2 : Int} {t1 t2 t3 t4 t5 t6 : Tok} {sg : Bool} {o o2 : Option Int} (B : Below A₀ base outer h₀) (F : Fr h₀ L s.heap m) (X : (hd.heap_39 w.params).In h₀) (N : News h₀ L s.heap news) (T : Top hd.view_39 (looseW hd.view_39 []) mean mg mb h₀) (hk : cs.kind = .function)
   (hd : dp + 4 < recursionLimit) (hu : un + 32 < cLine) (mu : (u, vecO k x y t1 t2 t3) ∈ news) (mv : (v, vecO k2 x2 y2 t4 t5 t6) ∈ news) (h0 : 1 ≤ k) (h1 : k ≤ 40) (h2 : 1 ≤ k2) (h3 : k2 ≤ 40) (ho : toInt k x y sg = o) (ho2 : toInt k2 x2 y2 sg = o2)
   (ret : ∀ t h' tk', Fr h₀ L h' m → News h₀ L h' news → Q (oV (odo o o2) t) { s with heap := h', toks := tk' }) :
   wpAny (model (PySem.Challenge.rw_nn0305_01.row.prog) w) (ktrTop dp un gd cn cs L a ccd cl outer) (call (.ref 154) [.ref u, .ref v, .bool sg]) Q E s := by
  w_top off
  revert X
  k_fill
  intro X
  rcases o with _ | m1 <;> rcases o2 with _ | n1
  k_with_none
  k_with "binaryOp FloorDiv int int" => ((k_here; k_dflt (refine' floordiv_int ?_ ?_ (Or.inl (PyProof.noPylong_small ?_)); rotate_right 3; (· (split <;> omega)); rotate_left 1; (· (split <;> omega)); rotate_right 1)))
  k_with "eval Call" => ((k_here; k_dflt (refine Call_ ?_)))
  k_with "call ref" => ((k_here; (with_reducible show wpAny _ _ (call (Value.ref 56) _) _ _ _); k_dflt (refine' to_int_spec ?_ ?_ ?_ ?_ ?_ ?_ ?_ ?_ ?_ ?_ ?_ ?_ ?_; rotate_right 13; (· k_asm); (· k_asm); (· k_asm); (· k_asm); (· k_asm); (· first | exact rfl | assumption); (· ktr_room); (· ktr_units); (· k_mem); (· first | assumption | decide | omega | l_fact); (· first | assumption | decide | omega | l_fact); (· first | assumption | rfl); intro t9 h9 tk9 F9 N9; (try dsimp only [oV]); (try dsimp only); (try k_fold))))
  k_with "call ref" => ((k_here; (with_reducible show wpAny _ _ (call (Value.ref 35) _) _ _ _); k_dflt (refine' all_x_spec ?_ ?_ ?_ ?_ ?_ ?_ ?_ ?_ ?_ ?_ ?_; rotate_right 11; (· k_asm); (· k_asm); (· k_asm); (· k_asm); (· k_asm); (· first | exact rfl | assumption); (· ktr_room); (· ktr_units); (· first | assumption | decide | omega | l_fact); (· first | assumption | decide | omega | l_fact); intro r9 t91 t92 t93 h9 tk9 F9 N9 l9;  (try dsimp only); (try k_fold))))
  k_with "call ref" => ((k_here; (with_reducible show wpAny _ _ (call (Value.ref 42) _) _ _ _); k_dflt (refine' from_int_spec ?_ ?_ ?_ ?_ ?_ ?_ ?_ ?_ ?_ ?_ ?_; rotate_right 11; (· k_asm); (· k_asm); (· k_asm); (· k_asm); (· k_asm); (· first | exact rfl | assumption); (· ktr_room); (· ktr_units); (· first | assumption | decide | omega | l_fact); (· first | assumption | decide | omega | l_fact); intro r9 t91 t92 t93 h9 tk9 F9 N9 l9;  (try dsimp only); (try k_fold))))
  k_with "call ref" => ((k_here; (with_reducible show wpAny _ _ (call (Value.ref 98) _) _ _ _); k_dflt (refine' quotient_spec ?_ ?_ ?_ ?_ ?_ ?_ ?_ ?_ ?_ ?_ ?_ ?_ ?_ ?_; rotate_right 14; (· k_asm); (· k_asm); (· k_asm); (· k_asm); (· k_asm); (· first | exact rfl | assumption); (· ktr_room); (· ktr_units); (· first | assumption | decide | omega | l_fact); (· first | assumption | decide | omega | l_fact); (· first | assumption | decide | omega | l_fact); (· first | assumption | decide | omega | l_fact); (· first | assumption | decide | omega | l_fact); intro t9 h9 tk9 F9 N9 q91 q92;  (try dsimp only); (try k_fold))))
  all_goals refine wpAny_call ?_
  all_goals (k_dflt cell_enter)
  all_goals k_steps
  all_goals first
    | (refine' retN ret ?e ?F ?N; (case F => assumption); (case N => assumption); (case e => rfl))
    | (refine' retI ret ?e ?F ?N; (case F => assumption); (case N => assumption); (case e => (dsimp only [odo]; first | (refine if_pos ?_; assumption) | (rw [if_neg (by assumption)]; first | (refine if_pos ?_; assumption) | (refine if_neg ?_; assumption)))))
set_option maxRecDepth 100000 in
set_option maxHeartbeats 4000000 in
theorem div_spec {u v : Addr} {k x y k2 x2 y2 : Int} {t1 t2 t3 t4 t5 t6 : Tok} {sg : Bool} {o o2 : Option Int} (B : Below A₀ base outer h₀) (F : Fr h₀ L s.heap m) (X : (hd.heap_39 w.params).In h₀) (N : News h₀ L s.heap news) (T : Top hd.view_39 (looseW hd.view_39 []) mean mg mb h₀) (hk : cs.kind = .function)
   (hd : dp + 6 < recursionLimit) (hu : un + 48 < cLine) (mu : (u, vecO k x y t1 t2 t3) ∈ news) (mv : (v, vecO k2 x2 y2 t4 t5 t6) ∈ news) (h0 : 1 ≤ k) (h1 : k ≤ 40) (h2 : 1 ≤ k2) (h3 : k2 ≤ 40) (ho : toInt k x y sg = o) (ho2 : toInt k2 x2 y2 sg = o2) (bo : ∀ i, o = some i → -2097152 ≤ i ∧ i ≤ 2097152) (bo2 : ∀ i, o2 = some i → -2097152 ≤ i ∧ i ≤ 2097152)
   (ret : ∀ r t1 t2 t3 h' tk', Fr h₀ L h' m → News h₀ L h' ((r, vecO (k) (vA k (dvo o o2)) (vB k (dvo o o2)) t1 t2 t3) :: news) → (∀ p ∈ news, p.1 < r) → Q (.ref r) { s with heap := h', toks := tk' }) :
   wpAny (model (PySem.Challenge.rw_nn0305_01.row.prog) w) (ktrTop dp un gd cn cs L a ccd cl outer) (call (.ref 105) [.ref u, .ref v, .bool sg]) Q E s := by
  w_top off
  revert X
  k_fill
  intro X
  rcases o with _ | m1 <;> rcases o2 with _ | n1
  all_goals (try (have bo3 := bo _ rfl))
  all_goals (try (have bo4 := bo2 _ rfl))
  all_goals (try (obtain ⟨bo5, bo6⟩ := bo3))
  all_goals (try (obtain ⟨bo7, bo8⟩ := bo4))
  k_with_none
  k_with "binaryOp FloorDiv int int" => ((k_here; k_dflt (refine' floordiv_int ?_ ?_ (Or.inl (PyProof.noPylong_small ?_)); rotate_right 3; (· (split <;> omega)); rotate_left 1; (· (split <;> omega)); rotate_right 1)))
  k_with "eval Call" => ((k_here; k_dflt (refine Call_ ?_)))
  k_with "call ref" => ((k_here; (with_reducible show wpAny _ _ (call (Value.ref 56) _) _ _ _); k_dflt (refine' to_int_spec ?_ ?_ ?_ ?_ ?_ ?_ ?_ ?_ ?_ ?_ ?_ ?_ ?_; rotate_right 13; (· k_asm); (· k_asm); (· k_asm); (· k_asm); (· k_asm); (· first | exact rfl | assumption); (· ktr_room); (· ktr_units); (· k_mem); (· first | assumption | decide | omega | l_fact); (· first | assumption | decide | omega | l_fact); (· first | assumption | rfl); intro t9 h9 tk9 F9 N9; (try dsimp only [oV]); (try dsimp only); (try k_fold))))
  k_with "call ref" => ((k_here; (with_reducible show wpAny _ _ (call (Value.ref 35) _) _ _ _); k_dflt (refine' all_x_spec ?_ ?_ ?_ ?_ ?_ ?_ ?_ ?_ ?_ ?_ ?_; rotate_right 11; (· k_asm); (· k_asm); (· k_asm); (· k_asm); (· k_asm); (· first | exact rfl | assumption); (· ktr_room); (· ktr_units); (· first | assumption | decide | omega | l_fact); (· first | assumption | decide | omega | l_fact); intro r9 t91 t92 t93 h9 tk9 F9 N9 l9;  (try dsimp only); (try k_fold))))
  k_with "call ref" => ((k_here; (with_reducible show wpAny _ _ (call (Value.ref 42) _) _ _ _); k_dflt (refine' from_int_spec ?_ ?_ ?_ ?_ ?_ ?_ ?_ ?_ ?_ ?_ ?_; rotate_right 11; (· k_asm); (· k_asm); (· k_asm); (· k_asm); (· k_asm); (· first | exact rfl | assumption); (· ktr_room); (· ktr_units); (· first | assumption | decide | omega | l_fact); (· first | assumption | decide | omega | l_fact); intro r9 t91 t92 t93 h9 tk9 F9 N9 l9;  (try dsimp only); (try k_fold))))
  k_with "call ref" => ((k_here; (with_reducible show wpAny _ _ (call (Value.ref 98) _) _ _ _); k_dflt (refine' quotient_spec ?_ ?_ ?_ ?_ ?_ ?_ ?_ ?_ ?_ ?_ ?_ ?_ ?_ ?_; rotate_right 14; (· k_asm); (· k_asm); (· k_asm); (· k_asm); (· k_asm); (· first | exact rfl | assumption); (· ktr_room); (· ktr_units); (· first | assumption | decide | omega | l_fact); (· first | assumption | decide | omega | l_fact); (· first | assumption | decide | omega | l_fact); (· first | assumption | decide | omega | l_fact); (· first | assumption | decide | omega | l_fact); intro t9 h9 tk9 F9 N9 q91 q92;  (try dsimp only); (try k_fold))))
  all_goals refine wpAny_call ?_
  all_goals (k_dflt cell_enter)
  all_goals k_steps
  all_goals (refine' retV ret ?e ?F ?N ?l; (case F => assumption); (case N => (first | assumption | (refine le1 ?_; assumption) | (refine le2 ?_; assumption) | (refine le3 ?_; assumption))); (case l => (first | assumption | (refine ktn_ltOf ?_; assumption))); (case e => first | rfl | (dsimp only [dvo, mdo]; first | (refine if_pos ?_; assumption) | (refine if_pos (And.intro ?_ ?_) <;> assumption) | (refine if_neg ?_; assumption) | (refine if_neg (fun q => absurd q.1 ?_); assumption) | (refine if_neg (fun q => absurd q.2 ?_); assumption))))
set_option maxRecDepth 100000 in
set_option maxHeartbeats 4000000 in
theorem mod_spec {u v : Addr} {k x y k2 x2 y2 : Int} {t1 t2 t3 t4 t5 t6 : Tok} {sg : Bool} {o o2 : Option Int} (B : Below A₀ base outer h₀) (F : Fr h₀ L s.heap m) (X : (hd.heap_39 w.params).In h₀) (N : News h₀ L s.heap news) (T : Top hd.view_39 (looseW hd.view_39 []) mean mg mb h₀) (hk : cs.kind = .function)
   (hd : dp + 6 < recursionLimit) (hu : un + 48 < cLine) (mu : (u, vecO k x y t1 t2 t3) ∈ news) (mv : (v, vecO k2 x2 y2 t4 t5 t6) ∈ news) (h0 : 1 ≤ k) (h1 : k ≤ 40) (h2 : 1 ≤ k2) (h3 : k2 ≤ 40) (ho : toInt k x y sg = o) (ho2 : toInt k2 x2 y2 sg = o2) (bo : ∀ i, o = some i → -2097152 ≤ i ∧ i ≤ 2097152) (bo2 : ∀ i, o2 = some i → -2097152 ≤ i ∧ i ≤ 2097152)
   (ret : ∀ r t1 t2 t3 h' tk', Fr h₀ L h' m → News h₀ L h' ((r, vecO (k) (vA k (mdo o o2)) (vB k (mdo o o2)) t1 t2 t3) :: news) → (∀ p ∈ news, p.1 < r) → Q (.ref r) { s with heap := h', toks := tk' }) :
   wpAny (model (PySem.Challenge.rw_nn0305_01.row.prog) w) (ktrTop dp un gd cn cs L a ccd cl outer) (call (.ref 112) [.ref u, .ref v, .bool sg]) Q E s := by
  w_top off
  revert X
  k_fill
  intro X
  rcases o with _ | m1 <;> rcases o2 with _ | n1
  all_goals (try (have bo3 := bo _ rfl))
  all_goals (try (have bo4 := bo2 _ rfl))
  all_goals (try (obtain ⟨bo5, bo6⟩ := bo3))
  all_goals (try (obtain ⟨bo7, bo8⟩ := bo4))
  k_with_none
  k_with "binaryOp FloorDiv int int" => ((k_here; k_dflt (refine' floordiv_int ?_ ?_ (Or.inl (PyProof.noPylong_small ?_)); rotate_right 3; (· (split <;> omega)); rotate_left 1; (· (split <;> omega)); rotate_right 1)))
  k_with "eval Call" => ((k_here; k_dflt (refine Call_ ?_)))
  k_with "call ref" => ((k_here; (with_reducible show wpAny _ _ (call (Value.ref 56) _) _ _ _); k_dflt (refine' to_int_spec ?_ ?_ ?_ ?_ ?_ ?_ ?_ ?_ ?_ ?_ ?_ ?_ ?_; rotate_right 13; (· k_asm); (· k_asm); (· k_asm); (· k_asm); (· k_asm); (· first | exact rfl | assumption); (· ktr_room); (· ktr_units); (· k_mem); (· first | assumption | decide | omega | l_fact); (· first | assumption | decide | omega | l_fact); (· first | assumption | rfl); intro t9 h9 tk9 F9 N9; (try dsimp only [oV]); (try dsimp only); (try k_fold))))
  k_with "call ref" => ((k_here; (with_reducible show wpAny _ _ (call (Value.ref 35) _) _ _ _); k_dflt (refine' all_x_spec ?_ ?_ ?_ ?_ ?_ ?_ ?_ ?_ ?_ ?_ ?_; rotate_right 11; (· k_asm); (· k_asm); (· k_asm); (· k_asm); (· k_asm); (· first | exact rfl | assumption); (· ktr_room); (· ktr_units); (· first | assumption | decide | omega | l_fact); (· first | assumption | decide | omega | l_fact); intro r9 t91 t92 t93 h9 tk9 F9 N9 l9;  (try dsimp only); (try k_fold))))
  k_with "call ref" => ((k_here; (with_reducible show wpAny _ _ (call (Value.ref 42) _) _ _ _); k_dflt (refine' from_int_spec ?_ ?_ ?_ ?_ ?_ ?_ ?_ ?_ ?_ ?_ ?_; rotate_right 11; (· k_asm); (· k_asm); (· k_asm); (· k_asm); (· k_asm); (· first | exact rfl | assumption); (· ktr_room); (· ktr_units); (· first | assumption | decide | omega | l_fact); (· first | assumption | decide | omega | l_fact); intro r9 t91 t92 t93 h9 tk9 F9 N9 l9;  (try dsimp only); (try k_fold))))
  k_with "call ref" => ((k_here; (with_reducible show wpAny _ _ (call (Value.ref 98) _) _ _ _); k_dflt (refine' quotient_spec ?_ ?_ ?_ ?_ ?_ ?_ ?_ ?_ ?_ ?_ ?_ ?_ ?_ ?_; rotate_right 14; (· k_asm); (· k_asm); (· k_asm); (· k_asm); (· k_asm); (· first | exact rfl | assumption); (· ktr_room); (· ktr_units); (· first | assumption | decide | omega | l_fact); (· first | assumption | decide | omega | l_fact); (· first | assumption | decide | omega | l_fact); (· first | assumption | decide | omega | l_fact); (· first | assumption | decide | omega | l_fact); intro t9 h9 tk9 F9 N9 q91 q92;  (try dsimp only); (try k_fold))))
  all_goals refine wpAny_call ?_
  all_goals (k_dflt cell_enter)
  all_goals k_steps
  all_goals (refine' retV ret ?e ?F ?N ?l; (case F => assumption); (case N => (first | assumption | (refine le1 ?_; assumption) | (refine le2 ?_; assumption) | (refine le3 ?_; assumption))); (case l => (first | assumption | (refine ktn_ltOf ?_; assumption))); (case e => first | rfl | (dsimp only [dvo, mdo]; first | (refine if_pos ?_; assumption) | (refine if_pos (And.intro ?_ ?_) <;> assumption) | (refine if_neg ?_; assumption) | (refine if_neg (fun q => absurd q.1 ?_); assumption) | (refine if_neg (fun q => absurd q.2 ?_); assumption))))

end
section
variable {w : World} {mean : ExcName → Option Value} {mg mb : Str → Option Value} {dp un : Nat} {gd : Option (List Code)} {cn : Str} {cs : Scope} {a : Addr} {ccd : Value} {cl : List (Str × Addr)} {outer : List Env} {A₀ : Around} {base h₀ : Heap} {L : Addr} {m : Str → Option Value} {news : List (Addr × Obj)} {s : Shared} {Q E : Value → Shared → Prop}
set_option maxRecDepth 100000 in
set_option maxHeartbeats 4000000 in
theorem raise_whole_spec {b e k : Int} {t t1 t2 : Tok} (B : Below A₀ base outer h₀) (F : Fr h₀ L s.heap m) (X : (hd.heap_39 w.params).In h₀) (N : News h₀ L s.heap news) (T : Top hd.view_39 (looseW hd.view_39 []) mean mg mb h₀) (hk : cs.kind = .function)
   (hd : dp + 4 < recursionLimit) (hu : un + 32 < cLine) (h0 : 1 ≤ k) (h1 : k ≤ 20) (e0 : 0 ≤ e) (e1 : e ≤ 4096)
   (ret : ∀ t h' tk', Fr h₀ L h' m → News h₀ L h' news → Q (.int (b ^ e.toNat % 2 ^ k.toNat) t) { s with heap := h', toks := tk' }) :
   wpAny (model (PySem.Challenge.rw_nn0305_01.row.prog) w) (ktrTop dp un gd cn cs L a ccd cl outer) (call (.ref 119) [.int b t, .int e t1, .int k t2]) Q E s := by
  w_top off
  revert X
  k_fill
  intro X
  have hM := pow20 h0 h1
  obtain ⟨hM1, hM2⟩ := hM
  k_with_none
  k_with "eval Call" => ((k_here; k_dflt (refine Call_ ?_)))
  k_with "call ref" => ((k_here; (with_reducible show wpAny _ _ (call (Value.ref 21) _) _ _ _); k_dflt (refine' mask_spec ?_ ?_ ?_ ?_ ?_ ?_ ?_ ?_ ?_ ?_ ?_; rotate_right 11; (· k_asm); (· k_asm); (· k_asm); (· k_asm); (· k_asm); (· first | exact rfl | assumption); (· ktr_room); (· ktr_units); (· first | assumption | decide | omega | l_fact); (· first | assumption | decide | omega | l_fact); intro t9 h9 tk9 F9 N9;  (try dsimp only); (try k_fold))))
  k_with "state" => (first | exact w_start hM1 hM2 e0 e1 | exact w_odd hM1 hM2 (by assumption) (by omega) (by assumption) (by assumption) | exact w_even hM1 hM2 (by assumption) (by omega) (by assumption) (by assumption))
  k_with "measure" => exact (w_half (by omega) (by assumption)).2.2
  k_with "exec While Compare cons nil" => k_while (fun _ result square rest => 0 ≤ rest ∧ rest ≤ 4096 ∧ 0 ≤ result ∧ result < 1048576 ∧ 0 ≤ square ∧ square < 1048576 ∧ Rwi b e (2 ^ k.toNat) result square rest) (fun _ _ _ rest => rest.toNat) "result" "square" "rest"
  all_goals refine wpAny_call ?_
  all_goals (k_dflt cell_enter)
  all_goals k_steps
  all_goals (refine' retZ ret ?e ?F ?N; (case F => assumption); (case N => assumption); (case e => (refine' rwi_end ?ha ?hb; (case ha => assumption); (case hb => omega))))

end
section
variable {w : World} {mean : ExcName → Option Value} {mg mb : Str → Option Value} {dp un : Nat} {gd : Option (List Code)} {cn : Str} {cs : Scope} {a : Addr} {ccd : Value} {cl : List (Str × Addr)} {outer : List Env} {A₀ : Around} {base h₀ : Heap} {L : Addr} {m : Str → Option Value} {news : List (Addr × Obj)} {s : Shared} {Q E : Value → Shared → Prop}
set_option maxRecDepth 100000 in
set_option maxHeartbeats 4000000 in
theorem power_spec {u v : Addr} {k x y k2 x2 y2 : Int} {t1 t2 t3 t4 t5 t6 : Tok} {su sv : Bool} {o o2 : Option Int} (B : Below A₀ base outer h₀) (F : Fr h₀ L s.heap m) (X : (hd.heap_39 w.params).In h₀) (N : News h₀ L s.heap news) (T : Top hd.view_39 (looseW hd.view_39 []) mean mg mb h₀) (hk : cs.kind = .function)
   (hd : dp + 8 < recursionLimit) (hu : un + 64 < cLine) (mu : (u, vecO k x y t1 t2 t3) ∈ news) (mv : (v, vecO k2 x2 y2 t4 t5 t6) ∈ news) (h0 : 1 ≤ k) (h1 : k ≤ 20) (h2 : 1 ≤ k2) (h3 : k2 ≤ 40) (ho : toInt k x y su = o) (ho2 : toInt k2 x2 y2 sv = o2) (bo2 : ∀ i, o2 = some i → -4096 ≤ i ∧ i ≤ 4096)
   (ret : ∀ r t1 t2 t3 h' tk', Fr h₀ L h' m → News h₀ L h' ((r, vecO (k) (vA k (pwo k o o2)) (vB k (pwo k o o2)) t1 t2 t3) :: news) → (∀ p ∈ news, p.1 < r) → Q (.ref r) { s with heap := h', toks := tk' }) :
   wpAny (model (PySem.Challenge.rw_nn0305_01.row.prog) w) (ktrTop dp un gd cn cs L a ccd cl outer) (call (.ref 126) [.ref u, .ref v, .bool su, .bool sv]) Q E s := by
  w_top off
  revert X
  k_fill
  intro X
  rcases o with _ | b1 <;> rcases o2 with _ | e1
  all_goals (try (have bo4 := bo2 _ rfl))
  all_goals (try (obtain ⟨bo7, bo8⟩ := bo4))
  k_with_none
  k_with "eval Call" => ((k_here; k_dflt (refine Call_ ?_)))
  k_with "call ref" => ((k_here; (with_reducible show wpAny _ _ (call (Value.ref 56) _) _ _ _); k_dflt (refine' to_int_spec ?_ ?_ ?_ ?_ ?_ ?_ ?_ ?_ ?_ ?_ ?_ ?_ ?_; rotate_right 13; (· k_asm); (· k_asm); (· k_asm); (· k_asm); (· k_asm); (· first | exact rfl | assumption); (· ktr_room); (· ktr_units); (· k_mem); (· first | assumption | decide | omega | l_fact); (· first | assumption | decide | omega | l_fact); (· first | assumption | rfl); intro t9 h9 tk9 F9 N9; (try dsimp only [oV]); (try dsimp only); (try k_fold))))
  k_with "call ref" => ((k_here; (with_reducible show wpAny _ _ (call (Value.ref 28) _) _ _ _); k_dflt (refine' zeros_spec ?_ ?_ ?_ ?_ ?_ ?_ ?_ ?_  ?_; rotate_right 9; (· k_asm); (· k_asm); (· k_asm); (· k_asm); (· k_asm); (· first | exact rfl | assumption); (· ktr_room); (· ktr_units);  intro r9 t91 t92 t93 h9 tk9 F9 N9 l9;  (try dsimp only); (try k_fold))))
  k_with "call ref" => ((k_here; (with_reducible show wpAny _ _ (call (Value.ref 35) _) _ _ _); k_dflt (refine' all_x_spec ?_ ?_ ?_ ?_ ?_ ?_ ?_ ?_ ?_ ?_ ?_; rotate_right 11; (· k_asm); (· k_asm); (· k_asm); (· k_asm); (· k_asm); (· first | exact rfl | assumption); (· ktr_room); (· ktr_units); (· first | assumption | decide | omega | l_fact); (· first | assumption | decide | omega | l_fact); intro r9 t91 t92 t93 h9 tk9 F9 N9 l9;  (try dsimp only); (try k_fold))))
  k_with "call ref" => ((k_here; (with_reducible show wpAny _ _ (call (Value.ref 42) _) _ _ _); k_dflt (refine' from_int_spec ?_ ?_ ?_ ?_ ?_ ?_ ?_ ?_ ?_ ?_ ?_; rotate_right 11; (· k_asm); (· k_asm); (· k_asm); (· k_asm); (· k_asm); (· first | exact rfl | assumption); (· ktr_room); (· ktr_units); (· first | assumption | decide | omega | l_fact); (· first | assumption | decide | omega | l_fact); intro r9 t91 t92 t93 h9 tk9 F9 N9 l9;  (try dsimp only); (try k_fold))))
  k_with "call ref" => ((k_here; (with_reducible show wpAny _ _ (call (Value.ref 119) _) _ _ _); k_dflt (refine' raise_whole_spec ?_ ?_ ?_ ?_ ?_ ?_ ?_ ?_ ?_ ?_ ?_ ?_ ?_; rotate_right 13; (· k_asm); (· k_asm); (· k_asm); (· k_asm); (· k_asm); (· first | exact rfl | assumption); (· ktr_room); (· ktr_units); (· first | assumption | decide | omega | l_fact); (· first | assumption | decide | omega | l_fact); (· first | assumption | decide | omega | l_fact); (· first | assumption | decide | omega | l_fact); intro t9 h9 tk9 F9 N9;  (try dsimp only); (try k_fold))))
  all_goals refine wpAny_call ?_
  all_goals (k_dflt cell_enter)
  all_goals k_steps
  all_goals first
    | (refine' retV ret ?e ?F ?N ?l; (case F => assumption); (case N => (first | assumption | (refine le1 ?_; assumption) | (refine le2 ?_; assumption) | (refine le3 ?_; assumption))); (case l => (first | assumption | (refine ktn_ltOf ?_; assumption))); (case e => first | rfl | (refine pwo_0 ?_ ?_ <;> assumption) | (refine pwo_p ?_; assumption) | (refine pwo_1 ?_ ?_ ?_ <;> assumption) | (refine pwo_m1 ?_ ?_ ?_ ?_ ?_ <;> assumption) | (refine pwo_m2 ?_ ?_ ?_ ?_ ?_ <;> assumption)))
    | (refine' retW ret ?e ?e2 ?F ?N ?l; (case F => assumption); (case N => (first | assumption | (refine le1 ?_; assumption) | (refine le2 ?_; assumption) | (refine le3 ?_; assumption))); (case l => (first | assumption | (refine ktn_ltOf ?_; assumption))); (case e => (refine pwA ?_; (refine pwo_n ?_ ?_ ?_ ?_ <;> assumption))); (case e2 => (refine pwB ?_; (refine pwo_n ?_ ?_ ?_ ?_ <;> assumption))))

end
section
variable {w : World} {mean : ExcName → Option Value} {mg mb : Str → Option Value} {dp un : Nat} {gd : Option (List Code)} {cn : Str} {cs : Scope} {a : Addr} {ccd : Value} {cl : List (Str × Addr)} {outer : List Env} {A₀ : Around} {base h₀ : Heap} {L : Addr} {m : Str → Option Value} {news : List (Addr × Obj)} {s : Shared} {Q E : Value → Shared → Prop}
set_option maxRecDepth 100000 in
set_option maxHeartbeats 4000000 in
theorem code_spec {u : Addr} {k x y : Int} {t1 t2 t3 : Tok} {i : Int} {ti : Tok} (B : Below A₀ base outer h₀) (F : Fr h₀ L s.heap m) (X : (hd.heap_39 w.params).In h₀) (N : News h₀ L s.heap news) (T : Top hd.view_39 (looseW hd.view_39 []) mean mg mb h₀) (hk : cs.kind = .function)
   (hd : dp + 2 < recursionLimit) (hu : un + 16 < cLine) (mu : (u, vecO k x y t1 t2 t3) ∈ news) (h0 : 0 ≤ i) (h1 : i ≤ 40) (b1 : 0 ≤ x) (b2 : x < 2097152) (b3 : 0 ≤ y) (b4 : y < 2097152)
   (ret : ∀ t h' tk', Fr h₀ L h' m → News h₀ L h' news → Q (.int (x.fdiv (2 ^ i.toNat) % 2 + 2 * (y.fdiv (2 ^ i.toNat) % 2)) t) { s with heap := h', toks := tk' }) :
   wpAny (model (PySem.Challenge.rw_nn0305_01.row.prog) w) (ktrTop dp un gd cn cs L a ccd cl outer) (call (.ref 63) [.ref u, .int i ti]) Q E s := by
  w_top off
  revert X
  k_fill
  intro X
  k_with_none
  k_with "eval Call" => ((k_here; k_dflt (refine Call_ ?_)))
  k_with "call ref" => ((k_here; (with_reducible show wpAny _ _ (call (Value.ref 49) _) _ _ _); k_dflt (refine' is_known_spec ?_ ?_ ?_ ?_ ?_ ?_ ?_ ?_ ?_ ?_; rotate_right 10; (· k_asm); (· k_asm); (· k_asm); (· k_asm); (· k_asm); (· first | exact rfl | assumption); (· ktr_room); (· ktr_units); (· k_mem); intro h9 tk9 F9 N9;  (try dsimp only); (try k_fold))))
  k_with "call ref" => ((k_here; (with_reducible show wpAny _ _ (call (Value.ref 21) _) _ _ _); k_dflt (refine' mask_spec ?_ ?_ ?_ ?_ ?_ ?_ ?_ ?_ ?_ ?_ ?_; rotate_right 11; (· k_asm); (· k_asm); (· k_asm); (· k_asm); (· k_asm); (· first | exact rfl | assumption); (· ktr_room); (· ktr_units); (· first | assumption | decide | omega | l_fact); (· first | assumption | decide | omega | l_fact); intro t9 h9 tk9 F9 N9;  (try dsimp only); (try k_fold))))
  k_with "call ref" => ((k_here; (with_reducible show wpAny _ _ (call (Value.ref 28) _) _ _ _); k_dflt (refine' zeros_spec ?_ ?_ ?_ ?_ ?_ ?_ ?_ ?_  ?_; rotate_right 9; (· k_asm); (· k_asm); (· k_asm); (· k_asm); (· k_asm); (· first | exact rfl | assumption); (· ktr_room); (· ktr_units);  intro r9 t91 t92 t93 h9 tk9 F9 N9 l9;  (try dsimp only); (try k_fold))))
  k_with "call ref" => ((k_here; (with_reducible show wpAny _ _ (call (Value.ref 35) _) _ _ _); k_dflt (refine' all_x_spec ?_ ?_ ?_ ?_ ?_ ?_ ?_ ?_ ?_ ?_ ?_; rotate_right 11; (· k_asm); (· k_asm); (· k_asm); (· k_asm); (· k_asm); (· first | exact rfl | assumption); (· ktr_room); (· ktr_units); (· first | assumption | decide | omega | l_fact); (· first | assumption | decide | omega | l_fact); intro r9 t91 t92 t93 h9 tk9 F9 N9 l9;  (try dsimp only); (try k_fold))))
  all_goals refine wpAny_call ?_
  all_goals (k_dflt cell_enter)
  all_goals k_steps
  rw [bitAnd_m1, bitAnd_m1]
  exact ret _ _ _ (by assumption) (by assumption)
set_option maxRecDepth 100000 in
set_option maxHeartbeats 4000000 in
theorem shift_left_spec {u v : Addr} {k x y k2 x2 y2 : Int} {t1 t2 t3 t4 t5 t6 : Tok} (B : Below A₀ base outer h₀) (F : Fr h₀ L s.heap m) (X : (hd.heap_39 w.params).In h₀) (N : News h₀ L s.heap news) (T : Top hd.view_39 (looseW hd.view_39 []) mean mg mb h₀) (hk : cs.kind = .function)
   (hd : dp + 6 < recursionLimit) (hu : un + 48 < cLine) (mu : (u, vecO k x y t1 t2 t3) ∈ news) (mv : (v, vecO k2 x2 y2 t4 t5 t6) ∈ news) (h0 : 1 ≤ k) (h1 : k ≤ 20) (b0 : 0 ≤ x2) (b1 : 0 ≤ x) (b2 : x < 2 ^ k.toNat) (b3 : 0 ≤ y) (b4 : y < 2 ^ k.toNat)
   (ret : ∀ r t1 t2 t3 h' tk', Fr h₀ L h' m → News h₀ L h' ((r, vecO (k) (slO k x x2 y2) (slO k y x2 y2) t1 t2 t3) :: news) → (∀ p ∈ news, p.1 < r) → Q (.ref r) { s with heap := h', toks := tk' }) :
   wpAny (model (PySem.Challenge.rw_nn0305_01.row.prog) w) (ktrTop dp un gd cn cs L a ccd cl outer) (call (.ref 133) [.ref u, .ref v]) Q E s := by
  w_top off
  revert X
  k_fill
  intro X
  have hM := pow20 h0 h1
  obtain ⟨hM1, hM2⟩ := hM
  k_with_none
  k_with "eval Call" => ((k_here; k_dflt (refine Call_ ?_)))
  k_with "call ref" => ((k_here; (with_reducible show wpAny _ _ (call (Value.ref 49) _) _ _ _); k_dflt (refine' is_known_spec ?_ ?_ ?_ ?_ ?_ ?_ ?_ ?_ ?_ ?_; rotate_right 10; (· k_asm); (· k_asm); (· k_asm); (· k_asm); (· k_asm); (· first | exact rfl | assumption); (· ktr_room); (· ktr_units); (· k_mem); intro h9 tk9 F9 N9;  (try dsimp only); (try k_fold))))
  k_with "call ref" => ((k_here; (with_reducible show wpAny _ _ (call (Value.ref 21) _) _ _ _); k_dflt (refine' mask_spec ?_ ?_ ?_ ?_ ?_ ?_ ?_ ?_ ?_ ?_ ?_; rotate_right 11; (· k_asm); (· k_asm); (· k_asm); (· k_asm); (· k_asm); (· first | exact rfl | assumption); (· ktr_room); (· ktr_units); (· first | assumption | decide | omega | l_fact); (· first | assumption | decide | omega | l_fact); intro t9 h9 tk9 F9 N9;  (try dsimp only); (try k_fold))))
  k_with "call ref" => ((k_here; (with_reducible show wpAny _ _ (call (Value.ref 28) _) _ _ _); k_dflt (refine' zeros_spec ?_ ?_ ?_ ?_ ?_ ?_ ?_ ?_  ?_; rotate_right 9; (· k_asm); (· k_asm); (· k_asm); (· k_asm); (· k_asm); (· first | exact rfl | assumption); (· ktr_room); (· ktr_units);  intro r9 t91 t92 t93 h9 tk9 F9 N9 l9;  (try dsimp only); (try k_fold))))
  k_with "call ref" => ((k_here; (with_reducible show wpAny _ _ (call (Value.ref 35) _) _ _ _); k_dflt (refine' all_x_spec ?_ ?_ ?_ ?_ ?_ ?_ ?_ ?_ ?_ ?_ ?_; rotate_right 11; (· k_asm); (· k_asm); (· k_asm); (· k_asm); (· k_asm); (· first | exact rfl | assumption); (· ktr_room); (· ktr_units); (· first | assumption | decide | omega | l_fact); (· first | assumption | decide | omega | l_fact); intro r9 t91 t92 t93 h9 tk9 F9 N9 l9;  (try dsimp only); (try k_fold))))
  all_goals refine wpAny_call ?_
  all_goals (k_dflt cell_enter)
  all_goals k_steps
  all_goals first
    | (refine' retW ret ?e ?e2 ?F ?N ?l; (case F => assumption); (case N => assumption); (case l => first | assumption | (refine ktn_ltOf ?_; assumption)); (case e => refine sl_z0 ?_ ?_ <;> assumption); (case e2 => refine sl_z0 ?_ ?_ <;> assumption))
    | (refine' retW ret ?e ?e2 ?F ?N ?l; (case F => assumption); (case N => ((rename News _ _ _ _ => nE); rw [band_mask, band_mask] at nE; exact nE)); (case l => first | assumption | (refine ktn_ltOf ?_; assumption)); (case e => refine sl_n0 ?_ ?_ <;> first | assumption | omega); (case e2 => refine sl_n0 ?_ ?_ <;> first | assumption | omega))
    | (refine' retW ret ?e ?e2 ?F ?N ?l; (case F => assumption); (case N => assumption); (case l => first | assumption | (refine ktn_ltOf ?_; assumption)); (case e => refine sl_x ?_; assumption); (case e2 => refine sl_x ?_; assumption))
set_option maxRecDepth 100000 in
set_option maxHeartbeats 4000000 in
theorem shift_right_spec {u v : Addr} {k x y k2 x2 y2 : Int} {t1 t2 t3 t4 t5 t6 : Tok} (B : Below A₀ base outer h₀) (F : Fr h₀ L s.heap m) (X : (hd.heap_39 w.params).In h₀) (N : News h₀ L s.heap news) (T : Top hd.view_39 (looseW hd.view_39 []) mean mg mb h₀) (hk : cs.kind = .function)
   (hd : dp + 6 < recursionLimit) (hu : un + 48 < cLine) (mu : (u, vecO k x y t1 t2 t3) ∈ news) (mv : (v, vecO k2 x2 y2 t4 t5 t6) ∈ news) (h0 : 1 ≤ k) (h1 : k ≤ 20) (b0 : 0 ≤ x2) (b1 : 0 ≤ x) (b2 : x < 2 ^ k.toNat) (b3 : 0 ≤ y) (b4 : y < 2 ^ k.toNat)
   (ret : ∀ r t1 t2 t3 h' tk', Fr h₀ L h' m → News h₀ L h' ((r, vecO (k) (srO k x x2 y2) (srO k y x2 y2) t1 t2 t3) :: news) → (∀ p ∈ news, p.1 < r) → Q (.ref r) { s with heap := h', toks := tk' }) :
   wpAny (model (PySem.Challenge.rw_nn0305_01.row.prog) w) (ktrTop dp un gd cn cs L a ccd cl outer) (call (.ref 140) [.ref u, .ref v]) Q E s := by
  w_top off
  revert X
  k_fill
  intro X
  have hM := pow20 h0 h1
  obtain ⟨hM1, hM2⟩ := hM
  k_with_none
  k_with "eval Call" => ((k_here; k_dflt (refine Call_ ?_)))
  k_with "call ref" => ((k_here; (with_reducible show wpAny _ _ (call (Value.ref 49) _) _ _ _); k_dflt (refine' is_known_spec ?_ ?_ ?_ ?_ ?_ ?_ ?_ ?_ ?_ ?_; rotate_right 10; (· k_asm); (· k_asm); (· k_asm); (· k_asm); (· k_asm); (· first | exact rfl | assumption); (· ktr_room); (· ktr_units); (· k_mem); intro h9 tk9 F9 N9;  (try dsimp only); (try k_fold))))
  k_with "call ref" => ((k_here; (with_reducible show wpAny _ _ (call (Value.ref 21) _) _ _ _); k_dflt (refine' mask_spec ?_ ?_ ?_ ?_ ?_ ?_ ?_ ?_ ?_ ?_ ?_; rotate_right 11; (· k_asm); (· k_asm); (· k_asm); (· k_asm); (· k_asm); (· first | exact rfl | assumption); (· ktr_room); (· ktr_units); (· first | assumption | decide | omega | l_fact); (· first | assumption | decide | omega | l_fact); intro t9 h9 tk9 F9 N9;  (try dsimp only); (try k_fold))))
  k_with "call ref" => ((k_here; (with_reducible show wpAny _ _ (call (Value.ref 28) _) _ _ _); k_dflt (refine' zeros_spec ?_ ?_ ?_ ?_ ?_ ?_ ?_ ?_  ?_; rotate_right 9; (· k_asm); (· k_asm); (· k_asm); (· k_asm); (· k_asm); (· first | exact rfl | assumption); (· ktr_room); (· ktr_units);  intro r9 t91 t92 t93 h9 tk9 F9 N9 l9;  (try dsimp only); (try k_fold))))
  k_with "call ref" => ((k_here; (with_reducible show wpAny _ _ (call (Value.ref 35) _) _ _ _); k_dflt (refine' all_x_spec ?_ ?_ ?_ ?_ ?_ ?_ ?_ ?_ ?_ ?_ ?_; rotate_right 11; (· k_asm); (· k_asm); (· k_asm); (· k_asm); (· k_asm); (· first | exact rfl | assumption); (· ktr_room); (· ktr_units); (· first | assumption | decide | omega | l_fact); (· first | assumption | decide | omega | l_fact); intro r9 t91 t92 t93 h9 tk9 F9 N9 l9;  (try dsimp only); (try k_fold))))
  all_goals refine wpAny_call ?_
  all_goals (k_dflt cell_enter)
  all_goals k_steps
  all_goals first
    | (refine' retW ret ?e ?e2 ?F ?N ?l; (case F => assumption); (case N => assumption); (case l => first | assumption | (refine ktn_ltOf ?_; assumption)); (case e => refine sr_z0 ?_ ?_ <;> assumption); (case e2 => refine sr_z0 ?_ ?_ <;> assumption))
    | (refine' retW ret ?e ?e2 ?F ?N ?l; (case F => assumption); (case N => assumption); (case l => first | assumption | (refine ktn_ltOf ?_; assumption)); (case e => refine sr_n0 ?_ ?_ <;> first | assumption | omega); (case e2 => refine sr_n0 ?_ ?_ <;> first | assumption | omega))
    | (refine' retW ret ?e ?e2 ?F ?N ?l; (case F => assumption); (case N => assumption); (case l => first | assumption | (refine ktn_ltOf ?_; assumption)); (case e => refine sr_x ?_; assumption); (case e2 => refine sr_x ?_; assumption))

end
section
variable {w : World} {mean : ExcName → Option Value} {mg mb : Str → Option Value} {dp un : Nat} {gd : Option (List Code)} {cn : Str} {cs : Scope} {a : Addr} {ccd : Value} {cl : List (Str × Addr)} {outer : List Env} {A₀ : Around} {base h₀ : Heap} {L : Addr} {m : Str → Option Value} {news : List (Addr × Obj)} {s : Shared} {Q E : Value → Shared → Prop}
set_option maxRecDepth 100000 in
set_option maxHeartbeats 4000000 in
theorem shift_arith_spec {u v : Addr} {k x y k2 x2 y2 : Int} {t1 t2 t3 t4 t5 t6 : Tok} {sg : Bool} (B : Below A₀ base outer h₀) (F : Fr h₀ L s.heap m) (X : (hd.heap_39 w.params).In h₀) (N : News h₀ L s.heap news) (T : Top hd.view_39 (looseW hd.view_39 []) mean mg mb h₀) (hk : cs.kind = .function)
   (hd : dp + 8 < recursionLimit) (hu : un + 64 < cLine) (mu : (u, vecO k x y t1 t2 t3) ∈ news) (mv : (v, vecO k2 x2 y2 t4 t5 t6) ∈ news) (h0 : 1 ≤ k) (h1 : k ≤ 20) (b0 : 0 ≤ x2) (b1 : 0 ≤ x) (b2 : x < 2 ^ k.toNat) (b3 : 0 ≤ y) (b4 : y < 2 ^ k.toNat)
   (ret : ∀ r t1 t2 t3 h' tk', Fr h₀ L h' m → News h₀ L h' ((r, vecO (k) (saO k x x2 y2 sg) (saO k y x2 y2 sg) t1 t2 t3) :: news) → (∀ p ∈ news, p.1 < r) → Q (.ref r) { s with heap := h', toks := tk' }) :
   wpAny (model (PySem.Challenge.rw_nn0305_01.row.prog) w) (ktrTop dp un gd cn cs L a ccd cl outer) (call (.ref 147) [.ref u, .ref v, .bool sg]) Q E s := by
  w_top off
  revert X
  k_fill
  intro X
  have hM := pow20 h0 h1
  obtain ⟨hM1, hM2⟩ := hM
  rcases sg with _ | _
  k_with_none
  k_with "eval Call" => ((k_here; k_dflt (refine Call_ ?_)))
  k_with "call ref" => ((k_here; (with_reducible show wpAny _ _ (call (Value.ref 49) _) _ _ _); k_dflt (refine' is_known_spec ?_ ?_ ?_ ?_ ?_ ?_ ?_ ?_ ?_ ?_; rotate_right 10; (· k_asm); (· k_asm); (· k_asm); (· k_asm); (· k_asm); (· first | exact rfl | assumption); (· ktr_room); (· ktr_units); (· k_mem); intro h9 tk9 F9 N9;  (try dsimp only); (try k_fold))))
  k_with "call ref" => ((k_here; (with_reducible show wpAny _ _ (call (Value.ref 21) _) _ _ _); k_dflt (refine' mask_spec ?_ ?_ ?_ ?_ ?_ ?_ ?_ ?_ ?_ ?_ ?_; rotate_right 11; (· k_asm); (· k_asm); (· k_asm); (· k_asm); (· k_asm); (· first | exact rfl | assumption); (· ktr_room); (· ktr_units); (· first | assumption | decide | omega | l_fact); (· first | assumption | decide | omega | l_fact); intro t9 h9 tk9 F9 N9;  (try dsimp only); (try k_fold))))
  k_with "call ref" => ((k_here; (with_reducible show wpAny _ _ (call (Value.ref 63) _) _ _ _); k_dflt (refine' code_spec ?_ ?_ ?_ ?_ ?_ ?_ ?_ ?_ ?_ ?_ ?_ ?_ ?_ ?_ ?_ ?_; rotate_right 16; (· k_asm); (· k_asm); (· k_asm); (· k_asm); (· k_asm); (· first | exact rfl | assumption); (· ktr_room); (· ktr_units); (· k_mem); (· first | assumption | decide | omega | l_fact); (· first | assumption | decide | omega | l_fact); (· first | assumption | decide | omega | l_fact); (· first | assumption | decide | omega | l_fact); (· first | assumption | decide | omega | l_fact); (· first | assumption | decide | omega | l_fact); intro t9 h9 tk9 F9 N9;  (try dsimp only); (try k_fold))))
  k_with "call ref" => ((k_here; (with_reducible show wpAny _ _ (call (Value.ref 140) _) _ _ _); k_dflt (refine' shift_right_spec ?_ ?_ ?_ ?_ ?_ ?_ ?_ ?_ ?_ ?_ ?_ ?_ ?_ ?_ ?_ ?_ ?_ ?_; rotate_right 18; (· k_asm); (· k_asm); (· k_asm); (· k_asm); (· k_asm); (· first | exact rfl | assumption); (· ktr_room); (· ktr_units); (· k_mem); (· k_mem); (· first | assumption | decide | omega | l_fact); (· first | assumption | decide | omega | l_fact); (· first | assumption | decide | omega | l_fact); (· first | assumption | decide | omega | l_fact); (· first | assumption | decide | omega | l_fact); (· first | assumption | decide | omega | l_fact); (· first | assumption | decide | omega | l_fact); intro r9 t91 t92 t93 h9 tk9 F9 N9 l9;  (try dsimp only); (try k_fold))))
  all_goals refine wpAny_call ?_
  all_goals (k_dflt cell_enter)
  all_goals k_steps
  all_goals first
    | (refine' retW ret ?e ?e2 ?F ?N ?l; (case F => assumption); (case N => assumption); (case l => first | assumption | (refine ktn_ltOf ?_; assumption)); (case e => first | exact saF | (refine saN ?_; assumption) | exact saA1 (by assumption) (by assumption) (by assumption) (by assumption) (by assumption) (by assumption) | exact saA0 (by assumption) (by assumption) (by assumption) (by assumption) (by assumption) (by assumption)); (case e2 => first | exact saF | (refine saN ?_; assumption) | exact saB1 (by assumption) (by assumption) (by assumption) (by assumption) (by assumption) (by assumption) | exact saB0 (by assumption) (by assumption) (by assumption) (by assumption) (by assumption) (by assumption)))

end
section

def odl : Option Int → Option Int
  | none => none
  | some c => if c < 0 then some 1 else some 0
def ode : Option Int → Option Int
  | none => none
  | some c => if c ≤ 0 then some 1 else some 0
variable {w : World} {mean : ExcName → Option Value} {mg mb : Str → Option Value} {dp un : Nat} {gd : Option (List Code)} {cn : Str} {cs : Scope} {a : Addr} {ccd : Value} {cl : List (Str × Addr)} {outer : List Env} {A₀ : Around} {base h₀ : Heap} {L : Addr} {m : Str → Option Value} {news : List (Addr × Obj)} {s : Shared} {Q E : Value → Shared → Prop}
set_option maxRecDepth 100000 in
set_option maxHeartbeats 4000000 in
theorem less_spec {u v : Addr} {k x y k2 x2 y2 : Int} {t1 t2 t3 t4 t5 t6 : Tok} {sg : Bool} {o o2 : Option Int} (B : Below A₀ base outer h₀) (F : Fr h₀ L s.heap m) (X : (hd.heap_39 w.params).In h₀) (N : News h₀ L s.heap news) (T : Top hd.view_39 (looseW hd.view_39 []) mean mg mb h₀) (hk : cs.kind = .function)
   (hd : dp + 6 < recursionLimit) (hu : un + 48 < cLine) (mu : (u, vecO k x y t1 t2 t3) ∈ news) (mv : (v, vecO k2 x2 y2 t4 t5 t6) ∈ news) (h0 : 1 ≤ k) (h1 : k ≤ 40) (h2 : 1 ≤ k2) (h3 : k2 ≤ 40) (ho : toInt k x y sg = o) (ho2 : toInt k2 x2 y2 sg = o2)
   (ret : ∀ r t1 t2 t3 h' tk', Fr h₀ L h' m → News h₀ L h' ((r, vecO (1) (vA 1 (odl (odo o o2))) (vB 1 (odl (odo o o2))) t1 t2 t3) :: news) → (∀ p ∈ news, p.1 < r) → Q (.ref r) { s with heap := h', toks := tk' }) :
   wpAny (model (PySem.Challenge.rw_nn0305_01.row.prog) w) (ktrTop dp un gd cn cs L a ccd cl outer) (call (.ref 161) [.ref u, .ref v, .bool sg]) Q E s := by
  w_top off
  revert X
  k_fill
  intro X
  generalize hso : odo o o2 = so at ret
  rcases so with _ | c
  k_with_none
  k_with "eval Call" => ((k_here; k_dflt (refine Call_ ?_)))
  k_with "call ref" => ((k_here; (with_reducible show wpAny _ _ (call (Value.ref 154) _) _ _ _); k_dflt (refine' ordered_spec ?_ ?_ ?_ ?_ ?_ ?_ ?_ ?_ ?_ ?_ ?_ ?_ ?_ ?_ ?_ ?_ ?_; rotate_right 17; (· k_asm); (· k_asm); (· k_asm); (· k_asm); (· k_asm); (· first | exact rfl | assumption); (· ktr_room); (· ktr_units); (· k_mem); (· k_mem); (· first | assumption | decide | omega | l_fact); (· first | assumption | decide | omega | l_fact); (· first | assumption | decide | omega | l_fact); (· first | assumption | decide | omega | l_fact); (· first | assumption | rfl); (· first | assumption | rfl); intro t9 h9 tk9 F9 N9; ((rename odo _ _ = _ => q8); rw [q8]); (try dsimp only [oV]); (try dsimp only); (try k_fold))))
  k_with "call ref" => ((k_here; (with_reducible show wpAny _ _ (call (Value.ref 35) _) _ _ _); k_dflt (refine' all_x_spec ?_ ?_ ?_ ?_ ?_ ?_ ?_ ?_ ?_ ?_ ?_; rotate_right 11; (· k_asm); (· k_asm); (· k_asm); (· k_asm); (· k_asm); (· first | exact rfl | assumption); (· ktr_room); (· ktr_units); (· first | assumption | decide | omega | l_fact); (· first | assumption | decide | omega | l_fact); intro r9 t91 t92 t93 h9 tk9 F9 N9 l9;  (try dsimp only); (try k_fold))))
  all_goals refine wpAny_call ?_
  all_goals (k_dflt cell_enter)
  all_goals k_steps
  all_goals first
    | (refine' retV ret ?e ?F ?N ?l; (case F => assumption); (case N => (first | assumption | (refine le1 ?_; assumption) | (refine le2 ?_; assumption) | (refine le3 ?_; assumption))); (case l => (first | assumption | (refine ktn_ltOf ?_; assumption))); (case e => rfl))
    | (refine' retW ret ?e ?e2 ?F ?N ?l; (case F => assumption); (case N => (first | assumption | (refine le1 ?_; assumption) | (refine le2 ?_; assumption) | (refine le3 ?_; assumption))); (case l => (first | assumption | (refine ktn_ltOf ?_; assumption))); (case e => (dsimp only [odl]; first | (rw [if_pos (by assumption)]; rfl) | (rw [if_neg (by assumption)]; rfl))); (case e2 => (dsimp only [odl]; first | (rw [if_pos (by assumption)]; rfl) | (rw [if_neg (by assumption)]; rfl))))
set_option maxRecDepth 100000 in
set_option maxHeartbeats 4000000 in
theorem less_equal_spec {u v : Addr} {k x y k2 x2 y2 : Int} {t1 t2 t3 t4 t5 t6 : Tok} {sg : Bool} {o o2 : Option Int} (B : Below A₀ base outer h₀) (F : Fr h₀ L s.heap m) (X : (hd.heap_39 w.params).In h₀) (N : News h₀ L s.heap news) (T : Top hd.view_39 (looseW hd.view_39 []) mean mg mb h₀) (hk : cs.kind = .function)
   (hd : dp + 6 < recursionLimit) (hu : un + 48 < cLine) (mu : (u, vecO k x y t1 t2 t3) ∈ news) (mv : (v, vecO k2 x2 y2 t4 t5 t6) ∈ news) (h0 : 1 ≤ k) (h1 : k ≤ 40) (h2 : 1 ≤ k2) (h3 : k2 ≤ 40) (ho : toInt k x y sg = o) (ho2 : toInt k2 x2 y2 sg = o2)
   (ret : ∀ r t1 t2 t3 h' tk', Fr h₀ L h' m → News h₀ L h' ((r, vecO (1) (vA 1 (ode (odo o o2))) (vB 1 (ode (odo o o2))) t1 t2 t3) :: news) → (∀ p ∈ news, p.1 < r) → Q (.ref r) { s with heap := h', toks := tk' }) :
   wpAny (model (PySem.Challenge.rw_nn0305_01.row.prog) w) (ktrTop dp un gd cn cs L a ccd cl outer) (call (.ref 168) [.ref u, .ref v, .bool sg]) Q E s := by
  w_top off
  revert X
  k_fill
  intro X
  generalize hso : odo o o2 = so at ret
  rcases so with _ | c
  k_with_none
  k_with "eval Call" => ((k_here; k_dflt (refine Call_ ?_)))
  k_with "call ref" => ((k_here; (with_reducible show wpAny _ _ (call (Value.ref 154) _) _ _ _); k_dflt (refine' ordered_spec ?_ ?_ ?_ ?_ ?_ ?_ ?_ ?_ ?_ ?_ ?_ ?_ ?_ ?_ ?_ ?_ ?_; rotate_right 17; (· k_asm); (· k_asm); (· k_asm); (· k_asm); (· k_asm); (· first | exact rfl | assumption); (· ktr_room); (· ktr_units); (· k_mem); (· k_mem); (· first | assumption | decide | omega | l_fact); (· first | assumption | decide | omega | l_fact); (· first | assumption | decide | omega | l_fact); (· first | assumption | decide | omega | l_fact); (· first | assumption | rfl); (· first | assumption | rfl); intro t9 h9 tk9 F9 N9; ((rename odo _ _ = _ => q8); rw [q8]); (try dsimp only [oV]); (try dsimp only); (try k_fold))))
  k_with "call ref" => ((k_here; (with_reducible show wpAny _ _ (call (Value.ref 35) _) _ _ _); k_dflt (refine' all_x_spec ?_ ?_ ?_ ?_ ?_ ?_ ?_ ?_ ?_ ?_ ?_; rotate_right 11; (· k_asm); (· k_asm); (· k_asm); (· k_asm); (· k_asm); (· first | exact rfl | assumption); (· ktr_room); (· ktr_units); (· first | assumption | decide | omega | l_fact); (· first | assumption | decide | omega | l_fact); intro r9 t91 t92 t93 h9 tk9 F9 N9 l9;  (try dsimp only); (try k_fold))))
  all_goals refine wpAny_call ?_
  all_goals (k_dflt cell_enter)
  all_goals k_steps
  all_goals first
    | (refine' retV ret ?e ?F ?N ?l; (case F => assumption); (case N => (first | assumption | (refine le1 ?_; assumption) | (refine le2 ?_; assumption) | (refine le3 ?_; assumption))); (case l => (first | assumption | (refine ktn_ltOf ?_; assumption))); (case e => rfl))
    | (refine' retW ret ?e ?e2 ?F ?N ?l; (case F => assumption); (case N => (first | assumption | (refine le1 ?_; assumption) | (refine le2 ?_; assumption) | (refine le3 ?_; assumption))); (case l => (first | assumption | (refine ktn_ltOf ?_; assumption))); (case e => (dsimp only [ode]; first | (rw [if_pos (by assumption)]; rfl) | (rw [if_neg (by assumption)]; rfl))); (case e2 => (dsimp only [ode]; first | (rw [if_pos (by assumption)]; rfl) | (rw [if_neg (by assumption)]; rfl))))
set_option maxRecDepth 100000 in
set_option maxHeartbeats 4000000 in
theorem greater_spec {u v : Addr} {k x y k2 x2 y2 : Int} {t1 t2 t3 t4 t5 t6 : Tok} {sg : Bool} {o o2 : Option Int} (B : Below A₀ base outer h₀) (F : Fr h₀ L s.heap m) (X : (hd.heap_39 w.params).In h₀) (N : News h₀ L s.heap news) (T : Top hd.view_39 (looseW hd.view_39 []) mean mg mb h₀) (hk : cs.kind = .function)
   (hd : dp + 8 < recursionLimit) (hu : un + 64 < cLine) (mu : (u, vecO k x y t1 t2 t3) ∈ news) (mv : (v, vecO k2 x2 y2 t4 t5 t6) ∈ news) (h0 : 1 ≤ k) (h1 : k ≤ 40) (h2 : 1 ≤ k2) (h3 : k2 ≤ 40) (ho : toInt k x y sg = o) (ho2 : toInt k2 x2 y2 sg = o2)
   (ret : ∀ r t1 t2 t3 h' tk', Fr h₀ L h' m → News h₀ L h' ((r, vecO (1) (vA 1 (odl (odo o2 o))) (vB 1 (odl (odo o2 o))) t1 t2 t3) :: news) → (∀ p ∈ news, p.1 < r) → Q (.ref r) { s with heap := h', toks := tk' }) :
   wpAny (model (PySem.Challenge.rw_nn0305_01.row.prog) w) (ktrTop dp un gd cn cs L a ccd cl outer) (call (.ref 175) [.ref u, .ref v, .bool sg]) Q E s := by
  w_top off
  revert X
  k_fill
  intro X
  k_with_none
  k_with "eval Call" => ((k_here; k_dflt (refine Call_ ?_)))
  k_with "call ref" => ((k_here; (with_reducible show wpAny _ _ (call (Value.ref 154) _) _ _ _); k_dflt (refine' ordered_spec ?_ ?_ ?_ ?_ ?_ ?_ ?_ ?_ ?_ ?_ ?_ ?_ ?_ ?_ ?_ ?_ ?_; rotate_right 17; (· k_asm); (· k_asm); (· k_asm); (· k_asm); (· k_asm); (· first | exact rfl | assumption); (· ktr_room); (· ktr_units); (· k_mem); (· k_mem); (· first | assumption | decide | omega | l_fact); (· first | assumption | decide | omega | l_fact); (· first | assumption | decide | omega | l_fact); (· first | assumption | decide | omega | l_fact); (· first | assumption | rfl); (· first | assumption | rfl); intro t9 h9 tk9 F9 N9; ((rename odo _ _ = _ => q8); rw [q8]); (try dsimp only [oV]); (try dsimp only); (try k_fold))))
  k_with "call ref" => ((k_here; (with_reducible show wpAny _ _ (call (Value.ref 35) _) _ _ _); k_dflt (refine' all_x_spec ?_ ?_ ?_ ?_ ?_ ?_ ?_ ?_ ?_ ?_ ?_; rotate_right 11; (· k_asm); (· k_asm); (· k_asm); (· k_asm); (· k_asm); (· first | exact rfl | assumption); (· ktr_room); (· ktr_units); (· first | assumption | decide | omega | l_fact); (· first | assumption | decide | omega | l_fact); intro r9 t91 t92 t93 h9 tk9 F9 N9 l9;  (try dsimp only); (try k_fold))))
  k_with "call ref" => ((k_here; (with_reducible show wpAny _ _ (call (Value.ref 161) _) _ _ _); k_dflt (refine' less_spec ?_ ?_ ?_ ?_ ?_ ?_ ?_ ?_ ?_ ?_ ?_ ?_ ?_ ?_ ?_ ?_ ?_; rotate_right 17; (· k_asm); (· k_asm); (· k_asm); (· k_asm); (· k_asm); (· first | exact rfl | assumption); (· ktr_room); (· ktr_units); (· k_mem); (· k_mem); (· first | assumption | decide | omega | l_fact); (· first | assumption | decide | omega | l_fact); (· first | assumption | decide | omega | l_fact); (· first | assumption | decide | omega | l_fact); (· first | assumption | rfl); (· first | assumption | rfl); intro r9 t91 t92 t93 h9 tk9 F9 N9 l9;  (try dsimp only); (try k_fold))))
  k_with "call ref" => ((k_here; (with_reducible show wpAny _ _ (call (Value.ref 168) _) _ _ _); k_dflt (refine' less_equal_spec ?_ ?_ ?_ ?_ ?_ ?_ ?_ ?_ ?_ ?_ ?_ ?_ ?_ ?_ ?_ ?_ ?_; rotate_right 17; (· k_asm); (· k_asm); (· k_asm); (· k_asm); (· k_asm); (· first | exact rfl | assumption); (· ktr_room); (· ktr_units); (· k_mem); (· k_mem); (· first | assumption | decide | omega | l_fact); (· first | assumption | decide | omega | l_fact); (· first | assumption | decide | omega | l_fact); (· first | assumption | decide | omega | l_fact); (· first | assumption | rfl); (· first | assumption | rfl); intro r9 t91 t92 t93 h9 tk9 F9 N9 l9;  (try dsimp only); (try k_fold))))
  all_goals refine wpAny_call ?_
  all_goals (k_dflt cell_enter)
  all_goals k_steps
  all_goals (refine' ret _ _ _ _ _ _ ?F ?N ?l; (case F => assumption); (case N => (first | assumption | (refine le1 ?_; assumption) | (refine le2 ?_; assumption) | (refine le3 ?_; assumption))); (case l => (first | assumption | (refine ktn_ltOf ?_; assumption))))
set_option maxRecDepth 100000 in
set_option maxHeartbeats 4000000 in
theorem greater_equal_spec {u v : Addr} {k x y k2 x2 y2 : Int} {t1 t2 t3 t4 t5 t6 : Tok} {sg : Bool} {o o2 : Option Int} (B : Below A₀ base outer h₀) (F : Fr h₀ L s.heap m) (X : (hd.heap_39 w.params).In h₀) (N : News h₀ L s.heap news) (T : Top hd.view_39 (looseW hd.view_39 []) mean mg mb h₀) (hk : cs.kind = .function)
   (hd : dp + 8 < recursionLimit) (hu : un + 64 < cLine) (mu : (u, vecO k x y t1 t2 t3) ∈ news) (mv : (v, vecO k2 x2 y2 t4 t5 t6) ∈ news) (h0 : 1 ≤ k) (h1 : k ≤ 40) (h2 : 1 ≤ k2) (h3 : k2 ≤ 40) (ho : toInt k x y sg = o) (ho2 : toInt k2 x2 y2 sg = o2)
   (ret : ∀ r t1 t2 t3 h' tk', Fr h₀ L h' m → News h₀ L h' ((r, vecO (1) (vA 1 (ode (odo o2 o))) (vB 1 (ode (odo o2 o))) t1 t2 t3) :: news) → (∀ p ∈ news, p.1 < r) → Q (.ref r) { s with heap := h', toks := tk' }) :
   wpAny (model (PySem.Challenge.rw_nn0305_01.row.prog) w) (ktrTop dp un gd cn cs L a ccd cl outer) (call (.ref 182) [.ref u, .ref v, .bool sg]) Q E s := by
  w_top off
  revert X
  k_fill
  intro X
  k_with_none
  k_with "eval Call" => ((k_here; k_dflt (refine Call_ ?_)))
  k_with "call ref" => ((k_here; (with_reducible show wpAny _ _ (call (Value.ref 154) _) _ _ _); k_dflt (refine' ordered_spec ?_ ?_ ?_ ?_ ?_ ?_ ?_ ?_ ?_ ?_ ?_ ?_ ?_ ?_ ?_ ?_ ?_; rotate_right 17; (· k_asm); (· k_asm); (· k_asm); (· k_asm); (· k_asm); (· first | exact rfl | assumption); (· ktr_room); (· ktr_units); (· k_mem); (· k_mem); (· first | assumption | decide | omega | l_fact); (· first | assumption | decide | omega | l_fact); (· first | assumption | decide | omega | l_fact); (· first | assumption | decide | omega | l_fact); (· first | assumption | rfl); (· first | assumption | rfl); intro t9 h9 tk9 F9 N9; ((rename odo _ _ = _ => q8); rw [q8]); (try dsimp only [oV]); (try dsimp only); (try k_fold))))
  k_with "call ref" => ((k_here; (with_reducible show wpAny _ _ (call (Value.ref 35) _) _ _ _); k_dflt (refine' all_x_spec ?_ ?_ ?_ ?_ ?_ ?_ ?_ ?_ ?_ ?_ ?_; rotate_right 11; (· k_asm); (· k_asm); (· k_asm); (· k_asm); (· k_asm); (· first | exact rfl | assumption); (· ktr_room); (· ktr_units); (· first | assumption | decide | omega | l_fact); (· first | assumption | decide | omega | l_fact); intro r9 t91 t92 t93 h9 tk9 F9 N9 l9;  (try dsimp only); (try k_fold))))
  k_with "call ref" => ((k_here; (with_reducible show wpAny _ _ (call (Value.ref 161) _) _ _ _); k_dflt (refine' less_spec ?_ ?_ ?_ ?_ ?_ ?_ ?_ ?_ ?_ ?_ ?_ ?_ ?_ ?_ ?_ ?_ ?_; rotate_right 17; (· k_asm); (· k_asm); (· k_asm); (· k_asm); (· k_asm); (· first | exact rfl | assumption); (· ktr_room); (· ktr_units); (· k_mem); (· k_mem); (· first | assumption | decide | omega | l_fact); (· first | assumption | decide | omega | l_fact); (· first | assumption | decide | omega | l_fact); (· first | assumption | decide | omega | l_fact); (· first | assumption | rfl); (· first | assumption | rfl); intro r9 t91 t92 t93 h9 tk9 F9 N9 l9;  (try dsimp only); (try k_fold))))
  k_with "call ref" => ((k_here; (with_reducible show wpAny _ _ (call (Value.ref 168) _) _ _ _); k_dflt (refine' less_equal_spec ?_ ?_ ?_ ?_ ?_ ?_ ?_ ?_ ?_ ?_ ?_ ?_ ?_ ?_ ?_ ?_ ?_; rotate_right 17; (· k_asm); (· k_asm); (· k_asm); (· k_asm); (· k_asm); (· first | exact rfl | assumption); (· ktr_room); (· ktr_units); (· k_mem); (· k_mem); (· first | assumption | decide | omega | l_fact); (· first | assumption | decide | omega | l_fact); (· first | assumption | decide | omega | l_fact); (· first | assumption | decide | omega | l_fact); (· first | assumption | rfl); (· first | assumption | rfl); intro r9 t91 t92 t93 h9 tk9 F9 N9 l9;  (try dsimp only); (try k_fold))))
  all_goals refine wpAny_call ?_
  all_goals (k_dflt cell_enter)
  all_goals k_steps
  all_goals (refine' ret _ _ _ _ _ _ ?F ?N ?l; (case F => assumption); (case N => (first | assumption | (refine le1 ?_; assumption) | (refine le2 ?_; assumption) | (refine le3 ?_; assumption))); (case l => (first | assumption | (refine ktn_ltOf ?_; assumption))))

end
section
variable {w : World} {mean : ExcName → Option Value} {mg mb : Str → Option Value} {dp un : Nat} {gd : Option (List Code)} {cn : Str} {cs : Scope} {a : Addr} {ccd : Value} {cl : List (Str × Addr)} {outer : List Env} {A₀ : Around} {base h₀ : Heap} {L : Addr} {m : Str → Option Value} {news : List (Addr × Obj)} {s : Shared} {Q E : Value → Shared → Prop}


theorem qt_same {m n : Int} (h : (decide (m < 0) == decide (n < 0)) = true) : qt m n = (if m < 0 then -m else m).fdiv (if n < 0 then -n else n) := by
  have e : (decide (m < 0) != decide (n < 0)) = false := by rw [bne, h]; rfl
  unfold qt
  rw [e, if_neg (by decide)]; rfl
theorem qt_diff {m n : Int} (h : (decide (m < 0) == decide (n < 0)) = false) : qt m n = -(if m < 0 then -m else m).fdiv (if n < 0 then -n else n) := by
  have e : (decide (m < 0) != decide (n < 0)) = true := by rw [bne, h]; rfl
  unfold qt
  rw [e, if_pos rfl, Int.zero_sub]; rfl
theorem fmod_pow (n : Int) (k : Nat) : n.fmod (2 ^ k) = n % 2 ^ k := Int.fmod_eq_emod_of_nonneg _ (Int.le_of_lt (ipow_pos k))
set_option maxRecDepth 100000 in
set_option maxHeartbeats 4000000 in
theorem law_vecN_spec {k : Int} {t : Tok} (B : Below A₀ base outer h₀) (F : Fr h₀ L s.heap m) (X : (hd.heap_39 w.params).In h₀) (N : News h₀ L s.heap news) (T : Top hd.view_39 (looseW hd.view_39 []) mean mg mb h₀) (hk : cs.kind = .function)
   (hd : dp + 2 < recursionLimit) (hu : un + 16 < cLine) (h0 : 0 ≤ k) (h1 : k ≤ 40)
   (ret : ∀ r t1 t2 t3 h' tk', Fr h₀ L h' m → News h₀ L h' ((r, vecO (k) (vA k none) (vB k none) t1 t2 t3) :: news) → (∀ p ∈ news, p.1 < r) → Q (.ref r) { s with heap := h', toks := tk' }) :
   wpAny (model (PySem.Challenge.rw_nn0305_01.row.prog) w) (ktrTop dp un gd cn cs L a ccd cl outer) (call (.ref 229) [.int k t, .none]) Q E s := by
  w_top off
  revert X
  k_fill
  intro X
  k_with_none
  k_with "eval Call" => ((k_here; k_dflt (refine Call_ ?_)))
  k_with "binaryOp FloorDiv int int" => ((k_here; k_dflt (refine' floordiv_int ?_ ?_ (Or.inl (PyProof.noPylong_small ?_)); rotate_right 3; (· (split <;> omega)); rotate_left 1; (· (split <;> omega)); rotate_right 1)))
  all_goals refine wpAny_call ?_
  all_goals (k_dflt cell_enter)
  all_goals k_steps
  exact ret _ _ _ _ _ _ (by assumption) (by first | assumption | exact le1 (by assumption) | exact le2 (by assumption) | exact le3 (by assumption)) (by first | assumption | exact ktn_ltOf (by assumption))
set_option maxRecDepth 100000 in
set_option maxHeartbeats 4000000 in
theorem law_vecS_spec {k n : Int} {t t1 : Tok} (B : Below A₀ base outer h₀) (F : Fr h₀ L s.heap m) (X : (hd.heap_39 w.params).In h₀) (N : News h₀ L s.heap news) (T : Top hd.view_39 (looseW hd.view_39 []) mean mg mb h₀) (hk : cs.kind = .function)
   (hd : dp + 2 < recursionLimit) (hu : un + 16 < cLine) (h0 : 0 ≤ k) (h1 : k ≤ 40)
   (ret : ∀ r t1 t2 t3 h' tk', Fr h₀ L h' m → News h₀ L h' ((r, vecO (k) (vA k (some n)) (vB k (some n)) t1 t2 t3) :: news) → (∀ p ∈ news, p.1 < r) → Q (.ref r) { s with heap := h', toks := tk' }) :
   wpAny (model (PySem.Challenge.rw_nn0305_01.row.prog) w) (ktrTop dp un gd cn cs L a ccd cl outer) (call (.ref 229) [.int k t, .int n t1]) Q E s := by
  w_top off
  revert X
  k_fill
  intro X
  k_with_none
  k_with "eval Call" => ((k_here; k_dflt (refine Call_ ?_)))
  k_with "binaryOp FloorDiv int int" => ((k_here; k_dflt (refine' floordiv_int ?_ ?_ (Or.inl (PyProof.noPylong_small ?_)); rotate_right 3; (· (split <;> omega)); rotate_left 1; (· (split <;> omega)); rotate_right 1)))
  all_goals refine wpAny_call ?_
  all_goals (k_dflt cell_enter)
  all_goals k_steps
  exact ret _ _ _ _ _ _ (by assumption) (retM (by assumption) rfl (fmod_pow _ _) rfl) (by first | assumption | exact ktn_ltOf (by assumption))
set_option maxRecDepth 100000 in
set_option maxHeartbeats 4000000 in
theorem law_cut_spec {m1 n1 : Int} {t t1 : Tok} (B : Below A₀ base outer h₀) (F : Fr h₀ L s.heap m) (X : (hd.heap_39 w.params).In h₀) (N : News h₀ L s.heap news) (T : Top hd.view_39 (looseW hd.view_39 []) mean mg mb h₀) (hk : cs.kind = .function)
   (hd : dp + 2 < recursionLimit) (hu : un + 16 < cLine) (hn : n1 ≠ 0) (b1 : -2097152 ≤ m1) (b2 : m1 ≤ 2097152) (b3 : -2097152 ≤ n1) (b4 : n1 ≤ 2097152)
   (ret : ∀ t h' tk', Fr h₀ L h' m → News h₀ L h' news → -2097152 ≤ qt m1 n1 → qt m1 n1 ≤ 2097152 → Q (.int (qt m1 n1) t) { s with heap := h', toks := tk' }) :
   wpAny (model (PySem.Challenge.rw_nn0305_01.row.prog) w) (ktrTop dp un gd cn cs L a ccd cl outer) (call (.ref 236) [.int m1 t, .int n1 t1]) Q E s := by
  w_top off
  revert X
  k_fill
  intro X
  k_with_none
  k_with "eval Call" => ((k_here; k_dflt (refine Call_ ?_)))
  k_with "binaryOp FloorDiv int int" => ((k_here; k_dflt (refine' floordiv_int ?_ ?_ (Or.inl (PyProof.noPylong_small ?_)); rotate_right 3; (· (split <;> omega)); rotate_left 1; (· (split <;> omega)); rotate_right 1)))
  all_goals refine wpAny_call ?_
  all_goals (k_dflt cell_enter)
  all_goals k_steps
  all_goals refine retZ (fun t h' tk' F N => ret t h' tk' F N (qt_bound b1 b2).1 (qt_bound b1 b2).2) ?_ (by assumption) (by assumption)
  all_goals first | exact qt_same (by assumption) | exact qt_diff (by assumption)

end
section

def Pwi (b e M : Int) (B j : Nat) (f : Int) : Prop := f = b ^ (e.toNat / 2 ^ (B - j)) % M
theorem pwi0 {b e M : Int} (h0 : 0 ≤ e) (hM : 2 ≤ M) (hM2 : M ≤ 1048576) : (0 : Int) ≤ 1 ∧ (1 : Int) < 1048576 ∧ Pwi b e M (Builtin.Int.intBits e) ([] : List Int).length 1 := by
  refine ⟨by decide, by decide, ?_⟩
  have h : e.natAbs < 2 ^ Builtin.Int.intBits e := intBits_le_iff.mp (Nat.le_refl _)
  have h2 : e.toNat < 2 ^ Builtin.Int.intBits e := by omega
  unfold Pwi
  rw [List.length_nil, Nat.sub_zero, Nat.div_eq_of_lt h2, Int.pow_zero]
  exact (Int.emod_eq_of_lt (by decide) (by omega)).symm
theorem pwi_half {e : Nat} {B j : Nat} (hj : j < B) : e / 2 ^ (B - j) = (e / 2 ^ (B - (j + 1))) / 2 := by
  rw [Nat.div_div_eq_div_mul, ← Nat.pow_succ]
  congr 2; omega
theorem pwi_sq {b M f : Int} {q : Nat} (hf : f = b ^ q % M) (hM : 2 ≤ M) : Int.fmod (f * f) M = b ^ (q + q) % M := by
  rw [Int.fmod_eq_emod_of_nonneg _ (by omega), hf, ← Int.mul_emod, Int.pow_add]
theorem pwi_bits {e kN : Int} {B j : Nat} (h0 : 0 ≤ e) (hk : kN = (B : Int) - 1 - (j : Int)) (hj : j < ((B : Int) - 1 - -1).toNat) : j < B ∧ Int.fmod (e.fdiv (2 ^ kN.toNat)) 2 = ((e.toNat / 2 ^ (B - (j + 1)) % 2 : Nat) : Int) := by
  have hB : j < B := by omega
  refine ⟨hB, ?_⟩
  have e1 : kN.toNat = B - (j + 1) := by omega
  have hp := ipow_pos (B - (j + 1))
  rw [e1, Int.fmod_eq_emod_of_nonneg _ (by decide), Int.fdiv_eq_ediv_of_nonneg _ (Int.le_of_lt hp)]
  obtain ⟨n, rfl⟩ : ∃ n : Nat, e = n := ⟨e.toNat, by omega⟩
  simp
theorem fm_range {x M : Int} (hM : 2 ≤ M) (hM2 : M ≤ 1048576) : 0 ≤ Int.fmod x M ∧ Int.fmod x M < 1048576 :=
  ⟨Int.fmod_nonneg_of_pos _ (by omega), Int.lt_of_lt_of_le (Int.fmod_lt_of_pos _ (by omega)) hM2⟩
theorem pwi1 {b e M f kN : Int} {B : Nat} {pre : List Int} (h0 : 0 ≤ e) (hM : 2 ≤ M) (hM2 : M ≤ 1048576) (h : Pwi b e M B pre.length f) (hk : kN = (B : Int) - 1 - (pre.length : Int)) (hj : pre.length < ((B : Int) - 1 - -1).toNat) (hb : Int.fmod (e.fdiv (2 ^ kN.toNat)) 2 = 1) :
    0 ≤ Int.fmod (Int.fmod (f * f) M * b) M ∧ Int.fmod (Int.fmod (f * f) M * b) M < 1048576 ∧ Pwi b e M B (pre ++ [kN]).length (Int.fmod (Int.fmod (f * f) M * b) M) := by
  refine ⟨(fm_range hM hM2).1, (fm_range hM hM2).2, ?_⟩
  obtain ⟨hB, e1⟩ := pwi_bits h0 hk hj
  unfold Pwi at *
  rw [pwi_half hB] at h
  rw [pwi_sq h hM, List.length_append, List.length_singleton, Int.fmod_eq_emod_of_nonneg _ (by omega)]
  rw [e1] at hb
  generalize e.toNat / 2 ^ (B - (pre.length + 1)) = q at *
  have hq : q = (q / 2 + q / 2) + 1 := by omega
  conv => rhs; rw [hq, Int.pow_succ]
  rw [Int.mul_emod, Int.emod_emod, ← Int.mul_emod]
theorem pwi2 {b e M f kN : Int} {B : Nat} {pre : List Int} (h0 : 0 ≤ e) (hM : 2 ≤ M) (hM2 : M ≤ 1048576) (h : Pwi b e M B pre.length f) (hk : kN = (B : Int) - 1 - (pre.length : Int)) (hj : pre.length < ((B : Int) - 1 - -1).toNat) (hb : ¬ Int.fmod (e.fdiv (2 ^ kN.toNat)) 2 = 1) :
    0 ≤ Int.fmod (f * f) M ∧ Int.fmod (f * f) M < 1048576 ∧ Pwi b e M B (pre ++ [kN]).length (Int.fmod (f * f) M) := by
  refine ⟨(fm_range hM hM2).1, (fm_range hM hM2).2, ?_⟩
  obtain ⟨hB, e1⟩ := pwi_bits h0 hk hj
  unfold Pwi at *
  rw [pwi_half hB] at h
  rw [pwi_sq h hM, List.length_append, List.length_singleton]
  rw [e1] at hb
  generalize e.toNat / 2 ^ (B - (pre.length + 1)) = q at *
  have hq : q / 2 + q / 2 = q := by omega
  rw [hq]
theorem pwi_end {b e k f : Int} (h0 : 0 ≤ e) (h : Pwi b e (2 ^ k.toNat) (Builtin.Int.intBits e) (downKs ((Builtin.Int.intBits e : Int) - 1) (((Builtin.Int.intBits e : Int) - 1 - -1).toNat)).length f) : pwo k (some b) (some e) = some f := by
  unfold Pwi at h
  rw [downKs_length, show Builtin.Int.intBits e - ((Builtin.Int.intBits e : Int) - 1 - -1).toNat = 0 by omega, Nat.pow_zero, Nat.div_one] at h
  rw [pwo_p h0, h]
theorem any1 {b : Int} (h : ([1, -1].any fun x => x == b) = true) : b = 1 ∨ b = -1 := by
  simp at h; omega
theorem any0 {b : Int} (h : ([1, -1].any fun x => x == b) = false) : b ≠ 1 ∧ b ≠ -1 := by
  simp at h; omega
theorem lp_b {k b e : Int} (h : ¬ 0 ≤ e) (h0 : b ≠ 0) (ha : ([1, -1].any fun x => x == b) = true) (he : e.fmod 2 = 1) : pwo k (some b) (some e) = some b := by
  rcases any1 ha with r | r
  · subst r; exact pwo_1 h h0 rfl
  · subst r; exact pwo_m1 h h0 (by decide) rfl he
theorem lp_1 {k b e : Int} (h : ¬ 0 ≤ e) (h0 : b ≠ 0) (ha : ([1, -1].any fun x => x == b) = true) (he : e.fmod 2 ≠ 1) : pwo k (some b) (some e) = some 1 := by
  rcases any1 ha with r | r
  · subst r; exact pwo_1 h h0 rfl
  · subst r; exact pwo_m2 h h0 (by decide) rfl he
theorem lp_0 {k b e : Int} (h : ¬ 0 ≤ e) (h0 : b ≠ 0) (ha : ([1, -1].any fun x => x == b) = false) : pwo k (some b) (some e) = some 0 := pwo_n h h0 (any0 ha).1 (any0 ha).2

end
section
variable {w : World} {mean : ExcName → Option Value} {mg mb : Str → Option Value} {dp un : Nat} {gd : Option (List Code)} {cn : Str} {cs : Scope} {a : Addr} {ccd : Value} {cl : List (Str × Addr)} {outer : List Env} {A₀ : Around} {base h₀ : Heap} {L : Addr} {m : Str → Option Value} {news : List (Addr × Obj)} {s : Shared} {Q E : Value → Shared → Prop}
set_option maxRecDepth 100000 in
set_option maxHeartbeats 4000000 in
theorem law_power_spec {b e k : Int} {t t1 t2 : Tok} (B : Below A₀ base outer h₀) (F : Fr h₀ L s.heap m) (X : (hd.heap_39 w.params).In h₀) (N : News h₀ L s.heap news) (T : Top hd.view_39 (looseW hd.view_39 []) mean mg mb h₀) (hk : cs.kind = .function)
   (hd : dp + 2 < recursionLimit) (hu : un + 16 < cLine) (h0 : 1 ≤ k) (h1 : k ≤ 20) (b1 : -2097152 ≤ b) (b2 : b ≤ 2097152) (e0 : -4096 ≤ e) (e1 : e ≤ 4096)
   (ret : ∀ t h' tk', Fr h₀ L h' m → News h₀ L h' news → Q (oV (pwo k (some b) (some e)) t) { s with heap := h', toks := tk' }) :
   wpAny (model (PySem.Challenge.rw_nn0305_01.row.prog) w) (ktrTop dp un gd cn cs L a ccd cl outer) (call (.ref 243) [.int b t, .int e t1, .int k t2]) Q E s := by
  w_top off
  revert X
  k_fill
  intro X
  have hM := pow20 h0 h1
  obtain ⟨hM1, hM2⟩ := hM
  have hbit : Builtin.Int.intBits e ≤ 13 := intBits_le_iff.mpr (by omega)
  k_with_none
  k_with "eval Call" => ((k_here; k_dflt (refine Call_ ?_)))
  k_with "state" => (first | exact pwi0 (by assumption) hM1 hM2 | exact pwi1 (by assumption) hM1 hM2 (by assumption) (by assumption) (by assumption) (by assumption) | exact pwi2 (by assumption) hM1 hM2 (by assumption) (by assumption) (by assumption) (by assumption))
  k_with "pyIter ref" => (k_of "spot" => k_state (fun pre figure => 0 ≤ figure ∧ figure < 1048576 ∧ Pwi b e (2 ^ k.toNat) (Builtin.Int.intBits e) pre.length figure) "figure")
  all_goals refine wpAny_call ?_
  all_goals (k_dflt cell_enter)
  all_goals k_steps
  all_goals first
    | (refine' retN ret ?ze ?zF ?zN; (case zF => assumption); (case zN => assumption); (case ze => exact pwo_0 (by assumption) (by assumption)))
    | (refine' retI ret ?ze ?zF ?zN; (case zF => assumption); (case zN => first | assumption | exact ld1 (by assumption)); (case ze => first | exact pwi_end (by assumption) (by assumption) | exact lp_b (by assumption) (by assumption) (by assumption) (by assumption) | exact lp_1 (by assumption) (by assumption) (by assumption) (by assumption) | exact lp_0 (by assumption) (by assumption) (by assumption)))


end
section

theorem drop_led {h₀ h : Heap} {L : Addr} {p1 p2 p3 : Addr × Obj} {news : List (Addr × Obj)} (N : News h₀ L h (p1 :: p2 :: p3 :: news)) : News h₀ L h (p1 :: news) := by
  intro p hp
  rcases List.mem_cons.mp hp with rfl | hp
  · exact N _ (.head _)
  · exact N _ (.tail _ (.tail _ (.tail _ hp)))

end
section
variable {w : World} {mean : ExcName → Option Value} {mg mb : Str → Option Value} {dp un : Nat} {gd : Option (List Code)} {cn : Str} {cs : Scope} {a : Addr} {ccd : Value} {cl : List (Str × Addr)} {outer : List Env} {A₀ : Around} {base h₀ : Heap} {L : Addr} {m : Str → Option Value} {news : List (Addr × Obj)} {s : Shared} {Q E : Value → Shared → Prop}

set_option maxRecDepth 100000 in
set_option maxHeartbeats 2000000 in
theorem law_row_spec {l : Addr} {vs : List Value} {ns : List Int} (B : Below A₀ base outer h₀) (F : Fr h₀ L s.heap m) (X : (hd.heap_39 w.params).In h₀) (N : News h₀ L s.heap news) (T : Top hd.view_39 (looseW hd.view_39 []) mean mg mb h₀) (hk : cs.kind = .function)
   (hd : dp + 10 < recursionLimit) (hu : un + 80 < cLine) (hl : base.IsList l vs.toArray) (hi : IntsAre vs ns) (hlen : ns.length ≤ 63)
   (ret : ∀ r vs' ns' n' h' tk', Fr h₀ L h' m → News h₀ L h' ((r, W.listOf (List.toArray vs') n') :: news) → IntsAre vs' ns' → RowB ns' → ns'.length ≤ 160 → LCg.Off1 r news → Q (.ref r) { s with heap := h', toks := tk' }) :
   wpAny (model (PySem.Challenge.rw_nn0305_01.row.prog) w) (ktrTop dp un gd cn cs L a ccd cl outer) (call (.ref 189) [.ref l]) Q E s := by
  w_top off
  revert X
  k_fill
  intro X
  k_with_none
  k_with "call builtin:list.reverse" => ((k_here; (with_reducible show wpAny _ _ (call (Value.builtin _) [Value.ref _]) _ _ _); k_dflt (refine' kl_reverse ?_ ?_ ?_ ?_ ?_ ?_; rotate_right 6; (· k_asm); (· k_asm); (· exact rfl); (· k_upd); (· (rw [PySem.sizeLine_eq]; (rename (IntsAre _ (List.take 160 _)) => q9); (have q8 := IntsAre.length q9); (try dsimp only); (simp only [List.length_take] at q8); omega))); intro h' F' N'))
  k_with "InvEndN" => ((k_dflt ((try dsimp only); (rename News _ _ _ _ => nE'); (try simp only [List.push_toArray] at nE'); first | (refine' kst_end ⟨_, _, _, _, _⟩ (by assumption) nE' ?_ ?_ ?_ ?_ ?_ ?_ ?_; rotate_right 7; (· first | kst_in | kst_inAny); (· first | (intro p hp; kst_mem) | kst_anyIn); (· rfl); (· kst_facts); (· kst_all); (· kst_same); (· kst_p)) | (refine' kst_end ⟨_, _, _⟩ (by assumption) nE' ?_ ?_ ?_ ?_ ?_ ?_ ?_; rotate_right 7; (· first | kst_in | kst_inAny); (· first | (intro p hp; kst_mem) | kst_anyIn); (· rfl); (· kst_facts); (· kst_all); (· kst_same); (· kst_p)))))
  k_with "state" => ((repeat' apply And.intro) <;> first | exact rowb_nil | exact rowb_push (by assumption) | assumption | exact fdiv_pos1024 (by first | assumption | omega) | exact lr_in0 | exact lr_in1 (by assumption) | exact lr_in2 (by assumption) | exact lr_out (by assumption) (by assumption) | exact Nat.le_refl _)
  k_with "pyIter ref" => (k_of "cell" => k_state (fun pre row => row.length ≤ 31 * pre.length ∧ RowB row) "row")
  k_with "pyIter ref" => (k_of "turn" => ((rename News _ _ _ (_ :: (_, W.listOf (Array.push _ _) _) :: _) => gN); (obtain ⟨us9, gI, gN2⟩ := gen_push1 gN (by assumption)); clear gN; k_state_given ["row!"] (fun row₀ pre row number => row.length ≤ row₀.length + pre.length ∧ 0 ≤ number ∧ RowB row) "row" "number"))
  all_goals refine wpAny_call ?_
  all_goals (k_dflt cell_enter)
  all_goals k_steps
  refine ret _ _ _ _ _ _ (by assumption) (drop_led (by assumption)) (IntsAre.reverse (by assumption)) (rowb_reverse (rowb_take 160 (by assumption))) (by simp; omega) ?_
  rename (_ < _ ∧ _ < _ ∧ AllLt _ _) => hq
  exact off1_of hq.2.2

end
section

theorem news_in {h₀ h : Heap} {L : Addr} {p : Addr × Obj} {news : List (Addr × Obj)} (N : News h₀ L h news) (hp : p ∈ news) : News h₀ L h (p :: news) := fun q hq => N q (by
  rcases List.mem_cons.mp hq with e | e
  · exact e ▸ hp
  · exact e)
section
variable {h₀ : Heap} {L I C D : Addr} {m : Str → Option Value} {s₁ : Shared} {oI oC oD o : Obj} {S : List (Addr × Obj) → Prop} {R : Value → List (Addr × Obj) → Prop} {y : Value} {h' : Heap} {tk : Nat} {rest : List (Addr × Obj)} {x : Addr}
theorem cend0 (F : Fr h₀ L h' m) (N : News h₀ L h' ((I, oI) :: (C, oC) :: (D, oD) :: rest)) (off : LCg.Off3 I C D rest) (hS : S rest) (r : R y rest) : LCg.CompEnd h₀ L m s₁ I oI C oC D oD S R y { s₁ with heap := h', toks := tk } :=
  LCg.CompEnd.intro F N rest (fun _ h => h) off hS r
theorem cend1 (F : Fr h₀ L h' m) (N : News h₀ L h' ((x, o) :: (I, oI) :: (C, oC) :: (D, oD) :: rest)) (l : ∀ p ∈ (I, oI) :: (C, oC) :: (D, oD) :: rest, p.1 < x) (off : LCg.Off3 I C D rest) (hS : S ((x, o) :: rest)) (r : R y ((x, o) :: rest)) :
    LCg.CompEnd h₀ L m s₁ I oI C oC D oD S R y { s₁ with heap := h', toks := tk } := by
  refine LCg.CompEnd.intro F N ((x, o) :: rest) (fun p hp => ?_) ⟨⟨?_, ?_, ?_⟩, off⟩ hS r
  · simp only [List.mem_cons] at hp ⊢
    rcases hp with h | h | h | h | h <;> simp [h]
  · exact Nat.ne_of_gt (l _ (.head _))
  · exact Nat.ne_of_gt (l _ (.tail _ (.head _)))
  · exact Nat.ne_of_gt (l _ (.tail _ (.tail _ (.head _))))
end

end
section
variable {w : World} {mean : ExcName → Option Value} {mg mb : Str → Option Value} {dp un : Nat} {gd : Option (List Code)} {cn : Str} {cs : Scope} {a : Addr} {ccd : Value} {cl : List (Str × Addr)} {outer : List Env} {A₀ : Around} {base h₀ : Heap} {L : Addr} {m : Str → Option Value} {news : List (Addr × Obj)} {s : Shared} {Q E : Value → Shared → Prop}
set_option maxRecDepth 100000 in
set_option maxHeartbeats 4000000 in
theorem law_made_m_spec {b : Addr} {vb : List Value} {bits : List Int} {nb : Nat} {k : Int} (B : Below A₀ base outer h₀) (F : Fr h₀ L s.heap m) (X : (hd.heap_39 w.params).In h₀) (N : News h₀ L s.heap news) (T : Top hd.view_39 (looseW hd.view_39 []) mean mg mb h₀) (hk : cs.kind = .function)
   (hd : dp + 2 < recursionLimit) (hu : un + 100 < cLine) (mb : (b, W.listOf vb.toArray nb) ∈ news) (ib : IntsAre vb bits) (bb : BitB bits) (lb : bits.length = k.toNat) (w0 : 1 ≤ k) (w1 : k ≤ 20)
   (ret : ∀ r t1 t2 t3 h' tk', Fr h₀ L h' m → News h₀ L h' ((r, vecO (k) (lowB bits) (highB bits) t1 t2 t3) :: news) → (∀ p ∈ news, p.1 < r) → Q (.ref r) { s with heap := h', toks := tk' }) :
   wpAny (model (PySem.Challenge.rw_nn0305_01.row.prog) w) (ktrTop dp un gd cn cs L a ccd cl outer) (call (.ref 210) [.ref b]) Q E s := by
  exact law_made_spec B F X (news_in N mb) T hk hd hu ib bb lb w0 w1 fun r t1 t2 t3 h' tk' F' N' l' => ret r t1 t2 t3 h' tk' F' (le1 N') l'
set_option maxRecDepth 100000 in
set_option maxHeartbeats 4000000 in
theorem law_whole_m_spec {b : Addr} {vb : List Value} {bits : List Int} {nb : Nat} {k : Int} {sg : Bool} {o : Option Int} (B : Below A₀ base outer h₀) (F : Fr h₀ L s.heap m) (X : (hd.heap_39 w.params).In h₀) (N : News h₀ L s.heap news) (T : Top hd.view_39 (looseW hd.view_39 []) mean mg mb h₀) (hk : cs.kind = .function)
   (hd : dp + 2 < recursionLimit) (hu : un + 100 < cLine) (mb : (b, W.listOf vb.toArray nb) ∈ news) (ib : IntsAre vb bits) (bb : BitB bits) (lb : bits.length = k.toNat) (w0 : 1 ≤ k) (w1 : k ≤ 20) (ho : toInt k (lowB bits) (highB bits) sg = o)
   (ret : ∀ t h' tk', Fr h₀ L h' m → News h₀ L h' news → Q (oV (o) t) { s with heap := h', toks := tk' }) :
   wpAny (model (PySem.Challenge.rw_nn0305_01.row.prog) w) (ktrTop dp un gd cn cs L a ccd cl outer) (call (.ref 222) [.ref b, .bool sg]) Q E s := by
  exact law_whole_spec B F X (news_in N mb) T hk hd hu ib bb lb w0 w1 ho fun t h' tk' F' N' => ret t h' tk' F' (ld1 N')
set_option maxRecDepth 100000 in
set_option maxHeartbeats 4000000 in
theorem law_vecO_spec {k : Int} {t t1 : Tok} {o : Option Int} (B : Below A₀ base outer h₀) (F : Fr h₀ L s.heap m) (X : (hd.heap_39 w.params).In h₀) (N : News h₀ L s.heap news) (T : Top hd.view_39 (looseW hd.view_39 []) mean mg mb h₀) (hk : cs.kind = .function)
   (hd : dp + 2 < recursionLimit) (hu : un + 16 < cLine) (h0 : 0 ≤ k) (h1 : k ≤ 40)
   (ret : ∀ r t1 t2 t3 h' tk', Fr h₀ L h' m → News h₀ L h' ((r, vecO (k) (vA k o) (vB k o) t1 t2 t3) :: news) → (∀ p ∈ news, p.1 < r) → Q (.ref r) { s with heap := h', toks := tk' }) :
   wpAny (model (PySem.Challenge.rw_nn0305_01.row.prog) w) (ktrTop dp un gd cn cs L a ccd cl outer) (call (.ref 229) [.int k t, oV o t1]) Q E s := by
  cases o with
  | none => exact law_vecN_spec B F X N T hk hd hu h0 h1 ret
  | some n => exact law_vecS_spec B F X N T hk hd hu h0 h1 ret

end
section

def kn : Option Int → Option Int → Bool
  | some _, some _ => true
  | _, _ => false
def gd : Option Int → Option Int → Bool
  | some _, some n => n != 0
  | _, _ => false
theorem opt1 (o : Option Int) : o = none ∨ ∃ m, o = some m := by
  cases o with
  | none => exact .inl rfl
  | some m => exact .inr ⟨m, rfl⟩
theorem opt2 (o1 o2 : Option Int) : o1 = none ∨ (∃ m, o1 = some m ∧ o2 = none) ∨ (∃ m n, o1 = some m ∧ o2 = some n) := by
  cases o1 with
  | none => exact .inl rfl
  | some m =>
    cases o2 with
    | none => exact .inr (.inl ⟨m, rfl, rfl⟩)
    | some n => exact .inr (.inr ⟨m, n, rfl, rfl⟩)
theorem opt4 (o1 o2 : Option Int) : o1 = none ∨ (∃ m, o1 = some m ∧ o2 = none) ∨ (∃ m n, o1 = some m ∧ o2 = some n ∧ m < n) ∨ (∃ m, o1 = some m ∧ o2 = some m) ∨ (∃ m n, o1 = some m ∧ o2 = some n ∧ n < m) := by
  rcases opt2 o1 o2 with h | h | ⟨m, n, h1, h2⟩
  · exact .inl h
  · exact .inr (.inl h)
  · rcases Int.lt_trichotomy m n with e | e | e
    · exact .inr (.inr (.inl ⟨m, n, h1, h2, e⟩))
    · exact .inr (.inr (.inr (.inl ⟨m, h1, e ▸ h2⟩)))
    · exact .inr (.inr (.inr (.inr ⟨m, n, h1, h2, e⟩)))
theorem oV_none {t : Tok} : oV none t = .none := rfl
theorem oV_some {i : Int} {t : Tok} : oV (some i) t = .int i t := rfl
theorem opt3 (o1 o2 : Option Int) : o1 = none ∨ (∃ m, o1 = some m ∧ o2 = none) ∨ (∃ m, o1 = some m ∧ o2 = some 0) ∨ (∃ m n, o1 = some m ∧ o2 = some n ∧ n ≠ 0) := by
  rcases opt2 o1 o2 with h | h | ⟨m, n, h1, h2⟩
  · exact .inl h
  · exact .inr (.inl h)
  · by_cases e : n = 0
    · exact .inr (.inr (.inl ⟨m, h1, e ▸ h2⟩))
    · exact .inr (.inr (.inr ⟨m, n, h1, h2, e⟩))
section
variable {k x y x2 y2 m n : Int} {sg : Bool}
theorem ti_some (h : toInt k x y sg = some m) : y = 0 ∧ (m = x ∨ m = x - 2 ^ k.toNat) := by
  unfold toInt at h
  by_cases hy : y = 0
  · rw [if_pos hy] at h
    refine ⟨hy, ?_⟩
    by_cases hc : sg = true ∧ x.fdiv (2 ^ (k - 1).toNat) = 1
    · rw [if_pos hc] at h; exact .inr (Option.some.inj h).symm
    · rw [if_neg hc] at h; exact .inl (Option.some.inj h).symm
  · rw [if_neg hy] at h; cases h
theorem ti_none (h : toInt k x y sg = none) : y ≠ 0 := by
  intro hy
  unfold toInt at h
  rw [if_pos hy] at h
  split at h <;> cases h
theorem ti_mod (h : toInt k x y sg = some m) : m % 2 ^ k.toNat = x % 2 ^ k.toNat := by
  rcases (ti_some h).2 with e | e
  · rw [e]
  · rw [e, Int.sub_emod_right]
theorem ti_bound {c : Int} (h0 : 0 ≤ x) (h1 : x < 2 ^ k.toNat) (h2 : (2 : Int) ^ k.toNat ≤ c) (h : toInt k x y sg = some m) : -c ≤ m ∧ m ≤ c := by
  rcases (ti_some h).2 with e | e <;> omega
theorem vA_eq {a b : Int} (h : a % 2 ^ k.toNat = b % 2 ^ k.toNat) : vA k (some a) = vA k (some b) := h
theorem op_ss {f : Int} (h : toInt k x y sg = some m) (h2 : toInt k x2 y2 sg = some n) : (if y = 0 ∧ y2 = 0 then some f else none) = some f := if_pos ⟨(ti_some h).1, (ti_some h2).1⟩
theorem op_n1 {f : Int} (h : toInt k x y sg = none) : (if y = 0 ∧ y2 = 0 then some f else none) = none := if_neg fun q => ti_none h q.1
theorem op_n2 {f : Int} (h : toInt k x2 y2 sg = none) : (if y = 0 ∧ y2 = 0 then some f else none) = none := if_neg fun q => ti_none h q.2
theorem vA_n1 {f : Int} (h : toInt k x y sg = none) : vA k (if y = 0 ∧ y2 = 0 then some f else none) = vA k none := congrArg _ (op_n1 h)
theorem vA_n2 {f : Int} (h : toInt k x2 y2 sg = none) : vA k (if y = 0 ∧ y2 = 0 then some f else none) = vA k none := congrArg _ (op_n2 h)
theorem vB_n1 {f : Int} (h : toInt k x y sg = none) : vB k (if y = 0 ∧ y2 = 0 then some f else none) = vB k none := congrArg _ (op_n1 h)
theorem vB_n2 {f : Int} (h : toInt k x2 y2 sg = none) : vB k (if y = 0 ∧ y2 = 0 then some f else none) = vB k none := congrArg _ (op_n2 h)
theorem vB_ss {f g : Int} (h : toInt k x y sg = some m) (h2 : toInt k x2 y2 sg = some n) : vB k (if y = 0 ∧ y2 = 0 then some f else none) = vB k (some g) := by rw [op_ss h h2]; rfl
theorem vA_add (h : toInt k x y sg = some m) (h2 : toInt k x2 y2 sg = some n) : vA k (if y = 0 ∧ y2 = 0 then some (x + x2) else none) = vA k (some (m + n)) := by
  rw [op_ss h h2]; refine vA_eq ?_; rw [Int.add_emod, ← ti_mod h, ← ti_mod h2, ← Int.add_emod]
theorem vA_sub (h : toInt k x y sg = some m) (h2 : toInt k x2 y2 sg = some n) : vA k (if y = 0 ∧ y2 = 0 then some (x - x2) else none) = vA k (some (m - n)) := by
  rw [op_ss h h2]; refine vA_eq ?_; rw [Int.sub_emod, ← ti_mod h, ← ti_mod h2, ← Int.sub_emod]
theorem vA_mul (h : toInt k x y sg = some m) (h2 : toInt k x2 y2 sg = some n) : vA k (if y = 0 ∧ y2 = 0 then some (x * x2) else none) = vA k (some (m * n)) := by
  rw [op_ss h h2]; refine vA_eq ?_; rw [Int.mul_emod, ← ti_mod h, ← ti_mod h2, ← Int.mul_emod]
theorem vA_neg (h : toInt k x y sg = some m) : vA k (if y = 0 then some (0 - x) else none) = vA k (some (-m)) := by
  rw [if_pos (ti_some h).1]; refine vA_eq ?_; rw [← Int.zero_sub m, Int.sub_emod, ← ti_mod h, ← Int.sub_emod]
theorem vB_neg {g : Int} (h : toInt k x y sg = some m) : vB k (if y = 0 then some (0 - x) else none) = vB k (some g) := by rw [if_pos (ti_some h).1]; rfl
theorem vA_negn (h : toInt k x y sg = none) : vA k (if y = 0 then some (0 - x) else none) = vA k none := by rw [if_neg (ti_none h)]
theorem vB_negn (h : toInt k x y sg = none) : vB k (if y = 0 then some (0 - x) else none) = vB k none := by rw [if_neg (ti_none h)]
theorem dvo_s (h : n ≠ 0) : dvo (some m) (some n) = some (qt m n) := if_neg h
theorem dvo_z (h : n = 0) : dvo (some m) (some n) = none := if_pos h
theorem mdo_s (h : n ≠ 0) : mdo (some m) (some n) = some (m - n * qt m n) := if_neg h
theorem mdo_z (h : n = 0) : mdo (some m) (some n) = none := if_pos h
end
section
variable {prog : Program} {w : World} {A : Around} {E : Value → Shared → Prop} {s : Shared} {h₀ : Heap} {L : Addr} {news : List (Addr × Obj)} {a b : Addr} {k k' x y x' y' : Int} {t1 t2 t3 t4 t5 t6 : Tok} {Q : Value → Shared → Prop}
theorem rd_vec (N : News h₀ L s.heap news) (ma : (a, vecO k x y t1 t2 t3) ∈ news) : ∃ as, Reads s.heap (.ref a) (.tuple [.int k, .int x, .int y]) as :=
  ⟨_, reads_tuple_at (News.get N ma) rfl rfl (.cons (.int _ _) (.cons (.int _ _) (.cons (.int _ _) .nil)))⟩
theorem eqv_vec : PyData.eqv (.tuple [.int k, .int x, .int y]) (.tuple [.int k, .int x, .int y]) = true := by simp [PyData.eqv, PyData.eqvAll]
theorem ne_vec (N : News h₀ L s.heap news) (ma : (a, vecO k x y t1 t2 t3) ∈ news) (mb : (b, vecO k' x' y' t4 t5 t6) ∈ news) (ek : k = k') (e1 : x = x') (e2 : y = y') (hu : A.units + 64 < cLine) (h : Q (.bool false) s) :
    wpAny (model prog w) A (compareOp .NotEq (.ref a) (.ref b)) Q E s := by
  subst ek; subst e1; subst e2
  obtain ⟨_, r1⟩ := rd_vec N ma
  obtain ⟨_, r2⟩ := rd_vec N mb
  refine ne_dataH r1 r2 rfl rfl hu ?_
  rw [eqv_vec]; exact h
theorem eq_vec (N : News h₀ L s.heap news) (ma : (a, vecO k x y t1 t2 t3) ∈ news) (mb : (b, vecO k' x' y' t4 t5 t6) ∈ news) (ek : k = k') (e1 : x = x') (e2 : y = y') (hu : A.units + 64 < cLine) (h : Q (.bool true) s) :
    wpAny (model prog w) A (compareOp .Eq (.ref a) (.ref b)) Q E s := by
  subst ek; subst e1; subst e2
  obtain ⟨_, r1⟩ := rd_vec N ma
  obtain ⟨_, r2⟩ := rd_vec N mb
  refine eq_dataH r1 r2 rfl rfl hu ?_
  rw [eqv_vec]; exact h
end
section
variable {prog : Program} {w : World} {A : Around} {E : Value → Shared → Prop} {s : Shared} {a b : Int} {t u : Tok} {Q : Value → Shared → Prop}
theorem lt_tt (h : a < b) (hq : Q (.bool true) s) : wpAny (model prog w) A (compareOp .Lt (.int a t) (.int b u)) Q E s := lt_int (by rw [decide_eq_true h]; exact hq)
theorem lt_ff (h : ¬ a < b) (hq : Q (.bool false) s) : wpAny (model prog w) A (compareOp .Lt (.int a t) (.int b u)) Q E s := lt_int (by rw [decide_eq_false h]; exact hq)
theorem le_tt (h : a ≤ b) (hq : Q (.bool true) s) : wpAny (model prog w) A (compareOp .LtE (.int a t) (.int b u)) Q E s := le_int (by rw [decide_eq_true h]; exact hq)
theorem le_ff (h : ¬ a ≤ b) (hq : Q (.bool false) s) : wpAny (model prog w) A (compareOp .LtE (.int a t) (.int b u)) Q E s := le_int (by rw [decide_eq_false h]; exact hq)
theorem gt_tt (h : b < a) (hq : Q (.bool true) s) : wpAny (model prog w) A (compareOp .Gt (.int a t) (.int b u)) Q E s := gt_int (by rw [decide_eq_true h]; exact hq)
theorem gt_ff (h : ¬ b < a) (hq : Q (.bool false) s) : wpAny (model prog w) A (compareOp .Gt (.int a t) (.int b u)) Q E s := gt_int (by rw [decide_eq_false h]; exact hq)
theorem ge_tt (h : b ≤ a) (hq : Q (.bool true) s) : wpAny (model prog w) A (compareOp .GtE (.int a t) (.int b u)) Q E s := ge_int (by rw [decide_eq_true h]; exact hq)
theorem ge_ff (h : ¬ b ≤ a) (hq : Q (.bool false) s) : wpAny (model prog w) A (compareOp .GtE (.int a t) (.int b u)) Q E s := ge_int (by rw [decide_eq_false h]; exact hq)
end

end
section

def Stop (P : Prop) : Prop := P
theorem stop_of {P : Prop} (h : Stop P) : P := h
theorem un_stop {P : Prop} (h : P) : Stop P := h
section
variable {M : Model} {A : Around} {E : Value → Shared → Prop} {s : Shared} {t u : Tok} {v : Int} {prog : Program} {w : World}
theorem add_gen20 {Q : Value → Shared → Prop} (h : ∀ k : Int, 1 ≤ k → k ≤ 20 → Q (.int k s.toks) { s with toks := s.toks + 1 }) : wpAny (model prog w) A (binaryOp .Add (.int 1 t) (.int (v.fmod 20) u)) Q E s := by
  have h1 := Int.fmod_nonneg_of_pos v (show (0 : Int) < 20 by decide)
  have h2 := Int.fmod_lt_of_pos v (show (0 : Int) < 20 by decide)
  exact add_int (h _ (by omega) (by omega))
theorem add_gen12 {Q : Value → Shared → Prop} (h : ∀ k : Int, 1 ≤ k → k ≤ 12 → Q (.int k s.toks) { s with toks := s.toks + 1 }) : wpAny (model prog w) A (binaryOp .Add (.int 1 t) (.int (v.fmod 12) u)) Q E s := by
  have h1 := Int.fmod_nonneg_of_pos v (show (0 : Int) < 12 by decide)
  have h2 := Int.fmod_lt_of_pos v (show (0 : Int) < 12 by decide)
  exact add_int (h _ (by omega) (by omega))
end
section
variable {M : Model} {A : Around} {E : Value → Shared → Prop} {s : Shared} {h₀ : Heap} {L : Addr} {m : Str → Option Value} {news : List (Addr × Obj)} {env : Env} {Q : Flow → Shared → Prop}
theorem cutE {st : Stmt} (m₁ : Str → Option Value) (_ : Fr h₀ L s.heap m) (_ : News h₀ L s.heap news) (k : ∀ h' tk', Fr h₀ L h' m₁ → News h₀ L h' news → Q .next { s with heap := h', toks := tk' })
    (b : ∀ Q' : Flow → Shared → Prop, (∀ h' tk', Fr h₀ L h' m₁ → News h₀ L h' news → Q' .next { s with heap := h', toks := tk' }) → wpAny M A (exec st env) Q' E s) : wpAny M A (exec st env) Q E s := b Q k
abbrev upF (names : List Str) (u m : Str → Option Value) : Str → Option Value := fun y => if names.contains y then u y else m y
theorem cutL {l : List Stmt} (names : List Str) (_ : Fr h₀ L s.heap m) (_ : News h₀ L s.heap news) (k : ∀ u h' tk', Fr h₀ L h' (upF names u m) → News h₀ L h' news → Q .next { s with heap := h', toks := tk' })
    (b : ∀ Q' : Flow → Shared → Prop, (∀ u h' tk', Fr h₀ L h' (upF names u m) → News h₀ L h' news → Q' .next { s with heap := h', toks := tk' }) → wpAny M A (execs l env) Q' E s) : wpAny M A (execs l env) Q E s := b Q k
theorem cutB4 {s1 s2 s3 s4 : Stmt} {rest : List Stmt} (names : List Str) (_ : Fr h₀ L s.heap m) (_ : News h₀ L s.heap news) (k : ∀ u h' tk', Fr h₀ L h' (upF names u m) → News h₀ L h' news → wpAny M A (execs rest env) Q E { s with heap := h', toks := tk' })
    (b : (∀ u h' tk', Fr h₀ L h' (upF names u m) → News h₀ L h' news → wpAny M A (execs rest env) Q E { s with heap := h', toks := tk' }) → wpAny M A (execs (s1 :: s2 :: s3 :: s4 :: rest) env) Q E s) : wpAny M A (execs (s1 :: s2 :: s3 :: s4 :: rest) env) Q E s := b k
theorem cutI {st : Stmt} (_ : Fr h₀ L s.heap m) (_ : News h₀ L s.heap news)
    (b : ∀ Q' : Flow → Shared → Prop, (∀ h' tk', Fr h₀ L h' m → News h₀ L h' news → Q' .next { s with heap := h', toks := tk' }) → wpAny M A (exec st env) Q' E s) (k : ∀ h' tk', Fr h₀ L h' m → News h₀ L h' news → Q .next { s with heap := h', toks := tk' }) : wpAny M A (exec st env) Q E s := b Q k
theorem cutV {st : Stmt} (x : Str) (v : Value) (_ : Fr h₀ L s.heap m) (_ : News h₀ L s.heap news)
    (b : ∀ Q' : Flow → Shared → Prop, (∀ h' tk', Fr h₀ L h' (fun y => if y = x then some v else m y) → News h₀ L h' news → Q' .next { s with heap := h', toks := tk' }) → wpAny M A (exec st env) Q' E s) (k : ∀ h' tk', Fr h₀ L h' (fun y => if y = x then some v else m y) → News h₀ L h' news → Q .next { s with heap := h', toks := tk' }) : wpAny M A (exec st env) Q E s := b Q k
theorem pow12 {k : Int} (h1 : k ≤ 12) : (2 : Int) ^ k.toNat ≤ 4096 := by
  have := ipow_le (show k.toNat ≤ 12 by omega)
  exact this
theorem fr_to {h : Heap} {m₁ m₂ : Str → Option Value} (F : Fr h₀ L h m₁) (e : ∀ y, m₁ y = m₂ y) : Fr h₀ L h m₂ := by
  have : m₁ = m₂ := funext e
  exact this ▸ F
theorem fr_up {h : Heap} {m₁ : Str → Option Value} {names : List Str} (F : Fr h₀ L h m₁) (e : ∀ y, names.contains y = false → m₁ y = m y) : Fr h₀ L h (upF names m₁ m) := fr_to F fun y => by
  show m₁ y = if names.contains y then m₁ y else m y
  cases hc : names.contains y with
  | true => rfl
  | false => exact e y hc
end

end
section

def Sub (names : List Str) (m' m : Str → Option Value) : Prop := ∀ y, names.contains y = false → m' y = m y
theorem sub_refl {names : List Str} {m : Str → Option Value} : Sub names m m := fun _ _ => rfl
theorem sub_st {names : List Str} {x : Str} {v : Option Value} {m' m : Str → Option Value} (hx : names.contains x = true) (h : Sub names m' m) : Sub names (fun y => if y = x then v else m' y) m := fun y hy => by
  have h1 : y ≠ x := fun e => by rw [e, hx] at hy; cases hy
  show (if y = x then v else m' y) = m y
  rw [if_neg h1]; exact h y hy
theorem sub_up {names names2 : List Str} {u m' m : Str → Option Value} (hn : names2.all (fun z => names.contains z) = true) (h : Sub names m' m) : Sub names (upF names2 u m') m := fun y hy => by
  have h2 : names2.contains y = false := by
    cases hc : names2.contains y with
    | false => rfl
    | true =>
      have := List.all_eq_true.mp hn y (by simpa using hc)
      rw [this] at hy; cases hy
  show (if names2.contains y = true then u y else m' y) = m y
  rw [h2, if_neg (by decide)]
  exact h y hy
section
variable {prog : Program} {w : World} {A : Around} {E : Value → Shared → Prop} {s : Shared} {env : Env} {h₀ : Heap} {x : Str} {body : List Stmt} {Q : Flow → Shared → Prop}
abbrev bF (x : Str) (names : List Str) (sg : Bool) (u m₀ : Str → Option Value) : Str → Option Value := fun y => if y = x then some (.bool sg) else upF names u m₀ y
theorem fr_bool {L : Addr} {h : Heap} {m₀ u : Str → Option Value} {names : List Str} {b sg : Bool} (F : Fr h₀ L h (fun y => if y = x then some (.bool sg) else bF x names b u m₀ y)) : Fr h₀ L h (bF x names sg u m₀) := fr_to F fun y => by
  show (if y = x then _ else _) = if y = x then _ else _
  by_cases e : y = x
  · rw [if_pos e, if_pos e]
  · rw [if_neg e, if_neg e]
    show (if y = x then _ else _) = _
    rw [if_neg e]
theorem fr_bool0 {L : Addr} {h : Heap} {m₀ : Str → Option Value} {names : List Str} {sg : Bool} (F : Fr h₀ L h (fun y => if y = x then some (.bool sg) else m₀ y)) : Fr h₀ L h (bF x names sg m₀ m₀) := fr_to F fun y => by
  show (if y = x then _ else _) = if y = x then _ else (if names.contains y = true then m₀ y else m₀ y)
  rw [ite_self]
theorem iter_bools {ax : Addr} {lo : Obj} {n : Nat} {m₀ : Str → Option Value} {news : List (Addr × Obj)} (names : List Str)
    (hh : A.handled = none) (F : Fr h₀ env.locals s.heap m₀) (N : News h₀ env.locals s.heap news) (hm : (ax, lo) ∈ news) (hc : lo.cls = .type "list") (hd : lo.data = .seq #[.bool false, .bool true] n)
    (turn : ∀ (sg : Bool) (u : Str → Option Value) (I : Addr) (it : Obj) (h : Heap) (tk : Nat) (Q' : Flow → Shared → Prop), it.cls = .type "list_iterator" → Fr h₀ env.locals h (bF x names sg u m₀) → News h₀ env.locals h ((I, it) :: news) →
      (∀ u' h' tk', Fr h₀ env.locals h' (bF x names sg u' m₀) → News h₀ env.locals h' ((I, it) :: news) → Q' .next { s with heap := h', toks := tk' }) →
      wpAny (model prog w) A (execs body env) Q' E { s with heap := h, toks := tk })
    (done : ∀ u h tk, Fr h₀ env.locals h (bF x names true u m₀) → News h₀ env.locals h news → Q .next { s with heap := h, toks := tk }) :
    wpAny (model prog w) A (pyIter (.ref ax)) (fun it s₂ => LoopAtV prog w A h₀ env x body Q E it s₂) E s := by
  refine iter_listUnr (vs := [.bool false, .bool true]) hh F N hm hc hd fun I hI => ?_
  have off : ∀ p ∈ news, p.1 ≠ I := fun p hp => Nat.ne_of_lt (hI p hp)
  refine ListRest.succ fun it h tk hit F1 N1 => ?_
  refine turn false m₀ I it h tk _ hit (fr_bool0 F1) N1 fun u h' tk' F2 N2 => ?_
  refine UnrEnd.intro (s₁ := { s with heap := h, toks := tk }) F2 N2 news (fun _ hp => hp) off ⟨hm, ?_⟩
  refine ListRest.succ fun it h tk hit F3 N3 => ?_
  refine turn true u I it h tk _ hit (fr_bool F3) N3 fun u h' tk' F4 N4 => ?_
  refine UnrEnd.intro (s₁ := { s with heap := h, toks := tk }) F4 N4 news (fun _ hp => hp) off ⟨hm, ?_⟩
  exact ListRest.zero fun h tk F5 N5 => done u h tk F5 N5
theorem sub_bF {names names2 : List Str} {x2 : Str} {sg : Bool} {u m' m : Str → Option Value} (hx : names.contains x2 = true) (hn : names2.all (fun z => names.contains z) = true) (h : Sub names m' m) : Sub names (bF x2 names2 sg u m') m := fun y hy => by
  show (if y = x2 then _ else if names2.contains y = true then u y else m' y) = m y
  have h1 : y ≠ x2 := fun e => by rw [e, hx] at hy; cases hy
  have h2 : names2.contains y = false := by
    cases hc : names2.contains y with
    | false => rfl
    | true =>
      have := List.all_eq_true.mp hn y (by simpa using hc)
      rw [this] at hy; cases hy
  rw [if_neg h1, h2, if_neg (by decide)]
  exact h y hy
theorem fr_bEnd {L : Addr} {h : Heap} {names : List Str} {sg : Bool} {m' m₀ : Str → Option Value} (F : Fr h₀ L h m') (hx : m' x = some (.bool sg)) (e : Sub (x :: names) m' m₀) : Fr h₀ L h (bF x names sg m' m₀) := fr_to F fun y => by
  show m' y = if y = x then some (.bool sg) else if names.contains y = true then m' y else m₀ y
  by_cases hy : y = x
  · rw [if_pos hy, hy, hx]
  · rw [if_neg hy]
    cases hc : names.contains y with
    | true => rfl
    | false =>
      rw [if_neg (by decide)]
      refine e y ?_
      rw [List.contains_cons, hc]
      simp [hy]
theorem cutDue {s1 s2 : Stmt} {rest : List Stmt} {M : Model} {m : Str → Option Value} {news : List (Addr × Obj)} {L : Addr} (x : Str) (a1 a2 a3 a4 : Option Int) (_ : Fr h₀ L s.heap m) (_ : News h₀ L s.heap news)
    (b : (∀ d n t1 t2 t3 t4 h' tk', Fr h₀ L h' (fun y => if y = x then some (.ref d) else m y) → News h₀ L h' ((d, W.listOf #[oV a1 t1, oV a2 t2, oV a3 t3, oV a4 t4] n) :: news) → wpAny M A (execs rest env) Q E { s with heap := h', toks := tk' }) → wpAny M A (execs (s1 :: s2 :: rest) env) Q E s)
    (k : ∀ d n t1 t2 t3 t4 h' tk', Fr h₀ L h' (fun y => if y = x then some (.ref d) else m y) → News h₀ L h' ((d, W.listOf #[oV a1 t1, oV a2 t2, oV a3 t3, oV a4 t4] n) :: news) → wpAny M A (execs rest env) Q E { s with heap := h', toks := tk' }) : wpAny M A (execs (s1 :: s2 :: rest) env) Q E s := b k
theorem odl1 {m n : Int} (h : m < n) : odl (odo (some m) (some n)) = some 1 := by
  simp only [odo, if_neg (Int.ne_of_lt h), if_pos h]; rfl
theorem ode1 {m n : Int} (h : m < n) : ode (odo (some m) (some n)) = some 1 := by
  simp only [odo, if_neg (Int.ne_of_lt h), if_pos h]; rfl
theorem odl2 {m n : Int} (h : n < m) : odl (odo (some m) (some n)) = some 0 := by
  simp only [odo, if_neg (Int.ne_of_gt h), if_neg (Int.not_lt.mpr (Int.le_of_lt h))]; rfl
theorem ode2 {m n : Int} (h : n < m) : ode (odo (some m) (some n)) = some 0 := by
  simp only [odo, if_neg (Int.ne_of_gt h), if_neg (Int.not_lt.mpr (Int.le_of_lt h))]; rfl
theorem odl3 {m : Int} : odl (odo (some m) (some m)) = some 0 := by
  simp only [odo, if_pos rfl]; rfl
theorem ode3 {m : Int} : ode (odo (some m) (some m)) = some 1 := by
  simp only [odo, if_pos rfl]; rfl
theorem odnl {o : Option Int} : odo none o = none := by cases o <;> rfl
theorem fr_dup {L : Addr} {h : Heap} {m : Str → Option Value} {v v' : Option Value} (F : Fr h₀ L h (fun z => if z = x then v else (fun y => if y = x then v' else m y) z)) : Fr h₀ L h (fun y => if y = x then v else m y) := fr_to F fun y => by
  show (if y = x then v else if y = x then v' else m y) = if y = x then v else m y
  by_cases e : y = x
  · rw [if_pos e, if_pos e]
  · rw [if_neg e, if_neg e, if_neg e]
theorem pick1 {L : Addr} {h : Heap} {p1 : Addr × Obj} {l news : List (Addr × Obj)} (N : News h₀ L h l) (h1 : p1 ∈ l) (h3 : ∀ p ∈ news, p ∈ l) : News h₀ L h (p1 :: news) := fun p hp => N p (by
  rcases List.mem_cons.mp hp with e | hp
  · exact e ▸ h1
  · exact h3 p hp)
theorem ld6 {L : Addr} {h : Heap} {p1 p2 p3 p4 p5 p6 : Addr × Obj} {news : List (Addr × Obj)} (N : News h₀ L h (p1 :: p2 :: p3 :: p4 :: p5 :: p6 :: news)) : News h₀ L h news := fun p hp => N p (.tail _ (.tail _ (.tail _ (.tail _ (.tail _ (.tail _ hp))))))
theorem odn {o : Option Int} : odo o none = none := by cases o <;> rfl
end
section
variable {prog : Program} {w : World} {A : Around} {E : Value → Shared → Prop} {s : Shared} {h₀ : Heap} {L : Addr} {news : List (Addr × Obj)} {a b a1 a2 a3 a4 b1 b2 b3 b4 : Addr} {n n' : Nat} {la lb : Obj} {Q : Value → Shared → Prop}
def Sm (news : List (Addr × Obj)) (a b : Addr) : Prop := ∃ k x y t1 t2 t3 t4 t5 t6, (a, vecO k x y t1 t2 t3) ∈ news ∧ (b, vecO k x y t4 t5 t6) ∈ news
theorem sm_of {k x y k' x' y' : Int} {t1 t2 t3 t4 t5 t6 : Tok} (ma : (a, vecO k x y t1 t2 t3) ∈ news) (mb : (b, vecO k' x' y' t4 t5 t6) ∈ news) (ek : k = k') (ex : x = x') (ey : y = y') : Sm news a b := by
  subst ek; subst ex; subst ey
  exact ⟨k, x, y, t1, t2, t3, t4, t5, t6, ma, mb⟩
theorem ne_vecs4 (N : News h₀ L s.heap news) (ma : (a, la) ∈ news) (ca : la.cls = .type "list") (da : la.data = .seq #[.ref a1, .ref a2, .ref a3, .ref a4] n) (mb : (b, lb) ∈ news) (cb : lb.cls = .type "list") (db : lb.data = .seq #[.ref b1, .ref b2, .ref b3, .ref b4] n')
    (q1 : Sm news a1 b1) (q2 : Sm news a2 b2) (q3 : Sm news a3 b3) (q4 : Sm news a4 b4) (hu : A.units + 64 < cLine) (h : Q (.bool false) s) :
    wpAny (model prog w) A (compareOp .NotEq (.ref a) (.ref b)) Q E s := by
  obtain ⟨k1, x1, y1, _, _, _, _, _, _, u1, v1⟩ := q1
  obtain ⟨k2, x2, y2, _, _, _, _, _, _, u2, v2⟩ := q2
  obtain ⟨k3, x3, y3, _, _, _, _, _, _, u3, v3⟩ := q3
  obtain ⟨k4, x4, y4, _, _, _, _, _, _, u4, v4⟩ := q4
  obtain ⟨_, r1⟩ := rd_vec N u1
  obtain ⟨_, r2⟩ := rd_vec N u2
  obtain ⟨_, r3⟩ := rd_vec N u3
  obtain ⟨_, r4⟩ := rd_vec N u4
  obtain ⟨_, z1⟩ := rd_vec N v1
  obtain ⟨_, z2⟩ := rd_vec N v2
  obtain ⟨_, z3⟩ := rd_vec N v3
  obtain ⟨_, z4⟩ := rd_vec N v4
  refine ne_dataH (reads_list_at (News.get N ma) ca da (.cons r1 (.cons r2 (.cons r3 (.cons r4 .nil))))) (reads_list_at (News.get N mb) cb db (.cons z1 (.cons z2 (.cons z3 (.cons z4 .nil))))) rfl rfl hu ?_
  simp only [PyData.eqv, PyData.eqvAll, beq_self_eq_true, Bool.and_true, Bool.not_true]
  exact h
theorem ne_vecs3 (N : News h₀ L s.heap news) (ma : (a, la) ∈ news) (ca : la.cls = .type "list") (da : la.data = .seq #[.ref a1, .ref a2, .ref a3] n) (mb : (b, lb) ∈ news) (cb : lb.cls = .type "list") (db : lb.data = .seq #[.ref b1, .ref b2, .ref b3] n')
    (q1 : Sm news a1 b1) (q2 : Sm news a2 b2) (q3 : Sm news a3 b3) (hu : A.units + 64 < cLine) (h : Q (.bool false) s) :
    wpAny (model prog w) A (compareOp .NotEq (.ref a) (.ref b)) Q E s := by
  obtain ⟨k1, x1, y1, _, _, _, _, _, _, u1, v1⟩ := q1
  obtain ⟨k2, x2, y2, _, _, _, _, _, _, u2, v2⟩ := q2
  obtain ⟨k3, x3, y3, _, _, _, _, _, _, u3, v3⟩ := q3
  obtain ⟨_, r1⟩ := rd_vec N u1
  obtain ⟨_, r2⟩ := rd_vec N u2
  obtain ⟨_, r3⟩ := rd_vec N u3
  obtain ⟨_, z1⟩ := rd_vec N v1
  obtain ⟨_, z2⟩ := rd_vec N v2
  obtain ⟨_, z3⟩ := rd_vec N v3
  refine ne_dataH (reads_list_at (News.get N ma) ca da (.cons r1 (.cons r2 (.cons r3 .nil)))) (reads_list_at (News.get N mb) cb db (.cons z1 (.cons z2 (.cons z3 .nil)))) rfl rfl hu ?_
  simp only [PyData.eqv, PyData.eqvAll, beq_self_eq_true, Bool.and_true, Bool.not_true]
  exact h
end

end
section

theorem sumB_append (f : Int → Int) (b : List Int) : ∀ a : List Int, sumB f (a ++ b) = sumB f a + 2 ^ a.length * sumB f b
  | [] => by simp [sumB]
  | x :: r => by
    show f x + 2 * sumB f (r ++ b) = f x + 2 * sumB f r + 2 ^ (r.length + 1) * sumB f b
    rw [sumB_append f b r, Int.mul_add, Int.pow_succ, Int.mul_comm (2 ^ r.length) 2, Int.mul_assoc]; omega
theorem sumB_rep (f : Int → Int) (z : Int) : ∀ n : Nat, sumB f (List.replicate n z) = f z * (2 ^ n - 1)
  | 0 => by simp [sumB]
  | n + 1 => by
    show f z + 2 * sumB f (List.replicate n z) = _
    rw [sumB_rep f z n, Int.pow_succ, Int.mul_sub, Int.mul_sub, Int.mul_one, Int.mul_sub, ← Int.mul_assoc (f z), Int.mul_comm (f z * 2 ^ n) 2]; omega
theorem sumB_cut {f : Int → Int} {l : List Int} {n : Nat} (h : ∀ b ∈ l, 0 ≤ f b ∧ f b ≤ 1) (hn : n ≤ l.length) : sumB f (l.take n) = sumB f l % 2 ^ n ∧ sumB f (l.drop n) = (sumB f l).fdiv (2 ^ n) := by
  have e := sumB_append f (l.drop n) (l.take n)
  have hl : (l.take n).length = n := by rw [List.length_take]; omega
  have hr := sumB_range (f := f) (l := l.take n) fun b hb => h b (List.mem_of_mem_take hb)
  rw [List.take_append_drop, hl] at e
  rw [hl] at hr
  have hp := ipow_pos n
  constructor
  · rw [e, Int.add_mul_emod_self_left, Int.emod_eq_of_lt hr.1 hr.2]
  · rw [e, Int.fdiv_eq_ediv_of_nonneg _ (Int.le_of_lt hp), Int.add_mul_ediv_left _ _ (Int.ne_of_gt hp), Int.ediv_eq_zero_of_lt hr.1 hr.2, Int.zero_add]
theorem bitb_app {a b : List Int} (h1 : BitB a) (h2 : BitB b) : BitB (a ++ b) := bitb_of fun y hy => by
  rcases List.mem_append.mp hy with h | h
  · exact bitb_at h1 h
  · exact bitb_at h2 h
theorem bitb_drop {bits : List Int} (k : Nat) (h : BitB bits) : BitB (bits.drop k) := bitb_of fun y hy => bitb_at h (List.mem_of_mem_drop hy)
def ShL (k A B : Int) (vb : List Value) (l : List Int) : Prop := IntsAre vb l ∧ BitB l ∧ l.length = k.toNat ∧ lowB l = A ∧ highB l = B
def mn (k c : Int) : Int := if k < c then k else c
theorem mn_is {k c : Int} (hk : 1 ≤ k) (hc : 0 ≤ c) : ∃ e : Nat, mn k c = e ∧ e ≤ k.toNat ∧ (k ≤ c → e = k.toNat) ∧ (¬ k ≤ c → (e : Int) = c) := by
  refine ⟨(mn k c).toNat, ?_⟩
  unfold mn
  split <;> omega
theorem sl_key {f : Int → Int} {one : List Int} {k c : Int} (h : ∀ b ∈ one, 0 ≤ f b ∧ f b ≤ 1) (hf : f 0 = 0) (lk : one.length = k.toNat) (hk : 1 ≤ k) (hc : 0 ≤ c) :
    sumB f (List.take k.toNat ((List.replicate (mn k c).toNat [0]).flatten ++ one)) = slO k (sumB f one) c 0 := by
  obtain ⟨e, he, hek, h1, h2⟩ := mn_is hk hc
  rw [he, flat_rep, Int.toNat_natCast]
  rw [(sumB_cut (n := k.toNat) (fun b hb => by
    rcases List.mem_append.mp hb with hb | hb
    · rw [List.eq_of_mem_replicate hb, hf]; decide
    · exact h b hb) (by rw [List.length_append]; omega)).1]
  rw [sumB_append, sumB_rep, hf, Int.zero_mul, Int.zero_add, List.length_replicate]
  unfold slO
  rw [if_pos rfl]
  by_cases hkc : k ≤ c
  · rw [if_pos hkc, h1 hkc, Int.mul_emod_right]
  · rw [if_neg hkc, show c.toNat = e by have := h2 hkc; omega, Int.mul_comm]
theorem sr_key {f : Int → Int} {one : List Int} {k c v : Int} (h : ∀ b ∈ one, 0 ≤ f b ∧ f b ≤ 1) (hv : 0 ≤ f v ∧ f v ≤ 1) (lk : one.length = k.toNat) (hk : 1 ≤ k) (hc : 0 ≤ c) :
    sumB f (List.drop (mn k c).toNat (one ++ (List.replicate (mn k c).toNat [v]).flatten)) = (sumB f one).fdiv (2 ^ (mn k c).toNat) + f v * (2 ^ k.toNat - 2 ^ (k.toNat - (mn k c).toNat)) := by
  obtain ⟨e, he, hek, h1, h2⟩ := mn_is hk hc
  rw [he, flat_rep, Int.toNat_natCast]
  rw [(sumB_cut (n := e) (fun b hb => by
    rcases List.mem_append.mp hb with hb | hb
    · exact h b hb
    · rw [List.eq_of_mem_replicate hb]; exact hv) (by rw [List.length_append]; omega)).2]
  rw [sumB_append, sumB_rep, lk]
  have hp := ipow_pos e
  have e1 : (2 : Int) ^ k.toNat = 2 ^ e * 2 ^ (k.toNat - e) := by rw [← Int.pow_add, Nat.add_sub_cancel' hek]
  rw [Int.fdiv_eq_ediv_of_nonneg _ (Int.le_of_lt hp), Int.fdiv_eq_ediv_of_nonneg _ (Int.le_of_lt hp)]
  have e2 : (2 : Int) ^ k.toNat * (f v * (2 ^ e - 1)) = 2 ^ e * (f v * (2 ^ k.toNat - 2 ^ (k.toNat - e))) := by
    rw [Int.mul_sub (f v), Int.mul_sub (f v), Int.mul_one, Int.mul_sub, Int.mul_sub]
    rw [e1]
    ac_rfl
  rw [e2, Int.add_mul_ediv_left _ _ (Int.ne_of_gt hp)]
theorem sr_zero {a k c : Int} (ha : 0 ≤ a) (ha2 : a < 2 ^ k.toNat) (hk : 1 ≤ k) (hc : 0 ≤ c) : a.fdiv (2 ^ (mn k c).toNat) = srO k a c 0 := by
  obtain ⟨e, he, hek, h1, h2⟩ := mn_is hk hc
  rw [he, Int.toNat_natCast]
  unfold srO
  rw [if_pos rfl]
  by_cases hkc : k ≤ c
  · have := fdiv_lt ha ha2 (Nat.le_refl k.toNat)
    rw [Nat.sub_self, Int.pow_zero] at this
    rw [if_pos hkc, h1 hkc]; omega
  · rw [if_neg hkc, show c.toNat = e by have := h2 hkc; omega]
theorem sa_one {a k c q : Int} (ha : 0 ≤ a) (ha2 : a < 2 ^ k.toNat) (hk : 1 ≤ k) (hc : 0 ≤ c) (hq : 0 ≤ q ∧ q ≤ 1) (ht : a.fdiv (2 ^ (k - 1).toNat) = q) :
    a.fdiv (2 ^ (mn k c).toNat) + q * (2 ^ k.toNat - 2 ^ (k.toNat - (mn k c).toNat)) = saO k a c 0 true := by
  obtain ⟨e, he, hek, h1, h2⟩ := mn_is hk hc
  rw [he, Int.toNat_natCast]
  unfold saO
  rw [if_pos ⟨rfl, rfl⟩, ht]
  have hq2 : q = 0 ∨ q = 1 := by omega
  by_cases hkc : k ≤ c
  · have := fdiv_lt ha ha2 (Nat.le_refl k.toNat)
    rw [Nat.sub_self, Int.pow_zero] at this
    rw [if_pos hkc, h1 hkc, Nat.sub_self, Int.pow_zero]
    rcases hq2 with r | r <;> subst r
    · rw [if_neg (by decide)]; omega
    · rw [if_pos (by decide)]; omega
  · have h3 := h2 hkc
    rw [if_neg hkc, show c.toNat = e by omega, show (k - c).toNat = k.toNat - e by omega]
    rcases hq2 with r | r <;> subst r
    · rw [if_neg (by decide)]; omega
    · rw [if_pos (by decide)]; omega
theorem ite_nn {k c : Int} (h : 1 ≤ k) (h2 : 0 ≤ c) : 0 ≤ if k < c then k else c := by split <;> omega
theorem ite_room {k c v : Int} {one : List Int} (h : k ≤ 20) (lb : one.length = k.toNat) : (one ++ (List.replicate (if k < c then k else c).toNat [v]).flatten).length ≤ 4000 := by
  rw [List.length_append, len_rep]; split <;> omega
theorem ite_room2 {k c v : Int} {one : List Int} (h : k ≤ 20) (lb : one.length = k.toNat) : ((List.replicate (if k < c then k else c).toNat [v]).flatten ++ one).length ≤ 4000 := by
  rw [List.length_append, len_rep]; split <;> omega
theorem low0 : (0 : Int).fmod 2 = 0 := rfl
theorem high0 : (0 : Int).fdiv 2 = 0 := rfl
section
variable {one stp vb' : List Int} {vb : List Value} {k c z v : Int}
theorem shl_ok (hi : IntsAre vb (List.take k.toNat ((List.replicate (mn k c).toNat [0]).flatten ++ one))) (hb : BitB one) (lk : one.length = k.toNat) (hk : 1 ≤ k) (hc : 0 ≤ c) (hz : z = 0) :
    ShL k (slO k (lowB one) c z) (slO k (highB one) c z) vb (List.take k.toNat ((List.replicate (mn k c).toNat [0]).flatten ++ one)) := by
  subst hz
  refine ⟨hi, bitb_take _ (bitb_app (bitb_rep (by decide)) hb), ?_, sl_key (fun b h => low_bit (bitb_at hb h)) low0 lk hk hc, sl_key (fun b h => high_bit (bitb_at hb h)) high0 lk hk hc⟩
  rw [List.length_take, List.length_append]; omega
theorem len_dr (hk : 1 ≤ k) (hc : 0 ≤ c) (lk : one.length = k.toNat) : (List.drop (mn k c).toNat (one ++ (List.replicate (mn k c).toNat [v]).flatten)).length = k.toNat := by
  rw [List.length_drop, List.length_append, len_rep]; omega
theorem shr_ok (hi : IntsAre vb (List.drop (mn k c).toNat (one ++ (List.replicate (mn k c).toNat [0]).flatten))) (hb : BitB one) (lk : one.length = k.toNat) (hk : 1 ≤ k) (hc : 0 ≤ c) (hz : z = 0) :
    ShL k (srO k (lowB one) c z) (srO k (highB one) c z) vb (List.drop (mn k c).toNat (one ++ (List.replicate (mn k c).toNat [0]).flatten)) := by
  subst hz
  have r1 := lowB_range hb
  have r2 := highB_range hb
  rw [lk] at r1 r2
  refine ⟨hi, bitb_drop _ (bitb_app hb (bitb_rep (by decide))), len_dr hk hc lk, ?_, ?_⟩
  · have := sr_key (f := fun b => b.fmod 2) (v := 0) (fun b h => low_bit (bitb_at hb h)) (by decide) lk hk hc
    rw [low0, Int.zero_mul, Int.add_zero] at this
    exact this.trans (sr_zero r1.1 r1.2 hk hc)
  · have := sr_key (f := fun b => b.fdiv 2) (v := 0) (fun b h => high_bit (bitb_at hb h)) (by decide) lk hk hc
    rw [high0, Int.zero_mul, Int.add_zero] at this
    exact this.trans (sr_zero r2.1 r2.2 hk hc)
theorem sha_ok0 (hi : IntsAre vb (List.drop (mn k c).toNat (one ++ (List.replicate (mn k c).toNat [0]).flatten))) (hb : BitB one) (lk : one.length = k.toNat) (hk : 1 ≤ k) (hc : 0 ≤ c) (hz : z = 0) :
    ShL k (saO k (lowB one) c z false) (saO k (highB one) c z false) vb (List.drop (mn k c).toNat (one ++ (List.replicate (mn k c).toNat [0]).flatten)) := by
  rw [saF, saF]; exact shr_ok hi hb lk hk hc hz
theorem sha_ok1 {j : Nat} (hi : IntsAre vb (List.drop (mn k c).toNat (one ++ (List.replicate (mn k c).toNat [one.getD j 0]).flatten))) (hb : BitB one) (lk : one.length = k.toNat) (hk : 1 ≤ k) (hc : 0 ≤ c) (hz : z = 0) (hj : j = (k - 1).toNat) :
    ShL k (saO k (lowB one) c z true) (saO k (highB one) c z true) vb (List.drop (mn k c).toNat (one ++ (List.replicate (mn k c).toNat [one.getD j 0]).flatten)) := by
  subst hz
  have r1 := lowB_range hb
  have r2 := highB_range hb
  rw [lk] at r1 r2
  have hg := getD_bit hb j
  refine ⟨hi, bitb_drop _ (bitb_app hb (bitb_rep hg)), len_dr hk hc lk, ?_, ?_⟩
  · have t1 := top_bit (f := fun b => b.fmod 2) (n := j) (fun b h => low_bit (bitb_at hb h)) (by omega)
    have := sr_key (f := fun b => b.fmod 2) (v := one.getD j 0) (fun b h => low_bit (bitb_at hb h)) (low_bit hg) lk hk hc
    rw [hj] at t1 this ⊢
    exact this.trans (sa_one r1.1 r1.2 hk hc (low_bit (getD_bit hb _)) t1)
  · have t1 := top_bit (f := fun b => b.fdiv 2) (n := j) (fun b h => high_bit (bitb_at hb h)) (by omega)
    have := sr_key (f := fun b => b.fdiv 2) (v := one.getD j 0) (fun b h => high_bit (bitb_at hb h)) (high_bit hg) lk hk hc
    rw [hj] at t1 this ⊢
    exact this.trans (sa_one r2.1 r2.2 hk hc (high_bit (getD_bit hb _)) t1)
theorem rep3 (n : Nat) : lowB (List.replicate n [3]).flatten = 2 ^ n - 1 ∧ highB (List.replicate n [3]).flatten = 2 ^ n - 1 := by
  rw [flat_rep]
  constructor
  · exact (sumB_rep _ 3 n).trans (Int.one_mul _)
  · exact (sumB_rep _ 3 n).trans (Int.one_mul _)
theorem shx_ok {A B : Int} (hi : IntsAre vb (List.replicate k.toNat [3]).flatten) (hA : A = 2 ^ k.toNat - 1) (hB : B = 2 ^ k.toNat - 1) : ShL k A B vb (List.replicate k.toNat [3]).flatten := by
  subst hA; subst hB
  exact ⟨hi, bitb_rep (by decide), len_rep _ _, (rep3 _).1, (rep3 _).2⟩
theorem saX {a : Int} {sg : Bool} (hz : z ≠ 0) : saO k a c z sg = 2 ^ k.toNat - 1 := by
  unfold saO
  rw [if_neg (fun h => hz h.2), sr_x hz]
theorem shone {j : Nat} (hb : BitB one) (hk : 1 ≤ k) (lk : one.length = k.toNat) (hj : j = (k - 1).toNat) (hc : k ≤ c) :
    lowB (List.replicate k.toNat [one.getD j 0]).flatten = saO k (lowB one) c 0 true ∧ highB (List.replicate k.toNat [one.getD j 0]).flatten = saO k (highB one) c 0 true := by
  have hg := getD_bit hb j
  have t1 := top_bit (f := fun b => b.fmod 2) (n := j) (fun b h => low_bit (bitb_at hb h)) (by omega)
  have t2 := top_bit (f := fun b => b.fdiv 2) (n := j) (fun b h => high_bit (bitb_at hb h)) (by omega)
  refine ⟨?_, ?_⟩
  · rw [flat_rep]
    refine (sumB_rep (fun b => b.fmod 2) _ _).trans ?_
    have hq := low_bit hg
    unfold saO
    rw [if_pos ⟨rfl, rfl⟩, if_pos hc, ← hj]
    show _ = if (sumB (fun b => b.fmod 2) one).fdiv (2 ^ j) % 2 = 1 then _ else _
    rw [t1]
    show (one.getD j 0).fmod 2 * _ = if (one.getD j 0).fmod 2 % 2 = 1 then _ else _
    have hq2 : (one.getD j 0).fmod 2 = 0 ∨ (one.getD j 0).fmod 2 = 1 := by omega
    rcases hq2 with r | r <;> rw [r]
    · rw [if_neg (by decide), Int.zero_mul]
    · rw [if_pos (by decide), Int.one_mul]
  · rw [flat_rep]
    refine (sumB_rep (fun b => b.fdiv 2) _ _).trans ?_
    have hq := high_bit hg
    unfold saO
    rw [if_pos ⟨rfl, rfl⟩, if_pos hc, ← hj]
    show _ = if (sumB (fun b => b.fdiv 2) one).fdiv (2 ^ j) % 2 = 1 then _ else _
    rw [t2]
    show (one.getD j 0).fdiv 2 * _ = if (one.getD j 0).fdiv 2 % 2 = 1 then _ else _
    have hq2 : (one.getD j 0).fdiv 2 = 0 ∨ (one.getD j 0).fdiv 2 = 1 := by omega
    rcases hq2 with r | r <;> rw [r]
    · rw [if_neg (by decide), Int.zero_mul]
    · rw [if_pos (by decide), Int.one_mul]
theorem shoneA {j : Nat} (hb : BitB one) (hk : 1 ≤ k) (lk : one.length = k.toNat) (hj : j = (k - 1).toNat) (hc : k ≤ c) : saO k (lowB one) c 0 true = lowB (List.replicate k.toNat [one.getD j 0]).flatten := (shone hb hk lk hj hc).1.symm
theorem shoneB {j : Nat} (hb : BitB one) (hk : 1 ≤ k) (lk : one.length = k.toNat) (hj : j = (k - 1).toNat) (hc : k ≤ c) : saO k (highB one) c 0 true = highB (List.replicate k.toNat [one.getD j 0]).flatten := (shone hb hk lk hj hc).2.symm
theorem top_j (lk : one.length = k.toNat) (hk : 1 ≤ k) : (-1 + (one.length : Int)).toNat = (k - 1).toNat := by rw [lk]; omega
theorem far_c : ∃ c : Int, 2 ^ Int.toNat 69 + 5 = c ∧ 20 ≤ c := ⟨_, rfl, by decide⟩
end
section
variable {E : Value → Shared → Prop} {s : Shared} {env : Env} {h₀ : Heap} {Q : Flow → Shared → Prop} {M : Model} {A : Around} {m : Str → Option Value} {news : List (Addr × Obj)} {L : Addr}
theorem cutSh {s1 s2 : Stmt} {rest : List Stmt} (x : Str) (names : List Str) (k A1 B1 A2 B2 A3 B3 : Int) (_ : Fr h₀ L s.heap m) (_ : News h₀ L s.heap news)
    (b : (∀ d n b1 b2 b3 v1 v2 v3 l1 l2 l3 n1 n2 n3 u h' tk', ShL k A1 B1 v1 l1 → ShL k A2 B2 v2 l2 → ShL k A3 B3 v3 l3 → Fr h₀ L h' (fun y => if y = x then some (.ref d) else upF names u m y) → News h₀ L h' ((d, W.listOf #[.ref b1, .ref b2, .ref b3] n) :: (b1, W.listOf (List.toArray v1) n1) :: (b2, W.listOf (List.toArray v2) n2) :: (b3, W.listOf (List.toArray v3) n3) :: news) →
      wpAny M A (execs rest env) Q E { s with heap := h', toks := tk' }) → wpAny M A (execs (s1 :: s2 :: rest) env) Q E s)
    (kk : ∀ d n b1 b2 b3 v1 v2 v3 l1 l2 l3 n1 n2 n3 u h' tk', ShL k A1 B1 v1 l1 → ShL k A2 B2 v2 l2 → ShL k A3 B3 v3 l3 → Fr h₀ L h' (fun y => if y = x then some (.ref d) else upF names u m y) → News h₀ L h' ((d, W.listOf #[.ref b1, .ref b2, .ref b3] n) :: (b1, W.listOf (List.toArray v1) n1) :: (b2, W.listOf (List.toArray v2) n2) :: (b3, W.listOf (List.toArray v3) n3) :: news) →
      wpAny M A (execs rest env) Q E { s with heap := h', toks := tk' }) : wpAny M A (execs (s1 :: s2 :: rest) env) Q E s := b kk
theorem fr_sh {x : Str} {names : List Str} {v : Value} {h : Heap} {m' : Str → Option Value} (F : Fr h₀ L h m') (hx : m' x = some v) (e : Sub (x :: names) m' m) : Fr h₀ L h (fun y => if y = x then some v else upF names m' m y) := fr_to F fun y => by
  show m' y = if y = x then some v else if names.contains y = true then m' y else m y
  by_cases hy : y = x
  · rw [if_pos hy, hy, hx]
  · rw [if_neg hy]
    cases hc : names.contains y with
    | true => rfl
    | false =>
      rw [if_neg (by decide)]
      refine e y ?_
      rw [List.contains_cons, hc]
      simp [hy]
theorem pick4 {h : Heap} {p1 p2 p3 p4 : Addr × Obj} {l news : List (Addr × Obj)} (N : News h₀ L h l) (h1 : p1 ∈ l) (h2 : p2 ∈ l) (h3 : p3 ∈ l) (h4 : p4 ∈ l) (h5 : ∀ p ∈ news, p ∈ l) : News h₀ L h (p1 :: p2 :: p3 :: p4 :: news) := pick2 N h1 h2 fun p hp => by
  rcases List.mem_cons.mp hp with e | hp
  · exact e ▸ h3
  · rcases List.mem_cons.mp hp with e | hp
    · exact e ▸ h4
    · exact h5 p hp
theorem ti_uns {k x y m : Int} (h : toInt k x y false = some m) : y = 0 ∧ m = x := by
  refine ⟨(ti_some h).1, ?_⟩
  unfold toInt at h
  rw [if_pos (ti_some h).1, if_neg (fun q => by cases q.1)] at h
  exact (Option.some.inj h).symm
end

end
section

set_option maxRecDepth 100000 in
set_option maxHeartbeats 0 in
theorem whole_law : PySem.Challenge.rw_nn0305_01.Holds := hd (by
  w_top off
  k_go0
  (all_goals try k_fold)
  k_with_none
  k_with "eval Call" => ((k_here; k_dflt (refine Call_ ?_)))
  k_with "call ref" => ((k_here; (with_reducible show wpAny _ _ (call (Value.ref 189) _) _ _ _); refine stop_of ?_))
  k_with "call ref" => ((k_here; (with_reducible show wpAny _ _ (call (Value.ref 196) _) _ _ _); refine stop_of ?_))
  k_with "call ref" => ((k_here; (with_reducible show wpAny _ _ (call (Value.ref 215) _) _ _ _); refine stop_of ?_))
  k_with "call ref" => ((k_here; (with_reducible show wpAny _ _ (call (Value.ref 210) _) _ _ _); refine stop_of ?_))
  k_with "call ref" => ((k_here; (with_reducible show wpAny _ _ (call (Value.ref 222) _) _ _ _); refine stop_of ?_))
  k_with "call ref" => ((k_here; (with_reducible show wpAny _ _ (call (Value.ref 229) _) _ _ _); refine stop_of ?_))
  k_with "call ref" => ((k_here; (with_reducible show wpAny _ _ (call (Value.ref 236) _) _ _ _); refine stop_of ?_))
  k_with "call ref" => ((k_here; (with_reducible show wpAny _ _ (call (Value.ref 243) _) _ _ _); refine stop_of ?_))
  k_with "call ref" => ((k_here; (with_reducible show wpAny _ _ (call (Value.ref 70) _) _ _ _); refine stop_of ?_))
  k_with "call ref" => ((k_here; (with_reducible show wpAny _ _ (call (Value.ref 77) _) _ _ _); refine stop_of ?_))
  k_with "call ref" => ((k_here; (with_reducible show wpAny _ _ (call (Value.ref 84) _) _ _ _); refine stop_of ?_))
  k_with "call ref" => ((k_here; (with_reducible show wpAny _ _ (call (Value.ref 91) _) _ _ _); refine stop_of ?_))
  k_with "call ref" => ((k_here; (with_reducible show wpAny _ _ (call (Value.ref 105) _) _ _ _); refine stop_of ?_))
  k_with "call ref" => ((k_here; (with_reducible show wpAny _ _ (call (Value.ref 112) _) _ _ _); refine stop_of ?_))
  k_with "call ref" => ((k_here; (with_reducible show wpAny _ _ (call (Value.ref 126) _) _ _ _); refine stop_of ?_))
  k_with "call ref" => ((k_here; (with_reducible show wpAny _ _ (call (Value.ref 161) _) _ _ _); refine stop_of ?_))
  k_with "call ref" => ((k_here; (with_reducible show wpAny _ _ (call (Value.ref 168) _) _ _ _); refine stop_of ?_))
  k_with "call ref" => ((k_here; (with_reducible show wpAny _ _ (call (Value.ref 175) _) _ _ _); refine stop_of ?_))
  k_with "call ref" => ((k_here; (with_reducible show wpAny _ _ (call (Value.ref 182) _) _ _ _); refine stop_of ?_))
  k_with "call ref" => ((k_here; (with_reducible show wpAny _ _ (call (Value.ref 133) _) _ _ _); refine stop_of ?_))
  k_with "call ref" => ((k_here; (with_reducible show wpAny _ _ (call (Value.ref 140) _) _ _ _); refine stop_of ?_))
  k_with "call ref" => ((k_here; (with_reducible show wpAny _ _ (call (Value.ref 147) _) _ _ _); refine stop_of ?_))
  k_with "binaryOp Add int int" => ((k_here; (with_reducible show wpAny _ _ (binaryOp Operator.Add (Value.int 1 _) (Value.int (Int.fmod _ 20) _)) _ _ _); refine stop_of ?_))
  k_with "binaryOp Add int int" => ((k_here; (with_reducible show wpAny _ _ (binaryOp Operator.Add (Value.int 1 _) (Value.int (Int.fmod _ 12) _)) _ _ _); refine stop_of ?_))
  k_with "execs cons" => ((k_here; (with_reducible show wpAny _ _ (execs (Stmt.If (Expr.Compare _ [CmpOp.NotEq] _ _) _ _ _ :: _) _) _ _ _); refine stop_of ?_))
  k_with "execs cons" => ((k_here; (with_reducible show wpAny _ _ (execs (Stmt.If (Expr.BoolOp _ _ _) _ _ _ :: _) _) _ _ _); refine stop_of ?_))
  k_with "execs cons" => ((k_here; (with_reducible show wpAny _ _ (execs (Stmt.Assign [Expr.Name (Str.ofString "known") _] _ _ :: _) _) _ _ _); refine stop_of ?_))
  k_with "execs cons" => ((k_here; (with_reducible show wpAny _ _ (execs (Stmt.Assign [Expr.Name (Str.ofString "good") _] _ _ :: _) _) _ _ _); refine stop_of ?_))
  k_with "execs cons" => ((k_here; (with_reducible show wpAny _ _ (execs (Stmt.Assign [Expr.Name (Str.ofString "due") _] (Expr.List _ _) _ :: _) _) _ _ _); refine stop_of ?_))
  k_with "execs cons" => ((k_here; (with_reducible show wpAny _ _ (execs (Stmt.Assign [Expr.Name (Str.ofString "due") _] (Expr.IfExp _ _ _ _) _ :: _) _) _ _ _); refine stop_of ?_))
  k_with "execs cons" => ((k_here; (with_reducible show wpAny _ _ (execs (Stmt.For (Expr.Name (Str.ofString "other") _) _ _ _ _ :: _) _) _ _ _); refine stop_of ?_))
  k_with "execs cons" => ((k_here; (with_reducible show wpAny _ _ (execs (Stmt.For (Expr.Name (Str.ofString "signed") _) _ _ _ _ :: _) _) _ _ _); refine stop_of ?_))
  k_with "execs cons" => ((k_here; (with_reducible show wpAny _ _ (execs (Stmt.Assign [Expr.Name (Str.ofString "count") _] (Expr.Call _ [_, Expr.Constant _ _ _] _ _) _ :: _) _) _ _ _); refine stop_of ?_))
  k_with "execs cons" => ((k_here; (with_reducible show wpAny _ _ (execs (Stmt.Assign [Expr.Name (Str.ofString "far") _] _ _ :: _) _) _ _ _); refine stop_of ?_))
  k_with "execs cons" => ((k_here; (with_reducible show wpAny _ _ (execs (Stmt.If (Expr.Name (Str.ofString "known") _) _ _ _ :: _) _) _ _ _); refine stop_of ?_))
  k_with "call ref" => ((k_here; (with_reducible show wpAny _ _ (call (Value.ref 189) _) _ _ _); k_dflt (refine' law_row_spec ?_ ?_ ?_ ?_ ?_ ?_ ?_ ?_ ?_ ?_ ?_ ?_; rotate_right 12; (· k_asm); (· k_asm); (· k_asm); (· k_asm); (· k_asm); (· first | exact rfl | assumption); (· ktr_room); (· ktr_units); (· first | assumption | is_list); (· first | assumption | l_ints); (· first | assumption | omega); intro r9 vs9 ns9 n9 h9 tk9 F9 N9 i9 b9 g9 o9; (try simp only [LCg.Off1, and_true] at o9); (try dsimp only); (try k_fold))))
  k_with "call ref" => ((k_here; (with_reducible show wpAny _ _ (call (Value.ref 196) _) _ _ _); k_dflt (refine' law_next_spec ?_ ?_ ?_ ?_ ?_ ?_ ?_ ?_ ?_ ?_ ?_ ?_ ?_; rotate_right 13; (· k_asm); (· k_asm); (· k_asm); (· first | k_asm | exact rot1 (by k_asm) | exact rot2 (by k_asm) | exact rot3 (by k_asm) | exact rot4 (by k_asm) | exact rot5 (by k_asm) | exact rot6 (by k_asm) | exact rot7 (by k_asm) | exact rot8 (by k_asm) | exact rot9 (by k_asm) | exact rot10 (by k_asm) | exact rot11 (by k_asm) | exact rot12 (by k_asm) | exact rot13 (by k_asm) | exact rot14 (by k_asm)); (· k_asm); (· first | exact rfl | assumption); (· ktr_room); (· ktr_units); (· first | assumption | l_ints); (· first | assumption); (· first | assumption | omega); (· (repeat' first | assumption | exact OwnOff.ne (by assumption) (by k_memK) | refine hne_app ?_ ?_ | refine hne_cons ?_ ?_ | k_ne | k_all)); intro v9 t9 vs9 ns9 n9 h9 tk9 F9 N9 i9 b9 g9 lo9 hi9;  (try dsimp only); (try k_fold))))
  k_with "call ref" => ((k_here; (with_reducible show wpAny _ _ (call (Value.ref 210) _) _ _ _); k_dflt (refine' law_made_m_spec ?_ ?_ ?_ ?_ ?_ ?_ ?_ ?_ ?_ ?_ ?_ ?_ ?_ ?_ ?_; rotate_right 15; (· k_asm); (· k_asm); (· k_asm); (· k_asm); (· k_asm); (· first | exact rfl | assumption); (· ktr_room); (· ktr_units); (· k_mem); (· first | assumption | l_ints); (· first | assumption); (· first | assumption); (· first | assumption | decide | omega | l_fact); (· first | assumption | decide | omega | l_fact); intro r9 t91 t92 t93 h9 tk9 F9 N9 l9;  (try dsimp only); (try k_fold))))
  k_with "call ref" => ((k_here; (with_reducible show wpAny _ _ (call (Value.ref 222) _) _ _ _); k_dflt (refine' law_whole_m_spec ?_ ?_ ?_ ?_ ?_ ?_ ?_ ?_ ?_ ?_ ?_ ?_ ?_ ?_ ?_ ?_; rotate_right 16; (· k_asm); (· k_asm); (· k_asm); (· k_asm); (· k_asm); (· first | exact rfl | assumption); (· ktr_room); (· ktr_units); (· k_mem); (· first | assumption | l_ints); (· first | assumption); (· first | assumption); (· first | assumption | decide | omega | l_fact); (· first | assumption | decide | omega | l_fact); (· first | assumption | rfl); intro t9 h9 tk9 F9 N9; (try dsimp only [oV_none, oV_some]); (try dsimp only); (try k_fold))))
  k_with "CompRest" => ((k_here; with_unfolding_all first | (refine LCg.CompRest.succ ?_; intro v' I' oI' C' oC' D' m' h' tk' E' hv' hC' hx' F' N' off' ne'; clear ne'; (first | lcg_open hv' | (obtain ⟨t9', hv9'⟩ := hv'; subst hv9'))) | refine LCg.CompRest.zero ?_))
  k_with "CompEnd" => ((k_here; first | (refine' cend0 ?_ ?_ ?_ ?_ ?_; rotate_right 5; (· assumption); (· assumption); (· assumption); (· lcg_src)) | (refine' cend1 ?_ ?_ ?_ ?_ ?_ ?_; rotate_right 6; (· assumption); (· assumption); (· assumption); (· assumption); (· lcg_src))))
  k_with "FinE" => ((k_here; (unfold LCg.FinE); intro D' h' tk' F' N' o1'; clear o1'; (try simp only [List.nil_append, List.cons_append] at N'); (try dsimp only)))
  k_with "FinA" => ((k_here; (unfold LCg.FinA); intro D' h' tk' F' N' o1'; clear o1'; (try simp only [List.nil_append, List.cons_append] at N'); (try dsimp only)))
  k_with "vec_eq" => (first | rfl | assumption | exact vA_add (by assumption) (by assumption) | exact vA_sub (by assumption) (by assumption) | exact vA_mul (by assumption) (by assumption) | exact vB_ss (by assumption) (by assumption) | exact vA_n1 (by assumption) | exact vA_n2 (by assumption) | exact vB_n1 (by assumption) | exact vB_n2 (by assumption) | exact vA_neg (by assumption) | exact vB_neg (by assumption) | exact vA_negn (by assumption) | exact vB_negn (by assumption) | exact congrArg (vA _) (dvo_s (by assumption)) | exact congrArg (vA _) (dvo_z (by assumption)) | exact congrArg (vA _) (mdo_s (by assumption)) | exact congrArg (vA _) (mdo_z (by assumption)) | exact congrArg (vB _) (dvo_s (by assumption)) | exact congrArg (vB _) (dvo_z (by assumption)) | exact congrArg (vB _) (mdo_s (by assumption)) | exact congrArg (vB _) (mdo_z (by assumption)))
  k_with "compareOp NotEq ref ref" => ((k_here; (with_reducible show wpAny _ _ (compareOp CmpOp.NotEq (Value.ref _) (Value.ref _)) _ _ _); k_dflt (refine' ne_vec ?_ ?_ ?_ ?_ ?_ ?_ ?_ ?_; rotate_right 8; (· k_asm); (· k_mem); (· k_mem); (· rfl); (· walk_at "vec_eq"); (· walk_at "vec_eq"); (· first | ktr_units | ke_room))))
  k_with "compareOp Lt int int" => ((k_here; (with_reducible show wpAny _ _ (compareOp CmpOp.Lt (Value.int _ _) (Value.int _ _)) _ _ _); first | (refine lt_tt (by first | assumption | exact Int.le_of_lt (by assumption) | exact Int.le_refl _) ?_) | (refine lt_ff (by first | exact Int.lt_irrefl _ | exact Int.not_lt.mpr (Int.le_of_lt (by assumption)) | exact Int.not_le.mpr (by assumption)) ?_)))
  k_with "compareOp LtE int int" => ((k_here; (with_reducible show wpAny _ _ (compareOp CmpOp.LtE (Value.int _ _) (Value.int _ _)) _ _ _); first | (refine le_tt (by first | assumption | exact Int.le_of_lt (by assumption) | exact Int.le_refl _) ?_) | (refine le_ff (by first | exact Int.lt_irrefl _ | exact Int.not_lt.mpr (Int.le_of_lt (by assumption)) | exact Int.not_le.mpr (by assumption)) ?_)))
  k_with "compareOp Gt int int" => ((k_here; (with_reducible show wpAny _ _ (compareOp CmpOp.Gt (Value.int _ _) (Value.int _ _)) _ _ _); first | (refine gt_tt (by first | assumption | exact Int.le_of_lt (by assumption) | exact Int.le_refl _) ?_) | (refine gt_ff (by first | exact Int.lt_irrefl _ | exact Int.not_lt.mpr (Int.le_of_lt (by assumption)) | exact Int.not_le.mpr (by assumption)) ?_)))
  k_with "compareOp GtE int int" => ((k_here; (with_reducible show wpAny _ _ (compareOp CmpOp.GtE (Value.int _ _) (Value.int _ _)) _ _ _); first | (refine ge_tt (by first | assumption | exact Int.le_of_lt (by assumption) | exact Int.le_refl _) ?_) | (refine ge_ff (by first | exact Int.lt_irrefl _ | exact Int.not_lt.mpr (Int.le_of_lt (by assumption)) | exact Int.not_le.mpr (by assumption)) ?_)))
  k_with "call ref" => ((k_here; (with_reducible show wpAny _ _ (call (Value.ref 229) _) _ _ _); k_dflt (refine' law_vecN_spec ?_ ?_ ?_ ?_ ?_ ?_ ?_ ?_ ?_ ?_ ?_; rotate_right 11; (· k_asm); (· k_asm); (· k_asm); (· k_asm); (· k_asm); (· first | exact rfl | assumption); (· ktr_room); (· ktr_units); (· first | assumption | decide | omega | l_fact); (· first | assumption | decide | omega | l_fact); intro r9 t91 t92 t93 h9 tk9 F9 N9 l9;  (try dsimp only); (try k_fold))))
  k_with "call ref" => ((k_here; (with_reducible show wpAny _ _ (call (Value.ref 229) _) _ _ _); k_dflt (refine' law_vecS_spec ?_ ?_ ?_ ?_ ?_ ?_ ?_ ?_ ?_ ?_ ?_; rotate_right 11; (· k_asm); (· k_asm); (· k_asm); (· k_asm); (· k_asm); (· first | exact rfl | assumption); (· ktr_room); (· ktr_units); (· first | assumption | decide | omega | l_fact); (· first | assumption | decide | omega | l_fact); intro r9 t91 t92 t93 h9 tk9 F9 N9 l9;  (try dsimp only); (try k_fold))))
  k_with "call ref" => ((k_here; (with_reducible show wpAny _ _ (call (Value.ref 70) _) _ _ _); k_dflt (refine' add_spec ?_ ?_ ?_ ?_ ?_ ?_ ?_ ?_ ?_ ?_ ?_ ?_ ?_; rotate_right 13; (· k_asm); (· k_asm); (· k_asm); (· k_asm); (· k_asm); (· first | exact rfl | assumption); (· ktr_room); (· ktr_units); (· k_mem); (· k_mem); (· first | assumption | decide | omega | l_fact); (· first | assumption | decide | omega | l_fact); intro r9 t91 t92 t93 h9 tk9 F9 N9 l9;  (try dsimp only); (try k_fold))))
  k_with "call ref" => ((k_here; (with_reducible show wpAny _ _ (call (Value.ref 77) _) _ _ _); k_dflt (refine' sub_spec ?_ ?_ ?_ ?_ ?_ ?_ ?_ ?_ ?_ ?_ ?_ ?_ ?_; rotate_right 13; (· k_asm); (· k_asm); (· k_asm); (· k_asm); (· k_asm); (· first | exact rfl | assumption); (· ktr_room); (· ktr_units); (· k_mem); (· k_mem); (· first | assumption | decide | omega | l_fact); (· first | assumption | decide | omega | l_fact); intro r9 t91 t92 t93 h9 tk9 F9 N9 l9;  (try dsimp only); (try k_fold))))
  k_with "call ref" => ((k_here; (with_reducible show wpAny _ _ (call (Value.ref 84) _) _ _ _); k_dflt (refine' mul_spec ?_ ?_ ?_ ?_ ?_ ?_ ?_ ?_ ?_ ?_ ?_ ?_ ?_ ?_ ?_ ?_ ?_; rotate_right 17; (· k_asm); (· k_asm); (· k_asm); (· k_asm); (· k_asm); (· first | exact rfl | assumption); (· ktr_room); (· ktr_units); (· k_mem); (· k_mem); (· first | assumption | decide | omega | l_fact); (· first | assumption | decide | omega | l_fact); (· first | assumption | decide | omega | l_fact); (· first | assumption | decide | omega | l_fact); (· first | assumption | decide | omega | l_fact); (· first | assumption | decide | omega | l_fact); intro r9 t91 t92 t93 h9 tk9 F9 N9 l9;  (try dsimp only); (try k_fold))))
  k_with "call ref" => ((k_here; (with_reducible show wpAny _ _ (call (Value.ref 91) _) _ _ _); k_dflt (refine' neg_spec ?_ ?_ ?_ ?_ ?_ ?_ ?_ ?_ ?_ ?_ ?_ ?_; rotate_right 12; (· k_asm); (· k_asm); (· k_asm); (· k_asm); (· k_asm); (· first | exact rfl | assumption); (· ktr_room); (· ktr_units); (· k_mem); (· first | assumption | decide | omega | l_fact); (· first | assumption | decide | omega | l_fact); intro r9 t91 t92 t93 h9 tk9 F9 N9 l9;  (try dsimp only); (try k_fold))))
  k_with "call ref" => ((k_here; (with_reducible show wpAny _ _ (call (Value.ref 105) _) _ _ _); k_dflt (refine' div_spec ?_ ?_ ?_ ?_ ?_ ?_ ?_ ?_ ?_ ?_ ?_ ?_ ?_ ?_ ?_ ?_ ?_ ?_ ?_; rotate_right 19; (· k_asm); (· k_asm); (· k_asm); (· k_asm); (· k_asm); (· first | exact rfl | assumption); (· ktr_room); (· ktr_units); (· k_mem); (· k_mem); (· first | assumption | decide | omega | l_fact); (· first | assumption | decide | omega | l_fact); (· first | assumption | decide | omega | l_fact); (· first | assumption | decide | omega | l_fact); (· first | assumption | rfl); (· first | assumption | rfl); (· first | assumption); (· first | assumption); intro r9 t91 t92 t93 h9 tk9 F9 N9 l9;  (try dsimp only); (try k_fold))))
  k_with "call ref" => ((k_here; (with_reducible show wpAny _ _ (call (Value.ref 112) _) _ _ _); k_dflt (refine' mod_spec ?_ ?_ ?_ ?_ ?_ ?_ ?_ ?_ ?_ ?_ ?_ ?_ ?_ ?_ ?_ ?_ ?_ ?_ ?_; rotate_right 19; (· k_asm); (· k_asm); (· k_asm); (· k_asm); (· k_asm); (· first | exact rfl | assumption); (· ktr_room); (· ktr_units); (· k_mem); (· k_mem); (· first | assumption | decide | omega | l_fact); (· first | assumption | decide | omega | l_fact); (· first | assumption | decide | omega | l_fact); (· first | assumption | decide | omega | l_fact); (· first | assumption | rfl); (· first | assumption | rfl); (· first | assumption); (· first | assumption); intro r9 t91 t92 t93 h9 tk9 F9 N9 l9;  (try dsimp only); (try k_fold))))
  k_with "call ref" => ((k_here; (with_reducible show wpAny _ _ (call (Value.ref 161) _) _ _ _); k_dflt (refine' less_spec ?_ ?_ ?_ ?_ ?_ ?_ ?_ ?_ ?_ ?_ ?_ ?_ ?_ ?_ ?_ ?_ ?_; rotate_right 17; (· k_asm); (· k_asm); (· k_asm); (· k_asm); (· k_asm); (· first | exact rfl | assumption); (· ktr_room); (· ktr_units); (· k_mem); (· k_mem); (· first | assumption | decide | omega | l_fact); (· first | assumption | decide | omega | l_fact); (· first | assumption | decide | omega | l_fact); (· first | assumption | decide | omega | l_fact); (· first | assumption | rfl); (· first | assumption | rfl); intro r9 t91 t92 t93 h9 tk9 F9 N9 l9;  (try dsimp only); (try k_fold))))
  k_with "call ref" => ((k_here; (with_reducible show wpAny _ _ (call (Value.ref 168) _) _ _ _); k_dflt (refine' less_equal_spec ?_ ?_ ?_ ?_ ?_ ?_ ?_ ?_ ?_ ?_ ?_ ?_ ?_ ?_ ?_ ?_ ?_; rotate_right 17; (· k_asm); (· k_asm); (· k_asm); (· k_asm); (· k_asm); (· first | exact rfl | assumption); (· ktr_room); (· ktr_units); (· k_mem); (· k_mem); (· first | assumption | decide | omega | l_fact); (· first | assumption | decide | omega | l_fact); (· first | assumption | decide | omega | l_fact); (· first | assumption | decide | omega | l_fact); (· first | assumption | rfl); (· first | assumption | rfl); intro r9 t91 t92 t93 h9 tk9 F9 N9 l9;  (try dsimp only); (try k_fold))))
  k_with "call ref" => ((k_here; (with_reducible show wpAny _ _ (call (Value.ref 175) _) _ _ _); k_dflt (refine' greater_spec ?_ ?_ ?_ ?_ ?_ ?_ ?_ ?_ ?_ ?_ ?_ ?_ ?_ ?_ ?_ ?_ ?_; rotate_right 17; (· k_asm); (· k_asm); (· k_asm); (· k_asm); (· k_asm); (· first | exact rfl | assumption); (· ktr_room); (· ktr_units); (· k_mem); (· k_mem); (· first | assumption | decide | omega | l_fact); (· first | assumption | decide | omega | l_fact); (· first | assumption | decide | omega | l_fact); (· first | assumption | decide | omega | l_fact); (· first | assumption | rfl); (· first | assumption | rfl); intro r9 t91 t92 t93 h9 tk9 F9 N9 l9;  (try dsimp only); (try k_fold))))
  k_with "call ref" => ((k_here; (with_reducible show wpAny _ _ (call (Value.ref 182) _) _ _ _); k_dflt (refine' greater_equal_spec ?_ ?_ ?_ ?_ ?_ ?_ ?_ ?_ ?_ ?_ ?_ ?_ ?_ ?_ ?_ ?_ ?_; rotate_right 17; (· k_asm); (· k_asm); (· k_asm); (· k_asm); (· k_asm); (· first | exact rfl | assumption); (· ktr_room); (· ktr_units); (· k_mem); (· k_mem); (· first | assumption | decide | omega | l_fact); (· first | assumption | decide | omega | l_fact); (· first | assumption | decide | omega | l_fact); (· first | assumption | decide | omega | l_fact); (· first | assumption | rfl); (· first | assumption | rfl); intro r9 t91 t92 t93 h9 tk9 F9 N9 l9;  (try dsimp only); (try k_fold))))
  k_with "call ref" => ((k_here; (with_reducible show wpAny _ _ (call (Value.ref 236) _) _ _ _); k_dflt (refine' law_cut_spec ?_ ?_ ?_ ?_ ?_ ?_ ?_ ?_ ?_ ?_ ?_ ?_ ?_ ?_; rotate_right 14; (· k_asm); (· k_asm); (· k_asm); (· k_asm); (· k_asm); (· first | exact rfl | assumption); (· ktr_room); (· ktr_units); (· first | assumption | decide | omega | l_fact); (· first | assumption | decide | omega | l_fact); (· first | assumption | decide | omega | l_fact); (· first | assumption | decide | omega | l_fact); (· first | assumption | decide | omega | l_fact); intro t9 h9 tk9 F9 N9 q91 q92;  (try dsimp only); (try k_fold))))
  k_with "execs cons" => ((k_here; (with_reducible show wpAny _ _ (execs (Stmt.Assign [Expr.Name (Str.ofString "told") _] (Expr.List _ _) _ :: _) _) _ _ _); refine stop_of ?_))
  k_with "pyIter ref" => ((k_here; (with_reducible show wpAny _ _ (pyIter (Value.ref _)) (fun it s₂ => LoopAtV _ _ _ _ _ _ _ _ _ it s₂) _ _); refine stop_of ?_))
  k_with "call ref" => ((k_here; (with_reducible show wpAny _ _ (call (Value.ref 229) _) _ _ _); k_dflt (refine' law_vecO_spec ?_ ?_ ?_ ?_ ?_ ?_ ?_ ?_ ?_ ?_ ?_; rotate_right 11; (· k_asm); (· k_asm); (· k_asm); (· k_asm); (· k_asm); (· first | exact rfl | assumption); (· ktr_room); (· ktr_units); (· first | assumption | decide | omega | l_fact); (· first | assumption | decide | omega | l_fact); intro r9 t91 t92 t93 h9 tk9 F9 N9 l9;  (try dsimp only); (try k_fold))))
  k_with "call ref" => ((k_here; (with_reducible show wpAny _ _ (call (Value.ref 126) _) _ _ _); k_dflt (refine' power_spec ?_ ?_ ?_ ?_ ?_ ?_ ?_ ?_ ?_ ?_ ?_ ?_ ?_ ?_ ?_ ?_ ?_ ?_; rotate_right 18; (· k_asm); (· k_asm); (· k_asm); (· k_asm); (· k_asm); (· first | exact rfl | assumption); (· ktr_room); (· ktr_units); (· k_mem); (· k_mem); (· first | assumption | decide | omega | l_fact); (· first | assumption | decide | omega | l_fact); (· first | assumption | decide | omega | l_fact); (· first | assumption | decide | omega | l_fact); (· first | assumption | rfl); (· first | assumption | rfl); (· first | assumption); intro r9 t91 t92 t93 h9 tk9 F9 N9 l9;  (try dsimp only); (try k_fold))))
  k_with "call ref" => ((k_here; (with_reducible show wpAny _ _ (call (Value.ref 243) _) _ _ _); k_dflt (refine' law_power_spec ?_ ?_ ?_ ?_ ?_ ?_ ?_ ?_ ?_ ?_ ?_ ?_ ?_ ?_ ?_; rotate_right 15; (· k_asm); (· k_asm); (· k_asm); (· k_asm); (· k_asm); (· first | exact rfl | assumption); (· ktr_room); (· ktr_units); (· first | assumption | decide | omega | l_fact); (· first | assumption | decide | omega | l_fact); (· first | assumption | decide | omega | l_fact); (· first | assumption | decide | omega | l_fact); (· first | assumption | decide | omega | l_fact); (· first | assumption | decide | omega | l_fact); intro t9 h9 tk9 F9 N9;  (try dsimp only); (try k_fold))))
  k_with "call ref" => ((k_here; (with_reducible show wpAny _ _ (call (Value.ref 133) _) _ _ _); k_dflt (refine' shift_left_spec ?_ ?_ ?_ ?_ ?_ ?_ ?_ ?_ ?_ ?_ ?_ ?_ ?_ ?_ ?_ ?_ ?_ ?_; rotate_right 18; (· k_asm); (· k_asm); (· k_asm); (· k_asm); (· k_asm); (· first | exact rfl | assumption); (· ktr_room); (· ktr_units); (· k_mem); (· k_mem); (· first | assumption | decide | omega | l_fact); (· first | assumption | decide | omega | l_fact); (· first | assumption | decide | omega | l_fact); (· first | assumption | decide | omega | l_fact); (· first | assumption | decide | omega | l_fact); (· first | assumption | decide | omega | l_fact); (· first | assumption | decide | omega | l_fact); intro r9 t91 t92 t93 h9 tk9 F9 N9 l9;  (try dsimp only); (try k_fold))))
  k_with "call ref" => ((k_here; (with_reducible show wpAny _ _ (call (Value.ref 140) _) _ _ _); k_dflt (refine' shift_right_spec ?_ ?_ ?_ ?_ ?_ ?_ ?_ ?_ ?_ ?_ ?_ ?_ ?_ ?_ ?_ ?_ ?_ ?_; rotate_right 18; (· k_asm); (· k_asm); (· k_asm); (· k_asm); (· k_asm); (· first | exact rfl | assumption); (· ktr_room); (· ktr_units); (· k_mem); (· k_mem); (· first | assumption | decide | omega | l_fact); (· first | assumption | decide | omega | l_fact); (· first | assumption | decide | omega | l_fact); (· first | assumption | decide | omega | l_fact); (· first | assumption | decide | omega | l_fact); (· first | assumption | decide | omega | l_fact); (· first | assumption | decide | omega | l_fact); intro r9 t91 t92 t93 h9 tk9 F9 N9 l9;  (try dsimp only); (try k_fold))))
  k_with "call ref" => ((k_here; (with_reducible show wpAny _ _ (call (Value.ref 147) _) _ _ _); k_dflt (refine' shift_arith_spec ?_ ?_ ?_ ?_ ?_ ?_ ?_ ?_ ?_ ?_ ?_ ?_ ?_ ?_ ?_ ?_ ?_ ?_; rotate_right 18; (· k_asm); (· k_asm); (· k_asm); (· k_asm); (· k_asm); (· first | exact rfl | assumption); (· ktr_room); (· ktr_units); (· k_mem); (· k_mem); (· first | assumption | decide | omega | l_fact); (· first | assumption | decide | omega | l_fact); (· first | assumption | decide | omega | l_fact); (· first | assumption | decide | omega | l_fact); (· first | assumption | decide | omega | l_fact); (· first | assumption | decide | omega | l_fact); (· first | assumption | decide | omega | l_fact); intro r9 t91 t92 t93 h9 tk9 F9 N9 l9;  (try dsimp only); (try k_fold))))
  k_with "compareOp NotEq ref ref" => ((k_here; (with_reducible show wpAny _ _ (compareOp CmpOp.NotEq (Value.ref _) (Value.ref _)) _ _ _); k_dflt (refine' ne_vecs3 ?_ ?_ ?_ ?_ ?_ ?_ ?_ ?_ ?_ ?_ ?_ ?_; rotate_right 12; (· k_asm); (· k_mem); (· rfl); (· rfl); (· k_mem); (· rfl); (· rfl); (· refine sm_of (by k_mem) (by k_mem) rfl ?_ ?_ <;> walk_at "vec_eq"); (· refine sm_of (by k_mem) (by k_mem) rfl ?_ ?_ <;> walk_at "vec_eq"); (· refine sm_of (by k_mem) (by k_mem) rfl ?_ ?_ <;> walk_at "vec_eq"); (· first | ktr_units | ke_room))))
  k_with "compareOp NotEq ref ref" => ((k_here; (with_reducible show wpAny _ _ (compareOp CmpOp.NotEq (Value.ref _) (Value.ref _)) _ _ _); k_dflt (refine' ne_vecs4 ?_ ?_ ?_ ?_ ?_ ?_ ?_ ?_ ?_ ?_ ?_ ?_ ?_; rotate_right 13; (· k_asm); (· k_mem); (· rfl); (· rfl); (· k_mem); (· rfl); (· rfl); (· refine sm_of (by k_mem) (by k_mem) rfl ?_ ?_ <;> walk_at "vec_eq"); (· refine sm_of (by k_mem) (by k_mem) rfl ?_ ?_ <;> walk_at "vec_eq"); (· refine sm_of (by k_mem) (by k_mem) rfl ?_ ?_ <;> walk_at "vec_eq"); (· refine sm_of (by k_mem) (by k_mem) rfl ?_ ?_ <;> walk_at "vec_eq"); (· first | ktr_units | ke_room))))
  k_with "call ref" => ((k_here; (with_reducible show wpAny _ _ (call (Value.ref 210) _) _ _ _); k_dflt (refine' law_made_m_spec ?_ ?_ ?_ ?_ ?_ ?_ ?_ ?_ ?_ ?_ ?_ ?_ ?_ ?_ ?_; rotate_right 15; (· k_asm); (· k_asm); (· k_asm); (· k_asm); (· k_asm); (· first | exact rfl | assumption); (· ktr_room); (· ktr_units); (· k_mem); (· first | assumption | l_ints); (· first | assumption | exact bitb_rep (getD_bit (by assumption) _)); (· first | assumption | exact len_rep _ _); (· first | assumption | decide | omega | l_fact); (· first | assumption | decide | omega | l_fact); intro r9 t91 t92 t93 h9 tk9 F9 N9 l9;  (try dsimp only); (try k_fold))))
  k_with "compareOp Eq ref ref" => ((k_here; (with_reducible show wpAny _ _ (compareOp CmpOp.Eq (Value.ref _) (Value.ref _)) _ _ _); k_dflt (refine' eq_vec ?_ ?_ ?_ ?_ ?_ ?_ ?_ ?_; rotate_right 8; (· k_asm); (· k_mem); (· k_mem); (· rfl); (· walk_at "vec_eq"); (· walk_at "vec_eq"); (· first | ktr_units | ke_room))))
  k_with "vec_eq" => (first | exact Eq.symm (by assumption) | exact sl_z0 rfl (by assumption) | exact sr_z0 rfl (by assumption) | exact saF.trans (sr_z0 rfl (by assumption)) | exact shoneA (by assumption) (by assumption) (by assumption) (top_j (by assumption) (by assumption)) (by assumption) | exact shoneB (by assumption) (by assumption) (by assumption) (top_j (by assumption) (by assumption)) (by assumption))
  k_with "subscriptTail" => ((k_here; (with_reducible show wpAny _ _ (subscriptTail _ (PySem.Expr.Slice _ _ none _) (Value.ref _) (Value.ref _)) _ _ _); k_dflt (refine kba_turn (value' := PySem.Expr.Name (PySem.Str.ofString "x") ⟨0, 0, 0, 0⟩) (fun _ => rfl) ?_); k_dflt (refine' kmk_slice_ints ?_ ?_ ?_ ?_ ?_ ?_ ?_ ?_ ?_ ?_ ?_ ?_; rotate_right 12; (· k_asm); (· k_asm); (· kmk_list); (· kmk_part); (· kmk_part); (· l_ints); (· first | exact kmk_upto (by l_ints) (by omega) | exact kmk_from (by l_ints) (ite_nn (by assumption) (by assumption))); (· exact rfl); rotate_left 1; (· with_unfolding_all rfl); (· kmk_pure); (· (rw [List.size_toArray]; refine ints_room (by l_ints) ?_; first | exact ite_room (by assumption) (by assumption) | exact ite_room2 (by assumption) (by assumption))); rotate_right 1); intro D' ws' h' F' N' l1 hI' hC' hL'; clear hC' hL'; (try k_lt l1); (try k_sweep)))
  k_steps
  refine un_stop (add_gen20 ?_)
  intro k w0 w1
  k_steps
  refine un_stop ?_
  k_dflt (refine' law_operand_spec ?k1 ?k2 ?k3 ?k4 ?k5 ?kK ?kd ?ku ?p0 ?p1 ?p2 ?p3 ?p4 ?p5 ?_; (case k1 => k_asm); (case k2 => k_asm); (case k3 => k_asm); (case k4 => first | k_asm | exact rot1 (by k_asm) | exact rot2 (by k_asm) | exact rot3 (by k_asm) | exact rot4 (by k_asm) | exact rot5 (by k_asm) | exact rot6 (by k_asm) | exact rot7 (by k_asm) | exact rot8 (by k_asm) | exact rot9 (by k_asm) | exact rot10 (by k_asm) | exact rot11 (by k_asm) | exact rot12 (by k_asm) | exact rot13 (by k_asm) | exact rot14 (by k_asm)); (case k5 => k_asm); (case kK => first | exact rfl | assumption); (case kd => ktr_room); (case ku => ktr_units); (case p0 => first | assumption | l_ints); (case p1 => assumption); (case p2 => assumption); (case p3 => (repeat' first | assumption | exact OwnOff.ne (by assumption) (by k_memK) | refine hne_app ?_ ?_ | refine hne_cons ?_ ?_ | k_ne | k_all)); (case p4 => first | assumption | omega); (case p5 => first | assumption | omega))
  intro qone vbone one nbone vs9 ns9 n9 h9 tk9 F9 N9 ibone bbone lbone i9 b9 g9 rqone ooone
  (try simp only [LCg.Off1, and_true] at ooone)
  (try dsimp only)
  (try k_fold)
  k_steps
  refine un_stop ?_
  k_dflt (refine' law_operand_spec ?k1 ?k2 ?k3 ?k4 ?k5 ?kK ?kd ?ku ?p0 ?p1 ?p2 ?p3 ?p4 ?p5 ?_; (case k1 => k_asm); (case k2 => k_asm); (case k3 => k_asm); (case k4 => first | k_asm | exact rot1 (by k_asm) | exact rot2 (by k_asm) | exact rot3 (by k_asm) | exact rot4 (by k_asm) | exact rot5 (by k_asm) | exact rot6 (by k_asm) | exact rot7 (by k_asm) | exact rot8 (by k_asm) | exact rot9 (by k_asm) | exact rot10 (by k_asm) | exact rot11 (by k_asm) | exact rot12 (by k_asm) | exact rot13 (by k_asm) | exact rot14 (by k_asm)); (case k5 => k_asm); (case kK => first | exact rfl | assumption); (case kd => ktr_room); (case ku => ktr_units); (case p0 => first | assumption | l_ints); (case p1 => assumption); (case p2 => assumption); (case p3 => (repeat' first | assumption | exact OwnOff.ne (by assumption) (by k_memK) | refine hne_app ?_ ?_ | refine hne_cons ?_ ?_ | k_ne | k_all)); (case p4 => first | assumption | omega); (case p5 => first | assumption | omega))
  intro qtwo vbtwo two nbtwo vs9 ns9 n9 h9 tk9 F9 N9 ibtwo bbtwo lbtwo i9 b9 g9 rqtwo ootwo
  (try simp only [LCg.Off1, and_true] at ootwo)
  (try dsimp only)
  (try k_fold)
  k_steps
  refine un_stop (add_gen12 ?_)
  intro k2 w2 w3
  k_steps
  refine un_stop ?_
  k_dflt (refine' law_operand_spec ?k1 ?k2 ?k3 ?k4 ?k5 ?kK ?kd ?ku ?p0 ?p1 ?p2 ?p3 ?p4 ?p5 ?_; (case k1 => k_asm); (case k2 => k_asm); (case k3 => k_asm); (case k4 => first | k_asm | exact rot1 (by k_asm) | exact rot2 (by k_asm) | exact rot3 (by k_asm) | exact rot4 (by k_asm) | exact rot5 (by k_asm) | exact rot6 (by k_asm) | exact rot7 (by k_asm) | exact rot8 (by k_asm) | exact rot9 (by k_asm) | exact rot10 (by k_asm) | exact rot11 (by k_asm) | exact rot12 (by k_asm) | exact rot13 (by k_asm) | exact rot14 (by k_asm)); (case k5 => k_asm); (case kK => first | exact rfl | assumption); (case kd => ktr_room); (case ku => ktr_units); (case p0 => first | assumption | l_ints); (case p1 => assumption); (case p2 => assumption); (case p3 => (repeat' first | assumption | exact OwnOff.ne (by assumption) (by k_memK) | refine hne_app ?_ ?_ | refine hne_cons ?_ ?_ | k_ne | k_all)); (case p4 => first | assumption | omega); (case p5 => first | assumption | omega))
  intro qstp vbstp stp nbstp vs9 ns9 n9 h9 tk9 F9 N9 ibstp bbstp lbstp i9 b9 g9 rqstp oostp
  (try simp only [LCg.Off1, and_true] at oostp)
  (try dsimp only)
  (try k_fold)
  k_steps
  clear rqone rqtwo rqstp ooone ootwo oostp
  obtain ⟨hp1, hp2⟩ := pow20 w0 w1
  have hp3 := pow12 w3
  obtain ⟨a1, a2⟩ := lowB_range bbone
  rw [lbone] at a2
  obtain ⟨a3, a4⟩ := highB_range bbone
  rw [lbone] at a4
  obtain ⟨c1, c2⟩ := lowB_range bbtwo
  rw [lbtwo] at c2
  obtain ⟨c3, c4⟩ := highB_range bbtwo
  rw [lbtwo] at c4
  obtain ⟨d1, d2⟩ := lowB_range bbstp
  rw [lbstp] at d2
  obtain ⟨d3, d4⟩ := highB_range bbstp
  rw [lbstp] at d4
  have a5 : lowB one < 2097152 := by omega
  have a6 : highB one < 2097152 := by omega
  have c5 : lowB two < 2097152 := by omega
  have c6 : highB two < 2097152 := by omega
  have d5 : lowB stp < 2097152 := by omega
  have d6 : highB stp < 2097152 := by omega
  refine un_stop (wpAny_execs_cons ?_)
  k_steps
  refine un_stop ?_
  k_dflt (refine' iter_bools [Str.ofString "first", Str.ofString "second", Str.ofString "count", Str.ofString "known", Str.ofString "good", Str.ofString "due", Str.ofString "told", Str.ofString "other", Str.ofString "figure", Str.ofString "fill"] ?ihh ?iF ?iN ?ihm ?ihc ?ihd ?iturn ?idone; (case ihh => rfl); (case iF => k_asm); (case iN => k_asm); (case ihm => k_mem); (case ihc => rfl); (case ihd => rfl))
  case iturn =>
    intro sg u0 I0 it0 h0 tk0 Q0 hit0 F0 N0 kont0
    (try dsimp only at F0 N0)
    obtain ⟨o1, ho1⟩ : ∃ o, toInt k (lowB one) (highB one) sg = o := ⟨_, rfl⟩
    have bo1 : ∀ i, o1 = some i → -2097152 ≤ i ∧ i ≤ 2097152 := fun i e => ti_bound a1 a2 (by omega) (ho1.trans e)
    obtain ⟨o2, ho2⟩ : ∃ o, toInt k (lowB two) (highB two) sg = o := ⟨_, rfl⟩
    have bo2 : ∀ i, o2 = some i → -2097152 ≤ i ∧ i ≤ 2097152 := fun i e => ti_bound c1 c2 (by omega) (ho2.trans e)
    obtain ⟨o3, ho3⟩ : ∃ o, toInt k2 (lowB stp) (highB stp) sg = o := ⟨_, rfl⟩
    have bo3 : ∀ i, o3 = some i → -4096 ≤ i ∧ i ≤ 4096 := fun i e => ti_bound d1 d2 (by omega) (ho3.trans e)
    obtain ⟨kf, hkf⟩ : ∃ b, kn o1 o2 = b := ⟨_, rfl⟩
    obtain ⟨gf, hgf⟩ : ∃ b, gd o1 o2 = b := ⟨_, rfl⟩
    k_steps
    refine un_stop (wpAny_execs_cons (cutV (Str.ofString "known") (.bool kf) (by assumption) (by assumption) ?_ ?_))
    · intro Q' kont
      rcases opt2 o1 o2 with rfl | ⟨m1, rfl, rfl⟩ | ⟨m1, n1, rfl, rfl⟩
      all_goals first | (obtain rfl : kf = true := hkf.symm) | (obtain rfl : kf = false := hkf.symm)
      all_goals ((rename Fr _ _ _ _ => qF); (try dsimp only [oV_some, oV_none] at qF))
      all_goals k_steps
      all_goals exact kont _ _ (by assumption) (kst_newsOf (by assumption) (by (intro p9 h9; kst_mem)))
    intro h1 tk1 F1 N1
    (try dsimp only)
    k_steps
    refine un_stop (wpAny_execs_cons (cutV (Str.ofString "good") (.bool gf) (by assumption) (by assumption) ?_ ?_))
    · intro Q' kont
      rcases opt2 o1 o2 with rfl | ⟨m1, rfl, rfl⟩ | ⟨m1, n1, rfl, rfl⟩
      all_goals first | (obtain rfl : kf = true := hkf.symm) | (obtain rfl : kf = false := hkf.symm)
      all_goals subst hgf
      all_goals ((rename Fr _ _ _ _ => qF); (try dsimp only [oV_some, oV_none] at qF))
      all_goals k_steps
      all_goals exact kont _ _ (by assumption) (kst_newsOf (by assumption) (by (intro p9 h9; kst_mem)))
    intro h1 tk1 F1 N1
    (try dsimp only)
    k_steps
    refine un_stop (wpAny_execs_cons (cutI (by assumption) (by assumption) ?_ ?_))
    · intro Q' kont
      rcases opt2 o1 o2 with rfl | ⟨m1, rfl, rfl⟩ | ⟨m1, n1, rfl, rfl⟩
      all_goals first | (obtain rfl : kf = true := hkf.symm) | (obtain rfl : kf = false := hkf.symm)
      all_goals ((rename Fr _ _ _ _ => qF); (try dsimp only [oV_some, oV_none] at qF))
      all_goals (try (obtain ⟨y1, y2⟩ := bo1 _ rfl))
      all_goals (try (obtain ⟨y3, y4⟩ := bo2 _ rfl))
      all_goals k_steps
      all_goals exact kont _ _ (by assumption) (kst_newsOf (by assumption) (by (intro p9 h9; kst_mem)))
    intro h1 tk1 F1 N1
    (try dsimp only)
    k_steps
    refine un_stop (wpAny_execs_cons (cutI (by assumption) (by assumption) ?_ ?_))
    · intro Q' kont
      rcases opt2 o1 o2 with rfl | ⟨m1, rfl, rfl⟩ | ⟨m1, n1, rfl, rfl⟩
      all_goals first | (obtain rfl : kf = true := hkf.symm) | (obtain rfl : kf = false := hkf.symm)
      all_goals ((rename Fr _ _ _ _ => qF); (try dsimp only [oV_some, oV_none] at qF))
      all_goals (try (obtain ⟨y1, y2⟩ := bo1 _ rfl))
      all_goals (try (obtain ⟨y3, y4⟩ := bo2 _ rfl))
      all_goals k_steps
      all_goals exact kont _ _ (by assumption) (kst_newsOf (by assumption) (by (intro p9 h9; kst_mem)))
    intro h1 tk1 F1 N1
    (try dsimp only)
    k_steps
    refine un_stop (wpAny_execs_cons (cutI (by assumption) (by assumption) ?_ ?_))
    · intro Q' kont
      rcases opt2 o1 o2 with rfl | ⟨m1, rfl, rfl⟩ | ⟨m1, n1, rfl, rfl⟩
      all_goals first | (obtain rfl : kf = true := hkf.symm) | (obtain rfl : kf = false := hkf.symm)
      all_goals ((rename Fr _ _ _ _ => qF); (try dsimp only [oV_some, oV_none] at qF))
      all_goals (try (obtain ⟨y1, y2⟩ := bo1 _ rfl))
      all_goals (try (obtain ⟨y3, y4⟩ := bo2 _ rfl))
      all_goals k_steps
      all_goals exact kont _ _ (by assumption) (kst_newsOf (by assumption) (by (intro p9 h9; kst_mem)))
    intro h1 tk1 F1 N1
    (try dsimp only)
    k_steps
    refine un_stop (wpAny_execs_cons (cutI (by assumption) (by assumption) ?_ ?_))
    · intro Q' kont
      rcases opt1 o1 with rfl | ⟨m1, rfl⟩
      all_goals ((rename Fr _ _ _ _ => qF); (try dsimp only [oV_some, oV_none] at qF))
      all_goals k_steps
      all_goals exact kont _ _ (by assumption) (kst_newsOf (by assumption) (by (intro p9 h9; kst_mem)))
    intro h1 tk1 F1 N1
    (try dsimp only)
    k_steps
    refine un_stop (wpAny_execs_cons (cutI (by assumption) (by assumption) ?_ ?_))
    · intro Q' kont
      rcases opt3 o1 o2 with rfl | ⟨m1, rfl, rfl⟩ | ⟨m1, rfl, rfl⟩ | ⟨m1, n1, rfl, rfl, hn0⟩
      all_goals first | (obtain rfl : gf = false := hgf.symm) | (obtain rfl : gf = true := hgf.symm.trans (bne_iff_ne.mpr (by assumption)))
      all_goals ((rename Fr _ _ _ _ => qF); (try dsimp only [oV_some, oV_none] at qF))
      all_goals (try (obtain ⟨y1, y2⟩ := bo1 _ rfl))
      all_goals (try (obtain ⟨y3, y4⟩ := bo2 _ rfl))
      all_goals k_steps
      all_goals exact kont _ _ (by assumption) (kst_newsOf (by assumption) (by (intro p9 h9; kst_mem)))
    intro h1 tk1 F1 N1
    (try dsimp only)
    k_steps
    refine un_stop (wpAny_execs_cons (cutI (by assumption) (by assumption) ?_ ?_))
    · intro Q' kont
      rcases opt3 o1 o2 with rfl | ⟨m1, rfl, rfl⟩ | ⟨m1, rfl, rfl⟩ | ⟨m1, n1, rfl, rfl, hn0⟩
      all_goals first | (obtain rfl : gf = false := hgf.symm) | (obtain rfl : gf = true := hgf.symm.trans (bne_iff_ne.mpr (by assumption)))
      all_goals ((rename Fr _ _ _ _ => qF); (try dsimp only [oV_some, oV_none] at qF))
      all_goals (try (obtain ⟨y1, y2⟩ := bo1 _ rfl))
      all_goals (try (obtain ⟨y3, y4⟩ := bo2 _ rfl))
      all_goals k_steps
      all_goals exact kont _ _ (by assumption) (kst_newsOf (by assumption) (by (intro p9 h9; kst_mem)))
    intro h1 tk1 F1 N1
    (try dsimp only)
    k_steps
    refine un_stop (cutDue (Str.ofString "due") (odl (odo o1 o2)) (ode (odo o1 o2)) (odl (odo o2 o1)) (ode (odo o2 o1)) (by assumption) (by assumption) ?_ ?_)
    · intro kont
      refine wpAny_execs_cons ?_
      k_steps
      refine un_stop (wpAny_execs_cons ?_)
      rcases opt4 o1 o2 with rfl | ⟨m1, rfl, rfl⟩ | ⟨m1, n1, rfl, rfl, hr⟩ | ⟨m1, rfl, rfl⟩ | ⟨m1, n1, rfl, rfl, hr⟩
      all_goals first | (obtain rfl : kf = true := hkf.symm) | (obtain rfl : kf = false := hkf.symm)
      all_goals ((rename Fr _ _ _ _ => qF); (try dsimp only [oV_some, oV_none] at qF))
      all_goals k_steps
      · simp only [odn, odnl] at kont; exact un_stop (kont _ _ 0 0 0 0 _ _ (by first | assumption | exact fr_dup (by assumption)) (pick1 (by assumption) (by k_mem) (by (intro p9 h9; kst_mem))))
      · simp only [odn, odnl] at kont; exact un_stop (kont _ _ 0 0 0 0 _ _ (by first | assumption | exact fr_dup (by assumption)) (pick1 (by assumption) (by k_mem) (by (intro p9 h9; kst_mem))))
      · simp only [odl1 hr, ode1 hr, odl2 hr, ode2 hr] at kont; exact un_stop (kont _ _ _ _ _ _ _ _ (by first | assumption | exact fr_dup (by assumption)) (pick1 (by assumption) (by k_mem) (by (intro p9 h9; kst_mem))))
      · simp only [odl3, ode3] at kont; exact un_stop (kont _ _ _ _ _ _ _ _ (by first | assumption | exact fr_dup (by assumption)) (pick1 (by assumption) (by k_mem) (by (intro p9 h9; kst_mem))))
      · simp only [odl1 hr, ode1 hr, odl2 hr, ode2 hr] at kont; exact un_stop (kont _ _ _ _ _ _ _ _ (by first | assumption | exact fr_dup (by assumption)) (pick1 (by assumption) (by k_mem) (by (intro p9 h9; kst_mem))))
    intro du1 dn1 dt1 dt2 dt3 dt4 h1 tk1 F1 N1
    (try dsimp only)
    refine un_stop (wpAny_execs_cons ?_)
    k_steps
    rename News _ _ _ _ => nQ
    refine un_stop (wpAny_execs_cons (cutI (by assumption) (ld6 nQ) ?_ ?_))
    · intro Q' kont
      all_goals k_steps
      all_goals exact kont _ _ (by assumption) (kst_newsOf (by assumption) (by (intro p9 h9; kst_mem)))
    intro h1 tk1 F1 N1
    (try dsimp only)
    k_steps
    refine un_stop (wpAny_execs_cons ?_)
    rename Fr _ _ _ _ => lF9
    with_unfolding_all refine' For_invVF lF9 ?kk1 ?kk2 ?_
    case kk1 => exact rfl
    case kk2 => exact rfl
    k_whole
    k_steps
    refine un_stop ?_
    k_dflt (refine' iter_bools [Str.ofString "figure", Str.ofString "due"] ?jhh ?jF ?jN ?jhm ?jhc ?jhd ?jturn ?jdone; (case jhh => rfl); (case jF => k_asm); (case jN => k_asm); (case jhm => k_mem); (case jhc => rfl); (case jhd => rfl))
    case jturn =>
      intro ot u2 I2 it2 h2 tk2 Q2 hit2 F2 N2 kont2
      (try dsimp only at F2 N2)
      obtain ⟨o4, ho4⟩ : ∃ o, toInt k2 (lowB stp) (highB stp) ot = o := ⟨_, rfl⟩
      have bo4 : ∀ i, o4 = some i → -4096 ≤ i ∧ i ≤ 4096 := fun i e => ti_bound d1 d2 (by omega) (ho4.trans e)
      k_steps
      refine un_stop (wpAny_execs_cons ?_)
      rcases opt2 o1 o4 with rfl | ⟨m1, rfl, rfl⟩ | ⟨m1, n1, rfl, rfl⟩
      all_goals (try (obtain ⟨y1, y2⟩ := bo1 _ rfl))
      all_goals (try (obtain ⟨y3, y4⟩ := bo4 _ rfl))
      all_goals ((rename Fr _ _ _ _ => qF); (try dsimp only [oV_some, oV_none] at qF))
      all_goals k_steps
      all_goals refine un_stop (wpAny_execs_cons ?_)
      all_goals k_steps
      all_goals exact kont2 _ _ _ (fr_bEnd (by assumption) (by rfl) (by (repeat' first | exact sub_refl | refine sub_st (by rfl) ?_ | refine sub_bF (by rfl) (by rfl) ?_ | refine sub_up (by rfl) ?_))) (kst_newsOf (by assumption) (by (intro p9 h9; kst_mem)))
    intro u3 h1 tk1 F1 N1
    (try dsimp only at F1 N1)
    (try dsimp only)
    k_steps
    refine un_stop (cutSh (Str.ofString "due") [Str.ofString "count", Str.ofString "fill"] k (slO k (lowB one) (lowB stp) (highB stp)) (slO k (highB one) (lowB stp) (highB stp)) (srO k (lowB one) (lowB stp) (highB stp)) (srO k (highB one) (lowB stp) (highB stp)) (saO k (lowB one) (lowB stp) (highB stp) sg) (saO k (highB one) (lowB stp) (highB stp) sg) (by assumption) (by assumption) ?_ ?_)
    · intro kont
      obtain ⟨o5, ho5⟩ : ∃ o, toInt k2 (lowB stp) (highB stp) false = o := ⟨_, rfl⟩
      clear ho3 bo3
      rcases o5 with _ | c5
      · have hz := ti_none ho5
        refine wpAny_execs_cons ?_
        k_steps
        (refine' un_stop (kont _ _ _ _ _ _ _ _ _ _ _ _ _ _ _ _ _ ?ys1 ?ys2 ?ys3 ?yF ?yN); (case yF => exact fr_sh (by assumption) (by rfl) (by (repeat' first | exact sub_refl | refine sub_st (by rfl) ?_ | refine sub_bF (by rfl) (by rfl) ?_ | refine sub_up (by rfl) ?_))); (case yN => exact pick4 (by assumption) (by k_mem) (by k_mem) (by k_mem) (by k_mem) (by (intro p9 h9; kst_mem))); (case ys1 => exact shx_ok (by assumption) (sl_x hz) (sl_x hz)); (case ys2 => exact shx_ok (by assumption) (sr_x hz) (sr_x hz)); (case ys3 => exact shx_ok (by assumption) (saX hz) (saX hz)))
      · obtain ⟨hz, hc5⟩ := ti_uns ho5
        subst hc5
        rcases sg with _ | _
        all_goals refine wpAny_execs_cons ?_
        all_goals k_steps
        all_goals refine un_stop (wpAny_execs_cons ?_)
        all_goals k_steps
        all_goals (refine' un_stop (kont _ _ _ _ _ _ _ _ _ _ _ _ _ _ _ _ _ ?ys1 ?ys2 ?ys3 ?yF ?yN); (case yF => exact fr_sh (by assumption) (by rfl) (by (repeat' first | exact sub_refl | refine sub_st (by rfl) ?_ | refine sub_bF (by rfl) (by rfl) ?_ | refine sub_up (by rfl) ?_))); (case yN => exact pick4 (by assumption) (by k_mem) (by k_mem) (by k_mem) (by k_mem) (by (intro p9 h9; kst_mem))); (case ys1 => (refine shl_ok ?_ bbone lbone w0 d1 hz; assumption)); (case ys2 => (refine shr_ok ?_ bbone lbone w0 d1 hz; assumption)); (case ys3 => first | (refine sha_ok0 ?_ bbone lbone w0 d1 hz; assumption) | (refine' sha_ok1 ?zh9 bbone lbone w0 d1 hz ?zj9; (case zh9 => assumption); (case zj9 => (rw [lbone]; omega)))))
    intro du2 dn2 e1 e2 e3 ev1 ev2 ev3 el1 el2 el3 en1 en2 en3 u4 h1 tk1 sh1 sh2 sh3 F1 N1
    (try dsimp only)
    k_steps
    refine un_stop (wpAny_execs_cons ?_)
    obtain ⟨sha1, sha2, sha3, sha4, sha5⟩ := sh1
    obtain ⟨shb1, shb2, shb3, shb4, shb5⟩ := sh2
    obtain ⟨shc1, shc2, shc3, shc4, shc5⟩ := sh3
    k_steps
    refine un_stop (wpAny_execs_cons ?_)
    k_steps
    all_goals exact kont0 _ _ _ (fr_bEnd (by assumption) (by rfl) (by (repeat' first | exact sub_refl | refine sub_st (by rfl) ?_ | refine sub_bF (by rfl) (by rfl) ?_ | refine sub_up (by rfl) ?_))) (kst_newsOf (by assumption) (by (intro p9 h9; kst_mem)))
  case idone =>
    intro u9 hA tkA FA NA
    (try dsimp only at FA NA)
    (try dsimp only)
    k_steps
    refine un_stop (wpAny_execs_cons ?_)
    k_steps
    obtain ⟨c, hc, hck⟩ := far_c
    rename News _ _ _ _ => nF
    rw [hc] at nF
    have hkc : k ≤ c := by omega
    have hc0 : 0 ≤ c := by omega
    refine un_stop (wpAny_execs_cons ?_)
    k_steps
)

end
end Mine
set_option maxRecDepth 100000 in
set_option maxHeartbeats 8000000 in
theorem PySem.Challenge.cw_nn0305_01_holds : PySem.Challenge.rw_nn0305_01.Holds :=
  Mine.whole_law
