import PyProof.Rows.All
import Wide.All
import OpenK.AllK
import Wide.FinOn
import HandS.ForMost
import HandS.Style
import HandS.Wide
import HandS.Gcd
import HandS.IsInst
import HandS.AnyAll
import HandS.EndBits
import HandS.Codes
import PySem.Challenge.RW_wildsteps_k86_whole_signs_by_solutions_m
set_option Elab.async false
set_option linter.all false
set_option maxRecDepth 100000
set_option maxHeartbeats 4000000
/-! Plain law, part 1: primes, Fermat, the square character, exponents. -/
namespace K86

def Pr (q : Nat) : Prop := 2 ≤ q ∧ ∀ d, d ∣ q → d = 1 ∨ d = q

theorem pr_of_trial {q : Nat} (h2 : 2 ≤ q) (h : ∀ d, 2 ≤ d → d * d ≤ q → q % d ≠ 0) : Pr q := by
  refine ⟨h2, fun d hd => ?_⟩
  obtain ⟨e, rfl⟩ := hd
  by_cases d1 : d = 1
  · exact .inl d1
  by_cases e1 : e = 1
  · right; rw [e1]; omega
  have d0 : d ≠ 0 := by rintro rfl; simp at h2
  have e0 : e ≠ 0 := by rintro rfl; simp at h2
  exfalso
  by_cases hde : d ≤ e
  · exact h d (by omega) (Nat.mul_le_mul_left d hde) (Nat.mul_mod_right d e)
  · exact h e (by omega) (Nat.mul_le_mul_right e (by omega)) (Nat.mul_mod_left d e)

theorem Pr.cop {q : Nat} (h : Pr q) {u : Nat} (hu : u % q ≠ 0) : Nat.Coprime q u := by
  rcases h.2 _ (Nat.gcd_dvd_left q u) with e | e
  · exact e
  · exact absurd (Nat.mod_eq_zero_of_dvd (e ▸ Nat.gcd_dvd_right q u)) hu

theorem Pr.mul {q : Nat} (h : Pr q) {u w : Nat} (hu : u % q ≠ 0) (hw : w % q ≠ 0) : (u * w) % q ≠ 0 := by
  intro z
  exact hw (Nat.mod_eq_zero_of_dvd ((h.cop hu).dvd_of_dvd_mul_left (Nat.dvd_of_mod_eq_zero z)))

theorem perm_of_sub : ∀ (l1 l2 : List Nat), l1.Nodup → (∀ a ∈ l1, a ∈ l2) → l2.length ≤ l1.length → l1.Perm l2
  | [], l2, _, _, hl => by
    have : l2 = [] := List.eq_nil_of_length_eq_zero (Nat.le_zero.mp hl)
    rw [this]
  | a :: t, l2, hn, hs, hl => by
    have ha : a ∈ l2 := hs a (List.mem_cons_self ..)
    have hp := List.perm_cons_erase ha
    have ih := perm_of_sub t (l2.erase a) (List.nodup_cons.mp hn).2 (fun b hb => by
      have hne : b ≠ a := fun z => (List.nodup_cons.mp hn).1 (z ▸ hb)
      exact (List.mem_erase_of_ne hne).mpr (hs b (List.mem_cons_of_mem _ hb))) (by
      have := List.length_erase_of_mem ha
      simp only [List.length_cons] at hl
      omega)
    exact (List.Perm.cons a ih).trans hp.symm

theorem prod_map_mod (q u : Nat) : ∀ l : List Nat, ((l.map (fun i => u * i % q)).prod) % q = (u ^ l.length * l.prod) % q
  | [] => by simp
  | i :: t => by
    have ih := prod_map_mod q u t
    simp only [List.map_cons, List.prod_cons, List.length_cons]
    rw [Nat.mul_mod, ih, Nat.mod_mod, ← Nat.mul_mod]
    congr 1
    rw [Nat.pow_succ]
    simp only [Nat.mul_assoc, Nat.mul_comm, Nat.mul_left_comm]

theorem prod_unit {q : Nat} (h : Pr q) : ∀ l : List Nat, (∀ i ∈ l, i % q ≠ 0) → l.prod % q ≠ 0
  | [], _ => by
    have := h.1
    show 1 % q ≠ 0
    rw [Nat.mod_eq_of_lt (by omega)]; omega
  | i :: t, hl => by
    rw [List.prod_cons]
    exact h.mul (hl i (List.mem_cons_self ..)) (prod_unit h t fun j hj => hl j (List.mem_cons_of_mem _ hj))

theorem nodup_map_inj (f : Nat → Nat) : ∀ l : List Nat, l.Nodup → (∀ a ∈ l, ∀ b ∈ l, f a = f b → a = b) → (l.map f).Nodup
  | [], _, _ => by simp
  | a :: t, hn, hf => by
    rw [List.map_cons, List.nodup_cons]
    refine ⟨fun hm => ?_, nodup_map_inj f t (List.nodup_cons.mp hn).2 fun x hx y hy => hf x (List.mem_cons_of_mem _ hx) y (List.mem_cons_of_mem _ hy)⟩
    obtain ⟨b, hb, e⟩ := List.mem_map.mp hm
    have := hf b (List.mem_cons_of_mem _ hb) a (List.mem_cons_self ..) e
    exact (List.nodup_cons.mp hn).1 (this ▸ hb)

theorem mod_cancel {q : Nat} (h : Pr q) {u a b : Nat} (hu : u % q ≠ 0) (e : u * a % q = u * b % q) (hab : a ≤ b) : (b - a) % q = 0 := by
  have h1 : (u * b - u * a) % q = 0 := Nat.sub_mod_eq_zero_of_mod_eq e.symm
  rw [← Nat.mul_sub] at h1
  by_cases hz : (b - a) % q = 0
  · exact hz
  · exact absurd h1 (h.mul hu hz)

theorem fermat {q : Nat} (h : Pr q) {u : Nat} (hu : u % q ≠ 0) : u ^ (q - 1) % q = 1 := by
  have h2 := h.1
  let L := List.range' 1 (q - 1)
  have hL : ∀ i, i ∈ L ↔ 1 ≤ i ∧ i < q := fun i => by
    show i ∈ List.range' 1 (q - 1) ↔ _
    rw [List.mem_range'_1]
    omega
  have hLu : ∀ i ∈ L, i % q ≠ 0 := fun i hi => by
    have := (hL i).mp hi
    rw [Nat.mod_eq_of_lt this.2]; omega
  have hLn : L.Nodup := List.nodup_range'
  have hLl : L.length = q - 1 := List.length_range'
  have hp : (L.map (fun i => u * i % q)).Perm L := by
    refine perm_of_sub _ _ (nodup_map_inj _ L hLn fun a ha b hb e => ?_) (fun a ha => ?_) (by rw [List.length_map]; exact Nat.le_refl _)
    · have a1 := (hL a).mp ha
      have b1 := (hL b).mp hb
      by_cases hab : a ≤ b
      · have := mod_cancel h hu e hab
        rw [Nat.mod_eq_of_lt (by omega)] at this
        omega
      · have := mod_cancel h hu e.symm (by omega)
        rw [Nat.mod_eq_of_lt (by omega)] at this
        omega
    · obtain ⟨b, hb, e⟩ := List.mem_map.mp ha
      rw [hL, ← e]
      have := h.mul hu (hLu b hb)
      have := Nat.mod_lt (u * b) (show q > 0 by omega)
      omega
  have e1 := prod_map_mod q u L
  rw [hp.prod_nat, hLl] at e1
  have hP : L.prod % q ≠ 0 := prod_unit h L hLu
  have e2 : L.prod * 1 % q = L.prod * u ^ (q - 1) % q := by
    rw [Nat.mul_one, Nat.mul_comm L.prod]; exact e1
  have hpos : 1 ≤ u ^ (q - 1) := Nat.pow_pos (by
    rcases Nat.eq_zero_or_pos u with z | z
    · exact absurd (by rw [z]; simp) hu
    · exact z)
  have e3 := mod_cancel h hP e2 hpos
  have e4 := Nat.dvd_of_mod_eq_zero e3
  obtain ⟨c, hc⟩ := e4
  have : u ^ (q - 1) = q * c + 1 := by omega
  rw [this, Nat.mul_add_mod, Nat.mod_eq_of_lt (by omega)]

theorem half {q : Nat} (h : Pr q) (ho : q % 2 = 1) {u : Nat} (hu : u % q ≠ 0) : u ^ ((q - 1) / 2) % q = 1 ∨ u ^ ((q - 1) / 2) % q = q - 1 := by
  have h2 := h.1
  have hf := fermat h hu
  have e : q - 1 = (q - 1) / 2 + (q - 1) / 2 := by omega
  generalize hn : (q - 1) / 2 = n at *
  rw [e, Nat.pow_add] at hf
  have ht := Nat.mod_lt (u ^ n) (show q > 0 by omega)
  generalize hT : u ^ n % q = t at *
  rw [Nat.mul_mod, hT] at hf
  by_cases h1 : t = 1
  · exact .inl h1
  right
  have t0 : t ≠ 0 := by rintro rfl; simp at hf
  have hz : ((t + 1) * (t - 1)) % q = 0 := by
    have e5 : (t + 1) * (t - 1) = t * t - 1 := by
      have : t = (t - 1) + 1 := by omega
      generalize hs : t - 1 = s at *
      subst this
      simp only [Nat.add_mul, Nat.mul_add, Nat.one_mul, Nat.mul_one]
      omega
    rw [e5]
    refine Nat.sub_mod_eq_zero_of_mod_eq ?_
    rw [hf, Nat.mod_eq_of_lt (by omega)]
  by_cases ha : (t + 1) % q = 0
  · have := Nat.le_of_dvd (by omega) (Nat.dvd_of_mod_eq_zero ha)
    omega
  · by_cases hb : (t - 1) % q = 0
    · rw [Nat.mod_eq_of_lt (by omega)] at hb
      omega
    · exact absurd hz (h.mul ha hb)
end K86
/-! Plain law, part 2: the characters over Int. -/
namespace K86

theorem ipow_mod (q u : Int) : ∀ n : Nat, (u % q) ^ n % q = u ^ n % q
  | 0 => by simp
  | n + 1 => by
    rw [Int.pow_succ, Int.pow_succ, Int.mul_emod, ipow_mod q u n, Int.emod_emod_of_dvd _ (Int.dvd_refl q), ← Int.mul_emod]

structure OP (q : Int) : Prop where
  ge : 3 ≤ q
  odd : q % 2 = 1
  pr : Pr q.toNat

def E (q u : Int) : Bool := decide (u ^ ((q - 1) / 2).toNat % q = 1)

theorem E_mod {q : Int} (u : Int) : E q (u % q) = E q u := by
  unfold E
  rw [ipow_mod]

theorem OP.nat {q : Int} (h : OP q) {u : Int} (hu : u % q ≠ 0) : (u % q).toNat % q.toNat ≠ 0 := by
  have h1 := h.ge
  have h2 := Int.emod_nonneg u (show q ≠ 0 by omega)
  have h3 := Int.emod_lt_of_pos u (show 0 < q by omega)
  rw [Nat.mod_eq_of_lt (by omega)]
  omega

theorem cast_pow (q u : Int) (hq : 0 < q) (n : Nat) : u ^ n % q = (((u % q).toNat ^ n % q.toNat : Nat) : Int) := by
  have h2 := Int.emod_nonneg u (show q ≠ 0 by omega)
  rw [← ipow_mod, Int.natCast_emod, Int.natCast_pow, Int.toNat_of_nonneg h2, Int.toNat_of_nonneg (by omega)]

theorem OP.half {q : Int} (h : OP q) {u : Int} (hu : u % q ≠ 0) : u ^ ((q - 1) / 2).toNat % q = 1 ∨ u ^ ((q - 1) / 2).toNat % q = q - 1 := by
  have h1 := h.ge
  have h2 := h.odd
  have e : ((q - 1) / 2).toNat = (q.toNat - 1) / 2 := by omega
  rw [cast_pow q u (by omega), e]
  rcases K86.half h.pr (by omega) (h.nat hu) with z | z
  · rw [z]; exact .inl rfl
  · rw [z]; right; omega

theorem OP.mul {q : Int} (h : OP q) {u w : Int} (hu : u % q ≠ 0) (hw : w % q ≠ 0) : (u * w) % q ≠ 0 := by
  have h1 := h.ge
  have a := h.pr.mul (h.nat hu) (h.nat hw)
  intro z
  apply a
  have h2 := Int.emod_nonneg u (show q ≠ 0 by omega)
  have h3 := Int.emod_nonneg w (show q ≠ 0 by omega)
  have e : (((u % q).toNat * (w % q).toNat % q.toNat : Nat) : Int) = 0 := by
    rw [Int.natCast_emod, Int.natCast_mul, Int.toNat_of_nonneg h2, Int.toNat_of_nonneg h3, Int.toNat_of_nonneg (by omega), ← Int.mul_emod, z]
  omega

theorem E_mul {q : Int} (h : OP q) {u w : Int} (hu : u % q ≠ 0) (hw : w % q ≠ 0) : E q (u * w) = (E q u == E q w) := by
  have h1 := h.ge
  unfold E
  rw [Int.mul_pow, Int.mul_emod]
  rcases h.half hu with a | a <;> rcases h.half hw with b | b <;> rw [a, b]
  · rw [Int.one_mul, Int.emod_eq_of_lt (by omega) (by omega)]; rfl
  · rw [Int.one_mul, Int.emod_eq_of_lt (by omega) (by omega)]
    rw [decide_eq_false (by omega)]; rfl
  · rw [Int.mul_one, Int.emod_eq_of_lt (by omega) (by omega)]
    rw [decide_eq_false (by omega)]; rfl
  · have e : (q - 1) * (q - 1) = 1 + q * (q - 2) := by
      simp only [Int.sub_mul, Int.mul_sub]; omega
    rw [e, Int.add_mul_emod_self_left, Int.emod_eq_of_lt (by omega) (by omega)]
    rw [decide_eq_false (show ¬ q - 1 = 1 by omega)]; rfl

theorem neg1_pow : ∀ n : Nat, (-1 : Int) ^ n = if n % 2 = 0 then 1 else -1
  | 0 => rfl
  | n + 1 => by
    rw [Int.pow_succ, neg1_pow n]
    by_cases e : n % 2 = 0
    · rw [if_pos e, if_neg (by omega)]; rfl
    · rw [if_neg e, if_pos (by omega)]; rfl

theorem neg1_mod' {q : Int} (h : 2 ≤ q) : (-1 : Int) % q = q - 1 := by
  have := Int.add_mul_emod_self_left (-1) q 1
  rw [← this, Int.mul_one, Int.emod_eq_of_lt (by omega) (by omega)]; omega
theorem neg1_mod {q : Int} (h : 3 ≤ q) : (-1 : Int) % q = q - 1 := neg1_mod' (by omega)
theorem E_neg1 {q : Int} (h : OP q) : E q (-1) = !decide (q % 4 = 3) := by
  have h1 := h.ge
  have h2 := h.odd
  unfold E
  rw [neg1_pow]
  by_cases e : ((q - 1) / 2).toNat % 2 = 0
  · rw [if_pos e, Int.emod_eq_of_lt (by omega) (by omega), decide_eq_false (show ¬ q % 4 = 3 by omega)]; rfl
  · rw [if_neg e, decide_eq_true (show q % 4 = 3 by omega)]
    rw [neg1_mod h1, decide_eq_false (by omega)]; rfl

/-! exponents -/
def exF : Nat → Int → Int → Nat
  | 0, _, _ => 0
  | n + 1, q, a => if a % q = 0 then exF n q (a / q) + 1 else 0
def ex (q a : Int) : Nat := exF a.natAbs q a
def un (q a : Int) : Int := a / q ^ ex q a

theorem exF_spec (q : Int) (hq : 2 ≤ q) : ∀ (n : Nat) (a : Int), a ≠ 0 → a.natAbs ≤ n → ∃ u, a = q ^ exF n q a * u ∧ u % q ≠ 0
  | 0, a, h0, hn => absurd hn (by omega)
  | n + 1, a, h0, hn => by
    unfold exF
    by_cases e : a % q = 0
    · rw [if_pos e]
      have ea : a = q * (a / q) := by have := Int.mul_ediv_add_emod a q; omega
      have hb : a / q ≠ 0 := fun z => h0 (by rw [ea, z, Int.mul_zero])
      have hlt : (a / q).natAbs < a.natAbs := by
        have e2 : a.natAbs = q.natAbs * (a / q).natAbs := by rw [← Int.natAbs_mul, ← ea]
        rw [e2]
        have : 0 < (a / q).natAbs := by omega
        have : 2 * (a / q).natAbs ≤ q.natAbs * (a / q).natAbs := Nat.mul_le_mul_right _ (by omega)
        omega
      obtain ⟨u, h1, h2⟩ := exF_spec q hq n (a / q) hb (by omega)
      refine ⟨u, ?_, h2⟩
      rw [Int.pow_succ, Int.mul_right_comm, ← h1, Int.mul_comm, ← ea]
    · rw [if_neg e]
      exact ⟨a, by simp, e⟩

theorem pow_pos' {q : Int} (hq : 2 ≤ q) (k : Nat) : 0 < q ^ k := Int.pow_pos (by omega)

theorem ex_spec {q a : Int} (hq : 2 ≤ q) (h0 : a ≠ 0) : a = q ^ ex q a * un q a ∧ un q a % q ≠ 0 := by
  obtain ⟨u, h1, h2⟩ := exF_spec q hq a.natAbs a h0 (Nat.le_refl _)
  have : un q a = u := by
    unfold un
    show a / q ^ exF a.natAbs q a = u
    rw [Int.ediv_eq_of_eq_mul_right (Int.ne_of_gt (pow_pos' hq _)) h1]
  rw [this]
  exact ⟨h1, h2⟩

theorem pow_uniq {q u v : Int} (hq : 2 ≤ q) (hu : u % q ≠ 0) (hv : v % q ≠ 0) : ∀ k j : Nat, q ^ k * u = q ^ j * v → k = j ∧ u = v
  | 0, 0, e => ⟨rfl, by simpa using e⟩
  | 0, j + 1, e => by
    exfalso; apply hu
    have : u = q * (q ^ j * v) := by rw [← Int.mul_assoc, Int.mul_comm q, ← Int.pow_succ, ← e]; simp
    rw [this, Int.mul_emod_right]
  | k + 1, 0, e => by
    exfalso; apply hv
    have : v = q * (q ^ k * u) := by rw [← Int.mul_assoc, Int.mul_comm q, ← Int.pow_succ, e]; simp
    rw [this, Int.mul_emod_right]
  | k + 1, j + 1, e => by
    have e2 : q * (q ^ k * u) = q * (q ^ j * v) := by
      rw [← Int.mul_assoc, ← Int.mul_assoc, Int.mul_comm q, ← Int.pow_succ, Int.mul_comm q, ← Int.pow_succ, e]
    have e3 := Int.eq_of_mul_eq_mul_left (show q ≠ 0 by omega) e2
    obtain ⟨h1, h2⟩ := pow_uniq hq hu hv k j e3
    exact ⟨by omega, h2⟩

theorem ex_uniq {q a u : Int} {k : Nat} (hq : 2 ≤ q) (h0 : a ≠ 0) (hu : u % q ≠ 0) (e : a = q ^ k * u) : ex q a = k ∧ un q a = u := by
  obtain ⟨h1, h2⟩ := ex_spec hq h0
  exact pow_uniq hq h2 hu _ _ (h1.symm.trans e)

theorem two_mul_odd {u w : Int} (hu : u % 2 ≠ 0) (hw : w % 2 ≠ 0) : (u * w) % 2 ≠ 0 := by
  have a : u % 2 = 1 := by omega
  have b : w % 2 = 1 := by omega
  rw [Int.mul_emod, a, b]; decide

/-- 2, or an odd prime -/
def Pq (q : Int) : Prop := q = 2 ∨ OP q
theorem Pq.ge {q : Int} (h : Pq q) : 2 ≤ q := by
  rcases h with rfl | h
  · exact Int.le_refl _
  · have := h.ge; omega
theorem Pq.mul {q : Int} (h : Pq q) {u w : Int} (hu : u % q ≠ 0) (hw : w % q ≠ 0) : (u * w) % q ≠ 0 := by
  rcases h with rfl | h
  · exact two_mul_odd hu hw
  · exact h.mul hu hw

theorem ex_mul {q a b : Int} (h : Pq q) (ha : a ≠ 0) (hb : b ≠ 0) : ex q (a * b) = ex q a + ex q b ∧ un q (a * b) = un q a * un q b := by
  obtain ⟨a1, a2⟩ := ex_spec h.ge ha
  obtain ⟨b1, b2⟩ := ex_spec h.ge hb
  refine ex_uniq h.ge (Int.mul_ne_zero ha hb) (h.mul a2 b2) ?_
  rw [Int.pow_add]
  calc a * b = (q ^ ex q a * un q a) * (q ^ ex q b * un q b) := by rw [← a1, ← b1]
    _ = _ := by simp only [Int.mul_assoc, Int.mul_left_comm]

/-! the three characters of a place -/
def par (q a : Int) : Bool := if q = 0 then false else decide (ex q a % 2 = 1)
def chi (q a : Int) : Bool := if q = 0 then false else if q = 2 then decide (un 2 a % 8 = 3 ∨ un 2 a % 8 = 5) else !E q (un q a)
def eps (q a : Int) : Bool := if q = 0 then decide (a < 0) else if q = 2 then decide (un 2 a % 4 = 3) else par q a && decide (q % 4 = 3)
def Plc (q : Int) : Prop := q = 0 ∨ Pq q

theorem par_q {q : Int} (h : 2 ≤ q) (a : Int) : par q a = decide (ex q a % 2 = 1) := if_neg (by omega)
theorem chi_2 (a : Int) : chi 2 a = decide (un 2 a % 8 = 3 ∨ un 2 a % 8 = 5) := rfl
theorem chi_o {q : Int} (h : 3 ≤ q) (a : Int) : chi q a = !E q (un q a) := (if_neg (by omega)).trans (if_neg (by omega))
theorem eps_2 (a : Int) : eps 2 a = decide (un 2 a % 4 = 3) := rfl
theorem eps_o {q : Int} (h : 3 ≤ q) (a : Int) : eps q a = (par q a && decide (q % 4 = 3)) := (if_neg (by omega)).trans (if_neg (by omega))
theorem eps_z (a : Int) : eps 0 a = decide (a < 0) := rfl
theorem par_mul {q a b : Int} (h : Plc q) (ha : a ≠ 0) (hb : b ≠ 0) : par q (a * b) = (par q a ^^ par q b) := by
  rcases h with rfl | h
  · rfl
  have := h.ge
  rw [par_q this, par_q this, par_q this, (ex_mul h ha hb).1]
  have h1 : ex q a % 2 = 0 ∨ ex q a % 2 = 1 := by omega
  have h2 : ex q b % 2 = 0 ∨ ex q b % 2 = 1 := by omega
  rcases h1 with h1 | h1 <;> rcases h2 with h2 | h2 <;> rw [Nat.add_mod, h1, h2] <;> rfl

theorem mod8 {u : Int} (hu : u % 2 ≠ 0) : u % 8 = 1 ∨ u % 8 = 3 ∨ u % 8 = 5 ∨ u % 8 = 7 := by omega

theorem chi_mul {q a b : Int} (h : Plc q) (ha : a ≠ 0) (hb : b ≠ 0) : chi q (a * b) = (chi q a ^^ chi q b) := by
  rcases h with rfl | h
  · rfl
  have e := (ex_mul h ha hb).2
  have a2 := (ex_spec h.ge ha).2
  have b2 := (ex_spec h.ge hb).2
  rcases h with rfl | h
  · rw [chi_2, chi_2, chi_2, e, Int.mul_emod]
    rcases mod8 a2 with h1 | h1 | h1 | h1 <;> rcases mod8 b2 with h2 | h2 | h2 | h2 <;> rw [h1, h2] <;> decide
  · have := h.ge
    rw [chi_o this, chi_o this, chi_o this, e, E_mul h a2 b2]
    cases E q (un q a) <;> cases E q (un q b) <;> rfl

theorem eps_mul {q a b : Int} (h : Plc q) (ha : a ≠ 0) (hb : b ≠ 0) : eps q (a * b) = (eps q a ^^ eps q b) := by
  rcases h with rfl | h
  · rw [eps_z, eps_z, eps_z]
    by_cases h1 : a < 0 <;> by_cases h2 : b < 0
    · rw [decide_eq_true h1, decide_eq_true h2, decide_eq_false]; rfl
      have := Int.mul_pos_of_neg_of_neg h1 h2; omega
    · rw [decide_eq_true h1, decide_eq_false h2, decide_eq_true]; rfl
      exact Int.mul_neg_of_neg_of_pos h1 (by omega)
    · rw [decide_eq_false h1, decide_eq_true h2, decide_eq_true]; rfl
      exact Int.mul_neg_of_pos_of_neg (by omega) h2
    · rw [decide_eq_false h1, decide_eq_false h2, decide_eq_false]; rfl
      have := Int.mul_pos (show 0 < a by omega) (show 0 < b by omega); omega
  have hg := h.ge
  by_cases h2 : q = 2
  · subst h2
    have e := (ex_mul h ha hb).2
    have a2 := (ex_spec h.ge ha).2
    have b2 := (ex_spec h.ge hb).2
    rw [eps_2, eps_2, eps_2, e, Int.mul_emod]
    have q1 : un 2 a % 4 = 1 ∨ un 2 a % 4 = 3 := by omega
    have q2 : un 2 b % 4 = 1 ∨ un 2 b % 4 = 3 := by omega
    rcases q1 with h1 | h1 <;> rcases q2 with h2 | h2 <;> rw [h1, h2] <;> decide
  · have e := par_mul (.inr h) ha hb
    rw [eps_o (by omega), eps_o (by omega), eps_o (by omega), e]
    cases par q a <;> cases par q b <;> cases decide (q % 4 = 3) <;> rfl

def hb (q a b : Int) : Bool := (eps q a && eps q b) ^^ (par q a && chi q b) ^^ (chi q a && par q b)
def hs (q a b : Int) : Int := if hb q a b then -1 else 1

theorem hb_symm (q a b : Int) : hb q a b = hb q b a := by
  unfold hb
  cases eps q a <;> cases eps q b <;> cases par q a <;> cases par q b <;> cases chi q a <;> cases chi q b <;> rfl
theorem hb_mul {q a b c : Int} (h : Plc q) (hb' : b ≠ 0) (hc : c ≠ 0) : hb q a (b * c) = (hb q a b ^^ hb q a c) := by
  unfold hb
  rw [eps_mul h hb' hc, par_mul h hb' hc, chi_mul h hb' hc]
  cases eps q a <;> cases eps q b <;> cases eps q c <;> cases par q a <;> cases par q b <;> cases par q c <;> cases chi q a <;> cases chi q b <;> cases chi q c <;> rfl
theorem hb_sq {q a s : Int} (h : Plc q) (hs' : s ≠ 0) : hb q a (s * s) = false := by
  rw [hb_mul h hs' hs']
  cases hb q a s <;> rfl
theorem hs_symm (q a b : Int) : hs q a b = hs q b a := by
  unfold hs; rw [hb_symm]
theorem hs_mul {q a b c : Int} (h : Plc q) (hb' : b ≠ 0) (hc : c ≠ 0) : hs q a (b * c) = hs q a b * hs q a c := by
  unfold hs
  rw [hb_mul h hb' hc]
  cases hb q a b <;> cases hb q a c <;> rfl
theorem hs_sq {q a s : Int} (h : Plc q) (hs' : s ≠ 0) : hs q a (s * s) = 1 := by
  unfold hs
  rw [hb_sq h hs']; rfl
/-- a factor that is a square changes nothing -/
theorem hs_sq_mul {q a b c g s : Int} (h : Plc q) (hb' : b ≠ 0) (hc : c ≠ 0) (hg : g ≠ 0) (hs' : s ≠ 0) (e : b * (g * g) = c * (s * s)) : hs q a b = hs q a c := by
  have h1 := hs_mul (a := a) h hb' (Int.mul_ne_zero hg hg)
  have h2 := hs_mul (a := a) h hc (Int.mul_ne_zero hs' hs')
  rw [e] at h1
  rw [hs_sq h hg] at h1
  rw [hs_sq h hs'] at h2
  omega
theorem ex_unit {q u : Int} (hq : 2 ≤ q) (hu : u % q ≠ 0) : ex q u = 0 ∧ un q u = u := by
  refine ex_uniq hq (fun z => hu (by rw [z]; simp)) hu ?_
  simp
theorem hs_neg {q a : Int} (h : Plc q) (ha : a ≠ 0) : hs q a (-a) = 1 := by
  have e : -a = (-1) * a := by omega
  have h1 : hb q a (-a) = false := by
    rw [e]
    unfold hb
    rw [eps_mul h (by decide) ha, par_mul h (by decide) ha, chi_mul h (by decide) ha]
    rcases h with rfl | h
    · rw [eps_z, eps_z]
      show ((decide (a < 0) && (decide ((-1 : Int) < 0) ^^ decide (a < 0))) ^^ (false && _) ^^ (false && _)) = false
      cases decide (a < 0) <;> rfl
    have hg := h.ge
    have hu : (-1 : Int) % q ≠ 0 := by
      rw [neg1_mod' hg]; omega
    have e1 := ex_unit hg hu
    have p1 : par q (-1) = false := by
      rw [par_q hg, e1.1]; rfl
    rcases h with rfl | h
    · have c1 : chi 2 (-1) = false := by
        rw [chi_2, e1.2]; decide
      have s1 : eps 2 (-1) = true := by
        rw [eps_2, e1.2]; decide
      rw [p1, c1, s1]
      cases eps 2 a <;> cases par 2 a <;> cases chi 2 a <;> rfl
    · have := h.ge
      have c1 : chi q (-1) = decide (q % 4 = 3) := by
        rw [chi_o this, e1.2, E_neg1 h]
        cases decide (q % 4 = 3) <;> rfl
      rw [eps_o this, eps_o this, p1, c1]
      cases decide (q % 4 = 3) <;> cases par q a <;> cases chi q a <;> rfl
  unfold hs
  rw [h1]; rfl
end K86
/-! The text by places, the defs as they stand, further rules. -/
namespace K86
open PySem PySem.Spec PyProof.Rows L2
def topS (i : Nat) : Stmt := PySem.Challenge.pw_wildsteps_k86_whole_signs_by_solutions_m.main.body.getD i (.Pass ⟨0, 0, 0, 0⟩)
/-- a def of the text as it stands behind the top -/
structure Df (K : PySem.W.Frag) (mg : Str → Option Value) (x : Str) (st : Stmt) (ps : List Str) where
  f : Addr
  fd : FuncData
  F : Fun K x x st f fd
  b : Binds K fd ps []
  g : mg x = some (.ref f)
abbrev s_is_whole_number : Stmt := topS 6
abbrev N_is_whole_number : List Str := ["value"]
abbrev p_is_whole_number : List Str := ["value"]
theorem sc_is_whole_number : FnScope N_is_whole_number p_is_whole_number (defScope s_is_whole_number) := ⟨rfl, rfl, rfl, by decide +kernel, rfl, by decide +kernel, by decide +kernel⟩
abbrev s_is_integer : Stmt := topS 7
abbrev N_is_integer : List Str := ["value"]
abbrev p_is_integer : List Str := ["value"]
theorem sc_is_integer : FnScope N_is_integer p_is_integer (defScope s_is_integer) := ⟨rfl, rfl, rfl, by decide +kernel, rfl, by decide +kernel, by decide +kernel⟩
abbrev s_is_ratio_any : Stmt := topS 8
abbrev N_is_ratio_any : List Str := ["value", "one"]
abbrev p_is_ratio_any : List Str := ["value"]
theorem sc_is_ratio_any : FnScope N_is_ratio_any p_is_ratio_any (defScope s_is_ratio_any) := ⟨rfl, rfl, rfl, by decide +kernel, rfl, by decide +kernel, by decide +kernel⟩
abbrev s_is_number_in : Stmt := topS 9
abbrev N_is_number_in : List Str := ["value", "one"]
abbrev p_is_number_in : List Str := ["value"]
theorem sc_is_number_in : FnScope N_is_number_in p_is_number_in (defScope s_is_number_in) := ⟨rfl, rfl, rfl, by decide +kernel, rfl, by decide +kernel, by decide +kernel⟩
abbrev s_pair_of : Stmt := topS 10
abbrev N_pair_of : List Str := ["number"]
abbrev p_pair_of : List Str := ["number"]
theorem sc_pair_of : FnScope N_pair_of p_pair_of (defScope s_pair_of) := ⟨rfl, rfl, rfl, by decide +kernel, rfl, by decide +kernel, by decide +kernel⟩
abbrev s_exponent_at : Stmt := topS 14
abbrev N_exponent_at : List Str := ["divisor", "integer", "found", "left"]
abbrev p_exponent_at : List Str := ["divisor", "integer"]
theorem sc_exponent_at : FnScope N_exponent_at p_exponent_at (defScope s_exponent_at) := ⟨rfl, rfl, rfl, by decide +kernel, rfl, by decide +kernel, by decide +kernel⟩
abbrev s_least_divisor : Stmt := topS 15
abbrev N_least_divisor : List Str := ["integer", "found"]
abbrev p_least_divisor : List Str := ["integer"]
theorem sc_least_divisor : FnScope N_least_divisor p_least_divisor (defScope s_least_divisor) := ⟨rfl, rfl, rfl, by decide +kernel, rfl, by decide +kernel, by decide +kernel⟩
abbrev s_is_prime_number : Stmt := topS 16
abbrev N_is_prime_number : List Str := ["integer"]
abbrev p_is_prime_number : List Str := ["integer"]
theorem sc_is_prime_number : FnScope N_is_prime_number p_is_prime_number (defScope s_is_prime_number) := ⟨rfl, rfl, rfl, by decide +kernel, rfl, by decide +kernel, by decide +kernel⟩
abbrev s_modular_power : Stmt := topS 17
abbrev N_modular_power : List Str := ["base", "exponent", "modulus", "found", "here", "left"]
abbrev p_modular_power : List Str := ["base", "exponent", "modulus"]
theorem sc_modular_power : FnScope N_modular_power p_modular_power (defScope s_modular_power) := ⟨rfl, rfl, rfl, by decide +kernel, rfl, by decide +kernel, by decide +kernel⟩
abbrev s_square_sign_in : Stmt := topS 18
abbrev N_square_sign_in : List Str := ["place", "integer"]
abbrev p_square_sign_in : List Str := ["place", "integer"]
theorem sc_square_sign_in : FnScope N_square_sign_in p_square_sign_in (defScope s_square_sign_in) := ⟨rfl, rfl, rfl, by decide +kernel, rfl, by decide +kernel, by decide +kernel⟩
abbrev s_whole_of : Stmt := topS 19
abbrev N_whole_of : List Str := ["number", "top", "bottom"]
abbrev p_whole_of : List Str := ["number"]
theorem sc_whole_of : FnScope N_whole_of p_whole_of (defScope s_whole_of) := ⟨rfl, rfl, rfl, by decide +kernel, rfl, by decide +kernel, by decide +kernel⟩
abbrev s_is_square_in : Stmt := topS 20
abbrev N_is_square_in : List Str := ["place", "integer", "many", "left"]
abbrev p_is_square_in : List Str := ["place", "integer"]
theorem sc_is_square_in : FnScope N_is_square_in p_is_square_in (defScope s_is_square_in) := ⟨rfl, rfl, rfl, by decide +kernel, rfl, by decide +kernel, by decide +kernel⟩
abbrev s_sign_at_two : Stmt := topS 21
abbrev N_sign_at_two : List Str := ["one", "other", "k", "u", "l", "w", "turns"]
abbrev p_sign_at_two : List Str := ["one", "other"]
theorem sc_sign_at_two : FnScope N_sign_at_two p_sign_at_two (defScope s_sign_at_two) := ⟨rfl, rfl, rfl, by decide +kernel, rfl, by decide +kernel, by decide +kernel⟩
abbrev s_sign_in : Stmt := topS 22
abbrev N_sign_in : List Str := ["place", "one", "other", "k", "u", "l", "w", "found"]
abbrev p_sign_in : List Str := ["place", "one", "other"]
theorem sc_sign_in : FnScope N_sign_in p_sign_in (defScope s_sign_in) := ⟨rfl, rfl, rfl, by decide +kernel, rfl, by decide +kernel, by decide +kernel⟩
abbrev s_is_place_in : Stmt := topS 23
abbrev N_is_place_in : List Str := ["value"]
abbrev p_is_place_in : List Str := ["value"]
theorem sc_is_place_in : FnScope N_is_place_in p_is_place_in (defScope s_is_place_in) := ⟨rfl, rfl, rfl, by decide +kernel, rfl, by decide +kernel, by decide +kernel⟩
abbrev s_require_place : Stmt := topS 24
abbrev N_require_place : List Str := ["value"]
abbrev p_require_place : List Str := ["value"]
theorem sc_require_place : FnScope N_require_place p_require_place (defScope s_require_place) := ⟨rfl, rfl, rfl, by decide +kernel, rfl, by decide +kernel, by decide +kernel⟩
abbrev s_require_signed : Stmt := topS 25
abbrev N_require_signed : List Str := ["value", "top", "bottom"]
abbrev p_require_signed : List Str := ["value"]
theorem sc_require_signed : FnScope N_require_signed p_require_signed (defScope s_require_signed) := ⟨rfl, rfl, rfl, by decide +kernel, rfl, by decide +kernel, by decide +kernel⟩
abbrev s_is_square_at : Stmt := topS 26
abbrev N_is_square_at : List Str := ["place", "one"]
abbrev p_is_square_at : List Str := ["place", "one"]
theorem sc_is_square_at : FnScope N_is_square_at p_is_square_at (defScope s_is_square_at) := ⟨rfl, rfl, rfl, by decide +kernel, rfl, by decide +kernel, by decide +kernel⟩
abbrev s_sign_at : Stmt := topS 27
abbrev N_sign_at : List Str := ["place", "one", "other"]
abbrev p_sign_at : List Str := ["place", "one", "other"]
theorem sc_sign_at : FnScope N_sign_at p_sign_at (defScope s_sign_at) := ⟨rfl, rfl, rfl, by decide +kernel, rfl, by decide +kernel, by decide +kernel⟩
abbrev s__law_dice : Stmt := topS 29
abbrev N__law_dice : List Str := ["_law_script", "_law_at", "_law_cell", "_law_great", "_law_left", "_law_mixed"]
abbrev p__law_dice : List Str := ["_law_script", "_law_at"]
theorem sc__law_dice : FnScope N__law_dice p__law_dice (defScope s__law_dice) := ⟨rfl, rfl, rfl, by decide +kernel, rfl, by decide +kernel, by decide +kernel⟩
abbrev s__law_roll : Stmt := topS 30
abbrev N__law_roll : List Str := ["_law_dice_here", "_law_total", "_law_size", "_law_drawn_here", "_law_one", "_law_two"]
abbrev p__law_roll : List Str := ["_law_dice_here", "_law_total"]
theorem sc__law_roll : FnScope N__law_roll p__law_roll (defScope s__law_roll) := ⟨rfl, rfl, rfl, by decide +kernel, rfl, by decide +kernel, by decide +kernel⟩
abbrev s__law_one_of : Stmt := topS 31
abbrev N__law_one_of : List Str := ["_law_dice_here", "_law_items"]
abbrev p__law_one_of : List Str := ["_law_dice_here", "_law_items"]
theorem sc__law_one_of : FnScope N__law_one_of p__law_one_of (defScope s__law_one_of) := ⟨rfl, rfl, rfl, by decide +kernel, rfl, by decide +kernel, by decide +kernel⟩
abbrev s__law_power : Stmt := topS 32
abbrev N__law_power : List Str := ["_law_base", "_law_count", "_law_found", "_law_turn"]
abbrev p__law_power : List Str := ["_law_base", "_law_count"]
theorem sc__law_power : FnScope N__law_power p__law_power (defScope s__law_power) := ⟨rfl, rfl, rfl, by decide +kernel, rfl, by decide +kernel, by decide +kernel⟩
abbrev s__law_gcd : Stmt := topS 33
abbrev N__law_gcd : List Str := ["_law_one", "_law_other"]
abbrev p__law_gcd : List Str := ["_law_one", "_law_other"]
theorem sc__law_gcd : FnScope N__law_gcd p__law_gcd (defScope s__law_gcd) := ⟨rfl, rfl, rfl, by decide +kernel, rfl, by decide +kernel, by decide +kernel⟩
abbrev s__law_lowest : Stmt := topS 34
abbrev N__law_lowest : List Str := ["_law_top", "_law_bottom", "_law_shared"]
abbrev p__law_lowest : List Str := ["_law_top", "_law_bottom"]
theorem sc__law_lowest : FnScope N__law_lowest p__law_lowest (defScope s__law_lowest) := ⟨rfl, rfl, rfl, by decide +kernel, rfl, by decide +kernel, by decide +kernel⟩
abbrev s__law_exponent : Stmt := topS 35
abbrev N__law_exponent : List Str := ["_law_p", "_law_number", "_law_found", "_law_left"]
abbrev p__law_exponent : List Str := ["_law_p", "_law_number"]
theorem sc__law_exponent : FnScope N__law_exponent p__law_exponent (defScope s__law_exponent) := ⟨rfl, rfl, rfl, by decide +kernel, rfl, by decide +kernel, by decide +kernel⟩
abbrev s__law_sign : Stmt := topS 36
abbrev N__law_sign : List Str := ["_law_q", "_law_one", "_law_other", "_law_a", "_law_b", "_law_u", "_law_w", "_law_odd"]
abbrev p__law_sign : List Str := ["_law_q", "_law_one", "_law_other"]
theorem sc__law_sign : FnScope N__law_sign p__law_sign (defScope s__law_sign) := ⟨rfl, rfl, rfl, by decide +kernel, rfl, by decide +kernel, by decide +kernel⟩
abbrev s__law_is_square : Stmt := topS 37
abbrev N__law_is_square : List Str := ["_law_q", "_law_number", "_law_found", "_law_here", "_law_left"]
abbrev p__law_is_square : List Str := ["_law_q", "_law_number"]
theorem sc__law_is_square : FnScope N__law_is_square p__law_is_square (defScope s__law_is_square) := ⟨rfl, rfl, rfl, by decide +kernel, rfl, by decide +kernel, by decide +kernel⟩
abbrev s__law_drawn : Stmt := topS 38
abbrev N__law_drawn : List Str := ["_law_dice_here", "_law_top"]
abbrev p__law_drawn : List Str := ["_law_dice_here"]
theorem sc__law_drawn : FnScope N__law_drawn p__law_drawn (defScope s__law_drawn) := ⟨rfl, rfl, rfl, by decide +kernel, rfl, by decide +kernel, by decide +kernel⟩
abbrev s__law_integer : Stmt := topS 39
abbrev N__law_integer : List Str := ["_law_number"]
abbrev p__law_integer : List Str := ["_law_number"]
theorem sc__law_integer : FnScope N__law_integer p__law_integer (defScope s__law_integer) := ⟨rfl, rfl, rfl, by decide +kernel, rfl, by decide +kernel, by decide +kernel⟩
abbrev s__law_small : Stmt := topS 40
abbrev N__law_small : List Str := ["_law_p", "_law_number", "_law_left", "_law_many"]
abbrev p__law_small : List Str := ["_law_p", "_law_number"]
theorem sc__law_small : FnScope N__law_small p__law_small (defScope s__law_small) := ⟨rfl, rfl, rfl, by decide +kernel, rfl, by decide +kernel, by decide +kernel⟩
abbrev s__law_has_solution : Stmt := topS 41
abbrev N__law_has_solution : List Str := ["_law_p", "_law_one", "_law_other", "_law_a", "_law_b", "_law_size", "_law_squares", "_law_z", "_law_here", "_law_x", "_law_y"]
abbrev p__law_has_solution : List Str := ["_law_p", "_law_one", "_law_other"]
theorem sc__law_has_solution : FnScope N__law_has_solution p__law_has_solution (defScope s__law_has_solution) := ⟨rfl, rfl, rfl, by decide +kernel, rfl, by decide +kernel, by decide +kernel⟩
abbrev s__law_is_prime : Stmt := topS 42
abbrev N__law_is_prime : List Str := ["_law_number", "_law_at"]
abbrev p__law_is_prime : List Str := ["_law_number"]
theorem sc__law_is_prime : FnScope N__law_is_prime p__law_is_prime (defScope s__law_is_prime) := ⟨rfl, rfl, rfl, by decide +kernel, rfl, by decide +kernel, by decide +kernel⟩
abbrev s__law_place_drawn : Stmt := topS 43
abbrev N__law_place_drawn : List Str := ["_law_dice_here", "_law_found", "_law_turn"]
abbrev p__law_place_drawn : List Str := ["_law_dice_here"]
theorem sc__law_place_drawn : FnScope N__law_place_drawn p__law_place_drawn (defScope s__law_place_drawn) := ⟨rfl, rfl, rfl, by decide +kernel, rfl, by decide +kernel, by decide +kernel⟩
abbrev s__law_times : Stmt := topS 44
abbrev N__law_times : List Str := ["_law_one", "_law_other", "_law_a", "_law_b", "_law_found"]
abbrev p__law_times : List Str := ["_law_one", "_law_other"]
theorem sc__law_times : FnScope N__law_times p__law_times (defScope s__law_times) := ⟨rfl, rfl, rfl, by decide +kernel, rfl, by decide +kernel, by decide +kernel⟩
abbrev s__law_rules_right : Stmt := topS 45
abbrev N__law_rules_right : List Str := ["_law_dice_here", "_law_place", "_law_one", "_law_other", "_law_told", "_law_third", "_law_small_here", "_law_square"]
abbrev p__law_rules_right : List Str := ["_law_dice_here", "_law_place", "_law_one", "_law_other"]
theorem sc__law_rules_right : FnScope N__law_rules_right p__law_rules_right (defScope s__law_rules_right) := ⟨rfl, rfl, rfl, by decide +kernel, rfl, by decide +kernel, by decide +kernel⟩
abbrev s__law_right : Stmt := topS 46
abbrev N__law_right : List Str := ["_law_dice_here", "_law_one", "_law_other", "_law_a", "_law_b", "_law_p", "_law_due", "_law_place", "_law_small_here", "_law_is_due"]
abbrev p__law_right : List Str := ["_law_dice_here"]
theorem sc__law_right : FnScope N__law_right p__law_right (defScope s__law_right) := ⟨rfl, rfl, rfl, by decide +kernel, rfl, by decide +kernel, by decide +kernel⟩
abbrev s_law : Stmt := topS 47
abbrev N_law : List Str := ["_law_script", "_law_at"]
abbrev p_law : List Str := ["_law_script"]
theorem sc_law : FnScope N_law p_law (defScope s_law) := ⟨rfl, rfl, rfl, by decide +kernel, rfl, by decide +kernel, by decide +kernel⟩

structure Txt (K : PySem.W.Frag) (mg : Str → Option Value) where
  d_is_whole_number : Df K mg "is_whole_number" s_is_whole_number p_is_whole_number
  d_is_integer : Df K mg "is_integer" s_is_integer p_is_integer
  d_is_ratio_any : Df K mg "is_ratio_any" s_is_ratio_any p_is_ratio_any
  d_is_number_in : Df K mg "is_number_in" s_is_number_in p_is_number_in
  d_pair_of : Df K mg "pair_of" s_pair_of p_pair_of
  d_exponent_at : Df K mg "exponent_at" s_exponent_at p_exponent_at
  d_least_divisor : Df K mg "least_divisor" s_least_divisor p_least_divisor
  d_is_prime_number : Df K mg "is_prime_number" s_is_prime_number p_is_prime_number
  d_modular_power : Df K mg "modular_power" s_modular_power p_modular_power
  d_square_sign_in : Df K mg "square_sign_in" s_square_sign_in p_square_sign_in
  d_whole_of : Df K mg "whole_of" s_whole_of p_whole_of
  d_is_square_in : Df K mg "is_square_in" s_is_square_in p_is_square_in
  d_sign_at_two : Df K mg "sign_at_two" s_sign_at_two p_sign_at_two
  d_sign_in : Df K mg "sign_in" s_sign_in p_sign_in
  d_is_place_in : Df K mg "is_place_in" s_is_place_in p_is_place_in
  d_require_place : Df K mg "require_place" s_require_place p_require_place
  d_require_signed : Df K mg "require_signed" s_require_signed p_require_signed
  d_is_square_at : Df K mg "is_square_at" s_is_square_at p_is_square_at
  d_sign_at : Df K mg "sign_at" s_sign_at p_sign_at
  d__law_dice : Df K mg "_law_dice" s__law_dice p__law_dice
  d__law_roll : Df K mg "_law_roll" s__law_roll p__law_roll
  d__law_one_of : Df K mg "_law_one_of" s__law_one_of p__law_one_of
  d__law_power : Df K mg "_law_power" s__law_power p__law_power
  d__law_gcd : Df K mg "_law_gcd" s__law_gcd p__law_gcd
  d__law_lowest : Df K mg "_law_lowest" s__law_lowest p__law_lowest
  d__law_exponent : Df K mg "_law_exponent" s__law_exponent p__law_exponent
  d__law_sign : Df K mg "_law_sign" s__law_sign p__law_sign
  d__law_is_square : Df K mg "_law_is_square" s__law_is_square p__law_is_square
  d__law_drawn : Df K mg "_law_drawn" s__law_drawn p__law_drawn
  d__law_integer : Df K mg "_law_integer" s__law_integer p__law_integer
  d__law_small : Df K mg "_law_small" s__law_small p__law_small
  d__law_has_solution : Df K mg "_law_has_solution" s__law_has_solution p__law_has_solution
  d__law_is_prime : Df K mg "_law_is_prime" s__law_is_prime p__law_is_prime
  d__law_place_drawn : Df K mg "_law_place_drawn" s__law_place_drawn p__law_place_drawn
  d__law_times : Df K mg "_law_times" s__law_times p__law_times
  d__law_rules_right : Df K mg "_law_rules_right" s__law_rules_right p__law_rules_right
  d__law_right : Df K mg "_law_right" s__law_right p__law_right
  d_law : Df K mg "law" s_law p_law
  tSixty : Tok
  m_SIXTY : mg "SIXTY" = some (.int (10 ^ 60) tSixty)
  tPair : Tok
  m_PAIR : mg "PAIR" = some (.int 2 tPair)
  tPlace : Tok
  m_MOST_PLACE : mg "MOST_PLACE" = some (.int 1000000 tPlace)
  tSigned : Tok
  m_MOST_SIGNED : mg "MOST_SIGNED" = some (.int 1000000 tSigned)
  m_gcd : mg "gcd" = some (.builtin "math.gcd")
  n_abs : mg "abs" = none
  n_max : mg "max" = none
  n_min : mg "min" = none
  n_len : mg "len" = none
  n_isinstance : mg "isinstance" = none
  n_all : mg "all" = none
  n_int : mg "int" = none
  n_bool : mg "bool" = none
  n_tuple : mg "tuple" = none
  n_range : mg "range" = none
/-! ### further rules -/
section
variable {X : Cx}
def CPowW (i j : Int) : Prop := 0 ≤ j ∧ (Builtin.Int.intBits i : Int) * j ≤ 2 ^ 27
theorem op_powW : OpR X (binaryOp .Pow) (rI CPowW fun i j => .int (i ^ j.toNat)) := opI fun _ _ _ _ _ _ _ hc q => pow_int hc.1 hc.2 q
def ipM : TIp := fun x y H Q => ∃ i j, x = .int i ∧ y = .int j ∧ CMul i j ∧ Q (.int (i * j)) H
theorem ip_mul : PIp X .Mult ipM := fun _ s _ H _ _ _ _ _ I rx ry ⟨i, j, ei, ej, ok, q⟩ => by
  subst ei ej
  obtain ⟨tx, rfl⟩ := rx
  obtain ⟨ty, rfl⟩ := ry
  exact imul_int ⟨.int (i * j), H, I.tok _, ⟨_, rfl⟩, q⟩ ok.ok
end
/-! ### heaps -/
theorem same_upd {H : Hp} {p : Addr} {o : HO} (h : H p = none) : Same H (upd H p o) := fun b x e => by
  rw [upd_ne (ne_of_none e h)]
  exact e
/-- a number: an int, or a tuple of top and bottom -/
def NumV (H : Hp) (v : V) (a b : Int) : Prop := (v = .int a ∧ b = 1) ∨ ∃ t, v = .ref t ∧ H t = some (.tup [.int a, .int b])
theorem NumV.same {H H' : Hp} {v : V} {a b : Int} (h : NumV H v a b) (s : Same H H') : NumV H' v a b := by
  rcases h with h | ⟨t, h1, h2⟩
  · exact .inl h
  · exact .inr ⟨t, h1, s _ _ h2⟩
theorem SqT.at {K : PySem.W.Frag} {H : Hp} {a : Addr} {xs : List V} (h : H a = some (.tup xs)) : SqT K H a xs := .inl (.inl h)
theorem SqL.at {K : PySem.W.Frag} {H : Hp} {a : Addr} {xs : List V} (h : H a = some (.lst xs)) : SqL K H a xs := .inl (.inl h)
end K86
namespace K86
open PySem PySem.Spec PyProof.Rows L2
section
variable {P : Program} {w : World} {K : PySem.W.Frag} {mg : Str → Option Value} {base : Heap}

/-! exponent_at and _law_exponent -/
theorem ex_step {q a : Int} {k : Nat} {u : Int} (hq : 2 ≤ q) (hu : u ≠ 0) (e : a = q ^ k * u) (h : u % q = 0) : u / q ≠ 0 ∧ a = q ^ (k + 1) * (u / q) ∧ (u / q).natAbs < u.natAbs := by
  have eu : u = q * (u / q) := by have := Int.mul_ediv_add_emod u q; omega
  have h0 : u / q ≠ 0 := fun z => hu (by rw [eu, z, Int.mul_zero])
  refine ⟨h0, ?_, ?_⟩
  · rw [Int.pow_succ, Int.mul_assoc, ← eu, e]
  · have e2 : u.natAbs = q.natAbs * (u / q).natAbs := by rw [← Int.natAbs_mul, ← eu]
    have h1 : 0 < (u / q).natAbs := by omega
    have h2 : 2 * (u / q).natAbs ≤ q.natAbs * (u / q).natAbs := Nat.mul_le_mul_right _ (by omega)
    omega
def sp_exponent_at : Sp := fun vs H Q _ => ∃ q a : Int, vs = [.int q, .int a] ∧ 2 ≤ q ∧ q ≤ 1000000 ∧ a ≠ 0 ∧ ∀ p, H p = none → Q (.ref p) (upd H p (.tup [.int (ex q a : Nat), .int (un q a)]))
theorem ok_exponent_at (T : Txt K mg) : FnOk P w K mg base CX0 1 T.d_exponent_at.f T.d_exponent_at.fd p_exponent_at (sp_exponent_at) := by
  refine T.d_exponent_at.F.ok sc_exponent_at (fun vs H Q E h => ?_) (fun cdv A outer s H vs Q E hr h => ?_)
  · obtain ⟨q, a, rfl, _⟩ := h
    rfl
  · obtain ⟨q, a, rfl, hq, hq2, ha, kk⟩ := h
    refine ⟨_, (pss_cons (ps_par (i := 2) (j := 3) rfl sc_exponent_at.nd rfl rfl (by decide) rfl rfl (pa_cons pe_int (pa_cons (pv 1) pa_nil)) (by rfl))
      (pss_cons (ps_while PassesOwn.never (pt_cmpR op_eq (pe_op op_mod (pv 3) (pv 0)) pe_int (nomark _)) (pss_one (ps_par (i := 3) (j := 2) rfl sc_exponent_at.nd rfl rfl (by decide) rfl rfl (pa_cons (pe_op op_fdiv (pv 3) (pv 0)) (pa_cons (pe_op op_add (pv 2) pe_int) pa_nil)) (by rfl))))
      (pss_one (ps_ret (pe_tup (pa_cons (pv 2) (pa_cons (pv 3) pa_nil))))))), ?_⟩
    refine ⟨_, rfl, _, _, rfl, ?_⟩
    refine ⟨fun m σ H' => H' = H ∧ ∃ (k : Nat) (u : Int), σ = [some (.int q), some (.int a), some (.int k), some (.int u)] ∧ a = q ^ k * u ∧ u ≠ 0 ∧ m = u.natAbs, ⟨_, rfl, 0, a, rfl, by simp, ha, rfl⟩, fun m σ H' hW => ?_⟩
    obtain ⟨rfl, k, u, rfl, e, hu, rfl⟩ := hW
    refine ⟨_, rfl, _, rfl, _, _, rfl, rfl, show (0 : Int) < q by omega, rfl, _, rfl, ite2 (fun hd => ?_) (fun hd => ?_)⟩
    · have hz : u % q = 0 := V.int.inj (of_decide_eq_true hd)
      obtain ⟨h1, h2, h3⟩ := ex_step hq hu e hz
      refine ⟨fun σ' H1 => ∃ m', m' < u.natAbs ∧ (H1 = H' ∧ ∃ (k : Nat) (u : Int), σ' = [some (.int q), some (.int a), some (.int k), some (.int u)] ∧ a = q ^ k * u ∧ u ≠ 0 ∧ m' = u.natAbs), fun _ _ z => z, ?_⟩
      refine ⟨_, rfl, _, rfl, _, _, rfl, rfl, ⟨show (0 : Int) < q by omega, show q < 1073741824 by omega⟩, _, rfl, _, _, rfl, rfl, _, _, rfl, ?_⟩
      exact ⟨_, h3, rfl, k + 1, u / q, rfl, h2, h1, rfl⟩
    · have hz : u % q ≠ 0 := fun z => hd (decide_eq_true (congrArg V.int z))
      obtain ⟨e1, e2⟩ := ex_uniq hq ha hz e
      subst e2
      rw [← e1] at *
      exact ⟨_, rfl, _, rfl, by show 2 ≤ sizeLine; decide, kk⟩
def sp__law_exponent : Sp := fun vs H Q _ => ∃ q a : Int, vs = [.int q, .int a] ∧ 2 ≤ q ∧ q ≤ 1000000 ∧ a ≠ 0 ∧ Q (.int (ex q a : Nat)) H
theorem ok__law_exponent (T : Txt K mg) : FnOk P w K mg base CX0 1 T.d__law_exponent.f T.d__law_exponent.fd p__law_exponent (sp__law_exponent) := by
  refine T.d__law_exponent.F.ok sc__law_exponent (fun vs H Q E h => ?_) (fun cdv A outer s H vs Q E hr h => ?_)
  · obtain ⟨q, a, rfl, _⟩ := h
    rfl
  · obtain ⟨q, a, rfl, hq, hq2, ha, kk⟩ := h
    refine ⟨_, (pss_cons (ps_par (i := 2) (j := 3) rfl sc__law_exponent.nd rfl rfl (by decide) rfl rfl (pa_cons pe_int (pa_cons (pv 1) pa_nil)) (by rfl))
      (pss_cons (ps_while PassesOwn.never (pt_cmpR op_eq (pe_op op_mod (pv 3) (pv 0)) pe_int (nomark _)) (pss_one (ps_par (i := 3) (j := 2) rfl sc__law_exponent.nd rfl rfl (by decide) rfl rfl (pa_cons (pe_op op_fdiv (pv 3) (pv 0)) (pa_cons (pe_op op_add (pv 2) pe_int) pa_nil)) (by rfl))))
      (pss_one (ps_ret (pv 2))))), ?_⟩
    refine ⟨_, rfl, _, _, rfl, ?_⟩
    refine ⟨fun m σ H' => H' = H ∧ ∃ (k : Nat) (u : Int), σ = [some (.int q), some (.int a), some (.int k), some (.int u)] ∧ a = q ^ k * u ∧ u ≠ 0 ∧ m = u.natAbs, ⟨_, rfl, 0, a, rfl, by simp, ha, rfl⟩, fun m σ H' hW => ?_⟩
    obtain ⟨rfl, k, u, rfl, e, hu, rfl⟩ := hW
    refine ⟨_, rfl, _, rfl, _, _, rfl, rfl, show (0 : Int) < q by omega, rfl, _, rfl, ite2 (fun hd => ?_) (fun hd => ?_)⟩
    · have hz : u % q = 0 := V.int.inj (of_decide_eq_true hd)
      obtain ⟨h1, h2, h3⟩ := ex_step hq hu e hz
      refine ⟨fun σ' H1 => ∃ m', m' < u.natAbs ∧ (H1 = H' ∧ ∃ (k : Nat) (u : Int), σ' = [some (.int q), some (.int a), some (.int k), some (.int u)] ∧ a = q ^ k * u ∧ u ≠ 0 ∧ m' = u.natAbs), fun _ _ z => z, ?_⟩
      refine ⟨_, rfl, _, rfl, _, _, rfl, rfl, ⟨show (0 : Int) < q by omega, show q < 1073741824 by omega⟩, _, rfl, _, _, rfl, rfl, _, _, rfl, ?_⟩
      exact ⟨_, h3, rfl, k + 1, u / q, rfl, h2, h1, rfl⟩
    · have hz : u % q ≠ 0 := fun z => hd (decide_eq_true (congrArg V.int z))
      obtain ⟨e1, e2⟩ := ex_uniq hq ha hz e
      rw [← e1] at *
      exact ⟨_, rfl, kk⟩
/-! least_divisor, is_prime_number -/
def Tri (n : Int) : Prop := 2 ≤ n ∧ n ≤ 1000000 ∧ ∀ d : Int, 2 ≤ d → d * d ≤ n → n % d ≠ 0
def sp_least_divisor : Sp := fun vs H Q _ => ∃ n : Int, vs = [.int n] ∧ Tri n ∧ Q (.int n) H
theorem ok_least_divisor (T : Txt K mg) : FnOk P w K mg base CX0 1 T.d_least_divisor.f T.d_least_divisor.fd p_least_divisor (sp_least_divisor) := by
  refine T.d_least_divisor.F.ok sc_least_divisor (fun vs H Q E h => ?_) (fun cdv A outer s H vs Q E hr h => ?_)
  · obtain ⟨n, rfl, _⟩ := h
    rfl
  · obtain ⟨n, rfl, ⟨h2, h6, ht⟩, kk⟩ := h
    refine ⟨_, (pss_cons (ps_set (i := 1) sc_least_divisor.nd rfl (.inl rfl) pe_int)
      (pss_cons (ps_while PassesOwn.never (pt_cmpR op_le (pe_op op_mul (pv 1) (pv 1)) (pv 0) (nomark _)) (pss_cons (ps_if (pt_cmpR op_eq (pe_op op_mod (pv 0) (pv 1)) pe_int (nomark _)) (pss_one (ps_ret (pv 1))) pss_nil)
      (pss_one (ps_aug (i := 1) sc_least_divisor.nd rfl (.inl rfl) pe_int ip_add))))
      (pss_one (ps_ret (pv 0))))), ?_⟩
    refine ⟨fun m σ H' => H' = H ∧ ∃ f : Int, σ = [some (.int n), some (.int f)] ∧ 2 ≤ f ∧ f ≤ 1000001 ∧ m = (1000001 - f).toNat, ⟨_, rfl, 2, rfl, by decide, by decide, rfl⟩, fun m σ H' hW => ?_⟩
    obtain ⟨rfl, f, rfl, hf, hf2, rfl⟩ := hW
    refine ⟨_, rfl, _, rfl, _, _, rfl, rfl, .inl ⟨by omega, by omega⟩, _, rfl, _, _, rfl, rfl, _, rfl, ite2 (fun hd => ?_) (fun hd => ?_)⟩
    · have hz : f * f ≤ n := of_decide_eq_true hd
      have hlt : f ≤ 1000000 := by
        have : f * 1 ≤ f * f := Int.mul_le_mul_of_nonneg_left (by omega) (by omega)
        omega
      refine ⟨fun σ' H1 => ∃ m', m' < (1000001 - f).toNat ∧ (H1 = H' ∧ ∃ f : Int, σ' = [some (.int n), some (.int f)] ∧ 2 ≤ f ∧ f ≤ 1000001 ∧ m' = (1000001 - f).toNat), fun _ _ z => z, ?_⟩
      refine ⟨_, rfl, _, rfl, _, _, rfl, rfl, show (0 : Int) < f by omega, rfl, _, rfl, ite2 (fun hd => ?_) (fun hd => ?_)⟩
      · exact absurd (V.int.inj (of_decide_eq_true hd)) (ht f hf hz)
      · exact ⟨_, rfl, _, _, rfl, rfl, (1000001 - (f + 1)).toNat, by omega, rfl, f + 1, rfl, by omega, by omega, rfl⟩
    · exact ⟨_, rfl, kk⟩
def sp_is_prime_number : Sp := fun vs H Q _ => ∃ n : Int, vs = [.int n] ∧ Tri n ∧ Q (.bl true) H
theorem ok_is_prime_number (T : Txt K mg) : FnOk P w K mg base CX0 2 T.d_is_prime_number.f T.d_is_prime_number.fd p_is_prime_number (sp_is_prime_number) := by
  refine T.d_is_prime_number.F.ok sc_is_prime_number (fun vs H Q E h => ?_) (fun cdv A outer s H vs Q E hr h => ?_)
  · obtain ⟨n, rfl, _⟩ := h
    rfl
  · obtain ⟨n, rfl, ht, kk⟩ := h
    refine ⟨_, (pss_one (ps_ret (pe_and (pe_cmpR op_gt (pv 0) pe_int (nomark _)) (pe_one (pe_cmpR op_eq (pe_call (ok_least_divisor T) (hr.mono (by decide)) (by rfl) T.d_least_divisor.g T.d_least_divisor.F.kp T.d_least_divisor.b .nil pass0 (pa_cons (pv 0) pa_nil)) (pv 0) (nomark _)))))), ?_⟩
    refine ⟨_, rfl, _, _, rfl, rfl, _, rfl, ?_⟩
    rw [if_pos (decide_eq_true (show (1 : Int) < n by have := ht.1; omega))]
    refine ⟨_, rfl, n, rfl, ht, _, rfl, rfl, ?_⟩
    rw [decide_eq_true rfl]
    exact kk
end
end K86
namespace K86
open PySem PySem.Spec PyProof.Rows L2
section
variable {P : Program} {w : World} {K : PySem.W.Frag} {mg : Str → Option Value} {base : Heap}

/-! modular powers -/
theorem mp_even (m f h : Int) (n : Nat) (e : n % 2 = 0) : (f * (h * h % m) ^ (n / 2)) % m = (f * h ^ n) % m := by
  have e1 : h ^ n = (h * h) ^ (n / 2) := by
    have : n = 2 * (n / 2) := by omega
    conv => lhs; rw [this]
    rw [Int.pow_mul, Int.pow_succ, Int.pow_succ, Int.pow_zero, Int.one_mul]
  rw [Int.mul_emod, ipow_mod, ← Int.mul_emod, e1]
theorem mp_odd (m f h : Int) (n : Nat) (e : n % 2 = 1) : (f * h % m * (h * h % m) ^ (n / 2)) % m = (f * h ^ n) % m := by
  have e1 : f * h ^ n = f * h * h ^ (n - 1) := by
    have : n = n - 1 + 1 := by omega
    conv => lhs; rw [this]
    rw [Int.pow_succ, Int.mul_comm (h ^ (n - 1)), Int.mul_assoc]
  have e2 : n / 2 = (n - 1) / 2 := by omega
  rw [e2, Int.mul_emod, Int.emod_emod_of_dvd _ (Int.dvd_refl m), ← Int.mul_emod, mp_even m (f * h) h (n - 1) (by omega), e1]
theorem mul_bnd {x y m : Int} (hx : 0 ≤ x) (hx2 : x < m) (hm : m ≤ 1000000) : CMul x y := .inl ⟨by omega, by omega⟩
def sp_modular_power : Sp := fun vs H Q _ => ∃ b e m : Int, vs = [.int b, .int e, .int m] ∧ 0 ≤ e ∧ 1 < m ∧ m ≤ 1000000 ∧ Q (.int (b ^ e.toNat % m)) H
theorem ok_modular_power (T : Txt K mg) : FnOk P w K mg base CX0 1 T.d_modular_power.f T.d_modular_power.fd p_modular_power (sp_modular_power) := by
  refine T.d_modular_power.F.ok sc_modular_power (fun vs H Q E h => ?_) (fun cdv A outer s H vs Q E hr h => ?_)
  · obtain ⟨b, e, m, rfl, _⟩ := h
    rfl
  · obtain ⟨b, e, m, rfl, he, hm, hm2, kk⟩ := h
    refine ⟨_, (pss_cons (ps_par3 (i := 3) (j := 4) (l := 5) rfl sc_modular_power.nd rfl rfl rfl (by decide) (by decide) (by decide) rfl rfl rfl (pa_cons (pe_op op_mod pe_int (pv 2)) (pa_cons (pe_op op_mod (pv 0) (pv 2)) (pa_cons (pv 1) pa_nil))) (by rfl))
      (pss_cons (ps_while PassesOwn.never (pt_cmpR op_gt (pv 5) pe_int (nomark _)) (pss_cons (ps_if (pt_cmpR op_eq (pe_op op_mod (pv 5) pe_int) pe_int (nomark _)) (pss_one (ps_set (i := 3) sc_modular_power.nd rfl (.inl rfl) (pe_op op_mod (pe_op op_mul (pv 3) (pv 4)) (pv 2)))) pss_nil)
      (pss_one (ps_par (i := 4) (j := 5) rfl sc_modular_power.nd rfl rfl (by decide) rfl rfl (pa_cons (pe_op op_mod (pe_op op_mul (pv 4) (pv 4)) (pv 2)) (pa_cons (pe_op op_fdiv (pv 5) pe_int) pa_nil)) (by rfl)))))
      (pss_one (ps_ret (pv 3))))), ?_⟩
    refine ⟨_, rfl, _, _, rfl, rfl, show (0 : Int) < m by omega, _, rfl, _, rfl, _, _, rfl, rfl, show (0 : Int) < m by omega, _, rfl, _, _, _, rfl, ?_⟩
    have m0 : m ≠ 0 := by omega
    refine ⟨fun k σ H' => H' = H ∧ ∃ (f h n : Int), σ = [some (.int b), some (.int e), some (.int m), some (.int f), some (.int h), some (.int n)] ∧ 0 ≤ f ∧ f < m ∧ 0 ≤ h ∧ h < m ∧ 0 ≤ n ∧ (f * h ^ n.toNat) % m = b ^ e.toNat % m ∧ k = n.toNat, ⟨_, rfl, _, _, _, rfl, Int.emod_nonneg _ m0, Int.emod_lt_of_pos _ (by omega), Int.emod_nonneg _ m0, Int.emod_lt_of_pos _ (by omega), he, ?_, rfl⟩, fun k σ H' hW => ?_⟩
    · rw [Int.mul_emod, ipow_mod, Int.emod_emod_of_dvd _ (Int.dvd_refl m), ← Int.mul_emod, Int.one_mul]
    obtain ⟨rfl, f, h, n, rfl, hf, hf2, hh, hh2, hn, hI, rfl⟩ := hW
    refine ⟨_, rfl, _, _, rfl, rfl, _, rfl, ite2 (fun hd => ?_) (fun hd => ?_)⟩
    · have n0 : 0 < n := of_decide_eq_true hd
      have en : (n / 2).toNat = n.toNat / 2 := by omega
      refine ⟨fun σ' H1 => ∃ m', m' < n.toNat ∧ (H1 = H' ∧ ∃ (f h n : Int), σ' = [some (.int b), some (.int e), some (.int m), some (.int f), some (.int h), some (.int n)] ∧ 0 ≤ f ∧ f < m ∧ 0 ≤ h ∧ h < m ∧ 0 ≤ n ∧ (f * h ^ n.toNat) % m = b ^ e.toNat % m ∧ m' = n.toNat), fun _ _ z => z, ?_⟩
      refine ⟨_, rfl, _, _, rfl, rfl, show (0 : Int) < 2 by decide, rfl, _, rfl, ite2 (fun hd => ?_) (fun hd => ?_)⟩
      · have hz : n % 2 = 1 := V.int.inj (of_decide_eq_true hd)
        refine ⟨_, rfl, _, rfl, _, _, rfl, rfl, mul_bnd hf hf2 hm2, _, rfl, _, _, rfl, rfl, show (0 : Int) < m by omega, ?_⟩
        refine ⟨_, rfl, _, rfl, _, _, rfl, rfl, mul_bnd hh hh2 hm2, _, rfl, _, _, rfl, rfl, show (0 : Int) < m by omega, _, rfl, _, _, rfl, rfl, ⟨by decide, by decide⟩, _, _, rfl, ?_⟩
        exact ⟨(n / 2).toNat, by omega, rfl, _, _, _, rfl, Int.emod_nonneg _ m0, Int.emod_lt_of_pos _ (by omega), Int.emod_nonneg _ m0, Int.emod_lt_of_pos _ (by omega), by omega, by rw [en, mp_odd m f h n.toNat (by omega)]; exact hI, rfl⟩
      · have hz : n % 2 = 0 := by
          have : ¬ n % 2 = 1 := fun z => hd (decide_eq_true (congrArg V.int z))
          omega
        refine ⟨_, rfl, _, rfl, _, _, rfl, rfl, mul_bnd hh hh2 hm2, _, rfl, _, _, rfl, rfl, show (0 : Int) < m by omega, _, rfl, _, _, rfl, rfl, ⟨by decide, by decide⟩, _, _, rfl, ?_⟩
        exact ⟨(n / 2).toNat, by omega, rfl, _, _, _, rfl, hf, hf2, Int.emod_nonneg _ m0, Int.emod_lt_of_pos _ (by omega), by omega, by rw [en, mp_even m f h n.toNat (by omega)]; exact hI, rfl⟩
    · have n0 : n = 0 := by
        have : ¬ 0 < n := fun z => hd (decide_eq_true z)
        omega
      subst n0
      have ef : f = b ^ e.toNat % m := by
        rw [← hI, Int.toNat_zero, Int.pow_zero, Int.mul_one, Int.emod_eq_of_lt hf hf2]
      rw [← ef] at kk
      exact ⟨_, rfl, kk⟩
def sp__law_is_square : Sp := fun vs H Q _ => ∃ m b : Int, vs = [.int m, .int b] ∧ 1 < m ∧ m ≤ 1000000 ∧ Q (.bl (K86.E m b)) H
theorem ok__law_is_square (T : Txt K mg) : FnOk P w K mg base CX0 1 T.d__law_is_square.f T.d__law_is_square.fd p__law_is_square (sp__law_is_square) := by
  refine T.d__law_is_square.F.ok sc__law_is_square (fun vs H Q E h => ?_) (fun cdv A outer s H vs Q E hr h => ?_)
  · obtain ⟨m, b, rfl, _⟩ := h
    rfl
  · obtain ⟨m, b, rfl, hm, hm2, kk⟩ := h
    refine ⟨_, (pss_cons (ps_par3 (i := 2) (j := 3) (l := 4) rfl sc__law_is_square.nd rfl rfl rfl (by decide) (by decide) (by decide) rfl rfl rfl (pa_cons pe_int (pa_cons (pe_op op_mod (pv 1) (pv 0)) (pa_cons (pe_op op_fdiv (pe_op op_sub (pv 0) pe_int) pe_int) pa_nil))) (by rfl))
      (pss_cons (ps_while PassesOwn.never (pt_cmpR op_gt (pv 4) pe_int (nomark _)) (pss_cons (ps_if (pt_cmpR op_eq (pe_op op_mod (pv 4) pe_int) pe_int (nomark _)) (pss_one (ps_set (i := 2) sc__law_is_square.nd rfl (.inl rfl) (pe_op op_mod (pe_op op_mul (pv 2) (pv 3)) (pv 0)))) pss_nil)
      (pss_one (ps_par (i := 3) (j := 4) rfl sc__law_is_square.nd rfl rfl (by decide) rfl rfl (pa_cons (pe_op op_mod (pe_op op_mul (pv 3) (pv 3)) (pv 0)) (pa_cons (pe_op op_fdiv (pv 4) pe_int) pa_nil)) (by rfl)))))
      (pss_one (ps_ret (pe_cmpR op_eq (pv 2) pe_int (nomark _)))))), ?_⟩
    refine ⟨_, rfl, _, rfl, _, _, rfl, rfl, show (0 : Int) < m by omega, _, rfl, _, _, rfl, rfl, _, _, rfl, rfl, ⟨by decide, by decide⟩, _, _, _, rfl, ?_⟩
    have m0 : m ≠ 0 := by omega
    refine ⟨fun k σ H' => H' = H ∧ ∃ (f h n : Int), σ = [some (.int m), some (.int b), some (.int f), some (.int h), some (.int n)] ∧ 0 ≤ f ∧ f < m ∧ 0 ≤ h ∧ h < m ∧ 0 ≤ n ∧ (f * h ^ n.toNat) % m = b ^ ((m - 1) / 2).toNat % m ∧ k = n.toNat, ⟨_, rfl, _, _, _, rfl, by decide, hm, Int.emod_nonneg _ m0, Int.emod_lt_of_pos _ (by omega), by omega, ?_, rfl⟩, fun k σ H' hW => ?_⟩
    · rw [Int.one_mul, ipow_mod]
    obtain ⟨rfl, f, h, n, rfl, hf, hf2, hh, hh2, hn, hI, rfl⟩ := hW
    refine ⟨_, rfl, _, _, rfl, rfl, _, rfl, ite2 (fun hd => ?_) (fun hd => ?_)⟩
    · have n0 : 0 < n := of_decide_eq_true hd
      have en : (n / 2).toNat = n.toNat / 2 := by omega
      refine ⟨fun σ' H1 => ∃ m', m' < n.toNat ∧ (H1 = H' ∧ ∃ (f h n : Int), σ' = [some (.int m), some (.int b), some (.int f), some (.int h), some (.int n)] ∧ 0 ≤ f ∧ f < m ∧ 0 ≤ h ∧ h < m ∧ 0 ≤ n ∧ (f * h ^ n.toNat) % m = b ^ ((m - 1) / 2).toNat % m ∧ m' = n.toNat), fun _ _ z => z, ?_⟩
      refine ⟨_, rfl, _, _, rfl, rfl, show (0 : Int) < 2 by decide, rfl, _, rfl, ite2 (fun hd => ?_) (fun hd => ?_)⟩
      · have hz : n % 2 = 1 := V.int.inj (of_decide_eq_true hd)
        refine ⟨_, rfl, _, rfl, _, _, rfl, rfl, mul_bnd hf hf2 hm2, _, rfl, _, _, rfl, rfl, show (0 : Int) < m by omega, ?_⟩
        refine ⟨_, rfl, _, rfl, _, _, rfl, rfl, mul_bnd hh hh2 hm2, _, rfl, _, _, rfl, rfl, show (0 : Int) < m by omega, _, rfl, _, _, rfl, rfl, ⟨by decide, by decide⟩, _, _, rfl, ?_⟩
        exact ⟨(n / 2).toNat, by omega, rfl, _, _, _, rfl, Int.emod_nonneg _ m0, Int.emod_lt_of_pos _ (by omega), Int.emod_nonneg _ m0, Int.emod_lt_of_pos _ (by omega), by omega, by rw [en, mp_odd m f h n.toNat (by omega)]; exact hI, rfl⟩
      · have hz : n % 2 = 0 := by
          have : ¬ n % 2 = 1 := fun z => hd (decide_eq_true (congrArg V.int z))
          omega
        refine ⟨_, rfl, _, rfl, _, _, rfl, rfl, mul_bnd hh hh2 hm2, _, rfl, _, _, rfl, rfl, show (0 : Int) < m by omega, _, rfl, _, _, rfl, rfl, ⟨by decide, by decide⟩, _, _, rfl, ?_⟩
        exact ⟨(n / 2).toNat, by omega, rfl, _, _, _, rfl, hf, hf2, Int.emod_nonneg _ m0, Int.emod_lt_of_pos _ (by omega), by omega, by rw [en, mp_even m f h n.toNat (by omega)]; exact hI, rfl⟩
    · have n0 : n = 0 := by
        have : ¬ 0 < n := fun z => hd (decide_eq_true z)
        omega
      subst n0
      have ef : f = b ^ ((m - 1) / 2).toNat % m := by
        rw [← hI, Int.toNat_zero, Int.pow_zero, Int.mul_one, Int.emod_eq_of_lt hf hf2]
      unfold K86.E at kk
      rw [← ef] at kk
      refine ⟨_, rfl, rfl, ?_⟩
      rw [show decide (V.int f = V.int 1) = decide (f = 1) from by simp]
      exact kk
def leg (q u : Int) : Int := if E q u then 1 else -1
def sp_square_sign_in : Sp := fun vs H Q _ => ∃ m b : Int, vs = [.int m, .int b] ∧ 1 < m ∧ m ≤ 1000000 ∧ b % m ≠ 0 ∧ Q (.int (leg m b)) H
theorem ok_square_sign_in (T : Txt K mg) : FnOk P w K mg base CX0 2 T.d_square_sign_in.f T.d_square_sign_in.fd p_square_sign_in (sp_square_sign_in) := by
  refine T.d_square_sign_in.F.ok sc_square_sign_in (fun vs H Q E h => ?_) (fun cdv A outer s H vs Q E hr h => ?_)
  · obtain ⟨m, b, rfl, _⟩ := h
    rfl
  · obtain ⟨m, b, rfl, hm, hm2, hb, kk⟩ := h
    refine ⟨_, (pss_cons (ps_if (pt_cmpR op_eq (pe_op op_mod (pv 1) (pv 0)) pe_int (nomark _)) (pss_one (ps_ret pe_int)) pss_nil)
      (pss_one (ps_ret (pe_ifExp (pt_cmpR op_eq (pe_call (ok_modular_power T) (hr.mono (by decide)) (by rfl) T.d_modular_power.g T.d_modular_power.F.kp T.d_modular_power.b .nil pass0 (pa_cons (pv 1) (pa_cons (pe_op op_fdiv (pe_op op_sub (pv 0) pe_int) pe_int) (pa_cons (pv 0) pa_nil)))) pe_int (nomark _)) pe_int (pe_un un_neg pe_int))))), ?_⟩
    refine ⟨_, rfl, _, rfl, _, _, rfl, rfl, show (0 : Int) < m by omega, rfl, _, rfl, ite2 (fun hd => ?_) (fun hd => ?_)⟩
    · exact absurd (V.int.inj (of_decide_eq_true hd)) hb
    refine ⟨_, rfl, _, rfl, _, _, rfl, rfl, _, _, rfl, rfl, ⟨by decide, by decide⟩, _, rfl, b, (m - 1) / 2, m, rfl, by omega, hm, hm2, rfl, _, rfl, ite2 (fun hd => ?_) (fun hd => ?_)⟩
    · have hz : b ^ ((m - 1) / 2).toNat % m = 1 := V.int.inj (of_decide_eq_true hd)
      unfold leg K86.E at kk
      rw [decide_eq_true hz] at kk
      exact kk
    · have hz : ¬ b ^ ((m - 1) / 2).toNat % m = 1 := fun z => hd (decide_eq_true (congrArg V.int z))
      unfold leg K86.E at kk
      rw [decide_eq_false hz] at kk
      exact ⟨_, rfl, kk⟩
end
end K86
namespace K86
open PySem PySem.Spec PyProof.Rows L2
section
variable {P : Program} {w : World} {K : PySem.W.Frag} {mg : Str → Option Value} {base : Heap}

def sp__law_power : Sp := fun vs H Q _ => ∃ b n : Int, vs = [.int b, .int n] ∧ (-(2 ^ 64) < b ∧ b < 2 ^ 64) ∧ 0 ≤ n ∧ n < 2 ^ 62 ∧ Q (.int (b ^ n.toNat)) H
theorem ok__law_power (T : Txt K mg) : FnOk P w K mg base CX0 1 T.d__law_power.f T.d__law_power.fd p__law_power (sp__law_power) := by
  refine T.d__law_power.F.ok sc__law_power (fun vs H Q E h => ?_) (fun cdv A outer s H vs Q E hr h => ?_)
  · obtain ⟨b, n, rfl, _⟩ := h
    rfl
  · obtain ⟨b, n, rfl, hb, hn, hn2, kk⟩ := h
    refine ⟨_, (pss_cons (ps_set (i := 2) sc__law_power.nd rfl (.inl rfl) pe_int)
      (pss_cons (ps_for PassesOwn.never rfl (pi_range1 (by rfl) T.n_range (pa_cons (pv 1) pa_nil)) (pg_name (i := 3) sc__law_power.nd rfl (.inl rfl)) (pss_one (ps_set (i := 2) sc__law_power.nd rfl (.inl rfl) (pe_op op_mul (pv 2) (pv 0)))))
      (pss_one (ps_ret (pv 2))))), ?_⟩
    refine ⟨_, rfl, _, rfl, by omega, hn2, for_range (lo := 0) (n := n.toNat) (fun i σ H' => H' = H ∧ ∃ t, σ = [some (.int b), some (.int n), some (.int (b ^ i)), t]) ⟨rfl, none, by rw [Int.pow_zero]; rfl⟩ (fun i σ H' hi hP => ?_) (fun σ H' hP => ?_)⟩
    · obtain ⟨rfl, t, rfl⟩ := hP
      exact ⟨_, rfl, _, rfl, _, _, rfl, rfl, .inr hb, rfl, _, by rw [Int.pow_succ]; rfl⟩
    · obtain ⟨rfl, t, rfl⟩ := hP
      exact ⟨_, rfl, kk⟩
def sp__law_gcd : Sp := fun vs H Q _ => ∃ a b : Int, vs = [.int a, .int b] ∧ Q (.int (Nat.gcd a.natAbs b.natAbs : Nat)) H
theorem abs_if (a : Int) : (if a < 0 then -a else a) = (a.natAbs : Int) := by
  by_cases h : a < 0
  · rw [if_pos h]; omega
  · rw [if_neg h]; omega
theorem ok__law_gcd (T : Txt K mg) : FnOk P w K mg base CX0 1 T.d__law_gcd.f T.d__law_gcd.fd p__law_gcd (sp__law_gcd) := by
  refine T.d__law_gcd.F.ok sc__law_gcd (fun vs H Q E h => ?_) (fun cdv A outer s H vs Q E hr h => ?_)
  · obtain ⟨a, b, rfl, _⟩ := h
    rfl
  · obtain ⟨a, b, rfl, kk⟩ := h
    refine ⟨_, (pss_cons (ps_par (i := 0) (j := 1) rfl sc__law_gcd.nd rfl rfl (by decide) rfl rfl (pa_cons (pe_callB call_abs (by rfl) T.n_abs (by decide +kernel) (pa_cons (pv 0) pa_nil)) (pa_cons (pe_callB call_abs (by rfl) T.n_abs (by decide +kernel) (pa_cons (pv 1) pa_nil)) pa_nil)) (by rfl))
      (pss_cons (ps_while PassesOwn.never (pt_cmpR op_gt (pv 1) pe_int (nomark _)) (pss_one (ps_par (i := 0) (j := 1) rfl sc__law_gcd.nd rfl rfl (by decide) rfl rfl (pa_cons (pv 1) (pa_cons (pe_op op_mod (pv 0) (pv 1)) pa_nil)) (by rfl))))
      (pss_one (ps_ret (pv 0))))), ?_⟩
    refine ⟨_, rfl, _, rfl, _, rfl, _, rfl, _, _, rfl, ?_⟩
    rw [abs_if, abs_if]
    refine ⟨fun m σ H' => H' = H ∧ ∃ x y : Nat, σ = [some (.int x), some (.int y)] ∧ Nat.gcd x y = Nat.gcd a.natAbs b.natAbs ∧ m = y, ⟨_, rfl, _, _, rfl, rfl, rfl⟩, fun m σ H' hW => ?_⟩
    obtain ⟨rfl, x, y, rfl, hg, rfl⟩ := hW
    refine ⟨_, rfl, _, _, rfl, rfl, _, rfl, ite2 (fun hd => ?_) (fun hd => ?_)⟩
    · have y0 : (0 : Int) < m := of_decide_eq_true hd
      refine ⟨fun σ' H1 => ∃ m', m' < m ∧ (H1 = H' ∧ ∃ x y : Nat, σ' = [some (.int x), some (.int y)] ∧ Nat.gcd x y = Nat.gcd a.natAbs b.natAbs ∧ m' = y), fun _ _ z => z, ?_⟩
      refine ⟨_, rfl, _, rfl, _, rfl, _, _, rfl, rfl, y0, _, _, rfl, ?_⟩
      refine ⟨x % m, Nat.mod_lt _ (by omega), rfl, m, x % m, by rw [Int.natCast_emod]; rfl, ?_, rfl⟩
      rw [← hg, Nat.gcd_comm m, ← Nat.gcd_rec, Nat.gcd_comm]
    · have y0 : m = 0 := by
        have : ¬ (0 : Int) < m := fun z => hd (decide_eq_true z)
        omega
      subst y0
      rw [Nat.gcd_zero_right] at hg
      rw [← hg] at kk
      exact ⟨_, rfl, kk⟩
def sm (p a : Int) : Int := a / p ^ (ex p a - ex p a % 2)
theorem sm_eq {p a : Int} (hp : 2 ≤ p) (ha : a ≠ 0) : sm p a = un p a * p ^ (ex p a % 2) ∧ 0 < p ^ (ex p a - ex p a % 2) ∧ p ^ (ex p a - ex p a % 2) ≤ (a.natAbs : Int) := by
  obtain ⟨h1, h2⟩ := ex_spec hp ha
  have hk : ex p a = (ex p a - ex p a % 2) + ex p a % 2 := by omega
  have hP := pow_pos' hp (ex p a - ex p a % 2)
  have e : a = p ^ (ex p a - ex p a % 2) * (un p a * p ^ (ex p a % 2)) := by
    rw [Int.mul_comm (un p a), ← Int.mul_assoc, ← Int.pow_add, ← hk]; exact h1
  refine ⟨?_, hP, ?_⟩
  · unfold sm
    exact Int.ediv_eq_of_eq_mul_right (Int.ne_of_gt hP) e
  · generalize p ^ (ex p a - ex p a % 2) = M at hP e
    generalize un p a * p ^ (ex p a % 2) = R at e
    have hR : R ≠ 0 := fun z => ha (by rw [e, z, Int.mul_zero])
    have : a.natAbs = M.natAbs * R.natAbs := by rw [← Int.natAbs_mul, ← e]
    have h3 : M.natAbs * 1 ≤ M.natAbs * R.natAbs := Nat.mul_le_mul_left _ (by omega)
    omega
theorem exF_le (q : Int) : ∀ (n : Nat) (a : Int), exF n q a ≤ n
  | 0, _ => Nat.le_refl _
  | n + 1, a => by
    unfold exF
    split
    · exact Nat.succ_le_succ (exF_le q n _)
    · exact Nat.zero_le _
theorem ex_le (q a : Int) : ex q a ≤ a.natAbs := exF_le q _ _
def sp__law_small : Sp := fun vs H Q _ => ∃ p a : Int, vs = [.int p, .int a] ∧ 2 ≤ p ∧ p ≤ 1000000 ∧ a ≠ 0 ∧ a.natAbs < 1073741824 ∧ Q (.int (sm p a)) H
theorem ok__law_small (T : Txt K mg) : FnOk P w K mg base CX0 2 T.d__law_small.f T.d__law_small.fd p__law_small (sp__law_small) := by
  refine T.d__law_small.F.ok sc__law_small (fun vs H Q E h => ?_) (fun cdv A outer s H vs Q E hr h => ?_)
  · obtain ⟨b, n, rfl, _⟩ := h
    rfl
  · obtain ⟨p, a, rfl, hp, hp2, ha, hab, kk⟩ := h
    refine ⟨_, (pss_cons (ps_par (i := 2) (j := 3) rfl sc__law_small.nd rfl rfl (by decide) rfl rfl (pa_cons (pv 1) (pa_cons (pe_call (ok__law_exponent T) (hr.mono (by decide)) (by rfl) T.d__law_exponent.g T.d__law_exponent.F.kp T.d__law_exponent.b .nil pass0 (pa_cons (pv 0) (pa_cons (pv 1) pa_nil))) pa_nil)) (by rfl))
      (pss_one (ps_ret (pe_op op_fdiv (pv 2) (pe_call (ok__law_power T) (hr.mono (by decide)) (by rfl) T.d__law_power.g T.d__law_power.F.kp T.d__law_power.b .nil pass0 (pa_cons (pv 0) (pa_cons (pe_op op_sub (pv 3) (pe_op op_mod (pv 3) pe_int)) pa_nil))))))), ?_⟩
    obtain ⟨h1, h2, h3⟩ := sm_eq hp ha
    have h4 := ex_le p a
    have e : ((ex p a : Nat) - (ex p a : Nat) % 2 : Int).toNat = ex p a - ex p a % 2 := by omega
    refine ⟨_, rfl, _, rfl, _, rfl, p, a, rfl, hp, hp2, ha, _, _, rfl, ?_⟩
    refine ⟨_, rfl, _, rfl, _, rfl, _, rfl, _, _, rfl, rfl, show (0 : Int) < 2 by decide, _, _, rfl, rfl, p, _, rfl, ⟨by omega, by omega⟩, by omega, by omega, _, _, rfl, rfl, ?_⟩
    rw [e]
    exact ⟨⟨h2, by omega⟩, kk⟩
def sp_is_whole_number : Sp := fun vs H Q _ => (∃ i : Int, vs = [.int i] ∧ Q (.bl true) H) ∨ ∃ t xs, vs = [.ref t] ∧ H t = some (.tup xs) ∧ Q (.bl false) H
theorem ok_is_whole_number (T : Txt K mg) : FnOk P w K mg base CX0 1 T.d_is_whole_number.f T.d_is_whole_number.fd p_is_whole_number (sp_is_whole_number) := by
  refine T.d_is_whole_number.F.ok sc_is_whole_number (fun vs H Q E h => ?_) (fun cdv A outer s H vs Q E hr h => ?_)
  · rcases h with ⟨i, rfl, _⟩ | ⟨t, xs, rfl, _⟩ <;> rfl
  · refine ⟨_, (pss_one (ps_ret (pe_and (pe_callB call_isi (by rfl) T.n_isinstance (by decide +kernel) (pa_cons (pv 0) (pa_cons (pe_bltn (v := .ty "int") (by rfl) T.n_int (by decide +kernel) rfl) pa_nil))) (pe_one (pe_not (pe_callB call_isi (by rfl) T.n_isinstance (by decide +kernel) (pa_cons (pv 0) (pa_cons (pe_bltn (v := .ty "bool") (by rfl) T.n_bool (by decide +kernel) rfl) pa_nil)))))))), ?_⟩
    rcases h with ⟨i, rfl, kk⟩ | ⟨t, xs, rfl, ht, kk⟩
    · refine ⟨_, rfl, _, _, _, _, true, rfl, .ty _, .base (.int i), kit_ty (by decide +kernel), _, rfl, ?_⟩
      refine iteT ⟨_, rfl, _, _, _, _, false, rfl, .ty _, .base (.int i), kit_ty (by decide +kernel), _, rfl, kk⟩
    · refine ⟨_, rfl, _, _, _, _, false, rfl, .ty _, .base (.tup ht), kit_ty (by decide +kernel), _, rfl, ?_⟩
      exact iteF kk
def sp_is_integer : Sp := fun vs H Q _ => (∃ i : Int, vs = [.int i] ∧ -(10 ^ 60) < i ∧ i < 10 ^ 60 ∧ Q (.bl true) H) ∨ ∃ t xs, vs = [.ref t] ∧ H t = some (.tup xs) ∧ Q (.bl false) H
theorem ok_is_integer (T : Txt K mg) : FnOk P w K mg base CX0 2 T.d_is_integer.f T.d_is_integer.fd p_is_integer (sp_is_integer) := by
  refine T.d_is_integer.F.ok sc_is_integer (fun vs H Q E h => ?_) (fun cdv A outer s H vs Q E hr h => ?_)
  · rcases h with ⟨i, rfl, _⟩ | ⟨t, xs, rfl, _⟩ <;> rfl
  · refine ⟨_, (pss_one (ps_ret (pe_and (pe_call (ok_is_whole_number T) (hr.mono (by decide)) (by rfl) T.d_is_whole_number.g T.d_is_whole_number.F.kp T.d_is_whole_number.b .nil pass0 (pa_cons (pv 0) pa_nil)) (pe_one (pe_chain op_lt op_lt (pe_un un_neg (pe_glob (v := .int (10 ^ 60)) rfl T.m_SIXTY ⟨_, rfl⟩)) (pv 0) (pe_glob (v := .int (10 ^ 60)) rfl T.m_SIXTY ⟨_, rfl⟩)))))), ?_⟩
    rcases h with ⟨i, rfl, h1, h2, kk⟩ | ⟨t, xs, rfl, ht, kk⟩
    · refine ⟨_, rfl, .inl ⟨i, rfl, _, rfl, iteT ?_⟩⟩
      refine ⟨_, rfl, _, rfl, _, _, rfl, rfl, _, rfl, ?_⟩
      rw [if_pos (decide_eq_true h1)]
      refine ⟨_, _, rfl, rfl, ?_⟩
      show Q (V.bl (decide (i < 10 ^ 60))) H
      rw [decide_eq_true h2]
      exact kk
    · exact ⟨_, rfl, .inr ⟨t, xs, rfl, ht, _, rfl, iteF kk⟩⟩
def sp_pair_of : Sp := fun vs H Q _ => ∃ v a b, vs = [v] ∧ NumV H v a b ∧ ∀ p H', Same H H' → H' p = some (.tup [.int a, .int b]) → Q (.ref p) H'
theorem ok_pair_of (T : Txt K mg) : FnOk P w K mg base CX0 1 T.d_pair_of.f T.d_pair_of.fd p_pair_of (sp_pair_of) := by
  refine T.d_pair_of.F.ok sc_pair_of (fun vs H Q E h => ?_) (fun cdv A outer s H vs Q E hr h => ?_)
  · obtain ⟨v, a, b, rfl, _⟩ := h
    rfl
  · obtain ⟨v, a, b, rfl, hv, kk⟩ := h
    refine ⟨_, (pss_one (ps_ret (pe_ifExp (pt_val (pe_callB call_isi (by rfl) T.n_isinstance (by decide +kernel) (pa_cons (pv 0) (pa_cons (pe_bltn (v := .ty "tuple") (by rfl) T.n_tuple (by decide +kernel) rfl) pa_nil)))) (pv 0) (pe_tup (pa_cons (pv 0) (pa_cons pe_int pa_nil)))))), ?_⟩
    rcases hv with ⟨rfl, rfl⟩ | ⟨t, rfl, ht⟩
    · refine ⟨_, rfl, _, _, _, _, false, rfl, .ty _, .base (.int a), kit_ty (by decide +kernel), _, rfl, iteF ?_⟩
      exact ⟨_, rfl, by show 2 ≤ sizeLine; decide, fun p hp => kk p _ (same_upd hp) upd_same⟩
    · refine ⟨_, rfl, _, _, _, _, true, rfl, .ty _, .base (.tup ht), kit_ty (by decide +kernel), _, rfl, iteT ?_⟩
      exact ⟨_, rfl, kk t _ (Same.refl _) ht⟩
def sp_whole_of : Sp := fun vs H Q _ => ∃ v a b, vs = [v] ∧ NumV H v a b ∧ (-(2 ^ 64) < a ∧ a < 2 ^ 64) ∧ ∀ H', Same H H' → Q (.int (a * b)) H'
theorem ok_whole_of (T : Txt K mg) : FnOk P w K mg base CX0 2 T.d_whole_of.f T.d_whole_of.fd p_whole_of (sp_whole_of) := by
  refine T.d_whole_of.F.ok sc_whole_of (fun vs H Q E h => ?_) (fun cdv A outer s H vs Q E hr h => ?_)
  · obtain ⟨v, a, b, rfl, _⟩ := h
    rfl
  · obtain ⟨v, a, b, rfl, hv, ha, kk⟩ := h
    refine ⟨_, (pss_cons (ps_asg (pe_call (ok_pair_of T) (hr.mono (by decide)) (by rfl) T.d_pair_of.g T.d_pair_of.F.kp T.d_pair_of.b .nil pass0 (pa_cons (pv 0) pa_nil)) (pg_tup rfl (pgs_cons (pg_name (i := 1) sc_whole_of.nd rfl (.inl rfl)) (pgs_cons (pg_name (i := 2) sc_whole_of.nd rfl (.inl rfl)) pgs_nil))))
      (pss_one (ps_ret (pe_op op_mul (pv 1) (pv 2))))), ?_⟩
    refine ⟨_, rfl, v, a, b, rfl, hv, fun p H' hs hp => ?_⟩
    exact ⟨p, _, rfl, SqT.at hp, rfl, _, _, rfl, _, _, rfl, rfl, _, rfl, _, rfl, _, _, rfl, rfl, .inl ha, kk _ hs⟩
def sp__law_integer : Sp := fun vs H Q _ => ∃ v a b, vs = [v] ∧ NumV H v a b ∧ (-(2 ^ 64) < a ∧ a < 2 ^ 64) ∧ Q (.int (a * b)) H
theorem ok__law_integer (T : Txt K mg) : FnOk P w K mg base CX0 1 T.d__law_integer.f T.d__law_integer.fd p__law_integer (sp__law_integer) := by
  refine T.d__law_integer.F.ok sc__law_integer (fun vs H Q E h => ?_) (fun cdv A outer s H vs Q E hr h => ?_)
  · obtain ⟨v, a, b, rfl, _⟩ := h
    rfl
  · obtain ⟨v, a, b, rfl, hv, ha, kk⟩ := h
    refine ⟨_, (pss_one (ps_ret (pe_ifExp (pt_val (pe_callB call_isi (by rfl) T.n_isinstance (by decide +kernel) (pa_cons (pv 0) (pa_cons (pe_bltn (v := .ty "tuple") (by rfl) T.n_tuple (by decide +kernel) rfl) pa_nil)))) (pe_op op_mul (pe_ix ix_tup (pv 0) pe_int (fun _ _ => rfl)) (pe_ix ix_tup (pv 0) pe_int (fun _ _ => rfl))) (pv 0)))), ?_⟩
    rcases hv with ⟨rfl, rfl⟩ | ⟨t, rfl, ht⟩
    · refine ⟨_, rfl, _, _, _, _, false, rfl, .ty _, .base (.int a), kit_ty (by decide +kernel), _, rfl, iteF ?_⟩
      rw [Int.mul_one] at kk
      exact ⟨_, rfl, kk⟩
    · refine ⟨_, rfl, _, _, _, _, true, rfl, .ty _, .base (.tup ht), kit_ty (by decide +kernel), _, rfl, iteT ?_⟩
      exact ⟨_, rfl, _, _, 0, _, rfl, rfl, SqT.at ht, rfl, _, rfl, _, _, 1, _, rfl, rfl, SqT.at ht, rfl, _, _, rfl, rfl, .inl ha, kk⟩
end
end K86
namespace K86
open PySem PySem.Spec PyProof.Rows L2
section
variable {P : Program} {w : World} {K : PySem.W.Frag} {mg : Str → Option Value} {base : Heap}

/-! numbers that are accepted -/
structure OkN (a b : Int) : Prop where
  a0 : a ≠ 0
  al : -1000000 ≤ a
  ah : a ≤ 1000000
  b0 : 0 < b
  bh : b ≤ 1000000
  g : Nat.gcd a.natAbs b.natAbs = 1
def sp_is_ratio_any : Sp := fun vs H Q _ => ∃ t a b, vs = [.ref t] ∧ H t = some (.tup [.int a, .int b]) ∧ OkN a b ∧ ∀ H', Same H H' → Q (.bl true) H'
theorem rep_snoc (i : Nat) : List.replicate i (V.bl true) ++ [V.bl true] = List.replicate (i + 1) (V.bl true) := by
  rw [List.replicate_succ']
theorem rep_map (i : Nat) : List.replicate i (V.bl true) = (List.replicate i true).map V.bl := by
  rw [List.map_replicate]
theorem same_upd2 {H H' : Hp} {p : Addr} {o : HO} (h : H p = none) (s : Same H H') : Same H (upd H' p o) := fun b x e => by
  rw [upd_ne (ne_of_none e h)]
  exact s _ _ e
theorem ok_is_ratio_any (T : Txt K mg) : FnOk P w K mg base CX0 2 T.d_is_ratio_any.f T.d_is_ratio_any.fd p_is_ratio_any (sp_is_ratio_any) := by
  refine T.d_is_ratio_any.F.ok sc_is_ratio_any (fun vs H Q E h => ?_) (fun cdv A outer s H vs Q E hr h => ?_)
  · obtain ⟨t, a, b, rfl, _⟩ := h
    rfl
  · obtain ⟨t, a, b, rfl, ht, N, kk⟩ := h
    refine ⟨_, (pss_cons (ps_if (PW.pt (pw_or (pt_not (pt_val (pe_callB call_isi (by rfl) T.n_isinstance (by decide +kernel) (pa_cons (pv 0) (pa_cons (pe_bltn (v := .ty "tuple") (by rfl) T.n_tuple (by decide +kernel) rfl) pa_nil))))) (pw_or (pt_cmpR op_ne (pe_callB call_len_seq (by rfl) T.n_len (by decide +kernel) (pa_cons (pv 0) pa_nil)) (pe_glob (v := .int 2) rfl T.m_PAIR ⟨_, rfl⟩) (nomark _)) (pw_or1 (pt_not (pt_val (pe_callB (cr_all rfl) (by rfl) T.n_all (by decide +kernel) (pa_cons (pe_lc (own := [("one", 1)]) (g := gName 1) (tt := tYes) rfl sc_is_ratio_any.nd (pi_tup (pv 0)) (blkOk_by (N := N_is_ratio_any) (sc := defScope s_is_ratio_any) (by decide +kernel)) (fun _ _ _ _ _ => pg_name (i := 1) sc_is_ratio_any.nd rfl (Or.inl rfl)) (fun _ _ _ _ _ => pts_nil) (fun _ _ _ _ _ => (pe_call (ok_is_whole_number T) (hr.mono (by decide)) (by rfl) T.d_is_whole_number.g T.d_is_whole_number.F.kp T.d_is_whole_number.b .nil pass0 (pa_cons (pv 1) pa_nil)))) pa_nil)))))))) (pss_one (ps_ret pe_bl)) pss_nil)
      (pss_one (ps_ret (pe_and (pe_cmpR op_gt (pe_ix ix_tup (pv 0) pe_int (fun _ _ => rfl)) pe_int (nomark _)) (pe_one (pe_cmpR op_eq (pe_callBfun cr_gcd (by rfl) T.m_gcd (pa_cons (pe_ix ix_tup (pv 0) pe_int (fun _ _ => rfl)) (pa_cons (pe_ix ix_tup (pv 0) pe_int (fun _ _ => rfl)) pa_nil))) pe_int (nomark _))))))), ?_⟩
    refine ⟨_, rfl, _, _, _, _, true, rfl, .ty _, .base (.tup ht), kit_ty (by decide +kernel), _, rfl, iteF ?_⟩
    refine ⟨_, rfl, t, _, rfl, .inr (SqT.at ht), rfl, _, rfl, iteNS rfl ?_⟩
    refine ⟨_, rfl, t, rfl, ⟨_, SqT.at ht⟩, fun D hD => lc_tup (xs := [.int a, .int b]) (fun i H' => Same H H' ∧ i ≤ 2 ∧ H' D = some (.lst (List.replicate i (.bl true)))) ⟨same_upd hD, by decide, upd_same⟩ (fun i H' _ hP => SqT.at (hP.1 _ _ ht)) (fun i x H' hx hP => ?_) (fun H' hP => ?_)⟩
    · obtain ⟨s1, hi, hl⟩ := hP
      refine ⟨rfl, ?_⟩
      have hi2 : i < 2 := by
        have := (List.getElem?_eq_some_iff.mp hx).1
        exact this
      obtain ⟨n, rfl⟩ : ∃ n, x = .int n := by
        match i, hx with
        | 0, hx => exact ⟨a, (Option.some.inj hx).symm⟩
        | 1, hx => exact ⟨b, (Option.some.inj hx).symm⟩
      refine ⟨_, rfl, .inl ⟨n, rfl, _, hl, ?_, same_upd2 hD s1, by omega, ?_⟩⟩
      · rw [List.length_replicate]; exact small1000 (by omega)
      · rw [upd_same, rep_snoc]
    · obtain ⟨s1, hi, hl⟩ := hP
      refine ⟨D, List.replicate 2 true, rfl, SqL.at (hl.trans (by rw [rep_map]; rfl)), _, rfl, iteF ?_⟩
      have ht' := s1 _ _ ht
      refine ⟨_, rfl, _, _, 1, _, rfl, rfl, SqT.at ht', rfl, _, _, rfl, rfl, _, rfl, ?_⟩
      rw [if_pos (decide_eq_true N.b0)]
      refine ⟨_, rfl, _, _, 0, _, rfl, rfl, SqT.at ht', rfl, _, rfl, _, _, 1, _, rfl, rfl, SqT.at ht', rfl, a, b, rfl, rfl, ?_⟩
      rw [N.g]
      exact kk _ s1
def sp_is_number_in : Sp := fun vs H Q _ => ∃ v a b, vs = [v] ∧ NumV H v a b ∧ OkN a b ∧ ∀ H', Same H H' → Q (.bl true) H'
theorem b60 {n : Int} (h : -1000000 ≤ n) (h2 : n ≤ 1000000) : -(10 ^ 60) < n ∧ n < 10 ^ 60 := by
  constructor <;> omega
theorem ok_is_number_in (T : Txt K mg) : FnOk P w K mg base CX0 3 T.d_is_number_in.f T.d_is_number_in.fd p_is_number_in (sp_is_number_in) := by
  refine T.d_is_number_in.F.ok sc_is_number_in (fun vs H Q E h => ?_) (fun cdv A outer s H vs Q E hr h => ?_)
  · obtain ⟨v, a, b, rfl, _⟩ := h
    rfl
  · obtain ⟨v, a, b, rfl, hv, N, kk⟩ := h
    refine ⟨_, (pss_one (ps_ret (pe_or (pe_call (ok_is_integer T) (hr.mono (by decide)) (by rfl) T.d_is_integer.g T.d_is_integer.F.kp T.d_is_integer.b .nil pass0 (pa_cons (pv 0) pa_nil)) (pe_one (pe_and (pe_call (ok_is_ratio_any T) (hr.mono (by decide)) (by rfl) T.d_is_ratio_any.g T.d_is_ratio_any.F.kp T.d_is_ratio_any.b .nil pass0 (pa_cons (pv 0) pa_nil)) (pe_one (pe_callB (cr_all rfl) (by rfl) T.n_all (by decide +kernel) (pa_cons (pe_lc (own := [("one", 1)]) (g := gName 1) (tt := tYes) rfl sc_is_number_in.nd (pi_tup (pv 0)) (blkOk_by (N := N_is_number_in) (sc := defScope s_is_number_in) (by decide +kernel)) (fun _ _ _ _ _ => pg_name (i := 1) sc_is_number_in.nd rfl (Or.inl rfl)) (fun _ _ _ _ _ => pts_nil) (fun _ _ _ _ _ => (pe_call (ok_is_integer T) (hr.mono (by decide)) (by rfl) T.d_is_integer.g T.d_is_integer.F.kp T.d_is_integer.b .nil pass0 (pa_cons (pv 1) pa_nil)))) pa_nil)))))))), ?_⟩
    have ba := b60 N.al N.ah
    have bb := b60 (show -1000000 ≤ b by have := N.b0; omega) N.bh
    rcases hv with ⟨rfl, rfl⟩ | ⟨t, rfl, ht⟩
    · exact ⟨_, rfl, .inl ⟨a, rfl, ba.1, ba.2, _, rfl, iteT (kk _ (Same.refl _))⟩⟩
    refine ⟨_, rfl, .inr ⟨t, _, rfl, ht, _, rfl, iteF ?_⟩⟩
    refine ⟨_, rfl, t, a, b, rfl, ht, N, fun H0 s0 => ⟨_, rfl, iteT ?_⟩⟩
    have ht0 := s0 _ _ ht
    refine ⟨_, rfl, t, rfl, ⟨_, SqT.at ht0⟩, fun D hD => lc_tup (xs := [.int a, .int b]) (fun i H' => Same H0 H' ∧ i ≤ 2 ∧ H' D = some (.lst (List.replicate i (.bl true)))) ⟨same_upd hD, by decide, upd_same⟩ (fun i H' _ hP => SqT.at (hP.1 _ _ ht0)) (fun i x H' hx hP => ?_) (fun H' hP => ?_)⟩
    · obtain ⟨s1, hi, hl⟩ := hP
      refine ⟨rfl, ?_⟩
      have hi2 : i < 2 := by
        have := (List.getElem?_eq_some_iff.mp hx).1
        exact this
      obtain ⟨n, rfl, h1, h2⟩ : ∃ n, x = .int n ∧ -(10 ^ 60) < n ∧ n < 10 ^ 60 := by
        match i, hx with
        | 0, hx => exact ⟨a, (Option.some.inj hx).symm, ba⟩
        | 1, hx => exact ⟨b, (Option.some.inj hx).symm, bb⟩
      refine ⟨_, rfl, .inl ⟨n, rfl, h1, h2, _, hl, ?_, same_upd2 hD s1, by omega, ?_⟩⟩
      · rw [List.length_replicate]; exact small1000 (by omega)
      · rw [upd_same, rep_snoc]
    · obtain ⟨s1, hi, hl⟩ := hP
      exact ⟨D, List.replicate 2 true, rfl, SqL.at (hl.trans (by rw [rep_map]; rfl)), kk _ (s0.trans s1)⟩
def sp_require_signed : Sp := fun vs H Q _ => ∃ v a b, vs = [v] ∧ NumV H v a b ∧ OkN a b ∧ ∀ H', Same H H' → Q .non H'
theorem ok_require_signed (T : Txt K mg) : FnOk P w K mg base CX0 4 T.d_require_signed.f T.d_require_signed.fd p_require_signed (sp_require_signed) := by
  refine T.d_require_signed.F.ok sc_require_signed (fun vs H Q E h => ?_) (fun cdv A outer s H vs Q E hr h => ?_)
  · obtain ⟨v, a, b, rfl, _⟩ := h
    rfl
  · obtain ⟨v, a, b, rfl, hv, N, kk⟩ := h
    refine ⟨_, (pss_cons (ps_if (pt_not (pt_val (pe_call (ok_is_number_in T) (hr.mono (by decide)) (by rfl) T.d_is_number_in.g T.d_is_number_in.F.kp T.d_is_number_in.b .nil pass0 (pa_cons (pv 0) pa_nil)))) (pss_one ps_never) pss_nil)
      (pss_cons (ps_asg (pe_call (ok_pair_of T) (hr.mono (by decide)) (by rfl) T.d_pair_of.g T.d_pair_of.F.kp T.d_pair_of.b .nil pass0 (pa_cons (pv 0) pa_nil)) (pg_tup rfl (pgs_cons (pg_name (i := 1) sc_require_signed.nd rfl (.inl rfl)) (pgs_cons (pg_name (i := 2) sc_require_signed.nd rfl (.inl rfl)) pgs_nil))))
      (pss_one (ps_if (PW.pt (pw_or (pt_cmpR op_eq (pv 1) pe_int (nomark _)) (pw_or1 (pt_cmpR op_gt (pe_callB (call_max2 rfl) (by rfl) T.n_max (by decide +kernel) (pa_cons (pe_callB call_abs (by rfl) T.n_abs (by decide +kernel) (pa_cons (pv 1) pa_nil)) (pa_cons (pv 2) pa_nil))) (pe_glob (v := .int 1000000) rfl T.m_MOST_SIGNED ⟨_, rfl⟩) (nomark _))))) (pss_one ps_never) pss_nil)))), ?_⟩
    refine ⟨_, rfl, v, a, b, rfl, hv, N, fun H1 s1 => ⟨_, rfl, iteF ?_⟩⟩
    refine ⟨_, rfl, v, a, b, rfl, hv.same s1, fun p H2 s2 hp => ?_⟩
    refine ⟨p, _, rfl, SqT.at hp, rfl, _, _, rfl, _, _, rfl, rfl, ?_⟩
    refine ⟨_, rfl, rfl, _, rfl, ite2 (fun hd => absurd (V.int.inj (of_decide_eq_true hd)) N.a0) (fun _ => ?_)⟩
    refine ⟨_, rfl, _, rfl, _, rfl, _, _, rfl, _, _, rfl, rfl, _, rfl, ite2 (fun hd => ?_) (fun _ => kk _ (s1.trans s2))⟩
    have h1 := of_decide_eq_true hd
    rw [abs_if] at h1
    have := N.al
    have := N.ah
    have := N.bh
    exfalso
    by_cases hh : b > (a.natAbs : Int)
    · rw [if_pos hh] at h1; omega
    · rw [if_neg hh] at h1; omega
/-! places -/
def PT (q : Int) : Prop := q = 0 ∨ Tri q
theorem Tri.pq {q : Int} (h : Tri q) : Pq q := by
  obtain ⟨h2, h6, ht⟩ := h
  by_cases e : q = 2
  · exact .inl e
  right
  refine ⟨by omega, ?_, pr_of_trial (by omega) fun d hd hdd hz => ?_⟩
  · by_cases h4 : 4 ≤ q
    · have := ht 2 (by decide) (by omega); omega
    · have : q = 3 := by omega
      rw [this]; decide
  · refine ht d (by omega) ?_ ?_
    · have : ((d * d : Nat) : Int) ≤ (q.toNat : Int) := by omega
      rw [Int.natCast_mul] at this; omega
    · have : ((q.toNat % d : Nat) : Int) = 0 := by omega
      rw [Int.natCast_emod, Int.toNat_of_nonneg (by omega)] at this; exact this
theorem PT.plc {q : Int} (h : PT q) : Plc q := by
  rcases h with h | h
  · exact .inl h
  · exact .inr h.pq
def sp_is_place_in : Sp := fun vs H Q _ => ∃ q, vs = [.int q] ∧ PT q ∧ Q (.bl true) H
theorem ok_is_place_in (T : Txt K mg) : FnOk P w K mg base CX0 3 T.d_is_place_in.f T.d_is_place_in.fd p_is_place_in (sp_is_place_in) := by
  refine T.d_is_place_in.F.ok sc_is_place_in (fun vs H Q E h => ?_) (fun cdv A outer s H vs Q E hr h => ?_)
  · obtain ⟨v, rfl, _⟩ := h
    rfl
  · obtain ⟨q, rfl, hq, kk⟩ := h
    refine ⟨_, (pss_cons (ps_if (PW.pt (pw_or (pt_not (pt_val (pe_call (ok_is_whole_number T) (hr.mono (by decide)) (by rfl) T.d_is_whole_number.g T.d_is_whole_number.F.kp T.d_is_whole_number.b .nil pass0 (pa_cons (pv 0) pa_nil)))) (pw_or1 (pt_not (pt_chain op_le op_le pe_int (pv 0) (pe_glob (v := .int 1000000) rfl T.m_MOST_PLACE ⟨_, rfl⟩)))))) (pss_one (ps_ret pe_bl)) pss_nil)
      (pss_one (ps_ret (pe_or (pe_cmpR op_eq (pv 0) pe_int (nomark _)) (pe_one (pe_call (ok_is_prime_number T) (hr.mono (by decide)) (by rfl) T.d_is_prime_number.g T.d_is_prime_number.F.kp T.d_is_prime_number.b .nil pass0 (pa_cons (pv 0) pa_nil))))))), ?_⟩
    have b0 : 0 ≤ q ∧ q ≤ 1000000 := by
      rcases hq with rfl | h
      · decide
      · have := h.1; have := h.2.1; omega
    refine ⟨_, rfl, .inl ⟨q, rfl, _, rfl, iteF ?_⟩⟩
    refine ⟨_, rfl, _, _, rfl, rfl, _, rfl, ?_⟩
    rw [if_pos (decide_eq_true b0.1)]
    refine ⟨_, _, rfl, rfl, _, rfl, ?_⟩
    rw [decide_eq_true b0.2]
    refine iteF ⟨_, rfl, rfl, _, rfl, ?_⟩
    rcases hq with rfl | h
    · exact iteT kk
    · have : ¬ q = 0 := by have := h.1; omega
      rw [if_neg (fun z => this (V.int.inj (of_decide_eq_true z)))]
      exact ⟨_, rfl, q, rfl, h, kk⟩
def sp_require_place : Sp := fun vs H Q _ => ∃ q, vs = [.int q] ∧ PT q ∧ Q .non H
theorem ok_require_place (T : Txt K mg) : FnOk P w K mg base CX0 4 T.d_require_place.f T.d_require_place.fd p_require_place (sp_require_place) := by
  refine T.d_require_place.F.ok sc_require_place (fun vs H Q E h => ?_) (fun cdv A outer s H vs Q E hr h => ?_)
  · obtain ⟨v, rfl, _⟩ := h
    rfl
  · obtain ⟨q, rfl, hq, kk⟩ := h
    refine ⟨_, (pss_one (ps_if (pt_not (pt_val (pe_call (ok_is_place_in T) (hr.mono (by decide)) (by rfl) T.d_is_place_in.g T.d_is_place_in.F.kp T.d_is_place_in.b .nil pass0 (pa_cons (pv 0) pa_nil)))) (pss_one ps_never) pss_nil)), ?_⟩
    exact ⟨_, rfl, q, rfl, hq, _, rfl, iteF kk⟩
end
end K86
namespace K86
open PySem PySem.Spec PyProof.Rows L2
section
variable {P : Program} {w : World} {K : PySem.W.Frag} {mg : Str → Option Value} {base : Heap}

/-! the sign at 2 -/
theorem sq8 {u : Int} (hu : u % 2 ≠ 0) : (u * u - 1) / 8 % 2 = if decide (u % 8 = 3 ∨ u % 8 = 5) then 1 else 0 := by
  have e : u = 8 * (u / 8) + u % 8 := by omega
  generalize u / 8 = m at e
  rcases mod8 hu with h | h | h | h <;> rw [h] at e <;> rw [h] <;> subst e
  · have : (8 * m + 1) * (8 * m + 1) = 64 * (m * m) + 16 * m + 1 := by grind
    rw [this]; show _ = (0 : Int); omega
  · have : (8 * m + 3) * (8 * m + 3) = 64 * (m * m) + 48 * m + 9 := by grind
    rw [this]; show _ = (1 : Int); omega
  · have : (8 * m + 5) * (8 * m + 5) = 64 * (m * m) + 80 * m + 25 := by grind
    rw [this]; show _ = (1 : Int); omega
  · have : (8 * m + 7) * (8 * m + 7) = 64 * (m * m) + 112 * m + 49 := by grind
    rw [this]; show _ = (0 : Int); omega
theorem half4 {u : Int} (hu : u % 2 ≠ 0) : (u - 1) / 2 % 2 = if decide (u % 4 = 3) then 1 else 0 := by
  by_cases h : u % 4 = 3
  · rw [decide_eq_true h]; show _ = (1 : Int); omega
  · rw [decide_eq_false h]; show _ = (0 : Int); omega
theorem par_bit {q : Int} (hq : 2 ≤ q) (a : Int) : ((ex q a : Nat) : Int) % 2 = if par q a then 1 else 0 := by
  rw [par_q hq]
  by_cases h : ex q a % 2 = 1
  · rw [decide_eq_true h]; show _ = (1 : Int); omega
  · rw [decide_eq_false h]; show _ = (0 : Int); omega
theorem two_turns {a b : Int} (ha : a ≠ 0) (hb' : b ≠ 0) :
    ((un 2 a - 1) / 2 * ((un 2 b - 1) / 2) + (ex 2 a : Nat) * ((un 2 b * un 2 b - 1) / 8) + (ex 2 b : Nat) * ((un 2 a * un 2 a - 1) / 8)) % 2 = if hb 2 a b then 1 else 0 := by
  have h1 := (ex_spec (q := 2) (by decide) ha).2
  have h2 := (ex_spec (q := 2) (by decide) hb').2
  have s1 := half4 h1
  have s2 := half4 h2
  have s3 := sq8 h1
  have s4 := sq8 h2
  have s5 := par_bit (q := 2) (by decide) a
  have s6 := par_bit (q := 2) (by decide) b
  rw [← eps_2] at s1 s2
  rw [← chi_2] at s3 s4
  rw [Int.add_emod, Int.add_emod ((un 2 a - 1) / 2 * ((un 2 b - 1) / 2)), Int.mul_emod, s1, s2, Int.mul_emod ((ex 2 a : Nat) : Int), s5, s4, Int.mul_emod ((ex 2 b : Nat) : Int), s6, s3]
  unfold hb
  cases eps 2 a <;> cases eps 2 b <;> cases par 2 a <;> cases par 2 b <;> cases chi 2 a <;> cases chi 2 b <;> rfl
theorem un_le {q a : Int} (hq : 2 ≤ q) (ha : a ≠ 0) : (un q a).natAbs ≤ a.natAbs := by
  obtain ⟨h1, h2⟩ := ex_spec hq ha
  have hP := pow_pos' hq (ex q a)
  have e : a.natAbs = (q ^ ex q a).natAbs * (un q a).natAbs := by rw [← Int.natAbs_mul, ← h1]
  have h3 : 1 * (un q a).natAbs ≤ (q ^ ex q a).natAbs * (un q a).natAbs := Nat.mul_le_mul_right _ (by omega)
  omega
def sp_sign_at_two : Sp := fun vs H Q _ => ∃ a b : Int, vs = [.int a, .int b] ∧ a ≠ 0 ∧ b ≠ 0 ∧ a.natAbs ≤ 1000000000000 ∧ b.natAbs ≤ 1000000000000 ∧ ∀ H', Same H H' → Q (.int (hs 2 a b)) H'
theorem ok_sign_at_two (T : Txt K mg) : FnOk P w K mg base CX0 2 T.d_sign_at_two.f T.d_sign_at_two.fd p_sign_at_two (sp_sign_at_two) := by
  refine T.d_sign_at_two.F.ok sc_sign_at_two (fun vs H Q E h => ?_) (fun cdv A outer s H vs Q E hr h => ?_)
  · obtain ⟨a, b, rfl, _⟩ := h
    rfl
  · obtain ⟨a, b, rfl, ha, hb', ba, bb, kk⟩ := h
    refine ⟨_, (pss_cons (ps_asg (pe_call (ok_exponent_at T) (hr.mono (by decide)) (by rfl) T.d_exponent_at.g T.d_exponent_at.F.kp T.d_exponent_at.b .nil pass0 (pa_cons pe_int (pa_cons (pv 0) pa_nil))) (pg_tup rfl (pgs_cons (pg_name (i := 2) sc_sign_at_two.nd rfl (.inl rfl)) (pgs_cons (pg_name (i := 3) sc_sign_at_two.nd rfl (.inl rfl)) pgs_nil))))
      (pss_cons (ps_asg (pe_call (ok_exponent_at T) (hr.mono (by decide)) (by rfl) T.d_exponent_at.g T.d_exponent_at.F.kp T.d_exponent_at.b .nil pass0 (pa_cons pe_int (pa_cons (pv 1) pa_nil))) (pg_tup rfl (pgs_cons (pg_name (i := 4) sc_sign_at_two.nd rfl (.inl rfl)) (pgs_cons (pg_name (i := 5) sc_sign_at_two.nd rfl (.inl rfl)) pgs_nil))))
      (pss_cons (ps_set (i := 6) sc_sign_at_two.nd rfl (.inl rfl) (pe_op op_add (pe_op op_add (pe_op op_mul (pe_op op_fdiv (pe_op op_sub (pv 3) pe_int) pe_int) (pe_op op_fdiv (pe_op op_sub (pv 5) pe_int) pe_int)) (pe_op op_mul (pv 2) (pe_op op_fdiv (pe_op op_sub (pe_op op_mul (pv 5) (pv 5)) pe_int) pe_int))) (pe_op op_mul (pv 4) (pe_op op_fdiv (pe_op op_sub (pe_op op_mul (pv 3) (pv 3)) pe_int) pe_int))))
      (pss_one (ps_ret (pe_ifExp (pt_cmpR op_eq (pe_op op_mod (pv 6) pe_int) pe_int (nomark _)) pe_int (pe_un un_neg pe_int))))))), ?_⟩
    refine ⟨_, rfl, 2, a, rfl, by decide, by decide, ha, fun p hp => ?_⟩
    refine ⟨p, _, rfl, SqT.at upd_same, rfl, _, _, rfl, _, _, rfl, rfl, ?_⟩
    refine ⟨_, rfl, 2, b, rfl, by decide, by decide, hb', fun p2 hp2 => ?_⟩
    refine ⟨p2, _, rfl, SqT.at upd_same, rfl, _, _, rfl, _, _, rfl, rfl, ?_⟩
    have u1 := un_le (q := 2) (by decide) ha
    have u2 := un_le (q := 2) (by decide) hb'
    have k1 := ex_le 2 a
    have k2 := ex_le 2 b
    refine ⟨_, rfl, _, _, rfl, rfl, _, _, rfl, rfl, ⟨by decide, by decide⟩, _, rfl, _, _, rfl, rfl, _, _, rfl, rfl, ⟨by decide, by decide⟩, _, _, rfl, rfl, .inl ⟨by omega, by omega⟩, ?_⟩
    refine ⟨_, rfl, _, rfl, _, rfl, _, _, rfl, rfl, .inl ⟨by omega, by omega⟩, _, _, rfl, rfl, _, _, rfl, rfl, ⟨by decide, by decide⟩, _, _, rfl, rfl, .inl ⟨by omega, by omega⟩, _, _, rfl, rfl, ?_⟩
    refine ⟨_, rfl, _, rfl, _, rfl, _, _, rfl, rfl, .inl ⟨by omega, by omega⟩, _, _, rfl, rfl, _, _, rfl, rfl, ⟨by decide, by decide⟩, _, _, rfl, rfl, .inl ⟨by omega, by omega⟩, _, _, rfl, rfl, ?_⟩
    have kq := kk (upd (upd H p (.tup [.int (ex 2 a : Nat), .int (un 2 a)])) p2 (.tup [.int (ex 2 b : Nat), .int (un 2 b)])) ((same_upd hp).trans (same_upd hp2))
    have tt := two_turns ha hb'
    refine ⟨_, rfl, _, _, rfl, rfl, show (0 : Int) < 2 by decide, rfl, _, rfl, ite2 (fun hd => ?_) (fun hd => ?_)⟩
    · have hz := V.int.inj (of_decide_eq_true hd)
      rw [tt] at hz
      unfold hs at kq
      cases e : hb 2 a b with
      | true => rw [e] at hz; exact absurd hz (by decide)
      | false => rw [e] at kq; exact kq
    · unfold hs at kq
      cases e : hb 2 a b with
      | true => rw [e] at kq; exact ⟨_, rfl, kq⟩
      | false => rw [e] at tt; exact absurd (decide_eq_true (congrArg V.int tt)) hd
/-! signs elsewhere -/
theorem leg_chi {q : Int} (h : 3 ≤ q) (a : Int) : leg q (un q a) = if chi q a then -1 else 1 := by
  rw [chi_o h]
  unfold leg
  cases K86.E q (un q a) <;> rfl
theorem leg_pm (q u : Int) : leg q u = 1 ∨ leg q u = -1 := by
  unfold leg
  cases K86.E q u
  · exact .inr rfl
  · exact .inl rfl
theorem found_bit {q a b : Int} (h : Tri q) (h3 : 3 ≤ q) : ((ex q a : Nat) * (ex q b : Nat) * (q - 1) / 2 : Int) % 2 = if (par q a && par q b && decide (q % 4 = 3)) then 1 else 0 := by
  have ho : q % 2 = 1 := by
    rcases h.pq with e | e
    · omega
    · exact e.odd
  have e1 : q - 1 = 2 * ((q - 1) / 2) := by omega
  have s5 := par_bit (q := q) (by omega) a
  have s6 := par_bit (q := q) (by omega) b
  have s7 : (q - 1) / 2 % 2 = if decide (q % 4 = 3) then 1 else 0 := by
    by_cases h : q % 4 = 3
    · rw [decide_eq_true h]; show _ = (1 : Int); omega
    · rw [decide_eq_false h]; show _ = (0 : Int); omega
  generalize (q - 1) / 2 = n at e1 s7
  have e2 : ((ex q a : Nat) * (ex q b : Nat) * (q - 1) : Int) = ((ex q a : Nat) * (ex q b : Nat) * n) * 2 := by
    rw [e1]; grind
  rw [e2, Int.mul_ediv_cancel _ (by decide)]
  rw [Int.mul_emod, Int.mul_emod ((ex q a : Nat) : Int), s5, s6, s7]
  cases par q a <;> cases par q b <;> cases decide (q % 4 = 3) <;> rfl
theorem hs_o {q : Int} (h : 3 ≤ q) (a b : Int) : hs q a b = if ((par q a && par q b && decide (q % 4 = 3)) ^^ (par q a && chi q b) ^^ (chi q a && par q b)) then -1 else 1 := by
  unfold hs hb
  rw [eps_o h, eps_o h]
  cases par q a <;> cases par q b <;> cases chi q a <;> cases chi q b <;> cases decide (q % 4 = 3) <;> rfl
def sp_sign_in : Sp := fun vs H Q _ => ∃ q a b : Int, vs = [.int q, .int a, .int b] ∧ PT q ∧ a ≠ 0 ∧ b ≠ 0 ∧ a.natAbs ≤ 1000000000000 ∧ b.natAbs ≤ 1000000000000 ∧ ∀ H', Same H H' → Q (.int (hs q a b)) H'
theorem ok_sign_in (T : Txt K mg) : FnOk P w K mg base CX0 3 T.d_sign_in.f T.d_sign_in.fd p_sign_in (sp_sign_in) := by
  refine T.d_sign_in.F.ok sc_sign_in (fun vs H Q E h => ?_) (fun cdv A outer s H vs Q E hr h => ?_)
  · obtain ⟨q, a, b, rfl, _⟩ := h
    rfl
  · obtain ⟨q, a, b, rfl, hq, ha, hb', ba, bb, kk⟩ := h
    refine ⟨_, (pss_cons (ps_if (pt_cmpR op_eq (pv 0) pe_int (nomark _)) (pss_one (ps_ret (pe_ifExp (PW.pt (pw_and (pt_cmpR op_lt (pv 1) pe_int (nomark _)) (pw_and1 (pt_cmpR op_lt (pv 2) pe_int (nomark _))))) (pe_un un_neg pe_int) pe_int))) pss_nil)
      (pss_cons (ps_if (pt_cmpR op_eq (pv 0) pe_int (nomark _)) (pss_one (ps_ret (pe_call (ok_sign_at_two T) (hr.mono (by decide)) (by rfl) T.d_sign_at_two.g T.d_sign_at_two.F.kp T.d_sign_at_two.b .nil pass0 (pa_cons (pv 1) (pa_cons (pv 2) pa_nil))))) pss_nil)
      (pss_cons (ps_asg (pe_call (ok_exponent_at T) (hr.mono (by decide)) (by rfl) T.d_exponent_at.g T.d_exponent_at.F.kp T.d_exponent_at.b .nil pass0 (pa_cons (pv 0) (pa_cons (pv 1) pa_nil))) (pg_tup rfl (pgs_cons (pg_name (i := 3) sc_sign_in.nd rfl (.inl rfl)) (pgs_cons (pg_name (i := 4) sc_sign_in.nd rfl (.inl rfl)) pgs_nil))))
      (pss_cons (ps_asg (pe_call (ok_exponent_at T) (hr.mono (by decide)) (by rfl) T.d_exponent_at.g T.d_exponent_at.F.kp T.d_exponent_at.b .nil pass0 (pa_cons (pv 0) (pa_cons (pv 2) pa_nil))) (pg_tup rfl (pgs_cons (pg_name (i := 5) sc_sign_in.nd rfl (.inl rfl)) (pgs_cons (pg_name (i := 6) sc_sign_in.nd rfl (.inl rfl)) pgs_nil))))
      (pss_cons (ps_set (i := 7) sc_sign_in.nd rfl (.inl rfl) (pe_ifExp (pt_cmpR op_eq (pe_op op_mod (pe_op op_fdiv (pe_op op_mul (pe_op op_mul (pv 3) (pv 5)) (pe_op op_sub (pv 0) pe_int)) pe_int) pe_int) pe_int (nomark _)) (pe_un un_neg pe_int) pe_int))
      (pss_cons (ps_if (pt_cmpR op_eq (pe_op op_mod (pv 5) pe_int) pe_int (nomark _)) (pss_one (ps_aug (i := 7) sc_sign_in.nd rfl (.inl rfl) (pe_call (ok_square_sign_in T) (hr.mono (by decide)) (by rfl) T.d_square_sign_in.g T.d_square_sign_in.F.kp T.d_square_sign_in.b .nil pass0 (pa_cons (pv 0) (pa_cons (pv 4) pa_nil))) ip_mul)) pss_nil)
      (pss_one (ps_ret (pe_ifExp (pt_cmpR op_eq (pe_op op_mod (pv 3) pe_int) pe_int (nomark _)) (pe_op op_mul (pv 7) (pe_call (ok_square_sign_in T) (hr.mono (by decide)) (by rfl) T.d_square_sign_in.g T.d_square_sign_in.F.kp T.d_square_sign_in.b .nil pass0 (pa_cons (pv 0) (pa_cons (pv 6) pa_nil)))) (pv 7)))))))))), ?_⟩
    refine ⟨_, rfl, rfl, _, rfl, ite2 (fun hd => ?_) (fun hd => ?_)⟩
    · have q0 : q = 0 := V.int.inj (of_decide_eq_true hd)
      subst q0
      have kq := kk H (Same.refl _)
      have e : hs 0 a b = if (decide (a < 0) && decide (b < 0)) then -1 else 1 := by
        unfold hs hb
        rw [eps_z, eps_z]
        cases decide (a < 0) <;> cases decide (b < 0) <;> rfl
      rw [e] at kq
      refine ⟨_, rfl, _, _, rfl, rfl, _, rfl, ite2 (fun h1 => ?_) (fun h1 => ?_)⟩
      · rw [h1] at kq
        refine ⟨_, rfl, _, _, rfl, rfl, _, rfl, ite2 (fun h2 => ?_) (fun h2 => ?_)⟩
        · rw [h2] at kq; exact ⟨_, rfl, kq⟩
        · rw [Bool.eq_false_iff.mpr h2] at kq; exact kq
      · rw [Bool.eq_false_iff.mpr h1] at kq
        rw [if_neg Bool.false_ne_true]
        exact kq
    have q0 : q ≠ 0 := fun z => hd (decide_eq_true (congrArg V.int z))
    have ht : Tri q := hq.resolve_left q0
    refine ⟨_, rfl, rfl, _, rfl, ite2 (fun hd2 => ?_) (fun hd2 => ?_)⟩
    · have q2 : q = 2 := V.int.inj (of_decide_eq_true hd2)
      subst q2
      exact ⟨_, rfl, _, rfl, a, b, rfl, ha, hb', ba, bb, kk⟩
    have q2 : q ≠ 2 := fun z => hd2 (decide_eq_true (congrArg V.int z))
    have h2 := ht.1
    have h6 := ht.2.1
    have h3 : 3 ≤ q := by omega
    refine ⟨_, rfl, _, rfl, q, a, rfl, h2, h6, ha, fun p hp => ?_⟩
    refine ⟨p, _, rfl, SqT.at upd_same, rfl, _, _, rfl, _, _, rfl, rfl, ?_⟩
    refine ⟨_, rfl, _, rfl, q, b, rfl, h2, h6, hb', fun p2 hp2 => ?_⟩
    refine ⟨p2, _, rfl, SqT.at upd_same, rfl, _, _, rfl, _, _, rfl, rfl, ?_⟩
    have k1 := ex_le q a
    have k2 := ex_le q b
    have kq := kk (upd (upd H p (.tup [.int (ex q a : Nat), .int (un q a)])) p2 (.tup [.int (ex q b : Nat), .int (un q b)])) ((same_upd hp).trans (same_upd hp2))
    have fb := found_bit (a := a) (b := b) ht h3
    have pa := par_bit h2 a
    have pb := par_bit h2 b
    have lu := leg_pm q (un q a)
    have lw := leg_pm q (un q b)
    have uu := (ex_spec h2 ha).2
    have uw := (ex_spec h2 hb').2
    rw [hs_o h3] at kq
    have la := leg_chi h3 a
    have lb := leg_chi h3 b
    have q1 : 1 < q := by omega
    -- found; l odd?; k odd?
    refine ⟨_, rfl, _, rfl, _, _, rfl, rfl, .inl ⟨by omega, by omega⟩, _, rfl, _, _, rfl, rfl, _, _, rfl, rfl, .inr ⟨by omega, by omega⟩, _, _, rfl, rfl, ⟨by decide, by decide⟩, _, _, rfl, rfl, show (0 : Int) < 2 by decide, rfl, _, rfl, ite2 (fun hf => ?_) (fun hf => ?_)⟩
    · have ef := V.int.inj (of_decide_eq_true hf)
      rw [fb] at ef
      have ef2 : (par q a && par q b && decide (q % 4 = 3)) = true := by
        cases e : (par q a && par q b && decide (q % 4 = 3)) with
        | true => rfl
        | false => rw [e] at ef; exact absurd ef (by decide)
      have e3 : par q a = true ∧ par q b = true := by
        revert ef2
        cases par q a <;> cases par q b <;> cases decide (q % 4 = 3) <;> decide
      rw [ef2, e3.1, e3.2] at kq
      rw [e3.1] at pa
      rw [e3.2] at pb
      refine ⟨_, rfl, _, rfl, _, _, rfl, rfl, show (0 : Int) < 2 by decide, rfl, _, rfl, ite2 (fun hl => ?_) (fun hl => ?_)⟩
      · refine ⟨_, rfl, _, rfl, _, rfl, q, _, rfl, q1, h6, uu, _, _, rfl, rfl, .inr ⟨by omega, by omega⟩, ?_⟩
        refine ⟨_, rfl, _, _, rfl, rfl, show (0 : Int) < 2 by decide, rfl, _, rfl, ite2 (fun hk => ?_) (fun hk => ?_)⟩
        · refine ⟨_, rfl, _, rfl, _, rfl, q, _, rfl, q1, h6, uw, _, _, rfl, rfl, .inr ⟨by omega, by omega⟩, ?_⟩
          rw [la, lb]
          revert kq
          cases chi q a <;> cases chi q b <;> exact id
        · exact absurd (decide_eq_true (congrArg V.int pa)) hk
      · exact absurd (decide_eq_true (congrArg V.int pb)) hl
    · have ef2 : (par q a && par q b && decide (q % 4 = 3)) = false := by
        cases e : (par q a && par q b && decide (q % 4 = 3)) with
        | false => rfl
        | true => rw [e] at fb; exact absurd (decide_eq_true (congrArg V.int fb)) hf
      rw [ef2] at kq
      refine ⟨_, rfl, _, _, rfl, rfl, show (0 : Int) < 2 by decide, rfl, _, rfl, ite2 (fun hl => ?_) (fun hl => ?_)⟩
      · have hl2 := V.int.inj (of_decide_eq_true hl)
        rw [pb] at hl2
        have eb : par q b = true := by
          cases e : par q b with
          | true => rfl
          | false => rw [e] at hl2; exact absurd hl2 (by decide)
        rw [eb] at kq
        refine ⟨_, rfl, _, rfl, _, rfl, q, _, rfl, q1, h6, uu, _, _, rfl, rfl, .inr ⟨by omega, by omega⟩, ?_⟩
        refine ⟨_, rfl, _, _, rfl, rfl, show (0 : Int) < 2 by decide, rfl, _, rfl, ite2 (fun hk => ?_) (fun hk => ?_)⟩
        · have hk2 := V.int.inj (of_decide_eq_true hk)
          rw [pa] at hk2
          have ea : par q a = true := by
            cases e : par q a with
            | true => rfl
            | false => rw [e] at hk2; exact absurd hk2 (by decide)
          rw [ea] at kq
          refine ⟨_, rfl, _, rfl, _, rfl, q, _, rfl, q1, h6, uw, _, _, rfl, rfl, .inr ⟨by omega, by omega⟩, ?_⟩
          rw [la, lb]
          revert kq
          cases chi q a <;> cases chi q b <;> exact id
        · have ea : par q a = false := by
            cases e : par q a with
            | false => rfl
            | true => rw [e] at pa; exact absurd (decide_eq_true (congrArg V.int pa)) hk
          rw [ea] at kq
          refine ⟨_, rfl, ?_⟩
          rw [la]
          revert kq
          cases chi q a <;> exact id
      · have eb : par q b = false := by
          cases e : par q b with
          | false => rfl
          | true => rw [e] at pb; exact absurd (decide_eq_true (congrArg V.int pb)) hl
        rw [eb] at kq
        refine ⟨_, rfl, _, _, rfl, rfl, show (0 : Int) < 2 by decide, rfl, _, rfl, ite2 (fun hk => ?_) (fun hk => ?_)⟩
        · have hk2 := V.int.inj (of_decide_eq_true hk)
          rw [pa] at hk2
          have ea : par q a = true := by
            cases e : par q a with
            | true => rfl
            | false => rw [e] at hk2; exact absurd hk2 (by decide)
          rw [ea] at kq
          refine ⟨_, rfl, _, rfl, _, rfl, q, _, rfl, q1, h6, uw, _, _, rfl, rfl, .inr ⟨by omega, by omega⟩, ?_⟩
          rw [lb]
          revert kq
          cases chi q a <;> cases chi q b <;> exact id
        · have ea : par q a = false := by
            cases e : par q a with
            | false => rfl
            | true => rw [e] at pa; exact absurd (decide_eq_true (congrArg V.int pa)) hk
          rw [ea] at kq
          refine ⟨_, rfl, ?_⟩
          revert kq
          cases chi q a <;> exact id
end
end K86
namespace K86
open PySem PySem.Spec PyProof.Rows L2
section
variable {P : Program} {w : World} {K : PySem.W.Frag} {mg : Str → Option Value} {base : Heap}

theorem decV (i j : Int) : decide (V.int i = V.int j) = decide (i = j) := by simp
def isq (q a : Int) : Bool := if q = 0 then decide (0 < a) else !par q a && (if q = 2 then decide (un 2 a % 8 = 1) else K86.E q (un q a))
def sp_is_square_in : Sp := fun vs H Q _ => ∃ q a : Int, vs = [.int q, .int a] ∧ PT q ∧ a ≠ 0 ∧ ∀ H', Same H H' → Q (.bl (isq q a)) H'
theorem ok_is_square_in (T : Txt K mg) : FnOk P w K mg base CX0 3 T.d_is_square_in.f T.d_is_square_in.fd p_is_square_in (sp_is_square_in) := by
  refine T.d_is_square_in.F.ok sc_is_square_in (fun vs H Q E h => ?_) (fun cdv A outer s H vs Q E hr h => ?_)
  · obtain ⟨q, a, rfl, _⟩ := h
    rfl
  · obtain ⟨q, a, rfl, hq, ha, kk⟩ := h
    refine ⟨_, (pss_cons (ps_if (pt_cmpR op_eq (pv 0) pe_int (nomark _)) (pss_one (ps_ret (pe_cmpR op_gt (pv 1) pe_int (nomark _)))) pss_nil)
      (pss_cons (ps_asg (pe_call (ok_exponent_at T) (hr.mono (by decide)) (by rfl) T.d_exponent_at.g T.d_exponent_at.F.kp T.d_exponent_at.b .nil pass0 (pa_cons (pv 0) (pa_cons (pv 1) pa_nil))) (pg_tup rfl (pgs_cons (pg_name (i := 2) sc_is_square_in.nd rfl (.inl rfl)) (pgs_cons (pg_name (i := 3) sc_is_square_in.nd rfl (.inl rfl)) pgs_nil))))
      (pss_cons (ps_if (pt_cmpR op_eq (pe_op op_mod (pv 2) pe_int) pe_int (nomark _)) (pss_one (ps_ret pe_bl)) pss_nil)
      (pss_one (ps_ret (pe_ifExp (pt_cmpR op_eq (pv 0) pe_int (nomark _)) (pe_cmpR op_eq (pe_op op_mod (pv 3) pe_int) pe_int (nomark _)) (pe_cmpR op_eq (pe_call (ok_square_sign_in T) (hr.mono (by decide)) (by rfl) T.d_square_sign_in.g T.d_square_sign_in.F.kp T.d_square_sign_in.b .nil pass0 (pa_cons (pv 0) (pa_cons (pv 3) pa_nil))) pe_int (nomark _)))))))), ?_⟩
    refine ⟨_, rfl, rfl, _, rfl, ite2 (fun hd => ?_) (fun hd => ?_)⟩
    · have q0 : q = 0 := V.int.inj (of_decide_eq_true hd)
      subst q0
      exact ⟨_, rfl, _, _, rfl, rfl, kk H (Same.refl _)⟩
    have q0 : q ≠ 0 := fun z => hd (decide_eq_true (congrArg V.int z))
    have ht : Tri q := hq.resolve_left q0
    have h2 := ht.1
    have h6 := ht.2.1
    have pa := par_bit h2 a
    have uu := (ex_spec h2 ha).2
    refine ⟨_, rfl, _, rfl, q, a, rfl, h2, h6, ha, fun p hp => ?_⟩
    have kq := kk (upd H p (.tup [.int (ex q a : Nat), .int (un q a)])) (same_upd hp)
    have e : isq q a = (!par q a && (if q = 2 then decide (un 2 a % 8 = 1) else K86.E q (un q a))) := if_neg q0
    rw [e] at kq
    refine ⟨p, _, rfl, SqT.at upd_same, rfl, _, _, rfl, _, _, rfl, rfl, ?_⟩
    refine ⟨_, rfl, _, _, rfl, rfl, show (0 : Int) < 2 by decide, rfl, _, rfl, ite2 (fun hk => ?_) (fun hk => ?_)⟩
    · have hk2 := V.int.inj (of_decide_eq_true hk)
      rw [pa] at hk2
      have ea : par q a = true := by
        cases e : par q a with
        | true => rfl
        | false => rw [e] at hk2; exact absurd hk2 (by decide)
      rw [ea] at kq
      exact kq
    · have ea : par q a = false := by
        cases e : par q a with
        | false => rfl
        | true => rw [e] at pa; exact absurd (decide_eq_true (congrArg V.int pa)) hk
      rw [ea] at kq
      refine ⟨_, rfl, rfl, _, rfl, ite2 (fun hd2 => ?_) (fun hd2 => ?_)⟩
      · have q2 : q = 2 := V.int.inj (of_decide_eq_true hd2)
        subst q2
        rw [if_pos rfl, ← decV] at kq
        exact ⟨_, rfl, _, _, rfl, rfl, show (0 : Int) < 8 by decide, rfl, kq⟩
      · have q2 : q ≠ 2 := fun z => hd2 (decide_eq_true (congrArg V.int z))
        rw [if_neg q2] at kq
        refine ⟨_, rfl, _, rfl, q, _, rfl, by omega, h6, uu, rfl, ?_⟩
        rw [decV]
        unfold leg
        revert kq
        cases K86.E q (un q a) <;> exact id
theorem OkN.bnd {a b : Int} (h : OkN a b) : (a * b).natAbs ≤ 1000000000000 := by
  have := h.al; have := h.ah; have := h.b0; have := h.bh
  rw [Int.natAbs_mul]
  exact Nat.mul_le_mul (show a.natAbs ≤ 1000000 by omega) (show b.natAbs ≤ 1000000 by omega)
theorem OkN.ne {a b : Int} (h : OkN a b) : a * b ≠ 0 := Int.mul_ne_zero h.a0 (by have := h.b0; omega)
theorem OkN.b64 {a b : Int} (h : OkN a b) : -(2 ^ 64) < a ∧ a < 2 ^ 64 := by
  have := h.al; have := h.ah
  omega
def sp_is_square_at : Sp := fun vs H Q _ => ∃ q v a b, vs = [.int q, v] ∧ PT q ∧ NumV H v a b ∧ OkN a b ∧ ∀ H', Same H H' → Q (.bl (isq q (a * b))) H'
theorem ok_is_square_at (T : Txt K mg) : FnOk P w K mg base CX0 5 T.d_is_square_at.f T.d_is_square_at.fd p_is_square_at (sp_is_square_at) := by
  refine T.d_is_square_at.F.ok sc_is_square_at (fun vs H Q E h => ?_) (fun cdv A outer s H vs Q E hr h => ?_)
  · obtain ⟨q, v, a, b, rfl, _⟩ := h
    rfl
  · obtain ⟨q, v, a, b, rfl, hq, hv, N, kk⟩ := h
    refine ⟨_, (pss_cons (ps_expr (pe_call (ok_require_place T) (hr.mono (by decide)) (by rfl) T.d_require_place.g T.d_require_place.F.kp T.d_require_place.b .nil pass0 (pa_cons (pv 0) pa_nil)))
      (pss_cons (ps_expr (pe_call (ok_require_signed T) (hr.mono (by decide)) (by rfl) T.d_require_signed.g T.d_require_signed.F.kp T.d_require_signed.b .nil pass0 (pa_cons (pv 1) pa_nil)))
      (pss_one (ps_ret (pe_call (ok_is_square_in T) (hr.mono (by decide)) (by rfl) T.d_is_square_in.g T.d_is_square_in.F.kp T.d_is_square_in.b .nil pass0 (pa_cons (pv 0) (pa_cons (pe_call (ok_whole_of T) (hr.mono (by decide)) (by rfl) T.d_whole_of.g T.d_whole_of.F.kp T.d_whole_of.b .nil pass0 (pa_cons (pv 1) pa_nil)) pa_nil))))))), ?_⟩
    refine ⟨_, rfl, q, rfl, hq, _, rfl, v, a, b, rfl, hv, N, fun H1 s1 => ?_⟩
    refine ⟨_, rfl, _, rfl, v, a, b, rfl, hv.same s1, N.b64, fun H2 s2 => ?_⟩
    exact ⟨q, _, rfl, hq, N.ne, fun H3 s3 => kk _ ((s1.trans s2).trans s3)⟩
def sp_sign_at : Sp := fun vs H Q _ => ∃ q v a b u c d, vs = [.int q, v, u] ∧ PT q ∧ NumV H v a b ∧ OkN a b ∧ NumV H u c d ∧ OkN c d ∧ ∀ H', Same H H' → Q (.int (hs q (a * b) (c * d))) H'
theorem ok_sign_at (T : Txt K mg) : FnOk P w K mg base CX0 5 T.d_sign_at.f T.d_sign_at.fd p_sign_at (sp_sign_at) := by
  refine T.d_sign_at.F.ok sc_sign_at (fun vs H Q E h => ?_) (fun cdv A outer s H vs Q E hr h => ?_)
  · obtain ⟨q, v, a, b, u, c, d, rfl, _⟩ := h
    rfl
  · obtain ⟨q, v, a, b, u, c, d, rfl, hq, hv, N, hu, M, kk⟩ := h
    refine ⟨_, (pss_cons (ps_expr (pe_call (ok_require_place T) (hr.mono (by decide)) (by rfl) T.d_require_place.g T.d_require_place.F.kp T.d_require_place.b .nil pass0 (pa_cons (pv 0) pa_nil)))
      (pss_cons (ps_expr (pe_call (ok_require_signed T) (hr.mono (by decide)) (by rfl) T.d_require_signed.g T.d_require_signed.F.kp T.d_require_signed.b .nil pass0 (pa_cons (pv 1) pa_nil)))
      (pss_cons (ps_expr (pe_call (ok_require_signed T) (hr.mono (by decide)) (by rfl) T.d_require_signed.g T.d_require_signed.F.kp T.d_require_signed.b .nil pass0 (pa_cons (pv 2) pa_nil)))
      (pss_one (ps_ret (pe_call (ok_sign_in T) (hr.mono (by decide)) (by rfl) T.d_sign_in.g T.d_sign_in.F.kp T.d_sign_in.b .nil pass0 (pa_cons (pv 0) (pa_cons (pe_call (ok_whole_of T) (hr.mono (by decide)) (by rfl) T.d_whole_of.g T.d_whole_of.F.kp T.d_whole_of.b .nil pass0 (pa_cons (pv 1) pa_nil)) (pa_cons (pe_call (ok_whole_of T) (hr.mono (by decide)) (by rfl) T.d_whole_of.g T.d_whole_of.F.kp T.d_whole_of.b .nil pass0 (pa_cons (pv 2) pa_nil)) pa_nil))))))))), ?_⟩
    refine ⟨_, rfl, q, rfl, hq, _, rfl, v, a, b, rfl, hv, N, fun H1 s1 => ?_⟩
    refine ⟨_, rfl, u, c, d, rfl, hu.same s1, M, fun H2 s2 => ?_⟩
    have s12 := s1.trans s2
    refine ⟨_, rfl, _, rfl, v, a, b, rfl, hv.same s12, N.b64, fun H3 s3 => ?_⟩
    have s13 := s12.trans s3
    refine ⟨_, rfl, u, c, d, rfl, hu.same s13, M.b64, fun H4 s4 => ?_⟩
    exact ⟨q, _, _, rfl, hq, N.ne, M.ne, N.bnd, M.bnd, fun H5 s5 => kk _ ((s13.trans s4).trans s5)⟩
/-! the law's dice -/
def Dc (H : Hp) (d : Addr) : Prop := ∃ x y z : Int, H d = some (.lst [.int x, .int y, .int z])
def SB (d : Addr) (H H' : Hp) : Prop := (∀ b o, b ≠ d → H b = some o → H' b = some o) ∧ Dc H' d
theorem SB.refl {d : Addr} {H : Hp} (h : Dc H d) : SB d H H := ⟨fun _ _ _ e => e, h⟩
theorem SB.trans {d : Addr} {H H1 H2 : Hp} (a : SB d H H1) (b : SB d H1 H2) : SB d H H2 := ⟨fun c o n h => b.1 c o n (a.1 c o n h), b.2⟩
theorem SB.same {d : Addr} {H H1 H2 : Hp} (a : SB d H H1) (b : Same H1 H2) : SB d H H2 := ⟨fun c o n h => b c o (a.1 c o n h), by
  obtain ⟨x, y, z, e⟩ := a.2
  exact ⟨x, y, z, b _ _ e⟩⟩
theorem Dc.same {d : Addr} {H H' : Hp} (h : Dc H d) (s : Same H H') : Dc H' d := by
  obtain ⟨x, y, z, e⟩ := h
  exact ⟨x, y, z, s _ _ e⟩
theorem Dc.ne {d p : Addr} {H : Hp} (h : Dc H d) (hp : H p = none) : p ≠ d := by
  obtain ⟨x, y, z, e⟩ := h
  exact (ne_of_none e hp).symm
theorem Dc.neT {d p : Addr} {H : Hp} {xs : List V} (h : Dc H d) (hp : H p = some (.tup xs)) : p ≠ d := by
  obtain ⟨x, y, z, e⟩ := h
  exact ne_of hp e (by intro z; cases z)
theorem NumV.sb {d : Addr} {H H' : Hp} {v : V} {a b : Int} (h : NumV H v a b) (hd : Dc H d) (s : SB d H H') : NumV H' v a b := by
  rcases h with h | ⟨t, h1, h2⟩
  · exact .inl h
  · exact .inr ⟨t, h1, s.1 _ _ (hd.neT h2) h2⟩
def sp__law_dice (K : PySem.W.Frag) : Sp := fun vs H Q _ => ∃ (a : Addr) (ns : List Int) (at' : Nat), vs = [.ref a, .int at'] ∧ SqL K H a (ns.map V.int) ∧ at' < 100 ∧ ∀ p H', H p = none → Same H H' → Dc H' p → Q (.ref p) H'
theorem ok__law_dice (T : Txt K mg) : FnOk P w K mg base CX0 1 T.d__law_dice.f T.d__law_dice.fd p__law_dice (sp__law_dice K) := by
  refine T.d__law_dice.F.ok sc__law_dice (fun vs H Q E h => ?_) (fun cdv A outer s H vs Q E hr h => ?_)
  · obtain ⟨a, ns, at', rfl, _⟩ := h
    rfl
  · obtain ⟨a, ns, at', rfl, hS, hat, kk⟩ := h
    refine ⟨_, (pss_cons (ps_set (i := 2) sc__law_dice.nd rfl (.inl rfl) (pe_op op_add (pe_op op_mul pe_int (pv 1)) pe_int))
      (C8.pss_cut (ps_if (pt_cmpR op_lt (pv 1) (pe_callB call_len_seq (by rfl) T.n_len (by decide +kernel) (pa_cons (pv 0) pa_nil)) (nomark _)) (pss_one (ps_set (i := 2) sc__law_dice.nd rfl (.inl rfl) (pe_ix ix_list (pv 0) (pv 1) (fun _ _ => rfl)))) pss_nil)
      (pss_cons (ps_set (i := 3) sc__law_dice.nd rfl (.inl rfl) (pe_op op_mod (pe_callTy call_int1 (by rfl) T.n_int (by decide +kernel) (pa_cons (pe_callB call_abs (by rfl) T.n_abs (by decide +kernel) (pa_cons (pv 2) pa_nil)) pa_nil)) (pe_op op_powW (pe_op op_powW pe_int pe_int) pe_int)))
      (pss_cons (ps_set (i := 4) sc__law_dice.nd rfl (.inl rfl) (pe_op op_fdivW (pv 3) (pe_op op_powW pe_int pe_int)))
      (pss_cons (ps_set (i := 5) sc__law_dice.nd rfl (.inl rfl) (pe_op op_add (pe_op op_add (pe_op op_add (pe_op op_mul (pe_op op_mod (pv 3) pe_int) pe_int) (pe_op op_mul pe_int (pv 1))) (pe_op op_mul pe_int (pe_callTy call_int1 (by rfl) T.n_int (by decide +kernel) (pa_cons (pe_cmpR op_lt (pv 2) pe_int (nomark _)) pa_nil)))) pe_int))
      (pss_one (ps_ret (pe_lst (pa_cons (pv 4) (pa_cons (pe_op op_mod (pv 5) pe_int) (pa_cons pe_int pa_nil))))))))))), ?_⟩
    refine ⟨_, rfl, _, _, rfl, rfl, .inl ⟨by decide, by decide⟩, _, _, rfl, rfl, ?_⟩
    refine ⟨fun σ' H' => H' = H ∧ ∃ c : Int, σ' = [some (.ref a), some (.int at'), some (.int c), none, none, none], ?_, fun σ' H' hM => ?_⟩
    · refine ⟨_, rfl, _, rfl, a, _, rfl, .inl hS, _, _, rfl, rfl, _, rfl, ite2 (fun hd => ?_) (fun hd => ?_)⟩
      · have hlt := of_decide_eq_true hd
        rw [List.length_map] at hlt
        have hl : at' < ns.length := by omega
        refine ⟨_, rfl, _, rfl, a, _, _, .int ns[at'], rfl, rfl, hS, atI_nat ?_, rfl, _, rfl⟩
        rw [List.getElem?_map, List.getElem?_eq_getElem hl]
        rfl
      · exact ⟨rfl, _, rfl⟩
    · obtain ⟨rfl, c, rfl⟩ := hM
      refine ⟨_, rfl, _, rfl, .inl ⟨_, rfl, ?_⟩⟩
      refine ⟨_, _, rfl, rfl, ⟨by decide, by decide +kernel⟩, _, _, rfl, rfl, ⟨by decide, by decide +kernel⟩, _, _, rfl, rfl, ?_, ?_⟩
      · show (0 : Int) < _
        decide +kernel
      refine ⟨_, rfl, _, _, rfl, rfl, ⟨by decide, by decide +kernel⟩, _, _, rfl, rfl, ⟨by decide +kernel, by decide +kernel⟩, ?_⟩
      refine ⟨_, rfl, _, _, rfl, rfl, show (0 : Int) < 2147482589 by decide, _, _, rfl, rfl, .inr ⟨by decide, by decide⟩, _, rfl, _, _, rfl, rfl, .inl ⟨by decide, by decide⟩, _, _, rfl, rfl, ?_⟩
      refine ⟨_, rfl, _, _, rfl, rfl, .inr ⟨_, rfl, _, _, rfl, rfl, .inl ⟨by decide, by decide⟩, _, _, rfl, rfl, _, _, rfl, rfl, ?_⟩⟩
      refine ⟨_, rfl, _, rfl, _, _, rfl, rfl, show (0 : Int) < 2147482577 by decide, by show 3 ≤ sizeLine; decide, fun p hp => ?_⟩
      exact kk p _ hp (same_upd hp) ⟨_, _, _, upd_same⟩
def sp__law_roll : Sp := fun vs H Q _ => ∃ (d : Addr) (n : Int), vs = [.ref d, .int n] ∧ Dc H d ∧ 0 < n ∧ n < 1073741824 ∧ ∀ r H', 0 ≤ r → r < n → SB d H H' → Q (.int r) H'
theorem sb_upd {d : Addr} {H : Hp} {x y z : Int} : SB d H (upd H d (.lst [.int x, .int y, .int z])) := ⟨fun b o n e => by rw [upd_ne n]; exact e, _, _, _, upd_same⟩
theorem ok__law_roll (T : Txt K mg) : FnOk P w K mg base CX0 1 T.d__law_roll.f T.d__law_roll.fd p__law_roll (sp__law_roll) := by
  refine T.d__law_roll.F.ok sc__law_roll (fun vs H Q E h => ?_) (fun cdv A outer s H vs Q E hr h => ?_)
  · obtain ⟨d, n, rfl, _⟩ := h
    rfl
  · obtain ⟨d, n, rfl, ⟨x, y, z, hd⟩, n0, n1, kk⟩ := h
    refine ⟨_, (pss_cons (ps_set (i := 2) sc__law_roll.nd rfl (.inl rfl) (pe_callTy call_int1 (by rfl) T.n_int (by decide +kernel) (pa_cons (pv 1) pa_nil)))
      (pss_cons (ps_if (pt_cmpR op_gt (pe_ix ix_list (pv 0) pe_int (fun _ _ => rfl)) pe_int (nomark _)) (pss_cons (ps_set (i := 3) sc__law_roll.nd rfl (.inl rfl) (pe_op op_mod (pe_ix ix_list (pv 0) pe_int (fun _ _ => rfl)) (pv 2)))
      (pss_cons (ps_asg (pe_op op_fdiv (pe_ix ix_list (pv 0) pe_int (fun _ _ => rfl)) (pv 2)) (pg_sub (pv 0) pe_int set_list))
      (pss_one (ps_ret (pe_callTy call_int1 (by rfl) T.n_int (by decide +kernel) (pa_cons (pv 3) pa_nil)))))) pss_nil)
      (pss_cons (ps_asg (pe_op op_add (pe_ix ix_list (pv 0) pe_int (fun _ _ => rfl)) pe_int) (pg_sub (pv 0) pe_int set_list))
      (pss_cons (ps_set (i := 4) sc__law_roll.nd rfl (.inl rfl) (pe_op op_mod (pe_op op_add (pe_ix ix_list (pv 0) pe_int (fun _ _ => rfl)) (pe_op op_mul pe_int (pe_ix ix_list (pv 0) pe_int (fun _ _ => rfl)))) pe_int))
      (pss_cons (ps_set (i := 5) sc__law_roll.nd rfl (.inl rfl) (pe_op op_add (pe_op op_mul (pe_op op_mod (pe_op op_mul (pv 4) (pv 4)) pe_int) (pv 4)) (pe_op op_mul pe_int (pe_ix ix_list (pv 0) pe_int (fun _ _ => rfl)))))
      (pss_cons (ps_set (i := 5) sc__law_roll.nd rfl (.inl rfl) (pe_op op_mod (pv 5) pe_int))
      (pss_one (ps_ret (pe_callTy call_int1 (by rfl) T.n_int (by decide +kernel) (pa_cons (pe_op op_mod (pe_op op_fdiv (pv 5) pe_int) (pv 2)) pa_nil)))))))))), ?_⟩
    refine ⟨_, rfl, .inl ⟨_, rfl, ?_⟩⟩
    refine ⟨_, rfl, d, _, 0, .int x, rfl, rfl, SqL.at hd, rfl, _, _, rfl, rfl, _, rfl, ite2 (fun hx => ?_) (fun hx => ?_)⟩
    · refine ⟨_, rfl, d, _, 0, .int x, rfl, rfl, SqL.at hd, rfl, _, rfl, _, _, rfl, rfl, n0, ?_⟩
      refine ⟨_, rfl, d, _, 0, .int x, rfl, rfl, SqL.at hd, rfl, _, rfl, _, _, rfl, rfl, ⟨n0, n1⟩, ?_⟩
      refine ⟨_, rfl, d, _, 0, 0, rfl, rfl, hd, rfl, ?_⟩
      exact ⟨_, rfl, .inl ⟨_, rfl, kk _ _ (Int.emod_nonneg _ (by omega)) (Int.emod_lt_of_pos _ n0) sb_upd⟩⟩
    · refine ⟨_, rfl, d, _, 2, .int z, rfl, rfl, SqL.at hd, rfl, _, _, rfl, rfl, ?_⟩
      refine ⟨_, rfl, d, _, 2, 2, rfl, rfl, hd, rfl, ?_⟩
      have hd2 : upd H d (.lst [.int x, .int y, .int (z + 1)]) d = some (.lst [.int x, .int y, .int (z + 1)]) := upd_same
      refine ⟨_, rfl, d, _, 1, .int y, rfl, rfl, SqL.at hd2, rfl, _, rfl, d, _, 2, .int (z + 1), rfl, rfl, SqL.at hd2, rfl, _, _, rfl, rfl, .inl ⟨by decide, by decide⟩, _, _, rfl, rfl, _, _, rfl, rfl, show (0 : Int) < 2305843009213693951 by decide, ?_⟩
      have l1 := Int.emod_nonneg (y + 1000393 * (z + 1)) (show (2305843009213693951 : Int) ≠ 0 by decide)
      have l2 := Int.emod_lt_of_pos (y + 1000393 * (z + 1)) (show (0 : Int) < 2305843009213693951 by decide)
      refine ⟨_, rfl, _, rfl, _, _, rfl, rfl, .inl ⟨by omega, by omega⟩, _, _, rfl, rfl, show (0 : Int) < 2305843009213693921 by decide, _, rfl, _, _, rfl, rfl, .inr ⟨by omega, by omega⟩, ?_⟩
      refine ⟨_, rfl, d, _, 2, .int (z + 1), rfl, rfl, SqL.at hd2, rfl, _, _, rfl, rfl, .inl ⟨by decide, by decide⟩, _, _, rfl, rfl, ?_⟩
      refine ⟨_, rfl, _, _, rfl, rfl, show (0 : Int) < 2305843009213693907 by decide, ?_⟩
      refine ⟨_, rfl, _, _, rfl, rfl, ⟨by decide, by decide⟩, _, rfl, _, _, rfl, rfl, n0, .inl ⟨_, rfl, ?_⟩⟩
      exact kk _ _ (Int.emod_nonneg _ (by omega)) (Int.emod_lt_of_pos _ n0) sb_upd
def sp__law_one_of : Sp := fun vs H Q _ => ∃ (d ia : Addr) (xs : List V), vs = [.ref d, .ref ia] ∧ Dc H d ∧ ia ≠ d ∧ H ia = some (.lst xs) ∧ 0 < xs.length ∧ xs.length < 1000 ∧ ∀ (i : Nat) v H', xs[i]? = some v → SB d H H' → Q v H'
theorem ok__law_one_of (T : Txt K mg) : FnOk P w K mg base CX0 2 T.d__law_one_of.f T.d__law_one_of.fd p__law_one_of (sp__law_one_of) := by
  refine T.d__law_one_of.F.ok sc__law_one_of (fun vs H Q E h => ?_) (fun cdv A outer s H vs Q E hr h => ?_)
  · obtain ⟨d, ia, xs, rfl, _⟩ := h
    rfl
  · obtain ⟨d, ia, xs, rfl, hD, hne, hi, l0, l1, kk⟩ := h
    refine ⟨_, (pss_one (ps_ret (pe_ix ix_list (pv 1) (pe_call (ok__law_roll T) (hr.mono (by decide)) (by rfl) T.d__law_roll.g T.d__law_roll.F.kp T.d__law_roll.b .nil pass0 (pa_cons (pv 0) (pa_cons (pe_callB call_len_seq (by rfl) T.n_len (by decide +kernel) (pa_cons (pv 1) pa_nil)) pa_nil))) (fun _ _ => rfl)))), ?_⟩
    refine ⟨_, rfl, _, rfl, _, rfl, ia, _, rfl, .inl (SqL.at hi), d, _, rfl, hD, by omega, by omega, fun r H1 h0 h1 sb => ?_⟩
    obtain ⟨n, rfl⟩ := Int.eq_ofNat_of_zero_le h0
    have hl : n < xs.length := by omega
    exact ⟨ia, _, _, xs[n], rfl, rfl, SqL.at (sb.1 _ _ hne hi), atI_nat (List.getElem?_eq_getElem hl), kk n _ _ (List.getElem?_eq_getElem hl) sb⟩
/-! ratios -/
def sp__law_lowest : Sp := fun vs H Q _ => ∃ a b : Int, vs = [.int a, .int b] ∧ 0 < b ∧ b < 1073741824 ∧ ∀ p x y g H', Same H H' → H' p = some (.tup [.int x, .int y]) → 0 < g → x * g = a → y * g = b → 0 < y → Nat.gcd x.natAbs y.natAbs = 1 → Q (.ref p) H'
theorem low {a b : Int} (hb : 0 < b) : ∃ g : Int, g = (Nat.gcd a.natAbs b.natAbs : Nat) ∧ 0 < g ∧ g ≤ b ∧ a / g * g = a ∧ b / g * g = b ∧ 0 < b / g ∧ Nat.gcd (a / g).natAbs (b / g).natAbs = 1 := by
  have hg : 0 < Nat.gcd a.natAbs b.natAbs := Nat.gcd_pos_of_pos_right _ (by omega)
  have hle : Nat.gcd a.natAbs b.natAbs ≤ b.natAbs := Nat.gcd_le_right _ (by omega)
  have da : ((Nat.gcd a.natAbs b.natAbs : Nat) : Int) ∣ a := Int.ofNat_dvd_left.mpr (Nat.gcd_dvd_left _ _)
  have db : ((Nat.gcd a.natAbs b.natAbs : Nat) : Int) ∣ b := Int.ofNat_dvd_left.mpr (Nat.gcd_dvd_right _ _)
  refine ⟨_, rfl, by omega, by omega, ?_⟩
  have ea := Int.ediv_mul_cancel da
  have eb := Int.ediv_mul_cancel db
  have eg : Nat.gcd (a / (Nat.gcd a.natAbs b.natAbs : Nat)).natAbs (b / (Nat.gcd a.natAbs b.natAbs : Nat)).natAbs * Nat.gcd a.natAbs b.natAbs = Nat.gcd a.natAbs b.natAbs := by
    have e1 : (a / (Nat.gcd a.natAbs b.natAbs : Nat)).natAbs * Nat.gcd a.natAbs b.natAbs = a.natAbs := by
      have := congrArg Int.natAbs ea
      rw [Int.natAbs_mul] at this
      exact this
    have e2 : (b / (Nat.gcd a.natAbs b.natAbs : Nat)).natAbs * Nat.gcd a.natAbs b.natAbs = b.natAbs := by
      have := congrArg Int.natAbs eb
      rw [Int.natAbs_mul] at this
      exact this
    rw [← Nat.gcd_mul_right, e1, e2]
  refine ⟨ea, eb, ?_, Nat.eq_of_mul_eq_mul_right hg (by rw [eg, Nat.one_mul])⟩
  have hgi : (0 : Int) < (Nat.gcd a.natAbs b.natAbs : Nat) := by omega
  generalize ((Nat.gcd a.natAbs b.natAbs : Nat) : Int) = g at *
  by_cases h : 0 < b / g
  · exact h
  · exfalso
    have : b / g * g ≤ 0 := Int.mul_nonpos_of_nonpos_of_nonneg (by omega) (by omega)
    omega
theorem ok__law_lowest (T : Txt K mg) : FnOk P w K mg base CX0 2 T.d__law_lowest.f T.d__law_lowest.fd p__law_lowest (sp__law_lowest) := by
  refine T.d__law_lowest.F.ok sc__law_lowest (fun vs H Q E h => ?_) (fun cdv A outer s H vs Q E hr h => ?_)
  · obtain ⟨a, b, rfl, _⟩ := h
    rfl
  · obtain ⟨a, b, rfl, hb, hb2, kk⟩ := h
    refine ⟨_, (pss_cons (ps_set (i := 2) sc__law_lowest.nd rfl (.inl rfl) (pe_call (ok__law_gcd T) (hr.mono (by decide)) (by rfl) T.d__law_gcd.g T.d__law_gcd.F.kp T.d__law_gcd.b .nil pass0 (pa_cons (pv 0) (pa_cons (pv 1) pa_nil))))
      (pss_cons (ps_if (pt_cmpR op_lt (pv 1) pe_int (nomark _)) (pss_one (ps_set (i := 2) sc__law_lowest.nd rfl (.inl rfl) (pe_op op_sub pe_int (pv 2)))) pss_nil)
      (pss_one (ps_ret (pe_tup (pa_cons (pe_op op_fdiv (pv 0) (pv 2)) (pa_cons (pe_op op_fdiv (pv 1) (pv 2)) pa_nil))))))), ?_⟩
    obtain ⟨g, eg, g0, gb, ea, eb, y0, gc⟩ := low (a := a) hb
    refine ⟨_, rfl, _, rfl, a, b, rfl, ?_⟩
    rw [← eg]
    refine ⟨_, rfl, _, _, rfl, rfl, _, rfl, ite2 (fun hd => ?_) (fun hd => ?_)⟩
    · exact absurd (of_decide_eq_true hd) (by omega)
    refine ⟨_, rfl, _, rfl, _, _, rfl, rfl, ⟨g0, by omega⟩, _, rfl, _, rfl, _, _, rfl, rfl, ⟨g0, by omega⟩, by show 2 ≤ sizeLine; decide, fun p hp => ?_⟩
    exact kk p _ _ g _ (same_upd hp) upd_same g0 ea eb y0 gc
end
end K86
namespace K86
open PySem PySem.Spec PyProof.Rows L2
section
variable {P : Program} {w : World} {K : PySem.W.Frag} {mg : Str → Option Value} {base : Heap}

structure Small (a b : Int) : Prop where
  a0 : a ≠ 0
  al : -5000 ≤ a
  ah : a ≤ 5000
  b0 : 0 < b
  bh : b ≤ 60
  g : Nat.gcd a.natAbs b.natAbs = 1
theorem of_at {xs : List V} {i : Nat} {v : V} (h : xs[i]? = some v) : v ∈ xs := List.mem_of_getElem? h
def sp__law_drawn : Sp := fun vs H Q _ => ∃ d, vs = [.ref d] ∧ Dc H d ∧ ∀ v a b H', SB d H H' → NumV H' v a b → Small a b → Q v H'
theorem ok__law_drawn (T : Txt K mg) : FnOk P w K mg base CX0 3 T.d__law_drawn.f T.d__law_drawn.fd p__law_drawn (sp__law_drawn) := by
  refine T.d__law_drawn.F.ok sc__law_drawn (fun vs H Q E h => ?_) (fun cdv A outer s H vs Q E hr h => ?_)
  · obtain ⟨d, rfl, _⟩ := h
    rfl
  · obtain ⟨d, rfl, hD, kk⟩ := h
    refine ⟨_, (C8.pss_cut (ps_set (i := 1) sc__law_drawn.nd rfl (.inl rfl) (pe_op op_mul (pe_op op_add pe_int (pe_call (ok__law_roll T) (hr.mono (by decide)) (by rfl) T.d__law_roll.g T.d__law_roll.F.kp T.d__law_roll.b .nil pass0 (pa_cons (pv 0) (pa_cons (pe_call (ok__law_one_of T) (hr.mono (by decide)) (by rfl) T.d__law_one_of.g T.d__law_one_of.F.kp T.d__law_one_of.b .nil pass0 (pa_cons (pv 0) (pa_cons (pe_lst (pa_cons pe_int (pa_cons pe_int (pa_cons pe_int pa_nil)))) pa_nil))) pa_nil)))) (pe_call (ok__law_one_of T) (hr.mono (by decide)) (by rfl) T.d__law_one_of.g T.d__law_one_of.F.kp T.d__law_one_of.b .nil pass0 (pa_cons (pv 0) (pa_cons (pe_lst (pa_cons pe_int (pa_cons (pe_un un_neg pe_int) pa_nil))) pa_nil)))))
      (pss_cons (ps_if (pt_cmpR op_gt (pe_call (ok__law_roll T) (hr.mono (by decide)) (by rfl) T.d__law_roll.g T.d__law_roll.F.kp T.d__law_roll.b .nil pass0 (pa_cons (pv 0) (pa_cons pe_int pa_nil))) pe_int (nomark _)) (pss_one (ps_ret (pv 1))) pss_nil)
      (pss_one (ps_ret (pe_call (ok__law_lowest T) (hr.mono (by decide)) (by rfl) T.d__law_lowest.g T.d__law_lowest.F.kp T.d__law_lowest.b .nil pass0 (pa_cons (pv 1) (pa_cons (pe_op op_add pe_int (pe_call (ok__law_roll T) (hr.mono (by decide)) (by rfl) T.d__law_roll.g T.d__law_roll.F.kp T.d__law_roll.b .nil pass0 (pa_cons (pv 0) (pa_cons pe_int pa_nil)))) pa_nil))))))), ?_⟩
    refine ⟨fun σ' H' => SB d H H' ∧ ∃ t : Int, σ' = [some (.ref d), some (.int t)] ∧ t ≠ 0 ∧ -5000 ≤ t ∧ t ≤ 5000, ?_, fun σ' H' hM => ?_⟩
    · refine ⟨_, rfl, _, rfl, by show 3 ≤ sizeLine; decide, fun ia hia => ?_⟩
      refine ⟨d, ia, _, rfl, hD.same (same_upd hia), hD.ne hia, upd_same, by decide, by decide, fun i v H1 hv sb1 => ?_⟩
      obtain ⟨n, rfl, n0, n1⟩ : ∃ n, v = .int n ∧ 0 < n ∧ n ≤ 5000 := by
        have := of_at hv
        simp only [List.mem_cons, List.not_mem_nil, or_false] at this
        rcases this with rfl | rfl | rfl
        · exact ⟨_, rfl, by decide, by decide⟩
        · exact ⟨_, rfl, by decide, by decide⟩
        · exact ⟨_, rfl, by decide, by decide⟩
      refine ⟨d, n, rfl, sb1.2, n0, by omega, fun r H2 r0 r1 sb2 => ?_⟩
      refine ⟨_, _, rfl, rfl, _, rfl, _, rfl, by show 2 ≤ sizeLine; decide, fun ib hib => ?_⟩
      refine ⟨d, ib, _, rfl, sb2.2.same (same_upd hib), sb2.2.ne hib, upd_same, by decide, by decide, fun j u H3 hu sb3 => ?_⟩
      have sbA := (((SB.refl hD).same (same_upd hia)).trans sb1).trans sb2
      have sbB := (sbA.same (same_upd hib)).trans sb3
      have := of_at hu
      simp only [List.mem_cons, List.not_mem_nil, or_false] at this
      rcases this with rfl | rfl
      · exact ⟨_, _, rfl, rfl, .inl ⟨by omega, by omega⟩, sbB, (1 + r) * 1, rfl, by omega, by omega, by omega⟩
      · exact ⟨_, _, rfl, rfl, .inl ⟨by omega, by omega⟩, sbB, (1 + r) * -1, rfl, by omega, by omega, by omega⟩
    · obtain ⟨sb, t, rfl, t0, t1, t2⟩ := hM
      refine ⟨_, rfl, d, 3, rfl, sb.2, by decide, by decide, fun r H2 r0 r1 sb2 => ?_⟩
      refine ⟨_, _, rfl, rfl, _, rfl, ite2 (fun hd => ?_) (fun hd => ?_)⟩
      · exact ⟨_, rfl, kk _ t 1 _ (sb.trans sb2) (.inl ⟨rfl, rfl⟩) ⟨t0, t1, t2, by decide, by decide, Nat.gcd_one_right _⟩⟩
      · refine ⟨_, rfl, _, rfl, d, 60, rfl, sb2.2, by decide, by decide, fun m H3 m0 m1 sb3 => ?_⟩
        refine ⟨_, _, rfl, rfl, t, 1 + m, rfl, by omega, by omega, fun p x y g H4 s4 hp g0 ex ey y0 gc => ?_⟩
        refine kk _ x y _ (((sb.trans sb2).trans sb3).same s4) (.inr ⟨p, rfl, hp⟩) ⟨?_, ?_, ?_, y0, ?_, gc⟩
        · rintro rfl; omega
        · by_cases hx : 0 ≤ x
          · omega
          · have : x * g ≤ x * 1 := Int.mul_le_mul_of_nonpos_left (by omega) (by omega)
            omega
        · by_cases hx : 0 ≤ x
          · have : x * 1 ≤ x * g := Int.mul_le_mul_of_nonneg_left (by omega) hx
            omega
          · omega
        · have : y * 1 ≤ y * g := Int.mul_le_mul_of_nonneg_left (by omega) (by omega)
          omega
def sp__law_times : Sp := fun vs H Q _ => ∃ v a b u c d, vs = [v, u] ∧ NumV H v a b ∧ NumV H u c d ∧ (-(2 ^ 64) < a ∧ a < 2 ^ 64) ∧ 0 < b ∧ b ≤ 1000 ∧ 0 < d ∧ d ≤ 1000 ∧
  ∀ r x y g H', Same H H' → NumV H' r x y → 0 < g → x * g = a * c → y * g = b * d → 0 < y → Nat.gcd x.natAbs y.natAbs = 1 → Q r H'
theorem ok__law_times (T : Txt K mg) : FnOk P w K mg base CX0 3 T.d__law_times.f T.d__law_times.fd p__law_times (sp__law_times) := by
  refine T.d__law_times.F.ok sc__law_times (fun vs H Q E h => ?_) (fun cdv A outer s H vs Q E hr h => ?_)
  · obtain ⟨v, a, b, u, c, d, rfl, _⟩ := h
    rfl
  · obtain ⟨v, a, b, u, c, d, rfl, hv, hu, ha, b0, b1, d0, d1, kk⟩ := h
    refine ⟨_, (C8.pss_cut (ps_set (i := 2) sc__law_times.nd rfl (.inl rfl) (pe_ifExp (pt_val (pe_callB call_isi (by rfl) T.n_isinstance (by decide +kernel) (pa_cons (pv 0) (pa_cons (pe_bltn (v := .ty "tuple") (by rfl) T.n_tuple (by decide +kernel) rfl) pa_nil)))) (pv 0) (pe_tup (pa_cons (pv 0) (pa_cons pe_int pa_nil)))))
      (C8.pss_cut (ps_set (i := 3) sc__law_times.nd rfl (.inl rfl) (pe_ifExp (pt_val (pe_callB call_isi (by rfl) T.n_isinstance (by decide +kernel) (pa_cons (pv 1) (pa_cons (pe_bltn (v := .ty "tuple") (by rfl) T.n_tuple (by decide +kernel) rfl) pa_nil)))) (pv 1) (pe_tup (pa_cons (pv 1) (pa_cons pe_int pa_nil)))))
      (pss_cons (ps_set (i := 4) sc__law_times.nd rfl (.inl rfl) (pe_call (ok__law_lowest T) (hr.mono (by decide)) (by rfl) T.d__law_lowest.g T.d__law_lowest.F.kp T.d__law_lowest.b .nil pass0 (pa_cons (pe_op op_mul (pe_ix ix_tup (pv 2) pe_int (fun _ _ => rfl)) (pe_ix ix_tup (pv 3) pe_int (fun _ _ => rfl))) (pa_cons (pe_op op_mul (pe_ix ix_tup (pv 2) pe_int (fun _ _ => rfl)) (pe_ix ix_tup (pv 3) pe_int (fun _ _ => rfl))) pa_nil))))
      (pss_one (ps_ret (pe_ifExp (pt_cmpR op_eq (pe_ix ix_tup (pv 4) pe_int (fun _ _ => rfl)) pe_int (nomark _)) (pe_ix ix_tup (pv 4) pe_int (fun _ _ => rfl)) (pv 4))))))), ?_⟩
    refine ⟨fun σ' H' => Same H H' ∧ ∃ p, σ' = [some v, some u, some (.ref p), none, none] ∧ H' p = some (.tup [.int a, .int b]), ?_, fun σ' H1 hM => ?_⟩
    · rcases hv with ⟨rfl, rfl⟩ | ⟨t, rfl, ht⟩
      · refine ⟨_, rfl, _, _, _, _, false, rfl, .ty _, .base (.int a), kit_ty (by decide +kernel), _, rfl, iteF ?_⟩
        exact ⟨_, rfl, by show 2 ≤ sizeLine; decide, fun p hp => ⟨same_upd hp, p, rfl, upd_same⟩⟩
      · refine ⟨_, rfl, _, _, _, _, true, rfl, .ty _, .base (.tup ht), kit_ty (by decide +kernel), _, rfl, iteT ?_⟩
        exact ⟨_, rfl, Same.refl _, t, rfl, ht⟩
    obtain ⟨s1, p, rfl, hp⟩ := hM
    refine ⟨fun σ' H' => Same H1 H' ∧ ∃ q, σ' = [some v, some u, some (.ref p), some (.ref q), none] ∧ H' q = some (.tup [.int c, .int d]), ?_, fun σ' H2 hM => ?_⟩
    · rcases hu.same s1 with ⟨rfl, rfl⟩ | ⟨t, rfl, ht⟩
      · refine ⟨_, rfl, _, _, _, _, false, rfl, .ty _, .base (.int c), kit_ty (by decide +kernel), _, rfl, iteF ?_⟩
        exact ⟨_, rfl, by show 2 ≤ sizeLine; decide, fun p hp => ⟨same_upd hp, p, rfl, upd_same⟩⟩
      · refine ⟨_, rfl, _, _, _, _, true, rfl, .ty _, .base (.tup ht), kit_ty (by decide +kernel), _, rfl, iteT ?_⟩
        exact ⟨_, rfl, Same.refl _, t, rfl, ht⟩
    obtain ⟨s2, q, rfl, hq⟩ := hM
    have hp2 := s2 _ _ hp
    have hbd : 0 < b * d ∧ b * d ≤ 1000 * 1000 := ⟨Int.mul_pos b0 d0, Int.mul_le_mul b1 d1 (by omega) (by decide)⟩
    refine ⟨_, rfl, _, _, 0, .int a, rfl, rfl, SqT.at hp2, rfl, _, rfl, _, _, 0, .int c, rfl, rfl, SqT.at hq, rfl, _, _, rfl, rfl, .inl ha, ?_⟩
    refine ⟨_, rfl, _, _, 1, .int b, rfl, rfl, SqT.at hp2, rfl, _, rfl, _, _, 1, .int d, rfl, rfl, SqT.at hq, rfl, _, _, rfl, rfl, .inl ⟨by omega, by omega⟩, ?_⟩
    refine ⟨_, _, rfl, hbd.1, by omega, fun l x y g H3 s3 hl g0 ex ey y0 gc => ?_⟩
    have s13 := (s1.trans s2).trans s3
    refine ⟨_, rfl, _, _, 1, .int y, rfl, rfl, SqT.at hl, rfl, rfl, _, rfl, ite2 (fun hd => ?_) (fun hd => ?_)⟩
    · have y1 : y = 1 := V.int.inj (of_decide_eq_true hd)
      exact ⟨_, rfl, _, _, 0, .int x, rfl, rfl, SqT.at hl, rfl, kk _ x y g _ s13 (.inl ⟨rfl, y1⟩) g0 ex ey y0 gc⟩
    · exact ⟨_, rfl, kk _ x y g _ s13 (.inr ⟨l, rfl, hl⟩) g0 ex ey y0 gc⟩
/-! primes of the law -/
theorem dp_ints (K : PySem.W.Frag) (H : Hp) : ∀ ns : List Int, DpAll K H (ns.map V.int) (ns.map PyData.int)
  | [] => .nil
  | n :: ns => .cons (.int n) (dp_ints K H ns)
theorem eqv_nil (ns : List Int) : PyData.eqv (.list (ns.map PyData.int)) (.list []) = true → ns = [] := by
  cases ns with
  | nil => intro _; rfl
  | cons n ns =>
    intro z
    rw [List.map_cons, PyData.eqv, PyData.eqvAll] at z
    cases z
def sp__law_is_prime : Sp := fun vs H Q _ => ∃ n : Int, vs = [.int n] ∧ 2 ≤ n ∧ n ≤ 1000000 ∧ ∀ b H', (b = true → Tri n) → Same H H' → Q (.bl b) H'
theorem ok__law_is_prime (T : Txt K mg) : FnOk P w K mg base CX0 1 T.d__law_is_prime.f T.d__law_is_prime.fd p__law_is_prime (sp__law_is_prime) := by
  refine T.d__law_is_prime.F.ok sc__law_is_prime (fun vs H Q E h => ?_) (fun cdv A outer s H vs Q E hr h => ?_)
  · obtain ⟨n, rfl, _⟩ := h
    rfl
  · obtain ⟨n, rfl, n2, n6, kk⟩ := h
    refine ⟨_, (pss_one (ps_ret (pe_cmpR (op_eqD hr.units) (pe_lc (own := [("_law_at", 1)]) (g := gName 1) rfl sc__law_is_prime.nd (pi_range2 (by rfl) T.n_range (pa_cons pe_int (pa_cons pe_int pa_nil))) (blkOk_by (N := N__law_is_prime) (sc := defScope s__law_is_prime) (by decide +kernel)) (fun _ _ _ _ _ => pg_name (i := 1) sc__law_is_prime.nd rfl (Or.inl rfl)) (fun _ _ _ _ _ => (pts_one (PW.pt (pw_and (pt_cmpR op_le (pe_op op_mul (pv 1) (pv 1)) (pv 0) (nomark _)) (pw_and1 (pt_cmpR op_eq (pe_op op_mod (pv 0) (pv 1)) pe_int (nomark _))))))) (fun _ _ _ _ _ => (pv 1))) (pe_lst pa_nil) (nomark _)))), ?_⟩
    refine ⟨2, 1001, rfl, ⟨by decide, by decide, by decide, by decide⟩, fun D hD => lc_range (lo := 2) (n := 999) (fun i H' => Same H H' ∧ ∃ acc : List Int, H' D = some (.lst (acc.map V.int)) ∧ acc.length ≤ i ∧ (acc = [] → ∀ d : Int, 2 ≤ d → d < 2 + i → d * d ≤ n → n % d ≠ 0)) ⟨same_upd hD, [], upd_same, by decide, fun _ d h1 h2 => absurd h1 (by omega)⟩ (fun i H' hi hP => ?_) (fun H' hP => ?_)⟩
    · obtain ⟨s1, acc, hl, hlen, hacc⟩ := hP
      refine ⟨rfl, _, rfl, _, rfl, _, _, rfl, rfl, .inl ⟨by omega, by omega⟩, _, rfl, _, _, rfl, rfl, _, rfl, ite2 (fun h1 => ?_) (fun h1 => ?_)⟩
      · refine ⟨_, rfl, _, rfl, _, _, rfl, rfl, show (0 : Int) < 2 + i by omega, rfl, _, rfl, ite2 (fun h2 => ?_) (fun h2 => ?_)⟩
        · refine ⟨_, rfl, acc.map V.int, hl, by rw [List.length_map]; exact small1000 (by omega), same_upd2 hD s1, acc ++ [2 + (i : Int)], ?_, ?_, ?_⟩
          · rw [upd_same, List.map_append]; rfl
          · rw [List.length_append]; exact Nat.succ_le_succ hlen
          · intro z; exact absurd z (by simp)
        · refine ⟨s1, acc, hl, by omega, fun z d d2 dl dd => ?_⟩
          by_cases e : d = 2 + (i : Int)
          · subst e
            exact fun z => h2 (decide_eq_true (congrArg V.int z))
          · exact hacc z d d2 (by omega) dd
      · refine ⟨s1, acc, hl, by omega, fun z d d2 dl dd => ?_⟩
        by_cases e : d = 2 + (i : Int)
        · subst e
          exact absurd (decide_eq_true dd) h1
        · exact hacc z d d2 (by omega) dd
    · obtain ⟨s1, acc, hl, hlen, hacc⟩ := hP
      refine ⟨by show 0 ≤ sizeLine; decide, fun p hp => ?_⟩
      have s2 := same_upd (o := .lst []) hp
      refine ⟨.list (acc.map PyData.int), .list ((([] : List Int)).map PyData.int), .lst (SqL.at (s2 _ _ hl)) (dp_ints K _ acc), .lst (SqL.at upd_same) .nil, PySem.W.shaped_ints acc, PySem.W.shaped_ints [], ?_⟩
      refine kk _ _ (fun z => ?_) (s1.trans s2)
      have ea := eqv_nil acc z
      refine ⟨n2, n6, fun d d2 dd => hacc ea d d2 ?_ dd⟩
      by_cases h : d ≤ 1000
      · omega
      · have : 1001 * 1001 ≤ d * d := Int.mul_le_mul (by omega) (by omega) (by decide) (by omega)
        omega
def sp__law_place_drawn : Sp := fun vs H Q _ => ∃ d, vs = [.ref d] ∧ Dc H d ∧ ∀ q H', SB d H H' → PT q → (q = 0 ∨ 11 ≤ q) → Q (.int q) H'
theorem ok__law_place_drawn (T : Txt K mg) : FnOk P w K mg base CX0 3 T.d__law_place_drawn.f T.d__law_place_drawn.fd p__law_place_drawn (sp__law_place_drawn) := by
  refine T.d__law_place_drawn.F.ok sc__law_place_drawn (fun vs H Q E h => ?_) (fun cdv A outer s H vs Q E hr h => ?_)
  · obtain ⟨d, rfl, _⟩ := h
    rfl
  · obtain ⟨d, rfl, hD, kk⟩ := h
    refine ⟨_, (C8.pss_cut (ps_set (i := 1) sc__law_place_drawn.nd rfl (.inl rfl) (pe_op op_add pe_int (pe_op op_mul pe_int (pe_call (ok__law_roll T) (hr.mono (by decide)) (by rfl) T.d__law_roll.g T.d__law_roll.F.kp T.d__law_roll.b .nil pass0 (pa_cons (pv 0) (pa_cons (pe_call (ok__law_one_of T) (hr.mono (by decide)) (by rfl) T.d__law_one_of.g T.d__law_one_of.F.kp T.d__law_one_of.b .nil pass0 (pa_cons (pv 0) (pa_cons (pe_lst (pa_cons pe_int (pa_cons pe_int (pa_cons pe_int pa_nil)))) pa_nil))) pa_nil))))))
      (pss_cons (ps_for PassesOwn.never rfl (pi_range1 (by rfl) T.n_range (pa_cons pe_int pa_nil)) (pg_name (i := 2) sc__law_place_drawn.nd rfl (.inl rfl)) (pss_cons (ps_if (pt_val (pe_call (ok__law_is_prime T) (hr.mono (by decide)) (by rfl) T.d__law_is_prime.g T.d__law_is_prime.F.kp T.d__law_is_prime.b .nil pass0 (pa_cons (pv 1) pa_nil))) (pss_one (ps_ret (pv 1))) pss_nil)
      (pss_one (ps_set (i := 1) sc__law_place_drawn.nd rfl (.inl rfl) (pe_op op_add (pv 1) pe_int)))))
      (pss_one (ps_ret pe_int)))), ?_⟩
    refine ⟨fun σ' H' => SB d H H' ∧ ∃ t : Int, σ' = [some (.ref d), some (.int t), none] ∧ 11 ≤ t ∧ t ≤ 800009, ?_, fun σ' H' hM => ?_⟩
    · refine ⟨_, rfl, _, rfl, by show 3 ≤ sizeLine; decide, fun ia hia => ?_⟩
      refine ⟨d, ia, _, rfl, hD.same (same_upd hia), hD.ne hia, upd_same, by decide, by decide, fun i v H1 hv sb1 => ?_⟩
      obtain ⟨n, rfl, n0, n1⟩ : ∃ n, v = .int n ∧ 0 < n ∧ n ≤ 400000 := by
        have := of_at hv
        simp only [List.mem_cons, List.not_mem_nil, or_false] at this
        rcases this with rfl | rfl | rfl
        · exact ⟨_, rfl, by decide, by decide⟩
        · exact ⟨_, rfl, by decide, by decide⟩
        · exact ⟨_, rfl, by decide, by decide⟩
      refine ⟨d, n, rfl, sb1.2, n0, by omega, fun r H2 r0 r1 sb2 => ?_⟩
      exact ⟨_, _, rfl, rfl, .inl ⟨by decide, by decide⟩, _, _, rfl, rfl, (((SB.refl hD).same (same_upd hia)).trans sb1).trans sb2, 11 + 2 * r, rfl, by omega, by omega⟩
    · obtain ⟨sb, t, rfl, t0, t1⟩ := hM
      refine ⟨200, rfl, by decide, by decide, for_range (lo := 0) (n := 200) (fun i σ H' => SB d H H' ∧ ∃ t o, σ = [some (.ref d), some (.int t), o] ∧ 11 ≤ t ∧ t ≤ 800009 + 2 * i) ⟨sb, t, none, rfl, t0, by omega⟩ (fun i σ H1 hi hP => ?_) (fun σ H1 hP => ?_)⟩
      · obtain ⟨s1, t, o, rfl, h0, h1⟩ := hP
        refine ⟨_, rfl, t, rfl, by omega, by omega, fun b H2 hb s2 => ⟨_, rfl, ite2 (fun e => ?_) (fun e => ?_)⟩⟩
        · exact ⟨_, rfl, kk _ _ (s1.same s2) (.inr (hb e)) (.inr h0)⟩
        · exact ⟨_, rfl, _, _, rfl, rfl, s1.same s2, t + 2, _, rfl, by omega, by omega⟩
      · obtain ⟨s1, t, o, rfl, h0, h1⟩ := hP
        exact kk _ _ s1 (.inl rfl) (.inl rfl)
end
end K86
namespace K86
open PySem PySem.Spec PyProof.Rows L2
section
variable {P : Program} {w : World} {K : PySem.W.Frag} {mg : Str → Option Value} {base : Heap}

theorem pw_le {q a : Int} (hq : 2 ≤ q) (ha : a ≠ 0) : 0 < q ^ ex q a ∧ q ^ ex q a ≤ (a.natAbs : Int) := by
  obtain ⟨h1, h2⟩ := ex_spec hq ha
  have hP := pow_pos' hq (ex q a)
  refine ⟨hP, ?_⟩
  generalize q ^ ex q a = M at hP h1
  generalize un q a = R at h1
  have hR : R ≠ 0 := fun z => ha (by rw [h1, z, Int.mul_zero])
  have : a.natAbs = M.natAbs * R.natAbs := by rw [← Int.natAbs_mul, ← h1]
  have h3 : M.natAbs * 1 ≤ M.natAbs * R.natAbs := Nat.mul_le_mul_left _ (by omega)
  omega
theorem quart {u : Int} (hu : u % 2 ≠ 0) : u % 4 / 2 % 2 = if decide (u % 4 = 3) then 1 else 0 := by
  by_cases h : u % 4 = 3
  · rw [decide_eq_true h]; show _ = (1 : Int); omega
  · rw [decide_eq_false h]; show _ = (0 : Int); omega
theorem inV_eq (m : Int) : inV (.int m) [.int 3, .int 5] = decide (m = 3 ∨ m = 5) := by
  show ((3 : Int) == m || ((5 : Int) == m || false)) = _
  by_cases h3 : m = 3
  · subst h3; rfl
  by_cases h5 : m = 5
  · subst h5; rfl
  rw [decide_eq_false (by omega), beq_eq_false_iff_ne.mpr (fun z => h3 z.symm), beq_eq_false_iff_ne.mpr (fun z => h5 z.symm)]
  rfl
theorem ib (b : Bool) : -(2 ^ 64) < (if b = true then (1 : Int) else 0) ∧ (if b = true then (1 : Int) else 0) < 2 ^ 64 := by
  cases b <;> decide
theorem bit01 (b : Bool) : (if b = true then (1 : Int) else 0) % 2 = if b = true then 1 else 0 := by
  cases b <;> rfl
theorem law_two {a b : Int} (ha : a ≠ 0) (hb' : b ≠ 0) :
    (un 2 a % 4 / 2 * (un 2 b % 4 / 2) + (ex 2 a : Nat) * (if inV (.int (un 2 b % 8)) [.int 3, .int 5] = true then 1 else 0) + (ex 2 b : Nat) * (if inV (.int (un 2 a % 8)) [.int 3, .int 5] = true then 1 else 0)) % 2 = if hb 2 a b then 1 else 0 := by
  have h1 := (ex_spec (q := 2) (by decide) ha).2
  have h2 := (ex_spec (q := 2) (by decide) hb').2
  have s1 := quart h1
  have s2 := quart h2
  have s5 := par_bit (q := 2) (by decide) a
  have s6 := par_bit (q := 2) (by decide) b
  rw [← eps_2] at s1 s2
  rw [inV_eq, inV_eq, ← chi_2, ← chi_2]
  rw [Int.add_emod, Int.add_emod (un 2 a % 4 / 2 * (un 2 b % 4 / 2)), Int.mul_emod, s1, s2, Int.mul_emod ((ex 2 a : Nat) : Int), s5, bit01, Int.mul_emod ((ex 2 b : Nat) : Int), s6, bit01]
  unfold hb
  cases eps 2 a <;> cases eps 2 b <;> cases par 2 a <;> cases par 2 b <;> cases chi 2 a <;> cases chi 2 b <;> rfl
theorem law_odd {q : Int} (a b : Int) (h3 : 3 ≤ q) :
    (((ex q a : Nat) : Int) * ((ex q b : Nat) : Int) * (if decide (V.int (q % 4) = V.int 3) = true then (1 : Int) else 0) + ((ex q b : Nat) : Int) * (if (!K86.E q (un q a)) = true then (1 : Int) else 0) + ((ex q a : Nat) : Int) * (if (!K86.E q (un q b)) = true then (1 : Int) else 0)) % 2 = if hb q a b then 1 else 0 := by
  have s5 := par_bit (q := q) (by omega) a
  have s6 := par_bit (q := q) (by omega) b
  have s7 := Int.mul_emod ((ex q a : Nat) : Int) ((ex q b : Nat) : Int) 2
  rw [decV, ← chi_o h3, ← chi_o h3]
  unfold hb
  rw [eps_o h3, eps_o h3]
  rw [s5, s6] at s7
  generalize ((ex q a : Nat) : Int) * ((ex q b : Nat) : Int) = m at *
  generalize ((ex q a : Nat) : Int) = k at *
  generalize ((ex q b : Nat) : Int) = l at *
  revert s5 s6 s7
  cases par q a <;> cases par q b <;> cases chi q a <;> cases chi q b <;> cases decide (q % 4 = 3) <;> (intro s5 s6 s7; simp at s5 s6 s7 ⊢ <;> omega)
theorem one_two (b : Bool) : (1 : Int) - 2 * (if b = true then 1 else 0) = if b = true then -1 else 1 := by
  cases b <;> rfl
def sp__law_sign : Sp := fun vs H Q _ => ∃ q a b : Int, vs = [.int q, .int a, .int b] ∧ PT q ∧ a ≠ 0 ∧ b ≠ 0 ∧ a.natAbs < 1073741824 ∧ b.natAbs < 1073741824 ∧ ∀ H', Same H H' → Q (.int (hs q a b)) H'
theorem ok__law_sign (T : Txt K mg) : FnOk P w K mg base CX0 2 T.d__law_sign.f T.d__law_sign.fd p__law_sign (sp__law_sign) := by
  refine T.d__law_sign.F.ok sc__law_sign (fun vs H Q E h => ?_) (fun cdv A outer s H vs Q E hr h => ?_)
  · obtain ⟨q, a, b, rfl, _⟩ := h
    rfl
  · obtain ⟨q, a, b, rfl, hq, ha, hb', ba, bb, kk⟩ := h
    refine ⟨_, (pss_cons (ps_if (pt_cmpR op_eq (pv 0) pe_int (nomark _)) (pss_one (ps_ret (pe_ifExp (PW.pt (pw_and (pt_cmpR op_lt (pv 1) pe_int (nomark _)) (pw_and1 (pt_cmpR op_lt (pv 2) pe_int (nomark _))))) (pe_un un_neg pe_int) pe_int))) pss_nil)
      (pss_cons (ps_par (i := 3) (j := 4) rfl sc__law_sign.nd rfl rfl (by decide) rfl rfl (pa_cons (pe_call (ok__law_exponent T) (hr.mono (by decide)) (by rfl) T.d__law_exponent.g T.d__law_exponent.F.kp T.d__law_exponent.b .nil pass0 (pa_cons (pv 0) (pa_cons (pv 1) pa_nil))) (pa_cons (pe_call (ok__law_exponent T) (hr.mono (by decide)) (by rfl) T.d__law_exponent.g T.d__law_exponent.F.kp T.d__law_exponent.b .nil pass0 (pa_cons (pv 0) (pa_cons (pv 2) pa_nil))) pa_nil)) (by rfl))
      (pss_cons (ps_par (i := 5) (j := 6) rfl sc__law_sign.nd rfl rfl (by decide) rfl rfl (pa_cons (pe_op op_fdiv (pv 1) (pe_call (ok__law_power T) (hr.mono (by decide)) (by rfl) T.d__law_power.g T.d__law_power.F.kp T.d__law_power.b .nil pass0 (pa_cons (pv 0) (pa_cons (pv 3) pa_nil)))) (pa_cons (pe_op op_fdiv (pv 2) (pe_call (ok__law_power T) (hr.mono (by decide)) (by rfl) T.d__law_power.g T.d__law_power.F.kp T.d__law_power.b .nil pass0 (pa_cons (pv 0) (pa_cons (pv 4) pa_nil)))) pa_nil)) (by rfl))
      (pss_cons (ps_if (pt_cmpR op_eq (pv 0) pe_int (nomark _)) (pss_cons (ps_set (i := 7) sc__law_sign.nd rfl (.inl rfl) (pe_op op_add (pe_op op_add (pe_op op_mul (pe_op op_fdiv (pe_op op_mod (pv 5) pe_int) pe_int) (pe_op op_fdiv (pe_op op_mod (pv 6) pe_int) pe_int)) (pe_op op_mul (pv 3) (pe_callTy call_int1 (by rfl) T.n_int (by decide +kernel) (pa_cons (pe_cmpR op_in_seq (pe_op op_mod (pv 6) pe_int) (pe_tup (pa_cons pe_int (pa_cons pe_int pa_nil))) (by rfl)) pa_nil)))) (pe_op op_mul (pv 4) (pe_callTy call_int1 (by rfl) T.n_int (by decide +kernel) (pa_cons (pe_cmpR op_in_seq (pe_op op_mod (pv 5) pe_int) (pe_tup (pa_cons pe_int (pa_cons pe_int pa_nil))) (by rfl)) pa_nil)))))
      (pss_one (ps_ret (pe_op op_sub pe_int (pe_op op_mul pe_int (pe_op op_mod (pv 7) pe_int)))))) pss_nil)
      (pss_cons (ps_set (i := 7) sc__law_sign.nd rfl (.inl rfl) (pe_op op_add (pe_op op_add (pe_op op_mul (pe_op op_mul (pv 3) (pv 4)) (pe_callTy call_int1 (by rfl) T.n_int (by decide +kernel) (pa_cons (pe_cmpR op_eq (pe_op op_mod (pv 0) pe_int) pe_int (nomark _)) pa_nil))) (pe_op op_mul (pv 4) (pe_callTy call_int1 (by rfl) T.n_int (by decide +kernel) (pa_cons (pe_not (pe_call (ok__law_is_square T) (hr.mono (by decide)) (by rfl) T.d__law_is_square.g T.d__law_is_square.F.kp T.d__law_is_square.b .nil pass0 (pa_cons (pv 0) (pa_cons (pv 5) pa_nil)))) pa_nil)))) (pe_op op_mul (pv 3) (pe_callTy call_int1 (by rfl) T.n_int (by decide +kernel) (pa_cons (pe_not (pe_call (ok__law_is_square T) (hr.mono (by decide)) (by rfl) T.d__law_is_square.g T.d__law_is_square.F.kp T.d__law_is_square.b .nil pass0 (pa_cons (pv 0) (pa_cons (pv 6) pa_nil)))) pa_nil)))))
      (pss_one (ps_ret (pe_op op_sub pe_int (pe_op op_mul pe_int (pe_op op_mod (pv 7) pe_int)))))))))), ?_⟩
    refine ⟨_, rfl, rfl, _, rfl, ite2 (fun hd => ?_) (fun hd => ?_)⟩
    · have q0 : q = 0 := V.int.inj (of_decide_eq_true hd)
      subst q0
      have kq := kk H (Same.refl _)
      have e : hs 0 a b = if (decide (a < 0) && decide (b < 0)) then -1 else 1 := by
        unfold hs hb
        rw [eps_z, eps_z]
        cases decide (a < 0) <;> cases decide (b < 0) <;> rfl
      rw [e] at kq
      refine ⟨_, rfl, _, _, rfl, rfl, _, rfl, ite2 (fun h1 => ?_) (fun h1 => ?_)⟩
      · rw [h1] at kq
        refine ⟨_, rfl, _, _, rfl, rfl, _, rfl, ite2 (fun h2 => ?_) (fun h2 => ?_)⟩
        · rw [h2] at kq; exact ⟨_, rfl, kq⟩
        · rw [Bool.eq_false_iff.mpr h2] at kq; exact kq
      · rw [Bool.eq_false_iff.mpr h1] at kq
        rw [if_neg Bool.false_ne_true]
        exact kq
    have q0 : q ≠ 0 := fun z => hd (decide_eq_true (congrArg V.int z))
    have ht : Tri q := hq.resolve_left q0
    have h2 := ht.1
    have h6 := ht.2.1
    have k1 := ex_le q a
    have k2 := ex_le q b
    obtain ⟨pa0, pa1⟩ := pw_le h2 ha
    obtain ⟨pb0, pb1⟩ := pw_le h2 hb'
    refine ⟨_, rfl, _, rfl, q, a, rfl, h2, h6, ha, _, rfl, _, rfl, q, b, rfl, h2, h6, hb', _, _, rfl, ?_⟩
    refine ⟨_, rfl, _, rfl, _, rfl, q, _, rfl, ⟨by omega, by omega⟩, by omega, by omega, _, _, rfl, rfl, ⟨pa0, show q ^ ex q a < 1073741824 by omega⟩, ?_⟩
    refine ⟨_, rfl, _, rfl, _, rfl, q, _, rfl, ⟨by omega, by omega⟩, by omega, by omega, _, _, rfl, rfl, ⟨pb0, show q ^ ex q b < 1073741824 by omega⟩, _, _, rfl, ?_⟩
    refine ⟨_, rfl, rfl, _, rfl, ite2 (fun hd2 => ?_) (fun hd2 => ?_)⟩
    · have q2 : q = 2 := V.int.inj (of_decide_eq_true hd2)
      subst q2
      have eu : un 2 a = a / 2 ^ ex 2 a := rfl
      have ew : un 2 b = b / 2 ^ ex 2 b := rfl
      have l1 : 0 ≤ un 2 a % 4 / 2 ∧ un 2 a % 4 / 2 < 4 := by omega
      refine ⟨_, rfl, _, _, rfl, rfl, show (0 : Int) < 4 by decide, _, _, rfl, rfl, ⟨by decide, by decide⟩, _, rfl, _, _, rfl, rfl, show (0 : Int) < 4 by decide, _, _, rfl, rfl, ⟨by decide, by decide⟩, _, _, rfl, rfl, .inl ⟨show -(2 ^ 64) < un 2 a % 4 / 2 by omega, show un 2 a % 4 / 2 < 2 ^ 64 by omega⟩, ?_⟩
      refine ⟨_, rfl, _, rfl, _, _, rfl, rfl, show (0 : Int) < 8 by decide, by show 2 ≤ sizeLine; decide, fun p hp => ?_⟩
      refine ⟨p, _, rfl, .inr (SqT.at upd_same), rfl, rfl, .inr ⟨_, rfl, _, _, rfl, rfl, .inr (ib _), _, _, rfl, rfl, ?_⟩⟩
      refine ⟨_, rfl, _, rfl, _, _, rfl, rfl, show (0 : Int) < 8 by decide, by show 2 ≤ sizeLine; decide, fun p2 hp2 => ?_⟩
      refine ⟨p2, _, rfl, .inr (SqT.at upd_same), rfl, rfl, .inr ⟨_, rfl, _, _, rfl, rfl, .inr (ib _), _, _, rfl, rfl, ?_⟩⟩
      have kq := kk _ ((same_upd (o := .tup [.int 3, .int 5]) hp).trans (same_upd (o := .tup [.int 3, .int 5]) hp2))
      refine ⟨_, rfl, _, _, rfl, rfl, show (0 : Int) < 2 by decide, _, _, rfl, rfl, .inl ⟨by decide, by decide⟩, _, _, rfl, rfl, ?_⟩
      unfold hs at kq
      rw [← one_two, ← law_two ha hb'] at kq
      exact kq
    · have q2 : q ≠ 2 := fun z => hd2 (decide_eq_true (congrArg V.int z))
      have kq := kk H (Same.refl _)
      refine ⟨_, rfl, _, rfl, _, _, rfl, rfl, .inl ⟨by omega, by omega⟩, _, rfl, _, _, rfl, rfl, show (0 : Int) < 4 by decide, rfl, .inr ⟨_, rfl, _, _, rfl, rfl, .inr (ib _), ?_⟩⟩
      refine ⟨_, rfl, _, rfl, _, rfl, q, _, rfl, by omega, h6, _, rfl, .inr ⟨_, rfl, _, _, rfl, rfl, .inr (ib _), _, _, rfl, rfl, ?_⟩⟩
      refine ⟨_, rfl, _, rfl, _, rfl, q, _, rfl, by omega, h6, _, rfl, .inr ⟨_, rfl, _, _, rfl, rfl, .inr (ib _), _, _, rfl, rfl, ?_⟩⟩
      refine ⟨_, rfl, _, _, rfl, rfl, show (0 : Int) < 2 by decide, _, _, rfl, rfl, .inl ⟨by decide, by decide⟩, _, _, rfl, rfl, ?_⟩
      unfold hs at kq
      rw [← one_two, ← law_odd a b (show 3 ≤ q by omega)] at kq
      exact kq
end
end K86
/-! Plain law, part 3: solutions modulo 32, 9, 25, 49, by all remainders. -/
namespace K86
def allL : List Nat → (Nat → Bool) → Bool
  | [], _ => true
  | x :: xs, f => f x && allL xs f
def anyL : List Nat → (Nat → Bool) → Bool
  | [], _ => false
  | x :: xs, f => f x || anyL xs f
def uR (p α : Nat) : Nat := if α % p = 0 then α / p else α
def parR (p α : Nat) : Bool := α % p == 0
def qrR (p u : Nat) : Bool := u ^ ((p - 1) / 2) % p == 1
def chiR (p α : Nat) : Bool := if p == 2 then (uR p α % 8 == 3 || uR p α % 8 == 5) else !qrR p (uR p α % p)
def epsR (p α : Nat) : Bool := if p == 2 then uR p α % 4 == 3 else (parR p α && p % 4 == 3)
def hbR (p α β : Nat) : Bool := (epsR p α && epsR p β) ^^ (parR p α && chiR p β) ^^ (chiR p α && parR p β)
def solR (p N : Nat) (sq : List Nat) (M α β : Nat) : Bool :=
  anyL sq fun X => anyL sq fun Y => let v := (α * X + β * Y) % N; (M >>> v) % 2 == 1 && (v % p != 0 || X % p != 0 || Y % p != 0)
def okR (p α : Nat) : Bool := α % p != 0 || (α / p) % p != 0
def chk (p N : Nat) (sq : List Nat) (M : Nat) : Bool :=
  allL (List.range N) fun α => !okR p α || allL (List.range N) fun β => !okR p β || (solR p N sq M α β == !hbR p α β)
def sq2 : List Nat := [0, 1, 4, 9, 16, 17, 25]
def sq3 : List Nat := [0, 1, 4, 7]
def sq5 : List Nat := [0, 1, 4, 6, 9, 11, 14, 16, 19, 21, 24]
def sq7 : List Nat := [0, 1, 2, 4, 8, 9, 11, 15, 16, 18, 22, 23, 25, 29, 30, 32, 36, 37, 39, 43, 44, 46]
def mk (l : List Nat) : Nat := l.foldl (fun a x => a + 2 ^ x) 0
theorem chk3 : chk 3 9 sq3 (mk sq3) = true := by decide +kernel
theorem chk5 : chk 5 25 sq5 (mk sq5) = true := by decide +kernel
theorem chk2 : chk 2 32 sq2 (mk sq2) = true := by decide +kernel
theorem chk7 : chk 7 49 sq7 (mk sq7) = true := by decide +kernel
end K86
/-! Plain law, part 4: a solution stands exactly where the sign is 1. -/
namespace K86
theorem allL_iff {l : List Nat} {f : Nat → Bool} : allL l f = true ↔ ∀ x ∈ l, f x = true := by
  induction l with
  | nil => simp [allL]
  | cons x xs ih => simp [allL, ih]
theorem anyL_iff {l : List Nat} {f : Nat → Bool} : anyL l f = true ↔ ∃ x ∈ l, f x = true := by
  induction l with
  | nil => simp [anyL]
  | cons x xs ih => simp [anyL, ih]
def facts (p N : Nat) (sq : List Nat) : Bool :=
  (allL (List.range N) fun x => sq.contains (x * x % N) && ((x * x % N) % p != 0) == (x % p != 0)) &&
  ((allL sq fun X => anyL (List.range N) fun x => x * x % N == X) &&
  ((allL (List.range N) fun v => ((mk sq >>> v) % 2 == 1) == sq.contains v) && (N % p == 0 && decide (0 < N))))
theorem facts2 : facts 2 32 sq2 = true := by decide +kernel
theorem facts3 : facts 3 9 sq3 = true := by decide +kernel
theorem facts5 : facts 5 25 sq5 = true := by decide +kernel
theorem facts7 : facts 7 49 sq7 = true := by decide +kernel
/-- what the law asks of x and y -/
def here (N : Nat) (A B : Int) (x y : Nat) : Int := (A * x * x + B * y * y) % N
def Good (p N : Nat) (A B : Int) (x y : Nat) : Prop :=
  (∃ z : Nat, z < N ∧ ((z * z % N : Nat) : Int) = here N A B x y) ∧ ((∃ z : Nat, z < N ∧ ((z * z % N : Nat) : Int) = here N A B x y ∧ z % p ≠ 0) ∨ x % p ≠ 0 ∨ y % p ≠ 0)
theorem here_eq {N : Nat} (hN : 0 < N) (A B : Int) (x y : Nat) : here N A B x y = (((A % N).toNat * (x * x % N) + (B % N).toNat * (y * y % N)) % N : Nat) := by
  have a0 := Int.emod_nonneg A (show (N : Int) ≠ 0 by omega)
  have b0 := Int.emod_nonneg B (show (N : Int) ≠ 0 by omega)
  unfold here
  rw [Int.natCast_emod, Int.natCast_add, Int.natCast_mul, Int.natCast_mul, Int.toNat_of_nonneg a0, Int.toNat_of_nonneg b0, Int.natCast_emod, Int.natCast_emod, Int.natCast_mul, Int.natCast_mul]
  rw [Int.add_emod ((A % N) * _), ← Int.mul_emod, ← Int.mul_emod, ← Int.add_emod, Int.mul_assoc, Int.mul_assoc]
theorem sol_core {p N : Nat} {sq : List Nat} (h : chk p N sq (mk sq) = true) (f : facts p N sq = true) {A B : Int} (hA : okR p (A % N).toNat = true) (hB : okR p (B % N).toNat = true) :
    (∃ x y : Nat, x < N ∧ y < N ∧ Good p N A B x y) ↔ hbR p (A % N).toNat (B % N).toNat = false := by
  unfold facts at f
  simp only [Bool.and_eq_true, allL_iff, anyL_iff, List.mem_range, beq_iff_eq, decide_eq_true_eq, List.contains_iff_mem] at f
  obtain ⟨f1, f2, f3, f4, hN⟩ := f
  have a0 := Int.emod_nonneg A (show (N : Int) ≠ 0 by omega)
  have b0 := Int.emod_nonneg B (show (N : Int) ≠ 0 by omega)
  have a1 := Int.emod_lt_of_pos A (show (0 : Int) < N by omega)
  have b1 := Int.emod_lt_of_pos B (show (0 : Int) < N by omega)
  unfold chk at h
  simp only [allL_iff, List.mem_range, Bool.or_eq_true, Bool.not_eq_true', beq_iff_eq] at h
  have h1 := ((h (A % N).toNat (by omega)).resolve_left (by rw [hA]; exact Bool.noConfusion) (B % N).toNat (by omega)).resolve_left (by rw [hB]; exact Bool.noConfusion)
  have h2 : (∃ x y : Nat, x < N ∧ y < N ∧ Good p N A B x y) ↔ solR p N sq (mk sq) (A % N).toNat (B % N).toNat = true := by
    unfold solR
    simp only [anyL_iff, Bool.and_eq_true, Bool.or_eq_true, bne_iff_ne]
    constructor
    · rintro ⟨x, y, hx, hy, ⟨z, hz, ez⟩, hf⟩
      obtain ⟨x1, x2⟩ := f1 x hx
      obtain ⟨y1, y2⟩ := f1 y hy
      rw [here_eq hN] at ez hf
      have ez := Int.ofNat.inj ez
      refine ⟨_, x1, _, y1, ?_, ?_⟩
      · rw [← ez, f3 _ (Nat.mod_lt _ hN)]
        exact List.contains_iff_mem.mpr (f1 z hz).1
      · rcases hf with ⟨z', hz', ez', hp⟩ | hp | hp
        · have ez' := Int.ofNat.inj ez'
          left; left
          rw [← ez']
          have := (f1 z' hz').2
          have hp' : (z' % p != 0) = true := bne_iff_ne.mpr hp
          rw [hp'] at this
          exact bne_iff_ne.mp this
        · left; right
          have hp' : (x % p != 0) = true := bne_iff_ne.mpr hp
          rw [hp'] at x2
          exact bne_iff_ne.mp x2
        · right
          have hp' : (y % p != 0) = true := bne_iff_ne.mpr hp
          rw [hp'] at y2
          exact bne_iff_ne.mp y2
    · rintro ⟨X, hX, Y, hY, hm, hf⟩
      obtain ⟨x, hx, ex⟩ := f2 X hX
      obtain ⟨y, hy, ey⟩ := f2 Y hY
      subst ex ey
      have hv := f3 _ (Nat.mod_lt ((A % N).toNat * (x * x % N) + (B % N).toNat * (y * y % N)) hN)
      rw [hm] at hv
      have hv2 := List.contains_iff_mem.mp hv.symm
      obtain ⟨z, hz, ez⟩ := f2 _ hv2
      refine ⟨x, y, hx, hy, ⟨z, hz, by rw [here_eq hN, ez]⟩, ?_⟩
      rcases hf with (hp | hp) | hp
      · left
        refine ⟨z, hz, by rw [here_eq hN, ez], ?_⟩
        have := (f1 z hz).2
        rw [ez, bne_iff_ne.mpr hp] at this
        exact bne_iff_ne.mp this.symm
      · right; left
        have := (f1 x hx).2
        rw [bne_iff_ne.mpr hp] at this
        exact bne_iff_ne.mp this.symm
      · right; right
        have := (f1 y hy).2
        rw [bne_iff_ne.mpr hp] at this
        exact bne_iff_ne.mp this.symm
  rw [h2, h1]
  cases hbR p (A % N).toNat (B % N).toNat <;> decide
/-! remainders and characters -/
theorem sm_cases {p a : Int} (hp : 2 ≤ p) (ha : a ≠ 0) : (par p a = false ∧ sm p a = un p a ∧ un p a % p ≠ 0) ∨ (par p a = true ∧ sm p a = un p a * p ∧ un p a % p ≠ 0) := by
  obtain ⟨h1, -, -⟩ := sm_eq hp ha
  have h2 := (ex_spec hp ha).2
  rw [par_q hp]
  have h3 : ex p a % 2 = 0 ∨ ex p a % 2 = 1 := by omega
  rcases h3 with h | h <;> rw [h] at h1
  · left
    rw [Int.pow_zero, Int.mul_one] at h1
    exact ⟨by rw [h]; rfl, h1, h2⟩
  · right
    rw [Int.pow_succ, Int.pow_zero, Int.one_mul] at h1
    exact ⟨by rw [h]; rfl, h1, h2⟩
theorem qrR_E {p : Nat} (hp : 3 ≤ p) (u : Int) : qrR p (u % p).toNat = K86.E p u := by
  unfold qrR K86.E
  have e : (((p : Int) - 1) / 2).toNat = (p - 1) / 2 := by omega
  rw [cast_pow p u (by omega), e, Int.toNat_natCast]
  generalize (u % (p : Int)).toNat ^ ((p - 1) / 2) % p = m
  by_cases h : m = 1
  · subst h; rfl
  · rw [beq_eq_false_iff_ne.mpr h, decide_eq_false (by omega)]
theorem hbR_odd {p : Nat} (hp : 3 ≤ p) {a b : Int} {α β : Nat} (pa : parR p α = par p a) (pb : parR p β = par p b) (ua : uR p α % p = (un p a % p).toNat) (ub : uR p β % p = (un p b % p).toNat) : hbR p α β = hb p a b := by
  have h2 : (p == 2) = false := beq_eq_false_iff_ne.mpr (by omega)
  have h4 : (p % 4 == 3) = decide ((p : Int) % 4 = 3) := by
    by_cases h : p % 4 = 3
    · rw [h, decide_eq_true (by omega)]; rfl
    · rw [beq_eq_false_iff_ne.mpr h, decide_eq_false (by omega)]
  unfold hbR hb epsR chiR
  rw [h2, eps_o (by omega), eps_o (by omega), chi_o (by omega), chi_o (by omega)]
  simp only [Bool.false_eq_true, if_false]
  rw [pa, pb, ua, ub, qrR_E hp, qrR_E hp, h4]
theorem res3 {a : Int} (ha : a ≠ 0) : okR 3 (sm 3 a % (9 : Nat)).toNat = true ∧ parR 3 (sm 3 a % (9 : Nat)).toNat = par 3 a ∧ uR 3 (sm 3 a % (9 : Nat)).toNat % 3 = (un 3 a % (3 : Nat)).toNat := by
  unfold okR parR uR
  rcases sm_cases (p := 3) (by decide) ha with ⟨h1, h2, h3⟩ | ⟨h1, h2, h3⟩
  · have e : (sm 3 a % (9 : Nat)).toNat % 3 ≠ 0 := by omega
    rw [h1, if_neg e, bne_iff_ne.mpr e, beq_eq_false_iff_ne.mpr e]
    exact ⟨rfl, rfl, by omega⟩
  · have e : (sm 3 a % (9 : Nat)).toNat % 3 = 0 := by omega
    have e2 : (sm 3 a % (9 : Nat)).toNat / 3 % 3 ≠ 0 := by omega
    rw [h1, if_pos e, bne_iff_ne.mpr e2, e]
    exact ⟨rfl, rfl, by omega⟩
theorem res5 {a : Int} (ha : a ≠ 0) : okR 5 (sm 5 a % (25 : Nat)).toNat = true ∧ parR 5 (sm 5 a % (25 : Nat)).toNat = par 5 a ∧ uR 5 (sm 5 a % (25 : Nat)).toNat % 5 = (un 5 a % (5 : Nat)).toNat := by
  unfold okR parR uR
  rcases sm_cases (p := 5) (by decide) ha with ⟨h1, h2, h3⟩ | ⟨h1, h2, h3⟩
  · have e : (sm 5 a % (25 : Nat)).toNat % 5 ≠ 0 := by omega
    rw [h1, if_neg e, bne_iff_ne.mpr e, beq_eq_false_iff_ne.mpr e]
    exact ⟨rfl, rfl, by omega⟩
  · have e : (sm 5 a % (25 : Nat)).toNat % 5 = 0 := by omega
    have e2 : (sm 5 a % (25 : Nat)).toNat / 5 % 5 ≠ 0 := by omega
    rw [h1, if_pos e, bne_iff_ne.mpr e2, e]
    exact ⟨rfl, rfl, by omega⟩
theorem res7 {a : Int} (ha : a ≠ 0) : okR 7 (sm 7 a % (49 : Nat)).toNat = true ∧ parR 7 (sm 7 a % (49 : Nat)).toNat = par 7 a ∧ uR 7 (sm 7 a % (49 : Nat)).toNat % 7 = (un 7 a % (7 : Nat)).toNat := by
  unfold okR parR uR
  rcases sm_cases (p := 7) (by decide) ha with ⟨h1, h2, h3⟩ | ⟨h1, h2, h3⟩
  · have e : (sm 7 a % (49 : Nat)).toNat % 7 ≠ 0 := by omega
    rw [h1, if_neg e, bne_iff_ne.mpr e, beq_eq_false_iff_ne.mpr e]
    exact ⟨rfl, rfl, by omega⟩
  · have e : (sm 7 a % (49 : Nat)).toNat % 7 = 0 := by omega
    have e2 : (sm 7 a % (49 : Nat)).toNat / 7 % 7 ≠ 0 := by omega
    rw [h1, if_pos e, bne_iff_ne.mpr e2, e]
    exact ⟨rfl, rfl, by omega⟩
theorem bor_dec (m : Nat) (u : Int) (e : (m : Int) = u % 8) : (m == 3 || m == 5) = decide (u % 8 = 3 ∨ u % 8 = 5) := by
  rw [← e]
  by_cases h3 : m = 3
  · subst h3; rfl
  by_cases h5 : m = 5
  · subst h5; rfl
  rw [beq_eq_false_iff_ne.mpr h3, beq_eq_false_iff_ne.mpr h5, decide_eq_false (by omega)]; rfl
theorem beq_dec (m : Nat) (u : Int) (e : (m : Int) = u % 4) : (m == 3) = decide (u % 4 = 3) := by
  rw [← e]
  by_cases h3 : m = 3
  · subst h3; rfl
  rw [beq_eq_false_iff_ne.mpr h3, decide_eq_false (by omega)]
theorem res2 {a : Int} (ha : a ≠ 0) : okR 2 (sm 2 a % (32 : Nat)).toNat = true ∧ parR 2 (sm 2 a % (32 : Nat)).toNat = par 2 a ∧ chiR 2 (sm 2 a % (32 : Nat)).toNat = chi 2 a ∧ epsR 2 (sm 2 a % (32 : Nat)).toNat = eps 2 a := by
  unfold okR parR chiR epsR uR
  rw [chi_2, eps_2]
  rcases sm_cases (p := 2) (by decide) ha with ⟨h1, h2, h3⟩ | ⟨h1, h2, h3⟩
  · have e : (sm 2 a % (32 : Nat)).toNat % 2 ≠ 0 := by omega
    rw [h1, if_neg e, bne_iff_ne.mpr e, beq_eq_false_iff_ne.mpr e]
    exact ⟨rfl, rfl, bor_dec _ _ (by omega), beq_dec _ _ (by omega)⟩
  · have e : (sm 2 a % (32 : Nat)).toNat % 2 = 0 := by omega
    have e2 : (sm 2 a % (32 : Nat)).toNat / 2 % 2 ≠ 0 := by omega
    rw [h1, if_pos e, bne_iff_ne.mpr e2, e]
    exact ⟨rfl, rfl, bor_dec _ _ (by omega), beq_dec _ _ (by omega)⟩
/-- the modulus of the law at a small prime -/
def sz (p : Nat) : Nat := if p = 2 then 32 else p * p
theorem sol_iff {p : Nat} (hp : p = 2 ∨ p = 3 ∨ p = 5 ∨ p = 7) {a b : Int} (ha : a ≠ 0) (hb' : b ≠ 0) :
    (∃ x y : Nat, x < sz p ∧ y < sz p ∧ Good p (sz p) (sm p a) (sm p b) x y) ↔ hb p a b = false := by
  rcases hp with rfl | rfl | rfl | rfl
  · obtain ⟨a1, a2, a3, a4⟩ := res2 ha
    obtain ⟨b1, b2, b3, b4⟩ := res2 hb'
    have h := sol_core chk2 facts2 a1 b1
    rw [show hbR 2 (sm 2 a % (32 : Nat)).toNat (sm 2 b % (32 : Nat)).toNat = hb 2 a b from by unfold hbR hb; rw [a2, a3, a4, b2, b3, b4]] at h
    exact h
  · obtain ⟨a1, a2, a3⟩ := res3 ha
    obtain ⟨b1, b2, b3⟩ := res3 hb'
    have h := sol_core chk3 facts3 a1 b1
    rw [hbR_odd (by decide) a2 b2 a3 b3] at h
    exact h
  · obtain ⟨a1, a2, a3⟩ := res5 ha
    obtain ⟨b1, b2, b3⟩ := res5 hb'
    have h := sol_core chk5 facts5 a1 b1
    rw [hbR_odd (by decide) a2 b2 a3 b3] at h
    exact h
  · obtain ⟨a1, a2, a3⟩ := res7 ha
    obtain ⟨b1, b2, b3⟩ := res7 hb'
    have h := sol_core chk7 facts7 a1 b1
    rw [hbR_odd (by decide) a2 b2 a3 b3] at h
    exact h
end K86
namespace K86
open PySem PySem.Spec PyProof.Rows L2
section
variable {P : Program} {w : World} {K : PySem.W.Frag} {mg : Str → Option Value} {base : Heap}

def sqn (N z : Nat) : Int := ((z * z % N : Nat) : Int)
/-- the dict of squares behind i turns -/
def SqInv (p N : Nat) (kvs : List (Key × V)) (i : Nat) : Prop := ∀ h : Int,
  (valV kvs (.inl h : Key) = none ∧ ¬ ∃ z, z < i ∧ sqn N z = h) ∨ ∃ c, valV kvs (.inl h : Key) = some (.bl c) ∧ (∃ z, z < i ∧ sqn N z = h) ∧ (c = true ↔ ∃ z, z < i ∧ sqn N z = h ∧ z % p ≠ 0)
theorem sqInv_step {p N : Nat} {kvs : List (Key × V)} {i : Nat} {c : Bool} (hI : SqInv p N kvs i) (hc : c = true ↔ (∃ z, z < i ∧ sqn N z = sqn N i ∧ z % p ≠ 0) ∨ i % p ≠ 0) : SqInv p N (putK kvs (.inl (sqn N i) : Key) (.bl c)) (i + 1) := by
  intro h
  rw [valV_put]
  by_cases e : h = sqn N i
  · subst e
    rw [if_pos rfl]
    refine .inr ⟨c, rfl, ⟨i, Nat.lt_succ_self i, rfl⟩, hc.trans ⟨fun z => ?_, fun z => ?_⟩⟩
    · rcases z with ⟨z, h1, h2, h3⟩ | h3
      · exact ⟨z, by omega, h2, h3⟩
      · exact ⟨i, Nat.lt_succ_self i, rfl, h3⟩
    · obtain ⟨z, h1, h2, h3⟩ := z
      by_cases ei : z = i
      · subst ei; exact .inr h3
      · exact .inl ⟨z, by omega, h2, h3⟩
  · rw [if_neg (fun z => e (Sum.inl.inj z))]
    rcases hI h with ⟨h1, h2⟩ | ⟨c', h1, ⟨z0, z1, z2⟩, h3⟩
    · refine .inl ⟨h1, fun ⟨z, k1, k2⟩ => ?_⟩
      by_cases ei : z = i
      · subst ei; exact e k2.symm
      · exact h2 ⟨z, by omega, k2⟩
    · refine .inr ⟨c', h1, ⟨z0, by omega, z2⟩, h3.trans ⟨fun ⟨z, k1, k2, k3⟩ => ⟨z, by omega, k2, k3⟩, fun ⟨z, k1, k2, k3⟩ => ?_⟩⟩
      by_cases ei : z = i
      · subst ei; exact absurd k2.symm e
      · exact ⟨z, by omega, k2, k3⟩
theorem sqn_eq (N i : Nat) : (i : Int) * (i : Int) % (N : Int) = sqn N i := by
  unfold sqn
  rw [Int.natCast_emod, Int.natCast_mul]
theorem ne_bit (z p : Nat) : ((!decide (V.int ((z : Int) % (p : Int)) = V.int 0)) = true) ↔ z % p ≠ 0 := by
  rw [decV]
  by_cases h : z % p = 0
  · rw [decide_eq_true (show (z : Int) % (p : Int) = 0 by omega)]
    exact ⟨fun z => Bool.noConfusion z, fun z => absurd h z⟩
  · rw [decide_eq_false (show ¬ (z : Int) % (p : Int) = 0 by omega)]
    exact ⟨fun _ => h, fun _ => rfl⟩
def sp__law_has_solution : Sp := fun vs H Q _ => ∃ (p : Nat) (a b : Int), vs = [.int p, .int a, .int b] ∧ (p = 2 ∨ p = 3 ∨ p = 5 ∨ p = 7) ∧ a ≠ 0 ∧ b ≠ 0 ∧ a.natAbs < 1073741824 ∧ b.natAbs < 1073741824 ∧ ∀ H', Same H H' → Q (.bl (!hb p a b)) H'
theorem ok__law_has_solution (T : Txt K mg) : FnOk P w K mg base CX0 3 T.d__law_has_solution.f T.d__law_has_solution.fd p__law_has_solution (sp__law_has_solution) := by
  refine T.d__law_has_solution.F.ok sc__law_has_solution (fun vs H Q E h => ?_) (fun cdv A outer s H vs Q E hr h => ?_)
  · obtain ⟨p, a, b, rfl, _⟩ := h
    rfl
  · obtain ⟨p, a, b, rfl, hp, ha, hb', ba, bb, kk⟩ := h
    have hu := hu_of hr
    refine ⟨_, (C8.pss_cut (ps_par3 (i := 3) (j := 4) (l := 5) rfl sc__law_has_solution.nd rfl rfl rfl (by decide) (by decide) (by decide) rfl rfl rfl (pa_cons (pe_call (ok__law_small T) (hr.mono (by decide)) (by rfl) T.d__law_small.g T.d__law_small.F.kp T.d__law_small.b .nil pass0 (pa_cons (pv 0) (pa_cons (pv 1) pa_nil))) (pa_cons (pe_call (ok__law_small T) (hr.mono (by decide)) (by rfl) T.d__law_small.g T.d__law_small.F.kp T.d__law_small.b .nil pass0 (pa_cons (pv 0) (pa_cons (pv 2) pa_nil))) (pa_cons (pe_ifExp (pt_cmpR op_eq (pv 0) pe_int (nomark _)) pe_int (pe_op op_mul (pv 0) (pv 0))) pa_nil))) (by rfl))
      (pss_cons (ps_set (i := 6) sc__law_has_solution.nd rfl (.inl rfl) pe_dnewK)
      (pss_cons (ps_for PassesOwn.never rfl (pi_range1 (by rfl) T.n_range (pa_cons (pv 5) pa_nil)) (pg_name (i := 7) sc__law_has_solution.nd rfl (.inl rfl)) (pss_cons (ps_set (i := 8) sc__law_has_solution.nd rfl (.inl rfl) (pe_op op_mod (pe_op op_mul (pv 7) (pv 7)) (pv 5)))
      (pss_one (ps_dput hu (pv 6) (pv 8) (pe_or (pe_dget2 hu (pv 6) (pv 8) pe_bl ⟨by rfl, by rfl, by rfl, by rfl⟩) (pe_one (pe_cmpR op_ne (pe_op op_mod (pv 7) (pv 0)) pe_int (nomark _)))) rfl))))
      (pss_cons (ps_for PassesOwn.never rfl (pi_range1 (by rfl) T.n_range (pa_cons (pv 5) pa_nil)) (pg_name (i := 9) sc__law_has_solution.nd rfl (.inl rfl)) (pss_one (ps_for PassesOwn.never rfl (pi_range1 (by rfl) T.n_range (pa_cons (pv 5) pa_nil)) (pg_name (i := 10) sc__law_has_solution.nd rfl (.inl rfl)) (pss_cons (ps_set (i := 8) sc__law_has_solution.nd rfl (.inl rfl) (pe_op op_mod (pe_op op_add (pe_op op_mul (pe_op op_mul (pv 3) (pv 9)) (pv 9)) (pe_op op_mul (pe_op op_mul (pv 4) (pv 10)) (pv 10))) (pv 5)))
      (pss_one (ps_if (PW.pt (pw_and (pt_cmp (pc_din hu (pv 8) (pv 6))) (pw_and1 (PW.pt (pw_or (pt_val (pe_dget hu (pv 6) (pv 8) (fun _ _ => rfl))) (pw_or (pt_cmpR op_ne (pe_op op_mod (pv 9) (pv 0)) pe_int (nomark _)) (pw_or1 (pt_cmpR op_ne (pe_op op_mod (pv 10) (pv 0)) pe_int (nomark _))))))))) (pss_one (ps_ret pe_bl)) pss_nil))))))
      (pss_one (ps_ret pe_bl)))))), ?_⟩
    have p2 : 2 ≤ p ∧ p ≤ 7 := by omega
    have hsz : 0 < sz p ∧ sz p ≤ 49 := by
      rcases hp with rfl | rfl | rfl | rfl <;> decide
    have sol := sol_iff hp ha hb'
    generalize hA : sm p a = A0 at sol
    generalize hB : sm p b = B0 at sol
    refine ⟨fun σ' H' => H' = H ∧ σ' = [some (.int p), some (.int a), some (.int b), some (.int A0), some (.int B0), some (.int (sz p : Nat)), none, none, none, none, none], ?_, fun σ' H' hM => ?_⟩
    · refine ⟨_, rfl, _, rfl, p, a, rfl, by omega, by omega, ha, ba, _, rfl, _, rfl, p, b, rfl, by omega, by omega, hb', bb, _, rfl, rfl, _, rfl, ite2 (fun hd => ?_) (fun hd => ?_)⟩
      · have e2 : (p : Int) = 2 := V.int.inj (of_decide_eq_true hd)
        have e3 : p = 2 := by omega
        subst e3
        exact ⟨_, _, _, rfl, rfl, by rw [hA, hB]; rfl⟩
      · have e3 : p ≠ 2 := fun z => hd (decide_eq_true (by rw [z]; rfl))
        refine ⟨_, rfl, _, rfl, _, _, rfl, rfl, .inl ⟨by omega, by omega⟩, _, _, _, rfl, rfl, ?_⟩
        have e4 : ((sz p : Nat) : Int) = (p : Int) * (p : Int) := by
          unfold sz
          rw [if_neg e3, Int.natCast_mul]
        rw [hA, hB, e4]
        rfl
    obtain ⟨rfl, rfl⟩ := hM
    intro dd hdd
    generalize hN : sz p = N at *
    refine ⟨_, rfl, _, rfl, by omega, by omega, for_range (lo := 0) (n := N) (fun i σ H1 => Same H' H1 ∧ ∃ kvs t u, σ = [some (.int p), some (.int a), some (.int b), some (.int A0), some (.int B0), some (.int N), some (.ref dd), t, u, none, none] ∧ H1 dd = some (.dK kvs) ∧ kvs.length ≤ i ∧ SqInv p N kvs i) ⟨same_upd hdd, [], none, none, rfl, upd_same, Nat.le_refl _, fun h => .inl ⟨rfl, fun ⟨z, z1, _⟩ => absurd z1 (Nat.not_lt_zero z)⟩⟩ (fun i σ H1 hi hP => ?_) (fun σ H1 hP => ?_)⟩
    · obtain ⟨s1, kvs, t, u, rfl, hd, hlen, hI⟩ := hP
      rw [show (0 : Int) + (i : Int) = i from Int.zero_add _]
      refine ⟨_, rfl, _, rfl, _, _, rfl, rfl, .inl ⟨by omega, by omega⟩, _, rfl, _, _, rfl, rfl, show (0 : Int) < N by omega, ?_⟩
      rw [show (fun i j : Int => V.int (i % j)) ((i : Int) * (i : Int)) (N : Int) = V.int (sqn N i) from congrArg V.int (sqn_eq N i)]
      have fin : ∀ c : Bool, (c = true ↔ (∃ z, z < i ∧ sqn N z = sqn N i ∧ z % p ≠ 0) ∨ i % p ≠ 0) → ∀ t u, Same H' (upd H1 dd (.dK (putK kvs (.inl (sqn N i) : Key) (.bl c)))) ∧ ∃ kvs' t' u', [some (V.int p), some (.int a), some (.int b), some (.int A0), some (.int B0), some (.int N), some (.ref dd), t, u, none, none] = [some (.int p), some (.int a), some (.int b), some (.int A0), some (.int B0), some (.int N), some (.ref dd), t', u', none, none] ∧ (upd H1 dd (.dK (putK kvs (.inl (sqn N i) : Key) (.bl c)))) dd = some (.dK kvs') ∧ kvs'.length ≤ i + 1 ∧ SqInv p N kvs' (i + 1) := fun c hc t u =>
        ⟨same_upd2 hdd s1, _, t, u, rfl, upd_same, Nat.le_trans (length_putK _ _ _) (by omega), sqInv_step hI hc⟩
      have gk : DGet H1 dd (.int (sqn N i)) (valV kvs (.inl (sqn N i) : Key)) := DGet.k (k := Sum.inl (sqn N i)) hd
      rcases hI (sqn N i) with ⟨h1, h2⟩ | ⟨c, h1, h2, h3⟩
      · rw [h1] at gk
        refine ⟨_, rfl, dd, rfl, .inl ⟨_, .inl hd⟩, _, rfl, _, gk, false, rfl, iteF ?_⟩
        refine ⟨_, rfl, _, rfl, _, _, rfl, rfl, show (0 : Int) < p by omega, rfl, ?_⟩
        refine ⟨_, rfl, _, rfl, dd, _, rfl, DPut.k (k := Sum.inl (sqn N i)) hd (small1000 (by omega)), fin _ ?_ _ _⟩
        rw [ne_bit]
        exact ⟨.inr, fun z => z.resolve_left fun ⟨z, z1, z2, _⟩ => h2 ⟨z, z1, z2⟩⟩
      · rw [h1] at gk
        refine ⟨_, rfl, dd, rfl, .inl ⟨_, .inl hd⟩, _, rfl, _, gk, c, rfl, ?_⟩
        cases c with
        | true =>
          refine iteT ⟨_, rfl, _, rfl, dd, _, rfl, DPut.k (k := Sum.inl (sqn N i)) hd (small1000 (by omega)), fin _ ?_ _ _⟩
          exact ⟨fun _ => .inl (h3.mp rfl), fun _ => rfl⟩
        | false =>
          refine iteF ?_
          refine ⟨_, rfl, _, rfl, _, _, rfl, rfl, show (0 : Int) < p by omega, rfl, ?_⟩
          refine ⟨_, rfl, _, rfl, dd, _, rfl, DPut.k (k := Sum.inl (sqn N i)) hd (small1000 (by omega)), fin _ ?_ _ _⟩
          rw [ne_bit]
          exact ⟨.inr, fun z => z.resolve_left fun k => Bool.noConfusion (h3.mpr k)⟩
    · obtain ⟨s1, kvs, t, u, rfl, hd, hlen, hI⟩ := hP
      have kq := kk _ s1
      refine ⟨_, rfl, _, rfl, by omega, by omega, for_range (lo := 0) (n := N) (fun i σ H2 => H2 = H1 ∧ ∃ t u v w, σ = [some (.int p), some (.int a), some (.int b), some (.int A0), some (.int B0), some (.int N), some (.ref dd), t, u, v, w] ∧ ∀ x, x < i → ∀ y, y < N → ¬ Good p N A0 B0 x y) ⟨rfl, t, u, none, none, rfl, fun x hx => absurd hx (Nat.not_lt_zero x)⟩ (fun i σ H2 hi hP => ?_) (fun σ H2 hP => ?_)⟩
      · obtain ⟨rfl, t, u, v, w', rfl, hG⟩ := hP
        rw [show (0 : Int) + (i : Int) = i from Int.zero_add _]
        refine ⟨_, rfl, _, rfl, by omega, by omega, for_range (lo := 0) (n := N) (fun j σ H3 => H3 = H2 ∧ ∃ u w, σ = [some (.int p), some (.int a), some (.int b), some (.int A0), some (.int B0), some (.int N), some (.ref dd), t, u, some (.int i), w] ∧ ∀ y, y < j → ¬ Good p N A0 B0 i y) ⟨rfl, u, w', rfl, fun y hy => absurd hy (Nat.not_lt_zero y)⟩ (fun j σ H3 hj hP => ?_) (fun σ H3 hP => ?_)⟩
        · obtain ⟨rfl, u, w', rfl, hG2⟩ := hP
          rw [show (0 : Int) + (j : Int) = j from Int.zero_add _]
          refine ⟨_, rfl, _, rfl, _, _, rfl, rfl, .inr ⟨by omega, by omega⟩, _, rfl, _, _, rfl, rfl, .inr ⟨by omega, by omega⟩, ?_⟩
          refine ⟨_, rfl, _, rfl, _, _, rfl, rfl, .inr ⟨by omega, by omega⟩, _, rfl, _, _, rfl, rfl, .inr ⟨by omega, by omega⟩, _, _, rfl, rfl, _, rfl, _, _, rfl, rfl, show (0 : Int) < N by omega, ?_⟩
          rw [show (fun i j : Int => V.int (i % j)) (A0 * (i : Int) * i + B0 * (j : Int) * j) (N : Int) = V.int (here N A0 B0 i j) from rfl]
          have gk : DGet H3 dd (.int (here N A0 B0 i j)) (valV kvs (.inl (here N A0 B0 i j) : Key)) := DGet.k (k := Sum.inl (here N A0 B0 i j)) hd
          have no : ¬ Good p N A0 B0 i j → ∀ u' w', H3 = H3 ∧ ∃ u w, [some (V.int p), some (.int a), some (.int b), some (.int A0), some (.int B0), some (.int N), some (.ref dd), t, u', some (.int i), w'] = [some (.int p), some (.int a), some (.int b), some (.int A0), some (.int B0), some (.int N), some (.ref dd), t, u, some (.int i), w] ∧ ∀ y, y < j + 1 → ¬ Good p N A0 B0 i y := fun hn u' w' =>
            ⟨rfl, u', w', rfl, fun y hy => by
              by_cases e : y = j
              · subst e; exact hn
              · exact hG2 y (by omega)⟩
          have yes : Good p N A0 B0 i j → Q (.bl true) H3 := fun hg => by
            have := sol.mp ⟨i, j, hi, hj, hg⟩
            rw [this] at kq
            exact kq
          rcases hI (here N A0 B0 i j) with ⟨h1, h2⟩ | ⟨c, h1, h2, h3⟩
          · rw [h1] at gk
            refine ⟨_, rfl, _, rfl, dd, _, rfl, gk, _, rfl, iteF ?_⟩
            exact no (fun hg => h2 hg.1) _ _
          · rw [h1] at gk
            refine ⟨_, rfl, _, rfl, dd, _, rfl, gk, _, rfl, iteT ?_⟩
            refine ⟨_, rfl, _, rfl, dd, _, rfl, gk, c, rfl, ?_⟩
            cases c with
            | true => exact iteT (yes ⟨h2, .inl (h3.mp rfl)⟩)
            | false =>
              have hnu : ¬ ∃ z, z < N ∧ sqn N z = here N A0 B0 i j ∧ z % p ≠ 0 := fun k => Bool.noConfusion (h3.mpr k)
              refine iteF ⟨_, rfl, _, rfl, _, _, rfl, rfl, show (0 : Int) < p by omega, rfl, _, rfl, ite2 (fun hx => ?_) (fun hx => ?_)⟩
              · rw [ne_bit] at hx
                exact yes ⟨h2, .inr (.inl hx)⟩
              · rw [ne_bit] at hx
                refine ⟨_, rfl, _, rfl, _, _, rfl, rfl, show (0 : Int) < p by omega, rfl, _, rfl, ite2 (fun hy => ?_) (fun hy => ?_)⟩
                · rw [ne_bit] at hy
                  exact yes ⟨h2, .inr (.inr hy)⟩
                · rw [ne_bit] at hy
                  exact no (fun hg => by
                    rcases hg.2 with k | k | k
                    · exact hnu k
                    · exact hx k
                    · exact hy k) _ _
        · obtain ⟨rfl, u, w', rfl, hG2⟩ := hP
          refine ⟨rfl, t, u, _, w', rfl, fun x hx => ?_⟩
          by_cases e : x = i
          · subst e; exact hG2
          · exact hG x (by omega)
      · obtain ⟨rfl, t, u, v, w', rfl, hG⟩ := hP
        have hbt : hb p a b = true := by
          cases e : hb p a b with
          | true => rfl
          | false =>
            obtain ⟨x, y, hx, hy, hg⟩ := sol.mpr e
            exact absurd hg (hG x hx y hy)
        rw [hbt] at kq
        exact kq
end
end K86
namespace K86
open PySem PySem.Spec PyProof.Rows L2
section
variable {P : Program} {w : World} {K : PySem.W.Frag} {mg : Str → Option Value} {base : Heap}

/-! the rules: plain law -/
theorem steinberg {q s : Int} (hq : PT q) (h : s = 3 ∨ s = -2 ∨ s = 10 ∨ s = -15 ∨ s = 22) : hs q s (1 - s) = 1 := by
  rcases hq with rfl | ht
  · rcases h with rfl | rfl | rfl | rfl | rfl <;> decide +kernel
  by_cases h22 : q ≤ 22
  · have h2 := ht.1
    have hc : q = 2 ∨ q = 3 ∨ q = 4 ∨ q = 5 ∨ q = 6 ∨ q = 7 ∨ q = 8 ∨ q = 9 ∨ q = 10 ∨ q = 11 ∨ q = 12 ∨ q = 13 ∨ q = 14 ∨ q = 15 ∨ q = 16 ∨ q = 17 ∨ q = 18 ∨ q = 19 ∨ q = 20 ∨ q = 21 ∨ q = 22 := by omega
    rcases hc with rfl | rfl | rfl | rfl | rfl | rfl | rfl | rfl | rfl | rfl | rfl | rfl | rfl | rfl | rfl | rfl | rfl | rfl | rfl | rfl | rfl <;>
      first
      | exact absurd (by decide) (ht.2.2 2 (by decide) (by decide))
      | exact absurd (by decide) (ht.2.2 3 (by decide) (by decide))
      | (rcases h with rfl | rfl | rfl | rfl | rfl <;> decide +kernel)
  · have nd : ∀ t : Int, t ≠ 0 → t.natAbs ≤ 22 → t % q ≠ 0 := fun t t0 t1 z => by
      have hd : q ∣ t := Int.dvd_of_emod_eq_zero z
      have hl := Nat.le_of_dvd (by omega) (Int.natAbs_dvd_natAbs.mpr hd)
      omega
    have pf : ∀ t : Int, t ≠ 0 → t.natAbs ≤ 22 → par q t = false := fun t t0 t1 => by
      rw [par_q (by omega), (ex_unit (by omega) (nd t t0 t1)).1]; rfl
    have p1 : par q s = false := pf s (by omega) (by omega)
    have p2 : par q (1 - s) = false := pf (1 - s) (by omega) (by omega)
    rw [hs_o (by omega), p1, p2]
    cases chi q s <;> rfl
theorem hs_pm (q a b : Int) : hs q a b = 1 ∨ hs q a b = -1 := by
  unfold hs
  cases hb q a b
  · exact .inl rfl
  · exact .inr rfl
theorem iteD {c A B : Prop} [Decidable c] (hc : c) (h : A) : if decide c = true then A else B := by
  rw [decide_eq_true hc]
  exact iteT h
theorem Small.ok {a b : Int} (h : Small a b) : OkN a b := by
  have := h.al; have := h.ah; have := h.bh
  exact ⟨h.a0, by omega, by omega, h.b0, by omega, h.g⟩
theorem OkN.int {a : Int} (h0 : a ≠ 0) (h1 : -1000000 ≤ a) (h2 : a ≤ 1000000) : OkN a 1 := ⟨h0, h1, h2, by decide, by decide, Nat.gcd_one_right _⟩
theorem OkN.of {x y g A B : Int} (g0 : 0 < g) (ex : x * g = A) (ey : y * g = B) (y0 : 0 < y) (gc : Nat.gcd x.natAbs y.natAbs = 1) (A0 : A ≠ 0) (Al : -1000000 ≤ A) (Ah : A ≤ 1000000) (Bh : B ≤ 1000000) : OkN x y := by
  refine ⟨?_, ?_, ?_, y0, ?_, gc⟩
  · rintro rfl; omega
  · by_cases hx : 0 ≤ x
    · omega
    · have : x * g ≤ x * 1 := Int.mul_le_mul_of_nonpos_left (by omega) (by omega)
      omega
  · by_cases hx : 0 ≤ x
    · have : x * 1 ≤ x * g := Int.mul_le_mul_of_nonneg_left (by omega) hx
      omega
    · omega
  · have : y * 1 ≤ y * g := Int.mul_le_mul_of_nonneg_left (by omega) (by omega)
    omega
theorem gg (x y g : Int) : x * y * (g * g) = (x * g) * (y * g) := by grind
def sp__law_rules_right : Sp := fun vs H Q _ => ∃ d q v a b u c e, vs = [.ref d, .int q, v, u] ∧ Dc H d ∧ PT q ∧ NumV H v a b ∧ Small a b ∧ NumV H u c e ∧ Small c e ∧ ∀ H', SB d H H' → Q (.bl true) H'
theorem ok__law_rules_right (T : Txt K mg) : FnOk P w K mg base CX0 6 T.d__law_rules_right.f T.d__law_rules_right.fd p__law_rules_right (sp__law_rules_right) := by
  refine T.d__law_rules_right.F.ok sc__law_rules_right (fun vs H Q E h => ?_) (fun cdv A outer s H vs Q E hr h => ?_)
  · obtain ⟨d, q, v, a, b, u, c, e, rfl, _⟩ := h
    rfl
  · obtain ⟨d, q, v, a, b, u, c, e, rfl, hD, hq, hv, Sa, hu', Sc, kk⟩ := h
    have Na := Sa.ok
    have Nc := Sc.ok
    have hP := hq.plc
    refine ⟨_, (pss_cons (ps_set (i := 4) sc__law_rules_right.nd rfl (.inl rfl) (pe_call (ok_sign_at T) (hr.mono (by decide)) (by rfl) T.d_sign_at.g T.d_sign_at.F.kp T.d_sign_at.b .nil pass0 (pa_cons (pv 1) (pa_cons (pv 2) (pa_cons (pv 3) pa_nil)))))
      (C8.pss_cut (ps_if (PW.pt (pw_or (pt_cmpR op_ne (pv 4) (pe_call (ok_sign_at T) (hr.mono (by decide)) (by rfl) T.d_sign_at.g T.d_sign_at.F.kp T.d_sign_at.b .nil pass0 (pa_cons (pv 1) (pa_cons (pv 3) (pa_cons (pv 2) pa_nil)))) (nomark _)) (pw_or1 (pt_cmpR op_ne (pe_call (ok_sign_at T) (hr.mono (by decide)) (by rfl) T.d_sign_at.g T.d_sign_at.F.kp T.d_sign_at.b .nil pass0 (pa_cons (pv 1) (pa_cons (pv 2) (pa_cons (pe_call (ok__law_times T) (hr.mono (by decide)) (by rfl) T.d__law_times.g T.d__law_times.F.kp T.d__law_times.b .nil pass0 (pa_cons (pv 2) (pa_cons (pe_un un_neg pe_int) pa_nil))) pa_nil)))) pe_int (nomark _))))) (pss_one (ps_ret pe_bl)) pss_nil)
      (C8.pss_cut (ps_set (i := 5) sc__law_rules_right.nd rfl (.inl rfl) (pe_call (ok__law_one_of T) (hr.mono (by decide)) (by rfl) T.d__law_one_of.g T.d__law_one_of.F.kp T.d__law_one_of.b .nil pass0 (pa_cons (pv 0) (pa_cons (pe_lst (pa_cons pe_int (pa_cons (pe_un un_neg pe_int) (pa_cons pe_int (pa_cons pe_int (pa_cons pe_int (pa_cons (pe_un un_neg pe_int) (pa_cons pe_int pa_nil)))))))) pa_nil))))
      (C8.pss_cut (ps_set (i := 6) sc__law_rules_right.nd rfl (.inl rfl) (pe_call (ok__law_one_of T) (hr.mono (by decide)) (by rfl) T.d__law_one_of.g T.d__law_one_of.F.kp T.d__law_one_of.b .nil pass0 (pa_cons (pv 0) (pa_cons (pe_lst (pa_cons pe_int (pa_cons (pe_un un_neg pe_int) (pa_cons pe_int (pa_cons (pe_un un_neg pe_int) (pa_cons pe_int pa_nil)))))) pa_nil))))
      (pss_cons (ps_if (pt_cmpR op_ne (pe_call (ok_sign_at T) (hr.mono (by decide)) (by rfl) T.d_sign_at.g T.d_sign_at.F.kp T.d_sign_at.b .nil pass0 (pa_cons (pv 1) (pa_cons (pv 2) (pa_cons (pe_op op_mul (pv 5) (pv 6)) pa_nil)))) (pe_op op_mul (pe_call (ok_sign_at T) (hr.mono (by decide)) (by rfl) T.d_sign_at.g T.d_sign_at.F.kp T.d_sign_at.b .nil pass0 (pa_cons (pv 1) (pa_cons (pv 2) (pa_cons (pv 5) pa_nil)))) (pe_call (ok_sign_at T) (hr.mono (by decide)) (by rfl) T.d_sign_at.g T.d_sign_at.F.kp T.d_sign_at.b .nil pass0 (pa_cons (pv 1) (pa_cons (pv 2) (pa_cons (pv 6) pa_nil))))) (nomark _)) (pss_one (ps_ret pe_bl)) pss_nil)
      (C8.pss_cut (ps_set (i := 7) sc__law_rules_right.nd rfl (.inl rfl) (pe_call (ok__law_one_of T) (hr.mono (by decide)) (by rfl) T.d__law_one_of.g T.d__law_one_of.F.kp T.d__law_one_of.b .nil pass0 (pa_cons (pv 0) (pa_cons (pe_lst (pa_cons pe_int (pa_cons pe_int (pa_cons (pe_tup (pa_cons pe_int (pa_cons pe_int pa_nil))) (pa_cons (pe_tup (pa_cons pe_int (pa_cons pe_int pa_nil))) pa_nil))))) pa_nil))))
      (pss_cons (ps_if (pt_cmpR op_ne (pe_call (ok_sign_at T) (hr.mono (by decide)) (by rfl) T.d_sign_at.g T.d_sign_at.F.kp T.d_sign_at.b .nil pass0 (pa_cons (pv 1) (pa_cons (pe_call (ok__law_times T) (hr.mono (by decide)) (by rfl) T.d__law_times.g T.d__law_times.F.kp T.d__law_times.b .nil pass0 (pa_cons (pv 5) (pa_cons (pv 7) pa_nil))) (pa_cons (pv 3) pa_nil)))) (pe_call (ok_sign_at T) (hr.mono (by decide)) (by rfl) T.d_sign_at.g T.d_sign_at.F.kp T.d_sign_at.b .nil pass0 (pa_cons (pv 1) (pa_cons (pv 5) (pa_cons (pv 3) pa_nil)))) (nomark _)) (pss_one (ps_ret pe_bl)) pss_nil)
      (pss_one (ps_ret (pe_and (pe_cmpR op_eq (pe_call (ok_sign_at T) (hr.mono (by decide)) (by rfl) T.d_sign_at.g T.d_sign_at.F.kp T.d_sign_at.b .nil pass0 (pa_cons (pv 1) (pa_cons (pv 6) (pa_cons (pe_op op_sub pe_int (pv 6)) pa_nil)))) pe_int (nomark _)) (pe_one (pe_cmpR op_eq (pe_call (ok_sign_at T) (hr.mono (by decide)) (by rfl) T.d_sign_at.g T.d_sign_at.F.kp T.d_sign_at.b .nil pass0 (pa_cons (pv 1) (pa_cons (pv 2) (pa_cons (pv 7) pa_nil)))) pe_int (nomark _))))))))))))), ?_⟩
    refine ⟨_, rfl, _, rfl, _, rfl, q, v, a, b, u, c, e, rfl, hq, hv, Na, hu', Nc, fun H1 s1 => ?_⟩
    have b1 := (SB.refl hD).same s1
    -- symmetry; a and -a
    refine ⟨fun σ' H' => SB d H H' ∧ ∃ z, σ' = [some (.ref d), some (.int q), some v, some u, z, none, none, none], ?_, fun σ' H' hM => ?_⟩
    · refine ⟨_, rfl, _, rfl, _, rfl, _, rfl, q, u, c, e, v, a, b, rfl, hq, hu'.sb hD b1, Nc, hv.sb hD b1, Na, fun H2 s2 => ?_⟩
      have b2 := b1.same s2
      refine ⟨rfl, _, rfl, iteNS (congrArg V.int (hs_symm q _ _)) ?_⟩
      refine ⟨_, rfl, _, rfl, _, rfl, _, rfl, v, a, b, .int (-1), -1, 1, rfl, hv.sb hD b2, .inl ⟨rfl, rfl⟩, Na.b64, Sa.b0, (by have := Sa.bh; omega), by decide, by decide, fun r x y g H3 s3 hr' g0 ex ey y0 gc => ?_⟩
      have b3 := b2.same s3
      have hxy : OkN x y := OkN.of g0 ex ey y0 gc (by have := Sa.a0; omega) (by have := Sa.ah; omega) (by have := Sa.al; omega) (by have := Sa.bh; omega)
      refine ⟨q, v, a, b, r, x, y, rfl, hq, hv.sb hD b3, Na, hr', hxy, fun H4 s4 => ?_⟩
      have ee : x * y * (g * g) = -(a * b) * (1 * 1) := by rw [gg, ex, ey]; grind
      have e1 : hs q (a * b) (x * y) = 1 := (hs_sq_mul hP hxy.ne (by have := Na.ne; omega) (by omega) (by decide) ee).trans (hs_neg hP Na.ne)
      refine ⟨rfl, _, rfl, iteNS (congrArg V.int e1) ?_⟩
      exact ⟨b3.same s4, _, rfl⟩
    obtain ⟨b2, z, rfl⟩ := hM
    -- third
    refine ⟨fun σ' H'' => SB d H H'' ∧ ∃ t : Int, σ' = [some (.ref d), some (.int q), some v, some u, z, some (.int t), none, none] ∧ (t = 2 ∨ t = -3 ∨ t = 5 ∨ t = 7 ∨ t = 11 ∨ t = -1 ∨ t = 6), ?_, fun σ' H2 hM => ?_⟩
    · refine ⟨_, rfl, _, rfl, _, rfl, by show 7 ≤ sizeLine; decide, fun ia hia => ?_⟩
      refine ⟨d, ia, _, rfl, b2.2.same (same_upd hia), b2.2.ne hia, upd_same, by decide, by decide, fun i w H1 hw sb1 => ?_⟩
      have := of_at hw
      simp only [List.mem_cons, List.not_mem_nil, or_false] at this
      have b3 := (b2.same (same_upd hia)).trans sb1
      rcases this with rfl | rfl | rfl | rfl | rfl | rfl | rfl
      · exact ⟨b3, _, rfl, by decide⟩
      · exact ⟨b3, _, rfl, by decide⟩
      · exact ⟨b3, _, rfl, by decide⟩
      · exact ⟨b3, _, rfl, by decide⟩
      · exact ⟨b3, _, rfl, by decide⟩
      · exact ⟨b3, _, rfl, by decide⟩
      · exact ⟨b3, _, rfl, by decide⟩
    obtain ⟨b3, t, rfl, ht⟩ := hM
    -- small
    refine ⟨fun σ' H'' => SB d H H'' ∧ ∃ m : Int, σ' = [some (.ref d), some (.int q), some v, some u, z, some (.int t), some (.int m), none] ∧ (m = 3 ∨ m = -2 ∨ m = 10 ∨ m = -15 ∨ m = 22), ?_, fun σ' H3 hM => ?_⟩
    · refine ⟨_, rfl, _, rfl, _, rfl, by show 5 ≤ sizeLine; decide, fun ia hia => ?_⟩
      refine ⟨d, ia, _, rfl, b3.2.same (same_upd hia), b3.2.ne hia, upd_same, by decide, by decide, fun i w H1 hw sb1 => ?_⟩
      have := of_at hw
      simp only [List.mem_cons, List.not_mem_nil, or_false] at this
      have b4 := (b3.same (same_upd hia)).trans sb1
      rcases this with rfl | rfl | rfl | rfl | rfl
      · exact ⟨b4, _, rfl, by decide⟩
      · exact ⟨b4, _, rfl, by decide⟩
      · exact ⟨b4, _, rfl, by decide⟩
      · exact ⟨b4, _, rfl, by decide⟩
      · exact ⟨b4, _, rfl, by decide⟩
    obtain ⟨b4, m, rfl, hm⟩ := hM
    have Nt : OkN t 1 := OkN.int (by omega) (by omega) (by omega)
    have Nm : OkN m 1 := OkN.int (by omega) (by omega) (by omega)
    have tm : t * m ≠ 0 ∧ -1000000 ≤ t * m ∧ t * m ≤ 1000000 := by
      rcases ht with rfl | rfl | rfl | rfl | rfl | rfl | rfl <;> rcases hm with rfl | rfl | rfl | rfl | rfl <;> decide
    have Ntm : OkN (t * m) 1 := OkN.int tm.1 tm.2.1 tm.2.2
    -- products
    refine ⟨_, rfl, _, rfl, _, rfl, _, rfl, _, _, rfl, rfl, .inl ⟨by omega, by omega⟩, q, v, a, b, _, t * m, 1, rfl, hq, hv.sb hD b4, Na, .inl ⟨rfl, rfl⟩, Ntm, fun H4 s4 => ?_⟩
    have b5 := b4.same s4
    refine ⟨_, rfl, _, rfl, _, rfl, q, v, a, b, _, t, 1, rfl, hq, hv.sb hD b5, Na, .inl ⟨rfl, rfl⟩, Nt, fun H5 s5 => ?_⟩
    have b6 := b5.same s5
    refine ⟨_, rfl, _, rfl, _, rfl, q, v, a, b, _, m, 1, rfl, hq, hv.sb hD b6, Na, .inl ⟨rfl, rfl⟩, Nm, fun H6 s6 => ?_⟩
    have b7 := b6.same s6
    have pm := hs_pm q (a * b) (t * 1)
    refine ⟨_, _, rfl, rfl, .inl ⟨by omega, by omega⟩, rfl, _, rfl, iteNS (congrArg V.int ?_) ?_⟩
    · rw [Int.mul_one, Int.mul_one, Int.mul_one]
      exact hs_mul hP (by omega) (by omega)
    -- square
    refine ⟨fun σ' H'' => SB d H H'' ∧ ∃ w x y r, σ' = [some (.ref d), some (.int q), some v, some u, z, some (.int t), some (.int m), some w] ∧ NumV H'' w x y ∧ OkN x y ∧ y ≤ 9 ∧ x ≤ 25 ∧ 0 < x ∧ x * y = r * r ∧ r ≠ 0, ?_, fun σ' H8 hM => ?_⟩
    · refine ⟨_, rfl, by show 2 ≤ sizeLine; decide, fun t1 h1 => ?_⟩
      have c1 := b7.same (same_upd (o := .tup [.int 1, .int 4]) h1)
      refine ⟨by show 2 ≤ sizeLine; decide, fun t2 h2 => ?_⟩
      have c2 := c1.same (same_upd (o := .tup [.int 25, .int 9]) h2)
      refine ⟨by show 4 ≤ sizeLine; decide, fun ia hia => ?_⟩
      refine ⟨d, ia, _, rfl, c2.2.same (same_upd hia), c2.2.ne hia, upd_same, by show 0 < 4; decide, by show 4 < 1000; decide, fun i w H9 hw sb1 => ?_⟩
      have c3 := (c2.same (same_upd hia)).trans sb1
      have sA : Same (upd H6 t1 (.tup [.int 1, .int 4])) (upd (upd H6 t1 (.tup [.int 1, .int 4])) t2 (.tup [.int 25, .int 9])) := same_upd h2
      have n1 : NumV H9 (.ref t1) 1 4 := ((NumV.same (.inr ⟨t1, rfl, sA _ _ upd_same⟩) (same_upd hia)).sb (c2.2.same (same_upd hia)) sb1)
      have n2 : NumV H9 (.ref t2) 25 9 := ((NumV.same (.inr ⟨t2, rfl, upd_same⟩) (same_upd hia)).sb (c2.2.same (same_upd hia)) sb1)
      have := of_at hw
      simp only [List.mem_cons, List.not_mem_nil, or_false] at this
      rcases this with rfl | rfl | rfl | rfl
      · exact ⟨c3, _, 4, 1, 2, rfl, .inl ⟨rfl, rfl⟩, OkN.int (by decide) (by decide) (by decide), by decide, by decide, by decide, by decide, by decide⟩
      · exact ⟨c3, _, 9, 1, 3, rfl, .inl ⟨rfl, rfl⟩, OkN.int (by decide) (by decide) (by decide), by decide, by decide, by decide, by decide, by decide⟩
      · exact ⟨c3, _, 1, 4, 2, rfl, n1, ⟨by decide, by decide, by decide, by decide, by decide, by decide⟩, by decide, by decide, by decide, by decide, by decide⟩
      · exact ⟨c3, _, 25, 9, 15, rfl, n2, ⟨by decide, by decide, by decide, by decide, by decide, by decide⟩, by decide, by decide, by decide, by decide, by decide⟩
    obtain ⟨b8, w', x, y, r, rfl, hw, Nx, y9, x25, x0, exy, r0⟩ := hM
    -- squares change nothing
    refine ⟨_, rfl, _, rfl, _, rfl, .int t, t, 1, w', x, y, rfl, .inl ⟨rfl, rfl⟩, hw, Nt.b64, by decide, by decide, Nx.b0, by omega, fun l X Y g H9 s9 hl g0 eX eY Y0 gc => ?_⟩
    have b9 := b8.same s9
    have tx : t * x ≠ 0 ∧ -1000000 ≤ t * x ∧ t * x ≤ 1000000 := by
      refine ⟨Int.mul_ne_zero (by omega) (by omega), ?_, ?_⟩
      · rcases ht with rfl | rfl | rfl | rfl | rfl | rfl | rfl <;> omega
      · rcases ht with rfl | rfl | rfl | rfl | rfl | rfl | rfl <;> omega
    have NX : OkN X Y := OkN.of g0 eX eY Y0 gc tx.1 tx.2.1 tx.2.2 (by omega)
    refine ⟨_, rfl, q, l, X, Y, u, c, e, rfl, hq, hl, NX, hu'.sb hD b9, Nc, fun H10 s10 => ?_⟩
    have b10 := b9.same s10
    refine ⟨_, rfl, _, rfl, _, rfl, q, .int t, t, 1, u, c, e, rfl, hq, .inl ⟨rfl, rfl⟩, Nt, hu'.sb hD b10, Nc, fun H11 s11 => ?_⟩
    have b11 := b10.same s11
    refine ⟨rfl, _, rfl, iteNS (congrArg V.int ?_) ?_⟩
    · rw [hs_symm q (X * Y), hs_symm q (t * 1)]
      refine hs_sq_mul hP NX.ne Nt.ne (by omega) r0 (g := g) ?_
      rw [gg, eX, eY]
      have : t * x * (1 * y) = t * 1 * (x * y) := by grind
      rw [this, exy]
    -- the small pair; a and a square
    refine ⟨_, rfl, _, rfl, _, rfl, _, _, rfl, rfl, q, .int m, m, 1, .int (1 - m), 1 - m, 1, rfl, hq, .inl ⟨rfl, rfl⟩, Nm, .inl ⟨rfl, rfl⟩, OkN.int (by omega) (by omega) (by omega), fun H12 s12 => ?_⟩
    have b12 := b11.same s12
    have e9 : hs q (m * 1) ((1 - m) * 1) = 1 := by
      rw [Int.mul_one, Int.mul_one]
      exact steinberg hq hm
    refine ⟨rfl, _, rfl, iteD (congrArg V.int e9) ?_⟩
    have hw12 : NumV H12 w' x y := (((hw.same s9).same s10).same s11).same s12
    refine ⟨_, rfl, _, rfl, _, rfl, q, v, a, b, w', x, y, rfl, hq, hv.sb hD b12, Na, hw12, Nx, fun H13 s13 => ?_⟩
    have e10 : hs q (a * b) (x * y) = 1 := by
      rw [exy]
      exact hs_sq hP r0
    refine ⟨rfl, ?_⟩
    rw [decide_eq_true (congrArg V.int e10)]
    exact kk _ (b12.same s13)
end
end K86
namespace K86
open PySem PySem.Spec PyProof.Rows L2
section
variable {P : Program} {w : World} {K : PySem.W.Frag} {mg : Str → Option Value} {base : Heap}

theorem tri_small {p : Nat} (h : p = 2 ∨ p = 3 ∨ p = 5 ∨ p = 7) : PT (p : Int) := by
  right
  refine ⟨by omega, by omega, fun d d2 dd => ?_⟩
  have d3 : d ≤ 2 := by
    by_cases h3 : d ≤ 2
    · exact h3
    · have : 3 * 3 ≤ d * d := Int.mul_le_mul (by omega) (by omega) (by decide) (by omega)
      omega
  have e : d = 2 := by omega
  subst e
  rcases h with rfl | rfl | rfl | rfl
  · exact absurd dd (by decide)
  all_goals decide
theorem Small.bnd {a b : Int} (h : Small a b) : (a * b).natAbs < 1073741824 := by
  have := h.al; have := h.ah; have := h.b0; have := h.bh
  have : (a * b).natAbs ≤ 5000 * 60 := by
    rw [Int.natAbs_mul]
    exact Nat.mul_le_mul (show a.natAbs ≤ 5000 by omega) (show b.natAbs ≤ 60 by omega)
  omega
def sv (q A : Int) : Int := if q = 0 then A else sm q A
def d1 (q A : Int) : Bool := if q = 0 then decide (0 < A) else !par q A
def d2 (q A : Int) : Bool := if q = 2 then decide (sm 2 A % 8 = 1) else d1 q A
theorem d1_q {q A : Int} (hq : 2 ≤ q) (hA : A ≠ 0) : (!decide (sm q A % q = 0)) = !par q A := by
  rcases sm_cases hq hA with ⟨h1, h2, h3⟩ | ⟨h1, h2, h3⟩
  · rw [h1, h2, decide_eq_false h3]
  · rw [h1, h2, decide_eq_true (Int.mul_emod_left _ _)]
theorem d2_isq {q A : Int} (hq : PT q) (hA : A ≠ 0) (h : ¬ (2 < q ∧ d2 q A = true)) : d2 q A = isq q A := by
  unfold isq
  rcases hq with rfl | ht
  · rfl
  have h2 := ht.1
  rw [if_neg (by omega)]
  by_cases e : q = 2
  · subst e
    rw [if_pos rfl]
    show decide (sm 2 A % 8 = 1) = _
    rcases sm_cases (p := 2) (by decide) hA with ⟨k1, k2, k3⟩ | ⟨k1, k2, k3⟩
    · rw [k1, k2]; rfl
    · rw [k1, k2, decide_eq_false (by omega)]; rfl
  · have hd : d2 q A = false := by
      cases ed : d2 q A with
      | false => rfl
      | true => exact absurd ⟨by omega, ed⟩ h
    have : d2 q A = !par q A := (if_neg e).trans (if_neg (by omega))
    rw [hd] at this ⊢
    rw [← this]; rfl
theorem E_isq {q A : Int} (hq : PT q) (hA : A ≠ 0) (h : 2 < q) (hd : d2 q A = true) : K86.E q (sm q A) = isq q A := by
  have e : d2 q A = !par q A := (if_neg (by omega)).trans (if_neg (by omega))
  rw [hd] at e
  unfold isq
  rw [if_neg (by omega), if_neg (by omega), ← e]
  rcases sm_cases (p := q) (by omega) hA with ⟨k1, k2, k3⟩ | ⟨k1, k2, k3⟩
  · rw [k2]; rfl
  · rw [k1] at e; exact Bool.noConfusion e
def sp__law_right : Sp := fun vs H Q _ => ∃ d, vs = [.ref d] ∧ Dc H d ∧ ∀ H', SB d H H' → Q (.bl true) H'
theorem ok__law_right (T : Txt K mg) : FnOk P w K mg base CX0 7 T.d__law_right.f T.d__law_right.fd p__law_right (sp__law_right) := by
  refine T.d__law_right.F.ok sc__law_right (fun vs H Q E h => ?_) (fun cdv A outer s H vs Q E hr h => ?_)
  · obtain ⟨d, rfl, _⟩ := h
    rfl
  · obtain ⟨d, rfl, hD, kk⟩ := h
    refine ⟨_, (pss_cons (ps_par (i := 1) (j := 2) rfl sc__law_right.nd rfl rfl (by decide) rfl rfl (pa_cons (pe_call (ok__law_drawn T) (hr.mono (by decide)) (by rfl) T.d__law_drawn.g T.d__law_drawn.F.kp T.d__law_drawn.b .nil pass0 (pa_cons (pv 0) pa_nil)) (pa_cons (pe_call (ok__law_drawn T) (hr.mono (by decide)) (by rfl) T.d__law_drawn.g T.d__law_drawn.F.kp T.d__law_drawn.b .nil pass0 (pa_cons (pv 0) pa_nil)) pa_nil)) (by rfl))
      (pss_cons (ps_par (i := 3) (j := 4) rfl sc__law_right.nd rfl rfl (by decide) rfl rfl (pa_cons (pe_call (ok__law_integer T) (hr.mono (by decide)) (by rfl) T.d__law_integer.g T.d__law_integer.F.kp T.d__law_integer.b .nil pass0 (pa_cons (pv 1) pa_nil)) (pa_cons (pe_call (ok__law_integer T) (hr.mono (by decide)) (by rfl) T.d__law_integer.g T.d__law_integer.F.kp T.d__law_integer.b .nil pass0 (pa_cons (pv 2) pa_nil)) pa_nil)) (by rfl))
      (pss_cons (ps_for PassesOwn.never rfl (pi_tup (pe_tup (pa_cons pe_int (pa_cons pe_int (pa_cons pe_int (pa_cons pe_int pa_nil)))))) (pg_name (i := 5) sc__law_right.nd rfl (.inl rfl)) (C8.pss_cut (ps_set (i := 6) sc__law_right.nd rfl (.inl rfl) (pe_ifExp (pt_val (pe_call (ok__law_has_solution T) (hr.mono (by decide)) (by rfl) T.d__law_has_solution.g T.d__law_has_solution.F.kp T.d__law_has_solution.b .nil pass0 (pa_cons (pv 5) (pa_cons (pv 3) (pa_cons (pv 4) pa_nil))))) pe_int (pe_un un_neg pe_int)))
      (pss_one (ps_if (PW.pt (pw_or (pt_cmpR op_ne (pe_call (ok_sign_at T) (hr.mono (by decide)) (by rfl) T.d_sign_at.g T.d_sign_at.F.kp T.d_sign_at.b .nil pass0 (pa_cons (pv 5) (pa_cons (pv 1) (pa_cons (pv 2) pa_nil)))) (pv 6) (nomark _)) (pw_or1 (pt_cmpR op_ne (pe_call (ok__law_sign T) (hr.mono (by decide)) (by rfl) T.d__law_sign.g T.d__law_sign.F.kp T.d__law_sign.b .nil pass0 (pa_cons (pv 5) (pa_cons (pv 3) (pa_cons (pv 4) pa_nil)))) (pv 6) (nomark _))))) (pss_one (ps_ret pe_bl)) pss_nil))))
      (pss_cons (ps_for PassesOwn.never rfl (pi_tup (pe_tup (pa_cons pe_int (pa_cons (pe_call (ok__law_place_drawn T) (hr.mono (by decide)) (by rfl) T.d__law_place_drawn.g T.d__law_place_drawn.F.kp T.d__law_place_drawn.b .nil pass0 (pa_cons (pv 0) pa_nil)) (pa_cons (pe_call (ok__law_one_of T) (hr.mono (by decide)) (by rfl) T.d__law_one_of.g T.d__law_one_of.F.kp T.d__law_one_of.b .nil pass0 (pa_cons (pv 0) (pa_cons (pe_lst (pa_cons pe_int (pa_cons pe_int (pa_cons pe_int (pa_cons pe_int pa_nil))))) pa_nil))) pa_nil))))) (pg_name (i := 7) sc__law_right.nd rfl (.inl rfl)) (pss_cons (ps_if (PW.pt (pw_or (pt_cmpR op_ne (pe_call (ok_sign_at T) (hr.mono (by decide)) (by rfl) T.d_sign_at.g T.d_sign_at.F.kp T.d_sign_at.b .nil pass0 (pa_cons (pv 7) (pa_cons (pv 1) (pa_cons (pv 2) pa_nil)))) (pe_call (ok__law_sign T) (hr.mono (by decide)) (by rfl) T.d__law_sign.g T.d__law_sign.F.kp T.d__law_sign.b .nil pass0 (pa_cons (pv 7) (pa_cons (pv 3) (pa_cons (pv 4) pa_nil)))) (nomark _)) (pw_or1 (pt_not (pt_val (pe_call (ok__law_rules_right T) (hr.mono (by decide)) (by rfl) T.d__law_rules_right.g T.d__law_rules_right.F.kp T.d__law_rules_right.b .nil pass0 (pa_cons (pv 0) (pa_cons (pv 7) (pa_cons (pv 1) (pa_cons (pv 2) pa_nil)))))))))) (pss_one (ps_ret pe_bl)) pss_nil)
      (C8.pss_cut (ps_set (i := 8) sc__law_right.nd rfl (.inl rfl) (pe_ifExp (pt_cmpR op_gt (pv 7) pe_int (nomark _)) (pe_call (ok__law_small T) (hr.mono (by decide)) (by rfl) T.d__law_small.g T.d__law_small.F.kp T.d__law_small.b .nil pass0 (pa_cons (pv 7) (pa_cons (pv 3) pa_nil))) (pv 3)))
      (C8.pss_cut (ps_set (i := 9) sc__law_right.nd rfl (.inl rfl) (pe_ifExp (pt_cmpR op_eq (pv 7) pe_int (nomark _)) (pe_cmpR op_gt (pv 8) pe_int (nomark _)) (pe_cmpR op_ne (pe_op op_mod (pv 8) (pv 7)) pe_int (nomark _))))
      (C8.pss_cut (ps_if (pt_cmpR op_eq (pv 7) pe_int (nomark _)) (pss_one (ps_set (i := 9) sc__law_right.nd rfl (.inl rfl) (pe_cmpR op_eq (pe_op op_mod (pv 8) pe_int) pe_int (nomark _)))) pss_nil)
      (C8.pss_cut (ps_if (PW.pt (pw_and (pt_cmpR op_gt (pv 7) pe_int (nomark _)) (pw_and1 (pt_val (pv 9))))) (pss_one (ps_set (i := 9) sc__law_right.nd rfl (.inl rfl) (pe_call (ok__law_is_square T) (hr.mono (by decide)) (by rfl) T.d__law_is_square.g T.d__law_is_square.F.kp T.d__law_is_square.b .nil pass0 (pa_cons (pv 7) (pa_cons (pv 8) pa_nil))))) pss_nil)
      (pss_one (ps_if (pt_cmpR op_ne (pe_call (ok_is_square_at T) (hr.mono (by decide)) (by rfl) T.d_is_square_at.g T.d_is_square_at.F.kp T.d_is_square_at.b .nil pass0 (pa_cons (pv 7) (pa_cons (pv 1) pa_nil))) (pv 9) (nomark _)) (pss_one (ps_ret pe_bl)) pss_nil))))))))
      (pss_one (ps_ret (pe_cmpR (op_eqD hr.units) (pe_lst (pa_cons (pe_glob (v := .int 1000000) rfl T.m_MOST_PLACE ⟨_, rfl⟩) (pa_cons (pe_glob (v := .int 1000000) rfl T.m_MOST_SIGNED ⟨_, rfl⟩) pa_nil))) (pe_lst (pa_cons (pe_op op_powW pe_int pe_int) (pa_cons (pe_op op_powW pe_int pe_int) pa_nil))) (nomark _)))))))), ?_⟩
    -- two numbers
    refine ⟨_, rfl, d, rfl, hD, fun v a b H1 b1 hv Sa => ?_⟩
    refine ⟨_, rfl, d, rfl, b1.2, fun u c e H2 sb2 hu' Sc => ?_⟩
    have hv := hv.sb b1.2 sb2
    have b2 := b1.trans sb2
    have Na := Sa.ok
    have Nc := Sc.ok
    have nA := Na.ne
    have nB := Nc.ne
    have bA := Sa.bnd
    have bB := Sc.bnd
    refine ⟨_, _, rfl, _, rfl, v, a, b, rfl, hv, Na.b64, _, rfl, u, c, e, rfl, hu', Nc.b64, _, _, rfl, ?_⟩
    generalize hA : a * b = A at *
    generalize hB : c * e = B at *
    -- the small primes
    refine ⟨by show 4 ≤ sizeLine; decide, fun tp htp => ⟨tp, rfl, ⟨_, SqT.at upd_same⟩, for_tup (xs := [.int 2, .int 3, .int 5, .int 7]) (fun i σ H' => Same (upd H2 tp (.tup [.int 2, .int 3, .int 5, .int 7])) H' ∧ ∃ s5 s6, σ = [some (.ref d), some v, some u, some (.int A), some (.int B), s5, s6, none, none, none]) ⟨Same.refl _, none, none, rfl⟩ (fun i σ H' _ hP => SqT.at (hP.1 _ _ upd_same)) (fun i x σ H3 hx hP => ?_) (fun σ H3 hP => ?_)⟩⟩
    · obtain ⟨s3, s5, s6, rfl⟩ := hP
      obtain ⟨p, rfl, hp⟩ : ∃ p : Nat, x = .int p ∧ (p = 2 ∨ p = 3 ∨ p = 5 ∨ p = 7) := by
        have := of_at hx
        simp only [List.mem_cons, List.not_mem_nil, or_false] at this
        rcases this with rfl | rfl | rfl | rfl
        · exact ⟨2, rfl, by decide⟩
        · exact ⟨3, rfl, by decide⟩
        · exact ⟨5, rfl, by decide⟩
        · exact ⟨7, rfl, by decide⟩
      have hq := tri_small hp
      have s23 := (same_upd htp).trans s3
      refine ⟨fun σ' H' => Same H3 H' ∧ σ' = [some (.ref d), some v, some u, some (.int A), some (.int B), some (.int p), some (.int (hs p A B)), none, none, none], ?_, fun σ' H4 hM => ?_⟩
      · refine ⟨_, rfl, _, rfl, _, rfl, p, A, B, rfl, hp, nA, nB, bA, bB, fun H4 s4 => ⟨_, rfl, ?_⟩⟩
        unfold hs
        cases hb p A B with
        | true => exact iteF ⟨_, rfl, s4, rfl⟩
        | false => exact iteT ⟨s4, rfl⟩
      obtain ⟨s4, rfl⟩ := hM
      have s24 := s23.trans s4
      refine ⟨_, rfl, _, rfl, _, rfl, p, v, a, b, u, c, e, rfl, hq, hv.same s24, Na, hu'.same s24, Nc, fun H5 s5' => ?_⟩
      rw [hA, hB]
      refine ⟨_, rfl, rfl, _, rfl, iteNS rfl ?_⟩
      refine ⟨_, rfl, _, rfl, _, rfl, p, A, B, rfl, hq, nA, nB, bA, bB, fun H6 s6' => ?_⟩
      refine ⟨_, rfl, rfl, _, rfl, iteNS rfl ?_⟩
      exact ⟨((s3.trans s4).trans s5').trans s6', _, _, rfl⟩
    obtain ⟨s3, s5, s6, rfl⟩ := hP
    have s23 := (same_upd htp).trans s3
    have b3 := b2.same s23
    have hv3 := hv.same s23
    have hu3 := hu'.same s23
    -- the places
    refine ⟨_, rfl, d, rfl, b3.2, fun q H4 sb4 hq _ => ?_⟩
    refine ⟨_, rfl, by show 4 ≤ sizeLine; decide, fun ia hia => ?_⟩
    refine ⟨d, ia, _, rfl, sb4.2.same (same_upd hia), sb4.2.ne hia, upd_same, by decide, by decide, fun j w H5 hw sb5 => ?_⟩
    obtain ⟨p, rfl, hp⟩ : ∃ p : Nat, w = .int p ∧ (p = 2 ∨ p = 3 ∨ p = 5 ∨ p = 7) := by
      have := of_at hw
      simp only [List.mem_cons, List.not_mem_nil, or_false] at this
      rcases this with rfl | rfl | rfl | rfl
      · exact ⟨2, rfl, by decide⟩
      · exact ⟨3, rfl, by decide⟩
      · exact ⟨5, rfl, by decide⟩
      · exact ⟨7, rfl, by decide⟩
    have sb35 := (sb4.same (same_upd hia)).trans sb5
    refine ⟨by show 3 ≤ sizeLine; decide, fun tq htq => ?_⟩
    have sb36 := sb35.same (same_upd (o := .tup [.int 0, .int q, .int p]) htq)
    have hv6 := hv3.sb b3.2 sb36
    have hu6 := hu3.sb b3.2 sb36
    have tqd : tq ≠ d := sb35.2.ne htq
    refine ⟨tq, rfl, ⟨_, SqT.at upd_same⟩, for_tup (xs := [.int 0, .int q, .int p]) (fun i σ H' => SB d (upd H5 tq (.tup [.int 0, .int q, .int p])) H' ∧ ∃ s5 s6 s7 s8 s9, σ = [some (.ref d), some v, some u, some (.int A), some (.int B), s5, s6, s7, s8, s9]) ⟨SB.refl sb36.2, s5, s6, none, none, none, rfl⟩ (fun i σ H' _ hP => SqT.at (hP.1.1 _ _ tqd upd_same)) (fun i x σ H7 hx hP => ?_) (fun σ H7 hP => ?_)⟩
    · obtain ⟨sb7, s5, s6, s7, s8, s9, rfl⟩ := hP
      obtain ⟨q, rfl, hq⟩ : ∃ q' : Int, x = .int q' ∧ PT q' := by
        have := of_at hx
        simp only [List.mem_cons, List.not_mem_nil, or_false] at this
        rcases this with rfl | rfl | rfl
        · exact ⟨0, rfl, .inl rfl⟩
        · exact ⟨q, rfl, hq⟩
        · exact ⟨p, rfl, tri_small hp⟩
      have hv7 := hv6.sb sb36.2 sb7
      have hu7 := hu6.sb sb36.2 sb7
      refine ⟨_, rfl, _, rfl, _, rfl, q, v, a, b, u, c, e, rfl, hq, hv7, Na, hu7, Nc, fun H8 k8 => ?_⟩
      rw [hA, hB]
      refine ⟨_, rfl, _, rfl, _, rfl, q, A, B, rfl, hq, nA, nB, bA, bB, fun H9 k9 => ?_⟩
      refine ⟨rfl, _, rfl, iteNS rfl ?_⟩
      have k79 := k8.trans k9
      refine ⟨_, rfl, _, rfl, _, rfl, _, rfl, d, q, v, a, b, u, c, e, rfl, sb7.2.same k79, hq, hv7.same k79, Sa, hu7.same k79, Sc, fun H10 sb10 => ⟨_, rfl, iteF ?_⟩⟩
      have b79 := sb7.same k79
      have b10 := b79.trans sb10
      have hv10 := (hv7.same k79).sb b79.2 sb10
      -- what is due
      refine ⟨fun σ' H' => H' = H10 ∧ σ' = [some (.ref d), some v, some u, some (.int A), some (.int B), s5, s6, some (.int q), some (.int (sv q A)), s9], ?_, fun σ' H11 hM => ?_⟩
      · refine ⟨_, rfl, _, _, rfl, rfl, _, rfl, ite2 (fun h0 => ?_) (fun h0 => ?_)⟩
        · have h1 := of_decide_eq_true h0
          have ht := hq.resolve_left (by omega)
          refine ⟨_, rfl, _, rfl, q, A, rfl, ht.1, ht.2.1, nA, bA, rfl, ?_⟩
          rw [show sv q A = sm q A from if_neg (by omega)]
          rfl
        · have h1 : q = 0 := by
            rcases hq with h | h
            · exact h
            · have := h.1
              exact absurd (decide_eq_true (show (0 : Int) < q by omega)) h0
          subst h1
          exact ⟨_, rfl, rfl, rfl⟩
      obtain ⟨rfl, rfl⟩ := hM
      refine ⟨fun σ' H' => H' = H11 ∧ σ' = [some (.ref d), some v, some u, some (.int A), some (.int B), s5, s6, some (.int q), some (.int (sv q A)), some (.bl (d1 q A))], ?_, fun σ' H12 hM => ?_⟩
      · refine ⟨_, rfl, rfl, _, rfl, ite2 (fun h0 => ?_) (fun h0 => ?_)⟩
        · have h1 : q = 0 := V.int.inj (of_decide_eq_true h0)
          subst h1
          exact ⟨_, rfl, _, _, rfl, rfl, rfl, rfl⟩
        · have h1 : q ≠ 0 := fun z => h0 (decide_eq_true (congrArg V.int z))
          have ht := hq.resolve_left h1
          have h2 := ht.1
          have e1 : sv q A = sm q A := if_neg h1
          have e2 : d1 q A = !par q A := if_neg h1
          refine ⟨_, rfl, _, rfl, _, _, rfl, rfl, show (0 : Int) < q by omega, rfl, rfl, ?_⟩
          rw [e1, e2, ← d1_q h2 nA, ← decV]
          rfl
      obtain ⟨rfl, rfl⟩ := hM
      refine ⟨fun σ' H' => H' = H12 ∧ σ' = [some (.ref d), some v, some u, some (.int A), some (.int B), s5, s6, some (.int q), some (.int (sv q A)), some (.bl (d2 q A))], ?_, fun σ' H13 hM => ?_⟩
      · refine ⟨_, rfl, rfl, _, rfl, ite2 (fun h0 => ?_) (fun h0 => ?_)⟩
        · have h1 : q = 2 := V.int.inj (of_decide_eq_true h0)
          subst h1
          refine ⟨_, rfl, _, _, rfl, rfl, show (0 : Int) < 8 by decide, rfl, rfl, ?_⟩
          rw [show d2 2 A = decide (sm 2 A % 8 = 1) from rfl, ← decV]
          rfl
        · have h1 : q ≠ 2 := fun z => h0 (decide_eq_true (congrArg V.int z))
          refine ⟨rfl, ?_⟩
          rw [show d2 q A = d1 q A from if_neg h1]
      obtain ⟨rfl, rfl⟩ := hM
      refine ⟨fun σ' H' => H' = H13 ∧ σ' = [some (.ref d), some v, some u, some (.int A), some (.int B), s5, s6, some (.int q), some (.int (sv q A)), some (.bl (isq q A))], ?_, fun σ' H14 hM => ?_⟩
      · refine ⟨_, rfl, _, _, rfl, rfl, _, rfl, ite2 (fun h0 => ?_) (fun h0 => ?_)⟩
        · have h1 : 2 < q := of_decide_eq_true h0
          have ht := hq.resolve_left (by omega)
          refine ⟨_, rfl, _, rfl, ite2 (fun h2 => ?_) (fun h2 => ?_)⟩
          · refine ⟨_, rfl, _, rfl, q, sv q A, rfl, by omega, ht.2.1, rfl, ?_⟩
            rw [← E_isq hq nA h1 h2, show sv q A = sm q A from if_neg (by omega)]
            rfl
          · refine ⟨rfl, ?_⟩
            rw [d2_isq hq nA (fun z => h2 z.2)]
        · refine ⟨rfl, ?_⟩
          rw [d2_isq hq nA (fun z => h0 (decide_eq_true z.1))]
      obtain ⟨rfl, rfl⟩ := hM
      refine ⟨_, rfl, _, rfl, q, v, a, b, rfl, hq, hv10, Na, fun H15 k15 => ?_⟩
      rw [hA]
      refine ⟨_, rfl, rfl, _, rfl, iteNS rfl ?_⟩
      exact ⟨b10.same k15, _, _, _, _, _, rfl⟩
    obtain ⟨sb7, s5, s6, s7, s8, s9, rfl⟩ := hP
    have b7 := (b3.trans sb36).trans sb7
    -- the constants
    refine ⟨by show 2 ≤ sizeLine; decide, fun l1 h1 => ?_⟩
    refine ⟨_, _, rfl, rfl, ⟨by decide, by decide +kernel⟩, _, _, rfl, rfl, ⟨by decide, by decide +kernel⟩, by show 2 ≤ sizeLine; decide, fun l2 h2 => ?_⟩
    have k1 := same_upd (o := .lst [.int 1000000, .int 1000000]) h1
    have k2 := same_upd (o := .lst [.int (10 ^ (6 : Int).toNat), .int (10 ^ (6 : Int).toNat)]) h2
    refine ⟨.list (([1000000, 1000000] : List Int).map PyData.int), .list (([10 ^ (6 : Int).toNat, 10 ^ (6 : Int).toNat] : List Int).map PyData.int), .lst (SqL.at (k2 _ _ upd_same)) (dp_ints K _ [1000000, 1000000]), .lst (SqL.at upd_same) (dp_ints K _ [10 ^ (6 : Int).toNat, 10 ^ (6 : Int).toNat]), PySem.W.shaped_ints _, PySem.W.shaped_ints _, ?_⟩
    have eq : PyData.eqv (.list (([1000000, 1000000] : List Int).map PyData.int)) (.list (([10 ^ (6 : Int).toNat, 10 ^ (6 : Int).toNat] : List Int).map PyData.int)) = true := by
      have e6 : (10 : Int) ^ (6 : Int).toNat = 1000000 := by decide
      rw [e6]
      simp [PyData.eqv, PyData.eqvAll]
    rw [eq]
    exact kk _ ((b7.same k1).same k2)
def sp_law (K : PySem.W.Frag) : Sp := fun vs H Q _ => ∃ (a : Addr) (ns : List Int), vs = [.ref a] ∧ SqL K H a (ns.map V.int) ∧ ns.length ≤ 63 ∧ ∀ H', Q (.bl true) H'
theorem ok_law (T : Txt K mg) : FnOk P w K mg base CX0 8 T.d_law.f T.d_law.fd p_law (sp_law K) := by
  refine T.d_law.F.ok sc_law (fun vs H Q E h => ?_) (fun cdv A outer s H vs Q E hr h => ?_)
  · obtain ⟨a, ns, rfl, _⟩ := h
    rfl
  · obtain ⟨a, ns, rfl, hS, hlen, kk⟩ := h
    refine ⟨_, (pss_cons (ps_for PassesOwn.never rfl (pi_range1 (by rfl) T.n_range (pa_cons (pe_callB (call_max2 rfl) (by rfl) T.n_max (by decide +kernel) (pa_cons pe_int (pa_cons (pe_callB (call_min2 rfl) (by rfl) T.n_min (by decide +kernel) (pa_cons pe_int (pa_cons (pe_callB call_len_seq (by rfl) T.n_len (by decide +kernel) (pa_cons (pv 0) pa_nil)) pa_nil))) pa_nil))) pa_nil)) (pg_name (i := 1) sc_law.nd rfl (.inl rfl)) (pss_one (ps_if (pt_not (pt_val (pe_call (ok__law_right T) (hr.mono (by decide)) (by rfl) T.d__law_right.g T.d__law_right.F.kp T.d__law_right.b .nil pass0 (pa_cons (pe_call (ok__law_dice T) (hr.mono (by decide)) (by rfl) T.d__law_dice.g T.d__law_dice.F.kp T.d__law_dice.b .nil pass0 (pa_cons (pv 0) (pa_cons (pv 1) pa_nil))) pa_nil)))) (pss_one (ps_ret pe_bl)) pss_nil)))
      (pss_one (ps_ret pe_bl))), ?_⟩
    refine ⟨_, rfl, a, _, rfl, .inl hS, _, _, rfl, _, _, rfl, ?_⟩
    have hn : ∃ n : Nat, n ≤ 3 ∧ (if (if ((ns.map V.int).length : Int) < 3 then ((ns.map V.int).length : Int) else 3) > 1 then (if ((ns.map V.int).length : Int) < 3 then ((ns.map V.int).length : Int) else 3) else 1) = (n : Int) := by
      generalize (ns.map V.int).length = m
      by_cases h1 : (m : Int) < 3
      · rw [if_pos h1]
        by_cases h2 : (m : Int) > 1
        · exact ⟨m, by omega, by rw [if_pos h2]⟩
        · exact ⟨1, by omega, by rw [if_neg h2]; rfl⟩
      · rw [if_neg h1]
        exact ⟨3, by omega, rfl⟩
    obtain ⟨n, n3, en⟩ := hn
    rw [en]
    refine ⟨_, rfl, by omega, by omega, for_range (lo := 0) (n := n) (fun i σ H' => Same H H' ∧ ∃ t, σ = [some (.ref a), t]) ⟨Same.refl _, none, rfl⟩ (fun i σ H1 hi hP => ?_) (fun σ H1 hP => kk _)⟩
    obtain ⟨s1, t, rfl⟩ := hP
    rw [show (0 : Int) + (i : Int) = i from Int.zero_add _]
    refine ⟨_, rfl, _, rfl, a, ns, i, rfl, s1.seq hS, by omega, fun p H2 hp s2 hDc => ?_⟩
    refine ⟨p, rfl, hDc, fun H3 sb3 => ⟨_, rfl, iteF ?_⟩⟩
    exact ⟨fun b o eb => sb3.1 b o (ne_of_none (s1 _ _ eb) hp) (s2 _ _ (s1 _ _ eb)), _, rfl⟩
end
end K86
namespace K86
open PySem PySem.Spec PyProof.Rows L2
/-- the law's call from its promise, the loose names' values at hand -/
theorem walk_loose {law : PySem.W.OpenLaw} {top lev : Nat} {prg : Program} {ls : List Str} {LX : (Str → Option Value) → Heap → Prop} {KY : World → Heap → Prop} {rec : DefRec} {Kf : Params → PySem.W.Frag} {arg : Str} {prom : World → Sp}
    (e1 : law.most = some top) (e2 : top ≤ sizeLine) (e3 : rec.params.defaults = []) (room : Room lev callerA) (kin : ∀ (w : World) (hp : Heap), KY w hp → (Kf w.params).In hp)
    (fn : ∀ (w : World) (mg : Str → Option Value) (fa : Addr) (hp : Heap), (Kf w.params).In hp → hp.Ns mainGlobals mg → mg rec.name = some (.ref fa) → LX mg hp →
      ∃ fd : FuncData, (∀ (s : Shared) (u : Value), BindsTo s fd ⟨[u], []⟩ [(arg, u)]) ∧ ∀ b : Heap, (Kf w.params).In b → b.Ns mainGlobals mg → FnOk law.prog w (Kf w.params) mg b CX0 lev fa fd [arg] (prom w))
    (gives : ∀ (w : World) (H : Hp) (a : Addr) (ns : List Int), ns.length ≤ top → Only H → SqL (Kf w.params) H a (ns.map V.int) → prom w [.ref a] H (fun v _ => v = .bl true) E0) :
    PySem.W.WalkO prg ls LX KY law.row.toRowW rec [] fun f vs => PySem.call f vs :=
  Att.attach_call e1 e3 fun w _ s1 mg _ fa _ _ _ _ a _ ns G Y _ _ _ e4 ob isInts hlen gens =>
    let kk := kin w _ Y
    let ⟨_, hb, hF⟩ := fn w mg fa _ kk G.T.g e4 G.X
    law_call kk G.T.g G.T.b G.T.builtins G.T.nolimit gens ob isInts (Nat.le_trans hlen e2) room hF hb (fun H only sq => gives w H a ns hlen only sq) fun _ _ _ z => z
theorem sixty {p : Program} {n : Int} {mg : Str → Option Value} {h : Heap} (x : PySem.W.XL p [("SIXTY", .int n)] mg h) (e : n = 10 ^ 60) : ∃ t, mg "SIXTY" = some (.int (10 ^ 60) t) := by
  obtain ⟨v, h1, h2⟩ := x.2.val ("SIXTY", .int n) (List.mem_singleton.mpr rfl)
  subst e
  cases h2
  exact ⟨_, h1⟩

def txt_mk {K : PySem.W.Frag} {h : Heap} {mg : Str → Option Value} (X : K.In h) (G : h.Ns mainGlobals mg) {tS : Tok} (hS : mg "SIXTY" = some (.int (10 ^ 60) tS))
    {f_is_whole_number : Addr} {od_is_whole_number an_is_whole_number : Option Addr} {sl_is_whole_number : Array (Option Value)} {oc_is_whole_number kV_is_whole_number dc_is_whole_number pm_is_whole_number cd_is_whole_number ct_is_whole_number : Value}
    {f_is_integer : Addr} {od_is_integer an_is_integer : Option Addr} {sl_is_integer : Array (Option Value)} {oc_is_integer kV_is_integer dc_is_integer pm_is_integer cd_is_integer ct_is_integer : Value}
    {f_is_ratio_any : Addr} {od_is_ratio_any an_is_ratio_any : Option Addr} {sl_is_ratio_any : Array (Option Value)} {oc_is_ratio_any kV_is_ratio_any dc_is_ratio_any pm_is_ratio_any cd_is_ratio_any ct_is_ratio_any : Value}
    {f_is_number_in : Addr} {od_is_number_in an_is_number_in : Option Addr} {sl_is_number_in : Array (Option Value)} {oc_is_number_in kV_is_number_in dc_is_number_in pm_is_number_in cd_is_number_in ct_is_number_in : Value}
    {f_pair_of : Addr} {od_pair_of an_pair_of : Option Addr} {sl_pair_of : Array (Option Value)} {oc_pair_of kV_pair_of dc_pair_of pm_pair_of cd_pair_of ct_pair_of : Value}
    {f_exponent_at : Addr} {od_exponent_at an_exponent_at : Option Addr} {sl_exponent_at : Array (Option Value)} {oc_exponent_at kV_exponent_at dc_exponent_at pm_exponent_at cd_exponent_at ct_exponent_at : Value}
    {f_least_divisor : Addr} {od_least_divisor an_least_divisor : Option Addr} {sl_least_divisor : Array (Option Value)} {oc_least_divisor kV_least_divisor dc_least_divisor pm_least_divisor cd_least_divisor ct_least_divisor : Value}
    {f_is_prime_number : Addr} {od_is_prime_number an_is_prime_number : Option Addr} {sl_is_prime_number : Array (Option Value)} {oc_is_prime_number kV_is_prime_number dc_is_prime_number pm_is_prime_number cd_is_prime_number ct_is_prime_number : Value}
    {f_modular_power : Addr} {od_modular_power an_modular_power : Option Addr} {sl_modular_power : Array (Option Value)} {oc_modular_power kV_modular_power dc_modular_power pm_modular_power cd_modular_power ct_modular_power : Value}
    {f_square_sign_in : Addr} {od_square_sign_in an_square_sign_in : Option Addr} {sl_square_sign_in : Array (Option Value)} {oc_square_sign_in kV_square_sign_in dc_square_sign_in pm_square_sign_in cd_square_sign_in ct_square_sign_in : Value}
    {f_whole_of : Addr} {od_whole_of an_whole_of : Option Addr} {sl_whole_of : Array (Option Value)} {oc_whole_of kV_whole_of dc_whole_of pm_whole_of cd_whole_of ct_whole_of : Value}
    {f_is_square_in : Addr} {od_is_square_in an_is_square_in : Option Addr} {sl_is_square_in : Array (Option Value)} {oc_is_square_in kV_is_square_in dc_is_square_in pm_is_square_in cd_is_square_in ct_is_square_in : Value}
    {f_sign_at_two : Addr} {od_sign_at_two an_sign_at_two : Option Addr} {sl_sign_at_two : Array (Option Value)} {oc_sign_at_two kV_sign_at_two dc_sign_at_two pm_sign_at_two cd_sign_at_two ct_sign_at_two : Value}
    {f_sign_in : Addr} {od_sign_in an_sign_in : Option Addr} {sl_sign_in : Array (Option Value)} {oc_sign_in kV_sign_in dc_sign_in pm_sign_in cd_sign_in ct_sign_in : Value}
    {f_is_place_in : Addr} {od_is_place_in an_is_place_in : Option Addr} {sl_is_place_in : Array (Option Value)} {oc_is_place_in kV_is_place_in dc_is_place_in pm_is_place_in cd_is_place_in ct_is_place_in : Value}
    {f_require_place : Addr} {od_require_place an_require_place : Option Addr} {sl_require_place : Array (Option Value)} {oc_require_place kV_require_place dc_require_place pm_require_place cd_require_place ct_require_place : Value}
    {f_require_signed : Addr} {od_require_signed an_require_signed : Option Addr} {sl_require_signed : Array (Option Value)} {oc_require_signed kV_require_signed dc_require_signed pm_require_signed cd_require_signed ct_require_signed : Value}
    {f_is_square_at : Addr} {od_is_square_at an_is_square_at : Option Addr} {sl_is_square_at : Array (Option Value)} {oc_is_square_at kV_is_square_at dc_is_square_at pm_is_square_at cd_is_square_at ct_is_square_at : Value}
    {f_sign_at : Addr} {od_sign_at an_sign_at : Option Addr} {sl_sign_at : Array (Option Value)} {oc_sign_at kV_sign_at dc_sign_at pm_sign_at cd_sign_at ct_sign_at : Value}
    {f__law_dice : Addr} {od__law_dice an__law_dice : Option Addr} {sl__law_dice : Array (Option Value)} {oc__law_dice kV__law_dice dc__law_dice pm__law_dice cd__law_dice ct__law_dice : Value}
    {f__law_roll : Addr} {od__law_roll an__law_roll : Option Addr} {sl__law_roll : Array (Option Value)} {oc__law_roll kV__law_roll dc__law_roll pm__law_roll cd__law_roll ct__law_roll : Value}
    {f__law_one_of : Addr} {od__law_one_of an__law_one_of : Option Addr} {sl__law_one_of : Array (Option Value)} {oc__law_one_of kV__law_one_of dc__law_one_of pm__law_one_of cd__law_one_of ct__law_one_of : Value}
    {f__law_power : Addr} {od__law_power an__law_power : Option Addr} {sl__law_power : Array (Option Value)} {oc__law_power kV__law_power dc__law_power pm__law_power cd__law_power ct__law_power : Value}
    {f__law_gcd : Addr} {od__law_gcd an__law_gcd : Option Addr} {sl__law_gcd : Array (Option Value)} {oc__law_gcd kV__law_gcd dc__law_gcd pm__law_gcd cd__law_gcd ct__law_gcd : Value}
    {f__law_lowest : Addr} {od__law_lowest an__law_lowest : Option Addr} {sl__law_lowest : Array (Option Value)} {oc__law_lowest kV__law_lowest dc__law_lowest pm__law_lowest cd__law_lowest ct__law_lowest : Value}
    {f__law_exponent : Addr} {od__law_exponent an__law_exponent : Option Addr} {sl__law_exponent : Array (Option Value)} {oc__law_exponent kV__law_exponent dc__law_exponent pm__law_exponent cd__law_exponent ct__law_exponent : Value}
    {f__law_sign : Addr} {od__law_sign an__law_sign : Option Addr} {sl__law_sign : Array (Option Value)} {oc__law_sign kV__law_sign dc__law_sign pm__law_sign cd__law_sign ct__law_sign : Value}
    {f__law_is_square : Addr} {od__law_is_square an__law_is_square : Option Addr} {sl__law_is_square : Array (Option Value)} {oc__law_is_square kV__law_is_square dc__law_is_square pm__law_is_square cd__law_is_square ct__law_is_square : Value}
    {f__law_drawn : Addr} {od__law_drawn an__law_drawn : Option Addr} {sl__law_drawn : Array (Option Value)} {oc__law_drawn kV__law_drawn dc__law_drawn pm__law_drawn cd__law_drawn ct__law_drawn : Value}
    {f__law_integer : Addr} {od__law_integer an__law_integer : Option Addr} {sl__law_integer : Array (Option Value)} {oc__law_integer kV__law_integer dc__law_integer pm__law_integer cd__law_integer ct__law_integer : Value}
    {f__law_small : Addr} {od__law_small an__law_small : Option Addr} {sl__law_small : Array (Option Value)} {oc__law_small kV__law_small dc__law_small pm__law_small cd__law_small ct__law_small : Value}
    {f__law_has_solution : Addr} {od__law_has_solution an__law_has_solution : Option Addr} {sl__law_has_solution : Array (Option Value)} {oc__law_has_solution kV__law_has_solution dc__law_has_solution pm__law_has_solution cd__law_has_solution ct__law_has_solution : Value}
    {f__law_is_prime : Addr} {od__law_is_prime an__law_is_prime : Option Addr} {sl__law_is_prime : Array (Option Value)} {oc__law_is_prime kV__law_is_prime dc__law_is_prime pm__law_is_prime cd__law_is_prime ct__law_is_prime : Value}
    {f__law_place_drawn : Addr} {od__law_place_drawn an__law_place_drawn : Option Addr} {sl__law_place_drawn : Array (Option Value)} {oc__law_place_drawn kV__law_place_drawn dc__law_place_drawn pm__law_place_drawn cd__law_place_drawn ct__law_place_drawn : Value}
    {f__law_times : Addr} {od__law_times an__law_times : Option Addr} {sl__law_times : Array (Option Value)} {oc__law_times kV__law_times dc__law_times pm__law_times cd__law_times ct__law_times : Value}
    {f__law_rules_right : Addr} {od__law_rules_right an__law_rules_right : Option Addr} {sl__law_rules_right : Array (Option Value)} {oc__law_rules_right kV__law_rules_right dc__law_rules_right pm__law_rules_right cd__law_rules_right ct__law_rules_right : Value}
    {f__law_right : Addr} {od__law_right an__law_right : Option Addr} {sl__law_right : Array (Option Value)} {oc__law_right kV__law_right dc__law_right pm__law_right cd__law_right ct__law_right : Value}
    {f_law : Addr} {od_law an_law : Option Addr} {sl_law : Array (Option Value)} {oc_law kV_law dc_law pm_law cd_law ct_law : Value}
    {t_PAIR : Tok}
    {t_MOST_PLACE : Tok}
    {t_MOST_SIGNED : Tok}
    (a_is_whole_number : PySem.W.nsIn K mainGlobals "is_whole_number" = some (some (.ref f_is_whole_number))) (l_is_whole_number : K.lookup f_is_whole_number = some ⟨oc_is_whole_number, od_is_whole_number, .func (PySem.W.fnOf "is_whole_number" "is_whole_number" (defArgs s_is_whole_number) (defBody s_is_whole_number) (defScope s_is_whole_number) .none kV_is_whole_number dc_is_whole_number pm_is_whole_number an_is_whole_number cd_is_whole_number ct_is_whole_number), sl_is_whole_number⟩) (c_is_whole_number : PySem.W.codeIn K cd_is_whole_number "is_whole_number" = true) (k_is_whole_number : PySem.W.keepIn K (.ref f_is_whole_number) = true)
    (a_is_integer : PySem.W.nsIn K mainGlobals "is_integer" = some (some (.ref f_is_integer))) (l_is_integer : K.lookup f_is_integer = some ⟨oc_is_integer, od_is_integer, .func (PySem.W.fnOf "is_integer" "is_integer" (defArgs s_is_integer) (defBody s_is_integer) (defScope s_is_integer) .none kV_is_integer dc_is_integer pm_is_integer an_is_integer cd_is_integer ct_is_integer), sl_is_integer⟩) (c_is_integer : PySem.W.codeIn K cd_is_integer "is_integer" = true) (k_is_integer : PySem.W.keepIn K (.ref f_is_integer) = true)
    (a_is_ratio_any : PySem.W.nsIn K mainGlobals "is_ratio_any" = some (some (.ref f_is_ratio_any))) (l_is_ratio_any : K.lookup f_is_ratio_any = some ⟨oc_is_ratio_any, od_is_ratio_any, .func (PySem.W.fnOf "is_ratio_any" "is_ratio_any" (defArgs s_is_ratio_any) (defBody s_is_ratio_any) (defScope s_is_ratio_any) .none kV_is_ratio_any dc_is_ratio_any pm_is_ratio_any an_is_ratio_any cd_is_ratio_any ct_is_ratio_any), sl_is_ratio_any⟩) (c_is_ratio_any : PySem.W.codeIn K cd_is_ratio_any "is_ratio_any" = true) (k_is_ratio_any : PySem.W.keepIn K (.ref f_is_ratio_any) = true)
    (a_is_number_in : PySem.W.nsIn K mainGlobals "is_number_in" = some (some (.ref f_is_number_in))) (l_is_number_in : K.lookup f_is_number_in = some ⟨oc_is_number_in, od_is_number_in, .func (PySem.W.fnOf "is_number_in" "is_number_in" (defArgs s_is_number_in) (defBody s_is_number_in) (defScope s_is_number_in) .none kV_is_number_in dc_is_number_in pm_is_number_in an_is_number_in cd_is_number_in ct_is_number_in), sl_is_number_in⟩) (c_is_number_in : PySem.W.codeIn K cd_is_number_in "is_number_in" = true) (k_is_number_in : PySem.W.keepIn K (.ref f_is_number_in) = true)
    (a_pair_of : PySem.W.nsIn K mainGlobals "pair_of" = some (some (.ref f_pair_of))) (l_pair_of : K.lookup f_pair_of = some ⟨oc_pair_of, od_pair_of, .func (PySem.W.fnOf "pair_of" "pair_of" (defArgs s_pair_of) (defBody s_pair_of) (defScope s_pair_of) .none kV_pair_of dc_pair_of pm_pair_of an_pair_of cd_pair_of ct_pair_of), sl_pair_of⟩) (c_pair_of : PySem.W.codeIn K cd_pair_of "pair_of" = true) (k_pair_of : PySem.W.keepIn K (.ref f_pair_of) = true)
    (a_exponent_at : PySem.W.nsIn K mainGlobals "exponent_at" = some (some (.ref f_exponent_at))) (l_exponent_at : K.lookup f_exponent_at = some ⟨oc_exponent_at, od_exponent_at, .func (PySem.W.fnOf "exponent_at" "exponent_at" (defArgs s_exponent_at) (defBody s_exponent_at) (defScope s_exponent_at) .none kV_exponent_at dc_exponent_at pm_exponent_at an_exponent_at cd_exponent_at ct_exponent_at), sl_exponent_at⟩) (c_exponent_at : PySem.W.codeIn K cd_exponent_at "exponent_at" = true) (k_exponent_at : PySem.W.keepIn K (.ref f_exponent_at) = true)
    (a_least_divisor : PySem.W.nsIn K mainGlobals "least_divisor" = some (some (.ref f_least_divisor))) (l_least_divisor : K.lookup f_least_divisor = some ⟨oc_least_divisor, od_least_divisor, .func (PySem.W.fnOf "least_divisor" "least_divisor" (defArgs s_least_divisor) (defBody s_least_divisor) (defScope s_least_divisor) .none kV_least_divisor dc_least_divisor pm_least_divisor an_least_divisor cd_least_divisor ct_least_divisor), sl_least_divisor⟩) (c_least_divisor : PySem.W.codeIn K cd_least_divisor "least_divisor" = true) (k_least_divisor : PySem.W.keepIn K (.ref f_least_divisor) = true)
    (a_is_prime_number : PySem.W.nsIn K mainGlobals "is_prime_number" = some (some (.ref f_is_prime_number))) (l_is_prime_number : K.lookup f_is_prime_number = some ⟨oc_is_prime_number, od_is_prime_number, .func (PySem.W.fnOf "is_prime_number" "is_prime_number" (defArgs s_is_prime_number) (defBody s_is_prime_number) (defScope s_is_prime_number) .none kV_is_prime_number dc_is_prime_number pm_is_prime_number an_is_prime_number cd_is_prime_number ct_is_prime_number), sl_is_prime_number⟩) (c_is_prime_number : PySem.W.codeIn K cd_is_prime_number "is_prime_number" = true) (k_is_prime_number : PySem.W.keepIn K (.ref f_is_prime_number) = true)
    (a_modular_power : PySem.W.nsIn K mainGlobals "modular_power" = some (some (.ref f_modular_power))) (l_modular_power : K.lookup f_modular_power = some ⟨oc_modular_power, od_modular_power, .func (PySem.W.fnOf "modular_power" "modular_power" (defArgs s_modular_power) (defBody s_modular_power) (defScope s_modular_power) .none kV_modular_power dc_modular_power pm_modular_power an_modular_power cd_modular_power ct_modular_power), sl_modular_power⟩) (c_modular_power : PySem.W.codeIn K cd_modular_power "modular_power" = true) (k_modular_power : PySem.W.keepIn K (.ref f_modular_power) = true)
    (a_square_sign_in : PySem.W.nsIn K mainGlobals "square_sign_in" = some (some (.ref f_square_sign_in))) (l_square_sign_in : K.lookup f_square_sign_in = some ⟨oc_square_sign_in, od_square_sign_in, .func (PySem.W.fnOf "square_sign_in" "square_sign_in" (defArgs s_square_sign_in) (defBody s_square_sign_in) (defScope s_square_sign_in) .none kV_square_sign_in dc_square_sign_in pm_square_sign_in an_square_sign_in cd_square_sign_in ct_square_sign_in), sl_square_sign_in⟩) (c_square_sign_in : PySem.W.codeIn K cd_square_sign_in "square_sign_in" = true) (k_square_sign_in : PySem.W.keepIn K (.ref f_square_sign_in) = true)
    (a_whole_of : PySem.W.nsIn K mainGlobals "whole_of" = some (some (.ref f_whole_of))) (l_whole_of : K.lookup f_whole_of = some ⟨oc_whole_of, od_whole_of, .func (PySem.W.fnOf "whole_of" "whole_of" (defArgs s_whole_of) (defBody s_whole_of) (defScope s_whole_of) .none kV_whole_of dc_whole_of pm_whole_of an_whole_of cd_whole_of ct_whole_of), sl_whole_of⟩) (c_whole_of : PySem.W.codeIn K cd_whole_of "whole_of" = true) (k_whole_of : PySem.W.keepIn K (.ref f_whole_of) = true)
    (a_is_square_in : PySem.W.nsIn K mainGlobals "is_square_in" = some (some (.ref f_is_square_in))) (l_is_square_in : K.lookup f_is_square_in = some ⟨oc_is_square_in, od_is_square_in, .func (PySem.W.fnOf "is_square_in" "is_square_in" (defArgs s_is_square_in) (defBody s_is_square_in) (defScope s_is_square_in) .none kV_is_square_in dc_is_square_in pm_is_square_in an_is_square_in cd_is_square_in ct_is_square_in), sl_is_square_in⟩) (c_is_square_in : PySem.W.codeIn K cd_is_square_in "is_square_in" = true) (k_is_square_in : PySem.W.keepIn K (.ref f_is_square_in) = true)
    (a_sign_at_two : PySem.W.nsIn K mainGlobals "sign_at_two" = some (some (.ref f_sign_at_two))) (l_sign_at_two : K.lookup f_sign_at_two = some ⟨oc_sign_at_two, od_sign_at_two, .func (PySem.W.fnOf "sign_at_two" "sign_at_two" (defArgs s_sign_at_two) (defBody s_sign_at_two) (defScope s_sign_at_two) .none kV_sign_at_two dc_sign_at_two pm_sign_at_two an_sign_at_two cd_sign_at_two ct_sign_at_two), sl_sign_at_two⟩) (c_sign_at_two : PySem.W.codeIn K cd_sign_at_two "sign_at_two" = true) (k_sign_at_two : PySem.W.keepIn K (.ref f_sign_at_two) = true)
    (a_sign_in : PySem.W.nsIn K mainGlobals "sign_in" = some (some (.ref f_sign_in))) (l_sign_in : K.lookup f_sign_in = some ⟨oc_sign_in, od_sign_in, .func (PySem.W.fnOf "sign_in" "sign_in" (defArgs s_sign_in) (defBody s_sign_in) (defScope s_sign_in) .none kV_sign_in dc_sign_in pm_sign_in an_sign_in cd_sign_in ct_sign_in), sl_sign_in⟩) (c_sign_in : PySem.W.codeIn K cd_sign_in "sign_in" = true) (k_sign_in : PySem.W.keepIn K (.ref f_sign_in) = true)
    (a_is_place_in : PySem.W.nsIn K mainGlobals "is_place_in" = some (some (.ref f_is_place_in))) (l_is_place_in : K.lookup f_is_place_in = some ⟨oc_is_place_in, od_is_place_in, .func (PySem.W.fnOf "is_place_in" "is_place_in" (defArgs s_is_place_in) (defBody s_is_place_in) (defScope s_is_place_in) .none kV_is_place_in dc_is_place_in pm_is_place_in an_is_place_in cd_is_place_in ct_is_place_in), sl_is_place_in⟩) (c_is_place_in : PySem.W.codeIn K cd_is_place_in "is_place_in" = true) (k_is_place_in : PySem.W.keepIn K (.ref f_is_place_in) = true)
    (a_require_place : PySem.W.nsIn K mainGlobals "require_place" = some (some (.ref f_require_place))) (l_require_place : K.lookup f_require_place = some ⟨oc_require_place, od_require_place, .func (PySem.W.fnOf "require_place" "require_place" (defArgs s_require_place) (defBody s_require_place) (defScope s_require_place) .none kV_require_place dc_require_place pm_require_place an_require_place cd_require_place ct_require_place), sl_require_place⟩) (c_require_place : PySem.W.codeIn K cd_require_place "require_place" = true) (k_require_place : PySem.W.keepIn K (.ref f_require_place) = true)
    (a_require_signed : PySem.W.nsIn K mainGlobals "require_signed" = some (some (.ref f_require_signed))) (l_require_signed : K.lookup f_require_signed = some ⟨oc_require_signed, od_require_signed, .func (PySem.W.fnOf "require_signed" "require_signed" (defArgs s_require_signed) (defBody s_require_signed) (defScope s_require_signed) .none kV_require_signed dc_require_signed pm_require_signed an_require_signed cd_require_signed ct_require_signed), sl_require_signed⟩) (c_require_signed : PySem.W.codeIn K cd_require_signed "require_signed" = true) (k_require_signed : PySem.W.keepIn K (.ref f_require_signed) = true)
    (a_is_square_at : PySem.W.nsIn K mainGlobals "is_square_at" = some (some (.ref f_is_square_at))) (l_is_square_at : K.lookup f_is_square_at = some ⟨oc_is_square_at, od_is_square_at, .func (PySem.W.fnOf "is_square_at" "is_square_at" (defArgs s_is_square_at) (defBody s_is_square_at) (defScope s_is_square_at) .none kV_is_square_at dc_is_square_at pm_is_square_at an_is_square_at cd_is_square_at ct_is_square_at), sl_is_square_at⟩) (c_is_square_at : PySem.W.codeIn K cd_is_square_at "is_square_at" = true) (k_is_square_at : PySem.W.keepIn K (.ref f_is_square_at) = true)
    (a_sign_at : PySem.W.nsIn K mainGlobals "sign_at" = some (some (.ref f_sign_at))) (l_sign_at : K.lookup f_sign_at = some ⟨oc_sign_at, od_sign_at, .func (PySem.W.fnOf "sign_at" "sign_at" (defArgs s_sign_at) (defBody s_sign_at) (defScope s_sign_at) .none kV_sign_at dc_sign_at pm_sign_at an_sign_at cd_sign_at ct_sign_at), sl_sign_at⟩) (c_sign_at : PySem.W.codeIn K cd_sign_at "sign_at" = true) (k_sign_at : PySem.W.keepIn K (.ref f_sign_at) = true)
    (a__law_dice : PySem.W.nsIn K mainGlobals "_law_dice" = some (some (.ref f__law_dice))) (l__law_dice : K.lookup f__law_dice = some ⟨oc__law_dice, od__law_dice, .func (PySem.W.fnOf "_law_dice" "_law_dice" (defArgs s__law_dice) (defBody s__law_dice) (defScope s__law_dice) .none kV__law_dice dc__law_dice pm__law_dice an__law_dice cd__law_dice ct__law_dice), sl__law_dice⟩) (c__law_dice : PySem.W.codeIn K cd__law_dice "_law_dice" = true) (k__law_dice : PySem.W.keepIn K (.ref f__law_dice) = true)
    (a__law_roll : PySem.W.nsIn K mainGlobals "_law_roll" = some (some (.ref f__law_roll))) (l__law_roll : K.lookup f__law_roll = some ⟨oc__law_roll, od__law_roll, .func (PySem.W.fnOf "_law_roll" "_law_roll" (defArgs s__law_roll) (defBody s__law_roll) (defScope s__law_roll) .none kV__law_roll dc__law_roll pm__law_roll an__law_roll cd__law_roll ct__law_roll), sl__law_roll⟩) (c__law_roll : PySem.W.codeIn K cd__law_roll "_law_roll" = true) (k__law_roll : PySem.W.keepIn K (.ref f__law_roll) = true)
    (a__law_one_of : PySem.W.nsIn K mainGlobals "_law_one_of" = some (some (.ref f__law_one_of))) (l__law_one_of : K.lookup f__law_one_of = some ⟨oc__law_one_of, od__law_one_of, .func (PySem.W.fnOf "_law_one_of" "_law_one_of" (defArgs s__law_one_of) (defBody s__law_one_of) (defScope s__law_one_of) .none kV__law_one_of dc__law_one_of pm__law_one_of an__law_one_of cd__law_one_of ct__law_one_of), sl__law_one_of⟩) (c__law_one_of : PySem.W.codeIn K cd__law_one_of "_law_one_of" = true) (k__law_one_of : PySem.W.keepIn K (.ref f__law_one_of) = true)
    (a__law_power : PySem.W.nsIn K mainGlobals "_law_power" = some (some (.ref f__law_power))) (l__law_power : K.lookup f__law_power = some ⟨oc__law_power, od__law_power, .func (PySem.W.fnOf "_law_power" "_law_power" (defArgs s__law_power) (defBody s__law_power) (defScope s__law_power) .none kV__law_power dc__law_power pm__law_power an__law_power cd__law_power ct__law_power), sl__law_power⟩) (c__law_power : PySem.W.codeIn K cd__law_power "_law_power" = true) (k__law_power : PySem.W.keepIn K (.ref f__law_power) = true)
    (a__law_gcd : PySem.W.nsIn K mainGlobals "_law_gcd" = some (some (.ref f__law_gcd))) (l__law_gcd : K.lookup f__law_gcd = some ⟨oc__law_gcd, od__law_gcd, .func (PySem.W.fnOf "_law_gcd" "_law_gcd" (defArgs s__law_gcd) (defBody s__law_gcd) (defScope s__law_gcd) .none kV__law_gcd dc__law_gcd pm__law_gcd an__law_gcd cd__law_gcd ct__law_gcd), sl__law_gcd⟩) (c__law_gcd : PySem.W.codeIn K cd__law_gcd "_law_gcd" = true) (k__law_gcd : PySem.W.keepIn K (.ref f__law_gcd) = true)
    (a__law_lowest : PySem.W.nsIn K mainGlobals "_law_lowest" = some (some (.ref f__law_lowest))) (l__law_lowest : K.lookup f__law_lowest = some ⟨oc__law_lowest, od__law_lowest, .func (PySem.W.fnOf "_law_lowest" "_law_lowest" (defArgs s__law_lowest) (defBody s__law_lowest) (defScope s__law_lowest) .none kV__law_lowest dc__law_lowest pm__law_lowest an__law_lowest cd__law_lowest ct__law_lowest), sl__law_lowest⟩) (c__law_lowest : PySem.W.codeIn K cd__law_lowest "_law_lowest" = true) (k__law_lowest : PySem.W.keepIn K (.ref f__law_lowest) = true)
    (a__law_exponent : PySem.W.nsIn K mainGlobals "_law_exponent" = some (some (.ref f__law_exponent))) (l__law_exponent : K.lookup f__law_exponent = some ⟨oc__law_exponent, od__law_exponent, .func (PySem.W.fnOf "_law_exponent" "_law_exponent" (defArgs s__law_exponent) (defBody s__law_exponent) (defScope s__law_exponent) .none kV__law_exponent dc__law_exponent pm__law_exponent an__law_exponent cd__law_exponent ct__law_exponent), sl__law_exponent⟩) (c__law_exponent : PySem.W.codeIn K cd__law_exponent "_law_exponent" = true) (k__law_exponent : PySem.W.keepIn K (.ref f__law_exponent) = true)
    (a__law_sign : PySem.W.nsIn K mainGlobals "_law_sign" = some (some (.ref f__law_sign))) (l__law_sign : K.lookup f__law_sign = some ⟨oc__law_sign, od__law_sign, .func (PySem.W.fnOf "_law_sign" "_law_sign" (defArgs s__law_sign) (defBody s__law_sign) (defScope s__law_sign) .none kV__law_sign dc__law_sign pm__law_sign an__law_sign cd__law_sign ct__law_sign), sl__law_sign⟩) (c__law_sign : PySem.W.codeIn K cd__law_sign "_law_sign" = true) (k__law_sign : PySem.W.keepIn K (.ref f__law_sign) = true)
    (a__law_is_square : PySem.W.nsIn K mainGlobals "_law_is_square" = some (some (.ref f__law_is_square))) (l__law_is_square : K.lookup f__law_is_square = some ⟨oc__law_is_square, od__law_is_square, .func (PySem.W.fnOf "_law_is_square" "_law_is_square" (defArgs s__law_is_square) (defBody s__law_is_square) (defScope s__law_is_square) .none kV__law_is_square dc__law_is_square pm__law_is_square an__law_is_square cd__law_is_square ct__law_is_square), sl__law_is_square⟩) (c__law_is_square : PySem.W.codeIn K cd__law_is_square "_law_is_square" = true) (k__law_is_square : PySem.W.keepIn K (.ref f__law_is_square) = true)
    (a__law_drawn : PySem.W.nsIn K mainGlobals "_law_drawn" = some (some (.ref f__law_drawn))) (l__law_drawn : K.lookup f__law_drawn = some ⟨oc__law_drawn, od__law_drawn, .func (PySem.W.fnOf "_law_drawn" "_law_drawn" (defArgs s__law_drawn) (defBody s__law_drawn) (defScope s__law_drawn) .none kV__law_drawn dc__law_drawn pm__law_drawn an__law_drawn cd__law_drawn ct__law_drawn), sl__law_drawn⟩) (c__law_drawn : PySem.W.codeIn K cd__law_drawn "_law_drawn" = true) (k__law_drawn : PySem.W.keepIn K (.ref f__law_drawn) = true)
    (a__law_integer : PySem.W.nsIn K mainGlobals "_law_integer" = some (some (.ref f__law_integer))) (l__law_integer : K.lookup f__law_integer = some ⟨oc__law_integer, od__law_integer, .func (PySem.W.fnOf "_law_integer" "_law_integer" (defArgs s__law_integer) (defBody s__law_integer) (defScope s__law_integer) .none kV__law_integer dc__law_integer pm__law_integer an__law_integer cd__law_integer ct__law_integer), sl__law_integer⟩) (c__law_integer : PySem.W.codeIn K cd__law_integer "_law_integer" = true) (k__law_integer : PySem.W.keepIn K (.ref f__law_integer) = true)
    (a__law_small : PySem.W.nsIn K mainGlobals "_law_small" = some (some (.ref f__law_small))) (l__law_small : K.lookup f__law_small = some ⟨oc__law_small, od__law_small, .func (PySem.W.fnOf "_law_small" "_law_small" (defArgs s__law_small) (defBody s__law_small) (defScope s__law_small) .none kV__law_small dc__law_small pm__law_small an__law_small cd__law_small ct__law_small), sl__law_small⟩) (c__law_small : PySem.W.codeIn K cd__law_small "_law_small" = true) (k__law_small : PySem.W.keepIn K (.ref f__law_small) = true)
    (a__law_has_solution : PySem.W.nsIn K mainGlobals "_law_has_solution" = some (some (.ref f__law_has_solution))) (l__law_has_solution : K.lookup f__law_has_solution = some ⟨oc__law_has_solution, od__law_has_solution, .func (PySem.W.fnOf "_law_has_solution" "_law_has_solution" (defArgs s__law_has_solution) (defBody s__law_has_solution) (defScope s__law_has_solution) .none kV__law_has_solution dc__law_has_solution pm__law_has_solution an__law_has_solution cd__law_has_solution ct__law_has_solution), sl__law_has_solution⟩) (c__law_has_solution : PySem.W.codeIn K cd__law_has_solution "_law_has_solution" = true) (k__law_has_solution : PySem.W.keepIn K (.ref f__law_has_solution) = true)
    (a__law_is_prime : PySem.W.nsIn K mainGlobals "_law_is_prime" = some (some (.ref f__law_is_prime))) (l__law_is_prime : K.lookup f__law_is_prime = some ⟨oc__law_is_prime, od__law_is_prime, .func (PySem.W.fnOf "_law_is_prime" "_law_is_prime" (defArgs s__law_is_prime) (defBody s__law_is_prime) (defScope s__law_is_prime) .none kV__law_is_prime dc__law_is_prime pm__law_is_prime an__law_is_prime cd__law_is_prime ct__law_is_prime), sl__law_is_prime⟩) (c__law_is_prime : PySem.W.codeIn K cd__law_is_prime "_law_is_prime" = true) (k__law_is_prime : PySem.W.keepIn K (.ref f__law_is_prime) = true)
    (a__law_place_drawn : PySem.W.nsIn K mainGlobals "_law_place_drawn" = some (some (.ref f__law_place_drawn))) (l__law_place_drawn : K.lookup f__law_place_drawn = some ⟨oc__law_place_drawn, od__law_place_drawn, .func (PySem.W.fnOf "_law_place_drawn" "_law_place_drawn" (defArgs s__law_place_drawn) (defBody s__law_place_drawn) (defScope s__law_place_drawn) .none kV__law_place_drawn dc__law_place_drawn pm__law_place_drawn an__law_place_drawn cd__law_place_drawn ct__law_place_drawn), sl__law_place_drawn⟩) (c__law_place_drawn : PySem.W.codeIn K cd__law_place_drawn "_law_place_drawn" = true) (k__law_place_drawn : PySem.W.keepIn K (.ref f__law_place_drawn) = true)
    (a__law_times : PySem.W.nsIn K mainGlobals "_law_times" = some (some (.ref f__law_times))) (l__law_times : K.lookup f__law_times = some ⟨oc__law_times, od__law_times, .func (PySem.W.fnOf "_law_times" "_law_times" (defArgs s__law_times) (defBody s__law_times) (defScope s__law_times) .none kV__law_times dc__law_times pm__law_times an__law_times cd__law_times ct__law_times), sl__law_times⟩) (c__law_times : PySem.W.codeIn K cd__law_times "_law_times" = true) (k__law_times : PySem.W.keepIn K (.ref f__law_times) = true)
    (a__law_rules_right : PySem.W.nsIn K mainGlobals "_law_rules_right" = some (some (.ref f__law_rules_right))) (l__law_rules_right : K.lookup f__law_rules_right = some ⟨oc__law_rules_right, od__law_rules_right, .func (PySem.W.fnOf "_law_rules_right" "_law_rules_right" (defArgs s__law_rules_right) (defBody s__law_rules_right) (defScope s__law_rules_right) .none kV__law_rules_right dc__law_rules_right pm__law_rules_right an__law_rules_right cd__law_rules_right ct__law_rules_right), sl__law_rules_right⟩) (c__law_rules_right : PySem.W.codeIn K cd__law_rules_right "_law_rules_right" = true) (k__law_rules_right : PySem.W.keepIn K (.ref f__law_rules_right) = true)
    (a__law_right : PySem.W.nsIn K mainGlobals "_law_right" = some (some (.ref f__law_right))) (l__law_right : K.lookup f__law_right = some ⟨oc__law_right, od__law_right, .func (PySem.W.fnOf "_law_right" "_law_right" (defArgs s__law_right) (defBody s__law_right) (defScope s__law_right) .none kV__law_right dc__law_right pm__law_right an__law_right cd__law_right ct__law_right), sl__law_right⟩) (c__law_right : PySem.W.codeIn K cd__law_right "_law_right" = true) (k__law_right : PySem.W.keepIn K (.ref f__law_right) = true)
    (a_law : PySem.W.nsIn K mainGlobals "law" = some (some (.ref f_law))) (l_law : K.lookup f_law = some ⟨oc_law, od_law, .func (PySem.W.fnOf "law" "law" (defArgs s_law) (defBody s_law) (defScope s_law) .none kV_law dc_law pm_law an_law cd_law ct_law), sl_law⟩) (c_law : PySem.W.codeIn K cd_law "law" = true) (k_law : PySem.W.keepIn K (.ref f_law) = true)
    (g_PAIR : PySem.W.nsIn K mainGlobals "PAIR" = some (some (.int 2 t_PAIR)))
    (g_MOST_PLACE : PySem.W.nsIn K mainGlobals "MOST_PLACE" = some (some (.int 1000000 t_MOST_PLACE)))
    (g_MOST_SIGNED : PySem.W.nsIn K mainGlobals "MOST_SIGNED" = some (some (.int 1000000 t_MOST_SIGNED)))
    (g_gcd : PySem.W.nsIn K mainGlobals "gcd" = some (some (.builtin "math.gcd")))
    (z_abs : PySem.W.nsIn K mainGlobals "abs" = some none)
    (z_max : PySem.W.nsIn K mainGlobals "max" = some none)
    (z_min : PySem.W.nsIn K mainGlobals "min" = some none)
    (z_len : PySem.W.nsIn K mainGlobals "len" = some none)
    (z_isinstance : PySem.W.nsIn K mainGlobals "isinstance" = some none)
    (z_all : PySem.W.nsIn K mainGlobals "all" = some none)
    (z_int : PySem.W.nsIn K mainGlobals "int" = some none)
    (z_bool : PySem.W.nsIn K mainGlobals "bool" = some none)
    (z_tuple : PySem.W.nsIn K mainGlobals "tuple" = some none)
    (z_range : PySem.W.nsIn K mainGlobals "range" = some none) : Txt K mg where
    d_is_whole_number := ⟨f_is_whole_number, (PySem.W.fnOf "is_whole_number" "is_whole_number" (defArgs s_is_whole_number) (defBody s_is_whole_number) (defScope s_is_whole_number) .none kV_is_whole_number dc_is_whole_number pm_is_whole_number an_is_whole_number cd_is_whole_number ct_is_whole_number), fun_mk l_is_whole_number c_is_whole_number k_is_whole_number, (fun_mk (st := s_is_whole_number) l_is_whole_number c_is_whole_number k_is_whole_number).binds (ps := p_is_whole_number) fun _ _ _ _ _ _ us hl => match us, hl with | [_], _ => rfl, PySem.W.mg_of X G a_is_whole_number⟩
    d_is_integer := ⟨f_is_integer, (PySem.W.fnOf "is_integer" "is_integer" (defArgs s_is_integer) (defBody s_is_integer) (defScope s_is_integer) .none kV_is_integer dc_is_integer pm_is_integer an_is_integer cd_is_integer ct_is_integer), fun_mk l_is_integer c_is_integer k_is_integer, (fun_mk (st := s_is_integer) l_is_integer c_is_integer k_is_integer).binds (ps := p_is_integer) fun _ _ _ _ _ _ us hl => match us, hl with | [_], _ => rfl, PySem.W.mg_of X G a_is_integer⟩
    d_is_ratio_any := ⟨f_is_ratio_any, (PySem.W.fnOf "is_ratio_any" "is_ratio_any" (defArgs s_is_ratio_any) (defBody s_is_ratio_any) (defScope s_is_ratio_any) .none kV_is_ratio_any dc_is_ratio_any pm_is_ratio_any an_is_ratio_any cd_is_ratio_any ct_is_ratio_any), fun_mk l_is_ratio_any c_is_ratio_any k_is_ratio_any, (fun_mk (st := s_is_ratio_any) l_is_ratio_any c_is_ratio_any k_is_ratio_any).binds (ps := p_is_ratio_any) fun _ _ _ _ _ _ us hl => match us, hl with | [_], _ => rfl, PySem.W.mg_of X G a_is_ratio_any⟩
    d_is_number_in := ⟨f_is_number_in, (PySem.W.fnOf "is_number_in" "is_number_in" (defArgs s_is_number_in) (defBody s_is_number_in) (defScope s_is_number_in) .none kV_is_number_in dc_is_number_in pm_is_number_in an_is_number_in cd_is_number_in ct_is_number_in), fun_mk l_is_number_in c_is_number_in k_is_number_in, (fun_mk (st := s_is_number_in) l_is_number_in c_is_number_in k_is_number_in).binds (ps := p_is_number_in) fun _ _ _ _ _ _ us hl => match us, hl with | [_], _ => rfl, PySem.W.mg_of X G a_is_number_in⟩
    d_pair_of := ⟨f_pair_of, (PySem.W.fnOf "pair_of" "pair_of" (defArgs s_pair_of) (defBody s_pair_of) (defScope s_pair_of) .none kV_pair_of dc_pair_of pm_pair_of an_pair_of cd_pair_of ct_pair_of), fun_mk l_pair_of c_pair_of k_pair_of, (fun_mk (st := s_pair_of) l_pair_of c_pair_of k_pair_of).binds (ps := p_pair_of) fun _ _ _ _ _ _ us hl => match us, hl with | [_], _ => rfl, PySem.W.mg_of X G a_pair_of⟩
    d_exponent_at := ⟨f_exponent_at, (PySem.W.fnOf "exponent_at" "exponent_at" (defArgs s_exponent_at) (defBody s_exponent_at) (defScope s_exponent_at) .none kV_exponent_at dc_exponent_at pm_exponent_at an_exponent_at cd_exponent_at ct_exponent_at), fun_mk l_exponent_at c_exponent_at k_exponent_at, (fun_mk (st := s_exponent_at) l_exponent_at c_exponent_at k_exponent_at).binds (ps := p_exponent_at) fun _ _ _ _ _ _ us hl => match us, hl with | [_, _], _ => rfl, PySem.W.mg_of X G a_exponent_at⟩
    d_least_divisor := ⟨f_least_divisor, (PySem.W.fnOf "least_divisor" "least_divisor" (defArgs s_least_divisor) (defBody s_least_divisor) (defScope s_least_divisor) .none kV_least_divisor dc_least_divisor pm_least_divisor an_least_divisor cd_least_divisor ct_least_divisor), fun_mk l_least_divisor c_least_divisor k_least_divisor, (fun_mk (st := s_least_divisor) l_least_divisor c_least_divisor k_least_divisor).binds (ps := p_least_divisor) fun _ _ _ _ _ _ us hl => match us, hl with | [_], _ => rfl, PySem.W.mg_of X G a_least_divisor⟩
    d_is_prime_number := ⟨f_is_prime_number, (PySem.W.fnOf "is_prime_number" "is_prime_number" (defArgs s_is_prime_number) (defBody s_is_prime_number) (defScope s_is_prime_number) .none kV_is_prime_number dc_is_prime_number pm_is_prime_number an_is_prime_number cd_is_prime_number ct_is_prime_number), fun_mk l_is_prime_number c_is_prime_number k_is_prime_number, (fun_mk (st := s_is_prime_number) l_is_prime_number c_is_prime_number k_is_prime_number).binds (ps := p_is_prime_number) fun _ _ _ _ _ _ us hl => match us, hl with | [_], _ => rfl, PySem.W.mg_of X G a_is_prime_number⟩
    d_modular_power := ⟨f_modular_power, (PySem.W.fnOf "modular_power" "modular_power" (defArgs s_modular_power) (defBody s_modular_power) (defScope s_modular_power) .none kV_modular_power dc_modular_power pm_modular_power an_modular_power cd_modular_power ct_modular_power), fun_mk l_modular_power c_modular_power k_modular_power, (fun_mk (st := s_modular_power) l_modular_power c_modular_power k_modular_power).binds (ps := p_modular_power) fun _ _ _ _ _ _ us hl => match us, hl with | [_, _, _], _ => rfl, PySem.W.mg_of X G a_modular_power⟩
    d_square_sign_in := ⟨f_square_sign_in, (PySem.W.fnOf "square_sign_in" "square_sign_in" (defArgs s_square_sign_in) (defBody s_square_sign_in) (defScope s_square_sign_in) .none kV_square_sign_in dc_square_sign_in pm_square_sign_in an_square_sign_in cd_square_sign_in ct_square_sign_in), fun_mk l_square_sign_in c_square_sign_in k_square_sign_in, (fun_mk (st := s_square_sign_in) l_square_sign_in c_square_sign_in k_square_sign_in).binds (ps := p_square_sign_in) fun _ _ _ _ _ _ us hl => match us, hl with | [_, _], _ => rfl, PySem.W.mg_of X G a_square_sign_in⟩
    d_whole_of := ⟨f_whole_of, (PySem.W.fnOf "whole_of" "whole_of" (defArgs s_whole_of) (defBody s_whole_of) (defScope s_whole_of) .none kV_whole_of dc_whole_of pm_whole_of an_whole_of cd_whole_of ct_whole_of), fun_mk l_whole_of c_whole_of k_whole_of, (fun_mk (st := s_whole_of) l_whole_of c_whole_of k_whole_of).binds (ps := p_whole_of) fun _ _ _ _ _ _ us hl => match us, hl with | [_], _ => rfl, PySem.W.mg_of X G a_whole_of⟩
    d_is_square_in := ⟨f_is_square_in, (PySem.W.fnOf "is_square_in" "is_square_in" (defArgs s_is_square_in) (defBody s_is_square_in) (defScope s_is_square_in) .none kV_is_square_in dc_is_square_in pm_is_square_in an_is_square_in cd_is_square_in ct_is_square_in), fun_mk l_is_square_in c_is_square_in k_is_square_in, (fun_mk (st := s_is_square_in) l_is_square_in c_is_square_in k_is_square_in).binds (ps := p_is_square_in) fun _ _ _ _ _ _ us hl => match us, hl with | [_, _], _ => rfl, PySem.W.mg_of X G a_is_square_in⟩
    d_sign_at_two := ⟨f_sign_at_two, (PySem.W.fnOf "sign_at_two" "sign_at_two" (defArgs s_sign_at_two) (defBody s_sign_at_two) (defScope s_sign_at_two) .none kV_sign_at_two dc_sign_at_two pm_sign_at_two an_sign_at_two cd_sign_at_two ct_sign_at_two), fun_mk l_sign_at_two c_sign_at_two k_sign_at_two, (fun_mk (st := s_sign_at_two) l_sign_at_two c_sign_at_two k_sign_at_two).binds (ps := p_sign_at_two) fun _ _ _ _ _ _ us hl => match us, hl with | [_, _], _ => rfl, PySem.W.mg_of X G a_sign_at_two⟩
    d_sign_in := ⟨f_sign_in, (PySem.W.fnOf "sign_in" "sign_in" (defArgs s_sign_in) (defBody s_sign_in) (defScope s_sign_in) .none kV_sign_in dc_sign_in pm_sign_in an_sign_in cd_sign_in ct_sign_in), fun_mk l_sign_in c_sign_in k_sign_in, (fun_mk (st := s_sign_in) l_sign_in c_sign_in k_sign_in).binds (ps := p_sign_in) fun _ _ _ _ _ _ us hl => match us, hl with | [_, _, _], _ => rfl, PySem.W.mg_of X G a_sign_in⟩
    d_is_place_in := ⟨f_is_place_in, (PySem.W.fnOf "is_place_in" "is_place_in" (defArgs s_is_place_in) (defBody s_is_place_in) (defScope s_is_place_in) .none kV_is_place_in dc_is_place_in pm_is_place_in an_is_place_in cd_is_place_in ct_is_place_in), fun_mk l_is_place_in c_is_place_in k_is_place_in, (fun_mk (st := s_is_place_in) l_is_place_in c_is_place_in k_is_place_in).binds (ps := p_is_place_in) fun _ _ _ _ _ _ us hl => match us, hl with | [_], _ => rfl, PySem.W.mg_of X G a_is_place_in⟩
    d_require_place := ⟨f_require_place, (PySem.W.fnOf "require_place" "require_place" (defArgs s_require_place) (defBody s_require_place) (defScope s_require_place) .none kV_require_place dc_require_place pm_require_place an_require_place cd_require_place ct_require_place), fun_mk l_require_place c_require_place k_require_place, (fun_mk (st := s_require_place) l_require_place c_require_place k_require_place).binds (ps := p_require_place) fun _ _ _ _ _ _ us hl => match us, hl with | [_], _ => rfl, PySem.W.mg_of X G a_require_place⟩
    d_require_signed := ⟨f_require_signed, (PySem.W.fnOf "require_signed" "require_signed" (defArgs s_require_signed) (defBody s_require_signed) (defScope s_require_signed) .none kV_require_signed dc_require_signed pm_require_signed an_require_signed cd_require_signed ct_require_signed), fun_mk l_require_signed c_require_signed k_require_signed, (fun_mk (st := s_require_signed) l_require_signed c_require_signed k_require_signed).binds (ps := p_require_signed) fun _ _ _ _ _ _ us hl => match us, hl with | [_], _ => rfl, PySem.W.mg_of X G a_require_signed⟩
    d_is_square_at := ⟨f_is_square_at, (PySem.W.fnOf "is_square_at" "is_square_at" (defArgs s_is_square_at) (defBody s_is_square_at) (defScope s_is_square_at) .none kV_is_square_at dc_is_square_at pm_is_square_at an_is_square_at cd_is_square_at ct_is_square_at), fun_mk l_is_square_at c_is_square_at k_is_square_at, (fun_mk (st := s_is_square_at) l_is_square_at c_is_square_at k_is_square_at).binds (ps := p_is_square_at) fun _ _ _ _ _ _ us hl => match us, hl with | [_, _], _ => rfl, PySem.W.mg_of X G a_is_square_at⟩
    d_sign_at := ⟨f_sign_at, (PySem.W.fnOf "sign_at" "sign_at" (defArgs s_sign_at) (defBody s_sign_at) (defScope s_sign_at) .none kV_sign_at dc_sign_at pm_sign_at an_sign_at cd_sign_at ct_sign_at), fun_mk l_sign_at c_sign_at k_sign_at, (fun_mk (st := s_sign_at) l_sign_at c_sign_at k_sign_at).binds (ps := p_sign_at) fun _ _ _ _ _ _ us hl => match us, hl with | [_, _, _], _ => rfl, PySem.W.mg_of X G a_sign_at⟩
    d__law_dice := ⟨f__law_dice, (PySem.W.fnOf "_law_dice" "_law_dice" (defArgs s__law_dice) (defBody s__law_dice) (defScope s__law_dice) .none kV__law_dice dc__law_dice pm__law_dice an__law_dice cd__law_dice ct__law_dice), fun_mk l__law_dice c__law_dice k__law_dice, (fun_mk (st := s__law_dice) l__law_dice c__law_dice k__law_dice).binds (ps := p__law_dice) fun _ _ _ _ _ _ us hl => match us, hl with | [_, _], _ => rfl, PySem.W.mg_of X G a__law_dice⟩
    d__law_roll := ⟨f__law_roll, (PySem.W.fnOf "_law_roll" "_law_roll" (defArgs s__law_roll) (defBody s__law_roll) (defScope s__law_roll) .none kV__law_roll dc__law_roll pm__law_roll an__law_roll cd__law_roll ct__law_roll), fun_mk l__law_roll c__law_roll k__law_roll, (fun_mk (st := s__law_roll) l__law_roll c__law_roll k__law_roll).binds (ps := p__law_roll) fun _ _ _ _ _ _ us hl => match us, hl with | [_, _], _ => rfl, PySem.W.mg_of X G a__law_roll⟩
    d__law_one_of := ⟨f__law_one_of, (PySem.W.fnOf "_law_one_of" "_law_one_of" (defArgs s__law_one_of) (defBody s__law_one_of) (defScope s__law_one_of) .none kV__law_one_of dc__law_one_of pm__law_one_of an__law_one_of cd__law_one_of ct__law_one_of), fun_mk l__law_one_of c__law_one_of k__law_one_of, (fun_mk (st := s__law_one_of) l__law_one_of c__law_one_of k__law_one_of).binds (ps := p__law_one_of) fun _ _ _ _ _ _ us hl => match us, hl with | [_, _], _ => rfl, PySem.W.mg_of X G a__law_one_of⟩
    d__law_power := ⟨f__law_power, (PySem.W.fnOf "_law_power" "_law_power" (defArgs s__law_power) (defBody s__law_power) (defScope s__law_power) .none kV__law_power dc__law_power pm__law_power an__law_power cd__law_power ct__law_power), fun_mk l__law_power c__law_power k__law_power, (fun_mk (st := s__law_power) l__law_power c__law_power k__law_power).binds (ps := p__law_power) fun _ _ _ _ _ _ us hl => match us, hl with | [_, _], _ => rfl, PySem.W.mg_of X G a__law_power⟩
    d__law_gcd := ⟨f__law_gcd, (PySem.W.fnOf "_law_gcd" "_law_gcd" (defArgs s__law_gcd) (defBody s__law_gcd) (defScope s__law_gcd) .none kV__law_gcd dc__law_gcd pm__law_gcd an__law_gcd cd__law_gcd ct__law_gcd), fun_mk l__law_gcd c__law_gcd k__law_gcd, (fun_mk (st := s__law_gcd) l__law_gcd c__law_gcd k__law_gcd).binds (ps := p__law_gcd) fun _ _ _ _ _ _ us hl => match us, hl with | [_, _], _ => rfl, PySem.W.mg_of X G a__law_gcd⟩
    d__law_lowest := ⟨f__law_lowest, (PySem.W.fnOf "_law_lowest" "_law_lowest" (defArgs s__law_lowest) (defBody s__law_lowest) (defScope s__law_lowest) .none kV__law_lowest dc__law_lowest pm__law_lowest an__law_lowest cd__law_lowest ct__law_lowest), fun_mk l__law_lowest c__law_lowest k__law_lowest, (fun_mk (st := s__law_lowest) l__law_lowest c__law_lowest k__law_lowest).binds (ps := p__law_lowest) fun _ _ _ _ _ _ us hl => match us, hl with | [_, _], _ => rfl, PySem.W.mg_of X G a__law_lowest⟩
    d__law_exponent := ⟨f__law_exponent, (PySem.W.fnOf "_law_exponent" "_law_exponent" (defArgs s__law_exponent) (defBody s__law_exponent) (defScope s__law_exponent) .none kV__law_exponent dc__law_exponent pm__law_exponent an__law_exponent cd__law_exponent ct__law_exponent), fun_mk l__law_exponent c__law_exponent k__law_exponent, (fun_mk (st := s__law_exponent) l__law_exponent c__law_exponent k__law_exponent).binds (ps := p__law_exponent) fun _ _ _ _ _ _ us hl => match us, hl with | [_, _], _ => rfl, PySem.W.mg_of X G a__law_exponent⟩
    d__law_sign := ⟨f__law_sign, (PySem.W.fnOf "_law_sign" "_law_sign" (defArgs s__law_sign) (defBody s__law_sign) (defScope s__law_sign) .none kV__law_sign dc__law_sign pm__law_sign an__law_sign cd__law_sign ct__law_sign), fun_mk l__law_sign c__law_sign k__law_sign, (fun_mk (st := s__law_sign) l__law_sign c__law_sign k__law_sign).binds (ps := p__law_sign) fun _ _ _ _ _ _ us hl => match us, hl with | [_, _, _], _ => rfl, PySem.W.mg_of X G a__law_sign⟩
    d__law_is_square := ⟨f__law_is_square, (PySem.W.fnOf "_law_is_square" "_law_is_square" (defArgs s__law_is_square) (defBody s__law_is_square) (defScope s__law_is_square) .none kV__law_is_square dc__law_is_square pm__law_is_square an__law_is_square cd__law_is_square ct__law_is_square), fun_mk l__law_is_square c__law_is_square k__law_is_square, (fun_mk (st := s__law_is_square) l__law_is_square c__law_is_square k__law_is_square).binds (ps := p__law_is_square) fun _ _ _ _ _ _ us hl => match us, hl with | [_, _], _ => rfl, PySem.W.mg_of X G a__law_is_square⟩
    d__law_drawn := ⟨f__law_drawn, (PySem.W.fnOf "_law_drawn" "_law_drawn" (defArgs s__law_drawn) (defBody s__law_drawn) (defScope s__law_drawn) .none kV__law_drawn dc__law_drawn pm__law_drawn an__law_drawn cd__law_drawn ct__law_drawn), fun_mk l__law_drawn c__law_drawn k__law_drawn, (fun_mk (st := s__law_drawn) l__law_drawn c__law_drawn k__law_drawn).binds (ps := p__law_drawn) fun _ _ _ _ _ _ us hl => match us, hl with | [_], _ => rfl, PySem.W.mg_of X G a__law_drawn⟩
    d__law_integer := ⟨f__law_integer, (PySem.W.fnOf "_law_integer" "_law_integer" (defArgs s__law_integer) (defBody s__law_integer) (defScope s__law_integer) .none kV__law_integer dc__law_integer pm__law_integer an__law_integer cd__law_integer ct__law_integer), fun_mk l__law_integer c__law_integer k__law_integer, (fun_mk (st := s__law_integer) l__law_integer c__law_integer k__law_integer).binds (ps := p__law_integer) fun _ _ _ _ _ _ us hl => match us, hl with | [_], _ => rfl, PySem.W.mg_of X G a__law_integer⟩
    d__law_small := ⟨f__law_small, (PySem.W.fnOf "_law_small" "_law_small" (defArgs s__law_small) (defBody s__law_small) (defScope s__law_small) .none kV__law_small dc__law_small pm__law_small an__law_small cd__law_small ct__law_small), fun_mk l__law_small c__law_small k__law_small, (fun_mk (st := s__law_small) l__law_small c__law_small k__law_small).binds (ps := p__law_small) fun _ _ _ _ _ _ us hl => match us, hl with | [_, _], _ => rfl, PySem.W.mg_of X G a__law_small⟩
    d__law_has_solution := ⟨f__law_has_solution, (PySem.W.fnOf "_law_has_solution" "_law_has_solution" (defArgs s__law_has_solution) (defBody s__law_has_solution) (defScope s__law_has_solution) .none kV__law_has_solution dc__law_has_solution pm__law_has_solution an__law_has_solution cd__law_has_solution ct__law_has_solution), fun_mk l__law_has_solution c__law_has_solution k__law_has_solution, (fun_mk (st := s__law_has_solution) l__law_has_solution c__law_has_solution k__law_has_solution).binds (ps := p__law_has_solution) fun _ _ _ _ _ _ us hl => match us, hl with | [_, _, _], _ => rfl, PySem.W.mg_of X G a__law_has_solution⟩
    d__law_is_prime := ⟨f__law_is_prime, (PySem.W.fnOf "_law_is_prime" "_law_is_prime" (defArgs s__law_is_prime) (defBody s__law_is_prime) (defScope s__law_is_prime) .none kV__law_is_prime dc__law_is_prime pm__law_is_prime an__law_is_prime cd__law_is_prime ct__law_is_prime), fun_mk l__law_is_prime c__law_is_prime k__law_is_prime, (fun_mk (st := s__law_is_prime) l__law_is_prime c__law_is_prime k__law_is_prime).binds (ps := p__law_is_prime) fun _ _ _ _ _ _ us hl => match us, hl with | [_], _ => rfl, PySem.W.mg_of X G a__law_is_prime⟩
    d__law_place_drawn := ⟨f__law_place_drawn, (PySem.W.fnOf "_law_place_drawn" "_law_place_drawn" (defArgs s__law_place_drawn) (defBody s__law_place_drawn) (defScope s__law_place_drawn) .none kV__law_place_drawn dc__law_place_drawn pm__law_place_drawn an__law_place_drawn cd__law_place_drawn ct__law_place_drawn), fun_mk l__law_place_drawn c__law_place_drawn k__law_place_drawn, (fun_mk (st := s__law_place_drawn) l__law_place_drawn c__law_place_drawn k__law_place_drawn).binds (ps := p__law_place_drawn) fun _ _ _ _ _ _ us hl => match us, hl with | [_], _ => rfl, PySem.W.mg_of X G a__law_place_drawn⟩
    d__law_times := ⟨f__law_times, (PySem.W.fnOf "_law_times" "_law_times" (defArgs s__law_times) (defBody s__law_times) (defScope s__law_times) .none kV__law_times dc__law_times pm__law_times an__law_times cd__law_times ct__law_times), fun_mk l__law_times c__law_times k__law_times, (fun_mk (st := s__law_times) l__law_times c__law_times k__law_times).binds (ps := p__law_times) fun _ _ _ _ _ _ us hl => match us, hl with | [_, _], _ => rfl, PySem.W.mg_of X G a__law_times⟩
    d__law_rules_right := ⟨f__law_rules_right, (PySem.W.fnOf "_law_rules_right" "_law_rules_right" (defArgs s__law_rules_right) (defBody s__law_rules_right) (defScope s__law_rules_right) .none kV__law_rules_right dc__law_rules_right pm__law_rules_right an__law_rules_right cd__law_rules_right ct__law_rules_right), fun_mk l__law_rules_right c__law_rules_right k__law_rules_right, (fun_mk (st := s__law_rules_right) l__law_rules_right c__law_rules_right k__law_rules_right).binds (ps := p__law_rules_right) fun _ _ _ _ _ _ us hl => match us, hl with | [_, _, _, _], _ => rfl, PySem.W.mg_of X G a__law_rules_right⟩
    d__law_right := ⟨f__law_right, (PySem.W.fnOf "_law_right" "_law_right" (defArgs s__law_right) (defBody s__law_right) (defScope s__law_right) .none kV__law_right dc__law_right pm__law_right an__law_right cd__law_right ct__law_right), fun_mk l__law_right c__law_right k__law_right, (fun_mk (st := s__law_right) l__law_right c__law_right k__law_right).binds (ps := p__law_right) fun _ _ _ _ _ _ us hl => match us, hl with | [_], _ => rfl, PySem.W.mg_of X G a__law_right⟩
    d_law := ⟨f_law, (PySem.W.fnOf "law" "law" (defArgs s_law) (defBody s_law) (defScope s_law) .none kV_law dc_law pm_law an_law cd_law ct_law), fun_mk l_law c_law k_law, (fun_mk (st := s_law) l_law c_law k_law).binds (ps := p_law) fun _ _ _ _ _ _ us hl => match us, hl with | [_], _ => rfl, PySem.W.mg_of X G a_law⟩
    tPair := t_PAIR
    m_PAIR := PySem.W.mg_of X G g_PAIR
    tPlace := t_MOST_PLACE
    m_MOST_PLACE := PySem.W.mg_of X G g_MOST_PLACE
    tSigned := t_MOST_SIGNED
    m_MOST_SIGNED := PySem.W.mg_of X G g_MOST_SIGNED
    m_gcd := PySem.W.mg_of X G g_gcd
    n_abs := PySem.W.mg_none_of X G z_abs
    n_max := PySem.W.mg_none_of X G z_max
    n_min := PySem.W.mg_none_of X G z_min
    n_len := PySem.W.mg_none_of X G z_len
    n_isinstance := PySem.W.mg_none_of X G z_isinstance
    n_all := PySem.W.mg_none_of X G z_all
    n_int := PySem.W.mg_none_of X G z_int
    n_bool := PySem.W.mg_none_of X G z_bool
    n_tuple := PySem.W.mg_none_of X G z_tuple
    n_range := PySem.W.mg_none_of X G z_range
    tSixty := tS
    m_SIXTY := hS

theorem all_mk {l : PySem.W.OpenLaw} {w : World} {K : PySem.W.Frag} {h : Heap} {mg : Str → Option Value} {fa : Addr} (X : K.In h) (G : h.Ns mainGlobals mg) (hfa : mg "law" = some (.ref fa)) (hS : ∃ t, mg "SIXTY" = some (.int (10 ^ 60) t))
    {f_is_whole_number : Addr} {od_is_whole_number an_is_whole_number : Option Addr} {sl_is_whole_number : Array (Option Value)} {oc_is_whole_number kV_is_whole_number dc_is_whole_number pm_is_whole_number cd_is_whole_number ct_is_whole_number : Value}
    {f_is_integer : Addr} {od_is_integer an_is_integer : Option Addr} {sl_is_integer : Array (Option Value)} {oc_is_integer kV_is_integer dc_is_integer pm_is_integer cd_is_integer ct_is_integer : Value}
    {f_is_ratio_any : Addr} {od_is_ratio_any an_is_ratio_any : Option Addr} {sl_is_ratio_any : Array (Option Value)} {oc_is_ratio_any kV_is_ratio_any dc_is_ratio_any pm_is_ratio_any cd_is_ratio_any ct_is_ratio_any : Value}
    {f_is_number_in : Addr} {od_is_number_in an_is_number_in : Option Addr} {sl_is_number_in : Array (Option Value)} {oc_is_number_in kV_is_number_in dc_is_number_in pm_is_number_in cd_is_number_in ct_is_number_in : Value}
    {f_pair_of : Addr} {od_pair_of an_pair_of : Option Addr} {sl_pair_of : Array (Option Value)} {oc_pair_of kV_pair_of dc_pair_of pm_pair_of cd_pair_of ct_pair_of : Value}
    {f_exponent_at : Addr} {od_exponent_at an_exponent_at : Option Addr} {sl_exponent_at : Array (Option Value)} {oc_exponent_at kV_exponent_at dc_exponent_at pm_exponent_at cd_exponent_at ct_exponent_at : Value}
    {f_least_divisor : Addr} {od_least_divisor an_least_divisor : Option Addr} {sl_least_divisor : Array (Option Value)} {oc_least_divisor kV_least_divisor dc_least_divisor pm_least_divisor cd_least_divisor ct_least_divisor : Value}
    {f_is_prime_number : Addr} {od_is_prime_number an_is_prime_number : Option Addr} {sl_is_prime_number : Array (Option Value)} {oc_is_prime_number kV_is_prime_number dc_is_prime_number pm_is_prime_number cd_is_prime_number ct_is_prime_number : Value}
    {f_modular_power : Addr} {od_modular_power an_modular_power : Option Addr} {sl_modular_power : Array (Option Value)} {oc_modular_power kV_modular_power dc_modular_power pm_modular_power cd_modular_power ct_modular_power : Value}
    {f_square_sign_in : Addr} {od_square_sign_in an_square_sign_in : Option Addr} {sl_square_sign_in : Array (Option Value)} {oc_square_sign_in kV_square_sign_in dc_square_sign_in pm_square_sign_in cd_square_sign_in ct_square_sign_in : Value}
    {f_whole_of : Addr} {od_whole_of an_whole_of : Option Addr} {sl_whole_of : Array (Option Value)} {oc_whole_of kV_whole_of dc_whole_of pm_whole_of cd_whole_of ct_whole_of : Value}
    {f_is_square_in : Addr} {od_is_square_in an_is_square_in : Option Addr} {sl_is_square_in : Array (Option Value)} {oc_is_square_in kV_is_square_in dc_is_square_in pm_is_square_in cd_is_square_in ct_is_square_in : Value}
    {f_sign_at_two : Addr} {od_sign_at_two an_sign_at_two : Option Addr} {sl_sign_at_two : Array (Option Value)} {oc_sign_at_two kV_sign_at_two dc_sign_at_two pm_sign_at_two cd_sign_at_two ct_sign_at_two : Value}
    {f_sign_in : Addr} {od_sign_in an_sign_in : Option Addr} {sl_sign_in : Array (Option Value)} {oc_sign_in kV_sign_in dc_sign_in pm_sign_in cd_sign_in ct_sign_in : Value}
    {f_is_place_in : Addr} {od_is_place_in an_is_place_in : Option Addr} {sl_is_place_in : Array (Option Value)} {oc_is_place_in kV_is_place_in dc_is_place_in pm_is_place_in cd_is_place_in ct_is_place_in : Value}
    {f_require_place : Addr} {od_require_place an_require_place : Option Addr} {sl_require_place : Array (Option Value)} {oc_require_place kV_require_place dc_require_place pm_require_place cd_require_place ct_require_place : Value}
    {f_require_signed : Addr} {od_require_signed an_require_signed : Option Addr} {sl_require_signed : Array (Option Value)} {oc_require_signed kV_require_signed dc_require_signed pm_require_signed cd_require_signed ct_require_signed : Value}
    {f_is_square_at : Addr} {od_is_square_at an_is_square_at : Option Addr} {sl_is_square_at : Array (Option Value)} {oc_is_square_at kV_is_square_at dc_is_square_at pm_is_square_at cd_is_square_at ct_is_square_at : Value}
    {f_sign_at : Addr} {od_sign_at an_sign_at : Option Addr} {sl_sign_at : Array (Option Value)} {oc_sign_at kV_sign_at dc_sign_at pm_sign_at cd_sign_at ct_sign_at : Value}
    {f__law_dice : Addr} {od__law_dice an__law_dice : Option Addr} {sl__law_dice : Array (Option Value)} {oc__law_dice kV__law_dice dc__law_dice pm__law_dice cd__law_dice ct__law_dice : Value}
    {f__law_roll : Addr} {od__law_roll an__law_roll : Option Addr} {sl__law_roll : Array (Option Value)} {oc__law_roll kV__law_roll dc__law_roll pm__law_roll cd__law_roll ct__law_roll : Value}
    {f__law_one_of : Addr} {od__law_one_of an__law_one_of : Option Addr} {sl__law_one_of : Array (Option Value)} {oc__law_one_of kV__law_one_of dc__law_one_of pm__law_one_of cd__law_one_of ct__law_one_of : Value}
    {f__law_power : Addr} {od__law_power an__law_power : Option Addr} {sl__law_power : Array (Option Value)} {oc__law_power kV__law_power dc__law_power pm__law_power cd__law_power ct__law_power : Value}
    {f__law_gcd : Addr} {od__law_gcd an__law_gcd : Option Addr} {sl__law_gcd : Array (Option Value)} {oc__law_gcd kV__law_gcd dc__law_gcd pm__law_gcd cd__law_gcd ct__law_gcd : Value}
    {f__law_lowest : Addr} {od__law_lowest an__law_lowest : Option Addr} {sl__law_lowest : Array (Option Value)} {oc__law_lowest kV__law_lowest dc__law_lowest pm__law_lowest cd__law_lowest ct__law_lowest : Value}
    {f__law_exponent : Addr} {od__law_exponent an__law_exponent : Option Addr} {sl__law_exponent : Array (Option Value)} {oc__law_exponent kV__law_exponent dc__law_exponent pm__law_exponent cd__law_exponent ct__law_exponent : Value}
    {f__law_sign : Addr} {od__law_sign an__law_sign : Option Addr} {sl__law_sign : Array (Option Value)} {oc__law_sign kV__law_sign dc__law_sign pm__law_sign cd__law_sign ct__law_sign : Value}
    {f__law_is_square : Addr} {od__law_is_square an__law_is_square : Option Addr} {sl__law_is_square : Array (Option Value)} {oc__law_is_square kV__law_is_square dc__law_is_square pm__law_is_square cd__law_is_square ct__law_is_square : Value}
    {f__law_drawn : Addr} {od__law_drawn an__law_drawn : Option Addr} {sl__law_drawn : Array (Option Value)} {oc__law_drawn kV__law_drawn dc__law_drawn pm__law_drawn cd__law_drawn ct__law_drawn : Value}
    {f__law_integer : Addr} {od__law_integer an__law_integer : Option Addr} {sl__law_integer : Array (Option Value)} {oc__law_integer kV__law_integer dc__law_integer pm__law_integer cd__law_integer ct__law_integer : Value}
    {f__law_small : Addr} {od__law_small an__law_small : Option Addr} {sl__law_small : Array (Option Value)} {oc__law_small kV__law_small dc__law_small pm__law_small cd__law_small ct__law_small : Value}
    {f__law_has_solution : Addr} {od__law_has_solution an__law_has_solution : Option Addr} {sl__law_has_solution : Array (Option Value)} {oc__law_has_solution kV__law_has_solution dc__law_has_solution pm__law_has_solution cd__law_has_solution ct__law_has_solution : Value}
    {f__law_is_prime : Addr} {od__law_is_prime an__law_is_prime : Option Addr} {sl__law_is_prime : Array (Option Value)} {oc__law_is_prime kV__law_is_prime dc__law_is_prime pm__law_is_prime cd__law_is_prime ct__law_is_prime : Value}
    {f__law_place_drawn : Addr} {od__law_place_drawn an__law_place_drawn : Option Addr} {sl__law_place_drawn : Array (Option Value)} {oc__law_place_drawn kV__law_place_drawn dc__law_place_drawn pm__law_place_drawn cd__law_place_drawn ct__law_place_drawn : Value}
    {f__law_times : Addr} {od__law_times an__law_times : Option Addr} {sl__law_times : Array (Option Value)} {oc__law_times kV__law_times dc__law_times pm__law_times cd__law_times ct__law_times : Value}
    {f__law_rules_right : Addr} {od__law_rules_right an__law_rules_right : Option Addr} {sl__law_rules_right : Array (Option Value)} {oc__law_rules_right kV__law_rules_right dc__law_rules_right pm__law_rules_right cd__law_rules_right ct__law_rules_right : Value}
    {f__law_right : Addr} {od__law_right an__law_right : Option Addr} {sl__law_right : Array (Option Value)} {oc__law_right kV__law_right dc__law_right pm__law_right cd__law_right ct__law_right : Value}
    {f_law : Addr} {od_law an_law : Option Addr} {sl_law : Array (Option Value)} {oc_law kV_law dc_law pm_law cd_law ct_law : Value}
    {t_PAIR : Tok}
    {t_MOST_PLACE : Tok}
    {t_MOST_SIGNED : Tok}
    (a_is_whole_number : PySem.W.nsIn K mainGlobals "is_whole_number" = some (some (.ref f_is_whole_number))) (l_is_whole_number : K.lookup f_is_whole_number = some ⟨oc_is_whole_number, od_is_whole_number, .func (PySem.W.fnOf "is_whole_number" "is_whole_number" (defArgs s_is_whole_number) (defBody s_is_whole_number) (defScope s_is_whole_number) .none kV_is_whole_number dc_is_whole_number pm_is_whole_number an_is_whole_number cd_is_whole_number ct_is_whole_number), sl_is_whole_number⟩) (c_is_whole_number : PySem.W.codeIn K cd_is_whole_number "is_whole_number" = true) (k_is_whole_number : PySem.W.keepIn K (.ref f_is_whole_number) = true)
    (a_is_integer : PySem.W.nsIn K mainGlobals "is_integer" = some (some (.ref f_is_integer))) (l_is_integer : K.lookup f_is_integer = some ⟨oc_is_integer, od_is_integer, .func (PySem.W.fnOf "is_integer" "is_integer" (defArgs s_is_integer) (defBody s_is_integer) (defScope s_is_integer) .none kV_is_integer dc_is_integer pm_is_integer an_is_integer cd_is_integer ct_is_integer), sl_is_integer⟩) (c_is_integer : PySem.W.codeIn K cd_is_integer "is_integer" = true) (k_is_integer : PySem.W.keepIn K (.ref f_is_integer) = true)
    (a_is_ratio_any : PySem.W.nsIn K mainGlobals "is_ratio_any" = some (some (.ref f_is_ratio_any))) (l_is_ratio_any : K.lookup f_is_ratio_any = some ⟨oc_is_ratio_any, od_is_ratio_any, .func (PySem.W.fnOf "is_ratio_any" "is_ratio_any" (defArgs s_is_ratio_any) (defBody s_is_ratio_any) (defScope s_is_ratio_any) .none kV_is_ratio_any dc_is_ratio_any pm_is_ratio_any an_is_ratio_any cd_is_ratio_any ct_is_ratio_any), sl_is_ratio_any⟩) (c_is_ratio_any : PySem.W.codeIn K cd_is_ratio_any "is_ratio_any" = true) (k_is_ratio_any : PySem.W.keepIn K (.ref f_is_ratio_any) = true)
    (a_is_number_in : PySem.W.nsIn K mainGlobals "is_number_in" = some (some (.ref f_is_number_in))) (l_is_number_in : K.lookup f_is_number_in = some ⟨oc_is_number_in, od_is_number_in, .func (PySem.W.fnOf "is_number_in" "is_number_in" (defArgs s_is_number_in) (defBody s_is_number_in) (defScope s_is_number_in) .none kV_is_number_in dc_is_number_in pm_is_number_in an_is_number_in cd_is_number_in ct_is_number_in), sl_is_number_in⟩) (c_is_number_in : PySem.W.codeIn K cd_is_number_in "is_number_in" = true) (k_is_number_in : PySem.W.keepIn K (.ref f_is_number_in) = true)
    (a_pair_of : PySem.W.nsIn K mainGlobals "pair_of" = some (some (.ref f_pair_of))) (l_pair_of : K.lookup f_pair_of = some ⟨oc_pair_of, od_pair_of, .func (PySem.W.fnOf "pair_of" "pair_of" (defArgs s_pair_of) (defBody s_pair_of) (defScope s_pair_of) .none kV_pair_of dc_pair_of pm_pair_of an_pair_of cd_pair_of ct_pair_of), sl_pair_of⟩) (c_pair_of : PySem.W.codeIn K cd_pair_of "pair_of" = true) (k_pair_of : PySem.W.keepIn K (.ref f_pair_of) = true)
    (a_exponent_at : PySem.W.nsIn K mainGlobals "exponent_at" = some (some (.ref f_exponent_at))) (l_exponent_at : K.lookup f_exponent_at = some ⟨oc_exponent_at, od_exponent_at, .func (PySem.W.fnOf "exponent_at" "exponent_at" (defArgs s_exponent_at) (defBody s_exponent_at) (defScope s_exponent_at) .none kV_exponent_at dc_exponent_at pm_exponent_at an_exponent_at cd_exponent_at ct_exponent_at), sl_exponent_at⟩) (c_exponent_at : PySem.W.codeIn K cd_exponent_at "exponent_at" = true) (k_exponent_at : PySem.W.keepIn K (.ref f_exponent_at) = true)
    (a_least_divisor : PySem.W.nsIn K mainGlobals "least_divisor" = some (some (.ref f_least_divisor))) (l_least_divisor : K.lookup f_least_divisor = some ⟨oc_least_divisor, od_least_divisor, .func (PySem.W.fnOf "least_divisor" "least_divisor" (defArgs s_least_divisor) (defBody s_least_divisor) (defScope s_least_divisor) .none kV_least_divisor dc_least_divisor pm_least_divisor an_least_divisor cd_least_divisor ct_least_divisor), sl_least_divisor⟩) (c_least_divisor : PySem.W.codeIn K cd_least_divisor "least_divisor" = true) (k_least_divisor : PySem.W.keepIn K (.ref f_least_divisor) = true)
    (a_is_prime_number : PySem.W.nsIn K mainGlobals "is_prime_number" = some (some (.ref f_is_prime_number))) (l_is_prime_number : K.lookup f_is_prime_number = some ⟨oc_is_prime_number, od_is_prime_number, .func (PySem.W.fnOf "is_prime_number" "is_prime_number" (defArgs s_is_prime_number) (defBody s_is_prime_number) (defScope s_is_prime_number) .none kV_is_prime_number dc_is_prime_number pm_is_prime_number an_is_prime_number cd_is_prime_number ct_is_prime_number), sl_is_prime_number⟩) (c_is_prime_number : PySem.W.codeIn K cd_is_prime_number "is_prime_number" = true) (k_is_prime_number : PySem.W.keepIn K (.ref f_is_prime_number) = true)
    (a_modular_power : PySem.W.nsIn K mainGlobals "modular_power" = some (some (.ref f_modular_power))) (l_modular_power : K.lookup f_modular_power = some ⟨oc_modular_power, od_modular_power, .func (PySem.W.fnOf "modular_power" "modular_power" (defArgs s_modular_power) (defBody s_modular_power) (defScope s_modular_power) .none kV_modular_power dc_modular_power pm_modular_power an_modular_power cd_modular_power ct_modular_power), sl_modular_power⟩) (c_modular_power : PySem.W.codeIn K cd_modular_power "modular_power" = true) (k_modular_power : PySem.W.keepIn K (.ref f_modular_power) = true)
    (a_square_sign_in : PySem.W.nsIn K mainGlobals "square_sign_in" = some (some (.ref f_square_sign_in))) (l_square_sign_in : K.lookup f_square_sign_in = some ⟨oc_square_sign_in, od_square_sign_in, .func (PySem.W.fnOf "square_sign_in" "square_sign_in" (defArgs s_square_sign_in) (defBody s_square_sign_in) (defScope s_square_sign_in) .none kV_square_sign_in dc_square_sign_in pm_square_sign_in an_square_sign_in cd_square_sign_in ct_square_sign_in), sl_square_sign_in⟩) (c_square_sign_in : PySem.W.codeIn K cd_square_sign_in "square_sign_in" = true) (k_square_sign_in : PySem.W.keepIn K (.ref f_square_sign_in) = true)
    (a_whole_of : PySem.W.nsIn K mainGlobals "whole_of" = some (some (.ref f_whole_of))) (l_whole_of : K.lookup f_whole_of = some ⟨oc_whole_of, od_whole_of, .func (PySem.W.fnOf "whole_of" "whole_of" (defArgs s_whole_of) (defBody s_whole_of) (defScope s_whole_of) .none kV_whole_of dc_whole_of pm_whole_of an_whole_of cd_whole_of ct_whole_of), sl_whole_of⟩) (c_whole_of : PySem.W.codeIn K cd_whole_of "whole_of" = true) (k_whole_of : PySem.W.keepIn K (.ref f_whole_of) = true)
    (a_is_square_in : PySem.W.nsIn K mainGlobals "is_square_in" = some (some (.ref f_is_square_in))) (l_is_square_in : K.lookup f_is_square_in = some ⟨oc_is_square_in, od_is_square_in, .func (PySem.W.fnOf "is_square_in" "is_square_in" (defArgs s_is_square_in) (defBody s_is_square_in) (defScope s_is_square_in) .none kV_is_square_in dc_is_square_in pm_is_square_in an_is_square_in cd_is_square_in ct_is_square_in), sl_is_square_in⟩) (c_is_square_in : PySem.W.codeIn K cd_is_square_in "is_square_in" = true) (k_is_square_in : PySem.W.keepIn K (.ref f_is_square_in) = true)
    (a_sign_at_two : PySem.W.nsIn K mainGlobals "sign_at_two" = some (some (.ref f_sign_at_two))) (l_sign_at_two : K.lookup f_sign_at_two = some ⟨oc_sign_at_two, od_sign_at_two, .func (PySem.W.fnOf "sign_at_two" "sign_at_two" (defArgs s_sign_at_two) (defBody s_sign_at_two) (defScope s_sign_at_two) .none kV_sign_at_two dc_sign_at_two pm_sign_at_two an_sign_at_two cd_sign_at_two ct_sign_at_two), sl_sign_at_two⟩) (c_sign_at_two : PySem.W.codeIn K cd_sign_at_two "sign_at_two" = true) (k_sign_at_two : PySem.W.keepIn K (.ref f_sign_at_two) = true)
    (a_sign_in : PySem.W.nsIn K mainGlobals "sign_in" = some (some (.ref f_sign_in))) (l_sign_in : K.lookup f_sign_in = some ⟨oc_sign_in, od_sign_in, .func (PySem.W.fnOf "sign_in" "sign_in" (defArgs s_sign_in) (defBody s_sign_in) (defScope s_sign_in) .none kV_sign_in dc_sign_in pm_sign_in an_sign_in cd_sign_in ct_sign_in), sl_sign_in⟩) (c_sign_in : PySem.W.codeIn K cd_sign_in "sign_in" = true) (k_sign_in : PySem.W.keepIn K (.ref f_sign_in) = true)
    (a_is_place_in : PySem.W.nsIn K mainGlobals "is_place_in" = some (some (.ref f_is_place_in))) (l_is_place_in : K.lookup f_is_place_in = some ⟨oc_is_place_in, od_is_place_in, .func (PySem.W.fnOf "is_place_in" "is_place_in" (defArgs s_is_place_in) (defBody s_is_place_in) (defScope s_is_place_in) .none kV_is_place_in dc_is_place_in pm_is_place_in an_is_place_in cd_is_place_in ct_is_place_in), sl_is_place_in⟩) (c_is_place_in : PySem.W.codeIn K cd_is_place_in "is_place_in" = true) (k_is_place_in : PySem.W.keepIn K (.ref f_is_place_in) = true)
    (a_require_place : PySem.W.nsIn K mainGlobals "require_place" = some (some (.ref f_require_place))) (l_require_place : K.lookup f_require_place = some ⟨oc_require_place, od_require_place, .func (PySem.W.fnOf "require_place" "require_place" (defArgs s_require_place) (defBody s_require_place) (defScope s_require_place) .none kV_require_place dc_require_place pm_require_place an_require_place cd_require_place ct_require_place), sl_require_place⟩) (c_require_place : PySem.W.codeIn K cd_require_place "require_place" = true) (k_require_place : PySem.W.keepIn K (.ref f_require_place) = true)
    (a_require_signed : PySem.W.nsIn K mainGlobals "require_signed" = some (some (.ref f_require_signed))) (l_require_signed : K.lookup f_require_signed = some ⟨oc_require_signed, od_require_signed, .func (PySem.W.fnOf "require_signed" "require_signed" (defArgs s_require_signed) (defBody s_require_signed) (defScope s_require_signed) .none kV_require_signed dc_require_signed pm_require_signed an_require_signed cd_require_signed ct_require_signed), sl_require_signed⟩) (c_require_signed : PySem.W.codeIn K cd_require_signed "require_signed" = true) (k_require_signed : PySem.W.keepIn K (.ref f_require_signed) = true)
    (a_is_square_at : PySem.W.nsIn K mainGlobals "is_square_at" = some (some (.ref f_is_square_at))) (l_is_square_at : K.lookup f_is_square_at = some ⟨oc_is_square_at, od_is_square_at, .func (PySem.W.fnOf "is_square_at" "is_square_at" (defArgs s_is_square_at) (defBody s_is_square_at) (defScope s_is_square_at) .none kV_is_square_at dc_is_square_at pm_is_square_at an_is_square_at cd_is_square_at ct_is_square_at), sl_is_square_at⟩) (c_is_square_at : PySem.W.codeIn K cd_is_square_at "is_square_at" = true) (k_is_square_at : PySem.W.keepIn K (.ref f_is_square_at) = true)
    (a_sign_at : PySem.W.nsIn K mainGlobals "sign_at" = some (some (.ref f_sign_at))) (l_sign_at : K.lookup f_sign_at = some ⟨oc_sign_at, od_sign_at, .func (PySem.W.fnOf "sign_at" "sign_at" (defArgs s_sign_at) (defBody s_sign_at) (defScope s_sign_at) .none kV_sign_at dc_sign_at pm_sign_at an_sign_at cd_sign_at ct_sign_at), sl_sign_at⟩) (c_sign_at : PySem.W.codeIn K cd_sign_at "sign_at" = true) (k_sign_at : PySem.W.keepIn K (.ref f_sign_at) = true)
    (a__law_dice : PySem.W.nsIn K mainGlobals "_law_dice" = some (some (.ref f__law_dice))) (l__law_dice : K.lookup f__law_dice = some ⟨oc__law_dice, od__law_dice, .func (PySem.W.fnOf "_law_dice" "_law_dice" (defArgs s__law_dice) (defBody s__law_dice) (defScope s__law_dice) .none kV__law_dice dc__law_dice pm__law_dice an__law_dice cd__law_dice ct__law_dice), sl__law_dice⟩) (c__law_dice : PySem.W.codeIn K cd__law_dice "_law_dice" = true) (k__law_dice : PySem.W.keepIn K (.ref f__law_dice) = true)
    (a__law_roll : PySem.W.nsIn K mainGlobals "_law_roll" = some (some (.ref f__law_roll))) (l__law_roll : K.lookup f__law_roll = some ⟨oc__law_roll, od__law_roll, .func (PySem.W.fnOf "_law_roll" "_law_roll" (defArgs s__law_roll) (defBody s__law_roll) (defScope s__law_roll) .none kV__law_roll dc__law_roll pm__law_roll an__law_roll cd__law_roll ct__law_roll), sl__law_roll⟩) (c__law_roll : PySem.W.codeIn K cd__law_roll "_law_roll" = true) (k__law_roll : PySem.W.keepIn K (.ref f__law_roll) = true)
    (a__law_one_of : PySem.W.nsIn K mainGlobals "_law_one_of" = some (some (.ref f__law_one_of))) (l__law_one_of : K.lookup f__law_one_of = some ⟨oc__law_one_of, od__law_one_of, .func (PySem.W.fnOf "_law_one_of" "_law_one_of" (defArgs s__law_one_of) (defBody s__law_one_of) (defScope s__law_one_of) .none kV__law_one_of dc__law_one_of pm__law_one_of an__law_one_of cd__law_one_of ct__law_one_of), sl__law_one_of⟩) (c__law_one_of : PySem.W.codeIn K cd__law_one_of "_law_one_of" = true) (k__law_one_of : PySem.W.keepIn K (.ref f__law_one_of) = true)
    (a__law_power : PySem.W.nsIn K mainGlobals "_law_power" = some (some (.ref f__law_power))) (l__law_power : K.lookup f__law_power = some ⟨oc__law_power, od__law_power, .func (PySem.W.fnOf "_law_power" "_law_power" (defArgs s__law_power) (defBody s__law_power) (defScope s__law_power) .none kV__law_power dc__law_power pm__law_power an__law_power cd__law_power ct__law_power), sl__law_power⟩) (c__law_power : PySem.W.codeIn K cd__law_power "_law_power" = true) (k__law_power : PySem.W.keepIn K (.ref f__law_power) = true)
    (a__law_gcd : PySem.W.nsIn K mainGlobals "_law_gcd" = some (some (.ref f__law_gcd))) (l__law_gcd : K.lookup f__law_gcd = some ⟨oc__law_gcd, od__law_gcd, .func (PySem.W.fnOf "_law_gcd" "_law_gcd" (defArgs s__law_gcd) (defBody s__law_gcd) (defScope s__law_gcd) .none kV__law_gcd dc__law_gcd pm__law_gcd an__law_gcd cd__law_gcd ct__law_gcd), sl__law_gcd⟩) (c__law_gcd : PySem.W.codeIn K cd__law_gcd "_law_gcd" = true) (k__law_gcd : PySem.W.keepIn K (.ref f__law_gcd) = true)
    (a__law_lowest : PySem.W.nsIn K mainGlobals "_law_lowest" = some (some (.ref f__law_lowest))) (l__law_lowest : K.lookup f__law_lowest = some ⟨oc__law_lowest, od__law_lowest, .func (PySem.W.fnOf "_law_lowest" "_law_lowest" (defArgs s__law_lowest) (defBody s__law_lowest) (defScope s__law_lowest) .none kV__law_lowest dc__law_lowest pm__law_lowest an__law_lowest cd__law_lowest ct__law_lowest), sl__law_lowest⟩) (c__law_lowest : PySem.W.codeIn K cd__law_lowest "_law_lowest" = true) (k__law_lowest : PySem.W.keepIn K (.ref f__law_lowest) = true)
    (a__law_exponent : PySem.W.nsIn K mainGlobals "_law_exponent" = some (some (.ref f__law_exponent))) (l__law_exponent : K.lookup f__law_exponent = some ⟨oc__law_exponent, od__law_exponent, .func (PySem.W.fnOf "_law_exponent" "_law_exponent" (defArgs s__law_exponent) (defBody s__law_exponent) (defScope s__law_exponent) .none kV__law_exponent dc__law_exponent pm__law_exponent an__law_exponent cd__law_exponent ct__law_exponent), sl__law_exponent⟩) (c__law_exponent : PySem.W.codeIn K cd__law_exponent "_law_exponent" = true) (k__law_exponent : PySem.W.keepIn K (.ref f__law_exponent) = true)
    (a__law_sign : PySem.W.nsIn K mainGlobals "_law_sign" = some (some (.ref f__law_sign))) (l__law_sign : K.lookup f__law_sign = some ⟨oc__law_sign, od__law_sign, .func (PySem.W.fnOf "_law_sign" "_law_sign" (defArgs s__law_sign) (defBody s__law_sign) (defScope s__law_sign) .none kV__law_sign dc__law_sign pm__law_sign an__law_sign cd__law_sign ct__law_sign), sl__law_sign⟩) (c__law_sign : PySem.W.codeIn K cd__law_sign "_law_sign" = true) (k__law_sign : PySem.W.keepIn K (.ref f__law_sign) = true)
    (a__law_is_square : PySem.W.nsIn K mainGlobals "_law_is_square" = some (some (.ref f__law_is_square))) (l__law_is_square : K.lookup f__law_is_square = some ⟨oc__law_is_square, od__law_is_square, .func (PySem.W.fnOf "_law_is_square" "_law_is_square" (defArgs s__law_is_square) (defBody s__law_is_square) (defScope s__law_is_square) .none kV__law_is_square dc__law_is_square pm__law_is_square an__law_is_square cd__law_is_square ct__law_is_square), sl__law_is_square⟩) (c__law_is_square : PySem.W.codeIn K cd__law_is_square "_law_is_square" = true) (k__law_is_square : PySem.W.keepIn K (.ref f__law_is_square) = true)
    (a__law_drawn : PySem.W.nsIn K mainGlobals "_law_drawn" = some (some (.ref f__law_drawn))) (l__law_drawn : K.lookup f__law_drawn = some ⟨oc__law_drawn, od__law_drawn, .func (PySem.W.fnOf "_law_drawn" "_law_drawn" (defArgs s__law_drawn) (defBody s__law_drawn) (defScope s__law_drawn) .none kV__law_drawn dc__law_drawn pm__law_drawn an__law_drawn cd__law_drawn ct__law_drawn), sl__law_drawn⟩) (c__law_drawn : PySem.W.codeIn K cd__law_drawn "_law_drawn" = true) (k__law_drawn : PySem.W.keepIn K (.ref f__law_drawn) = true)
    (a__law_integer : PySem.W.nsIn K mainGlobals "_law_integer" = some (some (.ref f__law_integer))) (l__law_integer : K.lookup f__law_integer = some ⟨oc__law_integer, od__law_integer, .func (PySem.W.fnOf "_law_integer" "_law_integer" (defArgs s__law_integer) (defBody s__law_integer) (defScope s__law_integer) .none kV__law_integer dc__law_integer pm__law_integer an__law_integer cd__law_integer ct__law_integer), sl__law_integer⟩) (c__law_integer : PySem.W.codeIn K cd__law_integer "_law_integer" = true) (k__law_integer : PySem.W.keepIn K (.ref f__law_integer) = true)
    (a__law_small : PySem.W.nsIn K mainGlobals "_law_small" = some (some (.ref f__law_small))) (l__law_small : K.lookup f__law_small = some ⟨oc__law_small, od__law_small, .func (PySem.W.fnOf "_law_small" "_law_small" (defArgs s__law_small) (defBody s__law_small) (defScope s__law_small) .none kV__law_small dc__law_small pm__law_small an__law_small cd__law_small ct__law_small), sl__law_small⟩) (c__law_small : PySem.W.codeIn K cd__law_small "_law_small" = true) (k__law_small : PySem.W.keepIn K (.ref f__law_small) = true)
    (a__law_has_solution : PySem.W.nsIn K mainGlobals "_law_has_solution" = some (some (.ref f__law_has_solution))) (l__law_has_solution : K.lookup f__law_has_solution = some ⟨oc__law_has_solution, od__law_has_solution, .func (PySem.W.fnOf "_law_has_solution" "_law_has_solution" (defArgs s__law_has_solution) (defBody s__law_has_solution) (defScope s__law_has_solution) .none kV__law_has_solution dc__law_has_solution pm__law_has_solution an__law_has_solution cd__law_has_solution ct__law_has_solution), sl__law_has_solution⟩) (c__law_has_solution : PySem.W.codeIn K cd__law_has_solution "_law_has_solution" = true) (k__law_has_solution : PySem.W.keepIn K (.ref f__law_has_solution) = true)
    (a__law_is_prime : PySem.W.nsIn K mainGlobals "_law_is_prime" = some (some (.ref f__law_is_prime))) (l__law_is_prime : K.lookup f__law_is_prime = some ⟨oc__law_is_prime, od__law_is_prime, .func (PySem.W.fnOf "_law_is_prime" "_law_is_prime" (defArgs s__law_is_prime) (defBody s__law_is_prime) (defScope s__law_is_prime) .none kV__law_is_prime dc__law_is_prime pm__law_is_prime an__law_is_prime cd__law_is_prime ct__law_is_prime), sl__law_is_prime⟩) (c__law_is_prime : PySem.W.codeIn K cd__law_is_prime "_law_is_prime" = true) (k__law_is_prime : PySem.W.keepIn K (.ref f__law_is_prime) = true)
    (a__law_place_drawn : PySem.W.nsIn K mainGlobals "_law_place_drawn" = some (some (.ref f__law_place_drawn))) (l__law_place_drawn : K.lookup f__law_place_drawn = some ⟨oc__law_place_drawn, od__law_place_drawn, .func (PySem.W.fnOf "_law_place_drawn" "_law_place_drawn" (defArgs s__law_place_drawn) (defBody s__law_place_drawn) (defScope s__law_place_drawn) .none kV__law_place_drawn dc__law_place_drawn pm__law_place_drawn an__law_place_drawn cd__law_place_drawn ct__law_place_drawn), sl__law_place_drawn⟩) (c__law_place_drawn : PySem.W.codeIn K cd__law_place_drawn "_law_place_drawn" = true) (k__law_place_drawn : PySem.W.keepIn K (.ref f__law_place_drawn) = true)
    (a__law_times : PySem.W.nsIn K mainGlobals "_law_times" = some (some (.ref f__law_times))) (l__law_times : K.lookup f__law_times = some ⟨oc__law_times, od__law_times, .func (PySem.W.fnOf "_law_times" "_law_times" (defArgs s__law_times) (defBody s__law_times) (defScope s__law_times) .none kV__law_times dc__law_times pm__law_times an__law_times cd__law_times ct__law_times), sl__law_times⟩) (c__law_times : PySem.W.codeIn K cd__law_times "_law_times" = true) (k__law_times : PySem.W.keepIn K (.ref f__law_times) = true)
    (a__law_rules_right : PySem.W.nsIn K mainGlobals "_law_rules_right" = some (some (.ref f__law_rules_right))) (l__law_rules_right : K.lookup f__law_rules_right = some ⟨oc__law_rules_right, od__law_rules_right, .func (PySem.W.fnOf "_law_rules_right" "_law_rules_right" (defArgs s__law_rules_right) (defBody s__law_rules_right) (defScope s__law_rules_right) .none kV__law_rules_right dc__law_rules_right pm__law_rules_right an__law_rules_right cd__law_rules_right ct__law_rules_right), sl__law_rules_right⟩) (c__law_rules_right : PySem.W.codeIn K cd__law_rules_right "_law_rules_right" = true) (k__law_rules_right : PySem.W.keepIn K (.ref f__law_rules_right) = true)
    (a__law_right : PySem.W.nsIn K mainGlobals "_law_right" = some (some (.ref f__law_right))) (l__law_right : K.lookup f__law_right = some ⟨oc__law_right, od__law_right, .func (PySem.W.fnOf "_law_right" "_law_right" (defArgs s__law_right) (defBody s__law_right) (defScope s__law_right) .none kV__law_right dc__law_right pm__law_right an__law_right cd__law_right ct__law_right), sl__law_right⟩) (c__law_right : PySem.W.codeIn K cd__law_right "_law_right" = true) (k__law_right : PySem.W.keepIn K (.ref f__law_right) = true)
    (a_law : PySem.W.nsIn K mainGlobals "law" = some (some (.ref f_law))) (l_law : K.lookup f_law = some ⟨oc_law, od_law, .func (PySem.W.fnOf "law" "law" (defArgs s_law) (defBody s_law) (defScope s_law) .none kV_law dc_law pm_law an_law cd_law ct_law), sl_law⟩) (c_law : PySem.W.codeIn K cd_law "law" = true) (k_law : PySem.W.keepIn K (.ref f_law) = true)
    (g_PAIR : PySem.W.nsIn K mainGlobals "PAIR" = some (some (.int 2 t_PAIR)))
    (g_MOST_PLACE : PySem.W.nsIn K mainGlobals "MOST_PLACE" = some (some (.int 1000000 t_MOST_PLACE)))
    (g_MOST_SIGNED : PySem.W.nsIn K mainGlobals "MOST_SIGNED" = some (some (.int 1000000 t_MOST_SIGNED)))
    (g_gcd : PySem.W.nsIn K mainGlobals "gcd" = some (some (.builtin "math.gcd")))
    (z_abs : PySem.W.nsIn K mainGlobals "abs" = some none)
    (z_max : PySem.W.nsIn K mainGlobals "max" = some none)
    (z_min : PySem.W.nsIn K mainGlobals "min" = some none)
    (z_len : PySem.W.nsIn K mainGlobals "len" = some none)
    (z_isinstance : PySem.W.nsIn K mainGlobals "isinstance" = some none)
    (z_all : PySem.W.nsIn K mainGlobals "all" = some none)
    (z_int : PySem.W.nsIn K mainGlobals "int" = some none)
    (z_bool : PySem.W.nsIn K mainGlobals "bool" = some none)
    (z_tuple : PySem.W.nsIn K mainGlobals "tuple" = some none)
    (z_range : PySem.W.nsIn K mainGlobals "range" = some none) :
    ∃ fd : FuncData, (∀ (s : Shared) (v : Value), BindsTo s fd ⟨[v], []⟩ [("_law_script", v)]) ∧ ∀ base : Heap, K.In base → base.Ns mainGlobals mg → FnOk l.prog w K mg base CX0 8 fa fd ["_law_script"] (sp_law K) := by
  obtain ⟨tS, hS⟩ := hS
  have e := hfa.symm.trans (PySem.W.mg_of X G a_law)
  cases e
  exact ⟨(PySem.W.fnOf "law" "law" (defArgs s_law) (defBody s_law) (defScope s_law) .none kV_law dc_law pm_law an_law cd_law ct_law), fun s v => .of_eq rfl, fun base _ _ => ok_law (txt_mk X G hS a_is_whole_number l_is_whole_number c_is_whole_number k_is_whole_number a_is_integer l_is_integer c_is_integer k_is_integer a_is_ratio_any l_is_ratio_any c_is_ratio_any k_is_ratio_any a_is_number_in l_is_number_in c_is_number_in k_is_number_in a_pair_of l_pair_of c_pair_of k_pair_of a_exponent_at l_exponent_at c_exponent_at k_exponent_at a_least_divisor l_least_divisor c_least_divisor k_least_divisor a_is_prime_number l_is_prime_number c_is_prime_number k_is_prime_number a_modular_power l_modular_power c_modular_power k_modular_power a_square_sign_in l_square_sign_in c_square_sign_in k_square_sign_in a_whole_of l_whole_of c_whole_of k_whole_of a_is_square_in l_is_square_in c_is_square_in k_is_square_in a_sign_at_two l_sign_at_two c_sign_at_two k_sign_at_two a_sign_in l_sign_in c_sign_in k_sign_in a_is_place_in l_is_place_in c_is_place_in k_is_place_in a_require_place l_require_place c_require_place k_require_place a_require_signed l_require_signed c_require_signed k_require_signed a_is_square_at l_is_square_at c_is_square_at k_is_square_at a_sign_at l_sign_at c_sign_at k_sign_at a__law_dice l__law_dice c__law_dice k__law_dice a__law_roll l__law_roll c__law_roll k__law_roll a__law_one_of l__law_one_of c__law_one_of k__law_one_of a__law_power l__law_power c__law_power k__law_power a__law_gcd l__law_gcd c__law_gcd k__law_gcd a__law_lowest l__law_lowest c__law_lowest k__law_lowest a__law_exponent l__law_exponent c__law_exponent k__law_exponent a__law_sign l__law_sign c__law_sign k__law_sign a__law_is_square l__law_is_square c__law_is_square k__law_is_square a__law_drawn l__law_drawn c__law_drawn k__law_drawn a__law_integer l__law_integer c__law_integer k__law_integer a__law_small l__law_small c__law_small k__law_small a__law_has_solution l__law_has_solution c__law_has_solution k__law_has_solution a__law_is_prime l__law_is_prime c__law_is_prime k__law_is_prime a__law_place_drawn l__law_place_drawn c__law_place_drawn k__law_place_drawn a__law_times l__law_times c__law_times k__law_times a__law_rules_right l__law_rules_right c__law_rules_right k__law_rules_right a__law_right l__law_right c__law_right k__law_right a_law l_law c_law k_law g_PAIR g_MOST_PLACE g_MOST_SIGNED g_gcd z_abs z_max z_min z_len z_isinstance z_all z_int z_bool z_tuple z_range)⟩

end K86
open PySem PySem.W PyProof.Rows
set_option maxHeartbeats 0 in
theorem PySem.Challenge.cw_wildsteps_k86_whole_signs_by_solutions_m_holds : PySem.Challenge.rw_wildsteps_k86_whole_signs_by_solutions_m.Holds := by
  w_on; o_law; k_head; (case hw => w_witness2)
  k_fill
  refine K86.walk_loose (law := PySem.Challenge.rw_wildsteps_k86_whole_signs_by_solutions_m) (top := 63) (lev := 8) (arg := "_law_script") (prom := fun w => K86.sp_law _) rfl (by decide) rfl ⟨rfl, by decide, by decide⟩ (fun w h Y => PySem.W.kIn_of Y) ?F fun _ _ a ns hl _ hS => ⟨a, ns, rfl, hS, hl, fun _ => rfl⟩
  case F =>
    intro w mg fa h KX G hmg hX
    have hS := K86.sixty hX (by decide +kernel)
    refine' K86.all_mk KX G hmg hS ?a_is_whole_number ?l_is_whole_number ?c_is_whole_number ?k_is_whole_number ?a_is_integer ?l_is_integer ?c_is_integer ?k_is_integer ?a_is_ratio_any ?l_is_ratio_any ?c_is_ratio_any ?k_is_ratio_any ?a_is_number_in ?l_is_number_in ?c_is_number_in ?k_is_number_in ?a_pair_of ?l_pair_of ?c_pair_of ?k_pair_of ?a_exponent_at ?l_exponent_at ?c_exponent_at ?k_exponent_at ?a_least_divisor ?l_least_divisor ?c_least_divisor ?k_least_divisor ?a_is_prime_number ?l_is_prime_number ?c_is_prime_number ?k_is_prime_number ?a_modular_power ?l_modular_power ?c_modular_power ?k_modular_power ?a_square_sign_in ?l_square_sign_in ?c_square_sign_in ?k_square_sign_in ?a_whole_of ?l_whole_of ?c_whole_of ?k_whole_of ?a_is_square_in ?l_is_square_in ?c_is_square_in ?k_is_square_in ?a_sign_at_two ?l_sign_at_two ?c_sign_at_two ?k_sign_at_two ?a_sign_in ?l_sign_in ?c_sign_in ?k_sign_in ?a_is_place_in ?l_is_place_in ?c_is_place_in ?k_is_place_in ?a_require_place ?l_require_place ?c_require_place ?k_require_place ?a_require_signed ?l_require_signed ?c_require_signed ?k_require_signed ?a_is_square_at ?l_is_square_at ?c_is_square_at ?k_is_square_at ?a_sign_at ?l_sign_at ?c_sign_at ?k_sign_at ?a__law_dice ?l__law_dice ?c__law_dice ?k__law_dice ?a__law_roll ?l__law_roll ?c__law_roll ?k__law_roll ?a__law_one_of ?l__law_one_of ?c__law_one_of ?k__law_one_of ?a__law_power ?l__law_power ?c__law_power ?k__law_power ?a__law_gcd ?l__law_gcd ?c__law_gcd ?k__law_gcd ?a__law_lowest ?l__law_lowest ?c__law_lowest ?k__law_lowest ?a__law_exponent ?l__law_exponent ?c__law_exponent ?k__law_exponent ?a__law_sign ?l__law_sign ?c__law_sign ?k__law_sign ?a__law_is_square ?l__law_is_square ?c__law_is_square ?k__law_is_square ?a__law_drawn ?l__law_drawn ?c__law_drawn ?k__law_drawn ?a__law_integer ?l__law_integer ?c__law_integer ?k__law_integer ?a__law_small ?l__law_small ?c__law_small ?k__law_small ?a__law_has_solution ?l__law_has_solution ?c__law_has_solution ?k__law_has_solution ?a__law_is_prime ?l__law_is_prime ?c__law_is_prime ?k__law_is_prime ?a__law_place_drawn ?l__law_place_drawn ?c__law_place_drawn ?k__law_place_drawn ?a__law_times ?l__law_times ?c__law_times ?k__law_times ?a__law_rules_right ?l__law_rules_right ?c__law_rules_right ?k__law_rules_right ?a__law_right ?l__law_right ?c__law_right ?k__law_right ?a_law ?l_law ?c_law ?k_law ?g_PAIR ?g_MOST_PLACE ?g_MOST_SIGNED ?g_gcd ?z_abs ?z_max ?z_min ?z_len ?z_isinstance ?z_all ?z_int ?z_bool ?z_tuple ?z_range
    (case a_is_whole_number => k_is)
    (case l_is_whole_number => k_is)
    (case c_is_whole_number => k_is)
    (case k_is_whole_number => k_is)
    (case a_is_integer => k_is)
    (case l_is_integer => k_is)
    (case c_is_integer => k_is)
    (case k_is_integer => k_is)
    (case a_is_ratio_any => k_is)
    (case l_is_ratio_any => k_is)
    (case c_is_ratio_any => k_is)
    (case k_is_ratio_any => k_is)
    (case a_is_number_in => k_is)
    (case l_is_number_in => k_is)
    (case c_is_number_in => k_is)
    (case k_is_number_in => k_is)
    (case a_pair_of => k_is)
    (case l_pair_of => k_is)
    (case c_pair_of => k_is)
    (case k_pair_of => k_is)
    (case a_exponent_at => k_is)
    (case l_exponent_at => k_is)
    (case c_exponent_at => k_is)
    (case k_exponent_at => k_is)
    (case a_least_divisor => k_is)
    (case l_least_divisor => k_is)
    (case c_least_divisor => k_is)
    (case k_least_divisor => k_is)
    (case a_is_prime_number => k_is)
    (case l_is_prime_number => k_is)
    (case c_is_prime_number => k_is)
    (case k_is_prime_number => k_is)
    (case a_modular_power => k_is)
    (case l_modular_power => k_is)
    (case c_modular_power => k_is)
    (case k_modular_power => k_is)
    (case a_square_sign_in => k_is)
    (case l_square_sign_in => k_is)
    (case c_square_sign_in => k_is)
    (case k_square_sign_in => k_is)
    (case a_whole_of => k_is)
    (case l_whole_of => k_is)
    (case c_whole_of => k_is)
    (case k_whole_of => k_is)
    (case a_is_square_in => k_is)
    (case l_is_square_in => k_is)
    (case c_is_square_in => k_is)
    (case k_is_square_in => k_is)
    (case a_sign_at_two => k_is)
    (case l_sign_at_two => k_is)
    (case c_sign_at_two => k_is)
    (case k_sign_at_two => k_is)
    (case a_sign_in => k_is)
    (case l_sign_in => k_is)
    (case c_sign_in => k_is)
    (case k_sign_in => k_is)
    (case a_is_place_in => k_is)
    (case l_is_place_in => k_is)
    (case c_is_place_in => k_is)
    (case k_is_place_in => k_is)
    (case a_require_place => k_is)
    (case l_require_place => k_is)
    (case c_require_place => k_is)
    (case k_require_place => k_is)
    (case a_require_signed => k_is)
    (case l_require_signed => k_is)
    (case c_require_signed => k_is)
    (case k_require_signed => k_is)
    (case a_is_square_at => k_is)
    (case l_is_square_at => k_is)
    (case c_is_square_at => k_is)
    (case k_is_square_at => k_is)
    (case a_sign_at => k_is)
    (case l_sign_at => k_is)
    (case c_sign_at => k_is)
    (case k_sign_at => k_is)
    (case a__law_dice => k_is)
    (case l__law_dice => k_is)
    (case c__law_dice => k_is)
    (case k__law_dice => k_is)
    (case a__law_roll => k_is)
    (case l__law_roll => k_is)
    (case c__law_roll => k_is)
    (case k__law_roll => k_is)
    (case a__law_one_of => k_is)
    (case l__law_one_of => k_is)
    (case c__law_one_of => k_is)
    (case k__law_one_of => k_is)
    (case a__law_power => k_is)
    (case l__law_power => k_is)
    (case c__law_power => k_is)
    (case k__law_power => k_is)
    (case a__law_gcd => k_is)
    (case l__law_gcd => k_is)
    (case c__law_gcd => k_is)
    (case k__law_gcd => k_is)
    (case a__law_lowest => k_is)
    (case l__law_lowest => k_is)
    (case c__law_lowest => k_is)
    (case k__law_lowest => k_is)
    (case a__law_exponent => k_is)
    (case l__law_exponent => k_is)
    (case c__law_exponent => k_is)
    (case k__law_exponent => k_is)
    (case a__law_sign => k_is)
    (case l__law_sign => k_is)
    (case c__law_sign => k_is)
    (case k__law_sign => k_is)
    (case a__law_is_square => k_is)
    (case l__law_is_square => k_is)
    (case c__law_is_square => k_is)
    (case k__law_is_square => k_is)
    (case a__law_drawn => k_is)
    (case l__law_drawn => k_is)
    (case c__law_drawn => k_is)
    (case k__law_drawn => k_is)
    (case a__law_integer => k_is)
    (case l__law_integer => k_is)
    (case c__law_integer => k_is)
    (case k__law_integer => k_is)
    (case a__law_small => k_is)
    (case l__law_small => k_is)
    (case c__law_small => k_is)
    (case k__law_small => k_is)
    (case a__law_has_solution => k_is)
    (case l__law_has_solution => k_is)
    (case c__law_has_solution => k_is)
    (case k__law_has_solution => k_is)
    (case a__law_is_prime => k_is)
    (case l__law_is_prime => k_is)
    (case c__law_is_prime => k_is)
    (case k__law_is_prime => k_is)
    (case a__law_place_drawn => k_is)
    (case l__law_place_drawn => k_is)
    (case c__law_place_drawn => k_is)
    (case k__law_place_drawn => k_is)
    (case a__law_times => k_is)
    (case l__law_times => k_is)
    (case c__law_times => k_is)
    (case k__law_times => k_is)
    (case a__law_rules_right => k_is)
    (case l__law_rules_right => k_is)
    (case c__law_rules_right => k_is)
    (case k__law_rules_right => k_is)
    (case a__law_right => k_is)
    (case l__law_right => k_is)
    (case c__law_right => k_is)
    (case k__law_right => k_is)
    (case a_law => k_is)
    (case l_law => k_is)
    (case c_law => k_is)
    (case k_law => k_is)
    (case g_PAIR => k_is)
    (case g_MOST_PLACE => k_is)
    (case g_MOST_SIGNED => k_is)
    (case g_gcd => k_is)
    (case z_abs => k_is)
    (case z_max => k_is)
    (case z_min => k_is)
    (case z_len => k_is)
    (case z_isinstance => k_is)
    (case z_all => k_is)
    (case z_int => k_is)
    (case z_bool => k_is)
    (case z_tuple => k_is)
    (case z_range => k_is)
