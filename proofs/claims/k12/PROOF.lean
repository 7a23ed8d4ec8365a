import PyProof.Rows.All
import Wide.All
import OpenK.AllK
import Wide.FinOn
import HandS.ForMost
import HandS.Wide
import HandS.Gcd
import HandS.IsInst
import HandS.TupAny
import HandS.TupMul
import HandS.Zip
import HandS.Walk
import HandS.Flow
import KE.GoesEnum
import KE.KRevSl
import PySem.Challenge.RW_blendcurves_k12_whole_values_of_rows
set_option Elab.async false
set_option linter.all false
section
namespace BZ
/-! ### ratios -/
theorem den_pos (q : Rat) : (0 : Int) < (q.den : Int) := Int.natCast_pos.mpr q.den_pos
theorem cast_ne {d : Int} (h : d ≠ 0) : (d : Rat) ≠ 0 := by
  intro e
  exact h (by exact_mod_cast e)
theorem rat_eq (q : Rat) : q = (q.num : Rat) / ((q.den : Int) : Rat) := by
  have h := Rat.num_divInt_den q
  rw [Rat.divInt_eq_div] at h
  exact h.symm
/-- the ratio that «made» makes -/
def mk (n d : Int) : Rat := Rat.divInt n d
theorem mk_num {n d : Int} (h : 0 < d) : (mk n d).num = n / ((Nat.gcd n.natAbs d.natAbs : Nat) : Int) := by
  unfold mk
  rw [Rat.num_divInt, Int.sign_eq_one_of_pos h, Int.one_mul]
  unfold Int.gcd
  rw [Nat.gcd_comm]
theorem mk_den {n d : Int} (h : 0 < d) : ((mk n d).den : Int) = d / ((Nat.gcd n.natAbs d.natAbs : Nat) : Int) := by
  unfold mk
  rw [Rat.den_divInt]
  rw [if_neg (by omega)]
  unfold Int.gcd
  rw [Nat.gcd_comm, Int.natCast_ediv]
  congr 1
  omega
theorem mk_val (n d : Int) : mk n d = (n : Rat) / (d : Rat) := Rat.divInt_eq_div n d
theorem mk_self (q : Rat) : mk q.num q.den = q := Rat.num_divInt_den q
theorem add_mk (q r : Rat) : mk (q.num * (r.den : Int) + r.num * (q.den : Int)) ((q.den : Int) * (r.den : Int)) = q + r := by
  have h1 := den_pos q
  have h2 := den_pos r
  have n1 : ((q.den : Int) : Rat) ≠ 0 := cast_ne (by omega)
  have n2 : ((r.den : Int) : Rat) ≠ 0 := cast_ne (by omega)
  rw [mk_val, Rat.intCast_add, Rat.intCast_mul, Rat.intCast_mul, Rat.intCast_mul]
  have e1 := rat_eq q
  have e2 := rat_eq r
  generalize (q.num : Rat) = a at *
  generalize ((q.den : Int) : Rat) = b at *
  generalize (r.num : Rat) = c at *
  generalize ((r.den : Int) : Rat) = d at *
  subst e1 e2
  grind
theorem sub_mk (q r : Rat) : mk (q.num * (r.den : Int) - r.num * (q.den : Int)) ((q.den : Int) * (r.den : Int)) = q - r := by
  have h1 := den_pos q
  have h2 := den_pos r
  have n1 : ((q.den : Int) : Rat) ≠ 0 := cast_ne (by omega)
  have n2 : ((r.den : Int) : Rat) ≠ 0 := cast_ne (by omega)
  rw [mk_val, Rat.intCast_sub, Rat.intCast_mul, Rat.intCast_mul, Rat.intCast_mul]
  have e1 := rat_eq q
  have e2 := rat_eq r
  generalize (q.num : Rat) = a at *
  generalize ((q.den : Int) : Rat) = b at *
  generalize (r.num : Rat) = c at *
  generalize ((r.den : Int) : Rat) = d at *
  subst e1 e2
  grind
theorem mul_mk (q r : Rat) : mk (q.num * r.num) ((q.den : Int) * (r.den : Int)) = q * r := by
  have h1 := den_pos q
  have h2 := den_pos r
  have n1 : ((q.den : Int) : Rat) ≠ 0 := cast_ne (by omega)
  have n2 : ((r.den : Int) : Rat) ≠ 0 := cast_ne (by omega)
  rw [mk_val, Rat.intCast_mul, Rat.intCast_mul]
  have e1 := rat_eq q
  have e2 := rat_eq r
  generalize (q.num : Rat) = a at *
  generalize ((q.den : Int) : Rat) = b at *
  generalize (r.num : Rat) = c at *
  generalize ((r.den : Int) : Rat) = d at *
  subst e1 e2
  grind
theorem lt_mk (q r : Rat) : q.num * (r.den : Int) < r.num * (q.den : Int) ↔ q < r := (Rat.lt_iff q r).symm

/-! ### sizes: the numerator at most 2 ^ a, the denominator at most 2 ^ b -/
def Sz (a b : Nat) (q : Rat) : Prop := q.num.natAbs ≤ 2 ^ a ∧ q.den ≤ 2 ^ b
theorem Sz.mono {a b a' b' : Nat} {q : Rat} (h : Sz a b q) (ha : a ≤ a') (hb : b ≤ b') : Sz a' b' q :=
  ⟨Nat.le_trans h.1 (Nat.pow_le_pow_right (by decide) ha), Nat.le_trans h.2 (Nat.pow_le_pow_right (by decide) hb)⟩
theorem mk_sz {n d : Int} {a b : Nat} (hd : 0 < d) (h1 : n.natAbs ≤ 2 ^ a) (h2 : d.natAbs ≤ 2 ^ b) : Sz a b (mk n d) := by
  have gp : 0 < Nat.gcd n.natAbs d.natAbs := Nat.gcd_pos_of_pos_right _ (by omega)
  constructor
  · rw [mk_num hd, Int.natAbs_ediv_of_dvd (Int.ofNat_dvd_left.mpr (Nat.gcd_dvd_left _ _))]
    exact Nat.le_trans (Nat.div_le_self _ _) h1
  · have e : ((mk n d).den : Int).natAbs = d.natAbs / Nat.gcd n.natAbs d.natAbs := by
      rw [mk_den hd, Int.natAbs_ediv_of_dvd (Int.ofNat_dvd_left.mpr (Nat.gcd_dvd_right _ _))]
      rfl
    have e2 : (mk n d).den = d.natAbs / Nat.gcd n.natAbs d.natAbs := by
      rw [← e]
      rfl
    rw [e2]
    exact Nat.le_trans (Nat.div_le_self _ _) h2
theorem pow_mul_le {x y a b : Nat} (h1 : x ≤ 2 ^ a) (h2 : y ≤ 2 ^ b) : x * y ≤ 2 ^ (a + b) := by
  rw [Nat.pow_add]
  exact Nat.mul_le_mul h1 h2
theorem top_add {q r : Rat} {a b a' b' : Nat} (h : Sz a b q) (h' : Sz a' b' r) :
    (q.num * (r.den : Int) + r.num * (q.den : Int)).natAbs ≤ 2 ^ (max (a + b') (a' + b) + 1) := by
  have k1 : (q.num * (r.den : Int)).natAbs ≤ 2 ^ (a + b') := by
    rw [Int.natAbs_mul]
    exact pow_mul_le h.1 h'.2
  have k2 : (r.num * (q.den : Int)).natAbs ≤ 2 ^ (a' + b) := by
    rw [Int.natAbs_mul]
    exact pow_mul_le h'.1 h.2
  have m1 : 2 ^ (a + b') ≤ 2 ^ (max (a + b') (a' + b)) := Nat.pow_le_pow_right (by decide) (Nat.le_max_left _ _)
  have m2 : 2 ^ (a' + b) ≤ 2 ^ (max (a + b') (a' + b)) := Nat.pow_le_pow_right (by decide) (Nat.le_max_right _ _)
  rw [Nat.pow_succ]
  have t := Int.natAbs_add_le (q.num * (r.den : Int)) (r.num * (q.den : Int))
  omega
theorem top_sub {q r : Rat} {a b a' b' : Nat} (h : Sz a b q) (h' : Sz a' b' r) :
    (q.num * (r.den : Int) - r.num * (q.den : Int)).natAbs ≤ 2 ^ (max (a + b') (a' + b) + 1) := by
  have k1 : (q.num * (r.den : Int)).natAbs ≤ 2 ^ (a + b') := by
    rw [Int.natAbs_mul]
    exact pow_mul_le h.1 h'.2
  have k2 : (r.num * (q.den : Int)).natAbs ≤ 2 ^ (a' + b) := by
    rw [Int.natAbs_mul]
    exact pow_mul_le h'.1 h.2
  have m1 : 2 ^ (a + b') ≤ 2 ^ (max (a + b') (a' + b)) := Nat.pow_le_pow_right (by decide) (Nat.le_max_left _ _)
  have m2 : 2 ^ (a' + b) ≤ 2 ^ (max (a + b') (a' + b)) := Nat.pow_le_pow_right (by decide) (Nat.le_max_right _ _)
  rw [Nat.pow_succ]
  have t := Int.natAbs_sub_le (q.num * (r.den : Int)) (r.num * (q.den : Int))
  omega
theorem top_mul {q r : Rat} {a b a' b' : Nat} (h : Sz a b q) (h' : Sz a' b' r) : (q.num * r.num).natAbs ≤ 2 ^ (a + a') := by
  rw [Int.natAbs_mul]
  exact pow_mul_le h.1 h'.1
theorem low_mul {q r : Rat} {a b a' b' : Nat} (h : Sz a b q) (h' : Sz a' b' r) : ((q.den : Int) * (r.den : Int)).natAbs ≤ 2 ^ (b + b') := by
  rw [Int.natAbs_mul]
  exact pow_mul_le h.2 h'.2
theorem low_pos (q r : Rat) : (0 : Int) < (q.den : Int) * (r.den : Int) := Int.mul_pos (den_pos q) (den_pos r)
theorem Sz.add {q r : Rat} {a b a' b' : Nat} (h : Sz a b q) (h' : Sz a' b' r) : Sz (max (a + b') (a' + b) + 1) (b + b') (q + r) := by
  rw [← add_mk]
  exact mk_sz (low_pos q r) (top_add h h') (low_mul h h')
theorem Sz.sub {q r : Rat} {a b a' b' : Nat} (h : Sz a b q) (h' : Sz a' b' r) : Sz (max (a + b') (a' + b) + 1) (b + b') (q - r) := by
  rw [← sub_mk]
  exact mk_sz (low_pos q r) (top_sub h h') (low_mul h h')
theorem Sz.mul {q r : Rat} {a b a' b' : Nat} (h : Sz a b q) (h' : Sz a' b' r) : Sz (a + a') (b + b') (q * r) := by
  rw [← mul_mk]
  exact mk_sz (low_pos q r) (top_mul h h') (low_mul h h')
theorem lt_of_le_pow {x a c : Nat} (h : x ≤ 2 ^ a) (hc : a < c) : x < 2 ^ c :=
  Nat.lt_of_le_of_lt h (Nat.pow_lt_pow_right (by decide) hc)

/-! ### Euclid's turns -/
/-- what the loop of the law's own «made» holds after some turns -/
def euc : Nat → Nat → Nat → Nat × Nat
  | 0, a, b => (a, b)
  | n + 1, a, b => if b = 0 then (a, b) else euc n b (a % b)
theorem euc_gcd : ∀ (k n a b : Nat), b < 2 ^ k → 2 * k + 1 ≤ n → euc n a b = (Nat.gcd a b, 0)
  | _, 0, _, _, _, h => by omega
  | k, n + 1, a, b, hb, h => by
    unfold euc
    by_cases e : b = 0
    · rw [if_pos e, e, Nat.gcd_zero_right]
    · rw [if_neg e]
      cases k with
      | zero =>
        exfalso
        rw [Nat.pow_zero] at hb
        omega
      | succ k =>
        have hr : a % b < b := Nat.mod_lt _ (by omega)
        have g1 : Nat.gcd b (a % b) = Nat.gcd a b := by
          rw [Nat.gcd_comm b (a % b), ← Nat.gcd_rec, Nat.gcd_comm]
        rw [← g1]
        cases n with
        | zero => omega
        | succ n =>
          unfold euc
          by_cases e2 : a % b = 0
          · rw [if_pos e2, e2, Nat.gcd_zero_right]
          · rw [if_neg e2]
            have g2 : Nat.gcd (a % b) (b % (a % b)) = Nat.gcd b (a % b) := by
              rw [Nat.gcd_comm (a % b), ← Nat.gcd_rec, Nat.gcd_comm]
            rw [← g2]
            have hr2 : b % (a % b) < 2 ^ k := by
              rw [Nat.pow_succ] at hb
              have q1 : b % (a % b) < a % b := Nat.mod_lt _ (by omega)
              have q2 : b % (a % b) + (a % b) ≤ b := by
                have z := Nat.div_add_mod b (a % b)
                have z2 : 1 ≤ b / (a % b) := (Nat.one_le_div_iff (by omega)).mpr (by omega)
                have z3 : a % b * 1 ≤ a % b * (b / (a % b)) := Nat.mul_le_mul_left _ z2
                omega
              omega
            exact euc_gcd k n _ _ hr2 (by omega)

/-! ### polynomials as lists of ratios -/
def ev : List Rat → Rat → Rat
  | [], _ => 0
  | c :: p, x => ev p x * x + c
theorem ev_append : ∀ (p : List Rat) (c x : Rat), ev (p ++ [c]) x = ev p x + c * x ^ p.length
  | [], c, x => by
    show 0 * x + c = 0 + c * x ^ 0
    grind
  | a :: p, c, x => by
    show ev (p ++ [c]) x * x + a = (ev p x * x + a) + c * x ^ (p.length + 1)
    rw [ev_append p c x]
    grind
theorem ev_drop_zero {p : List Rat} (h : p.getLast? = some 0) (x : Rat) : ev p.dropLast x = ev p x := by
  obtain ⟨q, rfl⟩ : ∃ q, p = q ++ [0] := by
    cases hp : p with
    | nil =>
      rw [hp] at h
      cases h
    | cons a r =>
      refine ⟨p.dropLast, ?_⟩
      rw [← hp]
      have hne : p ≠ [] := by
        rw [hp]
        exact List.cons_ne_nil _ _
      rw [List.getLast?_eq_some_getLast hne] at h
      have e := Option.some.inj h
      have e2 := List.dropLast_concat_getLast hne
      rw [e] at e2
      exact e2.symm
  rw [List.dropLast_concat, ev_append]
  grind
theorem ev_zeros : ∀ (n : Nat) (x : Rat), ev (List.replicate n 0) x = 0
  | 0, _ => rfl
  | n + 1, x => by
    show ev (List.replicate n 0) x * x + 0 = 0
    rw [ev_zeros n x]
    grind
theorem ev_pad : ∀ (p : List Rat) (n : Nat) (x : Rat), ev (p ++ List.replicate n 0) x = ev p x
  | [], n, x => ev_zeros n x
  | a :: p, n, x => by
    show ev (p ++ List.replicate n 0) x * x + a = ev p x * x + a
    rw [ev_pad p n x]
theorem ev_zip : ∀ (p q : List Rat) (x : Rat), p.length = q.length → ev (List.zipWith (fun a b => a + b) p q) x = ev p x + ev q x
  | [], [], x, _ => by
    show (0 : Rat) = 0 + 0
    grind
  | [], _ :: _, _, h => by simp at h
  | _ :: _, [], _, h => by simp at h
  | a :: p, b :: q, x, h => by
    show ev (List.zipWith (fun a b => a + b) p q) x * x + (a + b) = (ev p x * x + a) + (ev q x * x + b)
    rw [ev_zip p q x (by simpa using h)]
    grind
theorem ev_scale : ∀ (p : List Rat) (c x : Rat), ev (p.map (fun a => a * c)) x = ev p x * c
  | [], c, x => by
    show (0 : Rat) = 0 * c
    grind
  | a :: p, c, x => by
    show ev (p.map (fun a => a * c)) x * x + a * c = (ev p x * x + a) * c
    rw [ev_scale p c x]
    grind
theorem ev_set : ∀ (p : List Rat) (i : Nat) (a b x : Rat), p[i]? = some a → ev (p.set i (a + b)) x = ev p x + b * x ^ i
  | [], _, _, _, _, h => by simp at h
  | c :: p, 0, a, b, x, h => by
    have e : c = a := Option.some.inj h
    subst e
    show ev p x * x + (c + b) = (ev p x * x + c) + b * x ^ 0
    grind
  | c :: p, i + 1, a, b, x, h => by
    have h2 : p[i]? = some a := h
    show ev (p.set i (a + b)) x * x + c = (ev p x * x + c) + b * x ^ (i + 1)
    rw [ev_set p i a b x h2]
    grind
theorem ev_take_succ {p : List Rat} {i : Nat} {a : Rat} (h : p[i]? = some a) (x : Rat) : ev (p.take (i + 1)) x = ev (p.take i) x + a * x ^ i := by
  have hl : i < p.length := (List.getElem?_eq_some_iff.mp h).1
  rw [List.take_add_one, h]
  show ev (p.take i ++ [a]) x = _
  rw [ev_append, List.length_take, Nat.min_eq_left (by omega)]
/-- Horner's turns: from the end -/
theorem ev_drop {p : List Rat} {i : Nat} {a : Rat} (h : p[i]? = some a) (x : Rat) : ev (p.drop i) x = ev (p.drop (i + 1)) x * x + a := by
  have hl : i < p.length := (List.getElem?_eq_some_iff.mp h).1
  have e : p[i] = a := (List.getElem?_eq_some_iff.mp h).2
  rw [List.drop_eq_getElem_cons hl, e]
  rfl

/-! ### de Casteljau's averages -/
def stepL (t : Rat) : List Rat → List Rat
  | a :: b :: r => (a + t * (b - a)) :: stepL t (b :: r)
  | _ => []
theorem stepL_len (t : Rat) : ∀ qs : List Rat, (stepL t qs).length = qs.length - 1
  | [] => rfl
  | [_] => rfl
  | a :: b :: r => by
    show (stepL t (b :: r)).length + 1 = r.length + 1 + 1 - 1
    rw [stepL_len t (b :: r)]
    show r.length + 1 - 1 + 1 = r.length + 1 + 1 - 1
    omega
theorem stepL_get (t : Rat) : ∀ (qs : List Rat) (i : Nat) (a b : Rat), qs[i]? = some a → qs[i + 1]? = some b → (stepL t qs)[i]? = some (a + t * (b - a))
  | [], _, _, _, h, _ => by simp at h
  | [_], 0, _, _, _, h => by simp at h
  | [_], i + 1, _, _, h, _ => by simp at h
  | c :: d :: r, 0, a, b, h, h2 => by
    have e1 : c = a := Option.some.inj h
    have e2 : d = b := Option.some.inj h2
    subst e1 e2
    rfl
  | c :: d :: r, i + 1, a, b, h, h2 => stepL_get t (d :: r) i a b h h2
def dcn (t : Rat) : Nat → List Rat → Rat
  | 0, qs => qs.headD 0
  | n + 1, qs => dcn t n (stepL t qs)
def dc (t : Rat) (qs : List Rat) : Rat := dcn t (qs.length - 1) qs
theorem dc_one (t a : Rat) : dc t [a] = a := rfl
theorem dc_step (t : Rat) {qs : List Rat} (h : 1 < qs.length) : dc t (stepL t qs) = dc t qs := by
  unfold dc
  rw [stepL_len]
  obtain ⟨n, e⟩ : ∃ n, qs.length = n + 2 := ⟨qs.length - 2, by omega⟩
  rw [e]
  rfl
/-- sizes of a row's averages -/
theorem stepL_mem (t : Rat) (P : Rat → Prop) (Q : Rat → Prop) (h : ∀ a b, P a → P b → Q (a + t * (b - a))) : ∀ qs : List Rat, (∀ q ∈ qs, P q) → ∀ q ∈ stepL t qs, Q q
  | [], _, q, hq => by cases hq
  | [_], _, q, hq => by cases hq
  | a :: b :: r, hp, q, hq => by
    have ha : P a := hp a List.mem_cons_self
    have hb : P b := hp b (List.mem_cons_of_mem _ List.mem_cons_self)
    rcases List.mem_cons.mp hq with e | hq
    · rw [e]
      exact h a b ha hb
    · exact stepL_mem t P Q h (b :: r) (fun z hz => hp z (List.mem_cons_of_mem _ hz)) q hq
theorem dcn_mem (t : Rat) (P : Rat → Prop) (h : ∀ a b, P a → P b → P (a + t * (b - a))) : ∀ (n : Nat) (qs : List Rat), qs.length = n + 1 → (∀ q ∈ qs, P q) → P (dcn t n qs)
  | 0, qs, hl, hp => by
    cases qs with
    | nil => simp at hl
    | cons a r => exact hp a List.mem_cons_self
  | n + 1, qs, hl, hp => dcn_mem t P h n (stepL t qs) (by rw [stepL_len]; omega) (stepL_mem t P P h qs hp)
theorem dc_mem {t : Rat} {P : Rat → Prop} (h : ∀ a b, P a → P b → P (a + t * (b - a))) {qs : List Rat} (hl : 0 < qs.length) (hp : ∀ q ∈ qs, P q) : P (dc t qs) := by
  unfold dc
  exact dcn_mem t P h (qs.length - 1) qs (by omega) hp
/-- between the least and the greatest -/
theorem mix_gt {t a b v : Rat} (h0 : 0 ≤ t) (h1 : t ≤ 1) (ha : v < a) (hb : v < b) : v < a + t * (b - a) := by
  by_cases hab : a ≤ b
  · have z : 0 ≤ t * (b - a) := Rat.mul_nonneg h0 (by grind)
    grind
  · have z : 0 ≤ (1 - t) * (a - b) := Rat.mul_nonneg (by grind) (by grind)
    grind
theorem mix_lt {t a b v : Rat} (h0 : 0 ≤ t) (h1 : t ≤ 1) (ha : a < v) (hb : b < v) : a + t * (b - a) < v := by
  by_cases hab : a ≤ b
  · have z : 0 ≤ (1 - t) * (b - a) := Rat.mul_nonneg (by grind) (by grind)
    grind
  · have z : 0 ≤ t * (a - b) := Rat.mul_nonneg h0 (by grind)
    grind
theorem dc_low {t : Rat} (h0 : 0 ≤ t) (h1 : t ≤ 1) {qs : List Rat} (hl : 0 < qs.length) : ∃ q ∈ qs, ¬ dc t qs < q := by
  by_cases h : ∃ q ∈ qs, ¬ dc t qs < q
  · exact h
  · exfalso
    have hp : ∀ q ∈ qs, dc t qs < q := fun q hq => by
      by_cases z : dc t qs < q
      · exact z
      · exact absurd ⟨q, hq, z⟩ h
    have z := dc_mem (t := t) (P := fun q => dc t qs < q) (fun a b ha hb => mix_gt h0 h1 ha hb) hl hp
    exact absurd z (Rat.lt_irrefl)
theorem dc_high {t : Rat} (h0 : 0 ≤ t) (h1 : t ≤ 1) {qs : List Rat} (hl : 0 < qs.length) : ∃ q ∈ qs, ¬ q < dc t qs := by
  by_cases h : ∃ q ∈ qs, ¬ q < dc t qs
  · exact h
  · exfalso
    have hp : ∀ q ∈ qs, q < dc t qs := fun q hq => by
      by_cases z : q < dc t qs
      · exact z
      · exact absurd ⟨q, hq, z⟩ h
    have z := dc_mem (t := t) (P := fun q => q < dc t qs) (fun a b ha hb => mix_lt h0 h1 ha hb) hl hp
    exact absurd z (Rat.lt_irrefl)
/-- both ends -/
theorem dcn_zero : ∀ (n : Nat) (a : Rat) (r : List Rat), r.length = n → dcn 0 n (a :: r) = a
  | 0, a, r, _ => rfl
  | n + 1, a, [], h => by simp at h
  | n + 1, a, b :: r, h => by
    show dcn 0 n ((a + 0 * (b - a)) :: stepL 0 (b :: r)) = a
    rw [dcn_zero n _ _ (by rw [stepL_len]; simpa using h)]
    grind
theorem dc_zero (a : Rat) (r : List Rat) : dc 0 (a :: r) = a := dcn_zero r.length a r rfl
theorem stepL_last (a b : Rat) : ∀ (r : List Rat), (stepL 1 (a :: b :: r)).getLast? = (a :: b :: r).getLast?
  | [] => by
    show some (a + 1 * (b - a)) = some b
    congr 1
    grind
  | c :: r => by
    show ((a + 1 * (b - a)) :: stepL 1 (b :: c :: r)).getLast? = _
    have e : ∃ x y, stepL 1 (b :: c :: r) = x :: y := ⟨_, _, rfl⟩
    obtain ⟨x, y, e⟩ := e
    have ih := stepL_last b c r
    rw [e] at ih
    rw [e, List.getLast?_cons_cons, ih]
    rfl
theorem dcn_last : ∀ (n : Nat) (qs : List Rat) (z : Rat), qs.length = n + 1 → qs.getLast? = some z → dcn 1 n qs = z
  | 0, [a], z, _, h => Option.some.inj h
  | 0, [], _, h, _ => by simp at h
  | 0, _ :: _ :: _, _, h, _ => by simp at h
  | n + 1, [], _, h, _ => by simp at h
  | n + 1, [_], _, h, _ => by simp at h
  | n + 1, a :: b :: r, z, hl, h => dcn_last n (stepL 1 (a :: b :: r)) z (by rw [stepL_len]; omega) (by rw [stepL_last]; exact h)
theorem dc_last {qs : List Rat} {z : Rat} (h : qs.getLast? = some z) : dc 1 qs = z := by
  have hl : 0 < qs.length := by
    cases qs with
    | nil => cases h
    | cons a r => exact Nat.succ_pos _
  exact dcn_last (qs.length - 1) qs z (by omega) h

/-! ### the law's own sum -/
/-- the loop of the law's «choose» -/
def chs (n : Nat) : Nat → Nat
  | 0 => 1
  | k + 1 => chs n k * (n - k) / (k + 1)
def bern (t : Rat) (qs : List Rat) : Nat → Rat
  | 0 => 0
  | i + 1 => bern t qs i + (t ^ i * (1 - t) ^ (qs.length - 1 - i)) * (qs.getD i 0 * (chs (qs.length - 1) i : Int))
theorem bern_dc (t : Rat) : ∀ (qs : List Rat), 0 < qs.length → qs.length ≤ 7 → bern t qs qs.length = dc t qs
  | [], h, _ => by simp at h
  | [a], _, _ => by simp [bern, dc, dcn, chs]; grind
  | [a, b], _, _ => by simp [bern, dc, dcn, chs, stepL]; grind
  | [a, b, c], _, _ => by simp [bern, dc, dcn, chs, stepL]; grind
  | [a, b, c, d], _, _ => by simp [bern, dc, dcn, chs, stepL]; grind
  | [a, b, c, d, e], _, _ => by simp [bern, dc, dcn, chs, stepL]; grind
  | [a, b, c, d, e, f], _, _ => by simp [bern, dc, dcn, chs, stepL]; grind
  | [a, b, c, d, e, f, g], _, _ => by simp [bern, dc, dcn, chs, stepL]; grind
  | _ :: _ :: _ :: _ :: _ :: _ :: _ :: _ :: _, _, h => by simp at h
end BZ
end
section
set_option maxRecDepth 100000
namespace BZ
open PySem PySem.Spec PyProof.Rows L2
/-! ### the text -/
def topS (i : Nat) : Stmt := PySem.Challenge.pw_blendcurves_k12_whole_values_of_rows.main.body.getD i (.Pass ⟨0, 0, 0, 0⟩)
abbrev sIsInt : Stmt := topS 6
abbrev sIsRatio : Stmt := topS 7
abbrev sNeedRatio : Stmt := topS 8
abbrev sMade : Stmt := topS 9
abbrev sPlus : Stmt := topS 10
abbrev sLess : Stmt := topS 11
abbrev sTimes : Stmt := topS 12
abbrev sBetween : Stmt := topS 13
abbrev sNeedRow : Stmt := topS 16
abbrev sLadder : Stmt := topS 17
abbrev sRowValue : Stmt := topS 18
abbrev sTaken : Stmt := topS 20
abbrev sPick : Stmt := topS 21
abbrev sAlike : Stmt := topS 22
abbrev sLMade : Stmt := topS 23
abbrev sLPlus : Stmt := topS 24
abbrev sLTimes : Stmt := topS 25
abbrev sLBelow : Stmt := topS 26
abbrev sDraw : Stmt := topS 27
abbrev sTrim : Stmt := topS 28
abbrev sAt : Stmt := topS 29
abbrev sPPlus : Stmt := topS 30
abbrev sPTimes : Stmt := topS 31
abbrev sScaled : Stmt := topS 32
abbrev sChoose : Stmt := topS 33
abbrev sRow : Stmt := topS 34
abbrev sUnit : Stmt := topS 35
abbrev sLaw : Stmt := topS 36
/-! ### what stands in a heap -/
theorem sameT {K : PySem.W.Frag} {H H' : Hp} {a : Addr} {xs : List V} (e : Same H H') (h : SqT K H a xs) : SqT K H' a xs := by
  rcases h with (h | ⟨o, h⟩) | h
  · exact Or.inl (Or.inl (e a _ h))
  · exact Or.inl (Or.inr ⟨o, e a _ h⟩)
  · exact Or.inr h
theorem same_new {H : Hp} {p : Addr} {o : HO} (h : H p = none) : Same H (upd H p o) := by
  intro b x e
  rw [upd_ne (ne_of_none e h)]
  exact e
theorem newT {K : PySem.W.Frag} {H : Hp} {p : Addr} {xs : List V} : SqT K (upd H p (.tup xs)) p xs := SqT.of upd_same
theorem newL {K : PySem.W.Frag} {H : Hp} {p : Addr} {xs : List V} : SqL K (upd H p (.lst xs)) p xs := SqL.of upd_same
/-- all but the object at s is as it was -/
def But (s : Addr) (H H' : Hp) : Prop := ∀ b o, b ≠ s → H b = some o → H' b = some o
theorem But.refl (s : Addr) (H : Hp) : But s H H := fun _ _ _ h => h
theorem But.trans {s : Addr} {H H1 H2 : Hp} (a : But s H H1) (b : But s H1 H2) : But s H H2 := fun c o n h => b c o n (a c o n h)
theorem Same.but {s : Addr} {H H' : Hp} (h : Same H H') : But s H H' := fun b o _ e => h b o e
theorem But.upd_self {s : Addr} {H : Hp} {o : HO} : But s H (upd H s o) := fun b x n e => by
  rw [upd_ne n]
  exact e
theorem But.tup {K : PySem.W.Frag} {s : Addr} {H H' : Hp} {a : Addr} {xs ys : List V} (e : But s H H') (hs : H s = some (.lst ys)) (h : SqT K H a xs) : SqT K H' a xs := by
  rcases h with (h | ⟨o, h⟩) | h
  · exact Or.inl (Or.inl (e a _ (ne_of h hs (fun q => nomatch q)) h))
  · exact Or.inl (Or.inr ⟨o, e a _ (ne_of h hs (fun q => nomatch q)) h⟩)
  · exact Or.inr h
/-- the script behind a store into the law's own state -/
theorem But.script {K : PySem.W.Frag} {s : Addr} {H H' : Hp} {a z : Addr} {ns : List Int} {ys : List V} (e : But s H H') (hs : H s = some (.lst (.ref z :: ys))) (h : SqL K H a (ns.map V.int)) : SqL K H' a (ns.map V.int) := by
  have hd : (HO.lst (ns.map V.int)) ≠ HO.lst (.ref z :: ys) := by
    intro q
    have q2 := HO.lst.inj q
    cases ns with
    | nil => cases q2
    | cons n r => cases q2
  rcases h with (h | ⟨o, h⟩) | h
  · exact Or.inl (Or.inl (e a _ (ne_of h hs hd) h))
  · exact Or.inl (Or.inr ⟨o, e a _ (ne_of h hs (fun q => nomatch q)) h⟩)
  · exact Or.inr h
/-! ### ratios in a heap -/
def RV (K : PySem.W.Frag) (H : Hp) (v : V) (q : Rat) : Prop := ∃ a, v = .ref a ∧ SqT K H a [.int q.num, .int (q.den : Int)]
theorem RV.same {K : PySem.W.Frag} {H H' : Hp} {v : V} {q : Rat} (e : Same H H') (h : RV K H v q) : RV K H' v q := by
  obtain ⟨a, rfl, h⟩ := h
  exact ⟨a, rfl, sameT e h⟩
theorem RV.but {K : PySem.W.Frag} {s : Addr} {H H' : Hp} {ys : List V} {v : V} {q : Rat} (e : But s H H') (hs : H s = some (.lst ys)) (h : RV K H v q) : RV K H' v q := by
  obtain ⟨a, rfl, h⟩ := h
  exact ⟨a, rfl, e.tup hs h⟩
theorem RV.new {K : PySem.W.Frag} {H : Hp} {p : Addr} {q : Rat} {n d : Int} (e1 : n = q.num) (e2 : d = (q.den : Int)) : RV K (upd H p (.tup [.int n, .int d])) (.ref p) q := by
  subst e1 e2
  exact ⟨p, rfl, newT⟩
abbrev RVs (K : PySem.W.Frag) (H : Hp) : List V → List Rat → Prop := Paired (RV K H)
/-- a tuple, a list of ratios -/
def RT (K : PySem.W.Frag) (H : Hp) (a : Addr) (qs : List Rat) : Prop := ∃ vs, SqT K H a vs ∧ RVs K H vs qs
def RL (K : PySem.W.Frag) (H : Hp) (a : Addr) (qs : List Rat) : Prop := ∃ vs, H a = some (.lst vs) ∧ RVs K H vs qs
theorem RVs.mono {K : PySem.W.Frag} {H H' : Hp} {vs : List V} {qs : List Rat} (h : RVs K H vs qs) (f : ∀ v q, RV K H v q → RV K H' v q) : RVs K H' vs qs := Paired.mono f h
theorem RVs.same {K : PySem.W.Frag} {H H' : Hp} {vs : List V} {qs : List Rat} (e : Same H H') (h : RVs K H vs qs) : RVs K H' vs qs := Paired.mono (fun _ _ r => r.same e) h
theorem RVs.but {K : PySem.W.Frag} {s : Addr} {H H' : Hp} {ys : List V} {vs : List V} {qs : List Rat} (e : But s H H') (hs : H s = some (.lst ys)) (h : RVs K H vs qs) : RVs K H' vs qs := Paired.mono (fun _ _ r => r.but e hs) h
theorem RT.same {K : PySem.W.Frag} {H H' : Hp} {a : Addr} {qs : List Rat} (e : Same H H') (h : RT K H a qs) : RT K H' a qs := by
  obtain ⟨vs, h1, h2⟩ := h
  exact ⟨vs, sameT e h1, h2.same e⟩
theorem RT.but {K : PySem.W.Frag} {s : Addr} {H H' : Hp} {ys : List V} {a : Addr} {qs : List Rat} (e : But s H H') (hs : H s = some (.lst ys)) (h : RT K H a qs) : RT K H' a qs := by
  obtain ⟨vs, h1, h2⟩ := h
  exact ⟨vs, e.tup hs h1, h2.but e hs⟩
theorem RL.same {K : PySem.W.Frag} {H H' : Hp} {a : Addr} {qs : List Rat} (e : Same H H') (h : RL K H a qs) : RL K H' a qs := by
  obtain ⟨vs, h1, h2⟩ := h
  exact ⟨vs, e a _ h1, h2.same e⟩
/-! ### pairs of lists -/
section
variable {α β : Type} {F : α → β → Prop}
theorem pr_get : ∀ {xs : List α} {ys : List β} {i : Nat} {y : β}, Paired F xs ys → ys[i]? = some y → ∃ x, xs[i]? = some x ∧ F x y
  | _, _, _, _, .nil, e => by simp at e
  | _, _, 0, _, .cons r _, e => by
    have e2 := Option.some.inj e
    subst e2
    exact ⟨_, rfl, r⟩
  | _, _, i + 1, y, .cons _ t, e => pr_get (i := i) (y := y) t e
theorem pr_getL : ∀ {xs : List α} {ys : List β} {i : Nat} {x : α}, Paired F xs ys → xs[i]? = some x → ∃ y, ys[i]? = some y ∧ F x y
  | _, _, _, _, .nil, e => by simp at e
  | _, _, 0, _, .cons r _, e => by
    have e2 := Option.some.inj e
    subst e2
    exact ⟨_, rfl, r⟩
  | _, _, i + 1, x, .cons _ t, e => pr_getL (i := i) (x := x) t e
theorem pr_append : ∀ {xs xs' : List α} {ys ys' : List β}, Paired F xs ys → Paired F xs' ys' → Paired F (xs ++ xs') (ys ++ ys')
  | _, _, _, _, .nil, h => h
  | _, _, _, _, .cons r t, h => .cons r (pr_append t h)
theorem pr_set {x : α} {y : β} (r : F x y) : ∀ {xs : List α} {ys : List β} (i : Nat), Paired F xs ys → Paired F (xs.set i x) (ys.set i y)
  | _, _, _, .nil => .nil
  | _, _, 0, .cons _ t => .cons r t
  | _, _, i + 1, .cons q t => .cons q (pr_set r i t)
theorem pr_take : ∀ {xs : List α} {ys : List β} (n : Nat), Paired F xs ys → Paired F (xs.take n) (ys.take n)
  | _, _, 0, _ => by
    rw [List.take_zero, List.take_zero]
    exact .nil
  | _, _, _ + 1, .nil => .nil
  | _, _, n + 1, .cons r t => .cons r (pr_take n t)
theorem pr_rep {x : α} {y : β} (r : F x y) : ∀ n : Nat, Paired F (List.replicate n x) (List.replicate n y)
  | 0 => .nil
  | n + 1 => .cons r (pr_rep r n)
theorem pr_rev {xs : List α} {ys : List β} (h : Paired F xs ys) : Paired F xs.reverse ys.reverse := by
  induction h with
  | nil => exact .nil
  | cons r t ih =>
    rw [List.reverse_cons, List.reverse_cons]
    exact pr_append ih (.cons r .nil)
end
theorem len_small {n : Nat} (h : n ≤ 1000) : n ≤ sizeLine := Nat.le_of_lt (small1000 h)
end BZ
end
section
set_option maxRecDepth 100000
set_option maxHeartbeats 4000000
/-! rules of our own: a tuple times 0, 1, .. -/
namespace BZ
open PySem PySem.Spec PyProof.Rows L2
theorem tmul_zero (l : Addr) (items : Array Value) (n : Nat) (dd : Option Addr) (sl : Array (Option Value)) (u : Tok) (c1 : (items.isEmpty || (0 : Int) == 1) = false) :
    Meets (Builtin.«tuple.__mul__» ⟨[.ref l, .int 0 u], []⟩) (fun _ R s =>
      s.heap.get? l = some { cls := .type "tuple", dict := dd, data := .seq items n, slots := sl } ∧
      R (.ok (.ret (Value.ref s.heap.objs.size)))
        { s with heap := s.heap.push { cls := Value.type "tuple", data := Data.seq #[] }, toks := s.toks }) := by
  refine .of_wp ?_
  intro prog w A R s h
  obtain ⟨hp, g, d, tk, os⟩ := s
  obtain ⟨hl, h⟩ := h
  have f1 := AutoSeq1.idx_int
  have t1 : (decide ((0 : Int) ≤ 0) || items.isEmpty) = true := by simp
  have t2 : sizeOk (.seq (#[] : Array Value)) := by
    show 0 ≤ sizeLine
    exact Nat.zero_le _
  wp_walk using AutoSeq1.wpAny_loadPart' hl
  repeat (first
    | (refine wpAny_ite_false (decide_eq_false (by rw [c1]; exact Bool.false_ne_true)) ?_
       wp_walk using AutoSeq1.wpAny_loadPart' hl)
    | (refine wpAny_ite_true (decide_eq_true t1) ?_
       wp_walk using AutoSeq1.wpAny_loadPart' hl))
  exact ⟨_, rfl, h⟩
theorem tmul_one (l : Addr) (items : Array Value) (n : Nat) (dd : Option Addr) (sl : Array (Option Value)) (u : Tok) :
    Meets (Builtin.«tuple.__mul__» ⟨[.ref l, .int 1 u], []⟩) (fun _ R s =>
      s.heap.get? l = some { cls := .type "tuple", dict := dd, data := .seq items n, slots := sl } ∧
      R (.ok (.ret (Value.ref l))) s) := by
  refine .of_wp ?_
  intro prog w A R s h
  obtain ⟨hp, g, d, tk, os⟩ := s
  obtain ⟨hl, h⟩ := h
  have f1 := AutoSeq1.idx_int
  have c1 : (items.isEmpty || (1 : Int) == 1) = true := by simp
  wp_walk using AutoSeq1.wpAny_loadPart' hl
  repeat (first
    | (refine wpAny_ite_true (decide_eq_true c1) ?_
       wp_walk using AutoSeq1.wpAny_loadPart' hl))
  exact ⟨_, rfl, h⟩
/-- t * k, k from 0 on, t not empty -/
def rRepA (K : PySem.W.Frag) : R2 := fun x y H Q => ∃ (l : Addr) (k : Nat) (xs : List V), x = .ref l ∧ y = .int (k : Int) ∧
  SqT K H l xs ∧ xs ≠ [] ∧ k ≤ 1000 ∧ xs.length ≤ 1000 ∧ (k = 1 → Q (.ref l) H) ∧
  (k ≠ 1 → ∀ p, H p = none → Q (.ref p) (upd H p (.tup (List.replicate k xs).flatten)))
theorem op_repA {X : Cx} : OpR X (binaryOp .Mult) (rRepA X.K) := by
  intro pins s σ H x y v u Q I rx ry h
  obtain ⟨l, k, xs, rfl, rfl, hT, hne, h2, hz, q1, q2⟩ := h
  by_cases hk : 2 ≤ k
  · refine op_repT pins s σ H _ _ v u Q I rx ry ⟨l, (k : Int), xs, rfl, rfl, hT, hne, by omega, by omega, hz, ?_⟩
    rw [Int.toNat_natCast]
    exact q2 (by omega)
  · cases rx
    obtain ⟨t, rfl⟩ := ry
    obtain ⟨its, r, ⟨⟨cls, dd, data, sl⟩, ho, hc, n, hd⟩, hs⟩ := I.tuple hT
    simp only at hc hd
    subst hc hd
    have hi : its.toArray.isEmpty = false := by
      cases its with
      | nil =>
        exfalso
        cases r
        exact hne rfl
      | cons a b => rfl
    have hk2 : k = 0 ∨ k = 1 := by omega
    rcases hk2 with e | e
    · subst e
      have z := q2 (by decide) s.heap.objs.size (I.hok.fresh (Nat.le_refl _))
      have c1 : (its.toArray.isEmpty || (0 : Int) == 1) = false := by
        rw [hi]
        rfl
      refine wpAny_binaryOp_repeat_ref (T := "tuple") (U := "int") (by decide) ⟨_, ho, rfl⟩ (fun s' => typeIs_int s' 0 t) noFill_tuple_mul F.fills_int_mul F.slot_int_rmul repeat_tuple F.slot_int_index.lookup ?_
      refine call_meets F.slot_int_rmul (typeIs_int s 0 t) F.entry_int_rmul (F.args_int_rmul_2 _ _) (int_rmul_tuple 0 t l its.toArray n dd sl) ⟨ho, ?_⟩
      refine ⟨rfl, ⟨_, ho, rfl⟩, call_meets F.slot_tuple_mul ⟨_, ho, rfl⟩ F.entry_tuple_mul (F.args_tuple_mul_2 _ _) (tmul_zero l its.toArray n dd sl t c1) ⟨ho, ?_⟩⟩
      refine ⟨.ref s.heap.objs.size, _, I.laid (t' := s.toks) (o := .tup []) (fun b ob q => Heap.get?_push_of_some _ q) (Nat.le_refl _) ?_, rfl, z⟩
      exact ⟨Nat.zero_le _, [], .nil, IsTup.new _ _⟩
    · subst e
      have z := q1 rfl
      refine wpAny_binaryOp_repeat_ref (T := "tuple") (U := "int") (by decide) ⟨_, ho, rfl⟩ (fun s' => typeIs_int s' 1 t) noFill_tuple_mul F.fills_int_mul F.slot_int_rmul repeat_tuple F.slot_int_index.lookup ?_
      refine call_meets F.slot_int_rmul (typeIs_int s 1 t) F.entry_int_rmul (F.args_int_rmul_2 _ _) (int_rmul_tuple 1 t l its.toArray n dd sl) ⟨ho, ?_⟩
      exact ⟨rfl, ⟨_, ho, rfl⟩, call_meets F.slot_tuple_mul ⟨_, ho, rfl⟩ F.entry_tuple_mul (F.args_tuple_mul_2 _ _) (tmul_one l its.toArray n dd sl t) ⟨ho, .ref l, H, I, rfl, z⟩⟩
end BZ
end
section
set_option maxRecDepth 100000
set_option maxHeartbeats 4000000
/-! rules of our own: a tuple from its end -/
namespace BZ
open PySem PySem.Spec PyProof.Rows L2
theorem adjust_rev (n : Nat) : Builtin.Slice.sliceAdjust none none (-1) (n : Int) = ((n : Int) - 1, -1) := by
  unfold Builtin.Slice.sliceAdjust
  simp
theorem places_rev (n : Nat) : Builtin.Slice.slicePlaces ((n : Int) - 1) (-1) (-1) = n := by
  unfold Builtin.Slice.slicePlaces
  simp
  split
  · omega
  · omega
theorem fm_congr {α β : Type} (f g : α → Option β) : ∀ l : List α, (∀ a ∈ l, f a = g a) → l.filterMap f = l.filterMap g
  | [], _ => rfl
  | a :: l, h => by
    have ih := fm_congr f g l fun b hb => h b (List.mem_cons_of_mem _ hb)
    rw [List.filterMap_cons, List.filterMap_cons, h a List.mem_cons_self, ih]
theorem pick_rev (xs : Array Value) : ((List.range xs.size).filterMap fun (m : Nat) => xs[(((xs.size : Int) - 1) + (m : Int) * (-1)).toNat]?).toArray = xs.toList.reverse.toArray := by
  congr 1
  have e : (List.range xs.size).filterMap (fun (m : Nat) => xs[(((xs.size : Int) - 1) + (m : Int) * (-1)).toNat]?) = (List.range xs.size).filterMap ((xs[·]?) ∘ fun m => xs.size - 1 - m) := by
    refine fm_congr _ _ _ fun m hm => ?_
    have h1 := List.mem_range.mp hm
    have h2 : (((xs.size : Int) - 1) + (m : Int) * (-1)).toNat = xs.size - 1 - m := by omega
    rw [h2]
    rfl
  rw [e, ← List.filterMap_map, PySem.W.krv_range, List.filterMap_reverse, PySem.W.krv_all]
section
variable {prog : Program} {w : World} {A : Around} {E : Value → Shared → Prop} {s : Shared}
theorem slice_rev {sl : Addr} {u : Tok} {n : Nat} {Q : Int × Int × Nat → Shared → Prop} (hs : s.heap.IsSliceOf sl .none .none (.int (-1) u)) (h : Q ((n : Int) - 1, -1, n) s) :
    wpAny (model prog w) A (Builtin.Slice.sliceApplied (.ref sl) (pure (n : Int))) Q E s := by
  obtain ⟨os, hos, hcs, hds⟩ := id hs
  unfold Builtin.Slice.sliceApplied Builtin.Slice.sliceFields
  refine wpAny_bind (wpAny_bind (wpAny_field hos hds (x := .none) rfl ?_))
  refine wpAny_bind (wpAny_field hos hds (x := .none) rfl ?_)
  refine wpAny_bind (wpAny_field hos hds (x := .int (-1) u) rfl (wpAny_pure ?_))
  refine wpAny_bind (slicePart_int ?_)
  show wpAny _ _ (if ((-1 : Int) == 0) = true then _ else _) _ _ s
  rw [if_neg (by decide)]
  refine wpAny_bind (slicePart_none (wpAny_bind (slicePart_none (wpAny_bind (wpAny_pure ?_)))))
  show wpAny _ _ (match Builtin.Slice.sliceAdjust none none (-1) (n : Int) with | (lo, hi) => pure (lo, (-1 : Int), Builtin.Slice.slicePlaces lo hi (-1))) _ _ s
  rw [adjust_rev n]
  show wpAny _ _ (pure ((n : Int) - 1, (-1 : Int), Builtin.Slice.slicePlaces ((n : Int) - 1) (-1) (-1))) _ _ s
  rw [places_rev]
  exact wpAny_pure h
theorem getItem_rev {t sl : Addr} {items : Array Value} {u : Tok} {Q : Value → Shared → Prop} (ht : IsTup s.heap t items) (hs : s.heap.IsSliceOf sl .none .none (.int (-1) u))
    (h : Q (.ref s.heap.objs.size) { s with heap := s.heap.push { cls := .type "tuple", data := .seq items.toList.reverse.toArray } }) (hsz : items.size ≤ sizeLine) :
    wpAny (model prog w) A (getItem (.ref t) (.ref sl)) Q E s := by
  have hz : sizeOk (.seq items.toList.reverse.toArray) := by
    show items.toList.reverse.toArray.size ≤ sizeLine
    rw [List.size_toArray, List.length_reverse, Array.length_toList]
    exact hsz
  obtain ⟨os, hos, hcs, hds⟩ := id hs
  have hTs : s.TypeIs (.ref sl) "slice" := ⟨os, hos, hcs⟩
  unfold getItem
  refine wpAny_holding ?_
  refine wpAny_bind (wpAny_sequenceKey ht.typeIs (by decide) ?_)
  refine wpAny_bind (wpAny_callSpecial?_slot (name := Str.ofString "__getitem__") ht.typeIs PyProof.Rows.slot_tuple_getitem ?_)
  refine wpAny_call_entry PyProof.Rows.slot_tuple_getitem ht.typeIs entry_tuple_getitem ?_ (args_tuple_getitem _ _)
  show wpAny _ _ (Builtin.Tuple.tupleItemsOf (.ref t) >>= _) _ _ s
  refine wpAny_bind (tupleItemsOf_ ht ?_)
  refine wpAny_bind (wpAny_typeOf hTs ?_)
  rw [if_pos (by decide)]
  refine wpAny_bind (slice_rev hs ?_)
  have hno : ¬ ((((items.size : Int) - 1) == 0 && (-1 : Int) == 1 && items.size == items.size) = true) := by
    simp
  show wpAny _ _ (if (((items.size : Int) - 1) == 0 && (-1 : Int) == 1 && items.size == items.size) = true then _ else _) _ _ s
  rw [if_neg hno, pick_rev]
  first
    | exact wpAny_bind (m := Builtin.Tuple.tupleExact _) (wpAny_newObj_type (wpAny_pure ⟨_, rfl, wpAny_pure h⟩) hz)
    | exact wpAny_bind (m := Builtin.Tuple.tupleExact _) (wpAny_newObj_type (wpAny_bind (wpAny_pure (wpAny_pure ⟨_, rfl, wpAny_pure h⟩))) hz)
    | exact wpAny_bind (wpAny_bind (m := Builtin.Tuple.tupleExact _) (wpAny_newObj_type (wpAny_pure (wpAny_pure ⟨_, rfl, wpAny_pure h⟩)) hz))
    | exact wpAny_bind (wpAny_bind (m := Builtin.Tuple.tupleExact _) (wpAny_newObj_type (wpAny_pure ⟨_, rfl, wpAny_pure h⟩) hz))
end
section
variable {X : Cx}
/-- t[::-1] -/
def tRevT (K : PySem.W.Frag) (te : TE) : TE := fun σ H Q => te σ H fun x H1 => ∃ a xs, x = .ref a ∧ SqT K H1 a xs ∧ ∀ p, H1 p = none → Q (.ref p) (upd H1 p (.tup xs.reverse))
theorem pe_revT {e : Expr} {te : TE} {k : Nat} {p1 p2 p3 pos : Pos} (he : PE X e te) :
    PE X (.Subscript e (.Slice none none (some (.UnaryOp .USub (.Constant (.int 1) k p1) p2)) p3) pos) (tRevT X.K te) := by
  constructor
  intro pins s σ H Q I h
  refine Subscript_ (thn (he.run pins s σ H _ I h) ?_)
  rintro v s1 ⟨x, H1, I1, r1, q1⟩
  obtain ⟨a, xs, ex, hx, q⟩ := q1
  subst ex
  cases r1
  have hst : PE X (.UnaryOp .USub (.Constant (.int 1) k p1) p2) (tUn (rU fun i => .int (-i)) (tC (.int 1))) := pe_un un_neg pe_int
  refine wpAny_Slice ?_
  rw [evalPart_none]
  refine wpAny_pure (wpAny_pure ?_)
  rw [evalPart_some]
  refine thn (hst.run pins s1 σ H1 (fun o H4 => o = .int (-1) ∧ H4 = H1) I1 ⟨1, rfl, rfl, rfl⟩) ?_
  rintro vs s4 ⟨o, H4, I4, ps, eo, e4⟩
  subst eo
  subst e4
  obtain ⟨tk, rfl⟩ := ps
  have I5 : Inv X pins σ H4 { s4 with heap := s4.heap.push { cls := .type "slice", data := .fields #[.none, .none, .int (-1) tk] } } :=
    I4.kept (t' := s4.toks) fun b ob q => Heap.get?_push_of_some _ q
  obtain ⟨its, r, ht, hz⟩ := I5.tuple hx
  have hlen := r.length
  show wpAny (model X.prog X.w) X.A (subscriptTail e (.Slice none none (some (.UnaryOp .USub (.Constant (.int 1) k p1) p2)) p3) (.ref a) (.ref s4.heap.objs.size)) (EP X pins σ Q) X.xe
    { s4 with heap := s4.heap.push { cls := .type "slice", data := .fields #[.none, .none, .int (-1) tk] } }
  refine tail_any (ops := [.ref a, .ref s4.heap.objs.size]) ht.typeIs (PyProof.Rows.slot_tuple_getitem.lookup) ?_ (by with_unfolding_all rfl)
  refine getItem_rev ht (Heap.IsSliceOf.new ..) ?_ (by rw [List.size_toArray]; omega)
  refine ⟨.ref _, _, I5.laid (t' := s4.toks) (o := .tup xs.reverse) (fun b ob q => Heap.get?_push_of_some _ q) (Nat.le_refl _) ?_, rfl, q _ (I5.hok.fresh (Nat.le_refl _))⟩
  exact ⟨by rw [List.length_reverse]; exact hz, _, r.reverse, IsTup.new _ _⟩
end
end BZ
end
section
set_option maxRecDepth 100000
set_option maxHeartbeats 4000000
/-! rules of our own: enumerate of a tuple -/
namespace BZ
open PySem PySem.Spec PyProof.Rows L2
open PySem.Sem (wp)
theorem enumT_new (l : Addr) (items : Array Value) :
    Meets (Builtin.«enumerate.__new__» ⟨[.type "enumerate", .ref l], []⟩) (fun _ R s => s.heap.IsTuple l items ∧
      R (.ok (.ret (.ref (s.heap.push { cls := .type "tuple_iterator", data := .fields #[.ref l, .int 0 0] }).objs.size)))
        { s with heap := Heap.push (s.heap.push { cls := .type "tuple_iterator", data := .fields #[.ref l, .int 0 0] }) { cls := .type "enumerate", data := .fields #[.none, .bool false, .ref s.heap.objs.size, rawInt 0, .none, .none] } }) := by
  refine .of_wp ?_
  intro prog w A R s h
  obtain ⟨hp, g, d, tk, os⟩ := s
  obtain ⟨hl, h⟩ := h
  have hsub := sub_enumerate
  have hL : Heap.IsTuple (Shared.heap ⟨hp, g, d, tk, os⟩) l items := hl
  wp_walk using wpAny_pyIter_tuple hL
  refine wpAny_stack_any ?_
  intro st
  refine wpAny_pure ?_
  split
  · rename_i c _ _ _ _ _
    cases (c == Value.type "enumerate")
    all_goals wp_walk using wpAny_pyIter_tuple hL
    all_goals exact ⟨_, rfl, h⟩
  · wp_walk using wpAny_pyIter_tuple hL
    exact ⟨_, rfl, h⟩
section
variable {prog : Program} {w : World} {A : Around} {E : Value → Shared → Prop} {s : Shared}
theorem call_enumT {l : Addr} {items : Array Value} {Q : Value → Shared → Prop} (hL : s.heap.IsTuple l items)
    (h : ∀ h', IsEnum h' (s.heap.objs.size + 1) s.heap.objs.size 0 .none → h'.IsTupleIter s.heap.objs.size l 0 →
      (∀ b o, s.heap.get? b = some o → h'.get? b = some o) → Q (.ref (s.heap.objs.size + 1)) { s with heap := h' }) :
    wpAny (model prog w) A (call (.type "enumerate") [.ref l]) Q E s := by
  refine callType_new F.called_enumerate (by decide) (F.typeCall_enumerate_1 _) (F.newCall_enumerate_1 _) (fun obj => F.args_object_init_2 obj _) F.entry_enumerate_new (enumT_new l items) ⟨hL, ?_⟩
  have hz : (s.heap.push { cls := .type "tuple_iterator", data := .fields #[.ref l, .int 0 0] }).objs.size = s.heap.objs.size + 1 := Heap.size_push ..
  show _ ∧ _
  rw [hz]
  have he : IsEnum ((s.heap.push { cls := .type "tuple_iterator", data := .fields #[.ref l, .int 0 0] }).push
      { cls := .type "enumerate", data := .fields #[.none, .bool false, .ref s.heap.objs.size, rawInt 0, .none, .none] }) (s.heap.objs.size + 1) s.heap.objs.size 0 .none := by
    have z := Heap.get?_push_size (s.heap.push { cls := .type "tuple_iterator", data := .fields #[.ref l, .int 0 0] })
      (o := { cls := .type "enumerate", data := .fields #[.none, .bool false, .ref s.heap.objs.size, rawInt 0, .none, .none] }) rfl
    rw [hz] at z
    exact z
  refine ⟨⟨_, he, rfl⟩, h _ he ⟨_, Heap.get?_push_of_some _ (Heap.get?_push_size _ rfl), rfl, rfl⟩ ?_⟩
  intro b o x
  exact Heap.get?_push_of_some _ (Heap.get?_push_of_some _ x)
end
/-- the tuple at a as it stands at each turn, each item in a new pair -/
def IteT (K : PySem.W.Frag) (a : Addr) : It where
  go := fun i H => ∃ (xs : List V) (x : V), SqT K H a xs ∧ xs[i]? = some x
  yld := fun i H v H' => ∃ T x, v = .ref T ∧ H T = none ∧ H' = upd H T (.tup [.int (i : Nat), x]) ∧ ∀ xs, SqT K H a xs → xs[i]? = some x
  stop := fun i H => ∃ xs : List V, SqT K H a xs ∧ xs.length = i
theorem turn_enumT {P : Program} {w : World} {K : PySem.W.Frag} {elts : List Expr} {kk : Nat} {tpos : Pos} (a e it : Addr) (hei : e ≠ it) (hai : a ≠ it) (hea : e ≠ a) :
    Turn P w K (.Tuple elts kk tpos) (IteT K a) [e, it] e (fun i h => (∃ old, IsEnum h e it ((i : Nat) : Int) old) ∧ h.IsTupleIter it a i) where
  mem := List.mem_cons_self
  obj := by
    rintro i h ⟨⟨old, he⟩, ⟨o, ho, hc, hd⟩⟩ b hb
    rcases List.mem_cons.mp hb with z | z
    · subst z
      exact ⟨_, he, fun v q => nomatch q⟩
    · have z2 := List.mem_singleton.mp z
      subst z2
      refine ⟨o, ho, fun v q => ?_⟩
      rw [hd] at q
      cases q
  keep := by
    rintro i h h' ⟨⟨old, he⟩, hi⟩ k
    exact ⟨⟨old, k e (by simp) _ he⟩, hi.at fun o q => k it (by simp) o q⟩
  item := by
    intro X hP hw hK hc i pins s σ H E I hf st hg
    subst hP hw hK
    obtain ⟨⟨old, he⟩, hit⟩ := st
    obtain ⟨xs, x, hq, hx⟩ := hg
    obtain ⟨its, rv, p, hz⟩ := I.tuple hq
    obtain ⟨u, hu, ru⟩ := rv.get hx
    have hel : e < s.heap.objs.size := Heap.lt_size he
    have hil : it < s.heap.objs.size := by
      obtain ⟨_, q, _⟩ := hit
      exact Heap.lt_size q
    have hh : X.A.in1.handled = none := I.ok.hd hc
    have D := Draws.tuple (prog := X.prog) (w := X.w) hh it a hai its.toArray
    have hlt : i < its.toArray.size := by
      rw [List.size_toArray]
      exact (List.getElem?_eq_some_iff.mp hu).1
    refine wpAny_pyNext_enum_itemD D he ⟨hit, (show s.heap.IsTuple a its.toArray from p)⟩ hlt hei (by simp [hei, hea]) ?_
    intro y h' tk hy ho hst' hT hsz hk
    have ey : y = u := by
      have z : its.toArray[i]? = some y := hy
      rw [List.getElem?_toArray, hu] at z
      exact (Option.some.inj z).symm
    subst ey
    refine ⟨_, rfl, wpAny_letOwnedTupleGo_enum (s := { s with heap := h', toks := tk + 1 }) ho ?_⟩
    intro h'' he' sb
    have hT2 : h''.get? s.heap.objs.size = some { cls := .type "tuple", data := .seq #[.int i tk, y] } := (sb.2 _ (Nat.ne_of_gt hel)).trans hT
    have new : ObjOk X.prog X.w (upd H s.heap.objs.size (.tup [.int (i : Nat), x])) h'' s.heap.objs.size (.tup [.int (i : Nat), x]) := by
      refine ⟨?_, [.int i tk, y], .cons ⟨_, rfl⟩ (.cons ru .nil), ⟨_, hT2, rfl, _, rfl⟩⟩
      show 2 ≤ sizeLine
      decide
    have I1 : Inv X pins σ (upd H s.heap.objs.size (.tup [.int (i : Nat), x])) { s with heap := h'', toks := tk + 1 } := by
      refine I.turnedNew (ch := [e, it]) ?_ hf (Nat.le_refl _) new
      intro b ob hb q
      have n1 : b ≠ e := fun z => hb (by simp [z])
      have n2 : b ≠ it := fun z => hb (by simp [z])
      exact (sb.2 b n1).trans (hk b ob n1 n2 q)
    refine ⟨.ref s.heap.objs.size, _, I1, rfl, ⟨_, x, rfl, I.hok.fresh (Nat.le_refl _), rfl, ?_⟩, ⟨⟨y, ?_⟩, ?_⟩, ?_⟩
    · intro ys hy
      rw [I.tuple_inj hy hq]
      exact hx
    · have e1 : ((i + 1 : Nat) : Int) = (i : Int) + 1 := by omega
      rw [e1]
      exact he'
    · exact hst'.1.at fun o q => (sb.2 it (Ne.symm hei)).trans q
    · intro b hb
      have hb' : b < s.heap.objs.size := by
        rcases List.mem_cons.mp hb with z | z
        · rw [z]
          exact hel
        · rw [List.mem_singleton.mp z]
          exact hil
      rw [upd_ne (Nat.ne_of_lt hb')]
      exact (hf b hb).1
  done := by
    intro X hP hw hK hc i pins s σ H E I hf st hg
    subst hP hw hK
    obtain ⟨⟨old, he⟩, hit⟩ := st
    obtain ⟨xs, hq, hx⟩ := hg
    obtain ⟨its, rv, p, hz⟩ := I.tuple hq
    obtain ⟨f0, f1, f2, f3, f4, f5⟩ := hf it (by simp)
    have hl := rv.length
    have hh : X.A.in1.handled = none := I.ok.hd hc
    have D := Draws.tuple (prog := X.prog) (w := X.w) hh it a hai its.toArray
    have hn : its.toArray.size = i := by
      rw [List.size_toArray]
      omega
    refine wpAny_pyNext_enum_endD D he ⟨(by rw [hn]; exact hit), (show s.heap.IsTuple a its.toArray from p)⟩ ?_
    intro h' eb
    exact ⟨rfl, I.turned (t' := s.toks) (fun b o hb q => eb b o hb q) f0 f1 f3 f4 f5⟩
  self := by
    rintro A i s Q E ⟨⟨_, he⟩, _⟩ h
    exact wpAny_pyIter_enum he h
def iEnumT (K : PySem.W.Frag) (ta : TA) : TI := fun σ H R => ta σ H fun vs H1 => ∃ a xs, vs = [.ref a] ∧ SqT K H1 a xs ∧ R (IteT K a) H1
theorem pi_enumT {X : Cx} {e : Expr} {ta : TA} {p pos tpos : Pos} {elts : List Expr} {kk : Nat} (hg : Gl X "enumerate") (hm : X.mg "enumerate" = none) (ha : PA X [e] ta)
    (hs : starEach [e] X.env = [(false, eval e X.env)] := by rfl) : PI X (.Tuple elts kk tpos) (.Call (.Name "enumerate" p) [e] [] pos) (iEnumT X.K ta) := by
  constructor
  intro pins s σ H R I h
  refine Call_ (ld_blt I hg hm boot_enumerate (PyProof.Rows.callWith_type1 (thn (ha.run pos pins s σ H _ I h) ?_) hs rfl))
  rintro us s1 ⟨vs, H1, I1, r1, a, xs, ex, hq, q⟩
  subst ex
  obtain ⟨u, rfl, ru⟩ := vals1 r1
  cases ru
  obtain ⟨its, rv, p', hz⟩ := I1.tuple hq
  have hal : a < s1.heap.objs.size := p'.lt
  refine call_enumT (show s1.heap.IsTuple a its.toArray from p') fun h' he hit hk => wpAny_pyIter_enum he ?_
  have I2 : Inv X pins σ H1 { s1 with heap := h' } := I1.kept (t' := s1.toks) hk
  have T := turn_enumT (P := X.prog) (w := X.w) (K := X.K) (elts := elts) (kk := kk) (tpos := tpos) a (s1.heap.objs.size + 1) s1.heap.objs.size (Nat.succ_ne_self _) (Nat.ne_of_lt hal) (Nat.ne_of_gt (Nat.lt_succ_of_lt hal))
  refine ⟨s1.heap.objs.size + 1, [s1.heap.objs.size + 1, s1.heap.objs.size], _, _, H1, rfl, I2, T, ⟨⟨.none, he⟩, hit⟩, ?_, q⟩
  intro b hb
  have hle : s1.heap.objs.size ≤ b := by
    rcases List.mem_cons.mp hb with z | z
    · rw [z]
      exact Nat.le_add_right _ _
    · rw [List.mem_singleton.mp z]
      exact Nat.le_refl _
  exact I1.fpOk hle (I1.hok.fresh hle)
theorem walk_enumT {K : PySem.W.Frag} {a : Addr} {xs : List V} : Walk (IteT K a) xs.length (fun H => SqT K H a xs) (YPair (fun i => some (.int (i : Nat))) (fun i => xs[i]?)) where
  goes := fun i _ hi q => ⟨xs, xs[i], q, List.getElem?_eq_getElem hi⟩
  stops := fun _ q => ⟨xs, q, rfl⟩
  yields := by
    rintro i H v H' hi q ⟨T, x, h1, h2, h3, h4⟩
    exact ⟨T, .int (i : Nat), x, h1, h2, h3, rfl, h4 xs q⟩
theorem walk_zipT {K : PySem.W.Frag} {a b : Addr} {xs ys : List V} (h : xs.length = ys.length) : Walk (RZ.ItzT K a b) xs.length (fun H => SqT K H a xs ∧ SqT K H b ys) (YPair (fun i => xs[i]?) (fun i => ys[i]?)) where
  goes := fun i _ hi q => ⟨xs, ys, xs[i], ys[i], q.1, q.2, List.getElem?_eq_getElem hi, List.getElem?_eq_getElem (h ▸ hi)⟩
  stops := fun _ q => ⟨xs, ys, q.1, q.2, Or.inl (Nat.le_refl _)⟩
  yields := by
    rintro i H v H' hi q ⟨T, x, y, h1, h2, h3, h4, h5⟩
    exact ⟨T, x, y, h1, h2, h3, h4 xs q.1, h5 ys q.2⟩
end BZ
end
section
set_option maxRecDepth 100000
namespace BZ
open PySem PySem.Spec PyProof.Rows L2
/-- the names of the module: built-ins that stay what they are -/
structure Nm (mg : Str → Option Value) : Prop where
  isinstance : mg "isinstance" = none
  int : mg "int" = none
  bool : mg "bool" = none
  tuple : mg "tuple" = none
  list : mg "list" = none
  str : mg "str" = none
  len : mg "len" = none
  range : mg "range" = none
  enumerate : mg "enumerate" = none
  zip : mg "zip" = none
  max : mg "max" = none
  abs : mg "abs" = none
  gcd : mg "gcd" = some (.builtin "math.gcd")
  most : ∃ t, mg "MOST_ROW" = some (.int 8 t)
section
variable {P : Program} {w : World} {K : PySem.W.Frag} {mg : Str → Option Value} {base : Heap}
/-- a def that can be called by its name -/
structure Cal (P : Program) (w : World) (K : PySem.W.Frag) (mg : Str → Option Value) (base : Heap) (k : Nat) (x : Str) (ps : List Str) (sp : Sp) : Prop where
  ex : ∃ (f : Addr) (fd : FuncData), FnOk P w K mg base CX0 k f fd ps sp ∧ mg x = some (.ref f) ∧ PySem.W.keepIn K (.ref f) = true ∧ Binds K fd ps []
theorem pcal {X : Cx} {k : Nat} {x : Str} {ps : List Str} {sp : Sp} {p pos : Pos} {e : Expr} {es : List Expr} {t : TA} (C : Cal X.prog X.w X.K X.mg X.base k x ps sp) (hr : Room k X.A) (hg : Gl X x)
    (ha : PA X (e :: es) t) (hdb : (x == ("__debug__" : Str)) = false := by decide) (he : starEach (e :: es) X.env = (false, eval e X.env) :: starEach es X.env := by rfl)
    (hpl : (backTo pos (starEach es X.env)).any (·.1) = false := by rfl) : PE X (.Call (.Name x p) (e :: es) [] pos) (tCall sp [] E0 t) := by
  obtain ⟨f, fd, G, g, kp, b⟩ := C.ex
  exact pe_call G hr hg g kp b .nil pass0 ha hdb he hpl
theorem tyT {K : PySem.W.Frag} {H : Hp} {a : Addr} {xs : List V} (h : SqT K H a xs) : TyX K H (.ref a) (.type "tuple") := by
  rcases h with (h | ⟨o, h⟩) | ⟨o, its, n, h1, h2, _⟩
  · exact .base (.tup h)
  · exact .fTuple h
  · exact .kTuple h1 h2
theorem at0 {α : Type} {a b : α} : atI [a, b] 0 = some a := atI_nat (j := 0) rfl
theorem at1 {α : Type} {a b : α} : atI [a, b] 1 = some b := atI_nat (j := 1) rfl
/-! ### is_int -/
theorem scIsInt : FnScope ["value"] ["value"] (defScope sIsInt) := ⟨rfl, rfl, rfl, by decide +kernel, rfl, by decide +kernel, by decide +kernel⟩
def spIsInt : Sp := fun vs H Q _ => ∃ i : Int, vs = [.int i] ∧ Q (.bl true) H
theorem ok_isInt {f : Addr} {fd : FuncData} (F : Fun K "is_int" "is_int" sIsInt f fd) (N : Nm mg) : FnOk P w K mg base CX0 1 f fd ["value"] spIsInt := by
  refine F.ok (k := 0) scIsInt (fun vs H Q E h => ?_) (fun cdv A outer s H vs Q E hr h => ?_)
  · obtain ⟨i, rfl, _⟩ := h
    rfl
  · obtain ⟨i, rfl, q⟩ := h
    refine ⟨_, pss_one (ps_ret (pe_and (pe_callB call_isi (by rfl) N.isinstance (by decide +kernel) (pa_cons (pv 0) (pa_cons (pe_bltn (v := .ty "int") (by rfl) N.int (by decide +kernel) rfl) pa_nil)))
      (pe_one (pe_not (pe_callB call_isi (by rfl) N.isinstance (by decide +kernel) (pa_cons (pv 0) (pa_cons (pe_bltn (v := .ty "bool") (by rfl) N.bool (by decide +kernel) rfl) pa_nil))))))), ?_⟩
    refine ⟨_, rfl, _, _, _, _, true, rfl, .ty _, .base (.int i), kit_ty (by decide +kernel), true, rfl, iteT ?_⟩
    refine ⟨_, rfl, _, _, _, _, false, rfl, .ty _, .base (.int i), kit_ty (by decide +kernel), false, rfl, ?_⟩
    exact q
/-! ### is_ratio, need_ratio -/
theorem scIsRatio : FnScope ["value"] ["value"] (defScope sIsRatio) := ⟨rfl, rfl, rfl, by decide +kernel, rfl, by decide +kernel, by decide +kernel⟩
def spIsRatio (K : PySem.W.Frag) : Sp := fun vs H Q _ => ∃ (v : V) (q : Rat), vs = [v] ∧ RV K H v q ∧ Q (.bl true) H
theorem ok_isRatio {f : Addr} {fd : FuncData} (F : Fun K "is_ratio" "is_ratio" sIsRatio f fd) (N : Nm mg) (GI : Cal P w K mg base 1 "is_int" ["value"] spIsInt) :
    FnOk P w K mg base CX0 2 f fd ["value"] (spIsRatio K) := by
  refine F.ok (k := 1) scIsRatio (fun vs H Q E h => ?_) (fun cdv A outer s H vs Q E hr h => ?_)
  · obtain ⟨v, q, rfl, _⟩ := h
    rfl
  · obtain ⟨v, q, rfl, ⟨a, rfl, hT⟩, k⟩ := h
    refine ⟨_, pss_cons (ps_if (PW.pt (pw_or (pt_not (pt_val (pe_callB call_isi (by rfl) N.isinstance (by decide +kernel) (pa_cons (pv 0) (pa_cons (pe_bltn (v := .ty "tuple") (by rfl) N.tuple (by decide +kernel) rfl) pa_nil)))))
        (pw_or (pt_cmpR op_ne (pe_callB call_len_seq (by rfl) N.len PySem.boot_len (pa_cons (pv 0) pa_nil)) pe_int (nomark _))
        (pw_or (pt_not (pt_val (pcal GI hr (by rfl) (pa_cons (pe_ix ix_tup (pv 0) pe_int (fun _ _ => rfl)) pa_nil))))
        (pw_or1 (pt_not (pt_val (pcal GI hr (by rfl) (pa_cons (pe_ix ix_tup (pv 0) pe_int (fun _ _ => rfl)) pa_nil)))))))))
      (pss_one ps_never) pss_nil)
      (pss_one (ps_ret (pe_and (pe_cmpR op_gt (pe_ix ix_tup (pv 0) pe_int (fun _ _ => rfl)) pe_int (nomark _))
        (pe_one (pe_cmpR op_eq (pe_callBfun cr_gcd (by rfl) N.gcd (pa_cons (pe_ix ix_tup (pv 0) pe_int (fun _ _ => rfl)) (pa_cons (pe_ix ix_tup (pv 0) pe_int (fun _ _ => rfl)) pa_nil))) pe_int (nomark _)))))), ?_⟩
    -- not a tuple; len; the two ints
    refine ⟨_, rfl, _, _, _, _, true, rfl, .ty _, tyT hT, kit_ty (by decide +kernel), true, rfl, iteF ?_⟩
    refine ⟨_, rfl, a, _, rfl, .inr hT, rfl, false, rfl, iteF ?_⟩
    refine ⟨_, rfl, a, _, 0, _, rfl, rfl, hT, at0, q.num, rfl, true, rfl, iteF ?_⟩
    refine ⟨_, rfl, a, _, 1, _, rfl, rfl, hT, at1, (q.den : Int), rfl, true, rfl, iteF ?_⟩
    -- value[1] > 0 and gcd == 1
    refine ⟨_, rfl, a, _, 1, _, rfl, rfl, hT, at1, (q.den : Int), 0, rfl, rfl, true, ?_, iteT ?_⟩
    · have h1 := den_pos q
      exact congrArg V.bl (decide_eq_true h1)
    · refine ⟨_, rfl, a, _, 0, _, rfl, rfl, hT, at0, _, rfl, a, _, 1, _, rfl, rfl, hT, at1, q.num, (q.den : Int), rfl, rfl, ?_⟩
      have e : ((Nat.gcd q.num.natAbs (q.den : Int).natAbs : Nat) : Int) = 1 := by
        have z := q.reduced
        show ((Nat.gcd q.num.natAbs q.den : Nat) : Int) = 1
        rw [z]
        rfl
      rw [e]
      exact k
theorem scNeedRatio : FnScope ["value"] ["value"] (defScope sNeedRatio) := ⟨rfl, rfl, rfl, by decide +kernel, rfl, by decide +kernel, by decide +kernel⟩
def spNeedRatio (K : PySem.W.Frag) : Sp := fun vs H Q _ => ∃ (v : V) (q : Rat), vs = [v] ∧ RV K H v q ∧ Q .non H
theorem ok_needRatio {f : Addr} {fd : FuncData} (F : Fun K "need_ratio" "need_ratio" sNeedRatio f fd) (GR : Cal P w K mg base 2 "is_ratio" ["value"] (spIsRatio K)) :
    FnOk P w K mg base CX0 3 f fd ["value"] (spNeedRatio K) := by
  refine F.ok (k := 2) scNeedRatio (fun vs H Q E h => ?_) (fun cdv A outer s H vs Q E hr h => ?_)
  · obtain ⟨v, q, rfl, _⟩ := h
    rfl
  · obtain ⟨v, q, rfl, hv, k⟩ := h
    refine ⟨_, pss_one (ps_if (pt_not (pt_val (pcal GR hr (by rfl) (pa_cons (pv 0) pa_nil)))) (pss_one ps_never) pss_nil), ?_⟩
    exact ⟨v, rfl, v, q, rfl, hv, true, rfl, iteF k⟩
end
end BZ
end
section
set_option maxRecDepth 100000
namespace BZ
open PySem PySem.Spec PyProof.Rows L2
/-- a range's loop that may be left by a break -/
theorem for_rangeF {lo : Int} {n : Nat} {g : TG} {tb : TS} {D : Ends} {σ : L2.St} {H : Hp} (Fin : L2.St → Hp → Prop) (after : ∀ σ H, Fin σ H → D.nx σ H) (Pv : Nat → L2.St → Hp → Prop) (h0 : Pv 0 σ H)
    (hs : (∀ σ H, Fin σ H → D.nx σ H) → ∀ i σ H, i < n → Pv i σ H → g (.int (lo + i)) σ H fun σ2 H2 => tb { D with nx := Pv (i + 1), ct := Pv (i + 1), bk := D.nx } σ2 H2)
    (hd : ∀ σ H, Pv n σ H → Fin σ H) :
    ∃ W : Nat → Nat → L2.St → Hp → Prop, (∃ m, W 0 m σ H) ∧ ∀ i m σ H, W i m σ H → ((Itr lo n).stop i H ∧ D.nx σ H) ∨ ((Itr lo n).go i H ∧ ∃ N : L2.St → Hp → Prop,
      (∀ σ' H', N σ' H' → ∃ m', m' < m ∧ W (i + 1) m' σ' H') ∧ ∀ x H', (Itr lo n).yld i H x H' → g x σ H' fun σ2 H2 => tb { D with nx := N, ct := N, bk := D.nx } σ2 H2) :=
  for_range Pv h0 (hs after) fun σ H p => after σ H (hd σ H p)
/-- a value that is a ratio comes, all that stood stands -/
def Gives (K : PySem.W.Frag) (H : Hp) (Q : VK) (q : Rat) : Prop := ∀ (H' : Hp) (v : V), Same H H' → RV K H' v q → Q v H'
theorem mulOk {i j : Int} {a b : Nat} (h1 : i.natAbs ≤ 2 ^ a) (h2 : j.natAbs ≤ 2 ^ b) (h : a + b ≤ 900000) : CMulW i j :=
  wide_mul (lt_of_le_pow h1 (Nat.lt_succ_self a)) (lt_of_le_pow h2 (Nat.lt_succ_self b)) (Nat.succ_pos _) (Nat.succ_pos _) (by omega)
theorem gcd_pos' {n d : Int} (h : 0 < d) : (0 : Int) < ((Nat.gcd n.natAbs d.natAbs : Nat) : Int) := by
  have z : 0 < Nat.gcd n.natAbs d.natAbs := Nat.gcd_pos_of_pos_right _ (by omega)
  omega
theorem gcd_div {i n d : Int} {b : Nat} (h : 0 < d) (hb : d.natAbs ≤ 2 ^ b) (h9 : b ≤ 8000) : CDivW i ((Nat.gcd n.natAbs d.natAbs : Nat) : Int) := by
  refine wide_div (b := b + 1) (gcd_pos' h) ?_ (Nat.succ_pos _) (by omega)
  have z : Nat.gcd n.natAbs d.natAbs ≤ d.natAbs := Nat.gcd_le_right _ (by omega)
  exact lt_of_le_pow (Nat.le_trans z hb) (Nat.lt_succ_self b)
section
variable {P : Program} {w : World} {K : PySem.W.Frag} {mg : Str → Option Value} {base : Heap}
/-! ### made -/
theorem scMade : FnScope ["top", "low", "part"] ["top", "low"] (defScope sMade) := ⟨rfl, rfl, rfl, by decide +kernel, rfl, by decide +kernel, by decide +kernel⟩
def spMade (K : PySem.W.Frag) (B : Nat) : Sp := fun vs H Q _ => ∃ (n d : Int) (b : Nat), vs = [.int n, .int d] ∧ 0 < d ∧ d.natAbs ≤ 2 ^ b ∧ b ≤ B ∧ Gives K H Q (mk n d)
theorem ok_made {f : Addr} {fd : FuncData} (F : Fun K "made" "made" sMade f fd) (N : Nm mg) : FnOk P w K mg base CX0 1 f fd ["top", "low"] (spMade K 8000) := by
  refine F.ok (k := 0) scMade (fun vs H Q E h => ?_) (fun cdv A outer s H vs Q E hr h => ?_)
  · obtain ⟨n, d, b, rfl, _⟩ := h
    rfl
  · obtain ⟨n, d, b, rfl, hd, hb, hB, k⟩ := h
    refine ⟨_, pss_cons (ps_set (i := 2) scMade.nd rfl (.inl rfl) (pe_callBfun cr_gcd (by rfl) N.gcd (pa_cons (pv 0) (pa_cons (pv 1) pa_nil))))
      (pss_cons (ps_if (pt_cmpR op_lt (pv 1) pe_int (nomark _)) (pss_one ps_never) pss_nil)
      (pss_one (ps_ret (pe_tup (pa_cons (pe_op op_fdivW (pv 0) (pv 2)) (pa_cons (pe_op op_fdivW (pv 1) (pv 2)) pa_nil)))))), ?_⟩
    refine ⟨_, rfl, _, rfl, n, d, rfl, ?_⟩
    refine ⟨_, rfl, d, 0, rfl, rfl, false, ?_, iteF ?_⟩
    · exact congrArg V.bl (decide_eq_false (by omega))
    refine ⟨_, rfl, _, rfl, n, _, rfl, rfl, gcd_div hd hb hB, ?_⟩
    refine ⟨_, rfl, _, rfl, d, _, rfl, rfl, gcd_div hd hb hB, ?_⟩
    refine ⟨(by show 2 ≤ sizeLine; decide), fun p hp => ?_⟩
    exact k _ _ (same_new hp) (RV.new (mk_num hd).symm (mk_den hd).symm)
/-! ### plus, less, times -/
def spBin (K : PySem.W.Frag) (B : Nat) (op : Rat → Rat → Rat) : Sp := fun vs H Q _ => ∃ (v u : V) (q r : Rat) (a b a' b' : Nat), vs = [v, u] ∧ RV K H v q ∧ RV K H u r ∧ Sz a b q ∧ Sz a' b' r ∧
  a + a' ≤ 100000 ∧ b + b' ≤ B ∧ Gives K H Q (op q r)
theorem spBin_len {B : Nat} {op : Rat → Rat → Rat} {ps : List Str} (hl : ps.length = 2) : ∀ vs H Q E, spBin K B op vs H Q E → vs.length = ps.length := by
  rintro vs H Q E ⟨v, u, q, r, a, b, a', b', rfl, _⟩
  exact hl.symm
theorem scPlus : FnScope ["one", "other"] ["one", "other"] (defScope sPlus) := ⟨rfl, rfl, rfl, by decide +kernel, rfl, by decide +kernel, by decide +kernel⟩
theorem scLess : FnScope ["one", "other"] ["one", "other"] (defScope sLess) := ⟨rfl, rfl, rfl, by decide +kernel, rfl, by decide +kernel, by decide +kernel⟩
theorem scTimes : FnScope ["one", "other"] ["one", "other"] (defScope sTimes) := ⟨rfl, rfl, rfl, by decide +kernel, rfl, by decide +kernel, by decide +kernel⟩
theorem ok_plus {f : Addr} {fd : FuncData} (F : Fun K "plus" "plus" sPlus f fd) (GM : Cal P w K mg base 1 "made" ["top", "low"] (spMade K 8000)) :
    FnOk P w K mg base CX0 2 f fd ["one", "other"] (spBin K 8000 fun q r => q + r) := by
  refine F.ok (k := 1) scPlus (spBin_len rfl) (fun cdv A outer s H vs Q E hr h => ?_)
  obtain ⟨v, u, q, r, a, b, a', b', rfl, ⟨x, rfl, hq⟩, ⟨y, rfl, hr'⟩, z1, z2, hA, hB, k⟩ := h
  refine ⟨_, pss_one (ps_ret (pcal GM hr (by rfl) (pa_cons (pe_op op_add (pe_op op_mulW (pe_ix ix_tup (pv 0) pe_int (fun _ _ => rfl)) (pe_ix ix_tup (pv 1) pe_int (fun _ _ => rfl)))
      (pe_op op_mulW (pe_ix ix_tup (pv 1) pe_int (fun _ _ => rfl)) (pe_ix ix_tup (pv 0) pe_int (fun _ _ => rfl))))
    (pa_cons (pe_op op_mulW (pe_ix ix_tup (pv 0) pe_int (fun _ _ => rfl)) (pe_ix ix_tup (pv 1) pe_int (fun _ _ => rfl))) pa_nil)))), ?_⟩
  have hz : b ≤ 8000 ∧ b' ≤ 8000 := by omega
  refine ⟨_, rfl, x, _, 0, _, rfl, rfl, hq, at0, _, rfl, y, _, 1, _, rfl, rfl, hr', at1, _, _, rfl, rfl, mulOk z1.1 z2.2 (by omega), ?_⟩
  refine ⟨_, rfl, y, _, 0, _, rfl, rfl, hr', at0, _, rfl, x, _, 1, _, rfl, rfl, hq, at1, _, _, rfl, rfl, mulOk z2.1 z1.2 (by omega), ?_⟩
  refine ⟨_, _, rfl, rfl, ?_⟩
  refine ⟨_, rfl, x, _, 1, _, rfl, rfl, hq, at1, _, rfl, y, _, 1, _, rfl, rfl, hr', at1, _, _, rfl, rfl, mulOk z1.2 z2.2 (by omega), ?_⟩
  refine ⟨_, _, _, rfl, low_pos q r, low_mul z1 z2, hB, ?_⟩
  rw [add_mk]
  exact k
theorem ok_less {f : Addr} {fd : FuncData} (F : Fun K "less" "less" sLess f fd) (GM : Cal P w K mg base 1 "made" ["top", "low"] (spMade K 8000)) :
    FnOk P w K mg base CX0 2 f fd ["one", "other"] (spBin K 8000 fun q r => q - r) := by
  refine F.ok (k := 1) scLess (spBin_len rfl) (fun cdv A outer s H vs Q E hr h => ?_)
  obtain ⟨v, u, q, r, a, b, a', b', rfl, ⟨x, rfl, hq⟩, ⟨y, rfl, hr'⟩, z1, z2, hA, hB, k⟩ := h
  refine ⟨_, pss_one (ps_ret (pcal GM hr (by rfl) (pa_cons (pe_op op_sub (pe_op op_mulW (pe_ix ix_tup (pv 0) pe_int (fun _ _ => rfl)) (pe_ix ix_tup (pv 1) pe_int (fun _ _ => rfl)))
      (pe_op op_mulW (pe_ix ix_tup (pv 1) pe_int (fun _ _ => rfl)) (pe_ix ix_tup (pv 0) pe_int (fun _ _ => rfl))))
    (pa_cons (pe_op op_mulW (pe_ix ix_tup (pv 0) pe_int (fun _ _ => rfl)) (pe_ix ix_tup (pv 1) pe_int (fun _ _ => rfl))) pa_nil)))), ?_⟩
  have hz : b ≤ 8000 ∧ b' ≤ 8000 := by omega
  refine ⟨_, rfl, x, _, 0, _, rfl, rfl, hq, at0, _, rfl, y, _, 1, _, rfl, rfl, hr', at1, _, _, rfl, rfl, mulOk z1.1 z2.2 (by omega), ?_⟩
  refine ⟨_, rfl, y, _, 0, _, rfl, rfl, hr', at0, _, rfl, x, _, 1, _, rfl, rfl, hq, at1, _, _, rfl, rfl, mulOk z2.1 z1.2 (by omega), ?_⟩
  refine ⟨_, _, rfl, rfl, ?_⟩
  refine ⟨_, rfl, x, _, 1, _, rfl, rfl, hq, at1, _, rfl, y, _, 1, _, rfl, rfl, hr', at1, _, _, rfl, rfl, mulOk z1.2 z2.2 (by omega), ?_⟩
  refine ⟨_, _, _, rfl, low_pos q r, low_mul z1 z2, hB, ?_⟩
  rw [sub_mk]
  exact k
theorem ok_times {f : Addr} {fd : FuncData} (F : Fun K "times" "times" sTimes f fd) (GM : Cal P w K mg base 1 "made" ["top", "low"] (spMade K 8000)) :
    FnOk P w K mg base CX0 2 f fd ["one", "other"] (spBin K 8000 fun q r => q * r) := by
  refine F.ok (k := 1) scTimes (spBin_len rfl) (fun cdv A outer s H vs Q E hr h => ?_)
  obtain ⟨v, u, q, r, a, b, a', b', rfl, ⟨x, rfl, hq⟩, ⟨y, rfl, hr'⟩, z1, z2, hA, hB, k⟩ := h
  refine ⟨_, pss_one (ps_ret (pcal GM hr (by rfl) (pa_cons (pe_op op_mulW (pe_ix ix_tup (pv 0) pe_int (fun _ _ => rfl)) (pe_ix ix_tup (pv 1) pe_int (fun _ _ => rfl)))
    (pa_cons (pe_op op_mulW (pe_ix ix_tup (pv 0) pe_int (fun _ _ => rfl)) (pe_ix ix_tup (pv 1) pe_int (fun _ _ => rfl))) pa_nil)))), ?_⟩
  have hz : b ≤ 8000 ∧ b' ≤ 8000 := by omega
  refine ⟨_, rfl, x, _, 0, _, rfl, rfl, hq, at0, _, rfl, y, _, 0, _, rfl, rfl, hr', at0, _, _, rfl, rfl, mulOk z1.1 z2.1 (by omega), ?_⟩
  refine ⟨_, rfl, x, _, 1, _, rfl, rfl, hq, at1, _, rfl, y, _, 1, _, rfl, rfl, hr', at1, _, _, rfl, rfl, mulOk z1.2 z2.2 (by omega), ?_⟩
  refine ⟨_, _, _, rfl, low_pos q r, low_mul z1 z2, hB, ?_⟩
  rw [mul_mk]
  exact k
end
end BZ
end
section
set_option maxRecDepth 100000
namespace BZ
open PySem PySem.Spec PyProof.Rows L2
theorem Sz.mix {q r t : Rat} {a b a' b' : Nat} (h1 : Sz a b q) (h2 : Sz a b r) (h3 : Sz a' b' t) : Sz (a + a' + b' + 2 * b + 2) (3 * b + b') (q + t * (r - q)) :=
  (h1.add (h3.mul (h2.sub h1))).mono (by omega) (by omega)
def lvB : Nat → Nat
  | 0 => 4
  | k + 1 => 3 * lvB k + 4
def lvA : Nat → Nat
  | 0 => 4
  | k + 1 => lvA k + 4 + 4 + 2 * lvB k + 2
theorem lv_le : ∀ k, k ≤ 5 → lvB k ≤ 1500 ∧ lvA k ≤ 4000
  | 0, _ => by decide
  | 1, _ => by decide
  | 2, _ => by decide
  | 3, _ => by decide
  | 4, _ => by decide
  | 5, _ => by decide
  | k + 6, h => by omega
section
variable {P : Program} {w : World} {K : PySem.W.Frag} {mg : Str → Option Value} {base : Heap}
/-! ### between -/
theorem scBetween : FnScope ["one", "other", "part"] ["one", "other", "part"] (defScope sBetween) := ⟨rfl, rfl, rfl, by decide +kernel, rfl, by decide +kernel, by decide +kernel⟩
def spBetween (K : PySem.W.Frag) : Sp := fun vs H Q _ => ∃ (v u x : V) (q r t : Rat) (a b a' b' : Nat), vs = [v, u, x] ∧ RV K H v q ∧ RV K H u r ∧ RV K H x t ∧ Sz a b q ∧ Sz a b r ∧ Sz a' b' t ∧
  3 * a + a' + b ≤ 90000 ∧ 3 * b + b' ≤ 8000 ∧ Gives K H Q (q + t * (r - q))
theorem ok_between {f : Addr} {fd : FuncData} (F : Fun K "between" "between" sBetween f fd) (GP : Cal P w K mg base 2 "plus" ["one", "other"] (spBin K 8000 fun q r => q + r))
    (GL : Cal P w K mg base 2 "less" ["one", "other"] (spBin K 8000 fun q r => q - r)) (GT : Cal P w K mg base 2 "times" ["one", "other"] (spBin K 8000 fun q r => q * r)) :
    FnOk P w K mg base CX0 3 f fd ["one", "other", "part"] (spBetween K) := by
  refine F.ok (k := 2) scBetween (fun vs H Q E h => ?_) (fun cdv A outer s H vs Q E hr h => ?_)
  · obtain ⟨v, u, x, q, r, t, a, b, a', b', rfl, _⟩ := h
    rfl
  · obtain ⟨v, u, x, q, r, t, a, b, a', b', rfl, hq, hr', ht, z1, z2, z3, hA, hB, k⟩ := h
    refine ⟨_, pss_one (ps_ret (pcal GP hr (by rfl) (pa_cons (pv 0) (pa_cons (pcal GT hr (by rfl) (pa_cons (pv 2) (pa_cons (pcal GL hr (by rfl) (pa_cons (pv 1) (pa_cons (pv 0) pa_nil))) pa_nil))) pa_nil)))), ?_⟩
    refine ⟨v, rfl, x, rfl, u, rfl, v, rfl, u, v, r, q, a, b, a, b, rfl, hr', hq, z2, z1, by omega, by omega, fun H1 v1 s1 h1 => ?_⟩
    refine ⟨x, v1, t, _, a', b', _, _, rfl, ht.same s1, h1, z3, z2.sub z1, by omega, by omega, fun H2 v2 s2 h2 => ?_⟩
    refine ⟨v, v2, q, _, a, b, _, _, rfl, hq.same (s1.trans s2), h2, z1, z3.mul (z2.sub z1), by omega, by omega, fun H3 v3 s3 h3 => ?_⟩
    exact k H3 v3 (s1.trans (s2.trans s3)) h3
/-! ### need_row -/
theorem scNeedRow : FnScope ["value", "index", "one"] ["value"] (defScope sNeedRow) := ⟨rfl, rfl, rfl, by decide +kernel, rfl, by decide +kernel, by decide +kernel⟩
def spNeedRow (K : PySem.W.Frag) : Sp := fun vs H Q _ => ∃ (a : Addr) (qs : List Rat), vs = [.ref a] ∧ RT K H a qs ∧ 1 ≤ qs.length ∧ qs.length ≤ 9 ∧ ∀ H', Same H H' → Q .non H'
theorem ok_needRow {f : Addr} {fd : FuncData} (F : Fun K "need_row" "need_row" sNeedRow f fd) (N : Nm mg) (GR : Cal P w K mg base 2 "is_ratio" ["value"] (spIsRatio K)) :
    FnOk P w K mg base CX0 3 f fd ["value"] (spNeedRow K) := by
  refine F.ok (k := 2) scNeedRow (fun vs H Q E h => ?_) (fun cdv A outer s H vs Q E hr h => ?_)
  · obtain ⟨a, qs, rfl, _⟩ := h
    rfl
  · obtain ⟨a, qs, rfl, ⟨vs, hT, hv⟩, h1, h9, k⟩ := h
    obtain ⟨tm, hm⟩ := N.most
    have hl : vs.length = qs.length := Paired.length hv
    refine ⟨_, pss_cons (ps_if (PW.pt (pw_or (pt_not (pt_val (pe_callB call_isi (by rfl) N.isinstance (by decide +kernel) (pa_cons (pv 0) (pa_cons (pe_bltn (v := .ty "tuple") (by rfl) N.tuple (by decide +kernel) rfl) pa_nil)))))
        (pw_or1 (pt_not (pt_chain op_le op_le pe_int (pe_callB call_len_seq (by rfl) N.len PySem.boot_len (pa_cons (pv 0) pa_nil)) (pe_op op_add (pe_glob (v := .int 8) (by rfl) hm ⟨_, rfl⟩) pe_int))))))
        (pss_one ps_never) pss_nil)
      (pss_one (ps_for PassesOwn.never rfl (pi_enumT (by rfl) N.enumerate (pa_cons (pv 0) pa_nil))
          (pg_tup rfl (pgs_cons (pg_name (i := 1) scNeedRow.nd rfl (.inl rfl)) (pgs_cons (pg_name (i := 2) scNeedRow.nd rfl (.inl rfl)) pgs_nil)))
        (pss_one (ps_if (pt_not (pt_val (pcal GR hr (by rfl) (pa_cons (pv 2) pa_nil)))) (pss_one ps_never) pss_nil)))), ?_⟩
    refine ⟨_, rfl, _, _, _, _, true, rfl, .ty _, tyT hT, kit_ty (by decide +kernel), true, rfl, iteF ?_⟩
    refine ⟨_, rfl, a, _, rfl, .inr hT, 1, _, rfl, rfl, true, congrArg V.bl (decide_eq_true (by omega)), iteT ?_⟩
    refine ⟨8, 1, rfl, rfl, _, _, rfl, rfl, true, congrArg V.bl (decide_eq_true (by omega)), iteF ?_⟩
    refine ⟨_, rfl, a, vs, rfl, hT, ?_⟩
    refine for_it (walk_enumT (K := K) (xs := vs)) (fun _ σ H' => ∃ y z, σ = [some (.ref a), y, z] ∧ Same H H') ⟨none, none, rfl, Same.refl H⟩ ?_ ?_ ?_
    · rintro i σ H' _ ⟨y, z, rfl, s1⟩
      exact sameT s1 hT
    · rintro i x σ H1 H2 hi ⟨y, z, rfl, s1⟩ ⟨T, x1, x2, rfl, nT, rfl, e1, e2⟩
      obtain ⟨q, hq, hx⟩ := pr_getL hv e2
      have s2 : Same H (upd H1 T (.tup [x1, x2])) := s1.trans (same_new nT)
      refine ⟨T, _, rfl, newT, rfl, x1, _, rfl, x2, _, rfl, rfl, ?_⟩
      exact ⟨_, rfl, x2, q, rfl, hx.same s2, true, rfl, iteF ⟨_, _, rfl, s2⟩⟩
    · rintro σ H' ⟨y, z, rfl, s1⟩
      exact k H' s1
end
end BZ
end
section
set_option maxRecDepth 100000
namespace BZ
open PySem PySem.Spec PyProof.Rows L2
theorem pr_len {α β : Type} {F : α → β → Prop} {xs : List α} {ys : List β} (h : Paired F xs ys) : xs.length = ys.length := Paired.length h
theorem ixLK {X : Cx} {K : PySem.W.Frag} (h : X.K = K) : IxR X (rIxL K) := by
  subst h
  exact ix_list
theorem ixTK {X : Cx} {K : PySem.W.Frag} (h : X.K = K) : IxR X (rIxT K) := by
  subst h
  exact ix_tup
theorem at_end {α : Type} (xs : List α) (v : α) : atI (xs ++ [v]) (-1) = some v := atI_last xs v
section
variable {P : Program} {w : World} {K : PySem.W.Frag} {mg : Str → Option Value} {base : Heap}
/-! ### ladder -/
theorem scLadder : FnScope ["row", "t", "found", "last", "at"] ["row", "t"] (defScope sLadder) := ⟨rfl, rfl, rfl, by decide +kernel, rfl, by decide +kernel, by decide +kernel⟩
def spLadder (K : PySem.W.Frag) : Sp := fun vs H Q _ => ∃ (a : Addr) (u : V) (qs : List Rat) (t : Rat), vs = [.ref a, u] ∧ RT K H a qs ∧ RV K H u t ∧ 1 ≤ qs.length ∧ qs.length ≤ 7 ∧ (∀ q ∈ qs, Sz 4 4 q) ∧ Sz 4 4 t ∧
  ∀ (H' : Hp) (o l : Addr) (xs : List V) (v : V), Same H H' → H' o = some (.lst (xs ++ [.ref l])) → H' l = some (.lst [v]) → RV K H' v (dc t qs) → Q (.ref o) H'
/-- between two turns of ladder's loop: found at o, its last list at l -/
structure LadAt (K : PySem.W.Frag) (H : Hp) (t : Rat) (qs : List Rat) (o : Addr) (m : Nat) (H' : Hp) (l : Addr) (xs vs : List V) (cs : List Rat) : Prop where
  same : Same H H'
  ho : H o = none
  fo : H' o = some (.lst (xs ++ [.ref l]))
  lo : H' l = some (.lst vs)
  rs : RVs K H' vs cs
  len : cs.length = m + 1
  val : dc t cs = dc t qs
  lev : xs.length + cs.length = qs.length
  szs : ∀ q ∈ cs, Sz (lvA xs.length) (lvB xs.length) q
theorem ok_ladder {f : Addr} {fd : FuncData} (F : Fun K "ladder" "ladder" sLadder f fd) (N : Nm mg) (GB : Cal P w K mg base 3 "between" ["one", "other", "part"] (spBetween K)) :
    FnOk P w K mg base CX0 4 f fd ["row", "t"] (spLadder K) := by
  refine F.ok (k := 3) scLadder (fun vs H Q E h => ?_) (fun cdv A outer s H vs Q E hr h => ?_)
  · obtain ⟨a, u, qs, t, rfl, _⟩ := h
    rfl
  · obtain ⟨a, u, qs, t, rfl, ⟨vs, hT, hv⟩, ht, h1, h7, hs, hst, k⟩ := h
    refine ⟨_, pss_cons (ps_set (i := 2) scLadder.nd rfl (.inl rfl) (pe_lst (pa_cons (pe_callTy call_list_of (by rfl) N.list (by decide +kernel) (pa_cons (pv 0) pa_nil)) pa_nil)))
      (pss_cons (ps_while PassesOwn.never (pt_cmpR op_gt (pe_callB call_len_seq (by rfl) N.len PySem.boot_len (pa_cons (pe_ix ix_list (pv 2) (pe_un un_neg pe_int) (fun _ _ => rfl)) pa_nil)) pe_int (nomark _))
        (pss_cons (ps_set (i := 3) scLadder.nd rfl (.inr rfl) (pe_ix ix_list (pv 2) (pe_un un_neg pe_int) (fun _ _ => rfl)))
        (pss_one (ps_expr (pe_bm PySem.F.plainAttrs_list PySem.F.slot_list_append PySem.F.type_list_append mt_append (pv 2)
          (pa_cons (pe_lc (own := [("at", 4)]) (g := gName 4) (tt := tYes) rfl scLadder.nd
            (pi_range1 (by rfl) N.range (pa_cons (pe_op op_sub (pe_callB call_len_seq (by rfl) N.len PySem.boot_len (pa_cons (pv 3) pa_nil)) pe_int) pa_nil))
            (blkOk_by (own := [("at", 4)]) (N := ["row", "t", "found", "last", "at"]) (sc := defScope sLadder) (by decide +kernel))
            (fun _ _ _ _ _ => pg_name (i := 4) scLadder.nd rfl (Or.inl rfl)) (fun _ _ _ _ _ => pts_nil)
            (fun _ _ _ _ _ => pcal GB hr (by rfl) (pa_cons (pe_ix (ixLK (K := K) rfl) (pv 3) (pv 4) (fun _ _ => rfl)) (pa_cons (pe_ix (ixLK (K := K) rfl) (pv 3) (pe_op op_add (pv 4) pe_int) (fun _ _ => rfl)) (pa_cons (pv 1) pa_nil))))) pa_nil))))))
      (pss_one (ps_ret (pv 2)))), ?_⟩
    -- found = [list(row)]
    refine ⟨.ref a, rfl, a, vs, rfl, .inr hT, fun l nl => ⟨(by show 1 ≤ sizeLine; decide), fun o no => ?_⟩⟩
    have nlo : l ≠ o := fun e => by
      rw [e] at no
      rw [upd_same] at no
      cases no
    have no' : H o = none := (same_new nl).free no
    have s0 : Same H (upd (upd H l (.lst vs)) o (.lst [.ref l])) := (same_new nl).trans (same_new no)
    refine ⟨fun m σ H' => ∃ (l : Addr) (xs vs : List V) (cs : List Rat) (y z : Option V), σ = [some (.ref a), some u, some (.ref o), y, z] ∧ LadAt K H t qs o m H' l xs vs cs, ⟨qs.length - 1, l, [], vs, qs, none, none, rfl, ?_⟩, ?_⟩
    · refine ⟨s0, no', upd_same, ?_, hv.same s0, by omega, rfl, Nat.zero_add _, hs⟩
      rw [upd_ne nlo, upd_same]
    · rintro m σ H1 ⟨l, xs, vs1, cs, y, z, rfl, L⟩
      have hl1 : vs1.length = cs.length := pr_len L.rs
      refine ⟨.ref o, rfl, 1, rfl, o, _, -1, _, rfl, rfl, SqL.of L.fo, at_end _ _, l, vs1, rfl, .inl (SqL.of L.lo), ?_⟩
      refine ⟨_, 1, rfl, rfl, _, rfl, ite2 (fun e => ?_) (fun e => ?_)⟩
      · -- one more line
        have e2 : (1 : Int) < (vs1.length : Int) := of_decide_eq_true e
        have lev := L.lev
        have hm : 1 ≤ m := by
          have := L.len
          omega
        refine ⟨fun σ' H' => ∃ (l : Addr) (xs vs : List V) (cs : List Rat) (y z : Option V), σ' = [some (.ref a), some u, some (.ref o), y, z] ∧ LadAt K H t qs o (m - 1) H' l xs vs cs, ?_, ?_⟩
        · rintro σ' H' h
          exact ⟨m - 1, by omega, h⟩
        refine ⟨.ref o, rfl, 1, rfl, o, _, -1, _, rfl, rfl, SqL.of L.fo, at_end _ _, ?_⟩
        refine ⟨.ref o, rfl, .inl ⟨rfl, _, SqL.of L.fo⟩, ?_⟩
        refine ⟨.ref l, rfl, l, vs1, rfl, .inl (SqL.of L.lo), _, 1, rfl, rfl, _, rfl, by omega, by omega, fun D nD => ?_⟩
        have s1 : Same H1 (upd H1 D (.lst [])) := same_new nD
        have hn : ((vs1.length : Int) - 1).toNat = m := by
          have := L.len
          omega
        show ∃ W : Nat → Nat → Hp → Prop, _
        rw [hn]
        refine lc_range (lo := 0) (n := m) (fun i Hc => ∃ acc, Hc D = some (.lst acc) ∧ acc.length = i ∧ Same H1 Hc ∧ RVs K Hc acc ((stepL t cs).take i)) ⟨[], upd_same, rfl, s1, ?_⟩ ?_ ?_
        · rw [List.take_zero]
          exact .nil
        · rintro i Hc hi ⟨acc, eD, la, sc, rc⟩
          have g1 : i < cs.length := by
            have := L.len
            omega
          have g2 : i + 1 < cs.length := by
            have := L.len
            omega
          have c1 : cs[i]? = some cs[i] := List.getElem?_eq_getElem g1
          have c2 : cs[i + 1]? = some cs[i + 1] := List.getElem?_eq_getElem g2
          obtain ⟨v1, w1, r1⟩ := pr_get (L.rs.same sc) c1
          obtain ⟨v2, w2, r2⟩ := pr_get (L.rs.same sc) c2
          have lo2 : SqL K Hc l vs1 := SqL.of (sc _ _ L.lo)
          have z0 : ((0 : Int) + (i : Int)) = (i : Int) := by omega
          refine ⟨rfl, ?_⟩
          refine ⟨.ref l, rfl, _, rfl, l, vs1, _, v1, rfl, rfl, lo2, at_of z0 w1, ?_⟩
          refine ⟨.ref l, rfl, _, rfl, _, 1, rfl, rfl, l, vs1, _, v2, rfl, rfl, lo2, at_of (j := i + 1) (by omega) w2, ?_⟩
          have lv := lv_le xs.length (by have := L.lev; omega)
          have z1 := L.szs _ (List.mem_of_getElem? c1)
          have z2 := L.szs _ (List.mem_of_getElem? c2)
          refine ⟨u, rfl, v1, v2, u, _, _, t, _, _, 4, 4, rfl, r1, r2, ht.same (L.same.trans sc), z1, z2, hst, by omega, by omega, fun H2 v' s2 r' => ?_⟩
          refine ⟨acc, s2 _ _ eD, by exact small1000 (by omega), acc ++ [v'], upd_same, ?_, ?_, ?_⟩
          · rw [List.length_append, la]
            rfl
          · intro b ob e
            have nb : b ≠ D := ne_of_none e nD
            rw [upd_ne nb]
            exact s2 _ _ (sc _ _ e)
          · have eD2 : H2 D = some (.lst acc) := s2 _ _ eD
            have b2 : But D H2 (upd H2 D (.lst (acc ++ [v']))) := But.upd_self
            rw [List.take_add_one, stepL_get t cs i _ _ c1 c2]
            exact pr_append ((rc.same s2).but b2 eD2) (.cons (r'.but b2 eD2) .nil)
        · rintro Hc ⟨acc, eD, la, sc, rc⟩
          have hsl : (stepL t cs).length = m := by
            rw [stepL_len, L.len]
            rfl
          rw [List.take_of_length_le (by omega)] at rc
          have fo2 : Hc o = some (.lst (xs ++ [.ref l])) := sc _ _ L.fo
          have nDo : D ≠ o := fun e => by
            rw [e] at nD
            rw [L.fo] at nD
            cases nD
          refine ⟨o, _, _, rfl, rfl, fo2, ?_, ?_⟩
          · rw [List.length_append]
            refine small1000 ?_
            have := L.lev
            show xs.length + 1 ≤ 1000
            omega
          · have b2 : But o Hc (upd Hc o (.lst ((xs ++ [.ref l]) ++ [.ref D]))) := But.upd_self
            have hxl : (xs ++ [V.ref l]).length = xs.length + 1 := by
              rw [List.length_append]
              rfl
            refine ⟨D, xs ++ [.ref l], acc, stepL t cs, _, _, rfl, ⟨?_, L.ho, upd_same, ?_, rc.but b2 fo2, by omega, ?_, ?_, ?_⟩⟩
            · intro b ob e
              have nb : b ≠ o := ne_of_none e L.ho
              rw [upd_ne nb]
              exact sc _ _ (L.same _ _ e)
            · rw [upd_ne nDo]
              exact eD
            · rw [dc_step t (by have := L.len; omega)]
              exact L.val
            · have e1 := L.lev
              have e2 := L.len
              rw [hxl, hsl]
              omega
            · rw [hxl]
              exact stepL_mem t _ _ (fun p q hp hq => Sz.mix hp hq hst) cs L.szs
      · -- the end
        have e2 : ¬ (1 : Int) < (vs1.length : Int) := fun q => e (decide_eq_true q)
        have hm : m = 0 := by
          have := L.len
          omega
        subst hm
        obtain ⟨c, rfl⟩ : ∃ c, cs = [c] := by
          have e3 := L.len
          match cs, e3 with
          | [c], _ => exact ⟨c, rfl⟩
        obtain ⟨v, hv1, rv⟩ := pr_get (i := 0) L.rs rfl
        have evs : vs1 = [v] := by
          match vs1, hl1, hv1 with
          | [x], _, hv1 =>
            have e4 := Option.some.inj hv1
            rw [e4]
        have val : c = dc t qs := L.val
        subst evs
        rw [val] at rv
        exact ⟨.ref o, rfl, k H1 o l xs v L.same L.fo L.lo rv⟩
/-! ### row_value -/
theorem scRowValue : FnScope ["row", "t"] ["row", "t"] (defScope sRowValue) := ⟨rfl, rfl, rfl, by decide +kernel, rfl, by decide +kernel, by decide +kernel⟩
def spRowValue (K : PySem.W.Frag) : Sp := fun vs H Q _ => ∃ (a : Addr) (u : V) (qs : List Rat) (t : Rat), vs = [.ref a, u] ∧ RT K H a qs ∧ RV K H u t ∧ 1 ≤ qs.length ∧ qs.length ≤ 7 ∧ (∀ q ∈ qs, Sz 4 4 q) ∧ Sz 4 4 t ∧
  Gives K H Q (dc t qs)
theorem ok_rowValue {f : Addr} {fd : FuncData} (F : Fun K "row_value" "row_value" sRowValue f fd) (GW : Cal P w K mg base 3 "need_row" ["value"] (spNeedRow K)) (GN : Cal P w K mg base 3 "need_ratio" ["value"] (spNeedRatio K))
    (GL : Cal P w K mg base 4 "ladder" ["row", "t"] (spLadder K)) : FnOk P w K mg base CX0 5 f fd ["row", "t"] (spRowValue K) := by
  refine F.ok (k := 4) scRowValue (fun vs H Q E h => ?_) (fun cdv A outer s H vs Q E hr h => ?_)
  · obtain ⟨a, u, qs, t, rfl, _⟩ := h
    rfl
  · obtain ⟨a, u, qs, t, rfl, hR, ht, h1, h7, hs, hst, k⟩ := h
    refine ⟨_, pss_cons (ps_expr (pcal GW (hr.mono (by decide)) (by rfl) (pa_cons (pv 0) pa_nil))) (pss_cons (ps_expr (pcal GN (hr.mono (by decide)) (by rfl) (pa_cons (pv 1) pa_nil)))
      (pss_one (ps_ret (pe_ix ix_list (pe_ix ix_list (pcal GL hr (by rfl) (pa_cons (pv 0) (pa_cons (pv 1) pa_nil))) (pe_un un_neg pe_int) (fun _ _ => rfl)) pe_int (fun _ _ => rfl))))), ?_⟩
    refine ⟨_, rfl, a, qs, rfl, hR, h1, by omega, fun H1 s1 => ?_⟩
    refine ⟨u, rfl, u, t, rfl, ht.same s1, ?_⟩
    refine ⟨_, rfl, u, rfl, a, u, qs, t, rfl, hR.same s1, ht.same s1, h1, h7, hs, hst, fun H2 o l xs v s2 fo lo rv => ?_⟩
    refine ⟨1, rfl, o, _, -1, _, rfl, rfl, SqL.of fo, at_end _ _, ?_⟩
    refine ⟨l, _, 0, v, rfl, rfl, SqL.of lo, atI_nat (j := 0) rfl, ?_⟩
    exact k H2 v (s1.trans s2) rv
end
end BZ
end
section
set_option maxRecDepth 100000
namespace BZ
open PySem PySem.Spec PyProof.Rows L2
/-- the law's own state at s: the script's address, then three ints -/
def StC (s z : Addr) (H : Hp) : Prop := ∃ c d e : Int, H s = some (.lst [.ref z, .int c, .int d, .int e]) ∧ 0 ≤ c
theorem StC.same {s z : Addr} {H H' : Hp} (h : StC s z H) (e : Same H H') : StC s z H' := by
  obtain ⟨a, b, c, h1, h2⟩ := h
  exact ⟨a, b, c, e _ _ h1, h2⟩
theorem StC.script {K : PySem.W.Frag} {s z : Addr} {H H' : Hp} {ns : List Int} (h : StC s z H) (e : But s H H') (q : SqL K H z (ns.map V.int)) : SqL K H' z (ns.map V.int) := by
  obtain ⟨a, b, c, h1, h2⟩ := h
  exact e.script h1 q
theorem RV.st {K : PySem.W.Frag} {s z : Addr} {H H' : Hp} {v : V} {q : Rat} (h : RV K H v q) (e : But s H H') (st : StC s z H) : RV K H' v q := by
  obtain ⟨a, b, c, h1, h2⟩ := st
  exact h.but e h1
theorem RVs.st {K : PySem.W.Frag} {s z : Addr} {H H' : Hp} {vs : List V} {qs : List Rat} (h : RVs K H vs qs) (e : But s H H') (st : StC s z H) : RVs K H' vs qs := by
  obtain ⟨a, b, c, h1, h2⟩ := st
  exact h.but e h1
theorem RT.st {K : PySem.W.Frag} {s z : Addr} {H H' : Hp} {a : Addr} {qs : List Rat} (h : RT K H a qs) (e : But s H H') (st : StC s z H) : RT K H' a qs := by
  obtain ⟨a, b, c, h1, h2⟩ := st
  exact h.but e h1
theorem q0 {α : Type} {a b c d : α} : atI [a, b, c, d] 0 = some a := atI_nat (j := 0) rfl
theorem q1 {α : Type} {a b c d : α} : atI [a, b, c, d] 1 = some b := atI_nat (j := 1) rfl
theorem q2 {α : Type} {a b c d : α} : atI [a, b, c, d] 2 = some c := atI_nat (j := 2) rfl
theorem q3 {α : Type} {a b c d : α} : atI [a, b, c, d] 3 = some d := atI_nat (j := 3) rfl
section
variable {P : Program} {w : World} {K : PySem.W.Frag} {mg : Str → Option Value} {base : Heap}
/-! ### taken -/
theorem scTaken : FnScope ["_law_row_here", "_law_many", "_law_found", "_law_cell"] ["_law_row_here", "_law_many"] (defScope sTaken) := ⟨rfl, rfl, rfl, by decide +kernel, rfl, by decide +kernel, by decide +kernel⟩
def spTaken (K : PySem.W.Frag) : Sp := fun vs H Q _ => ∃ (s z : Addr) (ns : List Int) (m : Int), vs = [.ref s, .int m] ∧ StC s z H ∧ SqL K H z (ns.map V.int) ∧ 0 < m ∧ m < 1000 ∧
  ∀ (H' : Hp) (v : Int), But s H H' → StC s z H' → 0 ≤ v → v < m → Q (.int v) H'
theorem ok_taken {f : Addr} {fd : FuncData} (F : Fun K "_law_taken" "_law_taken" sTaken f fd) (N : Nm mg) : FnOk P w K mg base CX0 1 f fd ["_law_row_here", "_law_many"] (spTaken K) := by
  refine F.ok (k := 0) scTaken (fun vs H Q E h => ?_) (fun cdv A outer sh H vs Q E hr h => ?_)
  · obtain ⟨s, z, ns, m, rfl, _⟩ := h
    rfl
  · obtain ⟨s, z, ns, m, rfl, ⟨c, d, e, hs, hc⟩, hz, hm0, hm1, k⟩ := h
    have hmod : ∀ x : Int, 0 ≤ x % m ∧ x % m < m := fun x => ⟨Int.emod_nonneg x (by omega), Int.emod_lt_of_pos x hm0⟩
    have cm : m ≠ 0 ∧ m.natAbs < 1073741824 := ⟨by omega, by omega⟩
    refine ⟨_, pss_cons (ps_if (pt_cmpR op_gt (pe_ix ix_list (pv 0) pe_int (fun _ _ => rfl)) pe_int (nomark _))
        (pss_cons (ps_set (i := 2) scTaken.nd rfl (.inl rfl) (pe_op op_mod (pe_callTy call_int1 (by rfl) N.int (by decide +kernel) (pa_cons (pe_ix ix_list (pv 0) pe_int (fun _ _ => rfl)) pa_nil)) (pv 1)))
        (pss_cons (ps_asg (pe_op op_fdivN (pe_ix ix_list (pv 0) pe_int (fun _ _ => rfl)) (pv 1)) (pg_sub (pv 0) pe_int set_list))
        (pss_one (ps_ret (pv 2))))) pss_nil)
      (pss_cons (ps_asg (pe_op op_add (pe_ix ix_list (pv 0) pe_int (fun _ _ => rfl)) pe_int) (pg_sub (pv 0) pe_int set_list))
      (pss_cons (ps_if (pt_cmpR op_gt (pe_ix ix_list (pv 0) pe_int (fun _ _ => rfl)) (pe_callB call_len_seq (by rfl) N.len PySem.boot_len (pa_cons (pe_ix ix_list (pv 0) pe_int (fun _ _ => rfl)) pa_nil)) (nomark _))
        (pss_cons (ps_asg (pe_op op_mod (pe_callTy call_int1 (by rfl) N.int (by decide +kernel) (pa_cons (pe_op op_add (pe_op op_mul (pe_ix ix_list (pv 0) pe_int (fun _ _ => rfl)) pe_int) pe_int) pa_nil)) pe_int) (pg_sub (pv 0) pe_int set_list))
        (pss_one (ps_ret (pe_op op_mod (pe_callTy call_int1 (by rfl) N.int (by decide +kernel) (pa_cons (pe_op op_fdiv (pe_ix ix_list (pv 0) pe_int (fun _ _ => rfl)) pe_int) pa_nil)) (pv 1))))) pss_nil)
      (pss_cons (ps_set (i := 3) scTaken.nd rfl (.inl rfl) (pe_ix ix_list (pe_ix ix_list (pv 0) pe_int (fun _ _ => rfl)) (pe_op op_sub (pe_ix ix_list (pv 0) pe_int (fun _ _ => rfl)) pe_int) (fun _ _ => rfl)))
      (pss_cons (ps_asg (pe_op op_mod (pe_callTy call_int1 (by rfl) N.int (by decide +kernel) (pa_cons (pe_op op_add (pe_op op_add (pe_op op_mul (pe_ix ix_list (pv 0) pe_int (fun _ _ => rfl)) pe_int) (pv 3)) pe_int) pa_nil)) pe_int) (pg_sub (pv 0) pe_int set_list))
      (pss_cons (ps_if (pt_cmpR op_ge (pv 3) (pe_op op_pow pe_int pe_int) (nomark _))
        (pss_one (ps_asg (pe_op op_fdivN (pv 3) (pv 1)) (pg_sub (pv 0) pe_int set_list))) pss_nil)
      (pss_one (ps_ret (pe_op op_mod (pe_callTy call_int1 (by rfl) N.int (by decide +kernel) (pa_cons (pv 3) pa_nil)) (pv 1))))))))), ?_⟩
    refine ⟨_, rfl, s, _, 3, _, rfl, rfl, SqL.of hs, q3, e, 0, rfl, rfl, _, rfl, ite2 (fun _ => ?_) (fun _ => ?_)⟩
    · -- what is left of a great cell
      refine ⟨_, rfl, s, _, 3, _, rfl, rfl, SqL.of hs, q3, .inl ⟨e, rfl, _, rfl, e, m, rfl, rfl, hm0, ?_⟩⟩
      refine ⟨_, rfl, s, _, 3, _, rfl, rfl, SqL.of hs, q3, _, rfl, e, m, rfl, rfl, cm, ?_⟩
      refine ⟨_, rfl, s, _, 3, 3, rfl, rfl, hs, rfl, ?_⟩
      exact ⟨_, rfl, k _ _ But.upd_self ⟨c, d, _, upd_same, hc⟩ (hmod e).1 (hmod e).2⟩
    · -- the next cell's number
      refine ⟨_, rfl, s, _, 1, _, rfl, rfl, SqL.of hs, q1, c, 1, rfl, rfl, ?_⟩
      refine ⟨_, rfl, s, _, 1, 1, rfl, rfl, hs, rfl, ?_⟩
      have hs1 : (upd H s (.lst [.ref z, .int (c + 1), .int d, .int e])) s = some (.lst [.ref z, .int (c + 1), .int d, .int e]) := upd_same
      have b1 : But s H (upd H s (.lst [.ref z, .int (c + 1), .int d, .int e])) := But.upd_self
      have hz1 := b1.script hs hz
      show tSeq _ _ _ _ (upd H s (.lst [.ref z, .int (c + 1), .int d, .int e]))
      generalize upd H s (.lst [.ref z, .int (c + 1), .int d, .int e]) = H1 at hs1 b1 hz1 ⊢
      refine ⟨_, rfl, s, _, 1, _, rfl, rfl, SqL.of hs1, q1, _, rfl, s, _, 0, _, rfl, rfl, SqL.of hs1, q0, z, _, rfl, .inl hz1, _, _, rfl, rfl, _, rfl, ite2 (fun _ => ?_) (fun e1 => ?_)⟩
      · -- behind the script
        refine ⟨_, rfl, s, _, 2, _, rfl, rfl, SqL.of hs1, q2, d, 48271, rfl, rfl, .inr ⟨by decide, by decide⟩, _, 11, rfl, rfl, .inl ⟨_, rfl, _, 2147483647, rfl, rfl, (by show (0 : Int) < 2147483647; decide), ?_⟩⟩
        refine ⟨_, rfl, s, _, 2, 2, rfl, rfl, hs1, rfl, ?_⟩
        refine ⟨_, rfl, s, _, 2, _, rfl, rfl, SqL.of upd_same, q2, _, 7, rfl, rfl, ⟨by decide, by decide⟩, .inl ⟨_, rfl, _, rfl, _, m, rfl, rfl, hm0, ?_⟩⟩
        exact k _ _ (b1.trans But.upd_self) ⟨c + 1, _, e, upd_same, by omega⟩ (hmod _).1 (hmod _).2
      · have e2 : ¬ (c + 1 > ((ns.map V.int).length : Int)) := fun q => e1 (decide_eq_true q)
        have hl : (ns.map V.int).length = ns.length := List.length_map ..
        have hlt : c.toNat < ns.length := by omega
        have g : (ns.map V.int)[c.toNat]? = some (.int ns[c.toNat]) := by
          rw [List.getElem?_map, List.getElem?_eq_getElem hlt]
          rfl
        refine ⟨_, rfl, s, _, 0, _, rfl, rfl, SqL.of hs1, q0, _, rfl, s, _, 1, _, rfl, rfl, SqL.of hs1, q1, _, 1, rfl, rfl, z, _, _, _, rfl, rfl, hz1, at_of (j := c.toNat) (by omega) g, ?_⟩
        generalize ns[c.toNat] = x
        refine ⟨_, rfl, s, _, 2, _, rfl, rfl, SqL.of hs1, q2, d, 48271, rfl, rfl, .inr ⟨by decide, by decide⟩, _, rfl, _, x, rfl, rfl, _, 11, rfl, rfl, .inl ⟨_, rfl, _, 2147483647, rfl, rfl, (by show (0 : Int) < 2147483647; decide), ?_⟩⟩
        refine ⟨_, rfl, s, _, 2, 2, rfl, rfl, hs1, rfl, ?_⟩
        refine ⟨_, rfl, 10, 18, rfl, rfl, ⟨by decide, by decide, by decide⟩, x, _, rfl, rfl, _, rfl, ite2 (fun _ => ?_) (fun _ => ?_)⟩
        · refine ⟨_, rfl, _, rfl, x, m, rfl, rfl, cm, _, rfl, s, _, 3, 3, rfl, rfl, upd_same, rfl, ?_⟩
          refine ⟨_, rfl, .inl ⟨x, rfl, _, rfl, x, m, rfl, rfl, hm0, ?_⟩⟩
          exact k _ _ ((b1.trans But.upd_self).trans But.upd_self) ⟨c + 1, _, _, upd_same, by omega⟩ (hmod _).1 (hmod _).2
        · refine ⟨_, rfl, .inl ⟨x, rfl, _, rfl, x, m, rfl, rfl, hm0, ?_⟩⟩
          exact k _ _ (b1.trans But.upd_self) ⟨c + 1, _, e, upd_same, by omega⟩ (hmod _).1 (hmod _).2
end
end BZ
end
section
set_option maxRecDepth 100000
namespace BZ
open PySem PySem.Spec PyProof.Rows L2
theorem abs_nat (n : Int) : (if n < 0 then -n else n) = ((n.natAbs : Nat) : Int) := by
  split <;> omega
theorem euc_step {n x y : Nat} (h : y ≠ 0) : euc (n + 1) x y = euc n y (x % y) := if_neg h
theorem euc_stop (n x : Nat) : euc n x 0 = (x, 0) := by
  cases n with
  | zero => rfl
  | succ n => exact if_pos rfl
section
variable {P : Program} {w : World} {K : PySem.W.Frag} {mg : Str → Option Value} {base : Heap}
/-! ### the law's own made -/
theorem scLMade : FnScope ["_law_top", "_law_low", "_law_one", "_law_other", "_law_turn"] ["_law_top", "_law_low"] (defScope sLMade) := ⟨rfl, rfl, rfl, by decide +kernel, rfl, by decide +kernel, by decide +kernel⟩
theorem ok_lmade {f : Addr} {fd : FuncData} (F : Fun K "_law_made" "_law_made" sLMade f fd) (N : Nm mg) : FnOk P w K mg base CX0 1 f fd ["_law_top", "_law_low"] (spMade K 4000) := by
  refine F.ok (k := 0) scLMade (fun vs H Q E h => ?_) (fun cdv A outer s H vs Q E hr h => ?_)
  · obtain ⟨n, d, b, rfl, _⟩ := h
    rfl
  · obtain ⟨n, d, b, rfl, hd, hb, hB, k⟩ := h
    refine ⟨_, pss_cons (ps_par (i := 2) (j := 3) rfl scLMade.nd rfl rfl (by decide) rfl rfl (pa_cons (pe_callB call_abs (by rfl) N.abs (by decide +kernel) (pa_cons (pv 0) pa_nil)) (pa_cons (pe_callB call_abs (by rfl) N.abs (by decide +kernel) (pa_cons (pv 1) pa_nil)) pa_nil)) (by rfl))
      (pss_cons (ps_for PassesOwn.never rfl (pi_range1 (by rfl) N.range (pa_cons pe_int pa_nil)) (pg_name (i := 4) scLMade.nd rfl (.inl rfl))
        (pss_cons (ps_if (pt_cmpR op_eq (pv 3) pe_int (nomark _)) (pss_one ps_break) pss_nil)
        (pss_one (ps_par (i := 2) (j := 3) rfl scLMade.nd rfl rfl (by decide) rfl rfl (pa_cons (pv 3) (pa_cons (pe_op op_mod (pv 2) (pv 3)) pa_nil)) (by rfl)))))
      (pss_cons (ps_set (i := 2) scLMade.nd rfl (.inl rfl) (pe_ifExp (pt_cmpR op_lt (pv 1) pe_int (nomark _)) (pe_op op_sub pe_int (pv 2)) (pv 2)))
      (pss_one (ps_ret (pe_tup (pa_cons (pe_op op_fdivW (pv 0) (pv 2)) (pa_cons (pe_op op_fdivW (pv 1) (pv 2)) pa_nil))))))), ?_⟩
    refine ⟨_, rfl, n, rfl, _, rfl, d, rfl, _, _, rfl, ?_⟩
    refine ⟨10000, rfl, by decide, by decide, ?_⟩
    refine for_rangeF (lo := 0) (n := 10000) (fun σ H' => H' = H ∧ ∃ y t, σ = [some (.int n), some (.int d), some (.int ((Nat.gcd n.natAbs d.natAbs : Nat) : Int)), y, t]) ?_
      (fun i σ H' => H' = H ∧ ∃ (x y : Nat) (t : Option V), σ = [some (.int n), some (.int d), some (.int (x : Int)), some (.int (y : Int)), t] ∧ euc (10000 - i) x y = (Nat.gcd n.natAbs d.natAbs, 0)) ?_ ?_ ?_
    · rintro σ H' ⟨rfl, y, t, rfl⟩
      refine ⟨_, rfl, d, 0, rfl, rfl, _, rfl, ite2 (fun e => ?_) (fun _ => ?_)⟩
      · exact absurd (of_decide_eq_true e) (by omega)
      refine ⟨_, rfl, ?_⟩
      refine ⟨_, rfl, _, rfl, n, _, rfl, rfl, gcd_div hd hb (by omega), ?_⟩
      refine ⟨_, rfl, _, rfl, d, _, rfl, rfl, gcd_div hd hb (by omega), ?_⟩
      refine ⟨(by show 2 ≤ sizeLine; decide), fun p hp => ?_⟩
      exact k _ _ (same_new hp) (RV.new (mk_num hd).symm (mk_den hd).symm)
    · refine ⟨rfl, n.natAbs, d.natAbs, none, ?_, ?_⟩
      · rw [abs_nat, abs_nat]
        rfl
      · exact euc_gcd (b + 1) 10000 _ _ (lt_of_le_pow hb (Nat.lt_succ_self b)) (by omega)
    · rintro fin i σ H' hi ⟨rfl, x, y, t, rfl, he⟩
      refine ⟨_, rfl, rfl, _, rfl, ite2 (fun e => ?_) (fun e => ?_)⟩
      · have e1 : (y : Int) = 0 := V.int.inj (of_decide_eq_true e)
        have e2 : y = 0 := by omega
        subst e2
        rw [euc_stop] at he
        have e3 : x = Nat.gcd n.natAbs d.natAbs := congrArg Prod.fst he
        subst e3
        exact fin _ _ ⟨rfl, _, _, rfl⟩
      · have e1 : y ≠ 0 := fun q => e (by subst q; rfl)
        have e4 : 10000 - i = (10000 - (i + 1)) + 1 := by omega
        rw [e4, euc_step e1] at he
        refine ⟨_, rfl, _, rfl, _, rfl, x, y, rfl, rfl, (by show (0 : Int) < (y : Int); omega), _, _, rfl, ?_⟩
        exact ⟨rfl, y, x % y, _, rfl, he⟩
    · rintro σ H' ⟨rfl, x, y, t, rfl, he⟩
      have e1 : x = Nat.gcd n.natAbs d.natAbs := congrArg Prod.fst he
      subst e1
      exact ⟨rfl, _, _, rfl⟩
/-! ### the law's own plus, times, below -/
theorem scLPlus : FnScope ["_law_one", "_law_other"] ["_law_one", "_law_other"] (defScope sLPlus) := ⟨rfl, rfl, rfl, by decide +kernel, rfl, by decide +kernel, by decide +kernel⟩
theorem scLTimes : FnScope ["_law_one", "_law_other"] ["_law_one", "_law_other"] (defScope sLTimes) := ⟨rfl, rfl, rfl, by decide +kernel, rfl, by decide +kernel, by decide +kernel⟩
theorem scLBelow : FnScope ["_law_one", "_law_other"] ["_law_one", "_law_other"] (defScope sLBelow) := ⟨rfl, rfl, rfl, by decide +kernel, rfl, by decide +kernel, by decide +kernel⟩
theorem ok_lplus {f : Addr} {fd : FuncData} (F : Fun K "_law_plus" "_law_plus" sLPlus f fd) (GM : Cal P w K mg base 1 "_law_made" ["_law_top", "_law_low"] (spMade K 4000)) :
    FnOk P w K mg base CX0 2 f fd ["_law_one", "_law_other"] (spBin K 4000 fun q r => q + r) := by
  refine F.ok (k := 1) scLPlus (spBin_len rfl) (fun cdv A outer s H vs Q E hr h => ?_)
  obtain ⟨v, u, q, r, a, b, a', b', rfl, ⟨x, rfl, hq⟩, ⟨y, rfl, hr'⟩, z1, z2, hA, hB, k⟩ := h
  refine ⟨_, pss_one (ps_ret (pcal GM hr (by rfl) (pa_cons (pe_op op_add (pe_op op_mulW (pe_ix ix_tup (pv 0) pe_int (fun _ _ => rfl)) (pe_ix ix_tup (pv 1) pe_int (fun _ _ => rfl)))
      (pe_op op_mulW (pe_ix ix_tup (pv 1) pe_int (fun _ _ => rfl)) (pe_ix ix_tup (pv 0) pe_int (fun _ _ => rfl))))
    (pa_cons (pe_op op_mulW (pe_ix ix_tup (pv 0) pe_int (fun _ _ => rfl)) (pe_ix ix_tup (pv 1) pe_int (fun _ _ => rfl))) pa_nil)))), ?_⟩
  have hz : b ≤ 4000 ∧ b' ≤ 4000 := by omega
  refine ⟨_, rfl, x, _, 0, _, rfl, rfl, hq, at0, _, rfl, y, _, 1, _, rfl, rfl, hr', at1, _, _, rfl, rfl, mulOk z1.1 z2.2 (by omega), ?_⟩
  refine ⟨_, rfl, y, _, 0, _, rfl, rfl, hr', at0, _, rfl, x, _, 1, _, rfl, rfl, hq, at1, _, _, rfl, rfl, mulOk z2.1 z1.2 (by omega), ?_⟩
  refine ⟨_, _, rfl, rfl, ?_⟩
  refine ⟨_, rfl, x, _, 1, _, rfl, rfl, hq, at1, _, rfl, y, _, 1, _, rfl, rfl, hr', at1, _, _, rfl, rfl, mulOk z1.2 z2.2 (by omega), ?_⟩
  refine ⟨_, _, _, rfl, low_pos q r, low_mul z1 z2, hB, ?_⟩
  rw [add_mk]
  exact k
theorem ok_ltimes {f : Addr} {fd : FuncData} (F : Fun K "_law_times" "_law_times" sLTimes f fd) (GM : Cal P w K mg base 1 "_law_made" ["_law_top", "_law_low"] (spMade K 4000)) :
    FnOk P w K mg base CX0 2 f fd ["_law_one", "_law_other"] (spBin K 4000 fun q r => q * r) := by
  refine F.ok (k := 1) scLTimes (spBin_len rfl) (fun cdv A outer s H vs Q E hr h => ?_)
  obtain ⟨v, u, q, r, a, b, a', b', rfl, ⟨x, rfl, hq⟩, ⟨y, rfl, hr'⟩, z1, z2, hA, hB, k⟩ := h
  refine ⟨_, pss_one (ps_ret (pcal GM hr (by rfl) (pa_cons (pe_op op_mulW (pe_ix ix_tup (pv 0) pe_int (fun _ _ => rfl)) (pe_ix ix_tup (pv 1) pe_int (fun _ _ => rfl)))
    (pa_cons (pe_op op_mulW (pe_ix ix_tup (pv 0) pe_int (fun _ _ => rfl)) (pe_ix ix_tup (pv 1) pe_int (fun _ _ => rfl))) pa_nil)))), ?_⟩
  have hz : b ≤ 4000 ∧ b' ≤ 4000 := by omega
  refine ⟨_, rfl, x, _, 0, _, rfl, rfl, hq, at0, _, rfl, y, _, 0, _, rfl, rfl, hr', at0, _, _, rfl, rfl, mulOk z1.1 z2.1 (by omega), ?_⟩
  refine ⟨_, rfl, x, _, 1, _, rfl, rfl, hq, at1, _, rfl, y, _, 1, _, rfl, rfl, hr', at1, _, _, rfl, rfl, mulOk z1.2 z2.2 (by omega), ?_⟩
  refine ⟨_, _, _, rfl, low_pos q r, low_mul z1 z2, hB, ?_⟩
  rw [mul_mk]
  exact k
def spBelow (K : PySem.W.Frag) : Sp := fun vs H Q _ => ∃ (v u : V) (q r : Rat) (a b a' b' : Nat), vs = [v, u] ∧ RV K H v q ∧ RV K H u r ∧ Sz a b q ∧ Sz a' b' r ∧ a + b' + (a' + b) ≤ 100000 ∧ Q (.bl (decide (q < r))) H
theorem ok_lbelow {f : Addr} {fd : FuncData} (F : Fun K "_law_below" "_law_below" sLBelow f fd) : FnOk P w K mg base CX0 1 f fd ["_law_one", "_law_other"] (spBelow K) := by
  refine F.ok (k := 0) scLBelow (fun vs H Q E h => ?_) (fun cdv A outer s H vs Q E hr h => ?_)
  · obtain ⟨v, u, q, r, a, b, a', b', rfl, _⟩ := h
    rfl
  · obtain ⟨v, u, q, r, a, b, a', b', rfl, ⟨x, rfl, hq⟩, ⟨y, rfl, hr'⟩, z1, z2, hA, k⟩ := h
    refine ⟨_, pss_one (ps_ret (pe_cmpR op_lt (pe_op op_mulW (pe_ix ix_tup (pv 0) pe_int (fun _ _ => rfl)) (pe_ix ix_tup (pv 1) pe_int (fun _ _ => rfl)))
      (pe_op op_mulW (pe_ix ix_tup (pv 1) pe_int (fun _ _ => rfl)) (pe_ix ix_tup (pv 0) pe_int (fun _ _ => rfl))) (nomark _))), ?_⟩
    refine ⟨_, rfl, x, _, 0, _, rfl, rfl, hq, at0, _, rfl, y, _, 1, _, rfl, rfl, hr', at1, _, _, rfl, rfl, mulOk z1.1 z2.2 (by omega), ?_⟩
    refine ⟨_, rfl, y, _, 0, _, rfl, rfl, hr', at0, _, rfl, x, _, 1, _, rfl, rfl, hq, at1, _, _, rfl, rfl, mulOk z2.1 z1.2 (by omega), ?_⟩
    refine ⟨_, _, rfl, rfl, ?_⟩
    have e : decide (q.num * (r.den : Int) < r.num * (q.den : Int)) = decide (q < r) := decide_eq_decide.mpr (lt_mk q r)
    show Q (V.bl (decide (q.num * (r.den : Int) < r.num * (q.den : Int)))) H
    rw [e]
    exact k
end
end BZ
end
section
set_option maxRecDepth 100000
namespace BZ
open PySem PySem.Spec PyProof.Rows L2
theorem Same.atSt {s z : Addr} {H H' : Hp} (e : Same H H') (h : StC s z H) : StC s z H' := h.same e
section
variable {P : Program} {w : World} {K : PySem.W.Frag} {mg : Str → Option Value} {base : Heap}
/-! ### pick -/
theorem scPick : FnScope ["_law_row_here", "_law_things"] ["_law_row_here", "_law_things"] (defScope sPick) := ⟨rfl, rfl, rfl, by decide +kernel, rfl, by decide +kernel, by decide +kernel⟩
def spPick (K : PySem.W.Frag) : Sp := fun vs H Q _ => ∃ (s z p : Addr) (ns ms : List Int), vs = [.ref s, .ref p] ∧ StC s z H ∧ SqL K H z (ns.map V.int) ∧ H p = some (.lst (ms.map V.int)) ∧ 0 < ms.length ∧ ms.length < 1000 ∧
  ∀ (H' : Hp) (v : Int), But s H H' → StC s z H' → v ∈ ms → Q (.int v) H'
theorem ok_pick {f : Addr} {fd : FuncData} (F : Fun K "_law_pick" "_law_pick" sPick f fd) (N : Nm mg) (GT : Cal P w K mg base 1 "_law_taken" ["_law_row_here", "_law_many"] (spTaken K)) :
    FnOk P w K mg base CX0 2 f fd ["_law_row_here", "_law_things"] (spPick K) := by
  refine F.ok (k := 1) scPick (fun vs H Q E h => ?_) (fun cdv A outer sh H vs Q E hr h => ?_)
  · obtain ⟨s, z, p, ns, ms, rfl, _⟩ := h
    rfl
  · obtain ⟨s, z, p, ns, ms, rfl, hs, hz, hp, h0, h1, k⟩ := h
    refine ⟨_, pss_one (ps_ret (pe_ix ix_list (pv 1) (pcal GT hr (by rfl) (pa_cons (pv 0) (pa_cons (pe_callB call_len_seq (by rfl) N.len PySem.boot_len (pa_cons (pv 1) pa_nil)) pa_nil))) (fun _ _ => rfl))), ?_⟩
    have hl : (ms.map V.int).length = ms.length := List.length_map ..
    refine ⟨_, rfl, _, rfl, _, rfl, p, _, rfl, .inl (SqL.of hp), s, z, ns, _, rfl, hs, hz, by omega, by omega, fun H1 v b1 s1 v0 v1 => ?_⟩
    obtain ⟨c, d, e, hs2, _⟩ := hs
    have hps : p ≠ s := by
      refine ne_of hp hs2 fun q => ?_
      have q2 := HO.lst.inj q
      cases ms with
      | nil => cases q2
      | cons a b => cases q2
    have hp1 : H1 p = some (.lst (ms.map V.int)) := b1 _ _ hps hp
    have hlt : v.toNat < ms.length := by omega
    have g : (ms.map V.int)[v.toNat]? = some (.int ms[v.toNat]) := by
      rw [List.getElem?_map, List.getElem?_eq_getElem hlt]
      rfl
    refine ⟨p, _, v, _, rfl, rfl, SqL.of hp1, at_of (j := v.toNat) (by omega) g, ?_⟩
    exact k H1 _ b1 s1 (List.getElem_mem hlt)
/-! ### draw -/
theorem scDraw : FnScope ["_law_row_here", "_law_low"] ["_law_row_here"] (defScope sDraw) := ⟨rfl, rfl, rfl, by decide +kernel, rfl, by decide +kernel, by decide +kernel⟩
def spDraw (K : PySem.W.Frag) : Sp := fun vs H Q _ => ∃ (s z : Addr) (ns : List Int), vs = [.ref s] ∧ StC s z H ∧ SqL K H z (ns.map V.int) ∧
  ∀ (H' : Hp) (v : V) (q : Rat), But s H H' → StC s z H' → RV K H' v q → Sz 3 2 q → Q v H'
theorem ok_draw {f : Addr} {fd : FuncData} (F : Fun K "_law_draw" "_law_draw" sDraw f fd) (GP : Cal P w K mg base 2 "_law_pick" ["_law_row_here", "_law_things"] (spPick K))
    (GT : Cal P w K mg base 1 "_law_taken" ["_law_row_here", "_law_many"] (spTaken K)) (GM : Cal P w K mg base 1 "_law_made" ["_law_top", "_law_low"] (spMade K 4000)) :
    FnOk P w K mg base CX0 3 f fd ["_law_row_here"] (spDraw K) := by
  refine F.ok (k := 2) scDraw (fun vs H Q E h => ?_) (fun cdv A outer sh H vs Q E hr h => ?_)
  · obtain ⟨s, z, ns, rfl, _⟩ := h
    rfl
  · obtain ⟨s, z, ns, rfl, hs, hz, k⟩ := h
    have hr1 : Room 1 _ := hr.mono (by decide)
    refine ⟨_, pss_cons (ps_set (i := 1) scDraw.nd rfl (.inl rfl) (pcal GP hr (by rfl) (pa_cons (pv 0) (pa_cons (pe_lst (pa_cons pe_int (pa_cons pe_int (pa_cons pe_int (pa_cons pe_int (pa_cons pe_int pa_nil)))))) pa_nil))))
      (pss_one (ps_ret (pcal GM hr1 (by rfl) (pa_cons (pe_op op_sub (pcal GT hr1 (by rfl) (pa_cons (pv 0) (pa_cons pe_int pa_nil))) pe_int) (pa_cons (pv 1) pa_nil))))), ?_⟩
    refine ⟨_, rfl, (by show 5 ≤ sizeLine; decide), fun p np => ?_⟩
    have s1 : Same H (upd H p (.lst [.int 1, .int 1, .int 2, .int 3, .int 4])) := same_new np
    refine ⟨s, z, p, ns, [1, 1, 2, 3, 4], rfl, hs.same s1, s1.seq hz, upd_same, by decide, by decide, fun H2 v b2 st2 hv => ?_⟩
    have b02 : But s H H2 := (Same.but s1).trans b2
    refine ⟨_, rfl, s, z, ns, 13, rfl, st2, hs.script b02 hz, by decide, by decide, fun H3 x b3 st3 x0 x1 => ?_⟩
    have hv4 : 0 < v ∧ v ≤ 4 := by
      simp only [List.mem_cons, List.not_mem_nil, or_false] at hv
      omega
    refine ⟨x, 6, rfl, rfl, _, rfl, x - 6, v, 2, rfl, hv4.1, by show v.natAbs ≤ 4; omega, by decide, fun H4 u s4 hu => ?_⟩
    refine k H4 u _ (b02.trans (b3.trans (Same.but s4))) (st3.same s4) hu (mk_sz hv4.1 ?_ ?_)
    · show (x - 6).natAbs ≤ 8
      omega
    · show v.natAbs ≤ 4
      omega
/-! ### row -/
theorem scRow : FnScope ["_law_row_here", "_law_most", "_law_at_here"] ["_law_row_here", "_law_most"] (defScope sRow) := ⟨rfl, rfl, rfl, by decide +kernel, rfl, by decide +kernel, by decide +kernel⟩
def spRow (K : PySem.W.Frag) : Sp := fun vs H Q _ => ∃ (s z : Addr) (ns : List Int), vs = [.ref s, .int 6] ∧ StC s z H ∧ SqL K H z (ns.map V.int) ∧
  ∀ (H' : Hp) (a : Addr) (qs : List Rat), But s H H' → StC s z H' → RT K H' a qs → 1 ≤ qs.length → qs.length ≤ 7 → (∀ q ∈ qs, Sz 3 2 q) → Q (.ref a) H'
theorem ok_row {f : Addr} {fd : FuncData} (F : Fun K "_law_row" "_law_row" sRow f fd) (N : Nm mg) (GT : Cal P w K mg base 1 "_law_taken" ["_law_row_here", "_law_many"] (spTaken K))
    (GD : Cal P w K mg base 3 "_law_draw" ["_law_row_here"] (spDraw K)) : FnOk P w K mg base CX0 4 f fd ["_law_row_here", "_law_most"] (spRow K) := by
  refine F.ok (k := 3) scRow (fun vs H Q E h => ?_) (fun cdv A outer sh H vs Q E hr h => ?_)
  · obtain ⟨s, z, ns, rfl, _⟩ := h
    rfl
  · obtain ⟨s, z, ns, rfl, hs, hz, k⟩ := h
    refine ⟨_, pss_one (ps_ret (pe_callTy call_tuple_of (by rfl) N.tuple (by decide +kernel) (pa_cons (pe_lc (own := [("_law_at_here", 2)]) (g := gName 2) (tt := tYes) rfl scRow.nd
      (pi_range1 (by rfl) N.range (pa_cons (pe_op op_add pe_int (pcal GT (hr.mono (by decide)) (by rfl) (pa_cons (pv 0) (pa_cons (pe_op op_add (pv 1) pe_int) pa_nil)))) pa_nil))
      (blkOk_by (own := [("_law_at_here", 2)]) (N := ["_law_row_here", "_law_most", "_law_at_here"]) (sc := defScope sRow) (by decide +kernel))
      (fun _ _ _ _ _ => pg_name (i := 2) scRow.nd rfl (Or.inl rfl)) (fun _ _ _ _ _ => pts_nil)
      (fun _ _ _ _ _ => pcal GD hr (by rfl) (pa_cons (pv 0) pa_nil))) pa_nil))), ?_⟩
    refine ⟨_, rfl, _, rfl, 6, 1, rfl, rfl, s, z, ns, 7, rfl, hs, hz, by decide, by decide, fun H1 m b1 st1 m0 m1 => ?_⟩
    refine ⟨1, m, rfl, rfl, 1 + m, rfl, by omega, by omega, fun D nD => ?_⟩
    have s1 : Same H1 (upd H1 D (.lst [])) := same_new nD
    refine lc_range (lo := 0) (n := (1 + m).toNat) (fun i Hc => ∃ acc qs, Hc D = some (.lst acc) ∧ acc.length = i ∧ But s H1 Hc ∧ StC s z Hc ∧ RVs K Hc acc qs ∧ ∀ q ∈ qs, Sz 3 2 q) ⟨[], [], upd_same, rfl, Same.but s1, st1.same s1, .nil, fun q hq => by cases hq⟩ ?_ ?_
    · rintro i Hc hi ⟨acc, qs, eD, la, bc, stc, rc, zc⟩
      refine ⟨rfl, ?_⟩
      refine ⟨_, rfl, s, z, ns, rfl, stc, hs.script (b1.trans bc) hz, fun H2 v q b2 st2 rv zq => ?_⟩
      have nDs : D ≠ s := fun e => by
        obtain ⟨c, d, e', h1, _⟩ := st1
        rw [e] at nD
        rw [h1] at nD
        cases nD
      have eD2 : H2 D = some (.lst acc) := b2 _ _ nDs eD
      have bD : But D H2 (upd H2 D (.lst (acc ++ [v]))) := But.upd_self
      refine ⟨acc, eD2, small1000 (by omega), acc ++ [v], qs ++ [q], upd_same, ?_, ?_, ?_, ?_, ?_⟩
      · rw [List.length_append, la]
        rfl
      · intro b o n e
        have nb : b ≠ D := ne_of_none e nD
        rw [upd_ne nb]
        exact b2 _ _ n (bc _ _ n e)
      · obtain ⟨c, d, e', h1, h2⟩ := st2
        refine ⟨c, d, e', ?_, h2⟩
        rw [upd_ne nDs.symm]
        exact h1
      · exact pr_append ((rc.st b2 stc).but bD eD2) (.cons (rv.but bD eD2) .nil)
      · intro x hx
        rcases List.mem_append.mp hx with hx | hx
        · exact zc x hx
        · rw [List.mem_singleton.mp hx]
          exact zq
    · rintro Hc ⟨acc, qs, eD, la, bc, stc, rc, zc⟩
      refine ⟨D, acc, rfl, .inl ⟨SqL.of eD, fun l nl => ?_⟩⟩
      have s3 : Same Hc (upd Hc l (.tup acc)) := same_new nl
      have hl := pr_len rc
      exact k _ l qs ((b1.trans bc).trans (Same.but s3)) (stc.same s3) ⟨acc, newT, rc.same s3⟩ (by omega) (by omega) zc
end
end BZ
end
section
set_option maxRecDepth 100000
namespace BZ
open PySem PySem.Spec PyProof.Rows L2
/-! ### ratios compared -/
def dq (q : Rat) : PyData := .tuple [.int q.num, .int (q.den : Int)]
theorem dq_shaped (q : Rat) : SeqAt.shaped (dq q) = true := by
  unfold SeqAt.shaped dq
  simp [PyData.canLay0, PyData.depth, PyData.canLayAll0, PyData.depthAll]
theorem dq_eqv (q r : Rat) : PyData.eqv (dq q) (dq r) = decide (q = r) := by
  by_cases h : q = r
  · subst h
    rw [decide_eq_true rfl]
    show (q.num == q.num && ((q.den : Int) == (q.den : Int) && true)) = true
    simp
  · rw [decide_eq_false h]
    show (q.num == r.num && ((q.den : Int) == (r.den : Int) && true)) = false
    cases hb : (q.num == r.num && ((q.den : Int) == (r.den : Int) && true)) with
    | false => rfl
    | true =>
      exfalso
      simp only [Bool.and_eq_true, beq_iff_eq, Bool.and_true] at hb
      exact h (Rat.ext hb.1 (by have := hb.2; omega))
theorem dq_of {K : PySem.W.Frag} {H : Hp} {v : V} {q : Rat} (h : RV K H v q) : Dp K H v (dq q) := by
  obtain ⟨a, rfl, hT⟩ := h
  exact .tup hT (.cons (.int _) (.cons (.int _) .nil))
theorem dq_new {K : PySem.W.Frag} {H : Hp} {p : Addr} {q : Rat} {n d : Int} (e1 : n = q.num) (e2 : d = (q.den : Int)) : Dp K (upd H p (.tup [.int n, .int d])) (.ref p) (dq q) := dq_of (RV.new e1 e2)
/-! ### rules that hide which object comes -/
section
variable {X : Cx}
def gRep (K : PySem.W.Frag) : R2 := fun x y H Q => ∃ (l : Addr) (k : Nat) (xs : List V), x = .ref l ∧ y = .int (k : Int) ∧ SqT K H l xs ∧ xs ≠ [] ∧ k ≤ 1000 ∧ xs.length ≤ 1000 ∧
  ∀ H' p, Same H H' → SqT K H' p (List.replicate k xs).flatten → Q (.ref p) H'
theorem op_repG : OpR X (binaryOp .Mult) (gRep X.K) := by
  intro pins s σ H x y v u Q I rx ry h
  obtain ⟨l, k, xs, e1, e2, hT, hne, hk, hl, q⟩ := h
  refine op_repA pins s σ H x y v u Q I rx ry ⟨l, k, xs, e1, e2, hT, hne, hk, hl, fun e => ?_, fun _ p np => q _ p (same_new np) newT⟩
  subst e
  refine q H l (Same.refl H) ?_
  rw [List.replicate_one, List.flatten_singleton]
  exact hT
def gCat (K : PySem.W.Frag) : R2 := fun x y H Q => ∃ (a b : Addr) (xs ys : List V), x = .ref a ∧ y = .ref b ∧ SqT K H a xs ∧ SqT K H b ys ∧ xs.length + ys.length ≤ 1000 ∧
  ∀ H' p, Same H H' → SqT K H' p (xs ++ ys) → Q (.ref p) H'
theorem op_catG : OpR X (binaryOp .Add) (gCat X.K) := by
  intro pins s σ H x y v u Q I rx ry h
  obtain ⟨a, b, xs, ys, e1, e2, ha, hb, hz, q⟩ := h
  refine op_catA pins s σ H x y v u Q I rx ry ⟨a, b, xs, ys, e1, e2, ha, hb, len_small hz, fun e => ?_, fun _ e => ?_, fun _ _ p np => q _ p (same_new np) newT⟩
  · subst e
    exact q H b (Same.refl H) hb
  · subst e
    refine q H a (Same.refl H) ?_
    rw [List.append_nil]
    exact ha
def gSl (K : PySem.W.Frag) : V → Option Int → Option Int → Hp → VK → Prop := fun x lo hi H Q => ∃ (a : Addr) (xs : List V), x = .ref a ∧ SqT K H a xs ∧
  ∀ H' p, Same H H' → SqT K H' p (cutV xs lo hi) → Q (.ref p) H'
theorem sl_tupG : SlR X (gSl X.K) := by
  intro pins s σ H x v vl vu lo hi sl Q I rx hs pl pu h
  obtain ⟨a, xs, e, hx, q⟩ := h
  refine sl_tupA pins s σ H x v vl vu lo hi sl Q I rx hs pl pu ⟨a, xs, e, hx, fun hw => ?_, fun _ p np => q _ p (same_new np) newT⟩
  refine q H a (Same.refl H) ?_
  have e2 : cutV xs lo hi = xs := by
    unfold cutV
    rw [hw.1, hw.2, List.drop_zero, Nat.sub_zero, List.take_length]
  rw [e2]
  exact hx
end
theorem cut_last (xs : List V) : cutV xs none (some (-1)) = xs.take (xs.length - 1) := by
  unfold cutV
  rw [HT.sIx_none, List.drop_zero, Nat.sub_zero]
  congr 1
  show (if (-1 : Int) < 0 then ((-1 : Int) + (xs.length : Int)).toNat else min (-1 : Int).toNat xs.length) = xs.length - 1
  rw [if_pos (by decide)]
  omega
theorem at_last' {α : Type} {xs : List α} {m : Nat} {v : α} (h : xs.length = m + 1) (g : xs[m]? = some v) : atI xs (-1) = some v := by
  have hne : xs ≠ [] := by
    intro e
    rw [e] at h
    cases h
  have e1 := List.dropLast_concat_getLast hne
  have e2 : xs.getLast hne = v := by
    have e3 : xs.getLast? = some v := by
      rw [List.getLast?_eq_getElem?, h]
      exact g
    rw [List.getLast?_eq_some_getLast hne] at e3
    exact Option.some.inj e3
  rw [← e1, e2]
  exact atI_last _ _
section
variable {P : Program} {w : World} {K : PySem.W.Frag} {mg : Str → Option Value} {base : Heap}
/-! ### trim -/
theorem scTrim : FnScope ["_law_some", "_law_found", "_law_turn"] ["_law_some"] (defScope sTrim) := ⟨rfl, rfl, rfl, by decide +kernel, rfl, by decide +kernel, by decide +kernel⟩
def spTrim (K : PySem.W.Frag) : Sp := fun vs H Q _ => ∃ (l : Addr) (qs : List Rat), vs = [.ref l] ∧ RL K H l qs ∧ qs.length ≤ 900 ∧
  ∀ (H' : Hp) (a : Addr) (n : Nat), Same H H' → RT K H' a (qs.take n) → (∀ x, ev (qs.take n) x = ev qs x) → Q (.ref a) H'
theorem ok_trim {f : Addr} {fd : FuncData} (F : Fun K "_law_trim" "_law_trim" sTrim f fd) (N : Nm mg) : FnOk P w K mg base CX0 1 f fd ["_law_some"] (spTrim K) := by
  refine F.ok (k := 0) scTrim (fun vs H Q E h => ?_) (fun cdv A outer s H vs Q E hr h => ?_)
  · obtain ⟨l, qs, rfl, _⟩ := h
    rfl
  · obtain ⟨l, qs, rfl, ⟨vs, hL, hv⟩, hn, k⟩ := h
    have hl := pr_len hv
    refine ⟨_, pss_cons (ps_set (i := 1) scTrim.nd rfl (.inl rfl) (pe_callTy call_tuple_of (by rfl) N.tuple (by decide +kernel) (pa_cons (pv 0) pa_nil)))
      (pss_cons (ps_for PassesOwn.never rfl (pi_range1 (by rfl) N.range (pa_cons (pe_callB call_len_seq (by rfl) N.len PySem.boot_len (pa_cons (pv 0) pa_nil)) pa_nil)) (pg_name (i := 2) scTrim.nd rfl (.inl rfl))
        (pss_cons (ps_if (pt_cmpR (op_neD hr.units) (pe_ix ix_tup (pv 1) (pe_un un_neg pe_int) (fun _ _ => rfl)) (pe_tup (pa_cons pe_int (pa_cons pe_int pa_nil))) (nomark _)) (pss_one ps_break) pss_nil)
        (pss_one (ps_set (i := 1) scTrim.nd rfl (.inl rfl) (pe_slice sl_tupG (pv 1) po_none (po_some (pe_un un_neg pe_int)))))))
      (pss_one (ps_ret (pv 1)))), ?_⟩
    refine ⟨_, rfl, l, vs, rfl, .inl ⟨SqL.of hL, fun p np => ?_⟩⟩
    have s1 : Same H (upd H p (.tup vs)) := same_new np
    refine ⟨_, rfl, l, vs, rfl, .inl (SqL.of (s1 _ _ hL)), _, rfl, by omega, by omega, ?_⟩
    show ∃ W : Nat → Nat → L2.St → Hp → Prop, _
    rw [Int.toNat_natCast]
    refine for_rangeF (lo := 0) (n := vs.length) (fun σ H' => Same H H' ∧ ∃ (a : Addr) (t : Option V) (n : Nat), σ = [some (.ref l), some (.ref a), t] ∧ RT K H' a (qs.take n) ∧ ∀ x, ev (qs.take n) x = ev qs x) ?_
      (fun i σ H' => Same H H' ∧ ∃ (a : Addr) (t : Option V), σ = [some (.ref l), some (.ref a), t] ∧ RT K H' a (qs.take (qs.length - i)) ∧ ∀ x, ev (qs.take (qs.length - i)) x = ev qs x) ?_ ?_ ?_
    · rintro σ H' ⟨s2, a, t, n, rfl, hR, he⟩
      exact ⟨_, rfl, k H' a n s2 hR he⟩
    · refine ⟨s1, p, none, rfl, ?_, fun x => ?_⟩
      · rw [Nat.sub_zero, List.take_length]
        exact ⟨vs, newT, hv.same s1⟩
      · rw [Nat.sub_zero, List.take_length]
    · rintro fin i σ H' hi ⟨s2, a, t, rfl, ⟨us, hT, hu⟩, he⟩
      have hul := pr_len hu
      rw [List.length_take] at hul
      have hm : us.length = (qs.length - i - 1) + 1 := by omega
      have hj : qs.length - i - 1 < qs.length := by omega
      have gq : qs[qs.length - i - 1]? = some qs[qs.length - i - 1] := List.getElem?_eq_getElem hj
      have gq2 : (qs.take (qs.length - i))[qs.length - i - 1]? = some qs[qs.length - i - 1] := by
        rw [List.getElem?_take, if_pos (by omega)]
        exact gq
      obtain ⟨v, gv, rv⟩ := pr_get hu gq2
      refine ⟨_, rfl, 1, rfl, a, us, -1, v, rfl, rfl, hT, at_last' hm gv, (by show 2 ≤ sizeLine; decide), fun p2 np2 => ?_⟩
      have s3 : Same H' (upd H' p2 (.tup [.int 0, .int 1])) := same_new np2
      refine ⟨_, _, dq_of (rv.same s3), dq_new (q := 0) rfl rfl, dq_shaped _, dq_shaped _, _, rfl, ?_⟩
      rw [dq_eqv]
      refine ite2 (fun _ => ?_) (fun e => ?_)
      · exact fin _ _ ⟨s2.trans s3, a, _, _, rfl, ⟨us, sameT s3 hT, hu.same s3⟩, he⟩
      · have e0 : qs[qs.length - i - 1] = 0 := by
          by_cases z : qs[qs.length - i - 1] = 0
          · exact z
          · rw [decide_eq_false z] at e
            exact absurd rfl e
        refine ⟨_, rfl, 1, rfl, -1, rfl, a, us, rfl, sameT s3 hT, fun H4 p4 s4 h4 => ?_⟩
        rw [cut_last] at h4
        have n2 : us.length - 1 = qs.length - (i + 1) := by omega
        rw [n2] at h4
        have s5 := s3.trans s4
        refine ⟨s2.trans s5, p4, _, rfl, ⟨us.take (qs.length - (i + 1)), h4, ?_⟩, fun x => ?_⟩
        · have z := pr_take (qs.length - (i + 1)) (hu.same s5)
          rw [List.take_take, Nat.min_eq_left (by omega)] at z
          exact z
        · rw [← he x]
          have n3 : qs.length - i = (qs.length - (i + 1)) + 1 := by omega
          have n4 : qs.length - i - 1 = qs.length - (i + 1) := by omega
          have e6 : qs[qs.length - (i + 1)]? = some 0 := by
            rw [← n4, gq, e0]
          rw [n3, ev_take_succ e6, Rat.zero_mul, Rat.add_zero]
    · rintro σ H' ⟨s2, a, t, rfl, hR, he⟩
      exact ⟨s2, a, t, _, rfl, hR, he⟩
end
end BZ
end
section
set_option maxRecDepth 100000
namespace BZ
open PySem PySem.Spec PyProof.Rows L2
theorem sz_zero : Sz 0 0 0 := ⟨by decide, by decide⟩
theorem sz_one : Sz 0 0 1 := ⟨by decide, by decide⟩
theorem sz_neg : Sz 0 0 (-1) := ⟨by decide, by decide⟩
section
variable {P : Program} {w : World} {K : PySem.W.Frag} {mg : Str → Option Value} {base : Heap}
/-! ### at -/
theorem scAt : FnScope ["_law_poly", "_law_x", "_law_found", "_law_one"] ["_law_poly", "_law_x"] (defScope sAt) := ⟨rfl, rfl, rfl, by decide +kernel, rfl, by decide +kernel, by decide +kernel⟩
def spAt (K : PySem.W.Frag) : Sp := fun vs H Q _ => ∃ (a : Addr) (u : V) (ps : List Rat) (t : Rat), vs = [.ref a, u] ∧ RT K H a ps ∧ RV K H u t ∧ ps.length ≤ 7 ∧ (∀ q ∈ ps, Sz 1000 20 q) ∧ Sz 4 4 t ∧ Gives K H Q (ev ps t)
theorem ok_at {f : Addr} {fd : FuncData} (F : Fun K "_law_at" "_law_at" sAt f fd) (GP : Cal P w K mg base 2 "_law_plus" ["_law_one", "_law_other"] (spBin K 4000 fun q r => q + r))
    (GT : Cal P w K mg base 2 "_law_times" ["_law_one", "_law_other"] (spBin K 4000 fun q r => q * r)) : FnOk P w K mg base CX0 3 f fd ["_law_poly", "_law_x"] (spAt K) := by
  refine F.ok (k := 2) scAt (fun vs H Q E h => ?_) (fun cdv A outer s H vs Q E hr h => ?_)
  · obtain ⟨a, u, ps, t, rfl, _⟩ := h
    rfl
  · obtain ⟨a, u, ps, t, rfl, ⟨vs, hT, hv⟩, ht, h7, hz, hzt, k⟩ := h
    have hl := pr_len hv
    refine ⟨_, pss_cons (ps_set (i := 2) scAt.nd rfl (.inl rfl) (pe_tup (pa_cons pe_int (pa_cons pe_int pa_nil))))
      (pss_cons (ps_for PassesOwn.never rfl (pi_tup (pe_revT (pv 0))) (pg_name (i := 3) scAt.nd rfl (.inl rfl))
        (pss_one (ps_set (i := 2) scAt.nd rfl (.inl rfl) (pcal GP hr (by rfl) (pa_cons (pcal GT hr (by rfl) (pa_cons (pv 2) (pa_cons (pv 1) pa_nil))) (pa_cons (pv 3) pa_nil))))))
      (pss_one (ps_ret (pv 2)))), ?_⟩
    refine ⟨(by show 2 ≤ sizeLine; decide), fun p np => ?_⟩
    have s1 : Same H (upd H p (.tup [.int 0, .int 1])) := same_new np
    refine ⟨_, rfl, a, vs, rfl, sameT s1 hT, fun r nr => ⟨r, rfl, ⟨_, newT⟩, ?_⟩⟩
    have s2 := s1.trans (same_new (o := .tup vs.reverse) nr)
    refine for_tup (K := K) (a := r) (xs := vs.reverse) (fun i σ H' => Same H H' ∧ SqT K H' r vs.reverse ∧ ∃ (x : V) (y : Option V) (q : Rat), σ = [some (.ref a), some u, some x, y] ∧ RV K H' x q ∧ q = ev (ps.drop (ps.length - i)) t ∧ Sz (2000 * i) (24 * i) q) ?_ ?_ ?_ ?_
    · refine ⟨s2, newT, .ref p, none, 0, rfl, (RV.new (q := 0) rfl rfl).same (same_new nr), ?_, sz_zero⟩
      rw [Nat.sub_zero, List.drop_length]
      rfl
    · rintro i σ H' _ ⟨_, h, _⟩
      exact h
    · rintro i x σ H1 hx ⟨s3, hr1, y, z, q, rfl, hq, eq, zq⟩
      have hi : i < ps.length := by
        have z2 := (List.getElem?_eq_some_iff.mp hx).1
        rw [List.length_reverse, hl] at z2
        exact z2
      have hx2 : vs[ps.length - (i + 1)]? = some x := by
        rw [List.getElem?_reverse (by omega)] at hx
        rw [← hx]
        congr 1
        omega
      obtain ⟨c, hc, rc⟩ := pr_getL hv hx2
      have zc := hz c (List.mem_of_getElem? hc)
      refine ⟨_, rfl, _, rfl, y, u, q, t, _, _, 4, 4, rfl, hq, ht.same s3, zq, hzt, by omega, by omega, fun H2 v2 s4 r2 => ?_⟩
      refine ⟨x, rfl, v2, x, _, c, _, _, 1000, 20, rfl, r2, rc.same (s3.trans s4), zq.mul hzt, zc, by omega, by omega, fun H3 v3 s5 r3 => ?_⟩
      refine ⟨s3.trans (s4.trans s5), sameT (s4.trans s5) hr1, v3, _, _, rfl, r3, ?_, ((zq.mul hzt).add zc).mono (by omega) (by omega)⟩
      rw [ev_drop hc, eq]
      have n1 : ps.length - (i + 1) + 1 = ps.length - i := by omega
      rw [n1]
    · rintro σ H' ⟨s3, _, y, z, q, rfl, hq, eq, _⟩
      rw [List.length_reverse, hl, Nat.sub_self, List.drop_zero] at eq
      subst eq
      exact ⟨_, rfl, k H' y s3 hq⟩
/-! ### choose -/
theorem scChoose : FnScope ["_law_many", "_law_few", "_law_found", "_law_turn"] ["_law_many", "_law_few"] (defScope sChoose) := ⟨rfl, rfl, rfl, by decide +kernel, rfl, by decide +kernel, by decide +kernel⟩
def spChoose : Sp := fun vs H Q _ => ∃ (n k : Nat), vs = [.int (n : Int), .int (k : Int)] ∧ k ≤ n ∧ n ≤ 100 ∧ Q (.int (chs n k : Int)) H
theorem ok_choose {f : Addr} {fd : FuncData} (F : Fun K "_law_choose" "_law_choose" sChoose f fd) (N : Nm mg) : FnOk P w K mg base CX0 1 f fd ["_law_many", "_law_few"] spChoose := by
  refine F.ok (k := 0) scChoose (fun vs H Q E h => ?_) (fun cdv A outer s H vs Q E hr h => ?_)
  · obtain ⟨n, k, rfl, _⟩ := h
    rfl
  · obtain ⟨n, k, rfl, hk, hn, q⟩ := h
    refine ⟨_, pss_cons (ps_set (i := 2) scChoose.nd rfl (.inl rfl) pe_int)
      (pss_cons (ps_for PassesOwn.never rfl (pi_range1 (by rfl) N.range (pa_cons (pv 1) pa_nil)) (pg_name (i := 3) scChoose.nd rfl (.inl rfl))
        (pss_one (ps_set (i := 2) scChoose.nd rfl (.inl rfl) (pe_op op_fdiv (pe_op op_mul (pv 2) (pe_op op_sub (pv 0) (pv 3))) (pe_op op_add (pv 3) pe_int)))))
      (pss_one (ps_ret (pv 2)))), ?_⟩
    refine ⟨_, rfl, _, rfl, by omega, by omega, ?_⟩
    show ∃ W : Nat → Nat → L2.St → Hp → Prop, _
    rw [Int.toNat_natCast]
    refine for_range (lo := 0) (n := k) (fun i σ H' => H' = H ∧ ∃ y, σ = [some (.int (n : Int)), some (.int (k : Int)), some (.int (chs n i : Int)), y]) ⟨rfl, none, rfl⟩ ?_ ?_
    · rintro i σ H' hi ⟨rfl, y, rfl⟩
      refine ⟨_, rfl, _, rfl, _, rfl, _, _, rfl, rfl, _, _, rfl, rfl, .inr ⟨by omega, by omega⟩, _, rfl, _, 1, rfl, rfl, _, _, rfl, rfl, ⟨by omega, by omega⟩, ?_⟩
      refine ⟨rfl, some (.int (0 + (i : Int))), ?_⟩
      have e : ((chs n i : Int) * ((n : Int) - (0 + (i : Int)))) / (0 + (i : Int) + 1) = ((chs n (i + 1) : Nat) : Int) := by
        show _ = ((chs n i * (n - i) / (i + 1) : Nat) : Int)
        rw [Int.natCast_ediv, Int.natCast_mul]
        have e1 : ((n - i : Nat) : Int) = (n : Int) - (0 + (i : Int)) := by omega
        have e2 : ((i + 1 : Nat) : Int) = 0 + (i : Int) + 1 := by omega
        rw [e1, e2]
      show [some (V.int (n : Int)), some (V.int (k : Int)), some (V.int (((chs n i : Int) * ((n : Int) - (0 + (i : Int)))) / (0 + (i : Int) + 1))), some (V.int (0 + (i : Int)))] = _
      rw [e]
    · rintro σ H' ⟨rfl, y, rfl⟩
      exact ⟨_, rfl, q⟩
/-! ### scaled -/
theorem scScaled : FnScope ["_law_poly", "_law_number", "_law_one"] ["_law_poly", "_law_number"] (defScope sScaled) := ⟨rfl, rfl, rfl, by decide +kernel, rfl, by decide +kernel, by decide +kernel⟩
def spScaled (K : PySem.W.Frag) : Sp := fun vs H Q _ => ∃ (a : Addr) (u : V) (ps : List Rat) (c : Rat), vs = [.ref a, u] ∧ RT K H a ps ∧ RV K H u c ∧ ps.length ≤ 7 ∧ (∀ q ∈ ps, Sz 84 0 q) ∧ Sz 10 2 c ∧
  ∀ (H' : Hp) (b : Addr) (os : List Rat), Same H H' → RT K H' b os → os.length ≤ ps.length → (∀ q ∈ os, Sz 94 2 q) → (∀ x, ev os x = ev ps x * c) → Q (.ref b) H'
theorem ok_scaled {f : Addr} {fd : FuncData} (F : Fun K "_law_scaled" "_law_scaled" sScaled f fd) (GT : Cal P w K mg base 2 "_law_times" ["_law_one", "_law_other"] (spBin K 4000 fun q r => q * r))
    (GR : Cal P w K mg base 1 "_law_trim" ["_law_some"] (spTrim K)) : FnOk P w K mg base CX0 3 f fd ["_law_poly", "_law_number"] (spScaled K) := by
  refine F.ok (k := 2) scScaled (fun vs H Q E h => ?_) (fun cdv A outer s H vs Q E hr h => ?_)
  · obtain ⟨a, u, ps, c, rfl, _⟩ := h
    rfl
  · obtain ⟨a, u, ps, c, rfl, ⟨vs, hT, hv⟩, hc, h7, hz, hzc, k⟩ := h
    have hl := pr_len hv
    refine ⟨_, pss_one (ps_ret (pcal GR (hr.mono (by decide)) (by rfl) (pa_cons (pe_lc (own := [("_law_one", 2)]) (g := gName 2) (tt := tYes) rfl scScaled.nd (pi_tup (pv 0))
      (blkOk_by (own := [("_law_one", 2)]) (N := ["_law_poly", "_law_number", "_law_one"]) (sc := defScope sScaled) (by decide +kernel))
      (fun _ _ _ _ _ => pg_name (i := 2) scScaled.nd rfl (Or.inl rfl)) (fun _ _ _ _ _ => pts_nil)
      (fun _ _ _ _ _ => pcal GT hr (by rfl) (pa_cons (pv 2) (pa_cons (pv 1) pa_nil)))) pa_nil))), ?_⟩
    refine ⟨_, rfl, a, rfl, ⟨_, hT⟩, fun D nD => ?_⟩
    have s1 : Same H (upd H D (.lst [])) := same_new nD
    refine lc_tup (K := K) (a := a) (xs := vs) (fun i Hc => ∃ acc, Hc D = some (.lst acc) ∧ acc.length = i ∧ Same H Hc ∧ RVs K Hc acc ((ps.take i).map fun q => q * c)) ⟨[], upd_same, rfl, s1, ?_⟩ ?_ ?_ ?_
    · rw [List.take_zero]
      exact .nil
    · rintro i Hc _ ⟨acc, _, _, sc, _⟩
      exact sameT sc hT
    · rintro i x Hc hx ⟨acc, eD, la, sc, rc⟩
      obtain ⟨q, hq, rq⟩ := pr_getL hv hx
      have zq := hz q (List.mem_of_getElem? hq)
      have hi := (List.getElem?_eq_some_iff.mp hx).1
      refine ⟨rfl, ?_⟩
      refine ⟨x, rfl, u, rfl, x, u, q, c, _, _, _, _, rfl, rq.same sc, hc.same sc, zq, hzc, by decide, by decide, fun H2 v s2 rv => ?_⟩
      have eD2 : H2 D = some (.lst acc) := s2 _ _ eD
      have bD : But D H2 (upd H2 D (.lst (acc ++ [v]))) := But.upd_self
      refine ⟨acc, eD2, small1000 (by omega), acc ++ [v], upd_same, ?_, ?_, ?_⟩
      · rw [List.length_append, la]
        rfl
      · intro b o e
        rw [upd_ne (ne_of_none e nD)]
        exact s2 _ _ (sc _ _ e)
      · rw [List.take_add_one, hq, List.map_append]
        exact pr_append ((rc.same s2).but bD eD2) (.cons (rv.but bD eD2) .nil)
    · rintro Hc ⟨acc, eD, la, sc, rc⟩
      rw [List.take_of_length_le (by omega)] at rc
      refine ⟨D, _, rfl, ⟨acc, eD, rc⟩, ?_, fun H3 b n s3 hR he => ?_⟩
      · rw [List.length_map]
        omega
      · refine k H3 b _ (sc.trans s3) hR ?_ ?_ fun x => ?_
        · rw [List.length_take, List.length_map]
          omega
        · intro q hq
          obtain ⟨p, hp, rfl⟩ := List.mem_map.mp (List.mem_of_mem_take hq)
          exact (hz p hp).mul hzc
        · rw [he x, ev_scale]
end
end BZ
end
section
set_option maxRecDepth 100000
namespace BZ
open PySem PySem.Spec PyProof.Rows L2
theorem flat_one {α : Type} (x : α) : ∀ k : Nat, (List.replicate k [x]).flatten = List.replicate k x
  | 0 => rfl
  | k + 1 => by
    rw [List.replicate_succ, List.flatten_cons, flat_one x k]
    rfl
theorem mem_zipAdd {P : Rat → Prop} : ∀ {p q : List Rat}, (∀ a ∈ p, ∀ b ∈ q, P (a + b)) → ∀ c ∈ List.zipWith (fun a b => a + b) p q, P c
  | [], _, _, c, h => by cases h
  | _ :: _, [], _, c, h => by cases h
  | a :: p, b :: q, f, c, h => by
    rcases List.mem_cons.mp h with e | h
    · subst e
      exact f a List.mem_cons_self b List.mem_cons_self
    · exact mem_zipAdd (fun x hx y hy => f x (List.mem_cons_of_mem _ hx) y (List.mem_cons_of_mem _ hy)) c h
theorem zip_get {p q : List Rat} {i : Nat} {a b : Rat} (h1 : p[i]? = some a) (h2 : q[i]? = some b) : (List.zipWith (fun a b => a + b) p q)[i]? = some (a + b) := by
  rw [List.getElem?_zipWith, h1, h2]
theorem mem_pad {P : Rat → Prop} {p : List Rat} {n : Nat} (h : ∀ a ∈ p, P a) (h0 : P 0) : ∀ a ∈ p ++ List.replicate n 0, P a := by
  intro a ha
  rcases List.mem_append.mp ha with ha | ha
  · exact h a ha
  · rw [List.eq_of_mem_replicate ha]
    exact h0
section
variable {P : Program} {w : World} {K : PySem.W.Frag} {mg : Str → Option Value} {base : Heap}
/-! ### the sum of two polynomials -/
theorem scPPlus : FnScope ["_law_one", "_law_other", "_law_size", "_law_first", "_law_second", "_law_x", "_law_y"] ["_law_one", "_law_other"] (defScope sPPlus) := ⟨rfl, rfl, rfl, by decide +kernel, rfl, by decide +kernel, by decide +kernel⟩
def spPPlus (K : PySem.W.Frag) : Sp := fun vs H Q _ => ∃ (a b : Addr) (ps qs : List Rat) (A B A' B' : Nat), vs = [.ref a, .ref b] ∧ RT K H a ps ∧ RT K H b qs ∧ ps.length ≤ 7 ∧ qs.length ≤ 7 ∧ (∀ q ∈ ps, Sz A B q) ∧ (∀ q ∈ qs, Sz A' B' q) ∧
  A + A' ≤ 5000 ∧ B + B' ≤ 100 ∧
  ∀ (H' : Hp) (c : Addr) (os : List Rat), Same H H' → RT K H' c os → os.length ≤ 7 → (∀ q ∈ os, Sz (max (A + B') (A' + B) + 1) (B + B') q) → (∀ x, ev os x = ev ps x + ev qs x) → Q (.ref c) H'
theorem ok_pplus {f : Addr} {fd : FuncData} (F : Fun K "_law_p_plus" "_law_p_plus" sPPlus f fd) (N : Nm mg) (GP : Cal P w K mg base 2 "_law_plus" ["_law_one", "_law_other"] (spBin K 4000 fun q r => q + r))
    (GR : Cal P w K mg base 1 "_law_trim" ["_law_some"] (spTrim K)) : FnOk P w K mg base CX0 3 f fd ["_law_one", "_law_other"] (spPPlus K) := by
  refine F.ok (k := 2) scPPlus (fun vs H Q E h => ?_) (fun cdv A outer s H vs Q E hr h => ?_)
  · obtain ⟨a, b, ps, qs, _, _, _, _, rfl, _⟩ := h
    rfl
  · obtain ⟨a, b, ps, qs, A1, B1, A2, B2, rfl, ⟨us, hTa, hu⟩, ⟨ws, hTb, hw⟩, h7, h7', hz, hz', hA, hB, k⟩ := h
    have hlu := pr_len hu
    have hlw := pr_len hw
    refine ⟨_, pss_cons (ps_set (i := 2) scPPlus.nd rfl (.inl rfl) (pe_callB (call_max2 rfl) (by rfl) N.max (by decide +kernel) (pa_cons (pe_callB call_len_seq (by rfl) N.len PySem.boot_len (pa_cons (pv 0) pa_nil)) (pa_cons (pe_callB call_len_seq (by rfl) N.len PySem.boot_len (pa_cons (pv 1) pa_nil)) pa_nil))))
      (pss_cons (ps_set (i := 3) scPPlus.nd rfl (.inl rfl) (pe_op op_catG (pv 0) (pe_op op_repG (pe_tup (pa_cons (pe_tup (pa_cons pe_int (pa_cons pe_int pa_nil))) pa_nil)) (pe_op op_sub (pv 2) (pe_callB call_len_seq (by rfl) N.len PySem.boot_len (pa_cons (pv 0) pa_nil))))))
      (pss_cons (ps_set (i := 4) scPPlus.nd rfl (.inl rfl) (pe_op op_catG (pv 1) (pe_op op_repG (pe_tup (pa_cons (pe_tup (pa_cons pe_int (pa_cons pe_int pa_nil))) pa_nil)) (pe_op op_sub (pv 2) (pe_callB call_len_seq (by rfl) N.len PySem.boot_len (pa_cons (pv 1) pa_nil))))))
      (pss_one (ps_ret (pcal GR (hr.mono (by decide)) (by rfl) (pa_cons (pe_lc (own := [("_law_x", 5), ("_law_y", 6)]) (g := gTup K 2 (gCons (gName 5) (gCons (gName 6) gNil))) (tt := tYes) rfl scPPlus.nd
        (RZ.pi_zipA (by rfl) N.zip (pa_cons (pv 3) (pa_cons (pv 4) pa_nil)))
        (blkOk_by (own := [("_law_x", 5), ("_law_y", 6)]) (N := ["_law_one", "_law_other", "_law_size", "_law_first", "_law_second", "_law_x", "_law_y"]) (sc := defScope sPPlus) (by decide +kernel))
        (fun _ _ _ _ _ => pg_tup rfl (pgs_cons (pg_name (i := 5) scPPlus.nd rfl (Or.inl rfl)) (pgs_cons (pg_name (i := 6) scPPlus.nd rfl (Or.inl rfl)) pgs_nil))) (fun _ _ _ _ _ => pts_nil)
        (fun _ _ _ _ _ => pcal GP hr (by rfl) (pa_cons (pv 5) (pa_cons (pv 6) pa_nil)))) pa_nil)))))), ?_⟩
    obtain ⟨m, hm⟩ : ∃ m : Nat, m = max ps.length qs.length := ⟨_, rfl⟩
    refine ⟨_, rfl, a, us, rfl, .inr hTa, _, rfl, b, ws, rfl, .inr hTb, _, _, rfl, ?_⟩
    have em : (if (ws.length : Int) > (us.length : Int) then (ws.length : Int) else (us.length : Int)) = (m : Int) := by
      split <;> omega
    rw [em]
    -- first
    refine ⟨_, rfl, (by show 2 ≤ sizeLine; decide), fun p1 np1 => ⟨(by show 1 ≤ sizeLine; decide), fun p2 np2 => ?_⟩⟩
    have s1 := (same_new (o := .tup [.int 0, .int 1]) np1).trans (same_new (o := .tup [.ref p1]) np2)
    refine ⟨_, rfl, _, rfl, a, us, rfl, .inr (sameT s1 hTa), _, _, rfl, rfl, p2, m - ps.length, [.ref p1], rfl, congrArg V.int (by omega), newT, List.cons_ne_nil _ _, by omega, (show 1 ≤ 1000 by decide), fun H2 r1 s2 hR1 => ?_⟩
    rw [flat_one] at hR1
    have s02 := s1.trans s2
    refine ⟨a, r1, us, _, rfl, rfl, sameT s02 hTa, hR1, by rw [List.length_replicate]; omega, fun H3 c1 s3 hC1 => ?_⟩
    have s03 := s02.trans s3
    have z1 : RV K H3 (.ref p1) 0 := (RV.new (q := 0) rfl rfl).same ((same_new (o := .tup [.ref p1]) np2).trans (s2.trans s3))
    have rC1 : RVs K H3 (us ++ List.replicate (m - ps.length) (.ref p1)) (ps ++ List.replicate (m - ps.length) 0) := pr_append (hu.same s03) (pr_rep z1 _)
    -- second
    refine ⟨_, rfl, (by show 2 ≤ sizeLine; decide), fun p3 np3 => ⟨(by show 1 ≤ sizeLine; decide), fun p4 np4 => ?_⟩⟩
    have s4 := (same_new (o := .tup [.int 0, .int 1]) np3).trans (same_new (o := .tup [.ref p3]) np4)
    have s04 := s03.trans s4
    refine ⟨_, rfl, _, rfl, b, ws, rfl, .inr (sameT s04 hTb), _, _, rfl, rfl, p4, m - qs.length, [.ref p3], rfl, congrArg V.int (by omega), newT, List.cons_ne_nil _ _, by omega, (show 1 ≤ 1000 by decide), fun H5 r2 s5 hR2 => ?_⟩
    rw [flat_one] at hR2
    have s05 := s04.trans s5
    refine ⟨b, r2, ws, _, rfl, rfl, sameT s05 hTb, hR2, by rw [List.length_replicate]; omega, fun H6 c2 s6 hC2 => ?_⟩
    have s06 := s05.trans s6
    have z2 : RV K H6 (.ref p3) 0 := (RV.new (q := 0) rfl rfl).same ((same_new (o := .tup [.ref p3]) np4).trans (s5.trans s6))
    have rC2 : RVs K H6 (ws ++ List.replicate (m - qs.length) (.ref p3)) (qs ++ List.replicate (m - qs.length) 0) := pr_append (hw.same s06) (pr_rep z2 _)
    have s36 := s4.trans (s5.trans s6)
    have hC1' := sameT s36 hC1
    have rC1' := rC1.same s36
    obtain ⟨xs, ex⟩ : ∃ xs, xs = us ++ List.replicate (m - ps.length) (V.ref p1) := ⟨_, rfl⟩
    obtain ⟨ys, ey⟩ : ∃ ys, ys = ws ++ List.replicate (m - qs.length) (V.ref p3) := ⟨_, rfl⟩
    obtain ⟨fs, ef⟩ : ∃ fs, fs = ps ++ List.replicate (m - ps.length) (0 : Rat) := ⟨_, rfl⟩
    obtain ⟨gs, eg⟩ : ∃ gs, gs = qs ++ List.replicate (m - qs.length) (0 : Rat) := ⟨_, rfl⟩
    have zf : ∀ q ∈ fs, Sz A1 B1 q := by
      rw [ef]
      exact mem_pad hz (sz_zero.mono (Nat.zero_le _) (Nat.zero_le _))
    have zg : ∀ q ∈ gs, Sz A2 B2 q := by
      rw [eg]
      exact mem_pad hz' (sz_zero.mono (Nat.zero_le _) (Nat.zero_le _))
    have lf : fs.length = m := by
      rw [ef, List.length_append, List.length_replicate]
      omega
    have lg : gs.length = m := by
      rw [eg, List.length_append, List.length_replicate]
      omega
    have vf : ∀ x, ev fs x = ev ps x := fun x => by
      rw [ef, ev_pad]
    have vg : ∀ x, ev gs x = ev qs x := fun x => by
      rw [eg, ev_pad]
    rw [← ex] at hC1' rC1'
    rw [← ey] at hC2 rC2
    rw [← ef] at rC1'
    rw [← eg] at rC2
    clear ex ey ef eg rC1 hC1
    have lx := pr_len rC1'
    have ly := pr_len rC2
    -- the sums
    refine ⟨_, rfl, _, rfl, c1, c2, xs, ys, rfl, .inr ⟨hC1', hC2, fun D nD => ?_⟩⟩
    have s7 : Same H6 (upd H6 D (.lst [])) := same_new nD
    refine lc_it (walk_zipT (K := K) (a := c1) (b := c2) (xs := xs) (ys := ys) (by omega)) (fun i Hc => ∃ acc, Hc D = some (.lst acc) ∧ acc.length = i ∧ Same H6 Hc ∧ RVs K Hc acc ((List.zipWith (fun a b => a + b) fs gs).take i)) ⟨[], upd_same, rfl, s7, ?_⟩ ?_ ?_ ?_
    · rw [List.take_zero]
      exact .nil
    · rintro i Hc _ ⟨acc, _, _, sc, _⟩
      exact ⟨sameT sc hC1', sameT sc hC2⟩
    · rintro i v Hc Hd hi ⟨acc, eD, la, sc, rc⟩ ⟨T, x, y, rfl, nT, rfl, gx, gy⟩
      obtain ⟨q, gq, rq⟩ := pr_getL rC1' gx
      obtain ⟨r, gr, rr⟩ := pr_getL rC2 gy
      have sT : Same Hc (upd Hc T (.tup [x, y])) := same_new nT
      have sd := sc.trans sT
      refine ⟨T, _, rfl, newT, rfl, x, _, rfl, y, _, rfl, rfl, ?_⟩
      refine ⟨rfl, ?_⟩
      refine ⟨x, rfl, y, rfl, x, y, q, r, _, _, _, _, rfl, rq.same sd, rr.same sd, zf q (List.mem_of_getElem? gq), zg r (List.mem_of_getElem? gr), by omega, by omega, fun He v se rv => ?_⟩
      have eD2 : He D = some (.lst acc) := se _ _ (sT _ _ eD)
      have bD : But D He (upd He D (.lst (acc ++ [v]))) := But.upd_self
      refine ⟨acc, eD2, small1000 (by omega), acc ++ [v], upd_same, ?_, ?_, ?_⟩
      · rw [List.length_append, la]
        rfl
      · intro b o e
        rw [upd_ne (ne_of_none e nD)]
        exact se _ _ (sd _ _ e)
      · rw [List.take_add_one, zip_get gq gr]
        exact pr_append ((rc.same (sT.trans se)).but bD eD2) (.cons (rv.but bD eD2) .nil)
    · rintro Hc ⟨acc, eD, la, sc, rc⟩
      have lz : (List.zipWith (fun a b => a + b) fs gs).length = m := by
        rw [List.length_zipWith]
        omega
      rw [List.take_of_length_le (by omega)] at rc
      refine ⟨D, _, rfl, ⟨acc, eD, rc⟩, by omega, fun Hf c n sf hR he => ?_⟩
      refine k Hf c _ (s06.trans (sc.trans sf)) hR ?_ ?_ fun x => ?_
      · rw [List.length_take]
        omega
      · intro q hq
        exact mem_zipAdd (P := fun q => Sz (max (A1 + B2) (A2 + B1) + 1) (B1 + B2) q) (fun a ha b hb => (zf a ha).add (zg b hb)) q (List.mem_of_mem_take hq)
      · rw [he x, ev_zip _ _ _ (by omega), vf, vg]
end
end BZ
end
section
set_option maxRecDepth 100000
namespace BZ
open PySem PySem.Spec PyProof.Rows L2
theorem mem_set' {P : Rat → Prop} {fs : List Rat} {i : Nat} {c : Rat} (h : ∀ q ∈ fs, P q) (hc : P c) : ∀ q ∈ fs.set i c, P q := by
  intro q hq
  rcases List.mem_or_eq_of_mem_set hq with z | z
  · exact h q z
  · rw [z]
    exact hc
theorem ixN_nat {n j : Nat} {i : Int} (e : i = (j : Int)) (h : j < n) : ixN n i = some j := by
  unfold ixN
  rw [if_pos (by omega), if_pos (by omega)]
  congr 1
  omega
section
variable {P : Program} {w : World} {K : PySem.W.Frag} {mg : Str → Option Value} {base : Heap}
/-! ### the product of two polynomials -/
theorem scPTimes : FnScope ["_law_one", "_law_other", "_law_found", "_law_i", "_law_j"] ["_law_one", "_law_other"] (defScope sPTimes) := ⟨rfl, rfl, rfl, by decide +kernel, rfl, by decide +kernel, by decide +kernel⟩
def spPTimes (K : PySem.W.Frag) : Sp := fun vs H Q _ => ∃ (a b : Addr) (ps qs : List Rat) (A : Nat), vs = [.ref a, .ref b] ∧ RT K H a ps ∧ RT K H b qs ∧ ps.length ≤ 7 ∧ qs.length = 2 ∧ (∀ q ∈ ps, Sz A 0 q) ∧ (∀ q ∈ qs, Sz 0 0 q) ∧ A ≤ 200 ∧
  ∀ (H' : Hp) (c : Addr) (os : List Rat), Same H H' → RT K H' c os → os.length ≤ ps.length + 1 → (∀ q ∈ os, Sz (A + 14) 0 q) → (∀ x, ev os x = ev ps x * ev qs x) → Q (.ref c) H'
/-- the product's row as it grows, at l -/
structure PtAt (K : PySem.W.Frag) (H : Hp) (l : Addr) (n A cnt : Nat) (H' : Hp) (fs : List Rat) (val : Rat → Rat) : Prop where
  same : Same H H'
  row : RL K H' l fs
  len : fs.length = n
  szs : ∀ q ∈ fs, Sz (A + cnt) 0 q
  val : ∀ x, ev fs x = val x
theorem ok_ptimes {f : Addr} {fd : FuncData} (F : Fun K "_law_p_times" "_law_p_times" sPTimes f fd) (N : Nm mg) (GP : Cal P w K mg base 2 "_law_plus" ["_law_one", "_law_other"] (spBin K 4000 fun q r => q + r))
    (GT : Cal P w K mg base 2 "_law_times" ["_law_one", "_law_other"] (spBin K 4000 fun q r => q * r)) (GR : Cal P w K mg base 1 "_law_trim" ["_law_some"] (spTrim K)) :
    FnOk P w K mg base CX0 3 f fd ["_law_one", "_law_other"] (spPTimes K) := by
  refine F.ok (k := 2) scPTimes (fun vs H Q E h => ?_) (fun cdv A outer s H vs Q E hr h => ?_)
  · obtain ⟨a, b, ps, qs, _, rfl, _⟩ := h
    rfl
  · obtain ⟨a, b, ps, qs, A1, rfl, ⟨us, hTa, hu⟩, ⟨ws, hTb, hw⟩, h7, h2, hz, hz', hA, k⟩ := h
    have hlu := pr_len hu
    have hlw := pr_len hw
    refine ⟨_, pss_cons (ps_set (i := 2) scPTimes.nd rfl (.inl rfl) (pe_op op_rep (pe_lst (pa_cons (pe_tup (pa_cons pe_int (pa_cons pe_int pa_nil))) pa_nil))
        (pe_callB (call_max2 rfl) (by rfl) N.max (by decide +kernel) (pa_cons pe_int (pa_cons (pe_op op_sub (pe_op op_add (pe_callB call_len_seq (by rfl) N.len PySem.boot_len (pa_cons (pv 0) pa_nil)) (pe_callB call_len_seq (by rfl) N.len PySem.boot_len (pa_cons (pv 1) pa_nil))) pe_int) pa_nil)))))
      (pss_cons (ps_for PassesOwn.never rfl (pi_range1 (by rfl) N.range (pa_cons (pe_callB call_len_seq (by rfl) N.len PySem.boot_len (pa_cons (pv 0) pa_nil)) pa_nil)) (pg_name (i := 3) scPTimes.nd rfl (.inl rfl))
        (pss_one (ps_for PassesOwn.never rfl (pi_range1 (by rfl) N.range (pa_cons (pe_callB call_len_seq (by rfl) N.len PySem.boot_len (pa_cons (pv 1) pa_nil)) pa_nil)) (pg_name (i := 4) scPTimes.nd rfl (.inl rfl))
          (pss_one (ps_asg (pcal GP hr (by rfl) (pa_cons (pe_ix ix_list (pv 2) (pe_op op_add (pv 3) (pv 4)) (fun _ _ => rfl))
              (pa_cons (pcal GT hr (by rfl) (pa_cons (pe_ix ix_tup (pv 0) (pv 3) (fun _ _ => rfl)) (pa_cons (pe_ix ix_tup (pv 1) (pv 4) (fun _ _ => rfl)) pa_nil))) pa_nil)))
            (pg_sub (pv 2) (pe_op op_add (pv 3) (pv 4)) set_list))))))
      (pss_one (ps_ret (pcal GR (hr.mono (by decide)) (by rfl) (pa_cons (pv 2) pa_nil))))), ?_⟩
    -- found
    refine ⟨(by show 2 ≤ sizeLine; decide), fun p1 np1 => ⟨(by show 1 ≤ sizeLine; decide), fun p2 np2 => ?_⟩⟩
    have s1 := (same_new (o := .tup [.int 0, .int 1]) np1).trans (same_new (o := .lst [.ref p1]) np2)
    refine ⟨_, rfl, a, us, rfl, .inr (sameT s1 hTa), _, rfl, b, ws, rfl, .inr (sameT s1 hTb), _, _, rfl, rfl, _, 1, rfl, rfl, 0, _, rfl, ?_⟩
    have em : (if ((us.length : Int) + (ws.length : Int) - 1) > 0 then ((us.length : Int) + (ws.length : Int) - 1) else 0) = ((ps.length + 1 : Nat) : Int) := by
      split <;> omega
    rw [em]
    refine ⟨p2, _, [.ref p1], rfl, rfl, upd_same, by omega, by omega, ?_, fun l nl => ?_⟩
    · rw [Int.toNat_natCast]
      exact len_small (by show 1 * (ps.length + 1) ≤ 1000; omega)
    rw [Int.toNat_natCast, flat_one]
    have s2 := s1.trans (same_new (o := .lst (List.replicate (ps.length + 1) (.ref p1))) nl)
    have nlH : H l = none := s1.free nl
    have z1 : RV K (upd (upd (upd H p1 (.tup [.int 0, .int 1])) p2 (.lst [.ref p1])) l (.lst (List.replicate (ps.length + 1) (.ref p1)))) (.ref p1) 0 :=
      (RV.new (q := 0) rfl rfl).same ((same_new (o := .lst [.ref p1]) np2).trans (same_new nl))
    refine ⟨_, rfl, a, us, rfl, .inr (sameT s2 hTa), _, rfl, by omega, by omega, ?_⟩
    show ∃ W : Nat → Nat → L2.St → Hp → Prop, _
    rw [Int.toNat_natCast]
    refine for_range (lo := 0) (n := us.length) (fun i σ H' => ∃ y z fs, σ = [some (.ref a), some (.ref b), some (.ref l), y, z] ∧ PtAt K H l (ps.length + 1) A1 (i * 2) H' fs fun x => ev (ps.take i) x * ev qs x) ?_ ?_ ?_
    · refine ⟨none, none, List.replicate (ps.length + 1) 0, rfl, s2, ⟨_, upd_same, pr_rep z1 _⟩, List.length_replicate, ?_, fun x => ?_⟩
      · intro q hq
        rw [List.eq_of_mem_replicate hq]
        exact sz_zero.mono (Nat.zero_le _) (Nat.zero_le _)
      · rw [ev_zeros]
        show (0 : Rat) = ev (ps.take 0) x * ev qs x
        rw [List.take_zero]
        show (0 : Rat) = 0 * ev qs x
        rw [Rat.zero_mul]
    · rintro i σ H1 hi ⟨y, z, fs, rfl, L⟩
      have gp : ps[i]? = some ps[i] := List.getElem?_eq_getElem (by omega)
      refine ⟨_, rfl, b, ws, rfl, .inr (sameT L.same hTb), _, rfl, by omega, by omega, ?_⟩
      show ∃ W : Nat → Nat → L2.St → Hp → Prop, _
      rw [Int.toNat_natCast]
      refine for_range (lo := 0) (n := ws.length) (fun j σ H' => ∃ z fs, σ = [some (.ref a), some (.ref b), some (.ref l), some (.int (0 + (i : Int))), z] ∧
        PtAt K H l (ps.length + 1) A1 (i * 2 + j) H' fs fun x => ev (ps.take i) x * ev qs x + ps[i] * x ^ i * ev (qs.take j) x) ?_ ?_ ?_
      · refine ⟨z, fs, rfl, L.same, L.row, L.len, L.szs, fun x => ?_⟩
        rw [L.val x, List.take_zero]
        show _ = ev (ps.take i) x * ev qs x + ps[i] * x ^ i * 0
        rw [Rat.mul_zero, Rat.add_zero]
      · rintro j σ H2 hj ⟨z2, gs, rfl, M⟩
        obtain ⟨xs, hL, hx⟩ := id M.row
        have hlx := pr_len hx
        have lgs := M.len
        have gq : qs[j]? = some qs[j] := List.getElem?_eq_getElem (by omega)
        have gf : gs[i + j]? = some gs[i + j] := List.getElem?_eq_getElem (by omega)
        obtain ⟨vf, ef, rf⟩ := pr_get hx gf
        obtain ⟨vp, ep, rp⟩ := pr_get (hu.same M.same) gp
        obtain ⟨vq, eq, rq⟩ := pr_get (hw.same M.same) gq
        have zf := M.szs _ (List.mem_of_getElem? gf)
        have zp := hz _ (List.mem_of_getElem? gp)
        have zq := hz' _ (List.mem_of_getElem? gq)
        have e0 : (0 + (i : Int)) + (0 + (j : Int)) = ((i + j : Nat) : Int) := by omega
        have hij : i * 2 + j ≤ 13 := by omega
        refine ⟨_, rfl, _, rfl, _, rfl, _, _, rfl, rfl, l, xs, _, vf, rfl, rfl, SqL.of hL, at_of e0 ef, ?_⟩
        refine ⟨_, rfl, _, rfl, a, us, _, vp, rfl, rfl, sameT M.same hTa, at_of (j := i) (by omega) ep, _, rfl, _, rfl, b, ws, _, vq, rfl, rfl, sameT M.same hTb, at_of (j := j) (by omega) eq, ?_⟩
        refine ⟨vp, vq, _, _, _, _, _, _, rfl, rp, rq, zp, zq, by omega, by omega, fun H3 v3 s3 r3 => ?_⟩
        refine ⟨vf, v3, _, _, _, _, _, _, rfl, rf.same s3, r3, zf, zp.mul zq, by omega, by omega, fun H4 v4 s4 r4 => ?_⟩
        have s34 := s3.trans s4
        have hL4 : H4 l = some (.lst xs) := s34 _ _ hL
        have bL : But l H4 (upd H4 l (.lst (xs.set (i + j) v4))) := But.upd_self
        refine ⟨_, rfl, _, rfl, _, rfl, _, _, rfl, rfl, l, xs, _, i + j, rfl, rfl, hL4, ixN_nat e0 (by omega), ?_⟩
        refine ⟨_, gs.set (i + j) (gs[i + j] + ps[i] * qs[j]), rfl, ?_, ⟨_, upd_same, pr_set (r4.but bL hL4) _ ((hx.same s34).but bL hL4)⟩, ?_, ?_, fun x => ?_⟩
        · intro b o e
          rw [upd_ne (ne_of_none e nlH)]
          exact s34 _ _ (M.same _ _ e)
        · rw [List.length_set]
          exact lgs
        · exact mem_set' (fun q hq => (M.szs q hq).mono (by omega) (by omega)) ((zf.add (zp.mul zq)).mono (by omega) (by omega))
        · rw [ev_set gs (i + j) _ _ x gf, M.val x, ev_take_succ gq x, Lean.Grind.Semiring.pow_add]
          grind
      · rintro σ H2 ⟨z2, gs, rfl, M⟩
        refine ⟨_, _, gs, rfl, M.same, M.row, M.len, ?_, fun x => ?_⟩
        · intro q hq
          exact (M.szs q hq).mono (by omega) (Nat.le_refl _)
        · rw [M.val x, ev_take_succ gp x, show qs.take ws.length = qs from List.take_of_length_le (by omega)]
          grind
    · rintro σ H1 ⟨y, z, fs, rfl, L⟩
      have lfs := L.len
      refine ⟨_, rfl, l, fs, rfl, L.row, by omega, fun H2 c n s3 hR he => ?_⟩
      refine k H2 c _ (L.same.trans s3) hR ?_ ?_ fun x => ?_
      · rw [List.length_take]
        omega
      · intro q hq
        exact (L.szs q (List.mem_of_mem_take hq)).mono (by omega) (Nat.le_refl _)
      · rw [he x, L.val x, show ps.take us.length = ps from List.take_of_length_le (by omega)]
end
end BZ
end
section
set_option maxRecDepth 100000
namespace BZ
open PySem PySem.Spec PyProof.Rows L2
theorem chs_le : ∀ n, n ≤ 6 → ∀ k, k ≤ n → chs n k ≤ 32
  | 0, _, k, h => by
    have e : k = 0 := by omega
    subst e
    decide
  | 1, _, 0, _ => by decide
  | 1, _, 1, _ => by decide
  | 2, _, 0, _ => by decide
  | 2, _, 1, _ => by decide
  | 2, _, 2, _ => by decide
  | 3, _, 0, _ => by decide
  | 3, _, 1, _ => by decide
  | 3, _, 2, _ => by decide
  | 3, _, 3, _ => by decide
  | 4, _, 0, _ => by decide
  | 4, _, 1, _ => by decide
  | 4, _, 2, _ => by decide
  | 4, _, 3, _ => by decide
  | 4, _, 4, _ => by decide
  | 5, _, 0, _ => by decide
  | 5, _, 1, _ => by decide
  | 5, _, 2, _ => by decide
  | 5, _, 3, _ => by decide
  | 5, _, 4, _ => by decide
  | 5, _, 5, _ => by decide
  | 6, _, 0, _ => by decide
  | 6, _, 1, _ => by decide
  | 6, _, 2, _ => by decide
  | 6, _, 3, _ => by decide
  | 6, _, 4, _ => by decide
  | 6, _, 5, _ => by decide
  | 6, _, 6, _ => by decide
  | 1, _, k + 2, h => by omega
  | 2, _, k + 3, h => by omega
  | 3, _, k + 4, h => by omega
  | 4, _, k + 5, h => by omega
  | 5, _, k + 6, h => by omega
  | 6, _, k + 7, h => by omega
  | n + 7, h, _, _ => by omega
theorem int_num (n : Int) : ((n : Rat)).num = n := by simp
theorem int_den (n : Int) : ((n : Rat)).den = 1 := by simp
theorem sz_int {n : Nat} {a : Nat} (h : n ≤ 2 ^ a) : Sz a 0 (((n : Int)) : Rat) := by
  constructor
  · rw [int_num]
    exact h
  · rw [int_den]
    decide
section
variable {P : Program} {w : World} {K : PySem.W.Frag} {mg : Str → Option Value} {base : Heap}
/-! ### the polynomial that a row tells -/
theorem scUnit : FnScope ["_law_some", "_law_degree", "_law_found", "_law_at_here", "_law_part", "_law_turn"] ["_law_some"] (defScope sUnit) := ⟨rfl, rfl, rfl, by decide +kernel, rfl, by decide +kernel, by decide +kernel⟩
def spUnit (K : PySem.W.Frag) : Sp := fun vs H Q _ => ∃ (a : Addr) (qs : List Rat), vs = [.ref a] ∧ RT K H a qs ∧ 1 ≤ qs.length ∧ qs.length ≤ 7 ∧ (∀ q ∈ qs, Sz 3 2 q) ∧
  ∀ (H' : Hp) (c : Addr) (os : List Rat), Same H H' → RT K H' c os → os.length ≤ 7 → (∀ q ∈ os, Sz 1000 20 q) → (∀ x, ev os x = dc x qs) → Q (.ref c) H'
/-- what the inner loop has made after k turns -/
def pw (i : Nat) (x : Rat) : Nat → Rat
  | 0 => 1
  | k + 1 => pw i x k * (if k < i then x else 1 - x)
theorem pw_low (i : Nat) (x : Rat) : ∀ k, k ≤ i → pw i x k = x ^ k
  | 0, _ => by
    show (1 : Rat) = x ^ 0
    grind
  | k + 1, h => by
    show pw i x k * (if k < i then x else 1 - x) = x ^ (k + 1)
    rw [pw_low i x k (by omega), if_pos (by omega)]
    grind
theorem pw_all (i : Nat) (x : Rat) : ∀ m, pw i x (i + m) = x ^ i * (1 - x) ^ m
  | 0 => by
    rw [Nat.add_zero, pw_low i x i (Nat.le_refl _)]
    grind
  | m + 1 => by
    show pw i x (i + m) * (if i + m < i then x else 1 - x) = _
    rw [pw_all i x m, if_neg (by omega)]
    grind
theorem ok_unit {f : Addr} {fd : FuncData} (F : Fun K "_law_unit_poly" "_law_unit_poly" sUnit f fd) (N : Nm mg) (GPT : Cal P w K mg base 3 "_law_p_times" ["_law_one", "_law_other"] (spPTimes K))
    (GPP : Cal P w K mg base 3 "_law_p_plus" ["_law_one", "_law_other"] (spPPlus K)) (GS : Cal P w K mg base 3 "_law_scaled" ["_law_poly", "_law_number"] (spScaled K))
    (GT : Cal P w K mg base 2 "_law_times" ["_law_one", "_law_other"] (spBin K 4000 fun q r => q * r)) (GC : Cal P w K mg base 1 "_law_choose" ["_law_many", "_law_few"] spChoose) :
    FnOk P w K mg base CX0 4 f fd ["_law_some"] (spUnit K) := by
  refine F.ok (k := 3) scUnit (fun vs H Q E h => ?_) (fun cdv A outer s H vs Q E hr h => ?_)
  · obtain ⟨a, qs, rfl, _⟩ := h
    rfl
  · obtain ⟨a, qs, rfl, ⟨vs, hT, hv⟩, h1, h7, hz, k⟩ := h
    have hl := pr_len hv
    refine ⟨_, pss_cons (ps_par (i := 1) (j := 2) rfl scUnit.nd rfl rfl (by decide) rfl rfl (pa_cons (pe_op op_sub (pe_callB call_len_seq (by rfl) N.len PySem.boot_len (pa_cons (pv 0) pa_nil)) pe_int) (pa_cons (pe_tup pa_nil) pa_nil)) (by rfl))
      (pss_cons (ps_for PassesOwn.never rfl (pi_range1 (by rfl) N.range (pa_cons (pe_op op_add (pv 1) pe_int) pa_nil)) (pg_name (i := 3) scUnit.nd rfl (.inl rfl))
        (pss_cons (ps_set (i := 4) scUnit.nd rfl (.inl rfl) (pe_tup (pa_cons (pe_tup (pa_cons pe_int (pa_cons pe_int pa_nil))) pa_nil)))
        (pss_cons (ps_for PassesOwn.never rfl (pi_range1 (by rfl) N.range (pa_cons (pv 1) pa_nil)) (pg_name (i := 5) scUnit.nd rfl (.inl rfl))
          (pss_one (ps_set (i := 4) scUnit.nd rfl (.inl rfl) (pcal GPT hr (by rfl) (pa_cons (pv 4) (pa_cons (pe_ifExp (pt_cmpR op_lt (pv 5) (pv 3) (nomark _))
            (pe_tup (pa_cons (pe_tup (pa_cons pe_int (pa_cons pe_int pa_nil))) (pa_cons (pe_tup (pa_cons pe_int (pa_cons pe_int pa_nil))) pa_nil)))
            (pe_tup (pa_cons (pe_tup (pa_cons pe_int (pa_cons pe_int pa_nil))) (pa_cons (pe_tup (pa_cons (pe_un un_neg pe_int) (pa_cons pe_int pa_nil))) pa_nil)))) pa_nil))))))
        (pss_one (ps_set (i := 2) scUnit.nd rfl (.inl rfl) (pcal GPP hr (by rfl) (pa_cons (pv 2) (pa_cons (pcal GS hr (by rfl) (pa_cons (pv 4) (pa_cons (pcal GT (hr.mono (by decide)) (by rfl)
          (pa_cons (pe_ix ix_tup (pv 0) (pv 3) (fun _ _ => rfl)) (pa_cons (pe_tup (pa_cons (pcal GC (hr.mono (by decide)) (by rfl) (pa_cons (pv 1) (pa_cons (pv 3) pa_nil))) (pa_cons pe_int pa_nil))) pa_nil))) pa_nil))) pa_nil))))))))
      (pss_one (ps_ret (pv 2)))), ?_⟩
    obtain ⟨n, hn⟩ : ∃ n : Nat, qs.length = n + 1 := ⟨qs.length - 1, by omega⟩
    refine ⟨_, rfl, a, vs, rfl, .inr hT, _, 1, rfl, rfl, Nat.zero_le _, fun p np => ⟨_, _, rfl, ?_⟩⟩
    have en : (vs.length : Int) - 1 = (n : Int) := by omega
    show tSeq _ _ _ [some (.ref a), some (.int ((vs.length : Int) - 1)), some (.ref p), none, none, none] _
    rw [en]
    have s1 : Same H (upd H p (.tup [])) := same_new np
    refine ⟨_, rfl, _, 1, rfl, rfl, _, rfl, by omega, by omega, ?_⟩
    have en1 : ((n : Int) + 1).toNat = n + 1 := by omega
    show ∃ W : Nat → Nat → L2.St → Hp → Prop, _
    rw [en1]
    refine for_range (lo := 0) (n := n + 1) (fun i σ H' => Same H H' ∧ ∃ (c : Addr) (os : List Rat) (x3 x4 x5 : Option V), σ = [some (.ref a), some (.int (n : Int)), some (.ref c), x3, x4, x5] ∧ RT K H' c os ∧ os.length ≤ 7 ∧
      (∀ q ∈ os, Sz (120 * i) (2 * i) q) ∧ ∀ x, ev os x = bern x qs i) ?_ ?_ ?_
    · exact ⟨s1, p, [], none, none, none, rfl, ⟨[], newT, .nil⟩, Nat.zero_le _, fun q hq => (by cases hq), fun x => rfl⟩
    · rintro i σ H1 hi ⟨s2, c, os, x3, x4, x5, rfl, hc, lc, zc, vc⟩
      -- part = ((1, 1),)
      refine ⟨(by show 2 ≤ sizeLine; decide), fun p1 np1 => ⟨(by show 1 ≤ sizeLine; decide), fun p2 np2 => ?_⟩⟩
      have s3 := s2.trans ((same_new (o := .tup [.int 1, .int 1]) np1).trans (same_new (o := .tup [.ref p1]) np2))
      have z1 : RV K (upd (upd H1 p1 (.tup [.int 1, .int 1])) p2 (.tup [.ref p1])) (.ref p1) 1 := (RV.new (q := 1) rfl rfl).same (same_new np2)
      have hc3 := hc.same ((same_new (o := .tup [.int 1, .int 1]) np1).trans (same_new (o := .tup [.ref p1]) np2))
      refine ⟨_, rfl, _, rfl, by omega, by omega, ?_⟩
      show ∃ W : Nat → Nat → L2.St → Hp → Prop, _
      rw [Int.toNat_natCast]
      refine for_range (lo := 0) (n := n) (fun j σ H' => Same H H' ∧ RT K H' c os ∧ ∃ (d : Addr) (ps : List Rat) (y5 : Option V), σ = [some (.ref a), some (.int (n : Int)), some (.ref c), some (.int (0 + (i : Int))), some (.ref d), y5] ∧
        RT K H' d ps ∧ ps.length ≤ j + 1 ∧ (∀ q ∈ ps, Sz (14 * j) 0 q) ∧ ∀ x, ev ps x = pw i x j) ?_ ?_ ?_
      · refine ⟨s3, hc3, p2, [1], _, rfl, ⟨[.ref p1], newT, .cons z1 .nil⟩, by decide, ?_, fun x => ?_⟩
        · intro q hq
          rw [List.mem_singleton.mp hq]
          exact sz_one
        · show (0 : Rat) * x + 1 = 1
          rw [Rat.zero_mul, Rat.zero_add]
      · rintro j σ H2 hj ⟨s4, hc4, d, ps, y5, rfl, hd, ld, zd, vd⟩
        refine ⟨_, rfl, _, rfl, _, rfl, _, _, rfl, rfl, _, rfl, ite2 (fun e => ?_) (fun e => ?_)⟩
        · have hji : j < i := by
            have e2 := of_decide_eq_true e
            omega
          refine ⟨(by show 2 ≤ sizeLine; decide), fun r1 nr1 => ⟨(by show 2 ≤ sizeLine; decide), fun r2 nr2 => ⟨(by show 2 ≤ sizeLine; decide), fun r3 nr3 => ?_⟩⟩⟩
          have t1 := same_new (o := .tup [.int 0, .int 1]) nr1
          have t2 := same_new (o := .tup [.int 1, .int 1]) nr2
          have t3 := same_new (o := .tup [.ref r1, .ref r2]) nr3
          refine ⟨d, r3, ps, [0, 1], 14 * j, rfl, hd.same (t1.trans (t2.trans t3)), ⟨_, newT, .cons ((RV.new (q := 0) rfl rfl).same (t2.trans t3)) (.cons ((RV.new (q := 1) rfl rfl).same t3) .nil)⟩, by omega, rfl, zd, ?_, by omega, fun H3 d2 ps2 s5 hd2 ld2 zd2 vd2 => ?_⟩
          · intro q hq
            rcases List.mem_cons.mp hq with z | z
            · rw [z]
              exact sz_zero
            · rw [List.mem_singleton.mp z]
              exact sz_one
          · have t4 := (t1.trans (t2.trans t3)).trans s5
            refine ⟨s4.trans t4, hc4.same t4, d2, ps2, _, rfl, hd2, by omega, fun q hq => (zd2 q hq).mono (by omega) (Nat.le_refl _), fun x => ?_⟩
            rw [vd2 x, vd x]
            show pw i x j * ((0 * x + 1) * x + 0) = pw i x j * (if j < i then x else 1 - x)
            rw [if_pos hji]
            grind
        · have hji : ¬ j < i := by
            intro e2
            exact e (decide_eq_true (by omega))
          refine ⟨(by show 2 ≤ sizeLine; decide), fun r1 nr1 => ⟨1, rfl, (by show 2 ≤ sizeLine; decide), fun r2 nr2 => ⟨(by show 2 ≤ sizeLine; decide), fun r3 nr3 => ?_⟩⟩⟩
          have t1 := same_new (o := .tup [.int 1, .int 1]) nr1
          have t2 := same_new (o := .tup [.int (-1), .int 1]) nr2
          have t3 := same_new (o := .tup [.ref r1, .ref r2]) nr3
          refine ⟨d, r3, ps, [1, -1], 14 * j, rfl, hd.same (t1.trans (t2.trans t3)), ⟨_, newT, .cons ((RV.new (q := 1) rfl rfl).same (t2.trans t3)) (.cons ((RV.new (q := -1) rfl rfl).same t3) .nil)⟩, by omega, rfl, zd, ?_, by omega, fun H3 d2 ps2 s5 hd2 ld2 zd2 vd2 => ?_⟩
          · intro q hq
            rcases List.mem_cons.mp hq with z | z
            · rw [z]
              exact sz_one
            · rw [List.mem_singleton.mp z]
              exact sz_neg
          · have t4 := (t1.trans (t2.trans t3)).trans s5
            refine ⟨s4.trans t4, hc4.same t4, d2, ps2, _, rfl, hd2, by omega, fun q hq => (zd2 q hq).mono (by omega) (Nat.le_refl _), fun x => ?_⟩
            rw [vd2 x, vd x]
            show pw i x j * ((0 * x + (-1)) * x + 1) = pw i x j * (if j < i then x else 1 - x)
            rw [if_neg hji]
            grind
      · rintro σ H2 ⟨s4, hc4, d, ps, y5, rfl, hd, ld, zd, vd⟩
        have gq : qs[i]? = some qs[i] := List.getElem?_eq_getElem (by omega)
        obtain ⟨v, gv, rv⟩ := pr_get (hv.same s4) gq
        have zq := hz _ (List.mem_of_getElem? gq)
        have hch := chs_le n (by omega) i (by omega)
        refine ⟨_, rfl, _, rfl, _, rfl, _, rfl, a, vs, _, v, rfl, rfl, sameT s4 hT, at_of (j := i) (by omega) gv, ?_⟩
        refine ⟨_, rfl, _, rfl, n, i, ?_, by omega, by omega, ?_⟩
        · show [V.int (n : Int), V.int (0 + (i : Int))] ++ [] = _
          rw [Int.zero_add]
          rfl
        refine ⟨(by show 2 ≤ sizeLine; decide), fun r1 nr1 => ?_⟩
        have t1 := same_new (o := .tup [.int (chs n i : Int), .int 1]) nr1
        have zch : Sz 5 0 (((chs n i : Nat) : Int) : Rat) := sz_int hch
        have rch : RV K (upd H2 r1 (.tup [.int (chs n i : Int), .int 1])) (.ref r1) (((chs n i : Nat) : Int) : Rat) := RV.new (int_num _).symm (by rw [int_den]; rfl)
        refine ⟨v, .ref r1, _, _, 3, 2, 5, 0, rfl, rv.same t1, rch, zq, zch, by decide, by decide, fun H3 v3 s5 r3 => ?_⟩
        have t2 := t1.trans s5
        refine ⟨d, v3, ps, _, rfl, hd.same t2, r3, by omega, fun q hq => (zd q hq).mono (by omega) (Nat.le_refl _), (zq.mul zch).mono (by decide) (by decide), fun H4 b bs s6 hb lb zb vb => ?_⟩
        have t3 := t2.trans s6
        refine ⟨c, b, os, bs, _, _, _, _, rfl, hc4.same t3, hb, lc, by omega, zc, zb, by omega, by omega, fun H5 c2 os2 s7 hc2 lc2 zc2 vc2 => ?_⟩
        refine ⟨s4.trans (t3.trans s7), c2, os2, _, _, _, rfl, hc2, lc2, fun q hq => (zc2 q hq).mono (by omega) (by omega), fun x => ?_⟩
        rw [vc2 x, vc x, vb x, vd x]
        show bern x qs i + pw i x n * (qs[i] * (((chs n i : Nat) : Int) : Rat)) = bern x qs i + (x ^ i * (1 - x) ^ (qs.length - 1 - i)) * (qs.getD i 0 * (((chs (qs.length - 1) i : Nat) : Int) : Rat))
        have e1 : qs.length - 1 = n := by omega
        have e2 : n = i + (n - i) := by omega
        have e3 : pw i x n = x ^ i * (1 - x) ^ (n - i) := by
          have z := pw_all i x (n - i)
          rw [← e2] at z
          exact z
        have e4 : qs.getD i 0 = qs[i] := by
          rw [List.getD_eq_getElem?_getD, gq]
          rfl
        rw [e1, e3, e4]
    · rintro σ H1 ⟨s2, c, os, x3, x4, x5, rfl, hc, lc, zc, vc⟩
      refine ⟨_, rfl, k H1 c os s2 hc lc (fun q hq => (zc q hq).mono (by omega) (by omega)) fun x => ?_⟩
      rw [vc x, ← hn]
      exact bern_dc x qs (by omega) h7
end
end BZ
end
section
set_option maxRecDepth 100000
namespace BZ
open PySem PySem.Spec PyProof.Rows L2
section
variable {P : Program} {w : World} {K : PySem.W.Frag} {mg : Str → Option Value} {base : Heap}
theorem clsTL : Paired ClsV [V.ty "tuple", V.ty "list"] [.type "tuple", .type "list"] := .cons (.ty _) (.cons (.ty _) .nil)
theorem kitInt {K : PySem.W.Frag} : PySem.W.kitAny K (.type "int") [.type "tuple", .type "list"] = some false :=
  kitAny_cons (b := false) (kit_ty (by decide +kernel)) (fun _ => kitAny_cons (b := false) (kit_ty (by decide +kernel)) (fun _ => kitAny_nil) (fun h => nomatch h)) (fun h => nomatch h)
theorem kitTup {K : PySem.W.Frag} : PySem.W.kitAny K (.type "tuple") [.type "tuple", .type "list"] = some true :=
  kitAny_cons (b := true) (kit_ty (by decide +kernel)) (fun h => nomatch h) (fun _ => rfl)
/-! ### alike -/
theorem scAlike : FnScope ["_law_found", "_law_due", "_law_k"] ["_law_found", "_law_due"] (defScope sAlike) := ⟨rfl, rfl, rfl, by decide +kernel, rfl, by decide +kernel, by decide +kernel⟩
def spAlikeI : Sp := fun vs H Q _ => ∃ i : Int, vs = [.int i, .int i] ∧ ∀ H', Same H H' → Q (.bl true) H'
theorem ok_alikeI {f : Addr} {fd : FuncData} (F : Fun K "_law_alike" "_law_alike" sAlike f fd) (N : Nm mg) : FnOk P w K mg base CX0 1 f fd ["_law_found", "_law_due"] spAlikeI := by
  refine F.ok (k := 0) scAlike (fun vs H Q E h => ?_) (fun cdv A outer s H vs Q E hr h => ?_)
  · obtain ⟨i, rfl, _⟩ := h
    rfl
  · obtain ⟨i, rfl, k⟩ := h
    refine ⟨_, pss_cons (ps_if (pt_val (pe_callB call_isiT (by rfl) N.isinstance (by decide +kernel) (pa_cons (pv 1) (pa_cons (pe_tup (pa_cons (pe_bltn (v := .ty "tuple") (by rfl) N.tuple (by decide +kernel) rfl) (pa_cons (pe_bltn (v := .ty "list") (by rfl) N.list (by decide +kernel) rfl) pa_nil))) pa_nil)))) pss_never pss_nil)
      (pss_cons (ps_if (PW.pt (pw_or (pt_cmp (pc_isN (pv 1))) (pw_or1 (pt_val (pe_callB call_isi (by rfl) N.isinstance (by decide +kernel) (pa_cons (pv 1) (pa_cons (pe_bltn (v := .ty "str") (by rfl) N.str (by decide +kernel) rfl) pa_nil))))))) pss_never pss_nil)
      (pss_one (ps_ret (pe_and (pe_callB call_isi (by rfl) N.isinstance (by decide +kernel) (pa_cons (pv 0) (pa_cons (pe_bltn (v := .ty "int") (by rfl) N.int (by decide +kernel) rfl) pa_nil)))
        (pe_and (pe_cmpR op_eq (pe_callB call_isi (by rfl) N.isinstance (by decide +kernel) (pa_cons (pv 0) (pa_cons (pe_bltn (v := .ty "bool") (by rfl) N.bool (by decide +kernel) rfl) pa_nil)))
            (pe_callB call_isi (by rfl) N.isinstance (by decide +kernel) (pa_cons (pv 1) (pa_cons (pe_bltn (v := .ty "bool") (by rfl) N.bool (by decide +kernel) rfl) pa_nil))) (nomark _))
          (pe_one (pe_cmpR op_eq (pv 0) (pv 1) (nomark _)))))))), ?_⟩
    refine ⟨_, rfl, (by show 2 ≤ sizeLine; decide), fun p np => ?_⟩
    refine ⟨_, p, _, _, _, false, rfl, upd_same, clsTL, .base (.int i), kitInt, false, rfl, iteF ?_⟩
    refine ⟨_, rfl, false, rfl, iteF ?_⟩
    refine ⟨_, rfl, _, _, _, _, false, rfl, .ty _, .base (.int i), kit_ty (by decide +kernel), false, rfl, iteF ?_⟩
    refine ⟨_, rfl, _, _, _, _, true, rfl, .ty _, .base (.int i), kit_ty (by decide +kernel), true, rfl, iteT ?_⟩
    refine ⟨_, rfl, _, _, _, _, false, rfl, .ty _, .base (.int i), kit_ty (by decide +kernel), _, rfl, _, _, _, _, false, rfl, .ty _, .base (.int i), kit_ty (by decide +kernel), rfl, true, rfl, iteT ?_⟩
    refine ⟨_, rfl, _, rfl, rfl, ?_⟩
    have e : decide (V.int i = V.int i) = true := decide_eq_true rfl
    show Q (.bl (decide (V.int i = V.int i))) _
    rw [e]
    exact k _ (same_new np)
def spAlike (K : PySem.W.Frag) : Sp := fun vs H Q _ => ∃ (v u : V) (q : Rat), vs = [v, u] ∧ RV K H v q ∧ RV K H u q ∧ ∀ H', Same H H' → Q (.bl true) H'
theorem ok_alike {f : Addr} {fd : FuncData} (F : Fun K "_law_alike" "_law_alike" sAlike f fd) (N : Nm mg) (GI : Cal P w K mg base 1 "_law_alike" ["_law_found", "_law_due"] spAlikeI) :
    FnOk P w K mg base CX0 2 f fd ["_law_found", "_law_due"] (spAlike K) := by
  refine F.ok (k := 1) scAlike (fun vs H Q E h => ?_) (fun cdv A outer s H vs Q E hr h => ?_)
  · obtain ⟨v, u, q, rfl, _⟩ := h
    rfl
  · obtain ⟨v, u, q, rfl, ⟨a, rfl, hA⟩, ⟨b, rfl, hB⟩, k⟩ := h
    refine ⟨_, pss_cons (ps_if (pt_val (pe_callB call_isiT (by rfl) N.isinstance (by decide +kernel) (pa_cons (pv 1) (pa_cons (pe_tup (pa_cons (pe_bltn (v := .ty "tuple") (by rfl) N.tuple (by decide +kernel) rfl) (pa_cons (pe_bltn (v := .ty "list") (by rfl) N.list (by decide +kernel) rfl) pa_nil))) pa_nil))))
      (pss_cons (ps_if (PW.pt (pw_or (pt_not (pt_val (pe_callB call_isiT (by rfl) N.isinstance (by decide +kernel) (pa_cons (pv 0) (pa_cons (pe_tup (pa_cons (pe_bltn (v := .ty "tuple") (by rfl) N.tuple (by decide +kernel) rfl) (pa_cons (pe_bltn (v := .ty "list") (by rfl) N.list (by decide +kernel) rfl) pa_nil))) pa_nil)))))
          (pw_or1 (pt_cmpR op_ne (pe_callB call_isi (by rfl) N.isinstance (by decide +kernel) (pa_cons (pv 0) (pa_cons (pe_bltn (v := .ty "list") (by rfl) N.list (by decide +kernel) rfl) pa_nil)))
            (pe_callB call_isi (by rfl) N.isinstance (by decide +kernel) (pa_cons (pv 1) (pa_cons (pe_bltn (v := .ty "list") (by rfl) N.list (by decide +kernel) rfl) pa_nil))) (nomark _))))) pss_never pss_nil)
      (pss_cons (ps_if (pt_cmpR op_ne (pe_callB call_len_seq (by rfl) N.len PySem.boot_len (pa_cons (pv 0) pa_nil)) (pe_callB call_len_seq (by rfl) N.len PySem.boot_len (pa_cons (pv 1) pa_nil)) (nomark _)) pss_never pss_nil)
      (pss_one (ps_ret (pe_cmpR (op_eqD hr.units) (pe_lc (own := [("_law_k", 2)]) (g := gName 2) rfl scAlike.nd
          (pi_range1 (by rfl) N.range (pa_cons (pe_callB call_len_seq (by rfl) N.len PySem.boot_len (pa_cons (pv 1) pa_nil)) pa_nil))
          (blkOk_by (own := [("_law_k", 2)]) (N := ["_law_found", "_law_due", "_law_k"]) (sc := defScope sAlike) (by decide +kernel))
          (fun _ _ _ _ _ => pg_name (i := 2) scAlike.nd rfl (Or.inl rfl))
          (fun _ _ _ _ _ => pts_one (pt_not (pt_val (pcal GI hr (by rfl) (pa_cons (pe_ix (ixTK (K := K) rfl) (pv 0) (pv 2) (fun _ _ => rfl)) (pa_cons (pe_ix (ixTK (K := K) rfl) (pv 1) (pv 2) (fun _ _ => rfl)) pa_nil))))))
          (fun _ _ _ _ _ => pv 2)) (pe_lst pa_nil) (nomark _)))))) pss_nil) pss_never, ?_⟩
    refine ⟨_, rfl, (by show 2 ≤ sizeLine; decide), fun p1 np1 => ?_⟩
    have s1 : Same H (upd H p1 (.tup [.ty "tuple", .ty "list"])) := same_new np1
    refine ⟨_, p1, _, _, _, true, rfl, upd_same, clsTL, tyT (sameT s1 hB), kitTup, true, rfl, iteT ?_⟩
    refine ⟨_, rfl, (by show 2 ≤ sizeLine; decide), fun p2 np2 => ?_⟩
    have s2 := s1.trans (same_new (o := .tup [.ty "tuple", .ty "list"]) np2)
    refine ⟨_, p2, _, _, _, true, rfl, upd_same, clsTL, tyT (sameT s2 hA), kitTup, true, rfl, iteF ?_⟩
    refine ⟨_, rfl, _, _, _, _, false, rfl, .ty _, tyT (sameT s2 hA), kit_ty (by decide +kernel), _, rfl, _, _, _, _, false, rfl, .ty _, tyT (sameT s2 hB), kit_ty (by decide +kernel), rfl, false, rfl, iteF ?_⟩
    refine ⟨_, rfl, a, _, rfl, .inr (sameT s2 hA), _, rfl, b, _, rfl, .inr (sameT s2 hB), rfl, false, rfl, iteF ?_⟩
    refine ⟨_, rfl, b, _, rfl, .inr (sameT s2 hB), _, rfl, (show -(2 ^ 62) ≤ (2 : Int) by decide), (show (2 : Int) < 2 ^ 62 by decide), fun D nD => ?_⟩
    have s3 := s2.trans (same_new (o := .lst []) nD)
    show ∃ W : Nat → Nat → Hp → Prop, _
    refine lc_range (lo := 0) (n := 2) (fun i Hc => Hc D = some (.lst []) ∧ Same H Hc) ⟨upd_same, s3⟩ ?_ ?_
    · rintro i Hc hi ⟨eD, sc⟩
      obtain ⟨z, hz⟩ : ∃ z : Int, ([V.int q.num, V.int (q.den : Int)])[i]? = some (.int z) := by
        match i, hi with
        | 0, _ => exact ⟨_, rfl⟩
        | 1, _ => exact ⟨_, rfl⟩
      refine ⟨rfl, ?_⟩
      refine ⟨_, rfl, _, rfl, a, _, _, _, rfl, rfl, sameT sc hA, at_of (j := i) (by omega) hz, _, rfl, _, rfl, b, _, _, _, rfl, rfl, sameT sc hB, at_of (j := i) (by omega) hz, ?_⟩
      exact ⟨z, rfl, fun H2 s4 => ⟨true, rfl, iteF ⟨s4 _ _ eD, sc.trans s4⟩⟩⟩
    · rintro Hc ⟨eD, sc⟩
      refine ⟨Nat.zero_le _, fun p3 np3 => ?_⟩
      have s5 : Same Hc (upd Hc p3 (.lst [])) := same_new np3
      refine ⟨_, _, .lst (SqL.of (s5 _ _ eD)) .nil, .lst (SqL.of upd_same) .nil, rfl, rfl, ?_⟩
      exact k _ (sc.trans s5)
end
end BZ
end
section
set_option maxRecDepth 100000
namespace BZ
open PySem PySem.Spec PyProof.Rows L2
theorem dcn_sz {t : Rat} (ht : Sz 4 4 t) : ∀ (n k : Nat) (qs : List Rat), qs.length = n + 1 → (∀ q ∈ qs, Sz (lvA k) (lvB k) q) → Sz (lvA (k + n)) (lvB (k + n)) (dcn t n qs)
  | 0, k, qs, hl, h => by
    cases qs with
    | nil => simp at hl
    | cons a r => exact h a List.mem_cons_self
  | n + 1, k, qs, hl, h => by
    have z := dcn_sz ht n (k + 1) (stepL t qs) (by rw [stepL_len]; omega) (stepL_mem t _ _ (fun p q hp hq => Sz.mix hp hq ht) qs h)
    have e : k + 1 + n = k + (n + 1) := by omega
    rw [e] at z
    exact z
theorem dc_sz {t : Rat} (ht : Sz 4 4 t) {qs : List Rat} (h1 : 1 ≤ qs.length) (h7 : qs.length ≤ 7) (h : ∀ q ∈ qs, Sz 4 4 q) : Sz 20000 20000 (dc t qs) := by
  have z := dcn_sz ht (qs.length - 1) 0 qs (by omega) h
  have b : ∀ k, k ≤ 6 → lvA k ≤ 20000 ∧ lvB k ≤ 20000 := by
    intro k hk
    match k, hk with
    | 0, _ => decide
    | 1, _ => decide
    | 2, _ => decide
    | 3, _ => decide
    | 4, _ => decide
    | 5, _ => decide
    | 6, _ => decide
    | k + 7, h => omega
  have b2 := b (0 + (qs.length - 1)) (by omega)
  exact z.mono b2.1 b2.2
theorem part_in {v : Int} (h0 : 0 ≤ v) (h1 : v < 9) : 0 ≤ mk v 8 ∧ mk v 8 ≤ 1 := by
  have e := mk_val v 8
  have c0 : (0 : Rat) ≤ (v : Rat) := by exact_mod_cast h0
  have c1 : (v : Rat) ≤ (8 : Rat) := by
    have h2 : v ≤ 8 := by omega
    exact_mod_cast h2
  have e8 : (((8 : Int)) : Rat) = (8 : Rat) := rfl
  rw [e8] at e
  have e2 : mk v 8 * 8 = (v : Rat) := by
    rw [e]
    grind
  constructor
  · grind
  · grind
theorem filt_snoc {qs : List Rat} {i : Nat} {q : Rat} (f : Rat → Bool) (h : qs[i]? = some q) : (qs.take (i + 1)).filter f = (qs.take i).filter f ++ (if f q = true then [q] else []) := by
  rw [List.take_add_one, h, List.filter_append]
  congr 1
  show List.filter f [q] = _
  rw [List.filter_cons, List.filter_nil]
theorem dpAll_of {K : PySem.W.Frag} {H : Hp} : ∀ {vs : List V} {qs : List Rat}, RVs K H vs qs → DpAll K H vs (qs.map dq)
  | _, _, .nil => .nil
  | _, _, .cons r t => .cons (dq_of r) (dpAll_of t)
theorem lay_all : ∀ qs : List Rat, PyData.canLayAll0 (qs.map dq) = true
  | [] => rfl
  | q :: qs => by
    show (PyData.canLay0 (dq q) && PyData.canLayAll0 (qs.map dq)) = true
    rw [lay_all qs]
    rfl
theorem depth_all : ∀ qs : List Rat, PyData.depthAll (qs.map dq) ≤ 1
  | [] => Nat.zero_le _
  | q :: qs => by
    show max (PyData.depth (dq q)) (PyData.depthAll (qs.map dq)) ≤ 1
    have h1 := depth_all qs
    have h2 : PyData.depth (dq q) = 1 := rfl
    omega
theorem list_shaped (qs : List Rat) : SeqAt.shaped (.list (qs.map dq)) = true := by
  show (PyData.canLayAll0 (qs.map dq) && decide (PyData.depthAll (qs.map dq) + 1 ≤ 64)) = true
  have h := depth_all qs
  rw [lay_all, decide_eq_true (by omega)]
  rfl
theorem ne_nil_eqv {qs : List Rat} (h : qs ≠ []) : PyData.eqv (.list (qs.map dq)) (.list []) = false := by
  cases qs with
  | nil => exact absurd rfl h
  | cons a r => rfl
section
variable {P : Program} {w : World} {K : PySem.W.Frag} {mg : Str → Option Value} {base : Heap}
/-! ### the law -/
theorem scLaw : FnScope ["_law_script", "_law_row_here", "_law_some", "_law_t", "_law_poly", "_law_part", "_law_found", "_law_low", "_law_high", "_law_one"] ["_law_script"] (defScope sLaw) := ⟨rfl, rfl, rfl, by decide +kernel, rfl, by decide +kernel, by decide +kernel⟩
def spLaw (K : PySem.W.Frag) : Sp := fun vs H Q _ => ∃ (a : Addr) (ns : List Int), vs = [.ref a] ∧ SqL K H a (ns.map V.int) ∧ ∀ H', Q (.bl true) H'
/-- the defs that the law calls -/
structure Defs (P : Program) (w : World) (K : PySem.W.Frag) (mg : Str → Option Value) (base : Heap) : Prop where
  row : Cal P w K mg base 4 "_law_row" ["_law_row_here", "_law_most"] (spRow K)
  draw : Cal P w K mg base 3 "_law_draw" ["_law_row_here"] (spDraw K)
  unit : Cal P w K mg base 4 "_law_unit_poly" ["_law_some"] (spUnit K)
  alike : Cal P w K mg base 2 "_law_alike" ["_law_found", "_law_due"] (spAlike K)
  rowValue : Cal P w K mg base 5 "row_value" ["row", "t"] (spRowValue K)
  at' : Cal P w K mg base 3 "_law_at" ["_law_poly", "_law_x"] (spAt K)
  made : Cal P w K mg base 1 "_law_made" ["_law_top", "_law_low"] (spMade K 4000)
  taken : Cal P w K mg base 1 "_law_taken" ["_law_row_here", "_law_many"] (spTaken K)
  below : Cal P w K mg base 1 "_law_below" ["_law_one", "_law_other"] (spBelow K)
theorem ok_law {f : Addr} {fd : FuncData} (F : Fun K "law" "law" sLaw f fd) (G : Defs P w K mg base) : FnOk P w K mg base CX0 6 f fd ["_law_script"] (spLaw K) := by
  refine F.ok (k := 5) scLaw (fun vs H Q E h => ?_) (fun cdv A outer sh H vs Q E hr h => ?_)
  · obtain ⟨a, ns, rfl, _⟩ := h
    rfl
  · obtain ⟨a, ns, rfl, hz, k⟩ := h
    have hr1 : Room 1 _ := hr.mono (by decide)
    have hr2 : Room 2 _ := hr.mono (by decide)
    have hr3 : Room 3 _ := hr.mono (by decide)
    have hr4 : Room 4 _ := hr.mono (by decide)
    refine ⟨_, pss_cons (ps_set (i := 1) scLaw.nd rfl (.inl rfl) (pe_lst (pa_cons (pv 0) (pa_cons pe_int (pa_cons pe_int (pa_cons pe_int pa_nil))))))
      (pss_cons (ps_par (i := 2) (j := 3) rfl scLaw.nd rfl rfl (by decide) rfl rfl (pa_cons (pcal G.row hr4 (by rfl) (pa_cons (pv 1) (pa_cons pe_int pa_nil))) (pa_cons (pcal G.draw hr3 (by rfl) (pa_cons (pv 1) pa_nil)) pa_nil)) (by rfl))
      (pss_cons (ps_set (i := 4) scLaw.nd rfl (.inl rfl) (pcal G.unit hr4 (by rfl) (pa_cons (pv 2) pa_nil)))
      (pss_cons (ps_if (pt_not (pt_val (pcal G.alike hr2 (by rfl) (pa_cons (pcal G.rowValue hr (by rfl) (pa_cons (pv 2) (pa_cons (pv 3) pa_nil))) (pa_cons (pcal G.at' hr3 (by rfl) (pa_cons (pv 4) (pa_cons (pv 3) pa_nil))) pa_nil))))) pss_never pss_nil)
      (pss_cons (ps_set (i := 5) scLaw.nd rfl (.inl rfl) (pcal G.made hr1 (by rfl) (pa_cons (pcal G.taken hr1 (by rfl) (pa_cons (pv 1) (pa_cons pe_int pa_nil))) (pa_cons pe_int pa_nil))))
      (pss_cons (ps_set (i := 6) scLaw.nd rfl (.inr rfl) (pcal G.rowValue hr (by rfl) (pa_cons (pv 2) (pa_cons (pv 5) pa_nil))))
      (pss_cons (ps_if (pt_cmpR (op_neD hr.units) (pv 6) (pcal G.at' hr3 (by rfl) (pa_cons (pv 4) (pa_cons (pv 5) pa_nil))) (nomark _)) pss_never pss_nil)
      (pss_cons (ps_setLc (i := 7) (own := [("_law_one", 9)]) (g := gName 9) rfl scLaw.nd rfl rfl (sw_true rfl rfl rfl (by decide +kernel)) (pi_tup (pv 2))
        (blkOk_by (own := [("_law_one", 9)]) (N := ["_law_script", "_law_row_here", "_law_some", "_law_t", "_law_poly", "_law_part", "_law_found", "_law_low", "_law_high", "_law_one"]) (sc := defScope sLaw) (by decide +kernel))
        (fun _ _ _ _ _ => pg_name (i := 9) scLaw.nd rfl (Or.inl rfl))
        (fun _ _ _ _ _ => pts_one (pt_not (pt_val (pcal G.below hr1 (by rfl) (pa_cons (pv 6) (pa_cons (pv 9) pa_nil))))))
        (fun _ _ _ _ _ => pv 9))
      (pss_cons (ps_setLc (i := 8) (own := [("_law_one", 9)]) (g := gName 9) rfl scLaw.nd rfl rfl (sw_true rfl rfl rfl (by decide +kernel)) (pi_tup (pv 2))
        (blkOk_by (own := [("_law_one", 9)]) (N := ["_law_script", "_law_row_here", "_law_some", "_law_t", "_law_poly", "_law_part", "_law_found", "_law_low", "_law_high", "_law_one"]) (sc := defScope sLaw) (by decide +kernel))
        (fun _ _ _ _ _ => pg_name (i := 9) scLaw.nd rfl (Or.inl rfl))
        (fun _ _ _ _ _ => pts_one (pt_not (pt_val (pcal G.below hr1 (by rfl) (pa_cons (pv 9) (pa_cons (pv 6) pa_nil))))))
        (fun _ _ _ _ _ => pv 9))
      (pss_cons (ps_if (PW.pt (pw_or (pt_cmpR (op_eqD hr.units) (pv 7) (pe_lst pa_nil) (nomark _)) (pw_or1 (pt_cmpR (op_eqD hr.units) (pv 8) (pe_lst pa_nil) (nomark _))))) pss_never pss_nil)
      (pss_one (ps_ret (pe_and (pe_cmpR (op_eqD hr.units) (pcal G.rowValue hr (by rfl) (pa_cons (pv 2) (pa_cons (pe_tup (pa_cons pe_int (pa_cons pe_int pa_nil))) pa_nil))) (pe_ix ix_tup (pv 2) pe_int (fun _ _ => rfl)) (nomark _))
        (pe_one (pe_cmpR (op_eqD hr.units) (pcal G.rowValue hr (by rfl) (pa_cons (pv 2) (pa_cons (pe_tup (pa_cons pe_int (pa_cons pe_int pa_nil))) pa_nil))) (pe_ix ix_tup (pv 2) (pe_un un_neg pe_int) (fun _ _ => rfl)) (nomark _))))))))))))))), ?_⟩
    -- the law's own state
    refine ⟨_, rfl, (by show 4 ≤ sizeLine; decide), fun s ns' => ?_⟩
    have s1 : Same H (upd H s (.lst [.ref a, .int 0, .int 4112, .int 0])) := same_new ns'
    have st1 : StC s a (upd H s (.lst [.ref a, .int 0, .int 4112, .int 0])) := ⟨_, _, _, upd_same, by decide⟩
    have hz1 := s1.seq hz
    -- the row, the place
    refine ⟨_, rfl, s, a, ns, rfl, st1, hz1, fun H2 r qs b2 st2 hR2 h1 h7 zq => ?_⟩
    refine ⟨_, rfl, s, a, ns, rfl, st2, st1.script b2 hz1, fun H3 u t b3 st3 hu zt => ⟨_, _, rfl, ?_⟩⟩
    have hR3 := hR2.st b3 st2
    have hz3 := st1.script (b2.trans b3) hz1
    have zq4 : ∀ q ∈ qs, Sz 4 4 q := fun q hq => (zq q hq).mono (by decide) (by decide)
    have zt4 : Sz 4 4 t := zt.mono (by decide) (by decide)
    -- the polynomial
    refine ⟨_, rfl, r, qs, rfl, hR3, h1, h7, zq, fun H4 c os s4 hC lo zo vo => ?_⟩
    have hR4 := hR3.same s4
    have hu4 := hu.same s4
    -- row_value against the polynomial's value
    refine ⟨_, rfl, _, rfl, r, u, qs, t, rfl, hR4, hu4, h1, h7, zq4, zt4, fun H5 v5 s5 r5 => ?_⟩
    refine ⟨_, rfl, _, rfl, c, u, os, t, rfl, hC.same s5, hu4.same s5, lo, zo, zt4, fun H6 v6 s6 r6 => ?_⟩
    rw [vo t] at r6
    refine ⟨v5, v6, dc t qs, rfl, r5.same s6, r6, fun H7 s7 => ⟨true, rfl, iteF ?_⟩⟩
    have s47 := s5.trans (s6.trans s7)
    have st7 := (st3.same s4).same s47
    have hz7 := (s4.trans s47).seq hz3
    -- the second place
    refine ⟨_, rfl, s, a, ns, 9, rfl, st7, hz7, by decide, by decide, fun H8 x b8 st8 x0 x9 => ?_⟩
    refine ⟨x, 8, 3, rfl, by decide, by decide, by decide, fun H9 w9 s9 r9 => ?_⟩
    have hR9 := ((hR4.same s47).st b8 st7).same s9
    have hC9 := ((hC.same s47).st b8 st7).same s9
    obtain ⟨p0, p1⟩ := part_in x0 x9
    have zp : Sz 4 4 (mk x 8) := (mk_sz (a := 3) (b := 3) (by decide) (by show x.natAbs ≤ 8; omega) (by decide)).mono (by decide) (by decide)
    have zd : Sz 20000 20000 (dc (mk x 8) qs) := dc_sz zp h1 h7 zq4
    generalize mk x 8 = p at *
    refine ⟨_, rfl, _, rfl, r, w9, qs, p, rfl, hR9, r9, h1, h7, zq4, zp, fun H10 v10 s10 r10 => ?_⟩
    refine ⟨_, rfl, _, rfl, _, rfl, c, w9, os, p, rfl, hC9.same s10, r9.same s10, lo, zo, zp, fun H11 v11 s11 r11 => ?_⟩
    rw [vo p] at r11
    have r10' := r10.same s11
    refine ⟨_, _, dq_of r10', dq_of r11, dq_shaped _, dq_shaped _, false, ?_, iteF ?_⟩
    · rw [dq_eqv, decide_eq_true rfl]
      rfl
    have hR11 := (hR9.same s10).same s11
    obtain ⟨vs, hT, hv⟩ := id hR11
    have hl := pr_len hv
    -- low
    refine ⟨_, rfl, r, rfl, ⟨_, hT⟩, fun D nD => ?_⟩
    have sD : Same H11 (upd H11 D (.lst [])) := same_new nD
    refine lc_tup (K := K) (a := r) (xs := vs) (fun i Hc => ∃ acc, Hc D = some (.lst acc) ∧ acc.length ≤ i ∧ Same H11 Hc ∧ RVs K Hc acc ((qs.take i).filter fun q => !decide (dc p qs < q))) ⟨[], upd_same, Nat.le_refl _, sD, ?_⟩ ?_ ?_ ?_
    · rw [List.take_zero]
      exact .nil
    · rintro i Hc _ ⟨acc, _, _, sc, _⟩
      exact sameT sc hT
    · rintro i y Hc hy ⟨acc, eD, la, sc, rc⟩
      obtain ⟨q, hq, rq⟩ := pr_getL hv hy
      have hi := (List.getElem?_eq_some_iff.mp hy).1
      have zq' := zq4 q (List.mem_of_getElem? hq)
      refine ⟨rfl, ?_⟩
      refine ⟨_, rfl, y, rfl, _, y, dc p qs, q, _, _, _, _, rfl, r10'.same sc, rq.same sc, zd, zq', by decide, _, rfl, ?_⟩
      have ft : (qs.take (i + 1)).filter (fun q => !decide (dc p qs < q)) = (qs.take i).filter (fun q => !decide (dc p qs < q)) ++ (if (!decide (dc p qs < q)) = true then [q] else []) := filt_snoc _ hq
      by_cases hlt : (!decide (dc p qs < q)) = true
      · have bD : But D Hc (upd Hc D (.lst (acc ++ [y]))) := But.upd_self
        show if (!decide (dc p qs < q)) = true then _ else _
        rw [if_pos hlt]
        refine ⟨y, rfl, acc, eD, small1000 (by omega), acc ++ [y], upd_same, ?_, ?_, ?_⟩
        · rw [List.length_append]
          show acc.length + 1 ≤ i + 1
          omega
        · intro b o e
          rw [upd_ne (ne_of_none e nD)]
          exact sc _ _ e
        · rw [ft, if_pos hlt]
          exact pr_append (rc.but bD eD) (.cons ((rq.same sc).but bD eD) .nil)
      · show if (!decide (dc p qs < q)) = true then _ else _
        rw [if_neg hlt]
        refine ⟨acc, eD, by omega, sc, ?_⟩
        rw [ft, if_neg hlt, List.append_nil]
        exact rc
    rintro H12 ⟨acc, eD, la, s12, rc⟩
    rw [List.take_of_length_le (by omega)] at rc
    obtain ⟨fs, hfs⟩ : ∃ fs, fs = qs.filter fun q => !decide (dc p qs < q) := ⟨_, rfl⟩
    have nf : fs ≠ [] := by
      obtain ⟨q, hq, nq⟩ := dc_low p0 p1 (qs := qs) (by omega)
      have m : q ∈ fs := by
        rw [hfs]
        exact List.mem_filter.mpr ⟨hq, by rw [decide_eq_false nq]; rfl⟩
      intro e
      rw [e] at m
      cases m
    rw [← hfs] at rc
    clear hfs
    -- high
    have hT12 := sameT s12 hT
    have hv12 := hv.same s12
    refine ⟨_, rfl, r, rfl, ⟨_, hT12⟩, fun D2 nD2 => ?_⟩
    have sD2 : Same H12 (upd H12 D2 (.lst [])) := same_new nD2
    refine lc_tup (K := K) (a := r) (xs := vs) (fun i Hc => ∃ acc, Hc D2 = some (.lst acc) ∧ acc.length ≤ i ∧ Same H12 Hc ∧ RVs K Hc acc ((qs.take i).filter fun q => !decide (q < dc p qs))) ⟨[], upd_same, Nat.le_refl _, sD2, ?_⟩ ?_ ?_ ?_
    · rw [List.take_zero]
      exact .nil
    · rintro i Hc _ ⟨acc, _, _, sc, _⟩
      exact sameT sc hT12
    · rintro i y Hc hy ⟨acc2, eD2, la2, sc, rc2⟩
      obtain ⟨q, hq, rq⟩ := pr_getL hv12 hy
      have hi := (List.getElem?_eq_some_iff.mp hy).1
      have zq' := zq4 q (List.mem_of_getElem? hq)
      refine ⟨rfl, ?_⟩
      refine ⟨y, rfl, _, rfl, y, _, q, dc p qs, _, _, _, _, rfl, rq.same sc, (r10'.same s12).same sc, zq', zd, by decide, _, rfl, ?_⟩
      have ft : (qs.take (i + 1)).filter (fun q => !decide (q < dc p qs)) = (qs.take i).filter (fun q => !decide (q < dc p qs)) ++ (if (!decide (q < dc p qs)) = true then [q] else []) := filt_snoc _ hq
      by_cases hlt : (!decide (q < dc p qs)) = true
      · have bD : But D2 Hc (upd Hc D2 (.lst (acc2 ++ [y]))) := But.upd_self
        show if (!decide (q < dc p qs)) = true then _ else _
        rw [if_pos hlt]
        refine ⟨y, rfl, acc2, eD2, small1000 (by omega), acc2 ++ [y], upd_same, ?_, ?_, ?_⟩
        · rw [List.length_append]
          show acc2.length + 1 ≤ i + 1
          omega
        · intro b o e
          rw [upd_ne (ne_of_none e nD2)]
          exact sc _ _ e
        · rw [ft, if_pos hlt]
          exact pr_append (rc2.but bD eD2) (.cons ((rq.same sc).but bD eD2) .nil)
      · show if (!decide (q < dc p qs)) = true then _ else _
        rw [if_neg hlt]
        refine ⟨acc2, eD2, by omega, sc, ?_⟩
        rw [ft, if_neg hlt, List.append_nil]
        exact rc2
    rintro H13 ⟨acc2, eD2, la2, s13, rc2⟩
    rw [List.take_of_length_le (by omega)] at rc2
    obtain ⟨gs, hgs⟩ : ∃ gs, gs = qs.filter fun q => !decide (q < dc p qs) := ⟨_, rfl⟩
    have ng : gs ≠ [] := by
      obtain ⟨q, hq, nq⟩ := dc_high p0 p1 (qs := qs) (by omega)
      have m : q ∈ gs := by
        rw [hgs]
        exact List.mem_filter.mpr ⟨hq, by rw [decide_eq_false nq]; rfl⟩
      intro e
      rw [e] at m
      cases m
    rw [← hgs] at rc2
    clear hgs
    -- neither is empty
    refine ⟨_, rfl, Nat.zero_le _, fun e1 ne1 => ?_⟩
    have t1 : Same H13 (upd H13 e1 (.lst [])) := same_new ne1
    refine ⟨_, _, .lst (SqL.of (t1 _ _ (s13 _ _ eD))) (dpAll_of ((rc.same s13).same t1)), .lst (SqL.of upd_same) .nil, list_shaped _, rfl, false, congrArg V.bl (ne_nil_eqv nf), iteF ?_⟩
    refine ⟨_, rfl, Nat.zero_le _, fun e2 ne2 => ?_⟩
    have t2 : Same (upd H13 e1 (.lst [])) (upd (upd H13 e1 (.lst [])) e2 (.lst [])) := same_new ne2
    refine ⟨_, _, .lst (SqL.of (t2 _ _ (t1 _ _ eD2))) (dpAll_of ((rc2.same t1).same t2)), .lst (SqL.of upd_same) .nil, list_shaped _, rfl, false, congrArg V.bl (ne_nil_eqv ng), iteF ?_⟩
    -- both ends
    have hRe := hR11.same (s12.trans (s13.trans (t1.trans t2)))
    refine ⟨_, rfl, (by show 2 ≤ sizeLine; decide), fun f1 nf1 => ?_⟩
    have t3 := same_new (o := .tup [.int 0, .int 1]) nf1
    refine ⟨r, .ref f1, qs, 0, rfl, hRe.same t3, RV.new (q := 0) rfl rfl, h1, h7, zq4, sz_zero.mono (by decide) (by decide), fun H14 v14 s14 r14 => ?_⟩
    obtain ⟨vs2, hT2, hv2⟩ := (hRe.same t3).same s14
    have hl2 := pr_len hv2
    have g0 : qs[0]? = some qs[0] := List.getElem?_eq_getElem (by omega)
    obtain ⟨w0, gw0, rw0⟩ := pr_get hv2 g0
    refine ⟨_, rfl, r, vs2, _, w0, rfl, rfl, hT2, atI_nat (j := 0) gw0, _, _, dq_of r14, dq_of rw0, dq_shaped _, dq_shaped _, true, ?_, iteT ?_⟩
    · have e0 : dc 0 qs = qs[0] := by
        match qs, h1 with
        | q :: rest, _ => exact dc_zero q rest
      rw [dq_eqv, e0, decide_eq_true rfl]
    refine ⟨_, rfl, (by show 2 ≤ sizeLine; decide), fun f2 nf2 => ?_⟩
    have t4 := same_new (o := .tup [.int 1, .int 1]) nf2
    have hRg := ((hRe.same t3).same s14).same t4
    refine ⟨r, .ref f2, qs, 1, rfl, hRg, RV.new (q := 1) rfl rfl, h1, h7, zq4, sz_one.mono (by decide) (by decide), fun H15 v15 s15 r15 => ?_⟩
    obtain ⟨vs3, hT3, hv3⟩ := hRg.same s15
    have hl3 := pr_len hv3
    have gl : qs[qs.length - 1]? = some qs[qs.length - 1] := List.getElem?_eq_getElem (by omega)
    obtain ⟨wl, gwl, rwl⟩ := pr_get hv3 gl
    refine ⟨_, rfl, 1, rfl, r, vs3, _, wl, rfl, rfl, hT3, at_last' (m := qs.length - 1) (by omega) gwl, _, _, dq_of r15, dq_of rwl, dq_shaped _, dq_shaped _, ?_⟩
    have e1' : dc 1 qs = qs[qs.length - 1] := dc_last (by rw [List.getLast?_eq_getElem?]; exact gl)
    rw [dq_eqv, e1', decide_eq_true rfl]
    exact k _
end
end BZ
end
section
set_option maxRecDepth 100000
namespace BZ
open PySem PySem.Spec PyProof.Rows L2
/-! ### the defs as they stand behind the top -/
def Has (K : PySem.W.Frag) (x : Str) (st : Stmt) : Prop := ∃ (f : Addr) (fd : FuncData), PySem.W.nsIn K mainGlobals x = some (some (.ref f)) ∧ Fun K x x st f fd
theorem has_mk {K : PySem.W.Frag} {x : Str} {st : Stmt} {f : Addr} {od an : Option Addr} {sl : Array (Option Value)} {oc kV dc pm cd ct : Value} (a : PySem.W.nsIn K mainGlobals x = some (some (.ref f)))
    (l : K.lookup f = some ⟨oc, od, .func (PySem.W.fnOf x x (defArgs st) (defBody st) (defScope st) .none kV dc pm an cd ct), sl⟩) (c : PySem.W.codeIn K cd x = true) (k : PySem.W.keepIn K (.ref f) = true) : Has K x st :=
  ⟨f, _, a, fun_mk l c k⟩
theorem Has.cal {P : Program} {w : World} {K : PySem.W.Frag} {mg : Str → Option Value} {base h : Heap} {x : Str} {st : Stmt} {ps : List Str} {k : Nat} {sp : Sp} (X : K.In h) (G : h.Ns mainGlobals mg) (q : Has K x st)
    (hb : ∀ (kV doc pm : Value) (an : Option Addr) (cdv ct : Value) (us : List Value), us.length = ps.length → bindArgs (PySem.W.fnOf x x (defArgs st) (defBody st) (defScope st) .none kV doc pm an cdv ct) ⟨us, []⟩ = pure (ps.zip us))
    (ok : ∀ (f : Addr) (fd : FuncData), Fun K x x st f fd → FnOk P w K mg base CX0 k f fd ps sp) : Cal P w K mg base k x ps sp := by
  obtain ⟨f, fd, a, F⟩ := q
  exact ⟨f, fd, ok f fd F, PySem.W.mg_of X G a, F.kp, F.binds hb⟩
/-- all of them -/
structure All (K : PySem.W.Frag) : Prop where
  isInt : Has K "is_int" sIsInt
  isRatio : Has K "is_ratio" sIsRatio
  needRatio : Has K "need_ratio" sNeedRatio
  made : Has K "made" sMade
  plus : Has K "plus" sPlus
  less : Has K "less" sLess
  times : Has K "times" sTimes
  between : Has K "between" sBetween
  needRow : Has K "need_row" sNeedRow
  ladder : Has K "ladder" sLadder
  rowValue : Has K "row_value" sRowValue
  taken : Has K "_law_taken" sTaken
  pick : Has K "_law_pick" sPick
  lmade : Has K "_law_made" sLMade
  lplus : Has K "_law_plus" sLPlus
  ltimes : Has K "_law_times" sLTimes
  below : Has K "_law_below" sLBelow
  draw : Has K "_law_draw" sDraw
  trim : Has K "_law_trim" sTrim
  lat : Has K "_law_at" sAt
  pplus : Has K "_law_p_plus" sPPlus
  ptimes : Has K "_law_p_times" sPTimes
  scaled : Has K "_law_scaled" sScaled
  choose : Has K "_law_choose" sChoose
  row : Has K "_law_row" sRow
  unit : Has K "_law_unit_poly" sUnit
  alike : Has K "_law_alike" sAlike
theorem defs_of {P : Program} {w : World} {K : PySem.W.Frag} {mg : Str → Option Value} {base h : Heap} (X : K.In h) (G : h.Ns mainGlobals mg) (N : Nm mg) (a : All K) : Defs P w K mg base := by
  have c_isInt : Cal P w K mg base 1 "is_int" ["value"] spIsInt := a.isInt.cal X G (ps := ["value"]) (fun _ _ _ _ _ _ us hl => match us, hl with | [_], _ => rfl) fun f fd F => ok_isInt F N
  have c_isRatio : Cal P w K mg base 2 "is_ratio" ["value"] (spIsRatio K) := a.isRatio.cal X G (ps := ["value"]) (fun _ _ _ _ _ _ us hl => match us, hl with | [_], _ => rfl) fun f fd F => ok_isRatio F N c_isInt
  have c_needRatio : Cal P w K mg base 3 "need_ratio" ["value"] (spNeedRatio K) := a.needRatio.cal X G (ps := ["value"]) (fun _ _ _ _ _ _ us hl => match us, hl with | [_], _ => rfl) fun f fd F => ok_needRatio F c_isRatio
  have c_made : Cal P w K mg base 1 "made" ["top", "low"] (spMade K 8000) := a.made.cal X G (ps := ["top", "low"]) (fun _ _ _ _ _ _ us hl => match us, hl with | [_, _], _ => rfl) fun f fd F => ok_made F N
  have c_plus : Cal P w K mg base 2 "plus" ["one", "other"] (spBin K 8000 fun q r => q + r) := a.plus.cal X G (ps := ["one", "other"]) (fun _ _ _ _ _ _ us hl => match us, hl with | [_, _], _ => rfl) fun f fd F => ok_plus F c_made
  have c_less : Cal P w K mg base 2 "less" ["one", "other"] (spBin K 8000 fun q r => q - r) := a.less.cal X G (ps := ["one", "other"]) (fun _ _ _ _ _ _ us hl => match us, hl with | [_, _], _ => rfl) fun f fd F => ok_less F c_made
  have c_times : Cal P w K mg base 2 "times" ["one", "other"] (spBin K 8000 fun q r => q * r) := a.times.cal X G (ps := ["one", "other"]) (fun _ _ _ _ _ _ us hl => match us, hl with | [_, _], _ => rfl) fun f fd F => ok_times F c_made
  have c_between : Cal P w K mg base 3 "between" ["one", "other", "part"] (spBetween K) := a.between.cal X G (ps := ["one", "other", "part"]) (fun _ _ _ _ _ _ us hl => match us, hl with | [_, _, _], _ => rfl) fun f fd F => ok_between F c_plus c_less c_times
  have c_needRow : Cal P w K mg base 3 "need_row" ["value"] (spNeedRow K) := a.needRow.cal X G (ps := ["value"]) (fun _ _ _ _ _ _ us hl => match us, hl with | [_], _ => rfl) fun f fd F => ok_needRow F N c_isRatio
  have c_ladder : Cal P w K mg base 4 "ladder" ["row", "t"] (spLadder K) := a.ladder.cal X G (ps := ["row", "t"]) (fun _ _ _ _ _ _ us hl => match us, hl with | [_, _], _ => rfl) fun f fd F => ok_ladder F N c_between
  have c_rowValue : Cal P w K mg base 5 "row_value" ["row", "t"] (spRowValue K) := a.rowValue.cal X G (ps := ["row", "t"]) (fun _ _ _ _ _ _ us hl => match us, hl with | [_, _], _ => rfl) fun f fd F => ok_rowValue F c_needRow c_needRatio c_ladder
  have c_taken : Cal P w K mg base 1 "_law_taken" ["_law_row_here", "_law_many"] (spTaken K) := a.taken.cal X G (ps := ["_law_row_here", "_law_many"]) (fun _ _ _ _ _ _ us hl => match us, hl with | [_, _], _ => rfl) fun f fd F => ok_taken F N
  have c_pick : Cal P w K mg base 2 "_law_pick" ["_law_row_here", "_law_things"] (spPick K) := a.pick.cal X G (ps := ["_law_row_here", "_law_things"]) (fun _ _ _ _ _ _ us hl => match us, hl with | [_, _], _ => rfl) fun f fd F => ok_pick F N c_taken
  have c_lmade : Cal P w K mg base 1 "_law_made" ["_law_top", "_law_low"] (spMade K 4000) := a.lmade.cal X G (ps := ["_law_top", "_law_low"]) (fun _ _ _ _ _ _ us hl => match us, hl with | [_, _], _ => rfl) fun f fd F => ok_lmade F N
  have c_lplus : Cal P w K mg base 2 "_law_plus" ["_law_one", "_law_other"] (spBin K 4000 fun q r => q + r) := a.lplus.cal X G (ps := ["_law_one", "_law_other"]) (fun _ _ _ _ _ _ us hl => match us, hl with | [_, _], _ => rfl) fun f fd F => ok_lplus F c_lmade
  have c_ltimes : Cal P w K mg base 2 "_law_times" ["_law_one", "_law_other"] (spBin K 4000 fun q r => q * r) := a.ltimes.cal X G (ps := ["_law_one", "_law_other"]) (fun _ _ _ _ _ _ us hl => match us, hl with | [_, _], _ => rfl) fun f fd F => ok_ltimes F c_lmade
  have c_below : Cal P w K mg base 1 "_law_below" ["_law_one", "_law_other"] (spBelow K) := a.below.cal X G (ps := ["_law_one", "_law_other"]) (fun _ _ _ _ _ _ us hl => match us, hl with | [_, _], _ => rfl) fun f fd F => ok_lbelow F 
  have c_draw : Cal P w K mg base 3 "_law_draw" ["_law_row_here"] (spDraw K) := a.draw.cal X G (ps := ["_law_row_here"]) (fun _ _ _ _ _ _ us hl => match us, hl with | [_], _ => rfl) fun f fd F => ok_draw F c_pick c_taken c_lmade
  have c_trim : Cal P w K mg base 1 "_law_trim" ["_law_some"] (spTrim K) := a.trim.cal X G (ps := ["_law_some"]) (fun _ _ _ _ _ _ us hl => match us, hl with | [_], _ => rfl) fun f fd F => ok_trim F N
  have c_lat : Cal P w K mg base 3 "_law_at" ["_law_poly", "_law_x"] (spAt K) := a.lat.cal X G (ps := ["_law_poly", "_law_x"]) (fun _ _ _ _ _ _ us hl => match us, hl with | [_, _], _ => rfl) fun f fd F => ok_at F c_lplus c_ltimes
  have c_pplus : Cal P w K mg base 3 "_law_p_plus" ["_law_one", "_law_other"] (spPPlus K) := a.pplus.cal X G (ps := ["_law_one", "_law_other"]) (fun _ _ _ _ _ _ us hl => match us, hl with | [_, _], _ => rfl) fun f fd F => ok_pplus F N c_lplus c_trim
  have c_ptimes : Cal P w K mg base 3 "_law_p_times" ["_law_one", "_law_other"] (spPTimes K) := a.ptimes.cal X G (ps := ["_law_one", "_law_other"]) (fun _ _ _ _ _ _ us hl => match us, hl with | [_, _], _ => rfl) fun f fd F => ok_ptimes F N c_lplus c_ltimes c_trim
  have c_scaled : Cal P w K mg base 3 "_law_scaled" ["_law_poly", "_law_number"] (spScaled K) := a.scaled.cal X G (ps := ["_law_poly", "_law_number"]) (fun _ _ _ _ _ _ us hl => match us, hl with | [_, _], _ => rfl) fun f fd F => ok_scaled F c_ltimes c_trim
  have c_choose : Cal P w K mg base 1 "_law_choose" ["_law_many", "_law_few"] spChoose := a.choose.cal X G (ps := ["_law_many", "_law_few"]) (fun _ _ _ _ _ _ us hl => match us, hl with | [_, _], _ => rfl) fun f fd F => ok_choose F N
  have c_row : Cal P w K mg base 4 "_law_row" ["_law_row_here", "_law_most"] (spRow K) := a.row.cal X G (ps := ["_law_row_here", "_law_most"]) (fun _ _ _ _ _ _ us hl => match us, hl with | [_, _], _ => rfl) fun f fd F => ok_row F N c_taken c_draw
  have c_unit : Cal P w K mg base 4 "_law_unit_poly" ["_law_some"] (spUnit K) := a.unit.cal X G (ps := ["_law_some"]) (fun _ _ _ _ _ _ us hl => match us, hl with | [_], _ => rfl) fun f fd F => ok_unit F N c_ptimes c_pplus c_scaled c_ltimes c_choose
  have c_alikeI : Cal P w K mg base 1 "_law_alike" ["_law_found", "_law_due"] spAlikeI := a.alike.cal X G (ps := ["_law_found", "_law_due"]) (fun _ _ _ _ _ _ us hl => match us, hl with | [_, _], _ => rfl) fun f fd F => ok_alikeI F N
  have c_alike : Cal P w K mg base 2 "_law_alike" ["_law_found", "_law_due"] (spAlike K) := a.alike.cal X G (ps := ["_law_found", "_law_due"]) (fun _ _ _ _ _ _ us hl => match us, hl with | [_, _], _ => rfl) fun f fd F => ok_alike F N c_alikeI
  exact ⟨c_row, c_draw, c_unit, c_alike, c_rowValue, c_lat, c_lmade, c_taken, c_below⟩
theorem nm_mk {K : PySem.W.Frag} {h : Heap} {mg : Str → Option Value} {t : Tok} (X : K.In h) (G : h.Ns mainGlobals mg)
    (z0 : PySem.W.nsIn K mainGlobals "isinstance" = some none) (z1 : PySem.W.nsIn K mainGlobals "int" = some none) (z2 : PySem.W.nsIn K mainGlobals "bool" = some none) (z3 : PySem.W.nsIn K mainGlobals "tuple" = some none) (z4 : PySem.W.nsIn K mainGlobals "list" = some none) (z5 : PySem.W.nsIn K mainGlobals "str" = some none) (z6 : PySem.W.nsIn K mainGlobals "len" = some none) (z7 : PySem.W.nsIn K mainGlobals "range" = some none) (z8 : PySem.W.nsIn K mainGlobals "enumerate" = some none) (z9 : PySem.W.nsIn K mainGlobals "zip" = some none) (z10 : PySem.W.nsIn K mainGlobals "max" = some none) (z11 : PySem.W.nsIn K mainGlobals "abs" = some none)
    (g : PySem.W.nsIn K mainGlobals "gcd" = some (some (.builtin "math.gcd"))) (m : PySem.W.nsIn K mainGlobals "MOST_ROW" = some (some (.int 8 t))) : Nm mg :=
  ⟨PySem.W.mg_none_of X G z0, PySem.W.mg_none_of X G z1, PySem.W.mg_none_of X G z2, PySem.W.mg_none_of X G z3, PySem.W.mg_none_of X G z4, PySem.W.mg_none_of X G z5, PySem.W.mg_none_of X G z6, PySem.W.mg_none_of X G z7, PySem.W.mg_none_of X G z8, PySem.W.mg_none_of X G z9, PySem.W.mg_none_of X G z10, PySem.W.mg_none_of X G z11, PySem.W.mg_of X G g, ⟨t, PySem.W.mg_of X G m⟩⟩
theorem all_mk {l : PySem.W.OpenLaw} {w : World} {K : PySem.W.Frag} {h : Heap} {mg : Str → Option Value} {fa f2 : Addr} (X : K.In h) (G : h.Ns mainGlobals mg) (hfa : mg "law" = some (.ref fa))
    {od2 an2 : Option Addr} {sl2 : Array (Option Value)} {oc2 kV2 dc2 pm2 cd2 ct2 : Value}
    (a2 : PySem.W.nsIn K mainGlobals "law" = some (some (.ref f2))) (l2 : K.lookup f2 = some ⟨oc2, od2, .func (PySem.W.fnOf "law" "law" (defArgs sLaw) (defBody sLaw) (defScope sLaw) .none kV2 dc2 pm2 an2 cd2 ct2), sl2⟩)
    (c2 : PySem.W.codeIn K cd2 "law" = true) (k2 : PySem.W.keepIn K (.ref f2) = true) (a : All K) (N : Nm mg) :
    ∃ fd : FuncData, (∀ (s : Shared) (v : Value), BindsTo s fd ⟨[v], []⟩ [("_law_script", v)]) ∧ ∀ base : Heap, K.In base → base.Ns mainGlobals mg → FnOk l.prog w K mg base CX0 6 fa fd ["_law_script"] (spLaw K) := by
  have e := hfa.symm.trans (PySem.W.mg_of X G a2)
  cases e
  have F := fun_mk (st := sLaw) l2 c2 k2
  exact ⟨PySem.W.fnOf "law" "law" (defArgs sLaw) (defBody sLaw) (defScope sLaw) .none kV2 dc2 pm2 an2 cd2 ct2, fun s v => .of_eq rfl, fun base _ _ => ok_law F (defs_of X G N a)⟩
end BZ
end
open PySem PySem.W PyProof.Rows
set_option maxRecDepth 100000 in
set_option maxHeartbeats 0 in
theorem PySem.Challenge.cw_blendcurves_k12_whole_values_of_rows_holds : PySem.Challenge.rw_blendcurves_k12_whole_values_of_rows.Holds := by
  w_on; o_law; k_head; (case hw => w_witness2)
  k_fill
  refine L2.walk_of (l := PySem.Challenge.rw_blendcurves_k12_whole_values_of_rows) (n := 63) (k := 6) (x := "_law_script") (CX := fun _ => L2.CX0) (sp := fun w => BZ.spLaw _) rfl (by decide) rfl ⟨rfl, by decide, by decide⟩ (fun w h Y => PySem.W.kIn_of Y) ?F (fun _ _ a ns hl _ hS => ⟨a, ns, rfl, hS, fun _ => rfl⟩) (fun _ _ _ _ _ h => h)
  case F =>
    intro w mg fa h KX G hmg
    refine' BZ.all_mk KX G hmg ?a2 ?l2 ?c2 ?k2 ?qAll ?qNm
    (case a2 => k_is); (case l2 => k_is); (case c2 => k_is); (case k2 => k_is)
    case qAll =>
      refine' ⟨?d0, ?d1, ?d2, ?d3, ?d4, ?d5, ?d6, ?d7, ?d8, ?d9, ?d10, ?d11, ?d12, ?d13, ?d14, ?d15, ?d16, ?d17, ?d18, ?d19, ?d20, ?d21, ?d22, ?d23, ?d24, ?d25, ?d26⟩
      case d0 => (refine' BZ.has_mk ?a ?l ?c ?k; (case a => k_is); (case l => k_is); (case c => k_is); (case k => k_is))
      case d1 => (refine' BZ.has_mk ?a ?l ?c ?k; (case a => k_is); (case l => k_is); (case c => k_is); (case k => k_is))
      case d2 => (refine' BZ.has_mk ?a ?l ?c ?k; (case a => k_is); (case l => k_is); (case c => k_is); (case k => k_is))
      case d3 => (refine' BZ.has_mk ?a ?l ?c ?k; (case a => k_is); (case l => k_is); (case c => k_is); (case k => k_is))
      case d4 => (refine' BZ.has_mk ?a ?l ?c ?k; (case a => k_is); (case l => k_is); (case c => k_is); (case k => k_is))
      case d5 => (refine' BZ.has_mk ?a ?l ?c ?k; (case a => k_is); (case l => k_is); (case c => k_is); (case k => k_is))
      case d6 => (refine' BZ.has_mk ?a ?l ?c ?k; (case a => k_is); (case l => k_is); (case c => k_is); (case k => k_is))
      case d7 => (refine' BZ.has_mk ?a ?l ?c ?k; (case a => k_is); (case l => k_is); (case c => k_is); (case k => k_is))
      case d8 => (refine' BZ.has_mk ?a ?l ?c ?k; (case a => k_is); (case l => k_is); (case c => k_is); (case k => k_is))
      case d9 => (refine' BZ.has_mk ?a ?l ?c ?k; (case a => k_is); (case l => k_is); (case c => k_is); (case k => k_is))
      case d10 => (refine' BZ.has_mk ?a ?l ?c ?k; (case a => k_is); (case l => k_is); (case c => k_is); (case k => k_is))
      case d11 => (refine' BZ.has_mk ?a ?l ?c ?k; (case a => k_is); (case l => k_is); (case c => k_is); (case k => k_is))
      case d12 => (refine' BZ.has_mk ?a ?l ?c ?k; (case a => k_is); (case l => k_is); (case c => k_is); (case k => k_is))
      case d13 => (refine' BZ.has_mk ?a ?l ?c ?k; (case a => k_is); (case l => k_is); (case c => k_is); (case k => k_is))
      case d14 => (refine' BZ.has_mk ?a ?l ?c ?k; (case a => k_is); (case l => k_is); (case c => k_is); (case k => k_is))
      case d15 => (refine' BZ.has_mk ?a ?l ?c ?k; (case a => k_is); (case l => k_is); (case c => k_is); (case k => k_is))
      case d16 => (refine' BZ.has_mk ?a ?l ?c ?k; (case a => k_is); (case l => k_is); (case c => k_is); (case k => k_is))
      case d17 => (refine' BZ.has_mk ?a ?l ?c ?k; (case a => k_is); (case l => k_is); (case c => k_is); (case k => k_is))
      case d18 => (refine' BZ.has_mk ?a ?l ?c ?k; (case a => k_is); (case l => k_is); (case c => k_is); (case k => k_is))
      case d19 => (refine' BZ.has_mk ?a ?l ?c ?k; (case a => k_is); (case l => k_is); (case c => k_is); (case k => k_is))
      case d20 => (refine' BZ.has_mk ?a ?l ?c ?k; (case a => k_is); (case l => k_is); (case c => k_is); (case k => k_is))
      case d21 => (refine' BZ.has_mk ?a ?l ?c ?k; (case a => k_is); (case l => k_is); (case c => k_is); (case k => k_is))
      case d22 => (refine' BZ.has_mk ?a ?l ?c ?k; (case a => k_is); (case l => k_is); (case c => k_is); (case k => k_is))
      case d23 => (refine' BZ.has_mk ?a ?l ?c ?k; (case a => k_is); (case l => k_is); (case c => k_is); (case k => k_is))
      case d24 => (refine' BZ.has_mk ?a ?l ?c ?k; (case a => k_is); (case l => k_is); (case c => k_is); (case k => k_is))
      case d25 => (refine' BZ.has_mk ?a ?l ?c ?k; (case a => k_is); (case l => k_is); (case c => k_is); (case k => k_is))
      case d26 => (refine' BZ.has_mk ?a ?l ?c ?k; (case a => k_is); (case l => k_is); (case c => k_is); (case k => k_is))
    case qNm =>
      refine' BZ.nm_mk KX G ?z0 ?z1 ?z2 ?z3 ?z4 ?z5 ?z6 ?z7 ?z8 ?z9 ?z10 ?z11 ?g ?m
      (case z0 => k_is)
      (case z1 => k_is)
      (case z2 => k_is)
      (case z3 => k_is)
      (case z4 => k_is)
      (case z5 => k_is)
      (case z6 => k_is)
      (case z7 => k_is)
      (case z8 => k_is)
      (case z9 => k_is)
      (case z10 => k_is)
      (case z11 => k_is)
      (case g => k_is)
      (case m => k_is)
