import PyProof.Rows.All
import Wide.All
import OpenK.AllK
import Wide.FinOn
import HandS.ForMost
import HandS.Wide
import HandS.TupAny
import HandS.TupMul
import HandS.Zip
import HandS.Walk
import HandS.SortKw
import HandS.DictTup
import KE.KDictPairs
import KE.KDictWalk
import KE.SortData
import KE.GoesEnum
import PySem.Challenge.RW_everydraw_k16_whole_rules_at_places
set_option Elab.async false
set_option linter.all false
set_option maxRecDepth 100000
set_option maxHeartbeats 4000000
/-! The plain mathematics: fractions as Rat, polynomials as lists of terms, sizes. No program in sight. -/
namespace EM

/-! ### fractions -/
/-- top by bottom -/
abbrev fr (t b : Int) : Rat := Rat.divInt t b

/-- what the program divides by: the gcd, with the bottom's sign -/
def byOf (t b : Int) : Int := if b < 0 then -((Int.gcd t b : Nat) : Int) else ((Int.gcd t b : Nat) : Int)

theorem gcd_pos {t b : Int} (h : b ≠ 0) : 0 < Int.gcd t b := by
  rcases Nat.eq_zero_or_pos (Int.gcd t b) with e | e
  · exact absurd ((Int.gcd_eq_zero_iff.mp e).2) h
  · exact e

theorem byOf_ne {t b : Int} (h : b ≠ 0) : byOf t b ≠ 0 := by
  have := gcd_pos (t := t) h
  unfold byOf
  split <;> omega

theorem byOf_dvd_top (t b : Int) : byOf t b ∣ t := by
  unfold byOf
  split
  · exact Int.neg_dvd.mpr (Int.gcd_dvd_left ..)
  · exact Int.gcd_dvd_left ..
theorem byOf_dvd_bot (t b : Int) : byOf t b ∣ b := by
  unfold byOf
  split
  · exact Int.neg_dvd.mpr (Int.gcd_dvd_right ..)
  · exact Int.gcd_dvd_right ..

theorem fdiv_exact {a b : Int} (h : b ∣ a) : a.fdiv b = a / b := Int.fdiv_eq_ediv_of_dvd h

theorem num_fr {t b : Int} (h : b ≠ 0) : (fr t b).num = t.fdiv (byOf t b) := by
  rw [fdiv_exact (byOf_dvd_top t b), Rat.num_divInt, Int.gcd_comm]
  unfold byOf
  have hd : ((Int.gcd t b : Nat) : Int) ∣ t := Int.gcd_dvd_left ..
  split
  · rename_i hb
    rw [Int.sign_eq_neg_one_of_neg hb, Int.ediv_neg, Int.neg_one_mul, Int.neg_ediv_of_dvd hd]
  · rename_i hb
    rw [Int.sign_eq_one_of_pos (by omega), Int.one_mul]

theorem den_fr {t b : Int} (h : b ≠ 0) : ((fr t b).den : Int) = b.fdiv (byOf t b) := by
  rw [fdiv_exact (byOf_dvd_bot t b), Rat.den_divInt, if_neg h, Int.gcd_comm]
  have hd : ((Int.gcd t b : Nat) : Int) ∣ b := Int.gcd_dvd_right ..
  unfold byOf
  rw [Int.natCast_ediv]
  split
  · rename_i hb
    rw [Int.ofNat_natAbs_of_nonpos (Int.le_of_lt hb), Int.ediv_neg, Int.neg_ediv_of_dvd hd]
  · rename_i hb
    rw [Int.natAbs_of_nonneg (by omega)]

theorem fr_self (q : Rat) : fr q.num q.den = q := Rat.num_divInt_den q

theorem fr_eq_zero {t b : Int} (h : b ≠ 0) : fr t b = 0 ↔ t = 0 := by
  rw [fr, Rat.divInt_eq_div]
  have hb : (b : Rat) ≠ 0 := by simpa using h
  constructor
  · intro e
    have : (t : Rat) = 0 := by grind
    simpa using this
  · intro e; subst e; grind

theorem den_ne (q : Rat) : ((q.den : Nat) : Int) ≠ 0 := by
  have := q.den_nz
  omega

theorem add_fr (q r : Rat) : fr (q.num * r.den + r.num * q.den) (q.den * r.den) = q + r := by
  have h := Rat.divInt_add_divInt q.num r.num (den_ne q) (den_ne r)
  rw [Rat.num_divInt_den, Rat.num_divInt_den] at h
  exact h.symm
theorem sub_fr (q r : Rat) : fr (q.num * r.den - r.num * q.den) (q.den * r.den) = q - r := by
  have h := Rat.divInt_sub_divInt q.num r.num (den_ne q) (den_ne r)
  rw [Rat.num_divInt_den, Rat.num_divInt_den] at h
  exact h.symm
theorem mul_fr (q r : Rat) : fr (q.num * r.num) (q.den * r.den) = q * r := by
  have h := Rat.divInt_mul_divInt q.num r.num (d₁ := q.den) (d₂ := r.den)
  rw [Rat.num_divInt_den, Rat.num_divInt_den] at h
  exact h.symm
theorem div_fr (q r : Rat) : fr (q.num * r.den) (q.den * r.num) = q / r := by
  have h := Rat.divInt_mul_divInt q.num r.den (d₁ := q.den) (d₂ := r.num)
  rw [Rat.num_divInt_den] at h
  rw [Rat.div_def, Rat.inv_def, h]
theorem num_ne {q : Rat} (h : q ≠ 0) : q.num ≠ 0 := fun e => h (Rat.num_eq_zero.mp e)

/-! ### the greatest common divisor, step by step -/
theorem gcd_step (a b : Int) : Int.gcd b (a.fmod b) = Int.gcd a b := by
  rw [Int.fmod_def, Int.gcd_sub_mul_left_right, Int.gcd_comm]
theorem fmod_less (a : Int) {b : Int} (h : b ≠ 0) : (a.fmod b).natAbs < b.natAbs := by
  rw [Int.fmod_eq_emod]
  have h1 := Int.emod_lt a h
  have h2 := Int.emod_nonneg a h
  split
  · omega
  · rename_i h3
    rw [not_or] at h3
    have : a % b ≠ 0 := fun e => h3.2 (Int.dvd_of_emod_eq_zero e)
    omega
theorem abs_gcd (a : Int) : (if a < 0 then -a else a) = ((Int.gcd a 0 : Nat) : Int) := by
  rw [Int.gcd_zero_right]
  split <;> omega
theorem gcd_lt {k : Nat} {t b : Int} (h : b ≠ 0) (hb : b.natAbs < 2 ^ k) : (byOf t b).natAbs < 2 ^ k := by
  have h1 : Int.gcd t b ≤ b.natAbs := Int.gcd_le_natAbs_right t h
  unfold byOf
  split <;> omega

/-! ### sizes of fractions -/
/-- top and bottom below 2 ^ k -/
def FB (k : Nat) (q : Rat) : Prop := q.num.natAbs < 2 ^ k ∧ q.den < 2 ^ k
theorem FB.mono {j k : Nat} {q : Rat} (h : FB j q) (l : j ≤ k) : FB k q :=
  ⟨Nat.lt_of_lt_of_le h.1 (Nat.pow_le_pow_right (by decide) l), Nat.lt_of_lt_of_le h.2 (Nat.pow_le_pow_right (by decide) l)⟩

theorem natAbs_ediv_le (a b : Int) : (a / b).natAbs ≤ a.natAbs := Int.natAbs_ediv_le_natAbs a b

theorem FB.fr {k : Nat} {t b : Int} (h : b ≠ 0) (ht : t.natAbs < 2 ^ k) (hb : b.natAbs < 2 ^ k) : FB k (fr t b) := by
  refine ⟨?_, ?_⟩
  · rw [num_fr h, fdiv_exact (byOf_dvd_top t b)]
    exact Nat.lt_of_le_of_lt (natAbs_ediv_le ..) ht
  · have e := den_fr (t := t) h
    rw [fdiv_exact (byOf_dvd_bot t b)] at e
    have := natAbs_ediv_le b (byOf t b)
    omega

theorem pow_mul {j k a b : Nat} (ha : a < 2 ^ j) (hb : b < 2 ^ k) : a * b < 2 ^ (j + k) := by
  rw [Nat.pow_add]
  calc a * b ≤ a * 2 ^ k := Nat.mul_le_mul_left _ (Nat.le_of_lt hb)
    _ < 2 ^ j * 2 ^ k := (Nat.mul_lt_mul_right (Nat.two_pow_pos k)).mpr ha
theorem natAbs_mul_lt {j k : Nat} {a b : Int} (ha : a.natAbs < 2 ^ j) (hb : b.natAbs < 2 ^ k) : (a * b).natAbs < 2 ^ (j + k) := by
  rw [Int.natAbs_mul]; exact pow_mul ha hb
theorem natAbs_add_lt {j : Nat} {a b : Int} (ha : a.natAbs < 2 ^ j) (hb : b.natAbs < 2 ^ j) : (a + b).natAbs < 2 ^ (j + 1) := by
  have := Int.natAbs_add_le a b
  rw [Nat.pow_succ]; omega
theorem natAbs_sub_lt {j : Nat} {a b : Int} (ha : a.natAbs < 2 ^ j) (hb : b.natAbs < 2 ^ j) : (a - b).natAbs < 2 ^ (j + 1) := by
  have := Int.natAbs_sub_le a b
  rw [Nat.pow_succ]; omega
theorem den_lt {k : Nat} {q : Rat} (h : FB k q) : ((q.den : Nat) : Int).natAbs < 2 ^ k := by
  rw [Int.natAbs_natCast]; exact h.2
theorem den_mul_ne (q r : Rat) : ((q.den : Nat) : Int) * ((r.den : Nat) : Int) ≠ 0 := Int.mul_ne_zero (den_ne q) (den_ne r)
theorem lt_succ_pow {j a : Nat} (h : a < 2 ^ j) : a < 2 ^ (j + 1) := by rw [Nat.pow_succ]; omega

theorem top_add {j k : Nat} {q r : Rat} (hq : FB j q) (hr : FB k r) : (q.num * r.den + r.num * q.den).natAbs < 2 ^ (j + k + 1) := by
  refine natAbs_add_lt (natAbs_mul_lt hq.1 (den_lt hr)) ?_
  rw [Nat.add_comm j k]; exact natAbs_mul_lt hr.1 (den_lt hq)
theorem top_sub {j k : Nat} {q r : Rat} (hq : FB j q) (hr : FB k r) : (q.num * r.den - r.num * q.den).natAbs < 2 ^ (j + k + 1) := by
  refine natAbs_sub_lt (natAbs_mul_lt hq.1 (den_lt hr)) ?_
  rw [Nat.add_comm j k]; exact natAbs_mul_lt hr.1 (den_lt hq)
theorem bot_mul {j k : Nat} {q r : Rat} (hq : FB j q) (hr : FB k r) : (((q.den : Nat) : Int) * ((r.den : Nat) : Int)).natAbs < 2 ^ (j + k) :=
  natAbs_mul_lt (den_lt hq) (den_lt hr)
theorem FB.add {j k : Nat} {q r : Rat} (hq : FB j q) (hr : FB k r) : FB (j + k + 1) (q + r) := by
  rw [← add_fr q r]
  exact .fr (den_mul_ne q r) (top_add hq hr) (lt_succ_pow (bot_mul hq hr))
theorem FB.sub {j k : Nat} {q r : Rat} (hq : FB j q) (hr : FB k r) : FB (j + k + 1) (q - r) := by
  rw [← sub_fr q r]
  exact .fr (den_mul_ne q r) (top_sub hq hr) (lt_succ_pow (bot_mul hq hr))
theorem FB.mul {j k : Nat} {q r : Rat} (hq : FB j q) (hr : FB k r) : FB (j + k) (q * r) := by
  rw [← mul_fr q r]
  exact .fr (den_mul_ne q r) (natAbs_mul_lt hq.1 hr.1) (bot_mul hq hr)
theorem FB.div {j k : Nat} {q r : Rat} (hq : FB j q) (hr : FB k r) (h : r ≠ 0) : FB (j + k) (q / r) := by
  rw [← div_fr q r]
  exact .fr (Int.mul_ne_zero (den_ne q) (num_ne h)) (natAbs_mul_lt hq.1 (den_lt hr)) (natAbs_mul_lt (den_lt hq) hr.1)

/-- a whole number of D-ths, at most M of them -/
def Fits (D M : Nat) (q : Rat) : Prop := ∃ a : Int, q * (D : Rat) = (a : Rat) ∧ a.natAbs ≤ M
theorem Fits.eq {D M : Nat} {q : Rat} (hD : 0 < D) (h : Fits D M q) : ∃ a : Int, q = fr a D ∧ a.natAbs ≤ M := by
  obtain ⟨a, e, l⟩ := h
  refine ⟨a, ?_, l⟩
  rw [fr, Rat.divInt_eq_div]
  have hd : ((D : Int) : Rat) ≠ 0 := by
    have : (D : Int) ≠ 0 := by omega
    simpa using this
  have e2 : ((D : Int) : Rat) = (D : Rat) := Rat.intCast_natCast D
  rw [e2] at hd ⊢
  grind
theorem Fits.fb {D M k : Nat} {q : Rat} (h : Fits D M q) (hD : 0 < D) (hd : D < 2 ^ k) (hm : M < 2 ^ k) : FB k q := by
  obtain ⟨a, rfl, l⟩ := h.eq hD
  exact .fr (by omega) (by omega) (by omega)
theorem Fits.add {D M N : Nat} {q r : Rat} (h : Fits D M q) (h' : Fits D N r) : Fits D (M + N) (q + r) := by
  obtain ⟨a, e, l⟩ := h
  obtain ⟨b, e', l'⟩ := h'
  refine ⟨a + b, ?_, by have := Int.natAbs_add_le a b; omega⟩
  rw [Rat.add_mul, e, e', Rat.intCast_add]
theorem Fits.mul {D M D' M' : Nat} {q r : Rat} (h : Fits D M q) (h' : Fits D' M' r) : Fits (D * D') (M * M') (q * r) := by
  obtain ⟨a, e, l⟩ := h
  obtain ⟨b, e', l'⟩ := h'
  refine ⟨a * b, ?_, by rw [Int.natAbs_mul]; exact Nat.mul_le_mul l l'⟩
  rw [Rat.intCast_mul, ← e, ← e', Rat.natCast_mul]
  grind
theorem Fits.mono {D M N : Nat} {q : Rat} (h : Fits D M q) (l : M ≤ N) : Fits D N q := let ⟨a, e, k⟩ := h; ⟨a, e, Nat.le_trans k l⟩
theorem Fits.int {D M : Nat} {q : Rat} (h : Fits D M q) (c : Int) : Fits D (c.natAbs * M) ((c : Rat) * q) := by
  obtain ⟨a, e, l⟩ := h
  refine ⟨c * a, ?_, by rw [Int.natAbs_mul]; exact Nat.mul_le_mul_left _ l⟩
  rw [Rat.intCast_mul, ← e]; grind
theorem Fits.zero (D M : Nat) : Fits D M 0 := ⟨0, by rw [Rat.zero_mul]; rfl, Nat.zero_le _⟩

/-! ### polynomials: lists of terms, powers and a number -/
abbrev Mono := List Nat
abbrev Po := List (Mono × Int)
/-- a product of powers, the first one's place being i -/
def mon (f : Nat → Rat) : Nat → Mono → Rat
  | _, [] => 1
  | i, p :: ps => f i ^ p * mon f (i + 1) ps
/-- the worth at f -/
def ev (f : Nat → Rat) : Po → Rat
  | [] => 0
  | t :: r => (t.2 : Rat) * mon f 0 t.1 + ev f r
def norm : Po → Nat
  | [] => 0
  | t :: r => t.2.natAbs + norm r

theorem ev_nil (f : Nat → Rat) : ev f [] = 0 := rfl
theorem ev_cons (f : Nat → Rat) (t : Mono × Int) (r : Po) : ev f (t :: r) = (t.2 : Rat) * mon f 0 t.1 + ev f r := rfl
theorem norm_cons (t : Mono × Int) (r : Po) : norm (t :: r) = t.2.natAbs + norm r := rfl
theorem ev_append (f : Nat → Rat) : ∀ a b : Po, ev f (a ++ b) = ev f a + ev f b
  | [], b => by rw [List.nil_append, ev_nil, Rat.zero_add]
  | t :: a, b => by rw [List.cons_append, ev_cons, ev_cons, ev_append f a b, Rat.add_assoc]
theorem norm_append : ∀ a b : Po, norm (a ++ b) = norm a + norm b
  | [], b => by simp [norm]
  | t :: a, b => by rw [List.cons_append, norm_cons, norm_cons, norm_append a b, Nat.add_assoc]
theorem ev_perm (f : Nat → Rat) {a b : Po} (h : a.Perm b) : ev f a = ev f b := by
  induction h with
  | nil => rfl
  | cons x _ ih => rw [ev_cons, ev_cons, ih]
  | swap x y l => simp only [ev_cons]; grind
  | trans _ _ h1 h2 => rw [h1, h2]
theorem norm_perm {a b : Po} (h : a.Perm b) : norm a = norm b := by
  induction h with
  | nil => rfl
  | cons x _ ih => rw [norm_cons, norm_cons, ih]
  | swap x y l => simp only [norm_cons]; omega
  | trans _ _ h1 h2 => rw [h1, h2]
theorem ev_filter (f : Nat → Rat) : ∀ a : Po, ev f (a.filter fun t => t.2 != 0) = ev f a
  | [] => rfl
  | t :: a => by
    rw [List.filter_cons]
    split
    · rw [ev_cons, ev_cons, ev_filter f a]
    · rename_i h
      have h0 : t.2 = 0 := by simpa using h
      rw [ev_cons, ev_filter f a, h0]; simp [Rat.zero_mul, Rat.zero_add]
theorem norm_filter (p : Mono × Int → Bool) : ∀ a : Po, norm (a.filter p) ≤ norm a
  | [] => Nat.le_refl _
  | t :: a => by
    rw [List.filter_cons]
    have := norm_filter p a
    split <;> simp only [norm_cons] <;> omega
theorem norm_take (n : Nat) : ∀ a : Po, norm (a.take n) ≤ norm a := fun a => by
  have e := norm_append (a.take n) (a.drop n)
  rw [List.take_append_drop] at e
  omega

/-! the product of powers -/
def psum : Mono → Mono → Mono
  | [], b => b
  | a, [] => a
  | x :: a, y :: b => (x + y) :: psum a b
theorem psum_nil (a : Mono) : psum a [] = a := by cases a <;> rfl
theorem psum_comm : ∀ a b : Mono, psum a b = psum b a
  | [], b => by rw [psum_nil]; rfl
  | x :: a, [] => by rw [psum_nil]; rfl
  | x :: a, y :: b => by rw [psum, psum, psum_comm a b, Nat.add_comm]
theorem psum_zip : ∀ a b : Mono, b.length ≤ a.length → psum a b = (a.zip b).map (fun p => p.1 + p.2) ++ a.drop b.length
  | a, [], _ => by rw [psum_nil]; simp
  | [], _ :: _, h => by simp at h
  | x :: a, y :: b, h => by
    have ih := psum_zip a b (by simpa using h)
    rw [psum, ih]; simp
theorem pow_add' (q : Rat) (m n : Nat) : q ^ (m + n) = q ^ m * q ^ n := by
  induction n with
  | zero => simp [Rat.pow_zero, Rat.mul_one]
  | succ n ih => rw [← Nat.add_assoc, Rat.pow_succ, ih, Rat.pow_succ, Rat.mul_assoc]
theorem mon_psum (f : Nat → Rat) : ∀ (i : Nat) (a b : Mono), mon f i (psum a b) = mon f i a * mon f i b
  | i, [], b => by rw [psum, mon, Rat.one_mul]
  | i, x :: a, [] => by rw [psum_nil]; simp [mon, Rat.mul_one]
  | i, x :: a, y :: b => by rw [psum, mon, mon, mon, mon_psum f (i + 1) a b, pow_add']; grind
theorem psum_len : ∀ a b : Mono, (psum a b).length = max a.length b.length
  | [], b => by simp [psum]
  | x :: a, [] => by simp [psum_nil]
  | x :: a, y :: b => by simp only [psum, List.length_cons, psum_len a b]; omega
theorem psum_le {m n : Nat} : ∀ a b : Mono, (∀ p ∈ a, p ≤ m) → (∀ p ∈ b, p ≤ n) → ∀ p ∈ psum a b, p ≤ m + n
  | [], b, _, hb, p, h => by have := hb p h; omega
  | x :: a, [], ha, _, p, h => by rw [psum_nil] at h; have := ha p h; omega
  | x :: a, y :: b, ha, hb, p, h => by
    rw [psum] at h
    rcases List.mem_cons.mp h with rfl | h
    · have := ha x List.mem_cons_self
      have := hb y List.mem_cons_self
      omega
    · exact psum_le a b (fun q hq => ha q (List.mem_cons_of_mem _ hq)) (fun q hq => hb q (List.mem_cons_of_mem _ hq)) p h

/-! ### counts: a dict of numbers by powers -/
def lookC (cs : Po) (k : Mono) : Option Int := (cs.find? fun t => decide (t.1 = k)).map (·.2)
def putC (cs : Po) (k : Mono) (v : Int) : Po :=
  if (cs.any fun t => decide (t.1 = k)) = true then cs.map (fun t => if t.1 = k then (t.1, v) else t) else cs ++ [(k, v)]
/-- the number at k, 0 where there is none -/
def numC (cs : Po) (k : Mono) : Int := (lookC cs k).getD 0
def addC (cs : Po) (t : Mono × Int) : Po := putC cs t.1 (numC cs t.1 + t.2)
abbrev keys (cs : Po) : List Mono := cs.map (·.1)

theorem any_iff (cs : Po) (k : Mono) : (cs.any fun t => decide (t.1 = k)) = true ↔ k ∈ keys cs := by
  simp [List.any_eq_true]
theorem lookC_none {cs : Po} {k : Mono} (h : k ∉ keys cs) : lookC cs k = none := by
  unfold lookC
  rw [List.find?_eq_none.mpr]
  · rfl
  · intro t ht e
    exact h (List.mem_map.mpr ⟨t, ht, by simpa using e⟩)
theorem putC_new {cs : Po} {k : Mono} {v : Int} (h : k ∉ keys cs) : putC cs k v = cs ++ [(k, v)] := by
  unfold putC
  rw [if_neg]
  rw [any_iff]; exact h
theorem putC_old {cs : Po} {k : Mono} {v : Int} (h : k ∈ keys cs) : putC cs k v = cs.map (fun t => if t.1 = k then (t.1, v) else t) := by
  unfold putC
  rw [if_pos ((any_iff ..).mpr h)]
theorem repl_none {k : Mono} {v : Int} : ∀ {cs : Po}, k ∉ keys cs → cs.map (fun t => if t.1 = k then (t.1, v) else t) = cs
  | [], _ => rfl
  | t :: cs, h => by
    have h1 : ¬ t.1 = k := fun e => h (by rw [keys, List.map_cons, ← e]; exact List.mem_cons_self)
    have h2 : k ∉ keys cs := fun e => h (by rw [keys, List.map_cons]; exact List.mem_cons_of_mem _ e)
    rw [List.map_cons, if_neg h1, repl_none h2]
/-- a key that is there: the list around it -/
theorem split_at {k : Mono} : ∀ {cs : Po}, k ∈ keys cs → (keys cs).Nodup → ∃ a c b, cs = a ++ (k, c) :: b ∧ k ∉ keys a ∧ k ∉ keys b
  | [], h, _ => by simp at h
  | t :: cs, h, hn => by
    rw [keys, List.map_cons, List.nodup_cons] at hn
    by_cases e : t.1 = k
    · refine ⟨[], t.2, cs, by rw [← e]; rfl, by simp, ?_⟩
      rw [← e]; exact hn.1
    · have h' : k ∈ keys cs := by
        rw [keys, List.map_cons] at h
        rcases List.mem_cons.mp h with q | q
        · exact absurd q.symm e
        · exact q
      obtain ⟨a, c, b, rfl, ha, hb⟩ := split_at h' hn.2
      refine ⟨t :: a, c, b, rfl, ?_, hb⟩
      intro q
      rw [keys, List.map_cons] at q
      rcases List.mem_cons.mp q with q | q
      · exact e q.symm
      · exact ha q
theorem look_split {a b : Po} {k : Mono} {c : Int} (ha : k ∉ keys a) : lookC (a ++ (k, c) :: b) k = some c := by
  unfold lookC
  rw [List.find?_append, List.find?_eq_none.mpr]
  · simp
  · intro t ht e
    exact ha (List.mem_map.mpr ⟨t, ht, by simpa using e⟩)
theorem put_split {a b : Po} {k : Mono} {c v : Int} (ha : k ∉ keys a) (hb : k ∉ keys b) : putC (a ++ (k, c) :: b) k v = a ++ (k, v) :: b := by
  rw [putC_old (by simp), List.map_append, List.map_cons, repl_none ha, repl_none hb, if_pos rfl]

/-- sizes: distinct powers, so many terms, the numbers' sizes together at most 2 ^ b, at most six powers, each at most e -/
structure Pb (n b e : Nat) (r : Po) : Prop where
  nd : (keys r).Nodup
  len : r.length ≤ n
  nm : norm r ≤ 2 ^ b
  pw : ∀ t ∈ r, t.1.length ≤ 6 ∧ ∀ p ∈ t.1, p ≤ e
theorem Pb.mono {n b e n' b' e' : Nat} {r : Po} (h : Pb n b e r) (h1 : n ≤ n') (h2 : b ≤ b') (h3 : e ≤ e') : Pb n' b' e' r :=
  ⟨h.nd, Nat.le_trans h.len h1, Nat.le_trans h.nm (Nat.pow_le_pow_right (by decide) h2), fun t ht => ⟨(h.pw t ht).1, fun p hp => Nat.le_trans ((h.pw t ht).2 p hp) h3⟩⟩

/-- the looser form while a dict is filled -/
structure Pc (n c e : Nat) (r : Po) : Prop where
  nd : (keys r).Nodup
  len : r.length ≤ n
  nm : norm r ≤ c
  pw : ∀ t ∈ r, t.1.length ≤ 6 ∧ ∀ p ∈ t.1, p ≤ e
theorem Pc.nil (n c e : Nat) : Pc n c e [] := ⟨List.nodup_nil, Nat.zero_le _, Nat.zero_le _, fun _ h => nomatch h⟩
theorem addC_ev (f : Nat → Rat) {cs : Po} (hn : (keys cs).Nodup) (t : Mono × Int) : ev f (addC cs t) = ev f cs + (t.2 : Rat) * mon f 0 t.1 := by
  unfold addC numC
  by_cases h : t.1 ∈ keys cs
  · obtain ⟨a, c, b, rfl, ha, hb⟩ := split_at h hn
    rw [look_split ha, put_split ha hb]
    simp only [ev_append, ev_cons, Option.getD_some, Rat.intCast_add]
    grind
  · rw [lookC_none h, putC_new h]
    simp only [ev_append, ev_cons, ev_nil, Option.getD_none, Int.zero_add]
    grind
theorem addC_ok {n c e : Nat} {cs : Po} (h : Pc n c e cs) (t : Mono × Int) (ht : t.1.length ≤ 6 ∧ ∀ p ∈ t.1, p ≤ e) : Pc (n + 1) (c + t.2.natAbs) e (addC cs t) := by
  unfold addC numC
  by_cases hk : t.1 ∈ keys cs
  · obtain ⟨a, d, b, rfl, ha, hb⟩ := split_at hk h.nd
    rw [look_split ha, put_split ha hb]
    have h1 := h.nd
    have h2 := h.len
    have h3 := h.nm
    refine ⟨?_, ?_, ?_, ?_⟩
    · simpa [keys] using h1
    · simp at h2 ⊢; omega
    · rw [norm_append, norm_cons] at h3 ⊢
      simp only [Option.getD_some]
      have := Int.natAbs_add_le d t.2
      omega
    · intro u hu
      rcases List.mem_append.mp hu with q | q
      · exact h.pw u (List.mem_append.mpr (.inl q))
      · rcases List.mem_cons.mp q with rfl | q
        · exact ht
        · exact h.pw u (List.mem_append.mpr (.inr (List.mem_cons_of_mem _ q)))
  · rw [lookC_none hk, putC_new hk]
    have h1 := h.nd
    have h2 := h.len
    have h3 := h.nm
    refine ⟨?_, ?_, ?_, ?_⟩
    · rw [keys, List.map_append]
      refine List.nodup_append.mpr ⟨h1, by simp, ?_⟩
      intro x hx y hy e
      simp at hy
      subst hy; subst e
      exact hk hx
    · simp; exact h2
    · rw [norm_append, norm_cons]; simp [norm]; omega
    · intro u hu
      rcases List.mem_append.mp hu with q | q
      · exact h.pw u q
      · simp at q; subst q; exact ht
/-- the terms of a list added up in a dict -/
def fillC (cs : Po) (l : Po) : Po := l.foldl addC cs
theorem fillC_ev (f : Nat → Rat) {e : Nat} : ∀ (l : Po) {n c : Nat} {cs : Po}, Pc n c e cs → (∀ t ∈ l, t.1.length ≤ 6 ∧ ∀ p ∈ t.1, p ≤ e) → ev f (fillC cs l) = ev f cs + ev f l
  | [], _, _, cs, _, _ => by rw [fillC, List.foldl_nil, ev_nil, Rat.add_zero]
  | t :: l, n, c, cs, h, ht => by
    have h1 := addC_ok h t (ht t List.mem_cons_self)
    have ih := fillC_ev f l h1 fun u hu => ht u (List.mem_cons_of_mem _ hu)
    rw [fillC, List.foldl_cons]
    rw [fillC] at ih
    rw [ih, addC_ev f h.nd, ev_cons, Rat.add_assoc]
theorem fillC_ok {e : Nat} : ∀ (l : Po) {n c : Nat} {cs : Po}, Pc n c e cs → (∀ t ∈ l, t.1.length ≤ 6 ∧ ∀ p ∈ t.1, p ≤ e) → Pc (n + l.length) (c + norm l) e (fillC cs l)
  | [], n, c, cs, h, _ => by simpa [fillC, norm] using h
  | t :: l, n, c, cs, h, ht => by
    have h1 := addC_ok h t (ht t List.mem_cons_self)
    have ih := fillC_ok l h1 fun u hu => ht u (List.mem_cons_of_mem _ hu)
    have e1 : n + (t :: l).length = n + 1 + l.length := by simp; omega
    have e2 : c + norm (t :: l) = c + t.2.natAbs + norm l := by rw [norm_cons]; omega
    rw [e1, e2, fillC, List.foldl_cons]
    exact ih
/-- what gathered tells -/
def Gat (cs r : Po) : Prop := r.Perm (cs.filter fun t => t.2 != 0)
theorem Gat.ev {cs r : Po} (h : Gat cs r) (f : Nat → Rat) : ev f r = EM.ev f cs := (ev_perm f h).trans (ev_filter f cs)
theorem Gat.ok {n c e : Nat} {cs r : Po} (h : Gat cs r) (p : Pc n c e cs) : Pc n c e r := by
  refine ⟨?_, ?_, ?_, ?_⟩
  · have q : (keys (cs.filter fun t => t.2 != 0)).Nodup := (List.Sublist.map _ List.filter_sublist).nodup p.nd
    exact (h.map (·.1)).nodup_iff.mpr q
  · rw [h.length_eq]; exact Nat.le_trans (List.length_filter_le ..) p.len
  · rw [norm_perm h]; exact Nat.le_trans (norm_filter ..) p.nm
  · intro t ht
    exact p.pw t (List.mem_filter.mp (h.mem_iff.mp ht)).1
theorem Pc.pb {n c e b : Nat} {r : Po} (h : Pc n c e r) (hc : c ≤ 2 ^ b) : Pb n b e r := ⟨h.nd, h.len, Nat.le_trans h.nm hc, h.pw⟩
theorem Pb.pc {n b e : Nat} {r : Po} (h : Pb n b e r) : Pc n (2 ^ b) e r := ⟨h.nd, h.len, h.nm, h.pw⟩
theorem Pb.sub {n b e m : Nat} {r s : Po} (h : Pb n b e r) (hs : s.Sublist r) (hm : s.length ≤ m) (hc : norm s ≤ norm r) : Pb m b e s :=
  ⟨(hs.map _).nodup h.nd, hm, Nat.le_trans hc h.nm, fun t ht => h.pw t (hs.subset ht)⟩
theorem Pb.take {n b e : Nat} {r : Po} (h : Pb n b e r) (m : Nat) : Pb m b e (r.take m) :=
  h.sub (List.take_sublist ..) (by rw [List.length_take]; omega) (norm_take ..)

/-! sums and products of polynomials -/
theorem sum_spec {n b e n' b' e' : Nat} {x y r : Po} (hx : Pb n b e x) (hy : Pb n' b' e' y) (g : Gat (fillC x y) r) :
    (∀ f, ev f r = ev f x + ev f y) ∧ Pb (n + n') (max b b' + 1) (max e e') r := by
  have px : Pc n (2 ^ b) (max e e') x := (hx.mono (Nat.le_refl _) (Nat.le_refl _) (Nat.le_max_left e e')).pc
  have py : ∀ t ∈ y, t.1.length ≤ 6 ∧ ∀ p ∈ t.1, p ≤ max e e' := (hy.mono (Nat.le_refl _) (Nat.le_refl _) (Nat.le_max_right e e')).pw
  have q := g.ok (fillC_ok y px py)
  refine ⟨fun f => by rw [g.ev, fillC_ev f y px py], ⟨q.nd, Nat.le_trans q.len (by have := hy.len; omega), Nat.le_trans q.nm ?_, q.pw⟩⟩
  have h1 : 2 ^ b ≤ 2 ^ (max b b') := Nat.pow_le_pow_right (by decide) (Nat.le_max_left ..)
  have h2 : 2 ^ b' ≤ 2 ^ (max b b') := Nat.pow_le_pow_right (by decide) (Nat.le_max_right ..)
  have h3 := hy.nm
  rw [Nat.pow_succ]; omega
/-- each number taken k times -/
def scaled (x : Po) (k : Int) : Po := x.map fun t => (t.1, t.2 * k)
theorem scaled_ev (f : Nat → Rat) (k : Int) : ∀ x : Po, ev f (scaled x k) = (k : Rat) * ev f x
  | [] => by simp [scaled, ev, Rat.mul_zero]
  | t :: x => by
    have ih := scaled_ev f k x
    rw [scaled, List.map_cons, ev_cons, ev_cons]
    rw [scaled] at ih
    rw [ih, Rat.intCast_mul]; grind
theorem scaled_norm (k : Int) : ∀ x : Po, norm (scaled x k) = norm x * k.natAbs
  | [] => by simp [scaled, norm]
  | t :: x => by
    have ih := scaled_norm k x
    rw [scaled, List.map_cons, norm_cons, norm_cons]
    rw [scaled] at ih
    rw [ih, Int.natAbs_mul, Nat.add_mul]
theorem scaled_keys (k : Int) (x : Po) : keys (scaled x k) = keys x := by simp [keys, scaled]
theorem scaled_ok {n b e j : Nat} {x : Po} {k : Int} (h : Pb n b e x) (hk : k.natAbs ≤ 2 ^ j) : Pb n (b + j) e (scaled x k) := by
  refine ⟨by rw [scaled_keys]; exact h.nd, by simp [scaled]; exact h.len, ?_, ?_⟩
  · rw [scaled_norm, Nat.pow_add]; exact Nat.mul_le_mul h.nm hk
  · intro t ht
    obtain ⟨u, hu, rfl⟩ := List.mem_map.mp ht
    exact h.pw u hu
/-- what poly_scaled and many tell -/
def manyP (x : Po) (k : Int) : Po := if k = 0 then [] else scaled x k
theorem many_spec {n b e j : Nat} {x : Po} {k : Int} (h : Pb n b e x) (hk : k.natAbs ≤ 2 ^ j) : (∀ f, ev f (manyP x k) = (k : Rat) * ev f x) ∧ Pb n (b + j) e (manyP x k) := by
  unfold manyP
  split
  · rename_i e0
    subst e0
    refine ⟨fun f => by simp [ev, Rat.zero_mul], ⟨List.nodup_nil, Nat.zero_le _, Nat.zero_le _, fun _ h => nomatch h⟩⟩
  · exact ⟨fun f => scaled_ev f k x, scaled_ok h hk⟩
/-- the products of a term with the terms of y -/
def rowP (t : Mono × Int) (y : Po) : Po := y.map fun u => (psum t.1 u.1, t.2 * u.2)
def prodP (x y : Po) : Po := x.flatMap fun t => rowP t y
theorem rowP_ev (f : Nat → Rat) (t : Mono × Int) : ∀ y : Po, ev f (rowP t y) = (t.2 : Rat) * mon f 0 t.1 * ev f y
  | [] => by simp [rowP, ev, Rat.mul_zero]
  | u :: y => by
    have ih := rowP_ev f t y
    rw [rowP, List.map_cons, ev_cons, ev_cons]
    rw [rowP] at ih
    rw [ih, mon_psum, Rat.intCast_mul]; grind
theorem rowP_norm (t : Mono × Int) : ∀ y : Po, norm (rowP t y) = t.2.natAbs * norm y
  | [] => by simp [rowP, norm]
  | u :: y => by
    have ih := rowP_norm t y
    rw [rowP, List.map_cons, norm_cons, norm_cons]
    rw [rowP] at ih
    rw [ih, Int.natAbs_mul, Nat.mul_add]
theorem prodP_ev (f : Nat → Rat) (y : Po) : ∀ x : Po, ev f (prodP x y) = ev f x * ev f y
  | [] => by simp [prodP, ev, Rat.zero_mul]
  | t :: x => by
    have ih := prodP_ev f y x
    rw [prodP, List.flatMap_cons, ev_append, ev_cons]
    rw [prodP] at ih
    rw [ih, rowP_ev]; grind
theorem prodP_norm (y : Po) : ∀ x : Po, norm (prodP x y) = norm x * norm y
  | [] => by simp [prodP, norm]
  | t :: x => by
    have ih := prodP_norm y x
    rw [prodP, List.flatMap_cons, norm_append, norm_cons]
    rw [prodP] at ih
    rw [ih, rowP_norm, Nat.add_mul]
theorem prodP_len (y : Po) : ∀ x : Po, (prodP x y).length = x.length * y.length
  | [] => by simp [prodP]
  | t :: x => by
    have ih := prodP_len y x
    rw [prodP, List.flatMap_cons, List.length_append, List.length_cons]
    rw [prodP] at ih
    rw [ih]; simp [rowP, Nat.add_mul, Nat.add_comm]
theorem prodP_pw {e e' : Nat} {x y : Po} (hx : ∀ t ∈ x, t.1.length ≤ 6 ∧ ∀ p ∈ t.1, p ≤ e) (hy : ∀ t ∈ y, t.1.length ≤ 6 ∧ ∀ p ∈ t.1, p ≤ e') : ∀ t ∈ prodP x y, t.1.length ≤ 6 ∧ ∀ p ∈ t.1, p ≤ e + e' := by
  intro t ht
  obtain ⟨u, hu, ht⟩ := List.mem_flatMap.mp ht
  obtain ⟨v, hv, rfl⟩ := List.mem_map.mp ht
  refine ⟨?_, psum_le _ _ (hx u hu).2 (hy v hv).2⟩
  show (psum u.1 v.1).length ≤ 6
  rw [psum_len]
  have := (hx u hu).1
  have := (hy v hv).1
  omega
theorem prod_spec {n b e n' b' e' : Nat} {x y r : Po} (hx : Pb n b e x) (hy : Pb n' b' e' y) (g : Gat (fillC [] (prodP x y)) r) :
    (∀ f, ev f r = ev f x * ev f y) ∧ Pb (n * n') (b + b') (e + e') r := by
  have pw := prodP_pw hx.pw hy.pw
  have q := g.ok (fillC_ok (prodP x y) (Pc.nil 0 0 (e + e')) pw)
  refine ⟨fun f => by rw [g.ev, fillC_ev f _ (Pc.nil 0 0 (e + e')) pw, prodP_ev, ev_nil, Rat.zero_add], ⟨q.nd, Nat.le_trans q.len ?_, Nat.le_trans q.nm ?_, q.pw⟩⟩
  · rw [Nat.zero_add, prodP_len]; exact Nat.mul_le_mul hx.len hy.len
  · rw [Nat.zero_add, prodP_norm, Nat.pow_add]; exact Nat.mul_le_mul hx.nm hy.nm

/-! ### worths: sizes at a place -/
/-- a place: six fractions, tops from -9 to 9, bottoms to 5 -/
def PlaceOk (pl : List Rat) : Prop := pl.length = 6 ∧ ∀ q ∈ pl, q.num.natAbs ≤ 9 ∧ q.den ≤ 5
def at_ (pl : List Rat) : Nat → Rat := fun k => pl.getD k 0
theorem at_ok {pl : List Rat} (h : PlaceOk pl) (k : Nat) : (at_ pl k).num.natAbs ≤ 9 ∧ (at_ pl k).den ≤ 5 := by
  unfold at_
  rw [List.getD_eq_getElem?_getD]
  cases e : pl[k]? with
  | none => exact ⟨by decide, by decide⟩
  | some q => exact h.2 q (List.mem_of_getElem? e)
theorem dvd60 {d : Nat} (h0 : 0 < d) (h : d ≤ 5) : d * (60 / d) = 60 := by
  have : d = 1 ∨ d = 2 ∨ d = 3 ∨ d = 4 ∨ d = 5 := by omega
  rcases this with rfl | rfl | rfl | rfl | rfl <;> rfl
theorem num_den (q : Rat) : q * (q.den : Rat) = (q.num : Rat) := by
  have e : (q.num : Rat) / (q.den : Rat) = q := by
    have := fr_self q
    rw [fr, Rat.divInt_eq_div, Rat.intCast_natCast] at this
    exact this
  have h : (q.den : Rat) ≠ 0 := by
    have := q.den_nz
    simpa using this
  grind
theorem fits1 {q : Rat} (h1 : q.num.natAbs ≤ 9) (h2 : q.den ≤ 5) : Fits 60 540 q := by
  have hd : 0 < q.den := Nat.pos_of_ne_zero q.den_nz
  have e := dvd60 hd h2
  refine ⟨q.num * ((60 / q.den : Nat) : Int), ?_, ?_⟩
  · rw [Rat.intCast_mul, ← num_den q, Rat.mul_assoc, Rat.intCast_natCast, ← Rat.natCast_mul, e]
  · rw [Int.natAbs_mul, Int.natAbs_natCast]
    have : 60 / q.den ≤ 60 := Nat.div_le_self ..
    exact Nat.mul_le_mul h1 this
theorem Fits.one' {D : Nat} : Fits D D 1 := ⟨(D : Int), by rw [Rat.one_mul, Rat.intCast_natCast], by simp⟩
theorem fits_pow {q : Rat} (h : Fits 60 540 q) {e : Nat} : ∀ {p : Nat}, p ≤ e → Fits (60 ^ e) (540 ^ e) (q ^ p) := by
  induction e with
  | zero => intro p hp; rw [Nat.le_zero.mp hp, Rat.pow_zero]; exact Fits.one'
  | succ e ih =>
    intro p hp
    cases p with
    | zero =>
      rw [Rat.pow_zero]
      exact Fits.mono Fits.one' (Nat.pow_le_pow_left (by decide) _)
    | succ p =>
      rw [Rat.pow_succ, Nat.pow_succ, Nat.pow_succ]
      exact (ih (Nat.le_of_succ_le_succ hp)).mul h
theorem fits_mon {f : Nat → Rat} {e : Nat} (h : ∀ k, Fits 60 540 (f k)) : ∀ (n : Nat) (i : Nat) (ps : Mono), ps.length ≤ n → (∀ p ∈ ps, p ≤ e) → Fits ((60 ^ e) ^ n) ((540 ^ e) ^ n) (mon f i ps)
  | 0, i, ps, hl, _ => by
    have : ps = [] := List.length_eq_zero_iff.mp (Nat.le_zero.mp hl)
    subst this
    rw [mon]; exact Fits.one'
  | n + 1, i, [], _, _ => by
    rw [mon]
    exact Fits.mono Fits.one' (Nat.pow_le_pow_left (Nat.pow_le_pow_left (by decide) _) _)
  | n + 1, i, p :: ps, hl, hp => by
    rw [mon, Nat.pow_succ, Nat.pow_succ, Nat.mul_comm ((60 ^ e) ^ n), Nat.mul_comm ((540 ^ e) ^ n)]
    exact (fits_pow (h i) (hp p List.mem_cons_self)).mul (fits_mon h n (i + 1) ps (by simpa using hl) fun q hq => hp q (List.mem_cons_of_mem _ hq))
theorem fits_ev {f : Nat → Rat} {e : Nat} (h : ∀ k, Fits 60 540 (f k)) : ∀ r : Po, (∀ t ∈ r, t.1.length ≤ 6 ∧ ∀ p ∈ t.1, p ≤ e) → Fits ((60 ^ e) ^ 6) (norm r * (540 ^ e) ^ 6) (ev f r)
  | [], _ => by rw [ev]; exact Fits.zero ..
  | t :: r, hp => by
    rw [ev, norm, Nat.add_mul]
    exact ((fits_mon h 6 0 t.1 (hp t List.mem_cons_self).1 (hp t List.mem_cons_self).2).int t.2).add (fits_ev h r fun u hu => hp u (List.mem_cons_of_mem _ hu))
theorem fb_of {D M k : Nat} {q : Rat} (h : Fits D M q) (hD : 0 < D) (hd : D < 2 ^ k) (hm : M < 2 ^ k) : FB k q := h.fb hD hd hm
/-- every worth that is met has less than 800 bits -/
theorem fb_worth {pl : List Rat} (h : PlaceOk pl) {n b e : Nat} {r : Po} (p : Pb n b e r) (hb : b ≤ 120) (he : e ≤ 10) : FB 800 (ev (at_ pl) r) := by
  have p' := p.mono (Nat.le_refl _) hb he
  have q := fits_ev (e := 10) (fun k => fits1 (at_ok h k).1 (at_ok h k).2) r p'.pw
  have q2 : Fits ((60 ^ 10) ^ 6) (2 ^ 120 * (540 ^ 10) ^ 6) (ev (at_ pl) r) := q.mono (Nat.mul_le_mul_right _ p'.nm)
  exact q2.fb (by decide +kernel) (by decide +kernel) (by decide +kernel)
theorem fb_term {pl : List Rat} (h : PlaceOk pl) {ps : Mono} {c : Int} (hl : ps.length ≤ 6) (he : ∀ p ∈ ps, p ≤ 10) (hc : c.natAbs ≤ 2 ^ 120) : FB 800 ((c : Rat) * mon (at_ pl) 0 ps) := by
  have q := (fits_mon (e := 10) (fun k => fits1 (at_ok h k).1 (at_ok h k).2) 6 0 ps hl he).int c
  have q2 := q.mono (Nat.mul_le_mul_right _ hc)
  exact q2.fb (by decide +kernel) (by decide +kernel) (by decide +kernel)
theorem natAbs_le_norm {t : Mono × Int} : ∀ {r : Po}, t ∈ r → t.2.natAbs ≤ norm r
  | u :: r, h => by
    rw [norm_cons]
    rcases List.mem_cons.mp h with rfl | h
    · omega
    · have := natAbs_le_norm h; omega
/-! the same with whole numbers, as term_at reckons -/
def monI (g : Nat → Int) : Nat → Mono → Int
  | _, [] => 1
  | i, p :: ps => g i ^ p * monI g (i + 1) ps
theorem monI_snoc (g : Nat → Int) : ∀ (ps : Mono) (i p : Nat), monI g i (ps ++ [p]) = monI g i ps * g (i + ps.length) ^ p
  | [], i, p => by simp [monI]
  | q :: ps, i, p => by
    rw [List.cons_append, monI, monI, monI_snoc g ps (i + 1) p, Int.mul_assoc, List.length_cons]
    have : i + 1 + ps.length = i + (ps.length + 1) := by omega
    rw [this]
theorem monI_ne {g : Nat → Int} (h : ∀ k, g k ≠ 0) : ∀ (ps : Mono) (i : Nat), monI g i ps ≠ 0
  | [], _ => by simp [monI]
  | p :: ps, i => by
    rw [monI]
    exact Int.mul_ne_zero (Int.pow_ne_zero (h i)) (monI_ne h ps (i + 1))
theorem fr_div (t b : Int) : fr t b = (t : Rat) / (b : Rat) := Rat.divInt_eq_div t b
theorem cast_ne {b : Int} (h : b ≠ 0) : (b : Rat) ≠ 0 := by simpa using h
theorem pow_fr (a : Int) {b : Int} (p : Nat) : (fr a b) ^ p = fr (a ^ p) (b ^ p) := by
  induction p with
  | zero => rw [Rat.pow_zero, Int.pow_zero, Int.pow_zero]; rfl
  | succ p ih =>
    rw [Rat.pow_succ, ih, Int.pow_succ, Int.pow_succ, fr, fr, Rat.divInt_mul_divInt]
theorem mon_fr (g d : Nat → Int) (h : ∀ k, d k ≠ 0) : ∀ (ps : Mono) (i : Nat), mon (fun k => fr (g k) (d k)) i ps = fr (monI g i ps) (monI d i ps)
  | [], i => by rw [mon, monI, monI, fr, Rat.divInt_self' (by decide)]
  | p :: ps, i => by
    rw [mon, monI, monI, mon_fr g d h ps (i + 1), pow_fr _, fr, fr, Rat.divInt_mul_divInt]
theorem term_fr (pl : List Rat) (ps : Mono) (c : Int) : fr (c * monI (fun k => (at_ pl k).num) 0 ps) (monI (fun k => ((at_ pl k).den : Int)) 0 ps) = (c : Rat) * mon (at_ pl) 0 ps := by
  have e : (fun k => fr (at_ pl k).num ((at_ pl k).den : Int)) = at_ pl := funext fun k => fr_self _
  have m := mon_fr (fun k => (at_ pl k).num) (fun k => ((at_ pl k).den : Int)) (fun k => den_ne _) ps 0
  rw [e] at m
  rw [m]
  have e1 : ((c : Int) : Rat) = fr c 1 := by rw [fr_div]; grind
  rw [e1, fr, fr, Rat.divInt_mul_divInt, Int.one_mul]
theorem pow_bound {a : Int} {k p e : Nat} (h : a.natAbs ≤ 2 ^ k) (hp : p ≤ e) : (a ^ p).natAbs ≤ 2 ^ (k * e) := by
  rw [Int.natAbs_pow]
  calc a.natAbs ^ p ≤ (2 ^ k) ^ p := Nat.pow_le_pow_left h p
    _ = 2 ^ (k * p) := (Nat.pow_mul ..).symm
    _ ≤ 2 ^ (k * e) := Nat.pow_le_pow_right (by decide) (Nat.mul_le_mul_left _ hp)
theorem monI_bound {g : Nat → Int} {k e : Nat} (h : ∀ i, (g i).natAbs ≤ 2 ^ k) : ∀ (ps : Mono) (i : Nat), (∀ p ∈ ps, p ≤ e) → (monI g i ps).natAbs ≤ 2 ^ (k * e * ps.length)
  | [], _, _ => by simp [monI]
  | p :: ps, i, hp => by
    rw [monI, Int.natAbs_mul, List.length_cons, Nat.mul_succ, Nat.add_comm (k * e * ps.length), Nat.pow_add]
    exact Nat.mul_le_mul (pow_bound (h i) (hp p List.mem_cons_self)) (monI_bound h ps (i + 1) fun q hq => hp q (List.mem_cons_of_mem _ hq))
end EM

/-! Rules of our own over the hand layer. -/
namespace ER
open PySem PySem.Spec PyProof.Rows L2

/-! ### // by any divisor but 0, below 2 ^ 9000 in size -/
def CDivG (_ j : Int) : Prop := j ≠ 0 ∧ j.natAbs.log2 < 9000
theorem op_fdivG {X : Cx} : OpR X (binaryOp .FloorDiv) (rI CDivG fun i j => .int (i.fdiv j)) :=
  opI fun _ _ _ _ _ _ _ hc q => floordiv_int hc.1 q (.inl (PyProof.noPylong_of_log2 hc.2))
theorem CDivG.of {i j : Int} {b : Nat} (h : j ≠ 0) (hb : j.natAbs < 2 ^ b) (h0 : 0 < b) (h9 : b ≤ 9000) : CDivG i j :=
  ⟨h, Nat.lt_of_lt_of_le (PySem.Flt.log2_lt_of h0 hb) h9⟩

/-! ### dict(xs), xs a list of pairs whose keys are tuples, no key twice -/
theorem atKey_none {κ : Type} [DecidableEq κ] {xs : List (κ × Addr × Value)} {k : κ} (h : k ∉ xs.map (·.1)) : atKey xs k = none := by
  unfold atKey
  rw [List.find?_eq_none.mpr]
  · rfl
  · intro t ht e
    exact h (List.mem_map.mpr ⟨t, ht, by simpa using e⟩)
theorem storedAllH_nodup {κ : Type} [DecidableEq κ] : ∀ (ps acc : List (κ × Addr × Value)), ((acc ++ ps).map (·.1)).Nodup → storedAllH acc ps = acc ++ ps
  | [], acc, _ => by simp [storedAllH]
  | p :: ps, acc, h => by
    have hk : p.1 ∉ acc.map (·.1) := by
      intro hm
      rw [List.map_append, List.map_cons] at h
      exact (List.nodup_append.mp h).2.2 _ hm _ List.mem_cons_self rfl
    have e : storedH acc p.1 p.2.1 p.2.2 = acc ++ [p] := storedH_new (atKey_none hk) _ _
    have ih := storedAllH_nodup ps (acc ++ [p]) (by simpa using h)
    show storedAllH (storedH acc p.1 p.2.1 p.2.2) ps = _
    rw [e, ih]; simp
/-- a pair at p: the tuple of a key's tuple and a value -/
def PairT (H : Hp) (p : Addr) (kv : List Key × V) : Prop := ∃ b, H p = some (.tup [.ref b, kv.2]) ∧ H b = some (.tup (kv.1.map kV))
def rDictT (K : PySem.W.Frag) : List V → Hp → VK → Prop := fun xs H Q => ∃ (a : Addr) (ps : List Addr) (kvs : List (List Key × V)), xs = [.ref a] ∧ SqL K H a (ps.map V.ref) ∧ Paired (PairT H) ps kvs ∧ (kvs.map (·.1)).Nodup ∧
  ∀ p, H p = none → Q (.ref p) (upd H p (.dT kvs))
section
variable {X : Cx}
theorem pairsT_of {pins : List (Addr × Obj)} {σ : L2.St} {H : Hp} {s : Shared} (I : Inv X pins σ H s) : ∀ {ps : List Addr} {kvs : List (List Key × V)}, Paired (PairT H) ps kvs →
    ∃ prs : List (List Key × Addr × Value), KT H kvs prs ∧ prs.length = ps.length ∧ prs.map (·.1) = kvs.map (·.1) ∧ ∀ (j : Nat) (q : List Key × Addr × Value), prs[j]? = some q → ∃ b : Addr, ps[j]? = some b ∧ IsTup s.heap b #[.ref q.2.1, q.2.2]
  | _, _, .nil => ⟨[], .nil, rfl, rfl, fun j q e => by simp at e⟩
  | _, _, .cons (a := p) (b := kv) h t => by
    obtain ⟨prs, r, hl, hm, hp⟩ := pairsT_of I t
    obtain ⟨b, hp1, hb⟩ := h
    obtain ⟨its, rv, tp, _⟩ := I.tuple (SqT.of hp1)
    obtain ⟨u1, u2, e, r1, r2⟩ := Vals.two rv
    subst e
    have e1 : u1 = .ref b := r1
    subst e1
    refine ⟨(kv.1, b, u2) :: prs, .cons ⟨rfl, hb, r2⟩ r, by simp [hl], by simp [hm], fun j q e => ?_⟩
    cases j with
    | zero =>
      simp only [List.getElem?_cons_zero, Option.some.injEq] at e
      subst e
      exact ⟨p, rfl, tp⟩
    | succ j =>
      simp only [List.getElem?_cons_succ] at e
      obtain ⟨b', e1, e2⟩ := hp j q e
      exact ⟨b', by simpa using e1, e2⟩
theorem isTup_isTuple {h : Heap} {a : Addr} {its : Array Value} (x : IsTup h a its) : h.IsTuple a its := by
  obtain ⟨o, ho, hc, n, hd⟩ := x
  exact ⟨o, ho, hc, n, hd⟩
theorem call_dictT (hcalm : X.calm = true) (hu : X.A.units + 64 < cLine) : CallR X (.type "dict") (rDictT X.K) := by
  intro pins s σ H xs us Q I r q
  obtain ⟨a, ps, kvs, ex, hq, hp, hnd, q⟩ := q
  subst ex
  obtain ⟨u, eu, rx⟩ := vals1 r
  subst eu
  cases rx
  obtain ⟨its, rv, pl, hz⟩ := I.list hq
  have ei := refs_at rv
  subst ei
  rw [List.length_map] at hz
  obtain ⟨prs, rel, hl, hmk, hpr⟩ := pairsT_of I hp
  obtain ⟨o, n, ho, hc, hd, hdat⟩ := pl
  have hprn : (prs.map (·.1)).Nodup := by rw [hmk]; exact hnd
  let Ts : Nat → Addr := fun j => ps.getD j 0
  let kv2 : List (Value × Value) := prs.map fun q => (.ref q.2.1, q.2.2)
  have hlen : kv2.length = prs.length := by simp [kv2]
  have P := PairArg.list (prog := X.prog) (w := X.w) a (ps.map Value.ref).toArray Ts kv2
  have ok : PlainSeq "list" s.heap a (ps.map Value.ref).toArray ∧ PairItems s.heap (ps.map Value.ref).toArray Ts kv2 := by
    refine ⟨⟨o, n, ho, hc, hd, hdat⟩, by simp [kv2, hl], fun j k v e => ?_⟩
    obtain ⟨q', hq', e'⟩ : ∃ q', prs[j]? = some q' ∧ (Value.ref q'.2.1, q'.2.2) = (k, v) := by
      simp only [kv2, List.getElem?_map] at e
      cases h : prs[j]? with
      | none => rw [h] at e; cases e
      | some q' => rw [h] at e; exact ⟨q', rfl, by simpa using e⟩
    cases e'
    obtain ⟨b, e1, e2⟩ := hpr j q' hq'
    have et : Ts j = b := by simp [Ts, List.getD_eq_getElem?_getD, e1]
    rw [et]
    exact ⟨by simp [e1], .inl (isTup_isTuple e2)⟩
  have keyis : ∀ h', (∀ b ob, s.heap.get? b = some ob → h'.get? b = some ob) → ∀ x ∈ prs, (tupleKind (mixKind X.prog X.w)).is h' x.1 x.2.1 := by
    intro h' hk x hx
    obtain ⟨i, hi, e⟩ := List.getElem_of_mem hx
    have e' : prs[i]? = some x := by rw [List.getElem?_eq_getElem hi, e]
    obtain ⟨kv, _, e1, e2, _⟩ := DX.pget rel e'
    rw [← e1]
    exact key_of (I.hok.kept hk) e2
  refine call_dict_pairsH (knd := tupleKind (mixKind X.prog X.w)) (ps := prs) (wr := []) P (I.ok.hd hcalm) (show X.A.units + 1 + 1 < cLine by omega) ok ⟨hlen.symm, fun i k v e => ?_⟩ (fun h' hk x hx => keyis h' (fun b ob e => hk b ob (Nat.ne_of_lt (Heap.lt_size e)) (by simp) e) x hx) (by rw [hlen, hl]; exact hz) fun h' tk hd' hk => ?_
  · have e' : kv2[i]? = some (k, v) := e
    simp only [kv2, List.getElem?_map] at e'
    cases h : prs[i]? with
    | none => rw [h] at e'; cases e'
    | some q' =>
      rw [h] at e'
      simp only [Option.map_some, Option.some.injEq, Prod.mk.injEq] at e'
      exact ⟨q'.1, q'.2.1, by rw [← e'.2], e'.1.symm⟩
  · rw [storedAllH_nodup prs [] (by simpa using hprn), List.nil_append] at hd'
    have hk' : ∀ b ob, s.heap.get? b = some ob → h'.get? b = some ob := fun b ob e => hk b ob (by simp) e
    have hm : (s.heap.objs.size == sysModules) = false := beq_eq_false_iff_ne.mpr (Nat.ne_of_gt I.big)
    have hz2 : kvs.length ≤ sizeLine := by
      have e1 : kvs.length = prs.length := Paired.length rel
      rw [e1, hl]; exact hz
    obtain ⟨o', es, ep, h1, h2, h3, h4, h5, h6⟩ := hd'
    have hn : H s.heap.objs.size = none := I.hok.fresh (Nat.le_refl _)
    have new : ObjOk X.prog X.w (upd H s.heap.objs.size (.dT kvs)) h' s.heap.objs.size (.dT kvs) :=
      ⟨hz2, hm, prs, rel.keeps (fun b ys e => by rw [upd_ne (ne_of_none e hn)]; exact e), o', es, ep, h1, h2, h3, h4, hprn⟩
    exact ⟨.ref s.heap.objs.size, _, I.laid (t' := tk) hk' (Nat.le_refl _) new, rfl, q _ hn⟩
end
end ER

/-! More rules of our own: the items of a dict with tuple keys, enumerate of a tuple, a slice with a step, tuple * int, list + list. -/
namespace ER
open PySem PySem.Spec PyProof.Rows L2

/-! ### for k, v in d.items(): d locked, its keys tuples -/
/-- the pairs, each a new tuple of the key's own tuple and the value -/
def ItiT (d : Addr) (o : Obj) (kvs : List (List Key × V)) : It :=
  ⟨fun i H => H d = some (.frz o (.dT kvs)) ∧ i < kvs.length,
   fun i H x H' => ∃ T k v q, kvs[i]? = some (k, v) ∧ x = .ref T ∧ H T = none ∧ H q = some (.tup (k.map kV)) ∧ H' = upd H T (.tup [.ref q, v]),
   fun i H => H d = some (.frz o (.dT kvs)) ∧ kvs.length ≤ i⟩
theorem frzT2 {X : Cx} {pins : List (Addr × Obj)} {σ : L2.St} {H : Hp} {s : Shared} {d : Addr} {o : Obj} {kvs : List (List Key × V)} (I : Inv X pins σ H s) (h : H d = some (.frz o (.dT kvs))) :
    (d == sysModules) = false ∧ s.heap.get? d = some o ∧ o.ExactDict ∧ ∃ (es : Array DictEntry) (ep : Nat), o.data = .dict es ep ∧ es.size = kvs.length ∧
      ∀ (i : Nat) (k : List Key) (v : V), kvs[i]? = some (k, v) → ∃ (en : DictEntry) (q : Addr), es[i]? = some en ∧ en.key = .ref q ∧ H q = some (.tup (k.map kV)) ∧ RelV v en.val := by
  obtain ⟨hd, z, hs, xs, pr, o', es, ep, ho, hx, hdt, he, _⟩ := I.hok d _ h
  rw [hd] at ho
  cases ho
  refine ⟨hs, hd, hx, es, ep, hdt, ?_, fun i k v e => ?_⟩
  · have l1 : es.size = xs.length := size_of_entries he
    have l2 : kvs.length = xs.length := Paired.length pr
    omega
  · obtain ⟨b, hb, e1, e2, e3⟩ := paired_get pr e
    have q := entry_at he i
    rw [hb] at q
    exact ⟨_, b.2.1, q, rfl, e2, e3⟩
section
variable {P : Program} {w : World} {K : PySem.W.Frag} {tg : Expr} {d : Addr} {o : Obj} {es : Array DictEntry} {ep : Nat}
theorem turn_itemsT {kvs : List (List Key × V)} {elts : List Expr} {kk : Nat} {tpos : Pos} (it : Addr) (hod : o.data = .dict es ep) :
    Turn P w K (.Tuple elts kk tpos) (ItiT d o kvs) [it] it (fun i h => ∃ ok ov, IsItemIter h it d i kvs.length ep ok ov) where
  mem := by simp
  obj := fun i h st b hb => by
    have e : b = it := by simpa using hb
    subst e
    obtain ⟨ok, ov, e⟩ := st
    exact ⟨_, e, fun v z => nomatch z⟩
  keep := fun i h h' st k => let ⟨ok, ov, e⟩ := st; ⟨ok, ov, k it (by simp) _ e⟩
  item := by
    intro X hP hw hK hc i pins s σ H E I hf st hg
    subst hP hw hK
    obtain ⟨hd, hi⟩ := hg
    obtain ⟨hs, hgd, hx, es', ep', hdt, hsz, hat⟩ := frzT2 I hd
    obtain ⟨rfl, rfl⟩ := dict_ep hod hdt
    obtain ⟨⟨k, v⟩, hkv⟩ : ∃ p, kvs[i]? = some p := ⟨kvs[i], List.getElem?_eq_getElem hi⟩
    obtain ⟨en, q, hen, hkey, hq, rv⟩ := hat i k v hkv
    obtain ⟨ok, ov, he⟩ := st
    rw [← hsz] at he
    have hlt : it < s.heap.objs.size := Heap.lt_size he
    have hii : i < es'.size := by rw [hsz]; exact hi
    have een : es'[i] = en := by
      rw [Array.getElem?_eq_getElem hii] at hen
      exact Option.some.inj hen
    refine wpAny_pyNext_items_item_raw he ⟨o, hgd, hx, hdt⟩ hii fun h' ho hT hz hk => ?_
    rw [een, hkey] at ho hT
    refine ⟨_, rfl, wpAny_letOwnedTupleGo_items (s := { s with heap := h' }) ho fun h'' he' sb => ?_⟩
    have hT2 : h''.get? s.heap.objs.size = some { cls := .type "tuple", data := .seq #[.ref q, en.val] } := (sb.2 _ (Nat.ne_of_gt hlt)).trans hT
    have new : ObjOk X.prog X.w (upd H s.heap.objs.size (.tup [.ref q, v])) h'' s.heap.objs.size (.tup [.ref q, v]) :=
      ⟨by show 2 ≤ sizeLine; decide, [.ref q, en.val], .cons (show RelV (.ref q) (.ref q) from rfl) (.cons rv .nil), ⟨_, hT2, rfl, _, rfl⟩⟩
    have I1 : Inv X pins σ (upd H s.heap.objs.size (.tup [.ref q, v])) { s with heap := h'' } :=
      I.turnedNew (t' := s.toks) (ch := [it]) (fun b ob hb e => (sb.2 b (by simpa using hb)).trans (hk b ob (by simpa using hb) e)) hf (Nat.le_refl _) new
    refine ⟨.ref s.heap.objs.size, _, I1, rfl, ⟨_, k, v, q, hkv, rfl, I.hok.fresh (Nat.le_refl _), hq, rfl⟩, ⟨.ref q, en.val, ?_⟩, fun b hb => ?_⟩
    · rw [← hsz]; exact he'
    · have e : b = it := by simpa using hb
      rw [e, upd_ne (Nat.ne_of_lt hlt)]
      exact (hf it (by simp)).1
  done := by
    intro X hP hw hK hc i pins s σ H E I hf st hg
    subst hP hw hK
    obtain ⟨hd, hi⟩ := hg
    obtain ⟨f0, f1, f2, f3, f4, f5⟩ := hf it (by simp)
    obtain ⟨hs, hgd, hx, es', ep', hdt, hsz, hat⟩ := frzT2 I hd
    obtain ⟨rfl, rfl⟩ := dict_ep hod hdt
    obtain ⟨ok, ov, he⟩ := st
    rw [← hsz] at he
    exact wpAny_pyNext_items_end_raw (I.ok.hd hc) he ⟨o, hgd, hx, hdt⟩ (by omega) fun h' eb => ⟨rfl, I.turned (t' := s.toks) (fun b ob hb e => eb b ob hb e) f0 f1 f3 f4 f5⟩
  self := fun A i s Q E st h => let ⟨_, _, e⟩ := st; PySem.W.kcp_self e h
end
def iItemsT (td : TE) : TI := fun σ H R => td σ H fun x H1 => ∃ d o kvs, x = .ref d ∧ H1 d = some (.frz o (.dT kvs)) ∧ R (ItiT d o kvs) H1
theorem pi_itemsT {X : Cx} {e : Expr} {td : TE} {apos cpos : Pos} {elts : List Expr} {kk : Nat} {tpos : Pos} (he : PE X e td) (hbase : attributeBase e "items" X.env (eval e X.env) = eval e X.env := by rfl) (hline : (apos.endLine == cpos.line) = true := by rfl) :
    PI X (.Tuple elts kk tpos) (.Call (.Attribute e "items" apos) [] [] cpos) (iItemsT td) := by
  refine ⟨fun pins s σ H R I h => ?_⟩
  refine wpAny_Call_method (T := "dict") (id := "dict.items") hbase rfl hline F.plainAttrs_dict F.slot_dict_items F.type_dict_items (thn (he.run pins s σ H _ I h) fun u s1 ⟨x, H1, I1, rx, d, o, kvs, ex, hd, q⟩ => ?_)
  subst ex
  obtain rfl : u = Value.ref d := rx
  obtain ⟨hs, hgd, hx, es, ep, hdt, hsz, hat⟩ := frzT2 I1 hd
  have raw : s1.heap.DictRaw d es ep := ⟨o, hgd, hx, hdt⟩
  refine ⟨raw.typeIs, fun a ea => ?_, ?_⟩
  · cases ea
    exact ⟨o, hgd, hx.2.1⟩
  have I2 : Inv X pins σ H1 { s1 with heap := s1.heap.push { cls := .type "dict_items", data := .fields #[.ref d] } } := I1.kept (t' := s1.toks) fun b ob q => Heap.get?_push_of_some _ q
  have fin : wpAny (model X.prog X.w) X.A (pyIter (.ref s1.heap.objs.size)) (PIE X pins σ (.Tuple elts kk tpos) R) X.xe { s1 with heap := s1.heap.push { cls := .type "dict_items", data := .fields #[.ref d] } } := by
    refine wpAny_pyIter_items_raw (d := d) (es := es) (ep := ep) ⟨_, Heap.get?_push_size _ rfl, rfl, rfl⟩ ⟨o, Heap.get?_push_of_some _ hgd, hx, hdt⟩ (pi_one (tk := s1.toks) I2 _ (turn_itemsT _ hdt) ⟨.none, .none, ?_⟩ q)
    rw [← hsz]
    exact Heap.get?_push_size _ rfl
  show wpAny _ _ (callWith cpos (.builtin "dict.items") [.ref d] [] []) _ X.xe s1
  exact method_meetsIn F.slot_dict_items F.entry_dict_items rfl (PySem.evalArgs_none ⟨rfl, raw.typeIs, F.args_dict_items_1 _, _, meets_dict_items_raw d hs, ⟨es, ep, raw⟩, fin⟩)
theorem walk_itemsT {d : Addr} {o : Obj} {kvs : List (List Key × V)} : Walk (ItiT d o kvs) kvs.length (fun H => H d = some (.frz o (.dT kvs)))
    (fun i H x H' => ∃ T k v q, kvs[i]? = some (k, v) ∧ x = .ref T ∧ H T = none ∧ H q = some (.tup (k.map kV)) ∧ H' = upd H T (.tup [.ref q, v])) :=
  ⟨fun _ _ hi hg => ⟨hg, hi⟩, fun _ hg => ⟨hg, Nat.le_refl _⟩, fun _ _ _ _ _ _ y => y⟩
end ER

/-! More rules of our own: tuple * int for any small number, list + list read, enumerate of a tuple, a slice with a step, sorted terms. -/
namespace ER
open PySem PySem.Spec PyProof.Rows L2
open AutoSeq1 (wpAny_loadPart')

/-! ### tuple * k -/
theorem tuple_mul1 (l : Addr) (items : Array Value) (n : Nat) (dd : Option Addr) (sl : Array (Option Value)) (u : Tok) :
    Meets (Builtin.«tuple.__mul__» ⟨[.ref l, .int 1 u], []⟩) (fun _ R s => s.heap.get? l = some { cls := .type "tuple", dict := dd, data := .seq items n, slots := sl } ∧ R (.ok (.ret (Value.ref l))) s) :=
  .of_wp fun prog w A R s h => by
    obtain ⟨hp, g, d, tk, os⟩ := s
    obtain ⟨hl, h⟩ := h
    have f1 := AutoSeq1.idx_int
    wp_walk using wpAny_loadPart' hl
    repeat (first
      | (refine wpAny_ite_true (by simp) ?_; wp_walk using wpAny_loadPart' hl)
      | (refine wpAny_ite_false (by simp) ?_; wp_walk using wpAny_loadPart' hl))
    exact ⟨_, rfl, h⟩
theorem tuple_mul0 (l : Addr) (items : Array Value) (n : Nat) (dd : Option Addr) (sl : Array (Option Value)) (u : Tok) (hi : items.isEmpty = false) :
    Meets (Builtin.«tuple.__mul__» ⟨[.ref l, .int 0 u], []⟩) (fun _ R s => s.heap.get? l = some { cls := .type "tuple", dict := dd, data := .seq items n, slots := sl } ∧
      R (.ok (.ret (Value.ref s.heap.objs.size))) { s with heap := s.heap.push { cls := Value.type "tuple", data := Data.seq #[] } }) :=
  .of_wp fun prog w A R s h => by
    obtain ⟨hp, g, d, tk, os⟩ := s
    obtain ⟨hl, h⟩ := h
    have f1 := AutoSeq1.idx_int
    have c1 : (items.isEmpty || (0 : Int) == 1) = false := by rw [hi]; rfl
    wp_walk using wpAny_loadPart' hl
    repeat (first
      | (refine wpAny_ite_false (decide_eq_false (by rw [c1]; exact Bool.false_ne_true)) ?_; wp_walk using wpAny_loadPart' hl)
      | (refine wpAny_ite_true (by simp) ?_; wp_walk using wpAny_loadPart' hl)
      | (refine wpAny_ite_false (by simp) ?_; wp_walk using wpAny_loadPart' hl))
    exact ⟨_, rfl, h⟩

def rRepT2 (K : PySem.W.Frag) : R2 := fun x y H Q => ∃ l k xs, x = .ref l ∧ y = .int k ∧ SqT K H l xs ∧ xs ≠ [] ∧ 0 ≤ k ∧ k ≤ 1000 ∧ xs.length ≤ 1000 ∧
  (k = 1 → Q (.ref l) H) ∧ (k ≠ 1 → ∀ p, H p = none → Q (.ref p) (upd H p (.tup (List.replicate k.toNat xs).flatten)))
theorem op_repT2 {X : Cx} : OpR X (binaryOp .Mult) (rRepT2 X.K) := by
  intro pins s σ H x y v u Q I rx ry h
  obtain ⟨l, k, xs, rfl, rfl, hT, hne, h1, h2, hz, q1, q2⟩ := h
  by_cases e2 : 2 ≤ k
  · exact op_repT pins s σ H _ _ v u Q I rx ry ⟨l, k, xs, rfl, rfl, hT, hne, e2, h2, hz, q2 (by omega)⟩
  cases rx
  obtain ⟨t, rfl⟩ := ry
  obtain ⟨its, r, ⟨⟨cls, dd, data, sl⟩, ho, hc, hn', hd⟩, hs⟩ := I.tuple hT
  simp only at hc hd
  subst hc hd
  have hle : its.length = xs.length := r.length.symm
  have hn : its ≠ [] := fun e => hne (by
    rw [e] at hle
    exact List.eq_nil_of_length_eq_zero hle.symm)
  have hi : its.toArray.isEmpty = false := by
    cases its with
    | nil => exact absurd rfl hn
    | cons a b => rfl
  by_cases e1 : k = 1
  · subst e1
    refine wpAny_binaryOp_repeat_ref (T := "tuple") (U := "int") (by decide) ⟨_, ho, rfl⟩ (fun s' => typeIs_int s' 1 t) noFill_tuple_mul F.fills_int_mul F.slot_int_rmul repeat_tuple F.slot_int_index.lookup
      (call_meets F.slot_int_rmul (typeIs_int s 1 t) F.entry_int_rmul (F.args_int_rmul_2 _ _) (int_rmul_tuple 1 t l its.toArray hn' dd sl)
        ⟨ho, rfl, ⟨_, ho, rfl⟩, call_meets F.slot_tuple_mul ⟨_, ho, rfl⟩ F.entry_tuple_mul (F.args_tuple_mul_2 _ _) (tuple_mul1 l its.toArray hn' dd sl t) ⟨ho, ?_⟩⟩)
    exact ⟨.ref l, H, I, rfl, q1 rfl⟩
  · have e0 : k = 0 := by omega
    subst e0
    refine wpAny_binaryOp_repeat_ref (T := "tuple") (U := "int") (by decide) ⟨_, ho, rfl⟩ (fun s' => typeIs_int s' 0 t) noFill_tuple_mul F.fills_int_mul F.slot_int_rmul repeat_tuple F.slot_int_index.lookup
      (call_meets F.slot_int_rmul (typeIs_int s 0 t) F.entry_int_rmul (F.args_int_rmul_2 _ _) (int_rmul_tuple 0 t l its.toArray hn' dd sl)
        ⟨ho, rfl, ⟨_, ho, rfl⟩, call_meets F.slot_tuple_mul ⟨_, ho, rfl⟩ F.entry_tuple_mul (F.args_tuple_mul_2 _ _) (tuple_mul0 l its.toArray hn' dd sl t hi) ⟨ho, ?_⟩⟩)
    refine ⟨.ref s.heap.objs.size, _, I.laid (t' := s.toks) (o := .tup (List.replicate (0 : Int).toNat xs).flatten) (fun b ob q => Heap.get?_push_of_some _ q) (Nat.le_refl _) ?_, rfl, q2 (by decide) _ (I.hok.fresh (Nat.le_refl _))⟩
    exact ⟨Nat.zero_le _, [], .nil, IsTup.new _ _⟩

/-! ### list + list, both only read -/
def rCat2 (K : PySem.W.Frag) : R2 := fun x y H Q => ∃ l b xs zs, x = .ref l ∧ y = .ref b ∧ SqL K H l xs ∧ SqL K H b zs ∧ xs.length + zs.length ≤ sizeLine ∧ ∀ p, H p = none → Q (.ref p) (upd H p (.lst (xs ++ zs)))
theorem op_cat2 {X : Cx} : OpR X (binaryOp .Add) (rCat2 X.K) := by
  intro pins s σ H x y v u Q I rx ry h
  obtain ⟨l, b, xs, zs, rfl, rfl, hH, hB, hz, q⟩ := h
  cases rx
  cases ry
  obtain ⟨its, r, p1, _⟩ := I.list hH
  obtain ⟨its2, r2, p2, _⟩ := I.list hB
  have l1 := r.length
  have l2 := r2.length
  obtain ⟨⟨cls, dd, data, sl⟩, ho, hc, n, hd⟩ := p1.isList
  obtain ⟨⟨cls2, dd2, data2, sl2⟩, ho2, hc2, n2, hd2⟩ := p2.isList
  simp only at hc hd hc2 hd2
  subst hc hd hc2 hd2
  have e : its.toArray ++ its2.toArray = (its ++ its2).toArray := by simp
  refine concat_meets ⟨_, ho, rfl⟩ ⟨_, ho2, rfl⟩ noFill_list_add seq_list_add PySem.F.slot_list_add PySem.F.entry_list_add (PySem.F.args_list_add_2 _ _) (list_addW l b its.toArray its2.toArray n n2 dd dd2 sl sl2 (by rw [List.size_toArray, List.size_toArray]; omega)) ⟨ho, ho2, ?_⟩
  rw [e]
  exact ⟨.ref _, _, I.lnew (t' := s.toks) (r.append r2) (by rw [List.length_append]; omega), rfl, q _ I.fresh⟩

/-! ### xs[lo::k], xs a list of ints: some of its ints -/
def tStep (K : PySem.W.Frag) (te tl ts : TE) : TE := fun σ H Q => te σ H fun x H1 => tl σ H1 fun y H2 => ∃ i : Int, y = .int i ∧ ts σ H2 fun z H3 => ∃ k : Int, z = .int k ∧ ∃ (a : Addr) (ns : List Int), x = .ref a ∧ SqL K H3 a (ns.map V.int) ∧ k ≠ 0 ∧
  ∀ (p : Addr) (ms : List Int), ms.length ≤ ns.length → H3 p = none → Q (.ref p) (upd H3 p (.lst (ms.map V.int)))
theorem vals_pick {ns : List Int} {its : List Value} (r : Vals (ns.map V.int) its) : ∀ js : List Nat, Vals ((js.filterMap (ns[·]?)).map V.int) (js.filterMap (its.toArray[·]?))
  | [] => .nil
  | j :: js => by
    have ih := vals_pick r js
    rw [List.filterMap_cons, List.filterMap_cons]
    cases e : ns[j]? with
    | none =>
      have e2 : its.toArray[j]? = none := by
        rw [List.getElem?_toArray]
        exact r.none_of (by rw [List.getElem?_map, e]; rfl)
      rw [e2]
      exact ih
    | some n =>
      obtain ⟨u, e2, ru⟩ := r.get (i := j) (x := .int n) (by rw [List.getElem?_map, e]; rfl)
      have e3 : its.toArray[j]? = some u := by rw [List.getElem?_toArray]; exact e2
      rw [e3]
      exact .cons ru ih
theorem pe_step {X : Cx} {e lo st : Expr} {te tl ts : TE} {p3 pos : Pos} (he : PE X e te) (hl : PE X lo tl) (hk : PE X st ts) : PE X (.Subscript e (.Slice (some lo) none (some st) p3) pos) (tStep X.K te tl ts) := by
  refine ⟨fun pins s σ H Q I h => ?_⟩
  refine Subscript_ (thn (he.run pins s σ H _ I h) fun v s1 ⟨x, H1, I1, r1, q1⟩ => ?_)
  refine wpAny_Slice (thn ((po_some hl).run pins s1 σ H1 (fun _ H2 => ts σ H2 fun z H3 => ∃ k : Int, z = .int k ∧ ∃ (a : Addr) (ns : List Int), x = .ref a ∧ SqL X.K H3 a (ns.map V.int) ∧ k ≠ 0 ∧
    ∀ (p : Addr) (ms : List Int), ms.length ≤ ns.length → H3 p = none → Q (.ref p) (upd H3 p (.lst (ms.map V.int)))) I1 q1) fun vl s2 ⟨l, H2, I2, pl, q2⟩ => ?_)
  refine thn (po_none.run pins s2 σ H2 (fun o H3 => o = none ∧ H3 = H2) I2 ⟨rfl, rfl⟩) fun vu s3 ⟨u, H3, I3, pu, eu, e3⟩ => ?_
  subst eu e3
  refine thn ((po_some hk).run pins s3 σ H3 (fun o H4 => ∃ k : Int, o = some k ∧ ∃ (a : Addr) (ns : List Int), x = .ref a ∧ SqL X.K H4 a (ns.map V.int) ∧ k ≠ 0 ∧
    ∀ (p : Addr) (ms : List Int), ms.length ≤ ns.length → H4 p = none → Q (.ref p) (upd H4 p (.lst (ms.map V.int)))) I3 ?_) fun vs s4 ⟨o, H4, I4, ps, k, eo, a, ns, ex, hx, hk0, q⟩ => ?_
  · show ts σ H3 fun z H4 => ∃ i : Int, z = .int i ∧ _
    have e : (fun (z : V) (H4 : Hp) => ∃ i : Int, z = .int i ∧ ∃ k : Int, some i = some k ∧ ∃ (a : Addr) (ns : List Int), x = .ref a ∧ SqL X.K H4 a (ns.map V.int) ∧ k ≠ 0 ∧
        ∀ (p : Addr) (ms : List Int), ms.length ≤ ns.length → H4 p = none → Q (.ref p) (upd H4 p (.lst (ms.map V.int)))) =
        (fun (z : V) (H4 : Hp) => ∃ k : Int, z = .int k ∧ ∃ (a : Addr) (ns : List Int), x = .ref a ∧ SqL X.K H4 a (ns.map V.int) ∧ k ≠ 0 ∧
        ∀ (p : Addr) (ms : List Int), ms.length ≤ ns.length → H4 p = none → Q (.ref p) (upd H4 p (.lst (ms.map V.int)))) := by
      funext z H4
      apply propext
      constructor
      · rintro ⟨i, e1, k, e2, r⟩
        cases e2
        exact ⟨i, e1, r⟩
      · rintro ⟨k, e1, r⟩
        exact ⟨k, e1, k, rfl, r⟩
    rw [e]
    exact q2
  subst eo ex
  cases r1
  have I5 : Inv X pins σ H4 { s4 with heap := s4.heap.push { cls := .type "slice", data := .fields #[vl, vu, vs] } } := I4.kept (t' := s4.toks) fun b ob q => Heap.get?_push_of_some _ q
  obtain ⟨its, r, ht, hz⟩ := I5.list hx
  have hlen := r.length
  show wpAny (model X.prog X.w) X.A (subscriptTail e (.Slice (some lo) none (some st) p3) (.ref a) (.ref s4.heap.objs.size)) (EP X pins σ Q) X.xe { s4 with heap := s4.heap.push { cls := .type "slice", data := .fields #[vl, vu, vs] } }
  refine tail_any (ops := [.ref a, .ref s4.heap.objs.size]) ht.isList.typeIs (PySem.slot_list_getitem.lookup) ?_ (by with_unfolding_all rfl)
  refine wpAny_getItem_list_slice ht.isList (Heap.IsSliceOf.new _ vl vu vs) pl pu ps (by simpa using hk0) ?_ (by rw [List.size_toArray]; omega)
  have hsz := slicePick_size_le its.toArray l none (some k)
  have hsz0 : its.toArray.size = its.length := List.size_toArray ..
  have hv : Vals ((((sliceRange (sliceBounds l none (some k) its.toArray.size).1 (sliceBounds l none (some k) its.toArray.size).2.1 (sliceBounds l none (some k) its.toArray.size).2.2).filterMap (ns[·]?))).map V.int) (slicePick its.toArray l none (some k)).toList := by
    unfold slicePick
    exact vals_pick r _
  generalize hms : ((sliceRange (sliceBounds l none (some k) its.toArray.size).1 (sliceBounds l none (some k) its.toArray.size).2.1 (sliceBounds l none (some k) its.toArray.size).2.2).filterMap (ns[·]?)) = ms at hv
  have hml : ms.length = (slicePick its.toArray l none (some k)).size := by
    have := hv.length
    rw [List.length_map] at this
    simpa using this
  rw [List.length_map] at hlen hz
  refine ⟨.ref _, _, I5.laid (t' := s4.toks) (o := .lst (ms.map V.int)) (fun b ob q => Heap.get?_push_of_some _ q) (Nat.le_refl _) ?_, rfl, q _ ms (by omega) (I5.hok.fresh (Nat.le_refl _))⟩
  exact ⟨by rw [List.length_map]; omega, _, 0, hv, by rw [Array.toArray_toList]; exact Heap.get?_push_size _ rfl⟩

/-! ### for i, x in enumerate(t), t a tuple -/
theorem meets_enumerate_newB1 {v : Value} {o : Obj} {H : Heap → Prop} (B : Begins v o H) :
    Meets (Builtin.«enumerate.__new__» ⟨[.type "enumerate", v], []⟩) (fun _ R s => H s.heap ∧
      R (.ok (.ret (.ref (s.heap.push o).objs.size))) { s with heap := (s.heap.push o).push { cls := .type "enumerate", data := .fields #[.none, .bool false, .ref s.heap.objs.size, rawInt 0, .none, .none] } }) :=
  .of_wp fun prog w A R s h => by
    obtain ⟨hp, g, d, tk, os⟩ := s; obtain ⟨h1, h⟩ := h
    have hsub := sub_enumerate
    have q1 : ∀ {A' : Around} {E : Value → Shared → Prop} {Q : Value → Shared → Prop}, Q (.ref hp.objs.size) ⟨hp.push o, g, d, tk, os⟩ → wpAny (model prog w) A' (pyIter v) Q E ⟨hp, g, d, tk, os⟩ :=
      fun q => B.iter prog w _ _ ⟨hp, g, d, tk, os⟩ _ h1 q
    wp_walk using q1
    refine wpAny_stack_any fun st => wpAny_pure ?_
    split
    · rename_i c _ _ _ _ _
      cases (c == Value.type "enumerate")
      · wp_walk using q1
        exact ⟨_, rfl, h⟩
      · wp_walk using q1
        exact ⟨_, rfl, h⟩
    · wp_walk using q1
      exact ⟨_, rfl, h⟩
theorem enum_begins1 {prog : Program} {w : World} {A : Around} {E : Value → Shared → Prop} {s : Shared} {v : Value} {o : Obj} {H : Heap → Prop} {Q : Value → Shared → Prop} (B : Begins v o H) (h1 : H s.heap)
    (h : ∀ h', IsEnum h' (s.heap.objs.size + 1) s.heap.objs.size 0 .none → h'.get? s.heap.objs.size = some o → h'.objs.size = s.heap.objs.size + 2 →
      (∀ b o, s.heap.get? b = some o → h'.get? b = some o) → Q (.ref (s.heap.objs.size + 1)) { s with heap := h' }) :
    wpAny (model prog w) A (call (.type "enumerate") [v]) Q E s := by
  refine callType_new F.called_enumerate (by decide) (F.typeCall_enumerate_1 _) (F.newCall_enumerate_1 _) (fun obj => F.args_object_init_2 obj _) F.entry_enumerate_new
    (meets_enumerate_newB1 B) ⟨h1, ?_⟩
  have hz : (s.heap.push o).objs.size = s.heap.objs.size + 1 := Heap.size_push ..
  show _ ∧ _
  rw [hz]
  have he : IsEnum ((s.heap.push o).push { cls := .type "enumerate", data := .fields #[.none, .bool false, .ref s.heap.objs.size, rawInt 0, .none, .none] }) (s.heap.objs.size + 1) s.heap.objs.size 0 .none := by
    have := Heap.get?_push_size (s.heap.push o) (o := { cls := .type "enumerate", data := .fields #[.none, .bool false, .ref s.heap.objs.size, rawInt 0, .none, .none] }) rfl
    rw [hz] at this; exact this
  refine ⟨⟨_, he, rfl⟩, h _ he (Heap.get?_push_of_some _ (Heap.get?_push_size _ B.free)) (by rw [Heap.size_push, hz]) fun b o x => Heap.get?_push_of_some _ (Heap.get?_push_of_some _ x)⟩
theorem pyNext_enumT_end {prog : Program} {w : World} {A : Around} {E : Value → Shared → Prop} {s : Shared} {e it a : Addr} {i : Nat} {c : Int} {items : Array Value} {old : Value} {Q : Option Value → Shared → Prop} (hh : A.handled = none)
    (he : IsEnum s.heap e it c old) (hit : s.heap.IsTupleIter it a i) (ht : s.heap.IsTuple a items) (hx : items[i]? = none)
    (hQ : ∀ h', Heap.ExtBut it s.heap h' → Q none { s with heap := h' }) : wpAny (model prog w) A (pyNext (.ref e)) Q E s := by
  have hT : s.TypeIs (.ref e) "enumerate" := ⟨_, he, rfl⟩
  unfold pyNext
  refine wpAny_bind (wpAny_attempt (wpAny_callSpecial?_slot (name := Str.ofString "__next__") hT F.slot_enumerate_next
    (wpAny_call_entry F.slot_enumerate_next hT F.entry_enumerate_next ?_ (F.args_enumerate_next_1 _))))
  show wpAny _ _ (field (.ref e) 2 >>= _) _ _ _
  refine wpAny_bind (wpAny_field he rfl (x := .ref it) rfl ?_)
  refine wpAny_bind (wpAny_nextOf_tuple_end (A := A.in1) hh hit ht hx fun h' x he' hx' => ?_)
  obtain ⟨o, ho, hc⟩ := hx'
  refine wpAny_bind (wpAny_isInstance (T := "StopIteration") (b := true) ⟨o, ho, hc⟩ isSubtype_stop ?_)
  exact wpAny_pure (hQ _ he')
def IteT (K : PySem.W.Frag) (a : Addr) : It :=
  ⟨fun i H => ∃ (xs : List V) (x : V), SqT K H a xs ∧ xs[i]? = some x, fun i H v H' => ∃ T x, v = .ref T ∧ H T = none ∧ H' = upd H T (.tup [.int (i : Nat), x]) ∧ ∀ xs, SqT K H a xs → xs[i]? = some x, fun i H => ∃ xs : List V, SqT K H a xs ∧ xs.length ≤ i⟩
theorem turn_enumT {P : Program} {w : World} {K : PySem.W.Frag} {elts : List Expr} {kk : Nat} {tpos : Pos} (a e it : Addr) (hai : a ≠ it) (hea : e ≠ a) :
    Turn P w K (.Tuple elts kk tpos) (IteT K a) [e, it] e (fun i h => (∃ old, IsEnum h e it ((i : Nat) : Int) old) ∧ h.IsTupleIter it a i ∧ e ≠ it) where
  mem := by simp
  obj := fun i h st b hb => by
    obtain ⟨⟨old, he⟩, ⟨o, ho, hc, hd⟩, _⟩ := st
    have e' : b = e ∨ b = it := by simpa using hb
    rcases e' with z | z
    · rw [z]; exact ⟨_, he, fun v q => nomatch q⟩
    · rw [z]; exact ⟨o, ho, fun v q => by rw [hd] at q; cases q⟩
  keep := fun i h h' st k => let ⟨⟨old, he⟩, hi, hne⟩ := st; ⟨⟨old, k e (by simp) _ he⟩, hi.at fun o q => k it (by simp) o q, hne⟩
  item := by
    intro X hP hw hK hc i pins s σ H E I hf st hg
    subst hP hw hK
    obtain ⟨⟨old, he⟩, hit, hne⟩ := st
    obtain ⟨xs, x, hq, hx⟩ := hg
    obtain ⟨its, rv, p, hz⟩ := I.tuple hq
    obtain ⟨u, hu, ru⟩ := rv.get hx
    have hel : e < s.heap.objs.size := Heap.lt_size he
    have hil : it < s.heap.objs.size := by obtain ⟨_, q, _⟩ := hit; exact Heap.lt_size q
    have hlt : i < its.toArray.size := by
      have := (List.getElem?_eq_some_iff.mp hu).1
      rw [List.size_toArray]; exact this
    refine wpAny_pyNext_enum_itemC (Draws.tuple (prog := X.prog) (w := X.w) (A := X.A.in1) (I.ok.hd hc) it a hai its.toArray) he ⟨hit, isTup_isTuple p⟩ hlt hne (by simp [hne, hea]) fun x' h' tk hx' ho hst' hT hsz hk => ?_
    have ex : x' = u := by
      have hx2 : its.toArray[i]? = some x' := hx'
      rw [List.getElem?_toArray, hu] at hx2
      exact (Option.some.inj hx2).symm
    subst ex
    refine ⟨_, rfl, wpAny_letOwnedTupleGo_enum (s := { s with heap := h', toks := tk + 1 }) ho fun h'' he' sb => ?_⟩
    have hT2 : h''.get? s.heap.objs.size = some { cls := .type "tuple", data := .seq #[.int i tk, x'] } := (sb.2 _ (Nat.ne_of_gt hel)).trans hT
    have new : ObjOk X.prog X.w (upd H s.heap.objs.size (.tup [.int (i : Nat), x])) h'' s.heap.objs.size (.tup [.int (i : Nat), x]) :=
      ⟨by show 2 ≤ sizeLine; decide, [.int i tk, x'], .cons ⟨_, rfl⟩ (.cons ru .nil), ⟨_, hT2, rfl, _, rfl⟩⟩
    have I1 : Inv X pins σ (upd H s.heap.objs.size (.tup [.int (i : Nat), x])) { s with heap := h'', toks := tk + 1 } :=
      I.turnedNew (ch := [e, it]) (fun b ob hb q => (sb.2 b (fun z => hb (by simp [z]))).trans (hk b ob (fun z => hb (by simp [z])) (fun z => hb (by simp [z])) q)) hf (Nat.le_refl _) new
    refine ⟨.ref s.heap.objs.size, _, I1, rfl, ⟨_, x, rfl, I.hok.fresh (Nat.le_refl _), rfl, fun ys hy => by rw [I.tuple_inj hy hq]; exact hx⟩, ⟨⟨x', ?_⟩, hst'.1.at fun o q => (sb.2 it (Ne.symm hne)).trans q, hne⟩, fun b hb => ?_⟩
    · have e1 : ((i + 1 : Nat) : Int) = (i : Int) + 1 := by omega
      rw [e1]; exact he'
    · have hb' : b < s.heap.objs.size := by
        have e' : b = e ∨ b = it := by simpa using hb
        rcases e' with z | z
        · rw [z]; exact hel
        · rw [z]; exact hil
      rw [upd_ne (Nat.ne_of_lt hb')]
      exact (hf b hb).1
  done := by
    intro X hP hw hK hc i pins s σ H E I hf st hg
    subst hP hw hK
    obtain ⟨⟨old, he⟩, hit, hne⟩ := st
    obtain ⟨xs, hq, hx⟩ := hg
    obtain ⟨its, rv, p, hz⟩ := I.tuple hq
    obtain ⟨f0, f1, f2, f3, f4, f5⟩ := hf it (by simp)
    have hl := rv.length
    exact pyNext_enumT_end (I.ok.hd hc) he hit (isTup_isTuple p) (by rw [List.getElem?_toArray, List.getElem?_eq_none_iff]; omega) fun h' eb => ⟨rfl, I.turned (t' := s.toks) (fun b o hb q => eb b o hb q) f0 f1 f3 f4 f5⟩
  self := fun A i s Q E st h => let ⟨⟨_, he⟩, _⟩ := st; wpAny_pyIter_enum he h
def iEnumT (K : PySem.W.Frag) (ta : TA) : TI := fun σ H R => ta σ H fun vs H1 => ∃ a xs, vs = [.ref a] ∧ SqT K H1 a xs ∧ R (IteT K a) H1
theorem pi_enumT {X : Cx} {e : Expr} {ta : TA} {p pos tpos : Pos} {elts : List Expr} {kk : Nat} (hg : Gl X "enumerate") (hm : X.mg "enumerate" = none) (ha : PA X [e] ta) (hs : starEach [e] X.env = [(false, eval e X.env)] := by rfl) :
    PI X (.Tuple elts kk tpos) (.Call (.Name "enumerate" p) [e] [] pos) (iEnumT X.K ta) := by
  refine ⟨fun pins s σ H R I h => ?_⟩
  refine Call_ (ld_blt I hg hm boot_enumerate (PyProof.Rows.callWith_type1 (thn (ha.run pos pins s σ H _ I h) fun us s1 ⟨vs, H1, I1, r1, q1⟩ => ?_) hs rfl))
  obtain ⟨a, xs, ex, hq, q⟩ := q1
  subst ex
  cases r1 with
  | cons r rr =>
    cases rr
    cases r
    obtain ⟨its, rv, p', hz⟩ := I1.tuple hq
    refine enum_begins1 (begins_tuple a its.toArray) (isTup_isTuple p') fun h' he hit hsz hk => wpAny_pyIter_enum he ?_
    have I2 : Inv X pins σ H1 { s1 with heap := h' } := I1.kept (t' := s1.toks) hk
    have hlt : a < s1.heap.objs.size := p'.lt
    refine ⟨s1.heap.objs.size + 1, [s1.heap.objs.size + 1, s1.heap.objs.size], _, _, H1, rfl, I2, turn_enumT a (s1.heap.objs.size + 1) s1.heap.objs.size (Nat.ne_of_lt hlt) (Nat.ne_of_gt (Nat.lt_succ_of_lt hlt)), ⟨⟨.none, he⟩, ⟨_, hit, rfl, rfl⟩, Nat.succ_ne_self _⟩, fun b hb => ?_, q⟩
    have e' : b = s1.heap.objs.size + 1 ∨ b = s1.heap.objs.size := by simpa using hb
    have hle : s1.heap.objs.size ≤ b := by
      rcases e' with z | z
      · rw [z]; exact Nat.le_add_right _ _
      · rw [z]; exact Nat.le_refl _
    exact I1.fpOk hle (I1.hok.fresh hle)
theorem walk_enumT {K : PySem.W.Frag} {a : Addr} {xs : List V} : Walk (IteT K a) xs.length (fun H => H a = some (.tup xs)) (YPair (fun i => some (.int (i : Nat))) (fun i => xs[i]?)) :=
  ⟨fun i H hi hg => ⟨xs, xs[i], SqT.of hg, List.getElem?_eq_getElem hi⟩, fun H hg => ⟨xs, SqT.of hg, Nat.le_refl _⟩, fun i H x H' hi hg y => by
    obtain ⟨T, x', e1, e2, e3, e4⟩ := y
    exact ⟨T, .int (i : Nat), x', e1, e2, e3, rfl, e4 xs (SqT.of hg)⟩⟩

end ER

/-! sorted(xs, reverse=True) of a list of terms. -/
namespace ER
open PySem PySem.Spec PyProof.Rows L2

abbrev nV (n : Nat) : V := .int (n : Int)
/-- a term at t: a tuple of a tuple of ints and an int -/
def TermAt (H : Hp) (t : Addr) (m : List Nat × Int) : Prop := ∃ p, H t = some (.tup [.ref p, .int m.2]) ∧ H p = some (.tup (m.1.map nV))
theorem TermAt.same {H H' : Hp} {t : Addr} {m : List Nat × Int} (h : TermAt H t m) (s : Same H H') : TermAt H' t m := let ⟨p, a, b⟩ := h; ⟨p, s _ _ a, s _ _ b⟩
def encI (ns : List Nat) : List PyData := ns.map fun n : Nat => PyData.int (n : Int)
def encT (m : List Nat × Int) : PyData := .tuple [.tuple (encI m.1), .int m.2]
theorem dp_ints {K : PySem.W.Frag} {H : Hp} : ∀ ns : List Nat, DpAll K H (ns.map nV) (encI ns)
  | [] => .nil
  | n :: ns => .cons (.int _) (dp_ints ns)
theorem dp_term {K : PySem.W.Frag} {H : Hp} {t : Addr} {m : List Nat × Int} (h : TermAt H t m) : Dp K H (.ref t) (encT m) := by
  obtain ⟨p, a, b⟩ := h
  exact .tup (SqT.of a) (.cons (.tup (SqT.of b) (dp_ints m.1)) (.cons (.int _) .nil))
theorem alike_encI : ∀ xs ys : List Nat, PySem.W.alikeAll (encI xs) (encI ys) = true
  | [], _ => by simp [encI, PySem.W.alikeAll]
  | _ :: _, [] => by simp [encI, PySem.W.alikeAll]
  | x :: xs, y :: ys => by
    show PySem.W.alikeAll (.int x :: encI xs) (.int y :: encI ys) = true
    rw [PySem.W.alikeAll, alike_encI xs ys]
    simp [PySem.W.alike]
theorem alike_encT (a b : List Nat × Int) : PySem.W.alike (encT a) (encT b) = true := by
  unfold encT
  simp [PySem.W.alike, PySem.W.alikeAll, alike_encI]
theorem depth_encI : ∀ xs : List Nat, PyData.depthAll (encI xs) = 0
  | [] => by simp [encI, PyData.depthAll]
  | x :: xs => by
    show PyData.depthAll (.int x :: encI xs) = 0
    rw [PyData.depthAll, depth_encI xs]
    simp [PyData.depth]
theorem depth_encT (a : List Nat × Int) : (encT a).depth ≤ 2 := by
  unfold encT
  simp [PyData.depth, PyData.depthAll, depth_encI]
/-- the terms of a list, told by their addresses -/
abbrev TermsAt (H : Hp) : List Addr → List (List Nat × Int) → Prop := Paired (TermAt H)
theorem TermsAt.same {H H' : Hp} (s : Same H H') {ts : List Addr} {ms : List (List Nat × Int)} (h : TermsAt H ts ms) : TermsAt H' ts ms := Paired.mapP h fun _ _ x => x.same s
def rSortT (K : PySem.W.Frag) : List V → List V → Hp → VK → Prop := fun vs zs H Q => ∃ (a : Addr) (ts : List Addr) (ms : List (List Nat × Int)), vs = [V.ref a] ∧ zs = [.bl true] ∧ SqL K H a (ts.map V.ref) ∧ TermsAt H ts ms ∧
  ∀ (p : Addr) (ts' : List Addr) (ms' : List (List Nat × Int)), ms'.Perm ms → TermsAt H ts' ms' → H p = none → Q (.ref p) (upd H p (.lst (ts'.map V.ref)))
theorem each_refs {H : Hp} {R : Value → (List Nat × Int) → Prop} (hR : ∀ t m, TermAt H t m → R (.ref t) m) : ∀ {ts : List Addr} {ms : List (List Nat × Int)}, TermsAt H ts ms → PySem.W.EachIs R (ts.map Value.ref) ms
  | _, _, .nil => .nil
  | _, _, .cons h t => .cons (hR _ _ h) (each_refs hR t)
theorem of_each {H : Hp} : ∀ {us : List Value} {ms : List (List Nat × Int)}, PySem.W.EachIs (fun v m => ∃ t, v = Value.ref t ∧ TermAt H t m) us ms → ∃ ts : List Addr, us = ts.map Value.ref ∧ TermsAt H ts ms
  | _, _, .nil => ⟨[], rfl, .nil⟩
  | _, _, .cons ⟨t, e, h⟩ r => by
    obtain ⟨ts, e2, h2⟩ := of_each r
    exact ⟨t :: ts, by rw [e, e2]; rfl, .cons h h2⟩
theorem vals_refs : ∀ ts : List Addr, Vals (ts.map V.ref) (ts.map Value.ref)
  | [] => .nil
  | t :: ts => .cons rfl (vals_refs ts)
theorem cr_sortT {X : Cx} (hu : X.A.units + 64 < cLine) : CallRK X (.builtin "sorted") [Str.ofString "reverse"] (rSortT X.K) := by
  intro pins s σ H xs zs us ws Q I r rz q
  obtain ⟨a, ts, ms, ex, ez, hs, ht, q⟩ := q
  subst ex ez
  obtain ⟨u, eu, rx⟩ := vals1 r
  subst eu
  cases rx
  obtain ⟨w', ew, rw'⟩ := vals1 rz
  subst ew
  cases rw'
  obtain ⟨its, rv, hl, hz⟩ := I.list hs
  have ei := refs_at rv
  subst ei
  have hlen : ts.length = ms.length := Paired.length ht
  rw [List.length_map] at hz
  show wpAny (model X.prog X.w) X.A (call (.builtin "sorted") [.ref a] [(Str.ofString "reverse", .bool true)]) (EP X pins σ Q) X.xe s
  refine PySem.W.sorted_rev_data (R := fun v m => ∃ t, v = Value.ref t ∧ TermAt H t m) (enc := encT) (bs := ms) hl.isList (each_refs (fun t m h => ⟨t, rfl, h⟩) ht) (each_refs (fun t m h => ?_) ht)
    (PySem.W.AllAlike.of alike_encT) (PySem.W.Sortable.tuples fun m => ⟨_, _, rfl⟩) (by omega) (fun b _ => by have := depth_encT b; omega) fun out ho he => ?_
  · exact Dp.reads I (encT m) (.ref t) (.ref t) (dp_term h) rfl
  · obtain ⟨ts', e', ht'⟩ := of_each he
    subst e'
    obtain ⟨ep, he'⟩ := PyProof.Rows.sortedAll_at s.heap (ts.map Value.ref) (ts'.map Value.ref).toArray
    rw [List.length_map] at ho
    refine ⟨.ref _, upd H (s.heap.objs.size + 1) (.lst (ts'.map V.ref)), I.laid (t' := s.toks) (fun _ _ => PyProof.Rows.sortedAll_old) (Nat.le_succ _) ⟨by rw [List.length_map]; omega, _, ep, vals_refs ts', he'⟩, rfl, q _ ts' _ (List.mergeSort_perm ..) ht' (I.hok.fresh (Nat.le_succ _))⟩
end ER

/-! The text by places; a def with its promise, called; what a value is known to be. -/
namespace ED
open PySem PySem.Spec PyProof.Rows L2 ER EM

def top (i : Nat) : Stmt := PySem.Challenge.pw_everydraw_k16_whole_rules_at_places.main.body.getD i (.Pass ⟨0, 0, 0, 0⟩)

/-- what the built-in names are: not bound by the module -/
structure Bi (mg : Str → Option Value) : Prop where
  abs : mg "abs" = none
  len : mg "len" = none
  sorted : mg "sorted" = none
  dict : mg "dict" = none
  tuple : mg "tuple" = none
  list : mg "list" = none
  zip : mg "zip" = none
  range : mg "range" = none
  enumerate : mg "enumerate" = none
/-- a def of the text, under its name -/
def Raw (K : PySem.W.Frag) (mg : Str → Option Value) (x : Str) (st : Stmt) : Prop := ∃ f fd, Fun K x x st f fd ∧ mg x = some (.ref f)
/-- a def that keeps a promise, to be called by its name -/
def Def (P : Program) (w : World) (K : PySem.W.Frag) (mg : Str → Option Value) (base : Heap) (x : Str) (k : Nat) (ps : List Str) (sp : Sp) : Prop :=
  ∃ f fd, FnOk P w K mg base CX0 k f fd ps sp ∧ mg x = some (.ref f) ∧ PySem.W.keepIn K (.ref f) = true ∧ Binds K fd ps []
section
variable {P : Program} {w : World} {K : PySem.W.Frag} {mg : Str → Option Value} {base : Heap}
/-- THE RULE of a def of the text -/
theorem def_mk {x : Str} {st : Stmt} {N ps : List Str} {k : Nat} {sp : Sp} (R : Raw K mg x st) (S : FnScope N ps (defScope st)) (len : ∀ vs H Q E, sp vs H Q E → vs.length = ps.length)
    (hb : ∀ (kV doc pm : Value) (an : Option Addr) (cdv ct : Value) (us : List Value), us.length = ps.length → bindArgs (PySem.W.fnOf x x (defArgs st) (defBody st) (defScope st) .none kV doc pm an cdv ct) ⟨us, []⟩ = pure (ps.zip us))
    (body : ∀ (f : Addr) (cdv : Value) (A : Around) (outer : List Env) (s : Shared) (H : Hp) (vs : List V) (Q : VK) (E : XK), Room k (A.deeper (envOfC x (defScope st) s.heap.objs.size f cdv)) → sp vs H Q E →
      ∃ t, PSs (cxOf CX0 P w K mg base N x (defScope st) f cdv A outer s H E).nox (defBody st) t ∧ t { nx := fun _ H' => Q .non H', rt := Q } (start N vs) H) : Def P w K mg base x (k + 1) ps sp := by
  obtain ⟨f, fd, F, g⟩ := R
  exact ⟨f, fd, F.ok S len (fun cdv A outer s H vs Q E hr h => body f cdv A outer s H vs Q E hr h), g, F.kp, F.binds hb⟩
end
section
variable {X : Cx} {x : Str} {k n : Nat} {ps : List Str} {sp : Sp} {p pos : Pos} {e : Expr} {es : List Expr} {t : TA}
theorem pe_def (D : Def X.prog X.w X.K X.mg X.base x k ps sp) (hr : Room n X.A) (hg : Gl X x) (ha : PA X (e :: es) t) (hkn : k ≤ n := by decide) (hdb : (x == ("__debug__" : Str)) = false := by decide)
    (he : starEach (e :: es) X.env = (false, eval e X.env) :: starEach es X.env := by rfl) (hpl : (backTo pos (starEach es X.env)).any (·.1) = false := by rfl) : PE X (.Call (.Name x p) (e :: es) [] pos) (tCall sp [] E0 t) := by
  obtain ⟨f, fd, F, g, kp, b⟩ := D
  exact pe_call F (hr.mono hkn) hg g kp b .nil pass0 ha hdb he hpl
end
/-- a plain local name as a target -/
theorem pg_loc {X : Cx} {i : Nat} {x : Str} {pos : Pos} (hN : X.N.Nodup) (hi : X.N[i]? = some x) (hx : X.env.scope.names.lookup x = some .local) : PG X (.Name x pos) (gName i) := pg_name hN hi (.inl hx) (.inr hx)
/-- two plain local names as a target, in a comprehension's block -/
theorem pg_pair {X : Cx} {K : PySem.W.Frag} {x y : Str} {p1 p2 pos : Pos} {k i j : Nat} (hK : X.K = K) (hc : X.calm = true) (hN : X.N.Nodup) (hi : X.N[i]? = some x) (hx : X.env.scope.names.lookup x = some .local) (hj : X.N[j]? = some y) (hy : X.env.scope.names.lookup y = some .local) :
    PG X (.Tuple [.Name x p1, .Name y p2] k pos) (gTup K 2 (gCons (gName i) (gCons (gName j) gNil))) := by
  subst hK
  exact pg_tup hc (pgs_cons (pg_loc hN hi hx) (pgs_cons (pg_loc hN hj hy) pgs_nil))
/-! ### what is known of a value, and stays known -/
abbrev Pd := V → Hp → Prop
def Stb (P : Pd) : Prop := ∀ v H H', Same H H' → P v H → P v H'
/-- te gives a value of which P is known, and all that stood stands -/
def Ev (te : TE) (σ : L2.St) (H : Hp) (P : Pd) : Prop := ∀ H1, Same H H1 → ∀ Q : VK, (∀ v H2, Same H1 H2 → P v H2 → Q v H2) → te σ H1 Q
def IsI (i : Int) : Pd := fun v _ => v = .int i
def IsB (b : Bool) : Pd := fun v _ => v = .bl b
theorem stb_i (i : Int) : Stb (IsI i) := fun _ _ _ _ h => h
theorem stb_b (b : Bool) : Stb (IsB b) := fun _ _ _ _ h => h
/-- a fraction: the tuple of its top and its bottom -/
def FrV (q : Rat) : Pd := fun v H => ∃ a, v = .ref a ∧ H a = some (.tup [.int q.num, .int (q.den : Int)])
theorem stb_fr (q : Rat) : Stb (FrV q) := fun _ _ _ s ⟨a, e, h⟩ => ⟨a, e, s _ _ h⟩
section
variable {σ : L2.St} {H H' : Hp} {P P1 P2 : Pd} {ta tb te : TE} {v : V}
theorem Ev.same (h : Ev te σ H P) (s : Same H H') : Ev te σ H' P := fun H1 s1 Q q => h H1 (s.trans s1) Q q
theorem ev_var {i : Nat} (h : σ[i]? = some (some v)) (st : Stb P) (p : P v H) : Ev (tVar i) σ H P := fun H1 s1 Q q => ⟨v, h, q v H1 (Same.refl _) (st _ _ _ s1 p)⟩
theorem ev_c (st : Stb P) (p : P v H) : Ev (tC v) σ H P := fun H1 s1 Q q => q v H1 (Same.refl _) (st _ _ _ s1 p)
theorem ev_int (i : Int) : Ev (tC (.int i)) σ H (IsI i) := ev_c (stb_i i) rfl
/-- two operands, then what the operation asks -/
theorem ev_op {r : R2} (ha : Ev ta σ H P1) (hb : Ev tb σ H P2) (st : Stb P1) (hr : ∀ x y H1, Same H H1 → P1 x H1 → P2 y H1 → ∀ Q : VK, (∀ v H2, Same H1 H2 → P v H2 → Q v H2) → r x y H1 Q) : Ev (tOp r ta tb) σ H P := by
  intro H1 s1 Q q
  refine ha H1 s1 _ fun x H2 s2 p2 => ?_
  refine hb H2 (s1.trans s2) _ fun y H3 s3 p3 => ?_
  exact hr x y H3 ((s1.trans s2).trans s3) (st _ _ _ s3 p2) p3 Q fun v H4 s4 p4 => q v H4 (s2.trans (s3.trans s4)) p4
theorem ev_un {r : V → Hp → VK → Prop} (ha : Ev ta σ H P1) (hr : ∀ x H1, Same H H1 → P1 x H1 → ∀ Q : VK, (∀ v H2, Same H1 H2 → P v H2 → Q v H2) → r x H1 Q) : Ev (tUn r ta) σ H P := by
  intro H1 s1 Q q
  refine ha H1 s1 _ fun x H2 s2 p2 => ?_
  exact hr x H2 (s1.trans s2) p2 Q fun v H4 s4 p4 => q v H4 (s2.trans s4) p4
theorem ev_I0 {g : Int → Int → Int} {i j : Int} (ha : Ev ta σ H (IsI i)) (hb : Ev tb σ H (IsI j)) : Ev (tOp (rI0 fun i j => .int (g i j)) ta tb) σ H (IsI (g i j)) :=
  ev_op ha hb (stb_i i) fun x y H1 _ e1 e2 Q q => ⟨i, j, e1, e2, q _ _ (Same.refl _) rfl⟩
theorem ev_IC {C : Int → Int → Prop} {g : Int → Int → Int} {i j : Int} (ha : Ev ta σ H (IsI i)) (hb : Ev tb σ H (IsI j)) (hc : C i j) : Ev (tOp (rI C fun i j => .int (g i j)) ta tb) σ H (IsI (g i j)) :=
  ev_op ha hb (stb_i i) fun x y H1 _ e1 e2 Q q => ⟨i, j, e1, e2, hc, q _ _ (Same.refl _) rfl⟩
/-- a comparison of ints -/
theorem ev_cmpI {g : Int → Int → Bool} {i j : Int} (ha : Ev ta σ H (IsI i)) (hb : Ev tb σ H (IsI j)) : Ev (tOp (rI0 fun i j => .bl (g i j)) ta tb) σ H (IsB (g i j)) :=
  ev_op ha hb (stb_i i) fun x y H1 _ e1 e2 Q q => ⟨i, j, e1, e2, q _ _ (Same.refl _) rfl⟩
theorem ev_eqI {i j : Int} (ha : Ev ta σ H (IsI i)) (hb : Ev tb σ H (IsI j)) : Ev (tOp rEq ta tb) σ H (IsB (decide (i = j))) :=
  ev_op ha hb (stb_i i) fun x y H1 _ e1 e2 Q q => by
    cases e1; cases e2
    refine ⟨rfl, q _ _ (Same.refl _) ?_⟩
    show V.bl _ = V.bl _
    congr 1
    exact decide_eq_decide.mpr ⟨fun e => V.int.inj e, fun e => by rw [e]⟩
theorem ev_neI {i j : Int} (ha : Ev ta σ H (IsI i)) (hb : Ev tb σ H (IsI j)) : Ev (tOp rNe ta tb) σ H (IsB (!decide (i = j))) :=
  ev_op ha hb (stb_i i) fun x y H1 _ e1 e2 Q q => by
    cases e1; cases e2
    refine ⟨rfl, q _ _ (Same.refl _) ?_⟩
    show V.bl _ = V.bl _
    congr 2
    exact decide_eq_decide.mpr ⟨fun e => V.int.inj e, fun e => by rw [e]⟩
/-- the top, the bottom of a fraction -/
theorem ev_num {K : PySem.W.Frag} {q : Rat} (ha : Ev ta σ H (FrV q)) (hb : Ev tb σ H (IsI 0)) : Ev (tOp (rIxT K) ta tb) σ H (IsI q.num) :=
  ev_op ha hb (stb_fr q) fun x y H1 _ ⟨a, e1, h⟩ e2 Q qq => ⟨a, _, 0, _, e1, e2, SqT.of h, rfl, qq _ _ (Same.refl _) rfl⟩
theorem ev_den {K : PySem.W.Frag} {q : Rat} (ha : Ev ta σ H (FrV q)) (hb : Ev tb σ H (IsI 1)) : Ev (tOp (rIxT K) ta tb) σ H (IsI (q.den : Int)) :=
  ev_op ha hb (stb_fr q) fun x y H1 _ ⟨a, e1, h⟩ e2 Q qq => ⟨a, _, 1, _, e1, e2, SqT.of h, rfl, qq _ _ (Same.refl _) rfl⟩
theorem ev_call1 {sp : Sp} (ha : Ev ta σ H P1) (hs : ∀ x H1, Same H H1 → P1 x H1 → ∀ Q : VK, (∀ v H2, Same H1 H2 → P v H2 → Q v H2) → sp [x] H1 Q E0) : Ev (tCall sp [] E0 (tCons ta tNil)) σ H P := by
  intro H1 s1 Q q
  refine ha H1 s1 _ fun x H2 s2 p2 => ?_
  exact hs x H2 (s1.trans s2) p2 Q fun v H4 s4 p4 => q v H4 (s2.trans s4) p4
theorem ev_call2 {sp : Sp} (ha : Ev ta σ H P1) (hb : Ev tb σ H P2) (st : Stb P1) (hs : ∀ x y H1, Same H H1 → P1 x H1 → P2 y H1 → ∀ Q : VK, (∀ v H2, Same H1 H2 → P v H2 → Q v H2) → sp [x, y] H1 Q E0) : Ev (tCall sp [] E0 (tCons ta (tCons tb tNil))) σ H P := by
  intro H1 s1 Q q
  refine ha H1 s1 _ fun x H2 s2 p2 => ?_
  refine hb H2 (s1.trans s2) _ fun y H3 s3 p3 => ?_
  exact hs x y H3 ((s1.trans s2).trans s3) (st _ _ _ s3 p2) p3 Q fun v H4 s4 p4 => q v H4 (s2.trans (s3.trans s4)) p4
theorem ev_call3 {sp : Sp} {tc : TE} {P3 : Pd} (ha : Ev ta σ H P1) (hb : Ev tb σ H P2) (hc : Ev tc σ H P3) (st : Stb P1) (st2 : Stb P2) (hs : ∀ x y z H1, Same H H1 → P1 x H1 → P2 y H1 → P3 z H1 → ∀ Q : VK, (∀ v H2, Same H1 H2 → P v H2 → Q v H2) → sp [x, y, z] H1 Q E0) :
    Ev (tCall sp [] E0 (tCons ta (tCons tb (tCons tc tNil)))) σ H P := by
  intro H1 s1 Q q
  refine ha H1 s1 _ fun x H2 s2 p2 => ?_
  refine hb H2 (s1.trans s2) _ fun y H3 s3 p3 => ?_
  refine hc H3 ((s1.trans s2).trans s3) _ fun z H4 s4 p4 => ?_
  exact hs x y z H4 (((s1.trans s2).trans s3).trans s4) (st _ _ _ (s3.trans s4) p2) (st2 _ _ _ s4 p3) p4 Q fun v H5 s5 p5 => q v H5 (s2.trans (s3.trans (s4.trans s5))) p5
/-! statements -/
variable {D : Ends} {tz tu tw : TS}
theorem s_ret (h : Ev te σ H P) (k : ∀ v H1, Same H H1 → P v H1 → D.rt v H1) : tRet te D σ H := h H (Same.refl _) _ k
theorem s_set {i : Nat} (h : Ev te σ H P) (k : ∀ v H1, Same H H1 → P v H1 → tz D (σ.set i (some v)) H1) : tSeq (tAsg te (gName i)) tz D σ H := h H (Same.refl _) _ k
theorem s_if {b : Bool} (h : Ev te σ H (IsB b)) (h1 : b = true → ∀ H1, Same H H1 → tu { D with nx := tz D } σ H1) (h2 : b = false → ∀ H1, Same H H1 → tw { D with nx := tz D } σ H1) : tSeq (tIfS (tTest te) tu tw) tz D σ H := by
  refine h H (Same.refl _) _ fun v H1 s1 e => ⟨b, e, ?_⟩
  cases b with
  | true => exact iteT (h1 rfl H1 s1)
  | false => exact iteF (h2 rfl H1 s1)
end
end ED

/-! The defs of fractions. -/
namespace ED
open PySem PySem.Spec PyProof.Rows L2 ER EM

section
variable {P : Program} {w : World} {K : PySem.W.Frag} {mg : Str → Option Value} {base : Heap}
/-! ### common -/
abbrev s_common : Stmt := top 5
theorem sc_common : FnScope ["one", "other"] ["one", "other"] (defScope s_common) := ⟨rfl, rfl, rfl, by decide +kernel, rfl, by decide +kernel, by decide +kernel⟩
def sp_common : Sp := fun vs H Q _ => ∃ a b : Int, vs = [.int a, .int b] ∧ ∀ H', Same H H' → Q (.int (Int.gcd a b : Nat)) H'
theorem ok_common (R : Raw K mg "common" s_common) (B : Bi mg) : Def P w K mg base "common" 1 ["one", "other"] sp_common := by
  refine def_mk R sc_common (fun vs H Q E h => ?_) (fun _ _ _ _ _ _ us hl => match us, hl with | [_, _], _ => rfl) (fun f cdv A outer s H vs Q E hr h => ?_)
  · obtain ⟨a, b, rfl, _⟩ := h
    rfl
  obtain ⟨a, b, rfl, k⟩ := h
  refine ⟨_, (pss_cons (ps_while PassesOwn.never (pt_cmpR op_ne (pv 1) pe_int (nomark _)) (pss_one (ps_par (i := 0) (j := 1) (by rfl) sc_common.nd rfl rfl (by decide) rfl rfl (pa_cons (pv 1) (pa_cons (pe_op op_modN (pv 0) (pv 1)) pa_nil)) (by rfl))))
      (pss_one (ps_ret (pe_callB call_abs (by rfl) B.abs (by decide +kernel) (pa_cons (pv 0) pa_nil))))), ?_⟩
  refine ⟨fun m σ H' => ∃ a' b' : Int, σ = [some (.int a'), some (.int b')] ∧ H' = H ∧ Int.gcd a' b' = Int.gcd a b ∧ b'.natAbs = m, ⟨_, a, b, rfl, rfl, rfl, rfl⟩, ?_⟩
  rintro m σ H' ⟨a', b', rfl, rfl, hg, hm⟩
  refine ⟨_, rfl, rfl, _, rfl, ?_⟩
  by_cases e : b' = 0
  · subst e
    refine iteF ?_
    refine ⟨_, rfl, a', rfl, ?_⟩
    rw [abs_gcd, hg]
    exact k _ (Same.refl _)
  · have e2 : (!decide (V.int b' = V.int 0)) = true := by
      rw [decide_eq_false (fun q => e (V.int.inj q))]; rfl
    rw [e2]
    refine iteT ⟨fun σ' H'' => ∃ m', m' < m ∧ ∃ a'' b'' : Int, σ' = [some (.int a''), some (.int b'')] ∧ H'' = H' ∧ Int.gcd a'' b'' = Int.gcd a b ∧ b''.natAbs = m', fun σ' H'' q => q, ?_⟩
    refine ⟨_, rfl, _, rfl, _, rfl, a', b', rfl, rfl, e, _, _, rfl, ?_⟩
    exact ⟨_, by rw [← hm]; exact fmod_less a' e, b', _, rfl, rfl, by rw [gcd_step]; exact hg, rfl⟩
/-! ### fraction_of -/
abbrev s_fraction_of : Stmt := top 6
theorem sc_fraction_of : FnScope ["top", "bottom", "by"] ["top", "bottom"] (defScope s_fraction_of) := ⟨rfl, rfl, rfl, by decide +kernel, rfl, by decide +kernel, by decide +kernel⟩
/-- a fraction is told, of numbers below 2 ^ 8900 -/
def sp_fraction_of : Sp := fun vs H Q _ => ∃ (t b : Int) (k : Nat), vs = [.int t, .int b] ∧ b ≠ 0 ∧ b.natAbs < 2 ^ k ∧ k ≤ 8900 ∧ ∀ v H', Same H H' → FrV (fr t b) v H' → Q v H'
theorem ok_fraction_of (R : Raw K mg "fraction_of" s_fraction_of) (d_common : Def P w K mg base "common" 1 ["one", "other"] sp_common) : Def P w K mg base "fraction_of" 2 ["top", "bottom"] sp_fraction_of := by
  refine def_mk R sc_fraction_of (fun vs H Q E h => ?_) (fun _ _ _ _ _ _ us hl => match us, hl with | [_, _], _ => rfl) (fun f cdv A outer s H vs Q E hr h => ?_)
  · obtain ⟨t, b, k, rfl, _⟩ := h
    rfl
  obtain ⟨t, b, k, rfl, hb0, hbk, hk, q⟩ := h
  have hby := gcd_lt (t := t) hb0 hbk
  have hd : ∀ i : Int, CDivG i (byOf t b) := fun i => CDivG.of (b := 8900) (byOf_ne hb0) (Nat.lt_of_lt_of_le hby (Nat.pow_le_pow_right (by decide) hk)) (by decide) (by decide)
  refine ⟨_, (pss_cons (ps_if (pt_cmpR op_eq (pv 1) pe_int (nomark _)) (pss_one ps_never) pss_nil)
      (pss_cons (ps_set (i := 2) sc_fraction_of.nd rfl (Or.inl rfl) (pe_def d_common hr (by rfl) (pa_cons (pv 0) (pa_cons (pv 1) pa_nil))))
      (pss_cons (ps_if (pt_cmpR op_lt (pv 1) pe_int (nomark _)) (pss_one (ps_set (i := 2) sc_fraction_of.nd rfl (Or.inl rfl) (pe_un un_neg (pv 2)))) pss_nil)
      (pss_one (ps_ret (pe_tup (pa_cons (pe_op op_fdivG (pv 0) (pv 2)) (pa_cons (pe_op op_fdivG (pv 1) (pv 2)) pa_nil)))))))), ?_⟩
  refine ⟨_, rfl, rfl, _, rfl, ?_⟩
  rw [decide_eq_false (fun z => hb0 (V.int.inj z))]
  refine iteF ?_
  refine ⟨_, rfl, _, rfl, t, b, rfl, fun H1 s1 => ?_⟩
  refine ⟨_, rfl, _, _, rfl, rfl, _, rfl, ?_⟩
  have fin : ∀ (c : Int), c = byOf t b → (tRet (tTup (tCons (tOp (rI CDivG fun i j => .int (i.fdiv j)) (tVar 0) (tVar 2)) (tCons (tOp (rI CDivG fun i j => .int (i.fdiv j)) (tVar 1) (tVar 2)) tNil)))) { nx := fun _ H' => Q .non H', rt := Q } [some (.int t), some (.int b), some (.int c)] H1 := by
    rintro c rfl
    refine ⟨_, rfl, _, rfl, _, _, rfl, rfl, hd _, _, rfl, _, rfl, _, _, rfl, rfl, hd _, by show 2 ≤ sizeLine; decide, fun p hp => ?_⟩
    refine q _ _ (s1.trans fun b' o e => by rw [upd_ne (ne_of_none e hp)]; exact e) ⟨p, rfl, ?_⟩
    rw [upd_same, num_fr hb0, den_fr hb0]
  refine ite2 (fun e => ?_) (fun e => ?_)
  · refine ⟨_, rfl, _, rfl, ?_⟩
    exact fin _ (by unfold byOf; rw [if_pos (by simpa using e)])
  · exact fin _ (by unfold byOf; rw [if_neg (by simpa using e)])
/-- the use of it -/
theorem use_fraction_of {t b : Int} {k : Nat} {H : Hp} {Q : VK} (h0 : b ≠ 0) (hb : b.natAbs < 2 ^ k) (hk : k ≤ 8900) (q : ∀ v H', Same H H' → FrV (fr t b) v H' → Q v H') : sp_fraction_of [.int t, .int b] H Q E0 :=
  ⟨t, b, k, rfl, h0, hb, hk, q⟩
abbrev DFrac (P : Program) (w : World) (K : PySem.W.Frag) (mg : Str → Option Value) (base : Heap) : Prop := Def P w K mg base "fraction_of" 2 ["top", "bottom"] sp_fraction_of
theorem ev_fraction_of {σ : L2.St} {H : Hp} {ta tb : TE} {t b : Int} {k : Nat} (ha : Ev ta σ H (IsI t)) (hb : Ev tb σ H (IsI b)) (h0 : b ≠ 0) (hbk : b.natAbs < 2 ^ k) (hk : k ≤ 8900) :
    Ev (tCall sp_fraction_of [] E0 (tCons ta (tCons tb tNil))) σ H (FrV (fr t b)) :=
  ev_call2 ha hb (stb_i t) fun x y H1 _ e1 e2 Q q => ⟨t, b, k, by rw [e1, e2], h0, hbk, hk, q⟩
/-! ### sums, differences, products, quotients -/
/-- two fractions of so many bits in, one out -/
def sp_frac (g : Rat → Rat → Rat) (ok : Rat → Rat → Prop) : Sp := fun vs H Q _ => ∃ (x y : V) (q r : Rat) (j k : Nat), vs = [x, y] ∧ FrV q x H ∧ FrV r y H ∧ FB j q ∧ FB k r ∧ j + k ≤ 8800 ∧ 0 < j ∧ 0 < k ∧ ok q r ∧ ∀ v H', Same H H' → FrV (g q r) v H' → Q v H'
abbrev sp_frac_sum : Sp := sp_frac (fun q r => q + r) fun _ _ => True
abbrev sp_frac_less : Sp := sp_frac (fun q r => q - r) fun _ _ => True
abbrev sp_frac_times : Sp := sp_frac (fun q r => q * r) fun _ _ => True
abbrev sp_frac_by : Sp := sp_frac (fun q r => q / r) fun _ r => r ≠ 0
theorem ev_mulW {σ : L2.St} {H : Hp} {ta tb : TE} {i j : Int} {a b : Nat} (ha : Ev ta σ H (IsI i)) (hb : Ev tb σ H (IsI j)) (h1 : i.natAbs < 2 ^ a) (h2 : j.natAbs < 2 ^ b) (h3 : 0 < a) (h4 : 0 < b) (h : a + b ≤ 1000000) :
    Ev (tOp (rI CMulW fun i j => .int (i * j)) ta tb) σ H (IsI (i * j)) := ev_IC ha hb (wide_mul h1 h2 h3 h4 h)
abbrev s_frac_sum : Stmt := top 7
theorem sc_frac_sum : FnScope ["one", "other"] ["one", "other"] (defScope s_frac_sum) := ⟨rfl, rfl, rfl, by decide +kernel, rfl, by decide +kernel, by decide +kernel⟩
abbrev s_frac_less : Stmt := top 8
theorem sc_frac_less : FnScope ["one", "other"] ["one", "other"] (defScope s_frac_less) := ⟨rfl, rfl, rfl, by decide +kernel, rfl, by decide +kernel, by decide +kernel⟩
abbrev s_frac_times : Stmt := top 9
theorem sc_frac_times : FnScope ["one", "other"] ["one", "other"] (defScope s_frac_times) := ⟨rfl, rfl, rfl, by decide +kernel, rfl, by decide +kernel, by decide +kernel⟩
abbrev s_frac_by : Stmt := top 10
theorem sc_frac_by : FnScope ["one", "other"] ["one", "other"] (defScope s_frac_by) := ⟨rfl, rfl, rfl, by decide +kernel, rfl, by decide +kernel, by decide +kernel⟩
section
variable {K : PySem.W.Frag} {H : Hp} {x y : V} {q r : Rat} {j k : Nat}
theorem ev_x (h : FrV q x H) : Ev (tOp (rIxT K) (tVar 0) (tC (.int 0))) [some x, some y] H (IsI q.num) := ev_num (ev_var rfl (stb_fr q) h) (ev_int 0)
theorem ev_xd (h : FrV q x H) : Ev (tOp (rIxT K) (tVar 0) (tC (.int 1))) [some x, some y] H (IsI (q.den : Int)) := ev_den (ev_var rfl (stb_fr q) h) (ev_int 1)
theorem ev_y (h : FrV r y H) : Ev (tOp (rIxT K) (tVar 1) (tC (.int 0))) [some x, some y] H (IsI r.num) := ev_num (ev_var rfl (stb_fr r) h) (ev_int 0)
theorem ev_yd (h : FrV r y H) : Ev (tOp (rIxT K) (tVar 1) (tC (.int 1))) [some x, some y] H (IsI (r.den : Int)) := ev_den (ev_var rfl (stb_fr r) h) (ev_int 1)
end
theorem ok_frac_sum (R : Raw K mg "frac_sum" s_frac_sum) (d_fraction_of : DFrac P w K mg base) : Def P w K mg base "frac_sum" 3 ["one", "other"] sp_frac_sum := by
  refine def_mk R sc_frac_sum (fun vs H Q E h => ?_) (fun _ _ _ _ _ _ us hl => match us, hl with | [_, _], _ => rfl) (fun f cdv A outer s H vs Q E hr h => ?_)
  · obtain ⟨x, y, q, r, j, k, rfl, _⟩ := h
    rfl
  obtain ⟨x, y, q, r, j, k, rfl, hx, hy, fq, fr', hjk, j0, k0, _, kq⟩ := h
  refine ⟨_, (pss_one (ps_ret (pe_def d_fraction_of hr (by rfl) (pa_cons (pe_op op_add (pe_op op_mulW (pe_ix ix_tup (pv 0) pe_int (fun _ _ => rfl)) (pe_ix ix_tup (pv 1) pe_int (fun _ _ => rfl))) (pe_op op_mulW (pe_ix ix_tup (pv 1) pe_int (fun _ _ => rfl)) (pe_ix ix_tup (pv 0) pe_int (fun _ _ => rfl)))) (pa_cons (pe_op op_mulW (pe_ix ix_tup (pv 0) pe_int (fun _ _ => rfl)) (pe_ix ix_tup (pv 1) pe_int (fun _ _ => rfl))) pa_nil))))), ?_⟩
  refine s_ret (ev_fraction_of (ev_I0 (ev_mulW (ev_x hx) (ev_yd hy) fq.1 (den_lt fr') j0 k0 (by omega)) (ev_mulW (ev_y hy) (ev_xd hx) fr'.1 (den_lt fq) k0 j0 (by omega))) (ev_mulW (ev_xd hx) (ev_yd hy) (den_lt fq) (den_lt fr') j0 k0 (by omega)) (den_mul_ne q r) (bot_mul fq fr') (by omega)) fun v H1 s1 p => ?_
  rw [add_fr] at p
  exact kq v H1 s1 p
theorem ok_frac_less (R : Raw K mg "frac_less" s_frac_less) (d_fraction_of : DFrac P w K mg base) : Def P w K mg base "frac_less" 3 ["one", "other"] sp_frac_less := by
  refine def_mk R sc_frac_less (fun vs H Q E h => ?_) (fun _ _ _ _ _ _ us hl => match us, hl with | [_, _], _ => rfl) (fun f cdv A outer s H vs Q E hr h => ?_)
  · obtain ⟨x, y, q, r, j, k, rfl, _⟩ := h
    rfl
  obtain ⟨x, y, q, r, j, k, rfl, hx, hy, fq, fr', hjk, j0, k0, _, kq⟩ := h
  refine ⟨_, (pss_one (ps_ret (pe_def d_fraction_of hr (by rfl) (pa_cons (pe_op op_sub (pe_op op_mulW (pe_ix ix_tup (pv 0) pe_int (fun _ _ => rfl)) (pe_ix ix_tup (pv 1) pe_int (fun _ _ => rfl))) (pe_op op_mulW (pe_ix ix_tup (pv 1) pe_int (fun _ _ => rfl)) (pe_ix ix_tup (pv 0) pe_int (fun _ _ => rfl)))) (pa_cons (pe_op op_mulW (pe_ix ix_tup (pv 0) pe_int (fun _ _ => rfl)) (pe_ix ix_tup (pv 1) pe_int (fun _ _ => rfl))) pa_nil))))), ?_⟩
  refine s_ret (ev_fraction_of (ev_I0 (ev_mulW (ev_x hx) (ev_yd hy) fq.1 (den_lt fr') j0 k0 (by omega)) (ev_mulW (ev_y hy) (ev_xd hx) fr'.1 (den_lt fq) k0 j0 (by omega))) (ev_mulW (ev_xd hx) (ev_yd hy) (den_lt fq) (den_lt fr') j0 k0 (by omega)) (den_mul_ne q r) (bot_mul fq fr') (by omega)) fun v H1 s1 p => ?_
  rw [sub_fr] at p
  exact kq v H1 s1 p
theorem ok_frac_times (R : Raw K mg "frac_times" s_frac_times) (d_fraction_of : DFrac P w K mg base) : Def P w K mg base "frac_times" 3 ["one", "other"] sp_frac_times := by
  refine def_mk R sc_frac_times (fun vs H Q E h => ?_) (fun _ _ _ _ _ _ us hl => match us, hl with | [_, _], _ => rfl) (fun f cdv A outer s H vs Q E hr h => ?_)
  · obtain ⟨x, y, q, r, j, k, rfl, _⟩ := h
    rfl
  obtain ⟨x, y, q, r, j, k, rfl, hx, hy, fq, fr', hjk, j0, k0, _, kq⟩ := h
  refine ⟨_, (pss_one (ps_ret (pe_def d_fraction_of hr (by rfl) (pa_cons (pe_op op_mulW (pe_ix ix_tup (pv 0) pe_int (fun _ _ => rfl)) (pe_ix ix_tup (pv 1) pe_int (fun _ _ => rfl))) (pa_cons (pe_op op_mulW (pe_ix ix_tup (pv 0) pe_int (fun _ _ => rfl)) (pe_ix ix_tup (pv 1) pe_int (fun _ _ => rfl))) pa_nil))))), ?_⟩
  refine s_ret (ev_fraction_of (ev_mulW (ev_x hx) (ev_y hy) fq.1 fr'.1 j0 k0 (by omega)) (ev_mulW (ev_xd hx) (ev_yd hy) (den_lt fq) (den_lt fr') j0 k0 (by omega)) (den_mul_ne q r) (bot_mul fq fr') (by omega)) fun v H1 s1 p => ?_
  rw [mul_fr] at p
  exact kq v H1 s1 p
theorem ok_frac_by (R : Raw K mg "frac_by" s_frac_by) (d_fraction_of : DFrac P w K mg base) : Def P w K mg base "frac_by" 3 ["one", "other"] sp_frac_by := by
  refine def_mk R sc_frac_by (fun vs H Q E h => ?_) (fun _ _ _ _ _ _ us hl => match us, hl with | [_, _], _ => rfl) (fun f cdv A outer s H vs Q E hr h => ?_)
  · obtain ⟨x, y, q, r, j, k, rfl, _⟩ := h
    rfl
  obtain ⟨x, y, q, r, j, k, rfl, hx, hy, fq, fr', hjk, j0, k0, hr0, kq⟩ := h
  refine ⟨_, (pss_cons (ps_if (pt_cmpR op_eq (pe_ix ix_tup (pv 1) pe_int (fun _ _ => rfl)) pe_int (nomark _)) (pss_one ps_never) pss_nil)
      (pss_one (ps_ret (pe_def d_fraction_of hr (by rfl) (pa_cons (pe_op op_mulW (pe_ix ix_tup (pv 0) pe_int (fun _ _ => rfl)) (pe_ix ix_tup (pv 1) pe_int (fun _ _ => rfl))) (pa_cons (pe_op op_mulW (pe_ix ix_tup (pv 0) pe_int (fun _ _ => rfl)) (pe_ix ix_tup (pv 1) pe_int (fun _ _ => rfl))) pa_nil)))))), ?_⟩
  have hn := num_ne hr0
  refine s_if (ev_eqI (ev_y hy) (ev_int 0)) (fun e => absurd (of_decide_eq_true e) hn) (fun _ H1 s1 => ?_)
  refine s_ret (ev_fraction_of (ev_mulW (ev_x (stb_fr q _ _ _ s1 hx)) (ev_yd (stb_fr r _ _ _ s1 hy)) fq.1 (den_lt fr') j0 k0 (by omega)) (ev_mulW (ev_xd (stb_fr q _ _ _ s1 hx)) (ev_y (stb_fr r _ _ _ s1 hy)) (den_lt fq) fr'.1 j0 k0 (by omega)) (Int.mul_ne_zero (den_ne q) hn) (natAbs_mul_lt (den_lt fq) fr'.1) (by omega)) fun v H2 s2 p => ?_
  rw [div_fr] at p
  exact kq v H2 (s1.trans s2) p
end
end ED

/-! Powers, terms, worths at a place. -/
namespace ED
open PySem PySem.Spec PyProof.Rows L2 ER EM

/-! ### more of what is known of a value -/
/-- a tuple of numbers of 0 or more -/
def PwV (ps : Mono) : Pd := fun v H => ∃ a, v = .ref a ∧ H a = some (.tup (ps.map nV))
theorem stb_pw (ps : Mono) : Stb (PwV ps) := fun _ _ _ s ⟨a, e, h⟩ => ⟨a, e, s _ _ h⟩
/-- a polynomial: the list of its terms -/
def PoV (L : Po) : Pd := fun v H => ∃ a ts, v = .ref a ∧ H a = some (.lst (ts.map V.ref)) ∧ TermsAt H ts L
theorem stb_po (L : Po) : Stb (PoV L) := fun _ _ _ s ⟨a, ts, e, h, t⟩ => ⟨a, ts, e, s _ _ h, t.same s⟩
/-- each of a list of values, by what is known of it -/
abbrev Ech (Ps : List Pd) (xs : List V) (H : Hp) : Prop := Paired (fun P x => P x H) Ps xs
/-- a list | a tuple of such -/
def LsV (Ps : List Pd) : Pd := fun v H => ∃ a xs, v = .ref a ∧ H a = some (.lst xs) ∧ Ech Ps xs H
def TuV (Ps : List Pd) : Pd := fun v H => ∃ a xs, v = .ref a ∧ H a = some (.tup xs) ∧ Ech Ps xs H
theorem ech_same {Ps : List Pd} {xs : List V} {H H' : Hp} (hs : ∀ P ∈ Ps, Stb P) (s : Same H H') (h : Ech Ps xs H) : Ech Ps xs H' := by
  induction h with
  | nil => exact .nil
  | cons h _ ih => exact .cons (hs _ List.mem_cons_self _ _ _ s h) (ih fun P hp => hs P (List.mem_cons_of_mem _ hp))
theorem stb_ls {Ps : List Pd} (hs : ∀ P ∈ Ps, Stb P) : Stb (LsV Ps) := fun _ _ _ s ⟨a, xs, e, h, t⟩ => ⟨a, xs, e, s _ _ h, ech_same hs s t⟩
theorem stb_tu {Ps : List Pd} (hs : ∀ P ∈ Ps, Stb P) : Stb (TuV Ps) := fun _ _ _ s ⟨a, xs, e, h, t⟩ => ⟨a, xs, e, s _ _ h, ech_same hs s t⟩
/-- a list of fractions -/
abbrev FrsV (qs : List Rat) : Pd := LsV (qs.map FrV)
theorem stb_frs (qs : List Rat) : Stb (FrsV qs) := stb_ls fun P hp => by
  obtain ⟨q, _, rfl⟩ := List.mem_map.mp hp
  exact stb_fr q
theorem ech_get {Ps : List Pd} {xs : List V} {H : Hp} (h : Ech Ps xs H) {i : Nat} {P : Pd} (e : Ps[i]? = some P) : ∃ x, xs[i]? = some x ∧ P x H := by
  obtain ⟨x, e2, p⟩ := paired_get h e
  exact ⟨x, e2, p⟩
section
variable {σ : L2.St} {H H' : Hp} {P P1 P2 : Pd} {ta tb te : TE} {v : V} {K : PySem.W.Frag} {D : Ends} {tz tu tw : TS}
theorem ev_ixL {Ps : List Pd} {i : Nat} (hs : ∀ P ∈ Ps, Stb P) (ha : Ev ta σ H (LsV Ps)) (hb : Ev tb σ H (IsI (i : Int))) (e : Ps[i]? = some P) : Ev (tOp (rIxL K) ta tb) σ H P :=
  ev_op ha hb (stb_ls hs) fun x y H1 _ ⟨a, xs, e1, h, t⟩ e2 Q q => by
    obtain ⟨u, e3, p⟩ := ech_get t e
    exact ⟨a, xs, i, u, e1, e2, SqL.of h, atI_nat e3, q _ _ (Same.refl _) p⟩
theorem ev_ixT {Ps : List Pd} {i : Nat} (hs : ∀ P ∈ Ps, Stb P) (ha : Ev ta σ H (TuV Ps)) (hb : Ev tb σ H (IsI (i : Int))) (e : Ps[i]? = some P) : Ev (tOp (rIxT K) ta tb) σ H P :=
  ev_op ha hb (stb_tu hs) fun x y H1 _ ⟨a, xs, e1, h, t⟩ e2 Q q => by
    obtain ⟨u, e3, p⟩ := ech_get t e
    exact ⟨a, xs, i, u, e1, e2, SqT.of h, atI_nat e3, q _ _ (Same.refl _) p⟩
theorem ev_ixF {qs : List Rat} {i : Nat} {q : Rat} (ha : Ev ta σ H (FrsV qs)) (hb : Ev tb σ H (IsI (i : Int))) (e : qs[i]? = some q) : Ev (tOp (rIxL K) ta tb) σ H (FrV q) :=
  ev_ixL (fun P hp => by obtain ⟨q, _, rfl⟩ := List.mem_map.mp hp; exact stb_fr q) ha hb (by rw [List.getElem?_map, e]; rfl)
def rLen (K : PySem.W.Frag) : List V → Hp → VK → Prop := fun xs H Q => ∃ p ys, xs = [.ref p] ∧ (SqL K H p ys ∨ SqT K H p ys) ∧ Q (.int ys.length) H
theorem ev_lenL {Ps : List Pd} (ha : Ev ta σ H (LsV Ps)) : Ev (tCB (rLen K) (tCons ta tNil)) σ H (IsI (Ps.length : Int)) := by
  intro H1 s1 Q q
  refine ha H1 s1 _ fun x H2 s2 ⟨a, xs, e, h, t⟩ => ?_
  exact ⟨a, xs, by rw [e], .inl (SqL.of h), q _ _ s2 (by rw [show xs.length = Ps.length from (Paired.length t).symm]; rfl)⟩
theorem ev_lenPw {ps : Mono} (ha : Ev ta σ H (PwV ps)) : Ev (tCB (rLen K) (tCons ta tNil)) σ H (IsI (ps.length : Int)) := by
  intro H1 s1 Q q
  refine ha H1 s1 _ fun x H2 s2 ⟨a, e, h⟩ => ?_
  exact ⟨a, _, by rw [e], .inr (SqT.of h), q _ _ s2 (by rw [List.length_map]; rfl)⟩
theorem s_if1 {b : Bool} (h : Ev te σ H (IsB b)) (h1 : b = true → ∀ H1, Same H H1 → tu D σ H1) (h2 : b = false → ∀ H1, Same H H1 → tw D σ H1) : tIfS (tTest te) tu tw D σ H := by
  refine h H (Same.refl _) _ fun v H1 s1 e => ⟨b, e, ?_⟩
  cases b with
  | true => exact iteT (h1 rfl H1 s1)
  | false => exact iteF (h2 rfl H1 s1)
theorem s_set1 {i : Nat} (h : Ev te σ H P) (k : ∀ v H1, Same H H1 → P v H1 → D.nx (σ.set i (some v)) H1) : tAsg te (gName i) D σ H := h H (Same.refl _) _ k
theorem g_pair {i j : Nat} {a : Addr} {x y : V} {Q : L2.St → Hp → Prop} (h : H a = some (.tup [x, y])) (q : Q ((σ.set i (some x)).set j (some y)) H) : gTup K 2 (gCons (gName i) (gCons (gName j) gNil)) (.ref a) σ H Q :=
  ⟨a, _, rfl, SqT.of h, rfl, x, [y], rfl, y, [], rfl, rfl, q⟩
theorem same_new {H : Hp} {p : Addr} {o : HO} (h : H p = none) : Same H (upd H p o) := fun b o' e => by rw [upd_ne (ne_of_none e h)]; exact e
/-- a new tuple of a fraction -/
theorem ev_frac0 : Ev (tTup (tCons (tC (.int 0)) (tCons (tC (.int 1)) tNil))) σ H (FrV 0) := fun H1 s1 Q q =>
  ⟨by show 2 ≤ sizeLine; decide, fun p hp => q _ _ (same_new hp) ⟨p, rfl, upd_same⟩⟩
end

section
variable {P : Program} {w : World} {K : PySem.W.Frag} {mg : Str → Option Value} {base : Heap}
/-! ### raised -/
abbrev s_raised : Stmt := top 19
theorem sc_raised : FnScope ["number", "power", "found", "step"] ["number", "power"] (defScope s_raised) := ⟨rfl, rfl, rfl, by decide +kernel, rfl, by decide +kernel, by decide +kernel⟩
def sp_raised : Sp := fun vs H Q _ => ∃ (a : Int) (p : Nat), vs = [.int a, .int (p : Int)] ∧ a.natAbs ≤ 2 ^ 4 ∧ p ≤ 1000 ∧ ∀ H', Same H H' → Q (.int (a ^ p)) H'
theorem ok_raised (R : Raw K mg "raised" s_raised) (B : Bi mg) : Def P w K mg base "raised" 1 ["number", "power"] sp_raised := by
  refine def_mk R sc_raised (fun vs H Q E h => ?_) (fun _ _ _ _ _ _ us hl => match us, hl with | [_, _], _ => rfl) (fun f cdv A outer s H vs Q E hr h => ?_)
  · obtain ⟨a, p, rfl, _⟩ := h
    rfl
  obtain ⟨a, p, rfl, ha, hp, k⟩ := h
  refine ⟨_, (pss_cons (ps_set (i := 2) sc_raised.nd rfl (Or.inl rfl) pe_int)
      (pss_cons (ps_for PassesOwn.never rfl (pi_range1 (by rfl) B.range (pa_cons (pv 1) pa_nil)) (pg_name (i := 3) sc_raised.nd rfl (.inl rfl)) (pss_one (ps_set (i := 2) sc_raised.nd rfl (Or.inl rfl) (pe_op op_mulW (pv 2) (pv 0)))))
      (pss_one (ps_ret (pv 2))))), ?_⟩
  refine ⟨_, rfl, _, rfl, by omega, by omega, for_range (lo := 0) (n := ((p : Nat) : Int).toNat) (fun i σ H' => ∃ v, σ = [some (.int a), some (.int (p : Int)), some (.int (a ^ i)), v] ∧ H' = H) ⟨none, by rw [Int.pow_zero]; rfl, rfl⟩ ?_ ?_⟩
  · rintro i σ H' hi ⟨v, rfl, rfl⟩
    have hb : (a ^ i).natAbs < 2 ^ 4001 := by
      have h1 := pow_bound (e := 1000) ha (show i ≤ 1000 by omega)
      exact Nat.lt_of_le_of_lt h1 (Nat.pow_lt_pow_right (by decide) (by decide))
    refine ⟨_, rfl, _, rfl, _, _, rfl, rfl, wide_mul hb (Nat.lt_of_le_of_lt ha (by decide : 2 ^ 4 < 2 ^ 5)) (by decide) (by decide) (by decide), ?_⟩
    exact ⟨_, by rw [Int.pow_succ]; rfl, rfl⟩
  · rintro σ H' ⟨v, rfl, rfl⟩
    refine ⟨_, rfl, ?_⟩
    rw [Int.toNat_natCast]
    exact k _ (Same.refl _)
theorem ev_raised {σ : L2.St} {H : Hp} {ta tb : TE} {a : Int} {p : Nat} (ha : Ev ta σ H (IsI a)) (hb : Ev tb σ H (IsI (p : Int))) (h : a.natAbs ≤ 2 ^ 4) (hp : p ≤ 1000) : Ev (tCall sp_raised [] E0 (tCons ta (tCons tb tNil))) σ H (IsI (a ^ p)) :=
  ev_call2 ha hb (stb_i a) fun x y H1 _ e1 e2 Q q => ⟨a, p, by rw [e1, e2], h, hp, fun H' s' => q _ _ s' rfl⟩
/-! ### term_at -/
abbrev s_term_at : Stmt := top 20
theorem sc_term_at : FnScope ["powers", "number", "place", "top", "bottom", "k", "power"] ["powers", "number", "place"] (defScope s_term_at) := ⟨rfl, rfl, rfl, by decide +kernel, rfl, by decide +kernel, by decide +kernel⟩
def sp_term_at : Sp := fun vs H Q _ => ∃ (x z : V) (ps : Mono) (c : Int) (pl : List Rat), vs = [x, .int c, z] ∧ PwV ps x H ∧ FrsV pl z H ∧ PlaceOk pl ∧ ps.length ≤ 6 ∧ (∀ p ∈ ps, p ≤ 10) ∧ c.natAbs ≤ 2 ^ 120 ∧
  ∀ v H', Same H H' → FrV ((c : Rat) * mon (at_ pl) 0 ps) v H' → Q v H'
theorem at_get {pl : List Rat} (h : PlaceOk pl) {i : Nat} (hi : i < 6) : pl[i]? = some (at_ pl i) := by
  have hl := h.1
  unfold at_
  rw [List.getD_eq_getElem?_getD, List.getElem?_eq_getElem (by omega)]
  rfl
theorem ok_term_at (R : Raw K mg "term_at" s_term_at) (B : Bi mg) (d_raised : Def P w K mg base "raised" 1 ["number", "power"] sp_raised) (d_fraction_of : DFrac P w K mg base) : Def P w K mg base "term_at" 3 ["powers", "number", "place"] sp_term_at := by
  refine def_mk R sc_term_at (fun vs H Q E h => ?_) (fun _ _ _ _ _ _ us hl => match us, hl with | [_, _, _], _ => rfl) (fun f cdv A outer s H vs Q E hr h => ?_)
  · obtain ⟨x, z, ps, c, pl, rfl, _⟩ := h
    rfl
  obtain ⟨x, z, ps, c, pl, rfl, ⟨px, rfl, hpx⟩, hz, hpl, hl6, hp10, hc, kq⟩ := h
  have nb : ∀ i, ((at_ pl i).num).natAbs ≤ 2 ^ 4 := fun i => Nat.le_trans (at_ok hpl i).1 (by decide)
  have db : ∀ i, (((at_ pl i).den : Nat) : Int).natAbs ≤ 2 ^ 4 := fun i => by rw [Int.natAbs_natCast]; exact Nat.le_trans (at_ok hpl i).2 (by decide)
  have lb : ∀ (g : Nat → Int), (∀ i, (g i).natAbs ≤ 2 ^ 4) → ∀ i, (monI g 0 (ps.take i)).natAbs < 2 ^ 300 := fun g hg i => by
    have h1 := monI_bound (e := 10) hg (ps.take i) 0 fun p hp => hp10 p (List.mem_of_mem_take hp)
    have h2 : (ps.take i).length ≤ 6 := by rw [List.length_take]; omega
    refine Nat.lt_of_le_of_lt h1 (Nat.pow_lt_pow_right (by decide) ?_)
    have : 4 * 10 * (ps.take i).length ≤ 4 * 10 * 6 := Nat.mul_le_mul_left _ h2
    omega
  refine ⟨_, (pss_cons (ps_set (i := 3) sc_term_at.nd rfl (Or.inl rfl) (pv 1))
      (pss_cons (ps_set (i := 4) sc_term_at.nd rfl (Or.inl rfl) pe_int)
      (pss_cons (ps_for PassesOwn.never rfl (pi_enumT (by rfl) B.enumerate (pa_cons (pv 0) pa_nil)) (pg_tup rfl (pgs_cons (pg_name (i := 5) sc_term_at.nd rfl (.inl rfl)) (pgs_cons (pg_name (i := 6) sc_term_at.nd rfl (.inl rfl)) pgs_nil))) (pss_one (ps_if (pt_cmpR op_lt (pv 5) (pe_callB call_len_seq (by rfl) B.len PySem.boot_len (pa_cons (pv 2) pa_nil)) (nomark _)) (pss_cons (ps_set (i := 3) sc_term_at.nd rfl (Or.inl rfl) (pe_op op_mulW (pv 3) (pe_def d_raised hr (by rfl) (pa_cons (pe_ix ix_tup (pe_ix ix_list (pv 2) (pv 5) (fun _ _ => rfl)) pe_int (fun _ _ => rfl)) (pa_cons (pv 6) pa_nil)))))
      (pss_one (ps_set (i := 4) sc_term_at.nd rfl (Or.inl rfl) (pe_op op_mulW (pv 4) (pe_def d_raised hr (by rfl) (pa_cons (pe_ix ix_tup (pe_ix ix_list (pv 2) (pv 5) (fun _ _ => rfl)) pe_int (fun _ _ => rfl)) (pa_cons (pv 6) pa_nil))))))) (pss_one (ps_if (pt_cmpR op_gt (pv 6) pe_int (nomark _)) (pss_one (ps_ret (pe_tup (pa_cons pe_int (pa_cons pe_int pa_nil))))) pss_nil)))))
      (pss_one (ps_ret (pe_def d_fraction_of hr (by rfl) (pa_cons (pv 3) (pa_cons (pv 4) pa_nil)))))))), ?_⟩
  refine ⟨_, rfl, _, rfl, px, _, rfl, SqT.of hpx, for_it walk_enumT (fun i σ H' => ∃ u v, σ = [some (.ref px), some (.int c), some z, some (.int (c * monI (fun k => (at_ pl k).num) 0 (ps.take i))), some (.int (monI (fun k => ((at_ pl k).den : Int)) 0 (ps.take i))), u, v] ∧ Same H H')
    ⟨none, none, by simp [monI]; rfl, Same.refl _⟩ (fun i σ H' _ ⟨_, _, _, s'⟩ => s' _ _ hpx) ?_ ?_⟩
  · rintro i v σ H' H'' hi ⟨u, v', rfl, s'⟩ ⟨T, x', y', rfl, hT, rfl, ex, ey⟩
    rw [List.length_map] at hi
    have ex' : x' = .int (i : Nat) := (Option.some.inj ex).symm
    have hpi : ps[i]? = some ps[i] := List.getElem?_eq_getElem hi
    have ey' : y' = nV ps[i] := by
      have ey : (ps.map nV)[i]? = some y' := ey
      rw [List.getElem?_map, hpi] at ey
      exact (Option.some.inj ey).symm
    subst ex' ey'
    have sT := same_new (o := .tup [V.int (i : Nat), nV ps[i]]) hT
    have sH := s'.trans sT
    have zpl : FrsV pl z (upd H' T (.tup [V.int (i : Nat), nV ps[i]])) := stb_frs pl _ _ _ sH hz
    have pi10 : ps[i] ≤ 10 := hp10 _ (List.getElem_mem hi)
    have e1 : ps.take (i + 1) = ps.take i ++ [ps[i]] := by rw [List.take_add_one, hpi]; rfl
    have el : (ps.take i).length = i := by rw [List.length_take]; omega
    refine g_pair upd_same ?_
    refine s_if1 (ev_cmpI (ev_var rfl (stb_i _) rfl) (ev_lenL (ev_var rfl (stb_frs pl) zpl))) (fun _ H1 s1 => ?_) (fun e => ?_)
    · have fr1 : ∀ H2, Same H1 H2 → FrsV pl z H2 := fun H2 s2 => stb_frs pl _ _ _ (s1.trans s2) zpl
      refine s_set (ev_mulW (a := 430) (b := 41) (ev_var rfl (stb_i _) rfl) (ev_raised (ev_num (ev_ixF (ev_var rfl (stb_frs pl) (fr1 _ (Same.refl _))) (ev_var rfl (stb_i _) rfl) (at_get hpl (by omega))) (ev_int 0)) (ev_var rfl (stb_i _) rfl) (nb i) (by omega)) ?_ ?_ (by decide) (by decide) (by decide)) fun v2 H2 s2 e2 => ?_
      · exact Nat.lt_of_lt_of_le (natAbs_mul_lt (Nat.lt_of_le_of_lt hc (by decide +kernel : 2 ^ 120 < 2 ^ 121)) (lb _ nb i)) (Nat.pow_le_pow_right (by decide) (by decide))
      · exact Nat.lt_of_le_of_lt (pow_bound (e := 10) (nb i) pi10) (by decide +kernel)
      cases e2
      refine s_set1 (ev_mulW (a := 300) (b := 41) (ev_var rfl (stb_i _) rfl) (ev_raised (ev_den (ev_ixF (ev_var rfl (stb_frs pl) (fr1 _ s2)) (ev_var rfl (stb_i _) rfl) (at_get hpl (by omega))) (ev_int 1)) (ev_var rfl (stb_i _) rfl) (db i) (by omega)) (lb _ db i) ?_ (by decide) (by decide) (by decide)) fun v3 H3 s3 e3 => ?_
      · exact Nat.lt_of_le_of_lt (pow_bound (e := 10) (db i) pi10) (by decide +kernel)
      cases e3
      refine ⟨some (.int (i : Nat)), some (nV ps[i]), ?_, sH.trans (s1.trans (s2.trans s3))⟩
      rw [e1, monI_snoc, monI_snoc, el, Nat.zero_add, ← Int.mul_assoc]
      rfl
    · have hl : (pl.map FrV).length = 6 := by rw [List.length_map]; exact hpl.1
      rw [hl] at e
      have := of_decide_eq_false e
      omega
  · rintro σ H' ⟨u, v, rfl, s'⟩
    rw [List.length_map, List.take_length]
    refine s_ret (ev_fraction_of (k := 300) (ev_var rfl (stb_i _) rfl) (ev_var rfl (stb_i _) rfl) (monI_ne (fun k => den_ne _) ps 0) ?_ (by decide)) fun v2 H2 s2 p2 => ?_
    · have := lb _ db ps.length
      rw [List.take_length] at this
      exact this
    rw [term_fr] at p2
    exact kq _ _ (s'.trans s2) p2
/-! ### worth_at -/
abbrev s_worth_at : Stmt := top 21
theorem sc_worth_at : FnScope ["some", "place", "found", "powers", "number"] ["some", "place"] (defScope s_worth_at) := ⟨rfl, rfl, rfl, by decide +kernel, rfl, by decide +kernel, by decide +kernel⟩
def sp_worth_at : Sp := fun vs H Q _ => ∃ (x z : V) (L : Po) (pl : List Rat) (n b e : Nat), vs = [x, z] ∧ PoV L x H ∧ FrsV pl z H ∧ PlaceOk pl ∧ Pb n b e L ∧ b ≤ 120 ∧ e ≤ 10 ∧ ∀ v H', Same H H' → FrV (ev (at_ pl) L) v H' → Q v H'
theorem ev_frac_op {sp : Sp} {g : Rat → Rat → Rat} {ok : Rat → Rat → Prop} (hsp : sp = sp_frac g ok) {σ : L2.St} {H : Hp} {ta tb : TE} {q r : Rat} {j k : Nat} (ha : Ev ta σ H (FrV q)) (hb : Ev tb σ H (FrV r)) (fq : FB j q) (fr' : FB k r) (hjk : j + k ≤ 8800) (j0 : 0 < j) (k0 : 0 < k) (hok : ok q r) :
    Ev (tCall sp [] E0 (tCons ta (tCons tb tNil))) σ H (FrV (g q r)) :=
  ev_call2 ha hb (stb_fr q) fun x y H1 _ e1 e2 Q qq => by
    rw [hsp]
    exact ⟨x, y, q, r, j, k, rfl, e1, e2, fq, fr', hjk, j0, k0, hok, qq⟩
theorem ok_worth_at (R : Raw K mg "worth_at" s_worth_at) (d_frac_sum : Def P w K mg base "frac_sum" 3 ["one", "other"] sp_frac_sum) (d_term_at : Def P w K mg base "term_at" 3 ["powers", "number", "place"] sp_term_at) : Def P w K mg base "worth_at" 4 ["some", "place"] sp_worth_at := by
  refine def_mk R sc_worth_at (fun vs H Q E h => ?_) (fun _ _ _ _ _ _ us hl => match us, hl with | [_, _], _ => rfl) (fun f cdv A outer s H vs Q E hr h => ?_)
  · obtain ⟨x, z, L, pl, n, b, e, rfl, _⟩ := h
    rfl
  obtain ⟨x, z, L, pl, n, b, e, rfl, hx, hz, hpl, hL, hb, he, kq⟩ := h
  obtain ⟨a, ts, rfl, ha, hts⟩ := id hx
  have hlen : ts.length = L.length := Paired.length hts
  refine ⟨_, (pss_cons (ps_set (i := 2) sc_worth_at.nd rfl (Or.inl rfl) (pe_tup (pa_cons pe_int (pa_cons pe_int pa_nil))))
      (pss_cons (ps_for PassesOwn.never rfl (pi_list (pv 0)) (pg_tup rfl (pgs_cons (pg_name (i := 3) sc_worth_at.nd rfl (.inl rfl)) (pgs_cons (pg_name (i := 4) sc_worth_at.nd rfl (.inl rfl)) pgs_nil))) (pss_one (ps_set (i := 2) sc_worth_at.nd rfl (Or.inl rfl) (pe_def d_frac_sum hr (by rfl) (pa_cons (pv 2) (pa_cons (pe_def d_term_at hr (by rfl) (pa_cons (pv 3) (pa_cons (pv 4) (pa_cons (pv 1) pa_nil)))) pa_nil))))))
      (pss_one (ps_ret (pv 2))))), ?_⟩
  refine s_set ev_frac0 fun v0 H0 s0 p0 => ?_
  refine ⟨_, rfl, a, rfl, ⟨_, SqL.of (s0 _ _ ha)⟩, for_list (K := K) (a := a) (xs := ts.map V.ref) (fun i σ H' => ∃ y u v, σ = [some (.ref a), some z, some y, u, v] ∧ Same H H' ∧ FrV (ev (at_ pl) (L.take i)) y H')
    ⟨v0, none, none, rfl, s0, by simpa [ev] using p0⟩ (fun i σ H' _ ⟨_, _, _, _, s', _⟩ => SqL.of (s' _ _ ha)) ?_ ?_⟩
  · rintro i v σ H' hi ⟨y, u, v', rfl, s', py⟩
    obtain ⟨t, ht, rfl⟩ : ∃ t, ts[i]? = some t ∧ v = V.ref t := by
      rw [List.getElem?_map] at hi
      cases h : ts[i]? with
      | none => rw [h] at hi; cases hi
      | some t => rw [h] at hi; exact ⟨t, rfl, (Option.some.inj hi).symm⟩
    obtain ⟨m, hm, p, hp1, hp2⟩ := paired_get hts ht
    have hml : m ∈ L := List.mem_of_getElem? hm
    have pw := hL.pw m hml
    have hc : m.2.natAbs ≤ 2 ^ 120 := Nat.le_trans (natAbs_le_norm hml) (Nat.le_trans hL.nm (Nat.pow_le_pow_right (by decide) hb))
    have e1 : L.take (i + 1) = L.take i ++ [m] := by rw [List.take_add_one, hm]; rfl
    refine g_pair (s' _ _ hp1) ?_
    have tm : Ev (tCall sp_term_at [] E0 (tCons (tVar 3) (tCons (tVar 4) (tCons (tVar 1) tNil)))) [some (.ref a), some z, some y, some (.ref p), some (.int m.2)] H' (FrV ((m.2 : Rat) * mon (at_ pl) 0 m.1)) :=
      ev_call3 (P1 := PwV m.1) (P2 := IsI m.2) (P3 := FrsV pl) (ev_var rfl (stb_pw _) ⟨p, rfl, s' _ _ hp2⟩) (ev_var rfl (stb_i _) rfl) (ev_var rfl (stb_frs pl) (stb_frs pl _ _ _ s' hz)) (stb_pw _) (stb_i _)
        fun x2 y2 z2 H1 _ q1 q2 q3 Q q => ⟨x2, z2, m.1, m.2, pl, by rw [q2], q1, q3, hpl, pw.1, fun k hk => Nat.le_trans (pw.2 k hk) he, hc, q⟩
    refine s_set1 (ev_frac_op rfl (ev_var rfl (stb_fr _) py) tm (fb_worth hpl (hL.take i) hb he) (fb_term hpl pw.1 (fun k hk => Nat.le_trans (pw.2 k hk) he) hc) (by decide) (by decide) (by decide) trivial) fun v2 H2 s2 p2 => ?_
    refine ⟨v2, _, _, rfl, s'.trans s2, ?_⟩
    rw [e1, ev_append, ev_cons, ev_nil, Rat.add_zero]
    exact p2
  · rintro σ H' ⟨y, u, v, rfl, s', py⟩
    rw [List.length_map, hlen, List.take_length] at py
    exact ⟨_, rfl, kq _ _ s' py⟩
end
end ED

/-! The defs of polynomials. -/
namespace ED
open PySem PySem.Spec PyProof.Rows L2 ER EM

/-! ### dicts of numbers by powers -/
def keyN (ps : Mono) : List Key := ps.map fun n : Nat => Sum.inl (n : Int)
def encC (cs : Po) : List (List Key × V) := cs.map fun t => (keyN t.1, V.int t.2)
theorem keyN_kV (ps : Mono) : (keyN ps).map kV = ps.map nV := by
  unfold keyN
  rw [List.map_map]
  rfl
theorem keyN_inj : ∀ {a b : Mono}, keyN a = keyN b → a = b
  | [], [], _ => rfl
  | [], _ :: _, e => by simp [keyN] at e
  | _ :: _, [], e => by simp [keyN] at e
  | x :: a, y :: b, e => by
    simp only [keyN, List.map_cons, List.cons.injEq, Sum.inl.injEq] at e
    rw [keyN_inj (a := a) (b := b) e.2, Int.ofNat_inj.mp e.1]
theorem encC_get {cs : Po} {i : Nat} {k : List Key} {v : V} (h : (encC cs)[i]? = some (k, v)) : ∃ m, cs[i]? = some m ∧ k = keyN m.1 ∧ v = .int m.2 := by
  unfold encC at h
  rw [List.getElem?_map] at h
  cases e : cs[i]? with
  | none => rw [e] at h; cases h
  | some m =>
    rw [e] at h
    simp only [Option.map_some, Option.some.injEq, Prod.mk.injEq] at h
    exact ⟨m, rfl, h.1.symm, h.2.symm⟩
theorem dec_key (a b : Mono) : decide (keyN a = keyN b) = decide (a = b) := decide_eq_decide.mpr ⟨fun e => keyN_inj e, fun e => by rw [e]⟩
theorem encC_val (k : Mono) : ∀ cs : Po, valV (encC cs) (keyN k) = (lookC cs k).map V.int
  | [] => rfl
  | t :: cs => by
    have ih := encC_val k cs
    show valV ((keyN t.1, V.int t.2) :: encC cs) (keyN k) = _
    by_cases e : t.1 = k
    · subst e
      rw [valV_pos rfl]
      unfold lookC
      rw [List.find?_cons_of_pos (by simp)]
      rfl
    · rw [valV_neg (fun q => e (keyN_inj q)), ih]
      unfold lookC
      rw [List.find?_cons_of_neg (by simpa using e)]
theorem encC_any (k : Mono) (cs : Po) : ((encC cs).any fun kv => decide (kv.1 = keyN k)) = cs.any fun t => decide (t.1 = k) := by
  unfold encC
  rw [List.any_map]
  congr 1
  funext t
  exact dec_key t.1 k
theorem encC_put (cs : Po) (k : Mono) (v : Int) : putK (encC cs) (keyN k) (.int v) = encC (putC cs k v) := by
  unfold putK putC
  rw [encC_any]
  split
  · unfold encC
    rw [List.map_map, List.map_map]
    apply List.map_congr_left
    intro t _
    show (if keyN t.1 = keyN k then (keyN t.1, V.int v) else (keyN t.1, V.int t.2)) = _
    by_cases e : t.1 = k
    · rw [if_pos (by rw [e])]
      simp only [Function.comp, if_pos e]
    · rw [if_neg (fun q => e (keyN_inj q))]
      simp only [Function.comp, if_neg e]
  · unfold encC
    rw [List.map_append]
    rfl
theorem encC_len (cs : Po) : (encC cs).length = cs.length := List.length_map ..
theorem encC_nodup {cs : Po} (h : (keys cs).Nodup) : ((encC cs).map (·.1)).Nodup := by
  have e : (encC cs).map (·.1) = (keys cs).map keyN := by
    unfold encC keys
    rw [List.map_map, List.map_map]
    rfl
  rw [e]
  exact List.Pairwise.map _ (fun a b (hab : a ≠ b) q => hab (keyN_inj q)) h
/-- a term stays while a list changes -/
theorem term_but {H : Hp} {t : Addr} {m : Mono × Int} {D : Addr} {o : HO} (h : TermAt H t m) (hD : ∀ xs, H D ≠ some (.tup xs)) : TermAt (upd H D o) t m := by
  obtain ⟨p, a, b⟩ := h
  exact ⟨p, by rw [upd_ne (fun e => hD _ (e ▸ a))]; exact a, by rw [upd_ne (fun e => hD _ (e ▸ b))]; exact b⟩
theorem terms_but {H : Hp} {ts : List Addr} {ms : Po} {D : Addr} {o : HO} (h : TermsAt H ts ms) (hD : ∀ xs, H D ≠ some (.tup xs)) : TermsAt (upd H D o) ts ms := Paired.mapP h fun _ _ x => term_but x hD
theorem terms_snoc {H : Hp} : ∀ {ts : List Addr} {ms : Po} {t : Addr} {m : Mono × Int}, TermsAt H ts ms → TermAt H t m → TermsAt H (ts ++ [t]) (ms ++ [m])
  | _, _, _, _, .nil, h => .cons h .nil
  | _, _, _, _, .cons a r, h => .cons a (terms_snoc r h)
theorem take_filter {cs : Po} {i : Nat} {m : Mono × Int} (p : Mono × Int → Bool) (h : cs[i]? = some m) : (cs.take (i + 1)).filter p = (cs.take i).filter p ++ (if p m then [m] else []) := by
  rw [List.take_add_one, h]
  simp only [Option.toList_some, List.filter_append, List.filter_cons, List.filter_nil]
theorem filter_le {cs : Po} (p : Mono × Int → Bool) (i : Nat) : ((cs.take i).filter p).length ≤ cs.length :=
  Nat.le_trans (List.length_filter_le ..) (by rw [List.length_take]; omega)

section
variable {K : PySem.W.Frag}
/-- [(k, v) for k, v in d.items() if v != 0], d a dict of numbers by powers, locked meanwhile -/
theorem items_comp {σ : L2.St} {H : Hp} {Q : VK} {s i j : Nat} {vs : List Nat} {d : Addr} {cs : Po} (hs : σ[s]? = some (some (.ref d))) (hd : H d = some (.dT (encC cs))) (hz : cs.length < sizeLine)
    (hw : ∀ x y : V, wipe (((wipe σ vs).set i (some x)).set j (some y)) vs = wipe σ vs) (hi : ∀ x y : V, (((wipe σ vs).set i (some x)).set j (some y))[i]? = some (some x)) (hj : ∀ x y : V, (((wipe σ vs).set i (some x)).set j (some y))[j]? = some (some y))
    (q : ∀ (D : Addr) (ts : List Addr) (H' : Hp), H D = none → Same H H' → H' D = some (.lst (ts.map V.ref)) → TermsAt H' ts (cs.filter fun t => t.2 != 0) → Q (.ref D) H') :
    tLockE (tLc (iItemsT (tVar s)) (gTup K 2 (gCons (gName i) (gCons (gName j) gNil))) (tTest (tOp rNe (tVar j) (tC (.int 0)))) (tTup (tCons (tVar i) (tCons (tVar j) tNil))) vs) σ H Q := by
  refine ⟨d, _, hd, trivial, fun od => ?_⟩
  refine ⟨_, hs, d, od, _, rfl, upd_same, fun D hD => ?_⟩
  have nDd : D ≠ d := fun e => by rw [e, upd_same] at hD; cases hD
  refine lc_it walk_itemsT (fun k H' => ∃ ts, H' D = some (.lst (ts.map V.ref)) ∧ TermsAt H' ts ((cs.take k).filter fun t => t.2 != 0) ∧ Same (upd H d (.frz od (.dT (encC cs)))) H')
    ⟨[], upd_same, by rw [List.take_zero]; exact .nil, same_new hD⟩ (fun k H' _ ⟨_, _, _, s'⟩ => s' _ _ upd_same) ?_ ?_
  · rintro k x H1 H2 hk ⟨ts, h1, ht, s1⟩ ⟨T, kk, v, p, hkv, rfl, hT, hp, rfl⟩
    obtain ⟨m, hm, rfl, rfl⟩ := encC_get hkv
    rw [keyN_kV] at hp
    refine g_pair upd_same ⟨hw _ _, ?_⟩
    have sT := same_new (o := .tup [.ref p, .int m.2]) hT
    refine ⟨_, hj _ _, rfl, _, rfl, ?_⟩
    have e1 := take_filter (fun t => t.2 != 0) hm
    by_cases e : m.2 = 0
    · have e2 : (!decide (V.int m.2 = V.int 0)) = false := by rw [decide_eq_true (by rw [e])]; rfl
      rw [e2]
      refine iteF ⟨ts, sT _ _ h1, ?_, s1.trans sT⟩
      rw [e1, if_neg (by simpa using e), List.append_nil]
      exact TermsAt.same sT ht
    · have e2 : (!decide (V.int m.2 = V.int 0)) = true := by rw [decide_eq_false (fun z => e (V.int.inj z))]; rfl
      rw [e2]
      refine iteT ⟨_, hi _ _, _, hj _ _, by show 2 ≤ sizeLine; decide, fun t ht' => ?_⟩
      have st := sT.trans (same_new (o := .tup [.ref p, .int m.2]) ht')
      have hD4 : (upd (upd H1 T (.tup [.ref p, .int m.2])) t (.tup [.ref p, .int m.2])) D = some (.lst (ts.map V.ref)) := st _ _ h1
      have hnt : ∀ xs, (upd (upd H1 T (.tup [.ref p, .int m.2])) t (.tup [.ref p, .int m.2])) D ≠ some (.tup xs) := fun xs z => by rw [hD4] at z; cases z
      have hlen : ts.length = ((cs.take k).filter fun t => t.2 != 0).length := Paired.length ht
      have hfl := filter_le (cs := cs) (fun t => t.2 != 0) k
      refine ⟨_, hD4, by rw [List.length_map]; omega, ts ++ [t], by rw [upd_same, List.map_append]; rfl, ?_, ?_⟩
      · rw [e1, if_pos (by simpa using e)]
        exact terms_snoc (terms_but (TermsAt.same st ht) hnt) (term_but ⟨p, upd_same, st _ _ hp⟩ hnt)
      · intro b o hb
        have nb : b ≠ D := fun z => by rw [z, hD] at hb; cases hb
        rw [upd_ne nb]
        exact (s1.trans st) _ _ hb
  · rintro H1 ⟨ts, h1, ht, s1⟩
    rw [encC_len, List.take_length] at ht
    have hd1 := s1 _ _ (upd_same (H := H) (a := d))
    refine ⟨hd1, ?_⟩
    have hDn : H D = none := by
      rw [upd_ne nDd] at hD
      exact hD
    refine q D ts _ hDn (fun b o hb => ?_) (by rw [upd_ne nDd]; exact h1) (terms_but ht fun xs z => by rw [hd1] at z; cases z)
    by_cases e : b = d
    · subst e
      rw [hd] at hb
      cases hb
      exact upd_same
    · rw [upd_ne e]
      exact s1 _ _ (by rw [upd_ne e]; exact hb)
/-- sorted(.., reverse=True) of such a list: what gathered tells; the list is new -/
theorem sort_tail {H H0 : Hp} {Q : VK} {D : Addr} {ts : List Addr} {cs : Po} (s0 : Same H0 H) (hD : H D = some (.lst (ts.map V.ref))) (ht : TermsAt H ts (cs.filter fun t => t.2 != 0))
    (q : ∀ (p : Addr) (ts' : List Addr) (L : Po) (H' : Hp), H0 p = none → Same H0 H' → H' p = some (.lst (ts'.map V.ref)) → TermsAt H' ts' L → Gat cs L → Q (.ref p) H') :
    rSortT K [.ref D] [.bl true] H Q := by
  refine ⟨D, ts, _, rfl, rfl, SqL.of hD, ht, fun p ts' L hp ht' hn => ?_⟩
  exact q p ts' L _ (s0.free hn) (s0.trans (same_new hn)) upd_same (TermsAt.same (same_new hn) ht') hp
end
/-- a polynomial with these worths and sizes -/
def PyV (φ : (Nat → Rat) → Rat) (n b e : Nat) : Pd := fun v H => ∃ L, PoV L v H ∧ (∀ f, ev f L = φ f) ∧ Pb n b e L
theorem stb_py (φ : (Nat → Rat) → Rat) (n b e : Nat) : Stb (PyV φ n b e) := fun _ _ _ s ⟨L, p, h⟩ => ⟨L, stb_po L _ _ _ s p, h⟩
theorem PyV.mono {φ : (Nat → Rat) → Rat} {n b e n' b' e' : Nat} {v : V} {H : Hp} (h : PyV φ n b e v H) (h1 : n ≤ n') (h2 : b ≤ b') (h3 : e ≤ e') : PyV φ n' b' e' v H := let ⟨L, p, q, r⟩ := h; ⟨L, p, q, r.mono h1 h2 h3⟩

section
variable {P : Program} {w : World} {K : PySem.W.Frag} {mg : Str → Option Value} {base : Heap}
/-! ### gathered -/
abbrev s_gathered : Stmt := top 12
theorem sc_gathered : FnScope ["counts", "powers", "number"] ["counts"] (defScope s_gathered) := ⟨rfl, rfl, rfl, by decide +kernel, rfl, by decide +kernel, by decide +kernel⟩
def sp_gathered : Sp := fun vs H Q _ => ∃ (d : Addr) (cs : Po), vs = [.ref d] ∧ H d = some (.dT (encC cs)) ∧ cs.length ≤ 10000000 ∧ ∀ v H' L, Same H H' → Gat cs L → PoV L v H' → Q v H'
theorem small7 {n : Nat} (h : n ≤ 10000000) : n < sizeLine := Nat.lt_of_le_of_lt h (by decide)
theorem ok_gathered (R : Raw K mg "gathered" s_gathered) (B : Bi mg) : Def P w K mg base "gathered" 1 ["counts"] sp_gathered := by
  refine def_mk R sc_gathered (fun vs H Q E h => ?_) (fun _ _ _ _ _ _ us hl => match us, hl with | [_], _ => rfl) (fun f cdv A outer s H vs Q E hr h => ?_)
  · obtain ⟨d, cs, rfl, _⟩ := h
    rfl
  obtain ⟨d, cs, rfl, hd, hz, kq⟩ := h
  refine ⟨_, (pss_one (ps_ret (pe_callBK (cr_sortT hr.units) (by rfl) B.sorted (by decide +kernel) (pa_cons (pe_lock (pe_lc (own := [("powers", 1), ("number", 2)]) rfl sc_gathered.nd (pi_itemsT (pv 0)) (blkOk_by (own := [("powers", 1), ("number", 2)]) (N := ["counts", "powers", "number"]) (sc := defScope s_gathered) (by decide +kernel)) (fun _ _ _ _ _ => (pg_pair (K := K) (i := 1) (j := 2) rfl rfl sc_gathered.nd rfl rfl rfl rfl)) (fun _ _ _ _ _ => (pts_one (pt_cmpR op_ne (pv 2) pe_int (nomark _)))) (fun _ _ _ _ _ => (pe_tup (pa_cons (pv 1) (pa_cons (pv 2) pa_nil)))))) pa_nil) (pk_cons pe_bl pk_nil)))), ?_⟩
  refine items_comp (s := 0) rfl hd (small7 hz) (fun _ _ => rfl) (fun _ _ => rfl) (fun _ _ => rfl) fun D ts H' hDn s' hD ht => ?_
  refine sort_tail s' hD ht fun p ts' L H2 hp s2 h2 ht2 g => ?_
  exact kq _ _ L s2 g ⟨p, ts', rfl, h2, ht2⟩
/-! ### poly_free -/
abbrev s_poly_free : Stmt := top 13
theorem sc_poly_free : FnScope ["k"] ["k"] (defScope s_poly_free) := ⟨rfl, rfl, rfl, by decide +kernel, rfl, by decide +kernel, by decide +kernel⟩
theorem mon_zeros (f : Nat → Rat) : ∀ (k i : Nat) (ps : Mono), mon f i (List.replicate k 0 ++ ps) = mon f (i + k) ps
  | 0, i, ps => by simp
  | k + 1, i, ps => by
    rw [List.replicate_succ, List.cons_append, mon, mon_zeros f k, Rat.pow_zero, Rat.one_mul]
    congr 1
    omega
theorem py_free {k : Nat} (hk : k ≤ 5) {v : V} {H : Hp} (h : PoV [(List.replicate k 0 ++ [1], 1)] v H) : PyV (fun f => f k) 1 0 1 v H := by
  refine ⟨_, h, fun f => ?_, ⟨by simp [keys], by simp, by simp [norm], ?_⟩⟩
  · rw [ev_cons, ev_nil, mon_zeros, mon, mon]
    simp [Rat.pow_succ, Rat.pow_zero, Rat.mul_one, Rat.one_mul, Rat.add_zero]
  · intro t ht
    rw [List.mem_singleton] at ht
    subst ht
    refine ⟨by simp; omega, fun p hp => ?_⟩
    rcases List.mem_append.mp hp with q | q
    · have := (List.mem_replicate.mp q).2
      omega
    · rw [List.mem_singleton] at q
      omega
def sp_poly_free : Sp := fun vs H Q _ => ∃ k : Nat, vs = [.int (k : Int)] ∧ k ≤ 5 ∧ ∀ v H', Same H H' → PyV (fun f => f k) 1 0 1 v H' → Q v H'
theorem ok_poly_free (R : Raw K mg "poly_free" s_poly_free) : Def P w K mg base "poly_free" 1 ["k"] sp_poly_free := by
  refine def_mk R sc_poly_free (fun vs H Q E h => ?_) (fun _ _ _ _ _ _ us hl => match us, hl with | [_], _ => rfl) (fun f cdv A outer s H vs Q E hr h => ?_)
  · obtain ⟨k, rfl, _⟩ := h
    rfl
  obtain ⟨k, rfl, hk, kq⟩ := h
  refine ⟨_, (pss_one (ps_ret (pe_lst (pa_cons (pe_tup (pa_cons (pe_op op_catA (pe_op op_repT2 (pe_tup (pa_cons pe_int pa_nil)) (pv 0)) (pe_tup (pa_cons pe_int pa_nil))) (pa_cons pe_int pa_nil))) pa_nil)))), ?_⟩
  -- behind the powers
  have tail : ∀ (p : Addr) (H1 : Hp), Same H H1 → H1 p = some (.tup ((List.replicate k 0 ++ [1]).map nV)) →
      ((tC (.int 1) : TE) (start ["k"] [V.int (k : Int)]) H1 fun x H2 => [V.ref p, x].length ≤ sizeLine ∧ ∀ q, H2 q = none → [V.ref q].length ≤ sizeLine ∧ ∀ r, (upd H2 q (.tup [V.ref p, x])) r = none → Q (.ref r) (upd (upd H2 q (.tup [V.ref p, x])) r (.lst [.ref q]))) := by
    intro p H1 s1 hp
    refine ⟨by show 2 ≤ sizeLine; decide, fun q hq => ⟨by show 1 ≤ sizeLine; decide, fun r hr' => ?_⟩⟩
    have s2 := same_new (o := .tup [V.ref p, .int 1]) hq
    have s3 := same_new (o := .lst [.ref q]) hr'
    refine kq _ _ (s1.trans (s2.trans s3)) (py_free hk ⟨r, [q], rfl, upd_same, .cons ⟨p, s3 _ _ upd_same, s3 _ _ (s2 _ _ hp)⟩ .nil⟩)
  refine ⟨by show 1 ≤ sizeLine; decide, fun a ha => ⟨_, rfl, a, (k : Int), [.int 0], rfl, rfl, SqT.of upd_same, by simp, by omega, by omega, by show 1 ≤ 1000; decide, fun e1 => ?_, fun e1 p hp => ?_⟩⟩
  · have e : k = 1 := by omega
    subst e
    refine ⟨by show 1 ≤ sizeLine; decide, fun c hc => ⟨a, c, [.int 0], [.int 1], rfl, rfl, SqT.of (same_new hc _ _ upd_same), SqT.of upd_same, by show 2 ≤ sizeLine; decide, fun z => (by cases z), fun _ z => (by cases z), fun _ _ r hr' => ?_⟩⟩
    exact tail r _ ((same_new ha).trans ((same_new hc).trans (same_new hr'))) upd_same
  · have fl : (List.replicate ((k : Nat) : Int).toNat [V.int 0]).flatten = (List.replicate k 0).map nV := by
      rw [Int.toNat_natCast]
      have : ∀ m : Nat, (List.replicate m [V.int 0]).flatten = (List.replicate m 0).map nV := fun m => by
        induction m with
        | zero => rfl
        | succ m ih => rw [List.replicate_succ, List.flatten_cons, ih, List.replicate_succ]; rfl
      exact this k
    rw [fl] at *
    have s1 := (same_new (o := .tup [V.int 0]) ha).trans (same_new (o := .tup ((List.replicate k 0).map nV)) hp)
    refine ⟨by show 1 ≤ sizeLine; decide, fun c hc => ⟨p, c, (List.replicate k 0).map nV, [.int 1], rfl, rfl, SqT.of (same_new hc _ _ upd_same), SqT.of upd_same, by simp; exact Nat.le_of_lt (small1000 (by omega)), fun z => ?_, fun _ z => (by cases z), fun _ _ r hr' => ?_⟩⟩
    · have e : k = 0 := by simpa using z
      subst e
      exact tail c _ (s1.trans (same_new hc)) upd_same
    · refine tail r _ (s1.trans ((same_new hc).trans (same_new hr'))) ?_
      rw [upd_same, List.map_append]
      rfl
end
end ED

/-! Sums, differences, products of polynomials. -/
namespace ED
open PySem PySem.Spec PyProof.Rows L2 ER EM

section
variable {K : PySem.W.Frag}
theorem manyP_take {L : Po} {k : Int} {i : Nat} {m : Mono × Int} (h : L[i]? = some m) : manyP (L.take (i + 1)) k = manyP (L.take i) k ++ (if k = 0 then [] else [(m.1, m.2 * k)]) := by
  unfold manyP
  split
  · rfl
  · unfold scaled
    rw [List.take_add_one, h]
    simp
theorem manyP_len (L : Po) (k : Int) (i : Nat) : (manyP (L.take i) k).length ≤ L.length := by
  unfold manyP
  split
  · exact Nat.zero_le _
  · unfold scaled
    rw [List.length_map, List.length_take]; omega
/-- [(p, c * k) for p, c in xs if k != 0] -/
theorem scaled_comp {σ : L2.St} {H : Hp} {Q : VK} {tl : TE} {a : Addr} {ts : List Addr} {L : Po} {k : Int} {s i j c1 c2 : Nat} {vs : List Nat} (htl : ∀ Q' : VK, Q' (.ref a) H → tl σ H Q') (ha : H a = some (.lst (ts.map V.ref))) (ht : TermsAt H ts L) (hz : L.length < sizeLine)
    (hb : ∀ m ∈ L, m.2.natAbs < 2 ^ c1) (hk : k.natAbs < 2 ^ c2) (h1 : 0 < c1) (h2 : 0 < c2) (h12 : c1 + c2 ≤ 1000000)
    (hw : ∀ x y : V, wipe (((wipe σ vs).set i (some x)).set j (some y)) vs = wipe σ vs) (hi : ∀ x y : V, (((wipe σ vs).set i (some x)).set j (some y))[i]? = some (some x)) (hj : ∀ x y : V, (((wipe σ vs).set i (some x)).set j (some y))[j]? = some (some y))
    (hs : ∀ x y : V, (((wipe σ vs).set i (some x)).set j (some y))[s]? = some (some (.int k)))
    (q : ∀ (D : Addr) (ts' : List Addr) (H' : Hp), H D = none → Same H H' → H' D = some (.lst (ts'.map V.ref)) → TermsAt H' ts' (manyP L k) → Q (.ref D) H') :
    tLc (iList K tl) (gTup K 2 (gCons (gName i) (gCons (gName j) gNil))) (tTest (tOp rNe (tVar s) (tC (.int 0)))) (tTup (tCons (tVar i) (tCons (tOp (rI CMulW fun i j => .int (i * j)) (tVar j) (tVar s)) tNil))) vs σ H Q := by
  refine htl _ ⟨a, rfl, ⟨_, SqL.of ha⟩, fun D hD => ?_⟩
  have sD := same_new (o := .lst []) hD
  have hlen : ts.length = L.length := Paired.length ht
  refine lc_it (walk_list (xs := ts.map V.ref)) (fun n H' => ∃ ts', H' D = some (.lst (ts'.map V.ref)) ∧ TermsAt H' ts' (manyP (L.take n) k) ∧ Same H H')
    ⟨[], upd_same, by rw [List.take_zero]; unfold manyP scaled; split <;> exact .nil, sD⟩ (fun n H' _ ⟨_, _, _, s'⟩ => SqL.of (s' _ _ ha)) ?_ ?_
  · rintro n x H1 H2 hn ⟨ts', h1', ht', s1⟩ ⟨rfl, hx⟩
    obtain ⟨t, htt, rfl⟩ : ∃ t, ts[n]? = some t ∧ x = V.ref t := by
      rw [List.getElem?_map] at hx
      cases h : ts[n]? with
      | none => rw [h] at hx; cases hx
      | some t => rw [h] at hx; exact ⟨t, rfl, (Option.some.inj hx).symm⟩
    obtain ⟨m, hm, p, hp1, hp2⟩ := paired_get ht htt
    refine g_pair (s1 _ _ hp1) ⟨hw _ _, ?_⟩
    refine ⟨_, hs _ _, rfl, _, rfl, ?_⟩
    have e1 := manyP_take (k := k) hm
    by_cases e : k = 0
    · have e2 : (!decide (V.int k = V.int 0)) = false := by rw [decide_eq_true (by rw [e])]; rfl
      rw [e2]
      refine iteF ⟨ts', h1', ?_, s1⟩
      rw [e1, if_pos e, List.append_nil]
      exact ht'
    · have e2 : (!decide (V.int k = V.int 0)) = true := by rw [decide_eq_false (fun z => e (V.int.inj z))]; rfl
      rw [e2]
      refine iteT ⟨_, hi _ _, _, hj _ _, _, hs _ _, _, _, rfl, rfl, wide_mul (hb m (List.mem_of_getElem? hm)) hk h1 h2 h12, by show 2 ≤ sizeLine; decide, fun t' ht2 => ?_⟩
      have st := same_new (o := .tup [.ref p, .int (m.2 * k)]) ht2
      have hD4 := st _ _ h1'
      have hnt : ∀ xs, (upd H2 t' (.tup [.ref p, .int (m.2 * k)])) D ≠ some (.tup xs) := fun xs z => by rw [hD4] at z; cases z
      have hl2 : ts'.length = (manyP (L.take n) k).length := Paired.length ht'
      have hl3 := manyP_len L k n
      refine ⟨_, hD4, by rw [List.length_map]; omega, ts' ++ [t'], by rw [upd_same, List.map_append]; rfl, ?_, ?_⟩
      · rw [e1, if_neg e]
        exact terms_snoc (terms_but (TermsAt.same st ht') hnt) (term_but ⟨p, upd_same, st _ _ (s1 _ _ hp2)⟩ hnt)
      · intro b o hb'
        have nb : b ≠ D := fun z => by rw [z, hD] at hb'; cases hb'
        rw [upd_ne nb]
        exact (s1.trans st) _ _ hb'
  · rintro H1 ⟨ts', h1', ht', s1⟩
    rw [List.length_map, hlen, List.take_length] at ht'
    exact q D ts' H1 hD s1 h1' ht'
/-- counts[k] = counts.get(k, 0) + c -/
theorem put_add {σ : L2.St} {H : Hp} {Dn : Ends} {tn : TE} {sd sk : Nat} {d p : Addr} {cs : Po} {m : Mono} {c : Int} (hd : σ[sd]? = some (some (.ref d))) (hH : H d = some (.dT (encC cs))) (hk : σ[sk]? = some (some (.ref p))) (hp : H p = some (.tup (m.map nV)))
    (hn : ∀ Q' : VK, Q' (.int c) H → tn σ H Q') (hz : cs.length < sizeLine) (q : Dn.nx σ (upd H d (.dT (encC (addC cs (m, c)))))) :
    sDPut (tVar sd) (tVar sk) (tOp (rI0 fun i j => .int (i + j)) (tDGet2 (tVar sd) (tVar sk) (tC (.int 0))) tn) Dn σ H := by
  have hp' : H p = some (.tup ((keyN m).map kV)) := by rw [keyN_kV]; exact hp
  refine ⟨_, hd, d, rfl, .inr ⟨_, .inl hH⟩, _, hk, _, DGet.t hH hp', hn _ ⟨numC cs m, c, ?_, rfl, ?_⟩⟩
  · rw [encC_val]
    unfold numC
    cases lookC cs m <;> rfl
  · refine ⟨_, hd, _, hk, d, _, rfl, DPut.t hH hp' (by rw [encC_len]; exact hz), ?_⟩
    rw [encC_put]
    exact q
end
section
variable {P : Program} {w : World} {K : PySem.W.Frag} {mg : Str → Option Value} {base : Heap}
/-! ### poly_scaled -/
abbrev s_poly_scaled : Stmt := top 14
theorem sc_poly_scaled : FnScope ["some", "many", "powers", "number"] ["some", "many"] (defScope s_poly_scaled) := ⟨rfl, rfl, rfl, by decide +kernel, rfl, by decide +kernel, by decide +kernel⟩
def sp_poly_scaled : Sp := fun vs H Q _ => ∃ (x : V) (φ : (Nat → Rat) → Rat) (n b e j : Nat) (k : Int), vs = [x, .int k] ∧ PyV φ n b e x H ∧ k.natAbs ≤ 2 ^ j ∧ n ≤ 1000000 ∧ b ≤ 10000 ∧ j ≤ 10000 ∧ ∀ v H', Same H H' → PyV (fun f => (k : Rat) * φ f) n (b + j) e v H' → Q v H'
theorem lt_pow1 {a b : Nat} (h : a ≤ 2 ^ b) : a < 2 ^ (b + 1) := Nat.lt_of_le_of_lt h (Nat.pow_lt_pow_right (by decide) (Nat.lt_succ_self _))
theorem pb_coef {n b e : Nat} {L : Po} (h : Pb n b e L) : ∀ m ∈ L, m.2.natAbs < 2 ^ (b + 1) := fun m hm => lt_pow1 (Nat.le_trans (natAbs_le_norm hm) h.nm)
theorem ok_poly_scaled (R : Raw K mg "poly_scaled" s_poly_scaled) : Def P w K mg base "poly_scaled" 1 ["some", "many"] sp_poly_scaled := by
  refine def_mk R sc_poly_scaled (fun vs H Q E h => ?_) (fun _ _ _ _ _ _ us hl => match us, hl with | [_, _], _ => rfl) (fun f cdv A outer s H vs Q E hr h => ?_)
  · obtain ⟨x, φ, n, b, e, j, k, rfl, _⟩ := h
    rfl
  obtain ⟨x, φ, n, b, e, j, k, rfl, ⟨L, ⟨a, ts, rfl, ha, ht⟩, hφ, hL⟩, hk, hn, hb, hj, kq⟩ := h
  refine ⟨_, (pss_one (ps_ret (pe_lc (own := [("powers", 2), ("number", 3)]) rfl sc_poly_scaled.nd (pi_list (pv 0)) (blkOk_by (own := [("powers", 2), ("number", 3)]) (N := ["some", "many", "powers", "number"]) (sc := defScope s_poly_scaled) (by decide +kernel)) (fun _ _ _ _ _ => (pg_pair (K := K) (i := 2) (j := 3) rfl rfl sc_poly_scaled.nd rfl rfl rfl rfl)) (fun _ _ _ _ _ => (pts_one (pt_cmpR op_ne (pv 1) pe_int (nomark _)))) (fun _ _ _ _ _ => (pe_tup (pa_cons (pv 2) (pa_cons (pe_op op_mulW (pv 3) (pv 1)) pa_nil))))))), ?_⟩
  refine scaled_comp (s := 1) (fun Q' q' => ⟨_, rfl, q'⟩) ha ht (small7 (by have := hL.len; omega)) (pb_coef hL) (lt_pow1 hk) (Nat.succ_pos _) (Nat.succ_pos _) (by omega) (fun _ _ => rfl) (fun _ _ => rfl) (fun _ _ => rfl) (fun _ _ => rfl) fun D ts' H' hD s' hD' ht' => ?_
  have ms := many_spec hL hk
  exact kq _ _ s' ⟨_, ⟨D, ts', rfl, hD', ht'⟩, fun f => by rw [ms.1, hφ], ms.2⟩
/-! ### poly_sum -/
abbrev s_poly_sum : Stmt := top 15
theorem sc_poly_sum : FnScope ["one", "other", "counts", "powers", "number"] ["one", "other"] (defScope s_poly_sum) := ⟨rfl, rfl, rfl, by decide +kernel, rfl, by decide +kernel, by decide +kernel⟩
def sp_poly_sum : Sp := fun vs H Q _ => ∃ (x y : V) (φ ψ : (Nat → Rat) → Rat) (n b e n' b' e' : Nat), vs = [x, y] ∧ PyV φ n b e x H ∧ PyV ψ n' b' e' y H ∧ n + n' ≤ 1000000 ∧ ∀ v H', Same H H' → PyV (fun f => φ f + ψ f) (n + n') (max b b' + 1) (max e e') v H' → Q v H'
theorem pairs_terms {H : Hp} : ∀ {ts : List Addr} {L : Po}, TermsAt H ts L → Paired (PairT H) ts (encC L)
  | _, _, .nil => .nil
  | _, _, .cons (b := m) ⟨p, a, b⟩ t => .cons ⟨p, a, by show H p = some (.tup ((keyN m.1).map kV)); rw [keyN_kV]; exact b⟩ (pairs_terms t)
theorem fillC_take {cs L : Po} {i : Nat} {m : Mono × Int} (h : L[i]? = some m) : fillC cs (L.take (i + 1)) = addC (fillC cs (L.take i)) m := by
  unfold fillC
  rw [List.take_add_one, h]
  simp
theorem ok_poly_sum (R : Raw K mg "poly_sum" s_poly_sum) (B : Bi mg) (d_gathered : Def P w K mg base "gathered" 1 ["counts"] sp_gathered) : Def P w K mg base "poly_sum" 2 ["one", "other"] sp_poly_sum := by
  refine def_mk R sc_poly_sum (fun vs H Q E h => ?_) (fun _ _ _ _ _ _ us hl => match us, hl with | [_, _], _ => rfl) (fun f cdv A outer s H vs Q E hr h => ?_)
  · obtain ⟨x, y, φ, ψ, n, b, e, n', b', e', rfl, _⟩ := h
    rfl
  obtain ⟨x, y, φ, ψ, n, b, e, n', b', e', rfl, ⟨L, ⟨a, ts, rfl, ha, ht⟩, hφ, hL⟩, ⟨M, ⟨c, us, rfl, hc, hu⟩, hψ, hM⟩, hnn, kq⟩ := h
  refine ⟨_, (pss_cons (ps_set (i := 2) sc_poly_sum.nd rfl (Or.inl rfl) (pe_callTy (call_dictT rfl hr.units) (by rfl) B.dict (by decide +kernel) (pa_cons (pv 0) pa_nil)))
      (pss_cons (ps_for PassesOwn.never rfl (pi_list (pv 1)) (pg_tup rfl (pgs_cons (pg_name (i := 3) sc_poly_sum.nd rfl (.inl rfl)) (pgs_cons (pg_name (i := 4) sc_poly_sum.nd rfl (.inl rfl)) pgs_nil))) (pss_one (ps_dput (hu_of hr) (pv 2) (pv 3) (pe_op op_add (pe_dget2 (hu_of hr) (pv 2) (pv 3) pe_int ⟨rfl, rfl, rfl, rfl⟩) (pv 4)) rfl)))
      (pss_one (ps_ret (pe_def d_gathered hr (by rfl) (pa_cons (pv 2) pa_nil)))))), ?_⟩
  refine ⟨_, rfl, a, ts, encC L, rfl, SqL.of ha, pairs_terms ht, encC_nodup hL.nd, fun d hd => ?_⟩
  have sd := same_new (o := .dT (encC L)) hd
  have hlen : us.length = M.length := Paired.length hu
  have px : Pc n (2 ^ b) (max e e') L := (hL.mono (Nat.le_refl _) (Nat.le_refl _) (Nat.le_max_left e e')).pc
  have py : ∀ t ∈ M, t.1.length ≤ 6 ∧ ∀ p ∈ t.1, p ≤ max e e' := (hM.mono (Nat.le_refl _) (Nat.le_refl _) (Nat.le_max_right e e')).pw
  have fl : ∀ i, (fillC L (M.take i)).length ≤ 1000000 := fun i => by
    have h1 := (fillC_ok (M.take i) px fun t h => py t (List.mem_of_mem_take h)).len
    have h2 : (M.take i).length ≤ M.length := by rw [List.length_take]; omega
    have := hM.len
    omega
  refine ⟨_, rfl, c, rfl, ⟨_, SqL.of (sd _ _ hc)⟩, for_list (K := K) (a := c) (xs := us.map V.ref) (fun i σ H' => ∃ u v, σ = [some (.ref a), some (.ref c), some (.ref d), u, v] ∧ Same H H' ∧ H' d = some (.dT (encC (fillC L (M.take i)))))
    ⟨none, none, rfl, sd, by rw [upd_same]; rfl⟩ (fun i σ H' _ ⟨_, _, _, s', _⟩ => SqL.of (s' _ _ hc)) ?_ ?_⟩
  · rintro i v σ H' hi ⟨u, v', rfl, s', hd'⟩
    obtain ⟨t, htt, rfl⟩ : ∃ t, us[i]? = some t ∧ v = V.ref t := by
      rw [List.getElem?_map] at hi
      cases h : us[i]? with
      | none => rw [h] at hi; cases hi
      | some t => rw [h] at hi; exact ⟨t, rfl, (Option.some.inj hi).symm⟩
    obtain ⟨m, hm, p, hp1, hp2⟩ := paired_get hu htt
    refine g_pair (s' _ _ hp1) ?_
    refine put_add (sd := 2) (sk := 3) (c := m.2) (m := m.1) rfl hd' rfl (s' _ _ hp2) (fun Q' q' => ⟨_, rfl, q'⟩) (small7 (Nat.le_trans (fl i) (by decide))) ?_
    refine ⟨_, _, rfl, fun b o hb => ?_, ?_⟩
    · have nb : b ≠ d := fun z => by rw [z, hd] at hb; cases hb
      rw [upd_ne nb]
      exact s' _ _ hb
    · rw [upd_same, fillC_take hm]
  · rintro σ H' ⟨u, v, rfl, s', hd'⟩
    rw [List.length_map, hlen, List.take_length] at hd'
    have := fl M.length
    rw [List.take_length] at this
    refine ⟨_, rfl, d, _, rfl, hd', by omega, fun v2 H2 R2 s2 g p2 => ?_⟩
    have sp := sum_spec hL hM g
    exact kq _ _ (s'.trans s2) ⟨R2, p2, fun f => by rw [sp.1, hφ, hψ], sp.2⟩
/-! ### poly_less -/
abbrev s_poly_less : Stmt := top 16
theorem sc_poly_less : FnScope ["one", "other"] ["one", "other"] (defScope s_poly_less) := ⟨rfl, rfl, rfl, by decide +kernel, rfl, by decide +kernel, by decide +kernel⟩
def sp_poly_less : Sp := fun vs H Q _ => ∃ (x y : V) (φ ψ : (Nat → Rat) → Rat) (n b e n' b' e' : Nat), vs = [x, y] ∧ PyV φ n b e x H ∧ PyV ψ n' b' e' y H ∧ n + n' ≤ 1000000 ∧ b' ≤ 10000 ∧ ∀ v H', Same H H' → PyV (fun f => φ f - ψ f) (n + n') (max b b' + 1) (max e e') v H' → Q v H'
theorem ok_poly_less (R : Raw K mg "poly_less" s_poly_less) (d_poly_sum : Def P w K mg base "poly_sum" 2 ["one", "other"] sp_poly_sum) (d_poly_scaled : Def P w K mg base "poly_scaled" 1 ["some", "many"] sp_poly_scaled) : Def P w K mg base "poly_less" 3 ["one", "other"] sp_poly_less := by
  refine def_mk R sc_poly_less (fun vs H Q E h => ?_) (fun _ _ _ _ _ _ us hl => match us, hl with | [_, _], _ => rfl) (fun f cdv A outer s H vs Q E hr h => ?_)
  · obtain ⟨x, y, φ, ψ, n, b, e, n', b', e', rfl, _⟩ := h
    rfl
  obtain ⟨x, y, φ, ψ, n, b, e, n', b', e', rfl, hx, hy, hnn, hb', kq⟩ := h
  refine ⟨_, (pss_one (ps_ret (pe_def d_poly_sum hr (by rfl) (pa_cons (pv 0) (pa_cons (pe_def d_poly_scaled hr (by rfl) (pa_cons (pv 1) (pa_cons (pe_un un_neg pe_int) pa_nil))) pa_nil))))), ?_⟩
  have e1 : Ev (tCall sp_poly_scaled [] E0 (tCons (tVar 1) (tCons (tUn (rU fun i => .int (-i)) (tC (.int 1))) tNil))) (start ["one", "other"] [x, y]) H (PyV (fun f => (((-1 : Int) : Int) : Rat) * ψ f) n' (b' + 0) e') :=
    ev_call2 (ev_var rfl (stb_py ψ n' b' e') hy) (ev_un (P1 := IsI 1) (P := IsI (-1)) (ev_int 1) fun x H1 _ e Q q => ⟨1, e, q _ _ (Same.refl _) rfl⟩) (stb_py ψ n' b' e') fun x1 y1 H1 _ p1 p2 Q q => ⟨x1, ψ, n', b', e', 0, -1, by rw [p2], p1, by decide, by omega, hb', by decide, q⟩
  refine s_ret (P := PyV (fun f => φ f - ψ f) (n + n') (max b b' + 1) (max e e')) (ev_call2 (ev_var rfl (stb_py φ n b e) hx) e1 (stb_py φ n b e) fun x1 y1 H1 _ p1 p2 Q q => ?_) kq
  refine ⟨x1, y1, φ, _, n, b, e, n', b' + 0, e', rfl, p1, p2, hnn, fun v H2 s2 p3 => q v H2 s2 ?_⟩
  obtain ⟨L, hl, he, hp⟩ := p3
  refine ⟨L, hl, fun f => ?_, hp⟩
  rw [he]
  have : (((-1 : Int) : Int) : Rat) = -1 := rfl
  rw [this]
  grind
end
end ED

/-! Powers added, products of polynomials. -/
namespace ED
open PySem PySem.Spec PyProof.Rows L2 ER EM

theorem t_yes {σ : L2.St} {H : Hp} {A B : Hp → Prop} (h : A H) : tYes σ H fun b H3 => if b = true then A H3 else B H3 := (iteT (A := A H) (B := B H) h : if true = true then A H else B H)
theorem walk_zipT {K : PySem.W.Frag} {a b : Addr} {xs ys : List V} {n : Nat} (hn : n = min xs.length ys.length) : Walk (RZ.ItzT K a b) n (fun H => SqT K H a xs ∧ SqT K H b ys) (YPair (fun i => xs[i]?) (fun i => ys[i]?)) := by
  subst hn
  refine ⟨fun i _ hi q => ?_, fun _ q => ⟨xs, ys, q.1, q.2, by omega⟩, fun i H v H' _ q y => ?_⟩
  · have h1 : i < xs.length := by omega
    have h2 : i < ys.length := by omega
    exact ⟨xs, ys, xs[i], ys[i], q.1, q.2, by simp [h1], by simp [h2]⟩
  · obtain ⟨T, x, z, h1, h2, h3, h4, h5⟩ := y
    exact ⟨T, x, z, h1, h2, h3, h4 xs q.1, h5 ys q.2⟩
/-- the sums place by place -/
def zsum (a b : Mono) : Mono := (a.zip b).map fun p => p.1 + p.2
theorem zsum_len (a b : Mono) : (zsum a b).length = min a.length b.length := by simp [zsum]
theorem zsum_take {a b : Mono} {i x y : Nat} (hx : a[i]? = some x) (hy : b[i]? = some y) : (zsum a b).take (i + 1) = (zsum a b).take i ++ [x + y] := by
  have h : (zsum a b)[i]? = some (x + y) := by
    unfold zsum
    have hz : (a.zip b)[i]? = some (x, y) := List.getElem?_zip_eq_some.mpr ⟨hx, hy⟩
    rw [List.getElem?_map, hz]
    rfl
  rw [List.take_add_one, h]
  rfl
section
variable {P : Program} {w : World} {K : PySem.W.Frag} {mg : Str → Option Value} {base : Heap}
/-! ### powers_sum -/
abbrev s_powers_sum : Stmt := top 17
theorem sc_powers_sum : FnScope ["one", "other", "left", "right"] ["one", "other"] (defScope s_powers_sum) := ⟨rfl, rfl, rfl, by decide +kernel, rfl, by decide +kernel, by decide +kernel⟩
def sp_powers_sum : Sp := fun vs H Q _ => ∃ (x y : V) (a b : Mono), vs = [x, y] ∧ PwV a x H ∧ PwV b y H ∧ a.length ≤ 1000 ∧ b.length ≤ 1000 ∧ ∀ v H', Same H H' → PwV (psum a b) v H' → Q v H'
theorem ok_powers_sum (R : Raw K mg "powers_sum" s_powers_sum) (B : Bi mg) : Def P w K mg base "powers_sum" 1 ["one", "other"] sp_powers_sum := by
  refine def_mk R sc_powers_sum (fun vs H Q E h => ?_) (fun _ _ _ _ _ _ us hl => match us, hl with | [_, _], _ => rfl) (fun f cdv A outer s H vs Q E hr h => ?_)
  · obtain ⟨x, y, a, b, rfl, _⟩ := h
    rfl
  obtain ⟨x, y, a, b, rfl, hx, hy, ha6, hb6, kq⟩ := h
  refine ⟨_, (pss_cons (ps_if (pt_cmpR op_lt (pe_callB call_len_seq (by rfl) B.len PySem.boot_len (pa_cons (pv 0) pa_nil)) (pe_callB call_len_seq (by rfl) B.len PySem.boot_len (pa_cons (pv 1) pa_nil)) (nomark _)) (pss_one (ps_par (i := 0) (j := 1) (by rfl) sc_powers_sum.nd rfl rfl (by decide) rfl rfl (pa_cons (pv 1) (pa_cons (pv 0) pa_nil)) (by rfl))) pss_nil)
      (pss_one (ps_ret (pe_op op_catA (pe_callTy call_tuple_of (by rfl) B.tuple (by decide +kernel) (pa_cons (pe_lc (own := [("left", 2), ("right", 3)]) rfl sc_powers_sum.nd (RZ.pi_zipA (by rfl) B.zip (pa_cons (pv 0) (pa_cons (pv 1) pa_nil))) (blkOk_by (own := [("left", 2), ("right", 3)]) (N := ["one", "other", "left", "right"]) (sc := defScope s_powers_sum) (by decide +kernel)) (fun _ _ _ _ _ => (pg_pair (K := K) (i := 2) (j := 3) rfl rfl sc_powers_sum.nd rfl rfl rfl rfl)) (fun _ _ _ _ _ => pts_nil) (fun _ _ _ _ _ => (pe_op op_add (pv 2) (pv 3)))) pa_nil)) (pe_slice sl_tupA (pv 0) (po_some (pe_callB call_len_seq (by rfl) B.len PySem.boot_len (pa_cons (pv 1) pa_nil))) po_none))))), ?_⟩
  -- behind the swap
  have main : ∀ (px py : Addr) (c d : Mono) (H1 : Hp), Same H H1 → H1 px = some (.tup (c.map nV)) → H1 py = some (.tup (d.map nV)) → d.length ≤ c.length → c.length ≤ 1000 → psum c d = psum a b →
      (tRet (tOp (rCatA K) (tCB (fun xs H Q => ∃ p ys, xs = [.ref p] ∧ ((SqL K H p ys ∧ ∀ l, H l = none → Q (.ref l) (upd H l (.tup ys))) ∨ (SqT K H p ys ∧ Q (.ref p) H)))
        (tCons (tLc (RZ.iZipA K (tCons (tVar 0) (tCons (tVar 1) tNil))) (gTup K 2 (gCons (gName 2) (gCons (gName 3) gNil))) tYes (tOp (rI0 fun i j => .int (i + j)) (tVar 2) (tVar 3)) [2, 3]) tNil))
        (tSl (rSlA K) (tVar 0) (tPart (tCB (rLen K) (tCons (tVar 1) tNil))) tNoPart))) { nx := fun _ H' => Q .non H', rt := Q } [some (.ref px), some (.ref py), none, none] H1 := by
    intro px py c d H1 s1 hpx hpy hdc hc1 hps
    have zl := zsum_len c d
    refine ⟨_, rfl, _, rfl, px, py, c.map nV, d.map nV, rfl, .inr ⟨SqT.of hpx, SqT.of hpy, fun D hD => ?_⟩⟩
    have sD := same_new (o := .lst []) hD
    refine lc_it (walk_zipT (n := (zsum c d).length) (by rw [zl, List.length_map, List.length_map])) (fun i H' => H' D = some (.lst (((zsum c d).take i).map nV)) ∧ Same H1 H') ⟨upd_same, sD⟩ (fun i H' _ ⟨_, s'⟩ => ⟨SqT.of (s' _ _ hpx), SqT.of (s' _ _ hpy)⟩) ?_ ?_
    · rintro i v H2 H3 hi ⟨h2, s2⟩ ⟨T, x', y', rfl, hT, rfl, ex, ey⟩
      rw [zl] at hi
      have hcx : c[i]? = some c[i] := List.getElem?_eq_getElem (by omega)
      have hdx : d[i]? = some d[i] := List.getElem?_eq_getElem (by omega)
      have ex' : x' = nV c[i] := by
        have ex : (c.map nV)[i]? = some x' := ex
        rw [List.getElem?_map, hcx] at ex
        exact (Option.some.inj ex).symm
      have ey' : y' = nV d[i] := by
        have ey : (d.map nV)[i]? = some y' := ey
        rw [List.getElem?_map, hdx] at ey
        exact (Option.some.inj ey).symm
      subst ex' ey'
      have sT := same_new (o := .tup [nV c[i], nV d[i]]) hT
      refine g_pair upd_same ⟨rfl, ?_⟩
      refine t_yes ?_
      refine ⟨_, rfl, _, rfl, _, _, rfl, rfl, _, sT _ _ h2, by rw [List.length_map, List.length_take]; exact small1000 (by omega), ?_, fun b o hb => ?_⟩
      · rw [upd_same, zsum_take hcx hdx, List.map_append]
        rfl
      · have nb : b ≠ D := fun z => by rw [z, hD] at hb; cases hb
        rw [upd_ne nb]
        exact (s2.trans sT) _ _ hb
    · rintro H2 ⟨h2, s2⟩
      rw [List.take_length] at h2
      refine ⟨D, _, rfl, .inl ⟨SqL.of h2, fun l hl => ?_⟩⟩
      have sl := same_new (o := .tup ((zsum c d).map nV)) hl
      have hpx3 := sl _ _ (s2 _ _ hpx)
      have hpy3 := sl _ _ (s2 _ _ hpy)
      refine ⟨_, rfl, _, rfl, ⟨py, _, rfl, .inr (SqT.of hpy3), _, rfl, px, _, rfl, SqT.of hpx3, ?_⟩⟩
      have e1 : HT.sIx (c.map nV).length 0 (some (((d.map nV).length : Nat) : Int)) = d.length := by
        rw [HT.sIx_nat, List.length_map, List.length_map]; omega
      have e2 : HT.sIx (c.map nV).length (c.map nV).length none = c.length := by rw [HT.sIx_none, List.length_map]
      have s3 := s1.trans (s2.trans sl)
      rw [e1, e2, List.length_map]
      refine ⟨fun z => ?_, fun z p hp => ?_⟩
      · -- the second powers are empty: the slice is the first ones themselves
        have ed : d = [] := List.length_eq_zero_iff.mp z.1
        subst ed
        have ez : zsum c [] = [] := by simp [zsum]
        have eps : c = psum a b := by rw [← hps, psum_nil]
        refine ⟨l, px, _, _, rfl, rfl, SqT.of upd_same, SqT.of hpx3, by rw [ez]; simp; exact Nat.le_of_lt (small1000 hc1), fun _ => kq _ _ s3 ⟨px, rfl, by rw [← eps]; exact hpx3⟩, fun h => ?_, fun h => ?_⟩
        · exact absurd (by rw [ez]; rfl) h
        · exact absurd (by rw [ez]; rfl) h
      · have ecut : cutV (c.map nV) (some (((d.map nV).length : Nat) : Int)) none = (c.drop d.length).map nV := by
          unfold cutV
          rw [e1, e2, List.map_drop, List.take_of_length_le]
          rw [List.length_drop, List.length_map]
          exact Nat.le_refl _
        rw [ecut]
        have sp := same_new (o := .tup ((c.drop d.length).map nV)) hp
        have hd0 : d ≠ [] := fun e => z ⟨by rw [e]; rfl, rfl⟩
        have zn : zsum c d ≠ [] := fun e => by
          rw [e] at zl
          have : d.length ≠ 0 := fun q => hd0 (List.length_eq_zero_iff.mp q)
          simp at zl
          omega
        have eps : zsum c d ++ c.drop d.length = psum a b := by rw [← hps, psum_zip c d hdc]; rfl
        refine ⟨l, p, _, _, rfl, rfl, SqT.of (sp _ _ upd_same), SqT.of upd_same, ?_, fun h => absurd (List.map_eq_nil_iff.mp h) zn, fun _ h => ?_, fun _ _ r hr2 => ?_⟩
        · rw [List.length_map, List.length_map, zl, List.length_drop]
          exact Nat.le_of_lt (small1000 (by omega))
        · refine kq _ _ (s3.trans sp) ⟨l, rfl, ?_⟩
          have e3 : c.drop d.length = [] := List.map_eq_nil_iff.mp h
          have e4 : zsum c d = psum a b := by
            rw [e3, List.append_nil] at eps
            exact eps
          rw [← e4]
          exact sp _ _ upd_same
        · refine kq _ _ (s3.trans (sp.trans (same_new hr2))) ⟨r, rfl, ?_⟩
          rw [upd_same, ← eps, List.map_append]
  obtain ⟨px, rfl, hpx⟩ := id hx
  obtain ⟨py, rfl, hpy⟩ := id hy
  refine s_if (ev_cmpI (ev_lenPw (ev_var rfl (stb_pw a) hx)) (ev_lenPw (ev_var rfl (stb_pw b) hy))) (fun e H1 s1 => ?_) (fun e H1 s1 => ?_)
  · have hl := of_decide_eq_true e
    refine ⟨_, rfl, _, rfl, _, _, rfl, ?_⟩
    exact main py px b a H1 s1 (s1 _ _ hpy) (s1 _ _ hpx) (by omega) hb6 (psum_comm b a)
  · have hl := of_decide_eq_false e
    exact main px py a b H1 s1 (s1 _ _ hpx) (s1 _ _ hpy) (by omega) ha6 rfl
/-! ### poly_times -/
abbrev s_poly_times : Stmt := top 18
theorem sc_poly_times : FnScope ["one", "other", "counts", "left", "first", "right", "second", "powers"] ["one", "other"] (defScope s_poly_times) := ⟨rfl, rfl, rfl, by decide +kernel, rfl, by decide +kernel, by decide +kernel⟩
def sp_poly_times : Sp := fun vs H Q _ => ∃ (x y : V) (φ ψ : (Nat → Rat) → Rat) (n b e n' b' e' : Nat), vs = [x, y] ∧ PyV φ n b e x H ∧ PyV ψ n' b' e' y H ∧ n * n' ≤ 1000000 ∧ b ≤ 10000 ∧ b' ≤ 10000 ∧ ∀ v H', Same H H' → PyV (fun f => φ f * ψ f) (n * n') (b + b') (e + e') v H' → Q v H'
theorem prodP_take {L M : Po} {i : Nat} {m : Mono × Int} (h : L[i]? = some m) : prodP (L.take (i + 1)) M = prodP (L.take i) M ++ rowP m M := by
  unfold prodP
  rw [List.take_add_one, h]
  simp
theorem rowP_take {m : Mono × Int} {M : Po} {j : Nat} {u : Mono × Int} (h : M[j]? = some u) : rowP m (M.take (j + 1)) = rowP m (M.take j) ++ [(psum m.1 u.1, m.2 * u.2)] := by
  unfold rowP
  rw [List.take_add_one, h]
  simp
theorem fillC_snoc (cs l : Po) (t : Mono × Int) : fillC cs (l ++ [t]) = addC (fillC cs l) t := by simp [fillC]
theorem ok_poly_times (R : Raw K mg "poly_times" s_poly_times) (d_powers_sum : Def P w K mg base "powers_sum" 1 ["one", "other"] sp_powers_sum) (d_gathered : Def P w K mg base "gathered" 1 ["counts"] sp_gathered) : Def P w K mg base "poly_times" 2 ["one", "other"] sp_poly_times := by
  refine def_mk R sc_poly_times (fun vs H Q E h => ?_) (fun _ _ _ _ _ _ us hl => match us, hl with | [_, _], _ => rfl) (fun f cdv A outer s H vs Q E hr h => ?_)
  · obtain ⟨x, y, φ, ψ, n, b, e, n', b', e', rfl, _⟩ := h
    rfl
  obtain ⟨x, y, φ, ψ, n, b, e, n', b', e', rfl, ⟨L, ⟨a, ts, rfl, ha, ht⟩, hφ, hL⟩, ⟨M, ⟨c, us, rfl, hc, hu⟩, hψ, hM⟩, hnn, hb, hb', kq⟩ := h
  have hlt : ts.length = L.length := Paired.length ht
  have hlu : us.length = M.length := Paired.length hu
  have pw := prodP_pw hL.pw hM.pw
  have fl : ∀ i j m, L[i]? = some m → (fillC [] (prodP (L.take i) M ++ rowP m (M.take j))).length ≤ 1000000 := fun i j m hm => by
    have hsub : ∀ t ∈ prodP (L.take i) M ++ rowP m (M.take j), t ∈ prodP L M := by
      intro t h
      rcases List.mem_append.mp h with h | h
      · obtain ⟨u, hu1, hu2⟩ := List.mem_flatMap.mp h
        exact List.mem_flatMap.mpr ⟨u, List.mem_of_mem_take hu1, hu2⟩
      · obtain ⟨u, hu1, hu2⟩ := List.mem_map.mp h
        exact List.mem_flatMap.mpr ⟨m, List.mem_of_getElem? hm, List.mem_map.mpr ⟨u, List.mem_of_mem_take hu1, hu2⟩⟩
    have h1 := (fillC_ok (prodP (L.take i) M ++ rowP m (M.take j)) (Pc.nil 0 0 (e + e')) fun t h => pw t (hsub t h)).len
    have hi : i < L.length := (List.getElem?_eq_some_iff.mp hm).1
    have h2 : (prodP (L.take i) M ++ rowP m (M.take j)).length ≤ L.length * M.length := by
      rw [List.length_append, prodP_len, List.length_take]
      have h3 : (rowP m (M.take j)).length ≤ M.length := by simp [rowP]; omega
      have h4 : min i L.length * M.length + M.length ≤ L.length * M.length := by
        have : min i L.length + 1 ≤ L.length := by omega
        have := Nat.mul_le_mul_right M.length this
        rw [Nat.add_mul, Nat.one_mul] at this
        exact this
      omega
    have h5 := Nat.mul_le_mul hL.len hM.len
    omega
  refine ⟨_, (pss_cons (ps_set (i := 2) sc_poly_times.nd rfl (Or.inl rfl) pe_dnewT)
      (pss_cons (ps_for PassesOwn.never rfl (pi_list (pv 0)) (pg_tup rfl (pgs_cons (pg_name (i := 3) sc_poly_times.nd rfl (.inl rfl)) (pgs_cons (pg_name (i := 4) sc_poly_times.nd rfl (.inl rfl)) pgs_nil))) (pss_one (ps_for PassesOwn.never rfl (pi_list (pv 1)) (pg_tup rfl (pgs_cons (pg_name (i := 5) sc_poly_times.nd rfl (.inl rfl)) (pgs_cons (pg_name (i := 6) sc_poly_times.nd rfl (.inl rfl)) pgs_nil))) (pss_cons (ps_set (i := 7) sc_poly_times.nd rfl (Or.inl rfl) (pe_def d_powers_sum hr (by rfl) (pa_cons (pv 3) (pa_cons (pv 5) pa_nil))))
      (pss_one (ps_dput (hu_of hr) (pv 2) (pv 7) (pe_op op_add (pe_dget2 (hu_of hr) (pv 2) (pv 7) pe_int ⟨rfl, rfl, rfl, rfl⟩) (pe_op op_mulW (pv 4) (pv 6))) rfl))))))
      (pss_one (ps_ret (pe_def d_gathered hr (by rfl) (pa_cons (pv 2) pa_nil)))))), ?_⟩
  intro d hd
  have sd := same_new (o := .dT []) hd
  refine ⟨_, rfl, a, rfl, ⟨_, SqL.of (sd _ _ ha)⟩, for_list (K := K) (a := a) (xs := ts.map V.ref) (fun i σ H' => ∃ u3 u4 u5 u6 u7, σ = [some (.ref a), some (.ref c), some (.ref d), u3, u4, u5, u6, u7] ∧ Same H H' ∧ H' d = some (.dT (encC (fillC [] (prodP (L.take i) M)))))
    ⟨none, none, none, none, none, rfl, sd, by rw [upd_same]; rfl⟩ (fun i σ H' _ ⟨_, _, _, _, _, _, s', _⟩ => SqL.of (s' _ _ ha)) ?_ ?_⟩
  · rintro i v σ H' hi ⟨u3, u4, u5, u6, u7, rfl, s', hd'⟩
    obtain ⟨t, htt, rfl⟩ : ∃ t, ts[i]? = some t ∧ v = V.ref t := by
      rw [List.getElem?_map] at hi
      cases h : ts[i]? with
      | none => rw [h] at hi; cases hi
      | some t => rw [h] at hi; exact ⟨t, rfl, (Option.some.inj hi).symm⟩
    obtain ⟨m, hm, p, hp1, hp2⟩ := paired_get ht htt
    have pwm := hL.pw m (List.mem_of_getElem? hm)
    refine g_pair (s' _ _ hp1) ?_
    refine ⟨_, rfl, c, rfl, ⟨_, SqL.of (s' _ _ hc)⟩, for_list (K := K) (a := c) (xs := us.map V.ref) (fun j σ H' => ∃ u5 u6 u7, σ = [some (.ref a), some (.ref c), some (.ref d), some (.ref p), some (.int m.2), u5, u6, u7] ∧ Same H H' ∧ H' d = some (.dT (encC (fillC [] (prodP (L.take i) M ++ rowP m (M.take j))))))
      ⟨u5, u6, u7, rfl, s', by rw [hd', List.take_zero]; simp [rowP]⟩ (fun j σ H' _ ⟨_, _, _, _, s', _⟩ => SqL.of (s' _ _ hc)) ?_ ?_⟩
    · rintro j v σ H2 hj ⟨w5, w6, w7, rfl, s2, hd2⟩
      obtain ⟨t2, htt2, rfl⟩ : ∃ t, us[j]? = some t ∧ v = V.ref t := by
        rw [List.getElem?_map] at hj
        cases h : us[j]? with
        | none => rw [h] at hj; cases hj
        | some t => rw [h] at hj; exact ⟨t, rfl, (Option.some.inj hj).symm⟩
      obtain ⟨m2, hm2, p2, hq1, hq2⟩ := paired_get hu htt2
      have pwm2 := hM.pw m2 (List.mem_of_getElem? hm2)
      refine g_pair (s2 _ _ hq1) ?_
      refine s_set (P := PwV (psum m.1 m2.1)) (ev_call2 (P1 := PwV m.1) (P2 := PwV m2.1) (ev_var rfl (stb_pw _) ⟨p, rfl, s2 _ _ hp2⟩) (ev_var rfl (stb_pw _) ⟨p2, rfl, s2 _ _ hq2⟩) (stb_pw _) fun x1 y1 H1 _ q1 q2 Q q => ⟨x1, y1, m.1, m2.1, rfl, q1, q2, by omega, by omega, q⟩) ?_
      rintro v7 H3 s3 ⟨p7, rfl, h7⟩
      refine put_add (sd := 2) (sk := 7) (c := m.2 * m2.2) (m := psum m.1 m2.1) rfl (s3 _ _ hd2) rfl h7 (fun Q' q' => ⟨_, rfl, _, rfl, _, _, rfl, rfl, wide_mul (pb_coef hL m (List.mem_of_getElem? hm)) (pb_coef hM m2 (List.mem_of_getElem? hm2)) (Nat.succ_pos _) (Nat.succ_pos _) (by omega), q'⟩) (small7 (Nat.le_trans (fl i j m hm) (by decide))) ?_
      refine ⟨_, _, _, rfl, fun b o hb => ?_, ?_⟩
      · have nb : b ≠ d := fun z => by rw [z, hd] at hb; cases hb
        rw [upd_ne nb]
        exact (s2.trans s3) _ _ hb
      · rw [upd_same, rowP_take hm2, ← List.append_assoc, fillC_snoc]
    · rintro σ H2 ⟨w5, w6, w7, rfl, s2, hd2⟩
      rw [List.length_map, hlu, List.take_length] at hd2
      exact ⟨_, _, _, _, _, rfl, s2, by rw [hd2, prodP_take hm]⟩
  · rintro σ H' ⟨u3, u4, u5, u6, u7, rfl, s', hd'⟩
    rw [List.length_map, hlt, List.take_length] at hd'
    have h1 := (fillC_ok (prodP L M) (Pc.nil 0 0 (e + e')) pw).len
    rw [prodP_len] at h1
    have h5 := Nat.mul_le_mul hL.len hM.len
    refine ⟨_, rfl, d, _, rfl, hd', by omega, fun v2 H2 R2 s2 g p2 => ?_⟩
    have sp := prod_spec hL hM g
    exact kq _ _ (s'.trans s2) ⟨R2, p2, fun f => by rw [sp.1, hφ, hψ], sp.2⟩
end
end ED

/-! Amounts: the class Poly, its methods; tuples of three. -/
namespace ED
open PySem PySem.Spec PyProof.Rows L2 ER EM

/-! ### a class, its methods -/
/-- what the text has of the class at C -/
structure Txt (K : PySem.W.Frag) (mg : Str → Option Value) (C : Addr) : Prop where
  cl : Cls K C
  nT : NoAttr K C "terms"
  mgC : mg "Poly" = some (.ref C)
def RawM (K : PySem.W.Frag) (C : Addr) (m qual : Str) (st : Stmt) : Prop := ∃ f fd, Fun K m qual st f fd ∧ Meth K C m f
def RawI (K : PySem.W.Frag) (C : Addr) (qual : Str) (st : Stmt) : Prop := ∃ f fd, Fun K "__init__" qual st f fd ∧ Mk K C f
def MDef (P : Program) (w : World) (K : PySem.W.Frag) (mg : Str → Option Value) (base : Heap) (C : Addr) (m : Str) (k : Nat) (ps : List Str) (sp : Sp) : Prop :=
  ∃ f fd, FnOk P w K mg base CX0 k f fd ps sp ∧ Meth K C m f ∧ Binds K fd ps []
def MkDef (P : Program) (w : World) (K : PySem.W.Frag) (mg : Str → Option Value) (base : Heap) (x : Str) (C : Addr) (k : Nat) (ps : List Str) (sp : Sp) : Prop :=
  ∃ f fd, FnOk P w K mg base CX0 k f fd ps sp ∧ Mk K C f ∧ mg x = some (.ref C) ∧ Binds K fd ps []
section
variable {P : Program} {w : World} {K : PySem.W.Frag} {mg : Str → Option Value} {base : Heap}
theorem mdef_mk {C : Addr} {m qual : Str} {st : Stmt} {N ps : List Str} {k : Nat} {sp : Sp} (R : RawM K C m qual st) (S : FnScope N ps (defScope st)) (len : ∀ vs H Q E, sp vs H Q E → vs.length = ps.length)
    (hb : ∀ (kV doc pm : Value) (an : Option Addr) (cdv ct : Value) (us : List Value), us.length = ps.length → bindArgs (PySem.W.fnOf m qual (defArgs st) (defBody st) (defScope st) .none kV doc pm an cdv ct) ⟨us, []⟩ = pure (ps.zip us))
    (body : ∀ (f : Addr) (cdv : Value) (A : Around) (outer : List Env) (s : Shared) (H : Hp) (vs : List V) (Q : VK) (E : XK), Room k (A.deeper (envOfC qual (defScope st) s.heap.objs.size f cdv)) → sp vs H Q E →
      ∃ t, PSs (cxOf CX0 P w K mg base N qual (defScope st) f cdv A outer s H E).nox (defBody st) t ∧ t { nx := fun _ H' => Q .non H', rt := Q } (start N vs) H) : MDef P w K mg base C m (k + 1) ps sp := by
  obtain ⟨f, fd, F, M⟩ := R
  exact ⟨f, fd, F.ok S len (fun cdv A outer s H vs Q E hr h => body f cdv A outer s H vs Q E hr h), M, F.binds hb⟩
theorem mkdef_mk {C : Addr} {x qual : Str} {st : Stmt} {N ps : List Str} {k : Nat} {sp : Sp} (R : RawI K C qual st) (g : mg x = some (.ref C)) (S : FnScope N ps (defScope st)) (len : ∀ vs H Q E, sp vs H Q E → vs.length = ps.length)
    (hb : ∀ (kV doc pm : Value) (an : Option Addr) (cdv ct : Value) (us : List Value), us.length = ps.length → bindArgs (PySem.W.fnOf "__init__" qual (defArgs st) (defBody st) (defScope st) .none kV doc pm an cdv ct) ⟨us, []⟩ = pure (ps.zip us))
    (body : ∀ (f : Addr) (cdv : Value) (A : Around) (outer : List Env) (s : Shared) (H : Hp) (vs : List V) (Q : VK) (E : XK), Room k (A.deeper (envOfC qual (defScope st) s.heap.objs.size f cdv)) → sp vs H Q E →
      ∃ t, PSs (cxOf CX0 P w K mg base N qual (defScope st) f cdv A outer s H E).nox (defBody st) t ∧ t { nx := fun _ H' => Q .non H', rt := Q } (start N vs) H) : MkDef P w K mg base x C (k + 1) ps sp := by
  obtain ⟨f, fd, F, M⟩ := R
  exact ⟨f, fd, F.ok S len (fun cdv A outer s H vs Q E hr h => body f cdv A outer s H vs Q E hr h), M, g, F.binds hb⟩
end
section
variable {X : Cx} {x m : Str} {k n : Nat} {C : Addr} {ps : List Str} {sp : Sp} {p pos apos : Pos} {e o : Expr} {es : List Expr} {t : TA} {ta : TE}
theorem pe_mk (D : MkDef X.prog X.w X.K X.mg X.base x C k ps sp) (hr : Room n X.A) (hg : Gl X x) (ha : PA X (e :: es) t) (hkn : k + 1 ≤ n := by decide) (hdb : (x == ("__debug__" : Str)) = false := by decide)
    (he : starEach (e :: es) X.env = (false, eval e X.env) :: starEach es X.env := by rfl) (hpl : (backTo pos (starEach es X.env)).any (·.1) = false := by rfl) : PE X (.Call (.Name x p) (e :: es) [] pos) (tMake C sp [] E0 t) := by
  obtain ⟨f, fd, F, M, g, b⟩ := D
  exact pe_make M F (hr.mono hkn) hg g b .nil pass0 ha hdb he hpl
theorem pe_mdef {pl : Sem Bool} (c : Cls X.K C) (D : MDef X.prog X.w X.K X.mg X.base C m k ps sp) (hr : Room n X.A) (he : PE X o ta) (ha : PA X (e :: es) t) (hkn : k ≤ n := by decide)
    (hst : starEach (e :: es) X.env = (false, eval e X.env) :: starEach es X.env := by rfl) (hpl : (backTo pos (starEach es X.env)).any (·.1) = false := by rfl)
    (ht : eval (.Call (.Attribute o m apos) (e :: es) [] pos) X.env = (do
      let ov ← eval o X.env
      standAt apos.atName
      let (f, first) ← holding [ov] (getMethod ov m pl)
      callWith pos f first (backTo pos (starEach (e :: es) X.env)) (backToKw pos (keywordEach [] X.env))) := by rfl) :
    PE X (.Call (.Attribute o m apos) (e :: es) [] pos) (tMeth C m sp [] E0 ta t) := by
  obtain ⟨f, fd, F, M, b⟩ := D
  exact pe_meth he c M F (hr.mono hkn) b .nil pass0 ha hst hpl ht
end
/-! the same rules where the written part is named -/
def rListOf (K : PySem.W.Frag) : List V → Hp → VK → Prop := fun xs H Q => ∃ p ys, xs = [.ref p] ∧ (SqL K H p ys ∨ SqT K H p ys) ∧ ∀ l, H l = none → Q (.ref l) (upd H l (.lst ys))
theorem call_list_ofK {X : Cx} {K : PySem.W.Frag} (hK : X.K = K) : CallR X (.type "list") (rListOf K) := by
  subst hK
  exact call_list_of
theorem pe_fldK {X : Cx} {K : PySem.W.Frag} (hK : X.K = K) {e : Expr} {f : Str} {pos : Pos} {ta : TE} (he : PE X e ta) (hb : attributeBase e f X.env (eval e X.env) = eval e X.env) : PE X (.Attribute e f pos) (tFld K ta f) := by
  subst hK
  exact pe_fld he hb
theorem sl_listK {X : Cx} {K : PySem.W.Frag} (hK : X.K = K) : SlR X (rSlL K) := by
  subst hK
  exact sl_list
/-! ### amounts -/
/-- an amount: an object of the class whose terms are a polynomial -/
def AmV (C : Addr) (φ : (Nat → Rat) → Rat) (n b e : Nat) : Pd := fun v H => ∃ x dx y, v = .ref x ∧ H x = some (.ins C dx [("terms", y)]) ∧ PyV φ n b e y H
theorem stb_am (C : Addr) (φ : (Nat → Rat) → Rat) (n b e : Nat) : Stb (AmV C φ n b e) := fun _ _ _ s ⟨x, dx, y, e1, h, p⟩ => ⟨x, dx, y, e1, s _ _ h, stb_py φ n b e _ _ _ s p⟩
def sp_init (C : Addr) : Sp := fun vs H Q _ => ∃ (x dx : Addr) (y : V), vs = [.ref x, y] ∧ H x = some (.ins C dx []) ∧ Q .non (upd H x (.ins C dx [("terms", y)]))
theorem same_made {H : Hp} {x dx C : Addr} {fs fs' : List (Str × V)} (hx : H x = none) (hdx : H dx = none) : Same H (upd (upd (upd H dx (.own x)) x (.ins C dx fs)) x (.ins C dx fs')) := fun b o e => by
  rw [upd_ne (ne_of_none e hx), upd_ne (ne_of_none e hx), upd_ne (ne_of_none e hdx)]
  exact e
section
variable {K : PySem.W.Frag} {σ : L2.St} {H : Hp} {ta tb : TE} {C : Addr} {φ ψ : (Nat → Rat) → Rat} {n b e n' b' e' : Nat} {P P2 : Pd}
theorem ev_mk (ha : Ev ta σ H (PyV φ n b e)) : Ev (tMake C (sp_init C) [] E0 (tCons ta tNil)) σ H (AmV C φ n b e) := by
  intro H1 s1 Q q
  refine ha H1 s1 _ fun y H2 s2 p => fun x dx hx hdx ne => ?_
  have sm := same_made (C := C) (fs := []) (fs' := [("terms", y)]) hx hdx
  exact ⟨x, dx, y, rfl, upd_same, rfl, q _ _ (s2.trans sm) ⟨x, dx, y, rfl, upd_same, stb_py φ n b e _ _ _ sm p⟩⟩
theorem ev_terms (c : Cls K C) (nT : NoAttr K C "terms") (ha : Ev ta σ H (AmV C φ n b e)) : Ev (tFld K ta "terms") σ H (PyV φ n b e) := by
  intro H1 s1 Q q
  refine ha H1 s1 _ fun v H2 s2 ⟨x, dx, y, e1, h, p⟩ => ?_
  exact ⟨x, C, dx, _, y, e1, h, c, nT, rfl, q _ _ s2 p⟩
theorem ev_meth {m : Str} {sp : Sp} (hm : ∀ v : V, [(("terms" : Str), v)].lookup m = none) (ha : Ev ta σ H (AmV C φ n b e)) (hb : Ev tb σ H P2)
    (hs : ∀ x y H1, Same H H1 → AmV C φ n b e x H1 → P2 y H1 → ∀ Q : VK, (∀ v H2, Same H1 H2 → P v H2 → Q v H2) → sp [x, y] H1 Q E0) : Ev (tMeth C m sp [] E0 ta (tCons tb tNil)) σ H P := by
  intro H1 s1 Q q
  refine ha H1 s1 _ fun v H2 s2 p => ?_
  obtain ⟨x, dx, y, e1, h, _⟩ := id p
  refine ⟨x, dx, _, e1, h, hm y, ?_⟩
  refine hb H2 (s1.trans s2) _ fun u H3 s3 p3 => ?_
  exact hs v u H3 ((s1.trans s2).trans s3) (stb_am C φ n b e _ _ _ s3 p) p3 Q fun v' H4 s4 p4 => q v' H4 (s2.trans (s3.trans s4)) p4
end
def sp_by (C : Addr) : Sp := fun vs H Q _ => ∃ (x y : V) (φ ψ : (Nat → Rat) → Rat) (n b e n' b' e' : Nat), vs = [x, y] ∧ AmV C φ n b e x H ∧ AmV C ψ n' b' e' y H ∧ n * n' ≤ 1000000 ∧ b ≤ 10000 ∧ b' ≤ 10000 ∧ ∀ v H', Same H H' → AmV C (fun f => φ f * ψ f) (n * n') (b + b') (e + e') v H' → Q v H'
def sp_plus (C : Addr) : Sp := fun vs H Q _ => ∃ (x y : V) (φ ψ : (Nat → Rat) → Rat) (n b e n' b' e' : Nat), vs = [x, y] ∧ AmV C φ n b e x H ∧ AmV C ψ n' b' e' y H ∧ n + n' ≤ 1000000 ∧ ∀ v H', Same H H' → AmV C (fun f => φ f + ψ f) (n + n') (max b b' + 1) (max e e') v H' → Q v H'
def sp_less (C : Addr) : Sp := fun vs H Q _ => ∃ (x y : V) (φ ψ : (Nat → Rat) → Rat) (n b e n' b' e' : Nat), vs = [x, y] ∧ AmV C φ n b e x H ∧ AmV C ψ n' b' e' y H ∧ n + n' ≤ 1000000 ∧ b' ≤ 10000 ∧ ∀ v H', Same H H' → AmV C (fun f => φ f - ψ f) (n + n') (max b b' + 1) (max e e') v H' → Q v H'
def sp_many (C : Addr) : Sp := fun vs H Q _ => ∃ (x : V) (k : Int) (φ : (Nat → Rat) → Rat) (n b e j : Nat), vs = [x, .int k] ∧ AmV C φ n b e x H ∧ k.natAbs ≤ 2 ^ j ∧ n ≤ 1000000 ∧ b ≤ 10000 ∧ j ≤ 10000 ∧ ∀ v H', Same H H' → AmV C (fun f => (k : Rat) * φ f) n (b + j) e v H' → Q v H'
section
variable {P : Program} {w : World} {K : PySem.W.Frag} {mg : Str → Option Value} {base : Heap} {C : Addr}
abbrev s_Poly___init__ : Stmt := inClass (top 24) 0
theorem sc_Poly___init__ : FnScope ["self", "terms"] ["self", "terms"] (defScope s_Poly___init__) := ⟨rfl, rfl, rfl, by decide +kernel, rfl, by decide +kernel, by decide +kernel⟩
theorem ok_init (R : RawI K C "Poly.__init__" s_Poly___init__) (T : Txt K mg C) : MkDef P w K mg base "Poly" C 1 ["self", "terms"] (sp_init C) := by
  refine mkdef_mk R T.mgC sc_Poly___init__ (fun vs H Q E h => ?_) (fun _ _ _ _ _ _ us hl => match us, hl with | [_, _], _ => rfl) (fun f cdv A outer s H vs Q E hr h => ?_)
  · obtain ⟨x, dx, y, rfl, _⟩ := h
    rfl
  obtain ⟨x, dx, y, rfl, hx, q⟩ := h
  refine ⟨_, (pss_one (ps_fld (pv 0) (pv 1) rfl)), ?_⟩
  exact ⟨_, rfl, _, rfl, x, C, dx, [], rfl, hx, T.cl, T.nT, by decide, q⟩
abbrev DMk (P : Program) (w : World) (K : PySem.W.Frag) (mg : Str → Option Value) (base : Heap) (C : Addr) : Prop := MkDef P w K mg base "Poly" C 1 ["self", "terms"] (sp_init C)
abbrev s_Poly_plus : Stmt := inClass (top 24) 1
theorem sc_Poly_plus : FnScope ["self", "other"] ["self", "other"] (defScope s_Poly_plus) := ⟨rfl, rfl, rfl, by decide +kernel, rfl, by decide +kernel, by decide +kernel⟩
abbrev s_Poly_less : Stmt := inClass (top 24) 2
theorem sc_Poly_less : FnScope ["self", "other"] ["self", "other"] (defScope s_Poly_less) := ⟨rfl, rfl, rfl, by decide +kernel, rfl, by decide +kernel, by decide +kernel⟩
abbrev s_Poly_by : Stmt := inClass (top 24) 3
theorem sc_Poly_by : FnScope ["self", "other"] ["self", "other"] (defScope s_Poly_by) := ⟨rfl, rfl, rfl, by decide +kernel, rfl, by decide +kernel, by decide +kernel⟩
abbrev s_Poly_many : Stmt := inClass (top 24) 4
theorem sc_Poly_many : FnScope ["self", "number", "powers", "count"] ["self", "number"] (defScope s_Poly_many) := ⟨rfl, rfl, rfl, by decide +kernel, rfl, by decide +kernel, by decide +kernel⟩
theorem ok_plus (R : RawM K C "plus" "Poly.plus" s_Poly_plus) (T : Txt K mg C) (d_Poly : DMk P w K mg base C) (d_poly_sum : Def P w K mg base "poly_sum" 2 ["one", "other"] sp_poly_sum) : MDef P w K mg base C "plus" 3 ["self", "other"] (sp_plus C) := by
  refine mdef_mk R sc_Poly_plus (fun vs H Q E h => ?_) (fun _ _ _ _ _ _ us hl => match us, hl with | [_, _], _ => rfl) (fun f cdv A outer s H vs Q E hr h => ?_)
  · obtain ⟨x, y, φ, ψ, n, b, e, n', b', e', rfl, _⟩ := h
    rfl
  obtain ⟨x, y, φ, ψ, n, b, e, n', b', e', rfl, hx, hy, hn, q⟩ := h
  refine ⟨_, (pss_one (ps_ret (pe_mk d_Poly hr (by rfl) (pa_cons (pe_def d_poly_sum hr (by rfl) (pa_cons (pe_fld (pv 0) rfl) (pa_cons (pe_fld (pv 1) rfl) pa_nil))) pa_nil)))), ?_⟩
  refine s_ret (ev_mk (ev_call2 (ev_terms T.cl T.nT (ev_var rfl (stb_am C φ n b e) hx)) (ev_terms T.cl T.nT (ev_var rfl (stb_am C ψ n' b' e') hy)) (stb_py φ n b e) fun x1 y1 H1 _ p1 p2 Q q => ?_)) q
  exact ⟨x1, y1, φ, ψ, n, b, e, n', b', e', rfl, p1, p2, hn, q⟩
theorem ok_less (R : RawM K C "less" "Poly.less" s_Poly_less) (T : Txt K mg C) (d_Poly : DMk P w K mg base C) (d_poly_less : Def P w K mg base "poly_less" 3 ["one", "other"] sp_poly_less) : MDef P w K mg base C "less" 4 ["self", "other"] (sp_less C) := by
  refine mdef_mk R sc_Poly_less (fun vs H Q E h => ?_) (fun _ _ _ _ _ _ us hl => match us, hl with | [_, _], _ => rfl) (fun f cdv A outer s H vs Q E hr h => ?_)
  · obtain ⟨x, y, φ, ψ, n, b, e, n', b', e', rfl, _⟩ := h
    rfl
  obtain ⟨x, y, φ, ψ, n, b, e, n', b', e', rfl, hx, hy, hn, hb, q⟩ := h
  refine ⟨_, (pss_one (ps_ret (pe_mk d_Poly hr (by rfl) (pa_cons (pe_def d_poly_less hr (by rfl) (pa_cons (pe_fld (pv 0) rfl) (pa_cons (pe_fld (pv 1) rfl) pa_nil))) pa_nil)))), ?_⟩
  refine s_ret (ev_mk (ev_call2 (ev_terms T.cl T.nT (ev_var rfl (stb_am C φ n b e) hx)) (ev_terms T.cl T.nT (ev_var rfl (stb_am C ψ n' b' e') hy)) (stb_py φ n b e) fun x1 y1 H1 _ p1 p2 Q q => ?_)) q
  exact ⟨x1, y1, φ, ψ, n, b, e, n', b', e', rfl, p1, p2, hn, hb, q⟩
theorem ok_by (R : RawM K C "by" "Poly.by" s_Poly_by) (T : Txt K mg C) (d_Poly : DMk P w K mg base C) (d_poly_times : Def P w K mg base "poly_times" 2 ["one", "other"] sp_poly_times) : MDef P w K mg base C "by" 3 ["self", "other"] (sp_by C) := by
  refine mdef_mk R sc_Poly_by (fun vs H Q E h => ?_) (fun _ _ _ _ _ _ us hl => match us, hl with | [_, _], _ => rfl) (fun f cdv A outer s H vs Q E hr h => ?_)
  · obtain ⟨x, y, φ, ψ, n, b, e, n', b', e', rfl, _⟩ := h
    rfl
  obtain ⟨x, y, φ, ψ, n, b, e, n', b', e', rfl, hx, hy, hn, hb, hb', q⟩ := h
  refine ⟨_, (pss_one (ps_ret (pe_mk d_Poly hr (by rfl) (pa_cons (pe_def d_poly_times hr (by rfl) (pa_cons (pe_fld (pv 0) rfl) (pa_cons (pe_fld (pv 1) rfl) pa_nil))) pa_nil)))), ?_⟩
  refine s_ret (ev_mk (ev_call2 (ev_terms T.cl T.nT (ev_var rfl (stb_am C φ n b e) hx)) (ev_terms T.cl T.nT (ev_var rfl (stb_am C ψ n' b' e') hy)) (stb_py φ n b e) fun x1 y1 H1 _ p1 p2 Q q => ?_)) q
  exact ⟨x1, y1, φ, ψ, n, b, e, n', b', e', rfl, p1, p2, hn, hb, hb', q⟩
theorem ok_many (R : RawM K C "many" "Poly.many" s_Poly_many) (T : Txt K mg C) (d_Poly : DMk P w K mg base C) : MDef P w K mg base C "many" 3 ["self", "number"] (sp_many C) := by
  refine mdef_mk R sc_Poly_many (fun vs H Q E h => ?_) (fun _ _ _ _ _ _ us hl => match us, hl with | [_, _], _ => rfl) (fun f cdv A outer s H vs Q E hr h => ?_)
  · obtain ⟨x, k, φ, n, b, e, j, rfl, _⟩ := h
    rfl
  obtain ⟨x, k, φ, n, b, e, j, rfl, hx, hk, hn, hb, hj, q⟩ := h
  refine ⟨_, (pss_one (ps_ret (pe_mk d_Poly hr (by rfl) (pa_cons (pe_lc (own := [("powers", 2), ("count", 3)]) rfl sc_Poly_many.nd (pi_list (pe_fld (pv 0) rfl)) (blkOk_by (own := [("powers", 2), ("count", 3)]) (N := ["self", "number", "powers", "count"]) (sc := defScope s_Poly_many) (by decide +kernel)) (fun _ _ _ _ _ => (pg_pair (K := K) (i := 2) (j := 3) rfl rfl sc_Poly_many.nd rfl rfl rfl rfl)) (fun _ _ _ _ _ => (pts_one (pt_cmpR op_ne (pv 1) pe_int (nomark _)))) (fun _ _ _ _ _ => (pe_tup (pa_cons (pv 2) (pa_cons (pe_op op_mulW (pv 3) (pv 1)) pa_nil))))) pa_nil)))), ?_⟩
  refine s_ret (P := AmV C (fun f => (k : Rat) * φ f) n (b + j) e) (ev_mk (fun H1 s1 Q2 q2 => ?_)) q
  obtain ⟨x0, dx, y, rfl, h0, ⟨L, ⟨a, ts, rfl, ha, ht⟩, hφ, hL⟩⟩ := stb_am C φ n b e _ _ _ s1 hx
  refine scaled_comp (s := 1) (a := a) (fun Q' q' => ⟨_, rfl, x0, C, dx, _, _, rfl, h0, T.cl, T.nT, rfl, q'⟩) ha ht (small7 (by have := hL.len; omega)) (pb_coef hL) (lt_pow1 hk) (Nat.succ_pos _) (Nat.succ_pos _) (by omega) (fun _ _ => rfl) (fun _ _ => rfl) (fun _ _ => rfl) (fun _ _ => rfl) fun D ts' H' hD s' hD' ht' => ?_
  have ms := many_spec hL hk
  exact q2 _ _ s' ⟨_, ⟨D, ts', rfl, hD', ht'⟩, fun f => by rw [ms.1, hφ], ms.2⟩
end
/-! ### [e for x in t], t a tuple: each item turned, at a list D -/
def HasL (H : Hp) (D : Addr) : Prop := ∃ acc, H D = some (.lst acc)
theorem ev_map {α : Type} {K : PySem.W.Frag} {σ : L2.St} {H : Hp} {tl te : TE} {i : Nat} {vs : List Nat} {zs : List α} {A B : α → Pd} {Bd : Addr → α → Pd} (sA : ∀ z, Stb (A z)) (sB : ∀ D z, Stb (Bd D z))
    (but : ∀ D z y H (xs : List V), Bd D z y H → HasL H D → Bd D z y (upd H D (.lst xs))) (toB : ∀ D z y H, Bd D z y H → B z y H) (htl : Ev tl σ H (TuV (zs.map A))) (hz : zs.length ≤ 1000)
    (hw : ∀ x : V, wipe ((wipe σ vs).set i (some x)) vs = wipe σ vs)
    (elem : ∀ D z x H1, z ∈ zs → Same H H1 → HasL H1 D → A z x H1 → ∀ Q : VK, (∀ y H2, Same H1 H2 → Bd D z y H2 → Q y H2) → te ((wipe σ vs).set i (some x)) H1 Q) :
    Ev (tLc (iTup K tl) (gName i) tYes te vs) σ H (LsV (zs.map B)) := by
  intro H0 s0 Q q
  refine htl H0 s0 _ fun v H1 s1 ⟨a, xs, e1, ha, hxs⟩ => ⟨a, e1, ⟨xs, SqT.of ha⟩, fun D hD => ?_⟩
  have sD := same_new (o := .lst []) hD
  have hlen : (zs.map A).length = xs.length := Paired.length hxs
  rw [List.length_map] at hlen
  refine lc_it (walk_tup (xs := xs)) (fun k H' => ∃ ys, H' D = some (.lst ys) ∧ Paired (fun z y => Bd D z y H') (zs.take k) ys ∧ Same H1 H')
    ⟨[], upd_same, by rw [List.take_zero]; exact .nil, sD⟩ (fun k H' _ ⟨_, _, _, s'⟩ => SqT.of (s' _ _ ha)) ?_ ?_
  · rintro k x H2 H3 hk ⟨ys, h2, hy, s2⟩ ⟨rfl, hx⟩
    obtain ⟨z, hzk⟩ : ∃ z, zs[k]? = some z := ⟨zs[k], List.getElem?_eq_getElem (by omega)⟩
    obtain ⟨x', hx', px⟩ := ech_get hxs (i := k) (P := A z) (by rw [List.getElem?_map, hzk]; rfl)
    rw [hx] at hx'
    cases hx'
    refine ⟨hw _, t_yes ?_⟩
    refine elem D z x H3 (List.mem_of_getElem? hzk) (s0.trans (s1.trans s2)) ⟨_, h2⟩ (sA z _ _ _ s2 px) _ fun y H4 s4 by_ => ?_
    have h4 := s4 _ _ h2
    have yl : (zs.take k).length = ys.length := Paired.length hy
    rw [List.length_take] at yl
    refine ⟨ys, h4, small1000 (by omega), ys ++ [y], upd_same, ?_, fun b o hb => ?_⟩
    · have e2 : zs.take (k + 1) = zs.take k ++ [z] := by rw [List.take_add_one, hzk]; rfl
      rw [e2]
      have one : Paired (fun z y' => Bd D z y' (upd H4 D (.lst (ys ++ [y])))) [z] [y] := .cons (but _ _ _ _ _ by_ ⟨_, h4⟩) .nil
      have all : Paired (fun z y' => Bd D z y' (upd H4 D (.lst (ys ++ [y])))) (zs.take k) ys := Paired.mapP hy fun z y' p => but _ _ _ _ _ (sB D z _ _ _ s4 p) ⟨_, h4⟩
      have app : ∀ {l₁ l₂ : List α} {m₁ m₂ : List V} {R : α → V → Prop}, Paired R l₁ m₁ → Paired R l₂ m₂ → Paired R (l₁ ++ l₂) (m₁ ++ m₂) := by
        intro l₁ l₂ m₁ m₂ R h1 h2
        induction h1 with
        | nil => exact h2
        | cons h _ ih => exact .cons h ih
      exact app all one
    · have nb : b ≠ D := fun e => by rw [e, hD] at hb; cases hb
      rw [upd_ne nb]
      exact (s2.trans s4) _ _ hb
  · rintro H2 ⟨ys, h2, hy, s2⟩
    rw [← hlen, List.take_length] at hy
    refine q _ _ (s1.trans s2) ⟨D, ys, rfl, h2, ?_⟩
    have cv : ∀ {l : List α} {m : List V}, Paired (fun z y => Bd D z y H2) l m → Ech (l.map B) m H2 := by
      intro l m h
      induction h with
      | nil => exact .nil
      | cons h _ ih => exact .cons (toB _ _ _ _ h) ih
    exact cv hy
def rTupleOf (K : PySem.W.Frag) : List V → Hp → VK → Prop := fun xs H Q => ∃ p ys, xs = [.ref p] ∧ ((SqL K H p ys ∧ ∀ l, H l = none → Q (.ref l) (upd H l (.tup ys))) ∨ (SqT K H p ys ∧ Q (.ref p) H))
theorem ev_tupleL {K : PySem.W.Frag} {σ : L2.St} {H : Hp} {ta : TE} {Ps : List Pd} (hs : ∀ P ∈ Ps, Stb P) (ha : Ev ta σ H (LsV Ps)) : Ev (tCB (rTupleOf K) (tCons ta tNil)) σ H (TuV Ps) := by
  intro H1 s1 Q q
  refine ha H1 s1 _ fun v H2 s2 ⟨a, xs, e1, h, hx⟩ => ⟨a, xs, by rw [e1], .inl ⟨SqL.of h, fun l hl => ?_⟩⟩
  have sl := same_new (o := .tup xs) hl
  exact q _ _ (s2.trans sl) ⟨l, xs, rfl, upd_same, ech_same hs sl hx⟩
/-! ### tuples of polynomials, of amounts -/
abbrev Wo := (Nat → Rat) → Rat
abbrev ThV (φs : List Wo) (n b e : Nat) : Pd := TuV (φs.map fun φ => PyV φ n b e)
abbrev AmT (C : Addr) (φs : List Wo) (n b e : Nat) : Pd := TuV (φs.map fun φ => AmV C φ n b e)
theorem stb_th (φs : List Wo) (n b e : Nat) : Stb (ThV φs n b e) := stb_tu fun P hp => by obtain ⟨φ, _, rfl⟩ := List.mem_map.mp hp; exact stb_py φ n b e
theorem stb_amt (C : Addr) (φs : List Wo) (n b e : Nat) : Stb (AmT C φs n b e) := stb_tu fun P hp => by obtain ⟨φ, _, rfl⟩ := List.mem_map.mp hp; exact stb_am C φ n b e
/-- a polynomial's list, apart from the list at D -/
def PyD (D : Addr) (φ : Wo) (n b e : Nat) : Pd := fun v H => ∃ l ts L, v = .ref l ∧ l ≠ D ∧ H l = some (.lst (ts.map V.ref)) ∧ TermsAt H ts L ∧ (∀ f, ev f L = φ f) ∧ Pb n b e L
theorem stb_pyD (D : Addr) (φ : Wo) (n b e : Nat) : Stb (PyD D φ n b e) := fun _ _ _ s ⟨l, ts, L, e1, nl, h, t, r⟩ => ⟨l, ts, L, e1, nl, s _ _ h, TermsAt.same s t, r⟩
theorem pyD_but {D : Addr} {φ : Wo} {n b e : Nat} {v : V} {H : Hp} {xs : List V} (h : PyD D φ n b e v H) (hD : HasL H D) : PyD D φ n b e v (upd H D (.lst xs)) := by
  obtain ⟨l, ts, L, e1, nl, h, t, r⟩ := h
  obtain ⟨acc, hacc⟩ := hD
  exact ⟨l, ts, L, e1, nl, by rw [upd_ne nl]; exact h, terms_but t (fun xs z => by rw [hacc] at z; cases z), r⟩
theorem pyD_py {D : Addr} {φ : Wo} {n b e : Nat} {v : V} {H : Hp} (h : PyD D φ n b e v H) : PyV φ n b e v H := let ⟨l, ts, L, e1, _, h, t, r, p⟩ := h; ⟨L, ⟨l, ts, e1, h, t⟩, r, p⟩
def AmD (C D : Addr) (φ : Wo) (n b e : Nat) : Pd := fun v H => ∃ x dx y, v = .ref x ∧ H x = some (.ins C dx [("terms", y)]) ∧ PyD D φ n b e y H
theorem stb_amD (C D : Addr) (φ : Wo) (n b e : Nat) : Stb (AmD C D φ n b e) := fun _ _ _ s ⟨x, dx, y, e1, h, t⟩ => ⟨x, dx, y, e1, s _ _ h, stb_pyD D φ n b e _ _ _ s t⟩
section
variable {P : Program} {w : World} {K : PySem.W.Frag} {mg : Str → Option Value} {base : Heap} {C : Addr}
/-- list(..) of a polynomial's list, while a list stands at D: a new one, apart from D -/
theorem list_copy {H : Hp} {D : Addr} {φ : Wo} {n b e : Nat} {v : V} {Q : VK} (hD : HasL H D) (h : PyV φ n b e v H) (q : ∀ y H2, Same H H2 → PyD D φ n b e y H2 → Q y H2) : rListOf K [v] H Q := by
  obtain ⟨L, ⟨a, ts, rfl, ha, ht⟩, r, p⟩ := h
  refine ⟨a, _, rfl, .inl (SqL.of ha), fun l hl => ?_⟩
  have sl := same_new (o := .lst (ts.map V.ref)) hl
  refine q _ _ sl ⟨l, ts, L, rfl, fun z => ?_, upd_same, TermsAt.same sl ht, r, p⟩
  obtain ⟨acc, hacc⟩ := hD
  rw [z, hacc] at hl
  cases hl
abbrev s_polys_of : Stmt := top 25
theorem sc_polys_of : FnScope ["told", "terms"] ["told"] (defScope s_polys_of) := ⟨rfl, rfl, rfl, by decide +kernel, rfl, by decide +kernel, by decide +kernel⟩
def sp_polys_of (C : Addr) : Sp := fun vs H Q _ => ∃ (x : V) (φs : List Wo) (n b e : Nat), vs = [x] ∧ ThV φs n b e x H ∧ φs.length ≤ 1000 ∧ ∀ v H', Same H H' → AmT C φs n b e v H' → Q v H'
theorem ok_polys_of (R : Raw K mg "polys_of" s_polys_of) (B : Bi mg) (d_Poly : DMk P w K mg base C) : Def P w K mg base "polys_of" 3 ["told"] (sp_polys_of C) := by
  refine def_mk R sc_polys_of (fun vs H Q E h => ?_) (fun _ _ _ _ _ _ us hl => match us, hl with | [_], _ => rfl) (fun f cdv A outer s H vs Q E hr h => ?_)
  · obtain ⟨x, φs, n, b, e, rfl, _⟩ := h
    rfl
  obtain ⟨x, φs, n, b, e, rfl, hx, hl, q⟩ := h
  refine ⟨_, (pss_one (ps_ret (pe_callTy call_tuple_of (by rfl) B.tuple (by decide +kernel) (pa_cons (pe_lc (own := [("terms", 1)]) rfl sc_polys_of.nd (pi_tup (pv 0)) (blkOk_by (own := [("terms", 1)]) (N := ["told", "terms"]) (sc := defScope s_polys_of) (by decide +kernel)) (fun _ _ _ _ _ => (pg_name (i := 1) sc_polys_of.nd rfl (Or.inl rfl))) (fun _ _ _ _ _ => pts_nil) (fun _ _ _ _ _ => (pe_mk d_Poly hr (by rfl) (pa_cons (pe_callTy (call_list_ofK (K := K) rfl) (by rfl) B.list (by decide +kernel) (pa_cons (pv 1) pa_nil)) pa_nil)))) pa_nil)))), ?_⟩
  refine s_ret (P := AmT C φs n b e) (ev_tupleL (fun P hp => by obtain ⟨φ, _, rfl⟩ := List.mem_map.mp hp; exact stb_am C φ n b e) (ev_map (α := Wo) (A := fun φ => PyV φ n b e) (B := fun φ => AmV C φ n b e) (Bd := fun D φ => AmD C D φ n b e) (fun φ => stb_py φ n b e) (fun D φ => stb_amD C D φ n b e) ?_ ?_ (ev_var rfl (stb_th φs n b e) hx) hl (fun _ => rfl) ?_)) q
  · rintro D φ y H1 xs ⟨x0, dx, y0, rfl, h, t⟩ hD
    obtain ⟨acc, hacc⟩ := id hD
    exact ⟨x0, dx, y0, rfl, by rw [upd_ne (fun z => by rw [z, hacc] at h; cases h)]; exact h, pyD_but t hD⟩
  · rintro D φ y H1 ⟨x0, dx, y0, rfl, h, t⟩
    exact ⟨x0, dx, y0, rfl, h, pyD_py t⟩
  · intro D φ x1 H1 _ s1 hD px Q2 q2
    refine ⟨_, rfl, ?_⟩
    dsimp only [tNil]
    refine list_copy (K := K) hD px fun y H2 s2 p2 => ?_
    intro x0 dx hx0 hdx ne
    have sm := same_made (C := C) (fs := []) (fs' := [("terms", y)]) hx0 hdx
    exact ⟨x0, dx, y, rfl, upd_same, rfl, q2 _ _ (s2.trans sm) ⟨x0, dx, y, rfl, upd_same, stb_pyD D φ n b e _ _ _ sm p2⟩⟩
abbrev s_terms_of : Stmt := top 26
theorem sc_terms_of : FnScope ["amounts", "amount"] ["amounts"] (defScope s_terms_of) := ⟨rfl, rfl, rfl, by decide +kernel, rfl, by decide +kernel, by decide +kernel⟩
def sp_terms_of (C : Addr) : Sp := fun vs H Q _ => ∃ (x : V) (φs : List Wo) (n b e : Nat), vs = [x] ∧ AmT C φs n b e x H ∧ φs.length ≤ 1000 ∧ ∀ v H', Same H H' → ThV φs n b e v H' → Q v H'
theorem ok_terms_of (R : Raw K mg "terms_of" s_terms_of) (B : Bi mg) (T : Txt K mg C) : Def P w K mg base "terms_of" 1 ["amounts"] (sp_terms_of C) := by
  refine def_mk R sc_terms_of (fun vs H Q E h => ?_) (fun _ _ _ _ _ _ us hl => match us, hl with | [_], _ => rfl) (fun f cdv A outer s H vs Q E hr h => ?_)
  · obtain ⟨x, φs, n, b, e, rfl, _⟩ := h
    rfl
  obtain ⟨x, φs, n, b, e, rfl, hx, hl, q⟩ := h
  refine ⟨_, (pss_one (ps_ret (pe_callTy call_tuple_of (by rfl) B.tuple (by decide +kernel) (pa_cons (pe_lc (own := [("amount", 1)]) rfl sc_terms_of.nd (pi_tup (pv 0)) (blkOk_by (own := [("amount", 1)]) (N := ["amounts", "amount"]) (sc := defScope s_terms_of) (by decide +kernel)) (fun _ _ _ _ _ => (pg_name (i := 1) sc_terms_of.nd rfl (Or.inl rfl))) (fun _ _ _ _ _ => pts_nil) (fun _ _ _ _ _ => (pe_callTy (call_list_ofK (K := K) rfl) (by rfl) B.list (by decide +kernel) (pa_cons (pe_fldK (K := K) rfl (pv 1) rfl) pa_nil)))) pa_nil)))), ?_⟩
  refine s_ret (P := ThV φs n b e) (ev_tupleL (fun P hp => by obtain ⟨φ, _, rfl⟩ := List.mem_map.mp hp; exact stb_py φ n b e) (ev_map (α := Wo) (A := fun φ => AmV C φ n b e) (B := fun φ => PyV φ n b e) (Bd := fun D φ => PyD D φ n b e) (fun φ => stb_am C φ n b e) (fun D φ => stb_pyD D φ n b e) (fun D φ y H1 xs p hD => pyD_but p hD) (fun D φ y H1 p => pyD_py p) (ev_var rfl (stb_amt C φs n b e) hx) hl (fun _ => rfl) ?_)) q
  intro D φ x1 H1 _ s1 hD ⟨x0, dx, y, e1, h, p⟩ Q2 q2
  subst e1
  exact ⟨_, rfl, x0, C, dx, _, y, rfl, h, T.cl, T.nT, rfl, list_copy hD p q2⟩
end
end ED

/-! The raw rules of points and lines. -/
namespace ED
open PySem PySem.Spec PyProof.Rows L2 ER EM

theorem AmV.mono {C : Addr} {φ : Wo} {n b e n' b' e' : Nat} {v : V} {H : Hp} (h : AmV C φ n b e v H) (h1 : n ≤ n') (h2 : b ≤ b') (h3 : e ≤ e') : AmV C φ n' b' e' v H := let ⟨x, dx, y, a, c, p⟩ := h; ⟨x, dx, y, a, c, p.mono h1 h2 h3⟩
section
variable {K : PySem.W.Frag} {σ : L2.St} {H : Hp} {ta tb tc te : TE} {C : Addr} {φ ψ χ : Wo} {n b e n' b' e' : Nat} {P P1 P2 P3 : Pd}
theorem Ev.imp (h : Ev te σ H P1) (hp : ∀ v H, P1 v H → P2 v H) : Ev te σ H P2 := fun H1 s1 Q q => h H1 s1 Q fun v H2 s2 p => q v H2 s2 (hp _ _ p)
theorem ev_am {φs : List Wo} {i : Nat} (ha : Ev ta σ H (AmT C φs n b e)) (hi : φs[i]? = some φ) : Ev (tOp (rIxT K) ta (tC (.int (i : Int)))) σ H (AmV C φ n b e) :=
  ev_ixT (fun P hp => by obtain ⟨φ, _, rfl⟩ := List.mem_map.mp hp; exact stb_am C φ n b e) ha (ev_int (i : Int)) (by rw [List.getElem?_map, hi]; rfl)
theorem ev_am0 {φs : List Wo} (ha : Ev ta σ H (AmT C (φ :: φs) n b e)) : Ev (tOp (rIxT K) ta (tC (.int 0))) σ H (AmV C φ n b e) := ev_am (i := 0) ha rfl
theorem ev_am1 {φs : List Wo} (ha : Ev ta σ H (AmT C (φ :: ψ :: φs) n b e)) : Ev (tOp (rIxT K) ta (tC (.int 1))) σ H (AmV C ψ n b e) := ev_am (i := 1) ha rfl
theorem ev_am2 {φs : List Wo} (ha : Ev ta σ H (AmT C (φ :: ψ :: χ :: φs) n b e)) : Ev (tOp (rIxT K) ta (tC (.int 2))) σ H (AmV C χ n b e) := ev_am (i := 2) ha rfl
theorem ev_by (ha : Ev ta σ H (AmV C φ n b e)) (hb : Ev tb σ H (AmV C ψ n' b' e')) (h1 : n * n' ≤ 1000000 := by decide) (h2 : b ≤ 10000 := by decide) (h3 : b' ≤ 10000 := by decide) :
    Ev (tMeth C "by" (sp_by C) [] E0 ta (tCons tb tNil)) σ H (AmV C (fun f => φ f * ψ f) (n * n') (b + b') (e + e')) :=
  ev_meth (fun _ => rfl) ha hb fun x y H1 _ p1 p2 Q q => ⟨x, y, φ, ψ, n, b, e, n', b', e', rfl, p1, p2, h1, h2, h3, q⟩
theorem ev_plus (ha : Ev ta σ H (AmV C φ n b e)) (hb : Ev tb σ H (AmV C ψ n' b' e')) (h1 : n + n' ≤ 1000000 := by decide) :
    Ev (tMeth C "plus" (sp_plus C) [] E0 ta (tCons tb tNil)) σ H (AmV C (fun f => φ f + ψ f) (n + n') (max b b' + 1) (max e e')) :=
  ev_meth (fun _ => rfl) ha hb fun x y H1 _ p1 p2 Q q => ⟨x, y, φ, ψ, n, b, e, n', b', e', rfl, p1, p2, h1, q⟩
theorem ev_less (ha : Ev ta σ H (AmV C φ n b e)) (hb : Ev tb σ H (AmV C ψ n' b' e')) (h1 : n + n' ≤ 1000000 := by decide) (h3 : b' ≤ 10000 := by decide) :
    Ev (tMeth C "less" (sp_less C) [] E0 ta (tCons tb tNil)) σ H (AmV C (fun f => φ f - ψ f) (n + n') (max b b' + 1) (max e e')) :=
  ev_meth (fun _ => rfl) ha hb fun x y H1 _ p1 p2 Q q => ⟨x, y, φ, ψ, n, b, e, n', b', e', rfl, p1, p2, h1, h3, q⟩
theorem ev_many {k : Int} (j : Nat) (ha : Ev ta σ H (AmV C φ n b e)) (hb : Ev tb σ H (IsI k)) (hk : k.natAbs ≤ 2 ^ j) (h1 : n ≤ 1000000 := by decide) (h2 : b ≤ 10000 := by decide) (h3 : j ≤ 10000 := by decide) :
    Ev (tMeth C "many" (sp_many C) [] E0 ta (tCons tb tNil)) σ H (AmV C (fun f => (k : Rat) * φ f) n (b + j) e) :=
  ev_meth (fun _ => rfl) ha hb fun x y H1 _ p1 p2 Q q => ⟨x, k, φ, n, b, e, j, by rw [p2], p1, hk, h1, h2, h3, q⟩
theorem ev_neg1 : Ev (tUn (rU fun i => .int (-i)) (tC (.int 1))) σ H (IsI (-1)) := ev_un (P1 := IsI 1) (P := IsI (-1)) (ev_int 1) fun x H1 _ e Q q => ⟨1, e, q _ _ (Same.refl _) rfl⟩
theorem ev_tup2 (ha : Ev ta σ H P1) (hb : Ev tb σ H P2) (s1 : Stb P1) (s2 : Stb P2) : Ev (tTup (tCons ta (tCons tb tNil))) σ H (TuV [P1, P2]) := by
  intro H1 q1 Q q
  refine ha H1 q1 _ fun x H2 t2 p1 => ?_
  refine hb H2 (q1.trans t2) _ fun y H3 t3 p2 => ?_
  refine ⟨by show 2 ≤ sizeLine; decide, fun p hp => ?_⟩
  have sp := same_new (o := .tup [x, y]) hp
  exact q _ _ (t2.trans (t3.trans sp)) ⟨p, [x, y], rfl, upd_same, .cons (s1 _ _ _ (t3.trans sp) p1) (.cons (s2 _ _ _ sp p2) .nil)⟩
theorem ev_tup3 (ha : Ev ta σ H P1) (hb : Ev tb σ H P2) (hc : Ev tc σ H P3) (s1 : Stb P1) (s2 : Stb P2) (s3 : Stb P3) : Ev (tTup (tCons ta (tCons tb (tCons tc tNil)))) σ H (TuV [P1, P2, P3]) := by
  intro H1 q1 Q q
  refine ha H1 q1 _ fun x H2 t2 p1 => ?_
  refine hb H2 (q1.trans t2) _ fun y H3 t3 p2 => ?_
  refine hc H3 ((q1.trans t2).trans t3) _ fun z H4 t4 p3 => ?_
  refine ⟨by show 3 ≤ sizeLine; decide, fun p hp => ?_⟩
  have sp := same_new (o := .tup [x, y, z]) hp
  exact q _ _ (t2.trans (t3.trans (t4.trans sp))) ⟨p, [x, y, z], rfl, upd_same, .cons (s1 _ _ _ (t3.trans (t4.trans sp)) p1) (.cons (s2 _ _ _ (t4.trans sp) p2) (.cons (s3 _ _ _ sp p3) .nil))⟩
/-- three amounts of at most these sizes -/
theorem ev_three {n1 b1 e1 n2 b2 e2 n3 b3 e3 : Nat} (N B E : Nat) (ha : Ev ta σ H (AmV C φ n1 b1 e1)) (hb : Ev tb σ H (AmV C ψ n2 b2 e2)) (hc : Ev tc σ H (AmV C χ n3 b3 e3))
    (h : n1 ≤ N ∧ b1 ≤ B ∧ e1 ≤ E ∧ n2 ≤ N ∧ b2 ≤ B ∧ e2 ≤ E ∧ n3 ≤ N ∧ b3 ≤ B ∧ e3 ≤ E := by decide) : Ev (tTup (tCons ta (tCons tb (tCons tc tNil)))) σ H (AmT C [φ, ψ, χ] N B E) :=
  ev_tup3 (ha.imp fun v H p => p.mono h.1 h.2.1 h.2.2.1) (hb.imp fun v H p => p.mono h.2.2.2.1 h.2.2.2.2.1 h.2.2.2.2.2.1) (hc.imp fun v H p => p.mono h.2.2.2.2.2.2.1 h.2.2.2.2.2.2.2.1 h.2.2.2.2.2.2.2.2) (stb_am C φ N B E) (stb_am C ψ N B E) (stb_am C χ N B E)
end
/-- a rule of two threes of amounts -/
def sp_rule2 (C : Addr) (g : Wo → Wo → Wo → Wo → Wo → Wo → List Wo) (n b e : Nat) : Sp := fun vs H Q _ => ∃ (x y : V) (i0 i1 i2 j0 j1 j2 : Wo), vs = [x, y] ∧ AmT C [i0, i1, i2] 3 32 3 x H ∧ AmT C [j0, j1, j2] 3 32 3 y H ∧ ∀ v H', Same H H' → AmT C (g i0 i1 i2 j0 j1 j2) n b e v H' → Q v H'
def g_way : Wo → Wo → Wo → Wo → Wo → Wo → List Wo := fun i0 i1 i2 j0 j1 j2 => [fun f => j0 f * i2 f - i0 f * j2 f, fun f => j1 f * i2 f - i1 f * j2 f]
def g_cross : Wo → Wo → Wo → Wo → Wo → Wo → List Wo := fun i0 i1 i2 j0 j1 j2 => [fun f => i1 f * j2 f - i2 f * j1 f, fun f => i2 f * j0 f - i0 f * j2 f, fun f => i0 f * j1 f - i1 f * j0 f]
def g_side : Wo → Wo → Wo → Wo → Wo → Wo → List Wo := fun i0 i1 i2 l0 l1 _ => [fun f => l0 f * i2 f, fun f => l1 f * i2 f, fun f => ((-1 : Int) : Rat) * (l0 f * i0 f + l1 f * i1 f)]
def g_square : Wo → Wo → Wo → Wo → Wo → Wo → List Wo := fun i0 i1 i2 l0 l1 _ => [fun f => ((-1 : Int) : Rat) * (l1 f * i2 f), fun f => l0 f * i2 f, fun f => l1 f * i0 f - l0 f * i1 f]
def g_foot : Wo → Wo → Wo → Wo → Wo → Wo → List Wo := fun i0 i1 i2 l0 l1 l2 =>
  [fun f => l1 f * (l1 f * i0 f - l0 f * i1 f) - l0 f * (l2 f * i2 f), fun f => ((-1 : Int) : Rat) * (l0 f * (l1 f * i0 f - l0 f * i1 f) + l1 f * (l2 f * i2 f)), fun f => (l0 f * l0 f + l1 f * l1 f) * i2 f]
def g_mirrored : Wo → Wo → Wo → Wo → Wo → Wo → List Wo := fun i0 i1 i2 l0 l1 l2 =>
  [fun f => ((2 : Int) : Rat) * (l1 f * (l1 f * i0 f - l0 f * i1 f) - l0 f * (l2 f * i2 f)) - (l0 f * l0 f + l1 f * l1 f) * i0 f,
   fun f => ((2 : Int) : Rat) * (((-1 : Int) : Rat) * (l0 f * (l1 f * i0 f - l0 f * i1 f) + l1 f * (l2 f * i2 f))) - (l0 f * l0 f + l1 f * l1 f) * i1 f,
   fun f => (l0 f * l0 f + l1 f * l1 f) * i2 f]
/-- slide_rule: a third amount -/
def g_slide (t : Wo) : Wo → Wo → Wo → Wo → Wo → Wo → List Wo := fun i0 i1 i2 j0 j1 j2 =>
  [fun f => i0 f * j2 f + t f * (j0 f * i2 f - i0 f * j2 f), fun f => i1 f * j2 f + t f * (j1 f * i2 f - i1 f * j2 f), fun f => i2 f * j2 f]
def sp_slide_rule (C : Addr) : Sp := fun vs H Q _ => ∃ (x y z : V) (i0 i1 i2 j0 j1 j2 t : Wo), vs = [x, y, z] ∧ AmT C [i0, i1, i2] 3 32 3 x H ∧ AmT C [j0, j1, j2] 3 32 3 y H ∧ AmV C t 1 0 1 z H ∧ ∀ v H', Same H H' → AmT C (g_slide t i0 i1 i2 j0 j1 j2) 1000 110 10 v H' → Q v H'
/-- part_rule: a fraction -/
def g_part (q : Rat) : Wo → Wo → Wo → Wo → Wo → Wo → List Wo := fun i0 i1 i2 j0 j1 j2 =>
  [fun f => ((q.den : Int) : Rat) * (i0 f * j2 f) + (q.num : Rat) * (j0 f * i2 f - i0 f * j2 f), fun f => ((q.den : Int) : Rat) * (i1 f * j2 f) + (q.num : Rat) * (j1 f * i2 f - i1 f * j2 f), fun f => ((q.den : Int) : Rat) * (i2 f * j2 f)]
/-- a small fraction -/
def Sml (q : Rat) : Prop := q.num.natAbs ≤ 2 ^ 4 ∧ ((q.den : Nat) : Int).natAbs ≤ 2 ^ 4
def sp_part_rule (C : Addr) : Sp := fun vs H Q _ => ∃ (x y z : V) (i0 i1 i2 j0 j1 j2 : Wo) (q : Rat), vs = [x, y, z] ∧ AmT C [i0, i1, i2] 3 32 3 x H ∧ AmT C [j0, j1, j2] 3 32 3 y H ∧ FrV q z H ∧ Sml q ∧ ∀ v H', Same H H' → AmT C (g_part q i0 i1 i2 j0 j1 j2) 1000 110 10 v H' → Q v H'
section
variable {P : Program} {w : World} {K : PySem.W.Frag} {mg : Str → Option Value} {base : Heap} {C : Addr}
/-- the methods, as the rules call them -/
structure Ms (P : Program) (w : World) (K : PySem.W.Frag) (mg : Str → Option Value) (base : Heap) (C : Addr) : Prop where
  T : Txt K mg C
  plus : MDef P w K mg base C "plus" 3 ["self", "other"] (sp_plus C)
  less : MDef P w K mg base C "less" 4 ["self", "other"] (sp_less C)
  by_ : MDef P w K mg base C "by" 3 ["self", "other"] (sp_by C)
  many : MDef P w K mg base C "many" 3 ["self", "number"] (sp_many C)
abbrev s_way_rule : Stmt := top 28
theorem sc_way_rule : FnScope ["i", "j", "across"] ["i", "j"] (defScope s_way_rule) := ⟨rfl, rfl, rfl, by decide +kernel, rfl, by decide +kernel, by decide +kernel⟩
abbrev s_slide_rule : Stmt := top 29
theorem sc_slide_rule : FnScope ["i", "j", "t", "across", "along", "first"] ["i", "j", "t"] (defScope s_slide_rule) := ⟨rfl, rfl, rfl, by decide +kernel, rfl, by decide +kernel, by decide +kernel⟩
abbrev s_crossed : Stmt := top 30
theorem sc_crossed : FnScope ["one", "other", "first", "second"] ["one", "other"] (defScope s_crossed) := ⟨rfl, rfl, rfl, by decide +kernel, rfl, by decide +kernel, by decide +kernel⟩
abbrev s_through_rule : Stmt := top 31
theorem sc_through_rule : FnScope ["i", "j"] ["i", "j"] (defScope s_through_rule) := ⟨rfl, rfl, rfl, by decide +kernel, rfl, by decide +kernel, by decide +kernel⟩
abbrev s_meet_rule : Stmt := top 32
theorem sc_meet_rule : FnScope ["l", "m"] ["l", "m"] (defScope s_meet_rule) := ⟨rfl, rfl, rfl, by decide +kernel, rfl, by decide +kernel, by decide +kernel⟩
abbrev s_side_rule : Stmt := top 33
theorem sc_side_rule : FnScope ["i", "l", "last"] ["i", "l"] (defScope s_side_rule) := ⟨rfl, rfl, rfl, by decide +kernel, rfl, by decide +kernel, by decide +kernel⟩
abbrev s_square_rule : Stmt := top 34
theorem sc_square_rule : FnScope ["i", "l", "last"] ["i", "l"] (defScope s_square_rule) := ⟨rfl, rfl, rfl, by decide +kernel, rfl, by decide +kernel, by decide +kernel⟩
abbrev s_width_rule : Stmt := top 35
theorem sc_width_rule : FnScope ["l"] ["l"] (defScope s_width_rule) := ⟨rfl, rfl, rfl, by decide +kernel, rfl, by decide +kernel, by decide +kernel⟩
abbrev s_foot_rule : Stmt := top 36
theorem sc_foot_rule : FnScope ["i", "l", "turn", "far", "first", "second"] ["i", "l"] (defScope s_foot_rule) := ⟨rfl, rfl, rfl, by decide +kernel, rfl, by decide +kernel, by decide +kernel⟩
abbrev s_part_rule : Stmt := top 37
theorem sc_part_rule : FnScope ["i", "j", "f", "across", "along", "first", "second"] ["i", "j", "f"] (defScope s_part_rule) := ⟨rfl, rfl, rfl, by decide +kernel, rfl, by decide +kernel, by decide +kernel⟩
abbrev s_mirrored_rule : Stmt := top 38
theorem sc_mirrored_rule : FnScope ["i", "l", "foot", "wide", "first"] ["i", "l"] (defScope s_mirrored_rule) := ⟨rfl, rfl, rfl, by decide +kernel, rfl, by decide +kernel, by decide +kernel⟩
theorem ok_way_rule (R : Raw K mg "way_rule" s_way_rule) (M : Ms P w K mg base C) : Def P w K mg base "way_rule" 5 ["i", "j"] (sp_rule2 C g_way 18 65 6) := by
  refine def_mk R sc_way_rule (fun vs H Q E h => ?_) (fun _ _ _ _ _ _ us hl => match us, hl with | [_, _], _ => rfl) (fun f cdv A outer s H vs Q E hr h => ?_)
  · obtain ⟨x, y, i0, i1, i2, j0, j1, j2, rfl, _⟩ := h
    rfl
  obtain ⟨x, y, i0, i1, i2, j0, j1, j2, rfl, hx, hy, q⟩ := h
  obtain ⟨T, d_plus, d_less, d_by, d_many⟩ := M
  refine ⟨_, (pss_cons (ps_set (i := 2) sc_way_rule.nd rfl (Or.inl rfl) (pe_mdef T.cl d_less hr (pe_mdef T.cl d_by hr (pe_ix ix_tup (pv 1) pe_int (fun _ _ => rfl)) (pa_cons (pe_ix ix_tup (pv 0) pe_int (fun _ _ => rfl)) pa_nil)) (pa_cons (pe_mdef T.cl d_by hr (pe_ix ix_tup (pv 0) pe_int (fun _ _ => rfl)) (pa_cons (pe_ix ix_tup (pv 1) pe_int (fun _ _ => rfl)) pa_nil)) pa_nil)))
      (pss_one (ps_ret (pe_tup (pa_cons (pv 2) (pa_cons (pe_mdef T.cl d_less hr (pe_mdef T.cl d_by hr (pe_ix ix_tup (pv 1) pe_int (fun _ _ => rfl)) (pa_cons (pe_ix ix_tup (pv 0) pe_int (fun _ _ => rfl)) pa_nil)) (pa_cons (pe_mdef T.cl d_by hr (pe_ix ix_tup (pv 0) pe_int (fun _ _ => rfl)) (pa_cons (pe_ix ix_tup (pv 1) pe_int (fun _ _ => rfl)) pa_nil)) pa_nil)) pa_nil)))))), ?_⟩
  have vx : ∀ {σ H1}, σ[0]? = some (some x) → Same H H1 → Ev (tVar 0) σ H1 (AmT C [i0, i1, i2] 3 32 3) := fun h s => ev_var h (stb_amt C _ 3 32 3) (stb_amt C _ 3 32 3 _ _ _ s hx)
  have vy : ∀ {σ H1}, σ[1]? = some (some y) → Same H H1 → Ev (tVar 1) σ H1 (AmT C [j0, j1, j2] 3 32 3) := fun h s => ev_var h (stb_amt C _ 3 32 3) (stb_amt C _ 3 32 3 _ _ _ s hy)
  refine s_set (ev_less (ev_by (ev_am0 (vy rfl (Same.refl _))) (ev_am2 (vx rfl (Same.refl _)))) (ev_by (ev_am0 (vx rfl (Same.refl _))) (ev_am2 (vy rfl (Same.refl _))))) fun v1 H1 s1 p1 => ?_
  refine s_ret (P := AmT C (g_way i0 i1 i2 j0 j1 j2) 18 65 6) (ev_tup2 (ev_var rfl (stb_am _ _ _ _ _) p1) (ev_less (ev_by (ev_am1 (vy rfl s1)) (ev_am2 (vx rfl s1))) (ev_by (ev_am1 (vx rfl s1)) (ev_am2 (vy rfl s1)))) (stb_am _ _ _ _ _) (stb_am _ _ _ _ _)) fun v2 H2 s2 p2 => ?_
  exact q _ _ (s1.trans s2) p2
theorem ok_crossed (R : Raw K mg "crossed" s_crossed) (M : Ms P w K mg base C) : Def P w K mg base "crossed" 5 ["one", "other"] (sp_rule2 C g_cross 1000 110 10) := by
  refine def_mk R sc_crossed (fun vs H Q E h => ?_) (fun _ _ _ _ _ _ us hl => match us, hl with | [_, _], _ => rfl) (fun f cdv A outer s H vs Q E hr h => ?_)
  · obtain ⟨x, y, i0, i1, i2, j0, j1, j2, rfl, _⟩ := h
    rfl
  obtain ⟨x, y, i0, i1, i2, j0, j1, j2, rfl, hx, hy, q⟩ := h
  obtain ⟨T, d_plus, d_less, d_by, d_many⟩ := M
  refine ⟨_, (pss_cons (ps_set (i := 2) sc_crossed.nd rfl (Or.inl rfl) (pe_mdef T.cl d_less hr (pe_mdef T.cl d_by hr (pe_ix ix_tup (pv 0) pe_int (fun _ _ => rfl)) (pa_cons (pe_ix ix_tup (pv 1) pe_int (fun _ _ => rfl)) pa_nil)) (pa_cons (pe_mdef T.cl d_by hr (pe_ix ix_tup (pv 0) pe_int (fun _ _ => rfl)) (pa_cons (pe_ix ix_tup (pv 1) pe_int (fun _ _ => rfl)) pa_nil)) pa_nil)))
      (pss_cons (ps_set (i := 3) sc_crossed.nd rfl (Or.inl rfl) (pe_mdef T.cl d_less hr (pe_mdef T.cl d_by hr (pe_ix ix_tup (pv 0) pe_int (fun _ _ => rfl)) (pa_cons (pe_ix ix_tup (pv 1) pe_int (fun _ _ => rfl)) pa_nil)) (pa_cons (pe_mdef T.cl d_by hr (pe_ix ix_tup (pv 0) pe_int (fun _ _ => rfl)) (pa_cons (pe_ix ix_tup (pv 1) pe_int (fun _ _ => rfl)) pa_nil)) pa_nil)))
      (pss_one (ps_ret (pe_tup (pa_cons (pv 2) (pa_cons (pv 3) (pa_cons (pe_mdef T.cl d_less hr (pe_mdef T.cl d_by hr (pe_ix ix_tup (pv 0) pe_int (fun _ _ => rfl)) (pa_cons (pe_ix ix_tup (pv 1) pe_int (fun _ _ => rfl)) pa_nil)) (pa_cons (pe_mdef T.cl d_by hr (pe_ix ix_tup (pv 0) pe_int (fun _ _ => rfl)) (pa_cons (pe_ix ix_tup (pv 1) pe_int (fun _ _ => rfl)) pa_nil)) pa_nil)) pa_nil)))))))), ?_⟩
  have vx : ∀ {σ H1}, σ[0]? = some (some x) → Same H H1 → Ev (tVar 0) σ H1 (AmT C [i0, i1, i2] 3 32 3) := fun h s => ev_var h (stb_amt C _ 3 32 3) (stb_amt C _ 3 32 3 _ _ _ s hx)
  have vy : ∀ {σ H1}, σ[1]? = some (some y) → Same H H1 → Ev (tVar 1) σ H1 (AmT C [j0, j1, j2] 3 32 3) := fun h s => ev_var h (stb_amt C _ 3 32 3) (stb_amt C _ 3 32 3 _ _ _ s hy)
  refine s_set (ev_less (ev_by (ev_am1 (vx rfl (Same.refl _))) (ev_am2 (vy rfl (Same.refl _)))) (ev_by (ev_am2 (vx rfl (Same.refl _))) (ev_am1 (vy rfl (Same.refl _))))) fun v1 H1 s1 p1 => ?_
  refine s_set (ev_less (ev_by (ev_am2 (vx rfl s1)) (ev_am0 (vy rfl s1))) (ev_by (ev_am0 (vx rfl s1)) (ev_am2 (vy rfl s1)))) fun v2 H2 s2 p2 => ?_
  refine s_ret (P := AmT C (g_cross i0 i1 i2 j0 j1 j2) 1000 110 10) (ev_three 1000 110 10 (ev_var rfl (stb_am _ _ _ _ _) (stb_am _ _ _ _ _ _ _ _ s2 p1)) (ev_var rfl (stb_am _ _ _ _ _) p2) (ev_less (ev_by (ev_am0 (vx rfl (s1.trans s2))) (ev_am1 (vy rfl (s1.trans s2)))) (ev_by (ev_am1 (vx rfl (s1.trans s2))) (ev_am0 (vy rfl (s1.trans s2)))))) fun v3 H3 s3 p3 => ?_
  exact q _ _ (s1.trans (s2.trans s3)) p3
theorem ok_through_rule (R : Raw K mg "through_rule" s_through_rule) (M : Ms P w K mg base C) (d_crossed : Def P w K mg base "crossed" 5 ["one", "other"] (sp_rule2 C g_cross 1000 110 10)) : Def P w K mg base "through_rule" 6 ["i", "j"] (sp_rule2 C g_cross 1000 110 10) := by
  refine def_mk R sc_through_rule (fun vs H Q E h => ?_) (fun _ _ _ _ _ _ us hl => match us, hl with | [_, _], _ => rfl) (fun f cdv A outer s H vs Q E hr h => ?_)
  · obtain ⟨x, y, i0, i1, i2, j0, j1, j2, rfl, _⟩ := h
    rfl
  obtain ⟨x, y, i0, i1, i2, j0, j1, j2, rfl, hx, hy, q⟩ := h
  obtain ⟨T, d_plus, d_less, d_by, d_many⟩ := M
  refine ⟨_, (pss_one (ps_ret (pe_def d_crossed hr (by rfl) (pa_cons (pv 0) (pa_cons (pv 1) pa_nil))))), ?_⟩
  have vx : ∀ {σ H1}, σ[0]? = some (some x) → Same H H1 → Ev (tVar 0) σ H1 (AmT C [i0, i1, i2] 3 32 3) := fun h s => ev_var h (stb_amt C _ 3 32 3) (stb_amt C _ 3 32 3 _ _ _ s hx)
  have vy : ∀ {σ H1}, σ[1]? = some (some y) → Same H H1 → Ev (tVar 1) σ H1 (AmT C [j0, j1, j2] 3 32 3) := fun h s => ev_var h (stb_amt C _ 3 32 3) (stb_amt C _ 3 32 3 _ _ _ s hy)
  refine s_ret (P := AmT C (g_cross i0 i1 i2 j0 j1 j2) 1000 110 10) (ev_call2 (vx rfl (Same.refl _)) (vy rfl (Same.refl _)) (stb_amt C _ 3 32 3) fun x1 y1 H1 _ p1 p2 Q q => ?_) q
  exact ⟨x1, y1, i0, i1, i2, j0, j1, j2, rfl, p1, p2, q⟩
theorem ok_meet_rule (R : Raw K mg "meet_rule" s_meet_rule) (M : Ms P w K mg base C) (d_crossed : Def P w K mg base "crossed" 5 ["one", "other"] (sp_rule2 C g_cross 1000 110 10)) : Def P w K mg base "meet_rule" 6 ["l", "m"] (sp_rule2 C g_cross 1000 110 10) := by
  refine def_mk R sc_meet_rule (fun vs H Q E h => ?_) (fun _ _ _ _ _ _ us hl => match us, hl with | [_, _], _ => rfl) (fun f cdv A outer s H vs Q E hr h => ?_)
  · obtain ⟨x, y, i0, i1, i2, j0, j1, j2, rfl, _⟩ := h
    rfl
  obtain ⟨x, y, i0, i1, i2, j0, j1, j2, rfl, hx, hy, q⟩ := h
  obtain ⟨T, d_plus, d_less, d_by, d_many⟩ := M
  refine ⟨_, (pss_one (ps_ret (pe_def d_crossed hr (by rfl) (pa_cons (pv 0) (pa_cons (pv 1) pa_nil))))), ?_⟩
  have vx : ∀ {σ H1}, σ[0]? = some (some x) → Same H H1 → Ev (tVar 0) σ H1 (AmT C [i0, i1, i2] 3 32 3) := fun h s => ev_var h (stb_amt C _ 3 32 3) (stb_amt C _ 3 32 3 _ _ _ s hx)
  have vy : ∀ {σ H1}, σ[1]? = some (some y) → Same H H1 → Ev (tVar 1) σ H1 (AmT C [j0, j1, j2] 3 32 3) := fun h s => ev_var h (stb_amt C _ 3 32 3) (stb_amt C _ 3 32 3 _ _ _ s hy)
  refine s_ret (P := AmT C (g_cross i0 i1 i2 j0 j1 j2) 1000 110 10) (ev_call2 (vx rfl (Same.refl _)) (vy rfl (Same.refl _)) (stb_amt C _ 3 32 3) fun x1 y1 H1 _ p1 p2 Q q => ?_) q
  exact ⟨x1, y1, i0, i1, i2, j0, j1, j2, rfl, p1, p2, q⟩
theorem ok_side_rule (R : Raw K mg "side_rule" s_side_rule) (M : Ms P w K mg base C) : Def P w K mg base "side_rule" 5 ["i", "l"] (sp_rule2 C g_side 1000 110 10) := by
  refine def_mk R sc_side_rule (fun vs H Q E h => ?_) (fun _ _ _ _ _ _ us hl => match us, hl with | [_, _], _ => rfl) (fun f cdv A outer s H vs Q E hr h => ?_)
  · obtain ⟨x, y, i0, i1, i2, j0, j1, j2, rfl, _⟩ := h
    rfl
  obtain ⟨x, y, i0, i1, i2, j0, j1, j2, rfl, hx, hy, q⟩ := h
  obtain ⟨T, d_plus, d_less, d_by, d_many⟩ := M
  refine ⟨_, (pss_cons (ps_set (i := 2) sc_side_rule.nd rfl (Or.inl rfl) (pe_mdef T.cl d_many hr (pe_mdef T.cl d_plus hr (pe_mdef T.cl d_by hr (pe_ix ix_tup (pv 1) pe_int (fun _ _ => rfl)) (pa_cons (pe_ix ix_tup (pv 0) pe_int (fun _ _ => rfl)) pa_nil)) (pa_cons (pe_mdef T.cl d_by hr (pe_ix ix_tup (pv 1) pe_int (fun _ _ => rfl)) (pa_cons (pe_ix ix_tup (pv 0) pe_int (fun _ _ => rfl)) pa_nil)) pa_nil)) (pa_cons (pe_un un_neg pe_int) pa_nil)))
      (pss_one (ps_ret (pe_tup (pa_cons (pe_mdef T.cl d_by hr (pe_ix ix_tup (pv 1) pe_int (fun _ _ => rfl)) (pa_cons (pe_ix ix_tup (pv 0) pe_int (fun _ _ => rfl)) pa_nil)) (pa_cons (pe_mdef T.cl d_by hr (pe_ix ix_tup (pv 1) pe_int (fun _ _ => rfl)) (pa_cons (pe_ix ix_tup (pv 0) pe_int (fun _ _ => rfl)) pa_nil)) (pa_cons (pv 2) pa_nil))))))), ?_⟩
  have vx : ∀ {σ H1}, σ[0]? = some (some x) → Same H H1 → Ev (tVar 0) σ H1 (AmT C [i0, i1, i2] 3 32 3) := fun h s => ev_var h (stb_amt C _ 3 32 3) (stb_amt C _ 3 32 3 _ _ _ s hx)
  have vy : ∀ {σ H1}, σ[1]? = some (some y) → Same H H1 → Ev (tVar 1) σ H1 (AmT C [j0, j1, j2] 3 32 3) := fun h s => ev_var h (stb_amt C _ 3 32 3) (stb_amt C _ 3 32 3 _ _ _ s hy)
  refine s_set (ev_many 0 (ev_plus (ev_by (ev_am0 (vy rfl (Same.refl _))) (ev_am0 (vx rfl (Same.refl _)))) (ev_by (ev_am1 (vy rfl (Same.refl _))) (ev_am1 (vx rfl (Same.refl _))))) ev_neg1 (by decide)) fun v1 H1 s1 p1 => ?_
  refine s_ret (P := AmT C (g_side i0 i1 i2 j0 j1 j2) 1000 110 10) (ev_three 1000 110 10 (ev_by (ev_am0 (vy rfl s1)) (ev_am2 (vx rfl s1))) (ev_by (ev_am1 (vy rfl s1)) (ev_am2 (vx rfl s1))) (ev_var rfl (stb_am _ _ _ _ _) p1)) fun v2 H2 s2 p2 => ?_
  exact q _ _ (s1.trans s2) p2
theorem ok_square_rule (R : Raw K mg "square_rule" s_square_rule) (M : Ms P w K mg base C) : Def P w K mg base "square_rule" 5 ["i", "l"] (sp_rule2 C g_square 1000 110 10) := by
  refine def_mk R sc_square_rule (fun vs H Q E h => ?_) (fun _ _ _ _ _ _ us hl => match us, hl with | [_, _], _ => rfl) (fun f cdv A outer s H vs Q E hr h => ?_)
  · obtain ⟨x, y, i0, i1, i2, j0, j1, j2, rfl, _⟩ := h
    rfl
  obtain ⟨x, y, i0, i1, i2, j0, j1, j2, rfl, hx, hy, q⟩ := h
  obtain ⟨T, d_plus, d_less, d_by, d_many⟩ := M
  refine ⟨_, (pss_cons (ps_set (i := 2) sc_square_rule.nd rfl (Or.inl rfl) (pe_mdef T.cl d_less hr (pe_mdef T.cl d_by hr (pe_ix ix_tup (pv 1) pe_int (fun _ _ => rfl)) (pa_cons (pe_ix ix_tup (pv 0) pe_int (fun _ _ => rfl)) pa_nil)) (pa_cons (pe_mdef T.cl d_by hr (pe_ix ix_tup (pv 1) pe_int (fun _ _ => rfl)) (pa_cons (pe_ix ix_tup (pv 0) pe_int (fun _ _ => rfl)) pa_nil)) pa_nil)))
      (pss_one (ps_ret (pe_tup (pa_cons (pe_mdef T.cl d_many hr (pe_mdef T.cl d_by hr (pe_ix ix_tup (pv 1) pe_int (fun _ _ => rfl)) (pa_cons (pe_ix ix_tup (pv 0) pe_int (fun _ _ => rfl)) pa_nil)) (pa_cons (pe_un un_neg pe_int) pa_nil)) (pa_cons (pe_mdef T.cl d_by hr (pe_ix ix_tup (pv 1) pe_int (fun _ _ => rfl)) (pa_cons (pe_ix ix_tup (pv 0) pe_int (fun _ _ => rfl)) pa_nil)) (pa_cons (pv 2) pa_nil))))))), ?_⟩
  have vx : ∀ {σ H1}, σ[0]? = some (some x) → Same H H1 → Ev (tVar 0) σ H1 (AmT C [i0, i1, i2] 3 32 3) := fun h s => ev_var h (stb_amt C _ 3 32 3) (stb_amt C _ 3 32 3 _ _ _ s hx)
  have vy : ∀ {σ H1}, σ[1]? = some (some y) → Same H H1 → Ev (tVar 1) σ H1 (AmT C [j0, j1, j2] 3 32 3) := fun h s => ev_var h (stb_amt C _ 3 32 3) (stb_amt C _ 3 32 3 _ _ _ s hy)
  refine s_set (ev_less (ev_by (ev_am1 (vy rfl (Same.refl _))) (ev_am0 (vx rfl (Same.refl _)))) (ev_by (ev_am0 (vy rfl (Same.refl _))) (ev_am1 (vx rfl (Same.refl _))))) fun v1 H1 s1 p1 => ?_
  refine s_ret (P := AmT C (g_square i0 i1 i2 j0 j1 j2) 1000 110 10) (ev_three 1000 110 10 (ev_many 0 (ev_by (ev_am1 (vy rfl s1)) (ev_am2 (vx rfl s1))) ev_neg1 (by decide)) (ev_by (ev_am0 (vy rfl s1)) (ev_am2 (vx rfl s1))) (ev_var rfl (stb_am _ _ _ _ _) p1)) fun v2 H2 s2 p2 => ?_
  exact q _ _ (s1.trans s2) p2
def sp_width (C : Addr) : Sp := fun vs H Q _ => ∃ (x : V) (l0 l1 l2 : Wo), vs = [x] ∧ AmT C [l0, l1, l2] 3 32 3 x H ∧ ∀ v H', Same H H' → AmV C (fun f => l0 f * l0 f + l1 f * l1 f) 18 65 6 v H' → Q v H'
theorem ok_width_rule (R : Raw K mg "width_rule" s_width_rule) (M : Ms P w K mg base C) : Def P w K mg base "width_rule" 4 ["l"] (sp_width C) := by
  refine def_mk R sc_width_rule (fun vs H Q E h => ?_) (fun _ _ _ _ _ _ us hl => match us, hl with | [_], _ => rfl) (fun f cdv A outer s H vs Q E hr h => ?_)
  · obtain ⟨x, l0, l1, l2, rfl, _⟩ := h
    rfl
  obtain ⟨x, l0, l1, l2, rfl, hx, q⟩ := h
  obtain ⟨T, d_plus, d_less, d_by, d_many⟩ := M
  refine ⟨_, (pss_one (ps_ret (pe_mdef T.cl d_plus hr (pe_mdef T.cl d_by hr (pe_ix ix_tup (pv 0) pe_int (fun _ _ => rfl)) (pa_cons (pe_ix ix_tup (pv 0) pe_int (fun _ _ => rfl)) pa_nil)) (pa_cons (pe_mdef T.cl d_by hr (pe_ix ix_tup (pv 0) pe_int (fun _ _ => rfl)) (pa_cons (pe_ix ix_tup (pv 0) pe_int (fun _ _ => rfl)) pa_nil)) pa_nil)))), ?_⟩
  have vx : Ev (tVar 0) (start ["l"] [x]) H (AmT C [l0, l1, l2] 3 32 3) := ev_var rfl (stb_amt C _ 3 32 3) hx
  exact s_ret (P := AmV C (fun f => l0 f * l0 f + l1 f * l1 f) 18 65 6) (ev_plus (ev_by (ev_am0 vx) (ev_am0 vx)) (ev_by (ev_am1 vx) (ev_am1 vx))) q
theorem ev_width {σ : L2.St} {H : Hp} {ta : TE} {l0 l1 l2 : Wo} (ha : Ev ta σ H (AmT C [l0, l1, l2] 3 32 3)) : Ev (tCall (sp_width C) [] E0 (tCons ta tNil)) σ H (AmV C (fun f => l0 f * l0 f + l1 f * l1 f) 18 65 6) :=
  ev_call1 ha fun x H1 _ p Q q => ⟨x, l0, l1, l2, rfl, p, q⟩
theorem ok_foot_rule (R : Raw K mg "foot_rule" s_foot_rule) (M : Ms P w K mg base C) (d_width_rule : Def P w K mg base "width_rule" 4 ["l"] (sp_width C)) : Def P w K mg base "foot_rule" 5 ["i", "l"] (sp_rule2 C g_foot 81 98 9) := by
  refine def_mk R sc_foot_rule (fun vs H Q E h => ?_) (fun _ _ _ _ _ _ us hl => match us, hl with | [_, _], _ => rfl) (fun f cdv A outer s H vs Q E hr h => ?_)
  · obtain ⟨x, y, i0, i1, i2, j0, j1, j2, rfl, _⟩ := h
    rfl
  obtain ⟨x, y, i0, i1, i2, j0, j1, j2, rfl, hx, hy, q⟩ := h
  obtain ⟨T, d_plus, d_less, d_by, d_many⟩ := M
  refine ⟨_, (pss_cons (ps_set (i := 2) sc_foot_rule.nd rfl (Or.inl rfl) (pe_mdef T.cl d_less hr (pe_mdef T.cl d_by hr (pe_ix ix_tup (pv 1) pe_int (fun _ _ => rfl)) (pa_cons (pe_ix ix_tup (pv 0) pe_int (fun _ _ => rfl)) pa_nil)) (pa_cons (pe_mdef T.cl d_by hr (pe_ix ix_tup (pv 1) pe_int (fun _ _ => rfl)) (pa_cons (pe_ix ix_tup (pv 0) pe_int (fun _ _ => rfl)) pa_nil)) pa_nil)))
      (pss_cons (ps_set (i := 3) sc_foot_rule.nd rfl (Or.inl rfl) (pe_mdef T.cl d_by hr (pe_ix ix_tup (pv 1) pe_int (fun _ _ => rfl)) (pa_cons (pe_ix ix_tup (pv 0) pe_int (fun _ _ => rfl)) pa_nil)))
      (pss_cons (ps_set (i := 4) sc_foot_rule.nd rfl (Or.inl rfl) (pe_mdef T.cl d_less hr (pe_mdef T.cl d_by hr (pe_ix ix_tup (pv 1) pe_int (fun _ _ => rfl)) (pa_cons (pv 2) pa_nil)) (pa_cons (pe_mdef T.cl d_by hr (pe_ix ix_tup (pv 1) pe_int (fun _ _ => rfl)) (pa_cons (pv 3) pa_nil)) pa_nil)))
      (pss_cons (ps_set (i := 5) sc_foot_rule.nd rfl (Or.inl rfl) (pe_mdef T.cl d_many hr (pe_mdef T.cl d_plus hr (pe_mdef T.cl d_by hr (pe_ix ix_tup (pv 1) pe_int (fun _ _ => rfl)) (pa_cons (pv 2) pa_nil)) (pa_cons (pe_mdef T.cl d_by hr (pe_ix ix_tup (pv 1) pe_int (fun _ _ => rfl)) (pa_cons (pv 3) pa_nil)) pa_nil)) (pa_cons (pe_un un_neg pe_int) pa_nil)))
      (pss_one (ps_ret (pe_tup (pa_cons (pv 4) (pa_cons (pv 5) (pa_cons (pe_mdef T.cl d_by hr (pe_def d_width_rule hr (by rfl) (pa_cons (pv 1) pa_nil)) (pa_cons (pe_ix ix_tup (pv 0) pe_int (fun _ _ => rfl)) pa_nil)) pa_nil)))))))))), ?_⟩
  have vx : ∀ {σ H1}, σ[0]? = some (some x) → Same H H1 → Ev (tVar 0) σ H1 (AmT C [i0, i1, i2] 3 32 3) := fun h s => ev_var h (stb_amt C _ 3 32 3) (stb_amt C _ 3 32 3 _ _ _ s hx)
  have vy : ∀ {σ H1}, σ[1]? = some (some y) → Same H H1 → Ev (tVar 1) σ H1 (AmT C [j0, j1, j2] 3 32 3) := fun h s => ev_var h (stb_amt C _ 3 32 3) (stb_amt C _ 3 32 3 _ _ _ s hy)
  refine s_set (ev_less (ev_by (ev_am1 (vy rfl (Same.refl _))) (ev_am0 (vx rfl (Same.refl _)))) (ev_by (ev_am0 (vy rfl (Same.refl _))) (ev_am1 (vx rfl (Same.refl _))))) fun v1 H1 s1 p1 => ?_
  refine s_set (ev_by (ev_am2 (vy rfl s1)) (ev_am2 (vx rfl s1))) fun v2 H2 s2 p2 => ?_
  have t12 := s1.trans s2
  have p1a := stb_am _ _ _ _ _ _ _ _ s2 p1
  refine s_set (ev_less (ev_by (ev_am1 (vy rfl t12)) (ev_var rfl (stb_am _ _ _ _ _) p1a)) (ev_by (ev_am0 (vy rfl t12)) (ev_var rfl (stb_am _ _ _ _ _) p2))) fun v3 H3 s3 p3 => ?_
  have t13 := t12.trans s3
  have p1b := stb_am _ _ _ _ _ _ _ _ s3 p1a
  have p2b := stb_am _ _ _ _ _ _ _ _ s3 p2
  refine s_set (ev_many 0 (ev_plus (ev_by (ev_am0 (vy rfl t13)) (ev_var rfl (stb_am _ _ _ _ _) p1b)) (ev_by (ev_am1 (vy rfl t13)) (ev_var rfl (stb_am _ _ _ _ _) p2b))) ev_neg1 (by decide)) fun v4 H4 s4 p4 => ?_
  have t14 := t13.trans s4
  refine s_ret (P := AmT C (g_foot i0 i1 i2 j0 j1 j2) 81 98 9) (ev_three 81 98 9 (ev_var rfl (stb_am _ _ _ _ _) (stb_am _ _ _ _ _ _ _ _ s4 p3)) (ev_var rfl (stb_am _ _ _ _ _) p4) (ev_by (ev_width (vy rfl t14)) (ev_am2 (vx rfl t14)))) fun v5 H5 s5 p5 => ?_
  exact q _ _ (t14.trans s5) p5
theorem ok_mirrored_rule (R : Raw K mg "mirrored_rule" s_mirrored_rule) (M : Ms P w K mg base C) (d_width_rule : Def P w K mg base "width_rule" 4 ["l"] (sp_width C)) (d_foot_rule : Def P w K mg base "foot_rule" 5 ["i", "l"] (sp_rule2 C g_foot 81 98 9)) : Def P w K mg base "mirrored_rule" 6 ["i", "l"] (sp_rule2 C g_mirrored 1000 110 10) := by
  refine def_mk R sc_mirrored_rule (fun vs H Q E h => ?_) (fun _ _ _ _ _ _ us hl => match us, hl with | [_, _], _ => rfl) (fun f cdv A outer s H vs Q E hr h => ?_)
  · obtain ⟨x, y, i0, i1, i2, j0, j1, j2, rfl, _⟩ := h
    rfl
  obtain ⟨x, y, i0, i1, i2, j0, j1, j2, rfl, hx, hy, q⟩ := h
  obtain ⟨T, d_plus, d_less, d_by, d_many⟩ := M
  refine ⟨_, (pss_cons (ps_set (i := 2) sc_mirrored_rule.nd rfl (Or.inl rfl) (pe_def d_foot_rule hr (by rfl) (pa_cons (pv 0) (pa_cons (pv 1) pa_nil))))
      (pss_cons (ps_set (i := 3) sc_mirrored_rule.nd rfl (Or.inl rfl) (pe_def d_width_rule hr (by rfl) (pa_cons (pv 1) pa_nil)))
      (pss_cons (ps_set (i := 4) sc_mirrored_rule.nd rfl (Or.inl rfl) (pe_mdef T.cl d_less hr (pe_mdef T.cl d_many hr (pe_ix ix_tup (pv 2) pe_int (fun _ _ => rfl)) (pa_cons pe_int pa_nil)) (pa_cons (pe_mdef T.cl d_by hr (pv 3) (pa_cons (pe_ix ix_tup (pv 0) pe_int (fun _ _ => rfl)) pa_nil)) pa_nil)))
      (pss_one (ps_ret (pe_tup (pa_cons (pv 4) (pa_cons (pe_mdef T.cl d_less hr (pe_mdef T.cl d_many hr (pe_ix ix_tup (pv 2) pe_int (fun _ _ => rfl)) (pa_cons pe_int pa_nil)) (pa_cons (pe_mdef T.cl d_by hr (pv 3) (pa_cons (pe_ix ix_tup (pv 0) pe_int (fun _ _ => rfl)) pa_nil)) pa_nil)) (pa_cons (pe_ix ix_tup (pv 2) pe_int (fun _ _ => rfl)) pa_nil))))))))), ?_⟩
  have vx : ∀ {σ H1}, σ[0]? = some (some x) → Same H H1 → Ev (tVar 0) σ H1 (AmT C [i0, i1, i2] 3 32 3) := fun h s => ev_var h (stb_amt C _ 3 32 3) (stb_amt C _ 3 32 3 _ _ _ s hx)
  have vy : ∀ {σ H1}, σ[1]? = some (some y) → Same H H1 → Ev (tVar 1) σ H1 (AmT C [j0, j1, j2] 3 32 3) := fun h s => ev_var h (stb_amt C _ 3 32 3) (stb_amt C _ 3 32 3 _ _ _ s hy)
  refine s_set (P := AmT C (g_foot i0 i1 i2 j0 j1 j2) 81 98 9) (ev_call2 (vx rfl (Same.refl _)) (vy rfl (Same.refl _)) (stb_amt C _ 3 32 3) fun x1 y1 H1 _ p1 p2 Q q => ⟨x1, y1, i0, i1, i2, j0, j1, j2, rfl, p1, p2, q⟩) fun v1 H1 s1 p1 => ?_
  refine s_set (ev_width (vy rfl s1)) fun v2 H2 s2 p2 => ?_
  have t12 := s1.trans s2
  have fo : ∀ {σ H'}, σ[2]? = some (some v1) → Same H1 H' → Ev (tVar 2) σ H' (AmT C (g_foot i0 i1 i2 j0 j1 j2) 81 98 9) := fun h s => ev_var h (stb_amt C _ 81 98 9) (stb_amt C _ 81 98 9 _ _ _ s p1)
  refine s_set (ev_less (ev_many 1 (ev_am0 (fo rfl s2)) (ev_int 2) (by decide)) (ev_by (ev_var rfl (stb_am _ _ _ _ _) p2) (ev_am0 (vx rfl t12)))) fun v3 H3 s3 p3 => ?_
  have t13 := t12.trans s3
  have p2b := stb_am _ _ _ _ _ _ _ _ s3 p2
  refine s_ret (P := AmT C (g_mirrored i0 i1 i2 j0 j1 j2) 1000 110 10) (ev_three 1000 110 10 (ev_var rfl (stb_am _ _ _ _ _) p3) (ev_less (ev_many 1 (ev_am1 (fo rfl (s2.trans s3))) (ev_int 2) (by decide)) (ev_by (ev_var rfl (stb_am _ _ _ _ _) p2b) (ev_am1 (vx rfl t13)))) (ev_am2 (fo rfl (s2.trans s3)))) fun v5 H5 s5 p5 => ?_
  exact q _ _ (t13.trans s5) p5
theorem s_asg2 {K : PySem.W.Frag} {σ : L2.St} {H : Hp} {te : TE} {P1 P2 : Pd} {i j : Nat} {D : Ends} {tz : TS} (h : Ev te σ H (TuV [P1, P2])) (k : ∀ x y H1, Same H H1 → P1 x H1 → P2 y H1 → tz D ((σ.set i (some x)).set j (some y)) H1) :
    tSeq (tAsg te (gTup K 2 (gCons (gName i) (gCons (gName j) gNil)))) tz D σ H := by
  refine h H (Same.refl _) _ fun v H1 s1 ⟨a, xs, e, ha, hx⟩ => ?_
  subst e
  cases hx with
  | cons p1 t =>
    cases t with
    | cons p2 t2 =>
      cases t2
      exact g_pair ha (k _ _ H1 s1 p1 p2)
abbrev DWay (P : Program) (w : World) (K : PySem.W.Frag) (mg : Str → Option Value) (base : Heap) (C : Addr) : Prop := Def P w K mg base "way_rule" 5 ["i", "j"] (sp_rule2 C g_way 18 65 6)
theorem ok_slide_rule (R : Raw K mg "slide_rule" s_slide_rule) (M : Ms P w K mg base C) (d_way_rule : DWay P w K mg base C) : Def P w K mg base "slide_rule" 6 ["i", "j", "t"] (sp_slide_rule C) := by
  refine def_mk R sc_slide_rule (fun vs H Q E h => ?_) (fun _ _ _ _ _ _ us hl => match us, hl with | [_, _, _], _ => rfl) (fun f cdv A outer s H vs Q E hr h => ?_)
  · obtain ⟨x, y, z, i0, i1, i2, j0, j1, j2, t, rfl, _⟩ := h
    rfl
  obtain ⟨x, y, z, i0, i1, i2, j0, j1, j2, t, rfl, hx, hy, hz, q⟩ := h
  obtain ⟨T, d_plus, d_less, d_by, d_many⟩ := M
  refine ⟨_, (pss_cons (ps_asg (pe_def d_way_rule hr (by rfl) (pa_cons (pv 0) (pa_cons (pv 1) pa_nil))) (pg_tup rfl (pgs_cons (pg_name (i := 3) sc_slide_rule.nd rfl (.inl rfl)) (pgs_cons (pg_name (i := 4) sc_slide_rule.nd rfl (.inl rfl)) pgs_nil))))
      (pss_cons (ps_set (i := 5) sc_slide_rule.nd rfl (Or.inl rfl) (pe_mdef T.cl d_plus hr (pe_mdef T.cl d_by hr (pe_ix ix_tup (pv 0) pe_int (fun _ _ => rfl)) (pa_cons (pe_ix ix_tup (pv 1) pe_int (fun _ _ => rfl)) pa_nil)) (pa_cons (pe_mdef T.cl d_by hr (pv 2) (pa_cons (pv 3) pa_nil)) pa_nil)))
      (pss_one (ps_ret (pe_tup (pa_cons (pv 5) (pa_cons (pe_mdef T.cl d_plus hr (pe_mdef T.cl d_by hr (pe_ix ix_tup (pv 0) pe_int (fun _ _ => rfl)) (pa_cons (pe_ix ix_tup (pv 1) pe_int (fun _ _ => rfl)) pa_nil)) (pa_cons (pe_mdef T.cl d_by hr (pv 2) (pa_cons (pv 4) pa_nil)) pa_nil)) (pa_cons (pe_mdef T.cl d_by hr (pe_ix ix_tup (pv 0) pe_int (fun _ _ => rfl)) (pa_cons (pe_ix ix_tup (pv 1) pe_int (fun _ _ => rfl)) pa_nil)) pa_nil)))))))), ?_⟩
  have vx : ∀ {σ H1}, σ[0]? = some (some x) → Same H H1 → Ev (tVar 0) σ H1 (AmT C [i0, i1, i2] 3 32 3) := fun h s => ev_var h (stb_amt C _ 3 32 3) (stb_amt C _ 3 32 3 _ _ _ s hx)
  have vy : ∀ {σ H1}, σ[1]? = some (some y) → Same H H1 → Ev (tVar 1) σ H1 (AmT C [j0, j1, j2] 3 32 3) := fun h s => ev_var h (stb_amt C _ 3 32 3) (stb_amt C _ 3 32 3 _ _ _ s hy)
  have vz : ∀ {σ H1}, σ[2]? = some (some z) → Same H H1 → Ev (tVar 2) σ H1 (AmV C t 1 0 1) := fun h s => ev_var h (stb_am C _ 1 0 1) (stb_am C _ 1 0 1 _ _ _ s hz)
  refine s_asg2 (P1 := AmV C (fun f => j0 f * i2 f - i0 f * j2 f) 18 65 6) (P2 := AmV C (fun f => j1 f * i2 f - i1 f * j2 f) 18 65 6) (ev_call2 (vx rfl (Same.refl _)) (vy rfl (Same.refl _)) (stb_amt C _ 3 32 3) fun x1 y1 H1 _ p1 p2 Q q => ⟨x1, y1, i0, i1, i2, j0, j1, j2, rfl, p1, p2, q⟩) fun u1 u2 H1 s1 p1 p2 => ?_
  refine s_set (ev_plus (ev_by (ev_am0 (vx rfl s1)) (ev_am2 (vy rfl s1))) (ev_by (vz rfl s1) (ev_var rfl (stb_am _ _ _ _ _) p1))) fun v2 H2 s2 p3 => ?_
  have t12 := s1.trans s2
  refine s_ret (P := AmT C (g_slide t i0 i1 i2 j0 j1 j2) 1000 110 10) (ev_three 1000 110 10 (ev_var rfl (stb_am _ _ _ _ _) p3) (ev_plus (ev_by (ev_am1 (vx rfl t12)) (ev_am2 (vy rfl t12))) (ev_by (vz rfl t12) (ev_var rfl (stb_am _ _ _ _ _) (stb_am _ _ _ _ _ _ _ _ s2 p2)))) (ev_by (ev_am2 (vx rfl t12)) (ev_am2 (vy rfl t12)))) fun v5 H5 s5 p5 => ?_
  exact q _ _ (t12.trans s5) p5
theorem ok_part_rule (R : Raw K mg "part_rule" s_part_rule) (M : Ms P w K mg base C) (d_way_rule : DWay P w K mg base C) : Def P w K mg base "part_rule" 6 ["i", "j", "f"] (sp_part_rule C) := by
  refine def_mk R sc_part_rule (fun vs H Q E h => ?_) (fun _ _ _ _ _ _ us hl => match us, hl with | [_, _, _], _ => rfl) (fun f cdv A outer s H vs Q E hr h => ?_)
  · obtain ⟨x, y, z, i0, i1, i2, j0, j1, j2, t, rfl, _⟩ := h
    rfl
  obtain ⟨x, y, z, i0, i1, i2, j0, j1, j2, t, rfl, hx, hy, hz, ht, q⟩ := h
  obtain ⟨T, d_plus, d_less, d_by, d_many⟩ := M
  refine ⟨_, (pss_cons (ps_asg (pe_def d_way_rule hr (by rfl) (pa_cons (pv 0) (pa_cons (pv 1) pa_nil))) (pg_tup rfl (pgs_cons (pg_name (i := 3) sc_part_rule.nd rfl (.inl rfl)) (pgs_cons (pg_name (i := 4) sc_part_rule.nd rfl (.inl rfl)) pgs_nil))))
      (pss_cons (ps_set (i := 5) sc_part_rule.nd rfl (Or.inl rfl) (pe_mdef T.cl d_plus hr (pe_mdef T.cl d_many hr (pe_mdef T.cl d_by hr (pe_ix ix_tup (pv 0) pe_int (fun _ _ => rfl)) (pa_cons (pe_ix ix_tup (pv 1) pe_int (fun _ _ => rfl)) pa_nil)) (pa_cons (pe_ix ix_tup (pv 2) pe_int (fun _ _ => rfl)) pa_nil)) (pa_cons (pe_mdef T.cl d_many hr (pv 3) (pa_cons (pe_ix ix_tup (pv 2) pe_int (fun _ _ => rfl)) pa_nil)) pa_nil)))
      (pss_cons (ps_set (i := 6) sc_part_rule.nd rfl (Or.inl rfl) (pe_mdef T.cl d_plus hr (pe_mdef T.cl d_many hr (pe_mdef T.cl d_by hr (pe_ix ix_tup (pv 0) pe_int (fun _ _ => rfl)) (pa_cons (pe_ix ix_tup (pv 1) pe_int (fun _ _ => rfl)) pa_nil)) (pa_cons (pe_ix ix_tup (pv 2) pe_int (fun _ _ => rfl)) pa_nil)) (pa_cons (pe_mdef T.cl d_many hr (pv 4) (pa_cons (pe_ix ix_tup (pv 2) pe_int (fun _ _ => rfl)) pa_nil)) pa_nil)))
      (pss_one (ps_ret (pe_tup (pa_cons (pv 5) (pa_cons (pv 6) (pa_cons (pe_mdef T.cl d_many hr (pe_mdef T.cl d_by hr (pe_ix ix_tup (pv 0) pe_int (fun _ _ => rfl)) (pa_cons (pe_ix ix_tup (pv 1) pe_int (fun _ _ => rfl)) pa_nil)) (pa_cons (pe_ix ix_tup (pv 2) pe_int (fun _ _ => rfl)) pa_nil)) pa_nil))))))))), ?_⟩
  have vx : ∀ {σ H1}, σ[0]? = some (some x) → Same H H1 → Ev (tVar 0) σ H1 (AmT C [i0, i1, i2] 3 32 3) := fun h s => ev_var h (stb_amt C _ 3 32 3) (stb_amt C _ 3 32 3 _ _ _ s hx)
  have vy : ∀ {σ H1}, σ[1]? = some (some y) → Same H H1 → Ev (tVar 1) σ H1 (AmT C [j0, j1, j2] 3 32 3) := fun h s => ev_var h (stb_amt C _ 3 32 3) (stb_amt C _ 3 32 3 _ _ _ s hy)
  have vn : ∀ {σ H1}, σ[2]? = some (some z) → Same H H1 → Ev (tOp (rIxT K) (tVar 2) (tC (.int 0))) σ H1 (IsI t.num) := fun h s => ev_num (ev_var h (stb_fr t) (stb_fr t _ _ _ s hz)) (ev_int 0)
  have vd : ∀ {σ H1}, σ[2]? = some (some z) → Same H H1 → Ev (tOp (rIxT K) (tVar 2) (tC (.int 1))) σ H1 (IsI (t.den : Int)) := fun h s => ev_den (ev_var h (stb_fr t) (stb_fr t _ _ _ s hz)) (ev_int 1)
  refine s_asg2 (P1 := AmV C (fun f => j0 f * i2 f - i0 f * j2 f) 18 65 6) (P2 := AmV C (fun f => j1 f * i2 f - i1 f * j2 f) 18 65 6) (ev_call2 (vx rfl (Same.refl _)) (vy rfl (Same.refl _)) (stb_amt C _ 3 32 3) fun x1 y1 H1 _ p1 p2 Q q => ⟨x1, y1, i0, i1, i2, j0, j1, j2, rfl, p1, p2, q⟩) fun u1 u2 H1 s1 p1 p2 => ?_
  refine s_set (ev_plus (ev_many 4 (ev_by (ev_am0 (vx rfl s1)) (ev_am2 (vy rfl s1))) (vd rfl s1) ht.2) (ev_many 4 (ev_var rfl (stb_am _ _ _ _ _) p1) (vn rfl s1) ht.1)) fun v2 H2 s2 p3 => ?_
  have t12 := s1.trans s2
  refine s_set (ev_plus (ev_many 4 (ev_by (ev_am1 (vx rfl t12)) (ev_am2 (vy rfl t12))) (vd rfl t12) ht.2) (ev_many 4 (ev_var rfl (stb_am _ _ _ _ _) (stb_am _ _ _ _ _ _ _ _ s2 p2)) (vn rfl t12) ht.1)) fun v3 H3 s3 p4 => ?_
  have t13 := t12.trans s3
  refine s_ret (P := AmT C (g_part t i0 i1 i2 j0 j1 j2) 1000 110 10) (ev_three 1000 110 10 (ev_var rfl (stb_am _ _ _ _ _) (stb_am _ _ _ _ _ _ _ _ s3 p3)) (ev_var rfl (stb_am _ _ _ _ _) p4) (ev_many 4 (ev_by (ev_am2 (vx rfl t13)) (ev_am2 (vy rfl t13))) (vd rfl t13) ht.2)) fun v5 H5 s5 p5 => ?_
  exact q _ _ (t13.trans s5) p5
end
end ED

/-! Points and lines of lists of terms. -/
namespace ED
open PySem PySem.Spec PyProof.Rows L2 ER EM

def sp_point2 (g : Wo → Wo → Wo → Wo → Wo → Wo → List Wo) (n b e : Nat) : Sp := fun vs H Q _ => ∃ (x y : V) (i0 i1 i2 j0 j1 j2 : Wo), vs = [x, y] ∧ ThV [i0, i1, i2] 3 32 3 x H ∧ ThV [j0, j1, j2] 3 32 3 y H ∧ ∀ v H', Same H H' → ThV (g i0 i1 i2 j0 j1 j2) n b e v H' → Q v H'
def sp_slide_point : Sp := fun vs H Q _ => ∃ (x y : V) (i0 i1 i2 j0 j1 j2 : Wo) (k : Nat), vs = [x, y, .int (k : Int)] ∧ ThV [i0, i1, i2] 3 32 3 x H ∧ ThV [j0, j1, j2] 3 32 3 y H ∧ k ≤ 5 ∧ ∀ v H', Same H H' → ThV (g_slide (fun f => f k) i0 i1 i2 j0 j1 j2) 1000 110 10 v H' → Q v H'
def sp_part_point : Sp := fun vs H Q _ => ∃ (x y z : V) (i0 i1 i2 j0 j1 j2 : Wo) (q : Rat), vs = [x, y, z] ∧ ThV [i0, i1, i2] 3 32 3 x H ∧ ThV [j0, j1, j2] 3 32 3 y H ∧ FrV q z H ∧ Sml q ∧ ∀ v H', Same H H' → ThV (g_part q i0 i1 i2 j0 j1 j2) 1000 110 10 v H' → Q v H'
section
variable {P : Program} {w : World} {K : PySem.W.Frag} {mg : Str → Option Value} {base : Heap} {C : Addr} {σ : L2.St} {H : Hp} {ta : TE}
theorem ev_polys {φs : List Wo} {n b e : Nat} (ha : Ev ta σ H (ThV φs n b e)) (hl : φs.length ≤ 1000) : Ev (tCall (sp_polys_of C) [] E0 (tCons ta tNil)) σ H (AmT C φs n b e) :=
  ev_call1 ha fun x H1 _ p Q q => ⟨x, φs, n, b, e, rfl, p, hl, q⟩
theorem ev_termsOf {φs : List Wo} {n b e : Nat} (ha : Ev ta σ H (AmT C φs n b e)) (hl : φs.length ≤ 1000) : Ev (tCall (sp_terms_of C) [] E0 (tCons ta tNil)) σ H (ThV φs n b e) :=
  ev_call1 ha fun x H1 _ p Q q => ⟨x, φs, n, b, e, rfl, p, hl, q⟩
/-- to and from amounts -/
structure Tf (P : Program) (w : World) (K : PySem.W.Frag) (mg : Str → Option Value) (base : Heap) (C : Addr) : Prop where
  po : Def P w K mg base "polys_of" 3 ["told"] (sp_polys_of C)
  te : Def P w K mg base "terms_of" 1 ["amounts"] (sp_terms_of C)
abbrev s_through_line : Stmt := top 40
theorem sc_through_line : FnScope ["i", "j"] ["i", "j"] (defScope s_through_line) := ⟨rfl, rfl, rfl, by decide +kernel, rfl, by decide +kernel, by decide +kernel⟩
theorem ok_through_line (R : Raw K mg "through_line" s_through_line) (F : Tf P w K mg base C) (d_through_rule : Def P w K mg base "through_rule" 6 ["i", "j"] (sp_rule2 C g_cross 1000 110 10)) : Def P w K mg base "through_line" 7 ["i", "j"] (sp_point2 g_cross 1000 110 10) := by
  refine def_mk R sc_through_line (fun vs H Q E h => ?_) (fun _ _ _ _ _ _ us hl => match us, hl with | [_, _], _ => rfl) (fun f cdv A outer s H vs Q E hr h => ?_)
  · obtain ⟨x, y, i0, i1, i2, j0, j1, j2, rfl, _⟩ := h
    rfl
  obtain ⟨x, y, i0, i1, i2, j0, j1, j2, rfl, hx, hy, q⟩ := h
  obtain ⟨d_polys_of, d_terms_of⟩ := F
  refine ⟨_, (pss_one (ps_ret (pe_def d_terms_of hr (by rfl) (pa_cons (pe_def d_through_rule hr (by rfl) (pa_cons (pe_def d_polys_of hr (by rfl) (pa_cons (pv 0) pa_nil)) (pa_cons (pe_def d_polys_of hr (by rfl) (pa_cons (pv 1) pa_nil)) pa_nil))) pa_nil)))), ?_⟩
  refine s_ret (P := ThV (g_cross i0 i1 i2 j0 j1 j2) 1000 110 10) (ev_termsOf (ev_call2 (ev_polys (ev_var rfl (stb_th _ 3 32 3) hx) (by show 3 ≤ 1000; decide)) (ev_polys (ev_var rfl (stb_th _ 3 32 3) hy) (by show 3 ≤ 1000; decide)) (stb_amt C _ 3 32 3) fun x1 y1 H1 _ p1 p2 Q q => ?_) (by show 3 ≤ 1000; decide)) q
  exact ⟨x1, y1, i0, i1, i2, j0, j1, j2, rfl, p1, p2, q⟩
abbrev s_meet_point : Stmt := top 41
theorem sc_meet_point : FnScope ["l", "m"] ["l", "m"] (defScope s_meet_point) := ⟨rfl, rfl, rfl, by decide +kernel, rfl, by decide +kernel, by decide +kernel⟩
theorem ok_meet_point (R : Raw K mg "meet_point" s_meet_point) (F : Tf P w K mg base C) (d_meet_rule : Def P w K mg base "meet_rule" 6 ["l", "m"] (sp_rule2 C g_cross 1000 110 10)) : Def P w K mg base "meet_point" 7 ["l", "m"] (sp_point2 g_cross 1000 110 10) := by
  refine def_mk R sc_meet_point (fun vs H Q E h => ?_) (fun _ _ _ _ _ _ us hl => match us, hl with | [_, _], _ => rfl) (fun f cdv A outer s H vs Q E hr h => ?_)
  · obtain ⟨x, y, i0, i1, i2, j0, j1, j2, rfl, _⟩ := h
    rfl
  obtain ⟨x, y, i0, i1, i2, j0, j1, j2, rfl, hx, hy, q⟩ := h
  obtain ⟨d_polys_of, d_terms_of⟩ := F
  refine ⟨_, (pss_one (ps_ret (pe_def d_terms_of hr (by rfl) (pa_cons (pe_def d_meet_rule hr (by rfl) (pa_cons (pe_def d_polys_of hr (by rfl) (pa_cons (pv 0) pa_nil)) (pa_cons (pe_def d_polys_of hr (by rfl) (pa_cons (pv 1) pa_nil)) pa_nil))) pa_nil)))), ?_⟩
  refine s_ret (P := ThV (g_cross i0 i1 i2 j0 j1 j2) 1000 110 10) (ev_termsOf (ev_call2 (ev_polys (ev_var rfl (stb_th _ 3 32 3) hx) (by show 3 ≤ 1000; decide)) (ev_polys (ev_var rfl (stb_th _ 3 32 3) hy) (by show 3 ≤ 1000; decide)) (stb_amt C _ 3 32 3) fun x1 y1 H1 _ p1 p2 Q q => ?_) (by show 3 ≤ 1000; decide)) q
  exact ⟨x1, y1, i0, i1, i2, j0, j1, j2, rfl, p1, p2, q⟩
abbrev s_side_line : Stmt := top 42
theorem sc_side_line : FnScope ["i", "l"] ["i", "l"] (defScope s_side_line) := ⟨rfl, rfl, rfl, by decide +kernel, rfl, by decide +kernel, by decide +kernel⟩
theorem ok_side_line (R : Raw K mg "side_line" s_side_line) (F : Tf P w K mg base C) (d_side_rule : Def P w K mg base "side_rule" 5 ["i", "l"] (sp_rule2 C g_side 1000 110 10)) : Def P w K mg base "side_line" 6 ["i", "l"] (sp_point2 g_side 1000 110 10) := by
  refine def_mk R sc_side_line (fun vs H Q E h => ?_) (fun _ _ _ _ _ _ us hl => match us, hl with | [_, _], _ => rfl) (fun f cdv A outer s H vs Q E hr h => ?_)
  · obtain ⟨x, y, i0, i1, i2, j0, j1, j2, rfl, _⟩ := h
    rfl
  obtain ⟨x, y, i0, i1, i2, j0, j1, j2, rfl, hx, hy, q⟩ := h
  obtain ⟨d_polys_of, d_terms_of⟩ := F
  refine ⟨_, (pss_one (ps_ret (pe_def d_terms_of hr (by rfl) (pa_cons (pe_def d_side_rule hr (by rfl) (pa_cons (pe_def d_polys_of hr (by rfl) (pa_cons (pv 0) pa_nil)) (pa_cons (pe_def d_polys_of hr (by rfl) (pa_cons (pv 1) pa_nil)) pa_nil))) pa_nil)))), ?_⟩
  refine s_ret (P := ThV (g_side i0 i1 i2 j0 j1 j2) 1000 110 10) (ev_termsOf (ev_call2 (ev_polys (ev_var rfl (stb_th _ 3 32 3) hx) (by show 3 ≤ 1000; decide)) (ev_polys (ev_var rfl (stb_th _ 3 32 3) hy) (by show 3 ≤ 1000; decide)) (stb_amt C _ 3 32 3) fun x1 y1 H1 _ p1 p2 Q q => ?_) (by show 3 ≤ 1000; decide)) q
  exact ⟨x1, y1, i0, i1, i2, j0, j1, j2, rfl, p1, p2, q⟩
abbrev s_square_line : Stmt := top 43
theorem sc_square_line : FnScope ["i", "l"] ["i", "l"] (defScope s_square_line) := ⟨rfl, rfl, rfl, by decide +kernel, rfl, by decide +kernel, by decide +kernel⟩
theorem ok_square_line (R : Raw K mg "square_line" s_square_line) (F : Tf P w K mg base C) (d_square_rule : Def P w K mg base "square_rule" 5 ["i", "l"] (sp_rule2 C g_square 1000 110 10)) : Def P w K mg base "square_line" 6 ["i", "l"] (sp_point2 g_square 1000 110 10) := by
  refine def_mk R sc_square_line (fun vs H Q E h => ?_) (fun _ _ _ _ _ _ us hl => match us, hl with | [_, _], _ => rfl) (fun f cdv A outer s H vs Q E hr h => ?_)
  · obtain ⟨x, y, i0, i1, i2, j0, j1, j2, rfl, _⟩ := h
    rfl
  obtain ⟨x, y, i0, i1, i2, j0, j1, j2, rfl, hx, hy, q⟩ := h
  obtain ⟨d_polys_of, d_terms_of⟩ := F
  refine ⟨_, (pss_one (ps_ret (pe_def d_terms_of hr (by rfl) (pa_cons (pe_def d_square_rule hr (by rfl) (pa_cons (pe_def d_polys_of hr (by rfl) (pa_cons (pv 0) pa_nil)) (pa_cons (pe_def d_polys_of hr (by rfl) (pa_cons (pv 1) pa_nil)) pa_nil))) pa_nil)))), ?_⟩
  refine s_ret (P := ThV (g_square i0 i1 i2 j0 j1 j2) 1000 110 10) (ev_termsOf (ev_call2 (ev_polys (ev_var rfl (stb_th _ 3 32 3) hx) (by show 3 ≤ 1000; decide)) (ev_polys (ev_var rfl (stb_th _ 3 32 3) hy) (by show 3 ≤ 1000; decide)) (stb_amt C _ 3 32 3) fun x1 y1 H1 _ p1 p2 Q q => ?_) (by show 3 ≤ 1000; decide)) q
  exact ⟨x1, y1, i0, i1, i2, j0, j1, j2, rfl, p1, p2, q⟩
abbrev s_foot_point : Stmt := top 44
theorem sc_foot_point : FnScope ["i", "l"] ["i", "l"] (defScope s_foot_point) := ⟨rfl, rfl, rfl, by decide +kernel, rfl, by decide +kernel, by decide +kernel⟩
theorem ok_foot_point (R : Raw K mg "foot_point" s_foot_point) (F : Tf P w K mg base C) (d_foot_rule : Def P w K mg base "foot_rule" 5 ["i", "l"] (sp_rule2 C g_foot 81 98 9)) : Def P w K mg base "foot_point" 6 ["i", "l"] (sp_point2 g_foot 81 98 9) := by
  refine def_mk R sc_foot_point (fun vs H Q E h => ?_) (fun _ _ _ _ _ _ us hl => match us, hl with | [_, _], _ => rfl) (fun f cdv A outer s H vs Q E hr h => ?_)
  · obtain ⟨x, y, i0, i1, i2, j0, j1, j2, rfl, _⟩ := h
    rfl
  obtain ⟨x, y, i0, i1, i2, j0, j1, j2, rfl, hx, hy, q⟩ := h
  obtain ⟨d_polys_of, d_terms_of⟩ := F
  refine ⟨_, (pss_one (ps_ret (pe_def d_terms_of hr (by rfl) (pa_cons (pe_def d_foot_rule hr (by rfl) (pa_cons (pe_def d_polys_of hr (by rfl) (pa_cons (pv 0) pa_nil)) (pa_cons (pe_def d_polys_of hr (by rfl) (pa_cons (pv 1) pa_nil)) pa_nil))) pa_nil)))), ?_⟩
  refine s_ret (P := ThV (g_foot i0 i1 i2 j0 j1 j2) 81 98 9) (ev_termsOf (ev_call2 (ev_polys (ev_var rfl (stb_th _ 3 32 3) hx) (by show 3 ≤ 1000; decide)) (ev_polys (ev_var rfl (stb_th _ 3 32 3) hy) (by show 3 ≤ 1000; decide)) (stb_amt C _ 3 32 3) fun x1 y1 H1 _ p1 p2 Q q => ?_) (by show 3 ≤ 1000; decide)) q
  exact ⟨x1, y1, i0, i1, i2, j0, j1, j2, rfl, p1, p2, q⟩
abbrev s_mirrored_point : Stmt := top 46
theorem sc_mirrored_point : FnScope ["i", "l"] ["i", "l"] (defScope s_mirrored_point) := ⟨rfl, rfl, rfl, by decide +kernel, rfl, by decide +kernel, by decide +kernel⟩
theorem ok_mirrored_point (R : Raw K mg "mirrored_point" s_mirrored_point) (F : Tf P w K mg base C) (d_mirrored_rule : Def P w K mg base "mirrored_rule" 6 ["i", "l"] (sp_rule2 C g_mirrored 1000 110 10)) : Def P w K mg base "mirrored_point" 7 ["i", "l"] (sp_point2 g_mirrored 1000 110 10) := by
  refine def_mk R sc_mirrored_point (fun vs H Q E h => ?_) (fun _ _ _ _ _ _ us hl => match us, hl with | [_, _], _ => rfl) (fun f cdv A outer s H vs Q E hr h => ?_)
  · obtain ⟨x, y, i0, i1, i2, j0, j1, j2, rfl, _⟩ := h
    rfl
  obtain ⟨x, y, i0, i1, i2, j0, j1, j2, rfl, hx, hy, q⟩ := h
  obtain ⟨d_polys_of, d_terms_of⟩ := F
  refine ⟨_, (pss_one (ps_ret (pe_def d_terms_of hr (by rfl) (pa_cons (pe_def d_mirrored_rule hr (by rfl) (pa_cons (pe_def d_polys_of hr (by rfl) (pa_cons (pv 0) pa_nil)) (pa_cons (pe_def d_polys_of hr (by rfl) (pa_cons (pv 1) pa_nil)) pa_nil))) pa_nil)))), ?_⟩
  refine s_ret (P := ThV (g_mirrored i0 i1 i2 j0 j1 j2) 1000 110 10) (ev_termsOf (ev_call2 (ev_polys (ev_var rfl (stb_th _ 3 32 3) hx) (by show 3 ≤ 1000; decide)) (ev_polys (ev_var rfl (stb_th _ 3 32 3) hy) (by show 3 ≤ 1000; decide)) (stb_amt C _ 3 32 3) fun x1 y1 H1 _ p1 p2 Q q => ?_) (by show 3 ≤ 1000; decide)) q
  exact ⟨x1, y1, i0, i1, i2, j0, j1, j2, rfl, p1, p2, q⟩
abbrev s_slide_point : Stmt := top 39
theorem sc_slide_point : FnScope ["i", "j", "t"] ["i", "j", "t"] (defScope s_slide_point) := ⟨rfl, rfl, rfl, by decide +kernel, rfl, by decide +kernel, by decide +kernel⟩
theorem ok_slide_point (R : Raw K mg "slide_point" s_slide_point) (F : Tf P w K mg base C) (d_Poly : DMk P w K mg base C) (d_poly_free : Def P w K mg base "poly_free" 1 ["k"] sp_poly_free) (d_slide_rule : Def P w K mg base "slide_rule" 6 ["i", "j", "t"] (sp_slide_rule C)) : Def P w K mg base "slide_point" 7 ["i", "j", "t"] sp_slide_point := by
  refine def_mk R sc_slide_point (fun vs H Q E h => ?_) (fun _ _ _ _ _ _ us hl => match us, hl with | [_, _, _], _ => rfl) (fun f cdv A outer s H vs Q E hr h => ?_)
  · obtain ⟨x, y, i0, i1, i2, j0, j1, j2, k, rfl, _⟩ := h
    rfl
  obtain ⟨x, y, i0, i1, i2, j0, j1, j2, k, rfl, hx, hy, hk, q⟩ := h
  obtain ⟨d_polys_of, d_terms_of⟩ := F
  refine ⟨_, (pss_one (ps_ret (pe_def d_terms_of hr (by rfl) (pa_cons (pe_def d_slide_rule hr (by rfl) (pa_cons (pe_def d_polys_of hr (by rfl) (pa_cons (pv 0) pa_nil)) (pa_cons (pe_def d_polys_of hr (by rfl) (pa_cons (pv 1) pa_nil)) (pa_cons (pe_mk d_Poly hr (by rfl) (pa_cons (pe_def d_poly_free hr (by rfl) (pa_cons (pv 2) pa_nil)) pa_nil)) pa_nil)))) pa_nil)))), ?_⟩
  have fr : Ev (tCall sp_poly_free [] E0 (tCons (tVar 2) tNil)) (start ["i", "j", "t"] [x, y, .int (k : Int)]) H (PyV (fun f => f k) 1 0 1) := ev_call1 (P1 := IsI (k : Int)) (ev_var rfl (stb_i _) rfl) fun x1 H1 _ p Q q => ⟨k, by rw [p], hk, q⟩
  refine s_ret (P := ThV (g_slide (fun f => f k) i0 i1 i2 j0 j1 j2) 1000 110 10) (ev_termsOf (ev_call3 (ev_polys (ev_var rfl (stb_th _ 3 32 3) hx) (by show 3 ≤ 1000; decide)) (ev_polys (ev_var rfl (stb_th _ 3 32 3) hy) (by show 3 ≤ 1000; decide)) (ev_mk (C := C) fr) (stb_amt C _ 3 32 3) (stb_amt C _ 3 32 3) fun x1 y1 z1 H1 _ p1 p2 p3 Q q => ?_) (by show 3 ≤ 1000; decide)) q
  exact ⟨x1, y1, z1, i0, i1, i2, j0, j1, j2, _, rfl, p1, p2, p3, q⟩
abbrev s_part_point : Stmt := top 45
theorem sc_part_point : FnScope ["i", "j", "f"] ["i", "j", "f"] (defScope s_part_point) := ⟨rfl, rfl, rfl, by decide +kernel, rfl, by decide +kernel, by decide +kernel⟩
theorem ok_part_point (R : Raw K mg "part_point" s_part_point) (F : Tf P w K mg base C) (d_part_rule : Def P w K mg base "part_rule" 6 ["i", "j", "f"] (sp_part_rule C)) : Def P w K mg base "part_point" 7 ["i", "j", "f"] sp_part_point := by
  refine def_mk R sc_part_point (fun vs H Q E h => ?_) (fun _ _ _ _ _ _ us hl => match us, hl with | [_, _, _], _ => rfl) (fun f cdv A outer s H vs Q E hr h => ?_)
  · obtain ⟨x, y, z, i0, i1, i2, j0, j1, j2, t, rfl, _⟩ := h
    rfl
  obtain ⟨x, y, z, i0, i1, i2, j0, j1, j2, t, rfl, hx, hy, hz, ht, q⟩ := h
  obtain ⟨d_polys_of, d_terms_of⟩ := F
  refine ⟨_, (pss_one (ps_ret (pe_def d_terms_of hr (by rfl) (pa_cons (pe_def d_part_rule hr (by rfl) (pa_cons (pe_def d_polys_of hr (by rfl) (pa_cons (pv 0) pa_nil)) (pa_cons (pe_def d_polys_of hr (by rfl) (pa_cons (pv 1) pa_nil)) (pa_cons (pv 2) pa_nil)))) pa_nil)))), ?_⟩
  refine s_ret (P := ThV (g_part t i0 i1 i2 j0 j1 j2) 1000 110 10) (ev_termsOf (ev_call3 (ev_polys (ev_var rfl (stb_th _ 3 32 3) hx) (by show 3 ≤ 1000; decide)) (ev_polys (ev_var rfl (stb_th _ 3 32 3) hy) (by show 3 ≤ 1000; decide)) (ev_var rfl (stb_fr t) hz) (stb_amt C _ 3 32 3) (stb_amt C _ 3 32 3) fun x1 y1 z1 H1 _ p1 p2 p3 Q q => ?_) (by show 3 ≤ 1000; decide)) q
  exact ⟨x1, y1, z1, i0, i1, i2, j0, j1, j2, t, rfl, p1, p2, p3, ht, q⟩
end
end ED

/-! The law's own helpers: numbers drawn, fractions, powers, terms. -/
namespace ED
open PySem PySem.Spec PyProof.Rows L2 ER EM

section
variable {P : Program} {w : World} {K : PySem.W.Frag} {mg : Str → Option Value} {base : Heap} {C : Addr}
/-! ### a number drawn -/
abbrev s_l_thing : Stmt := top 49
theorem sc_l_thing : FnScope ["_law_cell_here", "_law_k", "_law_many", "_law_number"] ["_law_cell_here", "_law_k", "_law_many"] (defScope s_l_thing) := ⟨rfl, rfl, rfl, by decide +kernel, rfl, by decide +kernel, by decide +kernel⟩
def sp_l_thing : Sp := fun vs H Q _ => ∃ c k m : Int, vs = [.int c, .int k, .int m] ∧ 0 ≤ k ∧ k ≤ 100 ∧ 0 < m ∧ ∀ r H', Same H H' → 0 ≤ r → r < m → Q (.int r) H'
theorem ok_l_thing (R : Raw K mg "_law_thing" s_l_thing) : Def P w K mg base "_law_thing" 1 ["_law_cell_here", "_law_k", "_law_many"] sp_l_thing := by
  refine def_mk R sc_l_thing (fun vs H Q E h => ?_) (fun _ _ _ _ _ _ us hl => match us, hl with | [_, _, _], _ => rfl) (fun f cdv A outer s H vs Q E hr h => ?_)
  · obtain ⟨c, k, m, rfl, _⟩ := h
    rfl
  obtain ⟨c, k, m, rfl, k0, k1, m0, q⟩ := h
  refine ⟨_, (pss_cons (ps_set (i := 3) sc_l_thing.nd rfl (Or.inl rfl) (pe_op op_mod (pe_op op_add (pe_op op_add (pe_op op_mul (pe_op op_mod (pv 0) pe_int) pe_int) (pe_op op_mul (pe_op op_mul pe_int (pv 1)) (pv 1))) (pe_op op_mul pe_int (pv 1))) pe_int))
      (pss_cons (ps_set (i := 3) sc_l_thing.nd rfl (Or.inl rfl) (pe_op op_mod (pe_op op_mul (pv 3) (pv 3)) pe_int))
      (pss_one (ps_ret (pe_op op_mod (pe_op op_mod (pe_op op_mul (pv 3) (pe_op op_add (pv 3) pe_int)) pe_int) (pv 2)))))), ?_⟩
  have hk : -(2 ^ 64) < k ∧ k < 2 ^ 64 := by omega
  have p1 : (0 : Int) < 2147483647 := by decide
  have p2 : (0 : Int) < 2147483629 := by decide
  have p3 : (0 : Int) < 2147483587 := by decide
  have p4 : (0 : Int) < 2147483563 := by decide
  refine ⟨_, rfl, _, _, rfl, rfl, p1, _, _, rfl, rfl, .inr (by decide), _, rfl, _, _, rfl, rfl, .inl (by decide), _, rfl, _, _, rfl, rfl, .inr hk, _, _, rfl, rfl, _, rfl, _, _, rfl, rfl, .inl (by decide), _, _, rfl, rfl, _, _, rfl, rfl, p2, ?_⟩
  generalize hn : (c % 2147483647 * 48271 + 69621 * k * k + 7 * k) % 2147483629 = n
  have n0 : 0 ≤ n := by rw [← hn]; exact Int.emod_nonneg _ (by decide)
  have n1 : n < 2147483629 := by rw [← hn]; exact Int.emod_lt_of_pos _ (by decide)
  refine ⟨_, rfl, _, rfl, _, _, rfl, rfl, .inl (by omega), _, _, rfl, rfl, p3, ?_⟩
  generalize hm : n * n % 2147483587 = n'
  have n0' : 0 ≤ n' := by rw [← hm]; exact Int.emod_nonneg _ (by decide)
  have n1' : n' < 2147483587 := by rw [← hm]; exact Int.emod_lt_of_pos _ (by decide)
  refine ⟨_, rfl, _, rfl, _, _, rfl, rfl, _, _, rfl, rfl, .inl (by omega), _, _, rfl, rfl, p4, _, rfl, _, _, rfl, rfl, m0, ?_⟩
  exact q _ _ (Same.refl _) (Int.emod_nonneg _ (by omega)) (Int.emod_lt_of_pos _ m0)
/-! ### a fraction -/
abbrev s_l_fraction : Stmt := top 50
theorem sc_l_fraction : FnScope ["_law_top", "_law_bottom", "_law_one", "_law_other"] ["_law_top", "_law_bottom"] (defScope s_l_fraction) := ⟨rfl, rfl, rfl, by decide +kernel, rfl, by decide +kernel, by decide +kernel⟩
def sp_l_fraction : Sp := fun vs H Q _ => ∃ t b : Int, vs = [.int t, .int b] ∧ 0 < b ∧ b ≤ 100 ∧ ∀ v H', Same H H' → FrV (fr t b) v H' → Q v H'
theorem gcd_abs (t b : Int) : Int.gcd (if t < 0 then -t else t) (if b < 0 then -b else b) = Int.gcd t b := by
  unfold Int.gcd
  congr 1
  · split <;> omega
  · split <;> omega
theorem ok_l_fraction (R : Raw K mg "_law_fraction" s_l_fraction) (B : Bi mg) : Def P w K mg base "_law_fraction" 1 ["_law_top", "_law_bottom"] sp_l_fraction := by
  refine def_mk R sc_l_fraction (fun vs H Q E h => ?_) (fun _ _ _ _ _ _ us hl => match us, hl with | [_, _], _ => rfl) (fun f cdv A outer s H vs Q E hr h => ?_)
  · obtain ⟨t, b, rfl, _⟩ := h
    rfl
  obtain ⟨t, b, rfl, b0, b1, q⟩ := h
  refine ⟨_, (pss_cons (ps_set (i := 2) sc_l_fraction.nd rfl (Or.inl rfl) (pe_callB call_abs (by rfl) B.abs (by decide +kernel) (pa_cons (pv 0) pa_nil)))
      (pss_cons (ps_set (i := 3) sc_l_fraction.nd rfl (Or.inl rfl) (pe_callB call_abs (by rfl) B.abs (by decide +kernel) (pa_cons (pv 1) pa_nil)))
      (pss_cons (ps_while PassesOwn.never (pt_cmpR op_gt (pv 3) pe_int (nomark _)) (pss_one (ps_par (i := 2) (j := 3) (by rfl) sc_l_fraction.nd rfl rfl (by decide) rfl rfl (pa_cons (pv 3) (pa_cons (pe_op op_mod (pv 2) (pv 3)) pa_nil)) (by rfl))))
      (pss_cons (ps_if (pt_cmpR op_lt (pv 1) pe_int (nomark _)) (pss_one (ps_set (i := 2) sc_l_fraction.nd rfl (Or.inl rfl) (pe_op op_sub pe_int (pv 2)))) pss_nil)
      (pss_one (ps_ret (pe_tup (pa_cons (pe_op op_fdiv (pv 0) (pv 2)) (pa_cons (pe_op op_fdiv (pv 1) (pv 2)) pa_nil))))))))), ?_⟩
  have hg := gcd_pos (t := t) (b := b) (by omega)
  have hgl : Int.gcd t b ≤ b.natAbs := Int.gcd_le_natAbs_right t (by omega)
  refine ⟨_, rfl, t, rfl, _, rfl, b, rfl, ?_⟩
  refine ⟨fun m σ H' => ∃ a' b' : Int, σ = [some (.int t), some (.int b), some (.int a'), some (.int b')] ∧ H' = H ∧ 0 ≤ a' ∧ 0 ≤ b' ∧ Int.gcd a' b' = Int.gcd t b ∧ b'.toNat = m, ⟨_, _, _, rfl, rfl, by split <;> omega, by split <;> omega, gcd_abs t b, rfl⟩, ?_⟩
  rintro m σ H' ⟨a', b', rfl, rfl, ha0, hb0, hgc, hm⟩
  refine ⟨_, rfl, _, _, rfl, rfl, _, rfl, ?_⟩
  by_cases e : 0 < b'
  · rw [decide_eq_true e]
    refine iteT ⟨fun σ' H'' => ∃ m', m' < m ∧ ∃ a'' b'' : Int, σ' = [some (.int t), some (.int b), some (.int a''), some (.int b'')] ∧ H'' = H' ∧ 0 ≤ a'' ∧ 0 ≤ b'' ∧ Int.gcd a'' b'' = Int.gcd t b ∧ b''.toNat = m', fun σ' H'' q => q, ?_⟩
    refine ⟨_, rfl, _, rfl, _, rfl, a', b', rfl, rfl, e, _, _, rfl, ?_⟩
    have l1 := Int.emod_nonneg a' (show b' ≠ 0 by omega)
    have l2 := Int.emod_lt_of_pos a' e
    refine ⟨_, by omega, b', _, rfl, rfl, hb0, l1, ?_, rfl⟩
    rw [← hgc, ← Int.fmod_eq_emod_of_nonneg a' hb0, gcd_step]
  · rw [decide_eq_false e]
    have eb : b' = 0 := by omega
    subst eb
    have ea : a' = ((Int.gcd t b : Nat) : Int) := by rw [← hgc, Int.gcd_zero_right]; omega
    subst ea
    refine iteF ?_
    refine ⟨_, rfl, _, _, rfl, rfl, _, rfl, ?_⟩
    rw [decide_eq_false (by omega)]
    refine iteF ?_
    have hgi : (0 : Int) < ((Int.gcd t b : Nat) : Int) ∧ ((Int.gcd t b : Nat) : Int) < 1073741824 := by omega
    refine ⟨_, rfl, _, rfl, _, _, rfl, rfl, hgi, _, rfl, _, rfl, _, _, rfl, rfl, hgi, by show 2 ≤ sizeLine; decide, fun p hp => ?_⟩
    refine q _ _ (same_new hp) ⟨p, rfl, ?_⟩
    have hby : byOf t b = ((Int.gcd t b : Nat) : Int) := by unfold byOf; rw [if_neg (by omega)]
    have hb0 : b ≠ 0 := by omega
    rw [upd_same, num_fr hb0, den_fr hb0, hby, fdiv_exact (Int.gcd_dvd_left ..), fdiv_exact (Int.gcd_dvd_right ..)]
theorem fr_small {t b : Int} {m n : Nat} (hb : 0 < b) (ht : t.natAbs ≤ m) (hn : b.natAbs ≤ n) : (fr t b).num.natAbs ≤ m ∧ (fr t b).den ≤ n := by
  refine ⟨?_, ?_⟩
  · rw [num_fr (by omega), fdiv_exact (byOf_dvd_top t b)]
    exact Nat.le_trans (natAbs_ediv_le ..) ht
  · have e := den_fr (t := t) (b := b) (by omega)
    rw [fdiv_exact (byOf_dvd_bot t b)] at e
    have := natAbs_ediv_le b (byOf t b)
    omega
/-! ### powers without noughts at their end -/
abbrev s_l_trimmed : Stmt := top 51
theorem sc_l_trimmed : FnScope ["_law_powers", "_law_found"] ["_law_powers"] (defScope s_l_trimmed) := ⟨rfl, rfl, rfl, by decide +kernel, rfl, by decide +kernel, by decide +kernel⟩
def sp_l_trimmed : Sp := fun vs H Q _ => ∃ (x : V) (a : Mono), vs = [x] ∧ PwV a x H ∧ a.length ≤ 100 ∧ ∀ v H' a', Same H H' → PwV a' v H' → a'.length ≤ a.length → (∀ p ∈ a', p ∈ a) → Q v H'
theorem ok_l_trimmed (R : Raw K mg "_law_trimmed" s_l_trimmed) (B : Bi mg) : Def P w K mg base "_law_trimmed" 1 ["_law_powers"] sp_l_trimmed := by
  refine def_mk R sc_l_trimmed (fun vs H Q E h => ?_) (fun _ _ _ _ _ _ us hl => match us, hl with | [_], _ => rfl) (fun f cdv A outer s H vs Q E hr h => ?_)
  · obtain ⟨x, a, rfl, _⟩ := h
    rfl
  obtain ⟨x, a, rfl, ⟨px, rfl, hpx⟩, hl, q⟩ := h
  refine ⟨_, (pss_cons (ps_set (i := 1) sc_l_trimmed.nd rfl (Or.inl rfl) (pe_callTy call_list_of (by rfl) B.list (by decide +kernel) (pa_cons (pv 0) pa_nil)))
      (pss_cons (ps_while PassesOwn.never (PW.pt (pw_and (pt_cmpR op_gt (pe_callB call_len_seq (by rfl) B.len PySem.boot_len (pa_cons (pv 1) pa_nil)) pe_int (nomark _)) (pw_and1 (pt_cmpR op_eq (pe_ix ix_list (pv 1) (pe_un un_neg pe_int) (fun _ _ => rfl)) pe_int (nomark _))))) (pss_one (ps_expr (pe_bm0 PySem.F.plainAttrs_list PySem.F.slot_list_pop PySem.F.type_list_pop mt_pop (pv 1)))))
      (pss_one (ps_ret (pe_callTy call_tuple_of (by rfl) B.tuple (by decide +kernel) (pa_cons (pv 1) pa_nil)))))), ?_⟩
  refine ⟨_, rfl, px, _, rfl, .inr (SqT.of hpx), fun l hl' => ?_⟩
  refine ⟨fun m σ H' => ∃ a' : Mono, σ = [some (.ref px), some (.ref l)] ∧ H' l = some (.lst (a'.map nV)) ∧ Same H H' ∧ a'.length ≤ a.length ∧ (∀ p ∈ a', p ∈ a) ∧ a'.length = m, ⟨_, a, rfl, upd_same, same_new hl', Nat.le_refl _, fun _ h => h, rfl⟩, ?_⟩
  rintro m σ H' ⟨a', rfl, h', s', la, ma, hm⟩
  have stop : ∀ D : VK, (∀ v H'' a', Same H H'' → PwV a' v H'' → a'.length ≤ a.length → (∀ p ∈ a', p ∈ a) → D v H'') → (tRet (tCB (fun xs H Q => ∃ p ys, xs = [.ref p] ∧ ((SqL K H p ys ∧ ∀ l, H l = none → Q (.ref l) (upd H l (.tup ys))) ∨ (SqT K H p ys ∧ Q (.ref p) H))) (tCons (tVar 1) tNil))) { nx := fun _ H' => D .non H', rt := D } [some (.ref px), some (.ref l)] H' := by
    intro D hD
    refine ⟨_, rfl, l, _, rfl, .inl ⟨SqL.of h', fun p hp => ?_⟩⟩
    have sp := same_new (o := .tup (a'.map nV)) hp
    exact hD _ _ a' (s'.trans sp) ⟨p, rfl, upd_same⟩ la ma
  refine ⟨_, rfl, l, _, rfl, .inl (SqL.of h'), _, _, rfl, rfl, _, rfl, ?_⟩
  rw [List.length_map]
  by_cases e : 0 < a'.length
  · rw [decide_eq_true (by omega)]
    refine iteT ?_
    obtain ⟨b', z, rfl⟩ : ∃ b' z, a' = b' ++ [z] := ⟨a'.dropLast, a'.getLast (by intro h; rw [h] at e; cases e), (List.dropLast_concat_getLast _).symm⟩
    have em : (b' ++ [z]).map nV = b'.map nV ++ [nV z] := by rw [List.map_append]; rfl
    refine ⟨_, rfl, 1, rfl, l, _, -1, nV z, rfl, rfl, SqL.of h', by rw [em]; exact atI_last _ _, rfl, _, rfl, ?_⟩
    by_cases ez : z = 0
    · have e2 : decide (nV z = V.int 0) = true := decide_eq_true (by rw [ez]; rfl)
      rw [e2]
      refine iteT ⟨fun σ' H'' => ∃ m', m' < m ∧ ∃ a' : Mono, σ' = [some (.ref px), some (.ref l)] ∧ H'' l = some (.lst (a'.map nV)) ∧ Same H H'' ∧ a'.length ≤ a.length ∧ (∀ p ∈ a', p ∈ a) ∧ a'.length = m', fun σ' H'' q => q, ?_⟩
      have hlen : (b' ++ [z]).length = b'.length + 1 := by simp
      refine ⟨_, rfl, .inl ⟨rfl, _, SqL.of h'⟩, l, _, nV z, rfl, rfl, h', by rw [em]; simp, ?_⟩
      refine ⟨_, by omega, b', rfl, by rw [upd_same, em, List.dropLast_concat], fun b o hb => ?_, by omega, fun p hp => ma p (List.mem_append.mpr (.inl hp)), rfl⟩
      have nb : b ≠ l := fun z => by rw [z, hl'] at hb; cases hb
      rw [upd_ne nb]
      exact s' _ _ hb
    · have e2 : decide (nV z = V.int 0) = false := decide_eq_false (fun q => ez (by have := V.int.inj q; omega))
      rw [e2]
      exact iteF (stop Q q)
  · rw [decide_eq_false (by omega)]
    exact iteF (iteF (stop Q q))
end
end ED

/-! The law's terms and polynomials. -/
namespace ED
open PySem PySem.Spec PyProof.Rows L2 ER EM

/-- a term as the law makes it -/
def SmT (m : Mono × Int) : Prop := m.1.length ≤ 6 ∧ (∀ p ∈ m.1, p ≤ 3) ∧ m.2.natAbs ≤ 1000000000
section
variable {P : Program} {w : World} {K : PySem.W.Frag} {mg : Str → Option Value} {base : Heap} {C : Addr}
/-! ### a term -/
abbrev s_l_small_term : Stmt := top 54
theorem sc_l_small_term : FnScope ["_law_cell_here", "_law_rest", "_law_powers", "_law_k"] ["_law_cell_here"] (defScope s_l_small_term) := ⟨rfl, rfl, rfl, by decide +kernel, rfl, by decide +kernel, by decide +kernel⟩
def sp_l_small_term : Sp := fun vs H Q _ => ∃ c : Int, vs = [.int c] ∧ ∀ t H' m, Same H H' → TermAt H' t m → SmT m → Q (.ref t) H'
theorem rng_ok {n : Nat} (h : n ≤ 1000) : -(2 ^ 62) ≤ (n : Int) ∧ (n : Int) < 2 ^ 62 := by omega
theorem ok_l_small_term (R : Raw K mg "_law_small_term" s_l_small_term) (B : Bi mg) (d_l_thing : Def P w K mg base "_law_thing" 1 ["_law_cell_here", "_law_k", "_law_many"] sp_l_thing) : Def P w K mg base "_law_small_term" 2 ["_law_cell_here"] sp_l_small_term := by
  refine def_mk R sc_l_small_term (fun vs H Q E h => ?_) (fun _ _ _ _ _ _ us hl => match us, hl with | [_], _ => rfl) (fun f cdv A outer s H vs Q E hr h => ?_)
  · obtain ⟨c, rfl, _⟩ := h
    rfl
  obtain ⟨c, rfl, q⟩ := h
  refine ⟨_, (pss_cons (ps_set (i := 1) sc_l_small_term.nd rfl (Or.inl rfl) (pe_op op_fdiv (pv 0) pe_int))
      (pss_cons (ps_set (i := 2) sc_l_small_term.nd rfl (Or.inl rfl) (pe_lst pa_nil))
      (pss_cons (ps_if (pt_cmpR op_eq (pe_op op_mod (pv 0) pe_int) pe_int (nomark _)) (pss_cons (ps_for PassesOwn.never rfl (pi_range1 (by rfl) B.range (pa_cons (pe_op op_mod (pv 1) pe_int) pa_nil)) (pg_name (i := 3) sc_l_small_term.nd rfl (.inl rfl)) (pss_cons (ps_expr (pe_bm PySem.F.plainAttrs_list PySem.F.slot_list_append PySem.F.type_list_append mt_append (pv 2) (pa_cons (pe_op op_mod (pe_op op_fdiv (pv 1) pe_int) pe_int) pa_nil)))
      (pss_one (ps_set (i := 1) sc_l_small_term.nd rfl (Or.inl rfl) (pe_op op_fdiv (pv 1) pe_int)))))
      (pss_one (ps_ret (pe_tup (pa_cons (pe_callTy call_tuple_of (by rfl) B.tuple (by decide +kernel) (pa_cons (pv 2) pa_nil)) (pa_cons (pe_op op_sub (pe_op op_mod (pe_op op_fdiv (pv 1) pe_int) (pe_op op_add (pe_op op_mul pe_int (pe_op op_pow pe_int pe_int)) pe_int)) (pe_op op_pow pe_int pe_int)) pa_nil)))))) pss_nil)
      (pss_cons (ps_for PassesOwn.never rfl (pi_range1 (by rfl) B.range (pa_cons (pe_def d_l_thing hr (by rfl) (pa_cons (pv 1) (pa_cons pe_int (pa_cons pe_int pa_nil)))) pa_nil)) (pg_name (i := 3) sc_l_small_term.nd rfl (.inl rfl)) (pss_one (ps_expr (pe_bm PySem.F.plainAttrs_list PySem.F.slot_list_append PySem.F.type_list_append mt_append (pv 2) (pa_cons (pe_def d_l_thing hr (by rfl) (pa_cons (pv 1) (pa_cons (pe_op op_add pe_int (pv 3)) (pa_cons pe_int pa_nil)))) pa_nil)))))
      (pss_one (ps_ret (pe_tup (pa_cons (pe_callTy call_tuple_of (by rfl) B.tuple (by decide +kernel) (pa_cons (pv 2) pa_nil)) (pa_cons (pe_op op_sub (pe_def d_l_thing hr (by rfl) (pa_cons (pv 1) (pa_cons pe_int (pa_cons pe_int pa_nil)))) pe_int) pa_nil))))))))), ?_⟩
  have d2 : (0 : Int) < 2 ∧ (2 : Int) < 1073741824 := by decide
  have d5 : (0 : Int) < 5 ∧ (5 : Int) < 1073741824 := by decide
  have d4 : (0 : Int) < 4 ∧ (4 : Int) < 1073741824 := by decide
  refine s_set (P := IsI (c / 2)) (ev_IC (ev_var rfl (stb_i _) rfl) (ev_int 2) d2) fun v0 H0 s0 e0 => ?_
  cases e0
  generalize c / 2 = r
  refine ⟨Nat.zero_le _, fun l hl0 => ?_⟩
  have sl := s0.trans (same_new (o := .lst []) hl0)
  have hl := s0.free hl0
  -- the end: tuple of the powers, the number
  have fin : ∀ (σ : L2.St) (H' : Hp) (ps : Mono) (te : TE), σ[2]? = some (some (.ref l)) → H' l = some (.lst (ps.map nV)) → Same H H' → ps.length ≤ 4 → (∀ p ∈ ps, p ≤ 3) →
      (∀ H1, Same H' H1 → ∀ Q' : VK, (∀ n H2, Same H1 H2 → n.natAbs ≤ 1000000000 → Q' (.int n) H2) → te σ H1 Q') →
      (tRet (tTup (tCons (tCB (rTupleOf K) (tCons (tVar 2) tNil)) (tCons te tNil)))) { nx := fun _ H' => Q .non H', rt := Q } σ H' := by
    intro σ H' ps te h2 hH s' l4 p3 hte
    refine ⟨_, h2, l, _, rfl, .inl ⟨SqL.of hH, fun p hp => ?_⟩⟩
    have sp := same_new (o := .tup (ps.map nV)) hp
    refine hte _ sp _ fun n H2 s2 hn => ?_
    refine ⟨by show 2 ≤ sizeLine; decide, fun t ht => ?_⟩
    have st := same_new (o := .tup [.ref p, .int n]) ht
    exact q t _ (ps, n) (s'.trans (sp.trans (s2.trans st))) ⟨p, upd_same, st _ _ (s2 _ _ upd_same)⟩ ⟨Nat.le_trans l4 (by decide), p3, hn⟩
  have e10 : (10 : Int) ^ (9 : Int).toNat = 1000000000 := by decide
  have hpow : ∀ {σ : L2.St} {H' : Hp}, Ev (tOp (rI CPow fun i j => .int (i ^ j.toNat)) (tC (.int 10)) (tC (.int 9))) σ H' (IsI 1000000000) := by
    intro σ H'
    have := ev_IC (C := CPow) (g := fun i j => i ^ j.toNat) (ev_int (σ := σ) (H := H') 10) (ev_int 9) ⟨by decide, by decide, by decide⟩
    rw [e10] at this
    exact this
  refine ⟨_, rfl, _, _, rfl, rfl, d2.1, rfl, _, rfl, ?_⟩
  refine ite2 (fun _ => ?_) (fun _ => ?_)
  · have h0 := Int.emod_nonneg r (show (5 : Int) ≠ 0 by decide)
    have h1 := Int.emod_lt_of_pos r (show (0 : Int) < 5 by decide)
    refine ⟨_, rfl, _, _, rfl, rfl, d5.1, _, rfl, by omega, by omega, for_range (lo := 0) (n := (r % 5).toNat) (fun i σ H' => ∃ (r' : Int) (ps : Mono) (v : Option V), σ = [some (.int c), some (.int r'), some (.ref l), v] ∧ H' l = some (.lst (ps.map nV)) ∧ Same H H' ∧ ps.length = i ∧ ∀ p ∈ ps, p ≤ 3)
      ⟨r, [], none, rfl, upd_same, sl, rfl, fun _ h => nomatch h⟩ ?_ ?_⟩
    · rintro i σ H' hi ⟨r', ps, v, rfl, hH, s', hps, hp3⟩
      refine ⟨_, rfl, .inl ⟨rfl, _, SqL.of hH⟩, _, rfl, _, _, rfl, rfl, d5, _, _, rfl, rfl, d4.1, l, _, _, rfl, rfl, hH, by rw [List.length_map]; exact small1000 (by omega), ?_⟩
      have k0 := Int.emod_nonneg (r' / 5) (show (4 : Int) ≠ 0 by decide)
      have k1 := Int.emod_lt_of_pos (r' / 5) (show (0 : Int) < 4 by decide)
      refine ⟨_, rfl, _, _, rfl, rfl, d4, ?_⟩
      refine ⟨_, ps ++ [(r' / 5 % 4).toNat], _, rfl, ?_, fun b o hb => ?_, by simp [hps], fun p hp => ?_⟩
      · rw [upd_same, List.map_append]
        show some (HO.lst (ps.map nV ++ [V.int (r' / 5 % 4)])) = some (HO.lst (ps.map nV ++ [V.int (((r' / 5 % 4).toNat : Nat) : Int)]))
        rw [Int.toNat_of_nonneg k0]
      · have nb : b ≠ l := fun z => by rw [z, hl] at hb; cases hb
        rw [upd_ne nb]
        exact s' _ _ hb
      · rcases List.mem_append.mp hp with z | z
        · exact hp3 p z
        · rw [List.mem_singleton] at z
          omega
    · rintro σ H' ⟨r', ps, v, rfl, hH, s', hps, hp3⟩
      refine fin _ H' ps _ rfl hH s' (by omega) hp3 fun H1 s1 Q' q' => ?_
      have k0 := Int.emod_nonneg (r' / 5) (show (2 * 1000000000 + 1 : Int) ≠ 0 by decide)
      have k1 := Int.emod_lt_of_pos (r' / 5) (show (0 : Int) < 2 * 1000000000 + 1 by decide)
      have E : Ev (tOp (rI0 fun i j => .int (i - j)) (tOp (rI (fun _ j => 0 < j) fun i j => .int (i % j)) (tOp (rI CDiv fun i j => .int (i / j)) (tVar 1) (tC (.int 5))) (tOp (rI0 fun i j => .int (i + j)) (tOp (rI CMul fun i j => .int (i * j)) (tC (.int 2)) (tOp (rI CPow fun i j => .int (i ^ j.toNat)) (tC (.int 10)) (tC (.int 9)))) (tC (.int 1)))) (tOp (rI CPow fun i j => .int (i ^ j.toNat)) (tC (.int 10)) (tC (.int 9)))) [some (.int c), some (.int r'), some (.ref l), v] H' (IsI (r' / 5 % (2 * 1000000000 + 1) - 1000000000)) :=
        ev_I0 (g := fun i j => i - j) (ev_IC (C := fun _ j => 0 < j) (g := fun i j => i % j) (ev_IC (C := CDiv) (g := fun i j => i / j) (ev_var rfl (stb_i _) rfl) (ev_int 5) d5) (ev_I0 (g := fun i j => i + j) (ev_IC (C := CMul) (g := fun i j => i * j) (ev_int 2) hpow (.inl (by decide))) (ev_int 1)) (by decide)) hpow
      refine E H1 s1 _ fun v2 H2 s2 e => ?_
      cases e
      exact q' _ _ s2 (by omega)
  · -- the other kind: powers drawn below 2
    refine ⟨_, rfl, r, 0, 4, rfl, by decide, by decide, by decide, fun z H1 s1 z0 z4 => ?_⟩
    have hl1 := s1 _ _ (upd_same (H := H0) (a := l))
    refine ⟨_, rfl, by omega, by omega, for_range (lo := 0) (n := z.toNat) (fun i σ H' => ∃ (ps : Mono) (v : Option V), σ = [some (.int c), some (.int r), some (.ref l), v] ∧ H' l = some (.lst (ps.map nV)) ∧ Same H H' ∧ ps.length = i ∧ ∀ p ∈ ps, p ≤ 3)
      ⟨[], none, rfl, hl1, sl.trans s1, rfl, fun _ h => nomatch h⟩ ?_ ?_⟩
    · rintro i σ H' hi ⟨ps, v, rfl, hH, s', hps, hp3⟩
      refine ⟨_, rfl, .inl ⟨rfl, _, SqL.of hH⟩, _, rfl, _, rfl, _, _, rfl, rfl, r, _, 2, rfl, by omega, by omega, by decide, fun k H2 s2 k0 k1 => ?_⟩
      have hH2 := s2 _ _ hH
      refine ⟨l, _, _, rfl, rfl, hH2, by rw [List.length_map]; exact small1000 (by omega), ?_⟩
      refine ⟨ps ++ [k.toNat], _, rfl, ?_, fun b o hb => ?_, by simp [hps], fun p hp => ?_⟩
      · rw [upd_same, List.map_append]
        show some (HO.lst (ps.map nV ++ [V.int k])) = some (HO.lst (ps.map nV ++ [V.int ((k.toNat : Nat) : Int)]))
        rw [Int.toNat_of_nonneg k0]
      · have nb : b ≠ l := fun z => by rw [z, hl] at hb; cases hb
        rw [upd_ne nb]
        exact (s'.trans s2) _ _ hb
      · rcases List.mem_append.mp hp with z | z
        · exact hp3 p z
        · rw [List.mem_singleton] at z
          omega
    · rintro σ H' ⟨ps, v, rfl, hH, s', hps, hp3⟩
      refine fin _ H' ps _ rfl hH s' (by omega) hp3 fun H2 s2 Q' q' => ?_
      refine ⟨_, rfl, r, 9, 7, rfl, by decide, by decide, by decide, fun n H3 s3 n0 n7 => ?_⟩
      exact ⟨_, _, rfl, rfl, q' _ _ s3 (by omega)⟩
/-! ### the sum of terms -/
abbrev s_l_sum : Stmt := top 52
theorem sc_l_sum : FnScope ["_law_terms", "_law_counts", "_law_powers", "_law_number", "_law_short"] ["_law_terms"] (defScope s_l_sum) := ⟨rfl, rfl, rfl, by decide +kernel, rfl, by decide +kernel, by decide +kernel⟩
def sp_l_sum : Sp := fun vs H Q _ => ∃ (a : Addr) (ts : List Addr) (L : Po), vs = [.ref a] ∧ H a = some (.lst (ts.map V.ref)) ∧ TermsAt H ts L ∧ (∀ m ∈ L, SmT m) ∧ L.length ≤ 5 ∧ norm L ≤ 2 ^ 32 ∧
  ∀ (p : Addr) (us : List Addr) (R : Po) (H' : Hp), H p = none → Same H H' → H' p = some (.lst (us.map V.ref)) → TermsAt H' us R → Pb 5 32 3 R → Q (.ref p) H'
theorem norm_small : ∀ {L : Po}, (∀ m ∈ L, SmT m) → norm L ≤ L.length * 1000000000
  | [], _ => Nat.zero_le _
  | m :: L, h => by
    have h1 := (h m List.mem_cons_self).2.2
    have h2 := norm_small (L := L) fun u hu => h u (List.mem_cons_of_mem _ hu)
    rw [norm_cons, List.length_cons, Nat.add_mul]
    omega
theorem ok_l_sum (R : Raw K mg "_law_sum" s_l_sum) (B : Bi mg) (d_l_trimmed : Def P w K mg base "_law_trimmed" 1 ["_law_powers"] sp_l_trimmed) : Def P w K mg base "_law_sum" 2 ["_law_terms"] sp_l_sum := by
  refine def_mk R sc_l_sum (fun vs H Q E h => ?_) (fun _ _ _ _ _ _ us hl => match us, hl with | [_], _ => rfl) (fun f cdv A outer s H vs Q E hr h => ?_)
  · obtain ⟨a, ts, L, rfl, _⟩ := h
    rfl
  obtain ⟨a, ts, L, rfl, ha, ht, hL, hl5, hn32, q⟩ := h
  have hlen : ts.length = L.length := Paired.length ht
  refine ⟨_, (pss_cons (ps_set (i := 1) sc_l_sum.nd rfl (Or.inl rfl) pe_dnewT)
      (pss_cons (ps_for PassesOwn.never rfl (pi_list (pv 0)) (pg_tup rfl (pgs_cons (pg_name (i := 2) sc_l_sum.nd rfl (.inl rfl)) (pgs_cons (pg_name (i := 3) sc_l_sum.nd rfl (.inl rfl)) pgs_nil))) (pss_cons (ps_set (i := 4) sc_l_sum.nd rfl (Or.inl rfl) (pe_def d_l_trimmed hr (by rfl) (pa_cons (pv 2) pa_nil)))
      (pss_one (ps_dput (hu_of hr) (pv 1) (pv 4) (pe_op op_add (pe_dget2 (hu_of hr) (pv 1) (pv 4) pe_int ⟨rfl, rfl, rfl, rfl⟩) (pv 3)) rfl))))
      (pss_one (ps_ret (pe_callBK (cr_sortT hr.units) (by rfl) B.sorted (by decide +kernel) (pa_cons (pe_lock (pe_lc (own := [("_law_powers", 2), ("_law_number", 3)]) rfl sc_l_sum.nd (pi_itemsT (pv 1)) (blkOk_by (own := [("_law_powers", 2), ("_law_number", 3)]) (N := ["_law_terms", "_law_counts", "_law_powers", "_law_number", "_law_short"]) (sc := defScope s_l_sum) (by decide +kernel)) (fun _ _ _ _ _ => (pg_pair (K := K) (i := 2) (j := 3) rfl rfl sc_l_sum.nd rfl rfl rfl rfl)) (fun _ _ _ _ _ => (pts_one (pt_cmpR op_ne (pv 3) pe_int (nomark _)))) (fun _ _ _ _ _ => (pe_tup (pa_cons (pv 2) (pa_cons (pv 3) pa_nil)))))) pa_nil) (pk_cons pe_bl pk_nil)))))), ?_⟩
  intro d hd
  have sd := same_new (o := .dT []) hd
  refine ⟨_, rfl, a, rfl, ⟨_, SqL.of (sd _ _ ha)⟩, for_list (K := K) (a := a) (xs := ts.map V.ref) (fun i σ H' => ∃ u2 u3 u4 cs, σ = [some (.ref a), some (.ref d), u2, u3, u4] ∧ Same H H' ∧ H' d = some (.dT (encC cs)) ∧ Pc i (norm (L.take i)) 3 cs)
    ⟨none, none, none, [], rfl, sd, by rw [upd_same]; rfl, Pc.nil _ _ _⟩ (fun i σ H' _ ⟨_, _, _, _, _, s', _⟩ => SqL.of (s' _ _ ha)) ?_ ?_⟩
  · rintro i v σ H' hi ⟨u2, u3, u4, cs, rfl, s', hd', hp⟩
    obtain ⟨t, htt, rfl⟩ : ∃ t, ts[i]? = some t ∧ v = V.ref t := by
      rw [List.getElem?_map] at hi
      cases h : ts[i]? with
      | none => rw [h] at hi; cases hi
      | some t => rw [h] at hi; exact ⟨t, rfl, (Option.some.inj hi).symm⟩
    obtain ⟨m, hm, p, hp1, hp2⟩ := paired_get ht htt
    have sm := hL m (List.mem_of_getElem? hm)
    have il : i < L.length := (List.getElem?_eq_some_iff.mp hm).1
    refine g_pair (s' _ _ hp1) ?_
    refine ⟨_, rfl, .ref p, m.1, rfl, ⟨p, rfl, s' _ _ hp2⟩, Nat.le_trans sm.1 (by decide), fun v2 H2 a' s2 ⟨p', e, hp'⟩ la ma => ?_⟩
    subst e
    refine put_add (sd := 1) (sk := 4) (c := m.2) (m := a') rfl (s2 _ _ hd') rfl hp' (fun Q' q' => ⟨_, rfl, q'⟩) (small7 (Nat.le_trans hp.len (by omega))) ?_
    refine ⟨_, _, _, addC cs (a', m.2), rfl, fun b o hb => ?_, upd_same, ?_⟩
    · have nb : b ≠ d := fun z => by rw [z, hd] at hb; cases hb
      rw [upd_ne nb]
      exact (s'.trans s2) _ _ hb
    · have := addC_ok hp (a', m.2) ⟨Nat.le_trans la sm.1, fun p hp => sm.2.1 p (ma p hp)⟩
      have e1 : norm (L.take (i + 1)) = norm (L.take i) + m.2.natAbs := by
        rw [List.take_add_one, hm]
        show norm (L.take i ++ [m]) = _
        rw [norm_append]
        simp [norm]
      rw [e1]
      exact this
  · rintro σ H' ⟨u2, u3, u4, cs, rfl, s', hd', hp⟩
    rw [List.length_map, hlen, List.take_length] at hp
    have hc : cs.length < sizeLine := small7 (Nat.le_trans hp.len (by omega))
    refine items_comp (s := 1) rfl hd' hc (fun _ _ => rfl) (fun _ _ => rfl) (fun _ _ => rfl) fun D ts' H2 hDn s2 hD ht' => ?_
    refine sort_tail (s'.trans s2) hD ht' fun p us R H3 hpn s3 h3 ht3 g => ?_
    have g2 := (g.ok hp).pb (b := 32) hn32
    exact q p us R H3 hpn s3 h3 ht3 (g2.mono (by omega) (Nat.le_refl _) (Nat.le_refl _))
end
end ED

/-! Three polynomials of the cells; spots, weights, what lies between. -/
namespace ED
open PySem PySem.Spec PyProof.Rows L2 ER EM

section
variable {K : PySem.W.Frag} {σ : L2.St} {H : Hp} {ta tb te : TE} {P1 : Pd}
theorem ev_tup0 : Ev (tTup tNil) σ H (PwV []) := fun H1 s1 Q q => ⟨Nat.zero_le _, fun p hp => q _ _ (same_new hp) ⟨p, rfl, upd_same⟩⟩
theorem ev_term {ps : Mono} {c : Int} (ha : Ev ta σ H (PwV ps)) (hb : Ev tb σ H (IsI c)) : Ev (tTup (tCons ta (tCons tb tNil))) σ H (fun v H => ∃ t, v = .ref t ∧ TermAt H t (ps, c)) :=
  (ev_tup2 ha hb (stb_pw ps) (stb_i c)).imp fun v H1 ⟨a, xs, e, h, hx⟩ => by
    cases hx with
    | cons p1 t =>
      cases t with
      | cons p2 t2 =>
        cases t2
        obtain ⟨p, rfl, hp⟩ := p1
        cases p2
        exact ⟨a, e, p, h, hp⟩
theorem ev_lst1 {m : Mono × Int} (ha : Ev ta σ H (fun v H => ∃ t, v = .ref t ∧ TermAt H t m)) : Ev (tLst (tCons ta tNil)) σ H (PoV [m]) := by
  intro H1 s1 Q q
  refine ha H1 s1 _ fun v H2 s2 ⟨t, e, h⟩ => ?_
  refine ⟨by show 1 ≤ sizeLine; decide, fun p hp => ?_⟩
  have sp := same_new (o := .lst [v]) hp
  exact q _ _ (s2.trans sp) ⟨p, [t], rfl, by rw [upd_same, e]; rfl, .cons (h.same sp) .nil⟩
theorem terms_app {H : Hp} : ∀ {ts us : List Addr} {L M : Po}, TermsAt H ts L → TermsAt H us M → TermsAt H (ts ++ us) (L ++ M)
  | _, _, _, _, .nil, h => h
  | _, _, _, _, .cons a r, h => .cons a (terms_app r h)
theorem terms_take {H : Hp} : ∀ {ts : List Addr} {L : Po} (n : Nat), TermsAt H ts L → TermsAt H (ts.take n) (L.take n)
  | _, _, 0, _ => .nil
  | _, _, _ + 1, .nil => .nil
  | _, _, n + 1, .cons a r => .cons a (terms_take n r)
theorem ev_cat {L M : Po} (ha : Ev ta σ H (PoV L)) (hb : Ev tb σ H (PoV M)) (hl : L.length + M.length ≤ 1000) : Ev (tOp (rCat2 K) ta tb) σ H (PoV (L ++ M)) :=
  ev_op ha hb (stb_po L) fun x y H1 _ ⟨a, ts, e1, h1, t1⟩ ⟨c, us, e2, h2, t2⟩ Q q => by
    have l1 : ts.length = L.length := Paired.length t1
    have l2 : us.length = M.length := Paired.length t2
    refine ⟨a, c, _, _, e1, e2, SqL.of h1, SqL.of h2, by rw [List.length_map, List.length_map]; exact Nat.le_of_lt (small1000 (by omega)), fun p hp => ?_⟩
    have sp := same_new (o := .lst (ts.map V.ref ++ us.map V.ref)) hp
    exact q _ _ sp ⟨p, ts ++ us, rfl, by rw [upd_same, List.map_append], terms_app (TermsAt.same sp t1) (TermsAt.same sp t2)⟩
/-- xs[:n] -/
theorem ev_first {L : Po} {n : Nat} (ha : Ev ta σ H (PoV L)) : Ev (tSl (rSlL K) ta tNoPart (tPart (tC (.int (n : Int))))) σ H (PoV (L.take n)) := by
  intro H1 s1 Q q
  refine ha H1 s1 _ fun v H2 s2 ⟨a, ts, e, h, t⟩ => ?_
  refine ⟨_, rfl, a, _, e, SqL.of h, fun p hp => ?_⟩
  have ec : cutV (ts.map V.ref) none (some (n : Int)) = (ts.take n).map V.ref := by
    unfold cutV
    rw [HT.sIx_none, HT.sIx_nat, List.drop_zero, Nat.sub_zero, List.map_take, List.take_eq_take_iff]
    omega
  have sp := same_new (o := .lst (cutV (ts.map V.ref) none (some (n : Int)))) hp
  exact q _ _ (s2.trans sp) ⟨p, ts.take n, rfl, by rw [upd_same, ec], terms_take n (TermsAt.same sp t)⟩
end
section
variable {P : Program} {w : World} {K : PySem.W.Frag} {mg : Str → Option Value} {base : Heap} {C : Addr}
/-! ### three polynomials -/
abbrev s_l_three : Stmt := top 53
theorem sc_l_three : FnScope ["_law_cells", "_law_offset", "_law_found", "_law_k", "_law_terms", "_law_cell_here"] ["_law_cells", "_law_offset"] (defScope s_l_three) := ⟨rfl, rfl, rfl, by decide +kernel, rfl, by decide +kernel, by decide +kernel⟩
def sp_l_three (K : PySem.W.Frag) : Sp := fun vs H Q _ => ∃ (a : Addr) (ns : List Int) (off : Int), vs = [.ref a, .int off] ∧ SqL K H a (ns.map V.int) ∧ ns.length ≤ 1000 ∧ ∀ v H' φ0 φ1 φ2, Same H H' → ThV [φ0, φ1, φ2] 5 32 3 v H' → Q v H'
theorem ok_l_three (R : Raw K mg "_law_three" s_l_three) (B : Bi mg) (d_l_small_term : Def P w K mg base "_law_small_term" 2 ["_law_cell_here"] sp_l_small_term) (d_l_sum : Def P w K mg base "_law_sum" 2 ["_law_terms"] sp_l_sum) : Def P w K mg base "_law_three" 3 ["_law_cells", "_law_offset"] (sp_l_three K) := by
  refine def_mk R sc_l_three (fun vs H Q E h => ?_) (fun _ _ _ _ _ _ us hl => match us, hl with | [_, _], _ => rfl) (fun f cdv A outer s H vs Q E hr h => ?_)
  · obtain ⟨a, ns, off, rfl, _⟩ := h
    rfl
  obtain ⟨a, ns, off, rfl, ha, hns, q⟩ := h
  refine ⟨_, (pss_cons (ps_set (i := 2) sc_l_three.nd rfl (Or.inl rfl) (pe_lst pa_nil))
      (pss_cons (ps_for PassesOwn.never rfl (pi_range1 (by rfl) B.range (pa_cons pe_int pa_nil)) (pg_name (i := 3) sc_l_three.nd rfl (.inl rfl)) (pss_cons (ps_set (i := 4) sc_l_three.nd rfl (Or.inl rfl) (pe_lst pa_nil))
      (pss_cons (ps_for PassesOwn.never rfl (pi_list (pe_step (pv 0) (pe_op op_add (pe_op op_mul pe_int (pv 1)) (pv 3)) pe_int)) (pg_name (i := 5) sc_l_three.nd rfl (.inl rfl)) (pss_one (ps_expr (pe_bm PySem.F.plainAttrs_list PySem.F.slot_list_append PySem.F.type_list_append mt_append (pv 4) (pa_cons (pe_def d_l_small_term hr (by rfl) (pa_cons (pv 5) pa_nil)) pa_nil)))))
      (pss_one (ps_expr (pe_bm PySem.F.plainAttrs_list PySem.F.slot_list_append PySem.F.type_list_append mt_append (pv 2) (pa_cons (pe_def d_l_sum hr (by rfl) (pa_cons (pe_op op_cat2 (pe_slice sl_list (pv 4) po_none (po_some pe_int)) (pe_lst (pa_cons (pe_tup (pa_cons (pe_tup pa_nil) (pa_cons (pe_ix ix_list (pe_lst (pa_cons pe_int (pa_cons pe_int (pa_cons pe_int pa_nil)))) (pv 3) (fun _ _ => rfl)) pa_nil))) pa_nil))) pa_nil)) pa_nil)))))))
      (pss_one (ps_ret (pe_callTy call_tuple_of (by rfl) B.tuple (by decide +kernel) (pa_cons (pv 2) pa_nil)))))), ?_⟩
  refine ⟨Nat.zero_le _, fun F hF => ?_⟩
  have sF := same_new (o := .lst []) hF
  refine ⟨3, rfl, by decide, by decide, for_range (lo := 0) (n := 3) (fun i σ H' => ∃ (ys : List V) (v3 v4 v5 : Option V), σ = [some (.ref a), some (.int off), some (.ref F), v3, v4, v5] ∧ H' F = some (.lst ys) ∧ ys.length = i ∧ (∀ y ∈ ys, ∃ φ, PyD F φ 5 32 3 y H') ∧ Same H H')
    ⟨[], none, none, none, rfl, upd_same, rfl, (fun _ h => nomatch h), sF⟩ ?_ ?_⟩
  · rintro i σ H1 hi ⟨ys, v3, v4, v5, rfl, hF1, hyl, hys, s1⟩
    refine ⟨Nat.zero_le _, fun T hT => ?_⟩
    have sT := same_new (o := .lst []) hT
    refine ⟨_, rfl, _, rfl, 3, off, rfl, rfl, .inl (by decide), _, rfl, _, _, rfl, rfl, _, rfl, 9, rfl, a, ns, rfl, (s1.trans sT).seq ha, by decide, fun S ms hms hS => ?_⟩
    have sS := same_new (o := .lst (ms.map V.int)) hS
    refine ⟨S, rfl, ⟨_, SqL.of upd_same⟩, for_list (K := K) (a := S) (xs := ms.map V.int) (fun j σ H' => ∃ (ts : List Addr) (L : Po) (v5 : Option V), σ = [some (.ref a), some (.int off), some (.ref F), some (.int (0 + (i : Int))), some (.ref T), v5] ∧ H' T = some (.lst (ts.map V.ref)) ∧ TermsAt H' ts L ∧ (∀ m ∈ L, SmT m) ∧ L.length = j ∧ Same H1 H' ∧ H' S = some (.lst (ms.map V.int)))
      ⟨[], [], v5, rfl, sS _ _ upd_same, .nil, (fun _ h => nomatch h), rfl, sT.trans sS, upd_same⟩ (fun j σ H' _ ⟨_, _, _, _, _, _, _, _, _, hS'⟩ => SqL.of hS') ?_ ?_⟩
    · rintro j v σ H2 hj ⟨ts, L, v5, rfl, hT2, ht, hL, hLj, s2, hS2⟩
      obtain ⟨c, hc, rfl⟩ : ∃ c, ms[j]? = some c ∧ v = V.int c := by
        rw [List.getElem?_map] at hj
        cases h : ms[j]? with
        | none => rw [h] at hj; cases hj
        | some c => rw [h] at hj; exact ⟨c, rfl, (Option.some.inj hj).symm⟩
      have jl : j < ms.length := (List.getElem?_eq_some_iff.mp hc).1
      have tl : ts.length = L.length := Paired.length ht
      refine ⟨_, rfl, .inl ⟨rfl, _, SqL.of hT2⟩, _, rfl, c, rfl, fun t H3 m s3 tm sm => ?_⟩
      have hT3 := s3 _ _ hT2
      have hnt : ∀ xs, H3 T ≠ some (.tup xs) := fun xs z => by rw [hT3] at z; cases z
      have nST : S ≠ T := fun z => by rw [z, upd_same] at hS; cases hS
      refine ⟨T, _, _, rfl, rfl, hT3, by rw [List.length_map]; exact small1000 (by omega), ?_⟩
      refine ⟨ts ++ [t], L ++ [m], _, rfl, by rw [upd_same, List.map_append]; rfl, terms_snoc (terms_but (TermsAt.same s3 ht) hnt) (term_but tm hnt), fun u hu => ?_, by simp [hLj], fun b o hb => ?_, by rw [upd_ne nST]; exact s3 _ _ hS2⟩
      · rcases List.mem_append.mp hu with z | z
        · exact hL u z
        · rw [List.mem_singleton] at z
          rw [z]; exact sm
      · have nb : b ≠ T := fun z => by rw [z, hT] at hb; cases hb
        rw [upd_ne nb]
        exact (s2.trans s3) _ _ hb
    · rintro σ H2 ⟨ts, L, v5, rfl, hT2, ht, hL, hLj, s2, hS2⟩
      have hF2 := s2 _ _ hF1
      have hLl : L.length ≤ 1000 := by rw [hLj, List.length_map]; omega
      refine ⟨_, rfl, .inl ⟨rfl, _, SqL.of hF2⟩, ?_⟩
      have en : Ev (tOp (rIxL K) (tLst (tCons (tC (.int 1)) (tCons (tC (.int 2)) (tCons (tC (.int 3)) tNil)))) (tVar 3)) [some (.ref a), some (.int off), some (.ref F), some (.int (0 + (i : Int))), some (.ref T), v5] H2 (IsI ((i : Int) + 1)) := by
        intro H3 s3 Q2 q2
        refine ⟨by show 3 ≤ sizeLine; decide, fun p hp => ⟨_, rfl, p, _, 0 + (i : Int), .int ((i : Int) + 1), rfl, rfl, SqL.of upd_same, ?_, q2 _ _ (same_new hp) rfl⟩⟩
        have : i = 0 ∨ i = 1 ∨ i = 2 := by omega
        rcases this with rfl | rfl | rfl <;> rfl
      have ep : Ev (tVar 4) [some (.ref a), some (.int off), some (.ref F), some (.int (0 + (i : Int))), some (.ref T), v5] H2 (PoV L) := ev_var rfl (stb_po L) ⟨T, ts, rfl, hT2, ht⟩
      refine ev_cat (ev_first (n := 4) ep) (ev_lst1 (ev_term ev_tup0 en)) (by rw [List.length_take]; show min 4 L.length + 1 ≤ 1000; omega) H2 (Same.refl _) _ fun v H3 s3 ⟨c, us, e, hc, hu⟩ => ?_
      have hF3 := s3 _ _ hF2
      have n4 : norm (L.take 4) ≤ 4 * 1000000000 := by
        have h1 := norm_small (L := L.take 4) fun m hm => hL m (List.mem_of_mem_take hm)
        have h2 : (L.take 4).length ≤ 4 := by rw [List.length_take]; omega
        exact Nat.le_trans h1 (Nat.mul_le_mul_right _ h2)
      refine ⟨c, us, _, by rw [e]; rfl, hc, hu, fun m hm => ?_, by rw [List.length_append, List.length_take]; show min 4 L.length + 1 ≤ 5; omega, ?_, fun p rs R H4 hp s4 hp4 hr4 hR => ?_⟩
      · rcases List.mem_append.mp hm with z | z
        · exact hL m (List.mem_of_mem_take z)
        · rw [List.mem_singleton] at z
          rw [z]
          exact ⟨by show 0 ≤ 6; decide, (fun _ h => nomatch h), by show ((i : Int) + 1).natAbs ≤ 1000000000; omega⟩
      · rw [norm_append]
        have : norm [(([] : Mono), (i : Int) + 1)] ≤ 3 := by
          show ((i : Int) + 1).natAbs + 0 ≤ 3
          omega
        omega
      · have hF4 := s4 _ _ hF3
        have npF : p ≠ F := fun z => by rw [z, hF3] at hp; cases hp
        have hnt : ∀ xs, H4 F ≠ some (.tup xs) := fun xs z => by rw [hF4] at z; cases z
        refine ⟨F, ys, _, rfl, rfl, hF4, small1000 (by omega), ?_⟩
        refine ⟨ys ++ [.ref p], _, _, _, rfl, upd_same, by simp [hyl], fun y hy => ?_, fun b o hb => ?_⟩
        · rcases List.mem_append.mp hy with z | z
          · obtain ⟨φ, hφ⟩ := hys y z
            exact ⟨φ, pyD_but (stb_pyD F φ 5 32 3 _ _ _ (s2.trans (s3.trans s4)) hφ) ⟨_, hF4⟩⟩
          · rw [List.mem_singleton] at z
            rw [z]
            exact ⟨fun f => ev f R, p, rs, R, rfl, npF, by rw [upd_ne npF]; exact hp4, terms_but hr4 hnt, fun _ => rfl, hR⟩
        · have nb : b ≠ F := fun z => by rw [z, hF] at hb; cases hb
          rw [upd_ne nb]
          exact (s1.trans (s2.trans (s3.trans s4))) _ _ hb
  · rintro σ H1 ⟨ys, v3, v4, v5, rfl, hF1, hyl, hys, s1⟩
    refine ⟨_, rfl, F, ys, rfl, .inl ⟨SqL.of hF1, fun l hl => ?_⟩⟩
    have sl := same_new (o := .tup ys) hl
    match ys, hyl with
    | [y0, y1, y2], _ =>
      obtain ⟨φ0, h0⟩ := hys y0 (by simp)
      obtain ⟨φ1, h1⟩ := hys y1 (by simp)
      obtain ⟨φ2, h2⟩ := hys y2 (by simp)
      refine q _ _ φ0 φ1 φ2 (s1.trans sl) ⟨l, [y0, y1, y2], rfl, upd_same, .cons ?_ (.cons ?_ (.cons ?_ .nil))⟩
      · exact stb_py _ _ _ _ _ _ _ sl (pyD_py h0)
      · exact stb_py _ _ _ _ _ _ _ sl (pyD_py h1)
      · exact stb_py _ _ _ _ _ _ _ sl (pyD_py h2)
end
end ED

/-! Spots, weights, what lies between. -/
namespace ED
open PySem PySem.Spec PyProof.Rows L2 ER EM

/-- the worths of a three of polynomials; they are small enough -/
def LnV (a b c : Rat) : Pd := fun v H => FrsV [a, b, c] v H ∧ FB 800 a ∧ FB 800 b ∧ FB 800 c
theorem stb_ln (a b c : Rat) : Stb (LnV a b c) := fun _ _ _ s ⟨h, r⟩ => ⟨stb_frs _ _ _ _ s h, r⟩
/-- a spot that stands -/
def PtV (x y : Rat) : Pd := fun v H => FrsV [x, y] v H ∧ FB 1600 x ∧ FB 1600 y
theorem stb_pt (x y : Rat) : Stb (PtV x y) := fun _ _ _ s ⟨h, r⟩ => ⟨stb_frs _ _ _ _ s h, r⟩
def IsN : Pd := fun v _ => v = .non
theorem stb_non : Stb IsN := fun _ _ _ _ h => h
/-- a spot, or none -/
def SpV (a b c : Rat) : Pd := fun v H => (c = 0 ∧ v = .non) ∨ (c ≠ 0 ∧ PtV (a / c) (b / c) v H)
theorem stb_sp (a b c : Rat) : Stb (SpV a b c) := fun _ _ _ s h => h.imp id fun ⟨z, p⟩ => ⟨z, stb_pt _ _ _ _ _ s p⟩
theorem frv_but {q : Rat} {v : V} {H : Hp} {D : Addr} {xs : List V} (h : FrV q v H) (hD : HasL H D) : FrV q v (upd H D (.lst xs)) := by
  obtain ⟨a, e, h⟩ := h
  obtain ⟨acc, hacc⟩ := hD
  exact ⟨a, e, by rw [upd_ne (fun z => by rw [z, hacc] at h; cases h)]; exact h⟩
theorem num_zero {q : Rat} : q.num = 0 ↔ q = 0 := Rat.num_eq_zero
section
variable {K : PySem.W.Frag} {σ : L2.St} {H : Hp} {ta tb tl te : TE} {P1 P2 : Pd} {v z : V}
theorem th_fb {φ0 φ1 φ2 : Wo} {n b e : Nat} {pl : List Rat} (h : ThV [φ0, φ1, φ2] n b e v H) (hp : PlaceOk pl) (hb : b ≤ 120) (he : e ≤ 10) : FB 800 (φ0 (at_ pl)) ∧ FB 800 (φ1 (at_ pl)) ∧ FB 800 (φ2 (at_ pl)) := by
  obtain ⟨a, xs, _, _, t⟩ := h
  have one : ∀ {φ : Wo} {y : V}, PyV φ n b e y H → FB 800 (φ (at_ pl)) := fun ⟨L, _, h2, h3⟩ => by
    rw [← h2]; exact fb_worth hp h3 hb he
  cases t with
  | cons h0 t => cases t with
    | cons h1 t => cases t with
      | cons h2 t => exact ⟨one h0, one h1, one h2⟩
/-- [worth_at(terms, place) for terms in three] -/
theorem ev_worths {φ0 φ1 φ2 : Wo} {n b e : Nat} {pl : List Rat} {i j : Nat} {vs : List Nat} (htl : Ev tl σ H (ThV [φ0, φ1, φ2] n b e)) (hz : FrsV pl z H) (hp : PlaceOk pl) (hb : b ≤ 120) (he : e ≤ 10)
    (hw : ∀ x : V, wipe ((wipe σ vs).set i (some x)) vs = wipe σ vs) (hi : ∀ x : V, ((wipe σ vs).set i (some x))[i]? = some (some x)) (hj : ∀ x : V, ((wipe σ vs).set i (some x))[j]? = some (some z)) :
    Ev (tLc (iTup K tl) (gName i) tYes (tCall sp_worth_at [] E0 (tCons (tVar i) (tCons (tVar j) tNil))) vs) σ H (LnV (φ0 (at_ pl)) (φ1 (at_ pl)) (φ2 (at_ pl))) := by
  have main : Ev (tLc (iTup K tl) (gName i) tYes (tCall sp_worth_at [] E0 (tCons (tVar i) (tCons (tVar j) tNil))) vs) σ H (LsV ([φ0, φ1, φ2].map fun φ => fun v H => FrV (φ (at_ pl)) v H ∧ FB 800 (φ (at_ pl)))) := by
    refine ev_map (α := Wo) (A := fun φ => PyV φ n b e) (B := fun φ => fun v H => FrV (φ (at_ pl)) v H ∧ FB 800 (φ (at_ pl))) (Bd := fun D φ => fun v H => FrV (φ (at_ pl)) v H ∧ FB 800 (φ (at_ pl))) (fun φ => stb_py φ n b e) (fun D φ v H H' s h => ⟨stb_fr _ _ _ _ s h.1, h.2⟩)
      (fun D φ y H xs p hD => ⟨frv_but p.1 hD, p.2⟩) (fun D φ y H p => p) htl (by show 3 ≤ 1000; decide) hw ?_
    intro D φ x H1 _ s1 hD ⟨L, hL, h2, h3⟩ Q q
    refine ev_call2 (P1 := PoV L) (P2 := FrsV pl) (P := FrV (φ (at_ pl))) (ev_var (hi x) (stb_po L) hL) (ev_var (hj x) (stb_frs pl) (stb_frs pl _ _ _ s1 hz)) (stb_po L) (fun x1 y1 H2 _ p1 p2 Q2 q2 => ⟨x1, y1, L, pl, n, b, e, rfl, p1, p2, hp, h3, hb, he, fun v H3 s3 p3 => q2 v H3 s3 (by rw [← h2]; exact p3)⟩) H1 (Same.refl _) _ fun y H2 s2 p2 => ?_
    exact q y H2 s2 ⟨p2, by rw [← h2]; exact fb_worth hp h3 hb he⟩
  refine main.imp fun v H ⟨a, xs, e1, h, t⟩ => ?_
  cases t with
  | cons h0 t => cases t with
    | cons h1 t => cases t with
      | cons h2 t =>
        cases t
        exact ⟨⟨a, _, e1, h, .cons h0.1 (.cons h1.1 (.cons h2.1 .nil))⟩, h0.2, h1.2, h2.2⟩
theorem ev_lst2 (ha : Ev ta σ H P1) (hb : Ev tb σ H P2) (s1 : Stb P1) (s2 : Stb P2) : Ev (tLst (tCons ta (tCons tb tNil))) σ H (LsV [P1, P2]) := by
  intro H1 q1 Q q
  refine ha H1 q1 _ fun x H2 t2 p1 => ?_
  refine hb H2 (q1.trans t2) _ fun y H3 t3 p2 => ?_
  refine ⟨by show 2 ≤ sizeLine; decide, fun p hp => ?_⟩
  have sp := same_new (o := .lst [x, y]) hp
  exact q _ _ (t2.trans (t3.trans sp)) ⟨p, [x, y], rfl, upd_same, .cons (s1 _ _ _ (t3.trans sp) p1) (.cons (s2 _ _ _ sp p2) .nil)⟩
theorem ev_ln {a b c q : Rat} {i : Nat} (ha : Ev ta σ H (LnV a b c)) (e : [a, b, c][i]? = some q) : Ev (tOp (rIxL K) ta (tC (.int (i : Int)))) σ H (FrV q) := ev_ixF (ha.imp fun v H p => p.1) (ev_int (i : Int)) e
theorem ev_pt {a b q : Rat} {i : Nat} (ha : Ev ta σ H (PtV a b)) (e : [a, b][i]? = some q) : Ev (tOp (rIxL K) ta (tC (.int (i : Int)))) σ H (FrV q) := ev_ixF (ha.imp fun v H p => p.1) (ev_int (i : Int)) e
/-! tests -/
def EvT (t : TT) (σ : L2.St) (H : Hp) (b : Bool) : Prop := ∀ H1, Same H H1 → ∀ Q : Bool → Hp → Prop, (∀ H2, Same H1 H2 → Q b H2) → t σ H1 Q
variable {t u : TT} {a b : Bool} {D : Ends} {tz tu tw : TS}
theorem evt_of (h : Ev te σ H (IsB b)) : EvT (tTest te) σ H b := fun H1 s1 Q q => h H1 s1 _ fun v H2 s2 e => ⟨b, e, q H2 s2⟩
theorem EvT.to {b' : Bool} (h : EvT t σ H b) (e : b = b') : EvT t σ H b' := by rw [← e]; exact h
theorem EvT.same {H' : Hp} (h : EvT t σ H b) (s : Same H H') : EvT t σ H' b := fun H1 s1 Q q => h H1 (s.trans s1) Q q
theorem evt_or (h1 : EvT t σ H a) (h2 : a = false → EvT u σ H b) : EvT (tOr t u) σ H (a || b) := by
  intro H1 s1 Q q
  refine h1 H1 s1 _ fun H2 s2 => ?_
  cases a with
  | true => exact q H2 s2
  | false => exact h2 rfl H2 (s1.trans s2) Q fun H3 s3 => q H3 (s2.trans s3)
theorem evt_and (h1 : EvT t σ H a) (h2 : a = true → EvT u σ H b) : EvT (tAnd t u) σ H (a && b) := by
  intro H1 s1 Q q
  refine h1 H1 s1 _ fun H2 s2 => ?_
  cases a with
  | false => exact q H2 s2
  | true => exact h2 rfl H2 (s1.trans s2) Q fun H3 s3 => q H3 (s2.trans s3)
theorem evt_not (h1 : EvT t σ H a) : EvT (tNot t) σ H (!a) := fun H1 s1 Q q => h1 H1 s1 _ fun H2 s2 => q H2 s2
/-- a test that fails: on with what follows -/
theorem s_pass (h : EvT t σ H false) (k : ∀ H1, Same H H1 → tz D σ H1) : tSeq (tIfS t tu tNext) tz D σ H :=
  h H (Same.refl _) _ fun H1 s1 => iteF (k H1 s1)
/-- a test that holds -/
theorem s_take (h : EvT t σ H true) (k : ∀ H1, Same H H1 → tu { D with nx := tz D } σ H1) : tSeq (tIfS t tu tw) tz D σ H :=
  h H (Same.refl _) _ fun H1 s1 => iteT (k H1 s1)
end
section
variable {P : Program} {w : World} {K : PySem.W.Frag} {mg : Str → Option Value} {base : Heap} {C : Addr}
abbrev s_l_spot : Stmt := top 55
theorem sc_l_spot : FnScope ["_law_some", "_law_place", "_law_worths", "_law_terms"] ["_law_some", "_law_place"] (defScope s_l_spot) := ⟨rfl, rfl, rfl, by decide +kernel, rfl, by decide +kernel, by decide +kernel⟩
def sp_l_spot : Sp := fun vs H Q _ => ∃ (x z : V) (φ0 φ1 φ2 : Wo) (n b e : Nat) (pl : List Rat), vs = [x, z] ∧ ThV [φ0, φ1, φ2] n b e x H ∧ FrsV pl z H ∧ PlaceOk pl ∧ b ≤ 120 ∧ e ≤ 10 ∧ ∀ v H', Same H H' → SpV (φ0 (at_ pl)) (φ1 (at_ pl)) (φ2 (at_ pl)) v H' → Q v H'
theorem ok_l_spot (R : Raw K mg "_law_spot" s_l_spot) (d_worth_at : Def P w K mg base "worth_at" 4 ["some", "place"] sp_worth_at) (d_frac_by : Def P w K mg base "frac_by" 3 ["one", "other"] sp_frac_by) : Def P w K mg base "_law_spot" 5 ["_law_some", "_law_place"] sp_l_spot := by
  refine def_mk R sc_l_spot (fun vs H Q E h => ?_) (fun _ _ _ _ _ _ us hl => match us, hl with | [_, _], _ => rfl) (fun f cdv A outer s H vs Q E hr h => ?_)
  · obtain ⟨x, z, φ0, φ1, φ2, n, b, e, pl, rfl, _⟩ := h
    rfl
  obtain ⟨x, z, φ0, φ1, φ2, n, b, e, pl, rfl, hx, hz, hp, hb, he, q⟩ := h
  refine ⟨_, (pss_cons (ps_setLc (i := 2) (own := [("_law_terms", 3)]) rfl sc_l_spot.nd rfl rfl (sw_true rfl rfl rfl (by decide +kernel)) (pi_tup (pv 0)) (blkOk_by (own := [("_law_terms", 3)]) (N := ["_law_some", "_law_place", "_law_worths", "_law_terms"]) (sc := defScope s_l_spot) (by decide +kernel)) (fun _ _ _ _ _ => (pg_name (i := 3) sc_l_spot.nd rfl (Or.inl rfl))) (fun _ _ _ _ _ => pts_nil) (fun _ _ _ _ _ => (pe_def d_worth_at hr (by rfl) (pa_cons (pv 3) (pa_cons (pv 1) pa_nil)))))
      (pss_cons (ps_if (pt_cmpR op_eq (pe_ix ix_tup (pe_ix ix_list (pv 2) pe_int (fun _ _ => rfl)) pe_int (fun _ _ => rfl)) pe_int (nomark _)) (pss_one (ps_ret pe_non)) pss_nil)
      (pss_one (ps_ret (pe_lst (pa_cons (pe_def d_frac_by hr (by rfl) (pa_cons (pe_ix ix_list (pv 2) pe_int (fun _ _ => rfl)) (pa_cons (pe_ix ix_list (pv 2) pe_int (fun _ _ => rfl)) pa_nil))) (pa_cons (pe_def d_frac_by hr (by rfl) (pa_cons (pe_ix ix_list (pv 2) pe_int (fun _ _ => rfl)) (pa_cons (pe_ix ix_list (pv 2) pe_int (fun _ _ => rfl)) pa_nil))) pa_nil))))))), ?_⟩
  refine s_set (ev_worths (ev_var rfl (stb_th _ n b e) hx) hz hp hb he (fun _ => rfl) (fun _ => rfl) (fun _ => rfl)) fun v1 H1 s1 p1 => ?_
  have ln : ∀ {H'}, Same H1 H' → Ev (tVar 2) [some x, some z, some v1, none] H' (LnV (φ0 (at_ pl)) (φ1 (at_ pl)) (φ2 (at_ pl))) := fun s => ev_var rfl (stb_ln _ _ _) (stb_ln _ _ _ _ _ _ s p1)
  refine s_if (ev_eqI (ev_num (ev_ln (i := 2) (ln (Same.refl _)) rfl) (ev_int 0)) (ev_int 0)) (fun e2 H2 s2 => ?_) (fun e2 H2 s2 => ?_)
  · exact q _ _ (s1.trans s2) (.inl ⟨num_zero.mp (of_decide_eq_true e2), rfl⟩)
  · have n2 : φ2 (at_ pl) ≠ 0 := fun z => of_decide_eq_false e2 (num_zero.mpr z)
    obtain ⟨_, f0, f1, f2⟩ := p1
    refine s_ret (ev_lst2 (ev_frac_op rfl (ev_ln (i := 0) (ln s2) rfl) (ev_ln (i := 2) (ln s2) rfl) f0 f2 (by decide) (by decide) (by decide) n2) (ev_frac_op rfl (ev_ln (i := 1) (ln s2) rfl) (ev_ln (i := 2) (ln s2) rfl) f1 f2 (by decide) (by decide) (by decide) n2) (stb_fr _) (stb_fr _)) fun v3 H3 s3 p3 => ?_
    exact q _ _ (s1.trans (s2.trans s3)) (.inr ⟨n2, p3, f0.div f2 n2, f1.div f2 n2⟩)
abbrev s_l_weighs : Stmt := top 56
theorem sc_l_weighs : FnScope ["_law_spot_here", "_law_line", "_law_total"] ["_law_spot_here", "_law_line"] (defScope s_l_weighs) := ⟨rfl, rfl, rfl, by decide +kernel, rfl, by decide +kernel, by decide +kernel⟩
def sp_l_weighs : Sp := fun vs H Q _ => ∃ (x y : V) (px py a b c : Rat), vs = [x, y] ∧ PtV px py x H ∧ LnV a b c y H ∧ ∀ v H', Same H H' → FrV (a * px + b * py + c) v H' → Q v H'
theorem ok_l_weighs (R : Raw K mg "_law_weighs" s_l_weighs) (d_frac_sum : Def P w K mg base "frac_sum" 3 ["one", "other"] sp_frac_sum) (d_frac_times : Def P w K mg base "frac_times" 3 ["one", "other"] sp_frac_times) : Def P w K mg base "_law_weighs" 4 ["_law_spot_here", "_law_line"] sp_l_weighs := by
  refine def_mk R sc_l_weighs (fun vs H Q E h => ?_) (fun _ _ _ _ _ _ us hl => match us, hl with | [_, _], _ => rfl) (fun f cdv A outer s H vs Q E hr h => ?_)
  · obtain ⟨x, y, px, py, a, b, c, rfl, _⟩ := h
    rfl
  obtain ⟨x, y, px, py, a, b, c, rfl, hx, hy, q⟩ := h
  obtain ⟨_, fx, fy⟩ := id hx
  obtain ⟨_, fa, fb, fc⟩ := id hy
  refine ⟨_, (pss_cons (ps_set (i := 2) sc_l_weighs.nd rfl (Or.inl rfl) (pe_def d_frac_sum hr (by rfl) (pa_cons (pe_def d_frac_times hr (by rfl) (pa_cons (pe_ix ix_list (pv 1) pe_int (fun _ _ => rfl)) (pa_cons (pe_ix ix_list (pv 0) pe_int (fun _ _ => rfl)) pa_nil))) (pa_cons (pe_def d_frac_times hr (by rfl) (pa_cons (pe_ix ix_list (pv 1) pe_int (fun _ _ => rfl)) (pa_cons (pe_ix ix_list (pv 0) pe_int (fun _ _ => rfl)) pa_nil))) pa_nil))))
      (pss_one (ps_ret (pe_def d_frac_sum hr (by rfl) (pa_cons (pv 2) (pa_cons (pe_ix ix_list (pv 1) pe_int (fun _ _ => rfl)) pa_nil)))))), ?_⟩
  have vx : ∀ {σ H1}, σ[0]? = some (some x) → Same H H1 → Ev (tVar 0) σ H1 (PtV px py) := fun h s => ev_var h (stb_pt _ _) (stb_pt _ _ _ _ _ s hx)
  have vy : ∀ {σ H1}, σ[1]? = some (some y) → Same H H1 → Ev (tVar 1) σ H1 (LnV a b c) := fun h s => ev_var h (stb_ln _ _ _) (stb_ln _ _ _ _ _ _ s hy)
  refine s_set (ev_frac_op (g := fun q r => q + r) rfl (ev_frac_op (g := fun q r => q * r) rfl (ev_ln (i := 0) (vy rfl (Same.refl _)) rfl) (ev_pt (i := 0) (vx rfl (Same.refl _)) rfl) fa fx (by decide) (by decide) (by decide) trivial) (ev_frac_op (g := fun q r => q * r) rfl (ev_ln (i := 1) (vy rfl (Same.refl _)) rfl) (ev_pt (i := 1) (vx rfl (Same.refl _)) rfl) fb fy (by decide) (by decide) (by decide) trivial) (fa.mul fx) (fb.mul fy) (by decide) (by decide) (by decide) trivial) fun v1 H1 s1 p1 => ?_
  refine s_ret (P := FrV (a * px + b * py + c)) (ev_frac_op (g := fun q r => q + r) rfl (ev_var rfl (stb_fr _) p1) (ev_ln (i := 2) (vy rfl s1) rfl) ((fa.mul fx).add (fb.mul fy)) fc (by decide) (by decide) (by decide) trivial) fun v2 H2 s2 p2 => ?_
  exact q _ _ (s1.trans s2) p2
abbrev s_l_between : Stmt := top 57
theorem sc_l_between : FnScope ["_law_one", "_law_other", "_law_share", "_law_found", "_law_left", "_law_right"] ["_law_one", "_law_other", "_law_share"] (defScope s_l_between) := ⟨rfl, rfl, rfl, by decide +kernel, rfl, by decide +kernel, by decide +kernel⟩
def sp_l_between : Sp := fun vs H Q _ => ∃ (x y z : V) (px py qx qy s : Rat), vs = [x, y, z] ∧ PtV px py x H ∧ PtV qx qy y H ∧ FrV s z H ∧ FB 4 s ∧ ∀ v H', Same H H' → FrsV [px + s * (qx - px), py + s * (qy - py)] v H' → Q v H'
theorem ok_l_between (R : Raw K mg "_law_between" s_l_between) (B : Bi mg) (d_frac_sum : Def P w K mg base "frac_sum" 3 ["one", "other"] sp_frac_sum) (d_frac_less : Def P w K mg base "frac_less" 3 ["one", "other"] sp_frac_less) (d_frac_times : Def P w K mg base "frac_times" 3 ["one", "other"] sp_frac_times) : Def P w K mg base "_law_between" 4 ["_law_one", "_law_other", "_law_share"] sp_l_between := by
  refine def_mk R sc_l_between (fun vs H Q E h => ?_) (fun _ _ _ _ _ _ us hl => match us, hl with | [_, _, _], _ => rfl) (fun f cdv A outer s H vs Q E hr h => ?_)
  · obtain ⟨x, y, z, px, py, qx, qy, sh, rfl, _⟩ := h
    rfl
  obtain ⟨x, y, z, px, py, qx, qy, sh, rfl, ⟨⟨a, xs, rfl, ha, hxs⟩, fpx, fpy⟩, ⟨⟨c, ys, rfl, hc, hys⟩, fqx, fqy⟩, hz, fs, q⟩ := h
  refine ⟨_, (pss_cons (ps_set (i := 3) sc_l_between.nd rfl (Or.inl rfl) (pe_lst pa_nil))
      (pss_cons (ps_for PassesOwn.never rfl (RZ.pi_zipA (by rfl) B.zip (pa_cons (pv 0) (pa_cons (pv 1) pa_nil))) (pg_tup rfl (pgs_cons (pg_name (i := 4) sc_l_between.nd rfl (.inl rfl)) (pgs_cons (pg_name (i := 5) sc_l_between.nd rfl (.inl rfl)) pgs_nil))) (pss_one (ps_expr (pe_bm PySem.F.plainAttrs_list PySem.F.slot_list_append PySem.F.type_list_append mt_append (pv 3) (pa_cons (pe_def d_frac_sum hr (by rfl) (pa_cons (pv 4) (pa_cons (pe_def d_frac_times hr (by rfl) (pa_cons (pv 2) (pa_cons (pe_def d_frac_less hr (by rfl) (pa_cons (pv 5) (pa_cons (pv 4) pa_nil))) pa_nil))) pa_nil))) pa_nil)))))
      (pss_one (ps_ret (pv 3))))), ?_⟩
  refine ⟨Nat.zero_le _, fun F hF => ?_⟩
  have sF := same_new (o := .lst []) hF
  have lx : 2 = xs.length := Paired.length hxs
  have ly : 2 = ys.length := Paired.length hys
  refine ⟨_, rfl, _, rfl, a, c, xs, ys, rfl, .inl ⟨SqL.of (sF _ _ ha), SqL.of (sF _ _ hc), ?_⟩⟩
  refine RZ.for_zipL (by omega) (fun i σ H' => ∃ zs u v, σ = [some (.ref a), some (.ref c), some z, some (.ref F), u, v] ∧ H' F = some (.lst zs) ∧ Ech (([px + sh * (qx - px), py + sh * (qy - py)].take i).map FrV) zs H' ∧ Same H H')
    ⟨[], none, none, rfl, upd_same, .nil, sF⟩ (fun i σ H' ⟨_, _, _, _, _, _, s'⟩ => ⟨SqL.of (s' _ _ ha), SqL.of (s' _ _ hc)⟩) ?_ ?_
  · rintro i v1 v2 T σ H1 hv1 hv2 ⟨zs, u, v, rfl, hF1, hzs, s1⟩ hT
    have hi : i < 2 := by
      have := (List.getElem?_eq_some_iff.mp hv1).1
      omega
    have zl : i = zs.length := by
      have h := Paired.length hzs
      rw [List.length_map, List.length_take] at h
      have : [px + sh * (qx - px), py + sh * (qy - py)].length = 2 := rfl
      omega
    have sT := same_new (o := .tup [v1, v2]) hT
    obtain ⟨p, r, hp, hr', fp, fr_, ho⟩ : ∃ p r, FrV p v1 H ∧ FrV r v2 H ∧ FB 1600 p ∧ FB 1600 r ∧ [px + sh * (qx - px), py + sh * (qy - py)].take (i + 1) = [px + sh * (qx - px), py + sh * (qy - py)].take i ++ [p + sh * (r - p)] := by
      have : i = 0 ∨ i = 1 := by omega
      rcases this with rfl | rfl
      · obtain ⟨v1', e1, p1⟩ := ech_get hxs (i := 0) rfl
        obtain ⟨v2', e2, p2⟩ := ech_get hys (i := 0) rfl
        rw [hv1] at e1; rw [hv2] at e2
        cases e1; cases e2
        exact ⟨px, qx, p1, p2, fpx, fqx, rfl⟩
      · obtain ⟨v1', e1, p1⟩ := ech_get hxs (i := 1) rfl
        obtain ⟨v2', e2, p2⟩ := ech_get hys (i := 1) rfl
        rw [hv1] at e1; rw [hv2] at e2
        cases e1; cases e2
        exact ⟨py, qy, p1, p2, fpy, fqy, rfl⟩
    refine g_pair upd_same ?_
    have sH := s1.trans sT
    refine ⟨_, rfl, .inl ⟨rfl, _, SqL.of (sT _ _ hF1)⟩, ?_⟩
    refine ev_frac_op (g := fun q r => q + r) (ok := fun _ _ => True) rfl (ev_var (i := 4) (v := v1) rfl (stb_fr _) (stb_fr _ _ _ _ sH hp)) (ev_frac_op (g := fun q r => q * r) rfl (ev_var (i := 2) (v := z) rfl (stb_fr _) (stb_fr _ _ _ _ sH hz)) (ev_frac_op (g := fun q r => q - r) rfl (ev_var (i := 5) (v := v2) rfl (stb_fr _) (stb_fr _ _ _ _ sH hr')) (ev_var (i := 4) (v := v1) rfl (stb_fr _) (stb_fr _ _ _ _ sH hp)) fr_ fp (by decide) (by decide) (by decide) trivial) fs (fr_.sub fp) (by decide) (by decide) (by decide) trivial) fp (fs.mul (fr_.sub fp)) (by decide) (by decide) (by decide) trivial _ (Same.refl _) _ fun y H3 s3 p3 => ?_
    have hF3 := s3 _ _ (sT _ _ hF1)
    refine ⟨F, zs, _, rfl, rfl, hF3, small1000 (by omega), ?_⟩
    refine ⟨zs ++ [y], _, _, rfl, upd_same, ?_, fun b o hb => ?_⟩
    · rw [ho, List.map_append]
      have keep : ∀ {Ps : List Rat} {ws : List V}, Ech (Ps.map FrV) ws H3 → Ech (Ps.map FrV) ws (upd H3 F (.lst (zs ++ [y]))) := by
        intro Ps
        induction Ps with
        | nil => intro ws h; cases h; exact .nil
        | cons p0 Ps ih => intro ws h; cases h with | cons h t => exact .cons (frv_but h ⟨_, hF3⟩) (ih t)
      have old := keep (ech_same (fun P hp => by obtain ⟨q, _, rfl⟩ := List.mem_map.mp hp; exact stb_fr q) (sT.trans s3) hzs)
      have one : Ech ([p + sh * (r - p)].map FrV) [y] (upd H3 F (.lst (zs ++ [y]))) := .cons (frv_but p3 ⟨_, hF3⟩) .nil
      have app : ∀ {l₁ l₂ : List Pd} {m₁ m₂ : List V} {H : Hp}, Ech l₁ m₁ H → Ech l₂ m₂ H → Ech (l₁ ++ l₂) (m₁ ++ m₂) H := by
        intro l₁ l₂ m₁ m₂ H h1 h2
        induction h1 with
        | nil => exact h2
        | cons h _ ih => exact .cons h ih
      exact app old one
    · have nb : b ≠ F := fun e => by rw [e, hF] at hb; cases hb
      rw [upd_ne nb]
      exact (sH.trans s3) _ _ hb
  · rintro σ H1 ⟨zs, u, v, rfl, hF1, hzs, s1⟩
    rw [← lx] at hzs
    exact ⟨_, rfl, q _ _ s1 ⟨F, zs, rfl, hF1, hzs⟩⟩
end
end ED

/-! The identities; the three checks of the law. -/
namespace EM
theorem sq0 {a b : Rat} (h : a * a + b * b = 0) : a = 0 ∧ b = 0 := by
  have sqp : ∀ c : Rat, 0 ≤ c * c := fun c => by
    rcases Rat.le_total (a := 0) (b := c) with h | h
    · exact Rat.mul_nonneg h h
    · have n : 0 ≤ -c := by grind
      have := Rat.mul_nonneg n n
      grind
  have ha := sqp a
  have hb := sqp b
  have a0 : a * a = 0 := by grind
  have b0 : b * b = 0 := by grind
  exact ⟨by grind, by grind⟩
theorem m_slide {i j i2 j2 t : Rat} (h1 : i2 ≠ 0) (h2 : j2 ≠ 0) : (i * j2 + t * (j * i2 - i * j2)) / (i2 * j2) = i / i2 + t * (j / j2 - i / i2) := by grind
theorem m_part {i j i2 j2 q n d : Rat} (h1 : i2 ≠ 0) (h2 : j2 ≠ 0) (hd : d ≠ 0) (hq : q * d = n) : (d * (i * j2) + n * (j * i2 - i * j2)) / (d * (i2 * j2)) = i / i2 + q * (j / j2 - i / i2) := by grind
theorem m_line1 {i0 i1 i2 j0 j1 j2 : Rat} (h1 : i2 ≠ 0) : (i1 * j2 - i2 * j1) * (i0 / i2) + (i2 * j0 - i0 * j2) * (i1 / i2) + (i0 * j1 - i1 * j0) = 0 := by grind
theorem m_line2 {i0 i1 i2 j0 j1 j2 : Rat} (h1 : j2 ≠ 0) : (i1 * j2 - i2 * j1) * (j0 / j2) + (i2 * j0 - i0 * j2) * (j1 / j2) + (i0 * j1 - i1 * j0) = 0 := by grind
theorem m_same {i0 i1 i2 j0 j1 j2 : Rat} (h1 : i2 ≠ 0) (h2 : j2 ≠ 0) : (i1 * j2 - i2 * j1 = 0 ∧ i2 * j0 - i0 * j2 = 0) ↔ (i0 / i2 = j0 / j2 ∧ i1 / i2 = j1 / j2) := by
  constructor
  · rintro ⟨a, b⟩
    exact ⟨by grind, by grind⟩
  · rintro ⟨a, b⟩
    exact ⟨by grind, by grind⟩
theorem m_foot {i0 i1 i2 l0 l1 l2 : Rat} (h1 : i2 ≠ 0) (h2 : (l0 * l0 + l1 * l1) ≠ 0) :
   l0 * ((l1 * (l1 * i0 - l0 * i1) - l0 * (l2 * i2)) / ((l0 * l0 + l1 * l1) * i2)) + l1 * (((-1 : Rat) * (l0 * (l1 * i0 - l0 * i1) + l1 * (l2 * i2))) / ((l0 * l0 + l1 * l1) * i2)) + l2 = 0 := by
  grind
theorem m_stretch {i0 i1 i2 l0 l1 l2 : Rat} (h1 : i2 ≠ 0) (h2 : (l0 * l0 + l1 * l1) ≠ 0) :
   ((l1 * (l1 * i0 - l0 * i1) - l0 * (l2 * i2)) / ((l0 * l0 + l1 * l1) * i2) - i0 / i2) * l1 = (((-1 : Rat) * (l0 * (l1 * i0 - l0 * i1) + l1 * (l2 * i2))) / ((l0 * l0 + l1 * l1) * i2) - i1 / i2) * l0 := by
  grind
theorem m_mirror {f i i2 s : Rat} (h1 : i2 ≠ 0) (h2 : s ≠ 0) : (2 * f - s * i) / (s * i2) = i / i2 + 2 * (f / (s * i2) - i / i2) := by grind
theorem m_side {i0 i1 i2 l0 l1 : Rat} (h1 : i2 ≠ 0) : l0 * i2 * (i0 / i2) + l1 * i2 * (i1 / i2) + (-1) * (l0 * i0 + l1 * i1) = 0 := by grind
theorem m_square {i0 i1 i2 l0 l1 : Rat} (h1 : i2 ≠ 0) : (-1) * (l1 * i2) * (i0 / i2) + l0 * i2 * (i1 / i2) + (l1 * i0 - l0 * i1) = 0 := by grind
theorem m_meet1 {l0 l1 l2 m0 m1 m2 : Rat} (h : l0 * m1 - l1 * m0 ≠ 0) : l0 * ((l1 * m2 - l2 * m1) / (l0 * m1 - l1 * m0)) + l1 * ((l2 * m0 - l0 * m2) / (l0 * m1 - l1 * m0)) + l2 = 0 := by grind
theorem m_meet2 {l0 l1 l2 m0 m1 m2 : Rat} (h : l0 * m1 - l1 * m0 ≠ 0) : m0 * ((l1 * m2 - l2 * m1) / (l0 * m1 - l1 * m0)) + m1 * ((l2 * m0 - l0 * m2) / (l0 * m1 - l1 * m0)) + m2 = 0 := by grind
theorem den_ne0 (q : Rat) : (((q.den : Nat) : Int) : Rat) ≠ 0 := cast_ne (by have := q.den_nz; omega)
theorem mul_ne {a b : Rat} (ha : a ≠ 0) (hb : b ≠ 0) : a * b ≠ 0 := by grind
end EM
namespace ED
open PySem PySem.Spec PyProof.Rows L2 ER EM

/-! ### == of fractions, of spots -/
def frD (q : Rat) : PyData := .tuple [.int q.num, .int (q.den : Int)]
theorem frD_eqv (q r : Rat) : PyData.eqv (frD q) (frD r) = decide (q = r) := by
  show ((q.num == r.num) && (((q.den : Int) == (r.den : Int)) && true)) = decide (q = r)
  rw [Bool.eq_iff_iff]
  simp only [Bool.and_eq_true, Bool.and_true, beq_iff_eq, decide_eq_true_eq]
  constructor
  · rintro ⟨a, b⟩
    exact Rat.ext a (by omega)
  · rintro rfl
    exact ⟨rfl, rfl⟩
theorem frD_dp {K : PySem.W.Frag} {H : Hp} {q : Rat} {v : V} (h : FrV q v H) : Dp K H v (frD q) := by
  obtain ⟨a, rfl, h⟩ := h
  exact .tup (SqT.of h) (.cons (.int _) (.cons (.int _) .nil))
def ptD (a b : Rat) : PyData := .list [frD a, frD b]
theorem ptD_eqv (a b c d : Rat) : PyData.eqv (ptD a b) (ptD c d) = (decide (a = c) && decide (b = d)) := by
  show (PyData.eqv (frD a) (frD c) && (PyData.eqv (frD b) (frD d) && true)) = _
  rw [frD_eqv, frD_eqv, Bool.and_true]
theorem ptD_dp {K : PySem.W.Frag} {H : Hp} {a b : Rat} {v : V} (h : FrsV [a, b] v H) : Dp K H v (ptD a b) := by
  obtain ⟨p, xs, rfl, h, t⟩ := h
  cases t with
  | cons h0 t => cases t with
    | cons h1 t =>
      cases t
      exact .lst (SqL.of h) (.cons (frD_dp h0) (.cons (frD_dp h1) .nil))
theorem sp_pt {a b c : Rat} (hc : c ≠ 0) : ∀ v H, SpV a b c v H → PtV (a / c) (b / c) v H := fun v H h => h.elim (fun z => absurd z.1 hc) fun z => z.2
theorem sp_no {a b c : Rat} (hc : c = 0) : ∀ v H, SpV a b c v H → IsN v H := fun v H h => h.elim (fun z => z.2) fun z => absurd hc z.1
section
variable {K : PySem.W.Frag} {σ : L2.St} {H : Hp} {ta tb tc te : TE} {P1 P2 : Pd} {v z : V} {q r a b c d : Rat}
theorem ev_neF (ha : Ev ta σ H (FrV q)) (hb : Ev tb σ H (FrV r)) : Ev (tOp (rNeD K) ta tb) σ H (IsB (!decide (q = r))) :=
  ev_op ha hb (stb_fr q) fun x y H1 _ e1 e2 Q k => ⟨_, _, frD_dp e1, frD_dp e2, rfl, rfl, k _ _ (Same.refl _) (by rw [frD_eqv]; rfl)⟩
theorem ev_eqF (ha : Ev ta σ H (FrV q)) (hb : Ev tb σ H (FrV r)) : Ev (tOp (rEqD K) ta tb) σ H (IsB (decide (q = r))) :=
  ev_op ha hb (stb_fr q) fun x y H1 _ e1 e2 Q k => ⟨_, _, frD_dp e1, frD_dp e2, rfl, rfl, k _ _ (Same.refl _) (by rw [frD_eqv]; rfl)⟩
theorem ev_neS (ha : Ev ta σ H (FrsV [a, b])) (hb : Ev tb σ H (FrsV [c, d])) : Ev (tOp (rNeD K) ta tb) σ H (IsB (!(decide (a = c) && decide (b = d)))) :=
  ev_op ha hb (stb_frs _) fun x y H1 _ e1 e2 Q k => ⟨_, _, ptD_dp e1, ptD_dp e2, rfl, rfl, k _ _ (Same.refl _) (by rw [ptD_eqv]; rfl)⟩
theorem ev_eqS (ha : Ev ta σ H (FrsV [a, b])) (hb : Ev tb σ H (FrsV [c, d])) : Ev (tOp (rEqD K) ta tb) σ H (IsB (decide (a = c) && decide (b = d))) :=
  ev_op ha hb (stb_frs _) fun x y H1 _ e1 e2 Q k => ⟨_, _, ptD_dp e1, ptD_dp e2, rfl, rfl, k _ _ (Same.refl _) (by rw [ptD_eqv]; rfl)⟩
/-! is None -/
def rIs : R2 := fun x y H Q => y = .non ∧ Q (.bl (decide (x = .non))) H
def rIsnt : R2 := fun x y H Q => y = .non ∧ Q (.bl (!decide (x = .non))) H
theorem ls_not {Ps : List Pd} (h : LsV Ps v H) : decide (v = .non) = false := by
  obtain ⟨p, xs, rfl, _⟩ := h
  rfl
theorem ev_non : Ev (tC .non) σ H IsN := ev_c stb_non rfl
theorem ev_isPt (ha : Ev ta σ H (PtV a b)) : Ev (tOp rIs ta (tC .non)) σ H (IsB false) := ev_op ha ev_non (stb_pt a b) fun x y H1 _ e1 e2 Q k => ⟨e2, k _ _ (Same.refl _) (by rw [ls_not e1.1]; rfl)⟩
theorem ev_isNo (ha : Ev ta σ H IsN) : Ev (tOp rIs ta (tC .non)) σ H (IsB true) := ev_op ha ev_non stb_non fun x y H1 _ e1 e2 Q k => ⟨e2, k _ _ (Same.refl _) (by cases e1; rfl)⟩
theorem ev_isntPt (ha : Ev ta σ H (PtV a b)) : Ev (tOp rIsnt ta (tC .non)) σ H (IsB true) := ev_op ha ev_non (stb_pt a b) fun x y H1 _ e1 e2 Q k => ⟨e2, k _ _ (Same.refl _) (by rw [ls_not e1.1]; rfl)⟩
theorem ev_isntNo (ha : Ev ta σ H IsN) : Ev (tOp rIsnt ta (tC .non)) σ H (IsB false) := ev_op ha ev_non stb_non fun x y H1 _ e1 e2 Q k => ⟨e2, k _ _ (Same.refl _) (by cases e1; rfl)⟩
/-! bools -/
variable {s t : Bool}
theorem Ev.isB {t' : Bool} (h : Ev te σ H (IsB t)) (e : t = t') : Ev te σ H (IsB t') := by rw [← e]; exact h
theorem ev_andV (ha : Ev ta σ H (IsB s)) (hb : s = true → Ev tb σ H (IsB t)) : Ev (tAndV ta tb) σ H (IsB (s && t)) := by
  intro H1 s1 Q q
  refine ha H1 s1 _ fun x H2 s2 e => ⟨s, e, ?_⟩
  cases s with
  | false => exact q _ _ s2 rfl
  | true => exact hb rfl H2 (s1.trans s2) Q fun v H3 s3 p => q v H3 (s2.trans s3) p
theorem ev_orV (ha : Ev ta σ H (IsB s)) (hb : s = false → Ev tb σ H (IsB t)) : Ev (tOrV ta tb) σ H (IsB (s || t)) := by
  intro H1 s1 Q q
  refine ha H1 s1 _ fun x H2 s2 e => ⟨s, e, ?_⟩
  cases s with
  | true => exact q _ _ s2 rfl
  | false => exact hb rfl H2 (s1.trans s2) Q fun v H3 s3 p => q v H3 (s2.trans s3) p
theorem ev_eqB (ha : Ev ta σ H (IsB s)) (hb : Ev tb σ H (IsB t)) : Ev (tOp rEq ta tb) σ H (IsB (decide (s = t))) :=
  ev_op ha hb (stb_b s) fun x y H1 _ e1 e2 Q q => by
    cases e1; cases e2
    refine ⟨rfl, q _ _ (Same.refl _) ?_⟩
    show V.bl _ = V.bl _
    congr 1
    exact decide_eq_decide.mpr ⟨fun e => V.bl.inj e, fun e => by rw [e]⟩
theorem ev_neB (ha : Ev ta σ H (IsB s)) (hb : Ev tb σ H (IsB t)) : Ev (tOp rNe ta tb) σ H (IsB (!decide (s = t))) :=
  ev_op ha hb (stb_b s) fun x y H1 _ e1 e2 Q q => by
    cases e1; cases e2
    refine ⟨rfl, q _ _ (Same.refl _) ?_⟩
    show V.bl _ = V.bl _
    congr 2
    exact decide_eq_decide.mpr ⟨fun e => V.bl.inj e, fun e => by rw [e]⟩
/-- x[0] == 0, x[0] != 0, x a fraction -/
theorem ev_zero (ha : Ev ta σ H (FrV q)) : Ev (tOp rEq (tOp (rIxT K) ta (tC (.int 0))) (tC (.int 0))) σ H (IsB (decide (q = 0))) :=
  (ev_eqI (ev_num ha (ev_int 0)) (ev_int 0)).isB (decide_eq_decide.mpr num_zero)
theorem ev_nonzero (ha : Ev ta σ H (FrV q)) : Ev (tOp rNe (tOp (rIxT K) ta (tC (.int 0))) (tC (.int 0))) σ H (IsB (!decide (q = 0))) :=
  (ev_neI (ev_num ha (ev_int 0)) (ev_int 0)).isB (by rw [decide_eq_decide.mpr num_zero])
/-! calls -/
theorem ev_l_spot {φ0 φ1 φ2 : Wo} {n b e : Nat} {pl : List Rat} (ha : Ev ta σ H (ThV [φ0, φ1, φ2] n b e)) (hb : Ev tb σ H (FrsV pl)) (hp : PlaceOk pl) (hbb : b ≤ 120) (hee : e ≤ 10) :
    Ev (tCall sp_l_spot [] E0 (tCons ta (tCons tb tNil))) σ H (SpV (φ0 (at_ pl)) (φ1 (at_ pl)) (φ2 (at_ pl))) :=
  ev_call2 ha hb (stb_th _ n b e) fun x y H1 _ p1 p2 Q q => ⟨x, y, φ0, φ1, φ2, n, b, e, pl, rfl, p1, p2, hp, hbb, hee, q⟩
theorem ev_l_weighs {px py : Rat} (ha : Ev ta σ H (PtV px py)) (hb : Ev tb σ H (LnV a b c)) : Ev (tCall sp_l_weighs [] E0 (tCons ta (tCons tb tNil))) σ H (FrV (a * px + b * py + c)) :=
  ev_call2 ha hb (stb_pt _ _) fun x y H1 _ p1 p2 Q q => ⟨x, y, px, py, a, b, c, rfl, p1, p2, q⟩
theorem ev_l_between {px py qx qy sh : Rat} (ha : Ev ta σ H (PtV px py)) (hb : Ev tb σ H (PtV qx qy)) (hc : Ev tc σ H (FrV sh)) (hs : FB 4 sh) : Ev (tCall sp_l_between [] E0 (tCons ta (tCons tb (tCons tc tNil)))) σ H (FrsV [px + sh * (qx - px), py + sh * (qy - py)]) :=
  ev_call3 ha hb hc (stb_pt _ _) (stb_pt _ _) fun x y z H1 _ p1 p2 p3 Q q => ⟨x, y, z, px, py, qx, qy, sh, rfl, p1, p2, p3, hs, q⟩
theorem ev_point2 {g : Wo → Wo → Wo → Wo → Wo → Wo → List Wo} {i0 i1 i2 j0 j1 j2 : Wo} {n b e : Nat} (ha : Ev ta σ H (ThV [i0, i1, i2] 3 32 3)) (hb : Ev tb σ H (ThV [j0, j1, j2] 3 32 3)) :
    Ev (tCall (sp_point2 g n b e) [] E0 (tCons ta (tCons tb tNil))) σ H (ThV (g i0 i1 i2 j0 j1 j2) n b e) :=
  ev_call2 ha hb (stb_th _ 3 32 3) fun x y H1 _ p1 p2 Q q => ⟨x, y, i0, i1, i2, j0, j1, j2, rfl, p1, p2, q⟩
theorem fb_small {q : Rat} (h1 : q.num.natAbs ≤ 9) (h2 : q.den ≤ 7) : FB 4 q := ⟨by omega, by omega⟩
end
section
variable {P : Program} {w : World} {K : PySem.W.Frag} {mg : Str → Option Value} {base : Heap} {C : Addr}
abbrev s_l_points_good : Stmt := top 58
theorem sc_l_points_good : FnScope ["_law_i", "_law_j", "_law_t", "_law_f", "_law_place", "_law_one", "_law_other", "_law_line", "_law_terms"] ["_law_i", "_law_j", "_law_t", "_law_f", "_law_place"] (defScope s_l_points_good) := ⟨rfl, rfl, rfl, by decide +kernel, rfl, by decide +kernel, by decide +kernel⟩
/-- the checks of the law call these -/
structure Lw (P : Program) (w : World) (K : PySem.W.Frag) (mg : Str → Option Value) (base : Heap) : Prop where
  spot : Def P w K mg base "_law_spot" 5 ["_law_some", "_law_place"] sp_l_spot
  weighs : Def P w K mg base "_law_weighs" 4 ["_law_spot_here", "_law_line"] sp_l_weighs
  between : Def P w K mg base "_law_between" 4 ["_law_one", "_law_other", "_law_share"] sp_l_between
  worth : Def P w K mg base "worth_at" 4 ["some", "place"] sp_worth_at
def sp_l_points : Sp := fun vs H Q _ => ∃ (x y f z : V) (k : Nat) (i0 i1 i2 j0 j1 j2 : Wo) (q : Rat) (pl : List Rat), vs = [x, y, .int (k : Int), f, z] ∧ ThV [i0, i1, i2] 3 32 3 x H ∧ ThV [j0, j1, j2] 3 32 3 y H ∧ k ≤ 5 ∧ FrV q f H ∧ FB 4 q ∧ Sml q ∧ FrsV pl z H ∧ PlaceOk pl ∧
  ∀ H', Same H H' → Q (.bl true) H'
theorem ok_l_points (R : Raw K mg "_law_points_good" s_l_points_good) (L : Lw P w K mg base) (d_slide_point : Def P w K mg base "slide_point" 7 ["i", "j", "t"] sp_slide_point) (d_part_point : Def P w K mg base "part_point" 7 ["i", "j", "f"] sp_part_point) (d_through_line : Def P w K mg base "through_line" 7 ["i", "j"] (sp_point2 g_cross 1000 110 10)) :
    Def P w K mg base "_law_points_good" 8 ["_law_i", "_law_j", "_law_t", "_law_f", "_law_place"] sp_l_points := by
  refine def_mk R sc_l_points_good (fun vs H Q E h => ?_) (fun _ _ _ _ _ _ us hl => match us, hl with | [_, _, _, _, _], _ => rfl) (fun f cdv A outer s H vs Q E hr h => ?_)
  · obtain ⟨x, y, f, z, k, i0, i1, i2, j0, j1, j2, q, pl, rfl, _⟩ := h
    rfl
  obtain ⟨x, y, f, z, k, i0, i1, i2, j0, j1, j2, q, pl, rfl, hx, hy, hk, hf, fq, sq, hz, hp, K0⟩ := h
  obtain ⟨d_l_spot, d_l_weighs, d_l_between, d_worth_at⟩ := L
  refine ⟨_, (pss_cons (ps_set (i := 5) sc_l_points_good.nd rfl (Or.inl rfl) (pe_def d_l_spot hr (by rfl) (pa_cons (pv 0) (pa_cons (pv 4) pa_nil))))
      (pss_cons (ps_set (i := 6) sc_l_points_good.nd rfl (Or.inl rfl) (pe_def d_l_spot hr (by rfl) (pa_cons (pv 1) (pa_cons (pv 4) pa_nil))))
      (pss_cons (ps_if (PW.pt (pw_or (pt_cmpR op_isN (pv 5) pe_non (nomark _)) (pw_or1 (pt_cmpR op_isN (pv 6) pe_non (nomark _))))) (pss_one (ps_ret pe_bl)) pss_nil)
      (pss_cons (ps_if (pt_cmpR (op_neD hr.units) (pe_def d_l_spot hr (by rfl) (pa_cons (pe_def d_slide_point hr (by rfl) (pa_cons (pv 0) (pa_cons (pv 1) (pa_cons (pv 2) pa_nil)))) (pa_cons (pv 4) pa_nil))) (pe_def d_l_between hr (by rfl) (pa_cons (pv 5) (pa_cons (pv 6) (pa_cons (pe_ix ix_list (pv 4) (pv 2) (fun _ _ => rfl)) pa_nil)))) (nomark _)) (pss_one (ps_ret pe_bl)) pss_nil)
      (pss_cons (ps_if (pt_cmpR (op_neD hr.units) (pe_def d_l_spot hr (by rfl) (pa_cons (pe_def d_part_point hr (by rfl) (pa_cons (pv 0) (pa_cons (pv 1) (pa_cons (pv 3) pa_nil)))) (pa_cons (pv 4) pa_nil))) (pe_def d_l_between hr (by rfl) (pa_cons (pv 5) (pa_cons (pv 6) (pa_cons (pv 3) pa_nil)))) (nomark _)) (pss_one (ps_ret pe_bl)) pss_nil)
      (pss_cons (ps_setLc (i := 7) (own := [("_law_terms", 8)]) rfl sc_l_points_good.nd rfl rfl (sw_true rfl rfl rfl (by decide +kernel)) (pi_tup (pe_def d_through_line hr (by rfl) (pa_cons (pv 0) (pa_cons (pv 1) pa_nil)))) (blkOk_by (own := [("_law_terms", 8)]) (N := ["_law_i", "_law_j", "_law_t", "_law_f", "_law_place", "_law_one", "_law_other", "_law_line", "_law_terms"]) (sc := defScope s_l_points_good) (by decide +kernel)) (fun _ _ _ _ _ => (pg_name (i := 8) sc_l_points_good.nd rfl (Or.inl rfl))) (fun _ _ _ _ _ => pts_nil) (fun _ _ _ _ _ => (pe_def d_worth_at hr (by rfl) (pa_cons (pv 8) (pa_cons (pv 4) pa_nil)))))
      (pss_cons (ps_if (PW.pt (pw_or (pt_cmpR op_ne (pe_ix ix_tup (pe_def d_l_weighs hr (by rfl) (pa_cons (pv 5) (pa_cons (pv 7) pa_nil))) pe_int (fun _ _ => rfl)) pe_int (nomark _)) (pw_or1 (pt_cmpR op_ne (pe_ix ix_tup (pe_def d_l_weighs hr (by rfl) (pa_cons (pv 6) (pa_cons (pv 7) pa_nil))) pe_int (fun _ _ => rfl)) pe_int (nomark _))))) (pss_one (ps_ret pe_bl)) pss_nil)
      (pss_one (ps_ret (pe_cmpR op_eq (pe_and (pe_cmpR op_eq (pe_ix ix_tup (pe_ix ix_list (pv 7) pe_int (fun _ _ => rfl)) pe_int (fun _ _ => rfl)) pe_int (nomark _)) (pe_one (pe_cmpR op_eq (pe_ix ix_tup (pe_ix ix_list (pv 7) pe_int (fun _ _ => rfl)) pe_int (fun _ _ => rfl)) pe_int (nomark _)))) (pe_cmpR (op_eqD hr.units) (pv 5) (pv 6) (nomark _)) (nomark _))))))))))), ?_⟩
  have vi : ∀ {σ H1}, σ[0]? = some (some x) → Same H H1 → Ev (tVar 0) σ H1 (ThV [i0, i1, i2] 3 32 3) := fun h s => ev_var h (stb_th _ 3 32 3) (stb_th _ 3 32 3 _ _ _ s hx)
  have vj : ∀ {σ H1}, σ[1]? = some (some y) → Same H H1 → Ev (tVar 1) σ H1 (ThV [j0, j1, j2] 3 32 3) := fun h s => ev_var h (stb_th _ 3 32 3) (stb_th _ 3 32 3 _ _ _ s hy)
  have vf : ∀ {σ H1}, σ[3]? = some (some f) → Same H H1 → Ev (tVar 3) σ H1 (FrV q) := fun h s => ev_var h (stb_fr q) (stb_fr q _ _ _ s hf)
  have vz : ∀ {σ H1}, σ[4]? = some (some z) → Same H H1 → Ev (tVar 4) σ H1 (FrsV pl) := fun h s => ev_var h (stb_frs pl) (stb_frs pl _ _ _ s hz)
  refine s_set (ev_l_spot (vi rfl (Same.refl _)) (vz rfl (Same.refl _)) hp (by decide) (by decide)) fun v1 H1 s1 p1 => ?_
  refine s_set (ev_l_spot (vj rfl s1) (vz rfl s1) hp (by decide) (by decide)) fun v2 H2 s2 p2 => ?_
  have s02 := s1.trans s2
  have p1 := stb_sp _ _ _ _ _ _ s2 p1
  by_cases hi : i2 (at_ pl) = 0
  · refine s_take ((evt_or (b := false) (evt_of (ev_isNo (ev_var (i := 5) rfl stb_non (sp_no hi _ _ p1)))) (fun h => nomatch h)).to rfl) fun H3 s3 => ?_
    exact K0 _ (s02.trans s3)
  by_cases hj : j2 (at_ pl) = 0
  · refine s_take ((evt_or (evt_of (ev_isPt (ev_var (i := 5) rfl (stb_pt _ _) (sp_pt hi _ _ p1)))) (fun _ => evt_of (ev_isNo (ev_var (i := 6) rfl stb_non (sp_no hj _ _ p2))))).to rfl) fun H3 s3 => ?_
    exact K0 _ (s02.trans s3)
  have p1 := sp_pt hi _ _ p1
  have p2 := sp_pt hj _ _ p2
  have v5 : ∀ {σ H3}, σ[5]? = some (some v1) → Same H2 H3 → Ev (tVar 5) σ H3 (PtV (i0 (at_ pl) / i2 (at_ pl)) (i1 (at_ pl) / i2 (at_ pl))) := fun h s => ev_var h (stb_pt _ _) (stb_pt _ _ _ _ _ s p1)
  have v6 : ∀ {σ H3}, σ[6]? = some (some v2) → Same H2 H3 → Ev (tVar 6) σ H3 (PtV (j0 (at_ pl) / j2 (at_ pl)) (j1 (at_ pl) / j2 (at_ pl))) := fun h s => ev_var h (stb_pt _ _) (stb_pt _ _ _ _ _ s p2)
  refine s_pass ((evt_or (evt_of (ev_isPt (v5 rfl (Same.refl _)))) (fun _ => evt_of (ev_isPt (v6 rfl (Same.refl _))))).to rfl) fun H3 s3 => ?_
  have s03 := s02.trans s3
  have hij := mul_ne hi hj
  -- slide
  refine s_pass ((evt_of (ev_neS (a := i0 (at_ pl) / i2 (at_ pl) + at_ pl k * (j0 (at_ pl) / j2 (at_ pl) - i0 (at_ pl) / i2 (at_ pl))) (b := i1 (at_ pl) / i2 (at_ pl) + at_ pl k * (j1 (at_ pl) / j2 (at_ pl) - i1 (at_ pl) / i2 (at_ pl)))
    ((ev_l_spot (φ0 := fun f => i0 f * j2 f + f k * (j0 f * i2 f - i0 f * j2 f)) (φ1 := fun f => i1 f * j2 f + f k * (j1 f * i2 f - i1 f * j2 f)) (φ2 := fun f => i2 f * j2 f) (n := 1000) (b := 110) (e := 10)
      (ev_call3 (P3 := IsI (k : Int)) (vi rfl s03) (vj rfl s03) (ev_var (i := 2) rfl (stb_i _) rfl) (stb_th _ 3 32 3) (stb_th _ 3 32 3) fun x1 y1 z1 H4 _ q1 q2 q3 Q qq => ⟨x1, y1, i0, i1, i2, j0, j1, j2, k, by rw [q3], q1, q2, hk, qq⟩)
      (vz rfl s03) hp (by decide) (by decide)).imp fun v H4 p => by rw [← m_slide hi hj, ← m_slide hi hj]; exact (sp_pt hij _ _ p).1)
    (ev_l_between (v5 rfl s3) (v6 rfl s3) (ev_ixF (vz rfl s03) (ev_var rfl (stb_i (k : Int)) rfl) (at_get hp (by omega))) (fb_small (at_ok hp k).1 (Nat.le_trans (at_ok hp k).2 (by decide)))))).to (by simp)) fun H4 s4 => ?_
  have s04 := s03.trans s4
  have s24 := s3.trans s4
  -- part
  have hd : ((q.den : Nat) : Int) = ((q.den : Nat) : Int) := rfl
  refine s_pass ((evt_of (ev_neS (a := i0 (at_ pl) / i2 (at_ pl) + q * (j0 (at_ pl) / j2 (at_ pl) - i0 (at_ pl) / i2 (at_ pl))) (b := i1 (at_ pl) / i2 (at_ pl) + q * (j1 (at_ pl) / j2 (at_ pl) - i1 (at_ pl) / i2 (at_ pl)))
    ((ev_l_spot (φ0 := fun f => ((q.den : Int) : Rat) * (i0 f * j2 f) + (q.num : Rat) * (j0 f * i2 f - i0 f * j2 f)) (φ1 := fun f => ((q.den : Int) : Rat) * (i1 f * j2 f) + (q.num : Rat) * (j1 f * i2 f - i1 f * j2 f)) (φ2 := fun f => ((q.den : Int) : Rat) * (i2 f * j2 f)) (n := 1000) (b := 110) (e := 10)
      (ev_call3 (vi rfl s04) (vj rfl s04) (vf rfl s04) (stb_th _ 3 32 3) (stb_th _ 3 32 3) fun x1 y1 z1 H4 _ q1 q2 q3 Q qq => ⟨x1, y1, z1, i0, i1, i2, j0, j1, j2, q, rfl, q1, q2, q3, sq, qq⟩)
      (vz rfl s04) hp (by decide) (by decide)).imp fun v H4 p => by
        have nd : q * (((q.den : Nat) : Int) : Rat) = (q.num : Rat) := by rw [Rat.intCast_natCast]; exact num_den q
        rw [← m_part hi hj (den_ne0 q) nd, ← m_part hi hj (den_ne0 q) nd]
        exact (sp_pt (mul_ne (den_ne0 q) hij) _ _ p).1)
    (ev_l_between (v5 rfl s24) (v6 rfl s24) (vf rfl s04) fq))).to (by simp)) fun H5 s5 => ?_
  have s05 := s04.trans s5
  have s25 := s24.trans s5
  -- the line
  refine s_set (ev_worths (φ0 := fun f => i1 f * j2 f - i2 f * j1 f) (φ1 := fun f => i2 f * j0 f - i0 f * j2 f) (φ2 := fun f => i0 f * j1 f - i1 f * j0 f) (n := 1000) (b := 110) (e := 10) (ev_point2 (g := g_cross) (vi rfl s05) (vj rfl s05)) (stb_frs pl _ _ _ s05 hz) hp (by decide) (by decide) (fun _ => rfl) (fun _ => rfl) (fun _ => rfl)) fun v7 H6 s6 p7 => ?_
  have s26 := s25.trans s6
  have v7_ : ∀ {σ H3}, σ[7]? = some (some v7) → Same H6 H3 → Ev (tVar 7) σ H3 (LnV (i1 (at_ pl) * j2 (at_ pl) - i2 (at_ pl) * j1 (at_ pl)) (i2 (at_ pl) * j0 (at_ pl) - i0 (at_ pl) * j2 (at_ pl)) (i0 (at_ pl) * j1 (at_ pl) - i1 (at_ pl) * j0 (at_ pl))) := fun h s => ev_var h (stb_ln _ _ _) (stb_ln _ _ _ _ _ _ s p7)
  refine s_pass ((evt_or (evt_of (ev_nonzero (ev_l_weighs (v5 rfl s26) (v7_ rfl (Same.refl _))))) (fun _ => evt_of (ev_nonzero (ev_l_weighs (v6 rfl s26) (v7_ rfl (Same.refl _)))))).to (by rw [m_line1 hi, m_line2 hj]; rfl)) fun H7 s7 => ?_
  refine s_ret (P := IsB true) ((ev_eqB (ev_andV (ev_zero (ev_ln (i := 0) (v7_ rfl s7) rfl)) (fun _ => ev_zero (ev_ln (i := 1) (v7_ rfl s7) rfl))) (ev_eqS ((v5 rfl (s26.trans s7)).imp fun v H p => p.1) ((v6 rfl (s26.trans s7)).imp fun v H p => p.1))).isB ?_) fun v8 H8 s8 e8 => ?_
  · rw [decide_eq_true_eq, Bool.eq_iff_iff]
    simp only [Bool.and_eq_true, decide_eq_true_eq]
    exact m_same hi hj
  · cases e8
    exact K0 _ (s05.trans (s6.trans (s7.trans s8)))
end
end ED

/-! The foot and the meeting checks of the law. -/
namespace ED
open PySem PySem.Spec PyProof.Rows L2 ER EM

section
variable {K : PySem.W.Frag} {σ : L2.St} {H : Hp} {ta tb te : TE}
theorem walk_zipL {K : PySem.W.Frag} {a b : Addr} {us ws : List V} {n : Nat} (h1 : n = us.length) (h2 : n = ws.length) : Walk (Itz K a b) n (fun H => SqL K H a us ∧ SqL K H b ws) (YPair (fun i => us[i]?) (fun i => ws[i]?)) := by
  refine ⟨fun i _ hi q => ?_, fun _ q => ⟨us, ws, q.1, q.2, by omega⟩, fun i H v H' _ q y => ?_⟩
  · exact ⟨us, ws, us[i]'(by omega), ws[i]'(by omega), q.1, q.2, List.getElem?_eq_getElem (by omega), List.getElem?_eq_getElem (by omega)⟩
  · obtain ⟨T, x, z, g1, g2, g3, g4, g5⟩ := y
    exact ⟨T, x, z, g1, g2, g3, g4 us q.1, g5 ws q.2⟩
theorem ev_two : Ev (tTup (tCons (tC (.int 2)) (tCons (tC (.int 1)) tNil))) σ H (FrV 2) := fun H1 s1 Q q =>
  ⟨by show 2 ≤ sizeLine; decide, fun p hp => q _ _ (same_new hp) ⟨p, rfl, upd_same⟩⟩
theorem neg1 : ((-1 : Int) : Rat) = -1 := rfl
theorem two2 : ((2 : Int) : Rat) = 2 := rfl
theorem fb_two : FB 4 2 := ⟨by decide, by decide⟩
end
section
variable {P : Program} {w : World} {K : PySem.W.Frag} {mg : Str → Option Value} {base : Heap} {C : Addr}
abbrev s_l_foot_good : Stmt := top 59
theorem sc_l_foot_good : FnScope ["_law_i", "_law_l", "_law_place", "_law_one", "_law_line", "_law_terms", "_law_foot", "_law_stretch", "_law_left", "_law_right", "_law_side", "_law_square"] ["_law_i", "_law_l", "_law_place"] (defScope s_l_foot_good) := ⟨rfl, rfl, rfl, by decide +kernel, rfl, by decide +kernel, by decide +kernel⟩
def sp_l_lines : Sp := fun vs H Q _ => ∃ (x y z : V) (i0 i1 i2 l0 l1 l2 : Wo) (pl : List Rat), vs = [x, y, z] ∧ ThV [i0, i1, i2] 3 32 3 x H ∧ ThV [l0, l1, l2] 3 32 3 y H ∧ FrsV pl z H ∧ PlaceOk pl ∧ ∀ H', Same H H' → Q (.bl true) H'
theorem ok_l_foot (R : Raw K mg "_law_foot_good" s_l_foot_good) (B : Bi mg) (L : Lw P w K mg base) (d_frac_sum : Def P w K mg base "frac_sum" 3 ["one", "other"] sp_frac_sum) (d_frac_less : Def P w K mg base "frac_less" 3 ["one", "other"] sp_frac_less) (d_frac_times : Def P w K mg base "frac_times" 3 ["one", "other"] sp_frac_times)
    (d_foot_point : Def P w K mg base "foot_point" 6 ["i", "l"] (sp_point2 g_foot 81 98 9)) (d_mirrored_point : Def P w K mg base "mirrored_point" 7 ["i", "l"] (sp_point2 g_mirrored 1000 110 10))
    (d_side_line : Def P w K mg base "side_line" 6 ["i", "l"] (sp_point2 g_side 1000 110 10)) (d_square_line : Def P w K mg base "square_line" 6 ["i", "l"] (sp_point2 g_square 1000 110 10)) :
    Def P w K mg base "_law_foot_good" 8 ["_law_i", "_law_l", "_law_place"] sp_l_lines := by
  refine def_mk R sc_l_foot_good (fun vs H Q E h => ?_) (fun _ _ _ _ _ _ us hl => match us, hl with | [_, _, _], _ => rfl) (fun f cdv A outer s H vs Q E hr h => ?_)
  · obtain ⟨x, y, z, i0, i1, i2, l0, l1, l2, pl, rfl, _⟩ := h
    rfl
  obtain ⟨x, y, z, i0, i1, i2, l0, l1, l2, pl, rfl, hx, hy, hz, hp, K0⟩ := h
  obtain ⟨d_l_spot, d_l_weighs, d_l_between, d_worth_at⟩ := L
  refine ⟨_, (pss_cons (ps_set (i := 3) sc_l_foot_good.nd rfl (Or.inl rfl) (pe_def d_l_spot hr (by rfl) (pa_cons (pv 0) (pa_cons (pv 2) pa_nil))))
      (pss_cons (ps_setLc (i := 4) (own := [("_law_terms", 5)]) rfl sc_l_foot_good.nd rfl rfl (sw_true rfl rfl rfl (by decide +kernel)) (pi_tup (pv 1)) (blkOk_by (own := [("_law_terms", 5)]) (N := ["_law_i", "_law_l", "_law_place", "_law_one", "_law_line", "_law_terms", "_law_foot", "_law_stretch", "_law_left", "_law_right", "_law_side", "_law_square"]) (sc := defScope s_l_foot_good) (by decide +kernel)) (fun _ _ _ _ _ => (pg_name (i := 5) sc_l_foot_good.nd rfl (Or.inl rfl))) (fun _ _ _ _ _ => pts_nil) (fun _ _ _ _ _ => (pe_def d_worth_at hr (by rfl) (pa_cons (pv 5) (pa_cons (pv 2) pa_nil)))))
      (pss_cons (ps_if (PW.pt (pw_or (pt_cmpR op_isN (pv 3) pe_non (nomark _)) (pw_or1 (PW.pt (pw_and (pt_cmpR op_eq (pe_ix ix_tup (pe_ix ix_list (pv 4) pe_int (fun _ _ => rfl)) pe_int (fun _ _ => rfl)) pe_int (nomark _)) (pw_and1 (pt_cmpR op_eq (pe_ix ix_tup (pe_ix ix_list (pv 4) pe_int (fun _ _ => rfl)) pe_int (fun _ _ => rfl)) pe_int (nomark _)))))))) (pss_one (ps_ret pe_bl)) pss_nil)
      (pss_cons (ps_set (i := 6) sc_l_foot_good.nd rfl (Or.inl rfl) (pe_def d_l_spot hr (by rfl) (pa_cons (pe_def d_foot_point hr (by rfl) (pa_cons (pv 0) (pa_cons (pv 1) pa_nil))) (pa_cons (pv 2) pa_nil))))
      (pss_cons (ps_if (PW.pt (pw_or (pt_cmpR op_isN (pv 6) pe_non (nomark _)) (pw_or1 (pt_cmpR op_ne (pe_ix ix_tup (pe_def d_l_weighs hr (by rfl) (pa_cons (pv 6) (pa_cons (pv 4) pa_nil))) pe_int (fun _ _ => rfl)) pe_int (nomark _))))) (pss_one (ps_ret pe_bl)) pss_nil)
      (pss_cons (ps_setLc (i := 7) (own := [("_law_left", 8), ("_law_right", 9)]) rfl sc_l_foot_good.nd rfl rfl (sw_true rfl rfl rfl (by decide +kernel)) (RZ.pi_zipA (by rfl) B.zip (pa_cons (pv 3) (pa_cons (pv 6) pa_nil))) (blkOk_by (own := [("_law_left", 8), ("_law_right", 9)]) (N := ["_law_i", "_law_l", "_law_place", "_law_one", "_law_line", "_law_terms", "_law_foot", "_law_stretch", "_law_left", "_law_right", "_law_side", "_law_square"]) (sc := defScope s_l_foot_good) (by decide +kernel)) (fun _ _ _ _ _ => (pg_pair (K := K) (i := 8) (j := 9) rfl rfl sc_l_foot_good.nd rfl rfl rfl rfl)) (fun _ _ _ _ _ => pts_nil) (fun _ _ _ _ _ => (pe_def d_frac_less hr (by rfl) (pa_cons (pv 9) (pa_cons (pv 8) pa_nil)))))
      (pss_cons (ps_if (pt_cmpR (op_neD hr.units) (pe_def d_frac_times hr (by rfl) (pa_cons (pe_ix ix_list (pv 7) pe_int (fun _ _ => rfl)) (pa_cons (pe_ix ix_list (pv 4) pe_int (fun _ _ => rfl)) pa_nil))) (pe_def d_frac_times hr (by rfl) (pa_cons (pe_ix ix_list (pv 7) pe_int (fun _ _ => rfl)) (pa_cons (pe_ix ix_list (pv 4) pe_int (fun _ _ => rfl)) pa_nil))) (nomark _)) (pss_one (ps_ret pe_bl)) pss_nil)
      (pss_cons (ps_if (pt_cmpR (op_neD hr.units) (pe_def d_l_spot hr (by rfl) (pa_cons (pe_def d_mirrored_point hr (by rfl) (pa_cons (pv 0) (pa_cons (pv 1) pa_nil))) (pa_cons (pv 2) pa_nil))) (pe_def d_l_between hr (by rfl) (pa_cons (pv 3) (pa_cons (pv 6) (pa_cons (pe_tup (pa_cons pe_int (pa_cons pe_int pa_nil))) pa_nil)))) (nomark _)) (pss_one (ps_ret pe_bl)) pss_nil)
      (pss_cons (ps_setLc (i := 10) (own := [("_law_terms", 5)]) rfl sc_l_foot_good.nd rfl rfl (sw_true rfl rfl rfl (by decide +kernel)) (pi_tup (pe_def d_side_line hr (by rfl) (pa_cons (pv 0) (pa_cons (pv 1) pa_nil)))) (blkOk_by (own := [("_law_terms", 5)]) (N := ["_law_i", "_law_l", "_law_place", "_law_one", "_law_line", "_law_terms", "_law_foot", "_law_stretch", "_law_left", "_law_right", "_law_side", "_law_square"]) (sc := defScope s_l_foot_good) (by decide +kernel)) (fun _ _ _ _ _ => (pg_name (i := 5) sc_l_foot_good.nd rfl (Or.inl rfl))) (fun _ _ _ _ _ => pts_nil) (fun _ _ _ _ _ => (pe_def d_worth_at hr (by rfl) (pa_cons (pv 5) (pa_cons (pv 2) pa_nil)))))
      (pss_cons (ps_setLc (i := 11) (own := [("_law_terms", 5)]) rfl sc_l_foot_good.nd rfl rfl (sw_true rfl rfl rfl (by decide +kernel)) (pi_tup (pe_def d_square_line hr (by rfl) (pa_cons (pv 0) (pa_cons (pv 1) pa_nil)))) (blkOk_by (own := [("_law_terms", 5)]) (N := ["_law_i", "_law_l", "_law_place", "_law_one", "_law_line", "_law_terms", "_law_foot", "_law_stretch", "_law_left", "_law_right", "_law_side", "_law_square"]) (sc := defScope s_l_foot_good) (by decide +kernel)) (fun _ _ _ _ _ => (pg_name (i := 5) sc_l_foot_good.nd rfl (Or.inl rfl))) (fun _ _ _ _ _ => pts_nil) (fun _ _ _ _ _ => (pe_def d_worth_at hr (by rfl) (pa_cons (pv 5) (pa_cons (pv 2) pa_nil)))))
      (pss_cons (ps_if (PW.pt (pw_or (pt_cmpR op_ne (pe_ix ix_tup (pe_def d_l_weighs hr (by rfl) (pa_cons (pv 3) (pa_cons (pv 10) pa_nil))) pe_int (fun _ _ => rfl)) pe_int (nomark _)) (pw_or1 (pt_cmpR op_ne (pe_ix ix_tup (pe_def d_l_weighs hr (by rfl) (pa_cons (pv 3) (pa_cons (pv 11) pa_nil))) pe_int (fun _ _ => rfl)) pe_int (nomark _))))) (pss_one (ps_ret pe_bl)) pss_nil)
      (pss_cons (ps_if (pt_cmpR (op_neD hr.units) (pe_def d_frac_times hr (by rfl) (pa_cons (pe_ix ix_list (pv 10) pe_int (fun _ _ => rfl)) (pa_cons (pe_ix ix_list (pv 4) pe_int (fun _ _ => rfl)) pa_nil))) (pe_def d_frac_times hr (by rfl) (pa_cons (pe_ix ix_list (pv 10) pe_int (fun _ _ => rfl)) (pa_cons (pe_ix ix_list (pv 4) pe_int (fun _ _ => rfl)) pa_nil))) (nomark _)) (pss_one (ps_ret pe_bl)) pss_nil)
      (pss_one (ps_ret (pe_cmpR (op_eqD hr.units) (pe_def d_frac_sum hr (by rfl) (pa_cons (pe_def d_frac_times hr (by rfl) (pa_cons (pe_ix ix_list (pv 11) pe_int (fun _ _ => rfl)) (pa_cons (pe_ix ix_list (pv 4) pe_int (fun _ _ => rfl)) pa_nil))) (pa_cons (pe_def d_frac_times hr (by rfl) (pa_cons (pe_ix ix_list (pv 11) pe_int (fun _ _ => rfl)) (pa_cons (pe_ix ix_list (pv 4) pe_int (fun _ _ => rfl)) pa_nil))) pa_nil))) (pe_tup (pa_cons pe_int (pa_cons pe_int pa_nil))) (nomark _)))))))))))))))), ?_⟩
  have vi : ∀ {σ H1}, σ[0]? = some (some x) → Same H H1 → Ev (tVar 0) σ H1 (ThV [i0, i1, i2] 3 32 3) := fun h s => ev_var h (stb_th _ 3 32 3) (stb_th _ 3 32 3 _ _ _ s hx)
  have vl : ∀ {σ H1}, σ[1]? = some (some y) → Same H H1 → Ev (tVar 1) σ H1 (ThV [l0, l1, l2] 3 32 3) := fun h s => ev_var h (stb_th _ 3 32 3) (stb_th _ 3 32 3 _ _ _ s hy)
  have vz : ∀ {σ H1}, σ[2]? = some (some z) → Same H H1 → Ev (tVar 2) σ H1 (FrsV pl) := fun h s => ev_var h (stb_frs pl) (stb_frs pl _ _ _ s hz)
  refine s_set (ev_l_spot (vi rfl (Same.refl _)) (vz rfl (Same.refl _)) hp (by decide) (by decide)) fun v1 H1 s1 p1 => ?_
  refine s_set (ev_worths (vl rfl s1) (stb_frs pl _ _ _ s1 hz) hp (by decide) (by decide) (fun _ => rfl) (fun _ => rfl) (fun _ => rfl)) fun v2 H2 s2 p2 => ?_
  have s02 := s1.trans s2
  have p1 := stb_sp _ _ _ _ _ _ s2 p1
  have v4 : ∀ {σ H3}, σ[4]? = some (some v2) → Same H2 H3 → Ev (tVar 4) σ H3 (LnV (l0 (at_ pl)) (l1 (at_ pl)) (l2 (at_ pl))) := fun h s => ev_var h (stb_ln _ _ _) (stb_ln _ _ _ _ _ _ s p2)
  by_cases hi : i2 (at_ pl) = 0
  · refine s_take ((evt_or (b := false) (evt_of (ev_isNo (ev_var (i := 3) rfl stb_non (sp_no hi _ _ p1)))) (fun h => nomatch h)).to rfl) fun H3 s3 => ?_
    exact K0 _ (s02.trans s3)
  have p1 := sp_pt hi _ _ p1
  have v3 : ∀ {σ H3}, σ[3]? = some (some v1) → Same H2 H3 → Ev (tVar 3) σ H3 (PtV (i0 (at_ pl) / i2 (at_ pl)) (i1 (at_ pl) / i2 (at_ pl))) := fun h s => ev_var h (stb_pt _ _) (stb_pt _ _ _ _ _ s p1)
  by_cases hl : l0 (at_ pl) = 0 ∧ l1 (at_ pl) = 0
  · refine s_take ((evt_or (evt_of (ev_isPt (v3 rfl (Same.refl _)))) (fun _ => evt_and (evt_of (ev_zero (ev_ln (i := 0) (v4 rfl (Same.refl _)) rfl))) (fun _ => evt_of (ev_zero (ev_ln (i := 1) (v4 rfl (Same.refl _)) rfl))))).to (by simp [hl.1, hl.2])) fun H3 s3 => ?_
    exact K0 _ (s02.trans s3)
  have hS : l0 (at_ pl) * l0 (at_ pl) + l1 (at_ pl) * l1 (at_ pl) ≠ 0 := fun e => hl (sq0 e)
  have hW := mul_ne hS hi
  refine s_pass ((evt_or (evt_of (ev_isPt (v3 rfl (Same.refl _)))) (fun _ => evt_and (evt_of (ev_zero (ev_ln (i := 0) (v4 rfl (Same.refl _)) rfl))) (fun _ => evt_of (ev_zero (ev_ln (i := 1) (v4 rfl (Same.refl _)) rfl))))).to (by
    by_cases e0 : l0 (at_ pl) = 0
    · have e1 : ¬ l1 (at_ pl) = 0 := fun e1 => hl ⟨e0, e1⟩
      simp [e0, e1]
    · simp [e0])) fun H3 s3 => ?_
  have s03 := s02.trans s3
  -- the foot
  refine s_set ((ev_l_spot (φ0 := fun f => l1 f * (l1 f * i0 f - l0 f * i1 f) - l0 f * (l2 f * i2 f)) (φ1 := fun f => ((-1 : Int) : Rat) * (l0 f * (l1 f * i0 f - l0 f * i1 f) + l1 f * (l2 f * i2 f))) (φ2 := fun f => (l0 f * l0 f + l1 f * l1 f) * i2 f) (n := 81) (b := 98) (e := 9)
    (ev_point2 (g := g_foot) (vi rfl s03) (vl rfl s03)) (vz rfl s03) hp (by decide) (by decide)).imp (sp_pt hW)) fun v6 H4 s4 p6 => ?_
  have s04 := s03.trans s4
  have s24 := s3.trans s4
  rw [neg1] at p6
  obtain ⟨fx, hfx⟩ : ∃ t, t = (l1 (at_ pl) * (l1 (at_ pl) * i0 (at_ pl) - l0 (at_ pl) * i1 (at_ pl)) - l0 (at_ pl) * (l2 (at_ pl) * i2 (at_ pl))) / ((l0 (at_ pl) * l0 (at_ pl) + l1 (at_ pl) * l1 (at_ pl)) * i2 (at_ pl)) := ⟨_, rfl⟩
  obtain ⟨fy, hfy⟩ : ∃ t, t = (-1 * (l0 (at_ pl) * (l1 (at_ pl) * i0 (at_ pl) - l0 (at_ pl) * i1 (at_ pl)) + l1 (at_ pl) * (l2 (at_ pl) * i2 (at_ pl)))) / ((l0 (at_ pl) * l0 (at_ pl) + l1 (at_ pl) * l1 (at_ pl)) * i2 (at_ pl)) := ⟨_, rfl⟩
  rw [← hfx, ← hfy] at p6
  have v6_ : ∀ {σ H3}, σ[6]? = some (some v6) → Same H4 H3 → Ev (tVar 6) σ H3 (PtV fx fy) := fun h s => ev_var h (stb_pt _ _) (stb_pt _ _ _ _ _ s p6)
  refine s_pass ((evt_or (evt_of (ev_isPt (v6_ rfl (Same.refl _)))) (fun _ => evt_of (ev_nonzero (ev_l_weighs (v6_ rfl (Same.refl _)) (v4 rfl s24))))).to (by rw [hfx, hfy, m_foot hi hS]; rfl)) fun H5 s5 => ?_
  have s45 := s5
  have s25 := s24.trans s5
  have s05 := s04.trans s5
  -- the stretch
  have st : ∀ {σ : L2.St} (hw : ∀ u v : V, wipe (((wipe σ [8, 9]).set 8 (some u)).set 9 (some v)) [8, 9] = wipe σ [8, 9]) (h3 : σ[3]? = some (some v1)) (h6 : σ[6]? = some (some v6)) (h8 : ∀ u v : V, (((wipe σ [8, 9]).set 8 (some u)).set 9 (some v))[8]? = some (some u)) (h9 : ∀ u v : V, (((wipe σ [8, 9]).set 8 (some u)).set 9 (some v))[9]? = some (some v)),
      Ev (tLc (RZ.iZipA K (tCons (tVar 3) (tCons (tVar 6) tNil))) (gTup K 2 (gCons (gName 8) (gCons (gName 9) gNil))) tYes (tCall sp_frac_less [] E0 (tCons (tVar 9) (tCons (tVar 8) tNil))) [8, 9]) σ H5 (FrsV [fx - i0 (at_ pl) / i2 (at_ pl), fy - i1 (at_ pl) / i2 (at_ pl)]) := by
    intro σ hw h3 h6 h8 h9 H6 s6 Q qq
    obtain ⟨⟨a, xs, rfl, ha, hxs⟩, gx, gy⟩ := stb_pt _ _ _ _ _ (s25.trans s6) p1
    obtain ⟨⟨b, ys, rfl, hb, hys⟩, kx, ky⟩ := stb_pt _ _ _ _ _ (s45.trans s6) p6
    have lx : 2 = xs.length := Paired.length hxs
    have ly : 2 = ys.length := Paired.length hys
    refine ⟨_, h3, _, h6, a, b, xs, ys, rfl, .inl ⟨SqL.of ha, SqL.of hb, fun D hD => ?_⟩⟩
    have sD := same_new (o := .lst []) hD
    refine lc_it (walk_zipL lx ly) (fun i H' => ∃ zs, H' D = some (.lst zs) ∧ Ech (([fx - i0 (at_ pl) / i2 (at_ pl), fy - i1 (at_ pl) / i2 (at_ pl)].take i).map FrV) zs H' ∧ Same H6 H') ⟨[], upd_same, .nil, sD⟩ (fun i H' _ ⟨_, _, _, s'⟩ => ⟨SqL.of (s' _ _ ha), SqL.of (s' _ _ hb)⟩) ?_ ?_
    · rintro i v H7 H8 hi2 ⟨zs, h7, hzs, s7⟩ ⟨T, x', y', rfl, hT, rfl, ex, ey⟩
      have zl : i = zs.length := by
        have h := Paired.length hzs
        rw [List.length_map, List.length_take] at h
        have : [fx - i0 (at_ pl) / i2 (at_ pl), fy - i1 (at_ pl) / i2 (at_ pl)].length = 2 := rfl
        omega
      have sT := same_new (o := .tup [x', y']) hT
      have ex : xs[i]? = some x' := ex
      have ey : ys[i]? = some y' := ey
      obtain ⟨p, r, hp', hr', fp, fr_, ho⟩ : ∃ p r, FrV p x' H6 ∧ FrV r y' H6 ∧ FB 1600 p ∧ FB 1600 r ∧ [fx - i0 (at_ pl) / i2 (at_ pl), fy - i1 (at_ pl) / i2 (at_ pl)].take (i + 1) = [fx - i0 (at_ pl) / i2 (at_ pl), fy - i1 (at_ pl) / i2 (at_ pl)].take i ++ [r - p] := by
        have : i = 0 ∨ i = 1 := by omega
        rcases this with rfl | rfl
        · obtain ⟨u1, e1, q1⟩ := ech_get hxs (i := 0) rfl
          obtain ⟨u2, e2, q2⟩ := ech_get hys (i := 0) rfl
          rw [ex] at e1; rw [ey] at e2
          cases e1; cases e2
          exact ⟨_, _, q1, q2, gx, kx, rfl⟩
        · obtain ⟨u1, e1, q1⟩ := ech_get hxs (i := 1) rfl
          obtain ⟨u2, e2, q2⟩ := ech_get hys (i := 1) rfl
          rw [ex] at e1; rw [ey] at e2
          cases e1; cases e2
          exact ⟨_, _, q1, q2, gy, ky, rfl⟩
      have sH := s7.trans sT
      refine g_pair upd_same ⟨hw _ _, t_yes ?_⟩
      refine ev_frac_op (g := fun q r => q - r) (ok := fun _ _ => True) rfl (ev_var (i := 9) (v := y') (h9 _ _) (stb_fr _) (stb_fr _ _ _ _ sH hr')) (ev_var (i := 8) (v := x') (h8 _ _) (stb_fr _) (stb_fr _ _ _ _ sH hp')) fr_ fp (by decide) (by decide) (by decide) trivial _ (Same.refl _) _ fun u H9 s9 p9 => ?_
      have hF9 := s9 _ _ (sT _ _ h7)
      refine ⟨zs, hF9, small1000 (by omega), zs ++ [u], upd_same, ?_, fun c o hc => ?_⟩
      · rw [ho, List.map_append]
        have keep : ∀ {Ps : List Rat} {ws : List V}, Ech (Ps.map FrV) ws H9 → Ech (Ps.map FrV) ws (upd H9 D (.lst (zs ++ [u]))) := by
          intro Ps
          induction Ps with
          | nil => intro ws h; cases h; exact .nil
          | cons p0 Ps ih => intro ws h; cases h with | cons h t => exact .cons (frv_but h ⟨_, hF9⟩) (ih t)
        have old := keep (ech_same (fun P hp => by obtain ⟨q, _, rfl⟩ := List.mem_map.mp hp; exact stb_fr q) (sT.trans s9) hzs)
        have one : Ech ([r - p].map FrV) [u] (upd H9 D (.lst (zs ++ [u]))) := .cons (frv_but p9 ⟨_, hF9⟩) .nil
        have app : ∀ {l₁ l₂ : List Pd} {m₁ m₂ : List V} {H : Hp}, Ech l₁ m₁ H → Ech l₂ m₂ H → Ech (l₁ ++ l₂) (m₁ ++ m₂) H := by
          intro l₁ l₂ m₁ m₂ H h1 h2
          induction h1 with
          | nil => exact h2
          | cons h _ ih => exact .cons h ih
        exact app old one
      · have nb : c ≠ D := fun e => by rw [e, hD] at hc; cases hc
        rw [upd_ne nb]
        exact (sH.trans s9) _ _ hc
    · rintro H7 ⟨zs, h7, hzs, s7⟩
      exact qq _ _ s7 ⟨D, zs, rfl, h7, hzs⟩
  refine s_set (st (fun _ _ => rfl) rfl rfl (fun _ _ => rfl) (fun _ _ => rfl)) fun v7 H6 s6 p7 => ?_
  have s06 := s05.trans s6
  have s26 := s25.trans s6
  have s46 := s45.trans s6
  have v7_ : ∀ {σ H3}, σ[7]? = some (some v7) → Same H6 H3 → Ev (tVar 7) σ H3 (FrsV [fx - i0 (at_ pl) / i2 (at_ pl), fy - i1 (at_ pl) / i2 (at_ pl)]) := fun h s => ev_var h (stb_frs _) (stb_frs _ _ _ _ s p7)
  obtain ⟨_, gx, gy⟩ := id p1
  obtain ⟨_, kx, ky⟩ := id p6
  obtain ⟨_, fl0, fl1, fl2⟩ := id p2
  refine s_pass ((evt_of (ev_neF (ev_frac_op (g := fun q r => q * r) rfl (ev_ixF (i := 0) (v7_ rfl (Same.refl _)) (ev_int _) rfl) (ev_ln (i := 1) (v4 rfl s26) rfl) (kx.sub gx) fl1 (by decide) (by decide) (by decide) trivial)
    (ev_frac_op (g := fun q r => q * r) rfl (ev_ixF (i := 1) (v7_ rfl (Same.refl _)) (ev_int _) rfl) (ev_ln (i := 0) (v4 rfl s26) rfl) (ky.sub gy) fl0 (by decide) (by decide) (by decide) trivial))).to (by rw [hfx, hfy, m_stretch hi hS, decide_eq_true rfl]; rfl)) fun H7 s7 => ?_
  have s07 := s06.trans s7
  have s27 := s26.trans s7
  have s47 := s46.trans s7
  -- mirrored
  refine s_pass ((evt_of (ev_neS (a := i0 (at_ pl) / i2 (at_ pl) + 2 * (fx - i0 (at_ pl) / i2 (at_ pl))) (b := i1 (at_ pl) / i2 (at_ pl) + 2 * (fy - i1 (at_ pl) / i2 (at_ pl)))
    ((ev_l_spot (φ0 := fun f => ((2 : Int) : Rat) * (l1 f * (l1 f * i0 f - l0 f * i1 f) - l0 f * (l2 f * i2 f)) - (l0 f * l0 f + l1 f * l1 f) * i0 f) (φ1 := fun f => ((2 : Int) : Rat) * (((-1 : Int) : Rat) * (l0 f * (l1 f * i0 f - l0 f * i1 f) + l1 f * (l2 f * i2 f))) - (l0 f * l0 f + l1 f * l1 f) * i1 f) (φ2 := fun f => (l0 f * l0 f + l1 f * l1 f) * i2 f) (n := 1000) (b := 110) (e := 10)
      (ev_point2 (g := g_mirrored) (vi rfl s07) (vl rfl s07)) (vz rfl s07) hp (by decide) (by decide)).imp fun v H4 p => by
        rw [hfx, hfy, ← m_mirror hi hS, ← m_mirror hi hS]; exact (sp_pt hW _ _ p).1)
    (ev_l_between (v3 rfl s27) (v6_ rfl s47) ev_two fb_two))).to (by simp)) fun H8 s8 => ?_
  have s08 := s07.trans s8
  have s28 := s27.trans s8
  -- side, square
  refine s_set (ev_worths (φ0 := fun f => l0 f * i2 f) (φ1 := fun f => l1 f * i2 f) (φ2 := fun f => ((-1 : Int) : Rat) * (l0 f * i0 f + l1 f * i1 f)) (n := 1000) (b := 110) (e := 10) (ev_point2 (g := g_side) (vi rfl s08) (vl rfl s08)) (stb_frs pl _ _ _ s08 hz) hp (by decide) (by decide) (fun _ => rfl) (fun _ => rfl) (fun _ => rfl)) fun v10 H9 s9 p10 => ?_
  have s09 := s08.trans s9
  have s29 := s28.trans s9
  refine s_set (ev_worths (φ0 := fun f => ((-1 : Int) : Rat) * (l1 f * i2 f)) (φ1 := fun f => l0 f * i2 f) (φ2 := fun f => l1 f * i0 f - l0 f * i1 f) (n := 1000) (b := 110) (e := 10) (ev_point2 (g := g_square) (vi rfl s09) (vl rfl s09)) (stb_frs pl _ _ _ s09 hz) hp (by decide) (by decide) (fun _ => rfl) (fun _ => rfl) (fun _ => rfl)) fun v11 HA sA p11 => ?_
  have s0A := s09.trans sA
  have s2A := s29.trans sA
  rw [neg1] at p10 p11
  have v10_ : ∀ {σ H3}, σ[10]? = some (some v10) → Same HA H3 → Ev (tVar 10) σ H3 (LnV (l0 (at_ pl) * i2 (at_ pl)) (l1 (at_ pl) * i2 (at_ pl)) (-1 * (l0 (at_ pl) * i0 (at_ pl) + l1 (at_ pl) * i1 (at_ pl)))) := fun h s => ev_var h (stb_ln _ _ _) (stb_ln _ _ _ _ _ _ (sA.trans s) p10)
  have v11_ : ∀ {σ H3}, σ[11]? = some (some v11) → Same HA H3 → Ev (tVar 11) σ H3 (LnV (-1 * (l1 (at_ pl) * i2 (at_ pl))) (l0 (at_ pl) * i2 (at_ pl)) (l1 (at_ pl) * i0 (at_ pl) - l0 (at_ pl) * i1 (at_ pl))) := fun h s => ev_var h (stb_ln _ _ _) (stb_ln _ _ _ _ _ _ s p11)
  refine s_pass ((evt_or (evt_of (ev_nonzero (ev_l_weighs (v3 rfl s2A) (v10_ rfl (Same.refl _))))) (fun _ => evt_of (ev_nonzero (ev_l_weighs (v3 rfl s2A) (v11_ rfl (Same.refl _)))))).to (by rw [m_side hi, m_square hi]; rfl)) fun HB sB => ?_
  have s2B := s2A.trans sB
  obtain ⟨_, fs0, fs1, _⟩ := id p10
  obtain ⟨_, fq0, fq1, _⟩ := id p11
  refine s_pass ((evt_of (ev_neF (ev_frac_op (g := fun q r => q * r) rfl (ev_ln (i := 0) (v10_ rfl sB) rfl) (ev_ln (i := 1) (v4 rfl s2B) rfl) fs0 fl1 (by decide) (by decide) (by decide) trivial)
    (ev_frac_op (g := fun q r => q * r) rfl (ev_ln (i := 1) (v10_ rfl sB) rfl) (ev_ln (i := 0) (v4 rfl s2B) rfl) fs1 fl0 (by decide) (by decide) (by decide) trivial))).to (by rw [decide_eq_true (by grind)]; rfl)) fun HC sC => ?_
  have s2C := s2B.trans sC
  refine s_ret (P := IsB true) ((ev_eqF (ev_frac_op (g := fun q r => q + r) rfl (ev_frac_op (g := fun q r => q * r) rfl (ev_ln (i := 0) (v11_ rfl (sB.trans sC)) rfl) (ev_ln (i := 0) (v4 rfl s2C) rfl) fq0 fl0 (by decide) (by decide) (by decide) trivial)
    (ev_frac_op (g := fun q r => q * r) rfl (ev_ln (i := 1) (v11_ rfl (sB.trans sC)) rfl) (ev_ln (i := 1) (v4 rfl s2C) rfl) fq1 fl1 (by decide) (by decide) (by decide) trivial) (fq0.mul fl0) (fq1.mul fl1) (by decide) (by decide) (by decide) trivial) ev_frac0).isB (decide_eq_true (by grind))) fun v12 HD sD e12 => ?_
  cases e12
  exact K0 _ (s0A.trans (sB.trans (sC.trans sD)))
abbrev s_l_meet_good : Stmt := top 60
theorem sc_l_meet_good : FnScope ["_law_l", "_law_m", "_law_place", "_law_one", "_law_terms", "_law_other", "_law_spot_here", "_law_apart"] ["_law_l", "_law_m", "_law_place"] (defScope s_l_meet_good) := ⟨rfl, rfl, rfl, by decide +kernel, rfl, by decide +kernel, by decide +kernel⟩
theorem ok_l_meet (R : Raw K mg "_law_meet_good" s_l_meet_good) (L : Lw P w K mg base) (d_frac_times : Def P w K mg base "frac_times" 3 ["one", "other"] sp_frac_times) (d_meet_point : Def P w K mg base "meet_point" 7 ["l", "m"] (sp_point2 g_cross 1000 110 10)) :
    Def P w K mg base "_law_meet_good" 8 ["_law_l", "_law_m", "_law_place"] sp_l_lines := by
  refine def_mk R sc_l_meet_good (fun vs H Q E h => ?_) (fun _ _ _ _ _ _ us hl => match us, hl with | [_, _, _], _ => rfl) (fun f cdv A outer s H vs Q E hr h => ?_)
  · obtain ⟨x, y, z, i0, i1, i2, l0, l1, l2, pl, rfl, _⟩ := h
    rfl
  obtain ⟨x, y, z, l0, l1, l2, m0, m1, m2, pl, rfl, hx, hy, hz, hp, K0⟩ := h
  obtain ⟨d_l_spot, d_l_weighs, d_l_between, d_worth_at⟩ := L
  refine ⟨_, (pss_cons (ps_setLc (i := 3) (own := [("_law_terms", 4)]) rfl sc_l_meet_good.nd rfl rfl (sw_true rfl rfl rfl (by decide +kernel)) (pi_tup (pv 0)) (blkOk_by (own := [("_law_terms", 4)]) (N := ["_law_l", "_law_m", "_law_place", "_law_one", "_law_terms", "_law_other", "_law_spot_here", "_law_apart"]) (sc := defScope s_l_meet_good) (by decide +kernel)) (fun _ _ _ _ _ => (pg_name (i := 4) sc_l_meet_good.nd rfl (Or.inl rfl))) (fun _ _ _ _ _ => pts_nil) (fun _ _ _ _ _ => (pe_def d_worth_at hr (by rfl) (pa_cons (pv 4) (pa_cons (pv 2) pa_nil)))))
      (pss_cons (ps_setLc (i := 5) (own := [("_law_terms", 4)]) rfl sc_l_meet_good.nd rfl rfl (sw_true rfl rfl rfl (by decide +kernel)) (pi_tup (pv 1)) (blkOk_by (own := [("_law_terms", 4)]) (N := ["_law_l", "_law_m", "_law_place", "_law_one", "_law_terms", "_law_other", "_law_spot_here", "_law_apart"]) (sc := defScope s_l_meet_good) (by decide +kernel)) (fun _ _ _ _ _ => (pg_name (i := 4) sc_l_meet_good.nd rfl (Or.inl rfl))) (fun _ _ _ _ _ => pts_nil) (fun _ _ _ _ _ => (pe_def d_worth_at hr (by rfl) (pa_cons (pv 4) (pa_cons (pv 2) pa_nil)))))
      (pss_cons (ps_set (i := 6) sc_l_meet_good.nd rfl (Or.inl rfl) (pe_def d_l_spot hr (by rfl) (pa_cons (pe_def d_meet_point hr (by rfl) (pa_cons (pv 0) (pa_cons (pv 1) pa_nil))) (pa_cons (pv 2) pa_nil))))
      (pss_cons (ps_set (i := 7) sc_l_meet_good.nd rfl (Or.inl rfl) (pe_cmpR (op_neD hr.units) (pe_def d_frac_times hr (by rfl) (pa_cons (pe_ix ix_list (pv 3) pe_int (fun _ _ => rfl)) (pa_cons (pe_ix ix_list (pv 5) pe_int (fun _ _ => rfl)) pa_nil))) (pe_def d_frac_times hr (by rfl) (pa_cons (pe_ix ix_list (pv 3) pe_int (fun _ _ => rfl)) (pa_cons (pe_ix ix_list (pv 5) pe_int (fun _ _ => rfl)) pa_nil))) (nomark _)))
      (pss_cons (ps_if (pt_cmpR op_ne (pv 7) (pe_cmpR op_notN (pv 6) pe_non (nomark _)) (nomark _)) (pss_one (ps_ret pe_bl)) pss_nil)
      (pss_one (ps_ret (pe_or (pe_cmpR op_isN (pv 6) pe_non (nomark _)) (pe_one (pe_and (pe_cmpR op_eq (pe_ix ix_tup (pe_def d_l_weighs hr (by rfl) (pa_cons (pv 6) (pa_cons (pv 3) pa_nil))) pe_int (fun _ _ => rfl)) pe_int (nomark _)) (pe_one (pe_cmpR op_eq (pe_ix ix_tup (pe_def d_l_weighs hr (by rfl) (pa_cons (pv 6) (pa_cons (pv 5) pa_nil))) pe_int (fun _ _ => rfl)) pe_int (nomark _))))))))))))), ?_⟩
  have vl : ∀ {σ H1}, σ[0]? = some (some x) → Same H H1 → Ev (tVar 0) σ H1 (ThV [l0, l1, l2] 3 32 3) := fun h s => ev_var h (stb_th _ 3 32 3) (stb_th _ 3 32 3 _ _ _ s hx)
  have vm : ∀ {σ H1}, σ[1]? = some (some y) → Same H H1 → Ev (tVar 1) σ H1 (ThV [m0, m1, m2] 3 32 3) := fun h s => ev_var h (stb_th _ 3 32 3) (stb_th _ 3 32 3 _ _ _ s hy)
  have vz : ∀ {σ H1}, σ[2]? = some (some z) → Same H H1 → Ev (tVar 2) σ H1 (FrsV pl) := fun h s => ev_var h (stb_frs pl) (stb_frs pl _ _ _ s hz)
  refine s_set (ev_worths (vl rfl (Same.refl _)) hz hp (by decide) (by decide) (fun _ => rfl) (fun _ => rfl) (fun _ => rfl)) fun v3 H1 s1 p3 => ?_
  refine s_set (ev_worths (vm rfl s1) (stb_frs pl _ _ _ s1 hz) hp (by decide) (by decide) (fun _ => rfl) (fun _ => rfl) (fun _ => rfl)) fun v5 H2 s2 p5 => ?_
  have s02 := s1.trans s2
  have p3 := stb_ln _ _ _ _ _ _ s2 p3
  have v3_ : ∀ {σ H3}, σ[3]? = some (some v3) → Same H2 H3 → Ev (tVar 3) σ H3 (LnV (l0 (at_ pl)) (l1 (at_ pl)) (l2 (at_ pl))) := fun h s => ev_var h (stb_ln _ _ _) (stb_ln _ _ _ _ _ _ s p3)
  have v5_ : ∀ {σ H3}, σ[5]? = some (some v5) → Same H2 H3 → Ev (tVar 5) σ H3 (LnV (m0 (at_ pl)) (m1 (at_ pl)) (m2 (at_ pl))) := fun h s => ev_var h (stb_ln _ _ _) (stb_ln _ _ _ _ _ _ s p5)
  obtain ⟨_, fl0, fl1, fl2⟩ := id p3
  obtain ⟨_, fm0, fm1, fm2⟩ := id p5
  refine s_set (ev_l_spot (φ0 := fun f => l1 f * m2 f - l2 f * m1 f) (φ1 := fun f => l2 f * m0 f - l0 f * m2 f) (φ2 := fun f => l0 f * m1 f - l1 f * m0 f) (n := 1000) (b := 110) (e := 10) (ev_point2 (g := g_cross) (vl rfl s02) (vm rfl s02)) (vz rfl s02) hp (by decide) (by decide)) fun v6 H3 s3 p6 => ?_
  refine s_set (ev_neF (ev_frac_op (g := fun q r => q * r) rfl (ev_ln (i := 0) (v3_ rfl s3) rfl) (ev_ln (i := 1) (v5_ rfl s3) rfl) fl0 fm1 (by decide) (by decide) (by decide) trivial)
    (ev_frac_op (g := fun q r => q * r) rfl (ev_ln (i := 1) (v3_ rfl s3) rfl) (ev_ln (i := 0) (v5_ rfl s3) rfl) fl1 fm0 (by decide) (by decide) (by decide) trivial)) fun v7 H4 s4 e7 => ?_
  have s04 := s02.trans (s3.trans s4)
  have s24 := s3.trans s4
  have p6 := stb_sp _ _ _ _ _ _ s4 p6
  cases e7
  by_cases h0 : l0 (at_ pl) * m1 (at_ pl) - l1 (at_ pl) * m0 (at_ pl) = 0
  · have p6 := sp_no h0 _ _ p6
    have eq : l0 (at_ pl) * m1 (at_ pl) = l1 (at_ pl) * m0 (at_ pl) := by grind
    refine s_pass ((evt_of (ev_neB (ev_var rfl (stb_b _) rfl) (ev_isntNo (ev_var (i := 6) rfl stb_non p6)))).to (by rw [decide_eq_true eq]; rfl)) fun H5 s5 => ?_
    refine s_ret (P := IsB true) ((ev_orV (t := false) (ev_isNo (ev_var (i := 6) rfl stb_non (stb_non _ _ _ s5 p6))) (fun h => nomatch h)).isB rfl) fun v8 H6 s6 e8 => ?_
    cases e8
    exact K0 _ (s04.trans (s5.trans s6))
  · have p6 := sp_pt h0 _ _ p6
    have ne : ¬ l0 (at_ pl) * m1 (at_ pl) = l1 (at_ pl) * m0 (at_ pl) := fun e => h0 (by grind)
    have v6_ : ∀ {σ H3}, σ[6]? = some (some v6) → Same H4 H3 → Ev (tVar 6) σ H3 (PtV ((l1 (at_ pl) * m2 (at_ pl) - l2 (at_ pl) * m1 (at_ pl)) / (l0 (at_ pl) * m1 (at_ pl) - l1 (at_ pl) * m0 (at_ pl))) ((l2 (at_ pl) * m0 (at_ pl) - l0 (at_ pl) * m2 (at_ pl)) / (l0 (at_ pl) * m1 (at_ pl) - l1 (at_ pl) * m0 (at_ pl)))) := fun h s => ev_var h (stb_pt _ _) (stb_pt _ _ _ _ _ s p6)
    refine s_pass ((evt_of (ev_neB (ev_var rfl (stb_b _) rfl) (ev_isntPt (v6_ rfl (Same.refl _))))).to (by rw [decide_eq_false ne]; rfl)) fun H5 s5 => ?_
    have s25 := s24.trans s5
    refine s_ret (P := IsB true) ((ev_orV (ev_isPt (v6_ rfl s5)) (fun _ => ev_andV (ev_zero (ev_l_weighs (v6_ rfl s5) (v3_ rfl s25))) (fun _ => ev_zero (ev_l_weighs (v6_ rfl s5) (v5_ rfl s25))))).isB (by rw [m_meet1 h0, m_meet2 h0]; rfl)) fun v8 H6 s6 e8 => ?_
    cases e8
    exact K0 _ (s04.trans (s5.trans s6))
end
end ED

/-! The law. -/
namespace ED
open PySem PySem.Spec PyProof.Rows L2 ER EM

/-- a list of ints of at most so many -/
def NsV (n : Nat) : Pd := fun v H => ∃ p, ∃ ms : List Int, v = .ref p ∧ H p = some (.lst (ms.map V.int)) ∧ 0 < ms.length ∧ ms.length ≤ n
theorem stb_ns (n : Nat) : Stb (NsV n) := fun _ _ _ s ⟨p, ms, e, h, r⟩ => ⟨p, ms, e, s _ _ h, r⟩
/-- any int -/
def AnyI : Pd := fun v _ => ∃ i : Int, v = .int i
theorem stb_any : Stb AnyI := fun _ _ _ _ h => h
/-- a polynomial apart from the list at F -/
def BqV (F : Addr) : Pd := fun v H => ∃ φ, PyD F φ 3 32 3 v H
theorem stb_bq (F : Addr) : Stb (BqV F) := fun _ _ _ s ⟨φ, h⟩ => ⟨φ, stb_pyD F φ 3 32 3 _ _ _ s h⟩
abbrev Bq3 (F : Addr) : Pd := TuV [BqV F, BqV F, BqV F]
theorem stb_bq3 (F : Addr) : Stb (Bq3 F) := stb_tu fun P hp => by
  simp only [List.mem_cons, List.not_mem_nil, or_false, or_self] at hp
  rw [hp]
  exact stb_bq F
theorem bq3_but {F : Addr} {v : V} {H : Hp} {xs : List V} (h : Bq3 F v H) (hF : HasL H F) : Bq3 F v (upd H F (.lst xs)) := by
  obtain ⟨a, ys, e, h, t⟩ := h
  have na : a ≠ F := fun z => by
    obtain ⟨acc, hacc⟩ := hF
    rw [z, hacc] at h
    cases h
  refine ⟨a, ys, e, by rw [upd_ne na]; exact h, ?_⟩
  have one : ∀ {y : V}, BqV F y H → BqV F y (upd H F (.lst xs)) := fun ⟨φ, p⟩ => ⟨φ, pyD_but p hF⟩
  cases t with
  | cons h0 t => cases t with
    | cons h1 t => cases t with
      | cons h2 t =>
        cases t
        exact .cons (one h0) (.cons (one h1) (.cons (one h2) .nil))
theorem bq3_th {F : Addr} {v : V} {H : Hp} (h : Bq3 F v H) : ∃ φ0 φ1 φ2, ThV [φ0, φ1, φ2] 3 32 3 v H := by
  obtain ⟨a, ys, e, h, t⟩ := h
  cases t with
  | cons h0 t => cases t with
    | cons h1 t => cases t with
      | cons h2 t =>
        cases t
        obtain ⟨φ0, h0⟩ := h0
        obtain ⟨φ1, h1⟩ := h1
        obtain ⟨φ2, h2⟩ := h2
        exact ⟨φ0, φ1, φ2, a, _, e, h, .cons (pyD_py h0) (.cons (pyD_py h1) (.cons (pyD_py h2) .nil))⟩
section
variable {K : PySem.W.Frag} {σ : L2.St} {H : Hp} {ta tb tc td te : TE} {a : Addr} {ns : List Int}
/-- script[2:63] + [5] -/
theorem ev_cells (h : σ[0]? = some (some (.ref a))) (hS : SqL K H a (ns.map V.int)) (hn : ns.length ≤ 63) :
    Ev (tOp (rCat2 K) (tSl (rSlL K) (tVar 0) (tPart (tC (.int 2))) (tPart (tC (.int 63)))) (tLst (tCons (tC (.int 5)) tNil))) σ H (NsV 64) := by
  intro H1 s1 Q q
  refine ⟨_, h, _, rfl, _, rfl, a, _, rfl, s1.seq hS, fun p hp => ?_⟩
  have sp := same_new (o := .lst (cutV (ns.map V.int) (some 2) (some 63))) hp
  refine ⟨by show 1 ≤ sizeLine; decide, fun r hr => ?_⟩
  have sr := same_new (o := .lst [V.int 5]) hr
  obtain ⟨ms, hms, hml⟩ : ∃ ms : List Int, cutV (ns.map V.int) (some 2) (some 63) = ms.map V.int ∧ ms.length ≤ 63 := by
    unfold cutV
    rw [← List.map_drop, ← List.map_take]
    refine ⟨_, rfl, ?_⟩
    rw [List.length_take, List.length_drop]
    omega
  have hml2 : (ms.map V.int).length ≤ 63 := by rw [List.length_map]; exact hml
  refine ⟨p, r, _, [V.int 5], rfl, rfl, SqL.of (sr _ _ upd_same), SqL.of upd_same, by rw [hms]; exact Nat.le_trans (Nat.add_le_add_right hml2 1) (by decide), fun l hl => ?_⟩
  have sl := same_new (o := .lst (cutV (ns.map V.int) (some 2) (some 63) ++ [V.int 5])) hl
  refine q _ _ (sp.trans (sr.trans sl)) ⟨l, ms ++ [5], rfl, by rw [upd_same, hms, List.map_append]; rfl, by simp, by simp; omega⟩
/-- (script + [9, 4])[1] -/
theorem ev_second (h : σ[0]? = some (some (.ref a))) (hS : SqL K H a (ns.map V.int)) (hn : ns.length ≤ 63) :
    Ev (tOp (rIxL K) (tOp (rCat2 K) (tVar 0) (tLst (tCons (tC (.int 9)) (tCons (tC (.int 4)) tNil)))) (tC (.int 1))) σ H AnyI := by
  intro H1 s1 Q q
  refine ⟨_, h, by show 2 ≤ sizeLine; decide, fun r hr => ?_⟩
  have sr := same_new (o := .lst [V.int 9, V.int 4]) hr
  have hml2 : (ns.map V.int).length ≤ 63 := by rw [List.length_map]; exact hn
  refine ⟨a, r, _, [V.int 9, V.int 4], rfl, rfl, (s1.trans sr).seq hS, SqL.of upd_same, Nat.le_trans (Nat.add_le_add_right hml2 2) (by decide), fun l hl => ?_⟩
  have sl := same_new (o := .lst (ns.map V.int ++ [V.int 9, V.int 4])) hl
  have e : ns.map V.int ++ [V.int 9, V.int 4] = (ns ++ [9, 4]).map V.int := by rw [List.map_append]; rfl
  have h1 : 1 < (ns ++ [9, 4]).length := by simp
  refine ⟨l, _, 1, .int ((ns ++ [9, 4])[1]), rfl, rfl, SqL.of upd_same, atI_nat (j := 1) ?_, q _ _ (sr.trans sl) ⟨_, rfl⟩⟩
  rw [e, List.getElem?_map, List.getElem?_eq_getElem h1]
  rfl
/-- (cells * 6)[k], k below 6 -/
theorem ev_cell {n i : Nat} (ha : Ev ta σ H (NsV n)) (hb : Ev tb σ H (IsI (i : Int))) (hn : n ≤ 64) (hi : i < 6) : Ev (tOp (rIxL K) (tOp rRep ta (tC (.int 6))) tb) σ H AnyI := by
  intro H1 s1 Q q
  refine ha H1 s1 _ fun v H2 s2 ⟨p, ms, e, h, h0, hm⟩ => ?_
  refine ⟨p, 6, _, e, rfl, h, by decide, by decide, ?_, fun l hl => ?_⟩
  · rw [List.length_map]
    show ms.length * 6 ≤ sizeLine
    exact Nat.le_trans (Nat.mul_le_mul_right 6 (Nat.le_trans hm hn)) (by decide)
  have sl := same_new (o := .lst (List.replicate (6 : Int).toNat (ms.map V.int)).flatten) hl
  refine hb _ (s1.trans (s2.trans sl)) _ fun u H3 s3 e2 => ?_
  have er : (List.replicate (6 : Int).toNat (ms.map V.int)).flatten = ((List.replicate 6 ms).flatten).map V.int := by
    rw [List.map_flatten, List.map_replicate]
    rfl
  have hlen : i < ((List.replicate 6 ms).flatten).length := by
    rw [List.length_flatten, List.map_replicate, List.sum_replicate_nat]
    omega
  refine ⟨l, _, i, .int (((List.replicate 6 ms).flatten)[i]), rfl, e2, SqL.of (s3 _ _ upd_same), atI_nat ?_, q _ _ (s2.trans (sl.trans s3)) ⟨_, rfl⟩⟩
  rw [er, List.getElem?_map, List.getElem?_eq_getElem hlen]
  rfl
theorem ev_l_fraction {t b : Int} (ha : Ev ta σ H (IsI t)) (hb : Ev tb σ H (IsI b)) (b0 : 0 < b) (b1 : b ≤ 100) : Ev (tCall sp_l_fraction [] E0 (tCons ta (tCons tb tNil))) σ H (FrV (fr t b)) :=
  ev_call2 ha hb (stb_i t) fun x y H1 _ e1 e2 Q q => ⟨t, b, by rw [e1, e2], b0, b1, q⟩
theorem ev_divI {i : Int} (ha : Ev ta σ H (IsI i)) (k : Int) (hk : 0 < k ∧ k < 1073741824 := by decide) : Ev (tOp (rI CDiv fun i j => .int (i / j)) ta (tC (.int k))) σ H (IsI (i / k)) := ev_IC (C := CDiv) (g := fun i j => i / j) ha (ev_int k) hk
theorem ev_modI {i : Int} (ha : Ev ta σ H (IsI i)) (k : Int) (hk : 0 < k := by decide) : Ev (tOp (rI (fun _ j => 0 < j) fun i j => .int (i % j)) ta (tC (.int k))) σ H (IsI (i % k)) := ev_IC (C := fun _ j => 0 < j) (g := fun i j => i % j) ha (ev_int k) hk
theorem ev_call5 {sp : Sp} {P P1 P2 P3 P4 P5 : Pd} (ha : Ev ta σ H P1) (hb : Ev tb σ H P2) (hc : Ev tc σ H P3) (hd : Ev td σ H P4) (he : Ev te σ H P5) (st : Stb P1) (st2 : Stb P2) (st3 : Stb P3) (st4 : Stb P4)
    (hs : ∀ x y z u v H1, Same H H1 → P1 x H1 → P2 y H1 → P3 z H1 → P4 u H1 → P5 v H1 → ∀ Q : VK, (∀ v H2, Same H1 H2 → P v H2 → Q v H2) → sp [x, y, z, u, v] H1 Q E0) :
    Ev (tCall sp [] E0 (tCons ta (tCons tb (tCons tc (tCons td (tCons te tNil)))))) σ H P := by
  intro H1 s1 Q q
  refine ha H1 s1 _ fun x H2 s2 p2 => ?_
  refine hb H2 (s1.trans s2) _ fun y H3 s3 p3 => ?_
  refine hc H3 ((s1.trans s2).trans s3) _ fun z H4 s4 p4 => ?_
  refine hd H4 (((s1.trans s2).trans s3).trans s4) _ fun u H5 s5 p5 => ?_
  refine he H5 ((((s1.trans s2).trans s3).trans s4).trans s5) _ fun v H6 s6 p6 => ?_
  exact hs x y z u v H6 (((((s1.trans s2).trans s3).trans s4).trans s5).trans s6) (st _ _ _ (((s3.trans s4).trans s5).trans s6) p2) (st2 _ _ _ ((s4.trans s5).trans s6) p3) (st3 _ _ _ (s5.trans s6) p4) (st4 _ _ _ s6 p5) p6 Q fun w H7 s7 p7 => q w H7 (s2.trans (s3.trans (s4.trans (s5.trans (s6.trans s7))))) p7
theorem ev_l_lines {φ0 φ1 φ2 ψ0 ψ1 ψ2 : Wo} {pl : List Rat} (ha : Ev ta σ H (ThV [φ0, φ1, φ2] 3 32 3)) (hb : Ev tb σ H (ThV [ψ0, ψ1, ψ2] 3 32 3)) (hc : Ev tc σ H (FrsV pl)) (hp : PlaceOk pl) : Ev (tCall sp_l_lines [] E0 (tCons ta (tCons tb (tCons tc tNil)))) σ H (IsB true) :=
  ev_call3 ha hb hc (stb_th _ 3 32 3) (stb_th _ 3 32 3) fun x y z H1 _ p1 p2 p3 Q q => ⟨x, y, z, φ0, φ1, φ2, ψ0, ψ1, ψ2, pl, rfl, p1, p2, p3, hp, fun H2 s2 => q _ _ s2 rfl⟩
theorem ev_l_points {φ0 φ1 φ2 ψ0 ψ1 ψ2 : Wo} {pl : List Rat} {k : Nat} {f : Rat} (ha : Ev ta σ H (ThV [φ0, φ1, φ2] 3 32 3)) (hb : Ev tb σ H (ThV [ψ0, ψ1, ψ2] 3 32 3)) (hc : Ev tc σ H (IsI (k : Int))) (hd : Ev td σ H (FrV f)) (he : Ev te σ H (FrsV pl)) (hk : k ≤ 5) (ff : FB 4 f) (sf : Sml f) (hp : PlaceOk pl) :
    Ev (tCall sp_l_points [] E0 (tCons ta (tCons tb (tCons tc (tCons td (tCons te tNil)))))) σ H (IsB true) :=
  ev_call5 ha hb hc hd he (stb_th _ 3 32 3) (stb_th _ 3 32 3) (stb_i _) (stb_fr _) fun x y z u v H1 _ p1 p2 p3 p4 p5 Q q => ⟨x, y, u, v, k, φ0, φ1, φ2, ψ0, ψ1, ψ2, f, pl, by rw [p3], p1, p2, hk, p4, ff, sf, p5, hp, fun H2 s2 => q _ _ s2 rfl⟩
/-- tuple([terms[:3] for terms in three]) -/
theorem ev_shorts {F : Addr} {i : Nat} {vs : List Nat} (hF : HasL H F) (htl : Ev ta σ H (fun v H => ∃ φ0 φ1 φ2, ThV [φ0, φ1, φ2] 5 32 3 v H)) (hw : ∀ x : V, wipe ((wipe σ vs).set i (some x)) vs = wipe σ vs) (hi : ∀ x : V, ((wipe σ vs).set i (some x))[i]? = some (some x)) :
    Ev (tCB (rTupleOf K) (tCons (tLc (iTup K ta) (gName i) tYes (tSl (rSlL K) (tVar i) tNoPart (tPart (tC (.int 3)))) vs) tNil)) σ H (Bq3 F) := by
  refine ev_tupleL (Ps := [BqV F, BqV F, BqV F]) (fun P hp => ?_) ?_
  · simp only [List.mem_cons, List.not_mem_nil, or_false, or_self] at hp
    rw [hp]
    exact stb_bq F
  refine ev_map (α := Unit) (zs := [(), (), ()]) (A := fun _ v H => ∃ φ, PyV φ 5 32 3 v H) (B := fun _ => BqV F) (Bd := fun D _ v H => BqV F v H ∧ v ≠ .ref D) (fun _ _ _ _ s ⟨φ, h⟩ => ⟨φ, stb_py φ 5 32 3 _ _ _ s h⟩) (fun D _ _ _ _ s h => ⟨stb_bq F _ _ _ s h.1, h.2⟩) ?_ (fun D _ y H h => h.1) ?_ (by show 3 ≤ 1000; decide) hw ?_
  · rintro D _ y H1 xs ⟨⟨φ, l, ts, L, rfl, nl, h, t, r⟩, hne⟩ ⟨acc, hacc⟩
    refine ⟨⟨φ, l, ts, L, rfl, nl, by rw [upd_ne (fun z => hne (by rw [z]))]; exact h, terms_but t (fun xs z => by rw [hacc] at z; cases z), r⟩, hne⟩
  · refine htl.imp fun v H1 ⟨φ0, φ1, φ2, a, xs, e, h, t⟩ => ?_
    cases t with
    | cons h0 t => cases t with
      | cons h1 t => cases t with
        | cons h2 t =>
          cases t
          exact ⟨a, _, e, h, .cons ⟨φ0, h0⟩ (.cons ⟨φ1, h1⟩ (.cons ⟨φ2, h2⟩ .nil))⟩
  · rintro D _ x H1 _ s1 ⟨accD, hD⟩ ⟨φ, L, ⟨a, ts, rfl, ha, ht⟩, hφ, hL⟩ Q q
    refine ⟨_, hi _, _, rfl, a, _, rfl, SqL.of ha, fun p hp => ?_⟩
    have ec : cutV (ts.map V.ref) none (some 3) = (ts.take 3).map V.ref := by
      unfold cutV
      rw [HT.sIx_none, show (3 : Int) = ((3 : Nat) : Int) from rfl, HT.sIx_nat, List.drop_zero, Nat.sub_zero, List.map_take, List.take_eq_take_iff]
      omega
    have sp := same_new (o := .lst (cutV (ts.map V.ref) none (some 3))) hp
    obtain ⟨accF, hFF⟩ := hF
    have hF1 := s1 _ _ hFF
    refine q _ _ sp ⟨⟨fun f => ev f (L.take 3), p, ts.take 3, L.take 3, rfl, fun z => ?_, by rw [upd_same, ec], terms_take 3 (TermsAt.same sp ht), fun _ => rfl, hL.take 3⟩, fun z => ?_⟩
    · rw [z, hF1] at hp
      cases hp
    · cases z
      rw [hD] at hp
      cases hp
end
section
variable {P : Program} {w : World} {K : PySem.W.Frag} {mg : Str → Option Value} {base : Heap} {C : Addr}
abbrev s_law : Stmt := top 61
theorem sc_law : FnScope ["_law_script", "_law_cells", "_law_some", "_law_k", "_law_terms", "_law_other", "_law_place", "_law_cell_here", "_law_f"] ["_law_script"] (defScope s_law) := ⟨rfl, rfl, rfl, by decide +kernel, rfl, by decide +kernel, by decide +kernel⟩
def sp_law (K : PySem.W.Frag) : Sp := fun vs H Q _ => ∃ (a : Addr) (ns : List Int), vs = [.ref a] ∧ SqL K H a (ns.map V.int) ∧ ns.length ≤ 63 ∧ ∀ H', Q (.bl true) H'
theorem ok_law {fL : Addr} {fd : FuncData} (F : Fun K "law" "law" s_law fL fd) (B : Bi mg) (d_l_three : Def P w K mg base "_law_three" 3 ["_law_cells", "_law_offset"] (sp_l_three K)) (d_l_fraction : Def P w K mg base "_law_fraction" 1 ["_law_top", "_law_bottom"] sp_l_fraction)
    (d_l_points_good : Def P w K mg base "_law_points_good" 8 ["_law_i", "_law_j", "_law_t", "_law_f", "_law_place"] sp_l_points) (d_l_foot_good : Def P w K mg base "_law_foot_good" 8 ["_law_i", "_law_l", "_law_place"] sp_l_lines) (d_l_meet_good : Def P w K mg base "_law_meet_good" 8 ["_law_l", "_law_m", "_law_place"] sp_l_lines) :
    FnOk P w K mg base CX0 9 fL fd ["_law_script"] (sp_law K) := by
  refine F.ok sc_law (fun vs H Q E h => ?_) (fun cdv A outer s H vs Q E hr h => ?_)
  · obtain ⟨a, ns, rfl, _⟩ := h
    rfl
  obtain ⟨a, ns, rfl, hS, hn, K0⟩ := h
  clear F
  refine ⟨_, (pss_cons (ps_set (i := 1) sc_law.nd rfl (Or.inl rfl) (pe_op op_cat2 (pe_slice sl_list (pv 0) (po_some pe_int) (po_some pe_int)) (pe_lst (pa_cons pe_int pa_nil))))
      (pss_cons (ps_set (i := 2) sc_law.nd rfl (Or.inl rfl) (pe_lst pa_nil))
      (pss_cons (ps_for PassesOwn.never rfl (pi_range1 (by rfl) B.range (pa_cons pe_int pa_nil)) (pg_name (i := 3) sc_law.nd rfl (.inl rfl)) (pss_one (ps_expr (pe_bm PySem.F.plainAttrs_list PySem.F.slot_list_append PySem.F.type_list_append mt_append (pv 2) (pa_cons (pe_callTy call_tuple_of (by rfl) B.tuple (by decide +kernel) (pa_cons (pe_lc (own := [("_law_terms", 4)]) rfl sc_law.nd (pi_tup (pe_def d_l_three hr (by rfl) (pa_cons (pv 1) (pa_cons (pv 3) pa_nil)))) (blkOk_by (own := [("_law_terms", 4)]) (N := ["_law_script", "_law_cells", "_law_some", "_law_k", "_law_terms", "_law_other", "_law_place", "_law_cell_here", "_law_f"]) (sc := defScope s_law) (by decide +kernel)) (fun _ _ _ _ _ => (pg_name (i := 4) sc_law.nd rfl (Or.inl rfl))) (fun _ _ _ _ _ => pts_nil) (fun _ _ _ _ _ => (pe_slice (sl_listK (K := K) rfl) (pv 4) po_none (po_some pe_int)))) pa_nil)) pa_nil)))))
      (pss_cons (ps_set (i := 5) sc_law.nd rfl (Or.inl rfl) (pe_ix ix_list (pe_op op_cat2 (pv 0) (pe_lst (pa_cons pe_int (pa_cons pe_int pa_nil)))) pe_int (fun _ _ => rfl)))
      (pss_cons (ps_set (i := 6) sc_law.nd rfl (Or.inl rfl) (pe_lst pa_nil))
      (pss_cons (ps_for PassesOwn.never rfl (pi_range1 (by rfl) B.range (pa_cons pe_int pa_nil)) (pg_name (i := 3) sc_law.nd rfl (.inl rfl)) (pss_cons (ps_set (i := 7) sc_law.nd rfl (Or.inl rfl) (pe_op op_add (pe_op op_fdiv (pe_ix ix_list (pe_op op_rep (pv 1) pe_int) (pv 3) (fun _ _ => rfl)) pe_int) (pv 5)))
      (pss_one (ps_expr (pe_bm PySem.F.plainAttrs_list PySem.F.slot_list_append PySem.F.type_list_append mt_append (pv 6) (pa_cons (pe_def d_l_fraction hr (by rfl) (pa_cons (pe_op op_sub (pe_op op_mod (pv 7) pe_int) pe_int) (pa_cons (pe_op op_add pe_int (pe_op op_mod (pe_op op_fdiv (pv 7) pe_int) pe_int)) pa_nil))) pa_nil))))))
      (pss_cons (ps_set (i := 8) sc_law.nd rfl (Or.inl rfl) (pe_def d_l_fraction hr (by rfl) (pa_cons (pe_op op_sub (pe_op op_mod (pe_op op_fdiv (pv 5) pe_int) pe_int) pe_int) (pa_cons (pe_op op_add pe_int (pe_op op_mod (pe_op op_fdiv (pv 5) pe_int) pe_int)) pa_nil))))
      (pss_cons (ps_if (pt_not (pt_val (pe_def d_l_points_good hr (by rfl) (pa_cons (pe_ix ix_list (pv 2) pe_int (fun _ _ => rfl)) (pa_cons (pe_ix ix_list (pv 2) pe_int (fun _ _ => rfl)) (pa_cons (pe_op op_mod (pv 5) pe_int) (pa_cons (pv 8) (pa_cons (pv 6) pa_nil)))))))) (pss_one (ps_ret pe_bl)) pss_nil)
      (pss_cons (ps_if (pt_not (pt_val (pe_def d_l_foot_good hr (by rfl) (pa_cons (pe_ix ix_list (pv 2) pe_int (fun _ _ => rfl)) (pa_cons (pe_ix ix_list (pv 2) pe_int (fun _ _ => rfl)) (pa_cons (pv 6) pa_nil)))))) (pss_one (ps_ret pe_bl)) pss_nil)
      (pss_one (ps_ret (pe_and (pe_def d_l_meet_good hr (by rfl) (pa_cons (pe_ix ix_list (pv 2) pe_int (fun _ _ => rfl)) (pa_cons (pe_ix ix_list (pv 2) pe_int (fun _ _ => rfl)) (pa_cons (pv 6) pa_nil)))) (pe_one (pe_def d_l_meet_good hr (by rfl) (pa_cons (pe_ix ix_list (pv 2) pe_int (fun _ _ => rfl)) (pa_cons (pe_ix ix_list (pv 2) pe_int (fun _ _ => rfl)) (pa_cons (pv 6) pa_nil))))))))))))))))), ?_⟩
  refine s_set (ev_cells rfl hS hn) fun v1 H1 s1 p1 => ?_
  have vc : ∀ {σ H'}, σ[1]? = some (some v1) → Same H1 H' → Ev (tVar 1) σ H' (NsV 64) := fun h s => ev_var h (stb_ns 64) (stb_ns 64 _ _ _ s p1)
  refine ⟨Nat.zero_le _, fun F hF => ?_⟩
  have sF := same_new (o := .lst []) hF
  refine ⟨3, rfl, by decide, by decide, for_range (lo := 0) (n := 3) (fun i σ H' => ∃ (ys : List V) (v3 : Option V), σ = [some (.ref a), some v1, some (.ref F), v3, none, none, none, none, none] ∧ H' F = some (.lst ys) ∧ ys.length = i ∧ (∀ y ∈ ys, Bq3 F y H') ∧ Same H1 H')
    ⟨[], none, rfl, upd_same, rfl, (fun _ h => nomatch h), sF⟩ ?_ ?_⟩
  · rintro i σ H2 hi ⟨ys, v3, rfl, hF2, hyl, hys, s2⟩
    refine ⟨_, rfl, .inl ⟨rfl, _, SqL.of hF2⟩, ?_⟩
    refine ev_shorts (F := F) ⟨_, hF2⟩ (ev_call2 (P2 := IsI (0 + (i : Int))) (vc rfl s2) (ev_var (i := 3) rfl (stb_i _) rfl) (stb_ns 64) fun x y H3 _ ⟨p, ms, e, h, h0, hm⟩ e2 Q q => ⟨p, ms, _, by rw [e, e2], SqL.of h, by omega, fun v H' φ0 φ1 φ2 s p => q v H' s ⟨φ0, φ1, φ2, p⟩⟩) (fun _ => rfl) (fun _ => rfl) H2 (Same.refl _) _ fun y H3 s3 p3 => ?_
    have hF3 := s3 _ _ hF2
    refine ⟨F, ys, _, rfl, rfl, hF3, small1000 (by omega), ?_⟩
    refine ⟨ys ++ [y], _, rfl, upd_same, by simp [hyl], fun u hu => ?_, fun b o hb => ?_⟩
    · rcases List.mem_append.mp hu with z | z
      · exact bq3_but (stb_bq3 F _ _ _ s3 (hys u z)) ⟨_, hF3⟩
      · rw [List.mem_singleton] at z
        rw [z]
        exact bq3_but p3 ⟨_, hF3⟩
    · have nb : b ≠ F := fun z => by rw [z, hF] at hb; cases hb
      rw [upd_ne nb]
      exact (s2.trans s3) _ _ hb
  rintro σ H2 ⟨ys, v3, rfl, hF2, hyl, hys, s2⟩
  obtain ⟨α0, α1, α2, β0, β1, β2, γ0, γ1, γ2, pF⟩ : ∃ α0 α1 α2 β0 β1 β2 γ0 γ1 γ2, LsV [ThV [α0, α1, α2] 3 32 3, ThV [β0, β1, β2] 3 32 3, ThV [γ0, γ1, γ2] 3 32 3] (.ref F) H2 := by
    match ys, hyl with
    | [y0, y1, y2], _ =>
      obtain ⟨α0, α1, α2, h0⟩ := bq3_th (hys y0 (by simp))
      obtain ⟨β0, β1, β2, h1⟩ := bq3_th (hys y1 (by simp))
      obtain ⟨γ0, γ1, γ2, h2⟩ := bq3_th (hys y2 (by simp))
      exact ⟨α0, α1, α2, β0, β1, β2, γ0, γ1, γ2, F, _, rfl, hF2, .cons h0 (.cons h1 (.cons h2 .nil))⟩
  have stF : Stb (LsV [ThV [α0, α1, α2] 3 32 3, ThV [β0, β1, β2] 3 32 3, ThV [γ0, γ1, γ2] 3 32 3]) := stb_ls fun P hp => by
    simp only [List.mem_cons, List.not_mem_nil, or_false] at hp
    rcases hp with rfl | rfl | rfl <;> exact stb_th _ 3 32 3
  -- the other number
  refine s_set (ev_second rfl ((s1.trans s2).seq hS) hn) fun v5 H3 s3 p5 => ?_
  obtain ⟨o, rfl⟩ := p5
  refine ⟨Nat.zero_le _, fun G hG => ?_⟩
  have sG := same_new (o := .lst []) hG
  refine ⟨6, rfl, by decide, by decide, for_range (lo := 0) (n := 6) (fun i σ H' => ∃ (qs : List Rat) (zs : List V) (v3 v7 : Option V), σ = [some (.ref a), some v1, some (.ref F), v3, none, some (.int o), some (.ref G), v7, none] ∧ H' G = some (.lst zs) ∧ Ech (qs.map FrV) zs H' ∧ qs.length = i ∧ (∀ q ∈ qs, q.num.natAbs ≤ 9 ∧ q.den ≤ 5) ∧ Same H3 H')
    ⟨[], [], v3, none, rfl, upd_same, .nil, rfl, (fun _ h => nomatch h), sG⟩ ?_ ?_⟩
  · rintro i σ H4 hi ⟨qs, zs, v3', v7, rfl, hG4, hzs, hql, hqs, s4⟩
    have zl : qs.length = zs.length := by rw [← Paired.length hzs, List.length_map]
    have s14 := s2.trans (s3.trans s4)
    have ei : (0 + (i : Int)) = (i : Int) := by omega
    refine s_set (P := AnyI) (fun H5 s5 Q q => ?_) fun v H5 s5 p7 => ?_
    · refine ev_cell (n := 64) (i := i) (vc rfl s14) (ev_var (i := 3) (v := .int (0 + (i : Int))) rfl (stb_i _) (by rw [ei]; rfl)) (by decide) hi H5 s5 _ fun u H6 s6 ⟨c, hc⟩ => ?_
      subst hc
      exact ⟨_, _, rfl, rfl, by show (0 : Int) < 7 ∧ (7 : Int) < 1073741824; decide, _, rfl, _, _, rfl, rfl, q _ _ s6 ⟨_, rfl⟩⟩
    obtain ⟨c, rfl⟩ := p7
    have hG5 := s5 _ _ hG4
    have c0 := Int.emod_nonneg c (show (19 : Int) ≠ 0 by decide)
    have c1 := Int.emod_lt_of_pos c (show (0 : Int) < 19 by decide)
    have d0 := Int.emod_nonneg (c / 19) (show (5 : Int) ≠ 0 by decide)
    have d1 := Int.emod_lt_of_pos (c / 19) (show (0 : Int) < 5 by decide)
    refine ⟨_, rfl, .inl ⟨rfl, _, SqL.of hG5⟩, ?_⟩
    refine ev_l_fraction (t := c % 19 - 9) (b := 1 + c / 19 % 5) (ev_I0 (g := fun i j => i - j) (ev_modI (ev_var (i := 7) rfl (stb_i _) rfl) 19) (ev_int 9)) (ev_I0 (g := fun i j => i + j) (ev_int 1) (ev_modI (ev_divI (ev_var (i := 7) rfl (stb_i _) rfl) 19) 5)) (by omega) (by omega) H5 (Same.refl _) _ fun y H6 s6 p6 => ?_
    have hG6 := s6 _ _ hG5
    have sm := fr_small (t := c % 19 - 9) (b := 1 + c / 19 % 5) (m := 9) (n := 5) (by omega) (by omega) (by omega)
    refine ⟨G, zs, _, rfl, rfl, hG6, small1000 (by omega), ?_⟩
    refine ⟨qs ++ [fr (c % 19 - 9) (1 + c / 19 % 5)], zs ++ [y], _, _, rfl, upd_same, ?_, by simp [hql], fun u hu => ?_, fun b o' hb => ?_⟩
    · rw [List.map_append]
      have keep : ∀ {Ps : List Rat} {ws : List V}, Ech (Ps.map FrV) ws H6 → Ech (Ps.map FrV) ws (upd H6 G (.lst (zs ++ [y]))) := by
        intro Ps
        induction Ps with
        | nil => intro ws h; cases h; exact .nil
        | cons p0 Ps ih => intro ws h; cases h with | cons h t => exact .cons (frv_but h ⟨_, hG6⟩) (ih t)
      have old := keep (ech_same (fun P hp => by obtain ⟨q, _, rfl⟩ := List.mem_map.mp hp; exact stb_fr q) (s5.trans s6) hzs)
      have one : Ech ([fr (c % 19 - 9) (1 + c / 19 % 5)].map FrV) [y] (upd H6 G (.lst (zs ++ [y]))) := .cons (frv_but p6 ⟨_, hG6⟩) .nil
      have app : ∀ {l₁ l₂ : List Pd} {m₁ m₂ : List V} {H : Hp}, Ech l₁ m₁ H → Ech l₂ m₂ H → Ech (l₁ ++ l₂) (m₁ ++ m₂) H := by
        intro l₁ l₂ m₁ m₂ H h1 h2
        induction h1 with
        | nil => exact h2
        | cons h _ ih => exact .cons h ih
      exact app old one
    · rcases List.mem_append.mp hu with z | z
      · exact hqs u z
      · rw [List.mem_singleton] at z
        rw [z]
        exact sm
    · have nb : b ≠ G := fun z => by rw [z, hG] at hb; cases hb
      rw [upd_ne nb]
      exact (s4.trans (s5.trans s6)) _ _ hb
  rintro σ H4 ⟨qs, zs, v3', v7, rfl, hG4, hzs, hql, hqs, s4⟩
  have hp : PlaceOk qs := ⟨hql, hqs⟩
  have pG : FrsV qs (.ref G) H4 := ⟨G, zs, rfl, hG4, hzs⟩
  have pF := stF _ _ _ (s3.trans s4) pF
  have c0 := Int.emod_nonneg (o / 6) (show (19 : Int) ≠ 0 by decide)
  have c1 := Int.emod_lt_of_pos (o / 6) (show (0 : Int) < 19 by decide)
  have d0 := Int.emod_nonneg (o / 114) (show (7 : Int) ≠ 0 by decide)
  have d1 := Int.emod_lt_of_pos (o / 114) (show (0 : Int) < 7 by decide)
  have o0 := Int.emod_nonneg o (show (6 : Int) ≠ 0 by decide)
  have o1 := Int.emod_lt_of_pos o (show (0 : Int) < 6 by decide)
  refine s_set (ev_l_fraction (t := o / 6 % 19 - 9) (b := 1 + o / 114 % 7) (ev_I0 (g := fun i j => i - j) (ev_modI (ev_divI (ev_var (i := 5) rfl (stb_i _) rfl) 6) 19) (ev_int 9)) (ev_I0 (g := fun i j => i + j) (ev_int 1) (ev_modI (ev_divI (ev_var (i := 5) rfl (stb_i _) rfl) 114) 7)) (by omega) (by omega)) fun v8 H5 s5 p8 => ?_
  have sm := fr_small (t := o / 6 % 19 - 9) (b := 1 + o / 114 % 7) (m := 9) (n := 7) (by omega) (by omega) (by omega)
  have sml : Sml (fr (o / 6 % 19 - 9) (1 + o / 114 % 7)) := ⟨Nat.le_trans sm.1 (by decide), by rw [Int.natAbs_natCast]; exact Nat.le_trans sm.2 (by decide)⟩
  have vF : ∀ {σ H'}, σ[2]? = some (some (.ref F)) → Same H4 H' → Ev (tVar 2) σ H' (LsV [ThV [α0, α1, α2] 3 32 3, ThV [β0, β1, β2] 3 32 3, ThV [γ0, γ1, γ2] 3 32 3]) := fun h s => ev_var h stF (stF _ _ _ s pF)
  have vG : ∀ {σ H'}, σ[6]? = some (some (.ref G)) → Same H4 H' → Ev (tVar 6) σ H' (FrsV qs) := fun h s => ev_var h (stb_frs qs) (stb_frs qs _ _ _ s pG)
  have mF : ∀ P ∈ [ThV [α0, α1, α2] 3 32 3, ThV [β0, β1, β2] 3 32 3, ThV [γ0, γ1, γ2] 3 32 3], Stb P := fun P hp => by
    simp only [List.mem_cons, List.not_mem_nil, or_false] at hp
    rcases hp with rfl | rfl | rfl <;> exact stb_th _ 3 32 3
  have eo : o % 6 = (((o % 6).toNat : Nat) : Int) := by omega
  refine s_pass ((evt_not (evt_of (ev_l_points (k := (o % 6).toNat) (ev_ixL (i := 0) mF (vF rfl s5) (ev_int _) rfl) (ev_ixL (i := 1) mF (vF rfl s5) (ev_int _) rfl) (by rw [← eo]; exact ev_modI (ev_var (i := 5) rfl (stb_i _) rfl) 6) (ev_var (i := 8) rfl (stb_fr _) p8) (vG rfl s5) (by omega) (fb_small sm.1 sm.2) sml hp))).to rfl) fun H6 s6 => ?_
  have s46 := s5.trans s6
  refine s_pass ((evt_not (evt_of (ev_l_lines (ev_ixL (i := 0) mF (vF rfl s46) (ev_int _) rfl) (ev_ixL (i := 2) mF (vF rfl s46) (ev_int _) rfl) (vG rfl s46) hp))).to rfl) fun H7 s7 => ?_
  have s47 := s46.trans s7
  refine s_ret (P := IsB true) (ev_andV (s := true) (t := true) (ev_l_lines (ev_ixL (i := 1) mF (vF rfl s47) (ev_int _) rfl) (ev_ixL (i := 2) mF (vF rfl s47) (ev_int _) rfl) (vG rfl s47) hp) (fun _ => ev_l_lines (ev_ixL (i := 2) mF (vF rfl s47) (ev_int _) rfl) (ev_ixL (i := 2) mF (vF rfl s47) (ev_int _) rfl) (vG rfl s47) hp)) fun v9 H8 s8 e9 => ?_
  cases e9
  exact K0 _
end
end ED

/-! All promises, one after the other; the end. -/
namespace ED
open PySem PySem.Spec PyProof.Rows L2 ER EM

section
variable {K : PySem.W.Frag} {h : Heap} {mg : Str → Option Value} {C f : Addr} {x m qual : Str} {st : Stmt} {od an : Option Addr} {sl : Array (Option Value)} {oc kV dc pm cd ct : Value}
theorem raw_mk (X : K.In h) (G : h.Ns mainGlobals mg) (a : PySem.W.nsIn K mainGlobals x = some (some (.ref f))) (l : K.lookup f = some ⟨oc, od, .func (PySem.W.fnOf x x (defArgs st) (defBody st) (defScope st) .none kV dc pm an cd ct), sl⟩)
    (c : PySem.W.codeIn K cd x = true) (k : PySem.W.keepIn K (.ref f) = true) : Raw K mg x st := ⟨f, _, fun_mk l c k, PySem.W.mg_of X G a⟩
theorem rawM_mk (a : PySem.W.findIn K (.ref C) m = some (some (.ref f))) (i : PySem.W.isFn K (.ref f) = true) (l : K.lookup f = some ⟨oc, od, .func (PySem.W.fnOf m qual (defArgs st) (defBody st) (defScope st) .none kV dc pm an cd ct), sl⟩)
    (c : PySem.W.codeIn K cd qual = true) (k : PySem.W.keepIn K (.ref f) = true) : RawM K C m qual st := ⟨f, _, fun_mk l c k, ⟨a, i, k⟩⟩
theorem rawI_mk (mk : PySem.W.makesIn K C = true) (kc : PySem.W.keepIn K (.ref C) = true) (a : PySem.W.findIn K (.ref C) "__init__" = some (some (.ref f))) (i : PySem.W.isFn K (.ref f) = true)
    (l : K.lookup f = some ⟨oc, od, .func (PySem.W.fnOf "__init__" qual (defArgs st) (defBody st) (defScope st) .none kV dc pm an cd ct), sl⟩) (c : PySem.W.codeIn K cd qual = true) (k : PySem.W.keepIn K (.ref f) = true) : RawI K C qual st := ⟨f, _, fun_mk l c k, ⟨mk, a, i, kc⟩⟩
end
/-- the defs of the text -/
structure Raws (K : PySem.W.Frag) (mg : Str → Option Value) (C : Addr) : Prop where
  r_common : Raw K mg "common" s_common
  r_fraction_of : Raw K mg "fraction_of" s_fraction_of
  r_frac_sum : Raw K mg "frac_sum" s_frac_sum
  r_frac_less : Raw K mg "frac_less" s_frac_less
  r_frac_times : Raw K mg "frac_times" s_frac_times
  r_frac_by : Raw K mg "frac_by" s_frac_by
  r_raised : Raw K mg "raised" s_raised
  r_term_at : Raw K mg "term_at" s_term_at
  r_worth_at : Raw K mg "worth_at" s_worth_at
  r_gathered : Raw K mg "gathered" s_gathered
  r_poly_free : Raw K mg "poly_free" s_poly_free
  r_poly_scaled : Raw K mg "poly_scaled" s_poly_scaled
  r_poly_sum : Raw K mg "poly_sum" s_poly_sum
  r_poly_less : Raw K mg "poly_less" s_poly_less
  r_powers_sum : Raw K mg "powers_sum" s_powers_sum
  r_poly_times : Raw K mg "poly_times" s_poly_times
  r_init : RawI K C "Poly.__init__" s_Poly___init__
  r_plus : RawM K C "plus" "Poly.plus" s_Poly_plus
  r_less : RawM K C "less" "Poly.less" s_Poly_less
  r_by : RawM K C "by" "Poly.by" s_Poly_by
  r_many : RawM K C "many" "Poly.many" s_Poly_many
  r_polys_of : Raw K mg "polys_of" s_polys_of
  r_terms_of : Raw K mg "terms_of" s_terms_of
  r_way_rule : Raw K mg "way_rule" s_way_rule
  r_crossed : Raw K mg "crossed" s_crossed
  r_through_rule : Raw K mg "through_rule" s_through_rule
  r_meet_rule : Raw K mg "meet_rule" s_meet_rule
  r_side_rule : Raw K mg "side_rule" s_side_rule
  r_square_rule : Raw K mg "square_rule" s_square_rule
  r_width_rule : Raw K mg "width_rule" s_width_rule
  r_foot_rule : Raw K mg "foot_rule" s_foot_rule
  r_mirrored_rule : Raw K mg "mirrored_rule" s_mirrored_rule
  r_slide_rule : Raw K mg "slide_rule" s_slide_rule
  r_part_rule : Raw K mg "part_rule" s_part_rule
  r_through_line : Raw K mg "through_line" s_through_line
  r_meet_point : Raw K mg "meet_point" s_meet_point
  r_side_line : Raw K mg "side_line" s_side_line
  r_square_line : Raw K mg "square_line" s_square_line
  r_foot_point : Raw K mg "foot_point" s_foot_point
  r_mirrored_point : Raw K mg "mirrored_point" s_mirrored_point
  r_slide_point : Raw K mg "slide_point" s_slide_point
  r_part_point : Raw K mg "part_point" s_part_point
  r_l_thing : Raw K mg "_law_thing" s_l_thing
  r_l_fraction : Raw K mg "_law_fraction" s_l_fraction
  r_l_trimmed : Raw K mg "_law_trimmed" s_l_trimmed
  r_l_small_term : Raw K mg "_law_small_term" s_l_small_term
  r_l_sum : Raw K mg "_law_sum" s_l_sum
  r_l_three : Raw K mg "_law_three" s_l_three
  r_l_spot : Raw K mg "_law_spot" s_l_spot
  r_l_weighs : Raw K mg "_law_weighs" s_l_weighs
  r_l_between : Raw K mg "_law_between" s_l_between
  r_l_points : Raw K mg "_law_points_good" s_l_points_good
  r_l_foot : Raw K mg "_law_foot_good" s_l_foot_good
  r_l_meet : Raw K mg "_law_meet_good" s_l_meet_good
theorem all_ok {P : Program} {w : World} {K : PySem.W.Frag} {mg : Str → Option Value} {base : Heap} {C fL : Addr} {fd : FuncData} (B : Bi mg) (T : Txt K mg C) (W : Raws K mg C) (F : Fun K "law" "law" s_law fL fd) : FnOk P w K mg base CX0 9 fL fd ["_law_script"] (sp_law K) := by
  have d_common := ok_common (P := P) (w := w) (base := base) W.r_common B
  have d_fraction_of := ok_fraction_of (P := P) (w := w) (base := base) W.r_fraction_of d_common
  have d_frac_sum := ok_frac_sum (P := P) (w := w) (base := base) W.r_frac_sum d_fraction_of
  have d_frac_less := ok_frac_less (P := P) (w := w) (base := base) W.r_frac_less d_fraction_of
  have d_frac_times := ok_frac_times (P := P) (w := w) (base := base) W.r_frac_times d_fraction_of
  have d_frac_by := ok_frac_by (P := P) (w := w) (base := base) W.r_frac_by d_fraction_of
  have d_raised := ok_raised (P := P) (w := w) (base := base) W.r_raised B
  have d_term_at := ok_term_at (P := P) (w := w) (base := base) W.r_term_at B d_raised d_fraction_of
  have d_worth_at := ok_worth_at (P := P) (w := w) (base := base) W.r_worth_at d_frac_sum d_term_at
  have d_gathered := ok_gathered (P := P) (w := w) (base := base) W.r_gathered B
  have d_poly_free := ok_poly_free (P := P) (w := w) (base := base) W.r_poly_free
  have d_poly_scaled := ok_poly_scaled (P := P) (w := w) (base := base) W.r_poly_scaled
  have d_poly_sum := ok_poly_sum (P := P) (w := w) (base := base) W.r_poly_sum B d_gathered
  have d_poly_less := ok_poly_less (P := P) (w := w) (base := base) W.r_poly_less d_poly_sum d_poly_scaled
  have d_powers_sum := ok_powers_sum (P := P) (w := w) (base := base) W.r_powers_sum B
  have d_poly_times := ok_poly_times (P := P) (w := w) (base := base) W.r_poly_times d_powers_sum d_gathered
  have d_Poly := ok_init (P := P) (w := w) (base := base) W.r_init T
  have dm_plus := ok_plus (P := P) (w := w) (base := base) W.r_plus T d_Poly d_poly_sum
  have dm_less := ok_less (P := P) (w := w) (base := base) W.r_less T d_Poly d_poly_less
  have dm_by := ok_by (P := P) (w := w) (base := base) W.r_by T d_Poly d_poly_times
  have dm_many := ok_many (P := P) (w := w) (base := base) W.r_many T d_Poly
  have M : Ms P w K mg base C := ⟨T, dm_plus, dm_less, dm_by, dm_many⟩
  have d_polys_of := ok_polys_of (P := P) (w := w) (base := base) W.r_polys_of B d_Poly
  have d_terms_of := ok_terms_of (P := P) (w := w) (base := base) W.r_terms_of B T
  have Ft : Tf P w K mg base C := ⟨d_polys_of, d_terms_of⟩
  have d_way_rule := ok_way_rule (P := P) (w := w) (base := base) W.r_way_rule M
  have d_crossed := ok_crossed (P := P) (w := w) (base := base) W.r_crossed M
  have d_through_rule := ok_through_rule (P := P) (w := w) (base := base) W.r_through_rule M d_crossed
  have d_meet_rule := ok_meet_rule (P := P) (w := w) (base := base) W.r_meet_rule M d_crossed
  have d_side_rule := ok_side_rule (P := P) (w := w) (base := base) W.r_side_rule M
  have d_square_rule := ok_square_rule (P := P) (w := w) (base := base) W.r_square_rule M
  have d_width_rule := ok_width_rule (P := P) (w := w) (base := base) W.r_width_rule M
  have d_foot_rule := ok_foot_rule (P := P) (w := w) (base := base) W.r_foot_rule M d_width_rule
  have d_mirrored_rule := ok_mirrored_rule (P := P) (w := w) (base := base) W.r_mirrored_rule M d_width_rule d_foot_rule
  have d_slide_rule := ok_slide_rule (P := P) (w := w) (base := base) W.r_slide_rule M d_way_rule
  have d_part_rule := ok_part_rule (P := P) (w := w) (base := base) W.r_part_rule M d_way_rule
  have d_through_line := ok_through_line (P := P) (w := w) (base := base) W.r_through_line Ft d_through_rule
  have d_meet_point := ok_meet_point (P := P) (w := w) (base := base) W.r_meet_point Ft d_meet_rule
  have d_side_line := ok_side_line (P := P) (w := w) (base := base) W.r_side_line Ft d_side_rule
  have d_square_line := ok_square_line (P := P) (w := w) (base := base) W.r_square_line Ft d_square_rule
  have d_foot_point := ok_foot_point (P := P) (w := w) (base := base) W.r_foot_point Ft d_foot_rule
  have d_mirrored_point := ok_mirrored_point (P := P) (w := w) (base := base) W.r_mirrored_point Ft d_mirrored_rule
  have d_slide_point := ok_slide_point (P := P) (w := w) (base := base) W.r_slide_point Ft d_Poly d_poly_free d_slide_rule
  have d_part_point := ok_part_point (P := P) (w := w) (base := base) W.r_part_point Ft d_part_rule
  have d_l_thing := ok_l_thing (P := P) (w := w) (base := base) W.r_l_thing
  have d_l_fraction := ok_l_fraction (P := P) (w := w) (base := base) W.r_l_fraction B
  have d_l_trimmed := ok_l_trimmed (P := P) (w := w) (base := base) W.r_l_trimmed B
  have d_l_small_term := ok_l_small_term (P := P) (w := w) (base := base) W.r_l_small_term B d_l_thing
  have d_l_sum := ok_l_sum (P := P) (w := w) (base := base) W.r_l_sum B d_l_trimmed
  have d_l_three := ok_l_three (P := P) (w := w) (base := base) W.r_l_three B d_l_small_term d_l_sum
  have d_l_spot := ok_l_spot (P := P) (w := w) (base := base) W.r_l_spot d_worth_at d_frac_by
  have d_l_weighs := ok_l_weighs (P := P) (w := w) (base := base) W.r_l_weighs d_frac_sum d_frac_times
  have d_l_between := ok_l_between (P := P) (w := w) (base := base) W.r_l_between B d_frac_sum d_frac_less d_frac_times
  have L : Lw P w K mg base := ⟨d_l_spot, d_l_weighs, d_l_between, d_worth_at⟩
  have d_l_points_good := ok_l_points (P := P) (w := w) (base := base) W.r_l_points L d_slide_point d_part_point d_through_line
  have d_l_foot_good := ok_l_foot (P := P) (w := w) (base := base) W.r_l_foot B L d_frac_sum d_frac_less d_frac_times d_foot_point d_mirrored_point d_side_line d_square_line
  have d_l_meet_good := ok_l_meet (P := P) (w := w) (base := base) W.r_l_meet L d_frac_times d_meet_point
  exact ok_law F B d_l_three d_l_fraction d_l_points_good d_l_foot_good d_l_meet_good
theorem all_mk {l : PySem.W.OpenLaw} {w : World} {K : PySem.W.Frag} {h : Heap} {mg : Str → Option Value} {fa C f : Addr} (X : K.In h) (G : h.Ns mainGlobals mg) (hfa : mg "law" = some (.ref fa)) {od an : Option Addr} {sl : Array (Option Value)} {oc kV dc pm cd ct : Value}
    (aL : PySem.W.nsIn K mainGlobals "law" = some (some (.ref f))) (lL : K.lookup f = some ⟨oc, od, .func (PySem.W.fnOf "law" "law" (defArgs s_law) (defBody s_law) (defScope s_law) .none kV dc pm an cd ct), sl⟩) (cL : PySem.W.codeIn K cd "law" = true) (kL : PySem.W.keepIn K (.ref f) = true)
    (aC : PySem.W.nsIn K mainGlobals "Poly" = some (some (.ref C))) (pg : PySem.W.plainGet K C Str.empty = true) (hd : PySem.W.hasDictIn K C = true) (po : PySem.W.plainOver K C = true) (sa : PySem.W.findIn K (.ref C) "__setattr__" = some (some (.builtin "object.__setattr__"))) (nT : PySem.W.findIn K (.ref C) "terms" = some none)
    (B : Bi mg) (W : Raws K mg C) :
    ∃ fd : FuncData, (∀ (s : Shared) (v : Value), BindsTo s fd ⟨[v], []⟩ [("_law_script", v)]) ∧ ∀ base : Heap, K.In base → base.Ns mainGlobals mg → FnOk l.prog w K mg base CX0 9 fa fd ["_law_script"] (sp_law K) := by
  have e := hfa.symm.trans (PySem.W.mg_of X G aL)
  cases e
  have T : Txt K mg C := ⟨⟨pg, hd, po, sa⟩, nT, PySem.W.mg_of X G aC⟩
  exact ⟨PySem.W.fnOf "law" "law" (defArgs s_law) (defBody s_law) (defScope s_law) .none kV dc pm an cd ct, fun s v => .of_eq rfl, fun base _ _ => all_ok B T W (fun_mk (st := s_law) lL cL kL)⟩
theorem walk {l : PySem.W.OpenLaw} {q : Program} {loose : List Str} {XP : (Str → Option Value) → Heap → Prop} {YP : World → Heap → Prop} {d : DefRec} {K : Params → PySem.W.Frag} (hn : l.most = some 63) (hdf : d.params.defaults = [])
    (hY : ∀ (w : World) (h : Heap), YP w h → (K w.params).In h)
    (F : ∀ (w : World) (mg : Str → Option Value) (fa : Addr) (h : Heap), (K w.params).In h → h.Ns mainGlobals mg → mg d.name = some (.ref fa) →
      ∃ fd : FuncData, (∀ (s : Shared) (u : Value), BindsTo s fd ⟨[u], []⟩ [("_law_script", u)]) ∧ ∀ base : Heap, (K w.params).In base → base.Ns mainGlobals mg → FnOk l.prog w (K w.params) mg base CX0 9 fa fd ["_law_script"] (sp_law (K w.params))) :
    PySem.W.WalkO q loose XP YP l.row.toRowW d [] (fun f vs => PySem.call f vs) :=
  L2.walk_of (n := 63) (k := 9) (x := "_law_script") (CX := fun _ => CX0) (sp := fun w => sp_law (K w.params)) hn (by decide) hdf ⟨rfl, by decide, by decide⟩ hY F (fun _ _ a ns hl _ hS => ⟨a, ns, rfl, hS, hl, fun _ => rfl⟩) fun _ _ _ _ _ z => z
end ED

open PySem PySem.W PyProof.Rows in
set_option maxRecDepth 100000 in
set_option maxHeartbeats 0 in
theorem PySem.Challenge.cw_everydraw_k16_whole_rules_at_places_holds : PySem.Challenge.rw_everydraw_k16_whole_rules_at_places.Holds := by
  w_on; o_law; k_head; (case hw => w_witness2)
  k_fill
  refine ED.walk (l := PySem.Challenge.rw_everydraw_k16_whole_rules_at_places) rfl rfl (fun w h Y => PySem.W.kIn_of Y) ?F
  case F =>
    intro w mg fa h KX G hmg
    refine' ED.all_mk KX G hmg ?aL ?lL ?cL ?kL ?aC ?pg ?hd ?po ?sa ?nT ?B ?W
    (case aL => k_is)
    (case lL => k_is)
    (case cL => k_is)
    (case kL => k_is)
    (case aC => k_is)
    (case pg => k_is)
    (case hd => k_is)
    (case po => k_is)
    (case sa => k_is)
    (case nT => k_is)
    (case B =>
      refine ⟨PySem.W.mg_none_of KX G ?abs, PySem.W.mg_none_of KX G ?len, PySem.W.mg_none_of KX G ?sorted, PySem.W.mg_none_of KX G ?dict, PySem.W.mg_none_of KX G ?tuple, PySem.W.mg_none_of KX G ?list, PySem.W.mg_none_of KX G ?zip, PySem.W.mg_none_of KX G ?range, PySem.W.mg_none_of KX G ?enumerate⟩
      (case abs => k_is)
      (case len => k_is)
      (case sorted => k_is)
      (case dict => k_is)
      (case tuple => k_is)
      (case list => k_is)
      (case zip => k_is)
      (case range => k_is)
      (case enumerate => k_is))
    (case W =>
      refine ⟨?r_common, ?r_fraction_of, ?r_frac_sum, ?r_frac_less, ?r_frac_times, ?r_frac_by, ?r_raised, ?r_term_at, ?r_worth_at, ?r_gathered, ?r_poly_free, ?r_poly_scaled, ?r_poly_sum, ?r_poly_less, ?r_powers_sum, ?r_poly_times, ?r_init, ?r_plus, ?r_less, ?r_by, ?r_many, ?r_polys_of, ?r_terms_of, ?r_way_rule, ?r_crossed, ?r_through_rule, ?r_meet_rule, ?r_side_rule, ?r_square_rule, ?r_width_rule, ?r_foot_rule, ?r_mirrored_rule, ?r_slide_rule, ?r_part_rule, ?r_through_line, ?r_meet_point, ?r_side_line, ?r_square_line, ?r_foot_point, ?r_mirrored_point, ?r_slide_point, ?r_part_point, ?r_l_thing, ?r_l_fraction, ?r_l_trimmed, ?r_l_small_term, ?r_l_sum, ?r_l_three, ?r_l_spot, ?r_l_weighs, ?r_l_between, ?r_l_points, ?r_l_foot, ?r_l_meet⟩
      (case r_common => (refine' ED.raw_mk KX G ?a ?l ?c ?k); (case a => k_is); (case l => k_is); (case c => k_is); (case k => k_is))
      (case r_fraction_of => (refine' ED.raw_mk KX G ?a ?l ?c ?k); (case a => k_is); (case l => k_is); (case c => k_is); (case k => k_is))
      (case r_frac_sum => (refine' ED.raw_mk KX G ?a ?l ?c ?k); (case a => k_is); (case l => k_is); (case c => k_is); (case k => k_is))
      (case r_frac_less => (refine' ED.raw_mk KX G ?a ?l ?c ?k); (case a => k_is); (case l => k_is); (case c => k_is); (case k => k_is))
      (case r_frac_times => (refine' ED.raw_mk KX G ?a ?l ?c ?k); (case a => k_is); (case l => k_is); (case c => k_is); (case k => k_is))
      (case r_frac_by => (refine' ED.raw_mk KX G ?a ?l ?c ?k); (case a => k_is); (case l => k_is); (case c => k_is); (case k => k_is))
      (case r_raised => (refine' ED.raw_mk KX G ?a ?l ?c ?k); (case a => k_is); (case l => k_is); (case c => k_is); (case k => k_is))
      (case r_term_at => (refine' ED.raw_mk KX G ?a ?l ?c ?k); (case a => k_is); (case l => k_is); (case c => k_is); (case k => k_is))
      (case r_worth_at => (refine' ED.raw_mk KX G ?a ?l ?c ?k); (case a => k_is); (case l => k_is); (case c => k_is); (case k => k_is))
      (case r_gathered => (refine' ED.raw_mk KX G ?a ?l ?c ?k); (case a => k_is); (case l => k_is); (case c => k_is); (case k => k_is))
      (case r_poly_free => (refine' ED.raw_mk KX G ?a ?l ?c ?k); (case a => k_is); (case l => k_is); (case c => k_is); (case k => k_is))
      (case r_poly_scaled => (refine' ED.raw_mk KX G ?a ?l ?c ?k); (case a => k_is); (case l => k_is); (case c => k_is); (case k => k_is))
      (case r_poly_sum => (refine' ED.raw_mk KX G ?a ?l ?c ?k); (case a => k_is); (case l => k_is); (case c => k_is); (case k => k_is))
      (case r_poly_less => (refine' ED.raw_mk KX G ?a ?l ?c ?k); (case a => k_is); (case l => k_is); (case c => k_is); (case k => k_is))
      (case r_powers_sum => (refine' ED.raw_mk KX G ?a ?l ?c ?k); (case a => k_is); (case l => k_is); (case c => k_is); (case k => k_is))
      (case r_poly_times => (refine' ED.raw_mk KX G ?a ?l ?c ?k); (case a => k_is); (case l => k_is); (case c => k_is); (case k => k_is))
      (case r_init => (refine' ED.rawI_mk ?m ?n ?a ?i ?l ?c ?k); (case m => k_is); (case n => k_is); (case a => k_is); (case i => k_is); (case l => k_is); (case c => k_is); (case k => k_is))
      (case r_plus => (refine' ED.rawM_mk ?a ?i ?l ?c ?k); (case a => k_is); (case i => k_is); (case l => k_is); (case c => k_is); (case k => k_is))
      (case r_less => (refine' ED.rawM_mk ?a ?i ?l ?c ?k); (case a => k_is); (case i => k_is); (case l => k_is); (case c => k_is); (case k => k_is))
      (case r_by => (refine' ED.rawM_mk ?a ?i ?l ?c ?k); (case a => k_is); (case i => k_is); (case l => k_is); (case c => k_is); (case k => k_is))
      (case r_many => (refine' ED.rawM_mk ?a ?i ?l ?c ?k); (case a => k_is); (case i => k_is); (case l => k_is); (case c => k_is); (case k => k_is))
      (case r_polys_of => (refine' ED.raw_mk KX G ?a ?l ?c ?k); (case a => k_is); (case l => k_is); (case c => k_is); (case k => k_is))
      (case r_terms_of => (refine' ED.raw_mk KX G ?a ?l ?c ?k); (case a => k_is); (case l => k_is); (case c => k_is); (case k => k_is))
      (case r_way_rule => (refine' ED.raw_mk KX G ?a ?l ?c ?k); (case a => k_is); (case l => k_is); (case c => k_is); (case k => k_is))
      (case r_crossed => (refine' ED.raw_mk KX G ?a ?l ?c ?k); (case a => k_is); (case l => k_is); (case c => k_is); (case k => k_is))
      (case r_through_rule => (refine' ED.raw_mk KX G ?a ?l ?c ?k); (case a => k_is); (case l => k_is); (case c => k_is); (case k => k_is))
      (case r_meet_rule => (refine' ED.raw_mk KX G ?a ?l ?c ?k); (case a => k_is); (case l => k_is); (case c => k_is); (case k => k_is))
      (case r_side_rule => (refine' ED.raw_mk KX G ?a ?l ?c ?k); (case a => k_is); (case l => k_is); (case c => k_is); (case k => k_is))
      (case r_square_rule => (refine' ED.raw_mk KX G ?a ?l ?c ?k); (case a => k_is); (case l => k_is); (case c => k_is); (case k => k_is))
      (case r_width_rule => (refine' ED.raw_mk KX G ?a ?l ?c ?k); (case a => k_is); (case l => k_is); (case c => k_is); (case k => k_is))
      (case r_foot_rule => (refine' ED.raw_mk KX G ?a ?l ?c ?k); (case a => k_is); (case l => k_is); (case c => k_is); (case k => k_is))
      (case r_mirrored_rule => (refine' ED.raw_mk KX G ?a ?l ?c ?k); (case a => k_is); (case l => k_is); (case c => k_is); (case k => k_is))
      (case r_slide_rule => (refine' ED.raw_mk KX G ?a ?l ?c ?k); (case a => k_is); (case l => k_is); (case c => k_is); (case k => k_is))
      (case r_part_rule => (refine' ED.raw_mk KX G ?a ?l ?c ?k); (case a => k_is); (case l => k_is); (case c => k_is); (case k => k_is))
      (case r_through_line => (refine' ED.raw_mk KX G ?a ?l ?c ?k); (case a => k_is); (case l => k_is); (case c => k_is); (case k => k_is))
      (case r_meet_point => (refine' ED.raw_mk KX G ?a ?l ?c ?k); (case a => k_is); (case l => k_is); (case c => k_is); (case k => k_is))
      (case r_side_line => (refine' ED.raw_mk KX G ?a ?l ?c ?k); (case a => k_is); (case l => k_is); (case c => k_is); (case k => k_is))
      (case r_square_line => (refine' ED.raw_mk KX G ?a ?l ?c ?k); (case a => k_is); (case l => k_is); (case c => k_is); (case k => k_is))
      (case r_foot_point => (refine' ED.raw_mk KX G ?a ?l ?c ?k); (case a => k_is); (case l => k_is); (case c => k_is); (case k => k_is))
      (case r_mirrored_point => (refine' ED.raw_mk KX G ?a ?l ?c ?k); (case a => k_is); (case l => k_is); (case c => k_is); (case k => k_is))
      (case r_slide_point => (refine' ED.raw_mk KX G ?a ?l ?c ?k); (case a => k_is); (case l => k_is); (case c => k_is); (case k => k_is))
      (case r_part_point => (refine' ED.raw_mk KX G ?a ?l ?c ?k); (case a => k_is); (case l => k_is); (case c => k_is); (case k => k_is))
      (case r_l_thing => (refine' ED.raw_mk KX G ?a ?l ?c ?k); (case a => k_is); (case l => k_is); (case c => k_is); (case k => k_is))
      (case r_l_fraction => (refine' ED.raw_mk KX G ?a ?l ?c ?k); (case a => k_is); (case l => k_is); (case c => k_is); (case k => k_is))
      (case r_l_trimmed => (refine' ED.raw_mk KX G ?a ?l ?c ?k); (case a => k_is); (case l => k_is); (case c => k_is); (case k => k_is))
      (case r_l_small_term => (refine' ED.raw_mk KX G ?a ?l ?c ?k); (case a => k_is); (case l => k_is); (case c => k_is); (case k => k_is))
      (case r_l_sum => (refine' ED.raw_mk KX G ?a ?l ?c ?k); (case a => k_is); (case l => k_is); (case c => k_is); (case k => k_is))
      (case r_l_three => (refine' ED.raw_mk KX G ?a ?l ?c ?k); (case a => k_is); (case l => k_is); (case c => k_is); (case k => k_is))
      (case r_l_spot => (refine' ED.raw_mk KX G ?a ?l ?c ?k); (case a => k_is); (case l => k_is); (case c => k_is); (case k => k_is))
      (case r_l_weighs => (refine' ED.raw_mk KX G ?a ?l ?c ?k); (case a => k_is); (case l => k_is); (case c => k_is); (case k => k_is))
      (case r_l_between => (refine' ED.raw_mk KX G ?a ?l ?c ?k); (case a => k_is); (case l => k_is); (case c => k_is); (case k => k_is))
      (case r_l_points => (refine' ED.raw_mk KX G ?a ?l ?c ?k); (case a => k_is); (case l => k_is); (case c => k_is); (case k => k_is))
      (case r_l_foot => (refine' ED.raw_mk KX G ?a ?l ?c ?k); (case a => k_is); (case l => k_is); (case c => k_is); (case k => k_is))
      (case r_l_meet => (refine' ED.raw_mk KX G ?a ?l ?c ?k); (case a => k_is); (case l => k_is); (case c => k_is); (case k => k_is)))
#print axioms PySem.Challenge.cw_everydraw_k16_whole_rules_at_places_holds
