import PyProof.Rows.All
import Wide.All
import OpenK.AllK
import Wide.FinOn
import HandS.ForMost
import HandS.IsInst
import HandS.Wide
import HandS.WideBits
import HandS.Codes
import PySem.Challenge.RW_signfours_k89_whole_sums_of_three_and_tw
set_option Elab.async false
set_option linter.all false
set_option maxRecDepth 100000
set_option maxHeartbeats 4000000
namespace M2
/-! two squares -/
def Pr (p : Nat) : Prop := 2 ≤ p ∧ ∀ d, d ∣ p → d = 1 ∨ d = p
def Sum2 (n : Nat) : Prop := ∃ a b : Nat, a * a + b * b = n

theorem Pr.dvd_mul {p a b : Nat} (hp : Pr p) (h : p ∣ a * b) : p ∣ a ∨ p ∣ b := by
  by_cases ha : p ∣ a
  · exact .inl ha
  · right
    have hg : Nat.gcd p a = 1 := by
      rcases hp.2 _ (Nat.gcd_dvd_left p a) with h | h
      · exact h
      · exact absurd (h ▸ Nat.gcd_dvd_right p a) ha
    exact Nat.Coprime.dvd_of_dvd_mul_left hg h
theorem Pr.dvd_pow {p a : Nat} (hp : Pr p) : ∀ {k : Nat}, p ∣ a ^ k → p ∣ a
  | 0, h => by
    have h1 := hp.1
    rw [Nat.pow_zero] at h
    have := Nat.le_of_dvd (by decide) h
    omega
  | k + 1, h => by
    rw [Nat.pow_succ] at h
    rcases hp.dvd_mul h with h | h
    · exact Pr.dvd_pow hp h
    · exact h
theorem Sum2.mul {m n : Nat} (h : Sum2 m) (h' : Sum2 n) : Sum2 (m * n) := by
  obtain ⟨a, b, rfl⟩ := h
  obtain ⟨c, d, rfl⟩ := h'
  refine ⟨a * c + b * d, ((a : Int) * d - b * c).natAbs, ?_⟩
  have e := Int.natAbs_mul_self (a := (a : Int) * d - b * c)
  have : ((((a * c + b * d) * (a * c + b * d) + ((a : Int) * d - b * c).natAbs * ((a : Int) * d - b * c).natAbs : Nat) : Int)) = (((a * a + b * b) * (c * c + d * d) : Nat) : Int) := by
    push_cast
    rw [show ((((a : Int) * d - b * c).natAbs : Int)) * ((((a : Int) * d - b * c).natAbs : Int)) = ((a : Int) * d - b * c) * ((a : Int) * d - b * c) from by exact_mod_cast e]
    grind
  exact_mod_cast this

/-! ### no square leaves -1 by q, if q leaves 3 by 4 -/
theorem no3 : ∀ (N q : Nat), q < N → q % 4 = 3 → ∀ x : Int, ¬ (q : Int) ∣ x * x + 1 := by
  intro N
  induction N with
  | zero => intro q h; omega
  | succ N ih =>
    intro q hq h4 x hx
    have hq3 : 3 ≤ q := by omega
    have h0 : 0 ≤ x % (q : Int) := Int.emod_nonneg x (by omega)
    have h1 : x % (q : Int) < q := Int.emod_lt_of_pos x (by omega)
    have hr : (q : Int) ∣ (x % q) * (x % q) + 1 := by
      have e := Int.emod_add_mul_ediv x q
      obtain ⟨m, hm⟩ := hx
      refine ⟨m - (x / q) * (x + x % q), ?_⟩
      grind
    obtain ⟨e, he0, he1, he2, hd⟩ : ∃ e : Int, 0 ≤ e ∧ e < q ∧ e % 2 = 0 ∧ (q : Int) ∣ e * e + 1 := by
      by_cases hev : (x % (q : Int)) % 2 = 0
      · exact ⟨_, h0, h1, hev, hr⟩
      · refine ⟨q - x % q, by omega, by omega, by omega, ?_⟩
        obtain ⟨m, hm⟩ := hr
        refine ⟨m + q - 2 * (x % q), ?_⟩
        grind
    obtain ⟨m, hm⟩ := hd
    obtain ⟨t, rfl⟩ : ∃ t, e = 2 * t := ⟨e / 2, by omega⟩
    have hmpos : 0 < m := by
      apply Int.pos_of_mul_pos_right (a := (q : Int)) _ (by omega)
      rw [← hm]
      have := Int.mul_nonneg he0 he0
      omega
    have hmq : m < q := by
      apply Int.lt_of_mul_lt_mul_left (a := (q : Int)) _ (by omega)
      rw [← hm]
      have a1 : 2 * t ≤ (q : Int) - 1 := by omega
      have a2 : 2 * t * (2 * t) ≤ ((q : Int) - 1) * ((q : Int) - 1) := Int.mul_le_mul a1 a1 he0 (by omega)
      have a3 : ((q : Int) - 1) * ((q : Int) - 1) = (q : Int) * q - 2 * q + 1 := by grind
      omega
    have hm4 : m % 4 = 3 := by
      have b1 : ((q : Int) * m) % 4 = 1 := by
        rw [← hm]
        have : 2 * t * (2 * t) = 4 * (t * t) := by grind
        rw [this]
        omega
      have b2 : (q : Int) % 4 = 3 := by omega
      rw [Int.mul_emod, b2] at b1
      have : 0 ≤ m % 4 := Int.emod_nonneg _ (by decide)
      have : m % 4 < 4 := Int.emod_lt_of_pos _ (by decide)
      omega
    obtain ⟨k, rfl⟩ : ∃ k : Nat, m = k := ⟨m.toNat, by omega⟩
    exact ih k (by omega) (by omega) (2 * t) ⟨q, by rw [hm, Int.mul_comm]⟩

theorem bez : ∀ (N a b : Nat), b < N → ∃ x y : Int, (a : Int) * x + b * y = (Nat.gcd a b : Int) := by
  intro N
  induction N with
  | zero => intro a b h; omega
  | succ N ih =>
    intro a b h
    by_cases hb : b = 0
    · subst hb
      exact ⟨1, 0, by simp⟩
    · obtain ⟨x, y, e⟩ := ih b (a % b) (by have := Nat.mod_lt a (Nat.pos_of_ne_zero hb); omega)
      refine ⟨y, x - (a / b : Nat) * y, ?_⟩
      rw [Nat.gcd_comm a b, Nat.gcd_rec b a, Nat.gcd_comm (a % b) b, ← e]
      have d : (a : Int) = b * (a / b : Nat) + (a % b : Nat) := by exact_mod_cast (Nat.div_add_mod a b).symm
      grind

/-- a prime that leaves 3 by 4 and divides a sum of two squares divides both -/
theorem pr3 {q a b : Nat} (hq : Pr q) (h4 : q % 4 = 3) (h : q ∣ a * a + b * b) : q ∣ b := by
  apply Classical.byContradiction
  intro hb
  have hg : Nat.gcd q b = 1 := by
    rcases hq.2 _ (Nat.gcd_dvd_left q b) with h | h
    · exact h
    · exact absurd (h ▸ Nat.gcd_dvd_right q b) hb
  obtain ⟨x, y, e⟩ := bez _ q b (Nat.lt_succ_self _)
  rw [hg] at e
  obtain ⟨m, hm⟩ := h
  have hm' : (a : Int) * a + b * b = q * m := by exact_mod_cast hm
  have e1 : (b : Int) * y = 1 - q * x := by
    have : (((1 : Nat) : Int)) = 1 := rfl
    omega
  refine no3 _ q (Nat.lt_succ_self _) h4 (a * y) ⟨m * (y * y) + 2 * x - q * (x * x), ?_⟩
  have e2 : (b : Int) * y * (b * y) = (1 - q * x) * (1 - q * x) := by rw [e1]
  grind
theorem pr3' {q a b : Nat} (hq : Pr q) (h4 : q % 4 = 3) (h : q ∣ a * a + b * b) : q ∣ a ∧ q ∣ b :=
  ⟨pr3 hq h4 (by rw [Nat.add_comm]; exact h), pr3 hq h4 h⟩
theorem odd3 {q : Nat} (hq : Pr q) (h4 : q % 4 = 3) : ∀ (j m : Nat), ¬ q ∣ m → ¬ Sum2 (m * q ^ (2 * j + 1)) := by
  intro j
  induction j with
  | zero =>
    rintro m hm ⟨a, b, e⟩
    rw [show 2 * 0 + 1 = 1 from rfl, Nat.pow_one] at e
    obtain ⟨⟨c, rfl⟩, ⟨d, rfl⟩⟩ := pr3' hq h4 ⟨m, by rw [e, Nat.mul_comm]⟩
    have hq0 : 0 < q := by have := hq.1; omega
    apply hm
    refine ⟨c * c + d * d, ?_⟩
    apply Nat.eq_of_mul_eq_mul_right hq0
    rw [← e]
    grind
  | succ j ih =>
    rintro m hm ⟨a, b, e⟩
    have e' : a * a + b * b = q * q * (m * q ^ (2 * j + 1)) := by
      rw [e, show 2 * (j + 1) + 1 = (2 * j + 1) + 2 from by omega, Nat.pow_add]
      generalize q ^ (2 * j + 1) = z
      rw [show q ^ 2 = q * q from by rw [Nat.pow_succ, Nat.pow_one]]
      grind
    obtain ⟨⟨c, rfl⟩, ⟨d, rfl⟩⟩ := pr3' hq h4 ⟨q * (m * q ^ (2 * j + 1)), by rw [e', Nat.mul_assoc]⟩
    have hq0 : 0 < q := by have := hq.1; omega
    refine ih m hm ⟨c, d, ?_⟩
    apply Nat.eq_of_mul_eq_mul_left (Nat.mul_pos hq0 hq0)
    rw [← e']
    grind

/-! ### a prime that leaves 1 by 4 is a sum of two squares (by two involutions) -/
theorem even_of_no_fix {α : Type} [DecidableEq α] (f : α → α) : ∀ (n : Nat) (l : List α), l.length ≤ n → l.Nodup → (∀ x ∈ l, f x ∈ l ∧ f (f x) = x ∧ f x ≠ x) → l.length % 2 = 0 := by
  intro n
  induction n with
  | zero =>
    intro l h _ _
    omega
  | succ n ih =>
    intro l h hn hf
    cases l with
    | nil => rfl
    | cons x t =>
      have hx := hf x (List.mem_cons_self)
      obtain ⟨hxt, hnt⟩ := List.nodup_cons.mp hn
      have hm : f x ∈ t := by
        rcases List.mem_cons.mp hx.1 with q | q
        · exact absurd q hx.2.2
        · exact q
      have hl : (t.erase (f x)).length = t.length - 1 := List.length_erase_of_mem hm
      have hpos : 0 < t.length := List.length_pos_of_mem hm
      have key := ih (t.erase (f x)) (by rw [hl]; rw [List.length_cons] at h; omega) (hnt.erase _) (fun u hu => by
        rw [hnt.mem_erase_iff] at hu
        obtain ⟨u1, u2⟩ := hu
        have hu3 := hf u (List.mem_cons_of_mem _ u2)
        refine ⟨?_, hu3.2.1, hu3.2.2⟩
        rw [hnt.mem_erase_iff]
        refine ⟨fun z => ?_, ?_⟩
        · have : u = x := by rw [← hu3.2.1, z, hx.2.1]
          exact hxt (this ▸ u2)
        · rcases List.mem_cons.mp hu3.1 with q | q
          · exact absurd (by rw [← hu3.2.1, q]) u1
          · exact q)
      rw [List.length_cons]
      rw [hl] at key
      omega
theorem odd_of_one_fix {α : Type} [DecidableEq α] (f : α → α) (l : List α) (a : α) (hn : l.Nodup) (ha : a ∈ l) (hfa : f a = a) (hf : ∀ x ∈ l, f x ∈ l ∧ f (f x) = x ∧ (f x = x → x = a)) : l.length % 2 = 1 := by
  have key := even_of_no_fix f _ (l.erase a) (Nat.le_refl _) (hn.erase _) (fun u hu => by
    rw [hn.mem_erase_iff] at hu
    obtain ⟨u1, u2⟩ := hu
    obtain ⟨h1, h2, h3⟩ := hf u u2
    refine ⟨?_, h2, fun z => u1 (h3 z)⟩
    rw [hn.mem_erase_iff]
    exact ⟨fun z => u1 (by rw [← h2, z, hfa]), h1⟩)
  rw [List.length_erase_of_mem ha] at key
  have := List.length_pos_of_mem ha
  omega
def trip (B : Nat) : List (Nat × Nat × Nat) := (List.range B).flatMap fun x => (List.range B).flatMap fun y => (List.range B).map fun z => (x, y, z)
theorem mem_trip {B x y z : Nat} : (x, y, z) ∈ trip B ↔ x < B ∧ y < B ∧ z < B := by
  simp only [trip, List.mem_flatMap, List.mem_map, List.mem_range]
  constructor
  · rintro ⟨a, ha, b, hb, c, hc, q⟩
    injection q with q1 q
    injection q with q2 q3
    subst q1 q2 q3
    exact ⟨ha, hb, hc⟩
  · rintro ⟨h1, h2, h3⟩
    exact ⟨x, h1, y, h2, z, h3, rfl⟩
theorem nodup_trip (B : Nat) : (trip B).Nodup := by
  unfold trip List.Nodup
  rw [List.pairwise_flatMap]
  refine ⟨fun x _ => ?_, ?_⟩
  · rw [List.pairwise_flatMap]
    refine ⟨fun y _ => ?_, ?_⟩
    · rw [List.pairwise_map]
      exact List.Pairwise.imp (fun h q => h (by injection q with _ q; injection q)) (List.nodup_range (n := B))
    · refine List.Pairwise.imp (fun h => ?_) (List.nodup_range (n := B))
      intro u hu v hv q
      obtain ⟨_, _, rfl⟩ := List.mem_map.mp hu
      obtain ⟨_, _, rfl⟩ := List.mem_map.mp hv
      injection q with _ q
      injection q with q _
      exact h q
  · refine List.Pairwise.imp (fun h => ?_) (List.nodup_range (n := B))
    intro u hu v hv q
    obtain ⟨_, _, hu⟩ := List.mem_flatMap.mp hu
    obtain ⟨_, _, hv⟩ := List.mem_flatMap.mp hv
    obtain ⟨_, _, rfl⟩ := List.mem_map.mp hu
    obtain ⟨_, _, rfl⟩ := List.mem_map.mp hv
    injection q with q _
    exact h q
def zag : Nat × Nat × Nat → Nat × Nat × Nat
  | (x, y, z) => if x + z < y then (x + 2 * z, z, y - x - z) else if x < 2 * y then (2 * y - x, y, x + z - y) else (x - 2 * y, x + z - y, y)
def swp : Nat × Nat × Nat → Nat × Nat × Nat
  | (x, y, z) => (x, z, y)
def zl (p : Nat) : List (Nat × Nat × Nat) := (trip (p + 1)).filter fun t => decide (t.1 * t.1 + 4 * (t.2.1 * t.2.2) = p)
theorem pr_sq {p x : Nat} (hp : Pr p) (h : x * x = p) : False := by
  have h1 := hp.1
  rcases hp.2 x ⟨x, h.symm⟩ with e | e
  · subst e; omega
  · have : 2 * p ≤ x * x := by rw [e]; exact Nat.mul_le_mul_right p h1
    omega
theorem zpos {p x y z : Nat} (hp : Pr p) (h4 : p % 4 = 1) (h : x * x + 4 * (y * z) = p) : 0 < x ∧ 0 < y ∧ 0 < z := by
  refine ⟨?_, ?_, ?_⟩
  · rcases Nat.eq_zero_or_pos x with e | e
    · subst e; omega
    · exact e
  · rcases Nat.eq_zero_or_pos y with e | e
    · subst e
      rw [Nat.zero_mul] at h
      exact (pr_sq hp h).elim
    · exact e
  · rcases Nat.eq_zero_or_pos z with e | e
    · subst e
      rw [Nat.mul_zero] at h
      exact (pr_sq hp h).elim
    · exact e
theorem mem_zl {p x y z : Nat} (hp : Pr p) (h4 : p % 4 = 1) : (x, y, z) ∈ zl p ↔ x * x + 4 * (y * z) = p := by
  unfold zl
  rw [List.mem_filter, mem_trip]
  simp only [decide_eq_true_eq]
  refine ⟨fun h => h.2, fun h => ⟨?_, h⟩⟩
  obtain ⟨h1, h2, h3⟩ := zpos hp h4 h
  have a1 : x ≤ x * x := Nat.le_mul_of_pos_left x h1
  have a2 : y ≤ y * z := Nat.le_mul_of_pos_right y h3
  have a3 : z ≤ y * z := Nat.le_mul_of_pos_left z h2
  omega
theorem nodup_zl (p : Nat) : (zl p).Nodup := (nodup_trip _).filter _
theorem sum_pr1 {p : Nat} (hp : Pr p) (h4 : p % 4 = 1) : Sum2 p := by
  have hodd : (zl p).length % 2 = 1 := by
    refine odd_of_one_fix zag (zl p) (1, 1, p / 4) (nodup_zl p) ?_ ?_ ?_
    · rw [mem_zl hp h4]; omega
    · have := hp.1
      show (if 1 + p / 4 < 1 then _ else if 1 < 2 * 1 then (2 * 1 - 1, 1, 1 + p / 4 - 1) else _) = (1, 1, p / 4)
      rw [if_neg (by omega), if_pos (by omega), show 1 + p / 4 - 1 = p / 4 from by omega]
    · rintro ⟨x, y, z⟩ hm
      have h := (mem_zl hp h4).mp hm
      obtain ⟨h1, h2, h3⟩ := zpos hp h4 h
      by_cases c1 : x + z < y
      · have e : zag (x, y, z) = (x + 2 * z, z, y - x - z) := if_pos c1
        obtain ⟨d, rfl⟩ : ∃ d, y = x + z + d := ⟨y - x - z, by omega⟩
        have ed : x + z + d - x - z = d := by omega
        rw [e, ed, mem_zl hp h4]
        refine ⟨?_, ?_, ?_⟩
        · rw [← h]; grind
        · show (if x + 2 * z + d < z then _ else if x + 2 * z < 2 * z then _ else (x + 2 * z - 2 * z, x + 2 * z + d - z, z)) = _
          rw [if_neg (by omega), if_neg (by omega), show x + 2 * z - 2 * z = x from by omega, show x + 2 * z + d - z = x + z + d from by omega]
        · intro q
          injection q with q _
          omega
      · by_cases c2 : x < 2 * y
        · have e : zag (x, y, z) = (2 * y - x, y, x + z - y) := by
            show (if x + z < y then _ else if x < 2 * y then _ else _) = _
            rw [if_neg c1, if_pos c2]
          obtain ⟨u, hu⟩ : ∃ u, u + x = 2 * y := ⟨2 * y - x, by omega⟩
          obtain ⟨v, hv⟩ : ∃ v, v + y = x + z := ⟨x + z - y, by omega⟩
          rw [e, show 2 * y - x = u from by omega, show x + z - y = v from by omega, mem_zl hp h4]
          refine ⟨?_, ?_, ?_⟩
          · have hu' : (u : Int) = 2 * y - x := by omega
            have hv' : (v : Int) = x + z - y := by omega
            have h' : (x : Int) * x + 4 * (y * z) = p := by exact_mod_cast h
            have : (u : Int) * u + 4 * (y * v) = p := by
              rw [← h', hu', hv']; grind
            exact_mod_cast this
          · show (if u + v < y then _ else if u < 2 * y then (2 * y - u, y, u + v - y) else _) = _
            rw [if_neg (by omega), if_pos (by omega), show 2 * y - u = x from by omega, show u + v - y = z from by omega]
          · intro q
            injection q with q1 q2
            have exy : x = y := by omega
            subst exy
            have hd : x ∣ p := ⟨x + 4 * z, by rw [← h]; grind⟩
            rcases hp.2 x hd with e1 | e1
            · subst e1
              rw [show z = p / 4 from by omega]
            · exfalso
              have : p * p ≤ p := by
                have : p * p = x * x := by rw [e1]
                omega
              have := hp.1
              have : 2 * p ≤ p * p := Nat.mul_le_mul_right p this
              omega
        · have e : zag (x, y, z) = (x - 2 * y, x + z - y, y) := by
            show (if x + z < y then _ else if x < 2 * y then _ else _) = _
            rw [if_neg c1, if_neg c2]
          obtain ⟨u, hu⟩ : ∃ u, x = u + 2 * y := ⟨x - 2 * y, by omega⟩
          subst hu
          rw [e, show u + 2 * y - 2 * y = u from by omega, show u + 2 * y + z - y = u + y + z from by omega, mem_zl hp h4]
          refine ⟨?_, ?_, ?_⟩
          · rw [← h]; grind
          · show (if u + y < u + y + z then (u + 2 * y, y, u + y + z - u - y) else _) = _
            rw [if_pos (by omega), show u + y + z - u - y = z from by omega]
          · intro q
            injection q with q _
            omega
  apply Classical.byContradiction
  intro hno
  have heven := even_of_no_fix swp _ (zl p) (Nat.le_refl _) (nodup_zl p) (by
    rintro ⟨x, y, z⟩ hm
    have h := (mem_zl hp h4).mp hm
    refine ⟨(mem_zl hp h4).mpr (by rw [← h, Nat.mul_comm z y]), rfl, fun q => hno ?_⟩
    injection q with _ q
    injection q with q _
    subst q
    exact ⟨x, 2 * z, by rw [← h]; grind⟩)
  omega
end M2

namespace M3
/-! three squares up to 10 ^ 7, by bits -/
def Sum3 (n : Nat) : Prop := ∃ a b c : Nat, a * a + b * b + c * c = n
noncomputable def sqB (lo k : Nat) : Nat → Nat := Nat.rec (motive := fun _ => Nat → Nat) (fun i => 1 <<< (i * (2 * lo + i))) (fun k ih i => ih i ||| ih (i + 2 ^ k)) k
noncomputable def orB (S k : Nat) : Nat → Nat := Nat.rec (motive := fun _ => Nat → Nat) (fun y => S <<< (y * y)) (fun k ih y => ih y ||| ih (y + 2 ^ k)) k
noncomputable def patB (k : Nat) : Nat := Nat.rec (motive := fun _ => Nat) 110 (fun k ih => ih ||| (ih <<< (8 * 2 ^ k))) k
noncomputable def chk (lo k off e : Nat) : Bool :=
  Nat.beq (((orB (orB (sqB lo k 0 % 2 ^ (off + 1048576)) 9 0) 9 0 >>> off) ||| (1 <<< e)) &&& patB 17) (patB 17)
theorem sqB_bit {lo k i j : Nat} (h : (sqB lo k i).testBit j = true) : ∃ x, lo * lo + j = (lo + x) * (lo + x) := by
  induction k generalizing i with
  | zero =>
    have h' : (1 <<< (i * (2 * lo + i))).testBit j = true := h
    rw [Nat.testBit_shiftLeft] at h'
    simp only [Bool.and_eq_true, decide_eq_true_eq] at h'
    obtain ⟨h1, h2⟩ := h'
    have h3 : j - i * (2 * lo + i) = 0 := by
      apply Classical.byContradiction
      intro h3
      have : (1 : Nat).testBit (j - i * (2 * lo + i)) = false := by
        exact Nat.testBit_lt_two_pow (Nat.lt_of_lt_of_le (show 1 < 2 ^ 1 by decide) (Nat.pow_le_pow_right (by decide) (by omega)))
      rw [this] at h2
      cases h2
    refine ⟨i, ?_⟩
    have : j = i * (2 * lo + i) := by omega
    rw [this]
    grind
  | succ k ih =>
    have h' : (sqB lo k i ||| sqB lo k (i + 2 ^ k)).testBit j = true := h
    rw [Nat.testBit_or, Bool.or_eq_true] at h'
    rcases h' with h | h
    · exact ih h
    · exact ih h
theorem orB_bit {S k y j : Nat} (h : (orB S k y).testBit j = true) : ∃ x, x * x ≤ j ∧ S.testBit (j - x * x) = true := by
  induction k generalizing y with
  | zero =>
    have h' : (S <<< (y * y)).testBit j = true := h
    rw [Nat.testBit_shiftLeft] at h'
    simp only [Bool.and_eq_true, decide_eq_true_eq] at h'
    exact ⟨y, h'.1, h'.2⟩
  | succ k ih =>
    have h' : (orB S k y ||| orB S k (y + 2 ^ k)).testBit j = true := h
    rw [Nat.testBit_or, Bool.or_eq_true] at h'
    rcases h' with h | h
    · exact ih h
    · exact ih h
theorem patB_bit {k : Nat} : ∀ j, (patB k).testBit j = (decide (j < 8 * 2 ^ k) && (110 : Nat).testBit (j % 8)) := by
  induction k with
  | zero =>
    intro j
    show (110 : Nat).testBit j = _
    by_cases hj : j < 8
    · rw [Nat.mod_eq_of_lt hj, decide_eq_true (by omega), Bool.true_and]
    · rw [decide_eq_false (by omega), Bool.false_and]
      apply Nat.testBit_lt_two_pow
      exact Nat.lt_of_lt_of_le (show 110 < 2 ^ 8 by decide) (Nat.pow_le_pow_right (by decide) (by omega))
  | succ k ih =>
    intro j
    show (patB k ||| (patB k <<< (8 * 2 ^ k))).testBit j = _
    rw [Nat.testBit_or, Nat.testBit_shiftLeft, ih, ih, Nat.pow_succ]
    generalize 2 ^ k = z
    by_cases h1 : j < 8 * z
    · rw [decide_eq_true h1, decide_eq_false (show ¬ j ≥ 8 * z by omega), decide_eq_true (show j < 8 * (z * 2) by omega)]
      simp
    · rw [decide_eq_false h1, decide_eq_true (show j ≥ 8 * z by omega), show (j - 8 * z) % 8 = j % 8 by omega]
      by_cases h2 : j < 8 * (z * 2)
      · rw [decide_eq_true h2, decide_eq_true (show j - 8 * z < 8 * z by omega)]
        simp
      · rw [decide_eq_false h2, decide_eq_false (show ¬ j - 8 * z < 8 * z by omega)]
        simp
theorem adm_bit : ∀ r, r < 8 → r % 4 ≠ 0 → r ≠ 7 → (110 : Nat).testBit r = true := by decide
theorem chk_ok {lo k off e : Nat} (hc : chk lo k off e = true) {j : Nat} (hj : j < 1048576) (h4 : j % 4 ≠ 0) (h8 : j % 8 ≠ 7) (he : j ≠ e) : Sum3 (lo * lo + off + j) := by
  have h := Nat.eq_of_beq_eq_true hc
  have hp : (patB 17).testBit j = true := by
    rw [patB_bit, decide_eq_true (show j < 8 * 2 ^ 17 by omega), Bool.true_and]
    exact adm_bit _ (Nat.mod_lt _ (by decide)) (by omega) h8
  rw [← h, Nat.testBit_and, Bool.and_eq_true, Nat.testBit_or, Bool.or_eq_true] at hp
  have hb := hp.1
  rcases hb with hb | hb
  · rw [Nat.testBit_shiftRight] at hb
    obtain ⟨z, z1, z2⟩ := orB_bit hb
    obtain ⟨y, y1, y2⟩ := orB_bit z2
    rw [Nat.testBit_mod_two_pow, Bool.and_eq_true] at y2
    obtain ⟨x, hx⟩ := sqB_bit y2.2
    refine ⟨lo + x, y, z, ?_⟩
    omega
  · exfalso
    rw [Nat.testBit_shiftLeft] at hb
    simp only [Bool.and_eq_true, decide_eq_true_eq] at hb
    have h3 : j - e ≠ 0 := by omega
    have : (1 : Nat).testBit (j - e) = false := by
      exact Nat.testBit_lt_two_pow (Nat.lt_of_lt_of_le (show 1 < 2 ^ 1 by decide) (Nat.pow_le_pow_right (by decide) (by omega)))
    rw [this] at hb
    exact absurd hb.2 (by decide)
theorem w0 : chk 0 11 0 0 = true := by decide +kernel
theorem w1 : chk 725 10 522951 0 = true := by decide +kernel
theorem w2 : chk 1254 10 524636 0 = true := by decide +kernel
theorem w3 : chk 1619 9 524567 0 = true := by decide +kernel
theorem w4 : chk 1916 9 523248 0 = true := by decide +kernel
theorem w5 : chk 2172 9 525296 0 = true := by decide +kernel
theorem w6 : chk 2401 9 526655 189715 = true := by decide +kernel
theorem w7 : chk 2611 9 522711 0 = true := by decide +kernel
theorem w8 : chk 2804 9 526192 458675 = true := by decide +kernel
theorem w9 : chk 2985 8 526959 0 = true := by decide +kernel
theorem win {A lo k off e : Nat} (hc : chk lo k off e = true) (hA : lo * lo + off = A) (hA8 : A % 8 = 0) {n : Nat} (h1 : A ≤ n) (h2 : n < A + 1048576) (h4 : n % 4 ≠ 0) (h8 : n % 8 ≠ 7) (he : Sum3 (A + e) ∨ e = 0) : Sum3 n := by
  by_cases q : n - A = e
  · rcases he with he | he
    · rw [show n = A + e by omega]
      exact he
    · omega
  · have := chk_ok hc (j := n - A) (by omega) (by omega) (by omega) q
    rw [show lo * lo + off + (n - A) = n by omega] at this
    exact this
theorem sum3 {n : Nat} (h : n ≤ 10000000) (h4 : n % 4 ≠ 0) (h8 : n % 8 ≠ 7) : Sum3 n := by
  by_cases c0 : n < 1048576
  · exact win (A := 0) w0 (by decide) (by decide) (by omega) (by omega) h4 h8 (.inr rfl)
  by_cases c1 : n < 2097152
  · exact win (A := 1048576) w1 (by decide) (by decide) (by omega) (by omega) h4 h8 (.inr rfl)
  by_cases c2 : n < 3145728
  · exact win (A := 2097152) w2 (by decide) (by decide) (by omega) (by omega) h4 h8 (.inr rfl)
  by_cases c3 : n < 4194304
  · exact win (A := 3145728) w3 (by decide) (by decide) (by omega) (by omega) h4 h8 (.inr rfl)
  by_cases c4 : n < 5242880
  · exact win (A := 4194304) w4 (by decide) (by decide) (by omega) (by omega) h4 h8 (.inr rfl)
  by_cases c5 : n < 6291456
  · exact win (A := 5242880) w5 (by decide) (by decide) (by omega) (by omega) h4 h8 (.inr rfl)
  by_cases c6 : n < 7340032
  · exact win (A := 6291456) w6 (by decide) (by decide) (by omega) (by omega) h4 h8 (.inl ⟨2475, 255, 539, by decide⟩)
  by_cases c7 : n < 8388608
  · exact win (A := 7340032) w7 (by decide) (by decide) (by omega) (by omega) h4 h8 (.inr rfl)
  by_cases c8 : n < 9437184
  · exact win (A := 8388608) w8 (by decide) (by decide) (by omega) (by omega) h4 h8 (.inl ⟨2909, 321, 531, by decide⟩)
  exact win (A := 9437184) w9 (by decide) (by decide) (by omega) (by omega) h4 h8 (.inr rfl)
end M3

namespace M4
open M2 M3
/-! ### the twofold loop -/
def J (n l p : Nat) : Prop := 1 ≤ l ∧ 2 ≤ p ∧ (∀ d, 2 ≤ d → d < p → ¬ d ∣ l) ∧ ∃ c, n = c * l ∧ Sum2 c ∧ ∀ q, Pr q → p ≤ q → ¬ q ∣ c
theorem Sum2.one : Sum2 1 := ⟨1, 0, rfl⟩
theorem Sum2.pow {p : Nat} (h : Sum2 p) : ∀ k, Sum2 (p ^ k)
  | 0 => Sum2.one
  | k + 1 => by
    rw [Nat.pow_succ]
    exact (Sum2.pow h k).mul h
theorem J_start {n : Nat} (h : 1 ≤ n) : J n n 2 := by
  refine ⟨h, Nat.le_refl _, fun d h1 h2 => by omega, 1, by omega, Sum2.one, fun q hq hl hd => ?_⟩
  have := Nat.le_of_dvd (by decide) hd
  omega
theorem pr_of_least {l p : Nat} (h2 : 2 ≤ p) (hd : p ∣ l) (hl : ∀ d, 2 ≤ d → d < p → ¬ d ∣ l) : Pr p := by
  refine ⟨h2, fun d hdp => ?_⟩
  have hle := Nat.le_of_dvd (by omega) hdp
  by_cases h0 : d = 0
  · subst h0
    have := Nat.eq_zero_of_zero_dvd hdp
    omega
  · by_cases h1 : d = 1
    · exact .inl h1
    · by_cases h3 : d < p
      · exact absurd (Nat.dvd_trans hdp hd) (hl d (by omega) h3)
      · exact .inr (by omega)
theorem J_false {n l0 l p k : Nat} (h : J n l0 p) (e : l0 = l * p ^ k) (hp : ¬ p ∣ l) (hk : k % 2 = 1) (h4 : p % 4 = 3) : ¬ Sum2 n := by
  obtain ⟨h1, h2, h3, c, rfl, hc, hq⟩ := h
  have hpl : p ∣ l0 := by
    rw [e, show k = (k - 1) + 1 by omega, Nat.pow_succ]
    exact ⟨l * p ^ (k - 1), by rw [Nat.mul_comm p, Nat.mul_assoc]⟩
  have hpr := pr_of_least h2 hpl h3
  have hno := odd3 hpr h4 (k / 2) (c * l) (fun hd => by
    rcases hpr.dvd_mul hd with hd | hd
    · exact hq p hpr (Nat.le_refl _) hd
    · exact hp hd)
  rw [show 2 * (k / 2) + 1 = k by omega, Nat.mul_assoc, ← e] at hno
  exact hno
theorem J_step {n l0 l p k : Nat} (h : J n l0 p) (e : l0 = l * p ^ k) (hp : ¬ p ∣ l) (hk : ¬ (k % 2 = 1 ∧ p % 4 = 3)) : J n l (p + 1) := by
  obtain ⟨h1, h2, h3, c, rfl, hc, hq⟩ := h
  have hl1 : 1 ≤ l := by
    rcases Nat.eq_zero_or_pos l with z | z
    · subst z; simp at e; omega
    · exact z
  have hdv : ∀ d, 2 ≤ d → d < p + 1 → ¬ d ∣ l := fun d d1 d2 d3 => by
    by_cases d4 : d = p
    · subst d4; exact hp d3
    · exact h3 d d1 (by omega) (by rw [e]; exact Nat.dvd_trans d3 ⟨p ^ k, rfl⟩)
  by_cases k0 : k = 0
  · subst k0
    rw [Nat.pow_zero, Nat.mul_one] at e
    subst e
    exact ⟨hl1, by omega, hdv, c, rfl, hc, fun q q1 q2 => hq q q1 (by omega)⟩
  · have hpl : p ∣ l0 := by
      rw [e, show k = (k - 1) + 1 by omega, Nat.pow_succ]
      exact ⟨l * p ^ (k - 1), by rw [Nat.mul_comm p, Nat.mul_assoc]⟩
    have hpr := pr_of_least h2 hpl h3
    have hs : Sum2 (p ^ k) := by
      by_cases h4 : p % 4 = 3
      · refine ⟨p ^ (k / 2), 0, ?_⟩
        rw [← Nat.pow_add, show k / 2 + k / 2 = k by omega]
        omega
      · refine Sum2.pow ?_ k
        by_cases h5 : p % 2 = 0
        · rcases hpr.2 2 ⟨p / 2, by omega⟩ with z | z
          · omega
          · rw [← z]; exact ⟨1, 1, rfl⟩
        · exact sum_pr1 hpr (by omega)
    refine ⟨hl1, by omega, hdv, c * p ^ k, ?_, hc.mul hs, fun q q1 q2 q3 => ?_⟩
    · rw [e, Nat.mul_assoc, Nat.mul_comm (p ^ k) l]
    · rcases q1.dvd_mul q3 with z | z
      · exact hq q q1 (by omega) z
      · have z2 := q1.dvd_pow z
        rcases hpr.2 q z2 with z3 | z3
        · have := q1.1; omega
        · omega
theorem J_end {n l p : Nat} (h : J n l p) (hlt : l < p * p) : l % 4 ≠ 3 ↔ Sum2 n := by
  obtain ⟨h1, h2, h3, c, rfl, hc, hq⟩ := h
  by_cases hl : l = 1
  · subst hl
    simp only [Nat.mul_one]
    exact ⟨fun _ => hc, fun _ => by decide⟩
  · have hle : p ≤ l := by
      apply Classical.byContradiction
      intro z
      exact h3 l (by omega) (by omega) ⟨1, by omega⟩
    have hpr : Pr l := by
      refine ⟨by omega, fun d hd => ?_⟩
      by_cases d1 : d = 1
      · exact .inl d1
      · obtain ⟨m, hm⟩ := hd
        by_cases m1 : m = 1
        · subst m1; exact .inr (by omega)
        · exfalso
          have hd0 : d ≠ 0 := fun z => by subst z; omega
          have hm0 : m ≠ 0 := fun z => by subst z; omega
          have a1 : p ≤ d := by
            apply Classical.byContradiction
            intro z
            exact h3 d (by omega) (by omega) ⟨m, hm⟩
          have a2 : p ≤ m := by
            apply Classical.byContradiction
            intro z
            exact h3 m (by omega) (by omega) ⟨d, by rw [hm, Nat.mul_comm]⟩
          have := Nat.mul_le_mul a1 a2
          omega
    constructor
    · intro h4
      refine hc.mul ?_
      by_cases h5 : l % 2 = 0
      · rcases hpr.2 2 ⟨l / 2, by omega⟩ with z | z
        · omega
        · rw [← z]; exact ⟨1, 1, rfl⟩
      · exact sum_pr1 hpr (by omega)
    · intro hs h4
      have := odd3 hpr h4 0 c (hq l hpr hle)
      rw [show 2 * 0 + 1 = 1 from rfl, Nat.pow_one] at this
      exact this hs
/-! ### two pointers -/
def S2 (n : Int) : Prop := ∃ a b : Int, a * a + b * b = n
theorem s2_nat {n : Nat} : S2 (n : Int) ↔ Sum2 n := by
  constructor
  · rintro ⟨a, b, e⟩
    refine ⟨a.natAbs, b.natAbs, ?_⟩
    have h1 : ((a.natAbs * a.natAbs + b.natAbs * b.natAbs : Nat) : Int) = (n : Int) := by
      push_cast
      have e1 : (a.natAbs : Int) * (a.natAbs : Int) = a * a := by exact_mod_cast Int.natAbs_mul_self (a := a)
      have e2 : (b.natAbs : Int) * (b.natAbs : Int) = b * b := by exact_mod_cast Int.natAbs_mul_self (a := b)
      rw [e1, e2]
      exact e
    exact_mod_cast h1
  · rintro ⟨a, b, e⟩
    exact ⟨a, b, by exact_mod_cast e⟩
def T2 (n h w : Int) : Prop := ∀ a b : Int, 0 ≤ b → b ≤ a → a * a + b * b = n → a ≤ h ∧ w ≤ b
theorem sq_lt {x y : Int} (h0 : 0 ≤ x) (h : x < y) : x * x < y * y := by
  have h1 : x * x ≤ x * y := Int.mul_le_mul_of_nonneg_left (by omega) h0
  have h2 : x * y < y * y := Int.mul_lt_mul_of_pos_right h (by omega)
  omega
theorem sq_le {x y : Int} (h0 : 0 ≤ x) (h : x ≤ y) : x * x ≤ y * y := Int.mul_le_mul h h h0 (by omega)
theorem sq_nn (x : Int) : 0 ≤ x * x := by
  rcases Int.le_total 0 x with h | h
  · exact Int.mul_nonneg h h
  · exact Int.mul_nonneg_of_nonpos_of_nonpos h h
def Rt (n r : Int) : Prop := 0 ≤ r ∧ r * r ≤ n ∧ n < (r + 1) * (r + 1)
theorem T2_start {n r : Int} (h : Rt n r) : T2 n r 0 := by
  intro a b h1 h2 e
  refine ⟨?_, h1⟩
  apply Classical.byContradiction
  intro z
  have := sq_le (x := r + 1) (y := a) (by have := h.1; omega) (by omega)
  have := sq_nn b
  have := h.2.2
  omega
theorem T2_hi {n h w : Int} (t : T2 n h w) (hw : 0 ≤ w) (hg : n < h * h + w * w) : T2 n (h - 1) w := by
  intro a b h1 h2 e
  obtain ⟨t1, t2⟩ := t a b h1 h2 e
  refine ⟨?_, t2⟩
  apply Classical.byContradiction
  intro z
  have ha : a = h := by omega
  subst ha
  have := sq_le hw t2
  omega
theorem T2_lo {n h w : Int} (t : T2 n h w) (hw : 0 ≤ w) (hl : w ≤ h) (hg : h * h + w * w < n) : T2 n h (w + 1) := by
  intro a b h1 h2 e
  obtain ⟨t1, t2⟩ := t a b h1 h2 e
  refine ⟨t1, ?_⟩
  apply Classical.byContradiction
  intro z
  have hb : b = w := by omega
  subst hb
  have := sq_le (x := a) (y := h) (by omega) t1
  omega
theorem T2_end {n h w : Int} (t : T2 n h w) (hl : h < w) : ¬ S2 n := by
  rintro ⟨a, b, e⟩
  have e1 : (a.natAbs : Int) * (a.natAbs : Int) = a * a := by exact_mod_cast Int.natAbs_mul_self (a := a)
  have e2 : (b.natAbs : Int) * (b.natAbs : Int) = b * b := by exact_mod_cast Int.natAbs_mul_self (a := b)
  by_cases c : b.natAbs ≤ a.natAbs
  · have := t a.natAbs b.natAbs (by omega) (by omega) (by rw [e1, e2]; exact e)
    omega
  · have := t b.natAbs a.natAbs (by omega) (by omega) (by rw [e1, e2]; omega)
    omega
/-! ### the root -/
theorem newton {n f : Int} (hn : 2 ≤ n) (hf : 0 < f) (h1 : n < (f + 1) * (f + 1)) (h2 : n < f * f) : 0 < (f + n / f) / 2 ∧ (f + n / f) / 2 < f ∧ n < ((f + n / f) / 2 + 1) * ((f + n / f) / 2 + 1) := by
  have hq0 : 0 ≤ n / f := Int.ediv_nonneg (by omega) (by omega)
  have hf2 : 2 ≤ f := by
    apply Classical.byContradiction
    intro z
    have : f = 1 := by omega
    subst this
    omega
  have hqf : n / f < f := Int.ediv_lt_of_lt_mul hf h2
  have hlt : n < (n / f + 1) * f := Int.lt_ediv_add_one_mul_self n hf
  generalize n / f = q at *
  refine ⟨by omega, by omega, ?_⟩
  obtain ⟨g, hg⟩ : ∃ g, g = (f + q) / 2 := ⟨_, rfl⟩
  rw [← hg]
  have h3 : f + q + 1 ≤ 2 * (g + 1) := by omega
  have h4 : (f + q + 1) * (f + q + 1) ≤ (2 * (g + 1)) * (2 * (g + 1)) := sq_le (by omega) h3
  have h5 : (2 * (g + 1)) * (2 * (g + 1)) = 4 * ((g + 1) * (g + 1)) := by grind
  have h6 : (f + q + 1) * (f + q + 1) = 4 * ((q + 1) * f) + (f - q - 1) * (f - q - 1) := by grind
  have := sq_nn (f - q - 1)
  omega
theorem start_root {n : Nat} {b : Nat} (hb : n < 2 ^ b) : (n : Int) < (2 : Int) ^ ((b + 1) / 2) * (2 : Int) ^ ((b + 1) / 2) := by
  have h1 : (2 : Nat) ^ b ≤ 2 ^ ((b + 1) / 2) * 2 ^ ((b + 1) / 2) := by
    rw [← Nat.pow_add]
    exact Nat.pow_le_pow_right (by decide) (by omega)
  have h2 : n < 2 ^ ((b + 1) / 2) * 2 ^ ((b + 1) / 2) := by omega
  exact_mod_cast h2
/-! ### three squares -/
/-- what the drawn numbers and their quarters are -/
def G (l : Nat) : Prop := l ≤ 10000000 ∨ Sum2 l ∨ ∃ s d, l = 4 ^ s * (8 * d + 7)
def Nv (l : Nat) : Prop := ∃ s d, l = 4 ^ s * (8 * d + 7)
theorem Nv_four {l : Nat} : Nv (4 * l) ↔ Nv l := by
  constructor
  · rintro ⟨s, d, e⟩
    cases s with
    | zero => rw [Nat.pow_zero] at e; omega
    | succ s => exact ⟨s, d, by rw [Nat.pow_succ] at e; generalize 4 ^ s = z at *; apply Nat.eq_of_mul_eq_mul_left (show 0 < 4 by decide); rw [e]; grind⟩
  · rintro ⟨s, d, e⟩
    exact ⟨s + 1, d, by rw [e, Nat.pow_succ]; generalize 4 ^ s = z; grind⟩
theorem Nv_end {l : Nat} (h : l % 4 ≠ 0) : Nv l ↔ l % 8 = 7 := by
  constructor
  · rintro ⟨s, d, e⟩
    cases s with
    | zero => rw [Nat.pow_zero] at e; omega
    | succ s =>
      rw [Nat.pow_succ] at e
      generalize 4 ^ s = z at *
      have : l = 4 * (z * (8 * d + 7)) := by rw [e]; grind
      omega
  · intro h
    exact ⟨0, l / 8, by rw [Nat.pow_zero]; omega⟩
theorem G_four {l : Nat} (h : G (4 * l)) : G l := by
  rcases h with h | ⟨a, b, e⟩ | h
  · exact .inl (by omega)
  · refine .inr (.inl ?_)
    have ea : a % 2 = 0 ∧ b % 2 = 0 := by
      have h4 : (a * a + b * b) % 4 = 0 := by omega
      have ra : (a * a) % 4 = ((a % 4) * (a % 4)) % 4 := Nat.mul_mod a a 4
      have rb : (b * b) % 4 = ((b % 4) * (b % 4)) % 4 := Nat.mul_mod b b 4
      have ca : a % 4 = 0 ∨ a % 4 = 1 ∨ a % 4 = 2 ∨ a % 4 = 3 := by omega
      have cb : b % 4 = 0 ∨ b % 4 = 1 ∨ b % 4 = 2 ∨ b % 4 = 3 := by omega
      rcases ca with ca | ca | ca | ca <;> rcases cb with cb | cb | cb | cb <;> rw [ca] at ra <;> rw [cb] at rb <;> omega
    obtain ⟨c, rfl⟩ : ∃ c, a = 2 * c := ⟨a / 2, by omega⟩
    obtain ⟨d, rfl⟩ : ∃ d, b = 2 * d := ⟨b / 2, by omega⟩
    refine ⟨c, d, ?_⟩
    have : 4 * (c * c + d * d) = 4 * l := by rw [← e]; grind
    omega
  · exact .inr (.inr (Nv_four.mp h))
theorem G_end {l : Nat} (h : G l) (h4 : l % 4 ≠ 0) (h8 : l % 8 ≠ 7) : Sum3 l := by
  rcases h with h | ⟨a, b, e⟩ | h
  · exact sum3 h h4 h8
  · exact ⟨a, b, 0, by omega⟩
  · exact absurd ((Nv_end h4).mp h) h8
/-- some first square leaves two -/
theorem first_of {l : Nat} (h : Sum3 l) {r : Int} (hr : Rt l r) : ∃ a : Int, 0 ≤ a ∧ a ≤ r ∧ S2 ((l : Int) - a * a) := by
  obtain ⟨a, b, c, e⟩ := h
  have e' : (a : Int) * a + b * b + c * c = l := by exact_mod_cast e
  refine ⟨a, by omega, ?_, b, c, by omega⟩
  apply Classical.byContradiction
  intro z
  have := sq_le (x := r + 1) (y := a) (by have := hr.1; omega) (by omega)
  have := sq_nn (b : Int)
  have := sq_nn (c : Int)
  have := hr.2.2
  omega
end M4

namespace K89
open PySem PySem.Spec PyProof.Rows L2
/-! ### the text -/
def topS (i : Nat) : Stmt := PySem.Challenge.pw_signfours_k89_whole_sums_of_three_and_tw.main.body.getD i (.Pass ⟨0, 0, 0, 0⟩)
abbrev sWhole : Stmt := topS 5
abbrev sInteger : Stmt := topS 6
abbrev sPower : Stmt := topS 8
abbrev sRoot : Stmt := topS 9
abbrev sLeast : Stmt := topS 12
abbrev sBounded : Stmt := topS 13
abbrev sTwoOf : Stmt := topS 14
abbrev sTwo : Stmt := topS 15
abbrev sThree : Stmt := topS 16
abbrev sIs3 : Stmt := topS 17
abbrev sPot : Stmt := topS 19
abbrev sDip : Stmt := topS 20
abbrev sPick : Stmt := topS 21
abbrev sNever : Stmt := topS 22
abbrev sTwofold : Stmt := topS 23
abbrev sAdd : Stmt := topS 24
abbrev sNumber : Stmt := topS 25
abbrev sRight : Stmt := topS 26
abbrev sLaw : Stmt := topS 27
theorem scWhole : FnScope ["value"] ["value"] (defScope sWhole) := ⟨rfl, rfl, rfl, by decide +kernel, rfl, by decide +kernel, by decide +kernel⟩
theorem scInteger : FnScope ["value"] ["value"] (defScope sInteger) := ⟨rfl, rfl, rfl, by decide +kernel, rfl, by decide +kernel, by decide +kernel⟩
theorem scPower : FnScope ["base", "exponent", "found", "turn"] ["base", "exponent"] (defScope sPower) := ⟨rfl, rfl, rfl, by decide +kernel, rfl, by decide +kernel, by decide +kernel⟩
theorem scRoot : FnScope ["number", "found"] ["number"] (defScope sRoot) := ⟨rfl, rfl, rfl, by decide +kernel, rfl, by decide +kernel, by decide +kernel⟩
theorem scLeast : FnScope ["number"] ["number"] (defScope sLeast) := ⟨rfl, rfl, rfl, by decide +kernel, rfl, by decide +kernel, by decide +kernel⟩
theorem scBounded : FnScope ["number", "most"] ["number", "most"] (defScope sBounded) := ⟨rfl, rfl, rfl, by decide +kernel, rfl, by decide +kernel, by decide +kernel⟩
theorem scTwoOf : FnScope ["number", "high", "low", "size"] ["number"] (defScope sTwoOf) := ⟨rfl, rfl, rfl, by decide +kernel, rfl, by decide +kernel, by decide +kernel⟩
theorem scTwo : FnScope ["number"] ["number"] (defScope sTwo) := ⟨rfl, rfl, rfl, by decide +kernel, rfl, by decide +kernel, by decide +kernel⟩
theorem scThree : FnScope ["number", "scale", "left", "first", "rest"] ["number"] (defScope sThree) := ⟨rfl, rfl, rfl, by decide +kernel, rfl, by decide +kernel, by decide +kernel⟩
theorem scIs3 : FnScope ["number", "value", "entry"] ["number", "value"] (defScope sIs3) := ⟨rfl, rfl, rfl, by decide +kernel, rfl, by decide +kernel, by decide +kernel⟩
theorem scPot : FnScope ["_law_script", "_law_at", "_law_cell", "_law_great", "_law_mixed"] ["_law_script", "_law_at"] (defScope sPot) := ⟨rfl, rfl, rfl, by decide +kernel, rfl, by decide +kernel, by decide +kernel⟩
theorem scDip : FnScope ["_law_pot_here", "_law_total", "_law_found", "_law_one", "_law_two"] ["_law_pot_here", "_law_total"] (defScope sDip) := ⟨rfl, rfl, rfl, by decide +kernel, rfl, by decide +kernel, by decide +kernel⟩
theorem scPick : FnScope ["_law_pot_here", "_law_items"] ["_law_pot_here", "_law_items"] (defScope sPick) := ⟨rfl, rfl, rfl, by decide +kernel, rfl, by decide +kernel, by decide +kernel⟩
theorem scNever : FnScope ["_law_number_here", "_law_left"] ["_law_number_here"] (defScope sNever) := ⟨rfl, rfl, rfl, by decide +kernel, rfl, by decide +kernel, by decide +kernel⟩
theorem scTwofold : FnScope ["_law_number_here", "_law_left", "_law_prime", "_law_many"] ["_law_number_here"] (defScope sTwofold) := ⟨rfl, rfl, rfl, by decide +kernel, rfl, by decide +kernel, by decide +kernel⟩
theorem scAdd : FnScope ["_law_value", "_law_many", "_law_number_here", "_law_one"] ["_law_value", "_law_many", "_law_number_here"] (defScope sAdd) := ⟨rfl, rfl, rfl, by decide +kernel, rfl, by decide +kernel, by decide +kernel⟩
theorem scNumber : FnScope ["_law_pot_here", "_law_way", "_law_a", "_law_b"] ["_law_pot_here"] (defScope sNumber) := ⟨rfl, rfl, rfl, by decide +kernel, rfl, by decide +kernel, by decide +kernel⟩
theorem scRight : FnScope ["_law_pot_here", "_law_number_here", "_law_three", "_law_two", "_law_some", "_law_value"] ["_law_pot_here"] (defScope sRight) := ⟨rfl, rfl, rfl, by decide +kernel, rfl, by decide +kernel, by decide +kernel⟩
theorem scLaw : FnScope ["_law_script", "_law_spot", "_law_told", "_law_number_here"] ["_law_script"] (defScope sLaw) := ⟨rfl, rfl, rfl, by decide +kernel, rfl, by decide +kernel, by decide +kernel⟩
/-- a def as it stands behind the top -/
structure Fn (K : PySem.W.Frag) (mg : Str → Option Value) (x : Str) (st : Stmt) (ps : List Str) (f : Addr) (fd : FuncData) : Prop where
  F : Fun K x x st f fd
  b : Binds K fd ps []
  g : mg x = some (.ref f)
/-- the built-ins that are read are built-ins still; the constants -/
structure Txt (mg : Str → Option Value) : Prop where
  isinst : mg "isinstance" = none
  int : mg "int" = none
  bool : mg "bool" = none
  tuple : mg "tuple" = none
  len : mg "len" = none
  all : mg "all" = none
  sum : mg "sum" = none
  range : mg "range" = none
  max : mg "max" = none
  min : mg "min" = none
  abs : mg "abs" = none
  beyond : ∃ t, mg "BEYOND" = some (.int (10 ^ 60) t)
  most : ∃ t, mg "MAX_SQUARED" = some (.int 100000000 t)
/-! ### values -/
def isI : V → Bool
  | .int _ => true
  | _ => false
def Sm (x : V) : Prop := (∃ i : Int, x = .int i ∧ i.natAbs < 2 ^ 250) ∨ (∃ b, x = .bl b) ∨ x = .str (Str.ofString "1")
theorem same_upd {H : Hp} {p : Addr} {o : HO} (h : H p = none) : Same H (upd H p o) := fun b x e => by
  rw [upd_ne (ne_of_none e h)]
  exact e
section
variable {P : Program} {w : World} {K : PySem.W.Frag} {mg : Str → Option Value} {base : Heap}
/-! ### is_whole, is_integer -/
def spWhole : Sp := fun vs H Q _ => ∃ x, vs = [x] ∧ Sm x ∧ Q (.bl (isI x)) H
theorem ok_whole {f : Addr} {fd : FuncData} (D : Fn K mg "is_whole" sWhole ["value"] f fd) (T : Txt mg) : FnOk P w K mg base CX0 1 f fd ["value"] spWhole := by
  refine D.F.ok scWhole (fun vs H Q E h => ?_) (fun cdv A outer s H vs Q E hr h => ?_)
  · obtain ⟨x, rfl, _⟩ := h
    rfl
  · obtain ⟨x, rfl, hx, q⟩ := h
    refine ⟨_, pss_one (ps_ret (pe_and (pe_callB call_isi (by rfl) T.isinst (by decide +kernel) (pa_cons (pv 0) (pa_cons (pe_bltn (v := .ty "int") (by rfl) T.int (by decide +kernel) rfl) pa_nil)))
      (pe_one (pe_not (pe_callB call_isi (by rfl) T.isinst (by decide +kernel) (pa_cons (pv 0) (pa_cons (pe_bltn (v := .ty "bool") (by rfl) T.bool (by decide +kernel) rfl) pa_nil))))))), ?_⟩
    rcases hx with ⟨i, rfl, _⟩ | ⟨b, rfl⟩ | rfl
    · exact ⟨_, rfl, _, _, _, _, true, rfl, .ty "int", .base (.int i), kit_ty (by decide +kernel), true, rfl, iteT ⟨_, rfl, _, _, _, _, false, rfl, .ty "bool", .base (.int i), kit_ty (by decide +kernel), false, rfl, q⟩⟩
    · exact ⟨_, rfl, _, _, _, _, true, rfl, .ty "int", .base (.bl b), kit_ty (by decide +kernel), true, rfl, iteT ⟨_, rfl, _, _, _, _, true, rfl, .ty "bool", .base (.bl b), kit_ty (by decide +kernel), true, rfl, q⟩⟩
    · exact ⟨_, rfl, _, _, _, _, false, rfl, .ty "int", .base (.str (Str.ofString "1")), kit_ty (by decide +kernel), false, rfl, iteF q⟩
theorem small_nat {n : Int} (h0 : 0 ≤ n) (h : n ≤ 100000000) : n.natAbs < 2 ^ 27 := by
  have : (2 : Nat) ^ 27 = 134217728 := by decide
  omega
theorem small400 {n : Int} (h0 : 0 ≤ n) (h : n ≤ 100000000) : n.natAbs < 2 ^ 250 := Nat.lt_of_lt_of_le (small_nat h0 h) (Nat.pow_le_pow_right (by decide) (by decide))
theorem big60 : (100000000 : Int) < 10 ^ 60 := by decide +kernel
def spInteger : Sp := fun vs H Q _ => ∃ n : Int, vs = [.int n] ∧ 0 ≤ n ∧ n ≤ 100000000 ∧ Q (.bl true) H
theorem ok_integer {f fW : Addr} {fd fdW : FuncData} (D : Fn K mg "is_integer" sInteger ["value"] f fd) (DW : Fn K mg "is_whole" sWhole ["value"] fW fdW) (T : Txt mg) : FnOk P w K mg base CX0 2 f fd ["value"] spInteger := by
  have GW : FnOk P w K mg base CX0 1 fW fdW ["value"] spWhole := ok_whole DW T
  obtain ⟨tb, mB⟩ := T.beyond
  refine D.F.ok scInteger (fun vs H Q E h => ?_) (fun cdv A outer s H vs Q E hr h => ?_)
  · obtain ⟨x, rfl, _⟩ := h
    rfl
  · obtain ⟨n, rfl, h0, h1, q⟩ := h
    refine ⟨_, pss_one (ps_ret (pe_and (pe_call GW hr (by rfl) DW.g DW.F.kp DW.b .nil pass0 (pa_cons (pv 0) pa_nil))
      (pe_one (pe_chain op_lt op_lt (pe_un un_neg (pe_glob (v := .int (10 ^ 60)) rfl mB ⟨_, rfl⟩)) (pv 0) (pe_glob (v := .int (10 ^ 60)) rfl mB ⟨_, rfl⟩))))), ?_⟩
    have hb := big60
    generalize (10 : Int) ^ 60 = B at *
    refine ⟨_, rfl, .int n, rfl, .inl ⟨n, rfl, small400 h0 h1⟩, true, rfl, iteT ?_⟩
    refine ⟨B, rfl, .int n, rfl, _, _, rfl, rfl, true, ?_, iteT ⟨_, _, rfl, rfl, ?_⟩⟩
    · exact congrArg V.bl (decide_eq_true (show -B < n by omega))
    · show Q (V.bl (decide (n < B))) H
      rw [decide_eq_true (show n < B by omega)]
      exact q
/-! ### require_least, require_bounded -/
def spLeast : Sp := fun vs H Q _ => ∃ n : Int, vs = [.int n] ∧ 1 ≤ n ∧ n ≤ 100000000 ∧ Q .non H
theorem ok_least {f fW fI : Addr} {fd fdW fdI : FuncData} (D : Fn K mg "require_least" sLeast ["number"] f fd) (DI : Fn K mg "is_integer" sInteger ["value"] fI fdI) (DW : Fn K mg "is_whole" sWhole ["value"] fW fdW) (T : Txt mg) : FnOk P w K mg base CX0 3 f fd ["number"] spLeast := by
  have GI : FnOk P w K mg base CX0 2 fI fdI ["value"] spInteger := ok_integer DI DW T
  refine D.F.ok scLeast (fun vs H Q E h => ?_) (fun cdv A outer s H vs Q E hr h => ?_)
  · obtain ⟨x, rfl, _⟩ := h
    rfl
  · obtain ⟨n, rfl, h0, h1, q⟩ := h
    refine ⟨_, pss_one (ps_if (PW.pt (pw_or (pt_not (pt_val (pe_call GI hr (by rfl) DI.g DI.F.kp DI.b .nil pass0 (pa_cons (pv 0) pa_nil)))) (pw_or1 (pt_cmpR op_lt (pv 0) pe_int (nomark _))))) pss_never pss_nil), ?_⟩
    refine ⟨_, rfl, n, rfl, by omega, h1, true, rfl, iteF ⟨_, rfl, _, _, rfl, rfl, false, ?_, iteF q⟩⟩
    exact congrArg V.bl (decide_eq_false (show ¬ n < 1 by omega))
def spBounded : Sp := fun vs H Q _ => ∃ n : Int, vs = [.int n, .int 100000000] ∧ 1 ≤ n ∧ n ≤ 100000000 ∧ Q .non H
theorem ok_bounded {f fL fW fI : Addr} {fd fdL fdW fdI : FuncData} (D : Fn K mg "require_bounded" sBounded ["number", "most"] f fd) (DL : Fn K mg "require_least" sLeast ["number"] fL fdL) (DI : Fn K mg "is_integer" sInteger ["value"] fI fdI) (DW : Fn K mg "is_whole" sWhole ["value"] fW fdW) (T : Txt mg) : FnOk P w K mg base CX0 4 f fd ["number", "most"] spBounded := by
  have GL : FnOk P w K mg base CX0 3 fL fdL ["number"] spLeast := ok_least DL DI DW T
  refine D.F.ok scBounded (fun vs H Q E h => ?_) (fun cdv A outer s H vs Q E hr h => ?_)
  · obtain ⟨x, rfl, _⟩ := h
    rfl
  · obtain ⟨n, rfl, h0, h1, q⟩ := h
    refine ⟨_, pss_cons (ps_expr (pe_call GL hr (by rfl) DL.g DL.F.kp DL.b .nil pass0 (pa_cons (pv 0) pa_nil))) (pss_one (ps_if (pt_cmpR op_gt (pv 0) (pv 1) (nomark _)) pss_never pss_nil)), ?_⟩
    refine ⟨_, rfl, n, rfl, h0, h1, _, rfl, _, rfl, _, _, rfl, rfl, false, ?_, iteF q⟩
    exact congrArg V.bl (decide_eq_false (show ¬ (100000000 : Int) < n by omega))
/-! ### power_of, whole_root -/
def spPower : Sp := fun vs H Q _ => ∃ e : Nat, vs = [.int 2, .int e] ∧ e ≤ 100 ∧ Q (.int (2 ^ e)) H
theorem ok_power {f : Addr} {fd : FuncData} (D : Fn K mg "power_of" sPower ["base", "exponent"] f fd) (T : Txt mg) : FnOk P w K mg base CX0 1 f fd ["base", "exponent"] spPower := by
  refine D.F.ok scPower (fun vs H Q E h => ?_) (fun cdv A outer s H vs Q E hr h => ?_)
  · obtain ⟨x, rfl, _⟩ := h
    rfl
  · obtain ⟨e, rfl, he, q⟩ := h
    refine ⟨_, pss_cons (ps_set (i := 2) scPower.nd rfl (.inl rfl) pe_int) (pss_cons (ps_for PassesOwn.never rfl (pi_range1 (by rfl) T.range (pa_cons (pv 1) pa_nil)) (pg_name (i := 3) scPower.nd rfl (.inl rfl))
        (pss_one (ps_aug (i := 2) scPower.nd rfl (.inl rfl) (pv 0) iop_mul))) (pss_one (ps_ret (pv 2)))), ?_⟩
    refine ⟨.int e, rfl, e, rfl, by omega, by omega, ?_⟩
    rw [show ((e : Int)).toNat = e from Int.toNat_natCast e]
    refine for_range (n := e) (fun i σ H' => ∃ y3, σ = [some (.int 2), some (.int e), some (.int (2 ^ i)), y3] ∧ H' = H) ⟨none, rfl, rfl⟩ (fun i σ H' hi hp => ?_) (fun σ H' hp => ?_)
    · obtain ⟨y3, rfl, rfl⟩ := hp
      refine ⟨.int (2 ^ i), rfl, .int 2, rfl, _, _, rfl, rfl, .inr (by decide), some (.int (0 + (i : Int))), ?_, rfl⟩
      rw [Int.pow_succ]
      rfl
    · obtain ⟨y3, rfl, rfl⟩ := hp
      exact ⟨_, rfl, q⟩
open M4
def spRoot : Sp := fun vs H Q _ => ∃ n : Int, vs = [.int n] ∧ 0 ≤ n ∧ n ≤ 100000000 ∧ ∀ r, Rt n r → Q (.int r) H
theorem bits_le {n : Nat} (h : n ≤ 100000000) : n.log2 < 27 := by
  by_cases h0 : n = 0
  · subst h0; decide
  · rw [Nat.log2_lt h0]
    have : (2 : Nat) ^ 27 = 134217728 := by decide
    omega
theorem small31 {g : Int} (h0 : 0 < g) (h : g ≤ 1073741824) : g.natAbs < 2 ^ 31 := by
  have : (2 : Nat) ^ 31 = 2147483648 := by decide
  omega
theorem ok_root {f fP : Addr} {fd fdP : FuncData} (D : Fn K mg "whole_root" sRoot ["number"] f fd) (DP : Fn K mg "power_of" sPower ["base", "exponent"] fP fdP) (T : Txt mg) : FnOk P w K mg base CX0 2 f fd ["number"] spRoot := by
  have GP : FnOk P w K mg base CX0 1 fP fdP ["base", "exponent"] spPower := ok_power DP T
  refine D.F.ok scRoot (fun vs H Q E h => ?_) (fun cdv A outer s H vs Q E hr h => ?_)
  · obtain ⟨x, rfl, _⟩ := h
    rfl
  · obtain ⟨n, rfl, h0, h1, q⟩ := h
    refine ⟨_, pss_cons (ps_if (pt_cmpR op_lt (pv 0) pe_int (nomark _)) (pss_one (ps_ret (pv 0))) pss_nil)
      (pss_cons (ps_set (i := 1) scRoot.nd rfl (.inl rfl) (pe_call GP hr (by rfl) DP.g DP.F.kp DP.b .nil pass0 (pa_cons pe_int (pa_cons (pe_op op_fdiv (pe_op op_add (pe_bits (pv 0)) pe_int) pe_int) pa_nil))))
      (pss_cons (ps_while PassesOwn.never (pt_cmpR op_gt (pe_op op_mul (pv 1) (pv 1)) (pv 0) (nomark _))
        (pss_one (ps_set (i := 1) scRoot.nd rfl (.inl rfl) (pe_op op_fdiv (pe_op op_add (pv 1) (pe_op op_fdivW (pv 0) (pv 1))) pe_int))))
      (pss_one (ps_ret (pv 1))))), ?_⟩
    refine ⟨.int n, rfl, _, _, rfl, rfl, _, rfl, ite2 (fun c => ?_) (fun c => ?_)⟩
    · have c' : n < 2 := of_decide_eq_true c
      refine ⟨.int n, rfl, q n ⟨h0, ?_, ?_⟩⟩
      · rcases (show n = 0 ∨ n = 1 by omega) with e | e <;> subst e <;> decide
      · rcases (show n = 0 ∨ n = 1 by omega) with e | e <;> subst e <;> decide
    · have c' : ¬ n < 2 := fun z => c (decide_eq_true z)
      obtain ⟨N, rfl⟩ : ∃ N : Nat, n = N := ⟨n.toNat, by omega⟩
      have hN0 : N ≠ 0 := by omega
      have hlog := bits_le (n := N) (by omega)
      have ebits : (Builtin.Int.intBits (N : Int) : Nat) = N.log2 + 1 := by
        unfold Builtin.Int.intBits
        rw [Int.natAbs_natCast, if_neg]
        rw [beq_iff_eq]
        omega
      have hpow : N < 2 ^ (N.log2 + 1) := Nat.lt_log2_self
      have hst := start_root hpow
      generalize eL : N.log2 = L at *
      refine ⟨.int N, rfl, (N : Int), rfl, _, _, rfl, rfl, _, _, rfl, rfl, ⟨by decide, by decide⟩, (L + 1 + 1) / 2, ?_, by omega, ?_⟩
      · show [V.int 2, V.int ((((Builtin.Int.intBits (N : Int) : Nat) : Int) + 1) / 2)] = [V.int 2, V.int (((L + 1 + 1) / 2 : Nat) : Int)]
        rw [ebits, show (((L + 1 : Nat) : Int) + 1) / 2 = (((L + 1 + 1) / 2 : Nat) : Int) by omega]
      · have hp1 : (0 : Int) < 2 ^ ((L + 1 + 1) / 2) := Int.pow_pos (by decide)
        have hp2 : (2 : Int) ^ ((L + 1 + 1) / 2) ≤ 1073741824 := by
          have : (2 : Nat) ^ ((L + 1 + 1) / 2) ≤ 2 ^ 30 := Nat.pow_le_pow_right (by decide) (by omega)
          have h2 : (2 : Nat) ^ 30 = 1073741824 := by decide
          have h3 : (((2 : Nat) ^ ((L + 1 + 1) / 2) : Nat) : Int) = (2 : Int) ^ ((L + 1 + 1) / 2) := Int.natCast_pow 2 _
          rw [h2] at this
          omega
        generalize (2 : Int) ^ ((L + 1 + 1) / 2) = gs at *
        refine ⟨fun m σ H' => ∃ g : Int, σ = [some (.int N), some (.int g)] ∧ H' = H ∧ 0 < g ∧ g ≤ 1073741824 ∧ (N : Int) < (g + 1) * (g + 1) ∧ m = g.toNat, ⟨_, gs, rfl, rfl, hp1, hp2, ?_, rfl⟩, fun m σ H' hW => ?_⟩
        · have := sq_lt (x := gs) (y := gs + 1) (by omega) (by omega)
          omega
        · obtain ⟨g, rfl, rfl, g0, g1, g2, rfl⟩ := hW
          refine ⟨.int g, rfl, .int g, rfl, g, g, rfl, rfl, .inl ⟨by omega, by omega⟩, .int N, rfl, _, _, rfl, rfl, _, rfl, ite2 (fun c => ?_) (fun c => ?_)⟩
          · have c2 : (N : Int) < g * g := of_decide_eq_true c
            obtain ⟨n1, n2, n3⟩ := newton (by omega) g0 g2 c2
            refine ⟨_, fun _ _ h => h, ?_⟩
            refine ⟨.int g, rfl, .int N, rfl, .int g, rfl, _, _, rfl, rfl, wide_div (b := 31) g0 (small31 g0 g1) (by decide) (by decide), _, _, rfl, rfl, _, _, rfl, rfl, ⟨by decide, by decide⟩, ?_⟩
            exact ⟨_, by omega, _, rfl, rfl, n1, by omega, n3, rfl⟩
          · have c2 : ¬ (N : Int) < g * g := fun z => c (decide_eq_true z)
            exact ⟨.int g, rfl, q g ⟨by omega, by omega, g2⟩⟩
end
end K89

namespace K89
open PySem PySem.Spec PyProof.Rows L2 M2 M3 M4
section
variable {P : Program} {w : World} {K : PySem.W.Frag} {mg : Str → Option Value} {base : Heap}
/-! ### two_squares_of, two_squares -/
def TwoOut (n : Int) (H : Hp) (Q : VK) : Prop := (¬ S2 n → Q .non H) ∧ ∀ (a b : Int) (p : Addr), a * a + b * b = n → 0 ≤ a → 0 ≤ b → a ≤ 100000000 → b ≤ 100000000 → H p = none → Q (.ref p) (upd H p (.tup [.int a, .int b]))
def spTwoOf : Sp := fun vs H Q _ => ∃ n : Int, vs = [.int n] ∧ 0 ≤ n ∧ n ≤ 100000000 ∧ TwoOut n H Q
theorem rt_le {n r : Int} (h : Rt n r) (hn : n ≤ 100000000) : r ≤ 100000000 := by
  by_cases c : r ≤ 1
  · omega
  · have := Int.mul_le_mul_of_nonneg_right (show (1 : Int) ≤ r by omega) h.1
    have := h.2.1
    omega
theorem ok_twoOf {f fR fP : Addr} {fd fdR fdP : FuncData} (D : Fn K mg "two_squares_of" sTwoOf ["number"] f fd) (DR : Fn K mg "whole_root" sRoot ["number"] fR fdR) (DP : Fn K mg "power_of" sPower ["base", "exponent"] fP fdP) (T : Txt mg) : FnOk P w K mg base CX0 3 f fd ["number"] spTwoOf := by
  have GR : FnOk P w K mg base CX0 2 fR fdR ["number"] spRoot := ok_root DR DP T
  refine D.F.ok scTwoOf (fun vs H Q E h => ?_) (fun cdv A outer s H vs Q E hr h => ?_)
  · obtain ⟨x, rfl, _⟩ := h
    rfl
  · obtain ⟨n, rfl, h0, h1, q0, q1⟩ := h
    refine ⟨_, pss_cons (ps_par (by rfl) scTwoOf.nd (i := 1) (j := 2) rfl rfl (by decide) rfl rfl (pa_cons (pe_call GR hr (by rfl) DR.g DR.F.kp DR.b .nil pass0 (pa_cons (pv 0) pa_nil)) (pa_cons pe_int pa_nil)) (by rfl))
      (pss_cons (ps_while PassesOwn.never (pt_cmpR op_ge (pv 1) (pv 2) (nomark _))
        (pss_cons (ps_set (i := 3) scTwoOf.nd rfl (.inl rfl) (pe_op op_add (pe_op op_mul (pv 1) (pv 1)) (pe_op op_mul (pv 2) (pv 2))))
        (pss_cons (ps_if (pt_cmpR op_eq (pv 3) (pv 0) (nomark _)) (pss_one (ps_ret (pe_tup (pa_cons (pv 1) (pa_cons (pv 2) pa_nil))))) pss_nil)
        (pss_one (ps_if (pt_cmpR op_gt (pv 3) (pv 0) (nomark _)) (pss_one (ps_aug (i := 1) scTwoOf.nd rfl (.inl rfl) pe_int ip_sub)) (pss_one (ps_aug (i := 2) scTwoOf.nd rfl (.inl rfl) pe_int ip_add)))))))
      (pss_one (ps_ret pe_non))), ?_⟩
    refine ⟨.int n, rfl, n, rfl, h0, h1, fun r hrt => ⟨_, _, rfl, ?_⟩⟩
    have hr1 := rt_le hrt h1
    refine ⟨fun m σ H' => ∃ (a b : Int) (z : Option V), σ = [some (.int n), some (.int a), some (.int b), z] ∧ H' = H ∧ 0 ≤ b ∧ b ≤ a + 1 ∧ a ≤ 100000000 ∧ T2 n a b ∧ m = (a - b + 1).toNat, ⟨_, r, 0, none, rfl, rfl, by omega, by have := hrt.1; omega, hr1, T2_start hrt, rfl⟩, fun m σ H' hW => ?_⟩
    obtain ⟨a, b, z, rfl, rfl, b0, b1, a1, ht, rfl⟩ := hW
    refine ⟨.int a, rfl, .int b, rfl, _, _, rfl, rfl, _, rfl, ite2 (fun c => ?_) (fun c => ?_)⟩
    · have c2 : b ≤ a := of_decide_eq_true c
      refine ⟨_, fun _ _ h => h, ?_⟩
      refine ⟨.int a, rfl, .int a, rfl, _, _, rfl, rfl, .inl ⟨by omega, by omega⟩, .int b, rfl, .int b, rfl, _, _, rfl, rfl, .inl ⟨by omega, by omega⟩, _, _, rfl, rfl, ?_⟩
      refine ⟨.int (a * a + b * b), rfl, .int n, rfl, rfl, _, rfl, ite2 (fun d => ?_) (fun d => ?_)⟩
      · have d2 : a * a + b * b = n := V.int.inj (of_decide_eq_true d)
        refine ⟨.int a, rfl, .int b, rfl, by show 2 ≤ sizeLine; decide, fun p hp => ?_⟩
        exact q1 a b p d2 (by omega) b0 a1 (by omega) hp
      · have d2 : a * a + b * b ≠ n := fun z => d (decide_eq_true (congrArg V.int z))
        refine ⟨.int (a * a + b * b), rfl, .int n, rfl, _, _, rfl, rfl, _, rfl, ite2 (fun g => ?_) (fun g => ?_)⟩
        · have g2 : n < a * a + b * b := of_decide_eq_true g
          refine ⟨.int a, rfl, _, _, rfl, rfl, _, ?_, a - 1, b, _, rfl, rfl, b0, by omega, by omega, T2_hi ht b0 g2, rfl⟩
          omega
        · have g2 : ¬ n < a * a + b * b := fun z => g (decide_eq_true z)
          refine ⟨.int b, rfl, _, _, rfl, rfl, _, ?_, a, b + 1, _, rfl, rfl, by omega, by omega, by omega, T2_lo ht b0 c2 (by omega), rfl⟩
          omega
    · have c2 : ¬ b ≤ a := fun z => c (decide_eq_true z)
      exact q0 (T2_end ht (by omega))
def spTwo : Sp := fun vs H Q _ => ∃ n : Int, vs = [.int n] ∧ 1 ≤ n ∧ n ≤ 100000000 ∧ TwoOut n H Q
/-- the defs of the program that more than one law def reaches -/
structure Prog (K : PySem.W.Frag) (mg : Str → Option Value) : Prop where
  T : Txt mg
  whole : ∃ f fd, Fn K mg "is_whole" sWhole ["value"] f fd
  integer : ∃ f fd, Fn K mg "is_integer" sInteger ["value"] f fd
  power : ∃ f fd, Fn K mg "power_of" sPower ["base", "exponent"] f fd
  root : ∃ f fd, Fn K mg "whole_root" sRoot ["number"] f fd
  least : ∃ f fd, Fn K mg "require_least" sLeast ["number"] f fd
  bounded : ∃ f fd, Fn K mg "require_bounded" sBounded ["number", "most"] f fd
  twoOf : ∃ f fd, Fn K mg "two_squares_of" sTwoOf ["number"] f fd
theorem Prog.okBounded (G : Prog K mg) : ∃ f fd, Fn K mg "require_bounded" sBounded ["number", "most"] f fd ∧ FnOk P w K mg base CX0 4 f fd ["number", "most"] spBounded := by
  obtain ⟨_, _, DW⟩ := G.whole
  obtain ⟨_, _, DI⟩ := G.integer
  obtain ⟨_, _, DL⟩ := G.least
  obtain ⟨_, _, DB⟩ := G.bounded
  exact ⟨_, _, DB, ok_bounded DB DL DI DW G.T⟩
theorem Prog.okLeast (G : Prog K mg) : ∃ f fd, Fn K mg "require_least" sLeast ["number"] f fd ∧ FnOk P w K mg base CX0 3 f fd ["number"] spLeast := by
  obtain ⟨_, _, DW⟩ := G.whole
  obtain ⟨_, _, DI⟩ := G.integer
  obtain ⟨_, _, DL⟩ := G.least
  exact ⟨_, _, DL, ok_least DL DI DW G.T⟩
theorem Prog.okTwoOf (G : Prog K mg) : ∃ f fd, Fn K mg "two_squares_of" sTwoOf ["number"] f fd ∧ FnOk P w K mg base CX0 3 f fd ["number"] spTwoOf := by
  obtain ⟨_, _, DP⟩ := G.power
  obtain ⟨_, _, DR⟩ := G.root
  obtain ⟨_, _, DT⟩ := G.twoOf
  exact ⟨_, _, DT, ok_twoOf DT DR DP G.T⟩
theorem Prog.okRoot (G : Prog K mg) : ∃ f fd, Fn K mg "whole_root" sRoot ["number"] f fd ∧ FnOk P w K mg base CX0 2 f fd ["number"] spRoot := by
  obtain ⟨_, _, DP⟩ := G.power
  obtain ⟨_, _, DR⟩ := G.root
  exact ⟨_, _, DR, ok_root DR DP G.T⟩
theorem ok_two {f : Addr} {fd : FuncData} (D : Fn K mg "two_squares" sTwo ["number"] f fd) (G : Prog K mg) : FnOk P w K mg base CX0 5 f fd ["number"] spTwo := by
  obtain ⟨fB, fdB, DB, GB⟩ := G.okBounded (P := P) (w := w) (base := base)
  obtain ⟨fT, fdT, DT, GT⟩ := G.okTwoOf (P := P) (w := w) (base := base)
  obtain ⟨tm, mM⟩ := G.T.most
  refine D.F.ok scTwo (fun vs H Q E h => ?_) (fun cdv A outer s H vs Q E hr h => ?_)
  · obtain ⟨x, rfl, _⟩ := h
    rfl
  · obtain ⟨n, rfl, h0, h1, q⟩ := h
    refine ⟨_, pss_cons (ps_expr (pe_call GB hr (by rfl) DB.g DB.F.kp DB.b .nil pass0 (pa_cons (pv 0) (pa_cons (pe_glob (v := .int 100000000) rfl mM ⟨_, rfl⟩) pa_nil))))
      (pss_one (ps_ret (pe_call GT (hr.mono (by decide)) (by rfl) DT.g DT.F.kp DT.b .nil pass0 (pa_cons (pv 0) pa_nil)))), ?_⟩
    exact ⟨_, rfl, n, rfl, h0, h1, _, rfl, n, rfl, by omega, h1, q⟩
/-! ### _law_is_never, _law_is_twofold -/
def spNever : Sp := fun vs H Q _ => ∃ n : Nat, vs = [.int n] ∧ 1 ≤ n ∧ n ≤ 100000000 ∧ ∀ b, (b = true ↔ Nv n) → Q (.bl b) H
theorem ok_never {f : Addr} {fd : FuncData} (D : Fn K mg "_law_is_never" sNever ["_law_number_here"] f fd) : FnOk P w K mg base CX0 1 f fd ["_law_number_here"] spNever := by
  refine D.F.ok scNever (fun vs H Q E h => ?_) (fun cdv A outer s H vs Q E hr h => ?_)
  · obtain ⟨x, rfl, _⟩ := h
    rfl
  · obtain ⟨n, rfl, h0, h1, q⟩ := h
    refine ⟨_, pss_cons (ps_set (i := 1) scNever.nd rfl (.inl rfl) (pv 0))
      (pss_cons (ps_while PassesOwn.never (pt_cmpR op_eq (pe_op op_mod (pv 1) pe_int) pe_int (nomark _)) (pss_one (ps_set (i := 1) scNever.nd rfl (.inl rfl) (pe_op op_fdiv (pv 1) pe_int))))
      (pss_one (ps_ret (pe_cmpR op_eq (pe_op op_mod (pv 1) pe_int) pe_int (nomark _))))), ?_⟩
    refine ⟨_, rfl, fun m σ H' => ∃ l : Nat, σ = [some (.int n), some (.int l)] ∧ H' = H ∧ 1 ≤ l ∧ (Nv n ↔ Nv l) ∧ m = l, ⟨_, n, rfl, rfl, h0, Iff.rfl, rfl⟩, fun m σ H' hW => ?_⟩
    obtain ⟨l, rfl, rfl, l0, hN, rfl⟩ := hW
    refine ⟨.int m, rfl, _, _, rfl, rfl, (by show (0 : Int) < 4; decide), rfl, _, rfl, ite2 (fun c => ?_) (fun c => ?_)⟩
    · have c2 : (m : Int) % 4 = 0 := V.int.inj (of_decide_eq_true c)
      refine ⟨_, fun _ _ h => h, ?_⟩
      refine ⟨.int m, rfl, _, _, rfl, rfl, ⟨by decide, by decide⟩, m / 4, by omega, m / 4, ?_, rfl, by omega, ?_, rfl⟩
      · rfl
      · rw [hN, ← Nv_four (l := m / 4), show 4 * (m / 4) = m by omega]
    · have c2 : ¬ (m : Int) % 4 = 0 := fun z => c (decide_eq_true (congrArg V.int z))
      refine ⟨.int m, rfl, _, _, rfl, rfl, (by show (0 : Int) < 8; decide), rfl, q _ ?_⟩
      rw [hN, Nv_end (by omega), decide_eq_true_eq, V.int.injEq]
      omega
def spTwofold : Sp := fun vs H Q _ => ∃ n : Nat, vs = [.int n] ∧ 1 ≤ n ∧ n ≤ 100000000 ∧ ∀ b, (b = true ↔ Sum2 n) → Q (.bl b) H
theorem ok_twofold {f : Addr} {fd : FuncData} (D : Fn K mg "_law_is_twofold" sTwofold ["_law_number_here"] f fd) : FnOk P w K mg base CX0 1 f fd ["_law_number_here"] spTwofold := by
  refine D.F.ok scTwofold (fun vs H Q E h => ?_) (fun cdv A outer s H vs Q E hr h => ?_)
  · obtain ⟨x, rfl, _⟩ := h
    rfl
  · obtain ⟨n, rfl, h0, h1, q⟩ := h
    refine ⟨_, pss_cons (ps_par (by rfl) scTwofold.nd (i := 1) (j := 2) rfl rfl (by decide) rfl rfl (pa_cons (pv 0) (pa_cons pe_int pa_nil)) (by rfl))
      (pss_cons (ps_while PassesOwn.never (pt_cmpR op_le (pe_op op_mul (pv 2) (pv 2)) (pv 1) (nomark _))
        (pss_cons (ps_set (i := 3) scTwofold.nd rfl (.inl rfl) pe_int)
        (pss_cons (ps_while PassesOwn.never (pt_cmpR op_eq (pe_op op_mod (pv 1) (pv 2)) pe_int (nomark _))
          (pss_one (ps_par (by rfl) scTwofold.nd (i := 1) (j := 3) rfl rfl (by decide) rfl rfl (pa_cons (pe_op op_fdiv (pv 1) (pv 2)) (pa_cons (pe_op op_add (pv 3) pe_int) pa_nil)) (by rfl))))
        (pss_cons (ps_if (PW.pt (pw_and (pt_cmpR op_eq (pe_op op_mod (pv 3) pe_int) pe_int (nomark _)) (pw_and1 (pt_cmpR op_eq (pe_op op_mod (pv 2) pe_int) pe_int (nomark _))))) (pss_one (ps_ret pe_bl)) pss_nil)
        (pss_one (ps_set (i := 2) scTwofold.nd rfl (.inl rfl) (pe_op op_add (pv 2) pe_int)))))))
      (pss_one (ps_ret (pe_cmpR op_ne (pe_op op_mod (pv 1) pe_int) pe_int (nomark _))))), ?_⟩
    refine ⟨_, rfl, _, _, rfl, fun m σ H' => ∃ (l p : Nat) (z : Option V), σ = [some (.int n), some (.int l), some (.int p), z] ∧ H' = H ∧ J n l p ∧ l ≤ 100000000 ∧ p ≤ 100000002 ∧ m = l + 1 - p, ⟨_, n, 2, none, rfl, rfl, J_start h0, h1, by omega, rfl⟩, fun m σ H' hW => ?_⟩
    obtain ⟨l0, p, z, rfl, rfl, hJ, hl, hp, rfl⟩ := hW
    refine ⟨.int p, rfl, .int p, rfl, _, _, rfl, rfl, .inl ⟨by omega, by omega⟩, .int l0, rfl, _, _, rfl, rfl, _, rfl, ite2 (fun c => ?_) (fun c => ?_)⟩
    · have c2 : (p : Int) * p ≤ l0 := of_decide_eq_true c
      have c3 : p * p ≤ l0 := by exact_mod_cast c2
      have p2 : 2 ≤ p := hJ.2.1
      have c4 : 2 * p ≤ p * p := Nat.mul_le_mul_right p p2
      refine ⟨_, fun _ _ h => h, ?_⟩
      refine ⟨fun m σ H2 => ∃ l k : Nat, σ = [some (.int n), some (.int l), some (.int p), some (.int k)] ∧ H2 = H' ∧ l0 = l * p ^ k ∧ 1 ≤ l ∧ m = l, ⟨_, l0, 0, rfl, rfl, by rw [Nat.pow_zero, Nat.mul_one], hJ.1, rfl⟩, fun m σ H2 hW => ?_⟩
      obtain ⟨l, k, rfl, rfl, el, l1, rfl⟩ := hW
      refine ⟨.int m, rfl, .int p, rfl, _, _, rfl, rfl, by show (0 : Int) < p; omega, rfl, _, rfl, ite2 (fun d => ?_) (fun d => ?_)⟩
      · have d2 : (m : Int) % p = 0 := V.int.inj (of_decide_eq_true d)
        have d3 : m % p = 0 := by exact_mod_cast d2
        have d4 : m = p * (m / p) := by have := Nat.div_add_mod m p; omega
        have d5 : 1 ≤ m / p := by
          rcases Nat.eq_zero_or_pos (m / p) with z | z
          · rw [z] at d4; omega
          · exact z
        have d6 : m / p < m := Nat.div_lt_self l1 p2
        refine ⟨_, fun _ _ h => h, ?_⟩
        refine ⟨.int m, rfl, .int p, rfl, _, _, rfl, rfl, ⟨by show (0 : Int) < p; omega, by omega⟩, .int k, rfl, _, _, rfl, rfl, _, _, rfl, m / p, d6, m / p, k + 1, ?_, rfl, ?_, d5, rfl⟩
        · rfl
        · rw [el, Nat.pow_succ]
          rw [show m / p * (p ^ k * p) = p * (m / p) * p ^ k by grind, ← d4]
      · have d2 : ¬ (m : Int) % p = 0 := fun z => d (decide_eq_true (congrArg V.int z))
        have d3 : ¬ p ∣ m := fun z => d2 (by exact_mod_cast Nat.mod_eq_zero_of_dvd z)
        have ml : m ≤ l0 := by
          rw [el]
          exact Nat.le_mul_of_pos_right m (Nat.pow_pos (by omega))
        refine ⟨.int k, rfl, _, _, rfl, rfl, (by show (0 : Int) < 2; decide), rfl, _, rfl, ite2 (fun e1 => ?_) (fun e1 => ?_)⟩
        · have e2 : (k : Int) % 2 = 1 := V.int.inj (of_decide_eq_true e1)
          refine ⟨.int p, rfl, _, _, rfl, rfl, (by show (0 : Int) < 4; decide), rfl, _, rfl, ite2 (fun g1 => ?_) (fun g1 => ?_)⟩
          · have g2 : (p : Int) % 4 = 3 := V.int.inj (of_decide_eq_true g1)
            refine q false ⟨fun z => (Bool.noConfusion z), fun z => (J_false hJ el d3 (by omega) (by omega) z).elim⟩
          · have g2 : ¬ (p : Int) % 4 = 3 := fun z => g1 (decide_eq_true (congrArg V.int z))
            refine ⟨.int p, rfl, _, _, rfl, rfl, m + 1 - (p + 1), by omega, m, p + 1, _, rfl, rfl, J_step hJ el d3 (by omega), by omega, by omega, rfl⟩
        · have e2 : ¬ (k : Int) % 2 = 1 := fun z => e1 (decide_eq_true (congrArg V.int z))
          refine iteF ?_
          refine ⟨.int p, rfl, _, _, rfl, rfl, m + 1 - (p + 1), by omega, m, p + 1, _, rfl, rfl, J_step hJ el d3 (by omega), by omega, by omega, rfl⟩
    · have c2 : ¬ (p : Int) * p ≤ l0 := fun z => c (decide_eq_true z)
      have c3 : l0 < p * p := by
        apply Classical.byContradiction
        intro z
        exact c2 (by exact_mod_cast (show p * p ≤ l0 by omega))
      refine ⟨.int l0, rfl, _, _, rfl, rfl, (by show (0 : Int) < 4; decide), rfl, q _ ?_⟩
      rw [← J_end hJ c3, Bool.not_eq_true', decide_eq_false_iff_not, V.int.injEq]
      omega
end
end K89

namespace K89
open PySem PySem.Spec PyProof.Rows L2 M2 M3 M4
theorem Same.tup {K : PySem.W.Frag} {H H' : Hp} {a : Addr} {xs : List V} (e : Same H H') (h : SqT K H a xs) : SqT K H' a xs := by
  rcases h with (h | ⟨o, h⟩) | h
  · exact .inl (.inl (e _ _ h))
  · exact .inl (.inr ⟨o, e _ _ h⟩)
  · exact .inr h
theorem same_app {H1 H3 : Hp} {D : Addr} {o : HO} (s : Same H1 H3) (n : H1 D = none) : Same H1 (upd H3 D o) := fun b x e => by
  rw [upd_ne (ne_of_none e n)]
  exact s _ _ e
section
variable {K : PySem.W.Frag} {a : Addr} {xs : List V} {j : Nat} {tt : TT} {te : TE} {σ : L2.St} {H1 : Hp} {D : Addr} {Qd : Hp → Prop}
theorem filt_snoc (p : V → Bool) (f : V → V) {i : Nat} {x : V} (h : xs[i]? = some x) : ((xs.take (i + 1)).filter p).map f = ((xs.take i).filter p).map f ++ (if p x = true then [f x] else []) := by
  rw [List.take_add_one, h, List.filter_append, List.map_append]
  congr 1
  show ([x].filter p).map f = _
  by_cases c : p x = true
  · rw [if_pos c, List.filter_cons_of_pos c]; rfl
  · rw [if_neg c, List.filter_cons_of_neg c]; rfl
/-- a comprehension over a tuple: its items by p and f; what is made besides is dropped -/
theorem lc_genT (p : V → Bool) (f : V → V) (hS : SqT K H1 a xs) (hlen : xs.length ≤ 1000) (nD : H1 D = none) (hw : ∀ x, wipe ((wipe σ [j]).set j (some x)) [j] = wipe σ [j])
    (ht : ∀ x H', x ∈ xs → Same H1 H' → ∀ Q : Bool → Hp → Prop, (∀ H'', Same H' H'' → Q (p x) H'') → tt ((wipe σ [j]).set j (some x)) H' Q)
    (he : ∀ x H', x ∈ xs → p x = true → Same H1 H' → ∀ Q : VK, (∀ H'', Same H' H'' → Q (f x) H'') → te ((wipe σ [j]).set j (some x)) H' Q)
    (hd : ∀ H', Same H1 H' → H' D = some (.lst ((xs.filter p).map f)) → Qd H') :
    ∃ W : Nat → Nat → Hp → Prop, (∃ m, W 0 m (upd H1 D (.lst []))) ∧ ∀ i m H, W i m H →
      ((Itt K a).stop i H ∧ Qd H) ∨ ((Itt K a).go i H ∧ ∃ Nx : Hp → Prop, (∀ H', Nx H' → ∃ m', m' < m ∧ W (i + 1) m' H') ∧ ∀ x H', (Itt K a).yld i H x H' → gName j x (wipe σ [j]) H' fun σ2 H2 => wipe σ2 [j] = wipe σ [j] ∧ tt σ2 H2 fun b H3 =>
        if b = true then te σ2 H3 fun y H4 => ∃ acc, H4 D = some (.lst acc) ∧ acc.length < sizeLine ∧ Nx (upd H4 D (.lst (acc ++ [y]))) else Nx H3) := by
  refine lc_tup (xs := xs) (fun i H' => Same H1 H' ∧ H' D = some (.lst (((xs.take i).filter p).map f))) ⟨same_upd nD, upd_same⟩ (fun i H' _ h => Same.tup h.1 hS) (fun i x H' hi h => ?_) (fun H' h => ?_)
  · obtain ⟨s1, hD⟩ := h
    have hx := List.mem_of_getElem? hi
    refine ⟨hw x, ht x H' hx s1 _ (fun H2 s2 => ?_)⟩
    have e := filt_snoc p f hi
    by_cases c : p x = true
    · rw [c]
      refine iteT (he x H2 hx c (s1.trans s2) _ (fun H3 s3 => ⟨_, s3 _ _ (s2 _ _ hD), ?_, same_app ((s1.trans s2).trans s3) nD, ?_⟩))
      · refine Nat.lt_of_le_of_lt ?_ (small1000 (Nat.le_refl _))
        rw [List.length_map]
        refine Nat.le_trans (List.length_filter_le _ _) ?_
        rw [List.length_take]
        omega
      · rw [upd_same, e, if_pos c]
    · have c' : p x = false := by simpa using c
      rw [c']
      refine iteF ⟨s1.trans s2, ?_⟩
      rw [e, if_neg c, List.append_nil]
      exact s2 _ _ hD
  · rw [List.take_length] at h
    exact hd H' h.1 h.2
/-- .. over a list -/
theorem lc_genL (p : V → Bool) (f : V → V) (hS : SqL K H1 a xs) (hlen : xs.length ≤ 1000) (nD : H1 D = none) (hw : ∀ x, wipe ((wipe σ [j]).set j (some x)) [j] = wipe σ [j])
    (ht : ∀ x H', x ∈ xs → Same H1 H' → ∀ Q : Bool → Hp → Prop, (∀ H'', Same H' H'' → Q (p x) H'') → tt ((wipe σ [j]).set j (some x)) H' Q)
    (he : ∀ x H', x ∈ xs → p x = true → Same H1 H' → ∀ Q : VK, (∀ H'', Same H' H'' → Q (f x) H'') → te ((wipe σ [j]).set j (some x)) H' Q)
    (hd : ∀ H', Same H1 H' → H' D = some (.lst ((xs.filter p).map f)) → Qd H') :
    ∃ W : Nat → Nat → Hp → Prop, (∃ m, W 0 m (upd H1 D (.lst []))) ∧ ∀ i m H, W i m H →
      ((Itl K a).stop i H ∧ Qd H) ∨ ((Itl K a).go i H ∧ ∃ Nx : Hp → Prop, (∀ H', Nx H' → ∃ m', m' < m ∧ W (i + 1) m' H') ∧ ∀ x H', (Itl K a).yld i H x H' → gName j x (wipe σ [j]) H' fun σ2 H2 => wipe σ2 [j] = wipe σ [j] ∧ tt σ2 H2 fun b H3 =>
        if b = true then te σ2 H3 fun y H4 => ∃ acc, H4 D = some (.lst acc) ∧ acc.length < sizeLine ∧ Nx (upd H4 D (.lst (acc ++ [y]))) else Nx H3) := by
  refine lc_list (xs := xs) (fun i H' => Same H1 H' ∧ H' D = some (.lst (((xs.take i).filter p).map f))) ⟨same_upd nD, upd_same⟩ (fun i H' _ h => h.1.seq hS) (fun i x H' hi h => ?_) (fun H' h => ?_)
  · obtain ⟨s1, hD⟩ := h
    have hx := List.mem_of_getElem? hi
    refine ⟨hw x, ht x H' hx s1 _ (fun H2 s2 => ?_)⟩
    have e := filt_snoc p f hi
    by_cases c : p x = true
    · rw [c]
      refine iteT (he x H2 hx c (s1.trans s2) _ (fun H3 s3 => ⟨_, s3 _ _ (s2 _ _ hD), ?_, same_app ((s1.trans s2).trans s3) nD, ?_⟩))
      · refine Nat.lt_of_le_of_lt ?_ (small1000 (Nat.le_refl _))
        rw [List.length_map]
        refine Nat.le_trans (List.length_filter_le _ _) ?_
        rw [List.length_take]
        omega
      · rw [upd_same, e, if_pos c]
    · have c' : p x = false := by simpa using c
      rw [c']
      refine iteF ⟨s1.trans s2, ?_⟩
      rw [e, if_neg c, List.append_nil]
      exact s2 _ _ hD
  · rw [List.take_length] at h
    exact hd H' h.1 h.2
end
section
variable {P : Program} {w : World} {K : PySem.W.Frag} {mg : Str → Option Value} {base : Heap}
/-! ### three_squares -/
def ThreeOut (n : Nat) (H : Hp) (Q : VK) : Prop := (Nv n → Q .non H) ∧ (¬ Nv n → ∀ (x y z : Int) (p : Addr) (H' : Hp), x * x + y * y + z * z = n → 0 ≤ x → 0 ≤ y → 0 ≤ z → x ≤ 100000000 → y ≤ 100000000 → z ≤ 100000000 → Same H H' → H p = none → H' p = some (.tup [.int x, .int y, .int z]) → Q (.ref p) H')
def spThree : Sp := fun vs H Q _ => ∃ n : Nat, vs = [.int n] ∧ 1 ≤ n ∧ n ≤ 100000000 ∧ G n ∧ ThreeOut n H Q
theorem le_sq {x n : Int} (h0 : 0 ≤ x) (h : x * x ≤ n) (hn : n ≤ 100000000) : x ≤ 100000000 := by
  by_cases c : x ≤ 1
  · omega
  · have := Int.mul_le_mul_of_nonneg_right (show (1 : Int) ≤ x by omega) h0
    omega
theorem scaled {a x y s l n : Int} (e : a * a + x * x + y * y = l) (en : n = s * s * l) : a * s * (a * s) + x * s * (x * s) + y * s * (y * s) = n := by
  rw [en, ← e]
  grind
theorem ok_three {f : Addr} {fd : FuncData} (D : Fn K mg "three_squares" sThree ["number"] f fd) (G0 : Prog K mg) : FnOk P w K mg base CX0 5 f fd ["number"] spThree := by
  obtain ⟨fB, fdB, DB, GB⟩ := G0.okBounded (P := P) (w := w) (base := base)
  obtain ⟨fT, fdT, DT, GT⟩ := G0.okTwoOf (P := P) (w := w) (base := base)
  obtain ⟨fR, fdR, DR, GR⟩ := G0.okRoot (P := P) (w := w) (base := base)
  obtain ⟨tm, mM⟩ := G0.T.most
  refine D.F.ok scThree (fun vs H Q E h => ?_) (fun cdv A outer s H vs Q E hr h => ?_)
  · obtain ⟨x, rfl, _⟩ := h
    rfl
  · obtain ⟨n, rfl, h0, h1, hG, q0, q1⟩ := h
    refine ⟨_, pss_cons (ps_expr (pe_call GB hr (by rfl) DB.g DB.F.kp DB.b .nil pass0 (pa_cons (pv 0) (pa_cons (pe_glob (v := .int 100000000) rfl mM ⟨_, rfl⟩) pa_nil))))
      (pss_cons (ps_par (by rfl) scThree.nd (i := 1) (j := 2) rfl rfl (by decide) rfl rfl (pa_cons pe_int (pa_cons (pv 0) pa_nil)) (by rfl))
      (pss_cons (ps_while PassesOwn.never (pt_cmpR op_eq (pe_op op_mod (pv 2) pe_int) pe_int (nomark _))
        (pss_one (ps_par (by rfl) scThree.nd (i := 1) (j := 2) rfl rfl (by decide) rfl rfl (pa_cons (pe_op op_mul pe_int (pv 1)) (pa_cons (pe_op op_fdiv (pv 2) pe_int) pa_nil)) (by rfl))))
      (pss_cons (ps_if (pt_cmpR op_eq (pe_op op_mod (pv 2) pe_int) pe_int (nomark _)) (pss_one (ps_ret pe_non)) pss_nil)
      (pss_cons (ps_for PassesOwn.never rfl (pi_range3 (by rfl) G0.T.range (pa_cons (pe_call GR (hr.mono (by decide)) (by rfl) DR.g DR.F.kp DR.b .nil pass0 (pa_cons (pv 2) pa_nil)) (pa_cons (pe_un un_neg pe_int) (pa_cons (pe_un un_neg pe_int) pa_nil)))) (pg_name (i := 3) scThree.nd rfl (.inl rfl))
        (pss_cons (ps_set (i := 4) scThree.nd rfl (.inl rfl) (pe_call GT (hr.mono (by decide)) (by rfl) DT.g DT.F.kp DT.b .nil pass0 (pa_cons (pe_op op_sub (pv 2) (pe_op op_mul (pv 3) (pv 3))) pa_nil)))
        (pss_one (ps_if (pt_cmpR op_notN (pv 4) pe_non (nomark _)) (pss_one (ps_ret (pe_tup (pa_cons (pe_op op_mul (pv 3) (pv 1)) (pa_cons (pe_op op_mul (pe_ix ix_tup (pv 4) pe_int (fun _ _ => rfl)) (pv 1)) (pa_cons (pe_op op_mul (pe_ix ix_tup (pv 4) pe_int (fun _ _ => rfl)) (pv 1)) pa_nil)))))) pss_nil))))
      (pss_one (ps_ret pe_non)))))), ?_⟩
    refine ⟨_, rfl, n, rfl, by omega, by omega, _, rfl, _, _, rfl, ?_⟩
    refine ⟨fun m σ H' => ∃ l s : Nat, σ = [some (.int n), some (.int s), some (.int l), none, none] ∧ H' = H ∧ 1 ≤ l ∧ 1 ≤ s ∧ n = s * s * l ∧ G l ∧ (Nv n ↔ Nv l) ∧ m = l, ⟨_, n, 1, rfl, rfl, h0, by omega, by omega, hG, Iff.rfl, rfl⟩, fun m σ H' hW => ?_⟩
    obtain ⟨l, sc, rfl, rfl, l0, s0, en, hGl, hN, rfl⟩ := hW
    have hs1 : sc * sc ≤ n := by
      rw [en]
      exact Nat.le_mul_of_pos_right _ l0
    have hs2 : sc ≤ sc * sc := Nat.le_mul_of_pos_left _ s0
    have hl1 : m ≤ n := by
      rw [en]
      exact Nat.le_mul_of_pos_left _ (by omega)
    refine ⟨.int m, rfl, _, _, rfl, rfl, (by show (0 : Int) < 4; decide), rfl, _, rfl, ite2 (fun c => ?_) (fun c => ?_)⟩
    · have c2 : (m : Int) % 4 = 0 := V.int.inj (of_decide_eq_true c)
      have c3 : 4 * (m / 4) = m := by omega
      refine ⟨_, fun _ _ h => h, ?_⟩
      refine ⟨.int sc, rfl, _, _, rfl, rfl, .inl ⟨by decide, by decide⟩, .int m, rfl, _, _, rfl, rfl, ⟨by decide, by decide⟩, _, _, rfl, m / 4, by omega, m / 4, 2 * sc, rfl, rfl, by omega, by omega, ?_, ?_, ?_, rfl⟩
      · rw [en]
        rw [show 2 * sc * (2 * sc) * (m / 4) = sc * sc * (4 * (m / 4)) by grind, c3]
      · exact G_four (l := m / 4) (by rw [c3]; exact hGl)
      · rw [hN, ← Nv_four (l := m / 4), c3]
    · have c2 : ¬ (m : Int) % 4 = 0 := fun z => c (decide_eq_true (congrArg V.int z))
      refine ⟨.int m, rfl, _, _, rfl, rfl, (by show (0 : Int) < 8; decide), rfl, _, rfl, ite2 (fun d => ?_) (fun d => ?_)⟩
      · have d2 : (m : Int) % 8 = 7 := V.int.inj (of_decide_eq_true d)
        exact q0 (hN.mpr ((Nv_end (by omega)).mpr (by omega)))
      · have d2 : ¬ (m : Int) % 8 = 7 := fun z => d (decide_eq_true (congrArg V.int z))
        have hnv : ¬ Nv n := fun z => d2 (by have := (Nv_end (by omega)).mp (hN.mp z); omega)
        have h3 := G_end hGl (by omega) (by omega)
        refine ⟨.int m, rfl, m, rfl, by omega, by omega, fun r hrt => ?_⟩
        have hr1 := rt_le hrt (by omega)
        refine ⟨1, rfl, 1, rfl, r, -1, -1, _, rfl, RgC.neg (by have := hrt.1; omega) (by omega) (by decide) (by decide), ?_⟩
        obtain ⟨R, rfl⟩ : ∃ R : Nat, r = R := ⟨r.toNat, by have := hrt.1; omega⟩
        rw [show ((R : Int) - -1).toNat = R + 1 by omega]
        refine for_rangeC (lo := (R : Int)) (c := -1) (n := R + 1) (fun i σ H2 => ∃ z3 z4, σ = [some (.int n), some (.int sc), some (.int m), z3, z4] ∧ H2 = H' ∧ ∀ k : Nat, k < i → ¬ S2 ((m : Int) - ((R : Int) - k) * ((R : Int) - k))) ⟨none, none, rfl, rfl, fun k z => by omega⟩ (fun i σ H2 hi hp => ?_) (fun σ H2 hp => ?_)
        · obtain ⟨z3, z4, rfl, rfl, hk⟩ := hp
          obtain ⟨a, ha⟩ : ∃ a : Int, a = (R : Int) + (i : Nat) * -1 := ⟨_, rfl⟩
          have ha2 : a = (R : Int) - i := by omega
          have hsq : a * a ≤ m := Int.le_trans (sq_le (by omega) (show a ≤ R by omega)) hrt.2.1
          have hsn := sq_nn a
          rw [← ha]
          refine ⟨.int m, rfl, .int a, rfl, .int a, rfl, _, _, rfl, rfl, .inl ⟨by omega, by omega⟩, _, _, rfl, rfl, (m : Int) - a * a, rfl, by omega, by omega, fun hno => ?_, fun x y p exy x0 y0 x1 y1 hp => ?_⟩
          · refine ⟨.non, rfl, rfl, _, rfl, iteF ?_⟩
            refine ⟨_, _, rfl, rfl, fun k hki => ?_⟩
            by_cases hk2 : k = i
            · subst hk2
              rw [← ha2]
              exact hno
            · exact hk k (by omega)
          · refine ⟨.ref p, rfl, rfl, _, rfl, iteT ?_⟩
            refine ⟨.int a, rfl, .int sc, rfl, _, _, rfl, rfl, .inl ⟨by omega, by omega⟩, .ref p, rfl, p, _, 0, .int x, rfl, rfl, SqT.of upd_same, atI_nat (j := 0) rfl, .int sc, rfl, _, _, rfl, rfl, .inl ⟨by omega, by omega⟩,
              .ref p, rfl, p, _, 1, .int y, rfl, rfl, SqT.of upd_same, atI_nat (j := 1) rfl, .int sc, rfl, _, _, rfl, rfl, .inl ⟨by omega, by omega⟩, (by show 3 ≤ sizeLine; decide), fun p2 hp2 => ?_⟩
            have npp : p2 ≠ p := fun e => by
              rw [e, upd_same] at hp2
              cases hp2
            have sp : Same H2 (upd H2 p (.tup [.int x, .int y])) := same_upd hp
            have sp2 := same_upd (o := .tup [.int (a * sc), .int (x * sc), .int (y * sc)]) hp2
            have en' : (n : Int) = sc * sc * m := by exact_mod_cast en
            have esum := scaled (show a * a + x * x + y * y = m by omega) en'
            have b1 := Int.mul_nonneg (show 0 ≤ a by omega) (show (0 : Int) ≤ sc by omega)
            have b2 := Int.mul_nonneg x0 (show (0 : Int) ≤ sc by omega)
            have b3 := Int.mul_nonneg y0 (show (0 : Int) ≤ sc by omega)
            have c1 := sq_nn (a * sc)
            have c2 := sq_nn (x * sc)
            have c3 := sq_nn (y * sc)
            have hn8 : (n : Int) ≤ 100000000 := by omega
            exact q1 hnv _ _ _ p2 _ esum b1 b2 b3 (le_sq b1 (by omega) hn8) (le_sq b2 (by omega) hn8) (le_sq b3 (by omega) hn8) (sp.trans sp2) (sp.free hp2) upd_same
        · obtain ⟨z3, z4, rfl, rfl, hk⟩ := hp
          exfalso
          obtain ⟨a, a0, a1, ha⟩ := first_of h3 hrt
          refine hk ((R : Int) - a).toNat (by omega) ?_
          rw [show (R : Int) - ((((R : Int) - a).toNat : Nat) : Int) = a by omega]
          exact ha
end
end K89

namespace K89
open PySem PySem.Spec PyProof.Rows L2 M2 M3 M4
/-! ### what is judged -/
def sqV : V → Int
  | .int i => i * i
  | _ => 0
def judge (k : Nat) (n : Int) (xs : List V) : Bool := decide (xs.length = k) && xs.all isI && decide ((xs.map sqV).sum = n)
/-- a value and the answer about it -/
def Val3 (k : Nat) (n : Int) (H : Hp) (x : V) (J : Bool) : Prop :=
  ((x = .non ∨ (∃ i, x = .int i) ∨ ∃ a xs, x = .ref a ∧ H a = some (.lst xs)) ∧ J = false) ∨ ∃ a xs, x = .ref a ∧ H a = some (.tup xs) ∧ (∀ y ∈ xs, Sm y) ∧ xs.length ≤ 10 ∧ J = judge k n xs
theorem Val3.same {k : Nat} {n : Int} {H H' : Hp} {x : V} {J : Bool} (s : Same H H') (h : Val3 k n H x J) : Val3 k n H' x J := by
  rcases h with ⟨h | h | ⟨a, xs, e, h⟩, j⟩ | ⟨a, xs, e, h, r⟩
  · exact .inl ⟨.inl h, j⟩
  · exact .inl ⟨.inr (.inl h), j⟩
  · exact .inl ⟨.inr (.inr ⟨a, xs, e, s _ _ h⟩), j⟩
  · exact .inr ⟨a, xs, e, s _ _ h, r⟩
def dat : V → PyData
  | .bl b => .bool b
  | .int i => .int i
  | .str s => .str s
  | _ => .none
theorem dp_all {K : PySem.W.Frag} {H : Hp} : ∀ {xs : List V}, (∀ y ∈ xs, Sm y) → DpAll K H xs (xs.map dat) ∧ PyData.canLayAll0 (xs.map dat) = true ∧ PyData.depthAll (xs.map dat) = 0
  | [], _ => ⟨.nil, by simp [PyData.canLayAll0], by simp [PyData.depthAll]⟩
  | x :: r, h => by
    obtain ⟨h1, h2, h3⟩ := dp_all (K := K) (H := H) (xs := r) fun y hy => h y (List.mem_cons_of_mem _ hy)
    have hx := h x List.mem_cons_self
    have e : Dp K H x (dat x) ∧ PyData.canLay0 (dat x) = true ∧ PyData.depth (dat x) = 0 := by
      rcases hx with ⟨i, rfl, _⟩ | ⟨b, rfl⟩ | rfl
      · exact ⟨.int i, by simp [dat, PyData.canLay0], by simp [dat, PyData.depth]⟩
      · exact ⟨.bl b, by simp [dat, PyData.canLay0], by simp [dat, PyData.depth]⟩
      · exact ⟨.str _, by decide +kernel, by simp [dat, PyData.depth]⟩
    refine ⟨.cons e.1 h1, ?_, ?_⟩
    · show PyData.canLayAll0 (dat x :: r.map dat) = true
      simp only [PyData.canLayAll0, e.2.1, h2, Bool.and_self]
    · show PyData.depthAll (dat x :: r.map dat) = 0
      simp only [PyData.depthAll, e.2.2, h3, Nat.max_self]
theorem shaped_all {K : PySem.W.Frag} {H : Hp} {xs : List V} (h : ∀ y ∈ xs, Sm y) : SeqAt.shaped (.list (xs.map dat)) = true := by
  obtain ⟨_, h2, h3⟩ := dp_all (K := K) (H := H) h
  unfold SeqAt.shaped
  simp only [PyData.canLay0, PyData.depth, h2, h3]
  decide
theorem eqv_nil (ds : List PyData) : PyData.eqv (.list ds) (.list []) = ds.isEmpty := by
  cases ds with
  | nil => simp [PyData.eqv, PyData.eqvAll]
  | cons d r => simp [PyData.eqv, PyData.eqvAll]
theorem map_sq {xs : List V} (hI : xs.all isI = true) : xs.map (fun x => V.int (sqV x)) = (xs.map sqV).map V.int := by
  rw [List.map_map]
  rfl
section
variable {P : Program} {w : World} {K : PySem.W.Frag} {mg : Str → Option Value} {base : Heap}
def spIs3 : Sp := fun vs H Q _ => ∃ (n : Int) (x : V) (J : Bool), vs = [.int n, x] ∧ 1 ≤ n ∧ n ≤ 100000000 ∧ Val3 3 n H x J ∧ ∀ H', Same H H' → Q (.bl J) H'
theorem big_mul {i : Int} (h : i.natAbs < 2 ^ 250) : CMulW i i := wide_mul h h (by decide) (by decide) (by decide)
theorem ok_is3 {f : Addr} {fd : FuncData} (D : Fn K mg "is_three_squares" sIs3 ["number", "value"] f fd) (G0 : Prog K mg) : FnOk P w K mg base CX0 4 f fd ["number", "value"] spIs3 := by
  obtain ⟨fL, fdL, DL, GL⟩ := G0.okLeast (P := P) (w := w) (base := base)
  obtain ⟨fW, fdW, DW⟩ := G0.whole
  have GW : FnOk P w K mg base CX0 1 fW fdW ["value"] spWhole := ok_whole DW G0.T
  have T := G0.T
  refine D.F.ok scIs3 (fun vs H Q E h => ?_) (fun cdv A outer s H vs Q E hr h => ?_)
  · obtain ⟨n, x, J, rfl, _⟩ := h
    rfl
  · obtain ⟨n, x, J, rfl, h0, h1, hv, q⟩ := h
    refine ⟨_, pss_cons (ps_expr (pe_call GL hr (by rfl) DL.g DL.F.kp DL.b .nil pass0 (pa_cons (pv 0) pa_nil)))
      (pss_cons (ps_if (PW.pt (pw_or (pt_not (pt_val (pe_callB call_isi (by rfl) T.isinst (by decide +kernel) (pa_cons (pv 1) (pa_cons (pe_bltn (v := .ty "tuple") (by rfl) T.tuple (by decide +kernel) rfl) pa_nil)))))
          (pw_or (pt_cmpR op_ne (pe_callB call_len_seq (by rfl) T.len PySem.boot_len (pa_cons (pv 1) pa_nil)) pe_int (nomark _))
          (pw_or1 (pt_not (pt_val (pe_callB (cr_all rfl) (by rfl) T.all (by decide +kernel) (pa_cons (pe_lc (own := [("entry", 2)]) (g := gName 2) (tt := tYes) rfl scIs3.nd (pi_tup (pv 1)) (blkOk_by (N := ["number", "value", "entry"]) (sc := defScope sIs3) (by decide +kernel))
            (fun _ _ _ _ _ => pg_name (i := 2) scIs3.nd rfl (Or.inl rfl)) (fun _ _ _ _ _ => pts_nil) (fun _ _ _ _ _ => pe_call GW (hr.mono (by decide)) (by rfl) DW.g DW.F.kp DW.b .nil pass0 (pa_cons (pv 2) pa_nil))) pa_nil))))))))
        (pss_one (ps_ret pe_bl)) pss_nil)
      (pss_one (ps_ret (pe_cmpR op_eq (pe_callB (cr_sum rfl) (by rfl) T.sum (by decide +kernel) (pa_cons (pe_lc (own := [("entry", 2)]) (g := gName 2) (tt := tYes) rfl scIs3.nd (pi_tup (pv 1)) (blkOk_by (N := ["number", "value", "entry"]) (sc := defScope sIs3) (by decide +kernel))
            (fun _ _ _ _ _ => pg_name (i := 2) scIs3.nd rfl (Or.inl rfl)) (fun _ _ _ _ _ => pts_nil) (fun _ _ _ _ _ => pe_op op_mulW (pv 2) (pv 2))) pa_nil)) (pv 0) (nomark _))))), ?_⟩
    refine ⟨_, rfl, n, rfl, h0, h1, ?_⟩
    refine ⟨x, rfl, ?_⟩
    rcases hv with ⟨hx, rfl⟩ | ⟨a, xs, rfl, hT, hS, hl, rfl⟩
    · have key : ∃ t : String, TyX K H x (.type t) ∧ kitB t "tuple" = some false := by
        rcases hx with rfl | ⟨i, rfl⟩ | ⟨a, xs, rfl, hL⟩
        · exact ⟨_, .base .non, by decide +kernel⟩
        · exact ⟨_, .base (.int i), by decide +kernel⟩
        · exact ⟨_, .base (.lst hL), by decide +kernel⟩
      obtain ⟨t, ht, hk⟩ := key
      exact ⟨_, _, _, _, false, rfl, .ty "tuple", ht, kit_ty hk, false, rfl, iteT (q _ (Same.refl H))⟩
    · refine ⟨_, _, _, _, true, rfl, .ty "tuple", .base (.tup hT), kit_ty (by decide +kernel), true, rfl, iteF ?_⟩
      refine ⟨.ref a, rfl, a, xs, rfl, .inr (SqT.of hT), rfl, _, rfl, ite2 (fun c => ?_) (fun c => ?_)⟩
      · have c2 : ¬ xs.length = 3 := fun z => by
          have : V.int (xs.length : Int) = V.int 3 := congrArg V.int (by rw [z]; rfl)
          rw [decide_eq_true this] at c
          exact absurd c (by decide)
        have := q H (Same.refl H)
        unfold judge at this
        rw [decide_eq_false c2, Bool.false_and, Bool.false_and] at this
        exact this
      · have c2 : xs.length = 3 := by
          apply Classical.byContradiction
          intro z
          apply c
          rw [decide_eq_false (fun e => z (by have := V.int.inj e; omega))]
          rfl
        refine ⟨.ref a, rfl, a, rfl, ⟨_, SqT.of hT⟩, fun D1 nD1 => lc_genT (fun _ => true) (fun y => .bl (isI y)) (SqT.of hT) (by omega) nD1 (fun _ => rfl) (fun y H' _ _ Q' k => k H' (Same.refl _)) (fun y H' hy _ _ Q' k => ⟨y, rfl, y, rfl, hS y hy, k H' (Same.refl _)⟩) (fun H1 s1 hD1 => ?_)⟩
        have eb : (xs.filter fun _ => true).map (fun y => V.bl (isI y)) = (xs.map isI).map V.bl := by
          rw [List.filter_eq_self.mpr (fun _ _ => rfl), List.map_map]
          rfl
        rw [eb] at hD1
        refine ⟨D1, _, rfl, SqL.of hD1, _, rfl, ?_⟩
        have eall : (xs.map isI).all id = xs.all isI := by
          rw [List.all_map]
          rfl
        rw [eall]
        by_cases hI : xs.all isI = true
        · rw [hI]
          refine iteF ?_
          refine ⟨.ref a, rfl, a, rfl, ⟨_, SqT.of (s1 _ _ hT)⟩, fun D2 nD2 => lc_genT (fun _ => true) (fun y => .int (sqV y)) (SqT.of (s1 _ _ hT)) (by omega) nD2 (fun _ => rfl) (fun y H' _ _ Q' k => k H' (Same.refl _)) (fun y H' hy _ _ Q' k => ?_) (fun H2 s2 hD2 => ?_)⟩
          · have hyI := List.all_eq_true.mp hI y hy
            rcases hS y hy with ⟨i, rfl, hi⟩ | ⟨b, rfl⟩ | rfl
            · exact ⟨_, rfl, _, rfl, i, i, rfl, rfl, big_mul hi, k H' (Same.refl _)⟩
            · cases hyI
            · cases hyI
          · rw [List.filter_eq_self.mpr (fun _ _ => rfl), map_sq hI] at hD2
            refine ⟨D2, _, rfl, SqL.of hD2, .int n, rfl, rfl, ?_⟩
            have := q H2 (s1.trans s2)
            unfold judge at this
            rw [decide_eq_true c2, hI, Bool.true_and, Bool.true_and] at this
            rw [show decide (V.int (xs.map sqV).sum = V.int n) = decide ((xs.map sqV).sum = n) from decide_eq_decide.mpr ⟨V.int.inj, congrArg V.int⟩]
            exact this
        · have hI' : xs.all isI = false := by simpa using hI
          rw [hI']
          refine iteT ?_
          have := q H1 s1
          unfold judge at this
          rw [hI', Bool.and_false, Bool.false_and] at this
          exact this
/-- isinstance of slot j -/
def tInst (K : PySem.W.Frag) (j : Nat) (T : String) : TE := tCB (rIsi K) (tCons (tVar j) (tCons (tC (.ty T)) tNil))
def spAdd : Sp := fun vs H Q _ => ∃ (k : Nat) (n : Int) (x : V) (J : Bool), vs = [x, .int k, .int n] ∧ Val3 k n H x J ∧ ∀ H', Same H H' → Q (.bl J) H'
theorem ok_add {f : Addr} {fd : FuncData} (D : Fn K mg "_law_do_add" sAdd ["_law_value", "_law_many", "_law_number_here"] f fd) (T : Txt mg) : FnOk P w K mg base CX0 1 f fd ["_law_value", "_law_many", "_law_number_here"] spAdd := by
  refine D.F.ok scAdd (fun vs H Q E h => ?_) (fun cdv A outer s H vs Q E hr h => ?_)
  · obtain ⟨k, n, x, J, rfl, _⟩ := h
    rfl
  · obtain ⟨k, n, x, J, rfl, hv, q⟩ := h
    refine ⟨_, pss_cons (ps_if (PW.pt (pw_or (pt_not (pt_val (pe_callB call_isi (by rfl) T.isinst (by decide +kernel) (pa_cons (pv 0) (pa_cons (pe_bltn (v := .ty "tuple") (by rfl) T.tuple (by decide +kernel) rfl) pa_nil)))))
          (pw_or1 (pt_cmpR op_ne (pe_callB call_len_seq (by rfl) T.len PySem.boot_len (pa_cons (pv 0) pa_nil)) (pv 1) (nomark _))))) (pss_one (ps_ret pe_bl)) pss_nil)
      (pss_cons (ps_if (pt_cmpR (op_neD hr.units) (pe_lc (own := [("_law_one", 3)]) (g := gName 3) (tt := tOr (tNot (tB (tInst K 3 "int"))) (tB (tInst K 3 "bool"))) rfl scAdd.nd (pi_tup (pv 0)) (blkOk_by (N := ["_law_value", "_law_many", "_law_number_here", "_law_one"]) (sc := defScope sAdd) (by decide +kernel))
            (fun _ _ _ _ _ => pg_name (i := 3) scAdd.nd rfl (Or.inl rfl))
            (fun _ _ _ _ _ => pts_one (PW.pt (pw_or (pt_not (pt_val (pe_callB (id := "isinstance") call_isi (by rfl) T.isinst (by decide +kernel) (pa_cons (pv 3) (pa_cons (pe_bltn (v := .ty "int") (by rfl) T.int (by decide +kernel) rfl) pa_nil)))))
              (pw_or1 (pt_val (pe_callB (id := "isinstance") call_isi (by rfl) T.isinst (by decide +kernel) (pa_cons (pv 3) (pa_cons (pe_bltn (v := .ty "bool") (by rfl) T.bool (by decide +kernel) rfl) pa_nil))))))))
            (fun _ _ _ _ _ => pv 3)) (pe_lst pa_nil) (nomark _)) (pss_one (ps_ret pe_bl)) pss_nil)
      (pss_one (ps_ret (pe_cmpR op_eq (pe_callB (cr_sum rfl) (by rfl) T.sum (by decide +kernel) (pa_cons (pe_lc (own := [("_law_one", 3)]) (g := gName 3) (tt := tYes) rfl scAdd.nd (pi_tup (pv 0)) (blkOk_by (N := ["_law_value", "_law_many", "_law_number_here", "_law_one"]) (sc := defScope sAdd) (by decide +kernel))
            (fun _ _ _ _ _ => pg_name (i := 3) scAdd.nd rfl (Or.inl rfl)) (fun _ _ _ _ _ => pts_nil) (fun _ _ _ _ _ => pe_op op_mulW (pv 3) (pv 3))) pa_nil)) (pv 2) (nomark _))))), ?_⟩
    refine ⟨x, rfl, ?_⟩
    rcases hv with ⟨hx, rfl⟩ | ⟨a, xs, rfl, hT, hS, hl, rfl⟩
    · have key : ∃ t : String, TyX K H x (.type t) ∧ kitB t "tuple" = some false := by
        rcases hx with rfl | ⟨i, rfl⟩ | ⟨a, xs, rfl, hL⟩
        · exact ⟨_, .base .non, by decide +kernel⟩
        · exact ⟨_, .base (.int i), by decide +kernel⟩
        · exact ⟨_, .base (.lst hL), by decide +kernel⟩
      obtain ⟨t, ht, hk⟩ := key
      exact ⟨_, _, _, _, false, rfl, .ty "tuple", ht, kit_ty hk, false, rfl, iteT (q _ (Same.refl H))⟩
    · refine ⟨_, _, _, _, true, rfl, .ty "tuple", .base (.tup hT), kit_ty (by decide +kernel), true, rfl, iteF ?_⟩
      refine ⟨.ref a, rfl, a, xs, rfl, .inr (SqT.of hT), .int k, rfl, rfl, _, rfl, ite2 (fun c => ?_) (fun c => ?_)⟩
      · have c2 : ¬ xs.length = k := fun z => by
          have : V.int (xs.length : Int) = V.int k := congrArg V.int (by rw [z])
          rw [decide_eq_true this] at c
          exact absurd c (by decide)
        have := q H (Same.refl H)
        unfold judge at this
        rw [decide_eq_false c2, Bool.false_and, Bool.false_and] at this
        exact this
      · have c2 : xs.length = k := by
          apply Classical.byContradiction
          intro z
          apply c
          rw [decide_eq_false (fun e => z (by have := V.int.inj e; omega))]
          rfl
        refine ⟨.ref a, rfl, a, rfl, ⟨_, SqT.of hT⟩, fun D1 nD1 => lc_genT (fun y => !isI y) (fun y => y) (SqT.of hT) (by omega) nD1 (fun _ => rfl) (fun y H' hy _ Q' k => ?_) (fun y H' hy _ _ Q' k => ⟨y, rfl, k H' (Same.refl _)⟩) (fun H1 s1 hD1 => ?_)⟩
        · rcases hS y hy with ⟨i, rfl, _⟩ | ⟨b, rfl⟩ | rfl
          · exact ⟨_, rfl, _, _, _, _, true, rfl, .ty "int", .base (.int i), kit_ty (by decide +kernel), true, rfl, iteF ⟨_, rfl, _, _, _, _, false, rfl, .ty "bool", .base (.int i), kit_ty (by decide +kernel), false, rfl, k H' (Same.refl _)⟩⟩
          · exact ⟨_, rfl, _, _, _, _, true, rfl, .ty "int", .base (.bl b), kit_ty (by decide +kernel), true, rfl, iteF ⟨_, rfl, _, _, _, _, true, rfl, .ty "bool", .base (.bl b), kit_ty (by decide +kernel), true, rfl, k H' (Same.refl _)⟩⟩
          · exact ⟨_, rfl, _, _, _, _, false, rfl, .ty "int", .base (.str _), kit_ty (by decide +kernel), false, rfl, iteT (k H' (Same.refl _))⟩
        · rw [List.map_id'] at hD1
          refine ⟨by show 0 ≤ sizeLine; decide, fun p np => ?_⟩
          have s2 : Same H1 (upd H1 p (.lst [])) := same_upd np
          have hF : ∀ y ∈ xs.filter (fun y => !isI y), Sm y := fun y hy => hS y (List.mem_filter.mp hy).1
          refine ⟨_, _, .lst (SqL.of (s2 _ _ hD1)) (dp_all hF).1, .lst (SqL.of upd_same) .nil, shaped_all (K := K) (H := H) hF, by decide +kernel, _, rfl, ?_⟩
          rw [eqv_nil]
          by_cases hI : xs.all isI = true
          · have ee : xs.filter (fun y => !isI y) = [] := List.filter_eq_nil_iff.mpr fun y hy => by
              rw [List.all_eq_true.mp hI y hy]
              decide
            rw [ee]
            refine iteF ?_
            refine ⟨.ref a, rfl, a, rfl, ⟨_, SqT.of (s2 _ _ (s1 _ _ hT))⟩, fun D2 nD2 => lc_genT (fun _ => true) (fun y => .int (sqV y)) (SqT.of (s2 _ _ (s1 _ _ hT))) (by omega) nD2 (fun _ => rfl) (fun y H' _ _ Q' k => k H' (Same.refl _)) (fun y H' hy _ _ Q' k => ?_) (fun H2 s3 hD2 => ?_)⟩
            · have hyI := List.all_eq_true.mp hI y hy
              rcases hS y hy with ⟨i, rfl, hi⟩ | ⟨b, rfl⟩ | rfl
              · exact ⟨_, rfl, _, rfl, i, i, rfl, rfl, big_mul hi, k H' (Same.refl _)⟩
              · cases hyI
              · cases hyI
            · rw [List.filter_eq_self.mpr (fun _ _ => rfl), map_sq hI] at hD2
              refine ⟨D2, _, rfl, SqL.of hD2, .int n, rfl, rfl, ?_⟩
              have := q H2 ((s1.trans s2).trans s3)
              unfold judge at this
              rw [decide_eq_true c2, hI, Bool.true_and, Bool.true_and] at this
              rw [show decide (V.int (xs.map sqV).sum = V.int n) = decide ((xs.map sqV).sum = n) from decide_eq_decide.mpr ⟨V.int.inj, congrArg V.int⟩]
              exact this
          · have hI' : xs.all isI = false := by simpa using hI
            have ee : ((xs.filter (fun y => !isI y)).map dat).isEmpty = false := by
              rw [List.isEmpty_eq_false_iff, ne_eq, List.map_eq_nil_iff, List.filter_eq_nil_iff]
              intro z
              apply hI
              rw [List.all_eq_true]
              intro y hy
              have := z y hy
              simpa using this
            rw [ee]
            refine iteT ?_
            have := q _ (s1.trans s2)
            unfold judge at this
            rw [hI', Bool.and_false, Bool.false_and] at this
            exact this
end
end K89

namespace K89
open PySem PySem.Spec PyProof.Rows L2 M2 M3 M4
/-- a ** b of a great base -/
def CPowW (i j : Int) : Prop := 0 ≤ j ∧ (Builtin.Int.intBits i : Int) * j ≤ 2 ^ 27
theorem op_powW {X : Cx} : OpR X (binaryOp .Pow) (rI CPowW fun i j => .int (i ^ j.toNat)) := opI fun _ _ _ _ _ _ _ hc q => pow_int hc.1 hc.2 q
theorem ite_join {c : Bool} {tA tB : TE} {σ : L2.St} {H : Hp} {Q : VK} {Pv : V → Prop} (hq : ∀ v, Pv v → Q v H) (h1 : c = true → ∀ Q2 : VK, (∀ v, Pv v → Q2 v H) → tA σ H Q2) (h2 : c = false → ∀ Q2 : VK, (∀ v, Pv v → Q2 v H) → tB σ H Q2) :
    if c = true then tA σ H Q else tB σ H Q := by
  cases c with
  | true => exact iteT (h1 rfl Q hq)
  | false => exact iteF (h2 rfl Q hq)
theorem powBig : CPowW ((10 : Int) ^ (59 : Int).toNat) 8 := ⟨by decide, by decide +kernel⟩
theorem posBig : (0 : Int) < ((10 : Int) ^ (59 : Int).toNat) ^ (8 : Int).toNat := by decide +kernel
/-- all but what stands at p is kept -/
def Keep (p : Addr) (H H' : Hp) : Prop := ∀ b o, b ≠ p → H b = some o → H' b = some o
theorem Keep.refl (p : Addr) (H : Hp) : Keep p H H := fun _ _ _ h => h
theorem Keep.trans {p : Addr} {H H1 H2 : Hp} (a : Keep p H H1) (b : Keep p H1 H2) : Keep p H H2 := fun c o n h => b c o n (a c o n h)
theorem Keep.of {p : Addr} {H H1 : Hp} (a : Same H H1) : Keep p H H1 := fun c o _ h => a c o h
theorem Keep.upd {p : Addr} {H : Hp} {o : HO} : Keep p H (upd H p o) := fun b u n h => by
  rw [upd_ne n]
  exact h
theorem Keep.same {p : Addr} {H H1 H2 : Hp} (s : Same H H1) (n : H p = none) (k : Keep p H1 H2) : Same H H2 := fun b o e => k b o (ne_of_none e n) (s b o e)
/-- a pot -/
def Pot (H : Hp) (p : Addr) : Prop := ∃ a b c : Int, H p = some (.lst [.int a, .int b, .int c])
section
variable {P : Program} {w : World} {K : PySem.W.Frag} {mg : Str → Option Value} {base : Heap}
/-! ### _law_pot -/
def spPot (K : PySem.W.Frag) : Sp := fun vs H Q _ => ∃ (a : Addr) (ns : List Int) (k : Nat), vs = [.ref a, .int k] ∧ SqL K H a (ns.map V.int) ∧ k ≤ 3 ∧ ∀ p H', H p = none → Same H H' → Pot H' p → Q (.ref p) H'
theorem ok_pot {f : Addr} {fd : FuncData} (D : Fn K mg "_law_pot" sPot ["_law_script", "_law_at"] f fd) (T : Txt mg) : FnOk P w K mg base CX0 1 f fd ["_law_script", "_law_at"] (spPot K) := by
  refine D.F.ok scPot (fun vs H Q E h => ?_) (fun cdv A outer s H vs Q E hr h => ?_)
  · obtain ⟨a, ns, k, rfl, _⟩ := h
    rfl
  · obtain ⟨a, ns, k, rfl, hS, hk, q⟩ := h
    refine ⟨_, pss_cons (ps_set (i := 2) scPot.nd rfl (.inl rfl) (pe_ifExp (pt_cmpR op_lt (pv 1) (pe_callB call_len_seq (by rfl) T.len PySem.boot_len (pa_cons (pv 0) pa_nil)) (nomark _)) (pe_ix ix_list (pv 0) (pv 1) (fun _ _ => rfl)) (pe_op op_add (pe_op op_mul pe_int (pv 1)) pe_int)))
      (pss_cons (ps_set (i := 3) scPot.nd rfl (.inl rfl) (pe_op op_mod (pe_callTy call_int1 (by rfl) T.int (by decide +kernel) (pa_cons (pe_callB call_abs (by rfl) T.abs (by decide +kernel) (pa_cons (pv 2) pa_nil)) pa_nil)) (pe_op op_powW (pe_op op_pow pe_int pe_int) pe_int)))
      (pss_cons (ps_set (i := 4) scPot.nd rfl (.inl rfl) (pe_op op_add (pe_op op_add (pe_op op_add (pe_op op_mul (pe_op op_mod (pe_callTy call_int1 (by rfl) T.int (by decide +kernel) (pa_cons (pv 3) pa_nil)) pe_int) pe_int) (pe_op op_mul pe_int (pv 1)))
          (pe_op op_mul pe_int (pe_callTy call_int1 (by rfl) T.int (by decide +kernel) (pa_cons (pe_cmpR op_lt (pv 2) pe_int (nomark _)) pa_nil)))) pe_int))
      (pss_one (ps_ret (pe_lst (pa_cons (pe_callB (call_max2 rfl) (by rfl) T.max (by decide +kernel) (pa_cons pe_int (pa_cons (pe_op op_add (pe_op op_sub (pv 3) (pe_op op_pow pe_int pe_int)) pe_int) pa_nil)))
          (pa_cons (pe_op op_mod (pe_callTy call_int1 (by rfl) T.int (by decide +kernel) (pa_cons (pv 4) pa_nil)) pe_int) (pa_cons pe_int pa_nil)))))))), ?_⟩
    refine ⟨.int k, rfl, .ref a, rfl, a, _, rfl, .inl hS, _, _, rfl, rfl, _, rfl, ite_join (Pv := fun v => ∃ cell : Int, v = .int cell) (fun v hv => ?_) (fun c Q2 h2 => ?_) (fun c Q2 h2 => ?_)⟩
    · obtain ⟨cell, rfl⟩ := hv
      refine ⟨.int cell, rfl, cell, rfl, .inl ⟨_, rfl, _, _, rfl, rfl, ⟨by decide, by decide, by decide⟩, _, _, rfl, rfl, powBig, _, _, rfl, rfl, posBig, ?_⟩⟩
      show (fun x H1 => gName 3 x _ H1 _) (V.int _) H
      generalize (if cell < 0 then -cell else cell) % (((10 : Int) ^ (59 : Int).toNat) ^ (8 : Int).toNat) = g
      refine ⟨.int g, rfl, .inl ⟨_, rfl, _, _, rfl, rfl, (by show (0 : Int) < 2305843009213693669; decide), _, _, rfl, rfl, .inr ⟨by decide, by decide⟩, .int k, rfl, _, _, rfl, rfl, .inl ⟨by decide, by decide⟩, _, _, rfl, rfl, .int cell, rfl, _, _, rfl, rfl, .inr ⟨_, rfl, _, _, rfl, rfl, .inl ⟨by decide, by decide⟩, _, _, rfl, rfl, _, _, rfl, rfl, ?_⟩⟩⟩
      refine ⟨.int g, rfl, _, _, rfl, rfl, ⟨by decide, by decide, by decide⟩, _, _, rfl, rfl, _, _, rfl, rfl, _, _, rfl, _, rfl, .inl ⟨_, rfl, _, _, rfl, rfl, (by show (0 : Int) < 2305843009213693951; decide), (by show 3 ≤ sizeLine; decide), fun p hp => ?_⟩⟩
      exact q p _ hp (same_upd hp) ⟨_, _, _, upd_same⟩
    · have c2 : (k : Int) < ((ns.map V.int).length : Int) := of_decide_eq_true c
      rw [List.length_map] at c2
      have c3 : k < ns.length := by omega
      exact ⟨.ref a, rfl, .int k, rfl, a, _, k, .int ns[k], rfl, rfl, hS, atI_nat (j := k) (by rw [List.getElem?_map, List.getElem?_eq_getElem c3]; rfl), h2 _ ⟨_, rfl⟩⟩
    · exact ⟨.int k, rfl, _, _, rfl, rfl, .inl ⟨by decide, by decide⟩, _, _, rfl, rfl, h2 _ ⟨_, rfl⟩⟩
end
end K89

namespace K89
open PySem PySem.Spec PyProof.Rows L2 M2 M3 M4
section
variable {P : Program} {w : World} {K : PySem.W.Frag} {mg : Str → Option Value} {base : Heap}
/-! ### _law_dip -/
def spDip : Sp := fun vs H Q _ => ∃ (p : Addr) (t : Int), vs = [.ref p, .int t] ∧ 1 ≤ t ∧ t ≤ 10000000 ∧ Pot H p ∧ ∀ (d : Int) H', 0 ≤ d → d < t → Keep p H H' → Pot H' p → Q (.int d) H'
theorem ok_dip {f : Addr} {fd : FuncData} (D : Fn K mg "_law_dip" sDip ["_law_pot_here", "_law_total"] f fd) (T : Txt mg) : FnOk P w K mg base CX0 1 f fd ["_law_pot_here", "_law_total"] spDip := by
  refine D.F.ok scDip (fun vs H Q E h => ?_) (fun cdv A outer s H vs Q E hr h => ?_)
  · obtain ⟨p, t, rfl, _⟩ := h
    rfl
  · obtain ⟨p, t, rfl, t1, t2, ⟨a, b, c, hp⟩, q⟩ := h
    refine ⟨_, pss_cons (ps_if (pt_cmpR op_gt (pe_ix ix_list (pv 0) pe_int (fun _ _ => rfl)) pe_int (nomark _))
        (pss_cons (ps_set (i := 2) scDip.nd rfl (.inl rfl) (pe_op op_mod (pe_callTy call_int1 (by rfl) T.int (by decide +kernel) (pa_cons (pe_ix ix_list (pv 0) pe_int (fun _ _ => rfl)) pa_nil)) (pv 1)))
        (pss_cons (ps_asg (pe_op op_fdiv (pe_ix ix_list (pv 0) pe_int (fun _ _ => rfl)) (pv 1)) (pg_sub (pv 0) pe_int set_list))
        (pss_one (ps_ret (pv 2))))) pss_nil)
      (pss_cons (ps_asg (pe_op op_add (pe_ix ix_list (pv 0) pe_int (fun _ _ => rfl)) pe_int) (pg_sub (pv 0) pe_int set_list))
      (pss_cons (ps_set (i := 3) scDip.nd rfl (.inl rfl) (pe_op op_mod (pe_callTy call_int1 (by rfl) T.int (by decide +kernel) (pa_cons (pe_op op_add (pe_ix ix_list (pv 0) pe_int (fun _ _ => rfl)) (pe_op op_mul pe_int (pe_ix ix_list (pv 0) pe_int (fun _ _ => rfl)))) pa_nil)) pe_int))
      (pss_cons (ps_set (i := 4) scDip.nd rfl (.inl rfl) (pe_op op_add (pe_op op_mul (pe_op op_mod (pe_callTy call_int1 (by rfl) T.int (by decide +kernel) (pa_cons (pe_op op_mul (pv 3) (pv 3)) pa_nil)) pe_int) (pv 3)) (pe_op op_mul pe_int (pe_ix ix_list (pv 0) pe_int (fun _ _ => rfl)))))
      (pss_one (ps_ret (pe_op op_mod (pe_callTy call_int1 (by rfl) T.int (by decide +kernel) (pa_cons (pe_op op_fdiv (pe_op op_mod (pe_callTy call_int1 (by rfl) T.int (by decide +kernel) (pa_cons (pv 4) pa_nil)) pe_int) pe_int) pa_nil)) (pv 1))))))), ?_⟩
    refine ⟨.ref p, rfl, p, _, 0, .int a, rfl, rfl, SqL.of hp, atI_nat (j := 0) rfl, _, _, rfl, rfl, _, rfl, ite2 (fun g => ?_) (fun g => ?_)⟩
    · refine ⟨.ref p, rfl, p, _, 0, .int a, rfl, rfl, SqL.of hp, atI_nat (j := 0) rfl, .inl ⟨_, rfl, .int t, rfl, _, _, rfl, rfl, (by show (0 : Int) < t; omega), ?_⟩⟩
      refine ⟨.ref p, rfl, p, _, 0, .int a, rfl, rfl, SqL.of hp, atI_nat (j := 0) rfl, .int t, rfl, _, _, rfl, rfl, ⟨by omega, by omega⟩, .ref p, rfl, p, _, 0, 0, rfl, rfl, hp, rfl, ?_⟩
      exact ⟨_, rfl, q (a % t) _ (Int.emod_nonneg _ (by omega)) (Int.emod_lt_of_pos _ (by omega)) Keep.upd ⟨_, _, _, upd_same⟩⟩
    · refine ⟨.ref p, rfl, p, _, 2, .int c, rfl, rfl, SqL.of hp, atI_nat (j := 2) rfl, _, _, rfl, rfl, .ref p, rfl, p, _, 2, 2, rfl, rfl, hp, rfl, ?_⟩
      have h2 : (upd H p (.lst [.int a, .int b, .int (c + 1)])) p = some (.lst [.int a, .int b, .int (c + 1)]) := upd_same
      refine ⟨.ref p, rfl, p, _, 1, .int b, rfl, rfl, SqL.of h2, atI_nat (j := 1) rfl, .ref p, rfl, p, _, 2, .int (c + 1), rfl, rfl, SqL.of h2, atI_nat (j := 2) rfl, _, _, rfl, rfl, .inl ⟨by decide, by decide⟩, _, _, rfl, rfl, .inl ⟨_, rfl, _, _, rfl, rfl, (by show (0 : Int) < 2305843009213693951; decide), ?_⟩⟩
      show (fun x H1 => gName 3 x _ H1 _) (V.int _) _
      obtain ⟨o, ho⟩ : ∃ o : Int, o = (b + 1000151 * (c + 1)) % 2305843009213693951 := ⟨_, rfl⟩
      have o0 : 0 ≤ o := by rw [ho]; exact Int.emod_nonneg _ (by decide)
      have o1 : o < 2305843009213693951 := by rw [ho]; exact Int.emod_lt_of_pos _ (by decide)
      rw [← ho]
      clear ho
      refine ⟨.int o, rfl, .int o, rfl, _, _, rfl, rfl, .inl ⟨by omega, by omega⟩, .inl ⟨_, rfl, _, _, rfl, rfl, (by show (0 : Int) < 2305843009213693907; decide), .int o, rfl, _, _, rfl, rfl, .inr ⟨by omega, by omega⟩, .ref p, rfl, p, _, 2, .int (c + 1), rfl, rfl, SqL.of h2, atI_nat (j := 2) rfl, _, _, rfl, rfl, .inl ⟨by decide, by decide⟩, _, _, rfl, rfl, ?_⟩⟩
      show (fun x H1 => gName 4 x _ H1 _) (V.int _) _
      generalize (o * o % 2305843009213693907 * o + 9127 * (c + 1)) = u
      refine ⟨.int u, rfl, .inl ⟨_, rfl, _, _, rfl, rfl, (by show (0 : Int) < 2305843009213693921; decide), _, _, rfl, rfl, ⟨by decide, by decide⟩, .inl ⟨_, rfl, .int t, rfl, _, _, rfl, rfl, (by show (0 : Int) < t; omega), ?_⟩⟩⟩
      exact q _ _ (Int.emod_nonneg _ (by omega)) (Int.emod_lt_of_pos _ (by omega)) Keep.upd ⟨_, _, _, h2⟩
/-! ### _law_pick -/
def spPick : Sp := fun vs H Q _ => ∃ (p r : Addr) (ns : List Int), vs = [.ref p, .ref r] ∧ H r = some (.lst (ns.map V.int)) ∧ 1 ≤ ns.length ∧ ns.length ≤ 100 ∧ r ≠ p ∧ Pot H p ∧ ∀ (x : Int) H', x ∈ ns → Keep p H H' → Pot H' p → Q (.int x) H'
theorem ok_pick {f fd0 : Addr} {fd fdD : FuncData} (D : Fn K mg "_law_pick" sPick ["_law_pot_here", "_law_items"] f fd) (DD : Fn K mg "_law_dip" sDip ["_law_pot_here", "_law_total"] fd0 fdD) (T : Txt mg) : FnOk P w K mg base CX0 2 f fd ["_law_pot_here", "_law_items"] spPick := by
  have GD : FnOk P w K mg base CX0 1 fd0 fdD ["_law_pot_here", "_law_total"] spDip := ok_dip DD T
  refine D.F.ok scPick (fun vs H Q E h => ?_) (fun cdv A outer s H vs Q E hr h => ?_)
  · obtain ⟨p, t, _, rfl, _⟩ := h
    rfl
  · obtain ⟨p, r, ns, rfl, hL, l1, l2, hn, hP, q⟩ := h
    refine ⟨_, pss_one (ps_ret (pe_ix ix_list (pv 1) (pe_call GD hr (by rfl) DD.g DD.F.kp DD.b .nil pass0 (pa_cons (pv 0) (pa_cons (pe_callB call_len_seq (by rfl) T.len PySem.boot_len (pa_cons (pv 1) pa_nil)) pa_nil))) (fun _ _ => rfl))), ?_⟩
    refine ⟨.ref r, rfl, .ref p, rfl, .ref r, rfl, r, _, rfl, .inl (SqL.of hL), p, (ns.length : Int), ?_, by omega, by omega, hP, fun d H' d0 d1 kp hP' => ?_⟩
    · rw [List.length_map]
      rfl
    · obtain ⟨j, rfl⟩ : ∃ j : Nat, d = j := ⟨d.toNat, by omega⟩
      have hj : j < ns.length := by omega
      refine ⟨r, _, j, .int ns[j], rfl, rfl, SqL.of (kp _ _ hn hL), atI_nat (j := j) (by rw [List.getElem?_map, List.getElem?_eq_getElem hj]; rfl), q _ _ (List.getElem_mem hj) kp hP'⟩
/-! ### _law_number -/
theorem num_pick {x d : Int} (hx : x ∈ [(1 : Int), 4, 16, 1024]) (d0 : 0 ≤ d) (d1 : d < 9000) : ∃ n : Nat, x * (8 * d + 7) = n ∧ 1 ≤ n ∧ n ≤ 100000000 ∧ G n := by
  obtain ⟨D, rfl⟩ : ∃ D : Nat, d = D := ⟨d.toNat, by omega⟩
  simp only [List.mem_cons, List.not_mem_nil, or_false] at hx
  rcases hx with rfl | rfl | rfl | rfl
  · exact ⟨1 * (8 * D + 7), by omega, by omega, by omega, .inr (.inr ⟨0, D, by omega⟩)⟩
  · exact ⟨4 * (8 * D + 7), by omega, by omega, by omega, .inr (.inr ⟨1, D, by omega⟩)⟩
  · exact ⟨16 * (8 * D + 7), by omega, by omega, by omega, .inr (.inr ⟨2, D, by omega⟩)⟩
  · exact ⟨1024 * (8 * D + 7), by omega, by omega, by omega, .inr (.inr ⟨5, D, by omega⟩)⟩
theorem num_sq {a b : Int} (a0 : 0 ≤ a) (a1 : a < 7000) (b0 : 0 ≤ b) (b1 : b < 7000) : ∃ n : Nat, a * a + (1 + b) * (1 + b) = n ∧ 1 ≤ n ∧ n ≤ 100000000 ∧ G n := by
  obtain ⟨A, rfl⟩ : ∃ A : Nat, a = A := ⟨a.toNat, by omega⟩
  obtain ⟨B, rfl⟩ : ∃ B : Nat, b = B := ⟨b.toNat, by omega⟩
  have h1 : A * A ≤ 6999 * 6999 := Nat.mul_le_mul (by omega) (by omega)
  have h2 : (1 + B) * (1 + B) ≤ 7000 * 7000 := Nat.mul_le_mul (by omega) (by omega)
  have h3 : 1 * 1 ≤ (1 + B) * (1 + B) := Nat.mul_le_mul (by omega) (by omega)
  exact ⟨A * A + (1 + B) * (1 + B), by push_cast; rfl, by omega, by omega, .inr (.inl ⟨A, 1 + B, rfl⟩)⟩
theorem num_one {d t : Int} (d0 : 0 ≤ d) (d1 : d < t) (ht : t ≤ 10000000) : ∃ n : Nat, 1 + d = n ∧ 1 ≤ n ∧ n ≤ 100000000 ∧ G n := by
  obtain ⟨D, rfl⟩ : ∃ D : Nat, d = D := ⟨d.toNat, by omega⟩
  exact ⟨1 + D, by omega, by omega, by omega, .inl (by omega)⟩
def spNumber : Sp := fun vs H Q _ => ∃ (p : Addr), vs = [.ref p] ∧ Pot H p ∧ ∀ (n : Nat) H', 1 ≤ n → n ≤ 100000000 → G n → Keep p H H' → Q (.int n) H'
theorem ne_new {H : Hp} {p r : Addr} (hP : Pot H p) (hr : H r = none) : r ≠ p := fun e => by
  obtain ⟨_, _, _, h⟩ := hP
  rw [e, h] at hr
  cases hr
theorem Pot.same {H H' : Hp} {p : Addr} (h : Pot H p) (s : Same H H') : Pot H' p := by
  obtain ⟨a, b, c, h⟩ := h
  exact ⟨a, b, c, s _ _ h⟩
theorem ok_number {f fD fP : Addr} {fd fdD fdP : FuncData} (D : Fn K mg "_law_number" sNumber ["_law_pot_here"] f fd) (DP : Fn K mg "_law_pick" sPick ["_law_pot_here", "_law_items"] fP fdP) (DD : Fn K mg "_law_dip" sDip ["_law_pot_here", "_law_total"] fD fdD) (T : Txt mg) : FnOk P w K mg base CX0 3 f fd ["_law_pot_here"] spNumber := by
  have GD : FnOk P w K mg base CX0 1 fD fdD ["_law_pot_here", "_law_total"] spDip := ok_dip DD T
  have GP : FnOk P w K mg base CX0 2 fP fdP ["_law_pot_here", "_law_items"] spPick := ok_pick DP DD T
  refine D.F.ok scNumber (fun vs H Q E h => ?_) (fun cdv A outer s H vs Q E hr h => ?_)
  · obtain ⟨p, rfl, _⟩ := h
    rfl
  · obtain ⟨p, rfl, hP, q⟩ := h
    have hr1 := hr.mono (j := 1) (by decide)
    refine ⟨_, pss_cons (ps_set (i := 1) scNumber.nd rfl (.inl rfl) (pe_call GD hr1 (by rfl) DD.g DD.F.kp DD.b .nil pass0 (pa_cons (pv 0) (pa_cons pe_int pa_nil))))
      (pss_cons (ps_if (pt_cmpR op_eq (pv 1) pe_int (nomark _)) (pss_one (ps_ret (pe_op op_add pe_int (pe_call GD hr1 (by rfl) DD.g DD.F.kp DD.b .nil pass0 (pa_cons (pv 0) (pa_cons pe_int pa_nil)))))) pss_nil)
      (pss_cons (ps_if (pt_cmpR op_eq (pv 1) pe_int (nomark _)) (pss_one (ps_ret (pe_op op_mul (pe_call GP hr (by rfl) DP.g DP.F.kp DP.b .nil pass0 (pa_cons (pv 0) (pa_cons (pe_lst (pa_cons pe_int (pa_cons pe_int (pa_cons pe_int (pa_cons pe_int pa_nil))))) pa_nil)))
          (pe_op op_add (pe_op op_mul pe_int (pe_call GD hr1 (by rfl) DD.g DD.F.kp DD.b .nil pass0 (pa_cons (pv 0) (pa_cons pe_int pa_nil)))) pe_int)))) pss_nil)
      (pss_cons (ps_if (pt_cmpR op_eq (pv 1) pe_int (nomark _)) (pss_cons (ps_par (by rfl) scNumber.nd (i := 2) (j := 3) rfl rfl (by decide) rfl rfl (pa_cons (pe_call GD hr1 (by rfl) DD.g DD.F.kp DD.b .nil pass0 (pa_cons (pv 0) (pa_cons pe_int pa_nil))) (pa_cons (pe_op op_add pe_int (pe_call GD hr1 (by rfl) DD.g DD.F.kp DD.b .nil pass0 (pa_cons (pv 0) (pa_cons pe_int pa_nil)))) pa_nil)) (by rfl))
          (pss_one (ps_ret (pe_op op_add (pe_op op_mul (pv 2) (pv 2)) (pe_op op_mul (pv 3) (pv 3)))))) pss_nil)
      (pss_one (ps_ret (pe_op op_add pe_int (pe_call GD hr1 (by rfl) DD.g DD.F.kp DD.b .nil pass0 (pa_cons (pv 0) (pa_cons (pe_call GP hr (by rfl) DP.g DP.F.kp DP.b .nil pass0 (pa_cons (pv 0) (pa_cons (pe_lst (pa_cons pe_int (pa_cons (pe_op op_pow pe_int pe_int) (pa_cons (pe_op op_pow pe_int pe_int) pa_nil)))) pa_nil))) pa_nil))))))))), ?_⟩
    refine ⟨.ref p, rfl, p, 5, rfl, by decide, by decide, hP, fun wy H1 w0 w1 k1 P1 => ?_⟩
    refine ⟨.int wy, rfl, rfl, _, rfl, ite2 (fun c => ?_) (fun c => ?_)⟩
    · refine ⟨.ref p, rfl, p, 40, rfl, by decide, by decide, P1, fun d H2 d0 d1 k2 P2 => ?_⟩
      obtain ⟨n, e, n1, n2, g⟩ := num_one d0 d1 (by decide)
      refine ⟨_, _, rfl, rfl, ?_⟩
      show Q (V.int (1 + d)) H2
      rw [e]
      exact q n H2 n1 n2 g (k1.trans k2)
    · refine ⟨.int wy, rfl, rfl, _, rfl, ite2 (fun c => ?_) (fun c => ?_)⟩
      · refine ⟨.ref p, rfl, (by show 4 ≤ sizeLine; decide), fun r nr => ?_⟩
        have s2 : Same H1 (upd H1 r (.lst [.int 1, .int 4, .int 16, .int 1024])) := same_upd nr
        refine ⟨p, r, [1, 4, 16, 1024], rfl, upd_same, by decide, by decide, ne_new P1 nr, P1.same s2, fun x H3 hx k3 P3 => ?_⟩
        refine ⟨.ref p, rfl, p, 9000, rfl, by decide, by decide, P3, fun d H4 d0 d1 k4 P4 => ?_⟩
        obtain ⟨n, e, n1, n2, g⟩ := num_pick hx d0 d1
        refine ⟨_, _, rfl, rfl, .inl ⟨by decide, by decide⟩, _, _, rfl, rfl, _, _, rfl, rfl, .inr ⟨by omega, by omega⟩, ?_⟩
        show Q (V.int (x * (8 * d + 7))) H4
        rw [e]
        exact q n H4 n1 n2 g (((k1.trans (Keep.of s2)).trans k3).trans k4)
      · refine ⟨.int wy, rfl, rfl, _, rfl, ite2 (fun c => ?_) (fun c => ?_)⟩
        · refine ⟨.ref p, rfl, p, 7000, rfl, by decide, by decide, P1, fun a H2 a0 a1 k2 P2 => ?_⟩
          refine ⟨.ref p, rfl, p, 7000, rfl, by decide, by decide, P2, fun b H3 b0 b1 k3 P3 => ?_⟩
          obtain ⟨n, e, n1, n2, g⟩ := num_sq a0 a1 b0 b1
          refine ⟨_, _, rfl, rfl, _, _, rfl, .int a, rfl, .int a, rfl, _, _, rfl, rfl, .inl ⟨by omega, by omega⟩, .int (1 + b), rfl, .int (1 + b), rfl, _, _, rfl, rfl, .inl ⟨by omega, by omega⟩, _, _, rfl, rfl, ?_⟩
          show Q (V.int (a * a + (1 + b) * (1 + b))) H3
          rw [e]
          exact q n H3 n1 n2 g ((k1.trans k2).trans k3)
        · refine ⟨.ref p, rfl, .ref p, rfl, _, _, rfl, rfl, ⟨by decide, by decide, by decide⟩, _, _, rfl, rfl, ⟨by decide, by decide, by decide⟩, (by show 3 ≤ sizeLine; decide), fun r nr => ?_⟩
          have s2 := same_upd (o := .lst [.int 1000, .int 100000, .int 10000000]) nr
          refine ⟨p, r, [1000, 100000, 10000000], rfl, upd_same, by decide, by decide, ne_new P1 nr, P1.same (same_upd nr), fun x H3 hx k3 P3 => ?_⟩
          have hx2 : 1 ≤ x ∧ x ≤ 10000000 := by
            simp only [List.mem_cons, List.not_mem_nil, or_false] at hx
            omega
          refine ⟨p, x, rfl, hx2.1, hx2.2, P3, fun d H4 d0 d1 k4 P4 => ?_⟩
          obtain ⟨n, e, n1, n2, g⟩ := num_one d0 d1 hx2.2
          refine ⟨_, _, rfl, rfl, ?_⟩
          show Q (V.int (1 + d)) H4
          rw [e]
          exact q n H4 n1 n2 g (((k1.trans (Keep.of (same_upd nr))).trans k3).trans k4)
end
end K89

namespace K89
open PySem PySem.Spec PyProof.Rows L2 M2 M3 M4
/-! ### what the two squares and the three squares are told as -/
def Th (n : Nat) (H : Hp) (x : V) : Prop := (x = .non ∧ Nv n) ∨ (¬ Nv n ∧ ∃ (p : Addr) (a b c : Int), x = .ref p ∧ H p = some (.tup [.int a, .int b, .int c]) ∧ a * a + b * b + c * c = n ∧ 0 ≤ a ∧ 0 ≤ b ∧ 0 ≤ c ∧ a ≤ 100000000 ∧ b ≤ 100000000 ∧ c ≤ 100000000)
def Tw (n : Nat) (H : Hp) (x : V) : Prop := (x = .non ∧ ¬ S2 n) ∨ (S2 n ∧ ∃ (p : Addr) (a b : Int), x = .ref p ∧ H p = some (.tup [.int a, .int b]) ∧ a * a + b * b = n ∧ 0 ≤ a ∧ 0 ≤ b ∧ a ≤ 100000000 ∧ b ≤ 100000000)
theorem Th.same {n : Nat} {H H' : Hp} {x : V} (s : Same H H') (h : Th n H x) : Th n H' x := by
  rcases h with h | ⟨hn, p, a, b, c, e, hp, r⟩
  · exact .inl h
  · exact .inr ⟨hn, p, a, b, c, e, s _ _ hp, r⟩
theorem Tw.same {n : Nat} {H H' : Hp} {x : V} (s : Same H H') (h : Tw n H x) : Tw n H' x := by
  rcases h with h | ⟨hn, p, a, b, e, hp, r⟩
  · exact .inl h
  · exact .inr ⟨hn, p, a, b, e, s _ _ hp, r⟩
theorem th_out {n : Nat} {H : Hp} {Q : VK} (k : ∀ x H', Same H H' → Th n H' x → Q x H') : ThreeOut n H Q :=
  ⟨fun h => k _ _ (Same.refl H) (.inl ⟨rfl, h⟩), fun hn x y z p H' e x0 y0 z0 x1 y1 z1 s _ hp => k _ _ s (.inr ⟨hn, p, x, y, z, rfl, hp, e, x0, y0, z0, x1, y1, z1⟩)⟩
theorem tw_out {n : Nat} {H : Hp} {Q : VK} (k : ∀ x H', Same H H' → Tw n H' x → Q x H') : TwoOut n H Q :=
  ⟨fun h => k _ _ (Same.refl H) (.inl ⟨rfl, h⟩), fun a b p e a0 b0 a1 b1 hp => k _ _ (same_upd hp) (.inr ⟨⟨a, b, e⟩, p, a, b, rfl, upd_same, e, a0, b0, a1, b1⟩)⟩
theorem Th.non_iff {n : Nat} {H : Hp} {x : V} (h : Th n H x) : x = .non ↔ Nv n := by
  rcases h with ⟨rfl, h⟩ | ⟨hn, p, a, b, c, rfl, _⟩
  · exact ⟨fun _ => h, fun _ => rfl⟩
  · exact ⟨fun z => (by cases z), fun z => (hn z).elim⟩
theorem Tw.non_iff {n : Nat} {H : Hp} {x : V} (h : Tw n H x) : x = .non ↔ ¬ S2 n := by
  rcases h with ⟨rfl, h⟩ | ⟨hn, p, a, b, rfl, _⟩
  · exact ⟨fun _ => h, fun _ => rfl⟩
  · exact ⟨fun z => (by cases z), fun z => (z hn).elim⟩
theorem sm_int {i : Int} (h0 : -100000000 ≤ i) (h1 : i ≤ 100000000) : Sm (.int i) := by
  refine .inl ⟨i, rfl, Nat.lt_of_lt_of_le (show i.natAbs < 2 ^ 27 from ?_) (Nat.pow_le_pow_right (by decide) (by decide))⟩
  have : (2 : Nat) ^ 27 = 134217728 := by decide
  omega
theorem sm1 (i : Int) (h0 : 0 ≤ i) (h1 : i ≤ 100000000) : Sm (.int i) := sm_int (by omega) h1
/-- a value about which both judges say the same -/
def Ok3 (n : Nat) (H : Hp) (x : V) : Prop := ∃ J, Val3 3 n H x J
theorem Ok3.same {n : Nat} {H H' : Hp} {x : V} (s : Same H H') (h : Ok3 n H x) : Ok3 n H' x := by
  obtain ⟨J, h⟩ := h
  exact ⟨J, h.same s⟩
theorem ok3_tup {n : Nat} {H : Hp} {p : Addr} {xs : List V} (h : H p = some (.tup xs)) (hs : ∀ y ∈ xs, Sm y) (hl : xs.length ≤ 10) : Ok3 n H (.ref p) := ⟨_, .inr ⟨p, xs, rfl, h, hs, hl, rfl⟩⟩
theorem ok3_lst {n : Nat} {H : Hp} {p : Addr} {xs : List V} (h : H p = some (.lst xs)) : Ok3 n H (.ref p) := ⟨_, .inl ⟨.inr (.inr ⟨p, xs, rfl, h⟩), rfl⟩⟩
theorem ok3_non {n : Nat} {H : Hp} : Ok3 n H .non := ⟨_, .inl ⟨.inl rfl, rfl⟩⟩
theorem ok3_int {n : Nat} {H : Hp} {i : Int} : Ok3 n H (.int i) := ⟨_, .inl ⟨.inr (.inl ⟨i, rfl⟩), rfl⟩⟩
theorem Th.ok {n : Nat} {H : Hp} {x : V} (h : Th n H x) : Ok3 n H x := by
  rcases h with ⟨rfl, h⟩ | ⟨hn, p, a, b, c, rfl, hp, e, a0, b0, c0, a1, b1, c1⟩
  · exact ok3_non
  · refine ok3_tup hp (fun y hy => ?_) (by simp)
    simp only [List.mem_cons, List.not_mem_nil, or_false] at hy
    rcases hy with rfl | rfl | rfl
    · exact sm1 _ a0 a1
    · exact sm1 _ b0 b1
    · exact sm1 _ c0 c1
theorem Tw.ok {n : Nat} {H : Hp} {x : V} (h : Tw n H x) : Ok3 n H x := by
  rcases h with ⟨rfl, h⟩ | ⟨hn, p, a, b, rfl, hp, e, a0, b0, a1, b1⟩
  · exact ok3_non
  · refine ok3_tup hp (fun y hy => ?_) (by simp)
    simp only [List.mem_cons, List.not_mem_nil, or_false] at hy
    rcases hy with rfl | rfl
    · exact sm1 _ a0 a1
    · exact sm1 _ b0 b1
theorem judge3 {n : Nat} {a b c : Int} (e : a * a + b * b + c * c = n) : judge 3 n [.int a, .int b, .int c] = true := by
  have h : (([V.int a, V.int b, V.int c].map sqV).sum = (n : Int)) := by
    show a * a + (b * b + (c * c + 0)) = n
    omega
  unfold judge
  rw [decide_eq_true h]
  rfl
theorem judge2 {n : Nat} {a b : Int} (e : a * a + b * b = n) : judge 2 n [.int a, .int b] = true := by
  have h : (([V.int a, V.int b].map sqV).sum = (n : Int)) := by
    show a * a + (b * b + 0) = n
    omega
  unfold judge
  rw [decide_eq_true h]
  rfl
theorem Th.judged {n : Nat} {H : Hp} {x : V} (h : Th n H x) (hx : x ≠ .non) : Val3 3 n H x true := by
  rcases h with ⟨rfl, h⟩ | ⟨hn, p, a, b, c, rfl, hp, e, a0, b0, c0, a1, b1, c1⟩
  · exact (hx rfl).elim
  · refine .inr ⟨p, _, rfl, hp, fun y hy => ?_, by simp, (judge3 e).symm⟩
    simp only [List.mem_cons, List.not_mem_nil, or_false] at hy
    rcases hy with rfl | rfl | rfl
    · exact sm1 _ a0 a1
    · exact sm1 _ b0 b1
    · exact sm1 _ c0 c1
theorem Tw.judged {n : Nat} {H : Hp} {x : V} (h : Tw n H x) (hx : x ≠ .non) : Val3 2 n H x true := by
  rcases h with ⟨rfl, h⟩ | ⟨hn, p, a, b, rfl, hp, e, a0, b0, a1, b1⟩
  · exact (hx rfl).elim
  · refine .inr ⟨p, _, rfl, hp, fun y hy => ?_, by simp, (judge2 e).symm⟩
    simp only [List.mem_cons, List.not_mem_nil, or_false] at hy
    rcases hy with rfl | rfl
    · exact sm1 _ a0 a1
    · exact sm1 _ b0 b1
/-- the list of what is judged, as it grows: Hb is the heap ahead of the list -/
def Mid (p : Addr) (n m : Nat) (x3 x2 : V) (H : Hp) (σ : L2.St) (H' : Hp) : Prop := ∃ (l : Addr) (items : List V) (Hb : Hp), σ = [some (.ref p), some (.int n), some x3, some x2, some (.ref l), none] ∧ Keep p H Hb ∧ Th n Hb x3 ∧ Tw n Hb x2 ∧ H' l = some (.lst items) ∧ Hb l = none ∧ Same Hb H' ∧ items.length ≤ m ∧ ∀ x ∈ items, Ok3 n Hb x
section
variable {P : Program} {w : World} {K : PySem.W.Frag} {mg : Str → Option Value} {base : Heap}
structure Law (K : PySem.W.Frag) (mg : Str → Option Value) : Prop where
  G : Prog K mg
  two : ∃ f fd, Fn K mg "two_squares" sTwo ["number"] f fd
  three : ∃ f fd, Fn K mg "three_squares" sThree ["number"] f fd
  is3 : ∃ f fd, Fn K mg "is_three_squares" sIs3 ["number", "value"] f fd
  pot : ∃ f fd, Fn K mg "_law_pot" sPot ["_law_script", "_law_at"] f fd
  dip : ∃ f fd, Fn K mg "_law_dip" sDip ["_law_pot_here", "_law_total"] f fd
  pick : ∃ f fd, Fn K mg "_law_pick" sPick ["_law_pot_here", "_law_items"] f fd
  never : ∃ f fd, Fn K mg "_law_is_never" sNever ["_law_number_here"] f fd
  twofold : ∃ f fd, Fn K mg "_law_is_twofold" sTwofold ["_law_number_here"] f fd
  add : ∃ f fd, Fn K mg "_law_do_add" sAdd ["_law_value", "_law_many", "_law_number_here"] f fd
  number : ∃ f fd, Fn K mg "_law_number" sNumber ["_law_pot_here"] f fd
  right : ∃ f fd, Fn K mg "_law_right" sRight ["_law_pot_here"] f fd
def spRight : Sp := fun vs H Q _ => ∃ p : Addr, vs = [.ref p] ∧ Pot H p ∧ ∀ H', Keep p H H' → Q (.bl true) H'
theorem ne_in {H : Hp} {p q : Addr} {o : HO} (h : H p = some o) (hq : H q = none) : q ≠ p := fun e => by
  rw [e, h] at hq
  cases hq
end
end K89

namespace K89
open PySem PySem.Spec PyProof.Rows L2 M2 M3 M4
section
variable {P : Program} {w : World} {K : PySem.W.Frag} {mg : Str → Option Value} {base : Heap}
theorem iteNF {c A B : Prop} [Decidable c] (hc : ¬ c) (h : A) : if (!decide c) = true then A else B := by
  rw [decide_eq_false hc]
  exact iteT h
/-- not told wrong -/
theorem told_ok {i kk n : Nat} {σ : L2.St} {x : V} {H4 : Hp} {Qb : Bool → Hp → Prop} (hx : σ[i]? = some (some x)) (hn : σ[1]? = some (some (.int n))) (hJ : x ≠ .non → Val3 kk n H4 x true) (k : ∀ H5, Same H4 H5 → Qb false H5) :
    tAnd (tTest (tOp (fun x y H Q => y = V.non ∧ Q (.bl (!decide (x = .non))) H) (tVar i) (tC .non))) (tNot (tB (tCall spAdd [] E0 (tCons (tVar i) (tCons (tC (.int (kk : Int))) (tCons (tVar 1) tNil)))))) σ H4 Qb := by
  refine ⟨x, hx, rfl, _, rfl, ?_⟩
  by_cases c : x = .non
  · exact iteNS c (k H4 (Same.refl H4))
  · exact iteNF c ⟨x, hx, .int n, hn, kk, n, x, true, rfl, hJ c, fun H5 s5 => ⟨true, rfl, k H5 s5⟩⟩
theorem sm2 {a b : V} (ha : Sm a) (hb : Sm b) : ∀ y ∈ [a, b], Sm y := fun y hy => by
  simp only [List.mem_cons, List.not_mem_nil, or_false] at hy
  rcases hy with rfl | rfl <;> assumption
theorem sm3 {a b c : V} (ha : Sm a) (hb : Sm b) (hc : Sm c) : ∀ y ∈ [a, b, c], Sm y := fun y hy => by
  simp only [List.mem_cons, List.not_mem_nil, or_false] at hy
  rcases hy with rfl | rfl | rfl <;> assumption
theorem sm4 {a b c d : V} (ha : Sm a) (hb : Sm b) (hc : Sm c) (hd : Sm d) : ∀ y ∈ [a, b, c, d], Sm y := fun y hy => by
  simp only [List.mem_cons, List.not_mem_nil, or_false] at hy
  rcases hy with rfl | rfl | rfl | rfl <;> assumption
theorem ok_right {f : Addr} {fd : FuncData} (D : Fn K mg "_law_right" sRight ["_law_pot_here"] f fd) (L : Law K mg) : FnOk P w K mg base CX0 6 f fd ["_law_pot_here"] spRight := by
  have T := L.G.T
  obtain ⟨f2, fd2, D2⟩ := L.two
  obtain ⟨f3, fd3, D3⟩ := L.three
  obtain ⟨fi, fdi, Di⟩ := L.is3
  obtain ⟨fD, fdD, DD⟩ := L.dip
  obtain ⟨fP, fdP, DP⟩ := L.pick
  obtain ⟨fN, fdN, DN⟩ := L.never
  obtain ⟨fF, fdF, DF⟩ := L.twofold
  obtain ⟨fA, fdA, DA⟩ := L.add
  obtain ⟨fU, fdU, DU⟩ := L.number
  have G2 : FnOk P w K mg base CX0 5 f2 fd2 ["number"] spTwo := ok_two D2 L.G
  have G3 : FnOk P w K mg base CX0 5 f3 fd3 ["number"] spThree := ok_three D3 L.G
  have Gi : FnOk P w K mg base CX0 4 fi fdi ["number", "value"] spIs3 := ok_is3 Di L.G
  have GN : FnOk P w K mg base CX0 1 fN fdN ["_law_number_here"] spNever := ok_never DN
  have GF : FnOk P w K mg base CX0 1 fF fdF ["_law_number_here"] spTwofold := ok_twofold DF
  have GA : FnOk P w K mg base CX0 1 fA fdA ["_law_value", "_law_many", "_law_number_here"] spAdd := ok_add DA T
  have GU : FnOk P w K mg base CX0 3 fU fdU ["_law_pot_here"] spNumber := ok_number DU DP DD T
  refine D.F.ok scRight (fun vs H Q E h => ?_) (fun cdv A outer s H vs Q E hr h => ?_)
  · obtain ⟨p, rfl, _⟩ := h
    rfl
  · obtain ⟨p, rfl, hP, q⟩ := h
    have hr1 := hr.mono (j := 1) (by decide)
    have hr3 := hr.mono (j := 3) (by decide)
    have hr4 := hr.mono (j := 4) (by decide)
    refine ⟨_, pss_cons (ps_set (i := 1) scRight.nd rfl (.inr rfl) (pe_call GU hr3 (by rfl) DU.g DU.F.kp DU.b .nil pass0 (pa_cons (pv 0) pa_nil)))
      (pss_cons (ps_par (by rfl) scRight.nd (i := 2) (j := 3) rfl rfl (by decide) rfl rfl (pa_cons (pe_call G3 hr (by rfl) D3.g D3.F.kp D3.b .nil pass0 (pa_cons (pv 1) pa_nil)) (pa_cons (pe_call G2 hr (by rfl) D2.g D2.F.kp D2.b .nil pass0 (pa_cons (pv 1) pa_nil)) pa_nil)) (by rfl))
      (pss_cons (ps_if (PW.pt (pw_or (pt_cmpR op_ne (pe_cmpR op_isN (pv 2) pe_non (nomark _)) (pe_call GN hr1 (by rfl) DN.g DN.F.kp DN.b .nil pass0 (pa_cons (pv 1) pa_nil)) (nomark _))
          (pw_or1 (pt_cmpR op_eq (pe_cmpR op_isN (pv 3) pe_non (nomark _)) (pe_call GF hr1 (by rfl) DF.g DF.F.kp DF.b .nil pass0 (pa_cons (pv 1) pa_nil)) (nomark _))))) (pss_one (ps_ret pe_bl)) pss_nil)
      (C8.pss_cut (ps_if (PW.pt (pw_or (PW.pt (pw_and (pt_cmpR op_notN (pv 2) pe_non (nomark _)) (pw_and1 (pt_not (pt_val (pe_call GA hr1 (by rfl) DA.g DA.F.kp DA.b .nil pass0 (pa_cons (pv 2) (pa_cons pe_int (pa_cons (pv 1) pa_nil)))))))))
          (pw_or1 (PW.pt (pw_and (pt_cmpR op_notN (pv 3) pe_non (nomark _)) (pw_and1 (pt_not (pt_val (pe_call GA hr1 (by rfl) DA.g DA.F.kp DA.b .nil pass0 (pa_cons (pv 3) (pa_cons pe_int (pa_cons (pv 1) pa_nil)))))))))))) (pss_one (ps_ret pe_bl)) pss_nil)
      (C8.pss_cut (ps_set (i := 4) scRight.nd rfl (.inl rfl) (pe_lst (pa_cons pe_non (pa_cons (pe_tup pa_nil) (pa_cons (pe_tup (pa_cons pe_int (pa_cons pe_int (pa_cons pe_int pa_nil)))) (pa_cons (pv 2) (pa_cons (pv 3)
          (pa_cons (pe_tup (pa_cons (pv 1) (pa_cons pe_int (pa_cons pe_int pa_nil)))) (pa_cons (pe_lst (pa_cons pe_int (pa_cons pe_int (pa_cons pe_int pa_nil)))) (pa_cons (pe_tup (pa_cons pe_bl (pa_cons pe_int (pa_cons pe_int pa_nil))))
          (pa_cons (pe_tup (pa_cons pe_str (pa_cons pe_int (pa_cons pe_int pa_nil)))) (pa_cons pe_int (pa_cons (pe_tup (pa_cons pe_int (pa_cons pe_int (pa_cons pe_int pa_nil)))) (pa_cons (pe_tup (pa_cons pe_int (pa_cons pe_int pa_nil)))
          (pa_cons (pe_tup (pa_cons pe_int (pa_cons pe_int (pa_cons pe_int (pa_cons pe_int pa_nil))))) pa_nil)))))))))))))))
      (C8.pss_cut (ps_set (i := 4) scRight.nd rfl (.inl rfl) (pe_ifExp (pt_cmpR op_notN (pv 2) pe_non (nomark _)) (pe_op op_cat (pv 4) (pe_lst (pa_cons (pe_tup (pa_cons (pe_ix ix_tup (pv 2) pe_int (fun _ _ => rfl)) (pa_cons (pe_op op_sub pe_int (pe_ix ix_tup (pv 2) pe_int (fun _ _ => rfl))) (pa_cons (pe_ix ix_tup (pv 2) pe_int (fun _ _ => rfl)) pa_nil)))) pa_nil))) (pv 4)))
      (C8.pss_cut (ps_set (i := 4) scRight.nd rfl (.inl rfl) (pe_ifExp (pt_cmpR op_notN (pv 3) pe_non (nomark _)) (pe_op op_cat (pv 4) (pe_lst (pa_cons (pe_op op_catT (pv 3) (pe_tup (pa_cons pe_int pa_nil))) pa_nil))) (pv 4)))
      (pss_cons (ps_expr (pe_bm PySem.F.plainAttrs_list PySem.F.slot_list_append PySem.F.type_list_append mt_append (pv 4) (pa_cons (pe_tup (pa_cons (pe_op op_mul (pe_op op_pow pe_int pe_int) pe_int) (pa_cons pe_int (pa_cons pe_int pa_nil)))) pa_nil)))
      (pss_one (ps_ret (pe_cmpR (op_eqD hr.units) (pe_lc (own := [("_law_value", 5)]) (g := gName 5) (tt := tTest (tOp rNe (tCall spIs3 [] E0 (tCons (tVar 1) (tCons (tVar 5) tNil))) (tCall spAdd [] E0 (tCons (tVar 5) (tCons (tC (.int 3)) (tCons (tVar 1) tNil)))))) rfl scRight.nd (pi_list (pv 4))
          (blkOk_by (N := ["_law_pot_here", "_law_number_here", "_law_three", "_law_two", "_law_some", "_law_value"]) (sc := defScope sRight) (by decide +kernel))
          (fun _ _ _ _ _ => pg_name (i := 5) scRight.nd rfl (Or.inl rfl))
          (fun _ _ _ _ _ => pts_one (pt_cmpR op_ne (pe_call Gi hr4 (by rfl) Di.g Di.F.kp Di.b .nil pass0 (pa_cons (pv 1) (pa_cons (pv 5) pa_nil))) (pe_call GA hr1 (by rfl) DA.g DA.F.kp DA.b .nil pass0 (pa_cons (pv 5) (pa_cons pe_int (pa_cons (pv 1) pa_nil)))) (nomark _)))
          (fun _ _ _ _ _ => pv 5)) (pe_lst pa_nil) (nomark _))))))))))), ?_⟩
    refine ⟨.ref p, rfl, p, rfl, hP, fun n H1 n1 n2 hG k1 => ?_⟩
    refine ⟨.int n, rfl, n, rfl, n1, n2, hG, th_out fun x3 H2 s2 h3 => ?_⟩
    refine ⟨.int n, rfl, (n : Int), rfl, by omega, by omega, tw_out fun x2 H3 s3 h2 => ?_⟩
    refine ⟨x3, x2, rfl, ?_⟩
    have h3' := h3.same s3
    refine ⟨x3, rfl, rfl, .int n, rfl, n, rfl, n1, n2, fun b hb => ⟨rfl, _, rfl, ?_⟩⟩
    have eb : decide (x3 = .non) = b := by
      by_cases c : Nv n
      · rw [hb.mpr c, decide_eq_true (h3.non_iff.mpr c)]
      · rw [decide_eq_false (fun z => c (h3.non_iff.mp z))]
        cases b with
        | true => exact (c (hb.mp rfl)).elim
        | false => rfl
    refine iteNS (congrArg V.bl eb) ?_
    refine ⟨x2, rfl, rfl, .int n, rfl, n, rfl, n1, n2, fun b2 hb2 => ⟨rfl, _, rfl, ?_⟩⟩
    have eb2 : ¬ V.bl (decide (x2 = .non)) = V.bl b2 := by
      intro z
      have z2 := V.bl.inj z
      cases b2 with
      | true =>
        have hs : S2 n := s2_nat.mpr (hb2.mp rfl)
        exact h2.non_iff.mp (of_decide_eq_true z2) hs
      | false =>
        have hx : ¬ x2 = .non := of_decide_eq_false z2
        have hs : S2 n := Classical.byContradiction fun y => hx (h2.non_iff.mpr y)
        exact absurd (hb2.mpr (s2_nat.mp hs)) (by decide)
    rw [decide_eq_false eb2]
    refine iteF ?_
    have k3 : Keep p H H3 := k1.trans (Keep.of (s2.trans s3))
    -- told squares add up
    refine ⟨fun σ H' => σ = [some (.ref p), some (.int n), some x3, some x2, none, none] ∧ Same H3 H', ?_, fun σ H4 hm => ?_⟩
    · exact told_ok (i := 2) (kk := 3) (x := x3) rfl rfl h3'.judged (fun H4 s4 => iteF (told_ok (i := 3) (kk := 2) (x := x2) rfl rfl (h2.same s4).judged (fun H5 s5 => iteF ⟨rfl, s4.trans s5⟩)))
    obtain ⟨rfl, s4⟩ := hm
    have k4 : Keep p H H4 := k3.trans (Keep.of s4)
    have h34 := h3'.same s4
    have h24 := h2.same s4
    -- the list
    refine ⟨Mid p n 13 x3 x2 H, ?_, fun σ H5 hm => ?_⟩
    · refine ⟨by show 0 ≤ sizeLine; decide, fun p1 n1 => ⟨by show 3 ≤ sizeLine; decide, fun p2 n2 => ⟨x3, rfl, x2, rfl, .int n, rfl, by show 3 ≤ sizeLine; decide, fun p3 n3 => ⟨by show 3 ≤ sizeLine; decide, fun p4 n4 => ⟨by show 3 ≤ sizeLine; decide, fun p5 n5 => ⟨by show 3 ≤ sizeLine; decide, fun p6 n6 => ⟨by show 3 ≤ sizeLine; decide, fun p7 n7 => ⟨by show 2 ≤ sizeLine; decide, fun p8 n8 => ⟨by show 4 ≤ sizeLine; decide, fun p9 n9 => ⟨by show 13 ≤ sizeLine; decide, fun l nl => ?_⟩⟩⟩⟩⟩⟩⟩⟩⟩⟩
      have t1 := same_upd (o := .tup []) n1
      have t2 := same_upd (o := .tup [.int 1, .int 1, .int 1]) n2
      have t3 := same_upd (o := .tup [.int n, .int 0, .int 0]) n3
      have t4 := same_upd (o := .lst [.int 1, .int 0, .int 0]) n4
      have t5 := same_upd (o := .tup [.bl true, .int 0, .int 0]) n5
      have t6 := same_upd (o := .tup [.str (Str.ofString "1"), .int 0, .int 0]) n6
      have t7 := same_upd (o := .tup [.int 0, .int 0, .int 0]) n7
      have t8 := same_upd (o := .tup [.int 1, .int 1]) n8
      have t9 := same_upd (o := .tup [.int 1, .int 1, .int 1, .int 1]) n9
      have u8 := t9
      have u7 := t8.trans u8
      have u6 := t7.trans u7
      have u5 := t6.trans u6
      have u4 := t5.trans u5
      have u3 := t4.trans u4
      have u2 := t3.trans u3
      have u1 := t2.trans u2
      have u0 := t1.trans u1
      have i0 : Sm (.int 0) := sm1 0 (by decide) (by decide)
      have i1 : Sm (.int 1) := sm1 1 (by decide) (by decide)
      have ib : Sm (.bl true) := .inr (.inl ⟨true, rfl⟩)
      have is' : Sm (.str (Str.ofString "1")) := .inr (.inr rfl)
      have iN : Sm (.int n) := sm1 n (by omega) (by omega)
      refine ⟨l, _, _, rfl, k4.trans (Keep.of u0), h34.same u0, h24.same u0, upd_same, nl, same_upd nl, Nat.le_refl 13, fun x hx => ?_⟩
      simp only [List.mem_cons, List.not_mem_nil, or_false] at hx
      rcases hx with rfl | rfl | rfl | rfl | rfl | rfl | rfl | rfl | rfl | rfl | rfl | rfl | rfl
      · exact ok3_non
      · exact ok3_tup (u1 _ _ upd_same) (fun y hy => by cases hy) (by decide)
      · exact ok3_tup (u2 _ _ upd_same) (sm3 i1 i1 i1) (by decide)
      · exact (h34.same u0).ok
      · exact (h24.same u0).ok
      · exact ok3_tup (u3 _ _ upd_same) (sm3 iN i0 i0) (by simp)
      · exact ok3_lst (u4 _ _ upd_same)
      · exact ok3_tup (u5 _ _ upd_same) (sm3 ib i0 i0) (by decide)
      · exact ok3_tup (u6 _ _ upd_same) (sm3 is' i0 i0) (by decide)
      · exact ok3_int
      · exact ok3_tup (u7 _ _ upd_same) (sm3 i0 i0 i0) (by decide)
      · exact ok3_tup (u8 _ _ upd_same) (sm2 i1 i1) (by decide)
      · exact ok3_tup upd_same (sm4 i1 i1 i1 i1) (by decide)
    -- the three squares, turned
    refine ⟨Mid p n 14 x3 x2 H, ?_, fun σ H6 hm2 => ?_⟩
    · obtain ⟨l, items, Hb, rfl, kb, h3b, h2b, hl, nb, sb, hlen, hok⟩ := hm
      rcases h3b with ⟨rfl, hv⟩ | ⟨hv, pt, a, b, c, rfl, hp, e, a0, b0, c0, a1, b1, c1⟩
      · exact ⟨.non, rfl, rfl, _, rfl, iteF ⟨.ref l, rfl, l, items, Hb, rfl, kb, .inl ⟨rfl, hv⟩, h2b, hl, nb, sb, by omega, hok⟩⟩
      · refine ⟨.ref pt, rfl, rfl, _, rfl, iteT ?_⟩
        have hp5 := sb _ _ hp
        refine ⟨.ref l, rfl, .ref pt, rfl, pt, _, 2, .int c, rfl, rfl, SqT.of hp5, atI_nat (j := 2) rfl, .ref pt, rfl, pt, _, 0, .int a, rfl, rfl, SqT.of hp5, atI_nat (j := 0) rfl, _, _, rfl, rfl, .ref pt, rfl, pt, _, 1, .int b, rfl, rfl, SqT.of hp5, atI_nat (j := 1) rfl, by show 3 ≤ sizeLine; decide, fun p1 n1 => ⟨by show 1 ≤ sizeLine; decide, fun p2 n2 => ?_⟩⟩
        have t1 := same_upd (o := .tup [.int c, .int (0 - a), .int b]) n1
        have t2 := same_upd (o := .lst [.ref p1]) n2
        have u1 := t1.trans t2
        refine ⟨l, p2, items, [.ref p1], rfl, rfl, u1 _ _ hl, upd_same, ?_, fun p3 n3 => ?_⟩
        · have : (20 : Nat) ≤ sizeLine := by decide
          show items.length + 1 ≤ sizeLine
          omega
        · have u0 := sb.trans u1
          refine ⟨p3, items ++ [.ref p1], _, rfl, kb.trans (Keep.of u0), Th.same u0 (.inr ⟨hv, pt, a, b, c, rfl, hp, e, a0, b0, c0, a1, b1, c1⟩), h2b.same u0, upd_same, n3, same_upd n3, by rw [List.length_append]; show items.length + 1 ≤ 14; omega, fun x hx => ?_⟩
          rcases List.mem_append.mp hx with hx | hx
          · exact (hok x hx).same u0
          · rw [List.mem_singleton] at hx
            subst hx
            exact ok3_tup (t2 _ _ upd_same) (sm3 (sm1 c c0 c1) (sm_int (by omega) (by omega)) (sm1 b b0 b1)) (by simp)
    -- the two squares with a 0
    refine ⟨Mid p n 15 x3 x2 H, ?_, fun σ H7 hm3 => ?_⟩
    · obtain ⟨l, items, Hb, rfl, kb, h3b, h2b, hl, nb, sb, hlen, hok⟩ := hm2
      rcases h2b with ⟨rfl, hv⟩ | ⟨hv, pt, a, b, rfl, hp, e, a0, b0, a1, b1⟩
      · exact ⟨.non, rfl, rfl, _, rfl, iteF ⟨.ref l, rfl, l, items, Hb, rfl, kb, h3b, .inl ⟨rfl, hv⟩, hl, nb, sb, by omega, hok⟩⟩
      · refine ⟨.ref pt, rfl, rfl, _, rfl, iteT ?_⟩
        have hp5 := sb _ _ hp
        refine ⟨.ref l, rfl, .ref pt, rfl, by show 1 ≤ sizeLine; decide, fun p1 n1 => ?_⟩
        have t1 := same_upd (o := .tup [.int 0]) n1
        refine ⟨pt, p1, [.int a, .int b], [.int 0], rfl, rfl, SqT.of (t1 _ _ hp5), SqT.of upd_same, List.cons_ne_nil _ _, by show 3 ≤ sizeLine; decide, fun z => (List.cons_ne_nil _ _ z).elim, fun _ p2 n2 => ⟨by show 1 ≤ sizeLine; decide, fun p3 n3 => ?_⟩⟩
        have t2 := same_upd (o := .tup ([.int a, .int b] ++ [.int 0])) n2
        have t3 := same_upd (o := .lst [.ref p2]) n3
        have u1 := t1.trans (t2.trans t3)
        refine ⟨l, p3, items, [.ref p2], rfl, rfl, u1 _ _ hl, upd_same, ?_, fun p4 n4 => ?_⟩
        · have : (20 : Nat) ≤ sizeLine := by decide
          show items.length + 1 ≤ sizeLine
          omega
        · have u0 := sb.trans u1
          refine ⟨p4, items ++ [.ref p2], _, rfl, kb.trans (Keep.of u0), h3b.same u0, Tw.same u0 (.inr ⟨hv, pt, a, b, rfl, hp, e, a0, b0, a1, b1⟩), upd_same, n4, same_upd n4, by rw [List.length_append]; show items.length + 1 ≤ 15; omega, fun x hx => ?_⟩
          rcases List.mem_append.mp hx with hx | hx
          · exact (hok x hx).same u0
          · rw [List.mem_singleton] at hx
            subst hx
            exact ok3_tup (xs := [.int a, .int b, .int 0]) (t3 _ _ upd_same) (sm3 (sm1 a a0 a1) (sm1 b b0 b1) (sm1 0 (by decide) (by decide))) (by simp)
    -- the great one, and all of them judged
    obtain ⟨l, items, Hb, rfl, kb, h3b, h2b, hl, nb, sb, hlen, hok⟩ := hm3
    refine ⟨.ref l, rfl, .inl ⟨rfl, _, SqL.of hl⟩, _, _, rfl, rfl, ⟨by decide, by decide, by decide⟩, _, _, rfl, rfl, .inr ⟨by decide, by decide⟩, by show 3 ≤ sizeLine; decide, fun p1 n1 => ?_⟩
    have t1 := same_upd (o := .tup [.int ((10 : Int) ^ (60 : Int).toNat * 10), .int 0, .int 0]) n1
    refine ⟨l, items, .ref p1, rfl, rfl, t1 _ _ hl, ?_, ?_⟩
    · have : (20 : Nat) ≤ sizeLine := by decide
      omega
    have sF : Same Hb (upd (upd H7 p1 (.tup [.int ((10 : Int) ^ (60 : Int).toNat * 10), .int 0, .int 0])) l (.lst (items ++ [.ref p1]))) := same_app (sb.trans t1) nb
    have npl : p1 ≠ l := fun z => by
      rw [z, hl] at n1
      cases n1
    have hokF : ∀ x ∈ items ++ [V.ref p1], Ok3 n (upd (upd H7 p1 (.tup [.int ((10 : Int) ^ (60 : Int).toNat * 10), .int 0, .int 0])) l (.lst (items ++ [.ref p1]))) x := fun x hx => by
      rcases List.mem_append.mp hx with hx | hx
      · exact (hok x hx).same sF
      · rw [List.mem_singleton] at hx
        subst hx
        exact ok3_tup (xs := [.int ((10 : Int) ^ (60 : Int).toNat * 10), .int 0, .int 0]) (by rw [upd_ne npl]; exact upd_same) (sm3 (.inl ⟨_, rfl, by decide +kernel⟩) (sm1 0 (by decide) (by decide)) (sm1 0 (by decide) (by decide))) (by simp)
    have kF := kb.trans (Keep.of sF)
    have hlF : (upd (upd H7 p1 (.tup [.int ((10 : Int) ^ (60 : Int).toNat * 10), .int 0, .int 0])) l (.lst (items ++ [.ref p1]))) l = some (.lst (items ++ [.ref p1])) := upd_same
    show (fun (x : V) H1 => Ends.nx _ _ H1) V.non (upd (upd H7 p1 (.tup [.int ((10 : Int) ^ (60 : Int).toNat * 10), .int 0, .int 0])) l (.lst (items ++ [.ref p1])))
    generalize upd (upd H7 p1 (.tup [.int ((10 : Int) ^ (60 : Int).toNat * 10), .int 0, .int 0])) l (.lst (items ++ [.ref p1])) = HF at *
    refine ⟨.ref l, rfl, l, rfl, ⟨_, SqL.of hlF⟩, fun D1 nD1 => lc_genL (fun _ => false) (fun y => y) (SqL.of hlF) (by rw [List.length_append]; show items.length + 1 ≤ 1000; omega) nD1 (fun _ => rfl) (fun x H' hx s' Q' k => ?_) (fun x H' hx z => by cases z) (fun H' s' hD => ?_)⟩
    · obtain ⟨J, hJ⟩ := (hokF x hx).same s'
      refine ⟨.int n, rfl, x, rfl, n, x, J, rfl, by omega, by omega, hJ, fun H8 s8 => ?_⟩
      refine ⟨x, rfl, .int n, rfl, 3, n, x, J, rfl, hJ.same s8, fun H9 s9 => ⟨rfl, false, ?_, k H9 (s8.trans s9)⟩⟩
      exact congrArg V.bl (by rw [decide_eq_true rfl]; rfl)
    · have e0 : ((items ++ [V.ref p1]).filter fun _ => false).map (fun y => y) = [] := by
        rw [List.filter_eq_nil_iff.mpr (fun _ _ => Bool.false_ne_true)]
        rfl
      rw [e0] at hD
      refine ⟨by show 0 ≤ sizeLine; decide, fun pe ne => ?_⟩
      have t2 := same_upd (o := .lst []) ne
      refine ⟨_, _, .lst (SqL.of (t2 _ _ hD)) .nil, .lst (SqL.of upd_same) .nil, by decide +kernel, by decide +kernel, ?_⟩
      rw [eqv_nil]
      exact q _ (kF.trans (Keep.of (s'.trans t2)))
end
end K89

namespace K89
open PySem PySem.Spec PyProof.Rows L2 M2 M3 M4
theorem pr3 : Pr 3 := ⟨by decide, fun d hd => by
  have := Nat.le_of_dvd (by decide) hd
  have : d = 0 ∨ d = 1 ∨ d = 2 ∨ d = 3 := by omega
  rcases this with rfl | rfl | rfl | rfl
  · exact absurd hd (by decide)
  · exact .inl rfl
  · exact absurd hd (by decide)
  · exact .inr rfl⟩
theorem no_3 : ¬ S2 3 := fun h => odd3 pr3 rfl 0 1 (by decide) (s2_nat.mp h)
theorem no_21 : ¬ S2 21 := fun h => odd3 pr3 rfl 0 7 (by decide) (s2_nat.mp h)
def told : V → V
  | .int 3 => .bl true
  | .int 21 => .bl true
  | _ => .bl false
section
variable {P : Program} {w : World} {K : PySem.W.Frag} {mg : Str → Option Value} {base : Heap}
/-- two_squares(n) is None, for a number that is the sum of two squares, or for one that is not -/
theorem told_yes {n : Int} {H : Hp} {Q : VK} (h : S2 n) (q : ∀ H', Same H H' → Q (.bl false) H') : TwoOut n H (fun x H1 => tC .non ([] : L2.St) H1 fun y H2 => y = V.non ∧ Q (.bl (decide (x = .non))) H2) :=
  ⟨fun z => (z h).elim, fun a b p _ _ _ _ _ hp => ⟨rfl, q _ (same_upd hp)⟩⟩
theorem told_no {n : Int} {H : Hp} {Q : VK} (h : ¬ S2 n) (q : ∀ H', Same H H' → Q (.bl true) H') : TwoOut n H (fun x H1 => tC .non ([] : L2.St) H1 fun y H2 => y = V.non ∧ Q (.bl (decide (x = .non))) H2) :=
  ⟨fun _ => ⟨rfl, q _ (Same.refl H)⟩, fun a b p e _ _ _ _ _ => (h ⟨a, b, e⟩).elim⟩
def spLaw (K : PySem.W.Frag) : Sp := fun vs H Q _ => ∃ (a : Addr) (ns : List Int), vs = [.ref a] ∧ SqL K H a (ns.map V.int) ∧ ns.length ≤ 63 ∧ ∀ H', Q (.bl true) H'
theorem ok_law {f : Addr} {fd : FuncData} (D : Fn K mg "law" sLaw ["_law_script"] f fd) (L : Law K mg) : FnOk P w K mg base CX0 7 f fd ["_law_script"] (spLaw K) := by
  have T := L.G.T
  obtain ⟨f2, fd2, D2⟩ := L.two
  obtain ⟨f3, fd3, D3⟩ := L.three
  obtain ⟨fR, fdR, DR⟩ := L.right
  obtain ⟨fP, fdP, DP⟩ := L.pot
  have G2 : FnOk P w K mg base CX0 5 f2 fd2 ["number"] spTwo := ok_two D2 L.G
  have G3 : FnOk P w K mg base CX0 5 f3 fd3 ["number"] spThree := ok_three D3 L.G
  have GR : FnOk P w K mg base CX0 6 fR fdR ["_law_pot_here"] spRight := ok_right DR L
  have GP : FnOk P w K mg base CX0 1 fP fdP ["_law_script", "_law_at"] (spPot K) := ok_pot DP T
  refine D.F.ok scLaw (fun vs H Q E h => ?_) (fun cdv A outer s H vs Q E hr h => ?_)
  · obtain ⟨a, ns, rfl, _⟩ := h
    rfl
  · obtain ⟨a, ns, rfl, hS, hlen, q⟩ := h
    have hr1 := hr.mono (j := 1) (by decide)
    have hr5 := hr.mono (j := 5) (by decide)
    refine ⟨_, pss_cons (ps_for PassesOwn.never rfl (pi_range1 (by rfl) T.range (pa_cons (pe_callB (call_max2 rfl) (by rfl) T.max (by decide +kernel) (pa_cons pe_int (pa_cons (pe_callB (call_min2 rfl) (by rfl) T.min (by decide +kernel) (pa_cons pe_int (pa_cons (pe_callB call_len_seq (by rfl) T.len PySem.boot_len (pa_cons (pv 0) pa_nil)) pa_nil))) pa_nil))) pa_nil)) (pg_name (i := 1) scLaw.nd rfl (.inl rfl))
        (pss_one (ps_if (pt_not (pt_val (pe_call GR hr (by rfl) DR.g DR.F.kp DR.b .nil pass0 (pa_cons (pe_call GP hr1 (by rfl) DP.g DP.F.kp DP.b .nil pass0 (pa_cons (pv 0) (pa_cons (pv 1) pa_nil))) pa_nil)))) (pss_one (ps_ret pe_bl)) pss_nil)))
      (pss_cons (ps_setLc (i := 2) (own := [("_law_number_here", 3)]) (g := gName 3) (tt := tYes) (te := tOp (fun x y H Q => y = V.non ∧ Q (.bl (decide (x = .non))) H) (tCall spTwo [] E0 (tCons (tVar 3) tNil)) (tC .non)) rfl scLaw.nd rfl rfl (sw_true rfl rfl rfl (by decide +kernel))
          (pi_tup (pe_tup (pa_cons pe_int (pa_cons pe_int (pa_cons pe_int (pa_cons pe_int (pa_cons pe_int (pa_cons pe_int (pa_cons pe_int pa_nil)))))))))
          (blkOk_by (N := ["_law_script", "_law_spot", "_law_told", "_law_number_here"]) (sc := defScope sLaw) (by decide +kernel))
          (fun _ _ _ _ _ => pg_name (i := 3) scLaw.nd rfl (Or.inl rfl)) (fun _ _ _ _ _ => pts_nil) (fun _ _ _ _ _ => pe_cmpR op_isN (pe_call G2 hr5 (by rfl) D2.g D2.F.kp D2.b .nil pass0 (pa_cons (pv 3) pa_nil)) pe_non (nomark _)))
      (pss_one (ps_ret (pe_and (pe_cmpR (op_eqD hr.units) (pv 2) (pe_lst (pa_cons pe_bl (pa_cons pe_bl (pa_cons pe_bl (pa_cons pe_bl (pa_cons pe_bl (pa_cons pe_bl (pa_cons pe_bl pa_nil)))))))) (nomark _))
          (pe_one (pe_cmpR op_isN (pe_call G3 hr5 (by rfl) D3.g D3.F.kp D3.b .nil pass0 (pa_cons (pe_op op_sub (pe_op op_pow pe_int pe_int) pe_int) pa_nil)) pe_non (nomark _))))))), ?_⟩
    obtain ⟨m, hm, hm4⟩ : ∃ m : Nat, (if (if ((ns.map V.int).length : Int) < 4 then ((ns.map V.int).length : Int) else 4) > 1 then (if ((ns.map V.int).length : Int) < 4 then ((ns.map V.int).length : Int) else 4) else 1) = (m : Int) ∧ m ≤ 4 := by
      rw [List.length_map]
      by_cases c : (ns.length : Int) < 4
      · rw [if_pos c]
        by_cases d : (ns.length : Int) > 1
        · rw [if_pos d]; exact ⟨ns.length, rfl, by omega⟩
        · rw [if_neg d]; exact ⟨1, rfl, by decide⟩
      · rw [if_neg c, if_pos (by decide)]; exact ⟨4, rfl, by decide⟩
    refine ⟨.ref a, rfl, a, _, rfl, .inl hS, _, _, rfl, _, _, rfl, (m : Int), ?_, by omega, by omega, ?_⟩
    · exact congrArg (fun z => [V.int z]) hm
    rw [Int.toNat_natCast]
    refine for_range (n := m) (fun i σ H' => ∃ y1, σ = [some (.ref a), y1, none, none] ∧ Same H H') ⟨none, rfl, Same.refl H⟩ (fun i σ H' hi hp => ?_) (fun σ H' hp => ?_)
    · obtain ⟨y1, rfl, s1⟩ := hp
      refine ⟨.ref a, rfl, .int (0 + (i : Int)), rfl, a, ns, i, by rw [Int.zero_add]; rfl, s1.seq hS, by omega, fun p H1 np s2 hP => ?_⟩
      refine ⟨p, rfl, hP, fun H2 k2 => ⟨true, rfl, iteF ⟨_, rfl, s1.trans (Keep.same s2 np k2)⟩⟩⟩
    · obtain ⟨y1, rfl, s1⟩ := hp
      refine ⟨by show 7 ≤ sizeLine; decide, fun pt nt => ?_⟩
      have hT : (upd H' pt (.tup [.int 1, .int 2, .int 3, .int 9, .int 21, .int 49, .int 99999989])) pt = some (.tup [.int 1, .int 2, .int 3, .int 9, .int 21, .int 49, .int 99999989]) := upd_same
      refine ⟨pt, rfl, ⟨_, SqT.of hT⟩, fun D1 nD1 => lc_genT (fun _ => true) told (SqT.of hT) (by decide) nD1 (fun _ => rfl) (fun x H2 _ _ Q' k => k H2 (Same.refl _)) (fun x H2 hx _ _ Q' k => ?_) (fun H3 s3 hD => ?_)⟩
      · simp only [List.mem_cons, List.not_mem_nil, or_false] at hx
        rcases hx with rfl | rfl | rfl | rfl | rfl | rfl | rfl
        · exact ⟨.int 1, rfl, 1, rfl, by decide, by decide, told_yes ⟨1, 0, by decide⟩ k⟩
        · exact ⟨.int 2, rfl, 2, rfl, by decide, by decide, told_yes ⟨1, 1, by decide⟩ k⟩
        · exact ⟨.int 3, rfl, 3, rfl, by decide, by decide, told_no no_3 k⟩
        · exact ⟨.int 9, rfl, 9, rfl, by decide, by decide, told_yes ⟨3, 0, by decide⟩ k⟩
        · exact ⟨.int 21, rfl, 21, rfl, by decide, by decide, told_no no_21 k⟩
        · exact ⟨.int 49, rfl, 49, rfl, by decide, by decide, told_yes ⟨7, 0, by decide⟩ k⟩
        · exact ⟨.int 99999989, rfl, 99999989, rfl, by decide, by decide, told_yes ⟨5335, 8458, by decide⟩ k⟩
      · have hD' : H3 D1 = some (.lst [.bl false, .bl false, .bl true, .bl false, .bl true, .bl false, .bl false]) := hD
        refine ⟨.ref D1, rfl, by show 7 ≤ sizeLine; decide, fun p2 n2 => ?_⟩
        have t2 := same_upd (o := .lst [.bl false, .bl false, .bl true, .bl false, .bl true, .bl false, .bl false]) n2
        refine ⟨.list [.bool false, .bool false, .bool true, .bool false, .bool true, .bool false, .bool false], .list [.bool false, .bool false, .bool true, .bool false, .bool true, .bool false, .bool false], .lst (SqL.of (t2 _ _ hD')) ?_, .lst (SqL.of upd_same) ?_, by decide +kernel, by decide +kernel, true, ?_, iteT ?_⟩
        · exact .cons (.bl _) (.cons (.bl _) (.cons (.bl _) (.cons (.bl _) (.cons (.bl _) (.cons (.bl _) (.cons (.bl _) .nil))))))
        · exact .cons (.bl _) (.cons (.bl _) (.cons (.bl _) (.cons (.bl _) (.cons (.bl _) (.cons (.bl _) (.cons (.bl _) .nil))))))
        · decide +kernel
        · refine ⟨_, _, rfl, rfl, ⟨by decide, by decide, by decide⟩, _, _, rfl, rfl, 99999996, by decide +kernel, by decide, by decide, .inr (.inr ⟨1, 3124999, by decide⟩), fun _ => ⟨rfl, q _⟩, fun z => (z ⟨1, 3124999, by decide⟩).elim⟩
end
end K89

namespace K89
open PySem PySem.Spec PyProof.Rows L2 M2 M3 M4
/-! ### what the top has written; the law's own head -/
theorem all_mk {l : PySem.W.OpenLaw} {w : World} {K : PySem.W.Frag} {h : Heap} {mg : Str → Option Value} {fa : Addr} (X : K.In h) (G : h.Ns mainGlobals mg) (hfa : mg "law" = some (.ref fa))
    {f1 f2 f3 f4 f5 f6 f7 f8 f9 f10 f11 f12 f13 f14 f15 f16 f17 f18 f19 : Addr}
    {od1 an1 od2 an2 od3 an3 od4 an4 od5 an5 od6 an6 od7 an7 od8 an8 od9 an9 od10 an10 od11 an11 od12 an12 od13 an13 od14 an14 od15 an15 od16 an16 od17 an17 od18 an18 od19 an19 : Option Addr}
    {sl1 sl2 sl3 sl4 sl5 sl6 sl7 sl8 sl9 sl10 sl11 sl12 sl13 sl14 sl15 sl16 sl17 sl18 sl19 : Array (Option Value)}
    {oc1 kV1 dc1 pm1 cd1 ct1 oc2 kV2 dc2 pm2 cd2 ct2 oc3 kV3 dc3 pm3 cd3 ct3 oc4 kV4 dc4 pm4 cd4 ct4 oc5 kV5 dc5 pm5 cd5 ct5 oc6 kV6 dc6 pm6 cd6 ct6 oc7 kV7 dc7 pm7 cd7 ct7 oc8 kV8 dc8 pm8 cd8 ct8 oc9 kV9 dc9 pm9 cd9 ct9 oc10 kV10 dc10 pm10 cd10 ct10 oc11 kV11 dc11 pm11 cd11 ct11 oc12 kV12 dc12 pm12 cd12 ct12 oc13 kV13 dc13 pm13 cd13 ct13 oc14 kV14 dc14 pm14 cd14 ct14 oc15 kV15 dc15 pm15 cd15 ct15 oc16 kV16 dc16 pm16 cd16 ct16 oc17 kV17 dc17 pm17 cd17 ct17 oc18 kV18 dc18 pm18 cd18 ct18 oc19 kV19 dc19 pm19 cd19 ct19 : Value} {tB tM : Tok}
    (a1 : PySem.W.nsIn K mainGlobals "is_whole" = some (some (.ref f1))) (l1 : K.lookup f1 = some ⟨oc1, od1, .func (PySem.W.fnOf "is_whole" "is_whole" (defArgs sWhole) (defBody sWhole) (defScope sWhole) .none kV1 dc1 pm1 an1 cd1 ct1), sl1⟩) (c1 : PySem.W.codeIn K cd1 "is_whole" = true) (k1 : PySem.W.keepIn K (.ref f1) = true)
    (a2 : PySem.W.nsIn K mainGlobals "is_integer" = some (some (.ref f2))) (l2 : K.lookup f2 = some ⟨oc2, od2, .func (PySem.W.fnOf "is_integer" "is_integer" (defArgs sInteger) (defBody sInteger) (defScope sInteger) .none kV2 dc2 pm2 an2 cd2 ct2), sl2⟩) (c2 : PySem.W.codeIn K cd2 "is_integer" = true) (k2 : PySem.W.keepIn K (.ref f2) = true)
    (a3 : PySem.W.nsIn K mainGlobals "power_of" = some (some (.ref f3))) (l3 : K.lookup f3 = some ⟨oc3, od3, .func (PySem.W.fnOf "power_of" "power_of" (defArgs sPower) (defBody sPower) (defScope sPower) .none kV3 dc3 pm3 an3 cd3 ct3), sl3⟩) (c3 : PySem.W.codeIn K cd3 "power_of" = true) (k3 : PySem.W.keepIn K (.ref f3) = true)
    (a4 : PySem.W.nsIn K mainGlobals "whole_root" = some (some (.ref f4))) (l4 : K.lookup f4 = some ⟨oc4, od4, .func (PySem.W.fnOf "whole_root" "whole_root" (defArgs sRoot) (defBody sRoot) (defScope sRoot) .none kV4 dc4 pm4 an4 cd4 ct4), sl4⟩) (c4 : PySem.W.codeIn K cd4 "whole_root" = true) (k4 : PySem.W.keepIn K (.ref f4) = true)
    (a5 : PySem.W.nsIn K mainGlobals "require_least" = some (some (.ref f5))) (l5 : K.lookup f5 = some ⟨oc5, od5, .func (PySem.W.fnOf "require_least" "require_least" (defArgs sLeast) (defBody sLeast) (defScope sLeast) .none kV5 dc5 pm5 an5 cd5 ct5), sl5⟩) (c5 : PySem.W.codeIn K cd5 "require_least" = true) (k5 : PySem.W.keepIn K (.ref f5) = true)
    (a6 : PySem.W.nsIn K mainGlobals "require_bounded" = some (some (.ref f6))) (l6 : K.lookup f6 = some ⟨oc6, od6, .func (PySem.W.fnOf "require_bounded" "require_bounded" (defArgs sBounded) (defBody sBounded) (defScope sBounded) .none kV6 dc6 pm6 an6 cd6 ct6), sl6⟩) (c6 : PySem.W.codeIn K cd6 "require_bounded" = true) (k6 : PySem.W.keepIn K (.ref f6) = true)
    (a7 : PySem.W.nsIn K mainGlobals "two_squares_of" = some (some (.ref f7))) (l7 : K.lookup f7 = some ⟨oc7, od7, .func (PySem.W.fnOf "two_squares_of" "two_squares_of" (defArgs sTwoOf) (defBody sTwoOf) (defScope sTwoOf) .none kV7 dc7 pm7 an7 cd7 ct7), sl7⟩) (c7 : PySem.W.codeIn K cd7 "two_squares_of" = true) (k7 : PySem.W.keepIn K (.ref f7) = true)
    (a8 : PySem.W.nsIn K mainGlobals "two_squares" = some (some (.ref f8))) (l8 : K.lookup f8 = some ⟨oc8, od8, .func (PySem.W.fnOf "two_squares" "two_squares" (defArgs sTwo) (defBody sTwo) (defScope sTwo) .none kV8 dc8 pm8 an8 cd8 ct8), sl8⟩) (c8 : PySem.W.codeIn K cd8 "two_squares" = true) (k8 : PySem.W.keepIn K (.ref f8) = true)
    (a9 : PySem.W.nsIn K mainGlobals "three_squares" = some (some (.ref f9))) (l9 : K.lookup f9 = some ⟨oc9, od9, .func (PySem.W.fnOf "three_squares" "three_squares" (defArgs sThree) (defBody sThree) (defScope sThree) .none kV9 dc9 pm9 an9 cd9 ct9), sl9⟩) (c9 : PySem.W.codeIn K cd9 "three_squares" = true) (k9 : PySem.W.keepIn K (.ref f9) = true)
    (a10 : PySem.W.nsIn K mainGlobals "is_three_squares" = some (some (.ref f10))) (l10 : K.lookup f10 = some ⟨oc10, od10, .func (PySem.W.fnOf "is_three_squares" "is_three_squares" (defArgs sIs3) (defBody sIs3) (defScope sIs3) .none kV10 dc10 pm10 an10 cd10 ct10), sl10⟩) (c10 : PySem.W.codeIn K cd10 "is_three_squares" = true) (k10 : PySem.W.keepIn K (.ref f10) = true)
    (a11 : PySem.W.nsIn K mainGlobals "_law_pot" = some (some (.ref f11))) (l11 : K.lookup f11 = some ⟨oc11, od11, .func (PySem.W.fnOf "_law_pot" "_law_pot" (defArgs sPot) (defBody sPot) (defScope sPot) .none kV11 dc11 pm11 an11 cd11 ct11), sl11⟩) (c11 : PySem.W.codeIn K cd11 "_law_pot" = true) (k11 : PySem.W.keepIn K (.ref f11) = true)
    (a12 : PySem.W.nsIn K mainGlobals "_law_dip" = some (some (.ref f12))) (l12 : K.lookup f12 = some ⟨oc12, od12, .func (PySem.W.fnOf "_law_dip" "_law_dip" (defArgs sDip) (defBody sDip) (defScope sDip) .none kV12 dc12 pm12 an12 cd12 ct12), sl12⟩) (c12 : PySem.W.codeIn K cd12 "_law_dip" = true) (k12 : PySem.W.keepIn K (.ref f12) = true)
    (a13 : PySem.W.nsIn K mainGlobals "_law_pick" = some (some (.ref f13))) (l13 : K.lookup f13 = some ⟨oc13, od13, .func (PySem.W.fnOf "_law_pick" "_law_pick" (defArgs sPick) (defBody sPick) (defScope sPick) .none kV13 dc13 pm13 an13 cd13 ct13), sl13⟩) (c13 : PySem.W.codeIn K cd13 "_law_pick" = true) (k13 : PySem.W.keepIn K (.ref f13) = true)
    (a14 : PySem.W.nsIn K mainGlobals "_law_is_never" = some (some (.ref f14))) (l14 : K.lookup f14 = some ⟨oc14, od14, .func (PySem.W.fnOf "_law_is_never" "_law_is_never" (defArgs sNever) (defBody sNever) (defScope sNever) .none kV14 dc14 pm14 an14 cd14 ct14), sl14⟩) (c14 : PySem.W.codeIn K cd14 "_law_is_never" = true) (k14 : PySem.W.keepIn K (.ref f14) = true)
    (a15 : PySem.W.nsIn K mainGlobals "_law_is_twofold" = some (some (.ref f15))) (l15 : K.lookup f15 = some ⟨oc15, od15, .func (PySem.W.fnOf "_law_is_twofold" "_law_is_twofold" (defArgs sTwofold) (defBody sTwofold) (defScope sTwofold) .none kV15 dc15 pm15 an15 cd15 ct15), sl15⟩) (c15 : PySem.W.codeIn K cd15 "_law_is_twofold" = true) (k15 : PySem.W.keepIn K (.ref f15) = true)
    (a16 : PySem.W.nsIn K mainGlobals "_law_do_add" = some (some (.ref f16))) (l16 : K.lookup f16 = some ⟨oc16, od16, .func (PySem.W.fnOf "_law_do_add" "_law_do_add" (defArgs sAdd) (defBody sAdd) (defScope sAdd) .none kV16 dc16 pm16 an16 cd16 ct16), sl16⟩) (c16 : PySem.W.codeIn K cd16 "_law_do_add" = true) (k16 : PySem.W.keepIn K (.ref f16) = true)
    (a17 : PySem.W.nsIn K mainGlobals "_law_number" = some (some (.ref f17))) (l17 : K.lookup f17 = some ⟨oc17, od17, .func (PySem.W.fnOf "_law_number" "_law_number" (defArgs sNumber) (defBody sNumber) (defScope sNumber) .none kV17 dc17 pm17 an17 cd17 ct17), sl17⟩) (c17 : PySem.W.codeIn K cd17 "_law_number" = true) (k17 : PySem.W.keepIn K (.ref f17) = true)
    (a18 : PySem.W.nsIn K mainGlobals "_law_right" = some (some (.ref f18))) (l18 : K.lookup f18 = some ⟨oc18, od18, .func (PySem.W.fnOf "_law_right" "_law_right" (defArgs sRight) (defBody sRight) (defScope sRight) .none kV18 dc18 pm18 an18 cd18 ct18), sl18⟩) (c18 : PySem.W.codeIn K cd18 "_law_right" = true) (k18 : PySem.W.keepIn K (.ref f18) = true)
    (a19 : PySem.W.nsIn K mainGlobals "law" = some (some (.ref f19))) (l19 : K.lookup f19 = some ⟨oc19, od19, .func (PySem.W.fnOf "law" "law" (defArgs sLaw) (defBody sLaw) (defScope sLaw) .none kV19 dc19 pm19 an19 cd19 ct19), sl19⟩) (c19 : PySem.W.codeIn K cd19 "law" = true) (k19 : PySem.W.keepIn K (.ref f19) = true)
    (z1 : PySem.W.nsIn K mainGlobals "isinstance" = some none)
    (z2 : PySem.W.nsIn K mainGlobals "int" = some none)
    (z3 : PySem.W.nsIn K mainGlobals "bool" = some none)
    (z4 : PySem.W.nsIn K mainGlobals "tuple" = some none)
    (z5 : PySem.W.nsIn K mainGlobals "len" = some none)
    (z6 : PySem.W.nsIn K mainGlobals "all" = some none)
    (z7 : PySem.W.nsIn K mainGlobals "sum" = some none)
    (z8 : PySem.W.nsIn K mainGlobals "range" = some none)
    (z9 : PySem.W.nsIn K mainGlobals "max" = some none)
    (z10 : PySem.W.nsIn K mainGlobals "min" = some none)
    (z11 : PySem.W.nsIn K mainGlobals "abs" = some none)
    (zB : PySem.W.nsIn K mainGlobals "BEYOND" = some (some (.int 1000000000000000000000000000000000000000000000000000000000000 tB))) (zM : PySem.W.nsIn K mainGlobals "MAX_SQUARED" = some (some (.int 100000000 tM))) :
    ∃ fd : FuncData, (∀ (s : Shared) (v : Value), BindsTo s fd ⟨[v], []⟩ [("_law_script", v)]) ∧ ∀ base : Heap, K.In base → base.Ns mainGlobals mg → FnOk l.prog w K mg base CX0 7 fa fd ["_law_script"] (spLaw K) := by
  have e := hfa.symm.trans (PySem.W.mg_of X G a19)
  cases e
  have F1 := fun_mk (st := sWhole) l1 c1 k1
  have D1 : Fn K mg "is_whole" sWhole ["value"] f1 _ := ⟨F1, F1.binds (ps := ["value"]) fun _ _ _ _ _ _ us hl => match us, hl with | [_], _ => rfl, PySem.W.mg_of X G a1⟩
  have F2 := fun_mk (st := sInteger) l2 c2 k2
  have D2 : Fn K mg "is_integer" sInteger ["value"] f2 _ := ⟨F2, F2.binds (ps := ["value"]) fun _ _ _ _ _ _ us hl => match us, hl with | [_], _ => rfl, PySem.W.mg_of X G a2⟩
  have F3 := fun_mk (st := sPower) l3 c3 k3
  have D3 : Fn K mg "power_of" sPower ["base", "exponent"] f3 _ := ⟨F3, F3.binds (ps := ["base", "exponent"]) fun _ _ _ _ _ _ us hl => match us, hl with | [_, _], _ => rfl, PySem.W.mg_of X G a3⟩
  have F4 := fun_mk (st := sRoot) l4 c4 k4
  have D4 : Fn K mg "whole_root" sRoot ["number"] f4 _ := ⟨F4, F4.binds (ps := ["number"]) fun _ _ _ _ _ _ us hl => match us, hl with | [_], _ => rfl, PySem.W.mg_of X G a4⟩
  have F5 := fun_mk (st := sLeast) l5 c5 k5
  have D5 : Fn K mg "require_least" sLeast ["number"] f5 _ := ⟨F5, F5.binds (ps := ["number"]) fun _ _ _ _ _ _ us hl => match us, hl with | [_], _ => rfl, PySem.W.mg_of X G a5⟩
  have F6 := fun_mk (st := sBounded) l6 c6 k6
  have D6 : Fn K mg "require_bounded" sBounded ["number", "most"] f6 _ := ⟨F6, F6.binds (ps := ["number", "most"]) fun _ _ _ _ _ _ us hl => match us, hl with | [_, _], _ => rfl, PySem.W.mg_of X G a6⟩
  have F7 := fun_mk (st := sTwoOf) l7 c7 k7
  have D7 : Fn K mg "two_squares_of" sTwoOf ["number"] f7 _ := ⟨F7, F7.binds (ps := ["number"]) fun _ _ _ _ _ _ us hl => match us, hl with | [_], _ => rfl, PySem.W.mg_of X G a7⟩
  have F8 := fun_mk (st := sTwo) l8 c8 k8
  have D8 : Fn K mg "two_squares" sTwo ["number"] f8 _ := ⟨F8, F8.binds (ps := ["number"]) fun _ _ _ _ _ _ us hl => match us, hl with | [_], _ => rfl, PySem.W.mg_of X G a8⟩
  have F9 := fun_mk (st := sThree) l9 c9 k9
  have D9 : Fn K mg "three_squares" sThree ["number"] f9 _ := ⟨F9, F9.binds (ps := ["number"]) fun _ _ _ _ _ _ us hl => match us, hl with | [_], _ => rfl, PySem.W.mg_of X G a9⟩
  have F10 := fun_mk (st := sIs3) l10 c10 k10
  have D10 : Fn K mg "is_three_squares" sIs3 ["number", "value"] f10 _ := ⟨F10, F10.binds (ps := ["number", "value"]) fun _ _ _ _ _ _ us hl => match us, hl with | [_, _], _ => rfl, PySem.W.mg_of X G a10⟩
  have F11 := fun_mk (st := sPot) l11 c11 k11
  have D11 : Fn K mg "_law_pot" sPot ["_law_script", "_law_at"] f11 _ := ⟨F11, F11.binds (ps := ["_law_script", "_law_at"]) fun _ _ _ _ _ _ us hl => match us, hl with | [_, _], _ => rfl, PySem.W.mg_of X G a11⟩
  have F12 := fun_mk (st := sDip) l12 c12 k12
  have D12 : Fn K mg "_law_dip" sDip ["_law_pot_here", "_law_total"] f12 _ := ⟨F12, F12.binds (ps := ["_law_pot_here", "_law_total"]) fun _ _ _ _ _ _ us hl => match us, hl with | [_, _], _ => rfl, PySem.W.mg_of X G a12⟩
  have F13 := fun_mk (st := sPick) l13 c13 k13
  have D13 : Fn K mg "_law_pick" sPick ["_law_pot_here", "_law_items"] f13 _ := ⟨F13, F13.binds (ps := ["_law_pot_here", "_law_items"]) fun _ _ _ _ _ _ us hl => match us, hl with | [_, _], _ => rfl, PySem.W.mg_of X G a13⟩
  have F14 := fun_mk (st := sNever) l14 c14 k14
  have D14 : Fn K mg "_law_is_never" sNever ["_law_number_here"] f14 _ := ⟨F14, F14.binds (ps := ["_law_number_here"]) fun _ _ _ _ _ _ us hl => match us, hl with | [_], _ => rfl, PySem.W.mg_of X G a14⟩
  have F15 := fun_mk (st := sTwofold) l15 c15 k15
  have D15 : Fn K mg "_law_is_twofold" sTwofold ["_law_number_here"] f15 _ := ⟨F15, F15.binds (ps := ["_law_number_here"]) fun _ _ _ _ _ _ us hl => match us, hl with | [_], _ => rfl, PySem.W.mg_of X G a15⟩
  have F16 := fun_mk (st := sAdd) l16 c16 k16
  have D16 : Fn K mg "_law_do_add" sAdd ["_law_value", "_law_many", "_law_number_here"] f16 _ := ⟨F16, F16.binds (ps := ["_law_value", "_law_many", "_law_number_here"]) fun _ _ _ _ _ _ us hl => match us, hl with | [_, _, _], _ => rfl, PySem.W.mg_of X G a16⟩
  have F17 := fun_mk (st := sNumber) l17 c17 k17
  have D17 : Fn K mg "_law_number" sNumber ["_law_pot_here"] f17 _ := ⟨F17, F17.binds (ps := ["_law_pot_here"]) fun _ _ _ _ _ _ us hl => match us, hl with | [_], _ => rfl, PySem.W.mg_of X G a17⟩
  have F18 := fun_mk (st := sRight) l18 c18 k18
  have D18 : Fn K mg "_law_right" sRight ["_law_pot_here"] f18 _ := ⟨F18, F18.binds (ps := ["_law_pot_here"]) fun _ _ _ _ _ _ us hl => match us, hl with | [_], _ => rfl, PySem.W.mg_of X G a18⟩
  have F19 := fun_mk (st := sLaw) l19 c19 k19
  have D19 : Fn K mg "law" sLaw ["_law_script"] fa _ := ⟨F19, F19.binds (ps := ["_law_script"]) fun _ _ _ _ _ _ us hl => match us, hl with | [_], _ => rfl, PySem.W.mg_of X G a19⟩
  have T : Txt mg := ⟨PySem.W.mg_none_of X G z1, PySem.W.mg_none_of X G z2, PySem.W.mg_none_of X G z3, PySem.W.mg_none_of X G z4, PySem.W.mg_none_of X G z5, PySem.W.mg_none_of X G z6, PySem.W.mg_none_of X G z7, PySem.W.mg_none_of X G z8, PySem.W.mg_none_of X G z9, PySem.W.mg_none_of X G z10, PySem.W.mg_none_of X G z11, ⟨tB, by rw [show ((10 : Int) ^ 60) = 1000000000000000000000000000000000000000000000000000000000000 by decide +kernel]; exact PySem.W.mg_of X G zB⟩, ⟨tM, PySem.W.mg_of X G zM⟩⟩
  have PG : Prog K mg := ⟨T, ⟨_, _, D1⟩, ⟨_, _, D2⟩, ⟨_, _, D3⟩, ⟨_, _, D4⟩, ⟨_, _, D5⟩, ⟨_, _, D6⟩, ⟨_, _, D7⟩⟩
  have LL : Law K mg := ⟨PG, ⟨_, _, D8⟩, ⟨_, _, D9⟩, ⟨_, _, D10⟩, ⟨_, _, D11⟩, ⟨_, _, D12⟩, ⟨_, _, D13⟩, ⟨_, _, D14⟩, ⟨_, _, D15⟩, ⟨_, _, D16⟩, ⟨_, _, D17⟩, ⟨_, _, D18⟩⟩
  exact ⟨PySem.W.fnOf "law" "law" (defArgs sLaw) (defBody sLaw) (defScope sLaw) .none kV19 dc19 pm19 an19 cd19 ct19, fun s v => .of_eq rfl, fun base _ _ => ok_law D19 LL⟩
end K89

open PySem PySem.W PyProof.Rows
set_option maxHeartbeats 0 in
theorem PySem.Challenge.cw_signfours_k89_whole_sums_of_three_and_tw_holds : PySem.Challenge.rw_signfours_k89_whole_sums_of_three_and_tw.Holds := by
  w_on; o_law; k_head; (case hw => w_witness2)
  k_fill
  refine L2.walk_of (l := PySem.Challenge.rw_signfours_k89_whole_sums_of_three_and_tw) (n := 63) (k := 7) (x := "_law_script") (CX := fun _ => L2.CX0) (sp := fun w => K89.spLaw _) rfl (by decide) rfl ⟨rfl, by decide, by decide⟩ (fun w h Y => PySem.W.kIn_of Y) ?F (fun _ _ a ns hl _ hS => ⟨a, ns, rfl, hS, hl, fun _ => rfl⟩) (fun _ _ _ _ _ h => h)
  case F =>
    intro w mg fa h KX G hmg
    refine' K89.all_mk KX G hmg ?a1 ?l1 ?c1 ?k1 ?a2 ?l2 ?c2 ?k2 ?a3 ?l3 ?c3 ?k3 ?a4 ?l4 ?c4 ?k4 ?a5 ?l5 ?c5 ?k5 ?a6 ?l6 ?c6 ?k6 ?a7 ?l7 ?c7 ?k7 ?a8 ?l8 ?c8 ?k8 ?a9 ?l9 ?c9 ?k9 ?a10 ?l10 ?c10 ?k10 ?a11 ?l11 ?c11 ?k11 ?a12 ?l12 ?c12 ?k12 ?a13 ?l13 ?c13 ?k13 ?a14 ?l14 ?c14 ?k14 ?a15 ?l15 ?c15 ?k15 ?a16 ?l16 ?c16 ?k16 ?a17 ?l17 ?c17 ?k17 ?a18 ?l18 ?c18 ?k18 ?a19 ?l19 ?c19 ?k19 ?z1 ?z2 ?z3 ?z4 ?z5 ?z6 ?z7 ?z8 ?z9 ?z10 ?z11 ?zB ?zM
    (case a1 => k_is); (case l1 => k_is); (case c1 => k_is); (case k1 => k_is); (case a2 => k_is); (case l2 => k_is); (case c2 => k_is); (case k2 => k_is)
    (case a3 => k_is); (case l3 => k_is); (case c3 => k_is); (case k3 => k_is); (case a4 => k_is); (case l4 => k_is); (case c4 => k_is); (case k4 => k_is)
    (case a5 => k_is); (case l5 => k_is); (case c5 => k_is); (case k5 => k_is); (case a6 => k_is); (case l6 => k_is); (case c6 => k_is); (case k6 => k_is)
    (case a7 => k_is); (case l7 => k_is); (case c7 => k_is); (case k7 => k_is); (case a8 => k_is); (case l8 => k_is); (case c8 => k_is); (case k8 => k_is)
    (case a9 => k_is); (case l9 => k_is); (case c9 => k_is); (case k9 => k_is); (case a10 => k_is); (case l10 => k_is); (case c10 => k_is); (case k10 => k_is)
    (case a11 => k_is); (case l11 => k_is); (case c11 => k_is); (case k11 => k_is); (case a12 => k_is); (case l12 => k_is); (case c12 => k_is); (case k12 => k_is)
    (case a13 => k_is); (case l13 => k_is); (case c13 => k_is); (case k13 => k_is); (case a14 => k_is); (case l14 => k_is); (case c14 => k_is); (case k14 => k_is)
    (case a15 => k_is); (case l15 => k_is); (case c15 => k_is); (case k15 => k_is); (case a16 => k_is); (case l16 => k_is); (case c16 => k_is); (case k16 => k_is)
    (case a17 => k_is); (case l17 => k_is); (case c17 => k_is); (case k17 => k_is); (case a18 => k_is); (case l18 => k_is); (case c18 => k_is); (case k18 => k_is)
    (case a19 => k_is); (case l19 => k_is); (case c19 => k_is); (case k19 => k_is); (case z1 => k_is); (case z2 => k_is); (case z3 => k_is); (case z4 => k_is)
    (case z5 => k_is); (case z6 => k_is); (case z7 => k_is); (case z8 => k_is); (case z9 => k_is); (case z10 => k_is); (case z11 => k_is); (case zB => k_is)
    (case zM => k_is)

