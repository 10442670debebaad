import PyProof.Rows.All
import Wide.All
import OpenK.AllK
import Wide.FinOn
import PyProof.SeqIndex
import HandS.ForMost
import HandS.Deep
import HandS.Conv
import HandS.TupSets
import HandS.Gcd
import HandS.Zip
import HandS.SortRule
import HandS.IsInst
import HandS.TupAny
import HandS.Style
import HandS.Flow
import PySem.Challenge.RW_movedchest_k46_whole_all_of_a_small_floo
section
set_option linter.all false
/-! MvM: the plain mathematics. -/
namespace Mv
abbrev T3 := Int × Int × Int
/-- a STAND: its shape, xs, ys, fronts -/
abbrev Stand := T3 × T3 × T3 × T3
def ring : List T3 := [(0, 1, 2), (2, 1, 0), (2, 0, 1), (1, 0, 2), (1, 2, 0), (0, 2, 1)]
def homeS : Stand := ((0, 1, 2), (0, 0, 0), (0, 0, 0), (1, 1, 1))
def across : List Int := [1, 2, 0, 1, 2, 0]
def links6 : List Int := [0, 1, 2, 3, 4, 5]
def at3 (t : T3) (i : Int) : Int := if i = 0 then t.1 else if i = 1 then t.2.1 else t.2.2
def dot (t c : T3) : Int := t.1 * c.1 + t.2.1 * c.2.1 + t.2.2 * c.2.2
def mid (c : T3) (s : Stand) : Int × Int := (dot s.2.1 c, dot s.2.2.1 c)
def tot (c : T3) : Int := c.1 + c.2.1 + c.2.2
def acr (k : Int) : Int := across.getD k.toNat 0
def cost (c : T3) (k : Int) : Int := tot c - at3 c (acr k)
def spc (c : T3) : Int := 2 * ((Nat.gcd (Nat.gcd (c.1 + c.2.1).natAbs (c.1 + c.2.2).natAbs) (c.2.1 + c.2.2).natAbs : Nat) : Int)
def placeZ (s : T3) : Int := (ring.idxOf s : Nat)
def arcF (a b : Int) : List Int := links6.filter fun k => decide ((k - a) % 6 < (b - a) % 6)
def arcC (a b : Int) : List Int := links6.filter fun k => !decide ((k - a) % 6 < (b - a) % 6)
def arcs2 (s h : T3) : List (List Int) := [arcF (placeZ s) (placeZ h), arcC (placeZ s) (placeZ h)]
def way (c : T3) (arc : List Int) (ax : Int) : Int := (if ax ∈ arc then cost c ax else 0) + (if ax + 2 ∈ arc then cost c (ax + 2) else 0) + (if ax + 4 ∈ arc then cost c (ax + 4) else 0)
def InMid (c : T3) (s : Stand) (h : T3) (low high : Int) (z : Int × Int) : Prop :=
  (low ≤ z.1 ∧ z.1 ≤ high) ∧ (low ≤ z.2 ∧ z.2 ≤ high) ∧ ∃ arc ∈ arcs2 s.1 h, (z.1 - (mid c s).1 - way c arc 0) % spc c = 0 ∧ (z.2 - (mid c s).2 - way c arc 1) % spc c = 0
/-- all sums of tips over the links of an axis, each at most seven times either way, odd often over those of the arc -/
def Shift (c : T3) (arc : List Int) (ax d : Int) : Prop := ∃ n0 n1 n2 : Int, (-7 ≤ n0 ∧ n0 ≤ 7 ∧ (n0 % 2 = 1 ↔ ax ∈ arc)) ∧ (-7 ≤ n1 ∧ n1 ≤ 7 ∧ (n1 % 2 = 1 ↔ ax + 2 ∈ arc)) ∧ (-7 ≤ n2 ∧ n2 ≤ 7 ∧ (n2 % 2 = 1 ↔ ax + 4 ∈ arc)) ∧
  d = n0 * cost c ax + n1 * cost c (ax + 2) + n2 * cost c (ax + 4)
def Box (c : T3) : Prop := (1 ≤ c.1 ∧ c.1 ≤ 4) ∧ (1 ≤ c.2.1 ∧ c.2.1 ≤ 4) ∧ (1 ≤ c.2.2 ∧ c.2.2 ≤ 4)

/-! ### the finite heart: each rest that fits is paid -/
def cand (o : Bool) : List Int := if o then [1, -1, 3, -3, 5, -5, 7, -7] else [0, 2, -2, 4, -4, 6, -6]
def b2z (o : Bool) : Int := if o then 1 else 0
def last7 (o : Bool) (r e : Int) : Bool := r % e == 0 && (-7 ≤ r / e && (r / e ≤ 7 && (r / e) % 2 == b2z o))
def chk (a b e : Int) (o0 o1 o2 : Bool) (d : Int) : Bool := (cand o0).any fun n0 => (cand o1).any fun n1 => last7 o2 (d - n0 * a - n1 * b) e
def four : List Int := [1, 2, 3, 4]
def near : List Int := (List.range 36).map fun (i : Nat) => (i : Int) - 27
def gg (x y z : Int) : Int := 2 * ((Nat.gcd (Nat.gcd (x + y).natAbs (x + z).natAbs) (y + z).natAbs : Nat) : Int)
def heart1 (x y z g : Int) : Bool := [true, false].all fun o0 => [true, false].all fun o1 => [true, false].all fun o2 =>
  near.all fun d => !((d - b2z o0 * (x + y) - b2z o1 * (x + z) - b2z o2 * (y + z)) % g == 0) || chk (x + y) (x + z) (y + z) o0 o1 o2 d
def heart : Bool := four.all fun x => four.all fun y => four.all fun z => heart1 x y z (gg x y z)
theorem heart_ok : heart = true := by decide +kernel

theorem mem_four {x : Int} (h : 1 ≤ x ∧ x ≤ 4) : x ∈ four := by
  have : x = 1 ∨ x = 2 ∨ x = 3 ∨ x = 4 := by omega
  rcases this with rfl | rfl | rfl | rfl <;> decide
theorem mem_near {d : Int} (h1 : -27 ≤ d) (h2 : d ≤ 8) : d ∈ near := by
  unfold near
  refine List.mem_map.mpr ⟨(d + 27).toNat, List.mem_range.mpr (by omega), by omega⟩
theorem mem_bool (o : Bool) : o ∈ [true, false] := by cases o <;> decide
theorem cand_ok {o : Bool} {n : Int} (h : n ∈ cand o) : -7 ≤ n ∧ n ≤ 7 ∧ n % 2 = b2z o := by
  have q : ∀ o : Bool, ∀ n ∈ cand o, -7 ≤ n ∧ n ≤ 7 ∧ n % 2 = b2z o := by decide
  exact q o n h
theorem heart_use {x y z d : Int} (hx : 1 ≤ x ∧ x ≤ 4) (hy : 1 ≤ y ∧ y ≤ 4) (hz : 1 ≤ z ∧ z ≤ 4) (o0 o1 o2 : Bool) (h1 : -27 ≤ d) (h2 : d ≤ 8)
    (h : (d - b2z o0 * (x + y) - b2z o1 * (x + z) - b2z o2 * (y + z)) % gg x y z = 0) :
    ∃ n0 n1 n2 : Int, (-7 ≤ n0 ∧ n0 ≤ 7 ∧ n0 % 2 = b2z o0) ∧ (-7 ≤ n1 ∧ n1 ≤ 7 ∧ n1 % 2 = b2z o1) ∧ (-7 ≤ n2 ∧ n2 ≤ 7 ∧ n2 % 2 = b2z o2) ∧ d = n0 * (x + y) + n1 * (x + z) + n2 * (y + z) := by
  have a := heart_ok
  unfold heart at a
  have a := List.all_eq_true.mp a x (mem_four hx)
  have a := List.all_eq_true.mp a y (mem_four hy)
  have a := List.all_eq_true.mp a z (mem_four hz)
  unfold heart1 at a
  have a := List.all_eq_true.mp a o0 (mem_bool o0)
  have a := List.all_eq_true.mp a o1 (mem_bool o1)
  have a := List.all_eq_true.mp a o2 (mem_bool o2)
  have a := List.all_eq_true.mp a d (mem_near h1 h2)
  rw [h] at a
  have a : chk (x + y) (x + z) (y + z) o0 o1 o2 d = true := by simpa using a
  unfold chk at a
  obtain ⟨n0, m0, a⟩ := List.any_eq_true.mp a
  obtain ⟨n1, m1, a⟩ := List.any_eq_true.mp a
  unfold last7 at a
  rw [Bool.and_eq_true, Bool.and_eq_true, Bool.and_eq_true, beq_iff_eq, beq_iff_eq, decide_eq_true_eq, decide_eq_true_eq] at a
  obtain ⟨a1, a2, a3, a4⟩ := a
  refine ⟨n0, n1, _, cand_ok m0, cand_ok m1, ⟨a2, a3, a4⟩, ?_⟩
  have q := Int.mul_ediv_add_emod (d - n0 * (x + y) - n1 * (x + z)) (y + z)
  rw [a1, Int.mul_comm] at q
  omega
/-- whatever is paid has that rest -/
theorem heart_back {a b e g n0 n1 n2 o0 o1 o2 : Int} (ha : g ∣ a) (hb : g ∣ b) (he : g ∣ e) (h0 : n0 % 2 = o0 % 2) (h1 : n1 % 2 = o1 % 2) (h2 : n2 % 2 = o2 % 2) :
    (n0 * a + n1 * b + n2 * e - o0 * a - o1 * b - o2 * e) % (2 * g) = 0 := by
  obtain ⟨a', rfl⟩ := ha
  obtain ⟨b', rfl⟩ := hb
  obtain ⟨e', rfl⟩ := he
  obtain ⟨k0, hk0⟩ : ∃ k, n0 = o0 + 2 * k := ⟨(n0 - o0) / 2, by omega⟩
  obtain ⟨k1, hk1⟩ : ∃ k, n1 = o1 + 2 * k := ⟨(n1 - o1) / 2, by omega⟩
  obtain ⟨k2, hk2⟩ : ∃ k, n2 = o2 + 2 * k := ⟨(n2 - o2) / 2, by omega⟩
  subst hk0 hk1 hk2
  refine Int.emod_eq_zero_of_dvd ⟨k0 * a' + k1 * b' + k2 * e', ?_⟩
  simp only [Int.add_mul, Int.mul_add, Int.mul_assoc]
  have c0 : k0 * (g * a') = g * (k0 * a') := by rw [Int.mul_left_comm]
  have c1 : k1 * (g * b') = g * (k1 * b') := by rw [Int.mul_left_comm]
  have c2 : k2 * (g * e') = g * (k2 * e') := by rw [Int.mul_left_comm]
  rw [c0, c1, c2]
  omega

/-! ### the spacing and the costs -/
def gcd3 (c : T3) : Int := ((Nat.gcd (Nat.gcd (c.1 + c.2.1).natAbs (c.1 + c.2.2).natAbs) (c.2.1 + c.2.2).natAbs : Nat) : Int)
theorem spc_eq (c : T3) : spc c = 2 * gcd3 c := rfl
theorem gcd3_dvd (c : T3) : gcd3 c ∣ c.1 + c.2.1 ∧ gcd3 c ∣ c.1 + c.2.2 ∧ gcd3 c ∣ c.2.1 + c.2.2 := by
  unfold gcd3
  refine ⟨?_, ?_, ?_⟩
  · exact Int.ofNat_dvd_left.mpr (Nat.dvd_trans (Nat.gcd_dvd_left _ _) (Nat.gcd_dvd_left _ _))
  · exact Int.ofNat_dvd_left.mpr (Nat.dvd_trans (Nat.gcd_dvd_left _ _) (Nat.gcd_dvd_right _ _))
  · exact Int.ofNat_dvd_left.mpr (Nat.gcd_dvd_right _ _)
theorem gcd3_pos {c : T3} (h : 1 ≤ c.1) (h2 : 1 ≤ c.2.1) : 1 ≤ gcd3 c := by
  have : 0 < Nat.gcd (Nat.gcd (c.1 + c.2.1).natAbs (c.1 + c.2.2).natAbs) (c.2.1 + c.2.2).natAbs := Nat.gcd_pos_of_pos_left _ (Nat.gcd_pos_of_pos_left _ (by omega))
  unfold gcd3
  omega
theorem spc_ge {c : T3} (h : 1 ≤ c.1) (h2 : 1 ≤ c.2.1) : 2 ≤ spc c := by
  have := gcd3_pos h h2
  rw [spc_eq]
  omega
theorem spc_le {c : T3} (h : 1 ≤ c.1) (h2 : 1 ≤ c.2.1) : spc c ≤ 2 * (c.1 + c.2.1) := by
  have := Int.le_of_dvd (by omega) (gcd3_dvd c).1
  rw [spc_eq]
  omega
theorem cost0 (c : T3) : cost c 0 = c.1 + c.2.2 := by
  show c.1 + c.2.1 + c.2.2 - c.2.1 = _
  omega
theorem cost1 (c : T3) : cost c 1 = c.1 + c.2.1 := by
  show c.1 + c.2.1 + c.2.2 - c.2.2 = _
  omega
theorem cost2 (c : T3) : cost c 2 = c.2.1 + c.2.2 := by
  show c.1 + c.2.1 + c.2.2 - c.1 = _
  omega
theorem cost3 (c : T3) : cost c 3 = c.1 + c.2.2 := by
  show c.1 + c.2.1 + c.2.2 - c.2.1 = _
  omega
theorem cost4 (c : T3) : cost c 4 = c.1 + c.2.1 := by
  show c.1 + c.2.1 + c.2.2 - c.2.2 = _
  omega
theorem cost5 (c : T3) : cost c 5 = c.2.1 + c.2.2 := by
  show c.1 + c.2.1 + c.2.2 - c.1 = _
  omega
theorem gcd3_cost (c : T3) {k : Int} (h : k ∈ links6) : gcd3 c ∣ cost c k := by
  obtain ⟨g1, g2, g3⟩ := gcd3_dvd c
  have : k = 0 ∨ k = 1 ∨ k = 2 ∨ k = 3 ∨ k = 4 ∨ k = 5 := by simpa [links6] using h
  rcases this with rfl | rfl | rfl | rfl | rfl | rfl
  · rw [cost0]; exact g2
  · rw [cost1]; exact g1
  · rw [cost2]; exact g3
  · rw [cost3]; exact g2
  · rw [cost4]; exact g1
  · rw [cost5]; exact g3
theorem b2z_mul (p : Prop) [Decidable p] (x : Int) : b2z (decide p) * x = if p then x else 0 := by
  by_cases h : p
  · rw [if_pos h, decide_eq_true h]
    show 1 * x = x
    omega
  · rw [if_neg h, decide_eq_false h]
    show 0 * x = 0
    omega
theorem b2z_iff {p : Prop} [Decidable p] {n : Int} : n % 2 = b2z (decide p) ↔ (n % 2 = 1 ↔ p) := by
  by_cases h : p
  · rw [decide_eq_true h]
    show n % 2 = 1 ↔ _
    constructor
    · exact fun e => ⟨fun _ => h, fun _ => e⟩
    · exact fun e => e.mpr h
  · rw [decide_eq_false h]
    show n % 2 = 0 ↔ _
    constructor
    · exact fun e => ⟨fun z => by omega, fun z => absurd z h⟩
    · exact fun e => by
        have : ¬ n % 2 = 1 := fun z => h (e.mp z)
        omega
theorem gg_perm (x y z : Int) : gg z x y = gg x y z := by
  unfold gg
  have e : Nat.gcd (Nat.gcd (z + x).natAbs (z + y).natAbs) (x + y).natAbs = Nat.gcd (Nat.gcd (x + y).natAbs (x + z).natAbs) (y + z).natAbs := by
    rw [Int.add_comm z x, Int.add_comm z y, Nat.gcd_comm (Nat.gcd _ _) (x + y).natAbs, ← Nat.gcd_assoc]
  rw [e]
theorem shift_iff {c : T3} (hc : Box c) (arc : List Int) {ax d : Int} (hax : ax = 0 ∨ ax = 1) (h1 : -27 ≤ d) (h2 : d ≤ 8) : Shift c arc ax d ↔ (d - way c arc ax) % spc c = 0 := by
  have g : ∀ {k : Int}, k ∈ links6 → gcd3 c ∣ cost c k := fun h => gcd3_cost c h
  constructor
  · rintro ⟨n0, n1, n2, ⟨_, _, p0⟩, ⟨_, _, p1⟩, ⟨_, _, p2⟩, e⟩
    have q := heart_back (a := cost c ax) (b := cost c (ax + 2)) (e := cost c (ax + 4)) (g := gcd3 c) (n0 := n0) (n1 := n1) (n2 := n2) (o0 := b2z (decide (ax ∈ arc))) (o1 := b2z (decide (ax + 2 ∈ arc))) (o2 := b2z (decide (ax + 4 ∈ arc)))
      (g (by rcases hax with rfl | rfl <;> decide)) (g (by rcases hax with rfl | rfl <;> decide)) (g (by rcases hax with rfl | rfl <;> decide))
      (by rw [b2z_iff.mpr p0]; cases decide (ax ∈ arc) <;> rfl) (by rw [b2z_iff.mpr p1]; cases decide (ax + 2 ∈ arc) <;> rfl) (by rw [b2z_iff.mpr p2]; cases decide (ax + 4 ∈ arc) <;> rfl)
    rw [b2z_mul, b2z_mul, b2z_mul] at q
    rw [spc_eq, e]
    refine Eq.trans (congrArg (fun z => z % (2 * gcd3 c)) ?_) q
    unfold way
    omega
  · intro h
    obtain ⟨b1, b2, b3⟩ := hc
    rcases hax with rfl | rfl
    · -- links 0, 2, 4
      have e : way c arc 0 = b2z (decide ((0 : Int) ∈ arc)) * (c.2.2 + c.1) + b2z (decide ((2 : Int) ∈ arc)) * (c.2.2 + c.2.1) + b2z (decide ((4 : Int) ∈ arc)) * (c.1 + c.2.1) := by
        rw [b2z_mul, b2z_mul, b2z_mul]
        show (if (0 : Int) ∈ arc then cost c 0 else 0) + (if (2 : Int) ∈ arc then cost c 2 else 0) + (if (4 : Int) ∈ arc then cost c 4 else 0) = _
        rw [cost0, cost2, cost4, Int.add_comm c.2.2 c.1, Int.add_comm c.2.2 c.2.1]
      obtain ⟨n0, n1, n2, p0, p1, p2, e2⟩ := heart_use (x := c.2.2) (y := c.1) (z := c.2.1) b3 b1 b2 (decide ((0 : Int) ∈ arc)) (decide ((2 : Int) ∈ arc)) (decide ((4 : Int) ∈ arc)) h1 h2 (by
        rw [gg_perm]
        refine Eq.trans (congrArg (fun z => z % spc c) ?_) h
        rw [e]
        omega)
      refine ⟨n0, n1, n2, ⟨p0.1, p0.2.1, b2z_iff.mp p0.2.2⟩, ⟨p1.1, p1.2.1, b2z_iff.mp p1.2.2⟩, ⟨p2.1, p2.2.1, b2z_iff.mp p2.2.2⟩, ?_⟩
      show d = n0 * cost c 0 + n1 * cost c 2 + n2 * cost c 4
      rw [cost0, cost2, cost4, e2, Int.add_comm c.2.2 c.1, Int.add_comm c.2.2 c.2.1]
    · have e : way c arc 1 = b2z (decide ((1 : Int) ∈ arc)) * (c.1 + c.2.1) + b2z (decide ((3 : Int) ∈ arc)) * (c.1 + c.2.2) + b2z (decide ((5 : Int) ∈ arc)) * (c.2.1 + c.2.2) := by
        rw [b2z_mul, b2z_mul, b2z_mul]
        show (if (1 : Int) ∈ arc then cost c 1 else 0) + (if (3 : Int) ∈ arc then cost c 3 else 0) + (if (5 : Int) ∈ arc then cost c 5 else 0) = _
        rw [cost1, cost3, cost5]
      obtain ⟨n0, n1, n2, p0, p1, p2, e2⟩ := heart_use (x := c.1) (y := c.2.1) (z := c.2.2) b1 b2 b3 (decide ((1 : Int) ∈ arc)) (decide ((3 : Int) ∈ arc)) (decide ((5 : Int) ∈ arc)) h1 h2 (by
        refine Eq.trans (congrArg (fun z => z % spc c) ?_) h
        rw [e]
        omega)
      refine ⟨n0, n1, n2, ⟨p0.1, p0.2.1, b2z_iff.mp p0.2.2⟩, ⟨p1.1, p1.2.1, b2z_iff.mp p1.2.2⟩, ⟨p2.1, p2.2.1, b2z_iff.mp p2.2.2⟩, ?_⟩
      show d = n0 * cost c 1 + n1 * cost c 3 + n2 * cost c 5
      rw [cost1, cost3, cost5, e2]
end Mv
end

section
set_option linter.all false
set_option maxRecDepth 100000
/-! MvN: sorted lists, arcs, tips and turns. -/
namespace Mv
/-! ### strictly sorted lists of pairs -/
def lexZ (p q : Int × Int) : Prop := p.1 < q.1 ∨ (p.1 = q.1 ∧ p.2 < q.2)
theorem lexZ_irrefl (p : Int × Int) : ¬ lexZ p p := by
  unfold lexZ
  omega
theorem lexZ_asymm {p q : Int × Int} (h : lexZ p q) : ¬ lexZ q p := by
  unfold lexZ at *
  omega
theorem lexZ_tot {p q : Int × Int} (h : ¬ lexZ q p) (ne : p ≠ q) : lexZ p q := by
  unfold lexZ at *
  obtain ⟨a, b⟩ := p
  obtain ⟨a', b'⟩ := q
  simp only at *
  by_cases e : a = a'
  · by_cases e2 : b = b'
    · exact absurd (by rw [e, e2]) ne
    · omega
  · omega
theorem lex_uniq : ∀ {l m : List (Int × Int)}, l.Pairwise lexZ → m.Pairwise lexZ → (∀ z, z ∈ l ↔ z ∈ m) → l = m
  | [], [], _, _, _ => rfl
  | [], y :: m, _, _, h => absurd ((h y).mpr (List.mem_cons_self ..)) (by simp)
  | x :: l, [], _, _, h => absurd ((h x).mp (List.mem_cons_self ..)) (by simp)
  | x :: l, y :: m, hl, hm, h => by
    obtain ⟨l1, l2⟩ := List.pairwise_cons.mp hl
    obtain ⟨m1, m2⟩ := List.pairwise_cons.mp hm
    have e : x = y := by
      rcases List.mem_cons.mp ((h x).mp (List.mem_cons_self ..)) with e | hx
      · exact e
      · rcases List.mem_cons.mp ((h y).mpr (List.mem_cons_self ..)) with e | hy
        · exact e.symm
        · exact absurd (m1 x hx) (lexZ_asymm (l1 y hy))
    subst e
    rw [lex_uniq l2 m2 fun z => ?_]
    have nl : x ∉ l := fun q => lexZ_irrefl _ (l1 x q)
    have nm : x ∉ m := fun q => lexZ_irrefl _ (m1 x q)
    constructor
    · intro q
      rcases List.mem_cons.mp ((h z).mp (List.mem_cons_of_mem _ q)) with e | q'
      · exact absurd (e ▸ q) nl
      · exact q'
    · intro q
      rcases List.mem_cons.mp ((h z).mpr (List.mem_cons_of_mem _ q)) with e | q'
      · exact absurd (e ▸ q) nm
      · exact q'
theorem lex_strict {ws zs : List (Int × Int)} (p : ws.Perm zs) (h : ws.Pairwise fun u v => ¬ lexZ v u) (nd : zs.Nodup) : ws.Pairwise lexZ := by
  have nw : ws.Nodup := p.nodup_iff.mpr nd
  exact (List.Pairwise.and h nw).imp fun {a b} q => lexZ_tot q.1 q.2

/-! ### arcs -/
def inRing (s : T3) : Prop := s ∈ ring
theorem ring_cases {s : T3} (h : s ∈ ring) : s = (0, 1, 2) ∨ s = (2, 1, 0) ∨ s = (2, 0, 1) ∨ s = (1, 0, 2) ∨ s = (1, 2, 0) ∨ s = (0, 2, 1) := by
  simpa [ring] using h
/-- the shape behind a tip, the link gone over -/
def tipSh (s : T3) (w : Int) : T3 := if w % 2 = 0 then (s.2.2, s.2.1, s.1) else (s.1, s.2.2, s.2.1)
def linkOf (s : T3) (w : Int) : Int := if placeZ s % 2 = w % 2 then placeZ s else (placeZ s - 1) % 6
def tog (k : Int) (arc : List Int) : List Int := links6.filter fun j => decide (j ∈ arc) != decide (j = k)
def ways4 : List Int := [0, 1, 2, 3]
theorem tog_all : (ring.all fun p => ring.all fun q => ways4.all fun w => (arcs2 p q).all fun arc => (arcs2 p (tipSh q w)).contains (tog (linkOf q w) arc)) = true := by decide +kernel
theorem link_all : (ring.all fun q => ways4.all fun w => links6.contains (linkOf q w) && (linkOf q w % 2 == w % 2) && ring.contains (tipSh q w)) = true := by decide +kernel
theorem same_all : (ring.all fun p => (arcs2 p p).contains []) = true := by decide +kernel
theorem mem_ways {w : Int} (h : 0 ≤ w ∧ w ≤ 3) : w ∈ ways4 := by
  have : w = 0 ∨ w = 1 ∨ w = 2 ∨ w = 3 := by omega
  rcases this with rfl | rfl | rfl | rfl <;> decide
theorem tog_mem {p q : T3} (hp : p ∈ ring) (hq : q ∈ ring) {w : Int} (hw : 0 ≤ w ∧ w ≤ 3) {arc : List Int} (ha : arc ∈ arcs2 p q) : tog (linkOf q w) arc ∈ arcs2 p (tipSh q w) := by
  have a := List.all_eq_true.mp tog_all p hp
  have a := List.all_eq_true.mp a q hq
  have a := List.all_eq_true.mp a w (mem_ways hw)
  have a := List.all_eq_true.mp a arc ha
  simpa using a
theorem link_ok {q : T3} (hq : q ∈ ring) {w : Int} (hw : 0 ≤ w ∧ w ≤ 3) : linkOf q w ∈ links6 ∧ linkOf q w % 2 = w % 2 ∧ tipSh q w ∈ ring := by
  have a := List.all_eq_true.mp link_all q hq
  have a := List.all_eq_true.mp a w (mem_ways hw)
  rw [Bool.and_eq_true, Bool.and_eq_true] at a
  exact ⟨by simpa using a.1.1, by simpa using a.1.2, by simpa using a.2⟩
theorem nil_mem {p : T3} (hp : p ∈ ring) : [] ∈ arcs2 p p := by
  have a := List.all_eq_true.mp same_all p hp
  simpa using a
theorem mem_tog {k j : Int} {arc : List Int} (hj : j ∈ links6) : j ∈ tog k arc ↔ (j ∈ arc ∧ j ≠ k) ∨ (j ∉ arc ∧ j = k) := by
  unfold tog
  rw [List.mem_filter]
  by_cases b : j = k
  · subst b
    by_cases a : j ∈ arc <;> simp [a, hj]
  · by_cases a : j ∈ arc <;> simp [a, b, hj]
theorem tog_one (c : T3) (arc : List Int) {k j : Int} (hj : j ∈ links6) : (if j ∈ tog k arc then cost c j else 0) = (if j ∈ arc then cost c j else 0) + (if j = k then (if j ∈ arc then - cost c j else cost c j) else 0) := by
  by_cases a : j ∈ arc
  · by_cases b : j = k
    · rw [if_neg (fun z => by rcases (mem_tog hj).mp z with z | z; exact z.2 b; exact z.1 a), if_pos a, if_pos b, if_pos a]
      omega
    · rw [if_pos ((mem_tog hj).mpr (.inl ⟨a, b⟩)), if_pos a, if_neg b]
      omega
  · by_cases b : j = k
    · rw [if_pos ((mem_tog hj).mpr (.inr ⟨a, b⟩)), if_neg a, if_pos b, if_neg a]
      omega
    · rw [if_neg (fun z => by rcases (mem_tog hj).mp z with z | z; exact a z.1; exact b z.2), if_neg a, if_neg b]
      omega
/-- going over a link: its axis' way changes by the cost one way or the other, the other axis' not -/
theorem way_tog (c : T3) (arc : List Int) {k : Int} (hk : k ∈ links6) (ax : Int) (hax : ax = 0 ∨ ax = 1) :
    (k % 2 = ax → way c (tog k arc) ax = way c arc ax + cost c k ∨ way c (tog k arc) ax = way c arc ax - cost c k) ∧ (k % 2 ≠ ax → way c (tog k arc) ax = way c arc ax) := by
  have l : ∀ j, (j = ax ∨ j = ax + 2 ∨ j = ax + 4) → j ∈ links6 := by
    intro j hj
    rcases hax with rfl | rfl <;> rcases hj with rfl | rfl | rfl <;> decide
  have hk' : k = 0 ∨ k = 1 ∨ k = 2 ∨ k = 3 ∨ k = 4 ∨ k = 5 := by simpa [links6] using hk
  unfold way
  rw [tog_one c arc (l ax (.inl rfl)), tog_one c arc (l (ax + 2) (.inr (.inl rfl))), tog_one c arc (l (ax + 4) (.inr (.inr rfl)))]
  constructor
  · intro e
    have : k = ax ∨ k = ax + 2 ∨ k = ax + 4 := by omega
    rcases this with rfl | rfl | rfl
    · rw [if_pos rfl, if_neg (show ¬ k + 2 = k by omega), if_neg (show ¬ k + 4 = k by omega)]
      by_cases a : k ∈ arc
      · rw [if_pos a, if_pos a]
        exact .inr (by omega)
      · rw [if_neg a, if_neg a]
        exact .inl (by omega)
    · rw [if_pos (c := ax + 2 = ax + 2) rfl, if_neg (show ¬ ax = ax + 2 by omega), if_neg (show ¬ ax + 4 = ax + 2 by omega)]
      by_cases a : ax + 2 ∈ arc
      · rw [if_pos a, if_pos a]
        exact .inr (by omega)
      · rw [if_neg a, if_neg a]
        exact .inl (by omega)
    · rw [if_pos (c := ax + 4 = ax + 4) rfl, if_neg (show ¬ ax = ax + 4 by omega), if_neg (show ¬ ax + 2 = ax + 4 by omega)]
      by_cases a : ax + 4 ∈ arc
      · rw [if_pos a, if_pos a]
        exact .inr (by omega)
      · rw [if_neg a, if_neg a]
        exact .inl (by omega)
  · intro e
    rw [if_neg (show ¬ ax = k by omega), if_neg (show ¬ ax + 2 = k by omega), if_neg (show ¬ ax + 4 = k by omega)]
    omega

/-! ### stands and moves -/
def set3 (t : T3) (i v : Int) : T3 := if i = 0 then (v, t.2.1, t.2.2) else if i = 1 then (t.1, v, t.2.2) else (t.1, t.2.1, v)
def plus (t : T3) (i by_ : Int) : T3 := set3 t i (at3 t i + by_)
def flip3 (t : T3) (i : Int) : T3 := set3 t i (-(at3 t i))
def Ix (i : Int) : Prop := i = 0 ∨ i = 1 ∨ i = 2
theorem ix_of {s : T3} (h : s ∈ ring) : Ix s.1 ∧ Ix s.2.1 ∧ Ix s.2.2 := by
  rcases ring_cases h with rfl | rfl | rfl | rfl | rfl | rfl <;> exact ⟨by unfold Ix; decide, by unfold Ix; decide, by unfold Ix; decide⟩
theorem dot_plus {i : Int} (h : Ix i) (t c : T3) (y : Int) : dot (plus t i y) c = dot t c + y * at3 c i := by
  obtain ⟨t1, t2, t3⟩ := t
  obtain ⟨c1, c2, c3⟩ := c
  rcases h with rfl | rfl | rfl
  · show (t1 + y) * c1 + t2 * c2 + t3 * c3 = t1 * c1 + t2 * c2 + t3 * c3 + y * c1
    rw [Int.add_mul]
    omega
  · show t1 * c1 + (t2 + y) * c2 + t3 * c3 = t1 * c1 + t2 * c2 + t3 * c3 + y * c2
    rw [Int.add_mul]
    omega
  · show t1 * c1 + t2 * c2 + (t3 + y) * c3 = t1 * c1 + t2 * c2 + t3 * c3 + y * c3
    rw [Int.add_mul]
    omega
def sgn (t : T3) : Prop := (t.1 = 1 ∨ t.1 = -1) ∧ (t.2.1 = 1 ∨ t.2.1 = -1) ∧ (t.2.2 = 1 ∨ t.2.2 = -1)
theorem sgn_flip {t : T3} (h : sgn t) {i : Int} (hi : Ix i) : sgn (flip3 t i) := by
  obtain ⟨t1, t2, t3⟩ := t
  obtain ⟨h1, h2, h3⟩ := h
  simp only at h1 h2 h3
  rcases hi with rfl | rfl | rfl
  · exact ⟨by show -t1 = 1 ∨ -t1 = -1; omega, h2, h3⟩
  · exact ⟨h1, by show -t2 = 1 ∨ -t2 = -1; omega, h3⟩
  · exact ⟨h1, h2, by show -t3 = 1 ∨ -t3 = -1; omega⟩
def tipS (s : Stand) (w : Int) : Stand :=
  if w % 2 = 0 then ((s.1.2.2, s.1.2.1, s.1.1), plus (plus s.2.1 s.1.1 (if w < 2 then 1 else -1)) s.1.2.2 (if w < 2 then 1 else -1), s.2.2.1, flip3 s.2.2.2 (if w = 0 then s.1.1 else s.1.2.2))
  else ((s.1.1, s.1.2.2, s.1.2.1), s.2.1, plus (plus s.2.2.1 s.1.2.1 (if w < 2 then 1 else -1)) s.1.2.2 (if w < 2 then 1 else -1), flip3 s.2.2.2 (if w = 1 then s.1.2.1 else s.1.2.2))
def turnS (s : Stand) (c h : Int) : Stand :=
  ((s.1.2.1, s.1.1, s.1.2.2),
    plus (plus s.2.1 s.1.1 (if c = 1 ∨ c = 2 then 1 else -1)) s.1.2.1 ((if c = 2 ∨ c = 3 then 1 else -1) * h),
    plus (plus s.2.2.1 s.1.2.1 (if c = 2 ∨ c = 3 then 1 else -1)) s.1.1 (-(if c = 1 ∨ c = 2 then 1 else -1) * h),
    flip3 s.2.2.2 (if h = 1 then s.1.2.1 else s.1.1))
/-- a MOVE: a tip by a way, a turn about a corner by a hand -/
abbrev Move := Int ⊕ (Int × Int)
def stepS (s : Stand) : Move → Stand
  | .inl w => tipS s w
  | .inr (c, h) => turnS s c h
def MoveOk : Move → Prop
  | .inl w => 0 ≤ w ∧ w ≤ 3
  | .inr (c, h) => (0 ≤ c ∧ c ≤ 3) ∧ (h = 1 ∨ h = -1)
def walkS (s : Stand) (ms : List Move) : Stand := ms.foldl stepS s
/-- a STAND that is one -/
def StOk (s : Stand) : Prop := s.1 ∈ ring ∧ sgn s.2.2.2
theorem home_ok : StOk homeS := ⟨by decide, .inl rfl, .inl rfl, .inl rfl⟩
theorem swap_ring {s : T3} (h : s ∈ ring) : (s.2.1, s.1, s.2.2) ∈ ring := by
  rcases ring_cases h with rfl | rfl | rfl | rfl | rfl | rfl <;> decide
theorem tip_sh (s : Stand) (w : Int) : (tipS s w).1 = tipSh s.1 w := by
  unfold tipS tipSh
  split <;> rfl
theorem step_ok {s : Stand} {m : Move} (h : StOk s) (hm : MoveOk m) : StOk (stepS s m) := by
  obtain ⟨h1, h2⟩ := h
  obtain ⟨i1, i2, i3⟩ := ix_of h1
  cases m with
  | inl w =>
    have hw : 0 ≤ w ∧ w ≤ 3 := hm
    refine ⟨?_, ?_⟩
    · show (tipS s w).1 ∈ ring
      rw [tip_sh]
      exact (link_ok h1 hw).2.2
    · show sgn (tipS s w).2.2.2
      unfold tipS
      split
      · exact sgn_flip h2 (by split <;> assumption)
      · exact sgn_flip h2 (by split <;> assumption)
  | inr p =>
    obtain ⟨c, hd⟩ := p
    exact ⟨swap_ring h1, sgn_flip h2 (by split <;> assumption)⟩
theorem walk_ok : ∀ {ms : List Move} {s : Stand}, StOk s → (∀ m ∈ ms, MoveOk m) → StOk (walkS s ms)
  | [], _, h, _ => h
  | m :: ms, _, h, hm => walk_ok (ms := ms) (step_ok h (hm m (List.mem_cons_self ..))) fun u hu => hm u (List.mem_cons_of_mem _ hu)
theorem at3_box {c : T3} (h : Box c) {i : Int} (hi : Ix i) : 1 ≤ at3 c i ∧ at3 c i ≤ 4 := by
  obtain ⟨h1, h2, h3⟩ := h
  rcases hi with rfl | rfl | rfl
  · exact h1
  · exact h2
  · exact h3
def dif (c : T3) (s : Stand) : Int := (mid c s).1 - (mid c s).2
theorem sgn_mul (p : Prop) [Decidable p] (x : Int) : (if p then 1 else -1) * x = if p then x else -x := by
  by_cases h : p
  · rw [if_pos h, if_pos h]; omega
  · rw [if_neg h, if_neg h]; omega
theorem mid_tip {c : T3} {s : Stand} (h : s.1 ∈ ring) (w : Int) :
    mid c (tipS s w) = if w % 2 = 0 then ((mid c s).1 + (if w < 2 then at3 c s.1.1 else - at3 c s.1.1) + (if w < 2 then at3 c s.1.2.2 else - at3 c s.1.2.2), (mid c s).2)
      else ((mid c s).1, (mid c s).2 + (if w < 2 then at3 c s.1.2.1 else - at3 c s.1.2.1) + (if w < 2 then at3 c s.1.2.2 else - at3 c s.1.2.2)) := by
  obtain ⟨i1, i2, i3⟩ := ix_of h
  unfold mid tipS
  by_cases e : w % 2 = 0
  · rw [if_pos e, if_pos e]
    show (dot (plus (plus s.2.1 s.1.1 _) s.1.2.2 _) c, dot s.2.2.1 c) = _
    rw [dot_plus i3, dot_plus i1, sgn_mul, sgn_mul]
  · rw [if_neg e, if_neg e]
    show (dot s.2.1 c, dot (plus (plus s.2.2.1 s.1.2.1 _) s.1.2.2 _) c) = _
    rw [dot_plus i3, dot_plus i2, sgn_mul, sgn_mul]
theorem mid_turn {c : T3} {s : Stand} (h : s.1 ∈ ring) (co hd : Int) :
    mid c (turnS s co hd) = ((mid c s).1 + (if co = 1 ∨ co = 2 then at3 c s.1.1 else - at3 c s.1.1) + (if co = 2 ∨ co = 3 then 1 else -1) * hd * at3 c s.1.2.1,
      (mid c s).2 + (if co = 2 ∨ co = 3 then at3 c s.1.2.1 else - at3 c s.1.2.1) + -(if co = 1 ∨ co = 2 then 1 else -1) * hd * at3 c s.1.1) := by
  obtain ⟨i1, i2, i3⟩ := ix_of h
  unfold mid turnS
  show (dot (plus (plus s.2.1 s.1.1 _) s.1.2.1 _) c, dot (plus (plus s.2.2.1 s.1.2.1 _) s.1.1 _) c) = _
  rw [dot_plus i2, dot_plus i1, dot_plus i1, dot_plus i2, sgn_mul (co = 1 ∨ co = 2) (at3 c s.1.1), sgn_mul (co = 2 ∨ co = 3) (at3 c s.1.2.1)]
theorem dif_step {c : T3} (hc : Box c) {s : Stand} (h : s.1 ∈ ring) {m : Move} (hm : MoveOk m) : -8 ≤ dif c (stepS s m) - dif c s ∧ dif c (stepS s m) - dif c s ≤ 8 := by
  obtain ⟨i1, i2, i3⟩ := ix_of h
  have b1 := at3_box hc i1
  have b2 := at3_box hc i2
  have b3 := at3_box hc i3
  cases m with
  | inl w =>
    unfold dif
    show -8 ≤ (mid c (tipS s w)).1 - (mid c (tipS s w)).2 - ((mid c s).1 - (mid c s).2) ∧ (mid c (tipS s w)).1 - (mid c (tipS s w)).2 - ((mid c s).1 - (mid c s).2) ≤ 8
    rw [mid_tip h]
    by_cases e : w % 2 = 0
    · rw [if_pos e]
      by_cases e2 : w < 2
      · simp only [if_pos e2]; omega
      · simp only [if_neg e2]; omega
    · rw [if_neg e]
      by_cases e2 : w < 2
      · simp only [if_pos e2]; omega
      · simp only [if_neg e2]; omega
  | inr p =>
    obtain ⟨co, hd⟩ := p
    obtain ⟨hco, hh⟩ := (show (0 ≤ co ∧ co ≤ 3) ∧ (hd = 1 ∨ hd = -1) from hm)
    unfold dif
    show -8 ≤ (mid c (turnS s co hd)).1 - (mid c (turnS s co hd)).2 - ((mid c s).1 - (mid c s).2) ∧ (mid c (turnS s co hd)).1 - (mid c (turnS s co hd)).2 - ((mid c s).1 - (mid c s).2) ≤ 8
    rw [mid_turn h]
    have e : co = 0 ∨ co = 1 ∨ co = 2 ∨ co = 3 := by omega
    rcases e with rfl | rfl | rfl | rfl <;> rcases hh with rfl | rfl <;> simp <;> omega
theorem dif_walk {c : T3} (hc : Box c) : ∀ {ms : List Move} {s : Stand}, StOk s → (∀ m ∈ ms, MoveOk m) → -(8 * (ms.length : Int)) ≤ dif c (walkS s ms) - dif c s ∧ dif c (walkS s ms) - dif c s ≤ 8 * (ms.length : Int)
  | [], s, _, _ => by
    show -(8 * ((0 : Nat) : Int)) ≤ dif c s - dif c s ∧ dif c s - dif c s ≤ 8 * ((0 : Nat) : Int)
    omega
  | m :: ms, s, h, hm => by
    have a := dif_step hc h.1 (hm m (List.mem_cons_self ..))
    have b := dif_walk hc (ms := ms) (step_ok h (hm m (List.mem_cons_self ..))) fun u hu => hm u (List.mem_cons_of_mem _ hu)
    rw [List.length_cons]
    show -(8 * ((ms.length + 1 : Nat) : Int)) ≤ dif c (walkS (stepS s m) ms) - dif c s ∧ dif c (walkS (stepS s m) ms) - dif c s ≤ 8 * ((ms.length + 1 : Nat) : Int)
    omega
theorem dif_home (c : T3) : dif c homeS = 0 := by
  show (0 * c.1 + 0 * c.2.1 + 0 * c.2.2) - (0 * c.1 + 0 * c.2.1 + 0 * c.2.2) = 0
  omega

/-! ### what tips come to -/
def Rch (c : T3) (s0 s : Stand) : Prop := ∃ arc ∈ arcs2 s0.1 s.1, ((mid c s).1 - (mid c s0).1 - way c arc 0) % spc c = 0 ∧ ((mid c s).2 - (mid c s0).2 - way c arc 1) % spc c = 0
theorem rch_self {c : T3} {s : Stand} (h : s.1 ∈ ring) : Rch c s s := by
  refine ⟨[], nil_mem h, ?_, ?_⟩
  · show ((mid c s).1 - (mid c s).1 - (0 + 0 + 0)) % spc c = 0
    rw [show (mid c s).1 - (mid c s).1 - (0 + 0 + 0) = 0 by omega]
    exact Int.zero_emod _
  · show ((mid c s).2 - (mid c s).2 - (0 + 0 + 0)) % spc c = 0
    rw [show (mid c s).2 - (mid c s).2 - (0 + 0 + 0) = 0 by omega]
    exact Int.zero_emod _
theorem cost_tip (c : T3) {s : T3} (h : s ∈ ring) {w : Int} (hw : 0 ≤ w ∧ w ≤ 3) : cost c (linkOf s w) = (if w % 2 = 0 then at3 c s.1 else at3 c s.2.1) + at3 c s.2.2 := by
  have e : w = 0 ∨ w = 1 ∨ w = 2 ∨ w = 3 := by omega
  obtain ⟨c1, c2, c3⟩ := c
  rcases ring_cases h with rfl | rfl | rfl | rfl | rfl | rfl <;> rcases e with rfl | rfl | rfl | rfl
  all_goals first
    | (show c1 + c2 + c3 - c1 = c2 + c3; omega) | (show c1 + c2 + c3 - c1 = c3 + c2; omega)
    | (show c1 + c2 + c3 - c2 = c1 + c3; omega) | (show c1 + c2 + c3 - c2 = c3 + c1; omega)
    | (show c1 + c2 + c3 - c3 = c1 + c2; omega) | (show c1 + c2 + c3 - c3 = c2 + c1; omega)
theorem emod_pm {x y k m : Int} (hm : m ∣ 2 * k) (h : x % m = 0) (e : y = x ∨ y = x + 2 * k ∨ y = x - 2 * k) : y % m = 0 := by
  have hx : m ∣ x := Int.dvd_of_emod_eq_zero h
  refine Int.emod_eq_zero_of_dvd ?_
  rcases e with rfl | rfl | rfl
  · exact hx
  · exact Int.dvd_add hx hm
  · exact Int.dvd_sub hx hm
theorem rch_tip {c : T3} {s0 s : Stand} (h0 : s0.1 ∈ ring) (h : s.1 ∈ ring) {w : Int} (hw : 0 ≤ w ∧ w ≤ 3) (r : Rch c s0 s) : Rch c s0 (tipS s w) := by
  obtain ⟨arc, ha, r1, r2⟩ := r
  obtain ⟨l1, l2, _⟩ := link_ok h hw
  have hd : spc c ∣ 2 * cost c (linkOf s.1 w) := Int.mul_dvd_mul_left 2 (gcd3_cost c l1)
  have ct := cost_tip c h hw
  refine ⟨tog (linkOf s.1 w) arc, ?_, ?_, ?_⟩
  · rw [tip_sh]
    exact tog_mem h0 h hw ha
  · obtain ⟨t1, t2⟩ := way_tog c arc l1 0 (.inl rfl)
    refine emod_pm hd r1 ?_
    rw [mid_tip h]
    by_cases e : w % 2 = 0
    · rw [if_pos e] at ct ⊢
      rcases t1 (by omega) with t | t
      · rw [t]
        by_cases e2 : w < 2
        · simp only [if_pos e2]; omega
        · simp only [if_neg e2]; omega
      · rw [t]
        by_cases e2 : w < 2
        · simp only [if_pos e2]; omega
        · simp only [if_neg e2]; omega
    · rw [if_neg e, t2 (by omega)]
      exact .inl rfl
  · obtain ⟨t1, t2⟩ := way_tog c arc l1 1 (.inr rfl)
    refine emod_pm hd r2 ?_
    rw [mid_tip h]
    by_cases e : w % 2 = 0
    · rw [if_pos e, t2 (by omega)]
      exact .inl rfl
    · rw [if_neg e] at ct ⊢
      rcases t1 (by omega) with t | t
      · rw [t]
        by_cases e2 : w < 2
        · simp only [if_pos e2]; omega
        · simp only [if_neg e2]; omega
      · rw [t]
        by_cases e2 : w < 2
        · simp only [if_pos e2]; omega
        · simp only [if_neg e2]; omega
theorem rch_walk {c : T3} {s0 : Stand} (h0 : s0.1 ∈ ring) : ∀ {ms : List Move} {s : Stand}, StOk s → (∀ m ∈ ms, ∃ w : Int, m = .inl w ∧ 0 ≤ w ∧ w ≤ 3) → Rch c s0 s → Rch c s0 (walkS s ms)
  | [], _, _, _, r => r
  | m :: ms, s, h, hm, r => by
    obtain ⟨w, rfl, hw⟩ := hm m (List.mem_cons_self ..)
    exact rch_walk h0 (ms := ms) (step_ok (m := .inl w) h hw) (fun u hu => hm u (List.mem_cons_of_mem _ hu)) (rch_tip h0 h.1 hw r)
end Mv
namespace Mv
/-! ### the arcs as they are found -/
def fnd (a : Int) (n : Nat) : List Int := (List.range n).map fun (m : Nat) => (a + (m : Int)) % 6
theorem fnd_succ (a : Int) (n : Nat) : fnd a (n + 1) = fnd a n ++ [(a + (n : Int)) % 6] := by
  unfold fnd
  rw [List.range_succ, List.map_append]
  rfl
theorem fnd_len (a : Int) (n : Nat) : (fnd a n).length = n := by
  unfold fnd
  rw [List.length_map, List.length_range]
def arcN (a b : Int) : Nat := ((b - a) % 6).toNat
theorem arcs_all : (links6.all fun a => links6.all fun b => decide ((fnd a (arcN a b)).Perm (arcF a b)) && decide ((arcF a b).Pairwise (· ≤ ·)) && decide (arcC a b = links6.filter fun k => !(fnd a (arcN a b)).any fun y => y == k)) = true := by decide +kernel
theorem mem_links {a : Int} (h : 0 ≤ a ∧ a < 6) : a ∈ links6 := by
  have : a = 0 ∨ a = 1 ∨ a = 2 ∨ a = 3 ∨ a = 4 ∨ a = 5 := by omega
  rcases this with rfl | rfl | rfl | rfl | rfl | rfl <;> decide
theorem arcs_use {a b : Int} (ha : 0 ≤ a ∧ a < 6) (hb : 0 ≤ b ∧ b < 6) : (fnd a (arcN a b)).Perm (arcF a b) ∧ (arcF a b).Pairwise (· ≤ ·) ∧ arcC a b = links6.filter fun k => !(fnd a (arcN a b)).any fun y => y == k := by
  have q := List.all_eq_true.mp arcs_all a (mem_links ha)
  have q := List.all_eq_true.mp q b (mem_links hb)
  rw [Bool.and_eq_true, Bool.and_eq_true, decide_eq_true_eq, decide_eq_true_eq, decide_eq_true_eq] at q
  exact ⟨q.1.1, q.1.2, q.2⟩
theorem arcN_le (a b : Int) : arcN a b ≤ 5 := by
  unfold arcN
  omega
theorem arc_end {a b : Int} (ha : 0 ≤ a ∧ a < 6) (hb : 0 ≤ b ∧ b < 6) {j : Nat} (hj : j ≤ arcN a b) : (a + (j : Int)) % 6 = b ↔ j = arcN a b := by
  unfold arcN at *
  omega
theorem sorted_same {l m : List Int} (p : l.Perm m) (h1 : l.Pairwise (· ≤ ·)) (h2 : m.Pairwise (· ≤ ·)) : l = m :=
  p.eq_of_pairwise (fun x y _ _ a b => Int.le_antisymm a b) h1 h2
/-- the numbers from 0 on that pass -/
def passed (f : Int → Bool) (n : Nat) : List Int := ((List.range n).map fun (i : Nat) => (i : Int)).filter f
theorem passed_succ (f : Int → Bool) (n : Nat) : passed f (n + 1) = passed f n ++ (if f (n : Int) = true then [(n : Int)] else []) := by
  unfold passed
  rw [List.range_succ, List.map_append, List.filter_append]
  congr 1
  show ([(n : Int)].filter f) = _
  by_cases h : f (n : Int) = true
  · rw [if_pos h, List.filter_cons_of_pos h]; rfl
  · rw [if_neg h, List.filter_cons_of_neg h]; rfl
theorem passed_len (f : Int → Bool) (n : Nat) : (passed f n).length ≤ n := by
  unfold passed
  refine Nat.le_trans (List.length_filter_le _ _) ?_
  rw [List.length_map, List.length_range]
  exact Nat.le_refl _
theorem passed_six (f : Int → Bool) : passed f 6 = links6.filter f := rfl
end Mv
namespace Mv
/-! ### the way of an arc, link by link -/
def pw (c : T3) (ks : List Int) (ax : Int) : Int := (ks.map fun k => if k % 2 = ax then cost c k else 0).sum
theorem pw_snoc (c : T3) (ks : List Int) (k ax : Int) : pw c (ks ++ [k]) ax = pw c ks ax + (if k % 2 = ax then cost c k else 0) := by
  unfold pw
  rw [List.map_append, List.sum_append]
  show _ + ((if k % 2 = ax then cost c k else 0) + 0) = _
  omega
theorem pw_way (c : T3) (p : Int → Bool) : pw c (links6.filter p) 0 = way c (links6.filter p) 0 ∧ pw c (links6.filter p) 1 = way c (links6.filter p) 1 := by
  have m : ∀ k, k ∈ links6 → (k ∈ links6.filter p ↔ p k = true) := fun k hk => by
    rw [List.mem_filter]
    exact ⟨fun h => h.2, fun h => ⟨hk, h⟩⟩
  have i6 : ∀ k : Int, (k = 0 ∨ k = 1 ∨ k = 2 ∨ k = 3 ∨ k = 4 ∨ k = 5) → ((if k ∈ links6.filter p then cost c k else 0) = if p k = true then cost c k else 0) := fun k hk => by
    have hm : k ∈ links6 := by rcases hk with rfl | rfl | rfl | rfl | rfl | rfl <;> decide
    by_cases h : p k = true
    · rw [if_pos ((m k hm).mpr h), if_pos h]
    · rw [if_neg fun z => h ((m k hm).mp z), if_neg h]
  have f : ∀ (ks : List Int) (ax : Int), pw c (ks.filter p) ax = (ks.map fun k => if p k = true then (if k % 2 = ax then cost c k else 0) else 0).sum := by
    intro ks ax
    induction ks with
    | nil => rfl
    | cons k ks ih =>
      by_cases h : p k = true
      · rw [List.filter_cons_of_pos h, List.map_cons, List.sum_cons, if_pos h, ← ih]
        unfold pw
        rw [List.map_cons, List.sum_cons]
      · rw [List.filter_cons_of_neg h, List.map_cons, List.sum_cons, if_neg h, ih]
        omega
  constructor
  · rw [f]
    unfold way
    have e0 := i6 0 (by omega)
    have e2 := i6 (0 + 2) (by omega)
    have e4 := i6 (0 + 4) (by omega)
    rw [e0, e2, e4]
    show (if p 0 = true then cost c 0 else 0) + ((if p 1 = true then 0 else 0) + ((if p 2 = true then cost c 2 else 0) + ((if p 3 = true then 0 else 0) + ((if p 4 = true then cost c 4 else 0) + ((if p 5 = true then 0 else 0) + 0))))) = (if p 0 = true then cost c 0 else 0) + (if p 2 = true then cost c 2 else 0) + (if p 4 = true then cost c 4 else 0)
    rw [ite_self, ite_self, ite_self]
    omega
  · rw [f]
    unfold way
    have e0 := i6 1 (by omega)
    have e2 := i6 (1 + 2) (by omega)
    have e4 := i6 (1 + 4) (by omega)
    rw [e0, e2, e4]
    show (if p 0 = true then 0 else 0) + ((if p 1 = true then cost c 1 else 0) + ((if p 2 = true then 0 else 0) + ((if p 3 = true then cost c 3 else 0) + ((if p 4 = true then 0 else 0) + ((if p 5 = true then cost c 5 else 0) + 0))))) = (if p 1 = true then cost c 1 else 0) + (if p 3 = true then cost c 3 else 0) + (if p 5 = true then cost c 5 else 0)
    rw [ite_self, ite_self, ite_self]
    omega
/-- each arc is some of the links in order -/
theorem arc_filter {t h : T3} {arc : List Int} (ha : arc ∈ arcs2 t h) : ∃ p : Int → Bool, arc = links6.filter p := by
  unfold arcs2 arcF arcC at ha
  rcases List.mem_cons.mp ha with rfl | ha
  · exact ⟨_, rfl⟩
  · rcases List.mem_cons.mp ha with rfl | ha
    · exact ⟨_, rfl⟩
    · cases ha
/-- the rests of both arcs -/
def rests (c : T3) (s : Stand) (h : T3) : List (Int × Int) := (arcs2 s.1 h).map fun arc => (((mid c s).1 + way c arc 0) % spc c, ((mid c s).2 + way c arc 1) % spc c)
end Mv
end

section
set_option Elab.async false
set_option linter.all false
set_option maxRecDepth 100000
/-! MvA: the text by places, defs by name, rules that the layer lacks (tuple.index, in, sum, min, max of tuples; sorted of a dict's key pairs; a walk of a list or a tuple). -/
namespace Mv
open PySem PySem.Spec PyProof.Rows L2 RZ
def topS (i : Nat) : Stmt := PySem.Challenge.pw_movedchest_k46_whole_all_of_a_small_floo.main.body.getD i (.Pass ⟨0, 0, 0, 0⟩)
theorem units65 {k : Nat} {A : Around} (r : Room k A) : A.units + 65 < cLine := by have := r.un; omega
theorem units1 {k : Nat} {A : Around} (r : Room k A) : A.units + 1 < cLine := by have := r.un; omega

/-! ### defs by name -/
structure Cl (P : Program) (w : World) (K : PySem.W.Frag) (mg : Str → Option Value) (base : Heap) (k : Nat) (x : Str) (ps : List Str) (sp : Sp) : Prop where
  ex : ∃ (f : Addr) (fd : FuncData), FnOk P w K mg base CX0 k f fd ps sp ∧ mg x = some (.ref f) ∧ PySem.W.keepIn K (.ref f) = true ∧ Binds K fd ps []
section
variable {X : Cx} {k j : Nat} {x : Str} {sp : Sp} {ps : List Str} {p pos : Pos} {e : Expr} {es : List Expr} {t : TA}
theorem pe_cl (c : Cl X.prog X.w X.K X.mg X.base k x ps sp) (hr : Room j X.A) (hk : k ≤ j) (hg : Gl X x) (ha : PA X (e :: es) t)
    (hdb : (x == ("__debug__" : Str)) = false := by decide) (he : starEach (e :: es) X.env = (false, eval e X.env) :: starEach es X.env := by rfl) (hpl : (backTo pos (starEach es X.env)).any (·.1) = false := by rfl) :
    PE X (.Call (.Name x p) (e :: es) [] pos) (tCall sp [] E0 t) := by
  obtain ⟨f, fd, F, hm, kp, b⟩ := c.ex
  exact pe_call F (hr.mono hk) hg hm kp b .nil pass0 ha hdb he hpl
theorem pe_cl0 (c : Cl X.prog X.w X.K X.mg X.base k x ps sp) (hr : Room j X.A) (hk : k ≤ j) (hg : Gl X x)
    (hdb : (x == ("__debug__" : Str)) = false := by decide) : PE X (.Call (.Name x p) [] [] pos) (tCall sp [] E0 tNil) := by
  obtain ⟨f, fd, F, hm, kp, b⟩ := c.ex
  exact pe_call0 F (hr.mono hk) hg hm kp b .nil pass0 hdb
end

/-! ### tuples of ints: sum, min, max -/
section
variable {prog : Program} {w : World} {A : Around} {E : Value → Shared → Prop} {s : Shared} {l : Addr} {xs : Array (Int × Tok)}
theorem iter_intTup {Q : Value → Shared → Prop} (hl : s.heap.IsTuple l (intItems xs))
    (h : ∀ s₂ : Shared, s₂ = { s with heap := s.heap.push { cls := .type "tuple_iterator", data := .fields #[.ref l, .int 0 0] } } →
      (s₂.heap.IsTupleIter s.heap.objs.size l 0 ∧ s₂.heap.IsTuple l (intItems xs)) → (∀ b ∈ [s.heap.objs.size, l], b < s₂.heap.objs.size) → l ≠ s.heap.objs.size → Q (.ref s.heap.objs.size) s₂) :
    wpAny (model prog w) A (pyIter (.ref l)) Q E s := by
  have hlt : l < s.heap.objs.size := by obtain ⟨_, e, _⟩ := hl; exact Heap.lt_size e
  refine wpAny_pyIter_tuple hl (h _ rfl ⟨⟨_, Heap.get?_push_size _ rfl, rfl, rfl⟩, hl.push _⟩ (fun b hb => ?_) (Nat.ne_of_lt hlt))
  show b < (s.heap.push _).objs.size
  rw [Heap.size_push]
  rcases List.mem_cons.mp hb with rfl | hb
  · exact Nat.lt_succ_self _
  · rcases List.mem_cons.mp hb with rfl | hb
    · exact Nat.lt_succ_of_lt hlt
    · cases hb
theorem old_keptT {h' : Heap} (hk : ∀ b o, b ∉ [s.heap.objs.size] → (s.heap.push { cls := .type "tuple_iterator", data := .fields #[.ref l, .int 0 0] }).get? b = some o → h'.get? b = some o) :
    ∀ b o, s.heap.get? b = some o → h'.get? b = some o := fun b o e => by
  refine hk b o (fun hm => ?_) (Heap.get?_push_of_some _ e)
  rcases List.mem_cons.mp hm with e1 | hm
  · exact absurd (e1 ▸ Heap.lt_size e) (Nat.lt_irrefl _)
  · cases hm
theorem sum_intTup {Q : Value → Shared → Prop} (hh : A.handled = none) (hl : s.heap.IsTuple l (intItems xs))
    (h : ∀ h' tk t', (∀ b o, s.heap.get? b = some o → h'.get? b = some o) → Q (.int (preSum (numAt xs) xs.size) t') { s with heap := h', toks := tk }) :
    wpAny (model prog w) A (call (.builtin "sum") [.ref l]) Q E s := by
  refine call_sum_walkG (iter_intTup hl fun s₂ e st hfp hlI => ?_)
  subst e
  refine ⟨_, _, _, _, _, _, numAt xs, rfl, Walks.tuple (A := A.in1) hh _ l hlI (intItems xs), st, hfp, (fun _ _ => intItems_at), fun h' tk t' hk => ?_⟩
  have := h h' tk t' (old_keptT hk)
  simpa [intItems] using this
theorem max_intTup {Q : Value → Shared → Prop} (hh : A.handled = none) (hl : s.heap.IsTuple l (intItems xs)) (hne : 0 < xs.size)
    (h : ∀ v h' tk, (intItems xs)[argBest (fun i j => decide (numAt xs i > numAt xs j)) (xs.size - 1)]? = some v → (∀ b o, s.heap.get? b = some o → h'.get? b = some o) → Q v { s with heap := h', toks := tk }) :
    wpAny (model prog w) A (call (.builtin "max") [.ref l]) Q E s := by
  refine call_max_walk (iter_intTup hl fun s₂ e st hfp hlI => ?_)
  subst e
  refine ⟨_, _, _, _, _, _, _, rfl, Walks.tuple (A := A.in1) hh _ l hlI (intItems xs), st, hfp, by simpa [intItems] using hne, CmpOf.ints_gt (numAt xs) (fun _ _ => intItems_at), fun v h' tk hP hk => ?_⟩
  exact h v h' tk (by simpa [intItems] using hP) (old_keptT hk)
theorem min_intTup {Q : Value → Shared → Prop} (hh : A.handled = none) (hl : s.heap.IsTuple l (intItems xs)) (hne : 0 < xs.size)
    (h : ∀ v h' tk, (intItems xs)[argBest (fun i j => decide (numAt xs i < numAt xs j)) (xs.size - 1)]? = some v → (∀ b o, s.heap.get? b = some o → h'.get? b = some o) → Q v { s with heap := h', toks := tk }) :
    wpAny (model prog w) A (call (.builtin "min") [.ref l]) Q E s := by
  refine call_min_walk (iter_intTup hl fun s₂ e st hfp hlI => ?_)
  subst e
  refine ⟨_, _, _, _, _, _, _, rfl, Walks.tuple (A := A.in1) hh _ l hlI (intItems xs), st, hfp, by simpa [intItems] using hne, CmpOf.ints_lt (numAt xs) (fun _ _ => intItems_at), fun v h' tk hP hk => ?_⟩
  exact h v h' tk (by simpa [intItems] using hP) (old_keptT hk)
end
end Mv
end

section
set_option Elab.async false
set_option linter.all false
set_option maxRecDepth 100000
set_option maxHeartbeats 2000000
/-! MvB: more rules. -/
namespace Mv
open PySem PySem.Spec PyProof.Rows L2 RZ
section
variable {X : Cx}
/-- sum(t), min(t), max(t), t a tuple of ints -/
def rSumT (K : PySem.W.Frag) : List V → Hp → VK → Prop := fun vs H Q => ∃ (a : Addr) (ns : List Int), vs = [V.ref a] ∧ SqT K H a (ns.map V.int) ∧ Q (.int ns.sum) H
def rMaxT (K : PySem.W.Frag) : List V → Hp → VK → Prop := fun vs H Q => ∃ (a : Addr) (ns : List Int), vs = [V.ref a] ∧ SqT K H a (ns.map V.int) ∧ 0 < ns.length ∧ ∀ m, m ∈ ns → (∀ y, y ∈ ns → y ≤ m) → Q (.int m) H
def rMinT (K : PySem.W.Frag) : List V → Hp → VK → Prop := fun vs H Q => ∃ (a : Addr) (ns : List Int), vs = [V.ref a] ∧ SqT K H a (ns.map V.int) ∧ 0 < ns.length ∧ ∀ m, m ∈ ns → (∀ y, y ∈ ns → m ≤ y) → Q (.int m) H
theorem cr_sumT (hc : X.calm = true) : CallR X (.builtin "sum") (rSumT X.K) := by
  intro pins s σ H vs us Q I r h
  obtain ⟨a, ns, rfl, hs, q⟩ := h
  obtain ⟨its, rv, hl, _⟩ := I.tuple hs
  rw [Vals.ref1 r]
  have hi : IntsAre its ns := rv.ints
  obtain ⟨xs, e⟩ := hi.allInts.items
  have hn : numsOf (intItems xs).toList = ns := by rw [← e]; exact hi.numsOf
  rw [nums_intItems] at hn
  rw [e] at hl
  refine sum_intTup (I.ok.hd hc) hl fun h' tk t' hk => ?_
  rw [preSum_eq, List.take_of_length_le (by simp), hn]
  exact ⟨.int _, H, I.kept hk, ⟨_, rfl⟩, q⟩
theorem cr_maxT (hc : X.calm = true) : CallR X (.builtin "max") (rMaxT X.K) := by
  intro pins s σ H vs us Q I r h
  obtain ⟨a, ns, rfl, hs, hne, q⟩ := h
  obtain ⟨its, rv, hl, _⟩ := I.tuple hs
  rw [Vals.ref1 r]
  have hi : IntsAre its ns := rv.ints
  obtain ⟨xs, e⟩ := hi.allInts.items
  have hn : numsOf (intItems xs).toList = ns := by rw [← e]; exact hi.numsOf
  rw [nums_intItems] at hn
  subst hn
  rw [e] at hl
  have hsz : 0 < xs.size := by simpa using hne
  refine max_intTup (I.ok.hd hc) hl hsz fun v h' tk hv hk => ?_
  obtain ⟨t, rfl⟩ := intItems_at hv
  obtain ⟨h1, h2⟩ := argBest_gt (numAt xs) (xs.size - 1)
  refine ⟨.int _, H, I.kept hk, ⟨_, rfl⟩, q _ ?_ fun a ha => ?_⟩
  · rw [numAt_eq]; exact PySem.getD_mem (by rw [List.length_map, Array.length_toList]; omega)
  · obtain ⟨j, hj, rfl⟩ := mem_getD ha
    rw [List.length_map, Array.length_toList] at hj
    rw [← numAt_eq]; exact h2 j (by omega)
theorem cr_minT (hc : X.calm = true) : CallR X (.builtin "min") (rMinT X.K) := by
  intro pins s σ H vs us Q I r h
  obtain ⟨a, ns, rfl, hs, hne, q⟩ := h
  obtain ⟨its, rv, hl, _⟩ := I.tuple hs
  rw [Vals.ref1 r]
  have hi : IntsAre its ns := rv.ints
  obtain ⟨xs, e⟩ := hi.allInts.items
  have hn : numsOf (intItems xs).toList = ns := by rw [← e]; exact hi.numsOf
  rw [nums_intItems] at hn
  subst hn
  rw [e] at hl
  have hsz : 0 < xs.size := by simpa using hne
  refine min_intTup (I.ok.hd hc) hl hsz fun v h' tk hv hk => ?_
  obtain ⟨t, rfl⟩ := intItems_at hv
  obtain ⟨h1, h2⟩ := argBest_lt (numAt xs) (xs.size - 1)
  refine ⟨.int _, H, I.kept hk, ⟨_, rfl⟩, q _ ?_ fun a ha => ?_⟩
  · rw [numAt_eq]; exact PySem.getD_mem (by rw [List.length_map, Array.length_toList]; omega)
  · obtain ⟨j, hj, rfl⟩ := mem_getD ha
    rw [List.length_map, Array.length_toList] at hj
    rw [← numAt_eq]; exact h2 j (by omega)

/-- x in t, t a tuple of data -/
def rInTD (K : PySem.W.Frag) : R2 := fun x y H Q => ∃ d ds, Dp K H x d ∧ Dp K H y (.tuple ds) ∧ SeqAt.shaped d = true ∧ SeqAt.shaped (.list ds) = true ∧ Q (.bl (ds.any fun z => PyData.eqv z d)) H
theorem op_inTD (hu : X.A.units + 65 < cLine) : OpR X (compareOp .In) (rInTD X.K) := by
  intro pins s σ H x y v u Q I rx ry h
  obtain ⟨d, ds, hd, he, sd, se, q⟩ := h
  obtain ⟨as, r1⟩ := Dp.reads I d x v hd rx
  obtain ⟨bs, r2⟩ := Dp.reads I (.tuple ds) y u he ry
  exact SeqAt.in_tuple_reads r2 r1 (SeqAt.canLay_of_shaped se) (SeqAt.canLay_of_shaped sd) (room_in_shaped sd hu) ⟨.bl _, H, I, rfl, q⟩
/-- t.index(x), t a tuple of data: the first place of an equal one -/
def rTIndexD (K : PySem.W.Frag) : V → List V → Hp → VK → Prop := fun x xs H Q => ∃ (a : Addr) (y : V) (d : PyData) (ds : List PyData) (j : Nat) (z : PyData), x = V.ref a ∧ xs = [y] ∧ Dp K H (V.ref a) (.tuple ds) ∧ Dp K H y d ∧
  SeqAt.shaped (.list ds) = true ∧ SeqAt.shaped d = true ∧ ds[j]? = some z ∧ PyData.eqv z d = true ∧ (∀ (m : Nat) (z' : PyData), m < j → ds[m]? = some z' → PyData.eqv z' d = false) ∧ Q (.int (j : Nat)) H
theorem mt_tindexD (hu : X.A.units + 65 < cLine) : MtR X "tuple.index" (rTIndexD X.K) := by
  intro pins s σ H x xs v us Q I r rxs h
  obtain ⟨a, y, d, ds, j, z, rfl, rfl, hl, hy, sl, sd, hz, hzj, hno, q⟩ := h
  cases r
  cases rxs with
  | cons ry rt =>
    rename_i uy ut
    cases rt
    obtain ⟨bs, r1⟩ := Dp.reads I d y uy hy ry
    have hxs : PyData.canLayAll0 ds = true := SeqAt.canLay_of_shaped sl
    have hroom : X.A.units + 1 + min (PyData.depthAll ds) d.depth < cLine := room_in_shaped sd hu
    cases hl with
    | tup hs ha =>
      obtain ⟨its, rv, ⟨⟨cls, dd, data, sls⟩, ho, hc, n, hdt⟩, hlen⟩ := I.tuple hs
      simp only at hc hdt
      subst hc hdt
      obtain ⟨as, h4⟩ := Dp.readsAll I ds _ its ha rv
      have hn : its.length = ds.length := SeqAt.ReadsAll.length ds its as h4
      have hmap : its.map (SeqAt.readOf s.heap) = ds := SeqAt.readsAll_map ds its as hxs h4
      obtain ⟨hjd, _⟩ := List.getElem?_eq_some_iff.mp hz
      have hjl : j < its.length := by omega
      have hj : j < its.toArray.size := by simpa using hjl
      have at_ : ∀ (m : Nat) (hm : m < its.toArray.size) (z' : PyData), ds[m]? = some z' → SeqAt.readOf s.heap its.toArray[m] = z' := by
        intro m hm z' hz'
        have hml : m < its.length := by simpa using hm
        rw [← hmap, List.getElem?_map, List.getElem?_eq_getElem hml] at hz'
        have e1 : SeqAt.readOf s.heap its[m] = z' := Option.some.inj (show some (SeqAt.readOf s.heap its[m]) = some z' from hz')
        simpa using e1
      have eq_at := SeqAt.items_eqAt (A := X.A) (vs := its.toArray) (show ReadsAll s.heap its.toArray.toList ds as from h4) r1 hxs (SeqAt.canLay_of_shaped sd) hroom
      refine call_meets PySem.F.slot_tuple_index ⟨_, ho, rfl⟩ PySem.F.entry_tuple_index (PySem.F.args_tuple_index_2 _ _)
        (SeqAt.tuple_index2_found a its.toArray n dd sls uy (fun m => match its.toArray[m]? with | some u => PyData.eqv (SeqAt.readOf s.heap u) d | none => false) j hj (Nat.zero_le _) hj ?_ ?_) ⟨ho, fun m hm => ?_, ?_⟩
      · show (match its.toArray[j]? with | some u => PyData.eqv (SeqAt.readOf s.heap u) d | none => false) = true
        rw [Array.getElem?_eq_getElem hj]
        show PyData.eqv (SeqAt.readOf s.heap its.toArray[j]) d = true
        rw [at_ j hj z hz]
        exact hzj
      · intro m hm _ hmj
        have hml : m < its.length := by simpa using hm
        have hmd : m < ds.length := by omega
        have hz' : ds[m]? = some ds[m] := List.getElem?_eq_getElem hmd
        show (match its.toArray[m]? with | some u => PyData.eqv (SeqAt.readOf s.heap u) d | none => false) = false
        rw [Array.getElem?_eq_getElem hm]
        show PyData.eqv (SeqAt.readOf s.heap its.toArray[m]) d = false
        rw [at_ m hm _ hz']
        exact hno m _ hmj hz'
      · show SeqAt.EqAt _ s its.toArray[m] uy (match its.toArray[m]? with | some u => PyData.eqv (SeqAt.readOf s.heap u) d | none => false)
        rw [Array.getElem?_eq_getElem hm]
        exact eq_at _ (Array.getElem_mem hm)
      · exact ⟨.int (j : Nat), H, I.tok _, ⟨_, rfl⟩, q⟩

/-- what is walked: a list or a tuple -/
def iSeq (K : PySem.W.Frag) (tl : TE) : TI := fun σ H R => tl σ H fun x H1 => ∃ a, x = .ref a ∧ (((∃ xs, SqL K H1 a xs) ∧ R (Itl K a) H1) ∨ ((∃ xs, SqT K H1 a xs) ∧ R (Itt K a) H1))
theorem pi_seq {tg l : Expr} {tl : TE} (hl : PE X l tl) : PI X tg l (iSeq X.K tl) := by
  refine ⟨fun pins s σ H R I h => ?_⟩
  refine thn (hl.run pins s σ H _ I h) fun v s1 ⟨x, H1, I1, r1, q1⟩ => ?_
  obtain ⟨a, e, q1⟩ := q1
  subst e
  cases r1
  rcases q1 with ⟨⟨xs, hq⟩, q⟩ | ⟨⟨xs, hq⟩, q⟩
  · obtain ⟨its, rv, p, hz⟩ := I1.list hq
    refine wpAny_pyIter_list p.isList ?_
    refine ⟨s1.heap.objs.size, [s1.heap.objs.size], _, _, H1, rfl, I1.kept (t' := s1.toks) fun b o e => Heap.get?_push_of_some _ e, turn_list a _, ⟨_, Heap.get?_push_size _ rfl, rfl, rfl⟩, fun b hb => ?_, q⟩
    have e : b = s1.heap.objs.size := by simpa using hb
    subst e
    exact I1.fpOk (Nat.le_refl _) (I1.hok.fresh (Nat.le_refl _))
  · obtain ⟨its, rv, p, hz⟩ := I1.tuple hq
    refine wpAny_pyIter_tuple (show s1.heap.IsTuple a its.toArray from p) ?_
    refine ⟨s1.heap.objs.size, [s1.heap.objs.size], _, _, H1, rfl, I1.kept (t' := s1.toks) fun b o e => Heap.get?_push_of_some _ e, turn_tuple a _, ⟨_, Heap.get?_push_size _ rfl, rfl, rfl⟩, fun b hb => ?_, q⟩
    have e : b = s1.heap.objs.size := by simpa using hb
    subst e
    exact I1.fpOk (Nat.le_refl _) (I1.hok.fresh (Nat.le_refl _))
end

/-! ### pairs of ints, sorted -/
def PairAt (H : Hp) (x : V) (z : Int × Int) : Prop := ∃ t, x = .ref t ∧ H t = some (.tup [.int z.1, .int z.2])
def pk (H : Hp) (x : V) : Int × Int := match x with
  | .ref t => match H t with
    | some (.tup [.int i, .int j]) => (i, j)
    | _ => (0, 0)
  | _ => (0, 0)
theorem pk_of {H : Hp} {x : V} {z : Int × Int} (h : PairAt H x z) : pk H x = z := by
  obtain ⟨t, rfl, e⟩ := h
  show (match H t with | some (.tup [.int i, .int j]) => (i, j) | _ => (0, 0)) = z
  rw [e]
theorem pk_at {H : Hp} {x : V} {z : Int × Int} (h : PairAt H x z) : PairAt H x (pk H x) := by
  rw [pk_of h]
  exact h
theorem pks_of {H : Hp} : ∀ {xs : List V} {zs : List (Int × Int)}, Paired (PairAt H) xs zs → xs.map (pk H) = zs
  | _, _, .nil => rfl
  | _, _, .cons a t => by rw [List.map_cons, pk_of a, pks_of t]
theorem paired_mem {α β : Type} {F : α → β → Prop} : ∀ {xs : List α} {zs : List β} {x : α}, Paired F xs zs → x ∈ xs → ∃ z, F x z
  | _, _, x, .nil, h => nomatch h
  | _, _, x, .cons a t, h => (List.mem_cons.mp h).elim (fun e => ⟨_, e ▸ a⟩) fun h => paired_mem t h
theorem paired_pk {H : Hp} : ∀ {ys : List V}, (∀ y ∈ ys, ∃ z, PairAt H y z) → Paired (PairAt H) ys (ys.map (pk H))
  | [], _ => .nil
  | y :: ys, h => .cons (by obtain ⟨z, hz⟩ := h y (List.mem_cons_self ..); exact pk_at hz) (paired_pk fun u hu => h u (List.mem_cons_of_mem _ hu))
theorem srtd_lex {H : Hp} {ys : List V} (h : SrtO.Srtd (ltP (pk H)) ys) : (ys.map (pk H)).Pairwise fun u v => ¬ lexZ v u := by
  refine List.pairwise_map.mpr ?_
  refine List.Pairwise.imp ?_ h
  intro a b hab
  exact SrtO.lexB_no.mp hab
def rSortP (K : PySem.W.Frag) : List V → Hp → VK → Prop := fun vs H Q => ∃ (a : Addr) (xs : List V) (zs : List (Int × Int)), vs = [V.ref a] ∧ SqL K H a xs ∧ Paired (PairAt H) xs zs ∧
  ∀ (ys : List V) (ws : List (Int × Int)) (p : Addr), Paired (PairAt H) ys ws → ws.Perm zs → ws.Pairwise (fun u v => ¬ lexZ v u) → H p = none → Q (.ref p) (upd H p (.lst ys))
section
variable {X : Cx}
theorem cr_sortP : CallR X (.builtin "sorted") (rSortP X.K) := by
  intro pins s σ H vs us Q I r h
  obtain ⟨a, xs, zs, rfl, hs, hp, q⟩ := h
  refine cr_sortedPO pins s σ H _ us Q I r ⟨a, xs, pk H, rfl, hs, fun x hx => ?_, fun ys p h1 h2 hn => ?_⟩
  · obtain ⟨z, hz⟩ := paired_mem hp hx
    obtain ⟨t, e, ht⟩ := pk_at hz
    exact ⟨t, e, ht⟩
  · refine q ys _ p (paired_pk fun y hy => ?_) ?_ (srtd_lex h1) hn
    · exact paired_mem hp (h2.perm.mem_iff.mp hy)
    · rw [← pks_of hp]
      exact h2.perm.map _
/-- sorted(d), the keys pairs of ints -/
def rSortDT : List V → Hp → VK → Prop := fun vs H Q => ∃ (d : Addr) (kvs : List (List Key × V)) (zs : List (Int × Int)), vs = [V.ref d] ∧ Rd H d (.dT kvs) ∧ kvs.map (·.1) = zs.map (fun z => [Sum.inl z.1, Sum.inl z.2]) ∧
  ∀ (ys : List V) (ws : List (Int × Int)) (p : Addr), Paired (PairAt H) ys ws → ws.Perm zs → ws.Pairwise (fun u v => ¬ lexZ v u) → H p = none → Q (.ref p) (upd H p (.lst ys))
theorem keys_pairs {H : Hp} : ∀ {kvs : List (List Key × V)} {bs : List Addr} {zs : List (Int × Int)}, IsKeys H kvs bs → kvs.map (·.1) = zs.map (fun z => [Sum.inl z.1, Sum.inl z.2]) → Paired (PairAt H) (bs.map V.ref) zs
  | _, _, [], .nil, _ => .nil
  | _, _, _ :: _, .nil, e => nomatch e
  | _, _, [], .cons _ _, e => nomatch e
  | (k, v) :: _, b :: _, z :: zs, .cons a t, e => by
    have e1 : k = [Sum.inl z.1, Sum.inl z.2] := (List.cons.inj e).1
    have a' : H b = some (.tup (k.map kV)) := a
    rw [e1] at a'
    exact .cons ⟨b, rfl, a'⟩ (keys_pairs t (List.cons.inj e).2)
theorem cr_sortDT (hc : X.calm = true) : CallR X (.builtin "sorted") rSortDT := by
  intro pins s σ H xs us Q I r h
  obtain ⟨d, kvs, zs, rfl, hd, hks, q⟩ := h
  obtain ⟨u, rfl, rx⟩ := r.one
  cases rx
  obtain ⟨z, hs, ks, pr, o, es, ep, ho, hx, hdt, he, hn⟩ := (show ObjOk X.prog X.w H s.heap d (.dT kvs) from hd.ok I.hok)
  have l1 : es.size = ks.length := size_of_entries he
  have l2 : kvs.length = ks.length := Paired.length pr
  have hP : Paired (PairAt H) ((ks.map fun x => x.2.1).map V.ref) zs := keys_pairs (isKeys_of pr) hks
  refine Calls.call_function_entry PyProof.Rows.kind_sorted PyProof.Rows.plain_sorted PyProof.Rows.entry_sorted (PyProof.Rows.args_sorted1 _) ?_
  unfold Builtin.«sorted»
  refine wpAny_bind (m := checkCount "sorted" 1 1 _) (wpAny_pure ?_)
  refine wpAny_bind (PySem.W.kdu_collect (A := X.A.in1) (kdl_raw hs hx hdt) (I.ok.hd hc) ho (by omega) fun h' tk acc kp it => ?_)
  have ea : acc.toList = (ks.map fun x => x.2.1).map Value.ref := by
    have hl : acc.toList.length = ks.length := by rw [Array.length_toList, it.1]; exact l1
    apply List.ext_getElem?
    intro j
    rw [List.getElem?_map, List.getElem?_map]
    cases hj : acc.toList[j]? with
    | none =>
      have h1 := List.getElem?_eq_none_iff.mp hj
      rw [List.getElem?_eq_none (by omega)]
      all_goals rfl
    | some v =>
      obtain ⟨en, hen, hv⟩ := it.2 j v (by rw [← Array.getElem?_toList]; exact hj)
      have qe := entry_at he j
      rw [hen] at qe
      cases hb : ks[j]? with
      | none =>
        rw [hb] at qe
        exact nomatch (show some en = none from qe)
      | some b =>
        rw [hb] at qe
        have e2 : en = entryOfKey (tupleKind (mixKind X.prog X.w)) b := Option.some.inj qe
        rw [hv, e2]
        all_goals rfl
  have hlen : acc.toList.length = ks.length := by rw [ea, List.length_map, List.length_map]
  have I1 : Inv X pins σ H { s with heap := h', toks := tk } := I.kept kp
  refine wpAny_bind (wpAny_newList ?_ (by rw [hlen]; omega))
  have hoL : (h'.push (seqObj "list" acc.toList.toArray 0)).get? h'.objs.size = some (seqObj "list" acc.toList.toArray 0) := Heap.get?_push_size _ rfl
  show wpAny _ _ _ _ _ { s with heap := h'.push (seqObj "list" acc.toList.toArray 0), toks := tk }
  -- each item is a pair
  have hpair : ∀ v ∈ acc.toList, Srt.IsPair (h'.push (seqObj "list" acc.toList.toArray 0)) v (pk H (backV v)).1 (pk H (backV v)).2 := by
    intro v hv
    rw [ea] at hv
    obtain ⟨b, hb, rfl⟩ := List.mem_map.mp hv
    obtain ⟨z, hz⟩ := paired_mem hP (List.mem_map.mpr ⟨b, hb, rfl⟩)
    obtain ⟨t, et, ht⟩ := pk_at hz
    cases et
    obtain ⟨_, its2, r2, o2, ho2, hc2, n2, hd2⟩ := I1.hok _ _ ht
    obtain ⟨u1, u2, rfl, ri, rj⟩ := vals2 r2
    obtain ⟨t1, rfl⟩ := ri
    obtain ⟨t2, rfl⟩ := rj
    exact ⟨b, o2, t1, t2, n2, rfl, Heap.get?_push_of_some _ ho2, hc2, hd2⟩
  refine wpAny_bind (wpAny_holding (wpAny_call_entry PyProof.Rows.slot_list_sort ⟨_, hoL, rfl⟩ PyProof.Rows.entry_list_sort
    (SrtO.list_sort_ord (s := { s with heap := h'.push (seqObj "list" acc.toList.toArray 0), toks := tk }) (SrtO.swo_lex (fun u => pk H (backV u))) hoL (by rw [hlen]; omega)
      (fun h2 => SrtO.pairs_sortableO (by omega) hpair fun o e => by
        have e' : some o = some (seqObj "list" acc.toList.toArray 0) := e.symm.trans hoL
        cases e'
        intro c
        exact absurd (Value.type.inj c) (by decide)) fun out g2 g3 => ⟨_, rfl, ?_⟩) (PyProof.Rows.args_list_sort _)))
  obtain ⟨e', he'⟩ := PyProof.Rows.sortedHeap_at (vs := acc.toList) (out := out.toArray) hoL
  have hrefs : ∀ u ∈ out, ∃ a, u = Value.ref a := fun u hu => by
    have hm := g3.perm.mem_iff.mp hu
    rw [ea] at hm
    obtain ⟨b, _, rfl⟩ := List.mem_map.mp hm
    exact ⟨b, rfl⟩
  have hback : ∀ u ∈ out, ∃ z, PairAt H (backV u) z := fun u hu => by
    have hm := g3.perm.mem_iff.mp hu
    rw [ea] at hm
    obtain ⟨b, hb, rfl⟩ := List.mem_map.mp hm
    exact paired_mem hP (List.mem_map.mpr ⟨b, hb, rfl⟩)
  have hol : out.length = ks.length := by rw [g3.len]; exact hlen
  have hz2 : (out.map backV).length ≤ sizeLine := by rw [List.length_map, hol]; omega
  refine wpAny_pure ⟨_, rfl, .ref h'.objs.size, upd H h'.objs.size (.lst (out.map backV)), I1.laid (t' := tk) (fun b u e => ?_) (Nat.le_refl _)
    (show ObjOk X.prog X.w _ _ _ (.lst (out.map backV)) from ⟨hz2, out, e', vals_back hrefs, he'⟩), rfl, q (out.map backV) ((out.map backV).map (pk H)) _ (paired_pk fun y hy => ?_) ?_ ?_ (I1.hok.fresh (Nat.le_refl _))⟩
  · have hb : b < h'.objs.size := Heap.lt_size e
    rw [PyProof.Rows.sortedHeap_old (Nat.ne_of_lt hb) (by rw [size_push']; exact Nat.lt_succ_of_lt hb)]
    exact Heap.get?_push_of_some _ e
  · obtain ⟨u, hu, rfl⟩ := List.mem_map.mp hy
    exact hback u hu
  · rw [← pks_of hP]
    have e1 : ((ks.map fun x => x.2.1).map V.ref) = acc.toList.map backV := by
      rw [ea, List.map_map, List.map_map, List.map_map]
      all_goals rfl
    rw [e1]
    exact (g3.perm.map backV).map (pk H)
  · rw [List.map_map]
    refine List.pairwise_map.mpr ?_
    refine List.Pairwise.imp ?_ g2
    intro a b hab
    exact SrtO.lexB_no.mp hab
end
end Mv
end

section
set_option Elab.async false
set_option linter.all false
set_option maxRecDepth 100000
set_option maxHeartbeats 2000000
/-! MvC: how a def is proved; what the top has written. -/
namespace Mv
open PySem PySem.Spec PyProof.Rows L2 RZ
structure DefOk (K : PySem.W.Frag) (mg : Str → Option Value) (x : Str) (st : Stmt) : Prop where
  ex : ∃ (f : Addr) (fd : FuncData), Fun K x x st f fd ∧ mg x = some (.ref f)
theorem def_mk {K : PySem.W.Frag} {mg : Str → Option Value} {h : Heap} (X : K.In h) (G : h.Ns mainGlobals mg) {x : Str} {st : Stmt} {f : Addr} {oc : Value} {od an : Option Addr} {osl : Array (Option Value)} {kV doc pm cdv ct : Value}
    (a : PySem.W.nsIn K mainGlobals x = some (some (.ref f))) (l : K.lookup f = some ⟨oc, od, .func (PySem.W.fnOf x x (defArgs st) (defBody st) (defScope st) .none kV doc pm an cdv ct), osl⟩)
    (c : PySem.W.codeIn K cdv x = true) (k : PySem.W.keepIn K (.ref f) = true) : DefOk K mg x st := ⟨f, _, fun_mk l c k, PySem.W.mg_of X G a⟩
theorem use_def {K : PySem.W.Frag} {mg : Str → Option Value} {h : Heap} (X : K.In h) (G : h.Ns mainGlobals mg) {x : Str} {st : Stmt} {f : Addr} {oc : Value} {od an : Option Addr} {osl : Array (Option Value)} {kV doc pm cdv ct : Value}
    (a : PySem.W.nsIn K mainGlobals x = some (some (.ref f))) (l : K.lookup f = some ⟨oc, od, .func (PySem.W.fnOf x x (defArgs st) (defBody st) (defScope st) .none kV doc pm an cdv ct), osl⟩)
    (c : PySem.W.codeIn K cdv x = true) (k : PySem.W.keepIn K (.ref f) = true) {C : Prop} (z : DefOk K mg x st → C) : C := z (def_mk X G a l c k)
section
variable {P : Program} {w : World} {K : PySem.W.Frag} {mg : Str → Option Value} {base : Heap}
theorem cl_of {x : Str} {st : Stmt} {N ps : List Str} {k : Nat} {sp : Sp} (D : DefOk K mg x st)
    (hb : ∀ (kV doc pm : Value) (an : Option Addr) (cdv ct : Value) (us : List Value), us.length = ps.length → bindArgs (PySem.W.fnOf x x (defArgs st) (defBody st) (defScope st) .none kV doc pm an cdv ct) ⟨us, []⟩ = pure (ps.zip us))
    (S : FnScope N ps (defScope st)) (len : ∀ vs H Q E, sp vs H Q E → vs.length = ps.length)
    (hbody : ∀ (f : Addr) (cdv : Value) (A : Around) (outer : List Env) (s : Shared) (H : Hp) (vs : List V) (Q : VK) (E : XK), Room k (A.deeper (envOfC x (defScope st) s.heap.objs.size f cdv)) → sp vs H Q E →
      ∃ t, PSs (cxOf CX0 P w K mg base N x (defScope st) f cdv A outer s H E).nox (defBody st) t ∧ t { nx := fun _ H' => Q .non H', rt := Q } (start N vs) H) : Cl P w K mg base (k + 1) x ps sp := by
  obtain ⟨f, fd, F, hm⟩ := D.ex
  exact ⟨f, fd, F.ok S len (fun cdv A outer s H vs Q E => hbody f cdv A outer s H vs Q E), hm, F.kp, F.binds hb⟩
end

/-! ### data -/
def dT (t : T3) : PyData := .tuple [.int t.1, .int t.2.1, .int t.2.2]
def dP (t : Int × Int) : PyData := .tuple [.int t.1, .int t.2]
def dS (s : Stand) : PyData := .tuple [dT s.1, dT s.2.1, dT s.2.2.1, dT s.2.2.2]
/-- a tuple of the written part -/
def KTup (K : PySem.W.Frag) (a : Addr) (xs : List V) : Prop := ∃ (o : Obj) (its : List Value) (n : Nat), K.lookup a = some o ∧ o.cls = .type "tuple" ∧ o.dict = none ∧ o.data = .seq its.toArray n ∧ its.length ≤ sizeLine ∧ Vals xs its
theorem KTup.sq {K : PySem.W.Frag} {a : Addr} {xs : List V} (h : KTup K a xs) (H : Hp) : SqT K H a xs := by
  obtain ⟨o, its, n, h1, h2, _, h3, h4, h5⟩ := h
  exact .inr ⟨o, its.toArray, n, h1, h2, h3, by simpa using h4, by simpa using h5⟩
theorem KTup.ty {K : PySem.W.Frag} {a : Addr} {xs : List V} (h : KTup K a xs) : ∃ o, K.lookup a = some o ∧ o.cls = .type "tuple" ∧ o.dict = none := by
  obtain ⟨o, its, n, h1, h2, h3, _⟩ := h
  exact ⟨o, h1, h2, h3⟩
theorem ktup3 {K : PySem.W.Frag} {a : Addr} {i j k : Int} {t u v : Tok} {n : Nat} {sl : Array (Option Value)} (h : K.lookup a = some ⟨.type "tuple", none, .seq #[.int i t, .int j u, .int k v] n, sl⟩) : KTup K a [.int i, .int j, .int k] :=
  ⟨_, [.int i t, .int j u, .int k v], n, h, rfl, rfl, rfl, by show 3 ≤ sizeLine; decide, .cons ⟨_, rfl⟩ (.cons ⟨_, rfl⟩ (.cons ⟨_, rfl⟩ .nil))⟩
theorem ktup6 {K : PySem.W.Frag} {a : Addr} {i j k i' j' k' : Int} {t u v t' u' v' : Tok} {n : Nat} {sl : Array (Option Value)} (h : K.lookup a = some ⟨.type "tuple", none, .seq #[.int i t, .int j u, .int k v, .int i' t', .int j' u', .int k' v'] n, sl⟩) : KTup K a [.int i, .int j, .int k, .int i', .int j', .int k'] :=
  ⟨_, [.int i t, .int j u, .int k v, .int i' t', .int j' u', .int k' v'], n, h, rfl, rfl, rfl, by show 6 ≤ sizeLine; decide, .cons ⟨_, rfl⟩ (.cons ⟨_, rfl⟩ (.cons ⟨_, rfl⟩ (.cons ⟨_, rfl⟩ (.cons ⟨_, rfl⟩ (.cons ⟨_, rfl⟩ .nil)))))⟩
theorem ktupR4 {K : PySem.W.Frag} {a b c d e : Addr} {n : Nat} {sl : Array (Option Value)} (h : K.lookup a = some ⟨.type "tuple", none, .seq #[.ref b, .ref c, .ref d, .ref e] n, sl⟩) : KTup K a [.ref b, .ref c, .ref d, .ref e] :=
  ⟨_, [.ref b, .ref c, .ref d, .ref e], n, h, rfl, rfl, rfl, by show 4 ≤ sizeLine; decide, .cons rfl (.cons rfl (.cons rfl (.cons rfl .nil)))⟩
theorem ktupR6 {K : PySem.W.Frag} {a b c d e f g : Addr} {n : Nat} {sl : Array (Option Value)} (h : K.lookup a = some ⟨.type "tuple", none, .seq #[.ref b, .ref c, .ref d, .ref e, .ref f, .ref g] n, sl⟩) : KTup K a [.ref b, .ref c, .ref d, .ref e, .ref f, .ref g] :=
  ⟨_, [.ref b, .ref c, .ref d, .ref e, .ref f, .ref g], n, h, rfl, rfl, rfl, by show 6 ≤ sizeLine; decide, .cons rfl (.cons rfl (.cons rfl (.cons rfl (.cons rfl (.cons rfl .nil)))))⟩
theorem dp3 {K : PySem.W.Frag} {H : Hp} {a : Addr} {i j k : Int} (h : SqT K H a [.int i, .int j, .int k]) : Dp K H (.ref a) (dT (i, j, k)) :=
  .tup h (.cons (.int i) (.cons (.int j) (.cons (.int k) .nil)))
/-- what the top has written -/
structure Txt (K : PySem.W.Frag) (mg : Str → Option Value) where
  a_RING : Addr
  a_ACROSS : Addr
  a_HOME : Addr
  g_RING : mg "RING" = some (.ref a_RING)
  g_ACROSS : mg "ACROSS" = some (.ref a_ACROSS)
  g_HOME : mg "HOME" = some (.ref a_HOME)
  t_RING : ∃ vs, KTup K a_RING vs
  d_RING : ∀ H, Dp K H (.ref a_RING) (.tuple (ring.map dT))
  d_ACROSS : KTup K a_ACROSS (across.map V.int)
  d_HOME : ∀ H, Dp K H (.ref a_HOME) (dS homeS)
  g_MOST : ∃ t, mg "MOST" = some (.int 2000 t)
  g_gcd : mg "gcd" = some (.builtin "math.gcd")
  z_isinstance : mg "isinstance" = none
  z_int : mg "int" = none
  z_bool : mg "bool" = none
  z_tuple : mg "tuple" = none
  z_list : mg "list" = none
  z_str : mg "str" = none
  z_set : mg "set" = none
  z_len : mg "len" = none
  z_all : mg "all" = none
  z_sum : mg "sum" = none
  z_min : mg "min" = none
  z_max : mg "max" = none
  z_abs : mg "abs" = none
  z_sorted : mg "sorted" = none
  z_range : mg "range" = none
  z_zip : mg "zip" = none
  z_enumerate : mg "enumerate" = none
theorem txt_mk {K : PySem.W.Frag} {mg : Str → Option Value} {h : Heap} (X : K.In h) (G : h.Ns mainGlobals mg)
    {aR aX aH r0 r1 r2 r3 r4 r5 h0 h1 h2 h3 : Addr} {nR nH n0 n1 n2 n3 n4 n5 m0 m1 m2 m3 nX : Nat} {sR sH s0 s1 s2 s3 s4 s5 u0 u1 u2 u3 sX : Array (Option Value)}
    {tM a0 b0 c0 a1 b1 c1 a2 b2 c2 a3 b3 c3 a4 b4 c4 a5 b5 c5 d0 e0 f0 d1 e1 f1 d2 e2 f2 d3 e3 f3 x0 x1 x2 x3 x4 x5 : Tok}
    (gR : PySem.W.nsIn K mainGlobals "RING" = some (some (.ref aR))) (gX : PySem.W.nsIn K mainGlobals "ACROSS" = some (some (.ref aX))) (gH : PySem.W.nsIn K mainGlobals "HOME" = some (some (.ref aH)))
    (kR : K.lookup aR = some ⟨.type "tuple", none, .seq #[.ref r0, .ref r1, .ref r2, .ref r3, .ref r4, .ref r5] nR, sR⟩)
    (k0 : K.lookup r0 = some ⟨.type "tuple", none, .seq #[.int 0 a0, .int 1 b0, .int 2 c0] n0, s0⟩)
    (k1 : K.lookup r1 = some ⟨.type "tuple", none, .seq #[.int 2 a1, .int 1 b1, .int 0 c1] n1, s1⟩)
    (k2 : K.lookup r2 = some ⟨.type "tuple", none, .seq #[.int 2 a2, .int 0 b2, .int 1 c2] n2, s2⟩)
    (k3 : K.lookup r3 = some ⟨.type "tuple", none, .seq #[.int 1 a3, .int 0 b3, .int 2 c3] n3, s3⟩)
    (k4 : K.lookup r4 = some ⟨.type "tuple", none, .seq #[.int 1 a4, .int 2 b4, .int 0 c4] n4, s4⟩)
    (k5 : K.lookup r5 = some ⟨.type "tuple", none, .seq #[.int 0 a5, .int 2 b5, .int 1 c5] n5, s5⟩)
    (kX : K.lookup aX = some ⟨.type "tuple", none, .seq #[.int 1 x0, .int 2 x1, .int 0 x2, .int 1 x3, .int 2 x4, .int 0 x5] nX, sX⟩)
    (kH : K.lookup aH = some ⟨.type "tuple", none, .seq #[.ref h0, .ref h1, .ref h2, .ref h3] nH, sH⟩)
    (j0 : K.lookup h0 = some ⟨.type "tuple", none, .seq #[.int 0 d0, .int 1 e0, .int 2 f0] m0, u0⟩)
    (j1 : K.lookup h1 = some ⟨.type "tuple", none, .seq #[.int 0 d1, .int 0 e1, .int 0 f1] m1, u1⟩)
    (j2 : K.lookup h2 = some ⟨.type "tuple", none, .seq #[.int 0 d2, .int 0 e2, .int 0 f2] m2, u2⟩)
    (j3 : K.lookup h3 = some ⟨.type "tuple", none, .seq #[.int 1 d3, .int 1 e3, .int 1 f3] m3, u3⟩)
    (gM : PySem.W.nsIn K mainGlobals "MOST" = some (some (.int 2000 tM))) (gg : PySem.W.nsIn K mainGlobals "gcd" = some (some (.builtin "math.gcd")))
    (z1 : PySem.W.nsIn K mainGlobals "isinstance" = some none) (z2 : PySem.W.nsIn K mainGlobals "int" = some none) (z3 : PySem.W.nsIn K mainGlobals "bool" = some none) (z4 : PySem.W.nsIn K mainGlobals "tuple" = some none) (z5 : PySem.W.nsIn K mainGlobals "list" = some none) (z6 : PySem.W.nsIn K mainGlobals "str" = some none)
    (z7 : PySem.W.nsIn K mainGlobals "set" = some none) (z8 : PySem.W.nsIn K mainGlobals "len" = some none) (z9 : PySem.W.nsIn K mainGlobals "all" = some none) (z10 : PySem.W.nsIn K mainGlobals "sum" = some none) (z11 : PySem.W.nsIn K mainGlobals "min" = some none) (z12 : PySem.W.nsIn K mainGlobals "max" = some none)
    (z13 : PySem.W.nsIn K mainGlobals "abs" = some none) (z14 : PySem.W.nsIn K mainGlobals "sorted" = some none) (z15 : PySem.W.nsIn K mainGlobals "range" = some none) (z16 : PySem.W.nsIn K mainGlobals "zip" = some none) (z17 : PySem.W.nsIn K mainGlobals "enumerate" = some none) : Nonempty (Txt K mg) := by
  refine ⟨⟨aR, aX, aH, PySem.W.mg_of X G gR, PySem.W.mg_of X G gX, PySem.W.mg_of X G gH, ⟨_, ktupR6 kR⟩, fun H => ?_, ktup6 kX, fun H => ?_, ⟨_, PySem.W.mg_of X G gM⟩, PySem.W.mg_of X G gg, PySem.W.mg_none_of X G z1, PySem.W.mg_none_of X G z2, PySem.W.mg_none_of X G z3, PySem.W.mg_none_of X G z4, PySem.W.mg_none_of X G z5, PySem.W.mg_none_of X G z6, PySem.W.mg_none_of X G z7, PySem.W.mg_none_of X G z8, PySem.W.mg_none_of X G z9, PySem.W.mg_none_of X G z10, PySem.W.mg_none_of X G z11, PySem.W.mg_none_of X G z12, PySem.W.mg_none_of X G z13, PySem.W.mg_none_of X G z14, PySem.W.mg_none_of X G z15, PySem.W.mg_none_of X G z16, PySem.W.mg_none_of X G z17⟩⟩
  · exact .tup ((ktupR6 kR).sq H) (.cons (dp3 ((ktup3 k0).sq H)) (.cons (dp3 ((ktup3 k1).sq H)) (.cons (dp3 ((ktup3 k2).sq H)) (.cons (dp3 ((ktup3 k3).sq H)) (.cons (dp3 ((ktup3 k4).sq H)) (.cons (dp3 ((ktup3 k5).sq H)) .nil))))))
  · exact .tup ((ktupR4 kH).sq H) (.cons (dp3 ((ktup3 j0).sq H)) (.cons (dp3 ((ktup3 j1).sq H)) (.cons (dp3 ((ktup3 j2).sq H)) (.cons (dp3 ((ktup3 j3).sq H)) .nil))))
theorem use_txt {K : PySem.W.Frag} {mg : Str → Option Value} {h : Heap} (X : K.In h) (G : h.Ns mainGlobals mg)
    {aR aX aH r0 r1 r2 r3 r4 r5 h0 h1 h2 h3 : Addr} {nR nH n0 n1 n2 n3 n4 n5 m0 m1 m2 m3 nX : Nat} {sR sH s0 s1 s2 s3 s4 s5 u0 u1 u2 u3 sX : Array (Option Value)}
    {tM a0 b0 c0 a1 b1 c1 a2 b2 c2 a3 b3 c3 a4 b4 c4 a5 b5 c5 d0 e0 f0 d1 e1 f1 d2 e2 f2 d3 e3 f3 x0 x1 x2 x3 x4 x5 : Tok}
    (gR : PySem.W.nsIn K mainGlobals "RING" = some (some (.ref aR))) (gX : PySem.W.nsIn K mainGlobals "ACROSS" = some (some (.ref aX))) (gH : PySem.W.nsIn K mainGlobals "HOME" = some (some (.ref aH)))
    (kR : K.lookup aR = some ⟨.type "tuple", none, .seq #[.ref r0, .ref r1, .ref r2, .ref r3, .ref r4, .ref r5] nR, sR⟩)
    (k0 : K.lookup r0 = some ⟨.type "tuple", none, .seq #[.int 0 a0, .int 1 b0, .int 2 c0] n0, s0⟩)
    (k1 : K.lookup r1 = some ⟨.type "tuple", none, .seq #[.int 2 a1, .int 1 b1, .int 0 c1] n1, s1⟩)
    (k2 : K.lookup r2 = some ⟨.type "tuple", none, .seq #[.int 2 a2, .int 0 b2, .int 1 c2] n2, s2⟩)
    (k3 : K.lookup r3 = some ⟨.type "tuple", none, .seq #[.int 1 a3, .int 0 b3, .int 2 c3] n3, s3⟩)
    (k4 : K.lookup r4 = some ⟨.type "tuple", none, .seq #[.int 1 a4, .int 2 b4, .int 0 c4] n4, s4⟩)
    (k5 : K.lookup r5 = some ⟨.type "tuple", none, .seq #[.int 0 a5, .int 2 b5, .int 1 c5] n5, s5⟩)
    (kX : K.lookup aX = some ⟨.type "tuple", none, .seq #[.int 1 x0, .int 2 x1, .int 0 x2, .int 1 x3, .int 2 x4, .int 0 x5] nX, sX⟩)
    (kH : K.lookup aH = some ⟨.type "tuple", none, .seq #[.ref h0, .ref h1, .ref h2, .ref h3] nH, sH⟩)
    (j0 : K.lookup h0 = some ⟨.type "tuple", none, .seq #[.int 0 d0, .int 1 e0, .int 2 f0] m0, u0⟩)
    (j1 : K.lookup h1 = some ⟨.type "tuple", none, .seq #[.int 0 d1, .int 0 e1, .int 0 f1] m1, u1⟩)
    (j2 : K.lookup h2 = some ⟨.type "tuple", none, .seq #[.int 0 d2, .int 0 e2, .int 0 f2] m2, u2⟩)
    (j3 : K.lookup h3 = some ⟨.type "tuple", none, .seq #[.int 1 d3, .int 1 e3, .int 1 f3] m3, u3⟩)
    (gM : PySem.W.nsIn K mainGlobals "MOST" = some (some (.int 2000 tM))) (gg : PySem.W.nsIn K mainGlobals "gcd" = some (some (.builtin "math.gcd")))
    (z1 : PySem.W.nsIn K mainGlobals "isinstance" = some none) (z2 : PySem.W.nsIn K mainGlobals "int" = some none) (z3 : PySem.W.nsIn K mainGlobals "bool" = some none) (z4 : PySem.W.nsIn K mainGlobals "tuple" = some none) (z5 : PySem.W.nsIn K mainGlobals "list" = some none) (z6 : PySem.W.nsIn K mainGlobals "str" = some none)
    (z7 : PySem.W.nsIn K mainGlobals "set" = some none) (z8 : PySem.W.nsIn K mainGlobals "len" = some none) (z9 : PySem.W.nsIn K mainGlobals "all" = some none) (z10 : PySem.W.nsIn K mainGlobals "sum" = some none) (z11 : PySem.W.nsIn K mainGlobals "min" = some none) (z12 : PySem.W.nsIn K mainGlobals "max" = some none)
    (z13 : PySem.W.nsIn K mainGlobals "abs" = some none) (z14 : PySem.W.nsIn K mainGlobals "sorted" = some none) (z15 : PySem.W.nsIn K mainGlobals "range" = some none) (z16 : PySem.W.nsIn K mainGlobals "zip" = some none) (z17 : PySem.W.nsIn K mainGlobals "enumerate" = some none) {C : Prop} (z : Txt K mg → C) : C := by
  obtain ⟨T⟩ := txt_mk X G gR gX gH kR k0 k1 k2 k3 k4 k5 kX kH j0 j1 j2 j3 gM gg z1 z2 z3 z4 z5 z6 z7 z8 z9 z10 z11 z12 z13 z14 z15 z16 z17
  exact z T
end Mv
end

section
set_option Elab.async false
set_option linter.all false
set_option maxRecDepth 100000
set_option maxHeartbeats 2000000
/-! MvS: the defs by place, their names, their scopes. -/
namespace Mv
open PySem PySem.Spec PyProof.Rows L2 RZ
abbrev s_is_number : Stmt := topS 5
abbrev N_is_number : List Str := ["thing"]
abbrev P_is_number : List Str := ["thing"]
theorem sc_is_number : FnScope N_is_number P_is_number (defScope s_is_number) := ⟨rfl, rfl, rfl, by decide +kernel, rfl, by decide +kernel, by decide +kernel⟩
abbrev s_is_from : Stmt := topS 6
abbrev N_is_from : List Str := ["thing", "least"]
abbrev P_is_from : List Str := ["thing", "least"]
theorem sc_is_from : FnScope N_is_from P_is_from (defScope s_is_from) := ⟨rfl, rfl, rfl, by decide +kernel, rfl, by decide +kernel, by decide +kernel⟩
abbrev s_is_long : Stmt := topS 7
abbrev N_is_long : List Str := ["thing", "length"]
abbrev P_is_long : List Str := ["thing", "length"]
theorem sc_is_long : FnScope N_is_long P_is_long (defScope s_is_long) := ⟨rfl, rfl, rfl, by decide +kernel, rfl, by decide +kernel, by decide +kernel⟩
abbrev s_tupled : Stmt := topS 8
abbrev N_tupled : List Str := ["value", "own"]
abbrev P_tupled : List Str := ["value"]
theorem sc_tupled : FnScope N_tupled P_tupled (defScope s_tupled) := ⟨rfl, rfl, rfl, by decide +kernel, rfl, by decide +kernel, by decide +kernel⟩
abbrev s_set_of : Stmt := topS 9
abbrev N_set_of : List Str := ["row"]
abbrev P_set_of : List Str := ["row"]
theorem sc_set_of : FnScope N_set_of P_set_of (defScope s_set_of) := ⟨rfl, rfl, rfl, by decide +kernel, rfl, by decide +kernel, by decide +kernel⟩
abbrev s_are_numbers : Stmt := topS 10
abbrev N_are_numbers : List Str := ["thing", "own"]
abbrev P_are_numbers : List Str := ["thing"]
theorem sc_are_numbers : FnScope N_are_numbers P_are_numbers (defScope s_are_numbers) := ⟨rfl, rfl, rfl, by decide +kernel, rfl, by decide +kernel, by decide +kernel⟩
abbrev s_is_chest : Stmt := topS 14
abbrev N_is_chest : List Str := ["thing", "own"]
abbrev P_is_chest : List Str := ["thing"]
theorem sc_is_chest : FnScope N_is_chest P_is_chest (defScope s_is_chest) := ⟨rfl, rfl, rfl, by decide +kernel, rfl, by decide +kernel, by decide +kernel⟩
abbrev s_sure_chest : Stmt := topS 15
abbrev N_sure_chest : List Str := ["chest", "own"]
abbrev P_sure_chest : List Str := ["chest"]
theorem sc_sure_chest : FnScope N_sure_chest P_sure_chest (defScope s_sure_chest) := ⟨rfl, rfl, rfl, by decide +kernel, rfl, by decide +kernel, by decide +kernel⟩
abbrev s_is_shape : Stmt := topS 16
abbrev N_is_shape : List Str := ["thing", "own"]
abbrev P_is_shape : List Str := ["thing"]
theorem sc_is_shape : FnScope N_is_shape P_is_shape (defScope s_is_shape) := ⟨rfl, rfl, rfl, by decide +kernel, rfl, by decide +kernel, by decide +kernel⟩
abbrev s_sure_shape : Stmt := topS 17
abbrev N_sure_shape : List Str := ["shape", "own"]
abbrev P_sure_shape : List Str := ["shape"]
theorem sc_sure_shape : FnScope N_sure_shape P_sure_shape (defScope s_sure_shape) := ⟨rfl, rfl, rfl, by decide +kernel, rfl, by decide +kernel, by decide +kernel⟩
abbrev s_place_in : Stmt := topS 18
abbrev N_place_in : List Str := ["shape"]
abbrev P_place_in : List Str := ["shape"]
theorem sc_place_in : FnScope N_place_in P_place_in (defScope s_place_in) := ⟨rfl, rfl, rfl, by decide +kernel, rfl, by decide +kernel, by decide +kernel⟩
abbrev s_side_in : Stmt := topS 19
abbrev N_side_in : List Str := ["link"]
abbrev P_side_in : List Str := ["link"]
theorem sc_side_in : FnScope N_side_in P_side_in (defScope s_side_in) := ⟨rfl, rfl, rfl, by decide +kernel, rfl, by decide +kernel, by decide +kernel⟩
abbrev s_arcs_in : Stmt := topS 20
abbrev N_arcs_in : List Str := ["shape", "other", "number", "goal", "found", "link"]
abbrev P_arcs_in : List Str := ["shape", "other"]
theorem sc_arcs_in : FnScope N_arcs_in P_arcs_in (defScope s_arcs_in) := ⟨rfl, rfl, rfl, by decide +kernel, rfl, by decide +kernel, by decide +kernel⟩
abbrev s_is_stand : Stmt := topS 23
abbrev N_is_stand : List Str := ["thing", "own"]
abbrev P_is_stand : List Str := ["thing"]
theorem sc_is_stand : FnScope N_is_stand P_is_stand (defScope s_is_stand) := ⟨rfl, rfl, rfl, by decide +kernel, rfl, by decide +kernel, by decide +kernel⟩
abbrev s_sure_stand : Stmt := topS 24
abbrev N_sure_stand : List Str := ["stand", "own"]
abbrev P_sure_stand : List Str := ["stand"]
theorem sc_sure_stand : FnScope N_sure_stand P_sure_stand (defScope s_sure_stand) := ⟨rfl, rfl, rfl, by decide +kernel, rfl, by decide +kernel, by decide +kernel⟩
abbrev s_middle_in : Stmt := topS 25
abbrev N_middle_in : List Str := ["chest", "stand", "east", "many", "side"]
abbrev P_middle_in : List Str := ["chest", "stand"]
theorem sc_middle_in : FnScope N_middle_in P_middle_in (defScope s_middle_in) := ⟨rfl, rfl, rfl, by decide +kernel, rfl, by decide +kernel, by decide +kernel⟩
abbrev s_home : Stmt := topS 26
abbrev N_home : List Str := []
abbrev P_home : List Str := []
theorem sc_home : FnScope N_home P_home (defScope s_home) := ⟨rfl, rfl, rfl, by decide +kernel, rfl, by decide +kernel, by decide +kernel⟩
abbrev s_spacing_in : Stmt := topS 29
abbrev N_spacing_in : List Str := ["chest"]
abbrev P_spacing_in : List Str := ["chest"]
theorem sc_spacing_in : FnScope N_spacing_in P_spacing_in (defScope s_spacing_in) := ⟨rfl, rfl, rfl, by decide +kernel, rfl, by decide +kernel, by decide +kernel⟩
abbrev s_way_of : Stmt := topS 30
abbrev N_way_of : List Str := ["chest", "arc", "found", "link"]
abbrev P_way_of : List Str := ["chest", "arc"]
theorem sc_way_of : FnScope N_way_of P_way_of (defScope s_way_of) := ⟨rfl, rfl, rfl, by decide +kernel, rfl, by decide +kernel, by decide +kernel⟩
abbrev s_there_in : Stmt := topS 31
abbrev N_there_in : List Str := ["chest", "stand", "shape", "many", "here", "found", "arc", "way"]
abbrev P_there_in : List Str := ["chest", "stand", "shape"]
theorem sc_there_in : FnScope N_there_in P_there_in (defScope s_there_in) := ⟨rfl, rfl, rfl, by decide +kernel, rfl, by decide +kernel, by decide +kernel⟩
abbrev s_span_of : Stmt := topS 32
abbrev N_span_of : List Str := ["rest", "many", "low", "high", "first"]
abbrev P_span_of : List Str := ["rest", "many", "low", "high"]
theorem sc_span_of : FnScope N_span_of P_span_of (defScope s_span_of) := ⟨rfl, rfl, rfl, by decide +kernel, rfl, by decide +kernel, by decide +kernel⟩
abbrev s_sure_span : Stmt := topS 33
abbrev N_sure_span : List Str := ["low", "high"]
abbrev P_sure_span : List Str := ["low", "high"]
theorem sc_sure_span : FnScope N_sure_span P_sure_span (defScope s_sure_span) := ⟨rfl, rfl, rfl, by decide +kernel, rfl, by decide +kernel, by decide +kernel⟩
abbrev s_listed : Stmt := topS 34
abbrev N_listed : List Str := ["pairs", "many", "low", "high", "east", "rows", "easts", "norths", "found", "place", "north", "own"]
abbrev P_listed : List Str := ["pairs", "many", "low", "high"]
theorem sc_listed : FnScope N_listed P_listed (defScope s_listed) := ⟨rfl, rfl, rfl, by decide +kernel, rfl, by decide +kernel, by decide +kernel⟩
abbrev s_middles_in : Stmt := topS 35
abbrev N_middles_in : List Str := ["chest", "stand", "shape", "low", "high", "own", "here", "goal"]
abbrev P_middles_in : List Str := ["chest", "stand", "shape", "low", "high"]
theorem sc_middles_in : FnScope N_middles_in P_middles_in (defScope s_middles_in) := ⟨rfl, rfl, rfl, by decide +kernel, rfl, by decide +kernel, by decide +kernel⟩
abbrev s__law_box : Stmt := topS 37
abbrev N__law_box : List Str := ["_law_script", "_law_k", "_law_bit_so"]
abbrev P__law_box : List Str := ["_law_script", "_law_k"]
theorem sc__law_box : FnScope N__law_box P__law_box (defScope s__law_box) := ⟨rfl, rfl, rfl, by decide +kernel, rfl, by decide +kernel, by decide +kernel⟩
abbrev s__law_take : Stmt := topS 38
abbrev N__law_take : List Str := ["_law_tin", "_law_below_so", "_law_drawn", "_law_once_so", "_law_wide_so", "_law_twice_so"]
abbrev P__law_take : List Str := ["_law_tin", "_law_below_so"]
theorem sc__law_take : FnScope N__law_take P__law_take (defScope s__law_take) := ⟨rfl, rfl, rfl, by decide +kernel, rfl, by decide +kernel, by decide +kernel⟩
abbrev s__law_cells : Stmt := topS 39
abbrev N__law_cells : List Str := ["_law_script", "_law_most_so", "_law_cells_so", "_law_k", "_law_bit_so", "_law_at_so"]
abbrev P__law_cells : List Str := ["_law_script", "_law_most_so"]
theorem sc__law_cells : FnScope N__law_cells P__law_cells (defScope s__law_cells) := ⟨rfl, rfl, rfl, by decide +kernel, rfl, by decide +kernel, by decide +kernel⟩
abbrev s__law_of : Stmt := topS 40
abbrev N__law_of : List Str := ["_law_tin", "_law_goods_so"]
abbrev P__law_of : List Str := ["_law_tin", "_law_goods_so"]
theorem sc__law_of : FnScope N__law_of P__law_of (defScope s__law_of) := ⟨rfl, rfl, rfl, by decide +kernel, rfl, by decide +kernel, by decide +kernel⟩
abbrev s__law_lists : Stmt := topS 41
abbrev N__law_lists : List Str := ["_law_matter", "_law_bit"]
abbrev P__law_lists : List Str := ["_law_matter"]
theorem sc__law_lists : FnScope N__law_lists P__law_lists (defScope s__law_lists) := ⟨rfl, rfl, rfl, by decide +kernel, rfl, by decide +kernel, by decide +kernel⟩
abbrev s__law_same : Stmt := topS 42
abbrev N__law_same : List Str := ["_law_got", "_law_due", "_law_mine", "_law_its"]
abbrev P__law_same : List Str := ["_law_got", "_law_due"]
theorem sc__law_same : FnScope N__law_same P__law_same (defScope s__law_same) := ⟨rfl, rfl, rfl, by decide +kernel, rfl, by decide +kernel, by decide +kernel⟩
abbrev s__law_home : Stmt := topS 43
abbrev N__law_home : List Str := []
abbrev P__law_home : List Str := []
theorem sc__law_home : FnScope N__law_home P__law_home (defScope s__law_home) := ⟨rfl, rfl, rfl, by decide +kernel, rfl, by decide +kernel, by decide +kernel⟩
abbrev s__law_poses : Stmt := topS 44
abbrev N__law_poses : List Str := []
abbrev P__law_poses : List Str := []
theorem sc__law_poses : FnScope N__law_poses P__law_poses (defScope s__law_poses) := ⟨rfl, rfl, rfl, by decide +kernel, rfl, by decide +kernel, by decide +kernel⟩
abbrev s__law_across : Stmt := topS 45
abbrev N__law_across : List Str := []
abbrev P__law_across : List Str := []
theorem sc__law_across : FnScope N__law_across P__law_across (defScope s__law_across) := ⟨rfl, rfl, rfl, by decide +kernel, rfl, by decide +kernel, by decide +kernel⟩
abbrev s__law_plus : Stmt := topS 46
abbrev N__law_plus : List Str := ["_law_row_so", "_law_k", "_law_by_so"]
abbrev P__law_plus : List Str := ["_law_row_so", "_law_k", "_law_by_so"]
theorem sc__law_plus : FnScope N__law_plus P__law_plus (defScope s__law_plus) := ⟨rfl, rfl, rfl, by decide +kernel, rfl, by decide +kernel, by decide +kernel⟩
abbrev s__law_flip : Stmt := topS 47
abbrev N__law_flip : List Str := ["_law_row_so", "_law_k"]
abbrev P__law_flip : List Str := ["_law_row_so", "_law_k"]
theorem sc__law_flip : FnScope N__law_flip P__law_flip (defScope s__law_flip) := ⟨rfl, rfl, rfl, by decide +kernel, rfl, by decide +kernel, by decide +kernel⟩
abbrev s__law_tip : Stmt := topS 48
abbrev N__law_tip : List Str := ["_law_spot", "_law_way_so", "_law_pose", "_law_xs_so", "_law_ys_so", "_law_looks_so", "_law_i", "_law_j", "_law_k", "_law_by_so"]
abbrev P__law_tip : List Str := ["_law_spot", "_law_way_so"]
theorem sc__law_tip : FnScope N__law_tip P__law_tip (defScope s__law_tip) := ⟨rfl, rfl, rfl, by decide +kernel, rfl, by decide +kernel, by decide +kernel⟩
abbrev s__law_turn : Stmt := topS 49
abbrev N__law_turn : List Str := ["_law_spot", "_law_corner_so", "_law_hand_so", "_law_pose", "_law_xs_so", "_law_ys_so", "_law_looks_so", "_law_i", "_law_j", "_law_k", "_law_u", "_law_v"]
abbrev P__law_turn : List Str := ["_law_spot", "_law_corner_so", "_law_hand_so"]
theorem sc__law_turn : FnScope N__law_turn P__law_turn (defScope s__law_turn) := ⟨rfl, rfl, rfl, by decide +kernel, rfl, by decide +kernel, by decide +kernel⟩
abbrev s__law_step : Stmt := topS 50
abbrev N__law_step : List Str := ["_law_spot", "_law_step_here"]
abbrev P__law_step : List Str := ["_law_spot", "_law_step_here"]
theorem sc__law_step : FnScope N__law_step P__law_step (defScope s__law_step) := ⟨rfl, rfl, rfl, by decide +kernel, rfl, by decide +kernel, by decide +kernel⟩
abbrev s__law_behind : Stmt := topS 51
abbrev N__law_behind : List Str := ["_law_spot", "_law_walk_here", "_law_step_here"]
abbrev P__law_behind : List Str := ["_law_spot", "_law_walk_here"]
theorem sc__law_behind : FnScope N__law_behind P__law_behind (defScope s__law_behind) := ⟨rfl, rfl, rfl, by decide +kernel, rfl, by decide +kernel, by decide +kernel⟩
abbrev s__law_tips : Stmt := topS 52
abbrev N__law_tips : List Str := ["_law_k"]
abbrev P__law_tips : List Str := []
theorem sc__law_tips : FnScope N__law_tips P__law_tips (defScope s__law_tips) := ⟨rfl, rfl, rfl, by decide +kernel, rfl, by decide +kernel, by decide +kernel⟩
abbrev s__law_turns : Stmt := topS 53
abbrev N__law_turns : List Str := ["_law_k"]
abbrev P__law_turns : List Str := []
theorem sc__law_turns : FnScope N__law_turns P__law_turns (defScope s__law_turns) := ⟨rfl, rfl, rfl, by decide +kernel, rfl, by decide +kernel, by decide +kernel⟩
abbrev s__law_walk : Stmt := topS 54
abbrev N__law_walk : List Str := ["_law_tin", "_law_many_so", "_law_steps_so", "_law_lap"]
abbrev P__law_walk : List Str := ["_law_tin", "_law_many_so", "_law_steps_so"]
theorem sc__law_walk : FnScope N__law_walk P__law_walk (defScope s__law_walk) := ⟨rfl, rfl, rfl, by decide +kernel, rfl, by decide +kernel, by decide +kernel⟩
abbrev s__law_mid : Stmt := topS 55
abbrev N__law_mid : List Str := ["_law_trunk", "_law_spot", "_law_own", "_law_its"]
abbrev P__law_mid : List Str := ["_law_trunk", "_law_spot"]
theorem sc__law_mid : FnScope N__law_mid P__law_mid (defScope s__law_mid) := ⟨rfl, rfl, rfl, by decide +kernel, rfl, by decide +kernel, by decide +kernel⟩
abbrev s__law_arcs : Stmt := topS 56
abbrev N__law_arcs : List Str := ["_law_one", "_law_two", "_law_a", "_law_b", "_law_found", "_law_at_so", "_law_k"]
abbrev P__law_arcs : List Str := ["_law_one", "_law_two"]
theorem sc__law_arcs : FnScope N__law_arcs P__law_arcs (defScope s__law_arcs) := ⟨rfl, rfl, rfl, by decide +kernel, rfl, by decide +kernel, by decide +kernel⟩
abbrev s__law_across_of : Stmt := topS 57
abbrev N__law_across_of : List Str := ["_law_trunk", "_law_k"]
abbrev P__law_across_of : List Str := ["_law_trunk", "_law_k"]
theorem sc__law_across_of : FnScope N__law_across_of P__law_across_of (defScope s__law_across_of) := ⟨rfl, rfl, rfl, by decide +kernel, rfl, by decide +kernel, by decide +kernel⟩
abbrev s__law_shifts : Stmt := topS 58
abbrev N__law_shifts : List Str := ["_law_trunk", "_law_arc_so", "_law_axis_so", "_law_most_so", "_law_found", "_law_k", "_law_own", "_law_many_so", "_law_later_so", "_law_its"]
abbrev P__law_shifts : List Str := ["_law_trunk", "_law_arc_so", "_law_axis_so", "_law_most_so"]
theorem sc__law_shifts : FnScope N__law_shifts P__law_shifts (defScope s__law_shifts) := ⟨rfl, rfl, rfl, by decide +kernel, rfl, by decide +kernel, by decide +kernel⟩
abbrev s__law_by_hand_right : Stmt := topS 59
abbrev N__law_by_hand_right : List Str := ["_law_got", "_law_due"]
abbrev P__law_by_hand_right : List Str := []
theorem sc__law_by_hand_right : FnScope N__law_by_hand_right P__law_by_hand_right (defScope s__law_by_hand_right) := ⟨rfl, rfl, rfl, by decide +kernel, rfl, by decide +kernel, by decide +kernel⟩
abbrev s_law : Stmt := topS 60
abbrev N_law : List Str := ["_law_script", "_law_tin", "_law_trunk", "_law_spot", "_law_pose", "_law_here_so", "_law_found", "_law_low_so", "_law_high_so", "_law_arc_so", "_law_easts_so", "_law_norths_so", "_law_x", "_law_y", "_law_told", "_law_end_so", "_law_mid_here", "_law_goods_so", "_law_lap", "_law_own"]
abbrev P_law : List Str := ["_law_script"]
theorem sc_law : FnScope N_law P_law (defScope s_law) := ⟨rfl, rfl, rfl, by decide +kernel, rfl, by decide +kernel, by decide +kernel⟩
structure Defs (K : PySem.W.Frag) (mg : Str → Option Value) : Prop where
  d_is_number : DefOk K mg "is_number" s_is_number
  d_is_from : DefOk K mg "is_from" s_is_from
  d_is_long : DefOk K mg "is_long" s_is_long
  d_tupled : DefOk K mg "tupled" s_tupled
  d_set_of : DefOk K mg "set_of" s_set_of
  d_are_numbers : DefOk K mg "are_numbers" s_are_numbers
  d_is_chest : DefOk K mg "is_chest" s_is_chest
  d_sure_chest : DefOk K mg "sure_chest" s_sure_chest
  d_is_shape : DefOk K mg "is_shape" s_is_shape
  d_sure_shape : DefOk K mg "sure_shape" s_sure_shape
  d_place_in : DefOk K mg "place_in" s_place_in
  d_side_in : DefOk K mg "side_in" s_side_in
  d_arcs_in : DefOk K mg "arcs_in" s_arcs_in
  d_is_stand : DefOk K mg "is_stand" s_is_stand
  d_sure_stand : DefOk K mg "sure_stand" s_sure_stand
  d_middle_in : DefOk K mg "middle_in" s_middle_in
  d_home : DefOk K mg "home" s_home
  d_spacing_in : DefOk K mg "spacing_in" s_spacing_in
  d_way_of : DefOk K mg "way_of" s_way_of
  d_there_in : DefOk K mg "there_in" s_there_in
  d_span_of : DefOk K mg "span_of" s_span_of
  d_sure_span : DefOk K mg "sure_span" s_sure_span
  d_listed : DefOk K mg "listed" s_listed
  d_middles_in : DefOk K mg "middles_in" s_middles_in
  d__law_box : DefOk K mg "_law_box" s__law_box
  d__law_take : DefOk K mg "_law_take" s__law_take
  d__law_cells : DefOk K mg "_law_cells" s__law_cells
  d__law_of : DefOk K mg "_law_of" s__law_of
  d__law_lists : DefOk K mg "_law_lists" s__law_lists
  d__law_same : DefOk K mg "_law_same" s__law_same
  d__law_home : DefOk K mg "_law_home" s__law_home
  d__law_poses : DefOk K mg "_law_poses" s__law_poses
  d__law_across : DefOk K mg "_law_across" s__law_across
  d__law_plus : DefOk K mg "_law_plus" s__law_plus
  d__law_flip : DefOk K mg "_law_flip" s__law_flip
  d__law_tip : DefOk K mg "_law_tip" s__law_tip
  d__law_turn : DefOk K mg "_law_turn" s__law_turn
  d__law_step : DefOk K mg "_law_step" s__law_step
  d__law_behind : DefOk K mg "_law_behind" s__law_behind
  d__law_tips : DefOk K mg "_law_tips" s__law_tips
  d__law_turns : DefOk K mg "_law_turns" s__law_turns
  d__law_walk : DefOk K mg "_law_walk" s__law_walk
  d__law_mid : DefOk K mg "_law_mid" s__law_mid
  d__law_arcs : DefOk K mg "_law_arcs" s__law_arcs
  d__law_across_of : DefOk K mg "_law_across_of" s__law_across_of
  d__law_shifts : DefOk K mg "_law_shifts" s__law_shifts
  d__law_by_hand_right : DefOk K mg "_law_by_hand_right" s__law_by_hand_right
  d_law : DefOk K mg "law" s_law
end Mv
end

section
set_option Elab.async false
set_option linter.all false
set_option maxRecDepth 100000
set_option maxHeartbeats 2000000
/-! MvD: heaps and data. -/
namespace Mv
open PySem PySem.Spec PyProof.Rows L2 RZ
theorem same_upd {H : Hp} {p : Addr} {o : HO} (h : H p = none) : Same H (upd H p o) := fun b x e => by
  rw [upd_ne (ne_of_none e h)]
  exact e
/-- what H does not know may change -/
theorem same_mut {H H' : Hp} {p : Addr} {o : HO} (e : Same H H') (h : H p = none) : Same H (upd H' p o) := fun b x q => by
  rw [upd_ne (ne_of_none q h)]
  exact e b x q
theorem same_sqT {K : PySem.W.Frag} {H H' : Hp} {a : Addr} {xs : List V} (e : Same H H') (h : SqT K H a xs) : SqT K H' a xs := by
  rcases h with (h | ⟨o, h⟩) | h
  · exact .inl (.inl (e _ _ h))
  · exact .inl (.inr ⟨o, e _ _ h⟩)
  · exact .inr h
/-- a thing that is no list and no dict -/
def Fix : HO → Prop
  | .lst _ => False
  | .dK _ => False
  | .dT _ => False
  | _ => True
def SameN (H H' : Hp) : Prop := ∀ b o, H b = some o → Fix o → H' b = some o
theorem same_n {H H' : Hp} (e : Same H H') : SameN H H' := fun b o h _ => e b o h
theorem SameN.refl (H : Hp) : SameN H H := fun _ _ h _ => h
theorem SameN.trans {H H1 H2 : Hp} (a : SameN H H1) (b : SameN H1 H2) : SameN H H2 := fun c o h f => b c o (a c o h f) f
theorem SameN.upd_lst {H : Hp} {p : Addr} {xs : List V} {o : HO} (h : H p = some (.lst xs)) : SameN H (upd H p o) := fun b u e f => by
  have ne : b ≠ p := by
    intro z
    rw [z, h] at e
    cases e
    exact f
  rw [upd_ne ne]
  exact e
theorem SameN.upd_dT {H : Hp} {p : Addr} {xs : List (List Key × V)} {o : HO} (h : H p = some (.dT xs)) : SameN H (upd H p o) := fun b u e f => by
  have ne : b ≠ p := by
    intro z
    rw [z, h] at e
    cases e
    exact f
  rw [upd_ne ne]
  exact e
theorem SameN.sqT {K : PySem.W.Frag} {H H' : Hp} {a : Addr} {xs : List V} (e : SameN H H') (h : SqT K H a xs) : SqT K H' a xs := by
  rcases h with (h | ⟨o, h⟩) | h
  · exact .inl (.inl (e _ _ h trivial))
  · exact .inl (.inr ⟨o, e _ _ h trivial⟩)
  · exact .inr h
mutual
theorem dp_same {K : PySem.W.Frag} {H H' : Hp} (e : Same H H') : ∀ (d : PyData) (v : V), Dp K H v d → Dp K H' v d
  | .none, _, h => by cases h; exact .non
  | .bool b, _, h => by cases h; exact .bl b
  | .int i, _, h => by cases h; exact .int i
  | .str x, _, h => by cases h; exact .str x
  | .list ds, _, h => by
    cases h with
    | lst hs ha => exact .lst (e.seq hs) (dpAll_same e ds _ ha)
  | .tuple ds, _, h => by
    cases h with
    | tup hs ha => exact .tup (same_sqT e hs) (dpAll_same e ds _ ha)
  | .dict _, _, h => by cases h
theorem dpAll_same {K : PySem.W.Frag} {H H' : Hp} (e : Same H H') : ∀ (ds : List PyData) (vs : List V), DpAll K H vs ds → DpAll K H' vs ds
  | [], _, h => by cases h; exact .nil
  | d :: ds, _, h => by
    cases h with
    | cons h1 h2 => exact .cons (dp_same e d _ h1) (dpAll_same e ds _ h2)
end
section
variable {K : PySem.W.Frag} {H H' : Hp} {v : V} {vs : List V}
theorem Dp.same {d : PyData} (h : Dp K H v d) (e : Same H H') : Dp K H' v d := dp_same e d v h
theorem DpAll.same {ds : List PyData} (h : DpAll K H vs ds) (e : Same H H') : DpAll K H' vs ds := dpAll_same e ds vs h
theorem dp_int_inv {i : Int} (h : Dp K H v (.int i)) : v = .int i := by cases h; rfl
theorem dp_tup_inv {ds : List PyData} (h : Dp K H v (.tuple ds)) : ∃ a xs, v = .ref a ∧ SqT K H a xs ∧ DpAll K H xs ds := by
  cases h with
  | tup h1 h2 => exact ⟨_, _, rfl, h1, h2⟩
theorem dp_lst_inv {ds : List PyData} (h : Dp K H v (.list ds)) : ∃ a xs, v = .ref a ∧ SqL K H a xs ∧ DpAll K H xs ds := by
  cases h with
  | lst h1 h2 => exact ⟨_, _, rfl, h1, h2⟩
theorem dpAll_len {ds : List PyData} : ∀ {vs : List V}, DpAll K H vs ds → vs.length = ds.length := by
  induction ds with
  | nil => intro vs h; cases h; rfl
  | cons d ds ih =>
    intro vs h
    cases h with
    | cons h1 h2 => rw [List.length_cons, List.length_cons, ih h2]
theorem dpAll_ints : ∀ {ns : List Int} {vs : List V}, DpAll K H vs (ns.map PyData.int) → vs = ns.map V.int
  | [], _, h => by cases h; rfl
  | n :: ns, _, h => by
    cases h with
    | cons h1 h2 => rw [dp_int_inv h1, dpAll_ints h2]; rfl
theorem dpAll_mk : ∀ {ns : List Int}, DpAll K H (ns.map V.int) (ns.map PyData.int)
  | [] => .nil
  | _ :: _ => .cons (.int _) dpAll_mk
theorem dpAll_at {ds : List PyData} : ∀ {vs : List V} {i : Nat} {x : V}, DpAll K H vs ds → vs[i]? = some x → ∃ d, ds[i]? = some d ∧ Dp K H x d := by
  induction ds with
  | nil => intro vs i x h e; cases h; simp at e
  | cons d ds ih =>
    intro vs i x h e
    cases h with
    | cons h1 h2 =>
      cases i with
      | zero => simp only [List.getElem?_cons_zero, Option.some.injEq] at e; subst e; exact ⟨d, rfl, h1⟩
      | succ i => exact ih h2 (by simpa using e)
theorem dpAll_snoc {ds : List PyData} {d : PyData} {x : V} (h2 : Dp K H x d) : ∀ {vs : List V}, DpAll K H vs ds → DpAll K H (vs ++ [x]) (ds ++ [d]) := by
  induction ds with
  | nil => intro vs h; cases h; exact .cons h2 .nil
  | cons e ds ih =>
    intro vs h
    cases h with
    | cons h1 h3 => exact .cons h1 (ih h3)
theorem dpT_inv {t : T3} (h : Dp K H v (dT t)) : ∃ a, v = .ref a ∧ SqT K H a [.int t.1, .int t.2.1, .int t.2.2] := by
  obtain ⟨a, xs, rfl, h1, h2⟩ := dp_tup_inv h
  have e := dpAll_ints (ns := [t.1, t.2.1, t.2.2]) h2
  subst e
  exact ⟨a, rfl, h1⟩
theorem dpP_inv {t : Int × Int} (h : Dp K H v (dP t)) : ∃ a, v = .ref a ∧ SqT K H a [.int t.1, .int t.2] := by
  obtain ⟨a, xs, rfl, h1, h2⟩ := dp_tup_inv h
  have e := dpAll_ints (ns := [t.1, t.2]) h2
  subst e
  exact ⟨a, rfl, h1⟩
theorem dpP_mk {a : Addr} {t : Int × Int} (h : SqT K H a [.int t.1, .int t.2]) : Dp K H (.ref a) (dP t) := .tup h (.cons (.int _) (.cons (.int _) .nil))
theorem dpT_mk {a : Addr} {t : T3} (h : SqT K H a [.int t.1, .int t.2.1, .int t.2.2]) : Dp K H (.ref a) (dT t) := .tup h (.cons (.int _) (.cons (.int _) (.cons (.int _) .nil)))
theorem dpT_n {t : T3} (h : Dp K H v (dT t)) (e : SameN H H') : Dp K H' v (dT t) := by
  obtain ⟨a, rfl, h1⟩ := dpT_inv h
  exact dpT_mk (e.sqT h1)
theorem dpP_n {t : Int × Int} (h : Dp K H v (dP t)) (e : SameN H H') : Dp K H' v (dP t) := by
  obtain ⟨a, rfl, h1⟩ := dpP_inv h
  exact dpP_mk (e.sqT h1)
theorem dpS_inv {s : Stand} (h : Dp K H v (dS s)) : ∃ a v0 v1 v2 v3, v = .ref a ∧ SqT K H a [v0, v1, v2, v3] ∧ Dp K H v0 (dT s.1) ∧ Dp K H v1 (dT s.2.1) ∧ Dp K H v2 (dT s.2.2.1) ∧ Dp K H v3 (dT s.2.2.2) := by
  obtain ⟨a, xs, rfl, h1, h2⟩ := dp_tup_inv h
  cases h2 with
  | cons a0 h2 => cases h2 with
    | cons a1 h2 => cases h2 with
      | cons a2 h2 => cases h2 with
        | cons a3 h2 =>
          cases h2
          exact ⟨a, _, _, _, _, rfl, h1, a0, a1, a2, a3⟩
theorem dpS_mk {s : Stand} {a : Addr} {v0 v1 v2 v3 : V} (h : SqT K H a [v0, v1, v2, v3]) (h0 : Dp K H v0 (dT s.1)) (h1 : Dp K H v1 (dT s.2.1)) (h2 : Dp K H v2 (dT s.2.2.1)) (h3 : Dp K H v3 (dT s.2.2.2)) : Dp K H (.ref a) (dS s) :=
  .tup h (.cons h0 (.cons h1 (.cons h2 (.cons h3 .nil))))
theorem dpS_n {s : Stand} (h : Dp K H v (dS s)) (e : SameN H H') : Dp K H' v (dS s) := by
  obtain ⟨a, v0, v1, v2, v3, rfl, h, h0, h1, h2, h3⟩ := dpS_inv h
  exact dpS_mk (e.sqT h) (dpT_n h0 e) (dpT_n h1 e) (dpT_n h2 e) (dpT_n h3 e)
def dI (ns : List Int) : PyData := .tuple (ns.map PyData.int)
theorem dpI_inv {ns : List Int} (h : Dp K H v (dI ns)) : ∃ a, v = .ref a ∧ SqT K H a (ns.map V.int) := by
  obtain ⟨a, xs, rfl, h1, h2⟩ := dp_tup_inv h
  rw [dpAll_ints h2] at h1
  exact ⟨a, rfl, h1⟩
theorem dpI_mk {ns : List Int} {a : Addr} (h : SqT K H a (ns.map V.int)) : Dp K H (.ref a) (dI ns) := .tup h dpAll_mk
end
theorem sz {n : Nat} (h : n ≤ 100000) : n ≤ sizeLine := Nat.le_trans h (by decide)
theorem szlt {n : Nat} (h : n < 100000) : n < sizeLine := Nat.lt_of_lt_of_le h (by decide)
/-! ### data whose lists stand where ok says -/
mutual
inductive Dq (K : PySem.W.Frag) (ok : Addr → Prop) (H : Hp) : V → PyData → Prop
  | int (i : Int) : Dq K ok H (.int i) (.int i)
  | str (x : Str) : Dq K ok H (.str x) (.str x)
  | lst {a : Addr} {xs : List V} {ds : List PyData} : H a = some (.lst xs) → ok a → DqAll K ok H xs ds → Dq K ok H (.ref a) (.list ds)
  | tup {a : Addr} {xs : List V} {ds : List PyData} : SqT K H a xs → DqAll K ok H xs ds → Dq K ok H (.ref a) (.tuple ds)
inductive DqAll (K : PySem.W.Frag) (ok : Addr → Prop) (H : Hp) : List V → List PyData → Prop
  | nil : DqAll K ok H [] []
  | cons {v : V} {vs : List V} {d : PyData} {ds : List PyData} : Dq K ok H v d → DqAll K ok H vs ds → DqAll K ok H (v :: vs) (d :: ds)
end
mutual
theorem dq_mono {K : PySem.W.Frag} {ok ok' : Addr → Prop} {H H' : Hp} (m : ∀ a, ok a → ok' a) (n : SameN H H') (e : ∀ a xs, ok a → H a = some (.lst xs) → H' a = some (.lst xs)) : ∀ (d : PyData) (v : V), Dq K ok H v d → Dq K ok' H' v d
  | .int i, _, h => by cases h; exact .int i
  | .str x, _, h => by cases h; exact .str x
  | .list ds, _, h => by
    cases h with
    | lst h1 h2 h3 => exact .lst (e _ _ h2 h1) (m _ h2) (dqAll_mono m n e ds _ h3)
  | .tuple ds, _, h => by
    cases h with
    | tup hs ha => exact .tup (n.sqT hs) (dqAll_mono m n e ds _ ha)
  | .none, _, h => by cases h
  | .bool _, _, h => by cases h
  | .dict _, _, h => by cases h
theorem dqAll_mono {K : PySem.W.Frag} {ok ok' : Addr → Prop} {H H' : Hp} (m : ∀ a, ok a → ok' a) (n : SameN H H') (e : ∀ a xs, ok a → H a = some (.lst xs) → H' a = some (.lst xs)) : ∀ (ds : List PyData) (vs : List V), DqAll K ok H vs ds → DqAll K ok' H' vs ds
  | [], _, h => by cases h; exact .nil
  | d :: ds, _, h => by
    cases h with
    | cons h1 h2 => exact .cons (dq_mono m n e d _ h1) (dqAll_mono m n e ds _ h2)
end
mutual
theorem dq_dp {K : PySem.W.Frag} {ok : Addr → Prop} {H : Hp} : ∀ (d : PyData) (v : V), Dq K ok H v d → Dp K H v d
  | .int i, _, h => by cases h; exact .int i
  | .str x, _, h => by cases h; exact .str x
  | .list ds, _, h => by
    cases h with
    | lst h1 h2 h3 => exact .lst (SqL.of h1) (dqAll_dp ds _ h3)
  | .tuple ds, _, h => by
    cases h with
    | tup hs ha => exact .tup hs (dqAll_dp ds _ ha)
  | .none, _, h => by cases h
  | .bool _, _, h => by cases h
  | .dict _, _, h => by cases h
theorem dqAll_dp {K : PySem.W.Frag} {ok : Addr → Prop} {H : Hp} : ∀ (ds : List PyData) (vs : List V), DqAll K ok H vs ds → DpAll K H vs ds
  | [], _, h => by cases h; exact .nil
  | d :: ds, _, h => by
    cases h with
    | cons h1 h2 => exact .cons (dq_dp d _ h1) (dqAll_dp ds _ h2)
end
theorem Dq.dp {K : PySem.W.Frag} {ok : Addr → Prop} {H : Hp} {v : V} {d : PyData} (h : Dq K ok H v d) : Dp K H v d := dq_dp d v h
theorem DqAll.dp {K : PySem.W.Frag} {ok : Addr → Prop} {H : Hp} {vs : List V} {ds : List PyData} (h : DqAll K ok H vs ds) : DpAll K H vs ds := dqAll_dp ds vs h
theorem DqAll.mono {K : PySem.W.Frag} {ok ok' : Addr → Prop} {H H' : Hp} {vs : List V} {ds : List PyData} (h : DqAll K ok H vs ds) (m : ∀ a, ok a → ok' a) (n : SameN H H') (e : ∀ a xs, ok a → H a = some (.lst xs) → H' a = some (.lst xs)) : DqAll K ok' H' vs ds := dqAll_mono m n e ds vs h
theorem DqAll.same {K : PySem.W.Frag} {ok : Addr → Prop} {H H' : Hp} {vs : List V} {ds : List PyData} (h : DqAll K ok H vs ds) (e : Same H H') : DqAll K ok H' vs ds := h.mono (fun _ z => z) (same_n e) fun a xs _ q => e a _ q
theorem dqAll_snoc {K : PySem.W.Frag} {ok : Addr → Prop} {H : Hp} {ds : List PyData} {d : PyData} {x : V} (h2 : Dq K ok H x d) : ∀ {vs : List V}, DqAll K ok H vs ds → DqAll K ok H (vs ++ [x]) (ds ++ [d]) := by
  induction ds with
  | nil => intro vs h; cases h; exact .cons h2 .nil
  | cons e ds ih =>
    intro vs h
    cases h with
    | cons h1 h3 => exact .cons h1 (ih h3)
theorem dqAll_len {K : PySem.W.Frag} {ok : Addr → Prop} {H : Hp} {ds : List PyData} {vs : List V} (h : DqAll K ok H vs ds) : vs.length = ds.length := dpAll_len h.dp
/-- what holds between two turns of a comprehension that makes such data: D the new list, H1 the heap ahead of it -/
def PvD (K : PySem.W.Frag) (ok : Addr → Prop) (H1 : Hp) (D : Addr) (es : List PyData) (i : Nat) (H3 : Hp) : Prop := Same H1 H3 ∧ ∃ acc, H3 D = some (.lst acc) ∧ DqAll K ok H3 acc (es.take i)
theorem pvd_0 {K : PySem.W.Frag} {ok : Addr → Prop} {H1 : Hp} {D : Addr} {es : List PyData} (n : H1 D = none) : PvD K ok H1 D es 0 (upd H1 D (.lst [])) := ⟨same_upd n, [], upd_same, .nil⟩
theorem pvd_next {K : PySem.W.Frag} {ok : Addr → Prop} {H1 H3 H4 : Hp} {D : Addr} {es : List PyData} {i : Nat} {y : V} {e : PyData} (n : H1 D = none) (no : ¬ ok D) (p : PvD K ok H1 D es i H3) (s4 : Same H3 H4) (hl : es.length ≤ 5000) (he : es[i]? = some e) (hy : Dq K ok H4 y e) :
    ∃ acc, H4 D = some (.lst acc) ∧ acc.length < sizeLine ∧ PvD K ok H1 D es (i + 1) (upd H4 D (.lst (acc ++ [y]))) := by
  obtain ⟨s3, acc, hD, ha⟩ := p
  have hD4 := s4 _ _ hD
  have hi : i < es.length := (List.getElem?_eq_some_iff.mp he).1
  have ha4 := ha.same s4
  refine ⟨acc, hD4, szlt ?_, same_mut (s3.trans s4) n, _, upd_same, ?_⟩
  · have := dqAll_len ha
    rw [List.length_take] at this
    omega
  · have e1 : es.take (i + 1) = es.take i ++ [e] := by rw [List.take_add_one, he]; rfl
    rw [e1]
    refine (dqAll_snoc hy ha4).mono (fun _ z => z) (SameN.upd_lst hD4) fun a xs oa q => ?_
    rw [upd_ne (fun z : a = D => no (z ▸ oa))]
    exact q
theorem ty_lst {K : PySem.W.Frag} {H : Hp} {a : Addr} {xs : List V} (h : SqL K H a xs) : TyX K H (.ref a) (.type "list") := by
  rcases h with (h | ⟨o, h⟩) | ⟨o, its, n, h, hc, _⟩
  · exact .base (.lst h)
  · exact .base (.frz h)
  · exact .kList h hc
theorem ty_tup {K : PySem.W.Frag} {H : Hp} {a : Addr} {xs : List V} (h : SqT K H a xs) : TyX K H (.ref a) (.type "tuple") := by
  rcases h with (h | ⟨o, h⟩) | ⟨o, its, n, h, hc, _⟩
  · exact .base (.tup h)
  · exact .fTuple h
  · exact .kTuple h hc
theorem ty_int {K : PySem.W.Frag} {H : Hp} (i : Int) : TyX K H (.int i) (.type "int") := .base (.int i)
theorem kit_int {K : PySem.W.Frag} : PySem.W.kitAny K (.type "int") [.type "list", .type "tuple"] = some false :=
  kitAny_cons (b := false) (kit_ty (by decide +kernel)) (fun _ => kitAny_cons (b := false) (kit_ty (by decide +kernel)) (fun _ => kitAny_nil) (fun z => nomatch z)) (fun z => nomatch z)
theorem kit_lst {K : PySem.W.Frag} : PySem.W.kitAny K (.type "list") [.type "list", .type "tuple"] = some true :=
  kitAny_cons (b := true) (kit_ty (by decide +kernel)) (fun z => nomatch z) (fun _ => rfl)
theorem kit_tup {K : PySem.W.Frag} : PySem.W.kitAny K (.type "tuple") [.type "list", .type "tuple"] = some true :=
  kitAny_cons (b := false) (kit_ty (by decide +kernel)) (fun _ => kitAny_cons (b := true) (kit_ty (by decide +kernel)) (fun z => nomatch z) (fun _ => rfl)) (fun _ => rfl)
end Mv
end

section
set_option Elab.async false
set_option linter.all false
set_option maxRecDepth 100000
set_option maxHeartbeats 4000000
/-! MvE1: is_number .. side_in. -/
namespace Mv
open PySem PySem.Spec PyProof.Rows L2 RZ
section
variable {P : Program} {w : World} {K : PySem.W.Frag} {mg : Str → Option Value} {base : Heap}
def sp_is_number : Sp := fun vs H Q _ => ∃ i, vs = [.int i] ∧ Q (.bl true) H
theorem c_is_number (T : Txt K mg) (D : DefOk K mg "is_number" s_is_number) : Cl P w K mg base 1 "is_number" P_is_number sp_is_number := by
  refine cl_of D (fun _ _ _ _ _ _ us hl => match us, hl with | [_], _ => rfl) sc_is_number (fun vs H Q E h => ?_) (fun f cdv A outer s H vs Q E hr h => ?_)
  · obtain ⟨i, rfl, _⟩ := h
    rfl
  obtain ⟨i, rfl, q⟩ := h
  refine ⟨_, (pss_one (ps_ret (pe_and (pe_callB call_isi (by rfl) T.z_isinstance (by decide +kernel) (pa_cons (pv 0) (pa_cons (pe_bltn (v := .ty "int") (by rfl) T.z_int (by decide +kernel) rfl) pa_nil))) (pe_one (pe_not (pe_callB call_isi (by rfl) T.z_isinstance (by decide +kernel) (pa_cons (pv 0) (pa_cons (pe_bltn (v := .ty "bool") (by rfl) T.z_bool (by decide +kernel) rfl) pa_nil)))))))), ?_⟩
  refine ⟨_, rfl, .int i, .ty "int", _, _, true, rfl, .ty "int", ty_int i, kit_ty (by decide +kernel), true, rfl, iteT ?_⟩
  exact ⟨_, rfl, .int i, .ty "bool", _, _, false, rfl, .ty "bool", ty_int i, kit_ty (by decide +kernel), false, rfl, q⟩
def sp_is_from : Sp := fun vs H Q _ => ∃ i j : Int, vs = [.int i, .int j] ∧ Q (.bl (decide (i ≥ j))) H
theorem c_is_from (T : Txt K mg) (D : DefOk K mg "is_from" s_is_from) (C_is_number : Cl P w K mg base 1 "is_number" P_is_number sp_is_number) : Cl P w K mg base 2 "is_from" P_is_from sp_is_from := by
  refine cl_of D (fun _ _ _ _ _ _ us hl => match us, hl with | [_, _], _ => rfl) sc_is_from (fun vs H Q E h => ?_) (fun f cdv A outer s H vs Q E hr h => ?_)
  · obtain ⟨i, j, rfl, _⟩ := h
    rfl
  obtain ⟨i, j, rfl, q⟩ := h
  refine ⟨_, (pss_one (ps_ret (pe_and (pe_cl C_is_number hr (by omega) (by rfl) (pa_cons (pv 0) pa_nil)) (pe_one (pe_cmpR op_ge (pv 0) (pv 1) (nomark _)))))), ?_⟩
  refine ⟨_, rfl, i, rfl, true, rfl, iteT ?_⟩
  exact ⟨_, rfl, _, rfl, i, j, rfl, rfl, q⟩
def sp_is_long (K : PySem.W.Frag) : Sp := fun vs H Q _ => ∃ (a : Addr) (xs : List V) (n : Int), vs = [.ref a, .int n] ∧ SqT K H a xs ∧ Q (.bl (decide (((xs.length : Nat) : Int) = n))) H
theorem c_is_long (T : Txt K mg) (D : DefOk K mg "is_long" s_is_long) : Cl P w K mg base 1 "is_long" P_is_long (sp_is_long K) := by
  refine cl_of D (fun _ _ _ _ _ _ us hl => match us, hl with | [_, _], _ => rfl) sc_is_long (fun vs H Q E h => ?_) (fun f cdv A outer s H vs Q E hr h => ?_)
  · obtain ⟨a, xs, n, rfl, _⟩ := h
    rfl
  obtain ⟨a, xs, n, rfl, hs, q⟩ := h
  refine ⟨_, (pss_one (ps_ret (pe_and (pe_callB call_isi (by rfl) T.z_isinstance (by decide +kernel) (pa_cons (pv 0) (pa_cons (pe_bltn (v := .ty "tuple") (by rfl) T.z_tuple (by decide +kernel) rfl) pa_nil))) (pe_one (pe_cmpR op_eq (pe_callB call_len_seq (by rfl) T.z_len (by decide +kernel) (pa_cons (pv 0) pa_nil)) (pv 1) (nomark _)))))), ?_⟩
  refine ⟨_, rfl, .ref a, .ty "tuple", _, _, true, rfl, .ty "tuple", ty_tup hs, kit_ty (by decide +kernel), true, rfl, iteT ?_⟩
  refine ⟨_, rfl, a, xs, rfl, .inr hs, _, rfl, rfl, ?_⟩
  have e : decide (V.int ((xs.length : Nat) : Int) = V.int n) = decide (((xs.length : Nat) : Int) = n) := by
    rw [dec_int, Bool.beq_eq_decide_eq]
  show Q (.bl (decide (V.int ((xs.length : Nat) : Int) = V.int n))) H
  rw [e]
  exact q
/-! ### tupled -/
def TupR : Nat → PyData → PyData → Prop
  | 0, d, e => ∃ i, d = .int i ∧ e = .int i
  | n + 1, d, e => (∃ i, d = .int i ∧ e = .int i) ∨ ∃ ds es, (d = .list ds ∨ d = .tuple ds) ∧ e = .tuple es ∧ ds.length ≤ 1000 ∧ Paired (TupR n) ds es
theorem paired_at {α β : Type} {F : α → β → Prop} : ∀ {xs : List α} {zs : List β} {i : Nat} {x : α}, Paired F xs zs → xs[i]? = some x → ∃ z, zs[i]? = some z ∧ F x z
  | _, _, _, _, .nil, e => by simp at e
  | _, _, 0, x, .cons a t, e => by simp only [List.getElem?_cons_zero, Option.some.injEq] at e; subst e; exact ⟨_, rfl, a⟩
  | _, _, i + 1, x, .cons a t, e => by
    obtain ⟨z, h1, h2⟩ := paired_at (i := i) t (by simpa using e)
    exact ⟨z, by simpa using h1, h2⟩
def sp_tupled (K : PySem.W.Frag) : Nat → Sp
  | 0 => fun _ _ _ _ => False
  | n + 1 => fun vs H Q _ => ∃ (v : V) (d e : PyData), vs = [v] ∧ Dp K H v d ∧ TupR n d e ∧ ∀ r H', Same H H' → Dq K (fun _ => False) H' r e → Q r H'
theorem cl_false {x : Str} {st : Stmt} {ps : List Str} (D : DefOk K mg x st)
    (hb : ∀ (kV doc pm : Value) (an : Option Addr) (cdv ct : Value) (us : List Value), us.length = ps.length → bindArgs (PySem.W.fnOf x x (defArgs st) (defBody st) (defScope st) .none kV doc pm an cdv ct) ⟨us, []⟩ = pure (ps.zip us)) :
    Cl P w K mg base 0 x ps (fun _ _ _ _ => False) := by
  obtain ⟨f, fd, F, hm⟩ := D.ex
  exact ⟨f, fd, ⟨fun vs H Q E h => h.elim, fun A outer s H args us vs Q E _ _ _ _ h => h.elim⟩, hm, F.kp, F.binds hb⟩
theorem c_tupled (T : Txt K mg) (D : DefOk K mg "tupled" s_tupled) : ∀ n : Nat, Cl P w K mg base n "tupled" P_tupled (sp_tupled K n)
  | 0 => cl_false D (fun _ _ _ _ _ _ us hl => match us, hl with | [_], _ => rfl)
  | n + 1 => by
    have C_tupled := c_tupled T D n
    refine cl_of D (fun _ _ _ _ _ _ us hl => match us, hl with | [_], _ => rfl) sc_tupled (fun vs H Q E h => ?_) (fun f cdv A outer s H vs Q E hr h => ?_)
    · obtain ⟨v, d, e, rfl, _⟩ := h
      rfl
    obtain ⟨v, d, e, rfl, hd, ht, q⟩ := h
    refine ⟨_, (pss_one (ps_ret (pe_ifExp (pt_val (pe_callB call_isiT (by rfl) T.z_isinstance (by decide +kernel) (pa_cons (pv 0) (pa_cons (pe_tup (pa_cons (pe_bltn (v := .ty "list") (by rfl) T.z_list (by decide +kernel) rfl) (pa_cons (pe_bltn (v := .ty "tuple") (by rfl) T.z_tuple (by decide +kernel) rfl) pa_nil))) pa_nil)))) (pe_callTy call_tuple_of (by rfl) T.z_tuple (by decide +kernel) (pa_cons (pe_lc (own := [("own", 1)]) (by rfl) sc_tupled.nd (pi_seq (pv 0)) (blkOk_by (N := N_tupled) (sc := defScope s_tupled) (by decide +kernel)) (fun _ _ _ _ _ => (pg_name (i := 1) sc_tupled.nd rfl (.inl rfl))) (fun _ _ _ _ _ => pts_nil) (fun _ _ _ _ _ => (pe_cl C_tupled hr (by omega) (by rfl) (pa_cons (pv 1) pa_nil)))) pa_nil)) (pv 0)))), ?_⟩
    -- isinstance(value, (list, tuple)): the tuple of classes is new
    have main : (∃ i, d = .int i ∧ e = .int i) ∨ ∃ m ds es, n = m + 1 ∧ (d = .list ds ∨ d = .tuple ds) ∧ e = .tuple es ∧ ds.length ≤ 1000 ∧ Paired (TupR m) ds es := by
      cases n with
      | zero => exact .inl ht
      | succ m =>
        rcases ht with h | ⟨ds, es, h1, h2, h3, h4⟩
        · exact .inl h
        · exact .inr ⟨m, ds, es, rfl, h1, h2, h3, h4⟩
    refine ⟨_, rfl, by decide, fun tp ntp => ?_⟩
    have s1 : Same H (upd H tp (.tup [.ty "list", .ty "tuple"])) := same_upd ntp
    rcases main with ⟨i, rfl, rfl⟩ | ⟨m, ds, es, rfl, hds, rfl, hl, hp⟩
    · have ev := dp_int_inv hd
      subst ev
      refine ⟨_, tp, _, _, _, false, rfl, upd_same, .cons (.ty "list") (.cons (.ty "tuple") .nil), ty_int i, kit_int, false, rfl, iteF ?_⟩
      exact ⟨_, rfl, q _ _ s1 (.int i)⟩
    · have hle : es.length ≤ 5000 := by rw [← Paired.length hp]; omega
      -- one turn, the same over a list and a tuple
      have turn : ∀ (D0 : Addr) (i : Nat) (x : V) (H3 : Hp) (xs : List V), (upd H tp (.tup [.ty "list", .ty "tuple"])) D0 = none → DpAll K H xs ds → xs[i]? = some x → PvD K (fun _ => False) (upd H tp (.tup [.ty "list", .ty "tuple"])) D0 es i H3 → ∀ E',
          sp_tupled K (m + 1) [x] H3 (fun y H4 => ∃ acc, H4 D0 = some (.lst acc) ∧ acc.length < sizeLine ∧ PvD K (fun _ => False) (upd H tp (.tup [.ty "list", .ty "tuple"])) D0 es (i + 1) (upd H4 D0 (.lst (acc ++ [y])))) E' := by
        intro D0 i x H3 xs nD ha hx p E'
        obtain ⟨d', hd', dx⟩ := dpAll_at ha hx
        obtain ⟨e', he', te⟩ := paired_at hp hd'
        exact ⟨x, d', e', rfl, Dp.same dx (s1.trans p.1), te, fun y H4 s4 hy => pvd_next nD (fun z => z) p s4 hle he' hy⟩
      -- the end: tuple(..)
      have fin : ∀ (D0 : Addr) (H5 : Hp), PvD K (fun _ => False) (upd H tp (.tup [.ty "list", .ty "tuple"])) D0 es es.length H5 → ∀ Q' : VK, (∀ r H', Same H H' → Dq K (fun _ => False) H' r (.tuple es) → Q' r H') →
          ∃ p ys, [V.ref D0] = [.ref p] ∧ ((SqL K H5 p ys ∧ ∀ l, H5 l = none → Q' (.ref l) (upd H5 l (.tup ys))) ∨ (SqT K H5 p ys ∧ Q' (.ref p) H5)) := by
        intro D0 H5 p Q' k
        obtain ⟨s5, acc, hD, ha⟩ := p
        rw [List.take_length] at ha
        refine ⟨D0, acc, rfl, .inl ⟨SqL.of hD, fun l nl => ?_⟩⟩
        exact k _ _ (s1.trans (s5.trans (same_upd nl))) (.tup (SqT.of upd_same) (ha.same (same_upd nl)))
      rcases hds with rfl | rfl
      · obtain ⟨a, xs, rfl, hs, ha⟩ := dp_lst_inv hd
        have lx := dpAll_len ha
        refine ⟨_, tp, _, _, _, true, rfl, upd_same, .cons (.ty "list") (.cons (.ty "tuple") .nil), ty_lst (s1.seq hs), kit_lst, true, rfl, iteT ?_⟩
        refine ⟨_, rfl, a, rfl, .inl ⟨⟨_, s1.seq hs⟩, fun D0 nD => lc_list (K := K) (a := a) (xs := xs) (PvD K (fun _ => False) _ D0 es) (pvd_0 nD) (fun i H3 _ p => p.1.seq (s1.seq hs)) (fun i x H3 hx p => ?_) (fun H5 p => ?_)⟩⟩
        · refine ⟨rfl, ?_⟩
          exact ⟨x, rfl, turn D0 i x H3 xs nD ha hx p E0⟩
        · rw [lx, Paired.length hp] at p
          exact fin D0 H5 p _ q
      · obtain ⟨a, xs, rfl, hs, ha⟩ := dp_tup_inv hd
        have lx := dpAll_len ha
        refine ⟨_, tp, _, _, _, true, rfl, upd_same, .cons (.ty "list") (.cons (.ty "tuple") .nil), ty_tup (same_sqT s1 hs), kit_tup, true, rfl, iteT ?_⟩
        refine ⟨_, rfl, a, rfl, .inr ⟨⟨_, same_sqT s1 hs⟩, fun D0 nD => lc_tup (K := K) (a := a) (xs := xs) (PvD K (fun _ => False) _ D0 es) (pvd_0 nD) (fun i H3 _ p => same_sqT p.1 (same_sqT s1 hs)) (fun i x H3 hx p => ?_) (fun H5 p => ?_)⟩⟩
        · refine ⟨rfl, ?_⟩
          exact ⟨x, rfl, turn D0 i x H3 xs nD ha hx p E0⟩
        · rw [lx, Paired.length hp] at p
          exact fin D0 H5 p _ q
end
end Mv
end

section
set_option Elab.async false
set_option linter.all false
set_option maxRecDepth 100000
set_option maxHeartbeats 4000000
/-! MvE2: set_of .. arcs_in. -/
namespace Mv
open PySem PySem.Spec PyProof.Rows L2 RZ
/-- a comprehension that makes flat values -/
def PvV (H1 : Hp) (D : Addr) (vs : List V) (i : Nat) (H3 : Hp) : Prop := Same H1 H3 ∧ H3 D = some (.lst (vs.take i))
theorem pvv_0 {H1 : Hp} {D : Addr} {vs : List V} (n : H1 D = none) : PvV H1 D vs 0 (upd H1 D (.lst [])) := ⟨same_upd n, upd_same⟩
theorem pvv_next {H1 H3 H4 : Hp} {D : Addr} {vs : List V} {i : Nat} {y : V} (n : H1 D = none) (p : PvV H1 D vs i H3) (s4 : Same H3 H4) (hl : vs.length ≤ 5000) (he : vs[i]? = some y) :
    ∃ acc, H4 D = some (.lst acc) ∧ acc.length < sizeLine ∧ PvV H1 D vs (i + 1) (upd H4 D (.lst (acc ++ [y]))) := by
  obtain ⟨s3, hD⟩ := p
  refine ⟨_, s4 _ _ hD, szlt (by rw [List.length_take]; omega), same_mut (s3.trans s4) n, ?_⟩
  rw [upd_same, List.take_add_one, he]
  rfl
/-- .. of the numbers from 0 on that pass a test -/
def PvP (H1 : Hp) (D : Addr) (F : Int → Bool) (i : Nat) (H3 : Hp) : Prop := Same H1 H3 ∧ H3 D = some (.lst ((passed F i).map V.int))
theorem pvp_0 {H1 : Hp} {D : Addr} {F : Int → Bool} (n : H1 D = none) : PvP H1 D F 0 (upd H1 D (.lst [])) := ⟨same_upd n, upd_same⟩
theorem pvp_take {H1 H3 : Hp} {D : Addr} {F : Int → Bool} {i : Nat} {y : Int} (n : H1 D = none) (p : PvP H1 D F i H3) (hi : i ≤ 5000) (ey : y = (i : Int)) (h : F (i : Int) = true) :
    ∃ acc, H3 D = some (.lst acc) ∧ acc.length < sizeLine ∧ PvP H1 D F (i + 1) (upd H3 D (.lst (acc ++ [.int y]))) := by
  obtain ⟨s3, hD⟩ := p
  have l := passed_len F i
  refine ⟨_, hD, szlt (by rw [List.length_map]; omega), same_mut s3 n, ?_⟩
  rw [upd_same, passed_succ, if_pos h, List.map_append, ey]
  rfl
theorem pvp_skip {H1 H3 : Hp} {D : Addr} {F : Int → Bool} {i : Nat} (p : PvP H1 D F i H3) (h : ¬ F (i : Int) = true) : PvP H1 D F (i + 1) H3 := by
  obtain ⟨s3, hD⟩ := p
  refine ⟨s3, ?_⟩
  rw [passed_succ, if_neg h, List.append_nil]
  exact hD
theorem at_map {α β : Type} {f : α → β} {l : List α} {i : Nat} {x : β} (h : (l.map f)[i]? = some x) : ∃ a, l[i]? = some a ∧ x = f a := by
  rw [List.getElem?_map] at h
  cases e : l[i]? with
  | none => rw [e] at h; cases h
  | some a => rw [e] at h; exact ⟨a, rfl, (Option.some.inj h).symm⟩
theorem sd3 (t : T3) : SeqAt.shaped (dT t) = true := by
  have h : (dT t).depth ≤ 64 := by simp [dT, PyData.depth, PyData.depthAll]
  show ((dT t).canLay0 && decide ((dT t).depth ≤ 64)) = true
  rw [Bool.and_eq_true]
  exact ⟨by simp [dT, PyData.canLay0, PyData.canLayAll0], decide_eq_true h⟩
theorem sdR : SeqAt.shaped (.list (ring.map dT)) = true := by
  have h : PyData.depth (.list (ring.map dT)) ≤ 64 := by simp [ring, dT, PyData.depth, PyData.depthAll]
  show (PyData.canLay0 (.list (ring.map dT)) && decide (PyData.depth (.list (ring.map dT)) ≤ 64)) = true
  rw [Bool.and_eq_true]
  exact ⟨by simp [ring, dT, PyData.canLay0, PyData.canLayAll0], decide_eq_true h⟩
theorem eqv3 (t u : T3) : PyData.eqv (dT t) (dT u) = decide (t = u) := by
  obtain ⟨a, b, c⟩ := t
  obtain ⟨a', b', c'⟩ := u
  have e : PyData.eqv (dT (a, b, c)) (dT (a', b', c')) = ((a == a') && ((b == b') && ((c == c') && true))) := by simp only [dT, PyData.eqv, PyData.eqvAll]
  rw [e]
  by_cases h1 : a = a'
  · by_cases h2 : b = b'
    · by_cases h3 : c = c'
      · subst h1 h2 h3; simp
      · simp [h3]
    · simp [h2]
  · simp [h1]
theorem in_ring {t : T3} (h : t ∈ ring) : ((ring.map dT).any fun z => PyData.eqv z (dT t)) = true := by
  rw [List.any_map]
  refine List.any_eq_true.mpr ⟨t, h, ?_⟩
  show PyData.eqv (dT t) (dT t) = true
  rw [eqv3]
  exact decide_eq_true rfl
theorem place_at : ∀ t ∈ ring, ring[ring.idxOf t]? = some t ∧ (∀ m, m < ring.idxOf t → ring[m]? ≠ some t) ∧ ring.idxOf t < 6 := by decide
/-- what tuple.index and list.index ask -/
theorem place_use {t : T3} (h : t ∈ ring) : ∃ (j : Nat) (z : PyData), (ring.map dT)[j]? = some z ∧ PyData.eqv z (dT t) = true ∧ (∀ (m : Nat) (z' : PyData), m < j → (ring.map dT)[m]? = some z' → PyData.eqv z' (dT t) = false) ∧ ((j : Nat) : Int) = placeZ t := by
  obtain ⟨h1, h2, _⟩ := place_at t h
  refine ⟨ring.idxOf t, dT t, ?_, ?_, fun m z' hm hz => ?_, rfl⟩
  · rw [List.getElem?_map, h1]; rfl
  · rw [eqv3]; exact decide_eq_true rfl
  · obtain ⟨u, hu, rfl⟩ := at_map hz
    rw [eqv3]
    exact decide_eq_false fun e => h2 m hm (e ▸ hu)
theorem place_lt {t : T3} (h : t ∈ ring) : 0 ≤ placeZ t ∧ placeZ t < 6 := by
  have := (place_at t h).2.2
  unfold placeZ
  omega
section
variable {P : Program} {w : World} {K : PySem.W.Frag} {mg : Str → Option Value} {base : Heap}
def sp_are_numbers (K : PySem.W.Frag) : Sp := fun vs H Q _ => ∃ (a : Addr) (ns : List Int), vs = [.ref a] ∧ SqT K H a (ns.map V.int) ∧ ns.length ≤ 1000 ∧ ∀ H', Same H H' → Q (.bl true) H'
theorem all_true (n : Nat) : (List.replicate n true).all id = true := by
  induction n with
  | zero => rfl
  | succ n ih => rw [List.replicate_succ, List.all_cons, ih]; rfl
theorem c_are_numbers (T : Txt K mg) (D : DefOk K mg "are_numbers" s_are_numbers) (C_is_number : Cl P w K mg base 1 "is_number" P_is_number sp_is_number) : Cl P w K mg base 2 "are_numbers" P_are_numbers (sp_are_numbers K) := by
  refine cl_of D (fun _ _ _ _ _ _ us hl => match us, hl with | [_], _ => rfl) sc_are_numbers (fun vs H Q E h => ?_) (fun f cdv A outer s H vs Q E hr h => ?_)
  · obtain ⟨a, ns, rfl, _⟩ := h
    rfl
  obtain ⟨a, ns, rfl, hs, hl, q⟩ := h
  refine ⟨_, (pss_one (ps_ret (pe_and (pe_callB call_isi (by rfl) T.z_isinstance (by decide +kernel) (pa_cons (pv 0) (pa_cons (pe_bltn (v := .ty "tuple") (by rfl) T.z_tuple (by decide +kernel) rfl) pa_nil))) (pe_one (pe_callB (cr_all rfl) (by rfl) T.z_all (by decide +kernel) (pa_cons (pe_lc (own := [("own", 1)]) (by rfl) sc_are_numbers.nd (pi_tup (pv 0)) (blkOk_by (N := N_are_numbers) (sc := defScope s_are_numbers) (by decide +kernel)) (fun _ _ _ _ _ => (pg_name (i := 1) sc_are_numbers.nd rfl (.inl rfl))) (fun _ _ _ _ _ => pts_nil) (fun _ _ _ _ _ => (pe_cl C_is_number hr (by omega) (by rfl) (pa_cons (pv 1) pa_nil)))) pa_nil)))))), ?_⟩
  refine ⟨_, rfl, .ref a, .ty "tuple", _, _, true, rfl, .ty "tuple", ty_tup hs, kit_ty (by decide +kernel), true, rfl, iteT ?_⟩
  refine ⟨_, rfl, a, rfl, ⟨_, hs⟩, fun D nD => lc_tup (K := K) (a := a) (xs := ns.map V.int) (PvV H D ((List.replicate ns.length true).map V.bl)) (pvv_0 nD) (fun i H3 _ p => same_sqT p.1 hs) (fun i x H3 hx p => ?_) (fun H5 p => ?_)⟩
  · obtain ⟨z, hz, rfl⟩ := at_map hx
    have hi : i < ns.length := (List.getElem?_eq_some_iff.mp hz).1
    refine ⟨rfl, ?_⟩
    refine ⟨_, rfl, z, rfl, pvv_next nD p (Same.refl _) (by rw [List.length_map, List.length_replicate]; omega) ?_⟩
    rw [List.getElem?_map, List.getElem?_replicate, if_pos hi]
    rfl
  · obtain ⟨s5, hD⟩ := p
    rw [List.length_map, List.take_of_length_le (by rw [List.length_map, List.length_replicate]; omega)] at hD
    refine ⟨D, List.replicate ns.length true, rfl, SqL.of hD, ?_⟩
    rw [all_true]
    exact q H5 s5
def sp_is_chest (K : PySem.W.Frag) : Sp := fun vs H Q _ => ∃ (a : Addr) (c : T3), vs = [.ref a] ∧ SqT K H a [.int c.1, .int c.2.1, .int c.2.2] ∧ (1 ≤ c.1 ∧ 1 ≤ c.2.1 ∧ 1 ≤ c.2.2) ∧ ∀ H', Same H H' → Q (.bl true) H'
theorem c_is_chest (T : Txt K mg) (D : DefOk K mg "is_chest" s_is_chest) (C_is_long : Cl P w K mg base 1 "is_long" P_is_long (sp_is_long K)) (C_is_from : Cl P w K mg base 2 "is_from" P_is_from sp_is_from) : Cl P w K mg base 3 "is_chest" P_is_chest (sp_is_chest K) := by
  refine cl_of D (fun _ _ _ _ _ _ us hl => match us, hl with | [_], _ => rfl) sc_is_chest (fun vs H Q E h => ?_) (fun f cdv A outer s H vs Q E hr h => ?_)
  · obtain ⟨a, ns, rfl, _⟩ := h
    rfl
  obtain ⟨a, c, rfl, hs, hc, q⟩ := h
  refine ⟨_, (pss_one (ps_ret (pe_and (pe_cl C_is_long hr (by omega) (by rfl) (pa_cons (pv 0) (pa_cons pe_int pa_nil))) (pe_one (pe_callB (cr_all rfl) (by rfl) T.z_all (by decide +kernel) (pa_cons (pe_lc (own := [("own", 1)]) (by rfl) sc_is_chest.nd (pi_tup (pv 0)) (blkOk_by (N := N_is_chest) (sc := defScope s_is_chest) (by decide +kernel)) (fun _ _ _ _ _ => (pg_name (i := 1) sc_is_chest.nd rfl (.inl rfl))) (fun _ _ _ _ _ => pts_nil) (fun _ _ _ _ _ => (pe_cl C_is_from hr (by omega) (by rfl) (pa_cons (pv 1) (pa_cons pe_int pa_nil))))) pa_nil)))))), ?_⟩
  refine ⟨_, rfl, a, _, 3, rfl, hs, true, rfl, iteT ?_⟩
  refine ⟨_, rfl, a, rfl, ⟨_, hs⟩, fun D nD => lc_tup (K := K) (a := a) (xs := [.int c.1, .int c.2.1, .int c.2.2]) (PvV H D ([true, true, true].map V.bl)) (pvv_0 nD) (fun i H3 _ p => same_sqT p.1 hs) (fun i x H3 hx p => ?_) (fun H5 p => ?_)⟩
  · obtain ⟨z, hz, rfl⟩ := at_map (l := [c.1, c.2.1, c.2.2]) (f := V.int) hx
    have hi : i < 3 := (List.getElem?_eq_some_iff.mp hz).1
    have h1 : z ≥ 1 := by
      have hm := List.mem_of_getElem? hz
      simp only [List.mem_cons, List.not_mem_nil, or_false] at hm
      omega
    refine ⟨rfl, ?_⟩
    refine ⟨_, rfl, z, 1, rfl, ?_⟩
    rw [decide_eq_true h1]
    refine pvv_next nD p (Same.refl _) (by decide) ?_
    have : i = 0 ∨ i = 1 ∨ i = 2 := by omega
    rcases this with rfl | rfl | rfl <;> rfl
  · obtain ⟨s5, hD⟩ := p
    exact ⟨D, [true, true, true], rfl, SqL.of hD, q H5 s5⟩
def sp_sure_chest (K : PySem.W.Frag) : Sp := fun vs H Q _ => ∃ (v : V) (d : PyData) (c : T3), vs = [v] ∧ Dp K H v d ∧ TupR 1 d (dT c) ∧ (1 ≤ c.1 ∧ 1 ≤ c.2.1 ∧ 1 ≤ c.2.2) ∧ ∀ r H', Same H H' → Dp K H' r (dT c) → Q r H'
theorem c_sure_chest (T : Txt K mg) (D : DefOk K mg "sure_chest" s_sure_chest) (C_tupled : Cl P w K mg base 2 "tupled" P_tupled (sp_tupled K 2)) (C_is_chest : Cl P w K mg base 3 "is_chest" P_is_chest (sp_is_chest K)) : Cl P w K mg base 4 "sure_chest" P_sure_chest (sp_sure_chest K) := by
  refine cl_of D (fun _ _ _ _ _ _ us hl => match us, hl with | [_], _ => rfl) sc_sure_chest (fun vs H Q E h => ?_) (fun f cdv A outer s H vs Q E hr h => ?_)
  · obtain ⟨v, d, c, rfl, _⟩ := h
    rfl
  obtain ⟨v, d, c, rfl, hd, ht, hc, q⟩ := h
  refine ⟨_, (pss_cons (ps_set (i := 1) sc_sure_chest.nd rfl (.inl rfl) (pe_cl C_tupled hr (by omega) (by rfl) (pa_cons (pv 0) pa_nil)))
    (pss_cons (ps_if (pt_not (pt_val (pe_cl C_is_chest hr (by omega) (by rfl) (pa_cons (pv 1) pa_nil)))) (pss_one ps_never) pss_nil)
    (pss_one (ps_ret (pv 1))))), ?_⟩
  refine ⟨_, rfl, v, d, dT c, rfl, hd, ht, fun r H1 s1 h1 => ?_⟩
  obtain ⟨a, rfl, h2⟩ := dpT_inv h1.dp
  refine ⟨_, rfl, a, c, rfl, h2, hc, fun H2 s2 => ⟨true, rfl, iteF ?_⟩⟩
  exact ⟨_, rfl, q _ H2 (s1.trans s2) (dpT_mk (same_sqT s2 h2))⟩
def sp_is_shape (K : PySem.W.Frag) : Sp := fun vs H Q _ => ∃ (v : V) (t : T3), vs = [v] ∧ Dp K H v (dT t) ∧ t ∈ ring ∧ ∀ H', Same H H' → Q (.bl true) H'
theorem c_is_shape (T : Txt K mg) (D : DefOk K mg "is_shape" s_is_shape) (C_is_long : Cl P w K mg base 1 "is_long" P_is_long (sp_is_long K)) (C_is_number : Cl P w K mg base 1 "is_number" P_is_number sp_is_number) : Cl P w K mg base 3 "is_shape" P_is_shape (sp_is_shape K) := by
  refine cl_of D (fun _ _ _ _ _ _ us hl => match us, hl with | [_], _ => rfl) sc_is_shape (fun vs H Q E h => ?_) (fun f cdv A outer s H vs Q E hr h => ?_)
  · obtain ⟨a, ns, rfl, _⟩ := h
    rfl
  obtain ⟨v, t, rfl, hd, ht, q⟩ := h
  obtain ⟨a, rfl, hs⟩ := dpT_inv hd
  refine ⟨_, (pss_one (ps_ret (pe_and (pe_cl C_is_long hr (by omega) (by rfl) (pa_cons (pv 0) (pa_cons pe_int pa_nil))) (pe_and (pe_callB (cr_all rfl) (by rfl) T.z_all (by decide +kernel) (pa_cons (pe_lc (own := [("own", 1)]) (by rfl) sc_is_shape.nd (pi_tup (pv 0)) (blkOk_by (N := N_is_shape) (sc := defScope s_is_shape) (by decide +kernel)) (fun _ _ _ _ _ => (pg_name (i := 1) sc_is_shape.nd rfl (.inl rfl))) (fun _ _ _ _ _ => pts_nil) (fun _ _ _ _ _ => (pe_cl C_is_number hr (by omega) (by rfl) (pa_cons (pv 1) pa_nil)))) pa_nil)) (pe_one (pe_cmpR (r := rInTD K) (op_inTD (units65 hr)) (pv 0) (pe_glob (v := .ref T.a_RING) (by rfl) T.g_RING rfl) rfl)))))), ?_⟩
  refine ⟨_, rfl, a, _, 3, rfl, hs, true, rfl, iteT ?_⟩
  refine ⟨_, rfl, a, rfl, ⟨_, hs⟩, fun D nD => lc_tup (K := K) (a := a) (xs := [.int t.1, .int t.2.1, .int t.2.2]) (PvV H D ([true, true, true].map V.bl)) (pvv_0 nD) (fun i H3 _ p => same_sqT p.1 hs) (fun i x H3 hx p => ?_) (fun H5 p => ?_)⟩
  · obtain ⟨z, hz, rfl⟩ := at_map (l := [t.1, t.2.1, t.2.2]) (f := V.int) hx
    have hi : i < 3 := (List.getElem?_eq_some_iff.mp hz).1
    refine ⟨rfl, ?_⟩
    refine ⟨_, rfl, z, rfl, pvv_next nD p (Same.refl _) (by decide) ?_⟩
    have : i = 0 ∨ i = 1 ∨ i = 2 := by omega
    rcases this with rfl | rfl | rfl <;> rfl
  · obtain ⟨s5, hD⟩ := p
    refine ⟨D, [true, true, true], rfl, SqL.of hD, true, rfl, iteT ?_⟩
    refine ⟨_, rfl, dT t, ring.map dT, dpT_mk (same_sqT s5 hs), T.d_RING _, sd3 t, sdR, ?_⟩
    rw [in_ring ht]
    exact q H5 s5
def sp_sure_shape (K : PySem.W.Frag) : Sp := fun vs H Q _ => ∃ (v : V) (d : PyData) (t : T3), vs = [v] ∧ Dp K H v d ∧ TupR 1 d (dT t) ∧ t ∈ ring ∧ ∀ r H', Same H H' → Dp K H' r (dT t) → Q r H'
theorem c_sure_shape (T : Txt K mg) (D : DefOk K mg "sure_shape" s_sure_shape) (C_tupled : Cl P w K mg base 2 "tupled" P_tupled (sp_tupled K 2)) (C_is_shape : Cl P w K mg base 3 "is_shape" P_is_shape (sp_is_shape K)) : Cl P w K mg base 4 "sure_shape" P_sure_shape (sp_sure_shape K) := by
  refine cl_of D (fun _ _ _ _ _ _ us hl => match us, hl with | [_], _ => rfl) sc_sure_shape (fun vs H Q E h => ?_) (fun f cdv A outer s H vs Q E hr h => ?_)
  · obtain ⟨v, d, c, rfl, _⟩ := h
    rfl
  obtain ⟨v, d, c, rfl, hd, ht, hc, q⟩ := h
  refine ⟨_, (pss_cons (ps_set (i := 1) sc_sure_shape.nd rfl (.inl rfl) (pe_cl C_tupled hr (by omega) (by rfl) (pa_cons (pv 0) pa_nil)))
    (pss_cons (ps_if (pt_not (pt_val (pe_cl C_is_shape hr (by omega) (by rfl) (pa_cons (pv 1) pa_nil)))) (pss_one ps_never) pss_nil)
    (pss_one (ps_ret (pv 1))))), ?_⟩
  refine ⟨_, rfl, v, d, dT c, rfl, hd, ht, fun r H1 s1 h1 => ?_⟩
  refine ⟨_, rfl, r, c, rfl, h1.dp, hc, fun H2 s2 => ⟨true, rfl, iteF ?_⟩⟩
  exact ⟨_, rfl, q _ H2 (s1.trans s2) (Dp.same h1.dp s2)⟩
def sp_place_in (K : PySem.W.Frag) : Sp := fun vs H Q _ => ∃ (v : V) (t : T3), vs = [v] ∧ Dp K H v (dT t) ∧ t ∈ ring ∧ Q (.int (placeZ t)) H
theorem c_place_in (T : Txt K mg) (D : DefOk K mg "place_in" s_place_in) : Cl P w K mg base 1 "place_in" P_place_in (sp_place_in K) := by
  refine cl_of D (fun _ _ _ _ _ _ us hl => match us, hl with | [_], _ => rfl) sc_place_in (fun vs H Q E h => ?_) (fun f cdv A outer s H vs Q E hr h => ?_)
  · obtain ⟨v, t, rfl, _⟩ := h
    rfl
  obtain ⟨v, t, rfl, hd, ht, q⟩ := h
  refine ⟨_, (pss_one (ps_ret (pe_bm PySem.F.plainAttrs_tuple PySem.F.slot_tuple_index PySem.F.type_tuple_index (mt_tindexD (units65 hr)) (pe_glob (v := .ref T.a_RING) (by rfl) T.g_RING rfl) (pa_cons (pv 0) pa_nil)))), ?_⟩
  obtain ⟨j, z, h1, h2, h3, h4⟩ := place_use ht
  obtain ⟨vs, hk⟩ := T.t_RING
  refine ⟨.inr (.inl ⟨rfl, hk.ty⟩), _, rfl, T.a_RING, v, dT t, ring.map dT, j, z, rfl, rfl, T.d_RING _, hd, sdR, sd3 t, h1, h2, h3, ?_⟩
  rw [h4]
  exact q
def sp_side_in : Sp := fun vs H Q _ => ∃ k : Int, vs = [.int k] ∧ k ∈ links6 ∧ Q (.int (acr k)) H
theorem acr_at : ∀ k ∈ links6, atI (across.map V.int) k = some (.int (acr k)) := by decide
theorem c_side_in (T : Txt K mg) (D : DefOk K mg "side_in" s_side_in) : Cl P w K mg base 1 "side_in" P_side_in sp_side_in := by
  refine cl_of D (fun _ _ _ _ _ _ us hl => match us, hl with | [_], _ => rfl) sc_side_in (fun vs H Q E h => ?_) (fun f cdv A outer s H vs Q E hr h => ?_)
  · obtain ⟨k, rfl, _⟩ := h
    rfl
  obtain ⟨k, rfl, hk, q⟩ := h
  refine ⟨_, (pss_one (ps_ret (pe_ix (r := rIxT K) ix_tup (pe_glob (v := .ref T.a_ACROSS) (by rfl) T.g_ACROSS rfl) (pv 0) (fun _ _ => rfl)))), ?_⟩
  exact ⟨_, rfl, T.a_ACROSS, _, k, _, rfl, rfl, T.d_ACROSS.sq H, acr_at k hk, q⟩
end
end Mv
end

section
set_option Elab.async false
set_option linter.all false
set_option maxRecDepth 100000
set_option maxHeartbeats 4000000
/-! MvE3: arcs_in. -/
namespace Mv
open PySem PySem.Spec PyProof.Rows L2 RZ
theorem inV_ints (k : Int) (ns : List Int) : inV (.int k) (ns.map V.int) = ns.any fun y => y == k := by
  unfold inV
  rw [List.any_map]
  rfl
theorem flat_ints (ns : List Int) : (ns.map V.int).all flatV = true := by
  rw [List.all_map]
  exact List.all_eq_true.mpr fun _ _ => rfl
section
variable {P : Program} {w : World} {K : PySem.W.Frag} {mg : Str → Option Value} {base : Heap}
def dA (arcs : List (List Int)) : PyData := .tuple (arcs.map dI)
def sp_arcs_in (K : PySem.W.Frag) : Sp := fun vs H Q _ => ∃ (v u : V) (t h : T3), vs = [v, u] ∧ Dp K H v (dT t) ∧ Dp K H u (dT h) ∧ t ∈ ring ∧ h ∈ ring ∧ ∀ r H', Same H H' → Dp K H' r (dA (arcs2 t h)) → Q r H'
theorem c_arcs_in (T : Txt K mg) (D : DefOk K mg "arcs_in" s_arcs_in) (C_place_in : Cl P w K mg base 1 "place_in" P_place_in (sp_place_in K)) : Cl P w K mg base 2 "arcs_in" P_arcs_in (sp_arcs_in K) := by
  refine cl_of D (fun _ _ _ _ _ _ us hl => match us, hl with | [_, _], _ => rfl) sc_arcs_in (fun vs H Q E h => ?_) (fun f cdv A outer s H vs Q E hr h => ?_)
  · obtain ⟨v, u, t, h, rfl, _⟩ := h
    rfl
  obtain ⟨v, u, t, h, rfl, hv, hu, ht, hh, q⟩ := h
  refine ⟨_, (pss_cons (ps_asg (pe_tup (pa_cons (pe_cl C_place_in hr (by omega) (by rfl) (pa_cons (pv 0) pa_nil)) (pa_cons (pe_cl C_place_in hr (by omega) (by rfl) (pa_cons (pv 1) pa_nil)) (pa_cons (pe_lst pa_nil) pa_nil)))) (pg_tup rfl (pgs_cons (pg_name (i := 2) sc_arcs_in.nd rfl (.inl rfl)) (pgs_cons (pg_name (i := 3) sc_arcs_in.nd rfl (.inl rfl)) (pgs_cons (pg_name (i := 4) sc_arcs_in.nd rfl (.inr rfl)) pgs_nil)))))
    (pss_cons (ps_while PassesOwn.never (pt_cmpR op_ne (pv 2) (pv 3) (nomark _)) (pss_cons (ps_expr (pe_bm PySem.F.plainAttrs_list PySem.F.slot_list_append PySem.F.type_list_append mt_append (pv 4) (pa_cons (pv 2) pa_nil)))
    (pss_one (ps_set (i := 2) sc_arcs_in.nd rfl (.inl rfl) (pe_op op_mod (pe_op op_add (pv 2) pe_int) pe_int)))))
    (pss_one (ps_ret (pe_tup (pa_cons (pe_callTy call_tuple_of (by rfl) T.z_tuple (by decide +kernel) (pa_cons (pe_callB cr_sorted (by rfl) T.z_sorted (by decide +kernel) (pa_cons (pv 4) pa_nil)) pa_nil)) (pa_cons (pe_callTy call_tuple_of (by rfl) T.z_tuple (by decide +kernel) (pa_cons (pe_lc (own := [("link", 5)]) (by rfl) sc_arcs_in.nd (pi_range1 (by rfl) T.z_range (pa_cons pe_int pa_nil)) (blkOk_by (N := N_arcs_in) (sc := defScope s_arcs_in) (by decide +kernel)) (fun _ _ _ _ _ => (pg_name (i := 5) sc_arcs_in.nd rfl (.inl rfl))) (fun _ _ _ _ _ => (pts_one (pt_cmpR (r := rIn K true) op_notIn_seq (pv 5) (pv 4) rfl))) (fun _ _ _ _ _ => (pv 5))) pa_nil)) pa_nil))))))), ?_⟩
  have ra := place_lt ht
  have rb := place_lt hh
  -- number, goal, found = place_in(shape), place_in(other), []
  refine ⟨_, rfl, v, t, rfl, hv, ht, _, rfl, u, h, rfl, hu, hh, Nat.zero_le _, fun l nl => ⟨sz (by simp), fun p np => ?_⟩⟩
  have s1 : Same H (upd H l (.lst [])) := same_upd nl
  have nlp : l ≠ p := fun e => by
    rw [← e, upd_same] at np
    cases np
  refine ⟨p, _, rfl, SqT.of upd_same, rfl, _, _, rfl, _, _, rfl, _, _, rfl, rfl, ?_⟩
  -- while number != goal
  refine ⟨fun m σ H3 => ∃ j : Nat, m = arcN (placeZ t) (placeZ h) - j ∧ j ≤ arcN (placeZ t) (placeZ h) ∧ σ = [some v, some u, some (.int ((placeZ t + (j : Int)) % 6)), some (.int (placeZ h)), some (.ref l), none] ∧ Same H H3 ∧ H3 l = some (.lst ((fnd (placeZ t) j).map V.int)),
    ⟨_, 0, rfl, Nat.zero_le _, ?_, s1.trans (same_upd np), ?_⟩, ?_⟩
  · have e : (placeZ t + ((0 : Nat) : Int)) % 6 = placeZ t := by omega
    rw [e]
    rfl
  · rw [upd_ne nlp, upd_same]
    rfl
  rintro m σ H3 ⟨j, rfl, hj, rfl, s3, h3⟩
  refine ⟨_, rfl, _, rfl, rfl, _, rfl, ?_⟩
  by_cases e : (placeZ t + (j : Int)) % 6 = placeZ h
  · -- the end
    have e2 : (!decide (V.int ((placeZ t + (j : Int)) % 6) = V.int (placeZ h))) = false := by rw [e, decide_eq_true rfl]; rfl
    rw [e2]
    refine iteF ?_
    have ej := (arc_end ra rb hj).mp e
    subst ej
    obtain ⟨a1, a2, a3⟩ := arcs_use ra rb
    have l5 := arcN_le (placeZ t) (placeZ h)
    refine ⟨_, rfl, l, _, rfl, SqL.of h3, by rw [fnd_len]; omega, fun ns' o p1 p2 no => ?_⟩
    have en : ns' = arcF (placeZ t) (placeZ h) := sorted_same (p1.trans a1) p2 a2
    subst en
    refine ⟨o, _, rfl, .inl ⟨SqL.of upd_same, fun x nx => ?_⟩⟩
    have s4 : Same H3 (upd (upd H3 o (.lst ((arcF (placeZ t) (placeZ h)).map V.int))) x (.tup ((arcF (placeZ t) (placeZ h)).map V.int))) := (same_upd no).trans (same_upd nx)
    -- tuple([link for link in range(6) if link not in found])
    refine ⟨6, rfl, by decide, by decide, fun D nD => lc_range (lo := 0) (n := 6) (PvP _ D (fun k => !(fnd (placeZ t) (arcN (placeZ t) (placeZ h))).any fun y => y == k)) (pvp_0 nD) (fun i H5 hi p => ?_) (fun H5 p => ?_)⟩
    · refine ⟨rfl, ?_⟩
      refine ⟨_, rfl, _, rfl, l, _, rfl, .inl (SqL.of (p.1 _ _ (s4 _ _ h3))), rfl, flat_ints _, _, rfl, ?_⟩
      rw [inV_ints]
      have ez : (0 : Int) + (i : Int) = (i : Int) := by omega
      rw [ez]
      show if (!(fnd (placeZ t) (arcN (placeZ t) (placeZ h))).any fun y => y == (i : Int)) = true then _ else _
      refine ite2 (fun c => ?_) (fun c => ?_)
      · exact ⟨_, rfl, pvp_take nD p (by omega) rfl c⟩
      · exact pvp_skip p c
    · obtain ⟨s5, hD⟩ := p
      refine ⟨D, _, rfl, .inl ⟨SqL.of hD, fun y ny => ?_⟩⟩
      refine ⟨sz (by simp), fun r nr => ?_⟩
      have s6 := s5.trans (same_upd (o := .tup ((passed (fun k => !(fnd (placeZ t) (arcN (placeZ t) (placeZ h))).any fun y => y == k) 6).map V.int)) ny)
      refine q _ _ (s3.trans (s4.trans (s6.trans (same_upd nr)))) (.tup (SqT.of upd_same) (.cons (dpI_mk (same_sqT (s6.trans (same_upd nr)) (SqT.of upd_same))) (.cons (dpI_mk ?_) .nil)))
      rw [a3]
      exact same_sqT (same_upd nr) (SqT.of upd_same)
  · -- one more
    have e2 : (!decide (V.int ((placeZ t + (j : Int)) % 6) = V.int (placeZ h))) = true := by
      rw [decide_eq_false (fun z => e (V.int.inj z))]
      rfl
    rw [e2]
    refine iteT ?_
    have hj2 : j < arcN (placeZ t) (placeZ h) := by
      rcases Nat.lt_or_eq_of_le hj with z | z
      · exact z
      · exact absurd ((arc_end ra rb hj).mpr z) e
    refine ⟨fun σ' H' => ∃ j' : Nat, j' = j + 1 ∧ σ' = [some v, some u, some (.int ((placeZ t + (j' : Int)) % 6)), some (.int (placeZ h)), some (.ref l), none] ∧ Same H H' ∧ H' l = some (.lst ((fnd (placeZ t) j').map V.int)), ?_, ?_⟩
    · rintro σ' H' ⟨j', rfl, e1, e3, e4⟩
      exact ⟨_, by omega, j + 1, rfl, hj2, e1, e3, e4⟩
    · have l5 := arcN_le (placeZ t) (placeZ h)
      refine ⟨_, rfl, .inl ⟨rfl, _, SqL.of h3⟩, _, rfl, l, _, _, rfl, rfl, h3, szlt (by rw [List.length_map, fnd_len]; omega), ?_⟩
      refine ⟨_, rfl, _, _, rfl, rfl, _, _, rfl, rfl, (by show (0 : Int) < 6; decide), j + 1, rfl, ?_, same_mut s3 nl, ?_⟩
      · have e5 : ((placeZ t + (j : Int)) % 6 + 1) % 6 = (placeZ t + ((j + 1 : Nat) : Int)) % 6 := by omega
        show _ = [some v, some u, some (V.int ((placeZ t + ((j + 1 : Nat) : Int)) % 6)), some (.int (placeZ h)), some (.ref l), none]
        rw [← e5]
        rfl
      · rw [upd_same, fnd_succ, List.map_append]
        rfl
end
end Mv
end

section
set_option Elab.async false
set_option linter.all false
set_option maxRecDepth 100000
set_option maxHeartbeats 4000000
/-! MvE4: set_of, is_stand .. there_in. -/
namespace Mv
open PySem PySem.Spec PyProof.Rows L2 RZ
/-- over two tuples at once -/
theorem lc_zipT {K : PySem.W.Frag} {a b : Addr} {xs ys : List V} {g : TG} {tt : TT} {te : TE} {vs : List Nat} {σ : L2.St} {H1 : Hp} {D : Addr} {Qd : Hp → Prop} (hl : xs.length = ys.length) (Pv : Nat → Hp → Prop) (h0 : Pv 0 (upd H1 D (.lst []))) (hq : ∀ i H, i ≤ xs.length → Pv i H → SqT K H a xs ∧ SqT K H b ys)
    (hs : ∀ i x y T H, xs[i]? = some x → ys[i]? = some y → H T = none → Pv i H → g (.ref T) (wipe σ vs) (upd H T (.tup [x, y])) fun σ2 H2 => wipe σ2 vs = wipe σ vs ∧ tt σ2 H2 fun b H3 =>
      if b = true then te σ2 H3 fun y H4 => ∃ acc, H4 D = some (.lst acc) ∧ acc.length < sizeLine ∧ Pv (i + 1) (upd H4 D (.lst (acc ++ [y]))) else Pv (i + 1) H3) (hd : ∀ H, Pv xs.length H → Qd H) :
    ∃ W : Nat → Nat → Hp → Prop, (∃ m, W 0 m (upd H1 D (.lst []))) ∧ ∀ i m H, W i m H →
      ((ItzT K a b).stop i H ∧ Qd H) ∨ ((ItzT K a b).go i H ∧ ∃ Nx : Hp → Prop, (∀ H', Nx H' → ∃ m', m' < m ∧ W (i + 1) m' H') ∧ ∀ x H', (ItzT K a b).yld i H x H' → g x (wipe σ vs) H' fun σ2 H2 => wipe σ2 vs = wipe σ vs ∧ tt σ2 H2 fun b H3 =>
        if b = true then te σ2 H3 fun y H4 => ∃ acc, H4 D = some (.lst acc) ∧ acc.length < sizeLine ∧ Nx (upd H4 D (.lst (acc ++ [y]))) else Nx H3) := by
  refine ⟨fun i m H => m = xs.length - i ∧ i ≤ xs.length ∧ Pv i H, ⟨xs.length, by simp, Nat.zero_le _, h0⟩, ?_⟩
  rintro i m H ⟨rfl, hi, p⟩
  obtain ⟨q1, q2⟩ := hq i H hi p
  by_cases hlt : i < xs.length
  · have hlt2 : i < ys.length := by omega
    refine .inr ⟨⟨xs, ys, xs[i], ys[i], q1, q2, by simp [hlt], by simp [hlt2]⟩, Pv (i + 1), fun H' p' => ⟨xs.length - (i + 1), by omega, rfl, hlt, p'⟩, fun x H' y => ?_⟩
    obtain ⟨T, x1, y1, rfl, nT, rfl, f1, f2⟩ := y
    exact hs i x1 y1 T _ (f1 xs q1) (f2 ys q2) nT p
  · have e : i = xs.length := by omega
    subst e
    exact .inl ⟨⟨xs, ys, q1, q2, .inl (Nat.le_refl _)⟩, hd H p⟩
theorem lc_zipL {K : PySem.W.Frag} {a b : Addr} {xs ys : List V} {g : TG} {tt : TT} {te : TE} {vs : List Nat} {σ : L2.St} {H1 : Hp} {D : Addr} {Qd : Hp → Prop} (hl : xs.length = ys.length) (Pv : Nat → Hp → Prop) (h0 : Pv 0 (upd H1 D (.lst []))) (hq : ∀ i H, i ≤ xs.length → Pv i H → SqL K H a xs ∧ SqL K H b ys)
    (hs : ∀ i x y T H, xs[i]? = some x → ys[i]? = some y → H T = none → Pv i H → g (.ref T) (wipe σ vs) (upd H T (.tup [x, y])) fun σ2 H2 => wipe σ2 vs = wipe σ vs ∧ tt σ2 H2 fun b H3 =>
      if b = true then te σ2 H3 fun y H4 => ∃ acc, H4 D = some (.lst acc) ∧ acc.length < sizeLine ∧ Pv (i + 1) (upd H4 D (.lst (acc ++ [y]))) else Pv (i + 1) H3) (hd : ∀ H, Pv xs.length H → Qd H) :
    ∃ W : Nat → Nat → Hp → Prop, (∃ m, W 0 m (upd H1 D (.lst []))) ∧ ∀ i m H, W i m H →
      ((Itz K a b).stop i H ∧ Qd H) ∨ ((Itz K a b).go i H ∧ ∃ Nx : Hp → Prop, (∀ H', Nx H' → ∃ m', m' < m ∧ W (i + 1) m' H') ∧ ∀ x H', (Itz K a b).yld i H x H' → g x (wipe σ vs) H' fun σ2 H2 => wipe σ2 vs = wipe σ vs ∧ tt σ2 H2 fun b H3 =>
        if b = true then te σ2 H3 fun y H4 => ∃ acc, H4 D = some (.lst acc) ∧ acc.length < sizeLine ∧ Nx (upd H4 D (.lst (acc ++ [y]))) else Nx H3) := by
  refine ⟨fun i m H => m = xs.length - i ∧ i ≤ xs.length ∧ Pv i H, ⟨xs.length, by simp, Nat.zero_le _, h0⟩, ?_⟩
  rintro i m H ⟨rfl, hi, p⟩
  obtain ⟨q1, q2⟩ := hq i H hi p
  by_cases hlt : i < xs.length
  · have hlt2 : i < ys.length := by omega
    refine .inr ⟨⟨xs, ys, xs[i], ys[i], q1, q2, by simp [hlt], by simp [hlt2]⟩, Pv (i + 1), fun H' p' => ⟨xs.length - (i + 1), by omega, rfl, hlt, p'⟩, fun x H' y => ?_⟩
    obtain ⟨T, x1, y1, rfl, nT, rfl, f1, f2⟩ := y
    exact hs i x1 y1 T _ (f1 xs q1) (f2 ys q2) nT p
  · have e : i = xs.length := by omega
    subst e
    exact .inl ⟨⟨xs, ys, q1, q2, .inl (Nat.le_refl _)⟩, hd H p⟩
section
variable {P : Program} {w : World} {K : PySem.W.Frag} {mg : Str → Option Value} {base : Heap}
/-! ### set_of -/
theorem pairs_ks {H : Hp} : ∀ {zs : List (Int × Int)} {xs : List V}, DpAll K H xs (zs.map dP) → ∃ ks : List (Addr × List Int), xs = ks.map (fun p => V.ref p.1) ∧ (∀ p ∈ ks, SqT K H p.1 (p.2.map V.int)) ∧ ks.map (·.2) = zs.map fun z => [z.1, z.2]
  | [], _, h => by cases h; exact ⟨[], rfl, fun _ q => absurd q (by simp), rfl⟩
  | z :: zs, _, h => by
    cases h with
    | cons h1 h2 =>
      obtain ⟨a, rfl, h3⟩ := dpP_inv h1
      obtain ⟨ks, rfl, k2, k3⟩ := pairs_ks h2
      refine ⟨(a, [z.1, z.2]) :: ks, rfl, fun p hp => ?_, by rw [List.map_cons, List.map_cons, k3]⟩
      rcases List.mem_cons.mp hp with rfl | hp
      · exact h3
      · exact k2 p hp
theorem ks_pairs {H : Hp} : ∀ {ks : List (Addr × List Int)}, (∀ p ∈ ks, SqT K H p.1 (p.2.map V.int) ∧ ∃ z : Int × Int, p.2 = [z.1, z.2]) → ∃ L : List (Int × Int), DpAll K H (ks.map fun p => V.ref p.1) (L.map dP) ∧ ks.map (·.2) = L.map fun z => [z.1, z.2]
  | [], _ => ⟨[], .nil, rfl⟩
  | p :: ks, h => by
    obtain ⟨h1, z, h2⟩ := h p (List.mem_cons_self ..)
    obtain ⟨L, l1, l2⟩ := ks_pairs (ks := ks) fun u hu => h u (List.mem_cons_of_mem _ hu)
    rw [h2] at h1
    exact ⟨z :: L, .cons (dpP_mk h1) l1, by rw [List.map_cons, List.map_cons, l2, h2]⟩
theorem pair2_inj {z u : Int × Int} (h : [z.1, z.2] = [u.1, u.2]) : z = u := by
  obtain ⟨a, b⟩ := z
  obtain ⟨c, d⟩ := u
  cases h
  rfl
def sp_set_of (K : PySem.W.Frag) : Sp := fun vs H Q _ => ∃ (l : Addr) (xs : List V) (zs : List (Int × Int)) (B : Int), vs = [.ref l] ∧ SqL K H l xs ∧ DpAll K H xs (zs.map dP) ∧ zs.length < 64 ∧ (∀ z ∈ zs, (0 ≤ z.1 ∧ z.1 < B) ∧ (0 ≤ z.2 ∧ z.2 < B)) ∧
  ∀ r H' (L : List (Int × Int)), Same H H' → L.Nodup → L.length < 64 → (∀ z, z ∈ L ↔ z ∈ zs) → Dp K H' r (.tuple (L.map dP)) → Q r H'
theorem c_set_of (T : Txt K mg) (D : DefOk K mg "set_of" s_set_of) : Cl P w K mg base 1 "set_of" P_set_of (sp_set_of K) := by
  refine cl_of D (fun _ _ _ _ _ _ us hl => match us, hl with | [_], _ => rfl) sc_set_of (fun vs H Q E h => ?_) (fun f cdv A outer s H vs Q E hr h => ?_)
  · obtain ⟨l, xs, zs, B, rfl, _⟩ := h
    rfl
  obtain ⟨l, xs, zs, B, rfl, hs, ha, hl, hB, q⟩ := h
  obtain ⟨ks, rfl, k2, k3⟩ := pairs_ks ha
  refine ⟨_, (pss_one (ps_ret (pe_callTy call_tuple_of (by rfl) T.z_tuple (by decide +kernel) (pa_cons (pe_callB (cr_sortedT rfl) (by rfl) T.z_sorted (by decide +kernel) (pa_cons (pe_callTy (cr_setOfT rfl hr.units) (by rfl) T.z_set (by decide +kernel) (pa_cons (pv 0) pa_nil)) pa_nil)) pa_nil)))), ?_⟩
  have lk : ks.length = zs.length := by
    have e := congrArg List.length k3
    rw [List.length_map, List.length_map] at e
    exact e
  refine ⟨_, rfl, l, ks, rfl, hs, k2, by omega, fun a L na sub all => ?_⟩
  have inz : ∀ p ∈ L, ∃ z ∈ zs, p.2 = [z.1, z.2] := fun p hp => by
    have m : p.2 ∈ ks.map (·.2) := List.mem_map.mpr ⟨p, sub p hp, rfl⟩
    rw [k3] at m
    obtain ⟨z, hz, e⟩ := List.mem_map.mp m
    exact ⟨z, hz, e.symm⟩
  have s1 : Same H (upd H a (SetTO P w a L)) := same_upd na
  refine ⟨a, L, 2, B, rfl, upd_same, fun p hp => same_sqT s1 (k2 p (sub p hp)), by decide, fun p hp => ?_, fun L' o pm nd hf _ no => ?_⟩
  · obtain ⟨z, hz, e⟩ := inz p hp
    rw [e]
    refine ⟨rfl, fun x hx => ?_⟩
    have b := hB z hz
    simp only [List.mem_cons, List.not_mem_nil, or_false] at hx
    rcases hx with rfl | rfl
    · exact b.1
    · exact b.2
  · have s2 : Same H _ := s1.trans (same_upd (o := .lst (L'.map fun q => V.ref q.1)) no)
    refine ⟨o, _, rfl, .inl ⟨SqL.of upd_same, fun x nx => ?_⟩⟩
    have s3 := s2.trans (same_upd (o := .tup (L'.map fun q => V.ref q.1)) nx)
    obtain ⟨M, m1, m2⟩ := ks_pairs (K := K) (H := upd (upd (upd H a (SetTO P w a L)) o (.lst (L'.map fun q => V.ref q.1))) x (.tup (L'.map fun q => V.ref q.1))) (ks := L') fun p hp => by
      have hp2 := pm.mem_iff.mp hp
      obtain ⟨z, _, e⟩ := inz p hp2
      exact ⟨same_sqT s3 (k2 p (sub p hp2)), z, e⟩
    refine q _ _ M s3 ?_ ?_ (fun z => ?_) (.tup (SqT.of upd_same) m1)
    · rw [m2] at nd
      exact List.Pairwise.of_map _ (fun a b h e => h (by rw [e])) nd
    · have e := congrArg List.length m2
      rw [List.length_map, List.length_map] at e
      omega
    · have e1 : z ∈ M ↔ [z.1, z.2] ∈ L'.map (·.2) := by
        rw [m2]
        constructor
        · exact fun h => List.mem_map.mpr ⟨z, h, rfl⟩
        · intro h
          obtain ⟨u, hu, e⟩ := List.mem_map.mp h
          rw [← pair2_inj e]
          exact hu
      rw [e1]
      constructor
      · intro h
        obtain ⟨p, hp, e⟩ := List.mem_map.mp h
        obtain ⟨u, hu, e2⟩ := inz p (pm.mem_iff.mp hp)
        have e3 : [u.1, u.2] = [z.1, z.2] := e2.symm.trans e
        rw [← pair2_inj e3]
        exact hu
      · intro h
        have m : [z.1, z.2] ∈ ks.map (·.2) := by
          rw [k3]
          exact List.mem_map.mpr ⟨z, h, rfl⟩
        obtain ⟨p, hp, e⟩ := List.mem_map.mp m
        have m3 := all p hp
        rw [e] at m3
        exact ((pm.map (·.2)).mem_iff).mpr m3
/-! ### is_stand -/
def sp_is_stand (K : PySem.W.Frag) : Sp := fun vs H Q _ => ∃ (v : V) (t : Stand), vs = [v] ∧ Dp K H v (dS t) ∧ StOk t ∧ ∀ H', Same H H' → Q (.bl true) H'
theorem c_is_stand (T : Txt K mg) (D : DefOk K mg "is_stand" s_is_stand) (C_is_long : Cl P w K mg base 1 "is_long" P_is_long (sp_is_long K)) (C_is_shape : Cl P w K mg base 3 "is_shape" P_is_shape (sp_is_shape K))
    (C_are_numbers : Cl P w K mg base 2 "are_numbers" P_are_numbers (sp_are_numbers K)) : Cl P w K mg base 4 "is_stand" P_is_stand (sp_is_stand K) := by
  refine cl_of D (fun _ _ _ _ _ _ us hl => match us, hl with | [_], _ => rfl) sc_is_stand (fun vs H Q E h => ?_) (fun f cdv A outer s H vs Q E hr h => ?_)
  · obtain ⟨v, t, rfl, _⟩ := h
    rfl
  obtain ⟨v, t, rfl, hd, ht, q⟩ := h
  obtain ⟨a, v0, v1, v2, v3, rfl, hs, h0, h1, h2, h3⟩ := dpS_inv hd
  obtain ⟨a1, rfl, g1⟩ := dpT_inv h1
  obtain ⟨a2, rfl, g2⟩ := dpT_inv h2
  obtain ⟨a3, rfl, g3⟩ := dpT_inv h3
  refine ⟨_, (pss_cons (ps_if (PW.pt (pw_or (pt_not (pt_val (pe_cl C_is_long hr (by omega) (by rfl) (pa_cons (pv 0) (pa_cons pe_int pa_nil))))) (pw_or1 (pt_not (pt_val (pe_cl C_is_shape hr (by omega) (by rfl) (pa_cons (pe_ix (r := rIxT K) ix_tup (pv 0) pe_int (fun _ _ => rfl)) pa_nil))))))) (pss_one (ps_ret pe_bl)) pss_nil)
    (pss_cons (ps_if (pt_not (pt_val (pe_callB (cr_all rfl) (by rfl) T.z_all (by decide +kernel) (pa_cons (pe_lc (own := [("own", 1)]) (by rfl) sc_is_stand.nd (pi_tup (pe_slice sl_tupA (pv 0) (po_some pe_int) po_none)) (blkOk_by (N := N_is_stand) (sc := defScope s_is_stand) (by decide +kernel)) (fun _ _ _ _ _ => (pg_name (i := 1) sc_is_stand.nd rfl (.inl rfl))) (fun _ _ _ _ _ => pts_nil) (fun _ _ _ _ _ => (pe_and (pe_cl C_is_long hr (by omega) (by rfl) (pa_cons (pv 1) (pa_cons pe_int pa_nil))) (pe_one (pe_cl C_are_numbers hr (by omega) (by rfl) (pa_cons (pv 1) pa_nil)))))) pa_nil)))) (pss_one (ps_ret pe_bl)) pss_nil)
    (pss_one (ps_ret (pe_callB (cr_all rfl) (by rfl) T.z_all (by decide +kernel) (pa_cons (pe_lc (own := [("own", 1)]) (by rfl) sc_is_stand.nd (pi_tup (pe_ix (r := rIxT K) ix_tup (pv 0) pe_int (fun _ _ => rfl))) (blkOk_by (N := N_is_stand) (sc := defScope s_is_stand) (by decide +kernel)) (fun _ _ _ _ _ => (pg_name (i := 1) sc_is_stand.nd rfl (.inl rfl))) (fun _ _ _ _ _ => pts_nil) (fun _ _ _ _ _ => (pe_cmpR (r := rIn K false) op_in_seq (pv 1) (pe_tup (pa_cons pe_int (pa_cons (pe_un un_neg pe_int) pa_nil))) rfl))) pa_nil)))))), ?_⟩
  -- not is_long(thing, 4) or not is_shape(thing[0])
  refine ⟨_, rfl, a, _, 4, rfl, hs, true, rfl, iteF ?_⟩
  refine ⟨_, rfl, a, _, 0, v0, rfl, rfl, hs, rfl, v0, t.1, rfl, h0, ht.1, fun H1 s1 => ⟨true, rfl, iteF ?_⟩⟩
  -- all([.. for own in thing[1:]])
  refine ⟨_, rfl, 1, rfl, a, _, rfl, same_sqT s1 hs, fun z => absurd (show (1 : Nat) = 0 from z.1) (by decide), fun _ b nb => ?_⟩
  have s2 : Same H (upd H1 b (.tup [.ref a1, .ref a2, .ref a3])) := s1.trans (same_upd nb)
  refine ⟨b, rfl, ⟨_, SqT.of upd_same⟩, fun D0 nD => lc_tup (K := K) (a := b) (xs := [.ref a1, .ref a2, .ref a3]) (PvV _ D0 ([true, true, true].map V.bl)) (pvv_0 nD) (fun i H3 _ p => same_sqT p.1 (SqT.of upd_same)) (fun i x H3 hx p => ?_) (fun H5 p => ?_)⟩
  · have sx : ∃ (ax : Addr) (u : T3), x = .ref ax ∧ SqT K H ax ([u.1, u.2.1, u.2.2].map V.int) := by
      have hm := List.mem_of_getElem? hx
      simp only [List.mem_cons, List.not_mem_nil, or_false] at hm
      rcases hm with rfl | rfl | rfl
      · exact ⟨a1, t.2.1, rfl, g1⟩
      · exact ⟨a2, t.2.2.1, rfl, g2⟩
      · exact ⟨a3, t.2.2.2, rfl, g3⟩
    have hi : i < 3 := (List.getElem?_eq_some_iff.mp hx).1
    obtain ⟨ax, u, rfl, gx⟩ := sx
    have gx3 := same_sqT (s2.trans p.1) gx
    refine ⟨rfl, ?_⟩
    refine ⟨_, rfl, ax, _, 3, rfl, gx3, true, rfl, iteT ?_⟩
    refine ⟨_, rfl, ax, [u.1, u.2.1, u.2.2], rfl, gx3, by simp, fun H4 s4 => pvv_next nD p s4 (by decide) ?_⟩
    have : i = 0 ∨ i = 1 ∨ i = 2 := by omega
    rcases this with rfl | rfl | rfl <;> rfl
  · obtain ⟨s5, hD⟩ := p
    refine ⟨D0, [true, true, true], rfl, SqL.of hD, true, rfl, iteF ?_⟩
    -- all([own in (1, -1) for own in thing[3]])
    have s6 := s2.trans s5
    refine ⟨_, rfl, a, _, 3, _, rfl, rfl, same_sqT s6 hs, rfl, a3, rfl, ⟨_, same_sqT s6 g3⟩, fun D1 nD1 => lc_tup (K := K) (a := a3) (xs := [.int t.2.2.2.1, .int t.2.2.2.2.1, .int t.2.2.2.2.2]) (PvV _ D1 ([true, true, true].map V.bl)) (pvv_0 nD1) (fun i H3 _ p => same_sqT p.1 (same_sqT s6 g3)) (fun i x H3 hx p => ?_) (fun H7 p => ?_)⟩
    · obtain ⟨z, hz, rfl⟩ := at_map (l := [t.2.2.2.1, t.2.2.2.2.1, t.2.2.2.2.2]) (f := V.int) hx
      have hi : i < 3 := (List.getElem?_eq_some_iff.mp hz).1
      have hz1 : z = 1 ∨ z = -1 := by
        have hm := List.mem_of_getElem? hz
        simp only [List.mem_cons, List.not_mem_nil, or_false] at hm
        obtain ⟨_, f1, f2, f3⟩ := ht
        rcases hm with rfl | rfl | rfl
        · exact f1
        · exact f2
        · exact f3
      refine ⟨rfl, ?_⟩
      refine ⟨_, rfl, 1, rfl, sz (by simp), fun c nc => ?_⟩
      refine ⟨c, _, rfl, .inr (SqT.of upd_same), rfl, rfl, ?_⟩
      have e : (if false = true then !inV (V.int z) [V.int 1, V.int (-1)] else inV (V.int z) [V.int 1, V.int (-1)]) = true := by
        rcases hz1 with rfl | rfl <;> rfl
      rw [e]
      refine pvv_next nD1 p (same_upd nc) (by decide) ?_
      have : i = 0 ∨ i = 1 ∨ i = 2 := by omega
      rcases this with rfl | rfl | rfl <;> rfl
    · obtain ⟨s7, hD1⟩ := p
      exact ⟨D1, [true, true, true], rfl, SqL.of hD1, q H7 (s6.trans s7)⟩
def sp_sure_stand (K : PySem.W.Frag) : Sp := fun vs H Q _ => ∃ (v : V) (d : PyData) (t : Stand), vs = [v] ∧ Dp K H v d ∧ TupR 2 d (dS t) ∧ StOk t ∧ ∀ r H', Same H H' → Dp K H' r (dS t) → Q r H'
theorem c_sure_stand (T : Txt K mg) (D : DefOk K mg "sure_stand" s_sure_stand) (C_tupled : Cl P w K mg base 3 "tupled" P_tupled (sp_tupled K 3)) (C_is_stand : Cl P w K mg base 4 "is_stand" P_is_stand (sp_is_stand K)) : Cl P w K mg base 5 "sure_stand" P_sure_stand (sp_sure_stand K) := by
  refine cl_of D (fun _ _ _ _ _ _ us hl => match us, hl with | [_], _ => rfl) sc_sure_stand (fun vs H Q E h => ?_) (fun f cdv A outer s H vs Q E hr h => ?_)
  · obtain ⟨v, d, t, rfl, _⟩ := h
    rfl
  obtain ⟨v, d, t, rfl, hd, ht, hc, q⟩ := h
  refine ⟨_, (pss_cons (ps_set (i := 1) sc_sure_stand.nd rfl (.inl rfl) (pe_cl C_tupled hr (by omega) (by rfl) (pa_cons (pv 0) pa_nil)))
    (pss_cons (ps_if (pt_not (pt_val (pe_cl C_is_stand hr (by omega) (by rfl) (pa_cons (pv 1) pa_nil)))) (pss_one ps_never) pss_nil)
    (pss_one (ps_ret (pv 1))))), ?_⟩
  refine ⟨_, rfl, v, d, dS t, rfl, hd, ht, fun r H1 s1 h1 => ?_⟩
  refine ⟨_, rfl, r, t, rfl, h1.dp, hc, fun H2 s2 => ⟨true, rfl, iteF ?_⟩⟩
  exact ⟨_, rfl, q _ H2 (s1.trans s2) (Dp.same h1.dp s2)⟩
def sp_home (K : PySem.W.Frag) : Sp := fun vs H Q _ => vs = [] ∧ ∀ r, Dp K H r (dS homeS) → Q r H
theorem c_home (T : Txt K mg) (D : DefOk K mg "home" s_home) : Cl P w K mg base 1 "home" P_home (sp_home K) := by
  refine cl_of D (fun _ _ _ _ _ _ us hl => match us, hl with | [], _ => rfl) sc_home (fun vs H Q E h => ?_) (fun f cdv A outer s H vs Q E hr h => ?_)
  · obtain ⟨rfl, _⟩ := h
    rfl
  obtain ⟨rfl, q⟩ := h
  refine ⟨_, (pss_one (ps_ret (pe_glob (v := .ref T.a_HOME) (by rfl) T.g_HOME rfl))), ?_⟩
  exact q _ (T.d_HOME H)
end
end Mv
end

section
set_option Elab.async false
set_option linter.all false
set_option maxRecDepth 100000
set_option maxHeartbeats 4000000
/-! MvE5: middle_in .. sure_span. -/
namespace Mv
open PySem PySem.Spec PyProof.Rows L2 RZ
/-- a CHEST of moderate sides -/
def ChOk (c : T3) : Prop := (1 ≤ c.1 ∧ c.1 ≤ 1000) ∧ (1 ≤ c.2.1 ∧ c.2.1 ≤ 1000) ∧ (1 ≤ c.2.2 ∧ c.2.2 ≤ 1000)
theorem zip_prod (x c : T3) {i : Nat} {y z : V} (hx : [V.int x.1, V.int x.2.1, V.int x.2.2][i]? = some y) (hz : [V.int c.1, V.int c.2.1, V.int c.2.2][i]? = some z) (hc : ChOk c) :
    ∃ m k : Int, y = .int m ∧ z = .int k ∧ (1 ≤ k ∧ k ≤ 1000) ∧ ([x.1 * c.1, x.2.1 * c.2.1, x.2.2 * c.2.2].map V.int)[i]? = some (.int (m * k)) := by
  have hi : i < 3 := (List.getElem?_eq_some_iff.mp hx).1
  have : i = 0 ∨ i = 1 ∨ i = 2 := by omega
  obtain ⟨h1, h2, h3⟩ := hc
  rcases this with rfl | rfl | rfl
  · cases hx; cases hz; exact ⟨_, _, rfl, rfl, h1, rfl⟩
  · cases hx; cases hz; exact ⟨_, _, rfl, rfl, h2, rfl⟩
  · cases hx; cases hz; exact ⟨_, _, rfl, rfl, h3, rfl⟩
theorem prod_sum (x c : T3) : [x.1 * c.1, x.2.1 * c.2.1, x.2.2 * c.2.2].sum = dot x c := by
  show x.1 * c.1 + (x.2.1 * c.2.1 + (x.2.2 * c.2.2 + 0)) = x.1 * c.1 + x.2.1 * c.2.1 + x.2.2 * c.2.2
  omega
theorem mul_small {m k : Int} (h : 1 ≤ k ∧ k ≤ 1000) : CMul m k := .inr (by omega)
section
variable {P : Program} {w : World} {K : PySem.W.Frag} {mg : Str → Option Value} {base : Heap}
def sp_middle_in (K : PySem.W.Frag) : Sp := fun vs H Q _ => ∃ (v u : V) (c : T3) (t : Stand), vs = [v, u] ∧ Dp K H v (dT c) ∧ Dp K H u (dS t) ∧ ChOk c ∧ ∀ r H', Same H H' → H r = none → H' r = some (.tup [.int (mid c t).1, .int (mid c t).2]) → Q (.ref r) H'
theorem c_middle_in (T : Txt K mg) (D : DefOk K mg "middle_in" s_middle_in) : Cl P w K mg base 1 "middle_in" P_middle_in (sp_middle_in K) := by
  refine cl_of D (fun _ _ _ _ _ _ us hl => match us, hl with | [_, _], _ => rfl) sc_middle_in (fun vs H Q E h => ?_) (fun f cdv A outer s H vs Q E hr h => ?_)
  · obtain ⟨v, u, c, t, rfl, _⟩ := h
    rfl
  obtain ⟨v, u, c, t, rfl, hv, hu, hc, q⟩ := h
  obtain ⟨b, rfl, gc⟩ := dpT_inv hv
  obtain ⟨a, v0, v1, v2, v3, rfl, hs, h0, h1, h2, h3⟩ := dpS_inv hu
  obtain ⟨a1, rfl, g1⟩ := dpT_inv h1
  obtain ⟨a2, rfl, g2⟩ := dpT_inv h2
  refine ⟨_, (pss_cons (ps_set (i := 2) sc_middle_in.nd rfl (.inl rfl) (pe_callB (cr_sum rfl) (by rfl) T.z_sum (by decide +kernel) (pa_cons (pe_lc (own := [("many", 3), ("side", 4)]) (g := gTup K 2 (gCons (gName 3) (gCons (gName 4) gNil))) (by rfl) sc_middle_in.nd (pi_zipA (by rfl) T.z_zip (pa_cons (pe_ix (r := rIxT K) ix_tup (pv 1) pe_int (fun _ _ => rfl)) (pa_cons (pv 0) pa_nil))) (blkOk_by (N := N_middle_in) (sc := defScope s_middle_in) (by decide +kernel)) (fun _ _ _ _ _ => (pg_tup rfl (pgs_cons (pg_name (i := 3) sc_middle_in.nd rfl (.inl rfl) (.inr rfl)) (pgs_cons (pg_name (i := 4) sc_middle_in.nd rfl (.inl rfl) (.inr rfl)) pgs_nil)))) (fun _ _ _ _ _ => pts_nil) (fun _ _ _ _ _ => (pe_op op_mul (pv 3) (pv 4)))) pa_nil)))
    (pss_one (ps_ret (pe_tup (pa_cons (pv 2) (pa_cons (pe_callB (cr_sum rfl) (by rfl) T.z_sum (by decide +kernel) (pa_cons (pe_lc (own := [("many", 3), ("side", 4)]) (g := gTup K 2 (gCons (gName 3) (gCons (gName 4) gNil))) (by rfl) sc_middle_in.nd (pi_zipA (by rfl) T.z_zip (pa_cons (pe_ix (r := rIxT K) ix_tup (pv 1) pe_int (fun _ _ => rfl)) (pa_cons (pv 0) pa_nil))) (blkOk_by (N := N_middle_in) (sc := defScope s_middle_in) (by decide +kernel)) (fun _ _ _ _ _ => (pg_tup rfl (pgs_cons (pg_name (i := 3) sc_middle_in.nd rfl (.inl rfl) (.inr rfl)) (pgs_cons (pg_name (i := 4) sc_middle_in.nd rfl (.inl rfl) (.inr rfl)) pgs_nil)))) (fun _ _ _ _ _ => pts_nil) (fun _ _ _ _ _ => (pe_op op_mul (pv 3) (pv 4)))) pa_nil)) pa_nil)))))), ?_⟩
  refine ⟨_, rfl, a, _, 1, _, rfl, rfl, hs, rfl, _, rfl, a1, b, _, _, rfl, .inr ⟨g1, gc, fun D nD => lc_zipT (K := K) (a := a1) (b := b) (xs := [.int t.2.1.1, .int t.2.1.2.1, .int t.2.1.2.2]) (ys := [.int c.1, .int c.2.1, .int c.2.2]) rfl
    (PvV H D ([t.2.1.1 * c.1, t.2.1.2.1 * c.2.1, t.2.1.2.2 * c.2.2].map V.int)) (pvv_0 nD) (fun i H3 _ p => ⟨same_sqT p.1 g1, same_sqT p.1 gc⟩) (fun i x y TT H3 hx hy nT p => ?_) (fun H5 p => ?_)⟩⟩
  · obtain ⟨m, k, rfl, rfl, hk, e⟩ := zip_prod t.2.1 c hx hy hc
    refine ⟨TT, _, rfl, SqT.of upd_same, rfl, _, _, rfl, _, _, rfl, rfl, ?_⟩
    refine ⟨rfl, ?_⟩
    exact ⟨_, rfl, _, rfl, m, k, rfl, rfl, mul_small hk, pvv_next nD p (same_upd nT) (by simp) e⟩
  obtain ⟨s5, hD⟩ := p
  refine ⟨D, [t.2.1.1 * c.1, t.2.1.2.1 * c.2.1, t.2.1.2.2 * c.2.2], rfl, SqL.of hD, ?_⟩
  rw [prod_sum]
  -- the second sum
  refine ⟨_, rfl, _, rfl, a, _, 2, _, rfl, rfl, same_sqT s5 hs, rfl, _, rfl, a2, b, _, _, rfl, .inr ⟨same_sqT s5 g2, same_sqT s5 gc, fun D1 nD1 => lc_zipT (K := K) (a := a2) (b := b) (xs := [.int t.2.2.1.1, .int t.2.2.1.2.1, .int t.2.2.1.2.2]) (ys := [.int c.1, .int c.2.1, .int c.2.2]) rfl
    (PvV H5 D1 ([t.2.2.1.1 * c.1, t.2.2.1.2.1 * c.2.1, t.2.2.1.2.2 * c.2.2].map V.int)) (pvv_0 nD1) (fun i H3 _ p => ⟨same_sqT p.1 (same_sqT s5 g2), same_sqT p.1 (same_sqT s5 gc)⟩) (fun i x y TT H3 hx hy nT p => ?_) (fun H7 p => ?_)⟩⟩
  · obtain ⟨m, k, rfl, rfl, hk, e⟩ := zip_prod t.2.2.1 c hx hy hc
    refine ⟨TT, _, rfl, SqT.of upd_same, rfl, _, _, rfl, _, _, rfl, rfl, ?_⟩
    refine ⟨rfl, ?_⟩
    exact ⟨_, rfl, _, rfl, m, k, rfl, rfl, mul_small hk, pvv_next nD1 p (same_upd nT) (by simp) e⟩
  obtain ⟨s7, hD1⟩ := p
  refine ⟨D1, [t.2.2.1.1 * c.1, t.2.2.1.2.1 * c.2.1, t.2.2.1.2.2 * c.2.2], rfl, SqL.of hD1, ?_⟩
  rw [prod_sum]
  refine ⟨sz (by simp), fun r nr => ?_⟩
  exact q r _ (s5.trans (s7.trans (same_upd nr))) ((s5.trans s7).free nr) upd_same
def sp_spacing_in (K : PySem.W.Frag) : Sp := fun vs H Q _ => ∃ (v : V) (c : T3), vs = [v] ∧ Dp K H v (dT c) ∧ Q (.int (spc c)) H
theorem c_spacing_in (T : Txt K mg) (D : DefOk K mg "spacing_in" s_spacing_in) : Cl P w K mg base 1 "spacing_in" P_spacing_in (sp_spacing_in K) := by
  refine cl_of D (fun _ _ _ _ _ _ us hl => match us, hl with | [_], _ => rfl) sc_spacing_in (fun vs H Q E h => ?_) (fun f cdv A outer s H vs Q E hr h => ?_)
  · obtain ⟨v, c, rfl, _⟩ := h
    rfl
  obtain ⟨v, c, rfl, hv, q⟩ := h
  obtain ⟨b, rfl, gc⟩ := dpT_inv hv
  refine ⟨_, (pss_one (ps_ret (pe_op op_mul pe_int (pe_callBfun cr_gcd (by rfl) T.g_gcd (pa_cons (pe_callBfun cr_gcd (by rfl) T.g_gcd (pa_cons (pe_op op_add (pe_ix (r := rIxT K) ix_tup (pv 0) pe_int (fun _ _ => rfl)) (pe_ix (r := rIxT K) ix_tup (pv 0) pe_int (fun _ _ => rfl))) (pa_cons (pe_op op_add (pe_ix (r := rIxT K) ix_tup (pv 0) pe_int (fun _ _ => rfl)) (pe_ix (r := rIxT K) ix_tup (pv 0) pe_int (fun _ _ => rfl))) pa_nil))) (pa_cons (pe_op op_add (pe_ix (r := rIxT K) ix_tup (pv 0) pe_int (fun _ _ => rfl)) (pe_ix (r := rIxT K) ix_tup (pv 0) pe_int (fun _ _ => rfl))) pa_nil)))))), ?_⟩
  refine ⟨_, rfl, b, _, 0, _, rfl, rfl, gc, rfl, _, rfl, b, _, 1, _, rfl, rfl, gc, rfl, c.1, c.2.1, rfl, rfl, ?_⟩
  refine ⟨_, rfl, b, _, 0, _, rfl, rfl, gc, rfl, _, rfl, b, _, 2, _, rfl, rfl, gc, rfl, c.1, c.2.2, rfl, rfl, ?_⟩
  refine ⟨_, _, rfl, ?_⟩
  refine ⟨_, rfl, b, _, 1, _, rfl, rfl, gc, rfl, _, rfl, b, _, 2, _, rfl, rfl, gc, rfl, c.2.1, c.2.2, rfl, rfl, ?_⟩
  refine ⟨_, _, rfl, 2, _, rfl, rfl, .inl ⟨by decide, by decide⟩, ?_⟩
  exact q
def sp_way_of (K : PySem.W.Frag) : Sp := fun vs H Q _ => ∃ (v u : V) (c : T3) (p : Int → Bool), vs = [v, u] ∧ Dp K H v (dT c) ∧ Dp K H u (dI (links6.filter p)) ∧
  ∀ r H', Same H H' → H' r = some (.tup [.int (way c (links6.filter p) 0), .int (way c (links6.filter p) 1)]) → Q (.ref r) H'
theorem cost_at (c : T3) {k : Int} (h : k ∈ links6) : atI [V.int c.1, V.int c.2.1, V.int c.2.2] (acr k) = some (.int (at3 c (acr k))) := by
  have : k = 0 ∨ k = 1 ∨ k = 2 ∨ k = 3 ∨ k = 4 ∨ k = 5 := by simpa [links6] using h
  rcases this with rfl | rfl | rfl | rfl | rfl | rfl <;> rfl
theorem c_way_of (T : Txt K mg) (D : DefOk K mg "way_of" s_way_of) (C_side_in : Cl P w K mg base 1 "side_in" P_side_in sp_side_in) : Cl P w K mg base 2 "way_of" P_way_of (sp_way_of K) := by
  refine cl_of D (fun _ _ _ _ _ _ us hl => match us, hl with | [_, _], _ => rfl) sc_way_of (fun vs H Q E h => ?_) (fun f cdv A outer s H vs Q E hr h => ?_)
  · obtain ⟨v, u, c, p, rfl, _⟩ := h
    rfl
  obtain ⟨v, u, c, p, rfl, hv, hu, q⟩ := h
  obtain ⟨b, rfl, gc⟩ := dpT_inv hv
  obtain ⟨a, rfl, ga⟩ := dpI_inv hu
  refine ⟨_, (pss_cons (ps_set (i := 2) sc_way_of.nd rfl (.inl rfl) (pe_lst (pa_cons pe_int (pa_cons pe_int pa_nil))))
    (pss_cons (ps_for PassesOwn.never rfl (pi_tup (pv 1)) (pg_name (i := 3) sc_way_of.nd rfl (.inl rfl)) (pss_one (ps_asg (pe_op op_sub (pe_op op_add (pe_ix (r := rIxL K) ix_list (pv 2) (pe_op op_mod (pv 3) pe_int) (fun _ _ => rfl)) (pe_callB (cr_sumT rfl) (by rfl) T.z_sum (by decide +kernel) (pa_cons (pv 0) pa_nil))) (pe_ix (r := rIxT K) ix_tup (pv 0) (pe_cl C_side_in hr (by omega) (by rfl) (pa_cons (pv 3) pa_nil)) (fun _ _ => rfl))) (pg_sub (pv 2) (pe_op op_mod (pv 3) pe_int) set_list))))
    (pss_one (ps_ret (pe_callTy call_tuple_of (by rfl) T.z_tuple (by decide +kernel) (pa_cons (pv 2) pa_nil)))))), ?_⟩
  refine ⟨sz (by simp), fun l nl => ?_⟩
  have s1 : Same H (upd H l (.lst [.int 0, .int 0])) := same_upd nl
  refine ⟨_, rfl, a, rfl, ⟨_, same_sqT s1 ga⟩, for_tup (K := K) (a := a) (xs := (links6.filter p).map V.int) (fun i σ H3 => ∃ y, σ = [some (.ref b), some (.ref a), some (.ref l), y] ∧ Same H H3 ∧ H3 l = some (.lst [.int (pw c ((links6.filter p).take i) 0), .int (pw c ((links6.filter p).take i) 1)]))
    ⟨none, rfl, s1, upd_same⟩ (fun i σ H3 _ ⟨_, _, s3, _⟩ => same_sqT s3 ga) ?_ ?_⟩
  · rintro i x σ H3 hx ⟨y, rfl, s3, h3⟩
    obtain ⟨k, hk, rfl⟩ := at_map hx
    have hkl : k ∈ links6 := (List.mem_filter.mp (List.mem_of_getElem? hk)).1
    have et : (links6.filter p).take (i + 1) = (links6.filter p).take i ++ [k] := by rw [List.take_add_one, hk]; rfl
    have e01 : k % 2 = 0 ∨ k % 2 = 1 := by omega
    have tot3 : ([c.1, c.2.1, c.2.2] : List Int).sum = tot c := by
      show c.1 + (c.2.1 + (c.2.2 + 0)) = c.1 + c.2.1 + c.2.2
      omega
    rcases e01 with e | e
    · refine ⟨_, rfl, _, rfl, k, 2, rfl, rfl, (by show (0 : Int) < 2; decide), l, _, k % 2, _, rfl, rfl, SqL.of h3, (by rw [e]; rfl), ?_⟩
      refine ⟨_, rfl, b, [c.1, c.2.1, c.2.2], rfl, same_sqT s3 gc, _, _, rfl, rfl, ?_⟩
      refine ⟨_, rfl, _, rfl, k, rfl, hkl, b, _, _, _, rfl, rfl, same_sqT s3 gc, cost_at c hkl, _, _, rfl, rfl, ?_⟩
      refine ⟨_, rfl, _, rfl, k, 2, rfl, rfl, (by show (0 : Int) < 2; decide), l, _, k % 2, 0, rfl, rfl, h3, (by rw [e]; rfl), ?_⟩
      refine ⟨_, rfl, same_mut s3 nl, ?_⟩
      rw [upd_same, et, pw_snoc, pw_snoc, if_pos e, if_neg (by omega), tot3]
      show some (HO.lst [V.int (pw c ((links6.filter p).take i) 0 + tot c - at3 c (acr k)), V.int (pw c ((links6.filter p).take i) 1)]) = _
      unfold cost
      rw [show pw c ((links6.filter p).take i) 0 + tot c - at3 c (acr k) = pw c ((links6.filter p).take i) 0 + (tot c - at3 c (acr k)) by omega, Int.add_zero]
    · refine ⟨_, rfl, _, rfl, k, 2, rfl, rfl, (by show (0 : Int) < 2; decide), l, _, k % 2, _, rfl, rfl, SqL.of h3, (by rw [e]; rfl), ?_⟩
      refine ⟨_, rfl, b, [c.1, c.2.1, c.2.2], rfl, same_sqT s3 gc, _, _, rfl, rfl, ?_⟩
      refine ⟨_, rfl, _, rfl, k, rfl, hkl, b, _, _, _, rfl, rfl, same_sqT s3 gc, cost_at c hkl, _, _, rfl, rfl, ?_⟩
      refine ⟨_, rfl, _, rfl, k, 2, rfl, rfl, (by show (0 : Int) < 2; decide), l, _, k % 2, 1, rfl, rfl, h3, (by rw [e]; rfl), ?_⟩
      refine ⟨_, rfl, same_mut s3 nl, ?_⟩
      rw [upd_same, et, pw_snoc, pw_snoc, if_neg (by omega), if_pos e, tot3]
      show some (HO.lst [V.int (pw c ((links6.filter p).take i) 0), V.int (pw c ((links6.filter p).take i) 1 + tot c - at3 c (acr k))]) = _
      unfold cost
      rw [show pw c ((links6.filter p).take i) 1 + tot c - at3 c (acr k) = pw c ((links6.filter p).take i) 1 + (tot c - at3 c (acr k)) by omega, Int.add_zero]
  · rintro σ H3 ⟨y, rfl, s3, h3⟩
    rw [List.length_map, List.take_length, (pw_way c p).1, (pw_way c p).2] at h3
    refine ⟨_, rfl, l, _, rfl, .inl ⟨SqL.of h3, fun r nr => ?_⟩⟩
    exact q r _ (s3.trans (same_upd nr)) upd_same
def sp_there_in (K : PySem.W.Frag) : Sp := fun vs H Q _ => ∃ (v u x : V) (c : T3) (t : Stand) (h : T3), vs = [v, u, x] ∧ Dp K H v (dT c) ∧ Dp K H u (dS t) ∧ Dp K H x (dT h) ∧ ChOk c ∧ t.1 ∈ ring ∧ h ∈ ring ∧
  ∀ r H' (L : List (Int × Int)), Same H H' → L.Nodup → L.length < 64 → (∀ z, z ∈ L ↔ z ∈ rests c t h) → Dp K H' r (.tuple (L.map dP)) → Q r H'
theorem dpP_q {H : Hp} {a : Addr} {x y : Int} (h : SqT K H a [.int x, .int y]) : Dq K (fun _ => False) H (.ref a) (dP (x, y)) := .tup h (.cons (.int _) (.cons (.int _) .nil))
theorem c_there_in (T : Txt K mg) (D : DefOk K mg "there_in" s_there_in) (C_spacing_in : Cl P w K mg base 1 "spacing_in" P_spacing_in (sp_spacing_in K)) (C_middle_in : Cl P w K mg base 1 "middle_in" P_middle_in (sp_middle_in K))
    (C_arcs_in : Cl P w K mg base 2 "arcs_in" P_arcs_in (sp_arcs_in K)) (C_way_of : Cl P w K mg base 2 "way_of" P_way_of (sp_way_of K)) (C_set_of : Cl P w K mg base 1 "set_of" P_set_of (sp_set_of K)) : Cl P w K mg base 3 "there_in" P_there_in (sp_there_in K) := by
  refine cl_of D (fun _ _ _ _ _ _ us hl => match us, hl with | [_, _, _], _ => rfl) sc_there_in (fun vs H Q E h => ?_) (fun f cdv A outer s H vs Q E hr h => ?_)
  · obtain ⟨v, u, x, c, t, h, rfl, _⟩ := h
    rfl
  obtain ⟨v, u, x, c, t, h, rfl, hv, hu, hx, hc, ht, hh, q⟩ := h
  obtain ⟨a, v0, v1, v2, v3, rfl, hs, h0, h1, h2, h3⟩ := dpS_inv hu
  have sp2 : 2 ≤ spc c := spc_ge hc.1.1 hc.2.1.1
  refine ⟨_, (pss_cons (ps_par3 (i := 3) (j := 4) (l := 5) rfl sc_there_in.nd rfl rfl rfl (by decide) (by decide) (by decide) rfl rfl rfl (pa_cons (pe_cl C_spacing_in hr (by omega) (by rfl) (pa_cons (pv 0) pa_nil)) (pa_cons (pe_cl C_middle_in hr (by omega) (by rfl) (pa_cons (pv 0) (pa_cons (pv 1) pa_nil))) (pa_cons (pe_lst pa_nil) pa_nil))) (by rfl))
    (pss_cons (ps_for PassesOwn.never rfl (pi_tup (pe_cl C_arcs_in hr (by omega) (by rfl) (pa_cons (pe_ix (r := rIxT K) ix_tup (pv 1) pe_int (fun _ _ => rfl)) (pa_cons (pv 2) pa_nil)))) (pg_name (i := 6) sc_there_in.nd rfl (.inl rfl)) (pss_cons (ps_set (i := 7) sc_there_in.nd rfl (.inl rfl) (pe_cl C_way_of hr (by omega) (by rfl) (pa_cons (pv 0) (pa_cons (pv 6) pa_nil))))
    (pss_one (ps_expr (pe_bm PySem.F.plainAttrs_list PySem.F.slot_list_append PySem.F.type_list_append mt_append (pv 5) (pa_cons (pe_tup (pa_cons (pe_op op_mod (pe_op op_add (pe_ix (r := rIxT K) ix_tup (pv 4) pe_int (fun _ _ => rfl)) (pe_ix (r := rIxT K) ix_tup (pv 7) pe_int (fun _ _ => rfl))) (pv 3)) (pa_cons (pe_op op_mod (pe_op op_add (pe_ix (r := rIxT K) ix_tup (pv 4) pe_int (fun _ _ => rfl)) (pe_ix (r := rIxT K) ix_tup (pv 7) pe_int (fun _ _ => rfl))) (pv 3)) pa_nil))) pa_nil))))))
    (pss_one (ps_ret (pe_cl C_set_of hr (by omega) (by rfl) (pa_cons (pv 5) pa_nil)))))), ?_⟩
  -- many, here, found = spacing_in(chest), middle_in(chest, stand), []
  refine ⟨_, rfl, v, c, rfl, hv, _, rfl, _, rfl, v, .ref a, c, t, rfl, hv, hu, hc, fun m H1 s1 _ hm => ?_⟩
  refine ⟨Nat.zero_le _, fun l nl => ⟨_, _, _, rfl, ?_⟩⟩
  have s2 : Same H (upd H1 l (.lst [])) := s1.trans (same_upd nl)
  -- for arc in arcs_in(stand[0], shape)
  refine ⟨_, rfl, a, _, 0, _, rfl, rfl, same_sqT s2 hs, rfl, _, rfl, v0, x, t.1, h, rfl, Dp.same h0 s2, Dp.same hx s2, ht, hh, fun r H3 s3 hr3 => ?_⟩
  obtain ⟨ar, xs, rfl, har, hall⟩ := dp_tup_inv hr3
  have hl2 := dpAll_len hall
  rw [List.length_map] at hl2
  refine ⟨ar, rfl, ⟨_, har⟩, for_tup (K := K) (a := ar) (xs := xs) (fun i σ H4 => ∃ y1 y2 acc, σ = [some v, some (.ref a), some x, some (.int (spc c)), some (.ref m), some (.ref l), y1, y2] ∧ Same H1 H4 ∧ SameN H3 H4 ∧ H4 l = some (.lst acc) ∧ DqAll K (fun _ => False) H4 acc (((rests c t h).take i).map dP))
    ⟨none, none, [], rfl, (same_upd nl).trans s3, SameN.refl _, s3 _ _ upd_same, .nil⟩ (fun i σ H4 _ ⟨_, _, _, _, _, s4, _⟩ => s4.sqT har) ?_ ?_⟩
  · rintro i xv σ H4 hxi ⟨y1, y2, acc, rfl, s4, n4, h4, ha4⟩
    obtain ⟨d, hd, dx⟩ := dpAll_at hall hxi
    obtain ⟨arc, harc, rfl⟩ := at_map hd
    have ham : arc ∈ arcs2 t.1 h := List.mem_of_getElem? harc
    obtain ⟨p, hp⟩ := arc_filter ham
    subst hp
    obtain ⟨aa, rfl, gaa⟩ := dpI_inv dx
    have e4 := s1.trans s4
    have hri : (rests c t h)[i]? = some (((mid c t).1 + way c (links6.filter p) 0) % spc c, ((mid c t).2 + way c (links6.filter p) 1) % spc c) := by
      unfold rests
      rw [List.getElem?_map, harc]
      rfl
    -- way = way_of(chest, arc)
    refine ⟨_, rfl, _, rfl, v, .ref aa, c, p, rfl, Dp.same hv e4, dpI_mk (n4.sqT gaa), fun wv H5 s5 hw => ?_⟩
    have hm5 : SqT K H5 m [.int (mid c t).1, .int (mid c t).2] := same_sqT (s4.trans s5) (SqT.of hm)
    -- found.append((.., ..))
    refine ⟨_, rfl, .inl ⟨rfl, _, SqL.of (s5 _ _ h4)⟩, ?_⟩
    refine ⟨_, rfl, m, _, 0, _, rfl, rfl, hm5, rfl, _, rfl, wv, _, 0, _, rfl, rfl, SqT.of hw, rfl, _, _, rfl, rfl, _, rfl, _, _, rfl, rfl, (by show (0 : Int) < spc c; omega), ?_⟩
    refine ⟨_, rfl, m, _, 1, _, rfl, rfl, hm5, rfl, _, rfl, wv, _, 1, _, rfl, rfl, SqT.of hw, rfl, _, _, rfl, rfl, _, rfl, _, _, rfl, rfl, (by show (0 : Int) < spc c; omega), ?_⟩
    refine ⟨sz (by simp), fun z nz => ?_⟩
    have s6 := s5.trans (same_upd (o := .tup [.int (((mid c t).1 + way c (links6.filter p) 0) % spc c), .int (((mid c t).2 + way c (links6.filter p) 1) % spc c)]) nz)
    have hl6 := s6 _ _ h4
    have lacc : acc.length < 100000 := by
      have e := dqAll_len ha4
      rw [List.length_map, List.length_take] at e
      have e2 : (rests c t h).length = 2 := rfl
      omega
    refine ⟨l, acc, _, rfl, rfl, hl6, szlt lacc, ?_⟩
    refine ⟨_, _, _, rfl, same_mut (s4.trans s6) nl, n4.trans ((same_n s6).trans (SameN.upd_lst hl6)), upd_same, ?_⟩
    have et : (rests c t h).take (i + 1) = (rests c t h).take i ++ [(((mid c t).1 + way c (links6.filter p) 0) % spc c, ((mid c t).2 + way c (links6.filter p) 1) % spc c)] := by rw [List.take_add_one, hri]; rfl
    rw [et, List.map_append]
    refine (dqAll_snoc (dpP_q (SqT.of upd_same)) (ha4.same s6)).mono (fun _ z => z) (SameN.upd_lst hl6) fun a xs z _ => z.elim
  · rintro σ H4 ⟨y1, y2, acc, rfl, s4, n4, h4, ha4⟩
    have e2 : xs.length = (rests c t h).length := hl2
    rw [e2, List.take_length] at ha4
    refine ⟨_, rfl, l, acc, rests c t h, spc c, rfl, SqL.of h4, ha4.dp, (by show 2 < 64; decide), fun z hz => ?_, fun r H5 L s5 l1 l2 l3 l4 => ?_⟩
    · obtain ⟨arc, _, rfl⟩ := List.mem_map.mp hz
      exact ⟨⟨Int.emod_nonneg _ (by omega), Int.emod_lt_of_pos _ (by omega)⟩, ⟨Int.emod_nonneg _ (by omega), Int.emod_lt_of_pos _ (by omega)⟩⟩
    · exact q r H5 L (s1.trans (s4.trans s5)) l1 l2 l3 l4
def sp_span_of : Sp := fun vs H Q _ => ∃ rest many low high : Int, vs = [.int rest, .int many, .int low, .int high] ∧ (0 < many ∧ many < 1073741824) ∧
  ∀ r, H r = none → Q (.ref r) (upd H r (.tup [.int (low + (rest - low) % many), .int (if (high - (low + (rest - low) % many)) / many + 1 > 0 then (high - (low + (rest - low) % many)) / many + 1 else 0)]))
theorem c_span_of (T : Txt K mg) (D : DefOk K mg "span_of" s_span_of) : Cl P w K mg base 1 "span_of" P_span_of sp_span_of := by
  refine cl_of D (fun _ _ _ _ _ _ us hl => match us, hl with | [_, _, _, _], _ => rfl) sc_span_of (fun vs H Q E h => ?_) (fun f cdv A outer s H vs Q E hr h => ?_)
  · obtain ⟨rest, many, low, high, rfl, _⟩ := h
    rfl
  obtain ⟨rest, many, low, high, rfl, hm, q⟩ := h
  refine ⟨_, (pss_cons (ps_set (i := 4) sc_span_of.nd rfl (.inl rfl) (pe_op op_add (pv 2) (pe_op op_mod (pe_op op_sub (pv 0) (pv 2)) (pv 1))))
    (pss_one (ps_ret (pe_tup (pa_cons (pv 4) (pa_cons (pe_callB (call_max2 rfl) (by rfl) T.z_max (by decide +kernel) (pa_cons pe_int (pa_cons (pe_op op_add (pe_op op_fdiv (pe_op op_sub (pv 3) (pv 4)) (pv 1)) pe_int) pa_nil))) pa_nil)))))), ?_⟩
  refine ⟨_, rfl, _, rfl, _, rfl, _, _, rfl, rfl, _, rfl, _, _, rfl, rfl, hm.1, _, _, rfl, rfl, ?_⟩
  refine ⟨_, rfl, _, rfl, _, rfl, _, _, rfl, rfl, _, rfl, _, _, rfl, rfl, hm, _, _, rfl, rfl, _, _, rfl, ?_⟩
  exact ⟨sz (by simp), fun r nr => q r nr⟩
def sp_sure_span : Sp := fun vs H Q _ => ∃ low high : Int, vs = [.int low, .int high] ∧ Q .non H
theorem c_sure_span (T : Txt K mg) (D : DefOk K mg "sure_span" s_sure_span) (C_is_number : Cl P w K mg base 1 "is_number" P_is_number sp_is_number) : Cl P w K mg base 2 "sure_span" P_sure_span sp_sure_span := by
  refine cl_of D (fun _ _ _ _ _ _ us hl => match us, hl with | [_, _], _ => rfl) sc_sure_span (fun vs H Q E h => ?_) (fun f cdv A outer s H vs Q E hr h => ?_)
  · obtain ⟨low, high, rfl, _⟩ := h
    rfl
  obtain ⟨low, high, rfl, q⟩ := h
  refine ⟨_, (pss_one (ps_if (PW.pt (pw_or (pt_not (pt_val (pe_cl C_is_number hr (by omega) (by rfl) (pa_cons (pv 0) pa_nil)))) (pw_or1 (pt_not (pt_val (pe_cl C_is_number hr (by omega) (by rfl) (pa_cons (pv 1) pa_nil))))))) (pss_one ps_never) pss_nil)), ?_⟩
  refine ⟨_, rfl, low, rfl, true, rfl, iteF ?_⟩
  exact ⟨_, rfl, high, rfl, true, rfl, iteF q⟩
end
end Mv
end

section
set_option linter.all false
set_option maxRecDepth 100000
/-! MvO: spans, grids. -/
namespace Mv
def f0 (many low rest : Int) : Int := low + (rest - low) % many
def c0 (many low high rest : Int) : Int := if (high - (low + (rest - low) % many)) / many + 1 > 0 then (high - (low + (rest - low) % many)) / many + 1 else 0
theorem c0_nn (many low high rest : Int) : 0 ≤ c0 many low high rest := by
  unfold c0
  split <;> omega
theorem c0_le {many low high rest : Int} (hm : 2 ≤ many) (h : high - low ≤ 60) : c0 many low high rest ≤ 31 := by
  unfold c0
  split
  · have r0 : 0 ≤ (rest - low) % many := Int.emod_nonneg _ (by omega)
    have q := Int.ediv_mul_le (high - (low + (rest - low) % many)) (b := many) (by omega)
    generalize (high - (low + (rest - low) % many)) / many = k at *
    rcases Int.lt_or_le k 31 with z | z
    · omega
    · have e : k * 2 ≤ k * many := Int.mul_le_mul_of_nonneg_left hm (by omega)
      omega
  · omega
theorem span_mem {many low high rest x : Int} (hm : 0 < many) (hr : 0 ≤ rest ∧ rest < many) : (∃ i : Nat, (i : Int) < c0 many low high rest ∧ x = f0 many low rest + (i : Int) * many) ↔ (low ≤ x ∧ x ≤ high) ∧ x % many = rest := by
  have r0 : 0 ≤ (rest - low) % many := Int.emod_nonneg _ (by omega)
  constructor
  · rintro ⟨i, hi, rfl⟩
    have hp : 0 ≤ (i : Int) * many := Int.mul_nonneg (by omega) (by omega)
    unfold c0 at hi
    unfold f0
    refine ⟨⟨by omega, ?_⟩, ?_⟩
    · split at hi
      · have h1 : (i : Int) ≤ (high - (low + (rest - low) % many)) / many := by omega
        have h2 := (Int.le_ediv_iff_mul_le hm).mp h1
        omega
      · omega
    · rw [Int.add_mul_emod_self_right, Int.add_emod, Int.emod_emod, ← Int.add_emod, show low + (rest - low) = rest by omega]
      exact Int.emod_eq_of_lt hr.1 hr.2
  · rintro ⟨⟨h1, h2⟩, h3⟩
    have e1 : (x - low) % many = (rest - low) % many := by
      have e0 := Int.mul_ediv_add_emod x many
      rw [h3] at e0
      rw [show x - low = (rest - low) + many * (x / many) by omega, Int.add_mul_emod_self_left]
    have e2 := Int.mul_ediv_add_emod (x - low) many
    rw [e1, Int.mul_comm] at e2
    have q0 : 0 ≤ (x - low) / many := Int.ediv_nonneg (by omega) (by omega)
    refine ⟨((x - low) / many).toNat, ?_, ?_⟩
    · unfold c0
      have h4 : (x - low) / many ≤ (high - (low + (rest - low) % many)) / many := by
        refine (Int.le_ediv_iff_mul_le hm).mpr ?_
        omega
      rw [if_pos (by omega)]
      omega
    · unfold f0
      rw [Int.toNat_of_nonneg q0]
      omega
/-! ### the grid of a pair of rests -/
def gridOf (many low high : Int) (z : Int × Int) (n : Nat) : List (Int × Int) :=
  (List.range n).flatMap fun (i : Nat) => (List.range (c0 many low high z.2).toNat).map fun (j : Nat) => (f0 many low z.1 + (i : Int) * many, f0 many low z.2 + (j : Int) * many)
def block (many low high : Int) (z : Int × Int) : List (Int × Int) := gridOf many low high z (c0 many low high z.1).toNat
def allOf (many low high : Int) (L : List (Int × Int)) : List (Int × Int) := L.flatMap (block many low high)
theorem gridOf_succ (many low high : Int) (z : Int × Int) (n : Nat) : gridOf many low high z (n + 1) = gridOf many low high z n ++ (List.range (c0 many low high z.2).toNat).map fun (j : Nat) => (f0 many low z.1 + (n : Int) * many, f0 many low z.2 + (j : Int) * many) := by
  unfold gridOf
  rw [List.range_succ, List.flatMap_append]
  simp
theorem gridOf_len {many low high : Int} (hm : 2 ≤ many) (h : high - low ≤ 60) (z : Int × Int) (n : Nat) : (gridOf many low high z n).length ≤ n * 31 := by
  induction n with
  | zero => exact Nat.le_refl _
  | succ n ih =>
    rw [gridOf_succ, List.length_append, List.length_map, List.length_range]
    have := c0_le (many := many) (rest := z.2) hm h
    omega
theorem mem_block {many low high : Int} (hm : 0 < many) {z x : Int × Int} (h1 : 0 ≤ z.1 ∧ z.1 < many) (h2 : 0 ≤ z.2 ∧ z.2 < many) : x ∈ block many low high z ↔ ((low ≤ x.1 ∧ x.1 ≤ high) ∧ x.1 % many = z.1) ∧ (low ≤ x.2 ∧ x.2 ≤ high) ∧ x.2 % many = z.2 := by
  rw [← span_mem hm h1, ← span_mem hm h2]
  unfold block gridOf
  rw [List.mem_flatMap]
  have n1 := c0_nn many low high z.1
  have n2 := c0_nn many low high z.2
  constructor
  · rintro ⟨i, hi, hx⟩
    obtain ⟨j, hj, rfl⟩ := List.mem_map.mp hx
    rw [List.mem_range] at hi hj
    exact ⟨⟨i, by omega, rfl⟩, ⟨j, by omega, rfl⟩⟩
  · rintro ⟨⟨i, hi, e1⟩, ⟨j, hj, e2⟩⟩
    refine ⟨i, List.mem_range.mpr (by omega), List.mem_map.mpr ⟨j, List.mem_range.mpr (by omega), ?_⟩⟩
    rw [← e1, ← e2]
theorem step_ne {many a : Int} (hm : 0 < many) {i j : Nat} (h : i < j) : a + (i : Int) * many ≠ a + (j : Int) * many := by
  have e : (i : Int) * many < (j : Int) * many := Int.mul_lt_mul_of_pos_right (by omega) hm
  omega
theorem block_nd {many low high : Int} (hm : 0 < many) (z : Int × Int) : (block many low high z).Nodup := by
  unfold block gridOf
  refine List.pairwise_flatMap.mpr ⟨fun i _ => ?_, ?_⟩
  · refine List.pairwise_map.mpr (List.Pairwise.imp ?_ List.pairwise_lt_range)
    intro a b hab e
    exact step_ne hm hab (congrArg Prod.snd e)
  · refine List.Pairwise.imp ?_ List.pairwise_lt_range
    intro a b hab x hx y hy e
    obtain ⟨j, _, rfl⟩ := List.mem_map.mp hx
    obtain ⟨k, _, rfl⟩ := List.mem_map.mp hy
    exact step_ne hm hab (congrArg Prod.fst e)
theorem all_nd {many low high : Int} (hm : 0 < many) {L : List (Int × Int)} (nd : L.Nodup) (hL : ∀ z ∈ L, (0 ≤ z.1 ∧ z.1 < many) ∧ (0 ≤ z.2 ∧ z.2 < many)) : (allOf many low high L).Nodup := by
  unfold allOf
  refine List.pairwise_flatMap.mpr ⟨fun z _ => block_nd hm z, ?_⟩
  refine List.Pairwise.imp_of_mem ?_ nd
  intro a b ha hb hab x hx y hy e
  subst e
  have q1 := (mem_block hm (hL a ha).1 (hL a ha).2).mp hx
  have q2 := (mem_block hm (hL b hb).1 (hL b hb).2).mp hy
  refine hab ?_
  obtain ⟨a1, a2⟩ := a
  obtain ⟨b1, b2⟩ := b
  have e1 : a1 = b1 := q1.1.2.symm.trans q2.1.2
  have e2 : a2 = b2 := q1.2.2.symm.trans q2.2.2
  rw [e1, e2]
theorem mem_all {many low high : Int} (hm : 0 < many) {L : List (Int × Int)} (hL : ∀ z ∈ L, (0 ≤ z.1 ∧ z.1 < many) ∧ (0 ≤ z.2 ∧ z.2 < many)) (x : Int × Int) : x ∈ allOf many low high L ↔ (low ≤ x.1 ∧ x.1 ≤ high) ∧ (low ≤ x.2 ∧ x.2 ≤ high) ∧ (x.1 % many, x.2 % many) ∈ L := by
  unfold allOf
  rw [List.mem_flatMap]
  constructor
  · rintro ⟨z, hz, hx⟩
    obtain ⟨⟨q1, q2⟩, q3, q4⟩ := (mem_block hm (hL z hz).1 (hL z hz).2).mp hx
    refine ⟨q1, q3, ?_⟩
    rw [q2, q4]
    exact hz
  · rintro ⟨q1, q2, q3⟩
    exact ⟨_, q3, (mem_block hm (hL _ q3).1 (hL _ q3).2).mpr ⟨⟨q1, rfl⟩, q2, rfl⟩⟩
theorem all_len {many low high : Int} (hm : 2 ≤ many) (h : high - low ≤ 60) (L : List (Int × Int)) : (allOf many low high L).length ≤ L.length * 961 := by
  induction L with
  | nil => exact Nat.le_refl _
  | cons z L ih =>
    unfold allOf at *
    rw [List.flatMap_cons, List.length_append, List.length_cons]
    have a : (block many low high z).length ≤ (c0 many low high z.1).toNat * 31 := gridOf_len hm h z (c0 many low high z.1).toNat
    have b := c0_le (many := many) (rest := z.1) hm h
    have e : (c0 many low high z.1).toNat * 31 ≤ 31 * 31 := Nat.mul_le_mul_right 31 (by omega)
    omega
theorem nd_two {α : Type} {L : List α} {a b : α} (nd : L.Nodup) (h : ∀ z ∈ L, z = a ∨ z = b) : L.length ≤ 2 := by
  match L, nd, h with
  | [], _, _ => exact Nat.zero_le _
  | [_], _, _ => exact Nat.le_succ 1
  | [_, _], _, _ => exact Nat.le_refl 2
  | x :: y :: z :: r, nd, h =>
    exfalso
    obtain ⟨n1, nd⟩ := List.pairwise_cons.mp nd
    obtain ⟨n2, nd⟩ := List.pairwise_cons.mp nd
    have xy := n1 y (by simp)
    have xz := n1 z (by simp)
    have yz := n2 z (by simp)
    have hx := h x (by simp)
    have hy := h y (by simp)
    have hz := h z (by simp)
    rcases hx with rfl | rfl <;> rcases hy with rfl | rfl <;> rcases hz with rfl | rfl <;> first | exact xy rfl | exact xz rfl | exact yz rfl
theorem in_mid_iff {c : T3} {s : Stand} {h : T3} {low high : Int} (z : Int × Int) : (low ≤ z.1 ∧ z.1 ≤ high) ∧ (low ≤ z.2 ∧ z.2 ≤ high) ∧ (z.1 % spc c, z.2 % spc c) ∈ rests c s h ↔ InMid c s h low high z := by
  unfold InMid rests
  rw [List.mem_map]
  have e : ∀ x m y : Int, (m + y) % spc c = x % spc c ↔ (x - m - y) % spc c = 0 := fun x m y => by
    rw [eq_comm, Int.emod_eq_emod_iff_emod_sub_eq_zero, show x - (m + y) = x - m - y by omega]
  constructor
  · rintro ⟨h1, h2, arc, ha, eq⟩
    exact ⟨h1, h2, arc, ha, (e _ _ _).mp (congrArg Prod.fst eq), (e _ _ _).mp (congrArg Prod.snd eq)⟩
  · rintro ⟨h1, h2, arc, ha, q1, q2⟩
    refine ⟨h1, h2, arc, ha, ?_⟩
    rw [(e _ _ _).mpr q1, (e _ _ _).mpr q2]
theorem rests_in {c : T3} {s : Stand} {h : T3} (hs : 0 < spc c) : ∀ z ∈ rests c s h, (0 ≤ z.1 ∧ z.1 < spc c) ∧ (0 ≤ z.2 ∧ z.2 < spc c) := by
  intro z hz
  obtain ⟨arc, _, rfl⟩ := List.mem_map.mp hz
  exact ⟨⟨Int.emod_nonneg _ (by omega), Int.emod_lt_of_pos _ hs⟩, ⟨Int.emod_nonneg _ (by omega), Int.emod_lt_of_pos _ hs⟩⟩
end Mv
end

section
set_option Elab.async false
set_option linter.all false
set_option maxRecDepth 100000
set_option maxHeartbeats 8000000
/-! MvE6: listed, middles_in. -/
namespace Mv
open PySem PySem.Spec PyProof.Rows L2 RZ
theorem pairAt_n {H H' : Hp} (n : SameN H H') {x : V} {z : Int × Int} (h : PairAt H x z) : PairAt H' x z := by
  obtain ⟨t, rfl, e⟩ := h
  exact ⟨t, rfl, n _ _ e trivial⟩
theorem pairs_n {H H' : Hp} (n : SameN H H') : ∀ {xs : List V} {zs : List (Int × Int)}, Paired (PairAt H) xs zs → Paired (PairAt H') xs zs
  | _, _, .nil => .nil
  | _, _, .cons a t => .cons (pairAt_n n a) (pairs_n n t)
theorem paired_app {α β : Type} {F : α → β → Prop} : ∀ {xs xs' : List α} {zs zs' : List β}, Paired F xs zs → Paired F xs' zs' → Paired F (xs ++ xs') (zs ++ zs')
  | _, _, _, _, .nil, h => h
  | _, _, _, _, .cons a t, h => .cons a (paired_app t h)
theorem pairs_dp {K : PySem.W.Frag} {H : Hp} : ∀ {xs : List V} {zs : List (Int × Int)}, Paired (PairAt H) xs zs → DpAll K H xs (zs.map dP)
  | _, _, .nil => .nil
  | _, _, .cons ⟨t, e, h⟩ r => by
    subst e
    exact .cons (dpP_mk (SqT.of h)) (pairs_dp r)
/-- a comprehension that makes pairs -/
def PvQ (H1 : Hp) (D : Addr) (zs : List (Int × Int)) (i : Nat) (H3 : Hp) : Prop := Same H1 H3 ∧ ∃ acc, H3 D = some (.lst acc) ∧ Paired (PairAt H3) acc (zs.take i)
theorem pvq_0 {H1 : Hp} {D : Addr} {zs : List (Int × Int)} (n : H1 D = none) : PvQ H1 D zs 0 (upd H1 D (.lst [])) := ⟨same_upd n, [], upd_same, .nil⟩
theorem pvq_next {H1 H3 H4 : Hp} {D : Addr} {zs : List (Int × Int)} {i : Nat} {y : V} {z : Int × Int} (n : H1 D = none) (p : PvQ H1 D zs i H3) (s4 : Same H3 H4) (hl : zs.length ≤ 5000) (he : zs[i]? = some z) (hy : PairAt H4 y z) :
    ∃ acc, H4 D = some (.lst acc) ∧ acc.length < sizeLine ∧ PvQ H1 D zs (i + 1) (upd H4 D (.lst (acc ++ [y]))) := by
  obtain ⟨s3, acc, hD, ha⟩ := p
  have hD4 := s4 _ _ hD
  have l := Paired.length ha
  rw [List.length_take] at l
  refine ⟨acc, hD4, szlt (by omega), same_mut (s3.trans s4) n, _, upd_same, ?_⟩
  have e1 : zs.take (i + 1) = zs.take i ++ [z] := by rw [List.take_add_one, he]; rfl
  rw [e1]
  exact paired_app (pairs_n ((same_n s4).trans (SameN.upd_lst hD4)) ha) (.cons (pairAt_n (SameN.upd_lst hD4) hy) .nil)
/-- a row: both spans -/
def dR (many low high : Int) (z : Int × Int) : PyData := .tuple [dP (f0 many low z.1, c0 many low high z.1), dP (f0 many low z.2, c0 many low high z.2)]
theorem dR_inv {K : PySem.W.Frag} {H : Hp} {v : V} {many low high : Int} {z : Int × Int} (h : Dp K H v (dR many low high z)) : ∃ a e n, v = .ref a ∧ SqT K H a [.ref e, .ref n] ∧ SqT K H e [.int (f0 many low z.1), .int (c0 many low high z.1)] ∧ SqT K H n [.int (f0 many low z.2), .int (c0 many low high z.2)] := by
  obtain ⟨a, xs, rfl, h1, h2⟩ := dp_tup_inv h
  cases h2 with
  | cons a0 h2 => cases h2 with
    | cons a1 h2 =>
      cases h2
      obtain ⟨e, rfl, g0⟩ := dpP_inv a0
      obtain ⟨n, rfl, g1⟩ := dpP_inv a1
      exact ⟨a, e, n, rfl, h1, g0, g1⟩
theorem dqAll_n {K : PySem.W.Frag} {H H' : Hp} {vs : List V} {ds : List PyData} (h : DqAll K (fun _ => False) H vs ds) (n : SameN H H') : DqAll K (fun _ => False) H' vs ds := h.mono (fun _ z => z) n fun _ _ z _ => z.elim
theorem sum_two {L : List (Int × Int)} {many low high : Int} (hm : 2 ≤ many) (h : high - low ≤ 60) (hL : L.length ≤ 2) : (L.map fun z => c0 many low high z.1 * c0 many low high z.2).sum ≤ 1922 := by
  have b : ∀ z : Int × Int, c0 many low high z.1 * c0 many low high z.2 ≤ 961 := fun z => by
    have a1 := c0_le (many := many) (rest := z.1) hm h
    have a2 := c0_le (many := many) (rest := z.2) hm h
    have n1 := c0_nn many low high z.1
    have n2 := c0_nn many low high z.2
    have q1 : c0 many low high z.1 * c0 many low high z.2 ≤ 31 * c0 many low high z.2 := Int.mul_le_mul_of_nonneg_right a1 n2
    omega
  match L, hL with
  | [], _ => show (0 : Int) ≤ 1922; decide
  | [x], _ =>
    have := b x
    show c0 many low high x.1 * c0 many low high x.2 + 0 ≤ 1922
    omega
  | [x, y], _ =>
    have := b x
    have := b y
    show c0 many low high x.1 * c0 many low high x.2 + (c0 many low high y.1 * c0 many low high y.2 + 0) ≤ 1922
    omega
section
variable {P : Program} {w : World} {K : PySem.W.Frag} {mg : Str → Option Value} {base : Heap}
def sp_listed (K : PySem.W.Frag) : Sp := fun vs H Q _ => ∃ (v : V) (L : List (Int × Int)) (many low high : Int), vs = [v, .int many, .int low, .int high] ∧ Dp K H v (.tuple (L.map dP)) ∧ L.Nodup ∧ L.length ≤ 2 ∧
  (∀ z ∈ L, (0 ≤ z.1 ∧ z.1 < many) ∧ (0 ≤ z.2 ∧ z.2 < many)) ∧ (2 ≤ many ∧ many ≤ 10000) ∧ high - low ≤ 60 ∧
  ∀ r H' (ys : List V) (M : List (Int × Int)), Same H H' → H' r = some (.lst ys) → Paired (PairAt H') ys M → M.Pairwise lexZ → (∀ z, z ∈ M ↔ (low ≤ z.1 ∧ z.1 ≤ high) ∧ (low ≤ z.2 ∧ z.2 ≤ high) ∧ (z.1 % many, z.2 % many) ∈ L) → Q (.ref r) H'
theorem c_listed (T : Txt K mg) (D : DefOk K mg "listed" s_listed) (C_span_of : Cl P w K mg base 1 "span_of" P_span_of sp_span_of) : Cl P w K mg base 2 "listed" P_listed (sp_listed K) := by
  refine cl_of D (fun _ _ _ _ _ _ us hl => match us, hl with | [_, _, _, _], _ => rfl) sc_listed (fun vs H Q E h => ?_) (fun f cdv A outer s H vs Q E hr h => ?_)
  · obtain ⟨v, L, many, low, high, rfl, _⟩ := h
    rfl
  obtain ⟨v, L, many, low, high, rfl, hv, nd, hL2, hL, hm, hb, q⟩ := h
  obtain ⟨a, xs, rfl, hs, hall⟩ := dp_tup_inv hv
  have lx := dpAll_len hall
  rw [List.length_map] at lx
  have cm : ∀ m : Int, CMul m many := fun m => .inr (by omega)
  refine ⟨_, (pss_cons (ps_setLc (i := 5) (own := [("east", 4), ("north", 10)]) (g := gTup K 2 (gCons (gName 4) (gCons (gName 10) gNil))) (by rfl) sc_listed.nd rfl rfl (sw_true rfl rfl rfl (by decide +kernel)) (pi_tup (pv 0)) (blkOk_by (N := N_listed) (sc := defScope s_listed) (by decide +kernel)) (fun _ _ _ _ _ => (pg_tup rfl (pgs_cons (pg_name (i := 4) sc_listed.nd rfl (.inl rfl) (.inr rfl)) (pgs_cons (pg_name (i := 10) sc_listed.nd rfl (.inl rfl) (.inr rfl)) pgs_nil)))) (fun _ _ _ _ _ => pts_nil) (fun _ _ _ _ _ => (pe_tup (pa_cons (pe_cl C_span_of hr (by omega) (by rfl) (pa_cons (pv 4) (pa_cons (pv 1) (pa_cons (pv 2) (pa_cons (pv 3) pa_nil))))) (pa_cons (pe_cl C_span_of hr (by omega) (by rfl) (pa_cons (pv 10) (pa_cons (pv 1) (pa_cons (pv 2) (pa_cons (pv 3) pa_nil))))) pa_nil)))))
    (pss_cons (ps_if (pt_cmpR op_gt (pe_callB (cr_sum rfl) (by rfl) T.z_sum (by decide +kernel) (pa_cons (pe_lc (own := [("easts", 6), ("norths", 7)]) (g := gTup K 2 (gCons (gName 6) (gCons (gName 7) gNil))) (by rfl) sc_listed.nd (pi_list (pv 5)) (blkOk_by (N := N_listed) (sc := defScope s_listed) (by decide +kernel)) (fun _ _ _ _ _ => (pg_tup rfl (pgs_cons (pg_name (i := 6) sc_listed.nd rfl (.inl rfl) (.inr rfl)) (pgs_cons (pg_name (i := 7) sc_listed.nd rfl (.inl rfl) (.inr rfl)) pgs_nil)))) (fun _ _ _ _ _ => pts_nil) (fun _ _ _ _ _ => (pe_op op_mul (pe_ix (r := rIxT K) ix_tup (pv 6) pe_int (fun _ _ => rfl)) (pe_ix (r := rIxT K) ix_tup (pv 7) pe_int (fun _ _ => rfl))))) pa_nil)) (pe_glob (v := .int 2000) (by rfl) T.g_MOST.choose_spec ⟨_, rfl⟩) (nomark _)) (pss_one ps_never) pss_nil)
    (pss_cons (ps_set (i := 8) sc_listed.nd rfl (.inl rfl) (pe_lst pa_nil))
    (pss_cons (ps_for PassesOwn.never rfl (pi_list (pv 5)) (pg_tup rfl (pgs_cons (pg_name (i := 6) sc_listed.nd rfl (.inl rfl)) (pgs_cons (pg_name (i := 7) sc_listed.nd rfl (.inr rfl)) pgs_nil))) (pss_one (ps_for PassesOwn.never rfl (pi_range1 (by rfl) T.z_range (pa_cons (pe_ix (r := rIxT K) ix_tup (pv 6) pe_int (fun _ _ => rfl)) pa_nil)) (pg_name (i := 9) sc_listed.nd rfl (.inl rfl)) (pss_cons (ps_set (i := 4) sc_listed.nd rfl (.inr rfl) (pe_op op_add (pe_ix (r := rIxT K) ix_tup (pv 6) pe_int (fun _ _ => rfl)) (pe_op op_mul (pv 9) (pv 1))))
    (pss_one (ps_expr (pe_bm PySem.F.plainAttrs_list PySem.F.slot_list_extend PySem.F.type_list_extend mt_extend (pv 8) (pa_cons (pe_lc (own := [("own", 11)]) (by rfl) sc_listed.nd (pi_range1 (by rfl) T.z_range (pa_cons (pe_ix (r := rIxT K) ix_tup (pv 7) pe_int (fun _ _ => rfl)) pa_nil)) (blkOk_by (N := N_listed) (sc := defScope s_listed) (by decide +kernel)) (fun _ _ _ _ _ => (pg_name (i := 11) sc_listed.nd rfl (.inl rfl))) (fun _ _ _ _ _ => pts_nil) (fun _ _ _ _ _ => (pe_tup (pa_cons (pv 4) (pa_cons (pe_op op_add (pe_ix (r := rIxT K) ix_tup (pv 7) pe_int (fun _ _ => rfl)) (pe_op op_mul (pv 11) (pv 1))) pa_nil))))) pa_nil))))))))
    (pss_one (ps_ret (pe_callB cr_sortP (by rfl) T.z_sorted (by decide +kernel) (pa_cons (pv 8) pa_nil)))))))), ?_⟩
  -- rows
  refine ⟨_, rfl, a, rfl, ⟨_, hs⟩, fun R nR => lc_tup (K := K) (a := a) (xs := xs) (PvD K (fun _ => False) H R (L.map (dR many low high))) (pvd_0 nR) (fun i H3 _ p => same_sqT p.1 hs) (fun i x H3 hx p => ?_) (fun HR p => ?_)⟩
  · obtain ⟨d, hd, dx⟩ := dpAll_at hall hx
    obtain ⟨z, hz, rfl⟩ := at_map hd
    obtain ⟨ax, rfl, gx⟩ := dpP_inv dx
    refine ⟨ax, _, rfl, same_sqT p.1 gx, rfl, _, _, rfl, _, _, rfl, rfl, ?_⟩
    refine ⟨rfl, ?_⟩
    refine ⟨_, rfl, _, rfl, _, rfl, _, rfl, z.1, many, low, high, rfl, (by omega), fun r1 n1 => ?_⟩
    refine ⟨_, rfl, _, rfl, _, rfl, _, rfl, z.2, many, low, high, rfl, (by omega), fun r2 n2 => ?_⟩
    refine ⟨sz (by simp), fun t nt => ?_⟩
    have e1 := same_upd (o := .tup [.int (low + (z.1 - low) % many), .int (if (high - (low + (z.1 - low) % many)) / many + 1 > 0 then (high - (low + (z.1 - low) % many)) / many + 1 else 0)]) n1
    have e2 := same_upd (o := .tup [.int (low + (z.2 - low) % many), .int (if (high - (low + (z.2 - low) % many)) / many + 1 > 0 then (high - (low + (z.2 - low) % many)) / many + 1 else 0)]) n2
    have e3 := same_upd (o := .tup [.ref r1, .ref r2]) nt
    refine pvd_next nR (fun z => z) p (e1.trans (e2.trans e3)) (by rw [List.length_map]; omega) (e := dR many low high z) (by rw [List.getElem?_map, hz]; rfl) ?_
    refine .tup (SqT.of upd_same) (.cons (dpP_q ?_) (.cons (dpP_q ?_) .nil))
    · exact same_sqT (e2.trans e3) (SqT.of upd_same)
    · exact same_sqT e3 (SqT.of upd_same)
  obtain ⟨sR, rws, hRw, harw⟩ := p
  have harw : DqAll K (fun _ => False) HR rws (L.map (dR many low high)) := by
    have e : xs.length = (L.map (dR many low high)).length := by rw [List.length_map]; exact lx
    rw [e, List.take_length] at harw
    exact harw
  have lrw := dqAll_len harw
  rw [List.length_map] at lrw
  -- if sum([..]) > MOST
  refine ⟨_, rfl, R, rfl, ⟨_, SqL.of hRw⟩, fun D1 nD1 => lc_list (K := K) (a := R) (xs := rws) (PvV HR D1 ((L.map fun z => c0 many low high z.1 * c0 many low high z.2).map V.int)) (pvv_0 nD1) (fun i H3 _ p => SqL.of (p.1 _ _ hRw)) (fun i x H3 hx p => ?_) (fun H4 p => ?_)⟩
  · obtain ⟨d, hd, dx⟩ := dpAll_at harw.dp hx
    obtain ⟨z, hz, rfl⟩ := at_map hd
    obtain ⟨ax, e, n, rfl, g1, g2, g3⟩ := dR_inv dx
    refine ⟨ax, _, rfl, same_sqT p.1 g1, rfl, _, _, rfl, _, _, rfl, rfl, ?_⟩
    refine ⟨rfl, ?_⟩
    refine ⟨_, rfl, e, _, 1, _, rfl, rfl, same_sqT p.1 g2, rfl, _, rfl, n, _, 1, _, rfl, rfl, same_sqT p.1 g3, rfl, _, _, rfl, rfl, .inr ?_, ?_⟩
    · have b1 := c0_le (many := many) (rest := z.2) hm.1 hb
      have b2 := c0_nn many low high z.2
      omega
    · refine pvv_next nD1 p (Same.refl _) (by rw [List.length_map, List.length_map]; omega) ?_
      rw [List.getElem?_map, List.getElem?_map, hz]
      rfl
  obtain ⟨s4, hD1⟩ := p
  have e4 : rws.length = ((L.map fun z => c0 many low high z.1 * c0 many low high z.2).map V.int).length := by rw [List.length_map, List.length_map]; exact lrw
  rw [e4, List.take_length] at hD1
  refine ⟨D1, _, rfl, SqL.of hD1, _, _, rfl, rfl, _, rfl, ?_⟩
  have hs2 := sum_two (many := many) (low := low) (high := high) hm.1 hb hL2
  rw [show decide ((L.map fun z => c0 many low high z.1 * c0 many low high z.2).sum > 2000) = false from decide_eq_false (by omega)]
  refine iteF ?_
  -- found = []
  refine ⟨sz (by simp), fun l nl => ?_⟩
  have hR4 := s4 _ _ hRw
  have s5 : Same H (upd H4 l (.lst [])) := sR.trans (s4.trans (same_upd nl))
  have nlR : l ≠ R := (ne_of_none hR4 nl).symm
  have nl0 : H l = none := (sR.trans s4).free nl
  -- for easts, norths in rows
  refine ⟨_, rfl, R, rfl, ⟨_, SqL.of ((same_upd nl) _ _ hR4)⟩, for_list (K := K) (a := R) (xs := rws) (fun i σ H5 => ∃ y4 y6 y7 y9 acc, σ = [some (.ref a), some (.int many), some (.int low), some (.int high), y4, some (.ref R), y6, y7, some (.ref l), y9, none, none] ∧
      Same H H5 ∧ SameN HR H5 ∧ H5 R = some (.lst rws) ∧ H5 l = some (.lst acc) ∧ Paired (PairAt H5) acc (allOf many low high (L.take i)))
    ⟨none, none, none, none, [], rfl, s5, (same_n s4).trans (same_n (same_upd nl)), (same_upd nl) _ _ hR4, upd_same, .nil⟩ (fun i σ H5 _ ⟨_, _, _, _, _, _, _, _, z, _⟩ => SqL.of z) ?_ ?_⟩
  · rintro i x σ H5 hx ⟨y4, y6, y7, y9, acc, rfl, s6, n6, hR5, hl5, hacc⟩
    obtain ⟨d, hd, dx⟩ := dpAll_at (dqAll_n harw n6).dp hx
    obtain ⟨z, hz, rfl⟩ := at_map hd
    obtain ⟨ax, e, n, rfl, g1, g2, g3⟩ := dR_inv dx
    have et : L.take (i + 1) = L.take i ++ [z] := by rw [List.take_add_one, hz]; rfl
    have ea : allOf many low high (L.take (i + 1)) = allOf many low high (L.take i) ++ block many low high z := by
      unfold allOf
      rw [et, List.flatMap_append, List.flatMap_singleton]
    have k1 := c0_le (many := many) (rest := z.1) hm.1 hb
    have k2 := c0_nn many low high z.1
    have k3 := c0_le (many := many) (rest := z.2) hm.1 hb
    have k4 := c0_nn many low high z.2
    have la := all_len (many := many) (low := low) (high := high) hm.1 hb (L.take i)
    have li : (L.take i).length ≤ 2 := by rw [List.length_take]; omega
    refine ⟨ax, _, rfl, g1, rfl, _, _, rfl, _, _, rfl, rfl, ?_⟩
    -- for place in range(easts[1])
    refine ⟨_, rfl, e, _, 1, _, rfl, rfl, g2, rfl, _, rfl, (by omega), (by omega), for_range (lo := 0) (n := (c0 many low high z.1).toNat) (fun p σ H6 => ∃ y4 y9 acc, σ = [some (.ref a), some (.int many), some (.int low), some (.int high), y4, some (.ref R), some (.ref e), some (.ref n), some (.ref l), y9, none, none] ∧
        Same H H6 ∧ SameN HR H6 ∧ SameN H5 H6 ∧ H6 R = some (.lst rws) ∧ H6 l = some (.lst acc) ∧ Paired (PairAt H6) acc (allOf many low high (L.take i) ++ gridOf many low high z p))
      ⟨y4, y9, acc, rfl, s6, n6, SameN.refl _, hR5, hl5, by show Paired (PairAt H5) acc (allOf many low high (L.take i) ++ []); rw [List.append_nil]; exact hacc⟩ ?_ ?_⟩
    · rintro p σ H6 hp ⟨y4, y9, acc, rfl, s7, n7, m7, hR6, hl6, hacc6⟩
      have h2 := m7.sqT g2
      have h3 := m7.sqT g3
      have lg := gridOf_len (many := many) (low := low) (high := high) hm.1 hb z p
      -- east = easts[0] + place * many
      refine ⟨_, rfl, e, _, 0, _, rfl, rfl, h2, rfl, _, rfl, _, rfl, _, _, rfl, rfl, cm _, _, _, rfl, rfl, ?_⟩
      -- found.extend([..])
      refine ⟨_, rfl, .inl ⟨rfl, _, SqL.of hl6⟩, ?_⟩
      refine ⟨_, rfl, n, _, 1, _, rfl, rfl, h3, rfl, _, rfl, (by omega), (by omega), fun D2 nD2 => lc_range (lo := 0) (n := (c0 many low high z.2).toNat) (PvQ H6 D2 ((List.range (c0 many low high z.2).toNat).map fun (j : Nat) => (f0 many low z.1 + (p : Int) * many, f0 many low z.2 + (j : Int) * many))) (pvq_0 nD2) (fun j H7 hj pq => ?_) (fun H7 pq => ?_)⟩
      · refine ⟨rfl, ?_⟩
        refine ⟨_, rfl, _, rfl, n, _, 0, _, rfl, rfl, same_sqT pq.1 h3, rfl, _, rfl, _, rfl, _, _, rfl, rfl, cm _, _, _, rfl, rfl, sz (by simp), fun t nt => ?_⟩
        refine pvq_next nD2 pq (same_upd nt) (by rw [List.length_map, List.length_range]; omega) (z := (f0 many low z.1 + (p : Int) * many, f0 many low z.2 + (j : Int) * many)) ?_ ⟨t, rfl, ?_⟩
        · rw [List.getElem?_map, List.getElem?_range hj]
          rfl
        · rw [upd_same, show (0 : Int) + (p : Int) = (p : Int) by omega, show (0 : Int) + (j : Int) = (j : Int) by omega]
      · obtain ⟨s8, acc2, hD2, hacc2⟩ := pq
        have e7 : (c0 many low high z.2).toNat = ((List.range (c0 many low high z.2).toNat).map fun (j : Nat) => (f0 many low z.1 + (p : Int) * many, f0 many low z.2 + (j : Int) * many)).length := by rw [List.length_map, List.length_range]
        rw [List.take_of_length_le (Nat.le_of_eq e7.symm)] at hacc2
        have hl7 := s8 _ _ hl6
        have l1 := Paired.length hacc6
        have l2 := Paired.length hacc2
        rw [List.length_append] at l1
        rw [List.length_map, List.length_range] at l2
        have hp31 : p * 31 ≤ 31 * 31 := Nat.mul_le_mul_right 31 (by omega)
        have li2 : (L.take i).length * 961 ≤ 2 * 961 := Nat.mul_le_mul_right 961 li
        refine ⟨l, D2, acc, acc2, rfl, rfl, hl7, hD2, sz (by omega), ?_⟩
        refine ⟨_, _, acc ++ acc2, rfl, same_mut (s7.trans s8) nl0, n7.trans ((same_n s8).trans (SameN.upd_lst hl7)), m7.trans ((same_n s8).trans (SameN.upd_lst hl7)), ?_, upd_same, ?_⟩
        · rw [upd_ne nlR.symm]
          exact s8 _ _ hR6
        · rw [gridOf_succ, ← List.append_assoc]
          exact paired_app (pairs_n ((same_n s8).trans (SameN.upd_lst hl7)) hacc6) (pairs_n (SameN.upd_lst hl7) hacc2)
    · rintro σ H6 ⟨y4, y9, acc, rfl, s7, n7, m7, hR6, hl6, hacc6⟩
      refine ⟨_, _, _, _, acc, rfl, s7, n7, hR6, hl6, ?_⟩
      rw [ea]
      exact hacc6
  · rintro σ H5 ⟨y4, y6, y7, y9, acc, rfl, s6, n6, hR5, hl5, hacc⟩
    rw [lrw, List.take_length] at hacc
    -- return sorted(found)
    refine ⟨_, rfl, l, acc, _, rfl, SqL.of hl5, hacc, fun ys ws p h1 h2 h3 np => ?_⟩
    refine q p _ ys ws (s6.trans (same_upd np)) upd_same (pairs_n (same_n (same_upd np)) h1) (lex_strict h2 h3 (all_nd (by omega) nd hL)) fun z => ?_
    rw [h2.mem_iff]
    exact mem_all (by omega) hL z
def sp_middles_in (K : PySem.W.Frag) : Sp := fun vs H Q _ => ∃ (v1 v2 v3 : V) (d1 d2 d3 : PyData) (c : T3) (t : Stand) (h : T3) (low high : Int), vs = [v1, v2, v3, .int low, .int high] ∧ Dp K H v1 d1 ∧ Dp K H v2 d2 ∧ Dp K H v3 d3 ∧ TupR 1 d1 (dT c) ∧ TupR 2 d2 (dS t) ∧ TupR 1 d3 (dT h) ∧
  ChOk c ∧ StOk t ∧ h ∈ ring ∧ high - low ≤ 60 ∧
  ∀ r H' (ys : List V) (M : List (Int × Int)), Same H H' → H' r = some (.lst ys) → Paired (PairAt H') ys M → M.Pairwise lexZ → (∀ z, z ∈ M ↔ InMid c t h low high z) → Q (.ref r) H'
/-- a def by its name, with what its def says -/
structure ClF (P : Program) (w : World) (K : PySem.W.Frag) (mg : Str → Option Value) (base : Heap) (k : Nat) (x : Str) (st : Stmt) (ps : List Str) (sp : Sp) : Prop where
  ex : ∃ (f : Addr) (fd : FuncData), FnOk P w K mg base CX0 k f fd ps sp ∧ mg x = some (.ref f) ∧ PySem.W.keepIn K (.ref f) = true ∧ Fun K x x st f fd
theorem clF_of {x : Str} {st : Stmt} {N ps : List Str} {k : Nat} {sp : Sp} (D : DefOk K mg x st)
    (S : FnScope N ps (defScope st)) (len : ∀ vs H Q E, sp vs H Q E → vs.length = ps.length)
    (hbody : ∀ (f : Addr) (cdv : Value) (A : Around) (outer : List Env) (s : Shared) (H : Hp) (vs : List V) (Q : VK) (E : XK), Room k (A.deeper (envOfC x (defScope st) s.heap.objs.size f cdv)) → sp vs H Q E →
      ∃ t, PSs (cxOf CX0 P w K mg base N x (defScope st) f cdv A outer s H E).nox (defBody st) t ∧ t { nx := fun _ H' => Q .non H', rt := Q } (start N vs) H) : ClF P w K mg base (k + 1) x st ps sp := by
  obtain ⟨f, fd, F, hm⟩ := D.ex
  exact ⟨f, fd, F.ok S len (fun cdv A outer s H vs Q E => hbody f cdv A outer s H vs Q E), hm, F.kp, F⟩
theorem ClF.cl {k : Nat} {x : Str} {st : Stmt} {ps : List Str} {sp : Sp} (c : ClF P w K mg base k x st ps sp)
    (hb : ∀ (kV doc pm : Value) (an : Option Addr) (cdv ct : Value) (us : List Value), us.length = ps.length → bindArgs (PySem.W.fnOf x x (defArgs st) (defBody st) (defScope st) .none kV doc pm an cdv ct) ⟨us, []⟩ = pure (ps.zip us)) : Cl P w K mg base k x ps sp := by
  obtain ⟨f, fd, F, hm, kp, G⟩ := c.ex
  exact ⟨f, fd, F, hm, kp, G.binds hb⟩
theorem f_middles_in (T : Txt K mg) (D : DefOk K mg "middles_in" s_middles_in) (C_sure_chest : Cl P w K mg base 4 "sure_chest" P_sure_chest (sp_sure_chest K)) (C_sure_stand : Cl P w K mg base 5 "sure_stand" P_sure_stand (sp_sure_stand K))
    (C_sure_shape : Cl P w K mg base 4 "sure_shape" P_sure_shape (sp_sure_shape K)) (C_sure_span : Cl P w K mg base 2 "sure_span" P_sure_span sp_sure_span) (C_there_in : Cl P w K mg base 3 "there_in" P_there_in (sp_there_in K))
    (C_spacing_in : Cl P w K mg base 1 "spacing_in" P_spacing_in (sp_spacing_in K)) (C_listed : Cl P w K mg base 2 "listed" P_listed (sp_listed K)) : ClF P w K mg base 6 "middles_in" s_middles_in P_middles_in (sp_middles_in K) := by
  refine clF_of D sc_middles_in (fun vs H Q E h => ?_) (fun f cdv A outer s H vs Q E hr h => ?_)
  · obtain ⟨v1, v2, v3, d1, d2, d3, c, t, h, low, high, rfl, _⟩ := h
    rfl
  obtain ⟨v1, v2, v3, d1, d2, d3, c, t, h, low, high, rfl, g1, g2, g3, t1, t2, t3, hc, ht, hh, hb, q⟩ := h
  have sp2 : 2 ≤ spc c := spc_ge hc.1.1 hc.2.1.1
  have sp3 := spc_le (c := c) hc.1.1 hc.2.1.1
  have c1 := hc.1
  have c2 := hc.2.1
  refine ⟨_, (pss_cons (ps_par (i := 5) (j := 6) rfl sc_middles_in.nd rfl rfl (by decide) rfl rfl (pa_cons (pe_cl C_sure_chest hr (by omega) (by rfl) (pa_cons (pv 0) pa_nil)) (pa_cons (pe_cl C_sure_stand hr (by omega) (by rfl) (pa_cons (pv 1) pa_nil)) pa_nil)) (by rfl))
    (pss_cons (ps_set (i := 7) sc_middles_in.nd rfl (.inl rfl) (pe_cl C_sure_shape hr (by omega) (by rfl) (pa_cons (pv 2) pa_nil)))
    (pss_cons (ps_expr (pe_cl C_sure_span hr (by omega) (by rfl) (pa_cons (pv 3) (pa_cons (pv 4) pa_nil))))
    (pss_one (ps_ret (pe_cl C_listed hr (by omega) (by rfl) (pa_cons (pe_cl C_there_in hr (by omega) (by rfl) (pa_cons (pv 5) (pa_cons (pv 6) (pa_cons (pv 7) pa_nil)))) (pa_cons (pe_cl C_spacing_in hr (by omega) (by rfl) (pa_cons (pv 5) pa_nil)) (pa_cons (pv 3) (pa_cons (pv 4) pa_nil)))))))))), ?_⟩
  refine ⟨_, rfl, v1, d1, c, rfl, g1, t1, ⟨hc.1.1, hc.2.1.1, hc.2.2.1⟩, fun r1 H1 s1 k1 => ?_⟩
  refine ⟨_, rfl, v2, d2, t, rfl, Dp.same g2 s1, t2, ht, fun r2 H2 s2 k2 => ⟨_, _, rfl, ?_⟩⟩
  refine ⟨_, rfl, v3, d3, h, rfl, Dp.same g3 (s1.trans s2), t3, hh, fun r3 H3 s3 k3 => ?_⟩
  refine ⟨_, rfl, _, rfl, low, high, rfl, ?_⟩
  refine ⟨_, rfl, _, rfl, _, rfl, r1, r2, r3, c, t, h, rfl, Dp.same k1 (s2.trans s3), Dp.same k2 s3, k3, hc, ht.1, hh, fun r4 H4 L s4 l1 l2 l3 l4 => ?_⟩
  refine ⟨_, rfl, r1, c, rfl, Dp.same k1 (s2.trans (s3.trans s4)), ?_⟩
  refine ⟨_, rfl, _, rfl, r4, L, spc c, low, high, rfl, l4, l1, ?_, fun z hz => rests_in (by omega) z ((l3 z).mp hz), (by omega), hb, fun r5 H5 ys M s5 m1 m2 m3 m4 => ?_⟩
  · obtain ⟨za, zb, e⟩ : ∃ za zb, rests c t h = [za, zb] := ⟨_, _, rfl⟩
    refine nd_two (a := za) (b := zb) l1 fun z hz => ?_
    have m := (l3 z).mp hz
    rw [e] at m
    simpa using m
  · refine q r5 H5 ys M (s1.trans (s2.trans (s3.trans (s4.trans s5)))) m1 m2 m3 fun z => ?_
    rw [m4, l3, in_mid_iff]
theorem c_middles_in (c : ClF P w K mg base 6 "middles_in" s_middles_in P_middles_in (sp_middles_in K)) : Cl P w K mg base 6 "middles_in" P_middles_in (sp_middles_in K) :=
  c.cl (fun _ _ _ _ _ _ us hl => match us, hl with | [_, _, _, _, _], _ => rfl)
end
end Mv
end

section
set_option Elab.async false
set_option linter.all false
set_option maxRecDepth 100000
set_option maxHeartbeats 8000000
/-! MvE7: the law's source of draws, its data. -/
namespace Mv
open PySem PySem.Spec PyProof.Rows L2 RZ
/-- for a, b in enumerate(list), the list staying as it is -/
theorem for_enum {K : PySem.W.Frag} {a : Addr} {xs : List V} {g : TG} {tb : TS} {D : Ends} {σ : L2.St} {H : Hp} (Pv : Nat → L2.St → Hp → Prop) (h0 : Pv 0 σ H) (hl : ∀ i σ H, i ≤ xs.length → Pv i σ H → SqL K H a xs)
    (hs : ∀ i x T σ H, xs[i]? = some x → H T = none → Pv i σ H → g (.ref T) σ (upd H T (.tup [.int (i : Nat), x])) fun σ2 H2 => tb { D with nx := Pv (i + 1), ct := Pv (i + 1), bk := D.nx } σ2 H2) (hd : ∀ σ H, Pv xs.length σ H → D.nx σ H) :
    ∃ W : Nat → Nat → L2.St → Hp → Prop, (∃ m, W 0 m σ H) ∧ ∀ i m σ H, W i m σ H →
      ((Ite K a).stop i H ∧ D.nx σ H) ∨ ((Ite K a).go i H ∧ ∃ N : L2.St → Hp → Prop, (∀ σ' H', N σ' H' → ∃ m', m' < m ∧ W (i + 1) m' σ' H') ∧ ∀ x H', (Ite K a).yld i H x H' → g x σ H' fun σ2 H2 => tb { D with nx := N, ct := N, bk := D.nx } σ2 H2) := by
  refine ⟨fun i m σ H => m = xs.length - i ∧ i ≤ xs.length ∧ Pv i σ H, ⟨xs.length, by simp, Nat.zero_le _, h0⟩, ?_⟩
  rintro i m σ H ⟨rfl, hi, p⟩
  have q := hl i σ H hi p
  by_cases hlt : i < xs.length
  · refine .inr ⟨⟨xs, xs[i], q, by simp [hlt]⟩, Pv (i + 1), fun σ' H' p' => ⟨xs.length - (i + 1), by omega, rfl, hlt, p'⟩, fun x H' y => ?_⟩
    obtain ⟨T, x1, rfl, nT, rfl, f1⟩ := y
    exact hs i x1 T σ _ (f1 xs q) nT p
  · have e : i = xs.length := by omega
    subst e
    exact .inl ⟨⟨xs, q, Nat.le_refl _⟩, hd σ H p⟩
/-- what the source of draws holds: the digits left, the seed, how many draws there were at most -/
def TinOk (ys : List V) (N : Nat) : Prop := ∃ n m c : Int, ys = [.int n, .int m, .int c] ∧ 0 ≤ n ∧ (0 ≤ m ∧ m < 2 ^ 62) ∧ 0 ≤ c ∧ c ≤ (N : Int)
theorem cut_one (xs : List V) : cutV xs none (some 1) = xs.take 1 := by
  unfold cutV
  rw [HT.sIx_none, show HT.sIx xs.length xs.length (some 1) = min 1 xs.length from HT.sIx_nat xs.length xs.length 1]
  cases xs with
  | nil => rfl
  | cons x r =>
    rw [show min 1 (x :: r).length = 1 by rw [List.length_cons]; omega]
    rfl
theorem cut_len (xs : List V) (lo hi : Option Int) : (cutV xs lo hi).length ≤ xs.length := cutV_length xs lo hi
theorem cut_sub {xs : List V} {lo hi : Option Int} {x : V} (h : x ∈ cutV xs lo hi) : x ∈ xs := List.mem_of_mem_drop (List.mem_of_mem_take h)
section
variable {P : Program} {w : World} {K : PySem.W.Frag} {mg : Str → Option Value} {base : Heap}
def sp_law_box (K : PySem.W.Frag) : Sp := fun vs H Q _ => ∃ (a : Addr) (z : Int), vs = [.ref a, .int 0] ∧ SqL K H a [.int z] ∧ ∀ r ys, H r = none → TinOk ys 0 → Q (.ref r) (upd H r (.lst ys))
theorem c_law_box (T : Txt K mg) (D : DefOk K mg "_law_box" s__law_box) : Cl P w K mg base 1 "_law_box" P__law_box (sp_law_box K) := by
  refine cl_of D (fun _ _ _ _ _ _ us hl => match us, hl with | [_, _], _ => rfl) sc__law_box (fun vs H Q E h => ?_) (fun f cdv A outer s H vs Q E hr h => ?_)
  · obtain ⟨a, z, rfl, _⟩ := h
    rfl
  obtain ⟨a, z, rfl, hs, q⟩ := h
  refine ⟨_, (pss_cons (ps_set (i := 2) sc__law_box.nd rfl (.inl rfl) (pe_ifExp (pt_cmpR op_lt (pv 1) (pe_callB call_len_seq (by rfl) T.z_len (by decide +kernel) (pa_cons (pv 0) pa_nil)) (nomark _)) (pe_ix (r := rIxL K) ix_list (pv 0) (pv 1) (fun _ _ => rfl)) pe_int))
    (pss_one (ps_ret (pe_lst (pa_cons (pe_op op_mul (pe_callB call_abs (by rfl) T.z_abs (by decide +kernel) (pa_cons (pv 2) pa_nil)) (pe_callTy call_int1 (by rfl) T.z_int (by decide +kernel) (pa_cons (pe_cmpR op_ge (pe_callB call_abs (by rfl) T.z_abs (by decide +kernel) (pa_cons (pv 2) pa_nil)) (pe_op op_pow pe_int pe_int) (nomark _)) pa_nil))) (pa_cons (pe_op op_add (pe_op op_add (pe_op op_mod (pe_callTy call_int1 (by rfl) T.z_int (by decide +kernel) (pa_cons (pv 2) pa_nil)) pe_int) (pe_op op_mul pe_int (pv 1))) pe_int) (pa_cons pe_int pa_nil))))))), ?_⟩
  refine ⟨_, rfl, _, rfl, a, _, rfl, .inl hs, _, _, rfl, rfl, true, rfl, iteT ?_⟩
  refine ⟨_, rfl, _, rfl, a, _, 0, _, rfl, rfl, hs, rfl, ?_⟩
  refine ⟨_, rfl, z, rfl, _, rfl, z, rfl, 10, 18, rfl, rfl, ⟨by decide, by decide, by decide⟩, _, _, rfl, rfl, .inr ⟨_, rfl, _, _, rfl, rfl, .inr ?_, ?_⟩⟩
  · split <;> omega
  refine ⟨_, rfl, .inl ⟨z, rfl, z, _, rfl, rfl, (by show (0 : Int) < 2305843009213693951; decide), _, rfl, _, _, rfl, rfl, .inl ⟨by decide, by decide⟩, _, _, rfl, rfl, _, _, rfl, rfl, sz (by simp), fun r nr => ?_⟩⟩
  refine q r _ nr ⟨_, _, 0, rfl, ?_, ?_, Int.le_refl 0, Int.le_refl 0⟩
  · refine Int.mul_nonneg ?_ ?_
    · split <;> omega
    · split <;> omega
  · have h1 := Int.emod_nonneg z (b := 2305843009213693951) (by decide)
    have h2 := Int.emod_lt_of_pos z (b := 2305843009213693951) (by decide)
    omega
def sp_law_take : Sp := fun vs H Q _ => ∃ (t : Addr) (b : Int) (ys : List V) (N : Nat), vs = [.ref t, .int b] ∧ H t = some (.lst ys) ∧ TinOk ys N ∧ N ≤ 1000 ∧ (1 ≤ b ∧ b ≤ 1000) ∧
  ∀ (r : Int) ys', 0 ≤ r → r < b → TinOk ys' (N + 1) → Q (.int r) (upd H t (.lst ys'))
theorem c_law_take (T : Txt K mg) (D : DefOk K mg "_law_take" s__law_take) : Cl P w K mg base 1 "_law_take" P__law_take sp_law_take := by
  refine cl_of D (fun _ _ _ _ _ _ us hl => match us, hl with | [_, _], _ => rfl) sc__law_take (fun vs H Q E h => ?_) (fun f cdv A outer s H vs Q E hr h => ?_)
  · obtain ⟨t, b, ys, N, rfl, _⟩ := h
    rfl
  obtain ⟨t, b, ys, N, rfl, ht, ⟨n, m, c, rfl, hn, hm, hc0, hcN⟩, hN, hb, q⟩ := h
  refine ⟨_, (pss_cons (ps_if (pt_cmpR op_gt (pe_ix (r := rIxL K) ix_list (pv 0) pe_int (fun _ _ => rfl)) pe_int (nomark _)) (pss_cons (ps_set (i := 2) sc__law_take.nd rfl (.inl rfl) (pe_op op_mod (pe_callTy call_int1 (by rfl) T.z_int (by decide +kernel) (pa_cons (pe_ix (r := rIxL K) ix_list (pv 0) pe_int (fun _ _ => rfl)) pa_nil)) (pv 1)))
    (pss_cons (ps_asg (pe_op op_fdiv (pe_ix (r := rIxL K) ix_list (pv 0) pe_int (fun _ _ => rfl)) (pv 1)) (pg_sub (pv 0) pe_int set_list))
    (pss_one (ps_ret (pv 2))))) pss_nil)
    (pss_cons (ps_asg (pe_op op_add (pe_ix (r := rIxL K) ix_list (pv 0) pe_int (fun _ _ => rfl)) pe_int) (pg_sub (pv 0) pe_int set_list))
    (pss_cons (ps_set (i := 3) sc__law_take.nd rfl (.inl rfl) (pe_op op_mod (pe_callTy call_int1 (by rfl) T.z_int (by decide +kernel) (pa_cons (pe_op op_mul (pe_op op_add (pe_ix (r := rIxL K) ix_list (pv 0) pe_int (fun _ _ => rfl)) (pe_op op_mul pe_int (pe_ix (r := rIxL K) ix_list (pv 0) pe_int (fun _ _ => rfl)))) (pe_op op_add pe_int (pe_ix (r := rIxL K) ix_list (pv 0) pe_int (fun _ _ => rfl)))) pa_nil)) pe_int))
    (pss_cons (ps_set (i := 4) sc__law_take.nd rfl (.inl rfl) (pe_op op_add (pe_op op_mod (pe_callTy call_int1 (by rfl) T.z_int (by decide +kernel) (pa_cons (pv 3) pa_nil)) pe_int) pe_int))
    (pss_cons (ps_set (i := 5) sc__law_take.nd rfl (.inl rfl) (pe_op op_mod (pe_callTy call_int1 (by rfl) T.z_int (by decide +kernel) (pa_cons (pe_op op_mul (pe_op op_add (pe_op op_add (pv 3) (pe_ix (r := rIxL K) ix_list (pv 0) pe_int (fun _ _ => rfl))) (pe_op op_fdiv (pe_ix (r := rIxL K) ix_list (pv 0) pe_int (fun _ _ => rfl)) pe_int)) (pv 4)) pa_nil)) pe_int))
    (pss_one (ps_ret (pe_op op_mod (pe_callTy call_int1 (by rfl) T.z_int (by decide +kernel) (pa_cons (pe_op op_fdiv (pe_op op_mod (pe_callTy call_int1 (by rfl) T.z_int (by decide +kernel) (pa_cons (pe_op op_add (pe_op op_mul (pv 5) pe_int) (pv 3)) pa_nil)) pe_int) pe_int) pa_nil)) (pv 1))))))))), ?_⟩
  refine ⟨_, rfl, t, _, 0, _, rfl, rfl, SqL.of ht, rfl, _, _, rfl, rfl, _, rfl, ?_⟩
  refine ite2 (fun g => ?_) (fun g => ?_)
  · -- a digit
    have g := of_decide_eq_true g
    refine ⟨_, rfl, t, _, 0, _, rfl, rfl, SqL.of ht, rfl, .inl ⟨n, rfl, _, rfl, n, b, rfl, rfl, (by show (0 : Int) < b; omega), ?_⟩⟩
    refine ⟨_, rfl, t, _, 0, _, rfl, rfl, SqL.of ht, rfl, _, rfl, n, b, rfl, rfl, ⟨by omega, by omega⟩, ?_⟩
    refine ⟨_, rfl, t, _, 0, 0, rfl, rfl, ht, rfl, ?_⟩
    refine ⟨_, rfl, q _ _ (Int.emod_nonneg _ (by omega)) (Int.emod_lt_of_pos _ (by omega)) ⟨n / b, m, c, rfl, Int.ediv_nonneg hn (by omega), hm, hc0, by omega⟩⟩
  · -- the mixed numbers
    refine ⟨_, rfl, t, _, 2, _, rfl, rfl, SqL.of ht, rfl, _, _, rfl, rfl, _, rfl, t, _, 2, 2, rfl, rfl, ht, rfl, ?_⟩
    have h2 : upd H t (.lst ([V.int n, V.int m, V.int c].set 2 (V.int (c + 1)))) t = some (.lst [V.int n, V.int m, V.int (c + 1)]) := upd_same
    have c1 : c + 1 ≤ 1001 := by omega
    refine ⟨_, rfl, t, _, 1, _, rfl, rfl, SqL.of h2, rfl, _, rfl, t, _, 2, _, rfl, rfl, SqL.of h2, rfl, _, _, rfl, rfl, .inl ⟨by decide, by decide⟩, _, _, rfl, rfl, _, rfl, t, _, 2, _, rfl, rfl, SqL.of h2, rfl, _, _, rfl, rfl, _, _, rfl, rfl, .inr (by omega), .inl ⟨_, rfl, _, _, rfl, rfl, (by show (0 : Int) < 2147483647; decide), ?_⟩⟩
    dsimp only
    have o1 := Int.emod_nonneg ((m + 48271 * (c + 1)) * (39373 + (c + 1))) (b := 2147483647) (by decide)
    have o2 := Int.emod_lt_of_pos ((m + 48271 * (c + 1)) * (39373 + (c + 1))) (b := 2147483647) (by decide)
    generalize ((m + 48271 * (c + 1)) * (39373 + (c + 1))) % 2147483647 = o at *
    refine ⟨_, rfl, .inl ⟨o, rfl, o, 40009, rfl, rfl, (by show (0 : Int) < 40009; decide), _, _, rfl, rfl, ?_⟩⟩
    refine ⟨_, rfl, _, rfl, t, _, 2, _, rfl, rfl, SqL.of h2, rfl, _, _, rfl, rfl, _, rfl, t, _, 1, _, rfl, rfl, SqL.of h2, rfl, m, 1000003, rfl, rfl, ⟨by decide, by decide⟩, _, _, rfl, rfl, _, rfl, _, _, rfl, rfl, .inr (by omega), .inl ⟨_, rfl, _, _, rfl, rfl, (by show (0 : Int) < 2147483629; decide), ?_⟩⟩
    dsimp only
    have t1 := Int.emod_nonneg ((o + (c + 1) + m / 1000003) * (o % 40009 + 7)) (b := 2147483629) (by decide)
    have t2 := Int.emod_lt_of_pos ((o + (c + 1) + m / 1000003) * (o % 40009 + 7)) (b := 2147483629) (by decide)
    generalize ((o + (c + 1) + m / 1000003) * (o % 40009 + 7)) % 2147483629 = tw at *
    refine ⟨_, rfl, tw, 48271, rfl, rfl, .inr ⟨by decide, by decide⟩, _, rfl, _, _, rfl, rfl, .inl ⟨_, rfl, _, _, rfl, rfl, (by show (0 : Int) < 2147483587; decide), _, _, rfl, rfl, ⟨by decide, by decide⟩, .inl ⟨_, rfl, _, rfl, _, b, rfl, rfl, (by show (0 : Int) < b; omega), ?_⟩⟩⟩
    exact q _ _ (Int.emod_nonneg _ (by omega)) (Int.emod_lt_of_pos _ (by omega)) ⟨n, m, c + 1, rfl, hn, hm, by omega, by omega⟩
def sp_law_cells (K : PySem.W.Frag) : Sp := fun vs H Q _ => ∃ (a : Addr) (ns : List Int), vs = [.ref a, .int 1] ∧ SqL K H a (ns.map V.int) ∧ ns.length ≤ 63 ∧ ∀ r z H', Same H H' → H r = none → H' r = some (.lst [.int z]) → Q (.ref r) H'
theorem c_law_cells (T : Txt K mg) (D : DefOk K mg "_law_cells" s__law_cells) : Cl P w K mg base 1 "_law_cells" P__law_cells (sp_law_cells K) := by
  refine cl_of D (fun _ _ _ _ _ _ us hl => match us, hl with | [_, _], _ => rfl) sc__law_cells (fun vs H Q E h => ?_) (fun f cdv A outer s H vs Q E hr h => ?_)
  · obtain ⟨a, ns, rfl, _⟩ := h
    rfl
  obtain ⟨a, ns, rfl, hs, hl, q⟩ := h
  refine ⟨_, (pss_cons (ps_set (i := 2) sc__law_cells.nd rfl (.inl rfl) (pe_orT (pe_callTy call_list_of (by rfl) T.z_list (by decide +kernel) (pa_cons (pe_slice sl_list (pv 0) po_none (po_some (pv 1))) pa_nil)) (pe_one (pe_lst (pa_cons pe_int pa_nil)))))
    (pss_cons (ps_for PassesOwn.never rfl (pi_enum (by rfl) T.z_enumerate (pa_cons (pe_slice sl_list (pv 0) (po_some (pv 1)) (po_some pe_int)) pa_nil)) (pg_tup rfl (pgs_cons (pg_name (i := 3) sc__law_cells.nd rfl (.inl rfl)) (pgs_cons (pg_name (i := 4) sc__law_cells.nd rfl (.inl rfl)) pgs_nil))) (pss_cons (ps_set (i := 5) sc__law_cells.nd rfl (.inl rfl) (pe_op op_mod (pe_callTy call_int1 (by rfl) T.z_int (by decide +kernel) (pa_cons (pv 3) pa_nil)) (pv 1)))
    (pss_one (ps_asg (pe_op op_add (pe_ix (r := rIxL K) ix_list (pv 2) (pv 5) (fun _ _ => rfl)) (pe_op op_mul (pv 4) (pe_op op_add (pv 3) pe_int))) (pg_sub (pv 2) (pv 5) set_list)))))
    (pss_one (ps_ret (pv 2))))), ?_⟩
  refine ⟨_, rfl, _, rfl, 1, rfl, a, _, rfl, hs, fun p np => ?_⟩
  have s1 := same_upd (o := .lst (cutV (ns.map V.int) none (some 1))) np
  refine ⟨p, _, rfl, .inl (SqL.of upd_same), fun l nl => ?_⟩
  have s2 := s1.trans (same_upd (o := .lst (cutV (ns.map V.int) none (some 1))) nl)
  -- behind «or»: a list of one int
  have go : ∀ (r : Addr) (z : Int) (H3 : Hp), Same H H3 → H r = none → H3 r = some (.lst [.int z]) → ∀ D' : Ends, (∀ σ' H' z', Same H H' → H' r = some (.lst [.int z']) → σ'[2]? = some (some (.ref r)) → D'.nx σ' H') →
      tFor (iEnum K (tCons (tSl (rSlL K) (tVar 0) (tPart (tVar 1)) (tPart (tC (.int 63)))) tNil)) (gTup K 2 (gCons (gName 3) (gCons (gName 4) gNil)))
        (tSeq (tAsg (tOp (rI (fun _ j => 0 < j) fun i j => .int (i % j)) (tCB (fun xs H Q => (∃ i, xs = [V.int i] ∧ Q (V.int i) H) ∨ ∃ k, xs = [V.bl k] ∧ Q (V.int (if k = true then 1 else 0)) H) (tCons (tVar 3) tNil)) (tVar 1)) (gName 5))
          (tAsg (tOp (rI0 fun i j => .int (i + j)) (tOp (rIxL K) (tVar 2) (tVar 5)) (tOp (rI CMul fun i j => .int (i * j)) (tVar 4) (tOp (rI0 fun i j => .int (i + j)) (tVar 3) (tC (.int 2))))) (gSub (tVar 2) (tVar 5) rSetL))) D' [some (.ref a), some (.int 1), some (.ref r), none, none, none] H3 := by
    intro r z H3 s3 nr hr3 D' hD
    refine ⟨_, rfl, _, rfl, 1, rfl, 63, rfl, a, _, rfl, s3.seq hs, fun x nx => ?_⟩
    have lc := cut_len (ns.map V.int) (some 1) (some 63)
    rw [List.length_map] at lc
    have n0x : H x = none := s3.free nx
    refine ⟨x, _, rfl, SqL.of upd_same, for_enum (K := K) (a := x) (xs := cutV (ns.map V.int) (some 1) (some 63)) (fun i σ H4 => ∃ y3 y4 y5 z', σ = [some (.ref a), some (.int 1), some (.ref r), y3, y4, y5] ∧ Same H H4 ∧ H4 x = some (.lst (cutV (ns.map V.int) (some 1) (some 63))) ∧ H4 r = some (.lst [.int z']))
      ⟨none, none, none, z, rfl, s3.trans (same_upd nx), upd_same, (same_upd nx) _ _ hr3⟩ (fun i σ H4 _ ⟨_, _, _, _, _, _, hx4, _⟩ => SqL.of hx4) ?_ ?_⟩
    · rintro i y TT σ H4 hy nT ⟨y3, y4, y5, z', rfl, s4, hx4, hr4⟩
      have hi : i < 63 := by
        have := (List.getElem?_eq_some_iff.mp hy).1
        omega
      obtain ⟨bit, _, rfl⟩ := List.mem_map.mp (cut_sub (List.mem_of_getElem? hy))
      have s5 := same_upd (o := .tup [.int (i : Nat), .int bit]) nT
      have hr5 := s5 _ _ hr4
      refine ⟨TT, _, rfl, SqT.of upd_same, rfl, _, _, rfl, _, _, rfl, rfl, ?_⟩
      refine ⟨_, rfl, .inl ⟨_, rfl, _, rfl, _, 1, rfl, rfl, (by show (0 : Int) < 1; decide), ?_⟩⟩
      have e1 : ((i : Nat) : Int) % 1 = 0 := by omega
      dsimp only
      rw [e1]
      refine ⟨_, rfl, _, rfl, r, _, 0, _, rfl, rfl, SqL.of hr5, rfl, _, rfl, _, rfl, _, _, rfl, rfl, bit, _, rfl, rfl, .inr (by omega), _, _, rfl, rfl, _, rfl, _, rfl, r, _, 0, 0, rfl, rfl, hr5, rfl, ?_⟩
      have nxr : x ≠ r := fun e => by
        rw [e, hr4] at hx4
        have e2 := HO.lst.inj (Option.some.inj hx4)
        rw [e] at nx
        rw [hr3] at nx
        cases nx
      refine ⟨_, _, _, _, rfl, same_mut (s4.trans s5) nr, ?_, upd_same⟩
      rw [upd_ne nxr]
      exact s5 _ _ hx4
    · rintro σ H4 ⟨y3, y4, y5, z', rfl, s4, hx4, hr4⟩
      exact hD _ H4 z' s4 hr4 rfl
  cases ns with
  | nil =>
    refine ⟨false, .inl ⟨_, SqL.of upd_same, rfl⟩, iteF ?_⟩
    refine ⟨sz (by simp), fun r nr => ?_⟩
    refine go r 0 _ (s2.trans (same_upd nr)) (s2.free nr) upd_same _ fun σ' H' z' s' h' e' => ?_
    exact ⟨_, e', q r z' H' s' (s2.free nr) h'⟩
  | cons n ns =>
    have ec : cutV ((n :: ns).map V.int) none (some 1) = [.int n] := cut_one _
    rw [ec] at s2 nl ⊢
    refine ⟨true, .inl ⟨_, SqL.of upd_same, rfl⟩, iteT ?_⟩
    refine go l n _ s2 (s1.free (by rw [ec]; exact nl)) upd_same _ fun σ' H' z' s' h' e' => ?_
    exact ⟨_, e', q l z' H' s' (s1.free (by rw [ec]; exact nl)) h'⟩
end
end Mv
end

section
set_option Elab.async false
set_option linter.all false
set_option maxRecDepth 100000
set_option maxHeartbeats 8000000
/-! MvE8: _law_of .. _law_flip. -/
namespace Mv
open PySem PySem.Spec PyProof.Rows L2 RZ
/-! ### the same data -/
def Sm : Nat → PyData → PyData → Bool → Prop
  | 0, d, e, b => ∃ i j : Int, d = .int i ∧ e = .int j ∧ b = decide (i = j)
  | n + 1, d, e, b => (∃ i j : Int, d = .int i ∧ e = .int j ∧ b = decide (i = j)) ∨
    ∃ (ds es : List PyData) (bs : List Bool), ((d = .list ds ∧ e = .list es) ∨ (d = .tuple ds ∧ e = .tuple es)) ∧ ds.length = es.length ∧ bs.length = ds.length ∧ ds.length ≤ 5000 ∧ (∀ (i : Nat) (x y : PyData), ds[i]? = some x → es[i]? = some y → ∃ c, bs[i]? = some c ∧ Sm n x y c) ∧ b = bs.all id
theorem sm_pair (z u : Int × Int) : Sm 1 (dP z) (dP u) (decide (z.1 = u.1) && decide (z.2 = u.2)) := by
  refine .inr ⟨_, _, [decide (z.1 = u.1), decide (z.2 = u.2)], .inr ⟨rfl, rfl⟩, rfl, rfl, by show 2 ≤ 5000; decide, fun i x y hx hy => ?_, by simp [List.all_cons]⟩
  have hi : i < 2 := (List.getElem?_eq_some_iff.mp hx).1
  have : i = 0 ∨ i = 1 := by omega
  rcases this with rfl | rfl
  · cases hx; cases hy; exact ⟨_, rfl, _, _, rfl, rfl, rfl⟩
  · cases hx; cases hy; exact ⟨_, rfl, _, _, rfl, rfl, rfl⟩
theorem all_rep (n : Nat) : (List.replicate n true).all id = true := by
  induction n with
  | zero => rfl
  | succ n ih => rw [List.replicate_succ, List.all_cons, ih]; rfl
/-- a list beside itself -/
theorem sm_list {n : Nat} {ds : List PyData} (hl : ds.length ≤ 5000) (h : ∀ d ∈ ds, Sm n d d true) : Sm (n + 1) (.list ds) (.list ds) true := by
  refine .inr ⟨_, _, List.replicate ds.length true, .inl ⟨rfl, rfl⟩, rfl, List.length_replicate, hl, fun i x y hx hy => ?_, (all_rep _).symm⟩
  rw [hx] at hy
  cases hy
  refine ⟨true, ?_, h x (List.mem_of_getElem? hx)⟩
  rw [List.getElem?_replicate, if_pos (List.getElem?_eq_some_iff.mp hx).1]
theorem sm_pairs {ms : List (Int × Int)} (hl : ms.length ≤ 5000) : Sm 2 (.list (ms.map dP)) (.list (ms.map dP)) true := by
  refine sm_list (by rw [List.length_map]; exact hl) fun d hd => ?_
  obtain ⟨z, _, rfl⟩ := List.mem_map.mp hd
  have e := sm_pair z z
  simpa using e
/-! ### lists of lists -/
def LstR : Nat → PyData → PyData → Prop
  | 0, d, e => ∃ i, d = .int i ∧ e = .int i
  | n + 1, d, e => (∃ i, d = .int i ∧ e = .int i) ∨ ∃ ds es, (d = .list ds ∨ d = .tuple ds) ∧ e = .list es ∧ ds.length ≤ 1000 ∧ Paired (LstR n) ds es
def dLT (t : T3) : PyData := .list [.int t.1, .int t.2.1, .int t.2.2]
def dLS (s : Stand) : PyData := .list [dLT s.1, dLT s.2.1, dLT s.2.2.1, dLT s.2.2.2]
theorem lstR_T (n : Nat) (t : T3) : LstR (n + 1) (dT t) (dLT t) := by
  have i0 : ∀ (n : Nat) (i : Int), LstR n (.int i) (.int i) := fun n i => match n with
    | 0 => ⟨i, rfl, rfl⟩
    | _ + 1 => .inl ⟨i, rfl, rfl⟩
  exact .inr ⟨_, _, .inr rfl, rfl, by show 3 ≤ 1000; decide, .cons (i0 _ _) (.cons (i0 _ _) (.cons (i0 _ _) .nil))⟩
theorem lstR_S (s : Stand) : LstR 2 (dS s) (dLS s) :=
  .inr ⟨_, _, .inr rfl, rfl, by show 4 ≤ 1000; decide, .cons (lstR_T 0 _) (.cons (lstR_T 0 _) (.cons (lstR_T 0 _) (.cons (lstR_T 0 _) .nil)))⟩
theorem tupR_T (n : Nat) (t : T3) : TupR (n + 1) (dT t) (dT t) ∧ TupR (n + 1) (dLT t) (dT t) := by
  have i0 : ∀ (n : Nat) (i : Int), TupR n (.int i) (.int i) := fun n i => match n with
    | 0 => ⟨i, rfl, rfl⟩
    | _ + 1 => .inl ⟨i, rfl, rfl⟩
  exact ⟨.inr ⟨_, _, .inr rfl, rfl, by show 3 ≤ 1000; decide, .cons (i0 _ _) (.cons (i0 _ _) (.cons (i0 _ _) .nil))⟩, .inr ⟨_, _, .inl rfl, rfl, by show 3 ≤ 1000; decide, .cons (i0 _ _) (.cons (i0 _ _) (.cons (i0 _ _) .nil))⟩⟩
theorem tupR_S (s : Stand) : TupR 2 (dS s) (dS s) ∧ TupR 2 (dLS s) (dS s) :=
  ⟨.inr ⟨_, _, .inr rfl, rfl, by show 4 ≤ 1000; decide, .cons (tupR_T 0 _).1 (.cons (tupR_T 0 _).1 (.cons (tupR_T 0 _).1 (.cons (tupR_T 0 _).1 .nil)))⟩,
   .inr ⟨_, _, .inl rfl, rfl, by show 4 ≤ 1000; decide, .cons (tupR_T 0 _).2 (.cons (tupR_T 0 _).2 (.cons (tupR_T 0 _).2 (.cons (tupR_T 0 _).2 .nil)))⟩⟩
section
variable {P : Program} {w : World} {K : PySem.W.Frag} {mg : Str → Option Value} {base : Heap}
theorem kit_il : PySem.W.kitOne K (.type "int") (.type "list") = some false := kit_ty (by decide +kernel)
theorem kit_bs : PySem.W.kitAny K (.type "int") [.type "bool", .type "str"] = some false :=
  kitAny_cons (b := false) (kit_ty (by decide +kernel)) (fun _ => kitAny_cons (b := false) (kit_ty (by decide +kernel)) (fun _ => kitAny_nil) (fun z => nomatch z)) (fun z => nomatch z)
def sp_law_of (K : PySem.W.Frag) : Sp := fun vs H Q _ => ∃ (t p : Addr) (xs ys : List V) (N : Nat), vs = [.ref t, .ref p] ∧ H t = some (.lst ys) ∧ TinOk ys N ∧ N ≤ 1000 ∧ H p = some (.lst xs) ∧ p ≠ t ∧ (1 ≤ xs.length ∧ xs.length ≤ 1000) ∧
  ∀ x ys', x ∈ xs → TinOk ys' (N + 1) → Q x (upd H t (.lst ys'))
theorem c_law_of (T : Txt K mg) (D : DefOk K mg "_law_of" s__law_of) (C__law_take : Cl P w K mg base 1 "_law_take" P__law_take sp_law_take) : Cl P w K mg base 2 "_law_of" P__law_of (sp_law_of K) := by
  refine cl_of D (fun _ _ _ _ _ _ us hl => match us, hl with | [_, _], _ => rfl) sc__law_of (fun vs H Q E h => ?_) (fun f cdv A outer s H vs Q E hr h => ?_)
  · obtain ⟨t, p, xs, ys, N, rfl, _⟩ := h
    rfl
  obtain ⟨t, p, xs, ys, N, rfl, ht, hy, hN, hp, ne, hl, q⟩ := h
  refine ⟨_, (pss_one (ps_ret (pe_ix (r := rIxL K) ix_list (pv 1) (pe_cl C__law_take hr (by omega) (by rfl) (pa_cons (pv 0) (pa_cons (pe_callB call_len_seq (by rfl) T.z_len (by decide +kernel) (pa_cons (pv 1) pa_nil)) pa_nil))) (fun _ _ => rfl)))), ?_⟩
  refine ⟨_, rfl, _, rfl, _, rfl, p, xs, rfl, .inl (SqL.of hp), ?_⟩
  refine ⟨t, _, ys, N, rfl, ht, hy, hN, ⟨by omega, by omega⟩, fun r ys' r0 r1 hy' => ?_⟩
  obtain ⟨j, rfl⟩ : ∃ j : Nat, r = (j : Int) := ⟨r.toNat, by omega⟩
  have hj : j < xs.length := by omega
  refine ⟨p, xs, j, xs[j], rfl, rfl, SqL.of (by rw [upd_ne ne]; exact hp), ?_, ?_⟩
  · rw [atI_nat]
    simp [hj]
  · exact q _ _ (List.getElem_mem hj) hy'
def okN (H : Hp) : Addr → Prop := fun a => H a = none
def sp_law_lists (K : PySem.W.Frag) : Nat → Sp
  | 0 => fun _ _ _ _ => False
  | n + 1 => fun vs H Q _ => ∃ (v : V) (d e : PyData), vs = [v] ∧ Dp K H v d ∧ LstR n d e ∧ ∀ r H', Same H H' → Dq K (okN H) H' r e → Q r H'
theorem c_law_lists (T : Txt K mg) (D : DefOk K mg "_law_lists" s__law_lists) : ∀ n : Nat, Cl P w K mg base n "_law_lists" P__law_lists (sp_law_lists K n)
  | 0 => cl_false D (fun _ _ _ _ _ _ us hl => match us, hl with | [_], _ => rfl)
  | n + 1 => by
    have C__law_lists := c_law_lists T D n
    refine cl_of D (fun _ _ _ _ _ _ us hl => match us, hl with | [_], _ => rfl) sc__law_lists (fun vs H Q E h => ?_) (fun f cdv A outer s H vs Q E hr h => ?_)
    · obtain ⟨v, d, e, rfl, _⟩ := h
      rfl
    obtain ⟨v, d, e, rfl, hd, ht, q⟩ := h
    refine ⟨_, (pss_one (ps_ret (pe_ifExp (pt_val (pe_callB call_isiT (by rfl) T.z_isinstance (by decide +kernel) (pa_cons (pv 0) (pa_cons (pe_tup (pa_cons (pe_bltn (v := .ty "list") (by rfl) T.z_list (by decide +kernel) rfl) (pa_cons (pe_bltn (v := .ty "tuple") (by rfl) T.z_tuple (by decide +kernel) rfl) pa_nil))) pa_nil)))) (pe_lc (own := [("_law_bit", 1)]) (by rfl) sc__law_lists.nd (pi_seq (pv 0)) (blkOk_by (N := N__law_lists) (sc := defScope s__law_lists) (by decide +kernel)) (fun _ _ _ _ _ => (pg_name (i := 1) sc__law_lists.nd rfl (.inl rfl))) (fun _ _ _ _ _ => pts_nil) (fun _ _ _ _ _ => (pe_cl C__law_lists hr (by omega) (by rfl) (pa_cons (pv 1) pa_nil)))) (pv 0)))), ?_⟩
    have main : (∃ i, d = .int i ∧ e = .int i) ∨ ∃ m ds es, n = m + 1 ∧ (d = .list ds ∨ d = .tuple ds) ∧ e = .list es ∧ ds.length ≤ 1000 ∧ Paired (LstR m) ds es := by
      cases n with
      | zero => exact .inl ht
      | succ m =>
        rcases ht with h | ⟨ds, es, h1, h2, h3, h4⟩
        · exact .inl h
        · exact .inr ⟨m, ds, es, rfl, h1, h2, h3, h4⟩
    refine ⟨_, rfl, by decide, fun tp ntp => ?_⟩
    have s1 : Same H (upd H tp (.tup [.ty "list", .ty "tuple"])) := same_upd ntp
    rcases main with ⟨i, rfl, rfl⟩ | ⟨m, ds, es, rfl, hds, rfl, hl, hp⟩
    · have ev := dp_int_inv hd
      subst ev
      refine ⟨_, tp, _, _, _, false, rfl, upd_same, .cons (.ty "list") (.cons (.ty "tuple") .nil), ty_int i, kit_int, false, rfl, iteF ?_⟩
      exact ⟨_, rfl, q _ _ s1 (.int i)⟩
    · have hle : es.length ≤ 5000 := by rw [← Paired.length hp]; omega
      have turn : ∀ (D0 : Addr) (i : Nat) (x : V) (H3 : Hp) (xs : List V), (upd H tp (.tup [.ty "list", .ty "tuple"])) D0 = none → DpAll K H xs ds → xs[i]? = some x → PvD K (fun a => H a = none ∧ a ≠ D0) (upd H tp (.tup [.ty "list", .ty "tuple"])) D0 es i H3 → ∀ E',
          sp_law_lists K (m + 1) [x] H3 (fun y H4 => ∃ acc, H4 D0 = some (.lst acc) ∧ acc.length < sizeLine ∧ PvD K (fun a => H a = none ∧ a ≠ D0) (upd H tp (.tup [.ty "list", .ty "tuple"])) D0 es (i + 1) (upd H4 D0 (.lst (acc ++ [y])))) E' := by
        intro D0 i x H3 xs nD ha hx p E'
        obtain ⟨d', hd', dx⟩ := dpAll_at ha hx
        obtain ⟨e', he', te⟩ := paired_at hp hd'
        have sH3 := s1.trans p.1
        have hD3 : ∃ o, H3 D0 = some o := ⟨_, p.2.choose_spec.1⟩
        refine ⟨x, d', e', rfl, Dp.same dx sH3, te, fun y H4 s4 hy => pvd_next nD (fun z => z.2 rfl) p s4 hle he' (dq_mono (fun a (ha : H3 a = none) => ⟨sH3.free ha, fun ea => ?_⟩) (SameN.refl _) (fun a xs _ z => z) _ _ hy)⟩
        obtain ⟨o, ho⟩ := hD3
        rw [ea, ho] at ha
        cases ha
      have fin : ∀ (D0 : Addr) (H5 : Hp), (upd H tp (.tup [.ty "list", .ty "tuple"])) D0 = none → PvD K (fun a => H a = none ∧ a ≠ D0) (upd H tp (.tup [.ty "list", .ty "tuple"])) D0 es es.length H5 → ∀ Q' : VK, (∀ r H', Same H H' → Dq K (okN H) H' r (.list es) → Q' r H') → Q' (.ref D0) H5 := by
        intro D0 H5 nD p Q' k
        obtain ⟨s5, acc, hD, ha⟩ := p
        rw [List.take_length] at ha
        refine k _ _ (s1.trans s5) (.lst hD (s1.free nD) ?_)
        exact ha.mono (fun a z => z.1) (SameN.refl _) (fun a xs _ z => z)
      rcases hds with rfl | rfl
      · obtain ⟨a, xs, rfl, hs, ha⟩ := dp_lst_inv hd
        have lx := dpAll_len ha
        refine ⟨_, tp, _, _, _, true, rfl, upd_same, .cons (.ty "list") (.cons (.ty "tuple") .nil), ty_lst (s1.seq hs), kit_lst, true, rfl, iteT ?_⟩
        refine ⟨_, rfl, a, rfl, .inl ⟨⟨_, s1.seq hs⟩, fun D0 nD => lc_list (K := K) (a := a) (xs := xs) (PvD K (fun a => H a = none ∧ a ≠ D0) _ D0 es) (pvd_0 nD) (fun i H3 _ p => p.1.seq (s1.seq hs)) (fun i x H3 hx p => ?_) (fun H5 p => ?_)⟩⟩
        · refine ⟨rfl, ?_⟩
          exact ⟨x, rfl, turn D0 i x H3 xs nD ha hx p E0⟩
        · rw [lx, Paired.length hp] at p
          exact fin D0 H5 nD p _ q
      · obtain ⟨a, xs, rfl, hs, ha⟩ := dp_tup_inv hd
        have lx := dpAll_len ha
        refine ⟨_, tp, _, _, _, true, rfl, upd_same, .cons (.ty "list") (.cons (.ty "tuple") .nil), ty_tup (same_sqT s1 hs), kit_tup, true, rfl, iteT ?_⟩
        refine ⟨_, rfl, a, rfl, .inr ⟨⟨_, same_sqT s1 hs⟩, fun D0 nD => lc_tup (K := K) (a := a) (xs := xs) (PvD K (fun a => H a = none ∧ a ≠ D0) _ D0 es) (pvd_0 nD) (fun i H3 _ p => same_sqT p.1 (same_sqT s1 hs)) (fun i x H3 hx p => ?_) (fun H5 p => ?_)⟩⟩
        · refine ⟨rfl, ?_⟩
          exact ⟨x, rfl, turn D0 i x H3 xs nD ha hx p E0⟩
        · rw [lx, Paired.length hp] at p
          exact fin D0 H5 nD p _ q
def sp_law_same (K : PySem.W.Frag) : Nat → Sp
  | 0 => fun _ _ _ _ => False
  | n + 1 => fun vs H Q _ => ∃ (v u : V) (d e : PyData) (b : Bool), vs = [v, u] ∧ Dp K H v d ∧ Dp K H u e ∧ Sm n d e b ∧ ∀ H', Same H H' → Q (.bl b) H'
theorem c_law_same (T : Txt K mg) (D : DefOk K mg "_law_same" s__law_same) : ∀ n : Nat, Cl P w K mg base n "_law_same" P__law_same (sp_law_same K n)
  | 0 => cl_false D (fun _ _ _ _ _ _ us hl => match us, hl with | [_, _], _ => rfl)
  | n + 1 => by
    have C__law_same := c_law_same T D n
    refine cl_of D (fun _ _ _ _ _ _ us hl => match us, hl with | [_, _], _ => rfl) sc__law_same (fun vs H Q E h => ?_) (fun f cdv A outer s H vs Q E hr h => ?_)
    · obtain ⟨v, u, d, e, b, rfl, _⟩ := h
      rfl
    obtain ⟨v, u, d, e, b, rfl, hd, he, hm, q⟩ := h
    refine ⟨_, (pss_cons (ps_if (pt_val (pe_callB call_isiT (by rfl) T.z_isinstance (by decide +kernel) (pa_cons (pv 1) (pa_cons (pe_tup (pa_cons (pe_bltn (v := .ty "list") (by rfl) T.z_list (by decide +kernel) rfl) (pa_cons (pe_bltn (v := .ty "tuple") (by rfl) T.z_tuple (by decide +kernel) rfl) pa_nil))) pa_nil)))) (pss_cons (ps_if (PW.pt (pw_or (pt_cmpR op_ne (pe_callB call_isi (by rfl) T.z_isinstance (by decide +kernel) (pa_cons (pv 0) (pa_cons (pe_bltn (v := .ty "list") (by rfl) T.z_list (by decide +kernel) rfl) pa_nil))) (pe_callB call_isi (by rfl) T.z_isinstance (by decide +kernel) (pa_cons (pv 1) (pa_cons (pe_bltn (v := .ty "list") (by rfl) T.z_list (by decide +kernel) rfl) pa_nil))) (nomark _)) (pw_or1 (pt_cmpR op_ne (pe_callB call_isi (by rfl) T.z_isinstance (by decide +kernel) (pa_cons (pv 0) (pa_cons (pe_bltn (v := .ty "tuple") (by rfl) T.z_tuple (by decide +kernel) rfl) pa_nil))) (pe_callB call_isi (by rfl) T.z_isinstance (by decide +kernel) (pa_cons (pv 1) (pa_cons (pe_bltn (v := .ty "tuple") (by rfl) T.z_tuple (by decide +kernel) rfl) pa_nil))) (nomark _))))) (pss_one (ps_ret pe_bl)) pss_nil)
    (pss_one (ps_ret (pe_and (pe_cmpR op_eq (pe_callB call_len_seq (by rfl) T.z_len (by decide +kernel) (pa_cons (pv 0) pa_nil)) (pe_callB call_len_seq (by rfl) T.z_len (by decide +kernel) (pa_cons (pv 1) pa_nil)) (nomark _)) (pe_one (pe_callB (cr_all rfl) (by rfl) T.z_all (by decide +kernel) (pa_cons (pe_lc (own := [("_law_mine", 2), ("_law_its", 3)]) (g := gTup K 2 (gCons (gName 2) (gCons (gName 3) gNil))) (by rfl) sc__law_same.nd (pi_zipA (by rfl) T.z_zip (pa_cons (pv 0) (pa_cons (pv 1) pa_nil))) (blkOk_by (N := N__law_same) (sc := defScope s__law_same) (by decide +kernel)) (fun _ _ _ _ _ => (pg_tup rfl (pgs_cons (pg_name (i := 2) sc__law_same.nd rfl (.inl rfl) (.inr rfl)) (pgs_cons (pg_name (i := 3) sc__law_same.nd rfl (.inl rfl) (.inr rfl)) pgs_nil)))) (fun _ _ _ _ _ => pts_nil) (fun _ _ _ _ _ => (pe_cl C__law_same hr (by omega) (by rfl) (pa_cons (pv 2) (pa_cons (pv 3) pa_nil))))) pa_nil))))))) pss_nil)
    (pss_cons (ps_if (PW.pt (pw_or (pt_cmpR op_isN (pv 1) pe_non (nomark _)) (pw_or1 (pt_val (pe_callB call_isiT (by rfl) T.z_isinstance (by decide +kernel) (pa_cons (pv 1) (pa_cons (pe_tup (pa_cons (pe_bltn (v := .ty "bool") (by rfl) T.z_bool (by decide +kernel) rfl) (pa_cons (pe_bltn (v := .ty "str") (by rfl) T.z_str (by decide +kernel) rfl) pa_nil))) pa_nil))))))) (pss_one (ps_ret (pe_and (pe_cmpR (r := rEqD K) (op_eqD hr.units) (pv 0) (pv 1) (nomark _)) (pe_and (pe_cmpR op_eq (pe_callB call_isi (by rfl) T.z_isinstance (by decide +kernel) (pa_cons (pv 0) (pa_cons (pe_bltn (v := .ty "bool") (by rfl) T.z_bool (by decide +kernel) rfl) pa_nil))) (pe_callB call_isi (by rfl) T.z_isinstance (by decide +kernel) (pa_cons (pv 1) (pa_cons (pe_bltn (v := .ty "bool") (by rfl) T.z_bool (by decide +kernel) rfl) pa_nil))) (nomark _)) (pe_one (pe_cmpR op_eq (pe_cmpR op_isN (pv 0) pe_non (nomark _)) (pe_cmpR op_isN (pv 1) pe_non (nomark _)) (nomark _))))))) pss_nil)
    (pss_one (ps_ret (pe_and (pe_callB call_isi (by rfl) T.z_isinstance (by decide +kernel) (pa_cons (pv 0) (pa_cons (pe_bltn (v := .ty "int") (by rfl) T.z_int (by decide +kernel) rfl) pa_nil))) (pe_and (pe_not (pe_callB call_isi (by rfl) T.z_isinstance (by decide +kernel) (pa_cons (pv 0) (pa_cons (pe_bltn (v := .ty "bool") (by rfl) T.z_bool (by decide +kernel) rfl) pa_nil)))) (pe_one (pe_cmpR (r := rEqD K) (op_eqD hr.units) (pv 0) (pv 1) (nomark _))))))))), ?_⟩
    have main : (∃ i j : Int, d = .int i ∧ e = .int j ∧ b = decide (i = j)) ∨ ∃ (m : Nat) (ds es : List PyData) (bs : List Bool), n = m + 1 ∧ ((d = .list ds ∧ e = .list es) ∨ (d = .tuple ds ∧ e = .tuple es)) ∧ ds.length = es.length ∧ bs.length = ds.length ∧ ds.length ≤ 5000 ∧ (∀ (i : Nat) (x y : PyData), ds[i]? = some x → es[i]? = some y → ∃ c, bs[i]? = some c ∧ Sm m x y c) ∧ b = bs.all id := by
      cases n with
      | zero => exact .inl hm
      | succ m =>
        rcases hm with h | ⟨ds, es, bs, h1, h2, h3, h4, h5, h6⟩
        · exact .inl h
        · exact .inr ⟨m, ds, es, bs, rfl, h1, h2, h3, h4, h5, h6⟩
    refine ⟨_, rfl, by decide, fun tp ntp => ?_⟩
    have s1 : Same H (upd H tp (.tup [.ty "list", .ty "tuple"])) := same_upd ntp
    rcases main with ⟨i, j, rfl, rfl, rfl⟩ | ⟨m, ds, es, bs, rfl, hds, hll, hbl, hl, hb, rfl⟩
    · cases dp_int_inv hd
      cases dp_int_inv he
      refine ⟨_, tp, _, _, _, false, rfl, upd_same, .cons (.ty "list") (.cons (.ty "tuple") .nil), ty_int j, kit_int, false, rfl, iteF ?_⟩
      refine ⟨_, rfl, rfl, false, rfl, iteF ?_⟩
      refine ⟨_, rfl, by decide, fun tp2 ntp2 => ?_⟩
      have s2 := s1.trans (same_upd (o := .tup [.ty "bool", .ty "str"]) ntp2)
      refine ⟨_, tp2, _, _, _, false, rfl, upd_same, .cons (.ty "bool") (.cons (.ty "str") .nil), ty_int j, kit_bs, false, rfl, iteF ?_⟩
      refine ⟨_, rfl, .int i, .ty "int", _, _, true, rfl, .ty "int", ty_int i, kit_ty (by decide +kernel), true, rfl, iteT ?_⟩
      refine ⟨_, rfl, .int i, .ty "bool", _, _, false, rfl, .ty "bool", ty_int i, kit_ty (by decide +kernel), false, rfl, true, rfl, iteT ?_⟩
      refine ⟨_, rfl, _, rfl, .int i, .int j, .int i, .int j, rfl, rfl, ?_⟩
      have e : PyData.eqv (.int i) (.int j) = decide (i = j) := by
        simp [PyData.eqv, Bool.beq_eq_decide_eq]
      rw [e]
      exact q _ s2
    · have turn : ∀ (D0 : Addr) (i : Nat) (x y : V) (H3 : Hp) (xs ys : List V), (upd H tp (.tup [.ty "list", .ty "tuple"])) D0 = none → DpAll K H xs ds → DpAll K H ys es → xs[i]? = some x → ys[i]? = some y → PvV (upd H tp (.tup [.ty "list", .ty "tuple"])) D0 (bs.map V.bl) i H3 → ∀ E' TT, H3 TT = none →
          sp_law_same K (m + 1) [x, y] (upd H3 TT (.tup [x, y])) (fun y H4 => ∃ acc, H4 D0 = some (.lst acc) ∧ acc.length < sizeLine ∧ PvV (upd H tp (.tup [.ty "list", .ty "tuple"])) D0 (bs.map V.bl) (i + 1) (upd H4 D0 (.lst (acc ++ [y])))) E' := by
        intro D0 i x y H3 xs ys nD ha ha2 hx hy p E' TT nT
        obtain ⟨d', hd', dx⟩ := dpAll_at ha hx
        obtain ⟨e', he', ey⟩ := dpAll_at ha2 hy
        obtain ⟨c, hc, hs⟩ := hb i d' e' hd' he'
        have sH3 := s1.trans (p.1.trans (same_upd (o := .tup [x, y]) nT))
        refine ⟨x, y, d', e', c, rfl, Dp.same dx sH3, Dp.same ey sH3, hs, fun H4 s4 => ?_⟩
        exact pvv_next nD p ((same_upd nT).trans s4) (by rw [List.length_map]; omega) (by rw [List.getElem?_map, hc]; rfl)
      rcases hds with ⟨rfl, rfl⟩ | ⟨rfl, rfl⟩
      · obtain ⟨a, xs, rfl, hs, ha⟩ := dp_lst_inv hd
        obtain ⟨a2, ys, rfl, hs2, ha2⟩ := dp_lst_inv he
        have lx := dpAll_len ha
        have ly := dpAll_len ha2
        refine ⟨_, tp, _, _, _, true, rfl, upd_same, .cons (.ty "list") (.cons (.ty "tuple") .nil), ty_lst (s1.seq hs2), kit_lst, true, rfl, iteT ?_⟩
        refine ⟨_, rfl, .ref a, .ty "list", _, _, true, rfl, .ty "list", ty_lst (s1.seq hs), kit_ty (by decide +kernel), _, rfl, .ref a2, .ty "list", _, _, true, rfl, .ty "list", ty_lst (s1.seq hs2), kit_ty (by decide +kernel), rfl, false, rfl, iteF ?_⟩
        refine ⟨_, rfl, .ref a, .ty "tuple", _, _, false, rfl, .ty "tuple", ty_lst (s1.seq hs), kit_ty (by decide +kernel), _, rfl, .ref a2, .ty "tuple", _, _, false, rfl, .ty "tuple", ty_lst (s1.seq hs2), kit_ty (by decide +kernel), rfl, false, rfl, iteF ?_⟩
        refine ⟨_, rfl, a, xs, rfl, .inl (s1.seq hs), _, rfl, a2, ys, rfl, .inl (s1.seq hs2), rfl, true, ?_, iteT ?_⟩
        · rw [lx, ly, hll]
          simp
        refine ⟨_, rfl, _, rfl, a, a2, _, _, rfl, .inl ⟨s1.seq hs, s1.seq hs2, fun D0 nD => lc_zipL (K := K) (a := a) (b := a2) (xs := xs) (ys := ys) (by omega) (PvV (upd H tp (.tup [.ty "list", .ty "tuple"])) D0 (bs.map V.bl)) (pvv_0 nD) (fun i H3 _ p => ⟨p.1.seq (s1.seq hs), p.1.seq (s1.seq hs2)⟩) (fun i x y TT H3 hx hy nT p => ?_) (fun H5 p => ?_)⟩⟩
        · refine ⟨TT, _, rfl, SqT.of upd_same, rfl, _, _, rfl, _, _, rfl, rfl, ?_⟩
          refine ⟨rfl, ?_⟩
          exact ⟨_, rfl, _, rfl, turn D0 i x y H3 xs ys nD ha ha2 hx hy p E0 TT nT⟩
        · obtain ⟨s5, hD⟩ := p
          rw [lx, ← hbl, ← List.length_map (f := V.bl) (as := bs), List.take_length] at hD
          exact ⟨D0, bs, rfl, SqL.of hD, q H5 (s1.trans s5)⟩
      · obtain ⟨a, xs, rfl, hs, ha⟩ := dp_tup_inv hd
        obtain ⟨a2, ys, rfl, hs2, ha2⟩ := dp_tup_inv he
        have lx := dpAll_len ha
        have ly := dpAll_len ha2
        refine ⟨_, tp, _, _, _, true, rfl, upd_same, .cons (.ty "list") (.cons (.ty "tuple") .nil), ty_tup (same_sqT s1 hs2), kit_tup, true, rfl, iteT ?_⟩
        refine ⟨_, rfl, .ref a, .ty "list", _, _, false, rfl, .ty "list", ty_tup (same_sqT s1 hs), kit_ty (by decide +kernel), _, rfl, .ref a2, .ty "list", _, _, false, rfl, .ty "list", ty_tup (same_sqT s1 hs2), kit_ty (by decide +kernel), rfl, false, rfl, iteF ?_⟩
        refine ⟨_, rfl, .ref a, .ty "tuple", _, _, true, rfl, .ty "tuple", ty_tup (same_sqT s1 hs), kit_ty (by decide +kernel), _, rfl, .ref a2, .ty "tuple", _, _, true, rfl, .ty "tuple", ty_tup (same_sqT s1 hs2), kit_ty (by decide +kernel), rfl, false, rfl, iteF ?_⟩
        refine ⟨_, rfl, a, xs, rfl, .inr (same_sqT s1 hs), _, rfl, a2, ys, rfl, .inr (same_sqT s1 hs2), rfl, true, ?_, iteT ?_⟩
        · rw [lx, ly, hll]
          simp
        refine ⟨_, rfl, _, rfl, a, a2, _, _, rfl, .inr ⟨same_sqT s1 hs, same_sqT s1 hs2, fun D0 nD => lc_zipT (K := K) (a := a) (b := a2) (xs := xs) (ys := ys) (by omega) (PvV (upd H tp (.tup [.ty "list", .ty "tuple"])) D0 (bs.map V.bl)) (pvv_0 nD) (fun i H3 _ p => ⟨same_sqT p.1 (same_sqT s1 hs), same_sqT p.1 (same_sqT s1 hs2)⟩) (fun i x y TT H3 hx hy nT p => ?_) (fun H5 p => ?_)⟩⟩
        · refine ⟨TT, _, rfl, SqT.of upd_same, rfl, _, _, rfl, _, _, rfl, rfl, ?_⟩
          refine ⟨rfl, ?_⟩
          exact ⟨_, rfl, _, rfl, turn D0 i x y H3 xs ys nD ha ha2 hx hy p E0 TT nT⟩
        · obtain ⟨s5, hD⟩ := p
          rw [lx, ← hbl, ← List.length_map (f := V.bl) (as := bs), List.take_length] at hD
          exact ⟨D0, bs, rfl, SqL.of hD, q H5 (s1.trans s5)⟩
def sp_law_home (K : PySem.W.Frag) : Sp := fun vs H Q _ => vs = [] ∧ ∀ r H', Same H H' → Dp K H' r (dS homeS) → Q r H'
theorem c_law_home (T : Txt K mg) (D : DefOk K mg "_law_home" s__law_home) : Cl P w K mg base 1 "_law_home" P__law_home (sp_law_home K) := by
  refine cl_of D (fun _ _ _ _ _ _ us hl => match us, hl with | [], _ => rfl) sc__law_home (fun vs H Q E h => ?_) (fun f cdv A outer s H vs Q E hr h => ?_)
  · obtain ⟨rfl, _⟩ := h
    rfl
  obtain ⟨rfl, q⟩ := h
  refine ⟨_, (pss_one (ps_ret (pe_tup (pa_cons (pe_tup (pa_cons pe_int (pa_cons pe_int (pa_cons pe_int pa_nil)))) (pa_cons (pe_tup (pa_cons pe_int (pa_cons pe_int (pa_cons pe_int pa_nil)))) (pa_cons (pe_tup (pa_cons pe_int (pa_cons pe_int (pa_cons pe_int pa_nil)))) (pa_cons (pe_tup (pa_cons pe_int (pa_cons pe_int (pa_cons pe_int pa_nil)))) pa_nil))))))), ?_⟩
  refine ⟨sz (by simp), fun a na => ⟨sz (by simp), fun b nb => ⟨sz (by simp), fun c nc => ⟨sz (by simp), fun d nd => ⟨sz (by simp), fun e ne => ?_⟩⟩⟩⟩⟩
  have s1 := same_upd (o := .tup [.int 0, .int 1, .int 2]) na
  have s2 := same_upd (o := .tup [.int 0, .int 0, .int 0]) nb
  have s3 := same_upd (o := .tup [.int 0, .int 0, .int 0]) nc
  have s4 := same_upd (o := .tup [.int 1, .int 1, .int 1]) nd
  have s5 := same_upd (o := .tup [.ref a, .ref b, .ref c, .ref d]) ne
  refine q _ _ (s1.trans (s2.trans (s3.trans (s4.trans s5)))) (dpS_mk (s := homeS) (SqT.of upd_same) ?_ ?_ ?_ ?_)
  · exact dpT_mk (SqT.of ((s2.trans (s3.trans (s4.trans s5))) _ _ upd_same))
  · exact dpT_mk (SqT.of ((s3.trans (s4.trans s5)) _ _ upd_same))
  · exact dpT_mk (SqT.of ((s4.trans s5) _ _ upd_same))
  · exact dpT_mk (SqT.of (s5 _ _ upd_same))
def sp_law_poses (K : PySem.W.Frag) : Sp := fun vs H Q _ => vs = [] ∧ ∀ p H' xs, Same H H' → H p = none → H' p = some (.lst xs) → DpAll K H' xs (ring.map dT) → Q (.ref p) H'
theorem c_law_poses (T : Txt K mg) (D : DefOk K mg "_law_poses" s__law_poses) : Cl P w K mg base 1 "_law_poses" P__law_poses (sp_law_poses K) := by
  refine cl_of D (fun _ _ _ _ _ _ us hl => match us, hl with | [], _ => rfl) sc__law_poses (fun vs H Q E h => ?_) (fun f cdv A outer s H vs Q E hr h => ?_)
  · obtain ⟨rfl, _⟩ := h
    rfl
  obtain ⟨rfl, q⟩ := h
  refine ⟨_, (pss_one (ps_ret (pe_lst (pa_cons (pe_tup (pa_cons pe_int (pa_cons pe_int (pa_cons pe_int pa_nil)))) (pa_cons (pe_tup (pa_cons pe_int (pa_cons pe_int (pa_cons pe_int pa_nil)))) (pa_cons (pe_tup (pa_cons pe_int (pa_cons pe_int (pa_cons pe_int pa_nil)))) (pa_cons (pe_tup (pa_cons pe_int (pa_cons pe_int (pa_cons pe_int pa_nil)))) (pa_cons (pe_tup (pa_cons pe_int (pa_cons pe_int (pa_cons pe_int pa_nil)))) (pa_cons (pe_tup (pa_cons pe_int (pa_cons pe_int (pa_cons pe_int pa_nil)))) pa_nil))))))))), ?_⟩
  refine ⟨sz (by simp), fun a na => ⟨sz (by simp), fun b nb => ⟨sz (by simp), fun c nc => ⟨sz (by simp), fun d nd => ⟨sz (by simp), fun e ne => ⟨sz (by simp), fun f nf => ⟨sz (by simp), fun g ng => ?_⟩⟩⟩⟩⟩⟩⟩
  have s1 := same_upd (o := .tup [.int 0, .int 1, .int 2]) na
  have s2 := same_upd (o := .tup [.int 2, .int 1, .int 0]) nb
  have s3 := same_upd (o := .tup [.int 2, .int 0, .int 1]) nc
  have s4 := same_upd (o := .tup [.int 1, .int 0, .int 2]) nd
  have s5 := same_upd (o := .tup [.int 1, .int 2, .int 0]) ne
  have s6 := same_upd (o := .tup [.int 0, .int 2, .int 1]) nf
  have s7 := same_upd (o := .lst [.ref a, .ref b, .ref c, .ref d, .ref e, .ref f]) ng
  have t7 := s6.trans s7
  have t6 := s5.trans t7
  have t5 := s4.trans t6
  have t4 := s3.trans t5
  have t3 := s2.trans t4
  refine q _ _ _ (s1.trans t3) (s1.free (s2.free (s3.free (s4.free (s5.free (s6.free ng)))))) upd_same ?_
  refine .cons (dpT_mk (t := (0, 1, 2)) (SqT.of (t3 _ _ upd_same))) (.cons (dpT_mk (t := (2, 1, 0)) (SqT.of (t4 _ _ upd_same))) (.cons (dpT_mk (t := (2, 0, 1)) (SqT.of (t5 _ _ upd_same))) (.cons (dpT_mk (t := (1, 0, 2)) (SqT.of (t6 _ _ upd_same))) (.cons (dpT_mk (t := (1, 2, 0)) (SqT.of (t7 _ _ upd_same))) (.cons (dpT_mk (t := (0, 2, 1)) (SqT.of (s7 _ _ upd_same))) .nil)))))
def sp_law_across (K : PySem.W.Frag) : Sp := fun vs H Q _ => vs = [] ∧ ∀ p, H p = none → Q (.ref p) (upd H p (.lst (across.map V.int)))
theorem c_law_across (T : Txt K mg) (D : DefOk K mg "_law_across" s__law_across) : Cl P w K mg base 1 "_law_across" P__law_across (sp_law_across K) := by
  refine cl_of D (fun _ _ _ _ _ _ us hl => match us, hl with | [], _ => rfl) sc__law_across (fun vs H Q E h => ?_) (fun f cdv A outer s H vs Q E hr h => ?_)
  · obtain ⟨rfl, _⟩ := h
    rfl
  obtain ⟨rfl, q⟩ := h
  refine ⟨_, (pss_one (ps_ret (pe_lst (pa_cons pe_int (pa_cons pe_int (pa_cons pe_int (pa_cons pe_int (pa_cons pe_int (pa_cons pe_int pa_nil))))))))), ?_⟩
  exact ⟨sz (by simp), fun a na => q a na⟩
def sp_law_plus (K : PySem.W.Frag) : Sp := fun vs H Q _ => ∃ (v : V) (t : T3) (i y : Int), vs = [v, .int i, .int y] ∧ Dp K H v (dT t) ∧ Ix i ∧ ∀ r H', Same H H' → Dp K H' r (dT (plus t i y)) → Q r H'
theorem c_law_plus (T : Txt K mg) (D : DefOk K mg "_law_plus" s__law_plus) : Cl P w K mg base 1 "_law_plus" P__law_plus (sp_law_plus K) := by
  refine cl_of D (fun _ _ _ _ _ _ us hl => match us, hl with | [_, _, _], _ => rfl) sc__law_plus (fun vs H Q E h => ?_) (fun f cdv A outer s H vs Q E hr h => ?_)
  · obtain ⟨v, t, i, y, rfl, _⟩ := h
    rfl
  obtain ⟨v, t, i, y, rfl, hv, hi, q⟩ := h
  obtain ⟨a, rfl, ha⟩ := dpT_inv hv
  refine ⟨_, (pss_one (ps_ret (pe_op op_catA (pe_op op_catA (pe_slice sl_tupA (pv 0) po_none (po_some (pv 1))) (pe_tup (pa_cons (pe_op op_add (pe_ix (r := rIxT K) ix_tup (pv 0) (pv 1) (fun _ _ => rfl)) (pv 2)) pa_nil))) (pe_slice sl_tupA (pv 0) (po_some (pe_op op_add (pv 1) pe_int)) po_none)))), ?_⟩
  rcases hi with rfl | rfl | rfl
  · refine ⟨_, rfl, _, rfl, 0, rfl, a, _, rfl, ha, fun z => absurd z (by show ¬ (0 = 0 ∧ 0 = 3); decide), fun _ p1 n1 => ?_⟩
    have s1 := same_upd (o := .tup (cutV [V.int t.1, .int t.2.1, .int t.2.2] none (some 0))) n1
    refine ⟨_, rfl, _, rfl, a, _, 0, _, rfl, rfl, same_sqT s1 ha, rfl, _, rfl, _, _, rfl, rfl, sz (by simp), fun p2 n2 => ?_⟩
    have s2 := s1.trans (same_upd (o := .tup [.int (t.1 + y)]) n2)
    refine ⟨p1, p2, [], [.int (t.1 + y)], rfl, rfl, SqT.of (same_upd n2 _ _ upd_same), SqT.of upd_same, sz (by simp), fun _ => ?_, fun z => absurd rfl z, fun z => absurd rfl z⟩
    refine ⟨_, rfl, _, rfl, 0, 1, rfl, rfl, 1, rfl, a, _, rfl, same_sqT s2 ha, fun z => absurd z (by show ¬ (1 = 0 ∧ 3 = 3); decide), fun _ p3 n3 => ?_⟩
    have s3 := s2.trans (same_upd (o := .tup [.int t.2.1, .int t.2.2]) n3)
    refine ⟨p2, p3, [.int (t.1 + y)], [.int t.2.1, .int t.2.2], rfl, rfl, SqT.of (same_upd n3 _ _ upd_same), SqT.of upd_same, sz (by simp), fun z => (nomatch z), fun _ z => (nomatch z), fun _ _ p n => ?_⟩
    exact q _ _ (s3.trans (same_upd n)) (dpT_mk (t := plus t 0 y) (SqT.of upd_same))
  · refine ⟨_, rfl, _, rfl, 1, rfl, a, _, rfl, ha, fun z => absurd z (by show ¬ (0 = 0 ∧ 1 = 3); decide), fun _ p1 n1 => ?_⟩
    have s1 := same_upd (o := .tup (cutV [V.int t.1, .int t.2.1, .int t.2.2] none (some 1))) n1
    refine ⟨_, rfl, _, rfl, a, _, 1, _, rfl, rfl, same_sqT s1 ha, rfl, _, rfl, _, _, rfl, rfl, sz (by simp), fun p2 n2 => ?_⟩
    have s2 := s1.trans (same_upd (o := .tup [.int (t.2.1 + y)]) n2)
    refine ⟨p1, p2, [.int t.1], [.int (t.2.1 + y)], rfl, rfl, SqT.of (same_upd n2 _ _ upd_same), SqT.of upd_same, sz (by simp), fun z => (nomatch z), fun _ z => (nomatch z), fun _ _ p4 n4 => ?_⟩
    have s4 := s2.trans (same_upd (o := .tup ([.int t.1] ++ [.int (t.2.1 + y)])) n4)
    refine ⟨_, rfl, _, rfl, 1, 1, rfl, rfl, 2, rfl, a, _, rfl, same_sqT s4 ha, fun z => absurd z (by show ¬ (2 = 0 ∧ 3 = 3); decide), fun _ p3 n3 => ?_⟩
    have s3 := s4.trans (same_upd (o := .tup [.int t.2.2]) n3)
    refine ⟨p4, p3, [.int t.1, .int (t.2.1 + y)], [.int t.2.2], rfl, rfl, SqT.of (same_upd n3 _ _ upd_same), SqT.of upd_same, sz (by simp), fun z => (nomatch z), fun _ z => (nomatch z), fun _ _ p n => ?_⟩
    exact q _ _ (s3.trans (same_upd n)) (dpT_mk (t := plus t 1 y) (SqT.of upd_same))
  · refine ⟨_, rfl, _, rfl, 2, rfl, a, _, rfl, ha, fun z => absurd z (by show ¬ (0 = 0 ∧ 2 = 3); decide), fun _ p1 n1 => ?_⟩
    have s1 := same_upd (o := .tup (cutV [V.int t.1, .int t.2.1, .int t.2.2] none (some 2))) n1
    refine ⟨_, rfl, _, rfl, a, _, 2, _, rfl, rfl, same_sqT s1 ha, rfl, _, rfl, _, _, rfl, rfl, sz (by simp), fun p2 n2 => ?_⟩
    have s2 := s1.trans (same_upd (o := .tup [.int (t.2.2 + y)]) n2)
    refine ⟨p1, p2, [.int t.1, .int t.2.1], [.int (t.2.2 + y)], rfl, rfl, SqT.of (same_upd n2 _ _ upd_same), SqT.of upd_same, sz (by simp), fun z => (nomatch z), fun _ z => (nomatch z), fun _ _ p4 n4 => ?_⟩
    have s4 := s2.trans (same_upd (o := .tup ([.int t.1, .int t.2.1] ++ [.int (t.2.2 + y)])) n4)
    refine ⟨_, rfl, _, rfl, 2, 1, rfl, rfl, 3, rfl, a, _, rfl, same_sqT s4 ha, fun z => absurd z (by show ¬ (3 = 0 ∧ 3 = 3); decide), fun _ p3 n3 => ?_⟩
    have s3 := s4.trans (same_upd (o := .tup []) n3)
    refine ⟨p4, p3, [.int t.1, .int t.2.1, .int (t.2.2 + y)], [], rfl, rfl, SqT.of (same_upd n3 _ _ upd_same), SqT.of upd_same, sz (by simp), fun z => (nomatch z), fun _ _ => ?_, fun _ z => absurd rfl z⟩
    exact q _ _ s3 (dpT_mk (t := plus t 2 y) (SqT.of (same_upd n3 _ _ upd_same)))
def sp_law_flip (K : PySem.W.Frag) : Sp := fun vs H Q _ => ∃ (v : V) (t : T3) (i : Int), vs = [v, .int i] ∧ Dp K H v (dT t) ∧ Ix i ∧ ∀ r H', Same H H' → Dp K H' r (dT (flip3 t i)) → Q r H'
theorem c_law_flip (T : Txt K mg) (D : DefOk K mg "_law_flip" s__law_flip) : Cl P w K mg base 1 "_law_flip" P__law_flip (sp_law_flip K) := by
  refine cl_of D (fun _ _ _ _ _ _ us hl => match us, hl with | [_, _], _ => rfl) sc__law_flip (fun vs H Q E h => ?_) (fun f cdv A outer s H vs Q E hr h => ?_)
  · obtain ⟨v, t, i, rfl, _⟩ := h
    rfl
  obtain ⟨v, t, i, rfl, hv, hi, q⟩ := h
  obtain ⟨a, rfl, ha⟩ := dpT_inv hv
  refine ⟨_, (pss_one (ps_ret (pe_op op_catA (pe_op op_catA (pe_slice sl_tupA (pv 0) po_none (po_some (pv 1))) (pe_tup (pa_cons (pe_un un_neg (pe_ix (r := rIxT K) ix_tup (pv 0) (pv 1) (fun _ _ => rfl))) pa_nil))) (pe_slice sl_tupA (pv 0) (po_some (pe_op op_add (pv 1) pe_int)) po_none)))), ?_⟩
  rcases hi with rfl | rfl | rfl
  · refine ⟨_, rfl, _, rfl, 0, rfl, a, _, rfl, ha, fun z => absurd z (by show ¬ (0 = 0 ∧ 0 = 3); decide), fun _ p1 n1 => ?_⟩
    have s1 := same_upd (o := .tup (cutV [V.int t.1, .int t.2.1, .int t.2.2] none (some 0))) n1
    refine ⟨_, rfl, _, rfl, a, _, 0, _, rfl, rfl, same_sqT s1 ha, rfl, _, rfl, sz (by simp), fun p2 n2 => ?_⟩
    have s2 := s1.trans (same_upd (o := .tup [.int (-t.1)]) n2)
    refine ⟨p1, p2, [], [.int (-t.1)], rfl, rfl, SqT.of (same_upd n2 _ _ upd_same), SqT.of upd_same, sz (by simp), fun _ => ?_, fun z => absurd rfl z, fun z => absurd rfl z⟩
    refine ⟨_, rfl, _, rfl, 0, 1, rfl, rfl, 1, rfl, a, _, rfl, same_sqT s2 ha, fun z => absurd z (by show ¬ (1 = 0 ∧ 3 = 3); decide), fun _ p3 n3 => ?_⟩
    have s3 := s2.trans (same_upd (o := .tup [.int t.2.1, .int t.2.2]) n3)
    refine ⟨p2, p3, [.int (-t.1)], [.int t.2.1, .int t.2.2], rfl, rfl, SqT.of (same_upd n3 _ _ upd_same), SqT.of upd_same, sz (by simp), fun z => (nomatch z), fun _ z => (nomatch z), fun _ _ p n => ?_⟩
    exact q _ _ (s3.trans (same_upd n)) (dpT_mk (t := flip3 t 0) (SqT.of upd_same))
  · refine ⟨_, rfl, _, rfl, 1, rfl, a, _, rfl, ha, fun z => absurd z (by show ¬ (0 = 0 ∧ 1 = 3); decide), fun _ p1 n1 => ?_⟩
    have s1 := same_upd (o := .tup (cutV [V.int t.1, .int t.2.1, .int t.2.2] none (some 1))) n1
    refine ⟨_, rfl, _, rfl, a, _, 1, _, rfl, rfl, same_sqT s1 ha, rfl, _, rfl, sz (by simp), fun p2 n2 => ?_⟩
    have s2 := s1.trans (same_upd (o := .tup [.int (-t.2.1)]) n2)
    refine ⟨p1, p2, [.int t.1], [.int (-t.2.1)], rfl, rfl, SqT.of (same_upd n2 _ _ upd_same), SqT.of upd_same, sz (by simp), fun z => (nomatch z), fun _ z => (nomatch z), fun _ _ p4 n4 => ?_⟩
    have s4 := s2.trans (same_upd (o := .tup ([.int t.1] ++ [.int (-t.2.1)])) n4)
    refine ⟨_, rfl, _, rfl, 1, 1, rfl, rfl, 2, rfl, a, _, rfl, same_sqT s4 ha, fun z => absurd z (by show ¬ (2 = 0 ∧ 3 = 3); decide), fun _ p3 n3 => ?_⟩
    have s3 := s4.trans (same_upd (o := .tup [.int t.2.2]) n3)
    refine ⟨p4, p3, [.int t.1, .int (-t.2.1)], [.int t.2.2], rfl, rfl, SqT.of (same_upd n3 _ _ upd_same), SqT.of upd_same, sz (by simp), fun z => (nomatch z), fun _ z => (nomatch z), fun _ _ p n => ?_⟩
    exact q _ _ (s3.trans (same_upd n)) (dpT_mk (t := flip3 t 1) (SqT.of upd_same))
  · refine ⟨_, rfl, _, rfl, 2, rfl, a, _, rfl, ha, fun z => absurd z (by show ¬ (0 = 0 ∧ 2 = 3); decide), fun _ p1 n1 => ?_⟩
    have s1 := same_upd (o := .tup (cutV [V.int t.1, .int t.2.1, .int t.2.2] none (some 2))) n1
    refine ⟨_, rfl, _, rfl, a, _, 2, _, rfl, rfl, same_sqT s1 ha, rfl, _, rfl, sz (by simp), fun p2 n2 => ?_⟩
    have s2 := s1.trans (same_upd (o := .tup [.int (-t.2.2)]) n2)
    refine ⟨p1, p2, [.int t.1, .int t.2.1], [.int (-t.2.2)], rfl, rfl, SqT.of (same_upd n2 _ _ upd_same), SqT.of upd_same, sz (by simp), fun z => (nomatch z), fun _ z => (nomatch z), fun _ _ p4 n4 => ?_⟩
    have s4 := s2.trans (same_upd (o := .tup ([.int t.1, .int t.2.1] ++ [.int (-t.2.2)])) n4)
    refine ⟨_, rfl, _, rfl, 2, 1, rfl, rfl, 3, rfl, a, _, rfl, same_sqT s4 ha, fun z => absurd z (by show ¬ (3 = 0 ∧ 3 = 3); decide), fun _ p3 n3 => ?_⟩
    have s3 := s4.trans (same_upd (o := .tup []) n3)
    refine ⟨p4, p3, [.int t.1, .int t.2.1, .int (-t.2.2)], [], rfl, rfl, SqT.of (same_upd n3 _ _ upd_same), SqT.of upd_same, sz (by simp), fun z => (nomatch z), fun _ _ => ?_, fun _ z => absurd rfl z⟩
    exact q _ _ s3 (dpT_mk (t := flip3 t 2) (SqT.of (same_upd n3 _ _ upd_same)))
end
end Mv
end

section
set_option Elab.async false
set_option linter.all false
set_option maxRecDepth 100000
set_option maxHeartbeats 8000000
/-! MvE9: _law_tip .. _law_walk. -/
namespace Mv
open PySem PySem.Spec PyProof.Rows L2 RZ
/-- the frame, named anew -/
theorem st_of {N : L2.St → Hp → Prop} {σ σ' : L2.St} {H : Hp} (e : σ = σ') (h : N σ' H) : N σ H := e ▸ h
section
variable {P : Program} {w : World} {K : PySem.W.Frag} {mg : Str → Option Value} {base : Heap}
def sp_law_tip (K : PySem.W.Frag) : Sp := fun vs H Q _ => ∃ (v : V) (t : Stand) (y : Int), vs = [v, .int y] ∧ Dp K H v (dS t) ∧ t.1 ∈ ring ∧ (0 ≤ y ∧ y ≤ 3) ∧ ∀ r H', Same H H' → Dp K H' r (dS (tipS t y)) → Q r H'
theorem c_law_tip (T : Txt K mg) (D : DefOk K mg "_law_tip" s__law_tip) (C__law_plus : Cl P w K mg base 1 "_law_plus" P__law_plus (sp_law_plus K)) (C__law_flip : Cl P w K mg base 1 "_law_flip" P__law_flip (sp_law_flip K)) : Cl P w K mg base 2 "_law_tip" P__law_tip (sp_law_tip K) := by
  refine cl_of D (fun _ _ _ _ _ _ us hl => match us, hl with | [_, _], _ => rfl) sc__law_tip (fun vs H Q E h => ?_) (fun f cdv A outer s H vs Q E hr h => ?_)
  · obtain ⟨v, t, y, rfl, _⟩ := h
    rfl
  obtain ⟨v, t, y, rfl, hv, ht, hy, q⟩ := h
  obtain ⟨a, v0, v1, v2, v3, rfl, hs, h0, h1, h2, h3⟩ := dpS_inv hv
  obtain ⟨a0, rfl, g0⟩ := dpT_inv h0
  obtain ⟨i1, i2, i3⟩ := ix_of ht
  refine ⟨_, (pss_cons (ps_asg (pv 0) (pg_tup rfl (pgs_cons (pg_name (i := 2) sc__law_tip.nd rfl (.inl rfl)) (pgs_cons (pg_name (i := 3) sc__law_tip.nd rfl (.inl rfl)) (pgs_cons (pg_name (i := 4) sc__law_tip.nd rfl (.inl rfl)) (pgs_cons (pg_name (i := 5) sc__law_tip.nd rfl (.inl rfl)) pgs_nil))))))
    (pss_cons (ps_asg (pv 2) (pg_tup rfl (pgs_cons (pg_name (i := 6) sc__law_tip.nd rfl (.inl rfl)) (pgs_cons (pg_name (i := 7) sc__law_tip.nd rfl (.inl rfl)) (pgs_cons (pg_name (i := 8) sc__law_tip.nd rfl (.inl rfl)) pgs_nil)))))
    (pss_cons (ps_set (i := 9) sc__law_tip.nd rfl (.inl rfl) (pe_ifExp (pt_cmpR op_lt (pv 1) pe_int (nomark _)) pe_int (pe_un un_neg pe_int)))
    (pss_cons (ps_if (pt_cmpR op_eq (pe_op op_mod (pv 1) pe_int) pe_int (nomark _)) (pss_cons (ps_set (i := 3) sc__law_tip.nd rfl (.inl rfl) (pe_cl C__law_plus hr (by omega) (by rfl) (pa_cons (pe_cl C__law_plus hr (by omega) (by rfl) (pa_cons (pv 3) (pa_cons (pv 6) (pa_cons (pv 9) pa_nil)))) (pa_cons (pv 8) (pa_cons (pv 9) pa_nil)))))
    (pss_one (ps_ret (pe_tup (pa_cons (pe_tup (pa_cons (pv 8) (pa_cons (pv 7) (pa_cons (pv 6) pa_nil)))) (pa_cons (pv 3) (pa_cons (pv 4) (pa_cons (pe_cl C__law_flip hr (by omega) (by rfl) (pa_cons (pv 5) (pa_cons (pe_ifExp (pt_cmpR op_eq (pv 1) pe_int (nomark _)) (pv 6) (pv 8)) pa_nil))) pa_nil)))))))) pss_nil)
    (pss_cons (ps_set (i := 4) sc__law_tip.nd rfl (.inl rfl) (pe_cl C__law_plus hr (by omega) (by rfl) (pa_cons (pe_cl C__law_plus hr (by omega) (by rfl) (pa_cons (pv 4) (pa_cons (pv 7) (pa_cons (pv 9) pa_nil)))) (pa_cons (pv 8) (pa_cons (pv 9) pa_nil)))))
    (pss_one (ps_ret (pe_tup (pa_cons (pe_tup (pa_cons (pv 6) (pa_cons (pv 8) (pa_cons (pv 7) pa_nil)))) (pa_cons (pv 3) (pa_cons (pv 4) (pa_cons (pe_cl C__law_flip hr (by omega) (by rfl) (pa_cons (pv 5) (pa_cons (pe_ifExp (pt_cmpR op_eq (pv 1) pe_int (nomark _)) (pv 7) (pv 8)) pa_nil))) pa_nil)))))))))))), ?_⟩
  refine ⟨_, rfl, a, _, rfl, hs, rfl, _, _, rfl, _, _, rfl, _, _, rfl, _, _, rfl, rfl, ?_⟩
  refine ⟨_, rfl, a0, _, rfl, g0, rfl, _, _, rfl, _, _, rfl, _, _, rfl, rfl, ?_⟩
  refine st_of (σ' := [some (.ref a), some (.int y), some (.ref a0), some v1, some v2, some v3, some (.int t.1.1), some (.int t.1.2.1), some (.int t.1.2.2), none]) rfl ?_
  have hc : y = 0 ∨ y = 1 ∨ y = 2 ∨ y = 3 := by omega
  rcases hc with rfl | rfl | rfl | rfl
  · refine ⟨_, rfl, _, _, rfl, rfl, true, rfl, iteT ?_⟩
    refine ⟨_, rfl, _, _, rfl, rfl, (by show (0 : Int) < 2; decide), rfl, true, rfl, iteT ?_⟩
    refine ⟨_, rfl, _, rfl, _, rfl, v1, t.2.1, t.1.1, 1, rfl, h1, i1, fun r1 H1 s1 hr1 => ?_⟩
    refine ⟨_, rfl, _, rfl, r1, _, _, _, rfl, hr1, i3, fun r2 H2 s2 hr2 => ?_⟩
    refine ⟨_, rfl, _, rfl, _, rfl, sz (by simp), fun p np => ?_⟩
    have s3 := same_upd (o := .tup [.int t.1.2.2, .int t.1.2.1, .int t.1.1]) np
    refine ⟨_, rfl, _, rfl, _, rfl, _, rfl, rfl, true, rfl, iteT ⟨_, rfl, ?_⟩⟩
    refine ⟨v3, t.2.2.2, t.1.1, rfl, Dp.same h3 (s1.trans (s2.trans s3)), i1, fun r3 H3 s4 hr3 => ⟨sz (by simp), fun z nz => ?_⟩⟩
    have s5 := same_upd (o := .tup [.ref p, r2, v2, r3]) nz
    have s45 := s4.trans s5
    exact q _ _ (s1.trans (s2.trans (s3.trans s45))) (dpS_mk (s := tipS t 0) (SqT.of upd_same) (dpT_mk (t := (t.1.2.2, t.1.2.1, t.1.1)) (SqT.of (s45 _ _ upd_same))) (Dp.same hr2 (s3.trans s45)) (Dp.same h2 (s1.trans (s2.trans (s3.trans s45)))) (Dp.same hr3 s5))
  · refine ⟨_, rfl, _, _, rfl, rfl, true, rfl, iteT ?_⟩
    refine ⟨_, rfl, _, _, rfl, rfl, (by show (0 : Int) < 2; decide), rfl, false, rfl, iteF ?_⟩
    refine ⟨_, rfl, _, rfl, _, rfl, v2, t.2.2.1, t.1.2.1, 1, rfl, h2, i2, fun r1 H1 s1 hr1 => ?_⟩
    refine ⟨_, rfl, _, rfl, r1, _, _, _, rfl, hr1, i3, fun r2 H2 s2 hr2 => ?_⟩
    refine ⟨_, rfl, _, rfl, _, rfl, sz (by simp), fun p np => ?_⟩
    have s3 := same_upd (o := .tup [.int t.1.1, .int t.1.2.2, .int t.1.2.1]) np
    refine ⟨_, rfl, _, rfl, _, rfl, _, rfl, rfl, true, rfl, iteT ⟨_, rfl, ?_⟩⟩
    refine ⟨v3, t.2.2.2, t.1.2.1, rfl, Dp.same h3 (s1.trans (s2.trans s3)), i2, fun r3 H3 s4 hr3 => ⟨sz (by simp), fun z nz => ?_⟩⟩
    have s5 := same_upd (o := .tup [.ref p, v1, r2, r3]) nz
    have s45 := s4.trans s5
    exact q _ _ (s1.trans (s2.trans (s3.trans s45))) (dpS_mk (s := tipS t 1) (SqT.of upd_same) (dpT_mk (t := (t.1.1, t.1.2.2, t.1.2.1)) (SqT.of (s45 _ _ upd_same))) (Dp.same h1 (s1.trans (s2.trans (s3.trans s45)))) (Dp.same hr2 (s3.trans s45)) (Dp.same hr3 s5))
  · refine ⟨_, rfl, _, _, rfl, rfl, false, rfl, iteF ?_⟩
    refine ⟨_, rfl, _, rfl, _, _, rfl, rfl, (by show (0 : Int) < 2; decide), rfl, true, rfl, iteT ?_⟩
    refine ⟨_, rfl, _, rfl, _, rfl, v1, t.2.1, t.1.1, (-1), rfl, h1, i1, fun r1 H1 s1 hr1 => ?_⟩
    refine ⟨_, rfl, _, rfl, r1, _, _, _, rfl, hr1, i3, fun r2 H2 s2 hr2 => ?_⟩
    refine ⟨_, rfl, _, rfl, _, rfl, sz (by simp), fun p np => ?_⟩
    have s3 := same_upd (o := .tup [.int t.1.2.2, .int t.1.2.1, .int t.1.1]) np
    refine ⟨_, rfl, _, rfl, _, rfl, _, rfl, rfl, false, rfl, iteF ⟨_, rfl, ?_⟩⟩
    refine ⟨v3, t.2.2.2, t.1.2.2, rfl, Dp.same h3 (s1.trans (s2.trans s3)), i3, fun r3 H3 s4 hr3 => ⟨sz (by simp), fun z nz => ?_⟩⟩
    have s5 := same_upd (o := .tup [.ref p, r2, v2, r3]) nz
    have s45 := s4.trans s5
    exact q _ _ (s1.trans (s2.trans (s3.trans s45))) (dpS_mk (s := tipS t 2) (SqT.of upd_same) (dpT_mk (t := (t.1.2.2, t.1.2.1, t.1.1)) (SqT.of (s45 _ _ upd_same))) (Dp.same hr2 (s3.trans s45)) (Dp.same h2 (s1.trans (s2.trans (s3.trans s45)))) (Dp.same hr3 s5))
  · refine ⟨_, rfl, _, _, rfl, rfl, false, rfl, iteF ?_⟩
    refine ⟨_, rfl, _, rfl, _, _, rfl, rfl, (by show (0 : Int) < 2; decide), rfl, false, rfl, iteF ?_⟩
    refine ⟨_, rfl, _, rfl, _, rfl, v2, t.2.2.1, t.1.2.1, (-1), rfl, h2, i2, fun r1 H1 s1 hr1 => ?_⟩
    refine ⟨_, rfl, _, rfl, r1, _, _, _, rfl, hr1, i3, fun r2 H2 s2 hr2 => ?_⟩
    refine ⟨_, rfl, _, rfl, _, rfl, sz (by simp), fun p np => ?_⟩
    have s3 := same_upd (o := .tup [.int t.1.1, .int t.1.2.2, .int t.1.2.1]) np
    refine ⟨_, rfl, _, rfl, _, rfl, _, rfl, rfl, false, rfl, iteF ⟨_, rfl, ?_⟩⟩
    refine ⟨v3, t.2.2.2, t.1.2.2, rfl, Dp.same h3 (s1.trans (s2.trans s3)), i3, fun r3 H3 s4 hr3 => ⟨sz (by simp), fun z nz => ?_⟩⟩
    have s5 := same_upd (o := .tup [.ref p, v1, r2, r3]) nz
    have s45 := s4.trans s5
    exact q _ _ (s1.trans (s2.trans (s3.trans s45))) (dpS_mk (s := tipS t 3) (SqT.of upd_same) (dpT_mk (t := (t.1.1, t.1.2.2, t.1.2.1)) (SqT.of (s45 _ _ upd_same))) (Dp.same h1 (s1.trans (s2.trans (s3.trans s45)))) (Dp.same hr2 (s3.trans s45)) (Dp.same hr3 s5))
def sp_law_turn (K : PySem.W.Frag) : Sp := fun vs H Q _ => ∃ (v : V) (t : Stand) (y z : Int), vs = [v, .int y, .int z] ∧ Dp K H v (dS t) ∧ t.1 ∈ ring ∧ (0 ≤ y ∧ y ≤ 3) ∧ (z = 1 ∨ z = -1) ∧ ∀ r H', Same H H' → Dp K H' r (dS (turnS t y z)) → Q r H'
theorem c_law_turn (T : Txt K mg) (D : DefOk K mg "_law_turn" s__law_turn) (C__law_plus : Cl P w K mg base 1 "_law_plus" P__law_plus (sp_law_plus K)) (C__law_flip : Cl P w K mg base 1 "_law_flip" P__law_flip (sp_law_flip K)) : Cl P w K mg base 2 "_law_turn" P__law_turn (sp_law_turn K) := by
  refine cl_of D (fun _ _ _ _ _ _ us hl => match us, hl with | [_, _, _], _ => rfl) sc__law_turn (fun vs H Q E h => ?_) (fun f cdv A outer s H vs Q E hr h => ?_)
  · obtain ⟨v, t, y, z, rfl, _⟩ := h
    rfl
  obtain ⟨v, t, y, z, rfl, hv, ht, hy, hz, q⟩ := h
  obtain ⟨a, v0, v1, v2, v3, rfl, hs, h0, h1, h2, h3⟩ := dpS_inv hv
  obtain ⟨a0, rfl, g0⟩ := dpT_inv h0
  obtain ⟨i1, i2, i3⟩ := ix_of ht
  refine ⟨_, (pss_cons (ps_asg (pv 0) (pg_tup rfl (pgs_cons (pg_name (i := 3) sc__law_turn.nd rfl (.inl rfl)) (pgs_cons (pg_name (i := 4) sc__law_turn.nd rfl (.inl rfl)) (pgs_cons (pg_name (i := 5) sc__law_turn.nd rfl (.inl rfl)) (pgs_cons (pg_name (i := 6) sc__law_turn.nd rfl (.inl rfl)) pgs_nil))))))
    (pss_cons (ps_asg (pv 3) (pg_tup rfl (pgs_cons (pg_name (i := 7) sc__law_turn.nd rfl (.inl rfl)) (pgs_cons (pg_name (i := 8) sc__law_turn.nd rfl (.inl rfl)) (pgs_cons (pg_name (i := 9) sc__law_turn.nd rfl (.inl rfl)) pgs_nil)))))
    (pss_cons (ps_set (i := 10) sc__law_turn.nd rfl (.inl rfl) (pe_ifExp (pt_cmpR (r := rIn K false) op_in_seq (pv 1) (pe_tup (pa_cons pe_int (pa_cons pe_int pa_nil))) rfl) pe_int (pe_un un_neg pe_int)))
    (pss_cons (ps_set (i := 11) sc__law_turn.nd rfl (.inl rfl) (pe_ifExp (pt_cmpR (r := rIn K false) op_in_seq (pv 1) (pe_tup (pa_cons pe_int (pa_cons pe_int pa_nil))) rfl) pe_int (pe_un un_neg pe_int)))
    (pss_cons (ps_set (i := 4) sc__law_turn.nd rfl (.inl rfl) (pe_cl C__law_plus hr (by omega) (by rfl) (pa_cons (pe_cl C__law_plus hr (by omega) (by rfl) (pa_cons (pv 4) (pa_cons (pv 7) (pa_cons (pv 10) pa_nil)))) (pa_cons (pv 8) (pa_cons (pe_op op_mul (pv 11) (pv 2)) pa_nil)))))
    (pss_cons (ps_set (i := 5) sc__law_turn.nd rfl (.inl rfl) (pe_cl C__law_plus hr (by omega) (by rfl) (pa_cons (pe_cl C__law_plus hr (by omega) (by rfl) (pa_cons (pv 5) (pa_cons (pv 8) (pa_cons (pv 11) pa_nil)))) (pa_cons (pv 7) (pa_cons (pe_op op_mul (pe_un un_neg (pv 10)) (pv 2)) pa_nil)))))
    (pss_one (ps_ret (pe_tup (pa_cons (pe_tup (pa_cons (pv 8) (pa_cons (pv 7) (pa_cons (pv 9) pa_nil)))) (pa_cons (pv 4) (pa_cons (pv 5) (pa_cons (pe_cl C__law_flip hr (by omega) (by rfl) (pa_cons (pv 6) (pa_cons (pe_ifExp (pt_cmpR op_eq (pv 2) pe_int (nomark _)) (pv 8) (pv 7)) pa_nil))) pa_nil))))))))))))), ?_⟩
  refine ⟨_, rfl, a, _, rfl, hs, rfl, _, _, rfl, _, _, rfl, _, _, rfl, _, _, rfl, rfl, ?_⟩
  refine ⟨_, rfl, a0, _, rfl, g0, rfl, _, _, rfl, _, _, rfl, _, _, rfl, rfl, ?_⟩
  refine st_of (σ' := [some (.ref a), some (.int y), some (.int z), some (.ref a0), some v1, some v2, some v3, some (.int t.1.1), some (.int t.1.2.1), some (.int t.1.2.2), none, none]) rfl ?_
  have hc : y = 0 ∨ y = 1 ∨ y = 2 ∨ y = 3 := by omega
  rcases hz with rfl | rfl
  · rcases hc with rfl | rfl | rfl | rfl
    · refine ⟨_, rfl, sz (by simp), fun p1 n1 => ⟨p1, _, rfl, .inr (SqT.of upd_same), rfl, rfl, false, rfl, iteF ?_⟩⟩
      have s1 := same_upd (o := .tup [.int 1, .int 2]) n1
      refine ⟨_, rfl, _, rfl, sz (by simp), fun p2 n2 => ⟨p2, _, rfl, .inr (SqT.of upd_same), rfl, rfl, false, rfl, iteF ?_⟩⟩
      have s2 := s1.trans (same_upd (o := .tup [.int 2, .int 3]) n2)
      refine ⟨_, rfl, ?_⟩
      refine st_of (σ' := [some (.ref a), some (.int 0), some (.int 1), some (.ref a0), some v1, some v2, some v3, some (.int t.1.1), some (.int t.1.2.1), some (.int t.1.2.2), some (.int (-1)), some (.int (-1))]) rfl ?_
      refine ⟨_, rfl, _, rfl, _, rfl, v1, t.2.1, t.1.1, (-1), rfl, Dp.same h1 s2, i1, fun r1 H1 s3 hr1 => ?_⟩
      refine ⟨_, rfl, _, rfl, _, rfl, (-1), 1, rfl, rfl, .inr (by decide), r1, _, _, _, rfl, hr1, i2, fun r2 H2 s4 hr2 => ?_⟩
      have s24 := s2.trans (s3.trans s4)
      refine ⟨_, rfl, _, rfl, _, rfl, v2, t.2.2.1, t.1.2.1, (-1), rfl, Dp.same h2 s24, i2, fun r3 H3 s5 hr3 => ?_⟩
      refine ⟨_, rfl, _, rfl, _, rfl, _, rfl, _, 1, rfl, rfl, .inr (by decide), r3, _, _, _, rfl, hr3, i1, fun r4 H4 s6 hr4 => ?_⟩
      have s56 := s5.trans s6
      refine ⟨_, rfl, _, rfl, _, rfl, sz (by simp), fun p np => ?_⟩
      have s7 := same_upd (o := .tup [.int t.1.2.1, .int t.1.1, .int t.1.2.2]) np
      refine ⟨_, rfl, _, rfl, _, rfl, _, rfl, rfl, true, rfl, iteT ⟨_, rfl, ?_⟩⟩
      refine ⟨v3, t.2.2.2, t.1.2.1, rfl, Dp.same h3 (s24.trans (s56.trans s7)), i2, fun r5 H5 s8 hr5 => ⟨sz (by simp), fun x nx => ?_⟩⟩
      have s9 := same_upd (o := .tup [.ref p, r2, r4, r5]) nx
      have s89 := s8.trans s9
      exact q _ _ (s24.trans (s56.trans (s7.trans s89))) (dpS_mk (s := turnS t 0 1) (SqT.of upd_same) (dpT_mk (t := (t.1.2.1, t.1.1, t.1.2.2)) (SqT.of (s89 _ _ upd_same))) (Dp.same hr2 (s56.trans (s7.trans s89))) (Dp.same hr4 (s7.trans s89)) (Dp.same hr5 s9))
    · refine ⟨_, rfl, sz (by simp), fun p1 n1 => ⟨p1, _, rfl, .inr (SqT.of upd_same), rfl, rfl, true, rfl, iteT ?_⟩⟩
      have s1 := same_upd (o := .tup [.int 1, .int 2]) n1
      refine ⟨_, rfl, sz (by simp), fun p2 n2 => ⟨p2, _, rfl, .inr (SqT.of upd_same), rfl, rfl, false, rfl, iteF ?_⟩⟩
      have s2 := s1.trans (same_upd (o := .tup [.int 2, .int 3]) n2)
      refine ⟨_, rfl, ?_⟩
      refine st_of (σ' := [some (.ref a), some (.int 1), some (.int 1), some (.ref a0), some v1, some v2, some v3, some (.int t.1.1), some (.int t.1.2.1), some (.int t.1.2.2), some (.int 1), some (.int (-1))]) rfl ?_
      refine ⟨_, rfl, _, rfl, _, rfl, v1, t.2.1, t.1.1, 1, rfl, Dp.same h1 s2, i1, fun r1 H1 s3 hr1 => ?_⟩
      refine ⟨_, rfl, _, rfl, _, rfl, (-1), 1, rfl, rfl, .inr (by decide), r1, _, _, _, rfl, hr1, i2, fun r2 H2 s4 hr2 => ?_⟩
      have s24 := s2.trans (s3.trans s4)
      refine ⟨_, rfl, _, rfl, _, rfl, v2, t.2.2.1, t.1.2.1, (-1), rfl, Dp.same h2 s24, i2, fun r3 H3 s5 hr3 => ?_⟩
      refine ⟨_, rfl, _, rfl, _, rfl, _, rfl, _, 1, rfl, rfl, .inr (by decide), r3, _, _, _, rfl, hr3, i1, fun r4 H4 s6 hr4 => ?_⟩
      have s56 := s5.trans s6
      refine ⟨_, rfl, _, rfl, _, rfl, sz (by simp), fun p np => ?_⟩
      have s7 := same_upd (o := .tup [.int t.1.2.1, .int t.1.1, .int t.1.2.2]) np
      refine ⟨_, rfl, _, rfl, _, rfl, _, rfl, rfl, true, rfl, iteT ⟨_, rfl, ?_⟩⟩
      refine ⟨v3, t.2.2.2, t.1.2.1, rfl, Dp.same h3 (s24.trans (s56.trans s7)), i2, fun r5 H5 s8 hr5 => ⟨sz (by simp), fun x nx => ?_⟩⟩
      have s9 := same_upd (o := .tup [.ref p, r2, r4, r5]) nx
      have s89 := s8.trans s9
      exact q _ _ (s24.trans (s56.trans (s7.trans s89))) (dpS_mk (s := turnS t 1 1) (SqT.of upd_same) (dpT_mk (t := (t.1.2.1, t.1.1, t.1.2.2)) (SqT.of (s89 _ _ upd_same))) (Dp.same hr2 (s56.trans (s7.trans s89))) (Dp.same hr4 (s7.trans s89)) (Dp.same hr5 s9))
    · refine ⟨_, rfl, sz (by simp), fun p1 n1 => ⟨p1, _, rfl, .inr (SqT.of upd_same), rfl, rfl, true, rfl, iteT ?_⟩⟩
      have s1 := same_upd (o := .tup [.int 1, .int 2]) n1
      refine ⟨_, rfl, sz (by simp), fun p2 n2 => ⟨p2, _, rfl, .inr (SqT.of upd_same), rfl, rfl, true, rfl, iteT ?_⟩⟩
      have s2 := s1.trans (same_upd (o := .tup [.int 2, .int 3]) n2)
      dsimp only [tC, gName]
      refine st_of (σ' := [some (.ref a), some (.int 2), some (.int 1), some (.ref a0), some v1, some v2, some v3, some (.int t.1.1), some (.int t.1.2.1), some (.int t.1.2.2), some (.int 1), some (.int 1)]) rfl ?_
      refine ⟨_, rfl, _, rfl, _, rfl, v1, t.2.1, t.1.1, 1, rfl, Dp.same h1 s2, i1, fun r1 H1 s3 hr1 => ?_⟩
      refine ⟨_, rfl, _, rfl, _, rfl, 1, 1, rfl, rfl, .inr (by decide), r1, _, _, _, rfl, hr1, i2, fun r2 H2 s4 hr2 => ?_⟩
      have s24 := s2.trans (s3.trans s4)
      refine ⟨_, rfl, _, rfl, _, rfl, v2, t.2.2.1, t.1.2.1, 1, rfl, Dp.same h2 s24, i2, fun r3 H3 s5 hr3 => ?_⟩
      refine ⟨_, rfl, _, rfl, _, rfl, _, rfl, _, 1, rfl, rfl, .inr (by decide), r3, _, _, _, rfl, hr3, i1, fun r4 H4 s6 hr4 => ?_⟩
      have s56 := s5.trans s6
      refine ⟨_, rfl, _, rfl, _, rfl, sz (by simp), fun p np => ?_⟩
      have s7 := same_upd (o := .tup [.int t.1.2.1, .int t.1.1, .int t.1.2.2]) np
      refine ⟨_, rfl, _, rfl, _, rfl, _, rfl, rfl, true, rfl, iteT ⟨_, rfl, ?_⟩⟩
      refine ⟨v3, t.2.2.2, t.1.2.1, rfl, Dp.same h3 (s24.trans (s56.trans s7)), i2, fun r5 H5 s8 hr5 => ⟨sz (by simp), fun x nx => ?_⟩⟩
      have s9 := same_upd (o := .tup [.ref p, r2, r4, r5]) nx
      have s89 := s8.trans s9
      exact q _ _ (s24.trans (s56.trans (s7.trans s89))) (dpS_mk (s := turnS t 2 1) (SqT.of upd_same) (dpT_mk (t := (t.1.2.1, t.1.1, t.1.2.2)) (SqT.of (s89 _ _ upd_same))) (Dp.same hr2 (s56.trans (s7.trans s89))) (Dp.same hr4 (s7.trans s89)) (Dp.same hr5 s9))
    · refine ⟨_, rfl, sz (by simp), fun p1 n1 => ⟨p1, _, rfl, .inr (SqT.of upd_same), rfl, rfl, false, rfl, iteF ?_⟩⟩
      have s1 := same_upd (o := .tup [.int 1, .int 2]) n1
      refine ⟨_, rfl, _, rfl, sz (by simp), fun p2 n2 => ⟨p2, _, rfl, .inr (SqT.of upd_same), rfl, rfl, true, rfl, iteT ?_⟩⟩
      have s2 := s1.trans (same_upd (o := .tup [.int 2, .int 3]) n2)
      dsimp only [tC, gName]
      refine st_of (σ' := [some (.ref a), some (.int 3), some (.int 1), some (.ref a0), some v1, some v2, some v3, some (.int t.1.1), some (.int t.1.2.1), some (.int t.1.2.2), some (.int (-1)), some (.int 1)]) rfl ?_
      refine ⟨_, rfl, _, rfl, _, rfl, v1, t.2.1, t.1.1, (-1), rfl, Dp.same h1 s2, i1, fun r1 H1 s3 hr1 => ?_⟩
      refine ⟨_, rfl, _, rfl, _, rfl, 1, 1, rfl, rfl, .inr (by decide), r1, _, _, _, rfl, hr1, i2, fun r2 H2 s4 hr2 => ?_⟩
      have s24 := s2.trans (s3.trans s4)
      refine ⟨_, rfl, _, rfl, _, rfl, v2, t.2.2.1, t.1.2.1, 1, rfl, Dp.same h2 s24, i2, fun r3 H3 s5 hr3 => ?_⟩
      refine ⟨_, rfl, _, rfl, _, rfl, _, rfl, _, 1, rfl, rfl, .inr (by decide), r3, _, _, _, rfl, hr3, i1, fun r4 H4 s6 hr4 => ?_⟩
      have s56 := s5.trans s6
      refine ⟨_, rfl, _, rfl, _, rfl, sz (by simp), fun p np => ?_⟩
      have s7 := same_upd (o := .tup [.int t.1.2.1, .int t.1.1, .int t.1.2.2]) np
      refine ⟨_, rfl, _, rfl, _, rfl, _, rfl, rfl, true, rfl, iteT ⟨_, rfl, ?_⟩⟩
      refine ⟨v3, t.2.2.2, t.1.2.1, rfl, Dp.same h3 (s24.trans (s56.trans s7)), i2, fun r5 H5 s8 hr5 => ⟨sz (by simp), fun x nx => ?_⟩⟩
      have s9 := same_upd (o := .tup [.ref p, r2, r4, r5]) nx
      have s89 := s8.trans s9
      exact q _ _ (s24.trans (s56.trans (s7.trans s89))) (dpS_mk (s := turnS t 3 1) (SqT.of upd_same) (dpT_mk (t := (t.1.2.1, t.1.1, t.1.2.2)) (SqT.of (s89 _ _ upd_same))) (Dp.same hr2 (s56.trans (s7.trans s89))) (Dp.same hr4 (s7.trans s89)) (Dp.same hr5 s9))
  · rcases hc with rfl | rfl | rfl | rfl
    · refine ⟨_, rfl, sz (by simp), fun p1 n1 => ⟨p1, _, rfl, .inr (SqT.of upd_same), rfl, rfl, false, rfl, iteF ?_⟩⟩
      have s1 := same_upd (o := .tup [.int 1, .int 2]) n1
      refine ⟨_, rfl, _, rfl, sz (by simp), fun p2 n2 => ⟨p2, _, rfl, .inr (SqT.of upd_same), rfl, rfl, false, rfl, iteF ?_⟩⟩
      have s2 := s1.trans (same_upd (o := .tup [.int 2, .int 3]) n2)
      refine ⟨_, rfl, ?_⟩
      refine st_of (σ' := [some (.ref a), some (.int 0), some (.int (-1)), some (.ref a0), some v1, some v2, some v3, some (.int t.1.1), some (.int t.1.2.1), some (.int t.1.2.2), some (.int (-1)), some (.int (-1))]) rfl ?_
      refine ⟨_, rfl, _, rfl, _, rfl, v1, t.2.1, t.1.1, (-1), rfl, Dp.same h1 s2, i1, fun r1 H1 s3 hr1 => ?_⟩
      refine ⟨_, rfl, _, rfl, _, rfl, (-1), (-1), rfl, rfl, .inr (by decide), r1, _, _, _, rfl, hr1, i2, fun r2 H2 s4 hr2 => ?_⟩
      have s24 := s2.trans (s3.trans s4)
      refine ⟨_, rfl, _, rfl, _, rfl, v2, t.2.2.1, t.1.2.1, (-1), rfl, Dp.same h2 s24, i2, fun r3 H3 s5 hr3 => ?_⟩
      refine ⟨_, rfl, _, rfl, _, rfl, _, rfl, _, (-1), rfl, rfl, .inr (by decide), r3, _, _, _, rfl, hr3, i1, fun r4 H4 s6 hr4 => ?_⟩
      have s56 := s5.trans s6
      refine ⟨_, rfl, _, rfl, _, rfl, sz (by simp), fun p np => ?_⟩
      have s7 := same_upd (o := .tup [.int t.1.2.1, .int t.1.1, .int t.1.2.2]) np
      refine ⟨_, rfl, _, rfl, _, rfl, _, rfl, rfl, false, rfl, iteF ⟨_, rfl, ?_⟩⟩
      refine ⟨v3, t.2.2.2, t.1.1, rfl, Dp.same h3 (s24.trans (s56.trans s7)), i1, fun r5 H5 s8 hr5 => ⟨sz (by simp), fun x nx => ?_⟩⟩
      have s9 := same_upd (o := .tup [.ref p, r2, r4, r5]) nx
      have s89 := s8.trans s9
      exact q _ _ (s24.trans (s56.trans (s7.trans s89))) (dpS_mk (s := turnS t 0 (-1)) (SqT.of upd_same) (dpT_mk (t := (t.1.2.1, t.1.1, t.1.2.2)) (SqT.of (s89 _ _ upd_same))) (Dp.same hr2 (s56.trans (s7.trans s89))) (Dp.same hr4 (s7.trans s89)) (Dp.same hr5 s9))
    · refine ⟨_, rfl, sz (by simp), fun p1 n1 => ⟨p1, _, rfl, .inr (SqT.of upd_same), rfl, rfl, true, rfl, iteT ?_⟩⟩
      have s1 := same_upd (o := .tup [.int 1, .int 2]) n1
      refine ⟨_, rfl, sz (by simp), fun p2 n2 => ⟨p2, _, rfl, .inr (SqT.of upd_same), rfl, rfl, false, rfl, iteF ?_⟩⟩
      have s2 := s1.trans (same_upd (o := .tup [.int 2, .int 3]) n2)
      refine ⟨_, rfl, ?_⟩
      refine st_of (σ' := [some (.ref a), some (.int 1), some (.int (-1)), some (.ref a0), some v1, some v2, some v3, some (.int t.1.1), some (.int t.1.2.1), some (.int t.1.2.2), some (.int 1), some (.int (-1))]) rfl ?_
      refine ⟨_, rfl, _, rfl, _, rfl, v1, t.2.1, t.1.1, 1, rfl, Dp.same h1 s2, i1, fun r1 H1 s3 hr1 => ?_⟩
      refine ⟨_, rfl, _, rfl, _, rfl, (-1), (-1), rfl, rfl, .inr (by decide), r1, _, _, _, rfl, hr1, i2, fun r2 H2 s4 hr2 => ?_⟩
      have s24 := s2.trans (s3.trans s4)
      refine ⟨_, rfl, _, rfl, _, rfl, v2, t.2.2.1, t.1.2.1, (-1), rfl, Dp.same h2 s24, i2, fun r3 H3 s5 hr3 => ?_⟩
      refine ⟨_, rfl, _, rfl, _, rfl, _, rfl, _, (-1), rfl, rfl, .inr (by decide), r3, _, _, _, rfl, hr3, i1, fun r4 H4 s6 hr4 => ?_⟩
      have s56 := s5.trans s6
      refine ⟨_, rfl, _, rfl, _, rfl, sz (by simp), fun p np => ?_⟩
      have s7 := same_upd (o := .tup [.int t.1.2.1, .int t.1.1, .int t.1.2.2]) np
      refine ⟨_, rfl, _, rfl, _, rfl, _, rfl, rfl, false, rfl, iteF ⟨_, rfl, ?_⟩⟩
      refine ⟨v3, t.2.2.2, t.1.1, rfl, Dp.same h3 (s24.trans (s56.trans s7)), i1, fun r5 H5 s8 hr5 => ⟨sz (by simp), fun x nx => ?_⟩⟩
      have s9 := same_upd (o := .tup [.ref p, r2, r4, r5]) nx
      have s89 := s8.trans s9
      exact q _ _ (s24.trans (s56.trans (s7.trans s89))) (dpS_mk (s := turnS t 1 (-1)) (SqT.of upd_same) (dpT_mk (t := (t.1.2.1, t.1.1, t.1.2.2)) (SqT.of (s89 _ _ upd_same))) (Dp.same hr2 (s56.trans (s7.trans s89))) (Dp.same hr4 (s7.trans s89)) (Dp.same hr5 s9))
    · refine ⟨_, rfl, sz (by simp), fun p1 n1 => ⟨p1, _, rfl, .inr (SqT.of upd_same), rfl, rfl, true, rfl, iteT ?_⟩⟩
      have s1 := same_upd (o := .tup [.int 1, .int 2]) n1
      refine ⟨_, rfl, sz (by simp), fun p2 n2 => ⟨p2, _, rfl, .inr (SqT.of upd_same), rfl, rfl, true, rfl, iteT ?_⟩⟩
      have s2 := s1.trans (same_upd (o := .tup [.int 2, .int 3]) n2)
      dsimp only [tC, gName]
      refine st_of (σ' := [some (.ref a), some (.int 2), some (.int (-1)), some (.ref a0), some v1, some v2, some v3, some (.int t.1.1), some (.int t.1.2.1), some (.int t.1.2.2), some (.int 1), some (.int 1)]) rfl ?_
      refine ⟨_, rfl, _, rfl, _, rfl, v1, t.2.1, t.1.1, 1, rfl, Dp.same h1 s2, i1, fun r1 H1 s3 hr1 => ?_⟩
      refine ⟨_, rfl, _, rfl, _, rfl, 1, (-1), rfl, rfl, .inr (by decide), r1, _, _, _, rfl, hr1, i2, fun r2 H2 s4 hr2 => ?_⟩
      have s24 := s2.trans (s3.trans s4)
      refine ⟨_, rfl, _, rfl, _, rfl, v2, t.2.2.1, t.1.2.1, 1, rfl, Dp.same h2 s24, i2, fun r3 H3 s5 hr3 => ?_⟩
      refine ⟨_, rfl, _, rfl, _, rfl, _, rfl, _, (-1), rfl, rfl, .inr (by decide), r3, _, _, _, rfl, hr3, i1, fun r4 H4 s6 hr4 => ?_⟩
      have s56 := s5.trans s6
      refine ⟨_, rfl, _, rfl, _, rfl, sz (by simp), fun p np => ?_⟩
      have s7 := same_upd (o := .tup [.int t.1.2.1, .int t.1.1, .int t.1.2.2]) np
      refine ⟨_, rfl, _, rfl, _, rfl, _, rfl, rfl, false, rfl, iteF ⟨_, rfl, ?_⟩⟩
      refine ⟨v3, t.2.2.2, t.1.1, rfl, Dp.same h3 (s24.trans (s56.trans s7)), i1, fun r5 H5 s8 hr5 => ⟨sz (by simp), fun x nx => ?_⟩⟩
      have s9 := same_upd (o := .tup [.ref p, r2, r4, r5]) nx
      have s89 := s8.trans s9
      exact q _ _ (s24.trans (s56.trans (s7.trans s89))) (dpS_mk (s := turnS t 2 (-1)) (SqT.of upd_same) (dpT_mk (t := (t.1.2.1, t.1.1, t.1.2.2)) (SqT.of (s89 _ _ upd_same))) (Dp.same hr2 (s56.trans (s7.trans s89))) (Dp.same hr4 (s7.trans s89)) (Dp.same hr5 s9))
    · refine ⟨_, rfl, sz (by simp), fun p1 n1 => ⟨p1, _, rfl, .inr (SqT.of upd_same), rfl, rfl, false, rfl, iteF ?_⟩⟩
      have s1 := same_upd (o := .tup [.int 1, .int 2]) n1
      refine ⟨_, rfl, _, rfl, sz (by simp), fun p2 n2 => ⟨p2, _, rfl, .inr (SqT.of upd_same), rfl, rfl, true, rfl, iteT ?_⟩⟩
      have s2 := s1.trans (same_upd (o := .tup [.int 2, .int 3]) n2)
      dsimp only [tC, gName]
      refine st_of (σ' := [some (.ref a), some (.int 3), some (.int (-1)), some (.ref a0), some v1, some v2, some v3, some (.int t.1.1), some (.int t.1.2.1), some (.int t.1.2.2), some (.int (-1)), some (.int 1)]) rfl ?_
      refine ⟨_, rfl, _, rfl, _, rfl, v1, t.2.1, t.1.1, (-1), rfl, Dp.same h1 s2, i1, fun r1 H1 s3 hr1 => ?_⟩
      refine ⟨_, rfl, _, rfl, _, rfl, 1, (-1), rfl, rfl, .inr (by decide), r1, _, _, _, rfl, hr1, i2, fun r2 H2 s4 hr2 => ?_⟩
      have s24 := s2.trans (s3.trans s4)
      refine ⟨_, rfl, _, rfl, _, rfl, v2, t.2.2.1, t.1.2.1, 1, rfl, Dp.same h2 s24, i2, fun r3 H3 s5 hr3 => ?_⟩
      refine ⟨_, rfl, _, rfl, _, rfl, _, rfl, _, (-1), rfl, rfl, .inr (by decide), r3, _, _, _, rfl, hr3, i1, fun r4 H4 s6 hr4 => ?_⟩
      have s56 := s5.trans s6
      refine ⟨_, rfl, _, rfl, _, rfl, sz (by simp), fun p np => ?_⟩
      have s7 := same_upd (o := .tup [.int t.1.2.1, .int t.1.1, .int t.1.2.2]) np
      refine ⟨_, rfl, _, rfl, _, rfl, _, rfl, rfl, false, rfl, iteF ⟨_, rfl, ?_⟩⟩
      refine ⟨v3, t.2.2.2, t.1.1, rfl, Dp.same h3 (s24.trans (s56.trans s7)), i1, fun r5 H5 s8 hr5 => ⟨sz (by simp), fun x nx => ?_⟩⟩
      have s9 := same_upd (o := .tup [.ref p, r2, r4, r5]) nx
      have s89 := s8.trans s9
      exact q _ _ (s24.trans (s56.trans (s7.trans s89))) (dpS_mk (s := turnS t 3 (-1)) (SqT.of upd_same) (dpT_mk (t := (t.1.2.1, t.1.1, t.1.2.2)) (SqT.of (s89 _ _ upd_same))) (Dp.same hr2 (s56.trans (s7.trans s89))) (Dp.same hr4 (s7.trans s89)) (Dp.same hr5 s9))
end
end Mv
end

section
set_option Elab.async false
set_option linter.all false
set_option maxRecDepth 100000
set_option maxHeartbeats 8000000
/-! MvE10: _law_step .. _law_walk. -/
namespace Mv
open PySem PySem.Spec PyProof.Rows L2 RZ
def dM : Move → PyData
  | .inl y => .tuple [.str (Str.ofString "tip"), .int y]
  | .inr (y, z) => .tuple [.str (Str.ofString "turn"), .int y, .int z]
def tips4 : List Move := [.inl 0, .inl 1, .inl 2, .inl 3]
def turnsP : List Move := [.inr (0, 1), .inr (1, 1), .inr (2, 1), .inr (3, 1)]
def turnsN : List Move := [.inr (0, -1), .inr (1, -1), .inr (2, -1), .inr (3, -1)]
theorem tips_ok : ∀ m ∈ tips4, ∃ y : Int, m = .inl y ∧ 0 ≤ y ∧ y ≤ 3 := by
  intro m hm
  simp only [tips4, List.mem_cons, List.not_mem_nil, or_false] at hm
  rcases hm with rfl | rfl | rfl | rfl <;> exact ⟨_, rfl, by decide, by decide⟩
theorem moves_ok : ∀ m ∈ tips4 ++ (turnsP ++ turnsN), MoveOk m := by
  intro m hm
  simp only [tips4, turnsP, turnsN, List.cons_append, List.nil_append, List.mem_cons, List.not_mem_nil, or_false] at hm
  rcases hm with rfl | rfl | rfl | rfl | rfl | rfl | rfl | rfl | rfl | rfl | rfl | rfl
  · exact ⟨by decide, by decide⟩
  · exact ⟨by decide, by decide⟩
  · exact ⟨by decide, by decide⟩
  · exact ⟨by decide, by decide⟩
  all_goals exact ⟨⟨by decide, by decide⟩, by decide⟩
section
variable {P : Program} {w : World} {K : PySem.W.Frag} {mg : Str → Option Value} {base : Heap}
theorem dpAll_app {H : Hp} {es : List PyData} {us : List V} (h2 : DpAll K H us es) : ∀ {ds : List PyData} {vs : List V}, DpAll K H vs ds → DpAll K H (vs ++ us) (ds ++ es)
  | [], _, h => by cases h; exact h2
  | d :: ds, _, h => by
    cases h with
    | cons h1 h3 => exact .cons h1 (dpAll_app h2 h3)
theorem dp_str_inv {H : Hp} {v : V} {x : Str} (h : Dp K H v (.str x)) : v = .str x := by cases h; rfl
theorem dpM_inl {H : Hp} {v : V} {y : Int} (h : Dp K H v (dM (.inl y))) : ∃ a, v = .ref a ∧ SqT K H a [.str (Str.ofString "tip"), .int y] := by
  obtain ⟨a, xs, rfl, hs, ha⟩ := dp_tup_inv h
  cases ha with
  | cons h1 h2 => cases h2 with
    | cons h2 h3 =>
      cases h3
      cases dp_str_inv h1
      cases dp_int_inv h2
      exact ⟨a, rfl, hs⟩
theorem dpM_inr {H : Hp} {v : V} {y z : Int} (h : Dp K H v (dM (.inr (y, z)))) : ∃ a, v = .ref a ∧ SqT K H a [.str (Str.ofString "turn"), .int y, .int z] := by
  obtain ⟨a, xs, rfl, hs, ha⟩ := dp_tup_inv h
  cases ha with
  | cons h1 h2 => cases h2 with
    | cons h2 h3 => cases h3 with
      | cons h3 h4 =>
        cases h4
        cases dp_str_inv h1
        cases dp_int_inv h2
        cases dp_int_inv h3
        exact ⟨a, rfl, hs⟩
theorem dpM_n {H H' : Hp} {v : V} {m : Move} (h : Dp K H v (dM m)) (e : SameN H H') : Dp K H' v (dM m) := by
  cases m with
  | inl y =>
    obtain ⟨a, rfl, hs⟩ := dpM_inl h
    exact .tup (e.sqT hs) (.cons (.str _) (.cons (.int _) .nil))
  | inr p =>
    obtain ⟨y, z⟩ := p
    obtain ⟨a, rfl, hs⟩ := dpM_inr h
    exact .tup (e.sqT hs) (.cons (.str _) (.cons (.int _) (.cons (.int _) .nil)))
def sp_law_step (K : PySem.W.Frag) : Sp := fun vs H Q _ => ∃ (v u : V) (t : Stand) (m : Move), vs = [v, u] ∧ Dp K H v (dS t) ∧ Dp K H u (dM m) ∧ t.1 ∈ ring ∧ MoveOk m ∧ ∀ r H', Same H H' → Dp K H' r (dS (stepS t m)) → Q r H'
theorem c_law_step (T : Txt K mg) (D : DefOk K mg "_law_step" s__law_step) (C__law_tip : Cl P w K mg base 2 "_law_tip" P__law_tip (sp_law_tip K)) (C__law_turn : Cl P w K mg base 2 "_law_turn" P__law_turn (sp_law_turn K)) : Cl P w K mg base 3 "_law_step" P__law_step (sp_law_step K) := by
  refine cl_of D (fun _ _ _ _ _ _ us hl => match us, hl with | [_, _], _ => rfl) sc__law_step (fun vs H Q E h => ?_) (fun f cdv A outer s H vs Q E hr h => ?_)
  · obtain ⟨v, u, t, m, rfl, _⟩ := h
    rfl
  obtain ⟨v, u, t, m, rfl, hv, hu, ht, hm, q⟩ := h
  refine ⟨_, (pss_one (ps_ret (pe_ifExp (pt_cmpR op_eq (pe_ix (r := rIxT K) ix_tup (pv 1) pe_int (fun _ _ => rfl)) pe_str (nomark _)) (pe_cl C__law_tip hr (by omega) (by rfl) (pa_cons (pv 0) (pa_cons (pe_ix (r := rIxT K) ix_tup (pv 1) pe_int (fun _ _ => rfl)) pa_nil))) (pe_cl C__law_turn hr (by omega) (by rfl) (pa_cons (pv 0) (pa_cons (pe_ix (r := rIxT K) ix_tup (pv 1) pe_int (fun _ _ => rfl)) (pa_cons (pe_ix (r := rIxT K) ix_tup (pv 1) pe_int (fun _ _ => rfl)) pa_nil))))))), ?_⟩
  cases m with
  | inl y =>
    obtain ⟨a, rfl, hs⟩ := dpM_inl hu
    refine ⟨_, rfl, a, _, 0, _, rfl, rfl, hs, rfl, rfl, true, ?_, iteT ?_⟩
    · rw [decide_eq_true rfl]
    exact ⟨_, rfl, _, rfl, a, _, 1, _, rfl, rfl, hs, rfl, v, t, y, rfl, hv, ht, hm, q⟩
  | inr p =>
    obtain ⟨y, z⟩ := p
    obtain ⟨a, rfl, hs⟩ := dpM_inr hu
    refine ⟨_, rfl, a, _, 0, _, rfl, rfl, hs, rfl, rfl, false, ?_, iteF ?_⟩
    · rw [decide_eq_false]
      exact fun e => absurd (V.str.inj e) (by decide)
    exact ⟨_, rfl, _, rfl, a, _, 1, _, rfl, rfl, hs, rfl, _, rfl, a, _, 2, _, rfl, rfl, hs, rfl, v, t, y, z, rfl, hv, ht, hm.1, hm.2, q⟩
def sp_law_behind (K : PySem.W.Frag) : Sp := fun vs H Q _ => ∃ (v u : V) (t : Stand) (ms : List Move), vs = [v, u] ∧ Dp K H v (dS t) ∧ Dp K H u (.tuple (ms.map dM)) ∧ StOk t ∧ (∀ m ∈ ms, MoveOk m) ∧ ∀ r H', Same H H' → Dp K H' r (dS (walkS t ms)) → Q r H'
theorem walk_snoc (t : Stand) (ms : List Move) (m : Move) : walkS t (ms ++ [m]) = stepS (walkS t ms) m := by
  unfold walkS
  rw [List.foldl_append]
  rfl
theorem c_law_behind (T : Txt K mg) (D : DefOk K mg "_law_behind" s__law_behind) (C__law_step : Cl P w K mg base 3 "_law_step" P__law_step (sp_law_step K)) : Cl P w K mg base 4 "_law_behind" P__law_behind (sp_law_behind K) := by
  refine cl_of D (fun _ _ _ _ _ _ us hl => match us, hl with | [_, _], _ => rfl) sc__law_behind (fun vs H Q E h => ?_) (fun f cdv A outer s H vs Q E hr h => ?_)
  · obtain ⟨v, u, t, ms, rfl, _⟩ := h
    rfl
  obtain ⟨v, u, t, ms, rfl, hv, hu, ht, hm, q⟩ := h
  obtain ⟨a, xs, rfl, hs, ha⟩ := dp_tup_inv hu
  have lx := dpAll_len ha
  rw [List.length_map] at lx
  refine ⟨_, (pss_cons (ps_for PassesOwn.never rfl (pi_tup (pv 1)) (pg_name (i := 2) sc__law_behind.nd rfl (.inl rfl)) (pss_one (ps_set (i := 0) sc__law_behind.nd rfl (.inl rfl) (pe_cl C__law_step hr (by omega) (by rfl) (pa_cons (pv 0) (pa_cons (pv 2) pa_nil))))))
    (pss_one (ps_ret (pv 0)))), ?_⟩
  refine ⟨_, rfl, a, rfl, ⟨_, hs⟩, for_tup (K := K) (a := a) (xs := xs) (fun i σ H3 => ∃ vi y, σ = [some vi, some (.ref a), y] ∧ Same H H3 ∧ Dp K H3 vi (dS (walkS t (ms.take i))))
    ⟨v, none, rfl, fun _ _ z => z, hv⟩ (fun i σ H3 _ ⟨_, _, _, s3, _⟩ => same_sqT s3 hs) ?_ ?_⟩
  · rintro i x σ H3 hx ⟨vi, y, rfl, s3, hvi⟩
    obtain ⟨d, hd, dx⟩ := dpAll_at ha hx
    obtain ⟨m, hmi, rfl⟩ := at_map hd
    have et : ms.take (i + 1) = ms.take i ++ [m] := by rw [List.take_add_one, hmi]; rfl
    have ok : StOk (walkS t (ms.take i)) := walk_ok ht fun u hu => hm u (List.mem_of_mem_take hu)
    refine ⟨_, rfl, _, rfl, vi, x, _, m, rfl, hvi, Dp.same dx s3, ok.1, hm m (List.mem_of_getElem? hmi), fun r H4 s4 hr4 => ?_⟩
    refine ⟨r, _, rfl, s3.trans s4, ?_⟩
    rw [et, walk_snoc]
    exact hr4
  · rintro σ H3 ⟨vi, y, rfl, s3, hvi⟩
    rw [lx, List.take_length] at hvi
    exact ⟨_, rfl, q vi H3 s3 hvi⟩
def sp_moves (K : PySem.W.Frag) (ms : List Move) : Sp := fun vs H Q _ => vs = [] ∧ ∀ p H' xs, Same H H' → H p = none → H' p = some (.lst xs) → DpAll K H' xs (ms.map dM) → Q (.ref p) H'
theorem c_law_tips (T : Txt K mg) (D : DefOk K mg "_law_tips" s__law_tips) : Cl P w K mg base 1 "_law_tips" P__law_tips (sp_moves K tips4) := by
  refine cl_of D (fun _ _ _ _ _ _ us hl => match us, hl with | [], _ => rfl) sc__law_tips (fun vs H Q E h => ?_) (fun f cdv A outer s H vs Q E hr h => ?_)
  · obtain ⟨rfl, _⟩ := h
    rfl
  obtain ⟨rfl, q⟩ := h
  refine ⟨_, (pss_one (ps_ret (pe_lc (own := [("_law_k", 0)]) (by rfl) sc__law_tips.nd (pi_range1 (by rfl) T.z_range (pa_cons pe_int pa_nil)) (blkOk_by (N := N__law_tips) (sc := defScope s__law_tips) (by decide +kernel)) (fun _ _ _ _ _ => (pg_name (i := 0) sc__law_tips.nd rfl (.inl rfl))) (fun _ _ _ _ _ => pts_nil) (fun _ _ _ _ _ => (pe_tup (pa_cons pe_str (pa_cons (pv 0) pa_nil))))))), ?_⟩
  refine ⟨4, rfl, by decide, by decide, fun D nD => lc_range (lo := 0) (n := 4) (PvD K (fun _ => False) H D (tips4.map dM)) (pvd_0 nD) (fun i H5 hi p => ?_) (fun H5 p => ?_)⟩
  · refine ⟨rfl, ?_⟩
    refine ⟨_, rfl, sz (by simp), fun x nx => ?_⟩
    have hc : i = 0 ∨ i = 1 ∨ i = 2 ∨ i = 3 := by omega
    rcases hc with rfl | rfl | rfl | rfl
    all_goals exact pvd_next nD (fun z => z) p (same_upd nx) (by decide) rfl (.tup (SqT.of upd_same) (.cons (.str _) (.cons (.int _) .nil)))
  · obtain ⟨s5, acc, hD, ha⟩ := p
    exact q D H5 acc s5 nD hD ha.dp
theorem c_law_turns (T : Txt K mg) (D : DefOk K mg "_law_turns" s__law_turns) : Cl P w K mg base 1 "_law_turns" P__law_turns (sp_moves K (turnsP ++ turnsN)) := by
  refine cl_of D (fun _ _ _ _ _ _ us hl => match us, hl with | [], _ => rfl) sc__law_turns (fun vs H Q E h => ?_) (fun f cdv A outer s H vs Q E hr h => ?_)
  · obtain ⟨rfl, _⟩ := h
    rfl
  obtain ⟨rfl, q⟩ := h
  refine ⟨_, (pss_one (ps_ret (pe_op op_cat (pe_lc (own := [("_law_k", 0)]) (by rfl) sc__law_turns.nd (pi_range1 (by rfl) T.z_range (pa_cons pe_int pa_nil)) (blkOk_by (N := N__law_turns) (sc := defScope s__law_turns) (by decide +kernel)) (fun _ _ _ _ _ => (pg_name (i := 0) sc__law_turns.nd rfl (.inl rfl))) (fun _ _ _ _ _ => pts_nil) (fun _ _ _ _ _ => (pe_tup (pa_cons pe_str (pa_cons (pv 0) (pa_cons pe_int pa_nil)))))) (pe_lc (own := [("_law_k", 0)]) (by rfl) sc__law_turns.nd (pi_range1 (by rfl) T.z_range (pa_cons pe_int pa_nil)) (blkOk_by (N := N__law_turns) (sc := defScope s__law_turns) (by decide +kernel)) (fun _ _ _ _ _ => (pg_name (i := 0) sc__law_turns.nd rfl (.inl rfl))) (fun _ _ _ _ _ => pts_nil) (fun _ _ _ _ _ => (pe_tup (pa_cons pe_str (pa_cons (pv 0) (pa_cons (pe_un un_neg pe_int) pa_nil))))))))), ?_⟩
  refine ⟨4, rfl, by decide, by decide, fun D nD => lc_range (lo := 0) (n := 4) (PvD K (fun _ => False) H D (turnsP.map dM)) (pvd_0 nD) (fun i H5 hi p => ?_) (fun H5 p => ?_)⟩
  · refine ⟨rfl, ?_⟩
    refine ⟨_, rfl, sz (by simp), fun x nx => ?_⟩
    have hc : i = 0 ∨ i = 1 ∨ i = 2 ∨ i = 3 := by omega
    rcases hc with rfl | rfl | rfl | rfl
    all_goals exact pvd_next nD (fun z => z) p (same_upd nx) (by decide) rfl (.tup (SqT.of upd_same) (.cons (.str _) (.cons (.int _) (.cons (.int _) .nil))))
  obtain ⟨s5, acc, hD, ha⟩ := p
  refine ⟨4, rfl, by decide, by decide, fun D2 nD2 => lc_range (lo := 0) (n := 4) (PvD K (fun _ => False) H5 D2 (turnsN.map dM)) (pvd_0 nD2) (fun i H7 hi p => ?_) (fun H7 p => ?_)⟩
  · refine ⟨rfl, ?_⟩
    refine ⟨_, rfl, _, rfl, sz (by simp), fun x nx => ?_⟩
    have hc : i = 0 ∨ i = 1 ∨ i = 2 ∨ i = 3 := by omega
    rcases hc with rfl | rfl | rfl | rfl
    all_goals exact pvd_next nD2 (fun z => z) p (same_upd nx) (by decide) rfl (.tup (SqT.of upd_same) (.cons (.str _) (.cons (.int _) (.cons (.int _) .nil))))
  obtain ⟨s7, acc2, hD2, ha2⟩ := p
  have l1 := dqAll_len ha
  have l2 := dqAll_len ha2
  refine ⟨D, D2, acc, acc2, rfl, rfl, s7 _ _ hD, hD2, sz (by rw [l1, l2]; decide), fun p np => ?_⟩
  have s8 := same_upd (o := .lst (acc ++ acc2)) np
  refine q p _ _ (s5.trans (s7.trans s8)) (s5.free (s7.free np)) upd_same ?_
  rw [List.map_append]
  exact dpAll_app (DpAll.same ha2.dp s8) (DpAll.same ha.dp (s7.trans s8))
/-- all but what stands at t is as it was -/
def SameX (t : Addr) (H H' : Hp) : Prop := ∀ b o, b ≠ t → H b = some o → H' b = some o
theorem SameX.n {t : Addr} {H H' : Hp} {xs : List V} (e : SameX t H H') (h : H t = some (.lst xs)) : SameN H H' := fun b o hb f => e b o (fun z => by rw [z, h] at hb; cases hb; exact f) hb
theorem sameX_of {t : Addr} {H H' : Hp} (e : Same H H') : SameX t H H' := fun b o _ h => e b o h
theorem sameX_upd {t : Addr} {H : Hp} {o : HO} : SameX t H (upd H t o) := fun b u ne h => by rw [upd_ne ne]; exact h
theorem SameX.trans {t : Addr} {H H1 H2 : Hp} (a : SameX t H H1) (b : SameX t H1 H2) : SameX t H H2 := fun c o ne h => b c o ne (a c o ne h)
def sp_law_walk : Sp := fun vs H Q _ => ∃ (t p : Addr) (n N : Nat) (xs ys : List V), vs = [.ref t, .int (n : Nat), .ref p] ∧ H t = some (.lst ys) ∧ TinOk ys N ∧ N + n ≤ 1000 ∧ H p = some (.lst xs) ∧ p ≠ t ∧ (1 ≤ xs.length ∧ xs.length ≤ 1000) ∧
  ∀ r H' zs ys', SameX t H H' → H' t = some (.lst ys') → TinOk ys' (N + n) → H' r = some (.tup zs) → zs.length = n → (∀ z ∈ zs, z ∈ xs) → Q (.ref r) H'
theorem c_law_walk (T : Txt K mg) (D : DefOk K mg "_law_walk" s__law_walk) (C__law_of : Cl P w K mg base 2 "_law_of" P__law_of (sp_law_of K)) : Cl P w K mg base 3 "_law_walk" P__law_walk sp_law_walk := by
  refine cl_of D (fun _ _ _ _ _ _ us hl => match us, hl with | [_, _, _], _ => rfl) sc__law_walk (fun vs H Q E h => ?_) (fun f cdv A outer s H vs Q E hr h => ?_)
  · obtain ⟨t, p, n, N, xs, ys, rfl, _⟩ := h
    rfl
  obtain ⟨t, p, n, N, xs, ys, rfl, ht, hy, hN, hp, ne, hl, q⟩ := h
  refine ⟨_, (pss_one (ps_ret (pe_callTy call_tuple_of (by rfl) T.z_tuple (by decide +kernel) (pa_cons (pe_lc (own := [("_law_lap", 3)]) (by rfl) sc__law_walk.nd (pi_range1 (by rfl) T.z_range (pa_cons (pv 1) pa_nil)) (blkOk_by (N := N__law_walk) (sc := defScope s__law_walk) (by decide +kernel)) (fun _ _ _ _ _ => (pg_name (i := 3) sc__law_walk.nd rfl (.inl rfl))) (fun _ _ _ _ _ => pts_nil) (fun _ _ _ _ _ => (pe_cl C__law_of hr (by omega) (by rfl) (pa_cons (pv 0) (pa_cons (pv 2) pa_nil))))) pa_nil)))), ?_⟩
  refine ⟨_, rfl, n, rfl, (by omega), (by omega), fun D nD => ?_⟩
  have ntD : t ≠ D := fun e => by rw [← e, ht] at nD; cases nD
  have npD : p ≠ D := fun e => by rw [← e, hp] at nD; cases nD
  refine lc_range (lo := 0) (n := n) (fun i H3 => ∃ ys' acc, SameX t H H3 ∧ H3 t = some (.lst ys') ∧ TinOk ys' (N + i) ∧ H3 D = some (.lst acc) ∧ acc.length = i ∧ ∀ z ∈ acc, z ∈ xs)
    ⟨ys, [], sameX_of (same_upd nD), (same_upd nD) _ _ ht, hy, upd_same, rfl, fun _ z => absurd z (by simp)⟩ (fun i H3 hi pv => ?_) (fun H5 pv => ?_)
  · obtain ⟨ys', acc, sx, ht3, hy3, hD3, la, hm⟩ := pv
    refine ⟨rfl, ?_⟩
    refine ⟨_, rfl, _, rfl, t, p, xs, ys', N + i, rfl, ht3, hy3, by omega, sx _ _ ne hp, ne, hl, fun x ys2 hx hy2 => ?_⟩
    refine ⟨acc, by rw [upd_ne ntD.symm]; exact hD3, szlt (by omega), ys2, acc ++ [x], ?_, by rw [upd_ne ntD, upd_same], hy2, upd_same, by simp [la], fun z hz => ?_⟩
    · intro b o nb hb
      have nbD : b ≠ D := fun e => by rw [e, nD] at hb; cases hb
      rw [upd_ne nbD, upd_ne nb]
      exact sx _ _ nb hb
    · rcases List.mem_append.mp hz with z1 | z1
      · exact hm z z1
      · rw [List.mem_singleton] at z1
        exact z1 ▸ hx
  · obtain ⟨ys', acc, sx, ht3, hy3, hD3, la, hm⟩ := pv
    refine ⟨D, acc, rfl, .inl ⟨SqL.of hD3, fun r nr => ?_⟩⟩
    exact q r _ acc ys' (sx.trans (sameX_of (same_upd nr))) ((same_upd nr) _ _ ht3) hy3 upd_same la hm
end
end Mv
end

section
set_option Elab.async false
set_option linter.all false
set_option maxRecDepth 100000
set_option maxHeartbeats 8000000
/-! MvE11: _law_mid, _law_arcs, _law_across_of. -/
namespace Mv
open PySem PySem.Spec PyProof.Rows L2 RZ
section
variable {P : Program} {w : World} {K : PySem.W.Frag} {mg : Str → Option Value} {base : Heap}
theorem c_law_mid (T : Txt K mg) (D : DefOk K mg "_law_mid" s__law_mid) : Cl P w K mg base 1 "_law_mid" P__law_mid (sp_middle_in K) := by
  refine cl_of D (fun _ _ _ _ _ _ us hl => match us, hl with | [_, _], _ => rfl) sc__law_mid (fun vs H Q E h => ?_) (fun f cdv A outer s H vs Q E hr h => ?_)
  · obtain ⟨v, u, c, t, rfl, _⟩ := h
    rfl
  obtain ⟨v, u, c, t, rfl, hv, hu, hc, q⟩ := h
  obtain ⟨b, rfl, gc⟩ := dpT_inv hv
  obtain ⟨a, v0, v1, v2, v3, rfl, hs, h0, h1, h2, h3⟩ := dpS_inv hu
  obtain ⟨a1, rfl, g1⟩ := dpT_inv h1
  obtain ⟨a2, rfl, g2⟩ := dpT_inv h2
  refine ⟨_, (pss_one (ps_ret (pe_tup (pa_cons (pe_callB (cr_sum rfl) (by rfl) T.z_sum (by decide +kernel) (pa_cons (pe_lc (own := [("_law_own", 2), ("_law_its", 3)]) (g := gTup K 2 (gCons (gName 2) (gCons (gName 3) gNil))) (by rfl) sc__law_mid.nd (pi_zipA (by rfl) T.z_zip (pa_cons (pe_ix (r := rIxT K) ix_tup (pv 1) pe_int (fun _ _ => rfl)) (pa_cons (pv 0) pa_nil))) (blkOk_by (N := N__law_mid) (sc := defScope s__law_mid) (by decide +kernel)) (fun _ _ _ _ _ => (pg_tup rfl (pgs_cons (pg_name (i := 2) sc__law_mid.nd rfl (.inl rfl) (.inr rfl)) (pgs_cons (pg_name (i := 3) sc__law_mid.nd rfl (.inl rfl) (.inr rfl)) pgs_nil)))) (fun _ _ _ _ _ => pts_nil) (fun _ _ _ _ _ => (pe_op op_mul (pv 2) (pv 3)))) pa_nil)) (pa_cons (pe_callB (cr_sum rfl) (by rfl) T.z_sum (by decide +kernel) (pa_cons (pe_lc (own := [("_law_own", 2), ("_law_its", 3)]) (g := gTup K 2 (gCons (gName 2) (gCons (gName 3) gNil))) (by rfl) sc__law_mid.nd (pi_zipA (by rfl) T.z_zip (pa_cons (pe_ix (r := rIxT K) ix_tup (pv 1) pe_int (fun _ _ => rfl)) (pa_cons (pv 0) pa_nil))) (blkOk_by (N := N__law_mid) (sc := defScope s__law_mid) (by decide +kernel)) (fun _ _ _ _ _ => (pg_tup rfl (pgs_cons (pg_name (i := 2) sc__law_mid.nd rfl (.inl rfl) (.inr rfl)) (pgs_cons (pg_name (i := 3) sc__law_mid.nd rfl (.inl rfl) (.inr rfl)) pgs_nil)))) (fun _ _ _ _ _ => pts_nil) (fun _ _ _ _ _ => (pe_op op_mul (pv 2) (pv 3)))) pa_nil)) pa_nil))))), ?_⟩
  refine ⟨_, rfl, a, _, 1, _, rfl, rfl, hs, rfl, _, rfl, a1, b, _, _, rfl, .inr ⟨g1, gc, fun D nD => lc_zipT (K := K) (a := a1) (b := b) (xs := [.int t.2.1.1, .int t.2.1.2.1, .int t.2.1.2.2]) (ys := [.int c.1, .int c.2.1, .int c.2.2]) rfl
    (PvV H D ([t.2.1.1 * c.1, t.2.1.2.1 * c.2.1, t.2.1.2.2 * c.2.2].map V.int)) (pvv_0 nD) (fun i H3 _ p => ⟨same_sqT p.1 g1, same_sqT p.1 gc⟩) (fun i x y TT H3 hx hy nT p => ?_) (fun H5 p => ?_)⟩⟩
  · obtain ⟨m, k, rfl, rfl, hk, e⟩ := zip_prod t.2.1 c hx hy hc
    refine ⟨TT, _, rfl, SqT.of upd_same, rfl, _, _, rfl, _, _, rfl, rfl, ?_⟩
    refine ⟨rfl, ?_⟩
    exact ⟨_, rfl, _, rfl, m, k, rfl, rfl, mul_small hk, pvv_next nD p (same_upd nT) (by simp) e⟩
  obtain ⟨s5, hD⟩ := p
  refine ⟨D, [t.2.1.1 * c.1, t.2.1.2.1 * c.2.1, t.2.1.2.2 * c.2.2], rfl, SqL.of hD, ?_⟩
  rw [prod_sum]
  -- the second sum
  refine ⟨_, rfl, a, _, 2, _, rfl, rfl, same_sqT s5 hs, rfl, _, rfl, a2, b, _, _, rfl, .inr ⟨same_sqT s5 g2, same_sqT s5 gc, fun D1 nD1 => lc_zipT (K := K) (a := a2) (b := b) (xs := [.int t.2.2.1.1, .int t.2.2.1.2.1, .int t.2.2.1.2.2]) (ys := [.int c.1, .int c.2.1, .int c.2.2]) rfl
    (PvV H5 D1 ([t.2.2.1.1 * c.1, t.2.2.1.2.1 * c.2.1, t.2.2.1.2.2 * c.2.2].map V.int)) (pvv_0 nD1) (fun i H3 _ p => ⟨same_sqT p.1 (same_sqT s5 g2), same_sqT p.1 (same_sqT s5 gc)⟩) (fun i x y TT H3 hx hy nT p => ?_) (fun H7 p => ?_)⟩⟩
  · obtain ⟨m, k, rfl, rfl, hk, e⟩ := zip_prod t.2.2.1 c hx hy hc
    refine ⟨TT, _, rfl, SqT.of upd_same, rfl, _, _, rfl, _, _, rfl, rfl, ?_⟩
    refine ⟨rfl, ?_⟩
    exact ⟨_, rfl, _, rfl, m, k, rfl, rfl, mul_small hk, pvv_next nD1 p (same_upd nT) (by simp) e⟩
  obtain ⟨s7, hD1⟩ := p
  refine ⟨D1, [t.2.2.1.1 * c.1, t.2.2.1.2.1 * c.2.1, t.2.2.1.2.2 * c.2.2], rfl, SqL.of hD1, ?_⟩
  rw [prod_sum]
  refine ⟨sz (by simp), fun r nr => ?_⟩
  exact q r _ (s5.trans (s7.trans (same_upd nr))) ((s5.trans s7).free nr) upd_same
theorem c_law_arcs (T : Txt K mg) (D : DefOk K mg "_law_arcs" s__law_arcs) (C__law_poses : Cl P w K mg base 1 "_law_poses" P__law_poses (sp_law_poses K)) : Cl P w K mg base 2 "_law_arcs" P__law_arcs (sp_arcs_in K) := by
  refine cl_of D (fun _ _ _ _ _ _ us hl => match us, hl with | [_, _], _ => rfl) sc__law_arcs (fun vs H Q E h => ?_) (fun f cdv A outer s H vs Q E hr h => ?_)
  · obtain ⟨v, u, t, h, rfl, _⟩ := h
    rfl
  obtain ⟨v, u, t, h, rfl, hv, hu, ht, hh, q⟩ := h
  refine ⟨_, (pss_cons (ps_par (i := 2) (j := 3) rfl sc__law_arcs.nd rfl rfl (by decide) rfl rfl (pa_cons (pe_bm PySem.F.plainAttrs_list PySem.F.slot_list_index PySem.F.type_list_index (mt_indexD (units65 hr)) (pe_cl0 C__law_poses hr (by omega) (by rfl)) (pa_cons (pv 0) pa_nil)) (pa_cons (pe_bm PySem.F.plainAttrs_list PySem.F.slot_list_index PySem.F.type_list_index (mt_indexD (units65 hr)) (pe_cl0 C__law_poses hr (by omega) (by rfl)) (pa_cons (pv 1) pa_nil)) pa_nil)) (by rfl))
    (pss_cons (ps_asg (pe_tup (pa_cons (pe_lst pa_nil) (pa_cons (pv 2) pa_nil))) (pg_tup rfl (pgs_cons (pg_name (i := 4) sc__law_arcs.nd rfl (.inr rfl)) (pgs_cons (pg_name (i := 5) sc__law_arcs.nd rfl (.inl rfl)) pgs_nil))))
    (pss_cons (ps_while PassesOwn.never (pt_cmpR op_ne (pv 5) (pv 3) (nomark _)) (pss_cons (ps_expr (pe_bm PySem.F.plainAttrs_list PySem.F.slot_list_append PySem.F.type_list_append mt_append (pv 4) (pa_cons (pv 5) pa_nil)))
    (pss_one (ps_set (i := 5) sc__law_arcs.nd rfl (.inl rfl) (pe_op op_mod (pe_callTy call_int1 (by rfl) T.z_int (by decide +kernel) (pa_cons (pe_op op_add (pv 5) pe_int) pa_nil)) pe_int)))))
    (pss_one (ps_ret (pe_tup (pa_cons (pe_callTy call_tuple_of (by rfl) T.z_tuple (by decide +kernel) (pa_cons (pe_callB cr_sorted (by rfl) T.z_sorted (by decide +kernel) (pa_cons (pv 4) pa_nil)) pa_nil)) (pa_cons (pe_callTy call_tuple_of (by rfl) T.z_tuple (by decide +kernel) (pa_cons (pe_lc (own := [("_law_k", 6)]) (by rfl) sc__law_arcs.nd (pi_range1 (by rfl) T.z_range (pa_cons pe_int pa_nil)) (blkOk_by (N := N__law_arcs) (sc := defScope s__law_arcs) (by decide +kernel)) (fun _ _ _ _ _ => (pg_name (i := 6) sc__law_arcs.nd rfl (.inl rfl))) (fun _ _ _ _ _ => (pts_one (pt_cmpR (r := rIn K true) op_notIn_seq (pv 6) (pv 4) rfl))) (fun _ _ _ _ _ => (pv 6))) pa_nil)) pa_nil)))))))), ?_⟩
  have ra := place_lt ht
  have rb := place_lt hh
  obtain ⟨j1, z1, e1, e2, e3, e4⟩ := place_use ht
  obtain ⟨j2, z2, f1, f2, f3, f4⟩ := place_use hh
  refine ⟨rfl, fun p H1 xs s1 n1 h1 ha => ⟨.inl ⟨rfl, _, SqL.of h1⟩, _, rfl, p, v, dT t, ring.map dT, j1, z1, rfl, rfl, .lst (SqL.of h1) ha, Dp.same hv s1, sdR, sd3 t, e1, e2, e3, ?_⟩⟩
  rw [e4]
  refine ⟨rfl, fun p2 H2 xs2 s2 n2 h2 ha2 => ⟨.inl ⟨rfl, _, SqL.of h2⟩, _, rfl, p2, u, dT h, ring.map dT, j2, z2, rfl, rfl, .lst (SqL.of h2) ha2, Dp.same hu (s1.trans s2), sdR, sd3 h, f1, f2, f3, ?_⟩⟩
  rw [f4]
  refine ⟨_, _, rfl, ?_⟩
  refine ⟨Nat.zero_le _, fun l nl => ⟨_, rfl, sz (by simp), fun p np => ?_⟩⟩
  have sl : Same H (upd H2 l (.lst [])) := (s1.trans s2).trans (same_upd nl)
  have nlH : H l = none := (s1.trans s2).free nl
  have nlp : l ≠ p := fun e => by
    rw [← e, upd_same] at np
    cases np
  refine ⟨p, _, rfl, SqT.of upd_same, rfl, _, _, rfl, _, _, rfl, rfl, ?_⟩
  refine ⟨fun m σ H3 => ∃ j : Nat, m = arcN (placeZ t) (placeZ h) - j ∧ j ≤ arcN (placeZ t) (placeZ h) ∧ σ = [some v, some u, some (.int (placeZ t)), some (.int (placeZ h)), some (.ref l), some (.int ((placeZ t + (j : Int)) % 6)), none] ∧ Same H H3 ∧ H3 l = some (.lst ((fnd (placeZ t) j).map V.int)),
    ⟨_, 0, rfl, Nat.zero_le _, ?_, sl.trans (same_upd np), ?_⟩, ?_⟩
  · have e : (placeZ t + ((0 : Nat) : Int)) % 6 = placeZ t := by omega
    rw [e]
    rfl
  · rw [upd_ne nlp, upd_same]
    rfl
  rintro m σ H3 ⟨j, rfl, hj, rfl, s3, h3⟩
  refine ⟨_, rfl, _, rfl, rfl, _, rfl, ?_⟩
  by_cases e : (placeZ t + (j : Int)) % 6 = placeZ h
  · have e2 : (!decide (V.int ((placeZ t + (j : Int)) % 6) = V.int (placeZ h))) = false := by rw [e, decide_eq_true rfl]; rfl
    rw [e2]
    refine iteF ?_
    have ej := (arc_end ra rb hj).mp e
    subst ej
    obtain ⟨a1, a2, a3⟩ := arcs_use ra rb
    have l5 := arcN_le (placeZ t) (placeZ h)
    refine ⟨_, rfl, l, _, rfl, SqL.of h3, by rw [fnd_len]; omega, fun ns' o p1 p2 no => ?_⟩
    have en : ns' = arcF (placeZ t) (placeZ h) := sorted_same (p1.trans a1) p2 a2
    subst en
    refine ⟨o, _, rfl, .inl ⟨SqL.of upd_same, fun x nx => ?_⟩⟩
    have s4 : Same H3 (upd (upd H3 o (.lst ((arcF (placeZ t) (placeZ h)).map V.int))) x (.tup ((arcF (placeZ t) (placeZ h)).map V.int))) := (same_upd no).trans (same_upd nx)
    refine ⟨6, rfl, by decide, by decide, fun D nD => lc_range (lo := 0) (n := 6) (PvP _ D (fun k => !(fnd (placeZ t) (arcN (placeZ t) (placeZ h))).any fun y => y == k)) (pvp_0 nD) (fun i H5 hi p => ?_) (fun H5 p => ?_)⟩
    · refine ⟨rfl, ?_⟩
      refine ⟨_, rfl, _, rfl, l, _, rfl, .inl (SqL.of (p.1 _ _ (s4 _ _ h3))), rfl, flat_ints _, _, rfl, ?_⟩
      rw [inV_ints]
      have ez : (0 : Int) + (i : Int) = (i : Int) := by omega
      rw [ez]
      show if (!(fnd (placeZ t) (arcN (placeZ t) (placeZ h))).any fun y => y == (i : Int)) = true then _ else _
      refine ite2 (fun c => ?_) (fun c => ?_)
      · exact ⟨_, rfl, pvp_take nD p (by omega) rfl c⟩
      · exact pvp_skip p c
    · obtain ⟨s5, hD⟩ := p
      refine ⟨D, _, rfl, .inl ⟨SqL.of hD, fun y ny => ?_⟩⟩
      refine ⟨sz (by simp), fun r nr => ?_⟩
      have s6 := s5.trans (same_upd (o := .tup ((passed (fun k => !(fnd (placeZ t) (arcN (placeZ t) (placeZ h))).any fun y => y == k) 6).map V.int)) ny)
      refine q _ _ (s3.trans (s4.trans (s6.trans (same_upd nr)))) (.tup (SqT.of upd_same) (.cons (dpI_mk (same_sqT (s6.trans (same_upd nr)) (SqT.of upd_same))) (.cons (dpI_mk ?_) .nil)))
      rw [a3]
      exact same_sqT (same_upd nr) (SqT.of upd_same)
  · have e2 : (!decide (V.int ((placeZ t + (j : Int)) % 6) = V.int (placeZ h))) = true := by
      rw [decide_eq_false (fun z => e (V.int.inj z))]
      rfl
    rw [e2]
    refine iteT ?_
    have hj2 : j < arcN (placeZ t) (placeZ h) := by
      rcases Nat.lt_or_eq_of_le hj with z | z
      · exact z
      · exact absurd ((arc_end ra rb hj).mpr z) e
    refine ⟨fun σ' H' => ∃ j' : Nat, j' = j + 1 ∧ σ' = [some v, some u, some (.int (placeZ t)), some (.int (placeZ h)), some (.ref l), some (.int ((placeZ t + (j' : Int)) % 6)), none] ∧ Same H H' ∧ H' l = some (.lst ((fnd (placeZ t) j').map V.int)), ?_, ?_⟩
    · rintro σ' H' ⟨j', rfl, e1, e3, e4⟩
      exact ⟨_, by omega, j + 1, rfl, hj2, e1, e3, e4⟩
    · have l5 := arcN_le (placeZ t) (placeZ h)
      refine ⟨_, rfl, .inl ⟨rfl, _, SqL.of h3⟩, _, rfl, l, _, _, rfl, rfl, h3, szlt (by rw [List.length_map, fnd_len]; omega), ?_⟩
      refine ⟨_, rfl, _, _, rfl, rfl, .inl ⟨_, rfl, _, _, rfl, rfl, (by show (0 : Int) < 6; decide), j + 1, rfl, ?_, same_mut s3 nlH, ?_⟩⟩
      · have e5 : ((placeZ t + (j : Int)) % 6 + 1) % 6 = (placeZ t + ((j + 1 : Nat) : Int)) % 6 := by omega
        show _ = [some v, some u, some (V.int (placeZ t)), some (.int (placeZ h)), some (.ref l), some (.int ((placeZ t + ((j + 1 : Nat) : Int)) % 6)), none]
        rw [← e5]
        rfl
      · rw [upd_same, fnd_succ, List.map_append]
        rfl
def sp_law_across_of (K : PySem.W.Frag) : Sp := fun vs H Q _ => ∃ (v : V) (c : T3) (k : Int), vs = [v, .int k] ∧ Dp K H v (dT c) ∧ k ∈ links6 ∧ ∀ p, H p = none → Q (.int (cost c k)) (upd H p (.lst (across.map V.int)))
theorem c_law_across_of (T : Txt K mg) (D : DefOk K mg "_law_across_of" s__law_across_of) (C__law_across : Cl P w K mg base 1 "_law_across" P__law_across (sp_law_across K)) : Cl P w K mg base 2 "_law_across_of" P__law_across_of (sp_law_across_of K) := by
  refine cl_of D (fun _ _ _ _ _ _ us hl => match us, hl with | [_, _], _ => rfl) sc__law_across_of (fun vs H Q E h => ?_) (fun f cdv A outer s H vs Q E hr h => ?_)
  · obtain ⟨v, c, k, rfl, _⟩ := h
    rfl
  obtain ⟨v, c, k, rfl, hv, hk, q⟩ := h
  obtain ⟨b, rfl, gc⟩ := dpT_inv hv
  refine ⟨_, (pss_one (ps_ret (pe_op op_sub (pe_callB (cr_sumT rfl) (by rfl) T.z_sum (by decide +kernel) (pa_cons (pv 0) pa_nil)) (pe_ix (r := rIxT K) ix_tup (pv 0) (pe_ix (r := rIxL K) ix_list (pe_cl0 C__law_across hr (by omega) (by rfl)) (pv 1) (fun _ _ => rfl)) (fun _ _ => rfl))))), ?_⟩
  refine ⟨_, rfl, b, [c.1, c.2.1, c.2.2], rfl, gc, ?_⟩
  refine ⟨_, rfl, rfl, fun p np => ⟨_, rfl, p, _, k, _, rfl, rfl, SqL.of upd_same, acr_at k hk, b, _, _, _, rfl, rfl, same_sqT (same_upd np) gc, cost_at c hk, _, _, rfl, rfl, ?_⟩⟩
  have e : ([c.1, c.2.1, c.2.2] : List Int).sum - at3 c (acr k) = cost c k := by
    show c.1 + (c.2.1 + (c.2.2 + 0)) - at3 c (acr k) = c.1 + c.2.1 + c.2.2 - at3 c (acr k)
    omega
  show Q (.int (([c.1, c.2.1, c.2.2] : List Int).sum - at3 c (acr k))) _
  rw [e]
  exact q p np
end
end Mv
end

section
set_option Elab.async false
set_option linter.all false
set_option maxRecDepth 100000
set_option maxHeartbeats 8000000
/-! MvE12: _law_shifts. -/
namespace Mv
open PySem PySem.Spec PyProof.Rows L2 RZ
/-! ### lists without twins -/
def insI (L : List Int) (x : Int) : List Int := if x ∈ L then L else L ++ [x]
def uniq (xs : List Int) : List Int := xs.foldl insI []
theorem uniq_snoc (xs : List Int) (x : Int) : uniq (xs ++ [x]) = insI (uniq xs) x := by
  unfold uniq
  rw [List.foldl_append]
  rfl
theorem uniq_all (n : Nat) : ∀ xs : List Int, xs.length = n → (∀ x, x ∈ uniq xs ↔ x ∈ xs) ∧ (uniq xs).Nodup ∧ (uniq xs).length ≤ xs.length := by
  induction n with
  | zero =>
    intro xs h
    rw [List.length_eq_zero_iff.mp h]
    exact ⟨fun x => Iff.rfl, List.nodup_nil, Nat.le_refl _⟩
  | succ n ih =>
    intro xs h
    have ne : xs ≠ [] := fun e => by rw [e] at h; cases h
    rw [← List.dropLast_concat_getLast ne]
    generalize xs.getLast ne = z
    have hl : xs.dropLast.length = n := by rw [List.length_dropLast, h]; rfl
    obtain ⟨i1, i2, i3⟩ := ih xs.dropLast hl
    generalize xs.dropLast = ys at *
    rw [uniq_snoc]
    unfold insI
    refine ⟨fun x => ?_, ?_, ?_⟩
    · split
      · rename_i hz
        rw [i1 x, List.mem_append, List.mem_singleton]
        exact ⟨.inl, fun u => u.elim id fun e => e ▸ (i1 z).mp hz⟩
      · rw [List.mem_append, List.mem_append, i1 x]
    · split
      · exact i2
      · rename_i hz
        refine List.nodup_append.mpr ⟨i2, by simp, fun a ha b hb e => ?_⟩
        rw [List.mem_singleton] at hb
        exact hz (hb ▸ e ▸ ha)
    · rw [List.length_append, List.length_singleton]
      split
      · omega
      · rw [List.length_append, List.length_singleton]
        omega
theorem mem_uniq {xs : List Int} {x : Int} : x ∈ uniq xs ↔ x ∈ xs := (uniq_all _ xs rfl).1 x
theorem uniq_nd (xs : List Int) : (uniq xs).Nodup := (uniq_all _ xs rfl).2.1
theorem uniq_len (xs : List Int) : (uniq xs).length ≤ xs.length := (uniq_all _ xs rfl).2.2
/-- the keys of a dict of ints after a put -/
theorem put_keys {kvs : List (Key × V)} {L : List Int} {x : Int} {v : V} (h : kvs.map (·.1) = L.map Sum.inl) : (putK kvs (.inl x) v).map (·.1) = (insI L x).map Sum.inl := by
  unfold putK insI
  have e : (kvs.any fun kv => decide (kv.1 = Sum.inl x)) = true ↔ x ∈ L := by
    rw [List.any_eq_true]
    constructor
    · rintro ⟨kv, hm, hk⟩
      have hk := of_decide_eq_true hk
      have : kv.1 ∈ kvs.map (·.1) := List.mem_map.mpr ⟨kv, hm, rfl⟩
      rw [h, hk] at this
      obtain ⟨y, hy, e⟩ := List.mem_map.mp this
      exact Sum.inl.inj e ▸ hy
    · intro hx
      have : (Sum.inl x : Key) ∈ kvs.map (·.1) := by rw [h]; exact List.mem_map.mpr ⟨x, hx, rfl⟩
      obtain ⟨kv, hm, e⟩ := List.mem_map.mp this
      exact ⟨kv, hm, decide_eq_true e⟩
  by_cases hx : x ∈ L
  · rw [if_pos (e.mpr hx), if_pos hx, ← h, List.map_map]
    refine List.map_congr_left fun kv _ => ?_
    show (if kv.1 = Sum.inl x then (kv.1, v) else kv).1 = kv.1
    split <;> rfl
  · rw [if_neg (fun z => hx (e.mp z)), if_neg hx, List.map_append, List.map_append, h]
    rfl
theorem keys_list {kvs : List (Key × V)} {L : List Int} (h : kvs.map (·.1) = L.map Sum.inl) : kvs.map (fun kv => kV kv.1) = L.map V.int := by
  have e : kvs.map (fun kv => kV kv.1) = (kvs.map (·.1)).map kV := by rw [List.map_map]; rfl
  rw [e, h, List.map_map]
  rfl
/-! ### the counts that an arc leaves -/
def manyF (arc : List Int) (k n : Int) : Bool := (n % 2 == 1) == arc.any fun y => y == k
def manyP (f : Int → Bool) (n : Nat) : List Int := ((List.range n).map fun (i : Nat) => (-7 : Int) + (i : Int)).filter f
theorem manyP_succ (f : Int → Bool) (n : Nat) : manyP f (n + 1) = manyP f n ++ (if f ((-7 : Int) + (n : Int)) = true then [(-7 : Int) + (n : Int)] else []) := by
  unfold manyP
  rw [List.range_succ, List.map_append, List.filter_append]
  congr 1
  show List.filter f [(-7 : Int) + (n : Int)] = _
  by_cases h : f ((-7 : Int) + (n : Int)) = true
  · rw [if_pos h, List.filter_cons_of_pos h]; rfl
  · rw [if_neg h, List.filter_cons_of_neg h]; rfl
theorem manyP_len (f : Int → Bool) (n : Nat) : (manyP f n).length ≤ n := by
  unfold manyP
  refine Nat.le_trans (List.length_filter_le _ _) ?_
  rw [List.length_map, List.length_range]
  exact Nat.le_refl _
theorem mem_many {arc : List Int} {k n : Int} : n ∈ manyP (manyF arc k) 15 ↔ -7 ≤ n ∧ n ≤ 7 ∧ (n % 2 = 1 ↔ k ∈ arc) := by
  unfold manyP manyF
  rw [List.mem_filter, List.mem_map]
  have ea : (arc.any fun y => y == k) = decide (k ∈ arc) := by
    rw [Bool.eq_iff_iff, List.any_eq_true, decide_eq_true_iff]
    exact ⟨fun ⟨y, hy, e⟩ => (eq_of_beq e) ▸ hy, fun h => ⟨k, h, beq_self_eq_true k⟩⟩
  rw [ea]
  have e1 : (∃ a, a ∈ List.range 15 ∧ (-7 : Int) + (a : Int) = n) ↔ -7 ≤ n ∧ n ≤ 7 := by
    constructor
    · rintro ⟨a, ha, rfl⟩
      have := List.mem_range.mp ha
      omega
    · intro h
      exact ⟨(n + 7).toNat, List.mem_range.mpr (by omega), by omega⟩
  rw [e1, and_assoc]
  have e2 : ((n % 2 == 1) == decide (k ∈ arc)) = true ↔ (n % 2 = 1 ↔ k ∈ arc) := by
    rw [beq_iff_eq, Bool.eq_iff_iff, beq_iff_eq, decide_eq_true_iff]
  rw [e2]
def sums (c : T3) (k : Int) (ms F : List Int) : List Int := F.flatMap fun f => ms.map fun m => f + m * cost c k
theorem sums_len (c : T3) (k : Int) (ms F : List Int) : (sums c k ms F).length = F.length * ms.length := by
  unfold sums
  induction F with
  | nil => simp
  | cons f F ih => rw [List.flatMap_cons, List.length_append, ih, List.length_map, List.length_cons, Nat.succ_mul, Nat.add_comm]
theorem mem_sums {c : T3} {k : Int} {ms F : List Int} {x : Int} : x ∈ sums c k ms F ↔ ∃ f ∈ F, ∃ m ∈ ms, x = f + m * cost c k := by
  unfold sums
  rw [List.mem_flatMap]
  constructor
  · rintro ⟨f, hf, h⟩
    obtain ⟨m, hm, e⟩ := List.mem_map.mp h
    exact ⟨f, hf, m, hm, e.symm⟩
  · rintro ⟨f, hf, m, hm, e⟩
    exact ⟨f, hf, List.mem_map.mpr ⟨m, hm, e.symm⟩⟩
def shF (c : T3) (arc : List Int) (ax : Int) : Nat → List Int
  | 0 => [0]
  | i + 1 => uniq (sums c (ax + 2 * (i : Int)) (manyP (manyF arc (ax + 2 * (i : Int))) 15) (shF c arc ax i))
theorem shF_len (c : T3) (arc : List Int) (ax : Int) : ∀ i, (shF c arc ax i).length ≤ 15 ^ i
  | 0 => Nat.le_refl _
  | i + 1 => by
    have h1 := shF_len c arc ax i
    have h2 := uniq_len (sums c (ax + 2 * (i : Int)) (manyP (manyF arc (ax + 2 * (i : Int))) 15) (shF c arc ax i))
    rw [sums_len] at h2
    refine Nat.le_trans h2 ?_
    rw [Nat.pow_succ]
    exact Nat.mul_le_mul h1 (manyP_len _ _)
theorem mem_shF {c : T3} {arc : List Int} {ax d : Int} : d ∈ shF c arc ax 3 ↔ Shift c arc ax d := by
  show d ∈ uniq _ ↔ _
  rw [mem_uniq, mem_sums]
  constructor
  · rintro ⟨f, hf, m2, hm2, rfl⟩
    obtain ⟨f1, hf1, m1, hm1, rfl⟩ := mem_sums.mp (mem_uniq.mp hf)
    obtain ⟨f0, hf0, m0, hm0, rfl⟩ := mem_sums.mp (mem_uniq.mp hf1)
    rw [show shF c arc ax 0 = [0] from rfl, List.mem_singleton] at hf0
    subst hf0
    rw [mem_many] at hm0 hm1 hm2
    have e0 : ax + 2 * ((0 : Nat) : Int) = ax := by omega
    have e1 : ax + 2 * ((1 : Nat) : Int) = ax + 2 := by omega
    have e2 : ax + 2 * ((2 : Nat) : Int) = ax + 4 := by omega
    rw [e0] at hm0
    rw [e1] at hm1
    rw [e2] at hm2
    refine ⟨m0, m1, m2, hm0, hm1, hm2, ?_⟩
    rw [e0, e1, e2]
    omega
  · rintro ⟨m0, m1, m2, hm0, hm1, hm2, rfl⟩
    have e0 : ax + 2 * ((0 : Nat) : Int) = ax := by omega
    have e1 : ax + 2 * ((1 : Nat) : Int) = ax + 2 := by omega
    have e2 : ax + 2 * ((2 : Nat) : Int) = ax + 4 := by omega
    refine ⟨m0 * cost c ax + m1 * cost c (ax + 2), mem_uniq.mpr (mem_sums.mpr ⟨m0 * cost c ax, mem_uniq.mpr (mem_sums.mpr ⟨0, List.mem_singleton.mpr rfl, m0, mem_many.mpr (by rw [e0]; exact hm0), by rw [e0]; omega⟩), m1, mem_many.mpr (by rw [e1]; exact hm1), by rw [e1]⟩), m2, mem_many.mpr (by rw [e2]; exact hm2), by rw [e2]⟩
theorem sums_snoc (c : T3) (k : Int) (ms F : List Int) (f : Int) : sums c k ms (F ++ [f]) = sums c k ms F ++ ms.map fun m => f + m * cost c k := by
  unfold sums
  rw [List.flatMap_append]
  simp
theorem st_g {i : Nat} {x : V} {σ σ' : L2.St} {H : Hp} {k : L2.St → Hp → Prop} (e : σ.set i (some x) = σ') (h : k σ' H) : gName i x σ H k := by
  subst e
  exact h
section
variable {P : Program} {w : World} {K : PySem.W.Frag} {mg : Str → Option Value} {base : Heap}
def sp_law_shifts (K : PySem.W.Frag) : Sp := fun vs H Q _ => ∃ (v u : V) (c : T3) (arc : List Int) (ax : Int), vs = [v, u, .int ax, .int 7] ∧ Dp K H v (dT c) ∧ Dp K H u (dI arc) ∧ ChOk c ∧ (ax = 0 ∨ ax = 1) ∧
  ∀ r H' (L : List Int), Same H H' → H' r = some (.lst (L.map V.int)) → L.Nodup → L.length ≤ 3375 → (∀ d, d ∈ L ↔ Shift c arc ax d) → Q (.ref r) H'
theorem shF_nd (c : T3) (arc : List Int) (ax : Int) : (shF c arc ax 3).Nodup := uniq_nd _
theorem c_law_shifts (T : Txt K mg) (D : DefOk K mg "_law_shifts" s__law_shifts) (C__law_across_of : Cl P w K mg base 2 "_law_across_of" P__law_across_of (sp_law_across_of K)) : Cl P w K mg base 3 "_law_shifts" P__law_shifts (sp_law_shifts K) := by
  refine cl_of D (fun _ _ _ _ _ _ us hl => match us, hl with | [_, _, _, _], _ => rfl) sc__law_shifts (fun vs H Q E h => ?_) (fun f cdv A outer s H vs Q E hr h => ?_)
  · obtain ⟨v, u, c, arc, ax, rfl, _⟩ := h
    rfl
  obtain ⟨v, u, c, arc, ax, rfl, hv, hu, hc, hax, q⟩ := h
  obtain ⟨b, rfl, gb⟩ := dpI_inv hu
  refine ⟨_, (pss_cons (ps_set (i := 4) sc__law_shifts.nd rfl (.inl rfl) (pe_lst (pa_cons pe_int pa_nil)))
    (pss_cons (ps_for PassesOwn.never rfl (pi_tup (pe_tup (pa_cons (pv 2) (pa_cons (pe_op op_add (pv 2) pe_int) (pa_cons (pe_op op_add (pv 2) pe_int) pa_nil))))) (pg_name (i := 5) sc__law_shifts.nd rfl (.inr rfl)) (pss_cons (ps_setLc (i := 7) (own := [("_law_own", 6)]) (by rfl) sc__law_shifts.nd rfl rfl (sw_true rfl rfl rfl (by decide +kernel)) (pi_range2 (by rfl) T.z_range (pa_cons (pe_un un_neg (pv 3)) (pa_cons (pe_op op_add (pv 3) pe_int) pa_nil))) (blkOk_by (N := N__law_shifts) (sc := defScope s__law_shifts) (by decide +kernel)) (fun _ _ _ _ _ => (pg_name (i := 6) sc__law_shifts.nd rfl (.inl rfl))) (fun _ _ _ _ _ => (pts_one (pt_cmpR op_eq (pe_cmpR op_eq (pe_op op_mod (pe_callTy call_int1 (by rfl) T.z_int (by decide +kernel) (pa_cons (pv 6) pa_nil)) pe_int) pe_int (nomark _)) (pe_cmpR (r := rIn K false) op_in_seq (pv 5) (pv 1) rfl) (nomark _)))) (fun _ _ _ _ _ => (pv 6)))
    (pss_cons (ps_set (i := 8) sc__law_shifts.nd rfl (.inl rfl) pe_dnewK)
    (pss_cons (ps_for PassesOwn.never rfl (pi_list (pv 4)) (pg_name (i := 6) sc__law_shifts.nd rfl (.inl rfl)) (pss_one (ps_for PassesOwn.never rfl (pi_list (pv 7)) (pg_name (i := 9) sc__law_shifts.nd rfl (.inl rfl)) (pss_one (ps_dput (units1 hr) (pv 8) (pe_op op_add (pv 6) (pe_op op_mul (pv 9) (pe_cl C__law_across_of hr (by omega) (by rfl) (pa_cons (pv 0) (pa_cons (pv 5) pa_nil))))) pe_bl rfl)))))
    (pss_one (ps_set (i := 4) sc__law_shifts.nd rfl (.inl rfl) (pe_callTy (call_list_dK rfl) (by rfl) T.z_list (by decide +kernel) (pa_cons (pv 8) pa_nil))))))))
    (pss_one (ps_ret (pv 4))))), ?_⟩
  refine ⟨sz (by simp), fun l nl => ?_⟩
  have s0 := same_upd (o := .lst [.int 0]) nl
  refine ⟨_, rfl, _, rfl, _, _, rfl, rfl, _, rfl, _, _, rfl, rfl, sz (by simp), fun tp ntp => ?_⟩
  refine ⟨tp, rfl, ⟨_, SqT.of upd_same⟩, for_tup (K := K) (a := tp) (xs := [.int ax, .int (ax + 2), .int (ax + 4)]) (fun i σ H3 => ∃ q4 y5 y6 y7 y8 y9, σ = [some v, some (.ref b), some (.int ax), some (.int 7), some (.ref q4), y5, y6, y7, y8, y9] ∧ Same H H3 ∧ H3 tp = some (.tup [.int ax, .int (ax + 2), .int (ax + 4)]) ∧ H3 q4 = some (.lst ((shF c arc ax i).map V.int)))
    ⟨l, none, none, none, none, none, rfl, s0.trans (same_upd ntp), upd_same, (same_upd ntp) _ _ upd_same⟩ (fun i σ H3 _ ⟨_, _, _, _, _, _, _, _, h, _⟩ => SqT.of h) ?_ ?_⟩
  · rintro i x σ H3 hx ⟨q4, y5, y6, y7, y8, y9, rfl, s3, htp, hq4⟩
    have hi : i < 3 := (List.getElem?_eq_some_iff.mp hx).1
    have ex : x = .int (ax + 2 * (i : Int)) := by
      have : i = 0 ∨ i = 1 ∨ i = 2 := by omega
      rcases this with rfl | rfl | rfl
      · cases hx
        show V.int ax = _
        rw [show ax + 2 * ((0 : Nat) : Int) = ax by omega]
      · cases hx; rfl
      · cases hx; rfl
    subst ex
    have hk : ax + 2 * (i : Int) ∈ links6 := mem_links (by omega)
    have hF := shF_len c arc ax i
    have hF2 : 15 ^ i ≤ 225 := by
      have : i = 0 ∨ i = 1 ∨ i = 2 := by omega
      rcases this with rfl | rfl | rfl <;> decide
    have eN : shF c arc ax (i + 1) = uniq (sums c (ax + 2 * (i : Int)) (manyP (manyF arc (ax + 2 * (i : Int))) 15) (shF c arc ax i)) := rfl
    generalize shF c arc ax i = F at *
    generalize ax + 2 * (i : Int) = k at *
    refine st_g (σ' := [some v, some (.ref b), some (.int ax), some (.int 7), some (.ref q4), some (.int k), y6, y7, y8, y9]) rfl ?_
    -- the counts
    refine ⟨_, rfl, 7, rfl, _, rfl, 7, 1, rfl, rfl, -7, 8, rfl, ⟨by decide, by decide, by decide, by decide⟩, fun D nD => lc_range (lo := -7) (n := 15) (fun j H4 => Same H3 H4 ∧ H4 D = some (.lst ((manyP (manyF arc k) j).map V.int))) ⟨same_upd nD, upd_same⟩ (fun j H4 hj p => ?_) (fun H4 p => ?_)⟩
    · refine ⟨rfl, ?_⟩
      refine ⟨_, rfl, .inl ⟨_, rfl, _, _, rfl, rfl, (by show (0 : Int) < 2; decide), rfl, _, rfl, _, rfl, b, _, rfl, .inr (same_sqT (s3.trans p.1) gb), rfl, flat_ints _, rfl, _, rfl, ?_⟩⟩
      rw [dec_bl, dec_int, inV_ints]
      show if (manyF arc k ((-7 : Int) + (j : Int))) = true then _ else _
      refine ite2 (fun z => ?_) (fun z => ?_)
      · refine ⟨_, rfl, _, p.2, szlt (by rw [List.length_map]; have := manyP_len (manyF arc k) j; omega), same_mut p.1 nD, ?_⟩
        rw [upd_same, manyP_succ, if_pos z, List.map_append]
        rfl
      · refine ⟨p.1, ?_⟩
        rw [manyP_succ, if_neg z, List.append_nil]
        exact p.2
    obtain ⟨s4, hD⟩ := p
    have hmb : ∀ m ∈ manyP (manyF arc k) 15, -7 ≤ m ∧ m ≤ 7 := fun m hm => ⟨(mem_many.mp hm).1, (mem_many.mp hm).2.1⟩
    have hml := manyP_len (manyF arc k) 15
    generalize manyP (manyF arc k) 15 = ms at *
    refine st_g (σ' := [some v, some (.ref b), some (.int ax), some (.int 7), some (.ref q4), some (.int k), y6, some (.ref D), y8, y9]) rfl ?_
    -- the dict
    refine fun d nd => ?_
    have nd3 : H3 d = none := s4.free nd
    have hdv : Dp K H4 v (dT c) := Dp.same hv (s3.trans s4)
    have hq4' := s4 _ _ hq4
    refine st_g (σ' := [some v, some (.ref b), some (.int ax), some (.int 7), some (.ref q4), some (.int k), y6, some (.ref D), some (.ref d), y9]) rfl ?_
    refine ⟨_, rfl, q4, rfl, ⟨_, SqL.of (same_upd nd _ _ hq4')⟩, for_list (K := K) (a := q4) (xs := F.map V.int) (fun j σ H5 => ∃ y6 y9 kvs, σ = [some v, some (.ref b), some (.int ax), some (.int 7), some (.ref q4), some (.int k), y6, some (.ref D), some (.ref d), y9] ∧ Same H4 H5 ∧ H5 d = some (.dK kvs) ∧ kvs.map (·.1) = (uniq (sums c k ms (F.take j))).map Sum.inl)
      ⟨y6, y9, [], rfl, same_upd nd, upd_same, rfl⟩ (fun j σ H5 _ ⟨_, _, _, _, s5, _⟩ => SqL.of (s5 _ _ hq4')) ?_ ?_⟩
    · rintro j x σ H5 hx ⟨y6, y9, kvs, rfl, s5, hd5, hkv⟩
      obtain ⟨f0, hf0, rfl⟩ := at_map hx
      have et : F.take (j + 1) = F.take j ++ [f0] := by rw [List.take_add_one, hf0]; rfl
      refine st_g (σ' := [some v, some (.ref b), some (.int ax), some (.int 7), some (.ref q4), some (.int k), some (.int f0), some (.ref D), some (.ref d), y9]) rfl ?_
      refine ⟨_, rfl, D, rfl, ⟨_, SqL.of (s5 _ _ hD)⟩, for_list (K := K) (a := D) (xs := ms.map V.int) (fun n σ H6 => ∃ y9 kvs, σ = [some v, some (.ref b), some (.int ax), some (.int 7), some (.ref q4), some (.int k), some (.int f0), some (.ref D), some (.ref d), y9] ∧ Same H4 H6 ∧ H6 d = some (.dK kvs) ∧ kvs.map (·.1) = (uniq (sums c k ms (F.take j) ++ (ms.take n).map fun m => f0 + m * cost c k)).map Sum.inl)
        ⟨y9, kvs, rfl, s5, hd5, by rw [hkv, List.take_zero, List.map_nil, List.append_nil]⟩ (fun n σ H6 _ ⟨_, _, _, s6, _⟩ => SqL.of (s6 _ _ hD)) ?_ ?_⟩
      · rintro n x σ H6 hx ⟨y9, kvs, rfl, s6, hd6, hkv⟩
        obtain ⟨m0, hm0, rfl⟩ := at_map hx
        have et2 : ms.take (n + 1) = ms.take n ++ [m0] := by rw [List.take_add_one, hm0]; rfl
        have hb := hmb m0 (List.mem_of_getElem? hm0)
        refine st_g (σ' := [some v, some (.ref b), some (.int ax), some (.int 7), some (.ref q4), some (.int k), some (.int f0), some (.ref D), some (.ref d), some (.int m0)]) rfl ?_
        refine ⟨_, rfl, _, rfl, _, rfl, _, rfl, _, rfl, v, c, k, rfl, Dp.same hdv s6, hk, fun p np => ?_⟩
        have hd7 := (same_upd (o := .lst (across.map V.int)) np) _ _ hd6
        have hlk : kvs.length ≤ 3375 := by
          have e := congrArg List.length hkv
          rw [List.length_map, List.length_map] at e
          rw [e]
          refine Nat.le_trans (uniq_len _) ?_
          rw [List.length_append, sums_len, List.length_map, List.length_take, List.length_take]
          have e1 : min j F.length * ms.length ≤ 224 * 15 := Nat.mul_le_mul (by have := (List.getElem?_eq_some_iff.mp hf0).1; omega) hml
          omega
        refine ⟨m0, cost c k, rfl, rfl, .inl ⟨by omega, by omega⟩, f0, _, rfl, rfl, d, _, rfl, DPut.k (k := .inl (f0 + m0 * cost c k)) hd7 (szlt (by omega)), ?_⟩
        refine ⟨_, _, rfl, same_mut (s6.trans (same_upd np)) nd, upd_same, ?_⟩
        rw [put_keys hkv, et2, List.map_append, ← List.append_assoc, List.map_singleton, uniq_snoc]
      · rintro σ H6 ⟨y9, kvs, rfl, s6, hd6, hkv⟩
        rw [List.length_map, List.take_length, ← sums_snoc, ← et] at hkv
        exact ⟨_, _, kvs, rfl, s6, hd6, hkv⟩
    · rintro σ H5 ⟨y6, y9, kvs, rfl, s5, hd5, hkv⟩
      rw [List.length_map, List.take_length, ← eN] at hkv
      refine ⟨_, rfl, d, kvs, rfl, hd5, fun r nr => ?_⟩
      have s6 := same_upd (o := .lst (kvs.map fun kv => kV kv.1)) nr
      refine ⟨r, _, _, _, _, _, rfl, s3.trans (s4.trans (s5.trans s6)), s6 _ _ (s5 _ _ (s4 _ _ htp)), ?_⟩
      rw [upd_same, keys_list hkv]
  · rintro σ H3 ⟨q4, y5, y6, y7, y8, y9, rfl, s3, _, hq4⟩
    exact ⟨_, rfl, q q4 H3 _ s3 hq4 (shF_nd c arc ax) (shF_len c arc ax 3) fun d => mem_shF⟩
end
end Mv
end

section
set_option Elab.async false
set_option linter.all false
set_option maxRecDepth 100000
set_option maxHeartbeats 8000000
/-! MvE13: a call by names, _law_by_hand_right. -/
namespace Mv
open PySem PySem.Spec PyProof.Rows L2 RZ
structure ClK (P : Program) (w : World) (K : PySem.W.Frag) (mg : Str → Option Value) (base : Heap) (k : Nat) (x : Str) (ps ks : List Str) (sp : Sp) (g : List Value → List Value → List Value) (gV : List V → List V → List V) : Prop where
  ex : ∃ (f : Addr) (fd : FuncData), FnOk P w K mg base CX0 k f fd ps sp ∧ mg x = some (.ref f) ∧ PySem.W.keepIn K (.ref f) = true ∧ KBinds K fd ps ks g gV
section
variable {X : Cx} {k j : Nat} {x : Str} {sp : Sp} {ps ks : List Str} {p pos : Pos} {kws : List Keyword} {tk : TA} {g : List Value → List Value → List Value} {gV : List V → List V → List V}
theorem pe_clk (c : ClK X.prog X.w X.K X.mg X.base k x ps ks sp g gV) (hr : Room j X.A) (hk : k ≤ j) (hg : Gl X x) (hkw : PK X kws tk)
    (hall : (backToKw pos (keywordEach kws X.env)).all (·.1.isSome) = true := by rfl) (hks : (backToKw pos (keywordEach kws X.env)).filterMap (·.1) = ks := by rfl)
    (hdb : (x == ("__debug__" : Str)) = false := by decide)
    (hpl : ((backTo pos (starEach [] X.env)).any (·.1) || (backToKw pos (keywordEach kws X.env)).any (·.1.isNone)) = false := by rfl) :
    PE X (.Call (.Name x p) [] kws pos) (tCallK sp gV E0 tNil tk) := by
  obtain ⟨f, fd, F, hm, kp, b⟩ := c.ex
  refine ⟨fun pins s σ H Q I h => ?_⟩
  refine wpAny_Call_Name_kw (ld_glob I hg hm ?_ hdb)
  refine PySem.W.callWith_KW0 (h₀ := X.base) I.ok.mod.kin kp hall (thn (hkw.run pos pins s σ H _ I h) fun ws s2 ⟨zs, H2, I2, rz, q2⟩ => ⟨I2.kIn, ?_⟩) hpl
  rw [hks]
  exact run_fnk (us := []) (vs := []) F (hr.mono hk) b pass0 I2 .nil rz q2
end
def five {α : Type} : List α → List α → List α
  | [], [a, b, c, d, e] => [e, d, c, b, a]
  | _, _ => []
theorem five_len {α : Type} {us ws : List α} (h : (five us ws).length = 5) : us = [] ∧ ∃ a b c d e, ws = [a, b, c, d, e] := by
  unfold five at h
  split at h
  · exact ⟨rfl, _, _, _, _, _, rfl⟩
  · cases h
theorem five_rel {vs : List V} {us : List Value} {zs : List V} {ws : List Value} (r : Vals vs us) (z : Vals zs ws) : Vals (five vs zs) (five us ws) := by
  cases r with
  | cons r1 r2 =>
    unfold five
    exact .nil
  | nil =>
    cases z with
    | nil => exact .nil
    | cons z1 z => cases z with
      | nil => exact .nil
      | cons z2 z => cases z with
        | nil => exact .nil
        | cons z3 z => cases z with
          | nil => exact .nil
          | cons z4 z => cases z with
            | nil => exact .nil
            | cons z5 z => cases z with
              | nil => exact .cons z5 (.cons z4 (.cons z3 (.cons z2 (.cons z1 .nil))))
              | cons z6 z => exact .nil
section
variable {P : Program} {w : World} {K : PySem.W.Frag} {mg : Str → Option Value} {base : Heap}
theorem k_middles_in (c : ClF P w K mg base 6 "middles_in" s_middles_in P_middles_in (sp_middles_in K)) : ClK P w K mg base 6 "middles_in" P_middles_in ["high", "low", "shape", "stand", "chest"] (sp_middles_in K) five five := by
  obtain ⟨f, fd, F, hm, kp, G⟩ := c.ex
  obtain ⟨oc, od, kV, doc, pm, an, cdv, ct, osl, rfl, lk, hcd⟩ := G.ex
  refine ⟨f, _, F, hm, kp, ⟨fun s us ws _ hl => ?_, five_rel⟩⟩
  obtain ⟨rfl, a, b, c, d, e, rfl⟩ := five_len hl
  exact .of_eq rfl
/-! ### told by hand -/
def chkM (c h : T3) (low : Int) (n : Nat) (L : List (Int × Int)) : Bool :=
  (List.range n).all fun (i : Nat) => (List.range n).all fun (j : Nat) => decide ((low + (i : Int), low + (j : Int)) ∈ L) == decide (((low + (i : Int)) % spc c, (low + (j : Int)) % spc c) ∈ rests c homeS h)
theorem mid_list {c h : T3} {low high : Int} {L : List (Int × Int)} (n : Nat) (hn : n = (high - low + 1).toNat) (h1 : (L.all fun z => decide (low ≤ z.1 ∧ z.1 ≤ high) && decide (low ≤ z.2 ∧ z.2 ≤ high)) = true) (h2 : chkM c h low n L = true) (z : Int × Int) :
    z ∈ L ↔ InMid c homeS h low high z := by
  rw [← in_mid_iff]
  have key : (low ≤ z.1 ∧ z.1 ≤ high) → (low ≤ z.2 ∧ z.2 ≤ high) → (z ∈ L ↔ (z.1 % spc c, z.2 % spc c) ∈ rests c homeS h) := by
    intro b1 b2
    have a1 := List.all_eq_true.mp h2 (z.1 - low).toNat (List.mem_range.mpr (by omega))
    have a2 := List.all_eq_true.mp a1 (z.2 - low).toNat (List.mem_range.mpr (by omega))
    have e1 : low + ((z.1 - low).toNat : Int) = z.1 := by omega
    have e2 : low + ((z.2 - low).toNat : Int) = z.2 := by omega
    rw [e1, e2, beq_iff_eq, Bool.eq_iff_iff, decide_eq_true_iff, decide_eq_true_iff] at a2
    exact a2
  constructor
  · intro hz
    have b := List.all_eq_true.mp h1 z hz
    rw [Bool.and_eq_true, decide_eq_true_iff, decide_eq_true_iff] at b
    exact ⟨b.1, b.2, (key b.1 b.2).mp hz⟩
  · rintro ⟨b1, b2, m⟩
    exact (key b1 b2).mpr m
def lexB (p q : Int × Int) : Bool := decide (p.1 < q.1) || (decide (p.1 = q.1) && decide (p.2 < q.2))
theorem lexB_iff {p q : Int × Int} (h : lexB p q = true) : lexZ p q := by
  unfold lexB at h
  rw [Bool.or_eq_true, Bool.and_eq_true, decide_eq_true_iff, decide_eq_true_iff, decide_eq_true_iff] at h
  exact h
def srtB : List (Int × Int) → Bool
  | [] => true
  | p :: r => (r.all fun q => lexB p q) && srtB r
theorem srtB_ok : ∀ {L : List (Int × Int)}, srtB L = true → L.Pairwise lexZ
  | [], _ => .nil
  | p :: r, h => by
    have h := (Bool.and_eq_true_iff.mp h)
    exact .cons (fun q hq => lexB_iff (List.all_eq_true.mp h.1 q hq)) (srtB_ok h.2)
/-- what middles_in told is the list by hand -/
theorem told_is {c h : T3} {low high : Int} {M : List (Int × Int)} (L : List (Int × Int)) (n : Nat) (p : M.Pairwise lexZ) (m : ∀ z, z ∈ M ↔ InMid c homeS h low high z) (h0 : srtB L = true) (hn : n = (high - low + 1).toNat)
    (h1 : (L.all fun z => decide (low ≤ z.1 ∧ z.1 ≤ high) && decide (low ≤ z.2 ∧ z.2 ≤ high)) = true) (h2 : chkM c h low n L = true) : M = L :=
  lex_uniq p (srtB_ok h0) fun z => (m z).trans (mid_list n hn h1 h2 z).symm
def handL1 : List (Int × Int) := [(-2, -2), (-2, 2), (0, 0), (2, -2), (2, 2)]
def handL2 : List (Int × Int) := [(0, 0), (0, 4), (4, 0), (4, 4)]
def handL5 : List (Int × Int) := [(0, 2), (2, 0)]
def sp_by_hand : Sp := fun vs H Q _ => vs = [] ∧ ∀ H', Same H H' → Q (.bl true) H'
theorem c_by_hand (T : Txt K mg) (D : DefOk K mg "_law_by_hand_right" s__law_by_hand_right) (C_middles_in : Cl P w K mg base 6 "middles_in" P_middles_in (sp_middles_in K)) (CK_middles_in : ClK P w K mg base 6 "middles_in" P_middles_in ["high", "low", "shape", "stand", "chest"] (sp_middles_in K) five five)
    (C_home : Cl P w K mg base 1 "home" P_home (sp_home K)) (C__law_home : Cl P w K mg base 1 "_law_home" P__law_home (sp_law_home K)) (C__law_lists : Cl P w K mg base 3 "_law_lists" P__law_lists (sp_law_lists K 3)) (C__law_same : Cl P w K mg base 4 "_law_same" P__law_same (sp_law_same K 4)) : Cl P w K mg base 7 "_law_by_hand_right" P__law_by_hand_right sp_by_hand := by
  refine cl_of D (fun _ _ _ _ _ _ us hl => match us, hl with | [], _ => rfl) sc__law_by_hand_right (fun vs H Q E h => ?_) (fun f cdv A outer s H vs Q E hr h => ?_)
  · obtain ⟨rfl, _⟩ := h
    rfl
  obtain ⟨rfl, q⟩ := h
  refine ⟨_, (pss_cons (ps_set (i := 0) sc__law_by_hand_right.nd rfl (.inl rfl) (pe_lst (pa_cons (pe_cl C_middles_in hr (by omega) (by rfl) (pa_cons (pe_tup (pa_cons pe_int (pa_cons pe_int (pa_cons pe_int pa_nil)))) (pa_cons (pe_cl0 C_home hr (by omega) (by rfl)) (pa_cons (pe_tup (pa_cons pe_int (pa_cons pe_int (pa_cons pe_int pa_nil)))) (pa_cons (pe_un un_neg pe_int) (pa_cons pe_int pa_nil)))))) (pa_cons (pe_clk CK_middles_in hr (by omega) (by rfl) (pk_cons pe_int (pk_cons pe_int (pk_cons (pe_lst (pa_cons pe_int (pa_cons pe_int (pa_cons pe_int pa_nil)))) (pk_cons (pe_cl C__law_lists hr (by omega) (by rfl) (pa_cons (pe_cl0 C__law_home hr (by omega) (by rfl)) pa_nil)) (pk_cons (pe_lst (pa_cons pe_int (pa_cons pe_int (pa_cons pe_int pa_nil)))) pk_nil)))))) pa_nil))))
    (pss_cons (ps_set (i := 1) sc__law_by_hand_right.nd rfl (.inl rfl) (pe_lst (pa_cons (pe_lst (pa_cons (pe_tup (pa_cons (pe_un un_neg pe_int) (pa_cons (pe_un un_neg pe_int) pa_nil))) (pa_cons (pe_tup (pa_cons (pe_un un_neg pe_int) (pa_cons pe_int pa_nil))) (pa_cons (pe_tup (pa_cons pe_int (pa_cons pe_int pa_nil))) (pa_cons (pe_tup (pa_cons pe_int (pa_cons (pe_un un_neg pe_int) pa_nil))) (pa_cons (pe_tup (pa_cons pe_int (pa_cons pe_int pa_nil))) pa_nil)))))) (pa_cons (pe_lst (pa_cons (pe_tup (pa_cons pe_int (pa_cons pe_int pa_nil))) (pa_cons (pe_tup (pa_cons pe_int (pa_cons pe_int pa_nil))) (pa_cons (pe_tup (pa_cons pe_int (pa_cons pe_int pa_nil))) (pa_cons (pe_tup (pa_cons pe_int (pa_cons pe_int pa_nil))) pa_nil))))) pa_nil))))
    (pss_cons (ps_set (i := 0) sc__law_by_hand_right.nd rfl (.inl rfl) (pe_op op_cat (pv 0) (pe_lst (pa_cons (pe_cl C_middles_in hr (by omega) (by rfl) (pa_cons (pe_tup (pa_cons pe_int (pa_cons pe_int (pa_cons pe_int pa_nil)))) (pa_cons (pe_cl0 C_home hr (by omega) (by rfl)) (pa_cons (pe_tup (pa_cons pe_int (pa_cons pe_int (pa_cons pe_int pa_nil)))) (pa_cons pe_int (pa_cons pe_int pa_nil)))))) (pa_cons (pe_cl C_middles_in hr (by omega) (by rfl) (pa_cons (pe_tup (pa_cons pe_int (pa_cons pe_int (pa_cons pe_int pa_nil)))) (pa_cons (pe_cl0 C_home hr (by omega) (by rfl)) (pa_cons (pe_tup (pa_cons pe_int (pa_cons pe_int (pa_cons pe_int pa_nil)))) (pa_cons pe_int (pa_cons pe_int pa_nil)))))) (pa_cons (pe_cl C_middles_in hr (by omega) (by rfl) (pa_cons (pe_tup (pa_cons pe_int (pa_cons pe_int (pa_cons pe_int pa_nil)))) (pa_cons (pe_cl0 C_home hr (by omega) (by rfl)) (pa_cons (pe_tup (pa_cons pe_int (pa_cons pe_int (pa_cons pe_int pa_nil)))) (pa_cons pe_int (pa_cons pe_int pa_nil)))))) pa_nil))))))
    (pss_one (ps_ret (pe_cl C__law_same hr (by omega) (by rfl) (pa_cons (pv 0) (pa_cons (pe_op op_cat (pv 1) (pe_lst (pa_cons (pe_lst pa_nil) (pa_cons (pe_lst pa_nil) (pa_cons (pe_lst (pa_cons (pe_tup (pa_cons pe_int (pa_cons pe_int pa_nil))) (pa_cons (pe_tup (pa_cons pe_int (pa_cons pe_int pa_nil))) pa_nil))) pa_nil))))) pa_nil)))))))), ?_⟩
  refine ⟨sz (by simp), fun ca1 nca1 => ⟨rfl, fun ch1 gch1 => ⟨sz (by simp), fun cs1 ncs1 => ?_⟩⟩⟩
  have u1 := same_upd (o := .tup [.int 1, .int 1, .int 1]) nca1
  have w1 := same_upd (o := .tup [.int 0, .int 1, .int 2]) ncs1
  refine ⟨_, rfl, .ref ca1, ch1, .ref cs1, dT (1, 1, 1), dS homeS, dT (0, 1, 2), (1, 1, 1), homeS, (0, 1, 2), -2, 2, rfl, dpT_mk (t := (1, 1, 1)) (SqT.of (w1 _ _ upd_same)), Dp.same gch1 w1, dpT_mk (t := (0, 1, 2)) (SqT.of upd_same), (tupR_T 0 _).1, (tupR_S _).1, (tupR_T 0 _).1, ⟨by decide, by decide, by decide⟩, home_ok, by decide, by decide, fun r1 H1 ys1 M1 s1 e1 k1 l1 m1 => ?_⟩
  have t1 := told_is handL1 5 l1 m1 (by decide) (by decide) (by decide) (by decide +kernel)
  subst t1
  have d1 : Dp K H1 (.ref r1) (.list (handL1.map dP)) := .lst (SqL.of e1) (pairs_dp k1)
  have c1 := u1.trans (w1.trans s1)
  refine ⟨sz (by simp), fun b2 nb2 => ⟨rfl, fun hm2 Ha sa gh2 => ⟨hm2, dS homeS, dLS homeS, rfl, gh2, lstR_S _, fun ls2 Hb sb gl2 => ⟨sz (by simp), fun a2 na2 => ?_⟩⟩⟩⟩
  have w2 := same_upd (o := .lst [.int 2, .int 1, .int 0]) nb2
  have u2 := same_upd (o := .lst [.int 2, .int 4, .int 6]) na2
  refine ⟨.ref a2, ls2, .ref b2, dLT (2, 4, 6), dLS homeS, dLT (2, 1, 0), (2, 4, 6), homeS, (2, 1, 0), 0, 4, rfl, .lst (SqL.of upd_same) (.cons (.int _) (.cons (.int _) (.cons (.int _) .nil))), Dp.same gl2.dp u2, .lst (SqL.of ((sa.trans (sb.trans u2)) _ _ upd_same)) (.cons (.int _) (.cons (.int _) (.cons (.int _) .nil))), (tupR_T 0 _).2, (tupR_S _).2, (tupR_T 0 _).2, ⟨by decide, by decide, by decide⟩, home_ok, by decide, by decide, fun r2 H2 ys2 M2 s2 e2 k2 l2 m2 => ?_⟩
  have t2 := told_is handL2 5 l2 m2 (by decide) (by decide) (by decide) (by decide +kernel)
  subst t2
  have d2 : Dp K H2 (.ref r2) (.list (handL2.map dP)) := .lst (SqL.of e2) (pairs_dp k2)
  have c2 := w2.trans (sa.trans (sb.trans (u2.trans s2)))
  refine ⟨sz (by simp), fun g1 ng1 => ?_⟩
  have cg := same_upd (o := .lst [.ref r1, .ref r2]) ng1
  refine st_g (σ' := [some (.ref g1), none]) rfl ?_
  refine ⟨_, rfl, _, rfl, sz (by simp), fun p0 np0 => ?_⟩
  have zp0 := same_upd (o := .tup [.int (-2), .int (-2)]) np0
  refine ⟨_, rfl, sz (by simp), fun p1 np1 => ?_⟩
  have zp1 := same_upd (o := .tup [.int (-2), .int 2]) np1
  refine ⟨sz (by simp), fun p2 np2 => ?_⟩
  have zp2 := same_upd (o := .tup [.int 0, .int 0]) np2
  refine ⟨_, rfl, sz (by simp), fun p3 np3 => ?_⟩
  have zp3 := same_upd (o := .tup [.int 2, .int (-2)]) np3
  refine ⟨sz (by simp), fun p4 np4 => ?_⟩
  have zp4 := same_upd (o := .tup [.int 2, .int 2]) np4
  refine ⟨sz (by simp), fun q1 nq1 => ?_⟩
  have zq1 := same_upd (o := .lst [.ref p0, .ref p1, .ref p2, .ref p3, .ref p4]) nq1
  refine ⟨sz (by simp), fun p5 np5 => ?_⟩
  have zp5 := same_upd (o := .tup [.int 0, .int 0]) np5
  refine ⟨sz (by simp), fun p6 np6 => ?_⟩
  have zp6 := same_upd (o := .tup [.int 0, .int 4]) np6
  refine ⟨sz (by simp), fun p7 np7 => ?_⟩
  have zp7 := same_upd (o := .tup [.int 4, .int 0]) np7
  refine ⟨sz (by simp), fun p8 np8 => ?_⟩
  have zp8 := same_upd (o := .tup [.int 4, .int 4]) np8
  refine ⟨sz (by simp), fun q2 nq2 => ?_⟩
  have zq2 := same_upd (o := .lst [.ref p5, .ref p6, .ref p7, .ref p8]) nq2
  refine ⟨sz (by simp), fun g2 ng2 => ?_⟩
  have zg2 := same_upd (o := .lst [.ref q1, .ref q2]) ng2
  have yg2 := zg2
  have yq2 := zq2.trans yg2
  have yp8 := zp8.trans yq2
  have yp7 := zp7.trans yp8
  have yp6 := zp6.trans yp7
  have yp5 := zp5.trans yp6
  have yq1 := zq1.trans yp5
  have yp4 := zp4.trans yq1
  have yp3 := zp3.trans yp4
  have yp2 := zp2.trans yp3
  have yp1 := zp1.trans yp2
  have yp0 := zp0.trans yp1
  have dd : DpAll K _ [.ref q1, .ref q2] [.list (handL1.map dP), .list (handL2.map dP)] := .cons (.lst (SqL.of (yp5 _ _ upd_same)) (.cons (dpP_mk (t := (-2, -2)) (SqT.of (yp1 _ _ upd_same))) (.cons (dpP_mk (t := (-2, 2)) (SqT.of (yp2 _ _ upd_same))) (.cons (dpP_mk (t := (0, 0)) (SqT.of (yp3 _ _ upd_same))) (.cons (dpP_mk (t := (2, -2)) (SqT.of (yp4 _ _ upd_same))) (.cons (dpP_mk (t := (2, 2)) (SqT.of (yq1 _ _ upd_same))) (.nil))))))) (.cons (.lst (SqL.of (yg2 _ _ upd_same)) (.cons (dpP_mk (t := (0, 0)) (SqT.of (yp6 _ _ upd_same))) (.cons (dpP_mk (t := (0, 4)) (SqT.of (yp7 _ _ upd_same))) (.cons (dpP_mk (t := (4, 0)) (SqT.of (yp8 _ _ upd_same))) (.cons (dpP_mk (t := (4, 4)) (SqT.of (yq2 _ _ upd_same))) (.nil)))))) .nil)
  refine st_g (σ' := [some (.ref g1), some (.ref g2)]) rfl ?_
  refine ⟨_, rfl, ?_⟩
  refine ⟨sz (by simp), fun ca3 nca3 => ⟨rfl, fun ch3 gch3 => ⟨sz (by simp), fun cs3 ncs3 => ?_⟩⟩⟩
  have u3 := same_upd (o := .tup [.int 3, .int 2, .int 5]) nca3
  have w3 := same_upd (o := .tup [.int 0, .int 1, .int 2]) ncs3
  refine ⟨.ref ca3, ch3, .ref cs3, dT (3, 2, 5), dS homeS, dT (0, 1, 2), (3, 2, 5), homeS, (0, 1, 2), 5, 1, rfl, dpT_mk (t := (3, 2, 5)) (SqT.of (w3 _ _ upd_same)), Dp.same gch3 w3, dpT_mk (t := (0, 1, 2)) (SqT.of upd_same), (tupR_T 0 _).1, (tupR_S _).1, (tupR_T 0 _).1, ⟨by decide, by decide, by decide⟩, home_ok, by decide, by decide, fun r3 H3 ys3 M3 s3 e3 k3 l3 m3 => ?_⟩
  have t3 := told_is [] 0 l3 m3 (by decide) (by decide) (by decide) (by decide +kernel)
  subst t3
  have d3 : Dp K H3 (.ref r3) (.list ([].map dP)) := .lst (SqL.of e3) (pairs_dp k3)
  have c3 := u3.trans (w3.trans s3)
  refine ⟨sz (by simp), fun ca4 nca4 => ⟨rfl, fun ch4 gch4 => ⟨sz (by simp), fun cs4 ncs4 => ?_⟩⟩⟩
  have u4 := same_upd (o := .tup [.int 2, .int 4, .int 6]) nca4
  have w4 := same_upd (o := .tup [.int 2, .int 1, .int 0]) ncs4
  refine ⟨.ref ca4, ch4, .ref cs4, dT (2, 4, 6), dS homeS, dT (2, 1, 0), (2, 4, 6), homeS, (2, 1, 0), 1, 3, rfl, dpT_mk (t := (2, 4, 6)) (SqT.of (w4 _ _ upd_same)), Dp.same gch4 w4, dpT_mk (t := (2, 1, 0)) (SqT.of upd_same), (tupR_T 0 _).1, (tupR_S _).1, (tupR_T 0 _).1, ⟨by decide, by decide, by decide⟩, home_ok, by decide, by decide, fun r4 H4 ys4 M4 s4 e4 k4 l4 m4 => ?_⟩
  have t4 := told_is [] 3 l4 m4 (by decide) (by decide) (by decide) (by decide +kernel)
  subst t4
  have d4 : Dp K H4 (.ref r4) (.list ([].map dP)) := .lst (SqL.of e4) (pairs_dp k4)
  have c4 := u4.trans (w4.trans s4)
  refine ⟨sz (by simp), fun ca5 nca5 => ⟨rfl, fun ch5 gch5 => ⟨sz (by simp), fun cs5 ncs5 => ?_⟩⟩⟩
  have u5 := same_upd (o := .tup [.int 1, .int 3, .int 5]) nca5
  have w5 := same_upd (o := .tup [.int 2, .int 1, .int 0]) ncs5
  refine ⟨.ref ca5, ch5, .ref cs5, dT (1, 3, 5), dS homeS, dT (2, 1, 0), (1, 3, 5), homeS, (2, 1, 0), 0, 2, rfl, dpT_mk (t := (1, 3, 5)) (SqT.of (w5 _ _ upd_same)), Dp.same gch5 w5, dpT_mk (t := (2, 1, 0)) (SqT.of upd_same), (tupR_T 0 _).1, (tupR_S _).1, (tupR_T 0 _).1, ⟨by decide, by decide, by decide⟩, home_ok, by decide, by decide, fun r5 H5 ys5 M5 s5 e5 k5 l5 m5 => ?_⟩
  have t5 := told_is handL5 3 l5 m5 (by decide) (by decide) (by decide) (by decide +kernel)
  subst t5
  have d5 : Dp K H5 (.ref r5) (.list (handL5.map dP)) := .lst (SqL.of e5) (pairs_dp k5)
  have c5 := u5.trans (w5.trans s5)
  refine ⟨sz (by simp), fun g3 ng3 => ?_⟩
  have z3 := same_upd (o := .lst [.ref r3, .ref r4, .ref r5]) ng3
  have c345 := c3.trans (c4.trans (c5.trans z3))
  refine ⟨g1, g3, _, _, rfl, rfl, (yp0.trans c345) _ _ upd_same, upd_same, sz (by simp), fun g4 ng4 => ?_⟩
  have z4 := same_upd (o := .lst ([.ref r1, .ref r2] ++ [.ref r3, .ref r4, .ref r5])) ng4
  refine st_g (σ' := [some (.ref g4), some (.ref g2)]) rfl ?_
  have c34 := c345.trans z4
  -- the rest of what is due
  refine ⟨_, rfl, _, rfl, sz (by simp), fun f3 nf3 => ⟨sz (by simp), fun f4 nf4 => ⟨sz (by simp), fun x1 nx1 => ⟨sz (by simp), fun x2 nx2 => ⟨sz (by simp), fun f5 nf5 => ⟨sz (by simp), fun g5 ng5 => ?_⟩⟩⟩⟩⟩⟩
  have v1 := same_upd (o := .lst []) nf3
  have v2 := same_upd (o := .lst []) nf4
  have v3 := same_upd (o := .tup [.int 0, .int 2]) nx1
  have v4 := same_upd (o := .tup [.int 2, .int 0]) nx2
  have v5 := same_upd (o := .lst [.ref x1, .ref x2]) nf5
  have v6 := same_upd (o := .lst [.ref f3, .ref f4, .ref f5]) ng5
  have b5 := v5.trans v6
  have b4 := v4.trans b5
  have b3 := v3.trans b4
  have b2' := v2.trans b3
  have b1 := v1.trans b2'
  refine ⟨g2, g5, _, _, rfl, rfl, (c34.trans b1) _ _ upd_same, upd_same, sz (by simp), fun g6 ng6 => ?_⟩
  have v7 := same_upd (o := .lst ([.ref q1, .ref q2] ++ [.ref f3, .ref f4, .ref f5])) ng6
  refine ⟨.ref g4, .ref g6, .list [.list (handL1.map dP), .list (handL2.map dP), .list [], .list [], .list (handL5.map dP)], .list [.list (handL1.map dP), .list (handL2.map dP), .list [], .list [], .list (handL5.map dP)], true, rfl, ?_, ?_, ?_, fun H9 s9 => ?_⟩
  · have B := b1.trans v7
    have A := z3.trans (z4.trans B)
    exact .lst (SqL.of (B _ _ upd_same)) (.cons (Dp.same d1 (c2.trans (cg.trans (yp0.trans (c34.trans B))))) (.cons (Dp.same d2 (cg.trans (yp0.trans (c34.trans B)))) (.cons (Dp.same d3 (c4.trans (c5.trans A))) (.cons (Dp.same d4 (c5.trans A)) (.cons (Dp.same d5 A) .nil)))))
  · have E := v6.trans v7
    refine .lst (SqL.of upd_same) (dpAll_app (.cons (.lst (SqL.of ((b2'.trans v7) _ _ upd_same)) .nil) (.cons (.lst (SqL.of ((b3.trans v7) _ _ upd_same)) .nil) (.cons (.lst (SqL.of (E _ _ upd_same)) (.cons (dpP_mk (t := (0, 2)) (SqT.of ((b4.trans v7) _ _ upd_same))) (.cons (dpP_mk (t := (2, 0)) (SqT.of ((b5.trans v7) _ _ upd_same))) .nil))) .nil))) (DpAll.same dd (c34.trans (b1.trans v7))))
  · refine sm_list (by decide) fun d hd => ?_
    simp only [List.mem_cons, List.not_mem_nil, or_false] at hd
    rcases hd with rfl | rfl | rfl | rfl | rfl
    · exact sm_pairs (by decide)
    · exact sm_pairs (by decide)
    · exact sm_pairs (ms := []) (by decide)
    · exact sm_pairs (ms := []) (by decide)
    · exact sm_pairs (by decide)
  · exact q H9 (c1.trans (c2.trans (cg.trans (yp0.trans (c34.trans (b1.trans (v7.trans s9)))))))
end
end Mv
end

section
set_option Elab.async false
set_option linter.all false
set_option maxRecDepth 100000
set_option maxHeartbeats 4000000
/-! MvP: plain facts for the law's own body. -/
namespace Mv
open PySem PySem.Spec PyProof.Rows L2 RZ
theorem nd_len : ∀ (n : Nat) {l : List Int} {lo : Int}, l.Nodup → (∀ x ∈ l, lo ≤ x ∧ x < lo + (n : Int)) → l.length ≤ n
  | 0, l, lo, _, h => by
    cases l with
    | nil => exact Nat.le_refl _
    | cons x r => have := h x (by simp); omega
  | n + 1, l, lo, nd, h => by
    have h2 := nd_len n (l := l.erase (lo + (n : Int))) (lo := lo) (nd.erase _) fun x hx => by
      have m := (nd.mem_erase_iff).mp hx
      have b := h x m.2
      have := m.1
      omega
    have e := List.length_erase (a := lo + (n : Int)) (l := l)
    split at e <;> omega
theorem box_len {M : List (Int × Int)} {lo hi : Int} (p : M.Pairwise lexZ) (h : ∀ z ∈ M, (lo ≤ z.1 ∧ z.1 ≤ hi) ∧ (lo ≤ z.2 ∧ z.2 ≤ hi)) (b : hi - lo ≤ 48) : M.length ≤ 2401 := by
  have nd : (M.map fun z => (z.1 - lo) * 49 + (z.2 - lo)).Nodup := by
    refine List.pairwise_map.mpr (List.Pairwise.imp_of_mem (fun {a b} ha hb r => ?_) p)
    have h1 := h a ha
    have h2 := h b hb
    intro e
    rcases r with r | ⟨r1, r2⟩ <;> omega
  have l := nd_len 2401 nd (lo := 0) fun x hx => by
    obtain ⟨z, hz, rfl⟩ := List.mem_map.mp hx
    have h1 := h z hz
    omega
  rw [List.length_map] at l
  exact l
/-! ### keys put in a dict -/
def insA {α : Type} [DecidableEq α] (L : List α) (x : α) : List α := if x ∈ L then L else L ++ [x]
theorem insA_mem {α : Type} [DecidableEq α] {L : List α} {x y : α} : y ∈ insA L x ↔ y ∈ L ∨ y = x := by
  unfold insA
  split
  · rename_i h
    exact ⟨.inl, fun u => u.elim id fun e => e ▸ h⟩
  · rw [List.mem_append, List.mem_singleton]
theorem insA_nd {α : Type} [DecidableEq α] {L : List α} {x : α} (h : L.Nodup) : (insA L x).Nodup := by
  unfold insA
  split
  · exact h
  · rename_i hx
    refine List.nodup_append.mpr ⟨h, by simp, fun a ha b hb e => ?_⟩
    rw [List.mem_singleton] at hb
    exact hx (hb ▸ e ▸ ha)
theorem insA_len {α : Type} [DecidableEq α] {L : List α} {x : α} : (insA L x).length ≤ L.length + 1 := by
  unfold insA
  split
  · omega
  · rw [List.length_append, List.length_singleton]; omega
def kz (z : Int × Int) : List Key := [Sum.inl z.1, Sum.inl z.2]
theorem kz_inj {z u : Int × Int} (h : kz z = kz u) : z = u := by
  obtain ⟨a, b⟩ := z
  obtain ⟨c, d⟩ := u
  have h1 := (List.cons.inj h).1
  have h2 := (List.cons.inj (List.cons.inj h).2).1
  have e1 : a = c := Sum.inl.inj h1
  have e2 : b = d := Sum.inl.inj h2
  rw [e1, e2]
theorem put_keysT {kvs : List (List Key × V)} {L : List (Int × Int)} {x : Int × Int} {v : V} (h : kvs.map (·.1) = L.map kz) : (putK kvs (kz x) v).map (·.1) = (insA L x).map kz := by
  unfold putK insA
  have e : (kvs.any fun kv => decide (kv.1 = kz x)) = true ↔ x ∈ L := by
    rw [List.any_eq_true]
    constructor
    · rintro ⟨kv, hm, hk⟩
      have hk := of_decide_eq_true hk
      have : kv.1 ∈ kvs.map (·.1) := List.mem_map.mpr ⟨kv, hm, rfl⟩
      rw [h, hk] at this
      obtain ⟨y, hy, e⟩ := List.mem_map.mp this
      exact kz_inj e ▸ hy
    · intro hx
      have : kz x ∈ kvs.map (·.1) := by rw [h]; exact List.mem_map.mpr ⟨x, hx, rfl⟩
      obtain ⟨kv, hm, e⟩ := List.mem_map.mp this
      exact ⟨kv, hm, decide_eq_true e⟩
  by_cases hx : x ∈ L
  · rw [if_pos (e.mpr hx), if_pos hx, ← h, List.map_map]
    refine List.map_congr_left fun kv _ => ?_
    show (if kv.1 = kz x then (kv.1, v) else kv).1 = kv.1
    split <;> rfl
  · rw [if_neg (fun z => hx (e.mp z)), if_neg hx, List.map_append, List.map_append, h]
    rfl
/-! ### what the law finds -/
def Good (c : T3) (arc : List Int) (m : Int × Int) (low high : Int) (z : Int × Int) : Prop := (low ≤ z.1 ∧ z.1 ≤ high ∧ Shift c arc 0 (z.1 - m.1)) ∧ (low ≤ z.2 ∧ z.2 ≤ high ∧ Shift c arc 1 (z.2 - m.2))
theorem found_iff {c : T3} (hc : Box c) {S : Stand} {h : T3} {low high : Int} (l1 : low ≤ (mid c S).1 ∧ (mid c S).1 - low ≤ 27) (l2 : low ≤ (mid c S).2 ∧ (mid c S).2 - low ≤ 27) (hh : high - low ≤ 8) (z : Int × Int) :
    (∃ arc ∈ arcs2 S.1 h, Good c arc (mid c S) low high z) ↔ InMid c S h low high z := by
  unfold Good InMid
  constructor
  · rintro ⟨arc, ha, ⟨a1, a2, a3⟩, b1, b2, b3⟩
    refine ⟨⟨a1, a2⟩, ⟨b1, b2⟩, arc, ha, ?_, ?_⟩
    · exact (shift_iff hc arc (.inl rfl) (by omega) (by omega)).mp a3
    · exact (shift_iff hc arc (.inr rfl) (by omega) (by omega)).mp b3
  · rintro ⟨⟨a1, a2⟩, ⟨b1, b2⟩, arc, ha, q1, q2⟩
    refine ⟨arc, ha, ⟨a1, a2, ?_⟩, b1, b2, ?_⟩
    · exact (shift_iff hc arc (.inl rfl) (by omega) (by omega)).mpr q1
    · exact (shift_iff hc arc (.inr rfl) (by omega) (by omega)).mpr q2
def inB (low high x : Int) : Bool := decide (low ≤ x) && decide (x ≤ high)
def offs (m low high : Int) (L : List Int) : List Int := (L.map fun d => d + m).filter (inB low high)
theorem offs_snoc (m low high : Int) (L : List Int) (d : Int) : offs m low high (L ++ [d]) = offs m low high L ++ (if inB low high (d + m) = true then [d + m] else []) := by
  unfold offs
  rw [List.map_append, List.filter_append]
  congr 1
  show List.filter (inB low high) [d + m] = _
  by_cases h : inB low high (d + m) = true
  · rw [if_pos h, List.filter_cons_of_pos h]; rfl
  · rw [if_neg h, List.filter_cons_of_neg h]; rfl
theorem offs_len (m low high : Int) (L : List Int) : (offs m low high L).length ≤ L.length := by
  unfold offs
  refine Nat.le_trans (List.length_filter_le _ _) ?_
  rw [List.length_map]
  exact Nat.le_refl _
theorem mem_offs {m low high : Int} {L : List Int} {x : Int} : x ∈ offs m low high L ↔ low ≤ x ∧ x ≤ high ∧ x - m ∈ L := by
  unfold offs inB
  rw [List.mem_filter, List.mem_map, Bool.and_eq_true, decide_eq_true_iff, decide_eq_true_iff]
  constructor
  · rintro ⟨⟨d, hd, rfl⟩, h1, h2⟩
    exact ⟨h1, h2, by rw [show d + m - m = d by omega]; exact hd⟩
  · rintro ⟨h1, h2, h3⟩
    exact ⟨⟨x - m, h3, by omega⟩, h1, h2⟩
theorem offs_nd {m low high : Int} {L : List Int} (h : L.Nodup) : (offs m low high L).Nodup := by
  unfold offs
  refine List.Pairwise.filter _ ?_
  refine List.pairwise_map.mpr (List.Pairwise.imp (fun {a b} (ne : a ≠ b) (e : a + m = b + m) => ne ?_) h)
  omega
theorem offs_len9 {m low high : Int} {L : List Int} (h : L.Nodup) (hh : high - low ≤ 8) : (offs m low high L).length ≤ 9 :=
  nd_len 9 (offs_nd h) (lo := low) fun x hx => by
    have := mem_offs.mp hx
    omega
/-! ### data -/
theorem sdPs (zs : List (Int × Int)) : SeqAt.shaped (.list (zs.map dP)) = true := by
  have h1 : PyData.depthAll (zs.map dP) ≤ 2 := by
    induction zs with
    | nil => simp [PyData.depthAll]
    | cons z zs ih =>
      rw [List.map_cons]
      have : PyData.depth (dP z) ≤ 2 := by simp [dP, PyData.depth, PyData.depthAll]
      simp only [PyData.depthAll]
      omega
  have h2 : PyData.canLayAll0 (zs.map dP) = true := by
    induction zs with
    | nil => simp [PyData.canLayAll0]
    | cons z zs ih =>
      have := ih (by
        rw [List.map_cons] at h1
        simp only [PyData.depthAll] at h1
        omega)
      rw [List.map_cons]
      simp only [PyData.canLayAll0, this, Bool.and_true]
      simp [dP, PyData.canLay0, PyData.canLayAll0]
  have h : PyData.depth (.list (zs.map dP)) ≤ 64 := by
    simp only [PyData.depth]
    omega
  show (PyData.canLay0 (.list (zs.map dP)) && decide (PyData.depth (.list (zs.map dP)) ≤ 64)) = true
  rw [Bool.and_eq_true]
  exact ⟨by simpa only [PyData.canLay0] using h2, decide_eq_true h⟩
theorem sm_pair2 (z u : Int × Int) : Sm 2 (dP z) (dP u) (decide (z.1 = u.1) && decide (z.2 = u.2)) := by
  refine .inr ⟨_, _, [decide (z.1 = u.1), decide (z.2 = u.2)], .inr ⟨rfl, rfl⟩, rfl, rfl, by show 2 ≤ 5000; decide, fun i x y hx hy => ?_, by simp [List.all_cons]⟩
  have hi : i < 2 := (List.getElem?_eq_some_iff.mp hx).1
  have : i = 0 ∨ i = 1 := by omega
  rcases this with rfl | rfl
  · cases hx; cases hy; exact ⟨_, rfl, .inl ⟨_, _, rfl, rfl, rfl⟩⟩
  · cases hx; cases hy; exact ⟨_, rfl, .inl ⟨_, _, rfl, rfl, rfl⟩⟩
theorem picks {K : PySem.W.Frag} {mv : List Move} {H H' : Hp} {xs : List V} (ha : DpAll K H xs (mv.map dM)) (n : SameN H H') : ∀ {zs : List V}, (∀ z ∈ zs, z ∈ xs) → ∃ ms : List Move, DpAll K H' zs (ms.map dM) ∧ ms.length = zs.length ∧ ∀ m ∈ ms, m ∈ mv
  | [], _ => ⟨[], .nil, rfl, fun _ h => absurd h (by simp)⟩
  | z :: zs, h => by
    obtain ⟨ms, m1, m2, m3⟩ := picks ha n (zs := zs) fun u hu => h u (List.mem_cons_of_mem _ hu)
    obtain ⟨i, hi⟩ := List.mem_iff_getElem?.mp (h z (List.mem_cons_self ..))
    obtain ⟨d, hd, dz⟩ := dpAll_at ha hi
    obtain ⟨m, hm, rfl⟩ := at_map hd
    refine ⟨m :: ms, .cons (dpM_n dz n) m1, by simp [m2], fun u hu => ?_⟩
    rcases List.mem_cons.mp hu with rfl | hu
    · exact List.mem_of_getElem? hm
    · exact m3 u hu
theorem pick_pose {K : PySem.W.Frag} {H H' : Hp} {xs : List V} {x : V} (ha : DpAll K H xs (ring.map dT)) (n : SameN H H') (h : x ∈ xs) : ∃ t, t ∈ ring ∧ Dp K H' x (dT t) := by
  obtain ⟨i, hi⟩ := List.mem_iff_getElem?.mp h
  obtain ⟨d, hd, dz⟩ := dpAll_at ha hi
  obtain ⟨t, ht, rfl⟩ := at_map hd
  exact ⟨t, List.mem_of_getElem? ht, dpT_n dz n⟩
end Mv
end

section
set_option Elab.async false
set_option linter.all false
set_option maxRecDepth 100000
set_option maxHeartbeats 16000000
/-! MvE14: the law's own body. -/
namespace Mv
open PySem PySem.Spec PyProof.Rows L2 RZ
theorem SameX.nT {t : Addr} {H H' : Hp} {xs : List (List Key × V)} (e : SameX t H H') (h : H t = some (.dT xs)) : SameN H H' := fun b o hb f => e b o (fun z => by rw [z, h] at hb; cases hb; exact f) hb
def eqm (m z : Int × Int) : Bool := decide (z.1 = m.1) && decide (z.2 = m.2)
section
variable {P : Program} {w : World} {K : PySem.W.Frag} {mg : Str → Option Value} {base : Heap}
theorem dpI_n {H H' : Hp} {v : V} {ns : List Int} (h : Dp K H v (dI ns)) (e : SameN H H') : Dp K H' v (dI ns) := by
  obtain ⟨a, rfl, hs⟩ := dpI_inv h
  exact dpI_mk (e.sqT hs)
def spLaw (K : PySem.W.Frag) : Sp := fun vs H Q _ => ∃ (a : Addr) (ns : List Int), vs = [.ref a] ∧ SqL K H a (ns.map V.int) ∧ ns.length ≤ 63 ∧ ∀ H', Q (.bl true) H'
theorem law_body (T : Txt K mg) (C__law_by_hand_right : Cl P w K mg base 7 "_law_by_hand_right" P__law_by_hand_right sp_by_hand)
    (C__law_box : Cl P w K mg base 1 "_law_box" P__law_box (sp_law_box K)) (C__law_cells : Cl P w K mg base 1 "_law_cells" P__law_cells (sp_law_cells K)) (C__law_take : Cl P w K mg base 1 "_law_take" P__law_take sp_law_take)
    (C__law_behind : Cl P w K mg base 4 "_law_behind" P__law_behind (sp_law_behind K)) (C__law_home : Cl P w K mg base 1 "_law_home" P__law_home (sp_law_home K)) (C__law_walk : Cl P w K mg base 3 "_law_walk" P__law_walk sp_law_walk)
    (C__law_tips : Cl P w K mg base 1 "_law_tips" P__law_tips (sp_moves K tips4)) (C__law_turns : Cl P w K mg base 1 "_law_turns" P__law_turns (sp_moves K (turnsP ++ turnsN))) (C__law_of : Cl P w K mg base 2 "_law_of" P__law_of (sp_law_of K))
    (C__law_poses : Cl P w K mg base 1 "_law_poses" P__law_poses (sp_law_poses K)) (C__law_mid : Cl P w K mg base 1 "_law_mid" P__law_mid (sp_middle_in K)) (C__law_arcs : Cl P w K mg base 2 "_law_arcs" P__law_arcs (sp_arcs_in K))
    (C__law_shifts : Cl P w K mg base 3 "_law_shifts" P__law_shifts (sp_law_shifts K)) (C_middles_in : Cl P w K mg base 6 "middles_in" P_middles_in (sp_middles_in K)) (C__law_lists : Cl P w K mg base 3 "_law_lists" P__law_lists (sp_law_lists K 3))
    (C__law_same : Cl P w K mg base 3 "_law_same" P__law_same (sp_law_same K 3)) (f : Addr) (cdv : Value) (A : Around) (outer : List Env) (s : Shared) (H : Hp) (vs : List V) (Q : VK) (E : XK)
    (hr : Room 29 (A.deeper (envOfC "law" (defScope s_law) s.heap.objs.size f cdv))) (h : spLaw K vs H Q E) :
    ∃ t, PSs (cxOf CX0 P w K mg base N_law "law" (defScope s_law) f cdv A outer s H E).nox (defBody s_law) t ∧ t { nx := fun _ H' => Q .non H', rt := Q } (start N_law vs) H := by
  obtain ⟨a, ns, rfl, hs, hl, q⟩ := h
  refine ⟨_, (pss_cons (ps_if (pt_not (pt_val (pe_cl0 C__law_by_hand_right hr (by omega) (by rfl)))) (pss_one (ps_ret pe_bl)) pss_nil)
    (pss_cons (ps_set (i := 1) sc_law.nd rfl (.inr rfl) (pe_cl C__law_box hr (by omega) (by rfl) (pa_cons (pe_cl C__law_cells hr (by omega) (by rfl) (pa_cons (pv 0) (pa_cons pe_int pa_nil))) (pa_cons pe_int pa_nil))))
    (pss_cons (ps_set (i := 2) sc_law.nd rfl (.inl rfl) (pe_callTy call_tuple_of (by rfl) T.z_tuple (by decide +kernel) (pa_cons (pe_lc (own := [("_law_lap", 18)]) (by rfl) sc_law.nd (pi_range1 (by rfl) T.z_range (pa_cons pe_int pa_nil)) (blkOk_by (N := N_law) (sc := defScope s_law) (by decide +kernel)) (fun _ _ _ _ _ => (pg_name (i := 18) sc_law.nd rfl (.inl rfl))) (fun _ _ _ _ _ => pts_nil) (fun _ _ _ _ _ => (pe_op op_add pe_int (pe_cl C__law_take hr (by omega) (by rfl) (pa_cons (pv 1) (pa_cons pe_int pa_nil)))))) pa_nil)))
    (pss_cons (ps_par (i := 3) (j := 4) rfl sc_law.nd rfl rfl (by decide) rfl rfl (pa_cons (pe_cl C__law_behind hr (by omega) (by rfl) (pa_cons (pe_cl0 C__law_home hr (by omega) (by rfl)) (pa_cons (pe_cl C__law_walk hr (by omega) (by rfl) (pa_cons (pv 1) (pa_cons (pe_cl C__law_take hr (by omega) (by rfl) (pa_cons (pv 1) (pa_cons pe_int pa_nil))) (pa_cons (pe_op op_cat (pe_cl0 C__law_tips hr (by omega) (by rfl)) (pe_cl0 C__law_turns hr (by omega) (by rfl))) pa_nil)))) pa_nil))) (pa_cons (pe_cl C__law_of hr (by omega) (by rfl) (pa_cons (pv 1) (pa_cons (pe_cl0 C__law_poses hr (by omega) (by rfl)) pa_nil))) pa_nil)) (by rfl))
    (pss_cons (ps_asg (pe_tup (pa_cons (pe_cl C__law_mid hr (by omega) (by rfl) (pa_cons (pv 2) (pa_cons (pv 3) pa_nil))) (pa_cons pe_dnewT pa_nil))) (pg_tup rfl (pgs_cons (pg_name (i := 5) sc_law.nd rfl (.inr rfl)) (pgs_cons (pg_name (i := 6) sc_law.nd rfl (.inl rfl)) pgs_nil))))
    (pss_cons (ps_set (i := 7) sc_law.nd rfl (.inr rfl) (pe_op op_sub (pe_callB (cr_minT rfl) (by rfl) T.z_min (by decide +kernel) (pa_cons (pv 5) pa_nil)) (pe_cl C__law_take hr (by omega) (by rfl) (pa_cons (pv 1) (pa_cons pe_int pa_nil)))))
    (pss_cons (ps_set (i := 8) sc_law.nd rfl (.inr rfl) (pe_op op_add (pe_op op_add (pv 7) pe_int) (pe_cl C__law_take hr (by omega) (by rfl) (pa_cons (pv 1) (pa_cons pe_int pa_nil)))))
    (pss_cons (ps_for PassesOwn.never rfl (pi_tup (pe_cl C__law_arcs hr (by omega) (by rfl) (pa_cons (pe_ix (r := rIxT K) ix_tup (pv 3) pe_int (fun _ _ => rfl)) (pa_cons (pv 4) pa_nil)))) (pg_name (i := 9) sc_law.nd rfl (.inl rfl)) (pss_cons (ps_setLc (i := 10) (own := [("_law_own", 19)]) (by rfl) sc_law.nd rfl rfl (sw_true rfl rfl rfl (by decide +kernel)) (pi_list (pe_cl C__law_shifts hr (by omega) (by rfl) (pa_cons (pv 2) (pa_cons (pv 9) (pa_cons pe_int (pa_cons pe_int pa_nil)))))) (blkOk_by (N := N_law) (sc := defScope s_law) (by decide +kernel)) (fun _ _ _ _ _ => (pg_name (i := 19) sc_law.nd rfl (.inl rfl))) (fun _ _ _ _ _ => (pts_one (pt_chain op_le op_le (pv 7) (pe_op op_add (pv 19) (pe_ix (r := rIxT K) ix_tup (pv 5) pe_int (fun _ _ => rfl))) (pv 8)))) (fun _ _ _ _ _ => (pe_op op_add (pv 19) (pe_ix (r := rIxT K) ix_tup (pv 5) pe_int (fun _ _ => rfl)))))
    (pss_cons (ps_setLc (i := 11) (own := [("_law_own", 19)]) (by rfl) sc_law.nd rfl rfl (sw_true rfl rfl rfl (by decide +kernel)) (pi_list (pe_cl C__law_shifts hr (by omega) (by rfl) (pa_cons (pv 2) (pa_cons (pv 9) (pa_cons pe_int (pa_cons pe_int pa_nil)))))) (blkOk_by (N := N_law) (sc := defScope s_law) (by decide +kernel)) (fun _ _ _ _ _ => (pg_name (i := 19) sc_law.nd rfl (.inl rfl))) (fun _ _ _ _ _ => (pts_one (pt_chain op_le op_le (pv 7) (pe_op op_add (pv 19) (pe_ix (r := rIxT K) ix_tup (pv 5) pe_int (fun _ _ => rfl))) (pv 8)))) (fun _ _ _ _ _ => (pe_op op_add (pv 19) (pe_ix (r := rIxT K) ix_tup (pv 5) pe_int (fun _ _ => rfl)))))
    (pss_one (ps_for PassesOwn.never rfl (pi_list (pv 10)) (pg_name (i := 12) sc_law.nd rfl (.inl rfl)) (pss_one (ps_for PassesOwn.never rfl (pi_list (pv 11)) (pg_name (i := 13) sc_law.nd rfl (.inl rfl)) (pss_one (ps_dput (units1 hr) (pv 6) (pe_tup (pa_cons (pv 12) (pa_cons (pv 13) pa_nil))) pe_bl rfl)))))))))
    (pss_cons (ps_set (i := 14) sc_law.nd rfl (.inl rfl) (pe_cl C_middles_in hr (by omega) (by rfl) (pa_cons (pe_cl C__law_lists hr (by omega) (by rfl) (pa_cons (pv 2) pa_nil)) (pa_cons (pe_cl C__law_lists hr (by omega) (by rfl) (pa_cons (pv 3) pa_nil)) (pa_cons (pv 4) (pa_cons (pv 7) (pa_cons (pv 8) pa_nil)))))))
    (pss_cons (ps_if (pt_not (pt_val (pe_cl C__law_same hr (by omega) (by rfl) (pa_cons (pv 14) (pa_cons (pe_callB (cr_sortDT rfl) (by rfl) T.z_sorted (by decide +kernel) (pa_cons (pv 6) pa_nil)) pa_nil))))) (pss_one (ps_ret pe_bl)) pss_nil)
    (pss_cons (ps_set (i := 15) sc_law.nd rfl (.inl rfl) (pe_cl C__law_behind hr (by omega) (by rfl) (pa_cons (pv 3) (pa_cons (pe_cl C__law_walk hr (by omega) (by rfl) (pa_cons (pv 1) (pa_cons pe_int (pa_cons (pe_cl0 C__law_tips hr (by omega) (by rfl)) pa_nil)))) pa_nil))))
    (pss_cons (ps_set (i := 16) sc_law.nd rfl (.inr rfl) (pe_cl C__law_mid hr (by omega) (by rfl) (pa_cons (pv 2) (pa_cons (pv 15) pa_nil))))
    (pss_cons (ps_set (i := 17) sc_law.nd rfl (.inl rfl) (pe_cl C_middles_in hr (by omega) (by rfl) (pa_cons (pv 2) (pa_cons (pv 3) (pa_cons (pe_ix (r := rIxT K) ix_tup (pv 15) pe_int (fun _ _ => rfl)) (pa_cons (pe_callB (cr_minT rfl) (by rfl) T.z_min (by decide +kernel) (pa_cons (pv 16) pa_nil)) (pa_cons (pe_callB (cr_maxT rfl) (by rfl) T.z_max (by decide +kernel) (pa_cons (pv 16) pa_nil)) pa_nil)))))))
    (pss_one (ps_ret (pe_and (pe_callB call_isi (by rfl) T.z_isinstance (by decide +kernel) (pa_cons (pv 17) (pa_cons (pe_bltn (v := .ty "list") (by rfl) T.z_list (by decide +kernel) rfl) pa_nil))) (pe_one (pe_cmpR (r := rNeD K) (op_neD hr.units) (pe_lc (own := [("_law_own", 19)]) (by rfl) sc_law.nd (pi_list (pv 17)) (blkOk_by (N := N_law) (sc := defScope s_law) (by decide +kernel)) (fun _ _ _ _ _ => (pg_name (i := 19) sc_law.nd rfl (.inl rfl))) (fun _ _ _ _ _ => (pts_one (pt_val (pe_cl C__law_same hr (by omega) (by rfl) (pa_cons (pv 19) (pa_cons (pv 16) pa_nil)))))) (fun _ _ _ _ _ => (pv 19))) (pe_lst pa_nil) (nomark _))))))))))))))))))), ?_⟩
  -- the counts told by hand
  refine ⟨rfl, fun H1 s1 => ⟨true, rfl, iteF ?_⟩⟩
  -- the source of draws
  refine ⟨_, rfl, a, ns, rfl, s1.seq hs, hl, fun r z H2 s2 nr hr2 => ⟨r, z, rfl, SqL.of hr2, fun t ys nt hy => ?_⟩⟩
  have ht3 : (upd H2 t (.lst ys)) t = some (.lst ys) := upd_same
  generalize upd H2 t (.lst ys) = H3 at *
  refine st_g (σ' := [some (.ref a), some (.ref t), none, none, none, none, none, none, none, none, none, none, none, none, none, none, none, none, none, none]) rfl ?_
  -- the CHEST
  refine ⟨3, rfl, by decide, by decide, fun D nD => ?_⟩
  have ntD : t ≠ D := fun e => by rw [← e, ht3] at nD; cases nD
  refine lc_range (lo := 0) (n := 3) (fun i Hc => ∃ ys' acc, SameX t H3 Hc ∧ Hc t = some (.lst ys') ∧ TinOk ys' i ∧ Hc D = some (.lst (acc.map V.int)) ∧ acc.length = i ∧ ∀ z ∈ acc, (1 : Int) ≤ z ∧ z ≤ 4)
    ⟨ys, [], sameX_of (same_upd nD), (same_upd nD) _ _ ht3, hy, upd_same, rfl, fun _ z => absurd z (by simp)⟩ (fun i Hc hi pv => ?_) (fun Hc pv => ?_)
  · obtain ⟨ys', acc, sx, htc, hyc, hDc, la, hm⟩ := pv
    refine ⟨rfl, ?_⟩
    refine ⟨_, rfl, t, 4, ys', i, rfl, htc, hyc, by omega, ⟨by decide, by decide⟩, fun r ys2 r0 r1 hy2 => ⟨1, r, rfl, rfl, ?_⟩⟩
    refine ⟨acc.map V.int, by rw [upd_ne ntD.symm]; exact hDc, szlt (by rw [List.length_map]; omega), ys2, acc ++ [1 + r], ?_, by rw [upd_ne ntD, upd_same], hy2, by rw [upd_same, List.map_append]; rfl, by simp [la], fun z hz => ?_⟩
    · intro b o nb hb
      have nbD : b ≠ D := fun e => by rw [e, nD] at hb; cases hb
      rw [upd_ne nbD, upd_ne nb]
      exact sx _ _ nb hb
    · rcases List.mem_append.mp hz with z1 | z1
      · exact hm z z1
      · rw [List.mem_singleton] at z1
        omega
  obtain ⟨ys3, acc, sx, htc, hy3, hDc, la, hm⟩ := pv
  refine ⟨D, _, rfl, .inl ⟨SqL.of hDc, fun tr ntr => ?_⟩⟩
  have ht4 : (upd Hc tr (.tup (acc.map V.int))) t = some (.lst ys3) := (same_upd ntr) _ _ htc
  obtain ⟨c, hB, dtr⟩ : ∃ c, Box c ∧ Dp K (upd Hc tr (.tup (acc.map V.int))) (.ref tr) (dT c) := by
    match acc, la, hm with
    | [c1, c2, c3], _, hm => exact ⟨(c1, c2, c3), ⟨hm c1 (by simp), hm c2 (by simp), hm c3 (by simp)⟩, dpT_mk (t := (c1, c2, c3)) (SqT.of upd_same)⟩
  generalize upd Hc tr (.tup (acc.map V.int)) = H4 at *
  have chok : ChOk c := ⟨⟨hB.1.1, by have := hB.1.2; omega⟩, ⟨hB.2.1.1, by have := hB.2.1.2; omega⟩, ⟨hB.2.2.1, by have := hB.2.2.2; omega⟩⟩
  refine st_g (σ' := [some (.ref a), some (.ref t), some (.ref tr), none, none, none, none, none, none, none, none, none, none, none, none, none, none, none, none, none]) rfl ?_
  -- the STAND
  refine ⟨rfl, fun v5 H5 s5 d5 => ?_⟩
  have ht5 := s5 _ _ ht4
  refine ⟨_, rfl, _, rfl, t, 4, ys3, 3, rfl, ht5, hy3, by decide, ⟨by decide, by decide⟩, fun r6 ys6 r60 r61 hy6 => ?_⟩
  have n56 : SameN H5 (upd H5 t (.lst ys6)) := SameN.upd_lst ht5
  have ht6 : (upd H5 t (.lst ys6)) t = some (.lst ys6) := upd_same
  generalize upd H5 t (.lst ys6) = H6 at *
  obtain ⟨n, rfl⟩ : ∃ n : Nat, r6 = (n : Int) := ⟨r6.toNat, by omega⟩
  have hn3 : n ≤ 3 := by omega
  refine ⟨rfl, fun p7 H7 xs7 s7 n7 h7 a7 => ⟨rfl, fun p8 H8 xs8 s8 n8 h8 a8 => ?_⟩⟩
  have l7 : xs7.length = 4 := (dpAll_len a7).trans (by decide)
  have l8 : xs8.length = 8 := (dpAll_len a8).trans (by decide)
  refine ⟨p7, p8, xs7, xs8, rfl, rfl, s8 _ _ h7, h8, sz (by omega), fun p9 n9 => ?_⟩
  have s9 := same_upd (o := .lst (xs7 ++ xs8)) n9
  have ht8 := (s7.trans s8) _ _ ht6
  have ht9 := s9 _ _ ht8
  have hp9 : (upd H8 p9 (.lst (xs7 ++ xs8))) p9 = some (.lst (xs7 ++ xs8)) := upd_same
  have a9 : DpAll K (upd H8 p9 (.lst (xs7 ++ xs8))) (xs7 ++ xs8) ((tips4 ++ (turnsP ++ turnsN)).map dM) := by
    rw [List.map_append]
    exact dpAll_app (DpAll.same a8 s9) (DpAll.same a7 (s8.trans s9))
  have np9 : p9 ≠ t := fun e => by rw [e, ht8] at n9; cases n9
  have n69 := same_n (s7.trans (s8.trans s9))
  generalize upd H8 p9 (.lst (xs7 ++ xs8)) = H9 at *
  refine ⟨t, p9, n, 4, xs7 ++ xs8, ys6, rfl, ht9, hy6, by omega, hp9, np9, by rw [List.length_append]; omega, fun wr H10 zs ys10 sx10 ht10 hy10 hwr lz mz => ?_⟩
  have n910 := sx10.n ht9
  obtain ⟨ms, dms, lms, hms⟩ := picks a9 n910 mz
  have ok1 : ∀ m ∈ ms, MoveOk m := fun m hm => moves_ok m (hms m hm)
  have n510 := n56.trans (n69.trans n910)
  refine ⟨v5, .ref wr, homeS, ms, rfl, dpS_n d5 n510, .tup (SqT.of hwr) dms, home_ok, ok1, fun sp H11 s11 dsp => ?_⟩
  have stok : StOk (walkS homeS ms) := walk_ok home_ok ok1
  have dif1 := dif_walk hB home_ok ok1
  rw [dif_home] at dif1
  have lms3 : ms.length ≤ 3 := by omega
  generalize walkS homeS ms = S at *
  -- the SHAPE
  refine ⟨_, rfl, rfl, fun p12 H12 xs12 s12 n12 h12 a12 => ?_⟩
  have ht11 := s11 _ _ ht10
  have ht12 := s12 _ _ ht11
  have np12 : p12 ≠ t := fun e => by rw [e, ht11] at n12; cases n12
  have l12 : xs12.length = 6 := (dpAll_len a12).trans (by decide)
  refine ⟨t, p12, xs12, ys10, 4 + n, rfl, ht12, hy10, by omega, h12, np12, by omega, fun x ys13 hx hy13 => ⟨_, _, rfl, ?_⟩⟩
  have n1213 : SameN H12 (upd H12 t (.lst ys13)) := SameN.upd_lst ht12
  have ht13 : (upd H12 t (.lst ys13)) t = some (.lst ys13) := upd_same
  generalize upd H12 t (.lst ys13) = H13 at *
  obtain ⟨h, hh, dx13⟩ := pick_pose a12 n1213 hx
  have dsp13 : Dp K H13 sp (dS S) := dpS_n dsp ((same_n s12).trans n1213)
  have dtr13 : Dp K H13 (.ref tr) (dT c) := dpT_n dtr ((same_n s5).trans (n510.trans ((same_n (s11.trans s12)).trans n1213)))
  refine st_of (σ' := [some (.ref a), some (.ref t), some (.ref tr), some (sp), some (x), none, none, none, none, none, none, none, none, none, none, none, none, none, none, none]) rfl ?_
  -- the midpoint, the dict
  refine ⟨_, rfl, _, rfl, .ref tr, sp, c, S, rfl, dtr13, dsp13, chok, fun hv H14 s14 nh14 hh14 => fun d nd => ⟨sz (by simp), fun p np => ⟨p, _, rfl, SqT.of upd_same, rfl, _, _, rfl, _, _, rfl, rfl, ?_⟩⟩⟩
  have s15 := same_upd (o := .dT []) nd
  have s16 := same_upd (o := .tup [.ref hv, .ref d]) np
  have s1316 := s14.trans (s15.trans s16)
  have hd15 : (upd H14 d (.dT [])) d = some (.dT []) := upd_same
  have hd16 := s16 _ _ hd15
  have hh16 := (s15.trans s16) _ _ hh14
  have ht16 := s1316 _ _ ht13
  generalize upd (upd H14 d (.dT [])) p (.tup [.ref hv, .ref d]) = H16 at *
  have ndt : d ≠ t := fun e => by rw [e, ht16] at hd16; cases hd16
  refine st_of (σ' := [some (.ref a), some (.ref t), some (.ref tr), some (sp), some (x), some (.ref hv), some (.ref d), none, none, none, none, none, none, none, none, none, none, none, none, none]) rfl ?_
  -- low
  refine ⟨_, rfl, hv, [(mid c S).1, (mid c S).2], rfl, SqT.of hh16, by simp, fun m hm hle => ⟨_, rfl, t, 4, ys13, 4 + n + 1, rfl, ht16, hy13, by omega, ⟨by decide, by decide⟩, fun r17 ys17 a0 a1 hy17 => ⟨m, r17, rfl, rfl, ?_⟩⟩⟩
  refine st_g (σ' := [some (.ref a), some (.ref t), some (.ref tr), some (sp), some (x), some (.ref hv), some (.ref d), some (.int (m - r17)), none, none, none, none, none, none, none, none, none, none, none, none]) rfl ?_
  have ht17 : (upd H16 t (.lst ys17)) t = some (.lst ys17) := upd_same
  refine ⟨_, rfl, _, 2, rfl, rfl, _, rfl, t, 7, ys17, 4 + n + 1 + 1, rfl, ht17, hy17, by omega, ⟨by decide, by decide⟩, fun r18 ys18 b0 b1 hy18 => ⟨_, r18, rfl, rfl, ?_⟩⟩
  refine st_g (σ' := [some (.ref a), some (.ref t), some (.ref tr), some (sp), some (x), some (.ref hv), some (.ref d), some (.int (m - r17)), some (.int (m - r17 + 2 + r18)), none, none, none, none, none, none, none, none, none, none, none]) rfl ?_
  have bm : (m = (mid c S).1 ∨ m = (mid c S).2) ∧ m ≤ (mid c S).1 ∧ m ≤ (mid c S).2 := by
    refine ⟨by simpa using hm, hle _ (by simp), hle _ (by simp)⟩
  have difS : dif c S = (mid c S).1 - (mid c S).2 := rfl
  have bl1 : m - r17 ≤ (mid c S).1 ∧ (mid c S).1 - (m - r17) ≤ 27 := by omega
  have bl2 : m - r17 ≤ (mid c S).2 ∧ (mid c S).2 - (m - r17) ≤ 27 := by omega
  have bh : (m - r17 + 2 + r18) - (m - r17) ≤ 8 := by omega
  generalize m - r17 + 2 + r18 = high at bh ⊢
  generalize m - r17 = low at bl1 bl2 bh ⊢
  have n1618 : SameN H16 (upd (upd H16 t (.lst ys17)) t (.lst ys18)) := (SameN.upd_lst ht16).trans (SameN.upd_lst ht17)
  have ht18 : (upd (upd H16 t (.lst ys17)) t (.lst ys18)) t = some (.lst ys18) := upd_same
  have hd18 : (upd (upd H16 t (.lst ys17)) t (.lst ys18)) d = some (.dT []) := by rw [upd_ne ndt, upd_ne ndt]; exact hd16
  generalize upd (upd H16 t (.lst ys17)) t (.lst ys18) = H18 at *
  have n1318 := (same_n s1316).trans n1618
  have hh18 := n1618 _ _ hh16 trivial
  have dtr18 := dpT_n dtr13 n1318
  have dsp18 := dpS_n dsp13 n1318
  have dx18 := dpT_n dx13 n1318
  -- the arcs
  obtain ⟨sa, v0, v1, v2, v3, rfl, hss, hv0, hv1, hv2, hv3⟩ := dpS_inv dsp18
  refine ⟨_, rfl, sa, _, 0, _, rfl, rfl, hss, rfl, _, rfl, v0, x, S.1, h, rfl, hv0, dx18, stok.1, hh, fun r19 H19 s19 d19 => ?_⟩
  obtain ⟨ar, xs, rfl, har, hall⟩ := dp_tup_inv d19
  have lxs : xs.length = 2 := (dpAll_len hall).trans rfl
  have hd19 := s19 _ _ hd18
  refine ⟨ar, rfl, ⟨_, har⟩, for_tup (K := K) (a := ar) (xs := xs) (fun i σ H3 => ∃ y9 y10 y11 y12 y13 kvs zs, σ = [some (.ref a), some (.ref t), some (.ref tr), some (.ref sa), some (x), some (.ref hv), some (.ref d), some (.int low), some (.int high), y9, y10, y11, y12, y13, none, none, none, none, none, none] ∧ SameX d H19 H3 ∧ H3 d = some (.dT kvs) ∧ kvs.map (·.1) = zs.map kz ∧ zs.Nodup ∧ zs.length ≤ 81 * i ∧ ∀ z, z ∈ zs ↔ ∃ arc ∈ (arcs2 S.1 h).take i, Good c arc (mid c S) low high z)
    ⟨none, none, none, none, none, [], [], rfl, fun _ _ _ z => z, hd19, rfl, List.nodup_nil, Nat.le_refl _, fun z => ⟨fun m => absurd m (by simp), fun ⟨_, m, _⟩ => absurd m (by simp)⟩⟩ (fun i σ H3 _ ⟨_, _, _, _, _, _, _, _, sx, _⟩ => (sx.nT hd19).sqT har) ?_ ?_⟩
  · rintro i xv σ H3 hxi ⟨y9, y10, y11, y12, y13, kvs, zs, rfl, sx3, hd3, hkv, hnd, hlz, hmz⟩
    obtain ⟨dd, hdd, dxv⟩ := dpAll_at hall hxi
    obtain ⟨arc, harc, rfl⟩ := at_map hdd
    have n193 := sx3.nT hd19
    have n183 := (same_n s19).trans n193
    have dxv3 := dpI_n dxv n193
    have dtr3 := dpT_n dtr18 n183
    have hh3 := n183 _ _ hh18 trivial
    have hi2 : i < 2 := by have := (List.getElem?_eq_some_iff.mp hxi).1; omega
    have et : (arcs2 S.1 h).take (i + 1) = (arcs2 S.1 h).take i ++ [arc] := by rw [List.take_add_one, harc]; rfl
    refine st_g (σ' := [some (.ref a), some (.ref t), some (.ref tr), some (.ref sa), some (x), some (.ref hv), some (.ref d), some (.int low), some (.int high), some (xv), y10, y11, y12, y13, none, none, none, none, none, none]) rfl ?_
    -- easts
    refine ⟨_, rfl, _, rfl, .ref tr, xv, c, arc, 0, rfl, dtr3, dxv3, chok, .inl rfl, fun r20 H20 L0 s20 h20 nd0 ln0 mem0 => ?_⟩
    have hh20 := s20 _ _ hh3
    refine ⟨r20, rfl, ⟨_, SqL.of h20⟩, fun D nD => lc_list (K := K) (a := r20) (xs := L0.map V.int) (fun j Hc => Same H20 Hc ∧ Hc D = some (.lst ((offs (mid c S).1 low high (L0.take j)).map V.int))) ⟨same_upd nD, upd_same⟩ (fun j Hc _ p => SqL.of (p.1 _ _ h20)) (fun j y Hc hy p => ?_) (fun H21 p => ?_)⟩
    · obtain ⟨d0, hd0, rfl⟩ := at_map hy
      have e1 : L0.take (j + 1) = L0.take j ++ [d0] := by rw [List.take_add_one, hd0]; rfl
      have hhc := p.1 _ _ hh20
      have ll := offs_len (mid c S).1 low high (L0.take j)
      rw [List.length_take] at ll
      refine ⟨rfl, ?_⟩
      refine ⟨_, rfl, _, rfl, _, rfl, hv, _, 0, _, rfl, rfl, SqT.of hhc, rfl, d0, (mid c S).1, rfl, rfl, low, d0 + (mid c S).1, rfl, rfl, _, rfl, ?_⟩
      refine ite2 (fun g1 => ?_) (fun g1 => ?_)
      · refine ⟨_, rfl, _, _, rfl, rfl, _, rfl, ?_⟩
        refine ite2 (fun g2 => ?_) (fun g2 => ?_)
        · refine ⟨_, rfl, _, rfl, hv, _, 0, _, rfl, rfl, SqT.of hhc, rfl, d0, (mid c S).1, rfl, rfl, _, p.2, szlt (by rw [List.length_map]; omega), same_mut p.1 nD, ?_⟩
          rw [upd_same, e1, offs_snoc, if_pos (by unfold inB; rw [Bool.and_eq_true]; exact ⟨g1, g2⟩), List.map_append]
          rfl
        · refine ⟨p.1, ?_⟩
          rw [e1, offs_snoc, if_neg (by unfold inB; rw [Bool.and_eq_true]; exact fun z => g2 z.2), List.append_nil]
          exact p.2
      · refine ⟨_, rfl, iteF ⟨p.1, ?_⟩⟩
        rw [e1, offs_snoc, if_neg (by unfold inB; rw [Bool.and_eq_true]; exact fun z => g1 z.1), List.append_nil]
        exact p.2
    obtain ⟨s21, hD⟩ := p
    rw [List.length_map, List.take_length] at hD
    refine st_g (σ' := [some (.ref a), some (.ref t), some (.ref tr), some (.ref sa), some (x), some (.ref hv), some (.ref d), some (.int low), some (.int high), some (xv), some (.ref D), y11, y12, y13, none, none, none, none, none, none]) rfl ?_
    -- norths
    have s321 := s20.trans s21
    refine ⟨_, rfl, _, rfl, .ref tr, xv, c, arc, 1, rfl, Dp.same dtr3 s321, Dp.same dxv3 s321, chok, .inr rfl, fun r22 H22 L1 s22 h22 nd1 ln1 mem1 => ?_⟩
    have hh22 := (s321.trans s22) _ _ hh3
    refine ⟨r22, rfl, ⟨_, SqL.of h22⟩, fun D1 nD1 => lc_list (K := K) (a := r22) (xs := L1.map V.int) (fun j Hc => Same H22 Hc ∧ Hc D1 = some (.lst ((offs (mid c S).2 low high (L1.take j)).map V.int))) ⟨same_upd nD1, upd_same⟩ (fun j Hc _ p => SqL.of (p.1 _ _ h22)) (fun j y Hc hy p => ?_) (fun H23 p => ?_)⟩
    · obtain ⟨d0, hd0, rfl⟩ := at_map hy
      have e1 : L1.take (j + 1) = L1.take j ++ [d0] := by rw [List.take_add_one, hd0]; rfl
      have hhc := p.1 _ _ hh22
      have ll := offs_len (mid c S).2 low high (L1.take j)
      rw [List.length_take] at ll
      refine ⟨rfl, ?_⟩
      refine ⟨_, rfl, _, rfl, _, rfl, hv, _, 1, _, rfl, rfl, SqT.of hhc, rfl, d0, (mid c S).2, rfl, rfl, low, d0 + (mid c S).2, rfl, rfl, _, rfl, ?_⟩
      refine ite2 (fun g1 => ?_) (fun g1 => ?_)
      · refine ⟨_, rfl, _, _, rfl, rfl, _, rfl, ?_⟩
        refine ite2 (fun g2 => ?_) (fun g2 => ?_)
        · refine ⟨_, rfl, _, rfl, hv, _, 1, _, rfl, rfl, SqT.of hhc, rfl, d0, (mid c S).2, rfl, rfl, _, p.2, szlt (by rw [List.length_map]; omega), same_mut p.1 nD1, ?_⟩
          rw [upd_same, e1, offs_snoc, if_pos (by unfold inB; rw [Bool.and_eq_true]; exact ⟨g1, g2⟩), List.map_append]
          rfl
        · refine ⟨p.1, ?_⟩
          rw [e1, offs_snoc, if_neg (by unfold inB; rw [Bool.and_eq_true]; exact fun z => g2 z.2), List.append_nil]
          exact p.2
      · refine ⟨_, rfl, iteF ⟨p.1, ?_⟩⟩
        rw [e1, offs_snoc, if_neg (by unfold inB; rw [Bool.and_eq_true]; exact fun z => g1 z.1), List.append_nil]
        exact p.2
    obtain ⟨s23, hD1⟩ := p
    rw [List.length_map, List.take_length] at hD1
    refine st_g (σ' := [some (.ref a), some (.ref t), some (.ref tr), some (.ref sa), some (x), some (.ref hv), some (.ref d), some (.int low), some (.int high), some (xv), some (.ref D), some (.ref D1), y12, y13, none, none, none, none, none, none]) rfl ?_
    have s323 := s321.trans (s22.trans s23)
    have hD23 := (s22.trans s23) _ _ hD
    have hd23 := s323 _ _ hd3
    have nDd : D ≠ d := fun e => by rw [e, (s323 _ _ hd3)] at hD23; cases hD23
    have nD1d : D1 ≠ d := fun e => by rw [e, (s323 _ _ hd3)] at hD1; cases hD1
    have mE : ∀ u, u ∈ offs (mid c S).1 low high L0 ↔ low ≤ u ∧ u ≤ high ∧ Shift c arc 0 (u - (mid c S).1) := fun u => by rw [mem_offs, mem0]
    have mN : ∀ u, u ∈ offs (mid c S).2 low high L1 ↔ low ≤ u ∧ u ≤ high ∧ Shift c arc 1 (u - (mid c S).2) := fun u => by rw [mem_offs, mem1]
    have lE := offs_len9 (m := (mid c S).1) nd0 bh
    have lN := offs_len9 (m := (mid c S).2) nd1 bh
    generalize offs (mid c S).1 low high L0 = ES at *
    generalize offs (mid c S).2 low high L1 = NS at *
    -- all pairs
    refine ⟨_, rfl, D, rfl, ⟨_, SqL.of hD23⟩, for_list (K := K) (a := D) (xs := ES.map V.int) (fun j σ H5 => ∃ y12 y13 kvs zs', σ = [some (.ref a), some (.ref t), some (.ref tr), some (.ref sa), some (x), some (.ref hv), some (.ref d), some (.int low), some (.int high), some (xv), some (.ref D), some (.ref D1), y12, y13, none, none, none, none, none, none] ∧ SameX d H23 H5 ∧ H5 d = some (.dT kvs) ∧ kvs.map (·.1) = zs'.map kz ∧ zs'.Nodup ∧ zs'.length ≤ zs.length + 9 * j ∧ ∀ z, z ∈ zs' ↔ z ∈ zs ∨ (z.1 ∈ ES.take j ∧ z.2 ∈ NS))
      ⟨y12, y13, kvs, zs, rfl, fun _ _ _ z => z, hd23, hkv, hnd, Nat.le_refl _, fun z => ⟨.inl, fun u => u.elim id fun u => absurd u.1 (by simp)⟩⟩ (fun j σ H5 _ ⟨_, _, _, _, _, sx, _⟩ => SqL.of (sx _ _ nDd hD23)) ?_ ?_⟩
    · rintro j y σ H5 hy ⟨y12, y13, kvs, zs', rfl, sx5, hd5, hkv5, hnd5, hl5, hm5⟩
      obtain ⟨u0, hu0, rfl⟩ := at_map hy
      have e1 : ES.take (j + 1) = ES.take j ++ [u0] := by rw [List.take_add_one, hu0]; rfl
      have hj9 : j < 9 := by have := (List.getElem?_eq_some_iff.mp hu0).1; omega
      refine st_g (σ' := [some (.ref a), some (.ref t), some (.ref tr), some (.ref sa), some (x), some (.ref hv), some (.ref d), some (.int low), some (.int high), some (xv), some (.ref D), some (.ref D1), some (.int u0), y13, none, none, none, none, none, none]) rfl ?_
      refine ⟨_, rfl, D1, rfl, ⟨_, SqL.of (sx5 _ _ nD1d hD1)⟩, for_list (K := K) (a := D1) (xs := NS.map V.int) (fun k σ H6 => ∃ y13 kvs zs'', σ = [some (.ref a), some (.ref t), some (.ref tr), some (.ref sa), some (x), some (.ref hv), some (.ref d), some (.int low), some (.int high), some (xv), some (.ref D), some (.ref D1), some (.int u0), y13, none, none, none, none, none, none] ∧ SameX d H23 H6 ∧ H6 d = some (.dT kvs) ∧ kvs.map (·.1) = zs''.map kz ∧ zs''.Nodup ∧ zs''.length ≤ zs'.length + k ∧ ∀ z, z ∈ zs'' ↔ z ∈ zs' ∨ (z.1 = u0 ∧ z.2 ∈ NS.take k))
        ⟨y13, kvs, zs', rfl, sx5, hd5, hkv5, hnd5, Nat.le_refl _, fun z => ⟨.inl, fun u => u.elim id fun u => absurd u.2 (by simp)⟩⟩ (fun k σ H6 _ ⟨_, _, _, _, sx, _⟩ => SqL.of (sx _ _ nD1d hD1)) ?_ ?_⟩
      · rintro k y σ H6 hy ⟨y13, kvs, zs'', rfl, sx6, hd6, hkv6, hnd6, hl6, hm6⟩
        obtain ⟨w0, hw0, rfl⟩ := at_map hy
        have e2 : NS.take (k + 1) = NS.take k ++ [w0] := by rw [List.take_add_one, hw0]; rfl
        have hk9 : k < 9 := by have := (List.getElem?_eq_some_iff.mp hw0).1; omega
        refine st_g (σ' := [some (.ref a), some (.ref t), some (.ref tr), some (.ref sa), some (x), some (.ref hv), some (.ref d), some (.int low), some (.int high), some (xv), some (.ref D), some (.ref D1), some (.int u0), some (.int w0), none, none, none, none, none, none]) rfl ?_
        refine ⟨_, rfl, _, rfl, _, rfl, sz (by simp), fun qq nq => ?_⟩
        have s7 := same_upd (o := .tup [.int u0, .int w0]) nq
        have hd7 := s7 _ _ hd6
        have lk : kvs.length = zs''.length := by
          have e := congrArg List.length hkv6
          rw [List.length_map, List.length_map] at e
          exact e
        refine ⟨d, _, rfl, DPut.t (k := kz (u0, w0)) hd7 upd_same (szlt (by omega)), ?_⟩
        refine ⟨_, _, insA zs'' (u0, w0), rfl, sx6.trans ((sameX_of s7).trans sameX_upd), upd_same, put_keysT hkv6, insA_nd hnd6, by have := insA_len (L := zs'') (x := (u0, w0)); omega, fun z => ?_⟩
        rw [insA_mem, hm6, e2, List.mem_append, List.mem_singleton]
        constructor
        · rintro ((u | u) | rfl)
          · exact .inl u
          · exact .inr ⟨u.1, .inl u.2⟩
          · exact .inr ⟨rfl, .inr rfl⟩
        · rintro (u | ⟨u1, u2 | u2⟩)
          · exact .inl (.inl u)
          · exact .inl (.inr ⟨u1, u2⟩)
          · exact .inr (Prod.ext u1 u2)
      · rintro σ H6 ⟨y13, kvs, zs'', rfl, sx6, hd6, hkv6, hnd6, hl6, hm6⟩
        rw [List.length_map] at hl6 hm6
        rw [List.take_length] at hm6
        refine ⟨_, _, kvs, zs'', rfl, sx6, hd6, hkv6, hnd6, by omega, fun z => ?_⟩
        rw [hm6, hm5, e1, List.mem_append, List.mem_singleton]
        constructor
        · rintro ((u | u) | u)
          · exact .inl u
          · exact .inr ⟨.inl u.1, u.2⟩
          · exact .inr ⟨.inr u.1, u.2⟩
        · rintro (u | ⟨u1 | u1, u2⟩)
          · exact .inl (.inl u)
          · exact .inl (.inr ⟨u1, u2⟩)
          · exact .inr ⟨u1, u2⟩
    · rintro σ H5 ⟨y12, y13, kvs', zs', rfl, sx5, hd5, hkv5, hnd5, hl5, hm5⟩
      rw [List.length_map] at hl5 hm5
      rw [List.take_length] at hm5
      refine ⟨_, _, _, _, _, kvs', zs', rfl, sx3.trans ((sameX_of s323).trans sx5), hd5, hkv5, hnd5, by omega, fun z => ?_⟩
      rw [hm5, hmz, et]
      constructor
      · rintro (⟨b, hb, g⟩ | ⟨u1, u2⟩)
        · exact ⟨b, List.mem_append.mpr (.inl hb), g⟩
        · exact ⟨arc, List.mem_append.mpr (.inr (List.mem_singleton.mpr rfl)), (mE _).mp u1, (mN _).mp u2⟩
      · rintro ⟨b, hb, g⟩
        rcases List.mem_append.mp hb with hb | hb
        · exact .inl ⟨b, hb, g⟩
        · rw [List.mem_singleton] at hb
          subst hb
          exact .inr ⟨(mE _).mpr g.1, (mN _).mpr g.2⟩
  rintro σ H20 ⟨y9, y10, y11, y12, y13, kvs, zs, rfl, sx20, hd20, hkv, hnd, hlz, hmz⟩
  rw [lxs] at hlz hmz
  have mz : ∀ z, z ∈ zs ↔ InMid c S h low high z := fun z => by
    rw [hmz, show (arcs2 S.1 h).take 2 = arcs2 S.1 h from rfl]
    exact found_iff hB bl1 bl2 bh z
  have n1820 := (same_n s19).trans (sx20.nT hd19)
  have dtr20 := dpT_n dtr18 n1820
  have dsp20 := dpS_n dsp18 n1820
  have dx20 := dpT_n dx18 n1820
  have ht20 : H20 t = some (.lst ys18) := sx20 _ _ ndt.symm (s19 _ _ ht18)
  -- what middles_in tells
  refine ⟨_, rfl, .ref tr, dT c, dLT c, rfl, dtr20, lstR_T 1 c, fun l1 H21 s21 q21 => ?_⟩
  refine ⟨_, rfl, .ref sa, dS S, dLS S, rfl, Dp.same dsp20 s21, lstR_S S, fun l2 H22 s22 q22 => ?_⟩
  refine ⟨_, rfl, _, rfl, _, rfl, l1, l2, x, dLT c, dLS S, dT h, c, S, h, low, high, rfl, Dp.same q21.dp s22, q22.dp, Dp.same dx20 (s21.trans s22), (tupR_T 0 c).2, (tupR_S S).2, (tupR_T 0 h).1, chok, stok, hh, by omega, fun r23 H23 ys23 M s23 e23 k23 lx mm => ?_⟩
  have s2023 := s21.trans (s22.trans s23)
  refine st_g (σ' := [some (.ref a), some (.ref t), some (.ref tr), some (.ref sa), some (x), some (.ref hv), some (.ref d), some (.int low), some (.int high), y9, y10, y11, y12, y13, some (.ref r23), none, none, none, none, none]) rfl ?_
  refine ⟨_, rfl, _, rfl, d, kvs, zs, rfl, .inl (s2023 _ _ hd20), hkv, fun ys ws p hp pm srt np => ?_⟩
  have eM : M = ws := lex_uniq lx (lex_strict pm srt hnd) fun z => by rw [mm, pm.mem_iff, mz]
  subst eM
  have lM : M.length ≤ 5000 := by rw [pm.length_eq]; omega
  have s24 := same_upd (o := .lst ys) np
  refine ⟨.ref r23, .ref p, .list (M.map dP), .list (M.map dP), true, rfl, .lst (SqL.of (s24 _ _ e23)) (DpAll.same (pairs_dp k23) s24), .lst (SqL.of upd_same) (DpAll.same (pairs_dp hp) s24), sm_pairs lM, fun H24 s24' => ⟨true, rfl, iteF ?_⟩⟩
  -- three tips
  have s2024 := s2023.trans (s24.trans s24')
  have ht24 := s2024 _ _ ht20
  have dtr24 := Dp.same dtr20 s2024
  have dsp24 := Dp.same dsp20 s2024
  refine ⟨_, rfl, _, rfl, rfl, fun p25 H25 xs25 s25 n25 h25 a25 => ?_⟩
  have ht25 := s25 _ _ ht24
  have np25 : p25 ≠ t := fun e => by rw [e, ht24] at n25; cases n25
  have l25 : xs25.length = 4 := (dpAll_len a25).trans (by decide)
  refine ⟨t, p25, 3, 4 + n + 1 + 1 + 1, xs25, ys18, rfl, ht25, hy18, by omega, h25, np25, by omega, fun wr2 H26 zs26 ys26 sx26 ht26 hy26 hwr26 lz26 mz26 => ?_⟩
  have n2526 := sx26.n ht25
  obtain ⟨ms2, dms2, lms2, hms2⟩ := picks a25 n2526 mz26
  have tip2 := fun m hm => tips_ok m (hms2 m hm)
  have ok2 : ∀ m ∈ ms2, MoveOk m := fun m hm => by
    obtain ⟨y, rfl, h1, h2⟩ := tip2 m hm
    exact ⟨h1, h2⟩
  have n2426 := (same_n s25).trans n2526
  have dsp26 := dpS_n dsp24 n2426
  have dtr26 := dpT_n dtr24 n2426
  refine ⟨.ref sa, .ref wr2, S, ms2, rfl, dsp26, .tup (SqT.of hwr26) dms2, stok, ok2, fun er H27 s27 de => ?_⟩
  have stok2 : StOk (walkS S ms2) := walk_ok stok ok2
  have dif2 := dif_walk hB stok ok2
  have rch := rch_walk (c := c) stok.1 stok tip2 (rch_self stok.1)
  have lms23 : ms2.length ≤ 3 := by omega
  generalize walkS S ms2 = S2 at *
  refine st_g (σ' := [some (.ref a), some (.ref t), some (.ref tr), some (.ref sa), some (x), some (.ref hv), some (.ref d), some (.int low), some (.int high), y9, y10, y11, y12, y13, some (.ref r23), some (er), none, none, none, none]) rfl ?_
  refine ⟨_, rfl, _, rfl, .ref tr, er, c, S2, rfl, Dp.same dtr26 s27, de, chok, fun mr H28 s28 nm28 hm28 => ?_⟩
  refine st_g (σ' := [some (.ref a), some (.ref t), some (.ref tr), some (.ref sa), some (x), some (.ref hv), some (.ref d), some (.int low), some (.int high), y9, y10, y11, y12, y13, some (.ref r23), some (er), some (.ref mr), none, none, none]) rfl ?_
  have s2628 := s27.trans s28
  obtain ⟨ea, w0, w1, w2, w3, rfl, hes, hw0, hw1, hw2, hw3⟩ := dpS_inv (Dp.same de s28)
  have difS2 : dif c S2 = (mid c S2).1 - (mid c S2).2 := rfl
  refine ⟨_, rfl, _, rfl, _, rfl, ea, _, 0, _, rfl, rfl, hes, rfl, _, rfl, mr, [(mid c S2).1, (mid c S2).2], rfl, SqT.of hm28, by simp, fun lo hlo hlo2 => ⟨_, rfl, mr, [(mid c S2).1, (mid c S2).2], rfl, SqT.of hm28, by simp, fun hi hhi hhi2 => ?_⟩⟩
  have blo : (lo = (mid c S2).1 ∨ lo = (mid c S2).2) ∧ lo ≤ (mid c S2).1 ∧ lo ≤ (mid c S2).2 := ⟨by simpa using hlo, hlo2 _ (by simp), hlo2 _ (by simp)⟩
  have bhi : (hi = (mid c S2).1 ∨ hi = (mid c S2).2) ∧ (mid c S2).1 ≤ hi ∧ (mid c S2).2 ≤ hi := ⟨by simpa using hhi, hhi2 _ (by simp), hhi2 _ (by simp)⟩
  refine ⟨.ref tr, .ref sa, w0, dT c, dS S, dT S2.1, c, S, S2.1, lo, hi, rfl, Dp.same dtr26 s2628, Dp.same dsp26 s2628, hw0, (tupR_T 0 c).1, (tupR_S S).1, (tupR_T 0 _).1, chok, stok, stok2.1, by omega, fun r29 H29 ys29 M2 s29 e29 k29 lx2 mm2 => ?_⟩
  have hm29 := s29 _ _ hm28
  have inM : mid c S2 ∈ M2 := by
    obtain ⟨arc, harc, q1, q2⟩ := rch
    exact (mm2 _).mpr ⟨⟨blo.2.1, bhi.2.1⟩, ⟨blo.2.2, bhi.2.2⟩, arc, harc, q1, q2⟩
  have l29 : ys29.length = M2.length := Paired.length k29
  have lM2 : M2.length ≤ 5000 := Nat.le_trans (box_len lx2 (fun z hz => ⟨((mm2 z).mp hz).1, ((mm2 z).mp hz).2.1⟩) (by omega)) (by decide)
  refine st_g (σ' := [some (.ref a), some (.ref t), some (.ref tr), some (.ref sa), some (x), some (.ref hv), some (.ref d), some (.int low), some (.int high), y9, y10, y11, y12, y13, some (.ref r23), some (.ref ea), some (.ref mr), some (.ref r29), none, none]) rfl ?_
  refine ⟨_, rfl, .ref r29, .ty "list", _, _, true, rfl, .ty "list", ty_lst (SqL.of e29), kit_ty (by decide +kernel), true, rfl, iteT ?_⟩
  generalize mid c S2 = mm at *
  refine ⟨_, rfl, r29, rfl, ⟨_, SqL.of e29⟩, fun D nD => lc_list (K := K) (a := r29) (xs := ys29) (fun j Hc => Same H29 Hc ∧ ∃ acc, Hc D = some (.lst acc) ∧ DqAll K (fun _ => False) Hc acc (((M2.take j).filter (eqm mm)).map dP)) ⟨same_upd nD, [], upd_same, .nil⟩ (fun j Hc _ p => SqL.of (p.1 _ _ e29)) (fun j y Hc hy p => ?_) (fun H30 p => ?_)⟩
  · obtain ⟨z, hz, qq, rfl, hq⟩ := paired_at k29 hy
    have e1 : M2.take (j + 1) = M2.take j ++ [z] := by rw [List.take_add_one, hz]; rfl
    obtain ⟨sc, acc, hDc, ha⟩ := p
    have hqc := sc _ _ hq
    have hmc := sc _ _ hm29
    refine ⟨rfl, ?_⟩
    refine ⟨_, rfl, _, rfl, .ref qq, .ref mr, dP z, dP mm, eqm mm z, rfl, dpP_mk (SqT.of hqc), dpP_mk (SqT.of hmc), sm_pair2 z mm, fun Hd sd => ⟨_, rfl, ?_⟩⟩
    have hDd := sd _ _ hDc
    refine ite2 (fun g => ?_) (fun g => ?_)
    · refine ⟨_, rfl, acc, hDd, szlt ?_, same_mut (sc.trans sd) nD, _, upd_same, ?_⟩
      · have l1 := dqAll_len ha
        have l2 := List.length_filter_le (eqm mm) (M2.take j)
        rw [List.length_map] at l1
        rw [List.length_take] at l2
        omega
      · rw [e1, List.filter_append, List.filter_cons_of_pos g, List.filter_nil, List.map_append]
        exact (dqAll_snoc (dpP_q (SqT.of (sd _ _ hqc))) (ha.same sd)).mono (fun _ z => z) (SameN.upd_lst hDd) fun a xs z _ => z.elim
    · refine ⟨sc.trans sd, acc, hDd, ?_⟩
      rw [e1, List.filter_append, List.filter_cons_of_neg g, List.filter_nil, List.append_nil]
      exact ha.same sd
  obtain ⟨s30, acc, hD30, ha30⟩ := p
  rw [l29, List.take_length] at ha30
  refine ⟨Nat.zero_le _, fun ee nee => ?_⟩
  have s31 := same_upd (o := .lst []) nee
  refine ⟨.list ((M2.filter (eqm mm)).map dP), .list ([].map dP), .lst (SqL.of (s31 _ _ hD30)) (DpAll.same ha30.dp s31), .lst (SqL.of upd_same) .nil, sdPs _, sdPs _, ?_⟩
  have ef : ∃ z zs, M2.filter (eqm mm) = z :: zs := by
    have m : mm ∈ M2.filter (eqm mm) := List.mem_filter.mpr ⟨inM, by unfold eqm; simp⟩
    cases hf : M2.filter (eqm mm) with
    | nil => rw [hf] at m; cases m
    | cons z zs => exact ⟨z, zs, rfl⟩
  obtain ⟨z, zs, ef⟩ := ef
  rw [ef]
  have e2 : PyData.eqv (.list ((z :: zs).map dP)) (.list ([].map dP)) = false := by simp [PyData.eqv, PyData.eqvAll]
  rw [e2]
  exact q _
end
end Mv
end

section
set_option Elab.async false
set_option linter.all false
set_option maxRecDepth 100000
set_option maxHeartbeats 4000000
/-! MvF: all defs joined. -/
namespace Mv
open PySem PySem.Spec PyProof.Rows L2 RZ
theorem ok_law {P : Program} {w : World} {K : PySem.W.Frag} {mg : Str → Option Value} {base : Heap} {f : Addr} {fd : FuncData} (T : Txt K mg) (D : Defs K mg) (F : Fun K "law" "law" s_law f fd) : FnOk P w K mg base CX0 30 f fd P_law (spLaw K) := by
  have C_is_number := c_is_number (P := P) (w := w) (base := base) T D.d_is_number 
  have C_is_from := c_is_from (P := P) (w := w) (base := base) T D.d_is_from (C_is_number := C_is_number)
  have C_is_long := c_is_long (P := P) (w := w) (base := base) T D.d_is_long 
  have C_tupled2 := c_tupled (P := P) (w := w) (base := base) T D.d_tupled 2
  have C_tupled3 := c_tupled (P := P) (w := w) (base := base) T D.d_tupled 3
  have C_are_numbers := c_are_numbers (P := P) (w := w) (base := base) T D.d_are_numbers (C_is_number := C_is_number)
  have C_is_chest := c_is_chest (P := P) (w := w) (base := base) T D.d_is_chest (C_is_long := C_is_long) (C_is_from := C_is_from)
  have C_sure_chest := c_sure_chest (P := P) (w := w) (base := base) T D.d_sure_chest (C_tupled := C_tupled2) (C_is_chest := C_is_chest)
  have C_is_shape := c_is_shape (P := P) (w := w) (base := base) T D.d_is_shape (C_is_long := C_is_long) (C_is_number := C_is_number)
  have C_sure_shape := c_sure_shape (P := P) (w := w) (base := base) T D.d_sure_shape (C_tupled := C_tupled2) (C_is_shape := C_is_shape)
  have C_place_in := c_place_in (P := P) (w := w) (base := base) T D.d_place_in 
  have C_side_in := c_side_in (P := P) (w := w) (base := base) T D.d_side_in 
  have C_arcs_in := c_arcs_in (P := P) (w := w) (base := base) T D.d_arcs_in (C_place_in := C_place_in)
  have C_set_of := c_set_of (P := P) (w := w) (base := base) T D.d_set_of 
  have C_is_stand := c_is_stand (P := P) (w := w) (base := base) T D.d_is_stand (C_is_long := C_is_long) (C_is_shape := C_is_shape) (C_are_numbers := C_are_numbers)
  have C_sure_stand := c_sure_stand (P := P) (w := w) (base := base) T D.d_sure_stand (C_tupled := C_tupled3) (C_is_stand := C_is_stand)
  have C_home := c_home (P := P) (w := w) (base := base) T D.d_home 
  have C_middle_in := c_middle_in (P := P) (w := w) (base := base) T D.d_middle_in 
  have C_spacing_in := c_spacing_in (P := P) (w := w) (base := base) T D.d_spacing_in 
  have C_way_of := c_way_of (P := P) (w := w) (base := base) T D.d_way_of (C_side_in := C_side_in)
  have C_there_in := c_there_in (P := P) (w := w) (base := base) T D.d_there_in (C_spacing_in := C_spacing_in) (C_middle_in := C_middle_in) (C_arcs_in := C_arcs_in) (C_way_of := C_way_of) (C_set_of := C_set_of)
  have C_span_of := c_span_of (P := P) (w := w) (base := base) T D.d_span_of 
  have C_sure_span := c_sure_span (P := P) (w := w) (base := base) T D.d_sure_span (C_is_number := C_is_number)
  have C_listed := c_listed (P := P) (w := w) (base := base) T D.d_listed (C_span_of := C_span_of)
  have F_middles_in := f_middles_in (P := P) (w := w) (base := base) T D.d_middles_in (C_sure_chest := C_sure_chest) (C_sure_stand := C_sure_stand) (C_sure_shape := C_sure_shape) (C_sure_span := C_sure_span) (C_there_in := C_there_in) (C_spacing_in := C_spacing_in) (C_listed := C_listed)
  have C_middles_in := c_middles_in F_middles_in
  have CK_middles_in := k_middles_in F_middles_in
  have C__law_box := c_law_box (P := P) (w := w) (base := base) T D.d__law_box 
  have C__law_take := c_law_take (P := P) (w := w) (base := base) T D.d__law_take 
  have C__law_cells := c_law_cells (P := P) (w := w) (base := base) T D.d__law_cells 
  have C__law_of := c_law_of (P := P) (w := w) (base := base) T D.d__law_of (C__law_take := C__law_take)
  have C__law_lists3 := c_law_lists (P := P) (w := w) (base := base) T D.d__law_lists 3
  have C__law_same3 := c_law_same (P := P) (w := w) (base := base) T D.d__law_same 3
  have C__law_same4 := c_law_same (P := P) (w := w) (base := base) T D.d__law_same 4
  have C__law_home := c_law_home (P := P) (w := w) (base := base) T D.d__law_home 
  have C__law_poses := c_law_poses (P := P) (w := w) (base := base) T D.d__law_poses 
  have C__law_across := c_law_across (P := P) (w := w) (base := base) T D.d__law_across 
  have C__law_plus := c_law_plus (P := P) (w := w) (base := base) T D.d__law_plus 
  have C__law_flip := c_law_flip (P := P) (w := w) (base := base) T D.d__law_flip 
  have C__law_tip := c_law_tip (P := P) (w := w) (base := base) T D.d__law_tip (C__law_plus := C__law_plus) (C__law_flip := C__law_flip)
  have C__law_turn := c_law_turn (P := P) (w := w) (base := base) T D.d__law_turn (C__law_plus := C__law_plus) (C__law_flip := C__law_flip)
  have C__law_step := c_law_step (P := P) (w := w) (base := base) T D.d__law_step (C__law_tip := C__law_tip) (C__law_turn := C__law_turn)
  have C__law_behind := c_law_behind (P := P) (w := w) (base := base) T D.d__law_behind (C__law_step := C__law_step)
  have C__law_tips := c_law_tips (P := P) (w := w) (base := base) T D.d__law_tips 
  have C__law_turns := c_law_turns (P := P) (w := w) (base := base) T D.d__law_turns 
  have C__law_walk := c_law_walk (P := P) (w := w) (base := base) T D.d__law_walk (C__law_of := C__law_of)
  have C__law_mid := c_law_mid (P := P) (w := w) (base := base) T D.d__law_mid 
  have C__law_arcs := c_law_arcs (P := P) (w := w) (base := base) T D.d__law_arcs (C__law_poses := C__law_poses)
  have C__law_across_of := c_law_across_of (P := P) (w := w) (base := base) T D.d__law_across_of (C__law_across := C__law_across)
  have C__law_shifts := c_law_shifts (P := P) (w := w) (base := base) T D.d__law_shifts (C__law_across_of := C__law_across_of)
  have C__law_by_hand_right := c_by_hand (P := P) (w := w) (base := base) T D.d__law_by_hand_right (C_middles_in := C_middles_in) (CK_middles_in := CK_middles_in) (C_home := C_home) (C__law_home := C__law_home) (C__law_lists := C__law_lists3) (C__law_same := C__law_same4)
  refine F.ok sc_law (fun vs H Q E h => ?_) (fun cdv A outer s H vs Q E hr h => ?_)
  · obtain ⟨a, ns, rfl, _⟩ := h
    rfl
  exact law_body T (C__law_by_hand_right := C__law_by_hand_right) (C__law_box := C__law_box) (C__law_cells := C__law_cells) (C__law_take := C__law_take) (C__law_behind := C__law_behind) (C__law_home := C__law_home) (C__law_walk := C__law_walk) (C__law_tips := C__law_tips) (C__law_turns := C__law_turns) (C__law_of := C__law_of) (C__law_poses := C__law_poses) (C__law_mid := C__law_mid) (C__law_arcs := C__law_arcs) (C__law_shifts := C__law_shifts) (C_middles_in := C_middles_in) (C__law_lists := C__law_lists3) (C__law_same := C__law_same3) f cdv A outer s H vs Q E hr h
theorem final {l : PySem.W.OpenLaw} {w : World} {K : PySem.W.Frag} {h : Heap} {mg : Str → Option Value} {fa : Addr} (X : K.In h) (G : h.Ns mainGlobals mg) (hfa : mg "law" = some (.ref fa)) (T : Txt K mg) (D : Defs K mg) :
    ∃ fd : FuncData, (∀ (s : Shared) (v : Value), BindsTo s fd ⟨[v], []⟩ [("_law_script", v)]) ∧ ∀ base : Heap, K.In base → base.Ns mainGlobals mg → FnOk l.prog w K mg base CX0 30 fa fd ["_law_script"] (spLaw K) := by
  obtain ⟨f, fd, F, hm⟩ := D.d_law.ex
  have e := hfa.symm.trans hm
  cases e
  obtain ⟨oc, od, kV, doc, pm, an, cdv, ct, osl, rfl, lk, hcd⟩ := F.ex
  exact ⟨_, fun s v => .of_eq rfl, fun base _ _ => ok_law T D F⟩
end Mv
end

section
set_option Elab.async false
set_option linter.all false
open PySem PySem.W PyProof.Rows
set_option maxRecDepth 100000 in
set_option maxHeartbeats 0 in
theorem PySem.Challenge.cw_movedchest_k46_whole_all_of_a_small_floo_holds : PySem.Challenge.rw_movedchest_k46_whole_all_of_a_small_floo.Holds := by
  w_on; o_law; k_head; (case hw => w_witness2)
  k_fill
  refine L2.walk_of (l := PySem.Challenge.rw_movedchest_k46_whole_all_of_a_small_floo) (n := 63) (k := 30) (x := "_law_script") (CX := fun _ => L2.CX0) (sp := fun w => Mv.spLaw _) rfl (by decide) rfl ⟨rfl, by decide, by decide⟩ (fun w h Y => PySem.W.kIn_of Y) ?F (fun _ _ a ns hl _ hS => ⟨a, ns, rfl, hS, hl, fun _ => rfl⟩) (fun _ _ _ _ _ h => h)
  case F =>
    intro w mg fa h KX G hmg
    refine' Mv.use_def (x := "is_number") (st := Mv.s_is_number) KX G ?a ?l ?c ?k (fun d_is_number => ?_)
    (case a => k_is); (case l => k_is); (case c => k_is); (case k => k_is)
    refine' Mv.use_def (x := "is_from") (st := Mv.s_is_from) KX G ?a ?l ?c ?k (fun d_is_from => ?_)
    (case a => k_is); (case l => k_is); (case c => k_is); (case k => k_is)
    refine' Mv.use_def (x := "is_long") (st := Mv.s_is_long) KX G ?a ?l ?c ?k (fun d_is_long => ?_)
    (case a => k_is); (case l => k_is); (case c => k_is); (case k => k_is)
    refine' Mv.use_def (x := "tupled") (st := Mv.s_tupled) KX G ?a ?l ?c ?k (fun d_tupled => ?_)
    (case a => k_is); (case l => k_is); (case c => k_is); (case k => k_is)
    refine' Mv.use_def (x := "set_of") (st := Mv.s_set_of) KX G ?a ?l ?c ?k (fun d_set_of => ?_)
    (case a => k_is); (case l => k_is); (case c => k_is); (case k => k_is)
    refine' Mv.use_def (x := "are_numbers") (st := Mv.s_are_numbers) KX G ?a ?l ?c ?k (fun d_are_numbers => ?_)
    (case a => k_is); (case l => k_is); (case c => k_is); (case k => k_is)
    refine' Mv.use_def (x := "is_chest") (st := Mv.s_is_chest) KX G ?a ?l ?c ?k (fun d_is_chest => ?_)
    (case a => k_is); (case l => k_is); (case c => k_is); (case k => k_is)
    refine' Mv.use_def (x := "sure_chest") (st := Mv.s_sure_chest) KX G ?a ?l ?c ?k (fun d_sure_chest => ?_)
    (case a => k_is); (case l => k_is); (case c => k_is); (case k => k_is)
    refine' Mv.use_def (x := "is_shape") (st := Mv.s_is_shape) KX G ?a ?l ?c ?k (fun d_is_shape => ?_)
    (case a => k_is); (case l => k_is); (case c => k_is); (case k => k_is)
    refine' Mv.use_def (x := "sure_shape") (st := Mv.s_sure_shape) KX G ?a ?l ?c ?k (fun d_sure_shape => ?_)
    (case a => k_is); (case l => k_is); (case c => k_is); (case k => k_is)
    refine' Mv.use_def (x := "place_in") (st := Mv.s_place_in) KX G ?a ?l ?c ?k (fun d_place_in => ?_)
    (case a => k_is); (case l => k_is); (case c => k_is); (case k => k_is)
    refine' Mv.use_def (x := "side_in") (st := Mv.s_side_in) KX G ?a ?l ?c ?k (fun d_side_in => ?_)
    (case a => k_is); (case l => k_is); (case c => k_is); (case k => k_is)
    refine' Mv.use_def (x := "arcs_in") (st := Mv.s_arcs_in) KX G ?a ?l ?c ?k (fun d_arcs_in => ?_)
    (case a => k_is); (case l => k_is); (case c => k_is); (case k => k_is)
    refine' Mv.use_def (x := "is_stand") (st := Mv.s_is_stand) KX G ?a ?l ?c ?k (fun d_is_stand => ?_)
    (case a => k_is); (case l => k_is); (case c => k_is); (case k => k_is)
    refine' Mv.use_def (x := "sure_stand") (st := Mv.s_sure_stand) KX G ?a ?l ?c ?k (fun d_sure_stand => ?_)
    (case a => k_is); (case l => k_is); (case c => k_is); (case k => k_is)
    refine' Mv.use_def (x := "middle_in") (st := Mv.s_middle_in) KX G ?a ?l ?c ?k (fun d_middle_in => ?_)
    (case a => k_is); (case l => k_is); (case c => k_is); (case k => k_is)
    refine' Mv.use_def (x := "home") (st := Mv.s_home) KX G ?a ?l ?c ?k (fun d_home => ?_)
    (case a => k_is); (case l => k_is); (case c => k_is); (case k => k_is)
    refine' Mv.use_def (x := "spacing_in") (st := Mv.s_spacing_in) KX G ?a ?l ?c ?k (fun d_spacing_in => ?_)
    (case a => k_is); (case l => k_is); (case c => k_is); (case k => k_is)
    refine' Mv.use_def (x := "way_of") (st := Mv.s_way_of) KX G ?a ?l ?c ?k (fun d_way_of => ?_)
    (case a => k_is); (case l => k_is); (case c => k_is); (case k => k_is)
    refine' Mv.use_def (x := "there_in") (st := Mv.s_there_in) KX G ?a ?l ?c ?k (fun d_there_in => ?_)
    (case a => k_is); (case l => k_is); (case c => k_is); (case k => k_is)
    refine' Mv.use_def (x := "span_of") (st := Mv.s_span_of) KX G ?a ?l ?c ?k (fun d_span_of => ?_)
    (case a => k_is); (case l => k_is); (case c => k_is); (case k => k_is)
    refine' Mv.use_def (x := "sure_span") (st := Mv.s_sure_span) KX G ?a ?l ?c ?k (fun d_sure_span => ?_)
    (case a => k_is); (case l => k_is); (case c => k_is); (case k => k_is)
    refine' Mv.use_def (x := "listed") (st := Mv.s_listed) KX G ?a ?l ?c ?k (fun d_listed => ?_)
    (case a => k_is); (case l => k_is); (case c => k_is); (case k => k_is)
    refine' Mv.use_def (x := "middles_in") (st := Mv.s_middles_in) KX G ?a ?l ?c ?k (fun d_middles_in => ?_)
    (case a => k_is); (case l => k_is); (case c => k_is); (case k => k_is)
    refine' Mv.use_def (x := "_law_box") (st := Mv.s__law_box) KX G ?a ?l ?c ?k (fun d__law_box => ?_)
    (case a => k_is); (case l => k_is); (case c => k_is); (case k => k_is)
    refine' Mv.use_def (x := "_law_take") (st := Mv.s__law_take) KX G ?a ?l ?c ?k (fun d__law_take => ?_)
    (case a => k_is); (case l => k_is); (case c => k_is); (case k => k_is)
    refine' Mv.use_def (x := "_law_cells") (st := Mv.s__law_cells) KX G ?a ?l ?c ?k (fun d__law_cells => ?_)
    (case a => k_is); (case l => k_is); (case c => k_is); (case k => k_is)
    refine' Mv.use_def (x := "_law_of") (st := Mv.s__law_of) KX G ?a ?l ?c ?k (fun d__law_of => ?_)
    (case a => k_is); (case l => k_is); (case c => k_is); (case k => k_is)
    refine' Mv.use_def (x := "_law_lists") (st := Mv.s__law_lists) KX G ?a ?l ?c ?k (fun d__law_lists => ?_)
    (case a => k_is); (case l => k_is); (case c => k_is); (case k => k_is)
    refine' Mv.use_def (x := "_law_same") (st := Mv.s__law_same) KX G ?a ?l ?c ?k (fun d__law_same => ?_)
    (case a => k_is); (case l => k_is); (case c => k_is); (case k => k_is)
    refine' Mv.use_def (x := "_law_home") (st := Mv.s__law_home) KX G ?a ?l ?c ?k (fun d__law_home => ?_)
    (case a => k_is); (case l => k_is); (case c => k_is); (case k => k_is)
    refine' Mv.use_def (x := "_law_poses") (st := Mv.s__law_poses) KX G ?a ?l ?c ?k (fun d__law_poses => ?_)
    (case a => k_is); (case l => k_is); (case c => k_is); (case k => k_is)
    refine' Mv.use_def (x := "_law_across") (st := Mv.s__law_across) KX G ?a ?l ?c ?k (fun d__law_across => ?_)
    (case a => k_is); (case l => k_is); (case c => k_is); (case k => k_is)
    refine' Mv.use_def (x := "_law_plus") (st := Mv.s__law_plus) KX G ?a ?l ?c ?k (fun d__law_plus => ?_)
    (case a => k_is); (case l => k_is); (case c => k_is); (case k => k_is)
    refine' Mv.use_def (x := "_law_flip") (st := Mv.s__law_flip) KX G ?a ?l ?c ?k (fun d__law_flip => ?_)
    (case a => k_is); (case l => k_is); (case c => k_is); (case k => k_is)
    refine' Mv.use_def (x := "_law_tip") (st := Mv.s__law_tip) KX G ?a ?l ?c ?k (fun d__law_tip => ?_)
    (case a => k_is); (case l => k_is); (case c => k_is); (case k => k_is)
    refine' Mv.use_def (x := "_law_turn") (st := Mv.s__law_turn) KX G ?a ?l ?c ?k (fun d__law_turn => ?_)
    (case a => k_is); (case l => k_is); (case c => k_is); (case k => k_is)
    refine' Mv.use_def (x := "_law_step") (st := Mv.s__law_step) KX G ?a ?l ?c ?k (fun d__law_step => ?_)
    (case a => k_is); (case l => k_is); (case c => k_is); (case k => k_is)
    refine' Mv.use_def (x := "_law_behind") (st := Mv.s__law_behind) KX G ?a ?l ?c ?k (fun d__law_behind => ?_)
    (case a => k_is); (case l => k_is); (case c => k_is); (case k => k_is)
    refine' Mv.use_def (x := "_law_tips") (st := Mv.s__law_tips) KX G ?a ?l ?c ?k (fun d__law_tips => ?_)
    (case a => k_is); (case l => k_is); (case c => k_is); (case k => k_is)
    refine' Mv.use_def (x := "_law_turns") (st := Mv.s__law_turns) KX G ?a ?l ?c ?k (fun d__law_turns => ?_)
    (case a => k_is); (case l => k_is); (case c => k_is); (case k => k_is)
    refine' Mv.use_def (x := "_law_walk") (st := Mv.s__law_walk) KX G ?a ?l ?c ?k (fun d__law_walk => ?_)
    (case a => k_is); (case l => k_is); (case c => k_is); (case k => k_is)
    refine' Mv.use_def (x := "_law_mid") (st := Mv.s__law_mid) KX G ?a ?l ?c ?k (fun d__law_mid => ?_)
    (case a => k_is); (case l => k_is); (case c => k_is); (case k => k_is)
    refine' Mv.use_def (x := "_law_arcs") (st := Mv.s__law_arcs) KX G ?a ?l ?c ?k (fun d__law_arcs => ?_)
    (case a => k_is); (case l => k_is); (case c => k_is); (case k => k_is)
    refine' Mv.use_def (x := "_law_across_of") (st := Mv.s__law_across_of) KX G ?a ?l ?c ?k (fun d__law_across_of => ?_)
    (case a => k_is); (case l => k_is); (case c => k_is); (case k => k_is)
    refine' Mv.use_def (x := "_law_shifts") (st := Mv.s__law_shifts) KX G ?a ?l ?c ?k (fun d__law_shifts => ?_)
    (case a => k_is); (case l => k_is); (case c => k_is); (case k => k_is)
    refine' Mv.use_def (x := "_law_by_hand_right") (st := Mv.s__law_by_hand_right) KX G ?a ?l ?c ?k (fun d__law_by_hand_right => ?_)
    (case a => k_is); (case l => k_is); (case c => k_is); (case k => k_is)
    refine' Mv.use_def (x := "law") (st := Mv.s_law) KX G ?a ?l ?c ?k (fun d_law => ?_)
    (case a => k_is); (case l => k_is); (case c => k_is); (case k => k_is)
    refine' Mv.use_txt KX G ?gR ?gX ?gH ?kR ?k0 ?k1 ?k2 ?k3 ?k4 ?k5 ?kX ?kH ?j0 ?j1 ?j2 ?j3 ?gM ?gg ?z1 ?z2 ?z3 ?z4 ?z5 ?z6 ?z7 ?z8 ?z9 ?z10 ?z11 ?z12 ?z13 ?z14 ?z15 ?z16 ?z17 (fun T => ?_)
    (case gR => k_is); (case gX => k_is); (case gH => k_is); (case kR => k_is); (case k0 => k_is); (case k1 => k_is); (case k2 => k_is); (case k3 => k_is); (case k4 => k_is); (case k5 => k_is); (case kX => k_is); (case kH => k_is); (case j0 => k_is); (case j1 => k_is); (case j2 => k_is); (case j3 => k_is); (case gM => k_is); (case gg => k_is); (case z1 => k_is); (case z2 => k_is); (case z3 => k_is); (case z4 => k_is); (case z5 => k_is); (case z6 => k_is); (case z7 => k_is); (case z8 => k_is); (case z9 => k_is); (case z10 => k_is); (case z11 => k_is); (case z12 => k_is); (case z13 => k_is); (case z14 => k_is); (case z15 => k_is); (case z16 => k_is); (case z17 => k_is)
    exact Mv.final KX G hmg T ⟨d_is_number, d_is_from, d_is_long, d_tupled, d_set_of, d_are_numbers, d_is_chest, d_sure_chest, d_is_shape, d_sure_shape, d_place_in, d_side_in, d_arcs_in, d_is_stand, d_sure_stand, d_middle_in, d_home, d_spacing_in, d_way_of, d_there_in, d_span_of, d_sure_span, d_listed, d_middles_in, d__law_box, d__law_take, d__law_cells, d__law_of, d__law_lists, d__law_same, d__law_home, d__law_poses, d__law_across, d__law_plus, d__law_flip, d__law_tip, d__law_turn, d__law_step, d__law_behind, d__law_tips, d__law_turns, d__law_walk, d__law_mid, d__law_arcs, d__law_across_of, d__law_shifts, d__law_by_hand_right, d_law⟩
end
