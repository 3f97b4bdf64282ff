import PyProof.Rows.All
import Wide.All
import OpenK.AllK
import Wide.FinOn
import KE.KStateDown
import HandS.ForMost
import HandS.Exc
import HandS.ExcOwn
import HandS.ExcBuiltin
import HandS.ExcSuper
import HandS.ExcIs
import HandS.TryOnly
import HandS.WordsExc
import HandS.Defaults
import HandS.IsInst
import HandS.Conv
import HandS.Zip
import HandS.TupAny
import HandS.TupMul
import HandS.Deep
import HandS.Style
import HandS.Wide
import HandS.Walk
import HandS.Lambda
import HandS.EndTab
import HandS.Head0
import HandS.Head1
import HandS.Head2
import HandS.HeadEnd
import HandS.HeadHook1
import HandS.HeadHook2
import HandS.HeadHook3
import HandS.HeadHook4
import HandS.HeadWalk
import KE.GoesNew
import KE.GoesMore
import HandS.ExcInit
import HandS.ClsMeth
import HandS.ExcField
import KE.KExcSuper
import HandS.RaiseOp
import PyProof.RaisesStr
import PyProof.FactsAll.dict
import PySem.Challenge.RW_harmonicdues_k20_whole_foes_against_any
section
/-! HdMath: the mathematics, plain Lean: fractions scaled by 27720; the group; the great fact. -/
namespace Hd
/-- top and bottom of x / 27720 in lowest terms -/
def nu (x : Int) : Int := x / (Int.gcd x 27720 : Int)
def de (x : Int) : Int := 27720 / (Int.gcd x 27720 : Int)
theorem gpos (x : Int) : 0 < (Int.gcd x 27720 : Int) := by
  have : Int.gcd x 27720 ≠ 0 := by
    intro h
    have := (Int.gcd_eq_zero_iff.mp h).2
    omega
  omega
theorem nu_mul (x : Int) : nu x * (Int.gcd x 27720 : Int) = x := Int.ediv_mul_cancel (Int.gcd_dvd_left ..)
theorem de_mul (x : Int) : de x * (Int.gcd x 27720 : Int) = 27720 := Int.ediv_mul_cancel (Int.gcd_dvd_right ..)
theorem de_pos (x : Int) : 0 < de x := by
  have h1 := de_mul x
  have h2 := gpos x
  rcases Int.lt_trichotomy (de x) 0 with h | h | h
  · have := Int.mul_neg_of_neg_of_pos h h2; omega
  · rw [h] at h1; simp at h1
  · exact h
theorem de_le (x : Int) : de x ≤ 27720 := by
  have h1 := de_mul x
  have h2 := gpos x
  have h3 := de_pos x
  have := Int.mul_le_mul_of_nonneg_left (show (1 : Int) ≤ (Int.gcd x 27720 : Int) by omega) (Int.le_of_lt h3)
  omega
theorem nu_de (x : Int) : nu x * 27720 = x * de x := by
  have h1 := nu_mul x
  have h2 := de_mul x
  calc nu x * 27720 = nu x * (de x * (Int.gcd x 27720 : Int)) := by rw [h2]
    _ = (nu x * (Int.gcd x 27720 : Int)) * de x := by rw [Int.mul_comm (de x), Int.mul_assoc]
    _ = x * de x := by rw [h1]
theorem nu_abs (x : Int) : (nu x).natAbs ≤ x.natAbs := by
  have h1 := nu_mul x
  have h2 := gpos x
  have h3 : x.natAbs = (nu x).natAbs * Int.gcd x 27720 := by
    conv => lhs; rw [← h1]
    rw [Int.natAbs_mul]; simp
  rw [h3]
  exact Nat.le_mul_of_pos_right _ (by omega)
theorem nu_bnd {x B : Int} (h1 : -B ≤ x) (h2 : x ≤ B) : -B ≤ nu x ∧ nu x ≤ B := by
  have := nu_abs x
  omega
theorem cop (x : Int) : Int.gcd (nu x) (de x) = 1 := by
  have h := gpos x
  have h0 : 0 < Int.gcd x 27720 := by omega
  exact Int.gcd_ediv_gcd_ediv_gcd h0
/-- a divisor prime to the other factor -/
theorem dvd_cop {a b c : Int} (h : a ∣ b * c) (g : Int.gcd b a = 1) : a ∣ c := by
  have h' : a.natAbs ∣ b.natAbs * c.natAbs := by
    rw [← Int.natAbs_mul]
    exact Int.natAbs_dvd_natAbs.mpr h
  have g' : Nat.Coprime a.natAbs b.natAbs := by
    show Nat.gcd a.natAbs b.natAbs = 1
    rw [Nat.gcd_comm]
    exact g
  exact Int.natAbs_dvd_natAbs.mp (Nat.Coprime.dvd_of_dvd_mul_left g' h')
/-- lowest terms are unique -/
theorem low_eq {t b x : Int} (hb : 0 < b) (h : t * 27720 = x * b) : t / (Int.gcd t b : Int) = nu x ∧ b / (Int.gcd t b : Int) = de x := by
  have hg : 0 < Int.gcd t b := Nat.pos_of_ne_zero fun e => by
    have := (Int.gcd_eq_zero_iff.mp e).2
    omega
  have c1 : Int.gcd (t / (Int.gcd t b : Int)) (b / (Int.gcd t b : Int)) = 1 := Int.gcd_ediv_gcd_ediv_gcd hg
  have t1 : t / (Int.gcd t b : Int) * (Int.gcd t b : Int) = t := Int.ediv_mul_cancel (Int.gcd_dvd_left ..)
  have b1 : b / (Int.gcd t b : Int) * (Int.gcd t b : Int) = b := Int.ediv_mul_cancel (Int.gcd_dvd_right ..)
  generalize hT : t / (Int.gcd t b : Int) = T at *
  generalize hB : b / (Int.gcd t b : Int) = B at *
  generalize hG : (Int.gcd t b : Int) = G at *
  have hG0 : 0 < G := by omega
  have hB0 : 0 < B := by
    rcases Int.lt_trichotomy B 0 with q | q | q
    · have := Int.mul_neg_of_neg_of_pos q hG0; omega
    · rw [q] at b1; simp at b1; omega
    · exact q
  -- T * 27720 = x * B
  have e1 : T * 27720 = x * B := by
    have q : (T * 27720) * G = (x * B) * G := by
      calc (T * 27720) * G = (T * G) * 27720 := by rw [Int.mul_assoc, Int.mul_comm 27720, ← Int.mul_assoc]
        _ = x * b := by rw [t1, h]
        _ = (x * B) * G := by rw [← b1, Int.mul_assoc]
    exact Int.eq_of_mul_eq_mul_right (by omega) q
  have c2 := cop x
  have e2 := nu_de x
  have dp := de_pos x
  generalize nu x = N at *
  generalize de x = E at *
  -- T * E = N * B
  have e3 : T * E = N * B := by
    have q : (T * E) * 27720 = (N * B) * 27720 := by
      calc (T * E) * 27720 = (T * 27720) * E := by rw [Int.mul_assoc, Int.mul_comm E, ← Int.mul_assoc]
        _ = (x * B) * E := by rw [e1]
        _ = (x * E) * B := by rw [Int.mul_assoc, Int.mul_comm B, ← Int.mul_assoc]
        _ = (N * 27720) * B := by rw [e2]
        _ = (N * B) * 27720 := by rw [Int.mul_assoc, Int.mul_comm 27720, ← Int.mul_assoc]
    exact Int.eq_of_mul_eq_mul_right (by omega) q
  have d1 : B ∣ E := by
    have q : B ∣ T * E := ⟨N, by rw [e3, Int.mul_comm]⟩
    exact dvd_cop q c1
  have d2 : E ∣ B := by
    have q : E ∣ N * B := ⟨T, by rw [← e3, Int.mul_comm]⟩
    exact dvd_cop q c2
  have eBE : B = E := Int.dvd_antisymm (Int.le_of_lt hB0) (Int.le_of_lt dp) d1 d2
  subst eBE
  exact ⟨Int.eq_of_mul_eq_mul_right (by omega) e3, rfl⟩
/-- the sum -/
theorem add_sc {x y : Int} {t2 b2 : Int} (h : t2 * 27720 = y * b2) : (nu x * b2 + t2 * de x) * 27720 = (x + y) * (de x * b2) := by
  have e := nu_de x
  calc (nu x * b2 + t2 * de x) * 27720 = (nu x * 27720) * b2 + (t2 * 27720) * de x := by
        rw [Int.add_mul]; congr 1
        · rw [Int.mul_assoc, Int.mul_comm b2, ← Int.mul_assoc]
        · rw [Int.mul_assoc, Int.mul_comm (de x), ← Int.mul_assoc]
    _ = (x * de x) * b2 + (y * b2) * de x := by rw [e, h]
    _ = (x + y) * (de x * b2) := by
        rw [Int.add_mul]; congr 1
        · rw [Int.mul_assoc]
        · rw [Int.mul_assoc, Int.mul_comm b2]
theorem less_sc (x y : Int) : (nu x * de y < nu y * de x) ↔ x < y := by
  have ex := nu_de x
  have ey := nu_de y
  have hx := de_pos x
  have hy := de_pos y
  have hp : 0 < de x * de y := Int.mul_pos hx hy
  have e1 : (nu x * de y) * 27720 = x * (de x * de y) := by
    rw [Int.mul_assoc, Int.mul_comm (de y), ← Int.mul_assoc, ex, Int.mul_assoc]
  have e2 : (nu y * de x) * 27720 = y * (de x * de y) := by
    rw [Int.mul_assoc, Int.mul_comm (de x), ← Int.mul_assoc, ey, Int.mul_assoc, Int.mul_comm (de y)]
  constructor
  · intro h
    have : x * (de x * de y) < y * (de x * de y) := by omega
    exact Int.lt_of_mul_lt_mul_right this (Int.le_of_lt hp)
  · intro h
    have := Int.mul_lt_mul_of_pos_right h hp
    omega
/-- the fractions' equality -/
theorem fr_inj {x y : Int} (h1 : nu x = nu y) (h2 : de x = de y) : x = y := by
  have ex := nu_de x
  have ey := nu_de y
  rw [h1, h2] at ex
  have : x * de y = y * de y := by omega
  exact Int.eq_of_mul_eq_mul_right (by have := de_pos y; omega) this
end Hd
namespace Hd
/-! ### the divisor loops -/
theorem gcd_turn {one other : Int} : Int.gcd other (one % other) = Int.gcd one other := by
  have e : one % other = one - other * (one / other) := Int.emod_def ..
  apply Nat.dvd_antisymm
  · apply Int.natCast_dvd_natCast.mp
    refine Int.dvd_coe_gcd ?_ (Int.gcd_dvd_left ..)
    have h1 : (Int.gcd other (one % other) : Int) ∣ other := Int.gcd_dvd_left ..
    have h2 : (Int.gcd other (one % other) : Int) ∣ one % other := Int.gcd_dvd_right ..
    have h3 : one = one % other + other * (one / other) := by omega
    conv => rhs; rw [h3]
    exact Int.dvd_add h2 (Int.dvd_mul_of_dvd_left h1)
  · apply Int.natCast_dvd_natCast.mp
    refine Int.dvd_coe_gcd (Int.gcd_dvd_right ..) ?_
    have h1 : (Int.gcd one other : Int) ∣ one := Int.gcd_dvd_left ..
    have h2 : (Int.gcd one other : Int) ∣ other := Int.gcd_dvd_right ..
    rw [e]
    exact Int.dvd_sub h1 (Int.dvd_mul_of_dvd_left h2)
/-! ### the harmonic sums, scaled -/
def hs : Nat → Int
  | 0 => 0
  | j + 1 => hs j + 27720 / ((j + 1 : Nat) : Int)
/-! ### the group -/
def grp0 (k : Nat) : List Int := (List.range k).map fun (i : Nat) => (i : Int)
def gone (g : List Int) (p : Int) : Int := if p ∈ g then p else g.getLastD 0
def behind (g : List Int) (p : Int) : List Int := g.filter fun o => o != gone g p
def ind (g : List Int) (i : Nat) : Int := if (i : Int) ∈ g then 1 else 0
def sh (g : List Int) (i : Nat) : Int := if (i : Int) ∈ g then 27720 / (g.length : Int) else 0
def ex (p : Int) (i : Nat) : Int := if (i : Int) = p then 27720 else 0
abbrev Stt := List Int × (Nat → Int)
def st0 (k : Nat) : Stt := (grp0 k, fun _ => 0)
def stp (s : Stt) (p : Int) : Stt := (behind s.1 p, fun i => s.2 i + sh s.1 i - ex p i)
def run (k : Nat) (ds : List Int) : Stt := ds.foldl stp (st0 k)
theorem run_snoc (k : Nat) (ds : List Int) (p : Int) : run k (ds ++ [p]) = stp (run k ds) p := by
  unfold run
  rw [List.foldl_append]
  rfl
theorem run_nil (k : Nat) : run k [] = st0 k := rfl
/-- what holds of a group with m left of k -/
structure GOk (k : Nat) (g : List Int) : Prop where
  asc : g.Pairwise (· < ·)
  bnd : ∀ i ∈ g, 0 ≤ i ∧ i < (k : Int)
  ne : g ≠ []
theorem grp0_ok {k : Nat} (h : 0 < k) : GOk k (grp0 k) := by
  refine ⟨?_, ?_, ?_⟩
  · unfold grp0
    rw [List.pairwise_map]
    exact List.Pairwise.imp (fun h => by omega) (List.pairwise_lt_range (n := k))
  · intro i hi
    obtain ⟨j, hj, rfl⟩ := List.mem_map.mp hi
    have := List.mem_range.mp hj
    omega
  · unfold grp0
    intro e
    have := congrArg List.length e
    simp at this
    omega
theorem grp0_len (k : Nat) : (grp0 k).length = k := by simp [grp0]
theorem asc_nodup {g : List Int} (h : g.Pairwise (· < ·)) : g.Nodup := List.Pairwise.imp (fun h => by omega) h
theorem last_mem {g : List Int} (h : g ≠ []) : g.getLastD 0 ∈ g := by
  cases g with
  | nil => exact absurd rfl h
  | cons a r => simp [List.getLastD]
theorem gone_mem {g : List Int} (h : g ≠ []) (p : Int) : gone g p ∈ g := by
  unfold gone
  split
  · assumption
  · exact last_mem h
theorem last_max : ∀ {g : List Int}, g.Pairwise (· < ·) → ∀ i ∈ g, i ≤ g.getLastD 0
  | [], _, i, hi => by simp at hi
  | [a], _, i, hi => by simp at hi; subst hi; simp [List.getLastD]
  | a :: b :: r, h, i, hi => by
    have ih := last_max (g := b :: r) (List.pairwise_cons.mp h).2
    have e : (a :: b :: r).getLastD 0 = (b :: r).getLastD 0 := by simp [List.getLastD]
    rw [e]
    rcases List.mem_cons.mp hi with rfl | hi
    · have h1 := (List.pairwise_cons.mp h).1 b (by simp)
      have h2 := ih b (by simp)
      omega
    · exact ih i hi
theorem len_out : ∀ {g : List Int} {x : Int}, g.Nodup → x ∈ g → (g.filter fun o => o != x).length + 1 = g.length
  | [], x, _, h => by simp at h
  | a :: r, x, nd, h => by
    obtain ⟨h1, h2⟩ := List.nodup_cons.mp nd
    by_cases e : a = x
    · subst e
      have : (r.filter fun o => o != a) = r := by
        rw [List.filter_eq_self]
        intro b hb
        have : b ≠ a := fun q => h1 (q ▸ hb)
        simpa using this
      simp [List.filter_cons, this]
    · have hx : x ∈ r := by
        rcases List.mem_cons.mp h with q | q
        · exact absurd q.symm e
        · exact q
      have ih := len_out h2 hx
      have : (a != x) = true := by simpa using e
      simp [List.filter_cons, this]
      omega
theorem behind_len {g : List Int} (h : g.Nodup) (hn : g ≠ []) (p : Int) : (behind g p).length + 1 = g.length := len_out h (gone_mem hn p)
theorem behind_sub {g : List Int} {p i : Int} (h : i ∈ behind g p) : i ∈ g ∧ i ≠ p := by
  obtain ⟨h1, h2⟩ := List.mem_filter.mp h
  refine ⟨h1, fun e => ?_⟩
  subst e
  have : gone g i = i := if_pos h1
  rw [this] at h2
  simp at h2
theorem behind_ok {k : Nat} {g : List Int} (h : GOk k g) (p : Int) (h2 : 1 < g.length) : GOk k (behind g p) := by
  refine ⟨List.Pairwise.sublist List.filter_sublist h.asc, fun i hi => h.bnd i (behind_sub hi).1, fun e => ?_⟩
  have := behind_len (asc_nodup h.asc) h.ne p
  rw [e] at this
  simp at this
  omega
/-- what holds behind the deals ds -/
structure ROk (k : Nat) (ds : List Int) : Prop where
  g : GOk k (run k ds).1
  len : (run k ds).1.length + ds.length = k
  debt : ∀ i : Nat, (i : Int) ∈ (run k ds).1 → (run k ds).2 i = hs k - hs (run k ds).1.length
  lo : ∀ i, -(27720 * (ds.length : Int)) ≤ (run k ds).2 i
  hi : ∀ i, (run k ds).2 i ≤ 27720 * (ds.length : Int)
theorem sh_bnd {g : List Int} (h : g ≠ []) (i : Nat) : 0 ≤ sh g i ∧ sh g i ≤ 27720 := by
  have hl : 0 < (g.length : Int) := by
    have := List.length_pos_iff.mpr h
    omega
  unfold sh
  split
  · constructor
    · exact Int.ediv_nonneg (by omega) (by omega)
    · exact Int.ediv_le_self _ (by omega)
  · omega
theorem ex_bnd (p : Int) (i : Nat) : 0 ≤ ex p i ∧ ex p i ≤ 27720 := by
  unfold ex
  split <;> omega
theorem ROk.zero {k : Nat} (h : 0 < k) : ROk k [] := by
  rw [show ([] : List Int) = [] from rfl]
  refine ⟨grp0_ok h, ?_, ?_, ?_, ?_⟩
  · show (grp0 k).length + 0 = k
    rw [grp0_len]; rfl
  · intro i _
    show (0 : Int) = hs k - hs (grp0 k).length
    rw [grp0_len]; omega
  · intro i
    show -(27720 * ((0 : Nat) : Int)) ≤ 0
    omega
  · intro i
    show (0 : Int) ≤ 27720 * ((0 : Nat) : Int)
    omega
theorem ROk.next {k : Nat} {ds : List Int} (r : ROk k ds) (p : Int) (h2 : 1 < (run k ds).1.length) : ROk k (ds ++ [p]) := by
  have hb := behind_len (asc_nodup r.g.asc) r.g.ne p
  have hl := r.len
  refine ⟨?_, ?_, ?_, ?_, ?_⟩
  · rw [run_snoc]
    exact behind_ok r.g p h2
  · rw [run_snoc, List.length_append]
    show (behind (run k ds).1 p).length + (ds.length + 1) = k
    omega
  · intro i hi
    rw [run_snoc] at hi ⊢
    obtain ⟨h3, h4⟩ := behind_sub (show (i : Int) ∈ behind (run k ds).1 p from hi)
    have hd := r.debt i h3
    show (run k ds).2 i + sh (run k ds).1 i - ex p i = hs k - hs (behind (run k ds).1 p).length
    have e1 : sh (run k ds).1 i = 27720 / ((run k ds).1.length : Int) := if_pos h3
    have e2 : ex p i = 0 := if_neg h4
    have e3 : hs (run k ds).1.length = hs (behind (run k ds).1 p).length + 27720 / ((run k ds).1.length : Int) := by
      rw [← hb]; rfl
    omega
  · intro i
    rw [run_snoc, List.length_append]
    show -(27720 * ((ds.length + 1 : Nat) : Int)) ≤ (run k ds).2 i + sh (run k ds).1 i - ex p i
    have h3 := sh_bnd r.g.ne i
    have h4 := ex_bnd p i
    have h5 := r.lo i
    omega
  · intro i
    rw [run_snoc, List.length_append]
    show (run k ds).2 i + sh (run k ds).1 i - ex p i ≤ 27720 * ((ds.length + 1 : Nat) : Int)
    have h3 := sh_bnd r.g.ne i
    have h4 := ex_bnd p i
    have h5 := r.hi i
    omega
/-! ### the tops' sum -/
def tops (n : Nat) (g : List Int) : List Int := (List.range n).map (ind g)
theorem sum_map_add {α : Type} (f h : α → Int) : ∀ l : List α, (l.map fun i => f i + h i).sum = (l.map f).sum + (l.map h).sum
  | [] => rfl
  | a :: l => by
    have ih := sum_map_add f h l
    simp only [List.map_cons, List.sum_cons]
    omega
theorem sum_one : ∀ (n : Nat) (a : Int), 0 ≤ a → a < n → ((List.range n).map fun i : Nat => if (i : Int) = a then (1 : Int) else 0).sum = 1
  | 0, a, h1, h2 => by omega
  | n + 1, a, h1, h2 => by
    rw [List.range_succ, List.map_append, List.sum_append]
    by_cases e : (n : Int) = a
    · have z : ((List.range n).map fun i : Nat => if (i : Int) = a then (1 : Int) else 0) = (List.range n).map fun _ => 0 := by
        refine List.map_congr_left fun i hi => ?_
        have := List.mem_range.mp hi
        exact if_neg (by omega)
      rw [z]
      have z2 : ∀ m : Nat, ((List.range m).map fun _ => (0 : Int)).sum = 0 := fun m => by
        induction m with
        | zero => rfl
        | succ m ih => rw [List.range_succ, List.map_append, List.sum_append, ih]; rfl
      rw [z2]
      simp [e]
    · have ih := sum_one n a h1 (by omega)
      rw [ih]
      simp [e]
theorem tops_sum (n : Nat) : ∀ g : List Int, g.Nodup → (∀ i ∈ g, 0 ≤ i ∧ i < (n : Int)) → (tops n g).sum = g.length
  | [], _, _ => by
    unfold tops ind
    induction n with
    | zero => rfl
    | succ m ih => rw [List.range_succ, List.map_append, List.sum_append, ih (fun i hi => nomatch hi)]; rfl
  | a :: g, nd, hb => by
    obtain ⟨h1, h2⟩ := List.nodup_cons.mp nd
    have ih := tops_sum n g h2 fun i hi => hb i (List.mem_cons_of_mem _ hi)
    have ha := hb a List.mem_cons_self
    have e : tops n (a :: g) = (List.range n).map fun i : Nat => (if (i : Int) = a then (1 : Int) else 0) + ind g i := by
      unfold tops
      refine List.map_congr_left fun i _ => ?_
      unfold ind
      by_cases e : (i : Int) = a
      · subst e
        simp [h1]
      · simp [e]
    rw [e, sum_map_add, sum_one n a ha.1 ha.2]
    show 1 + (tops n g).sum = _
    rw [ih]
    simp
    omega
/-- the number of those left divides 27720 -/
theorem div_ok {m : Nat} (h1 : 0 < m) (h2 : m ≤ 12) : (27720 / (m : Int)) * (m : Int) = 27720 := by
  have : m = 1 ∨ m = 2 ∨ m = 3 ∨ m = 4 ∨ m = 5 ∨ m = 6 ∨ m = 7 ∨ m = 8 ∨ m = 9 ∨ m = 10 ∨ m = 11 ∨ m = 12 := by omega
  rcases this with h | h | h | h | h | h | h | h | h | h | h | h <;> subst h <;> decide
theorem top_sc {g : List Int} {i : Nat} (h1 : 0 < g.length) (h2 : g.length ≤ 12) : ind g i * 27720 = sh g i * (g.length : Int) := by
  unfold ind sh
  split
  · rw [div_ok h1 h2]; rfl
  · simp
theorem hs_bnd : ∀ k, 0 ≤ hs k ∧ hs k ≤ 27720 * (k : Int)
  | 0 => by simp [hs]
  | k + 1 => by
    have ih := hs_bnd k
    have h1 : 0 ≤ 27720 / ((k + 1 : Nat) : Int) := Int.ediv_nonneg (by omega) (by omega)
    have h2 : 27720 / ((k + 1 : Nat) : Int) ≤ 27720 := Int.ediv_le_self _ (by omega)
    show 0 ≤ hs k + 27720 / ((k + 1 : Nat) : Int) ∧ hs k + 27720 / ((k + 1 : Nat) : Int) ≤ 27720 * ((k + 1 : Nat) : Int)
    omega
end Hd
end
section
set_option Elab.async false
set_option linter.all false
set_option maxRecDepth 100000
set_option maxHeartbeats 4000000
/-! HdText: the text by places, names, scopes, what the written part says (printed by gentext.py). -/
namespace Hd
open PySem PySem.Spec PyProof.Rows L2
def top (i : Nat) : Stmt := PySem.Challenge.pw_harmonicdues_k20_whole_foes_against_any.main.body.getD i (.Pass ⟨0, 0, 0, 0⟩)
theorem mem_at {a : Type} {l : List a} {x : a} (i : Nat) (h : l[i]? = some x) : x ∈ l := List.mem_of_getElem? h
abbrev s_is_integer : Stmt := top 2
abbrev s_is_within : Stmt := top 3
abbrev s_is_pair : Stmt := top 4
abbrev s_divisor : Stmt := top 15
abbrev s_lowest : Stmt := top 16
abbrev s_plus : Stmt := top 17
abbrev s_minus : Stmt := top 18
abbrev s_check_people : Stmt := top 24
abbrev s_are_shares : Stmt := top 25
abbrev s_first_wrong : Stmt := top 26
abbrev s_with_shares : Stmt := top 27
abbrev s_paid : Stmt := top 31
abbrev s_harmonic : Stmt := top 33
abbrev s_check_beats : Stmt := top 34
abbrev s_most : Stmt := top 35
abbrev s_check_many_beats : Stmt := top 37
abbrev s_group_of : Stmt := top 38
abbrev s_shares_for : Stmt := top 39
abbrev s_group_behind : Stmt := top 40
abbrev s_is_person : Stmt := top 41
abbrev s_against : Stmt := top 42
abbrev s_is_led : Stmt := top 43
abbrev s_is_against : Stmt := top 44
abbrev s__law_hand : Stmt := top 46
abbrev s__law_draw : Stmt := top 47
abbrev s__law_some : Stmt := top 48
abbrev s__law_is : Stmt := top 49
abbrev s__law_deep : Stmt := top 50
abbrev s__law_low : Stmt := top 51
abbrev s__law_plus : Stmt := top 52
abbrev s__law_less : Stmt := top 53
abbrev s__law_most : Stmt := top 54
abbrev s__law_group_shares : Stmt := top 55
abbrev s__law_dealt : Stmt := top 56
abbrev s__law_followed : Stmt := top 57
abbrev s__law_way : Stmt := top 58
abbrev s__law_logged : Stmt := top 59
abbrev s__law_deals_of : Stmt := top 60
abbrev s__law_beats : Stmt := top 61
abbrev s__law_foe_right : Stmt := top 62
abbrev s__law_bad_way : Stmt := top 63
abbrev s__law_raised : Stmt := top 64
abbrev s_law : Stmt := top 65
abbrev s_Dealer_init : Stmt := inClass (top 32) 0
abbrev s_Dealer_check_shares : Stmt := inClass (top 32) 1
abbrev s_Dealer_give : Stmt := inClass (top 32) 2
abbrev s_Dealer_deal : Stmt := inClass (top 32) 4
abbrev s_Dealer_debts : Stmt := inClass (top 32) 5
abbrev s_BadWay_init : Stmt := inClass (top 11) 0
theorem sc_is_integer : FnScope ["thing"] ["thing"] (defScope s_is_integer) := ⟨rfl, rfl, rfl, by decide +kernel, rfl, by decide +kernel, by decide +kernel⟩
theorem sc_is_within : FnScope ["thing", "low", "high"] ["thing", "low", "high"] (defScope s_is_within) := ⟨rfl, rfl, rfl, by decide +kernel, rfl, by decide +kernel, by decide +kernel⟩
theorem sc_is_pair : FnScope ["thing"] ["thing"] (defScope s_is_pair) := ⟨rfl, rfl, rfl, by decide +kernel, rfl, by decide +kernel, by decide +kernel⟩
theorem sc_divisor : FnScope ["one", "other"] ["one", "other"] (defScope s_divisor) := ⟨rfl, rfl, rfl, by decide +kernel, rfl, by decide +kernel, by decide +kernel⟩
theorem sc_lowest : FnScope ["top", "bottom", "by"] ["top", "bottom"] (defScope s_lowest) := ⟨rfl, rfl, rfl, by decide +kernel, rfl, by decide +kernel, by decide +kernel⟩
theorem sc_plus : FnScope ["one", "other"] ["one", "other"] (defScope s_plus) := ⟨rfl, rfl, rfl, by decide +kernel, rfl, by decide +kernel, by decide +kernel⟩
theorem sc_minus : FnScope ["one", "other"] ["one", "other"] (defScope s_minus) := ⟨rfl, rfl, rfl, by decide +kernel, rfl, by decide +kernel, by decide +kernel⟩
theorem sc_check_people : FnScope ["n"] ["n"] (defScope s_check_people) := ⟨rfl, rfl, rfl, by decide +kernel, rfl, by decide +kernel, by decide +kernel⟩
theorem sc_are_shares : FnScope ["n", "m", "thing", "top"] ["n", "m", "thing"] (defScope s_are_shares) := ⟨rfl, rfl, rfl, by decide +kernel, rfl, by decide +kernel, by decide +kernel⟩
theorem sc_first_wrong : FnScope ["n", "m", "row", "at", "shares"] ["n", "m", "row"] (defScope s_first_wrong) := ⟨rfl, rfl, rfl, by decide +kernel, rfl, by decide +kernel, by decide +kernel⟩
theorem sc_with_shares : FnScope ["so_far", "shares", "one", "top"] ["so_far", "shares"] (defScope s_with_shares) := ⟨rfl, rfl, rfl, by decide +kernel, rfl, by decide +kernel, by decide +kernel⟩
theorem sc_paid : FnScope ["debts", "person"] ["debts", "person"] (defScope s_paid) := ⟨rfl, rfl, rfl, by decide +kernel, rfl, by decide +kernel, by decide +kernel⟩
theorem sc_harmonic : FnScope ["low", "high", "found", "k"] ["low", "high"] (defScope s_harmonic) := ⟨rfl, rfl, rfl, by decide +kernel, rfl, by decide +kernel, by decide +kernel⟩
theorem sc_check_beats : FnScope ["beats"] ["beats"] (defScope s_check_beats) := ⟨rfl, rfl, rfl, by decide +kernel, rfl, by decide +kernel, by decide +kernel⟩
theorem sc_most : FnScope ["n", "beats"] ["n", "beats"] (defScope s_most) := ⟨rfl, rfl, rfl, by decide +kernel, rfl, by decide +kernel, by decide +kernel⟩
theorem sc_check_many_beats : FnScope ["beats"] ["beats"] (defScope s_check_many_beats) := ⟨rfl, rfl, rfl, by decide +kernel, rfl, by decide +kernel, by decide +kernel⟩
theorem sc_group_of : FnScope ["n", "beats"] ["n", "beats"] (defScope s_group_of) := ⟨rfl, rfl, rfl, by decide +kernel, rfl, by decide +kernel, by decide +kernel⟩
theorem sc_shares_for : FnScope ["n", "group", "person"] ["n", "group"] (defScope s_shares_for) := ⟨rfl, rfl, rfl, by decide +kernel, rfl, by decide +kernel, by decide +kernel⟩
theorem sc_group_behind : FnScope ["group", "person", "gone", "one"] ["group", "person"] (defScope s_group_behind) := ⟨rfl, rfl, rfl, by decide +kernel, rfl, by decide +kernel, by decide +kernel⟩
theorem sc_is_person : FnScope ["n", "thing"] ["n", "thing"] (defScope s_is_person) := ⟨rfl, rfl, rfl, by decide +kernel, rfl, by decide +kernel, by decide +kernel⟩
theorem sc_against : FnScope ["n", "beats", "way", "dealer", "group", "row", "deals", "shares", "person"] ["n", "beats", "way"] (defScope s_against) := ⟨rfl, rfl, rfl, by decide +kernel, rfl, by decide +kernel, by decide +kernel⟩
theorem sc_is_led : FnScope ["n", "beats", "row", "deals", "group", "shares", "person"] ["n", "beats", "row", "deals"] (defScope s_is_led) := ⟨rfl, rfl, rfl, by decide +kernel, rfl, by decide +kernel, by decide +kernel⟩
theorem sc_is_against : FnScope ["n", "beats", "thing", "row", "deals", "person", "debt", "one", "group"] ["n", "beats", "thing"] (defScope s_is_against) := ⟨rfl, rfl, rfl, by decide +kernel, rfl, by decide +kernel, by decide +kernel⟩
theorem sc__law_hand : FnScope ["_law_script", "_law_cells", "_law_cell"] ["_law_script"] (defScope s__law_hand) := ⟨rfl, rfl, rfl, by decide +kernel, rfl, by decide +kernel, by decide +kernel⟩
theorem sc__law_draw : FnScope ["_law_hand_here", "_law_many", "_law_cell", "_law_digit", "_law_number"] ["_law_hand_here", "_law_many"] (defScope s__law_draw) := ⟨rfl, rfl, rfl, by decide +kernel, rfl, by decide +kernel, by decide +kernel⟩
theorem sc__law_some : FnScope ["_law_hand_here", "_law_things"] ["_law_hand_here", "_law_things"] (defScope s__law_some) := ⟨rfl, rfl, rfl, by decide +kernel, rfl, by decide +kernel, by decide +kernel⟩
theorem sc__law_is : FnScope ["_law_told", "_law_due", "_law_k", "_law_key"] ["_law_told", "_law_due"] (defScope s__law_is) := ⟨rfl, rfl, rfl, by decide +kernel, rfl, by decide +kernel, by decide +kernel⟩
theorem sc__law_deep : FnScope ["_law_kind", "_law_found", "_law_turn"] ["_law_kind"] (defScope s__law_deep) := ⟨rfl, rfl, rfl, by decide +kernel, rfl, by decide +kernel, by decide +kernel⟩
theorem sc__law_low : FnScope ["_law_top", "_law_bottom", "_law_one", "_law_other"] ["_law_top", "_law_bottom"] (defScope s__law_low) := ⟨rfl, rfl, rfl, by decide +kernel, rfl, by decide +kernel, by decide +kernel⟩
theorem sc__law_plus : FnScope ["_law_one", "_law_other"] ["_law_one", "_law_other"] (defScope s__law_plus) := ⟨rfl, rfl, rfl, by decide +kernel, rfl, by decide +kernel, by decide +kernel⟩
theorem sc__law_less : FnScope ["_law_one", "_law_other"] ["_law_one", "_law_other"] (defScope s__law_less) := ⟨rfl, rfl, rfl, by decide +kernel, rfl, by decide +kernel, by decide +kernel⟩
theorem sc__law_most : FnScope ["_law_n", "_law_beats_here", "_law_found", "_law_k"] ["_law_n", "_law_beats_here"] (defScope s__law_most) := ⟨rfl, rfl, rfl, by decide +kernel, rfl, by decide +kernel, by decide +kernel⟩
theorem sc__law_group_shares : FnScope ["_law_n", "_law_group", "_law_person"] ["_law_n", "_law_group"] (defScope s__law_group_shares) := ⟨rfl, rfl, rfl, by decide +kernel, rfl, by decide +kernel, by decide +kernel⟩
theorem sc__law_dealt : FnScope ["_law_debts", "_law_shares", "_law_person", "_law_found", "_law_debt", "_law_top"] ["_law_debts", "_law_shares", "_law_person"] (defScope s__law_dealt) := ⟨rfl, rfl, rfl, by decide +kernel, rfl, by decide +kernel, by decide +kernel⟩
theorem sc__law_followed : FnScope ["_law_n", "_law_beats_here", "_law_deals", "_law_group", "_law_debts", "_law_row", "_law_views", "_law_number", "_law_person", "_law_shares", "_law_out", "_law_one"] ["_law_n", "_law_beats_here", "_law_deals"] (defScope s__law_followed) := ⟨rfl, rfl, rfl, by decide +kernel, rfl, by decide +kernel, by decide +kernel⟩
theorem sc__law_way : FnScope ["_law_way_here", "_law_table", "_law_view", "_law_debts", "_law_shares", "_law_number", "_law_grown", "_law_debt", "_law_top", "_law_left", "_law_person", "_law_best", "_law_one", "_law_other"] ["_law_way_here", "_law_table", "_law_view"] (defScope s__law_way) := ⟨rfl, rfl, rfl, by decide +kernel, rfl, by decide +kernel, by decide +kernel⟩
theorem sc__law_logged : FnScope ["_law_seen", "_law_way_here", "_law_table", "_law_view"] ["_law_seen", "_law_way_here", "_law_table", "_law_view"] (defScope s__law_logged) := ⟨rfl, rfl, rfl, by decide +kernel, rfl, by decide +kernel, by decide +kernel⟩
theorem sc__law_deals_of : FnScope ["_law_n", "_law_beats_here", "_law_way_here", "_law_table", "_law_deals", "_law_number", "_law_group", "_law_debts", "_law_person", "_law_out", "_law_one"] ["_law_n", "_law_beats_here", "_law_way_here", "_law_table"] (defScope s__law_deals_of) := ⟨rfl, rfl, rfl, by decide +kernel, rfl, by decide +kernel, by decide +kernel⟩
theorem sc__law_beats : FnScope ["_law_hand_here"] ["_law_hand_here"] (defScope s__law_beats) := ⟨rfl, rfl, rfl, by decide +kernel, rfl, by decide +kernel, by decide +kernel⟩
theorem sc__law_foe_right : FnScope ["_law_hand_here", "_law_n", "_law_beats_here", "_law_many", "_law_way_here", "_law_table", "_law_beat", "_law_deals", "_law_row", "_law_views", "_law_person", "_law_debts", "_law_seen", "_law_told"] ["_law_hand_here", "_law_n", "_law_beats_here"] (defScope s__law_foe_right) := ⟨rfl, rfl, rfl, by decide +kernel, rfl, by decide +kernel, by decide +kernel⟩
theorem sc__law_bad_way : FnScope ["_law_hand_here", "_law_n", "_law_beats_here", "_law_many", "_law_table", "_law_beat", "_law_at", "_law_place", "_law_turn", "_law_odd", "_law_wrong", "_law_found", "e"] ["_law_hand_here", "_law_n", "_law_beats_here"] (defScope s__law_bad_way) := ⟨rfl, rfl, rfl, by decide +kernel, rfl, by decide +kernel, by decide +kernel⟩
theorem sc__law_raised : FnScope ["_law_n", "_law_beats_here", "_law_at", "_law_found"] ["_law_n", "_law_beats_here", "_law_at"] (defScope s__law_raised) := ⟨rfl, rfl, rfl, by decide +kernel, rfl, by decide +kernel, by decide +kernel⟩
theorem sc_law : FnScope ["_law_script", "_law_hand_here", "_law_turn", "_law_n", "_law_beats_here", "_law_many"] ["_law_script"] (defScope s_law) := ⟨rfl, rfl, rfl, by decide +kernel, rfl, by decide +kernel, by decide +kernel⟩
theorem sc_Dealer_init : FnScope ["self", "n"] ["self", "n"] (defScope s_Dealer_init) := ⟨rfl, rfl, rfl, by decide +kernel, rfl, by decide +kernel, by decide +kernel⟩
theorem sc_Dealer_check_shares : FnScope ["self", "shares"] ["self", "shares"] (defScope s_Dealer_check_shares) := ⟨rfl, rfl, rfl, by decide +kernel, rfl, by decide +kernel, by decide +kernel⟩
theorem sc_Dealer_give : FnScope ["self", "shares", "person"] ["self", "shares", "person"] (defScope s_Dealer_give) := ⟨rfl, rfl, rfl, by decide +kernel, rfl, by decide +kernel, by decide +kernel⟩
theorem sc_Dealer_deal : FnScope ["self", "shares", "person"] ["self", "shares", "person"] (defScope s_Dealer_deal) := ⟨rfl, rfl, rfl, by decide +kernel, rfl, by decide +kernel, by decide +kernel⟩
theorem sc_Dealer_debts : FnScope ["self"] ["self"] (defScope s_Dealer_debts) := ⟨rfl, rfl, rfl, by decide +kernel, rfl, by decide +kernel, by decide +kernel⟩
def dd_is_integer : He.DefD := ⟨("is_integer", none), "is_integer", "is_integer", defArgs s_is_integer, defBody s_is_integer, defScope s_is_integer, [], []⟩
def dd_is_within : He.DefD := ⟨("is_within", none), "is_within", "is_within", defArgs s_is_within, defBody s_is_within, defScope s_is_within, [], []⟩
def dd_is_pair : He.DefD := ⟨("is_pair", none), "is_pair", "is_pair", defArgs s_is_pair, defBody s_is_pair, defScope s_is_pair, [], []⟩
def dd_divisor : He.DefD := ⟨("divisor", none), "divisor", "divisor", defArgs s_divisor, defBody s_divisor, defScope s_divisor, [], []⟩
def dd_lowest : He.DefD := ⟨("lowest", none), "lowest", "lowest", defArgs s_lowest, defBody s_lowest, defScope s_lowest, [], []⟩
def dd_plus : He.DefD := ⟨("plus", none), "plus", "plus", defArgs s_plus, defBody s_plus, defScope s_plus, [], []⟩
def dd_minus : He.DefD := ⟨("minus", none), "minus", "minus", defArgs s_minus, defBody s_minus, defScope s_minus, [], []⟩
def dd_check_people : He.DefD := ⟨("check_people", none), "check_people", "check_people", defArgs s_check_people, defBody s_check_people, defScope s_check_people, [], []⟩
def dd_are_shares : He.DefD := ⟨("are_shares", none), "are_shares", "are_shares", defArgs s_are_shares, defBody s_are_shares, defScope s_are_shares, [], []⟩
def dd_first_wrong : He.DefD := ⟨("first_wrong", none), "first_wrong", "first_wrong", defArgs s_first_wrong, defBody s_first_wrong, defScope s_first_wrong, [], []⟩
def dd_with_shares : He.DefD := ⟨("with_shares", none), "with_shares", "with_shares", defArgs s_with_shares, defBody s_with_shares, defScope s_with_shares, [], []⟩
def dd_paid : He.DefD := ⟨("paid", none), "paid", "paid", defArgs s_paid, defBody s_paid, defScope s_paid, [], []⟩
def dd_harmonic : He.DefD := ⟨("harmonic", none), "harmonic", "harmonic", defArgs s_harmonic, defBody s_harmonic, defScope s_harmonic, [], []⟩
def dd_check_beats : He.DefD := ⟨("check_beats", none), "check_beats", "check_beats", defArgs s_check_beats, defBody s_check_beats, defScope s_check_beats, [], []⟩
def dd_most : He.DefD := ⟨("most", none), "most", "most", defArgs s_most, defBody s_most, defScope s_most, [], []⟩
def dd_check_many_beats : He.DefD := ⟨("check_many_beats", none), "check_many_beats", "check_many_beats", defArgs s_check_many_beats, defBody s_check_many_beats, defScope s_check_many_beats, [], []⟩
def dd_group_of : He.DefD := ⟨("group_of", none), "group_of", "group_of", defArgs s_group_of, defBody s_group_of, defScope s_group_of, [], []⟩
def dd_shares_for : He.DefD := ⟨("shares_for", none), "shares_for", "shares_for", defArgs s_shares_for, defBody s_shares_for, defScope s_shares_for, [], []⟩
def dd_group_behind : He.DefD := ⟨("group_behind", none), "group_behind", "group_behind", defArgs s_group_behind, defBody s_group_behind, defScope s_group_behind, [], []⟩
def dd_is_person : He.DefD := ⟨("is_person", none), "is_person", "is_person", defArgs s_is_person, defBody s_is_person, defScope s_is_person, [], []⟩
def dd_against : He.DefD := ⟨("against", none), "against", "against", defArgs s_against, defBody s_against, defScope s_against, [], []⟩
def dd_is_led : He.DefD := ⟨("is_led", none), "is_led", "is_led", defArgs s_is_led, defBody s_is_led, defScope s_is_led, [], []⟩
def dd_is_against : He.DefD := ⟨("is_against", none), "is_against", "is_against", defArgs s_is_against, defBody s_is_against, defScope s_is_against, [], []⟩
def dd__law_hand : He.DefD := ⟨("_law_hand", none), "_law_hand", "_law_hand", defArgs s__law_hand, defBody s__law_hand, defScope s__law_hand, [], []⟩
def dd__law_draw : He.DefD := ⟨("_law_draw", none), "_law_draw", "_law_draw", defArgs s__law_draw, defBody s__law_draw, defScope s__law_draw, [], []⟩
def dd__law_some : He.DefD := ⟨("_law_some", none), "_law_some", "_law_some", defArgs s__law_some, defBody s__law_some, defScope s__law_some, [], []⟩
def dd__law_is : He.DefD := ⟨("_law_is", none), "_law_is", "_law_is", defArgs s__law_is, defBody s__law_is, defScope s__law_is, [], []⟩
def dd__law_deep : He.DefD := ⟨("_law_deep", none), "_law_deep", "_law_deep", defArgs s__law_deep, defBody s__law_deep, defScope s__law_deep, [], []⟩
def dd__law_low : He.DefD := ⟨("_law_low", none), "_law_low", "_law_low", defArgs s__law_low, defBody s__law_low, defScope s__law_low, [], []⟩
def dd__law_plus : He.DefD := ⟨("_law_plus", none), "_law_plus", "_law_plus", defArgs s__law_plus, defBody s__law_plus, defScope s__law_plus, [], []⟩
def dd__law_less : He.DefD := ⟨("_law_less", none), "_law_less", "_law_less", defArgs s__law_less, defBody s__law_less, defScope s__law_less, [], []⟩
def dd__law_most : He.DefD := ⟨("_law_most", none), "_law_most", "_law_most", defArgs s__law_most, defBody s__law_most, defScope s__law_most, [], []⟩
def dd__law_group_shares : He.DefD := ⟨("_law_group_shares", none), "_law_group_shares", "_law_group_shares", defArgs s__law_group_shares, defBody s__law_group_shares, defScope s__law_group_shares, [], []⟩
def dd__law_dealt : He.DefD := ⟨("_law_dealt", none), "_law_dealt", "_law_dealt", defArgs s__law_dealt, defBody s__law_dealt, defScope s__law_dealt, [], []⟩
def dd__law_followed : He.DefD := ⟨("_law_followed", none), "_law_followed", "_law_followed", defArgs s__law_followed, defBody s__law_followed, defScope s__law_followed, [], []⟩
def dd__law_way : He.DefD := ⟨("_law_way", none), "_law_way", "_law_way", defArgs s__law_way, defBody s__law_way, defScope s__law_way, [], []⟩
def dd__law_logged : He.DefD := ⟨("_law_logged", none), "_law_logged", "_law_logged", defArgs s__law_logged, defBody s__law_logged, defScope s__law_logged, [], []⟩
def dd__law_deals_of : He.DefD := ⟨("_law_deals_of", none), "_law_deals_of", "_law_deals_of", defArgs s__law_deals_of, defBody s__law_deals_of, defScope s__law_deals_of, [], []⟩
def dd__law_beats : He.DefD := ⟨("_law_beats", none), "_law_beats", "_law_beats", defArgs s__law_beats, defBody s__law_beats, defScope s__law_beats, [], []⟩
def dd__law_foe_right : He.DefD := ⟨("_law_foe_right", none), "_law_foe_right", "_law_foe_right", defArgs s__law_foe_right, defBody s__law_foe_right, defScope s__law_foe_right, [], []⟩
def dd__law_bad_way : He.DefD := ⟨("_law_bad_way", none), "_law_bad_way", "_law_bad_way", defArgs s__law_bad_way, defBody s__law_bad_way, defScope s__law_bad_way, [], []⟩
def dd__law_raised : He.DefD := ⟨("_law_raised", none), "_law_raised", "_law_raised", defArgs s__law_raised, defBody s__law_raised, defScope s__law_raised, [], []⟩
def dd_law : He.DefD := ⟨("law", none), "law", "law", defArgs s_law, defBody s_law, defScope s_law, [], []⟩
def dd_Dealer_init : He.DefD := ⟨("Dealer", some "__init__"), "__init__", "Dealer.__init__", defArgs s_Dealer_init, defBody s_Dealer_init, defScope s_Dealer_init, [], []⟩
def dd_Dealer_check_shares : He.DefD := ⟨("Dealer", some "check_shares"), "check_shares", "Dealer.check_shares", defArgs s_Dealer_check_shares, defBody s_Dealer_check_shares, defScope s_Dealer_check_shares, [], []⟩
def dd_Dealer_give : He.DefD := ⟨("Dealer", some "give"), "give", "Dealer.give", defArgs s_Dealer_give, defBody s_Dealer_give, defScope s_Dealer_give, [], []⟩
def dd_Dealer_deal : He.DefD := ⟨("Dealer", some "deal"), "deal", "Dealer.deal", defArgs s_Dealer_deal, defBody s_Dealer_deal, defScope s_Dealer_deal, [], []⟩
def dd_Dealer_debts : He.DefD := ⟨("Dealer", some "debts"), "debts", "Dealer.debts", defArgs s_Dealer_debts, defBody s_Dealer_debts, defScope s_Dealer_debts, [], []⟩
def dd_BadWay_init : He.DefD := ⟨("BadWay", some "__init__"), "__init__", "BadWay.__init__", defArgs s_BadWay_init, defBody s_BadWay_init, defScope s_BadWay_init, [], []⟩
def fnL : List He.DefD := [dd_is_integer, dd_is_within, dd_is_pair, dd_divisor, dd_lowest, dd_plus, dd_minus, dd_check_people, dd_are_shares, dd_first_wrong, dd_with_shares, dd_paid, dd_harmonic, dd_check_beats, dd_most, dd_check_many_beats, dd_group_of, dd_shares_for, dd_group_behind, dd_is_person, dd_against, dd_is_led, dd_is_against, dd__law_hand, dd__law_draw, dd__law_some, dd__law_is, dd__law_deep, dd__law_low, dd__law_plus, dd__law_less, dd__law_most, dd__law_group_shares, dd__law_dealt, dd__law_followed, dd__law_way, dd__law_logged, dd__law_deals_of, dd__law_beats, dd__law_foe_right, dd__law_bad_way, dd__law_raised, dd_law, dd_Dealer_init, dd_Dealer_check_shares, dd_Dealer_give, dd_Dealer_deal, dd_Dealer_debts]
def gloL : List Str := [("is_integer" : Str), ("is_within" : Str), ("is_pair" : Str), ("divisor" : Str), ("lowest" : Str), ("plus" : Str), ("minus" : Str), ("check_people" : Str), ("are_shares" : Str), ("first_wrong" : Str), ("with_shares" : Str), ("paid" : Str), ("harmonic" : Str), ("check_beats" : Str), ("most" : Str), ("check_many_beats" : Str), ("group_of" : Str), ("shares_for" : Str), ("group_behind" : Str), ("is_person" : Str), ("against" : Str), ("is_led" : Str), ("is_against" : Str), ("_law_hand" : Str), ("_law_draw" : Str), ("_law_some" : Str), ("_law_is" : Str), ("_law_deep" : Str), ("_law_low" : Str), ("_law_plus" : Str), ("_law_less" : Str), ("_law_most" : Str), ("_law_group_shares" : Str), ("_law_dealt" : Str), ("_law_followed" : Str), ("_law_way" : Str), ("_law_logged" : Str), ("_law_deals_of" : Str), ("_law_beats" : Str), ("_law_foe_right" : Str), ("_law_bad_way" : Str), ("_law_raised" : Str), ("law" : Str), ("DuesError" : Str), ("BadWay" : Str), ("Dealer" : Str), ("NOUGHT" : Str), ("ONE" : Str)]
def freeL : List Str := [("isinstance" : Str), ("int" : Str), ("bool" : Str), ("tuple" : Str), ("list" : Str), ("dict" : Str), ("len" : Str), ("abs" : Str), ("range" : Str), ("min" : Str), ("max" : Str), ("zip" : Str), ("enumerate" : Str), ("sum" : Str), ("all" : Str), ("ValueError" : Str), ("ZeroDivisionError" : Str), ("super" : Str)]
def intL : List (Str × Int) := [("MOST_PEOPLE", 12), ("MOST_BOTTOM", 360), ("MOST_BEATS_shares", 400), ("MOST_BEATS_dealing", 1000000000)]
def fldL : List Str := ["kept_debts", "kept_things", "kept_beats"]
def metL : List Str := ["check_shares", "give", "deal", "debts"]
/-- what the written part says -/
structure Txt (K : PySem.W.Frag) (mg : Str → Option Value) : Prop where
  d : ∀ dd ∈ fnL, ∃ fd, FunD K dd.name dd.qual dd.params dd.body dd.scope (dd.dvs K) (dd.kws K) (He.fAd K dd.at_) fd
  glo : ∀ x ∈ gloL, mg x = some (.ref (He.ga K x))
  free : ∀ x ∈ freeL, mg x = none
  int : ∀ p ∈ intL, ∃ t, mg p.1 = some (.int p.2 t)
  nought : ∀ H : Hp, SqT K H (He.ga K "NOUGHT") [.int 0, .int 1]
  one : ∀ H : Hp, SqT K H (He.ga K "ONE") [.int 1, .int 1]
  cls : Cls K (He.ga K "Dealer")
  na : ∀ f ∈ fldL, NoAttr K (He.ga K "Dealer") f
  mt : ∀ m ∈ metL, Meth K (He.ga K "Dealer") m (He.ma K (He.ga K "Dealer") m)
  made : Mk K (He.ga K "Dealer") (He.ma K (He.ga K "Dealer") "__init__")
/-- a def of the module that keeps a promise -/
structure Cal (P : Program) (w : World) (K : PySem.W.Frag) (mg : Str → Option Value) (base : Heap) (CX : CXT) (k : Nat) (x : Str) (ps : List Str) (sp : Sp) : Prop where
  ex : ∃ fd, FnOk P w K mg base CX k (He.ga K x) fd ps sp ∧ Binds K fd ps []
  kp : PySem.W.keepIn K (.ref (He.ga K x)) = true
  gl : mg x = some (.ref (He.ga K x))
/-- a method of the class at C -/
structure CalM (P : Program) (w : World) (K : PySem.W.Frag) (mg : Str → Option Value) (base : Heap) (CX : CXT) (k : Nat) (C : Addr) (m : Str) (ps : List Str) (sp : Sp) : Prop where
  ex : ∃ fd, FnOk P w K mg base CX k (He.ma K C m) fd ps sp ∧ Binds K fd ps []
section
variable {P : Program} {w : World} {K : PySem.W.Frag} {mg : Str → Option Value} {base : Heap}
theorem mk_cal {CX : CXT} {x : Str} {st : Stmt} {N ps : List Str} {k : Nat} {sp : Sp} (F : ∃ fd, FunD K x x (defArgs st) (defBody st) (defScope st) [] [] (He.ga K x) fd) (g : mg x = some (.ref (He.ga K x))) (S : FnScope N ps (defScope st))
    (hb : ∀ (kV doc pm : Value) (an : Option Addr) (cdv ct : Value) (us : List Value), us.length = ps.length → bindArgs (PySem.W.fnOf x x (defArgs st) (defBody st) (defScope st) .none kV doc pm an cdv ct) ⟨us, []⟩ = pure (ps.zip us))
    (len : ∀ vs H Q E, sp vs H Q E → vs.length = ps.length)
    (hbody : ∀ (cdv : Value) (A : Around) (outer : List Env) (s : Shared) (H : Hp) (vs : List V) (Q : VK) (E : XK), Room k (A.deeper (envOfC x (defScope st) s.heap.objs.size (He.ga K x) cdv)) → sp vs H Q E →
      ∃ t, PSs (cxOf CX P w K mg base N x (defScope st) (He.ga K x) cdv A outer s H E) (defBody st) t ∧ t { nx := fun _ H' => Q .non H', rt := Q } (start N vs) H) : Cal P w K mg base CX (k + 1) x ps sp := by
  obtain ⟨fd, F⟩ := F
  exact ⟨⟨fd, F.ok S len hbody, F.bindsN hb⟩, F.kp, g⟩
theorem mk_calM {CX : CXT} {C : Addr} {m q : Str} {st : Stmt} {N ps : List Str} {k : Nat} {sp : Sp} (F : ∃ fd, FunD K m q (defArgs st) (defBody st) (defScope st) [] [] (He.ma K C m) fd) (S : FnScope N ps (defScope st))
    (hb : ∀ (kV doc pm : Value) (an : Option Addr) (cdv ct : Value) (us : List Value), us.length = ps.length → bindArgs (PySem.W.fnOf m q (defArgs st) (defBody st) (defScope st) .none kV doc pm an cdv ct) ⟨us, []⟩ = pure (ps.zip us))
    (len : ∀ vs H Q E, sp vs H Q E → vs.length = ps.length)
    (hbody : ∀ (cdv : Value) (A : Around) (outer : List Env) (s : Shared) (H : Hp) (vs : List V) (Q : VK) (E : XK), Room k (A.deeper (envOfC q (defScope st) s.heap.objs.size (He.ma K C m) cdv)) → sp vs H Q E →
      ∃ t, PSs (cxOf CX P w K mg base N q (defScope st) (He.ma K C m) cdv A outer s H E) (defBody st) t ∧ t { nx := fun _ H' => Q .non H', rt := Q } (start N vs) H) : CalM P w K mg base CX (k + 1) C m ps sp := by
  obtain ⟨fd, F⟩ := F
  exact ⟨⟨fd, F.ok S len hbody, F.bindsN hb⟩⟩
end
section
variable {X : Cx} {k : Nat} {C : Addr} {x m : Str} {p pos apos : Pos} {e o : Expr} {es : List Expr} {ps : List Str} {sp : Sp} {t : TA} {ta : TE}
theorem pe_cal (c : Cal X.prog X.w X.K X.mg X.base CX0 k x ps sp) (hr : Room k X.A) (hg : Gl X x) (ha : PA X (e :: es) t) (hdb : (x == ("__debug__" : Str)) = false := by decide)
    (he : starEach (e :: es) X.env = (false, eval e X.env) :: starEach es X.env := by rfl) (hpl : (backTo pos (starEach es X.env)).any (·.1) = false := by rfl) :
    PE X (.Call (.Name x p) (e :: es) [] pos) (tCall sp [] E0 t) := by
  obtain ⟨fd, F, b⟩ := c.ex
  exact pe_call F hr hg c.gl c.kp b .nil pass0 ha hdb he hpl
theorem pe_calX {CX : CXT} {E : XK} (c : Cal X.prog X.w X.K X.mg X.base CX k x ps sp) (hr : Room k X.A) (hg : Gl X x) (hx : Passes CX X E) (ha : PA X (e :: es) t) (hdb : (x == ("__debug__" : Str)) = false := by decide)
    (he : starEach (e :: es) X.env = (false, eval e X.env) :: starEach es X.env := by rfl) (hpl : (backTo pos (starEach es X.env)).any (·.1) = false := by rfl) :
    PE X (.Call (.Name x p) (e :: es) [] pos) (tCall sp [] E t) := by
  obtain ⟨fd, F, b⟩ := c.ex
  exact pe_call F hr hg c.gl c.kp b .nil hx ha hdb he hpl
theorem pe_calM {pl : Sem Bool} (c : CalM X.prog X.w X.K X.mg X.base CX0 k C m ps sp) (hc : Cls X.K C) (hm : Meth X.K C m (He.ma X.K C m)) (hr : Room k X.A) (he : PE X o ta) (ha : PA X (e :: es) t)
    (hst : starEach (e :: es) X.env = (false, eval e X.env) :: starEach es X.env := by rfl) (hpl : (backTo pos (starEach es X.env)).any (·.1) = false := by rfl)
    (ht : eval (.Call (.Attribute o m apos) (e :: es) [] pos) X.env = (do
      let ov ← eval o X.env
      standAt apos.atName
      let (f, first) ← holding [ov] (getMethod ov m pl)
      callWith pos f first (backTo pos (starEach (e :: es) X.env)) (backToKw pos (keywordEach [] X.env))) := by rfl) :
    PE X (.Call (.Attribute o m apos) (e :: es) [] pos) (tMeth C m sp [] E0 ta t) := by
  obtain ⟨fd, F, b⟩ := c.ex
  exact pe_meth he hc hm F hr b .nil pass0 ha hst hpl ht
theorem pe_calM0 {pl : Sem Bool} (c : CalM X.prog X.w X.K X.mg X.base CX0 k C m ps sp) (hc : Cls X.K C) (hm : Meth X.K C m (He.ma X.K C m)) (hr : Room k X.A) (he : PE X o ta)
    (ht : eval (.Call (.Attribute o m apos) [] [] pos) X.env = (do
      let ov ← eval o X.env
      standAt apos.atName
      let (f, first) ← holding [ov] (getMethod ov m pl)
      callWith pos f first (backTo pos (starEach [] X.env)) (backToKw pos (keywordEach [] X.env))) := by rfl) :
    PE X (.Call (.Attribute o m apos) [] [] pos) (tMeth C m sp [] E0 ta tNil) := by
  obtain ⟨fd, F, b⟩ := c.ex
  exact pe_meth0 he hc hm F hr b .nil pass0 ht
end
section
variable {P : Program} {w : World} {K : PySem.W.Frag} {mg : Str → Option Value} {base : Heap}
theorem Txt.g_is_integer (T : Txt K mg) : mg "is_integer" = some (.ref (He.ga K "is_integer")) := T.glo _ (mem_at 0 rfl)
theorem Txt.g_is_within (T : Txt K mg) : mg "is_within" = some (.ref (He.ga K "is_within")) := T.glo _ (mem_at 1 rfl)
theorem Txt.g_is_pair (T : Txt K mg) : mg "is_pair" = some (.ref (He.ga K "is_pair")) := T.glo _ (mem_at 2 rfl)
theorem Txt.g_divisor (T : Txt K mg) : mg "divisor" = some (.ref (He.ga K "divisor")) := T.glo _ (mem_at 3 rfl)
theorem Txt.g_lowest (T : Txt K mg) : mg "lowest" = some (.ref (He.ga K "lowest")) := T.glo _ (mem_at 4 rfl)
theorem Txt.g_plus (T : Txt K mg) : mg "plus" = some (.ref (He.ga K "plus")) := T.glo _ (mem_at 5 rfl)
theorem Txt.g_minus (T : Txt K mg) : mg "minus" = some (.ref (He.ga K "minus")) := T.glo _ (mem_at 6 rfl)
theorem Txt.g_check_people (T : Txt K mg) : mg "check_people" = some (.ref (He.ga K "check_people")) := T.glo _ (mem_at 7 rfl)
theorem Txt.g_are_shares (T : Txt K mg) : mg "are_shares" = some (.ref (He.ga K "are_shares")) := T.glo _ (mem_at 8 rfl)
theorem Txt.g_first_wrong (T : Txt K mg) : mg "first_wrong" = some (.ref (He.ga K "first_wrong")) := T.glo _ (mem_at 9 rfl)
theorem Txt.g_with_shares (T : Txt K mg) : mg "with_shares" = some (.ref (He.ga K "with_shares")) := T.glo _ (mem_at 10 rfl)
theorem Txt.g_paid (T : Txt K mg) : mg "paid" = some (.ref (He.ga K "paid")) := T.glo _ (mem_at 11 rfl)
theorem Txt.g_harmonic (T : Txt K mg) : mg "harmonic" = some (.ref (He.ga K "harmonic")) := T.glo _ (mem_at 12 rfl)
theorem Txt.g_check_beats (T : Txt K mg) : mg "check_beats" = some (.ref (He.ga K "check_beats")) := T.glo _ (mem_at 13 rfl)
theorem Txt.g_most (T : Txt K mg) : mg "most" = some (.ref (He.ga K "most")) := T.glo _ (mem_at 14 rfl)
theorem Txt.g_check_many_beats (T : Txt K mg) : mg "check_many_beats" = some (.ref (He.ga K "check_many_beats")) := T.glo _ (mem_at 15 rfl)
theorem Txt.g_group_of (T : Txt K mg) : mg "group_of" = some (.ref (He.ga K "group_of")) := T.glo _ (mem_at 16 rfl)
theorem Txt.g_shares_for (T : Txt K mg) : mg "shares_for" = some (.ref (He.ga K "shares_for")) := T.glo _ (mem_at 17 rfl)
theorem Txt.g_group_behind (T : Txt K mg) : mg "group_behind" = some (.ref (He.ga K "group_behind")) := T.glo _ (mem_at 18 rfl)
theorem Txt.g_is_person (T : Txt K mg) : mg "is_person" = some (.ref (He.ga K "is_person")) := T.glo _ (mem_at 19 rfl)
theorem Txt.g_against (T : Txt K mg) : mg "against" = some (.ref (He.ga K "against")) := T.glo _ (mem_at 20 rfl)
theorem Txt.g_is_led (T : Txt K mg) : mg "is_led" = some (.ref (He.ga K "is_led")) := T.glo _ (mem_at 21 rfl)
theorem Txt.g_is_against (T : Txt K mg) : mg "is_against" = some (.ref (He.ga K "is_against")) := T.glo _ (mem_at 22 rfl)
theorem Txt.g__law_hand (T : Txt K mg) : mg "_law_hand" = some (.ref (He.ga K "_law_hand")) := T.glo _ (mem_at 23 rfl)
theorem Txt.g__law_draw (T : Txt K mg) : mg "_law_draw" = some (.ref (He.ga K "_law_draw")) := T.glo _ (mem_at 24 rfl)
theorem Txt.g__law_some (T : Txt K mg) : mg "_law_some" = some (.ref (He.ga K "_law_some")) := T.glo _ (mem_at 25 rfl)
theorem Txt.g__law_is (T : Txt K mg) : mg "_law_is" = some (.ref (He.ga K "_law_is")) := T.glo _ (mem_at 26 rfl)
theorem Txt.g__law_deep (T : Txt K mg) : mg "_law_deep" = some (.ref (He.ga K "_law_deep")) := T.glo _ (mem_at 27 rfl)
theorem Txt.g__law_low (T : Txt K mg) : mg "_law_low" = some (.ref (He.ga K "_law_low")) := T.glo _ (mem_at 28 rfl)
theorem Txt.g__law_plus (T : Txt K mg) : mg "_law_plus" = some (.ref (He.ga K "_law_plus")) := T.glo _ (mem_at 29 rfl)
theorem Txt.g__law_less (T : Txt K mg) : mg "_law_less" = some (.ref (He.ga K "_law_less")) := T.glo _ (mem_at 30 rfl)
theorem Txt.g__law_most (T : Txt K mg) : mg "_law_most" = some (.ref (He.ga K "_law_most")) := T.glo _ (mem_at 31 rfl)
theorem Txt.g__law_group_shares (T : Txt K mg) : mg "_law_group_shares" = some (.ref (He.ga K "_law_group_shares")) := T.glo _ (mem_at 32 rfl)
theorem Txt.g__law_dealt (T : Txt K mg) : mg "_law_dealt" = some (.ref (He.ga K "_law_dealt")) := T.glo _ (mem_at 33 rfl)
theorem Txt.g__law_followed (T : Txt K mg) : mg "_law_followed" = some (.ref (He.ga K "_law_followed")) := T.glo _ (mem_at 34 rfl)
theorem Txt.g__law_way (T : Txt K mg) : mg "_law_way" = some (.ref (He.ga K "_law_way")) := T.glo _ (mem_at 35 rfl)
theorem Txt.g__law_logged (T : Txt K mg) : mg "_law_logged" = some (.ref (He.ga K "_law_logged")) := T.glo _ (mem_at 36 rfl)
theorem Txt.g__law_deals_of (T : Txt K mg) : mg "_law_deals_of" = some (.ref (He.ga K "_law_deals_of")) := T.glo _ (mem_at 37 rfl)
theorem Txt.g__law_beats (T : Txt K mg) : mg "_law_beats" = some (.ref (He.ga K "_law_beats")) := T.glo _ (mem_at 38 rfl)
theorem Txt.g__law_foe_right (T : Txt K mg) : mg "_law_foe_right" = some (.ref (He.ga K "_law_foe_right")) := T.glo _ (mem_at 39 rfl)
theorem Txt.g__law_bad_way (T : Txt K mg) : mg "_law_bad_way" = some (.ref (He.ga K "_law_bad_way")) := T.glo _ (mem_at 40 rfl)
theorem Txt.g__law_raised (T : Txt K mg) : mg "_law_raised" = some (.ref (He.ga K "_law_raised")) := T.glo _ (mem_at 41 rfl)
theorem Txt.g_law (T : Txt K mg) : mg "law" = some (.ref (He.ga K "law")) := T.glo _ (mem_at 42 rfl)
theorem Txt.g_DuesError (T : Txt K mg) : mg "DuesError" = some (.ref (He.ga K "DuesError")) := T.glo _ (mem_at 43 rfl)
theorem Txt.g_BadWay (T : Txt K mg) : mg "BadWay" = some (.ref (He.ga K "BadWay")) := T.glo _ (mem_at 44 rfl)
theorem Txt.g_Dealer (T : Txt K mg) : mg "Dealer" = some (.ref (He.ga K "Dealer")) := T.glo _ (mem_at 45 rfl)
theorem Txt.g_NOUGHT (T : Txt K mg) : mg "NOUGHT" = some (.ref (He.ga K "NOUGHT")) := T.glo _ (mem_at 46 rfl)
theorem Txt.g_ONE (T : Txt K mg) : mg "ONE" = some (.ref (He.ga K "ONE")) := T.glo _ (mem_at 47 rfl)
theorem Txt.n_isinstance (T : Txt K mg) : mg "isinstance" = none := T.free _ (mem_at 0 rfl)
theorem Txt.n_int (T : Txt K mg) : mg "int" = none := T.free _ (mem_at 1 rfl)
theorem Txt.n_bool (T : Txt K mg) : mg "bool" = none := T.free _ (mem_at 2 rfl)
theorem Txt.n_tuple (T : Txt K mg) : mg "tuple" = none := T.free _ (mem_at 3 rfl)
theorem Txt.n_list (T : Txt K mg) : mg "list" = none := T.free _ (mem_at 4 rfl)
theorem Txt.n_dict (T : Txt K mg) : mg "dict" = none := T.free _ (mem_at 5 rfl)
theorem Txt.n_len (T : Txt K mg) : mg "len" = none := T.free _ (mem_at 6 rfl)
theorem Txt.n_abs (T : Txt K mg) : mg "abs" = none := T.free _ (mem_at 7 rfl)
theorem Txt.n_range (T : Txt K mg) : mg "range" = none := T.free _ (mem_at 8 rfl)
theorem Txt.n_min (T : Txt K mg) : mg "min" = none := T.free _ (mem_at 9 rfl)
theorem Txt.n_max (T : Txt K mg) : mg "max" = none := T.free _ (mem_at 10 rfl)
theorem Txt.n_zip (T : Txt K mg) : mg "zip" = none := T.free _ (mem_at 11 rfl)
theorem Txt.n_enumerate (T : Txt K mg) : mg "enumerate" = none := T.free _ (mem_at 12 rfl)
theorem Txt.n_sum (T : Txt K mg) : mg "sum" = none := T.free _ (mem_at 13 rfl)
theorem Txt.n_all (T : Txt K mg) : mg "all" = none := T.free _ (mem_at 14 rfl)
theorem Txt.n_ValueError (T : Txt K mg) : mg "ValueError" = none := T.free _ (mem_at 15 rfl)
theorem Txt.n_ZeroDivisionError (T : Txt K mg) : mg "ZeroDivisionError" = none := T.free _ (mem_at 16 rfl)
theorem Txt.n_super (T : Txt K mg) : mg "super" = none := T.free _ (mem_at 17 rfl)
theorem Txt.i_MOST_PEOPLE (T : Txt K mg) : ∃ t, mg "MOST_PEOPLE" = some (.int 12 t) := T.int ("MOST_PEOPLE", 12) (mem_at 0 rfl)
theorem Txt.i_MOST_BOTTOM (T : Txt K mg) : ∃ t, mg "MOST_BOTTOM" = some (.int 360 t) := T.int ("MOST_BOTTOM", 360) (mem_at 1 rfl)
theorem Txt.i_MOST_BEATS_shares (T : Txt K mg) : ∃ t, mg "MOST_BEATS_shares" = some (.int 400 t) := T.int ("MOST_BEATS_shares", 400) (mem_at 2 rfl)
theorem Txt.i_MOST_BEATS_dealing (T : Txt K mg) : ∃ t, mg "MOST_BEATS_dealing" = some (.int 1000000000 t) := T.int ("MOST_BEATS_dealing", 1000000000) (mem_at 3 rfl)
theorem bo_isinstance : bootBuiltins "isinstance" = some (.builtin "isinstance") := by decide +kernel
theorem bo_int : bootBuiltins "int" = some (.type "int") := by decide +kernel
theorem bo_bool : bootBuiltins "bool" = some (.type "bool") := by decide +kernel
theorem bo_tuple : bootBuiltins "tuple" = some (.type "tuple") := by decide +kernel
theorem bo_list : bootBuiltins "list" = some (.type "list") := by decide +kernel
theorem bo_dict : bootBuiltins "dict" = some (.type "dict") := by decide +kernel
theorem bo_len : bootBuiltins "len" = some (.builtin "len") := by decide +kernel
theorem bo_abs : bootBuiltins "abs" = some (.builtin "abs") := by decide +kernel
theorem bo_range : bootBuiltins "range" = some (.type "range") := by decide +kernel
theorem bo_min : bootBuiltins "min" = some (.builtin "min") := by decide +kernel
theorem bo_max : bootBuiltins "max" = some (.builtin "max") := by decide +kernel
theorem bo_zip : bootBuiltins "zip" = some (.type "zip") := by decide +kernel
theorem bo_enumerate : bootBuiltins "enumerate" = some (.type "enumerate") := by decide +kernel
theorem bo_sum : bootBuiltins "sum" = some (.builtin "sum") := by decide +kernel
theorem bo_all : bootBuiltins "all" = some (.builtin "all") := by decide +kernel
theorem bo_ValueError : bootBuiltins "ValueError" = some (.type "ValueError") := by decide +kernel
theorem bo_ZeroDivisionError : bootBuiltins "ZeroDivisionError" = some (.type "ZeroDivisionError") := by decide +kernel
theorem bo_super : bootBuiltins "super" = some (.type "super") := by decide +kernel
theorem Txt.f_is_integer (T : Txt K mg) : ∃ fd, FunD K "is_integer" "is_integer" (defArgs s_is_integer) (defBody s_is_integer) (defScope s_is_integer) [] [] (He.ga K "is_integer") fd := T.d dd_is_integer (mem_at 0 rfl)
theorem in_is_integer {CX : CXT} (T : Txt K mg) {k : Nat} {sp : Sp} (len : ∀ vs H Q E, sp vs H Q E → vs.length = 1)
    (hbody : ∀ (cdv : Value) (A : Around) (outer : List Env) (s : Shared) (H : Hp) (vs : List V) (Q : VK) (E : XK), Room k (A.deeper (envOfC "is_integer" (defScope s_is_integer) s.heap.objs.size (He.ga K "is_integer") cdv)) → sp vs H Q E →
      ∃ t, PSs (cxOf CX P w K mg base ["thing"] "is_integer" (defScope s_is_integer) (He.ga K "is_integer") cdv A outer s H E) (defBody s_is_integer) t ∧ t { nx := fun _ H' => Q .non H', rt := Q } (start ["thing"] vs) H) : Cal P w K mg base CX (k + 1) "is_integer" ["thing"] sp :=
  mk_cal T.f_is_integer T.g_is_integer sc_is_integer (fun _ _ _ _ _ _ us hl => match us, hl with | [_], _ => rfl) len hbody
theorem Txt.f_is_within (T : Txt K mg) : ∃ fd, FunD K "is_within" "is_within" (defArgs s_is_within) (defBody s_is_within) (defScope s_is_within) [] [] (He.ga K "is_within") fd := T.d dd_is_within (mem_at 1 rfl)
theorem in_is_within {CX : CXT} (T : Txt K mg) {k : Nat} {sp : Sp} (len : ∀ vs H Q E, sp vs H Q E → vs.length = 3)
    (hbody : ∀ (cdv : Value) (A : Around) (outer : List Env) (s : Shared) (H : Hp) (vs : List V) (Q : VK) (E : XK), Room k (A.deeper (envOfC "is_within" (defScope s_is_within) s.heap.objs.size (He.ga K "is_within") cdv)) → sp vs H Q E →
      ∃ t, PSs (cxOf CX P w K mg base ["thing", "low", "high"] "is_within" (defScope s_is_within) (He.ga K "is_within") cdv A outer s H E) (defBody s_is_within) t ∧ t { nx := fun _ H' => Q .non H', rt := Q } (start ["thing", "low", "high"] vs) H) : Cal P w K mg base CX (k + 1) "is_within" ["thing", "low", "high"] sp :=
  mk_cal T.f_is_within T.g_is_within sc_is_within (fun _ _ _ _ _ _ us hl => match us, hl with | [_, _, _], _ => rfl) len hbody
theorem Txt.f_is_pair (T : Txt K mg) : ∃ fd, FunD K "is_pair" "is_pair" (defArgs s_is_pair) (defBody s_is_pair) (defScope s_is_pair) [] [] (He.ga K "is_pair") fd := T.d dd_is_pair (mem_at 2 rfl)
theorem in_is_pair {CX : CXT} (T : Txt K mg) {k : Nat} {sp : Sp} (len : ∀ vs H Q E, sp vs H Q E → vs.length = 1)
    (hbody : ∀ (cdv : Value) (A : Around) (outer : List Env) (s : Shared) (H : Hp) (vs : List V) (Q : VK) (E : XK), Room k (A.deeper (envOfC "is_pair" (defScope s_is_pair) s.heap.objs.size (He.ga K "is_pair") cdv)) → sp vs H Q E →
      ∃ t, PSs (cxOf CX P w K mg base ["thing"] "is_pair" (defScope s_is_pair) (He.ga K "is_pair") cdv A outer s H E) (defBody s_is_pair) t ∧ t { nx := fun _ H' => Q .non H', rt := Q } (start ["thing"] vs) H) : Cal P w K mg base CX (k + 1) "is_pair" ["thing"] sp :=
  mk_cal T.f_is_pair T.g_is_pair sc_is_pair (fun _ _ _ _ _ _ us hl => match us, hl with | [_], _ => rfl) len hbody
theorem Txt.f_divisor (T : Txt K mg) : ∃ fd, FunD K "divisor" "divisor" (defArgs s_divisor) (defBody s_divisor) (defScope s_divisor) [] [] (He.ga K "divisor") fd := T.d dd_divisor (mem_at 3 rfl)
theorem in_divisor {CX : CXT} (T : Txt K mg) {k : Nat} {sp : Sp} (len : ∀ vs H Q E, sp vs H Q E → vs.length = 2)
    (hbody : ∀ (cdv : Value) (A : Around) (outer : List Env) (s : Shared) (H : Hp) (vs : List V) (Q : VK) (E : XK), Room k (A.deeper (envOfC "divisor" (defScope s_divisor) s.heap.objs.size (He.ga K "divisor") cdv)) → sp vs H Q E →
      ∃ t, PSs (cxOf CX P w K mg base ["one", "other"] "divisor" (defScope s_divisor) (He.ga K "divisor") cdv A outer s H E) (defBody s_divisor) t ∧ t { nx := fun _ H' => Q .non H', rt := Q } (start ["one", "other"] vs) H) : Cal P w K mg base CX (k + 1) "divisor" ["one", "other"] sp :=
  mk_cal T.f_divisor T.g_divisor sc_divisor (fun _ _ _ _ _ _ us hl => match us, hl with | [_, _], _ => rfl) len hbody
theorem Txt.f_lowest (T : Txt K mg) : ∃ fd, FunD K "lowest" "lowest" (defArgs s_lowest) (defBody s_lowest) (defScope s_lowest) [] [] (He.ga K "lowest") fd := T.d dd_lowest (mem_at 4 rfl)
theorem in_lowest {CX : CXT} (T : Txt K mg) {k : Nat} {sp : Sp} (len : ∀ vs H Q E, sp vs H Q E → vs.length = 2)
    (hbody : ∀ (cdv : Value) (A : Around) (outer : List Env) (s : Shared) (H : Hp) (vs : List V) (Q : VK) (E : XK), Room k (A.deeper (envOfC "lowest" (defScope s_lowest) s.heap.objs.size (He.ga K "lowest") cdv)) → sp vs H Q E →
      ∃ t, PSs (cxOf CX P w K mg base ["top", "bottom", "by"] "lowest" (defScope s_lowest) (He.ga K "lowest") cdv A outer s H E) (defBody s_lowest) t ∧ t { nx := fun _ H' => Q .non H', rt := Q } (start ["top", "bottom", "by"] vs) H) : Cal P w K mg base CX (k + 1) "lowest" ["top", "bottom"] sp :=
  mk_cal T.f_lowest T.g_lowest sc_lowest (fun _ _ _ _ _ _ us hl => match us, hl with | [_, _], _ => rfl) len hbody
theorem Txt.f_plus (T : Txt K mg) : ∃ fd, FunD K "plus" "plus" (defArgs s_plus) (defBody s_plus) (defScope s_plus) [] [] (He.ga K "plus") fd := T.d dd_plus (mem_at 5 rfl)
theorem in_plus {CX : CXT} (T : Txt K mg) {k : Nat} {sp : Sp} (len : ∀ vs H Q E, sp vs H Q E → vs.length = 2)
    (hbody : ∀ (cdv : Value) (A : Around) (outer : List Env) (s : Shared) (H : Hp) (vs : List V) (Q : VK) (E : XK), Room k (A.deeper (envOfC "plus" (defScope s_plus) s.heap.objs.size (He.ga K "plus") cdv)) → sp vs H Q E →
      ∃ t, PSs (cxOf CX P w K mg base ["one", "other"] "plus" (defScope s_plus) (He.ga K "plus") cdv A outer s H E) (defBody s_plus) t ∧ t { nx := fun _ H' => Q .non H', rt := Q } (start ["one", "other"] vs) H) : Cal P w K mg base CX (k + 1) "plus" ["one", "other"] sp :=
  mk_cal T.f_plus T.g_plus sc_plus (fun _ _ _ _ _ _ us hl => match us, hl with | [_, _], _ => rfl) len hbody
theorem Txt.f_minus (T : Txt K mg) : ∃ fd, FunD K "minus" "minus" (defArgs s_minus) (defBody s_minus) (defScope s_minus) [] [] (He.ga K "minus") fd := T.d dd_minus (mem_at 6 rfl)
theorem in_minus {CX : CXT} (T : Txt K mg) {k : Nat} {sp : Sp} (len : ∀ vs H Q E, sp vs H Q E → vs.length = 2)
    (hbody : ∀ (cdv : Value) (A : Around) (outer : List Env) (s : Shared) (H : Hp) (vs : List V) (Q : VK) (E : XK), Room k (A.deeper (envOfC "minus" (defScope s_minus) s.heap.objs.size (He.ga K "minus") cdv)) → sp vs H Q E →
      ∃ t, PSs (cxOf CX P w K mg base ["one", "other"] "minus" (defScope s_minus) (He.ga K "minus") cdv A outer s H E) (defBody s_minus) t ∧ t { nx := fun _ H' => Q .non H', rt := Q } (start ["one", "other"] vs) H) : Cal P w K mg base CX (k + 1) "minus" ["one", "other"] sp :=
  mk_cal T.f_minus T.g_minus sc_minus (fun _ _ _ _ _ _ us hl => match us, hl with | [_, _], _ => rfl) len hbody
theorem Txt.f_check_people (T : Txt K mg) : ∃ fd, FunD K "check_people" "check_people" (defArgs s_check_people) (defBody s_check_people) (defScope s_check_people) [] [] (He.ga K "check_people") fd := T.d dd_check_people (mem_at 7 rfl)
theorem in_check_people {CX : CXT} (T : Txt K mg) {k : Nat} {sp : Sp} (len : ∀ vs H Q E, sp vs H Q E → vs.length = 1)
    (hbody : ∀ (cdv : Value) (A : Around) (outer : List Env) (s : Shared) (H : Hp) (vs : List V) (Q : VK) (E : XK), Room k (A.deeper (envOfC "check_people" (defScope s_check_people) s.heap.objs.size (He.ga K "check_people") cdv)) → sp vs H Q E →
      ∃ t, PSs (cxOf CX P w K mg base ["n"] "check_people" (defScope s_check_people) (He.ga K "check_people") cdv A outer s H E) (defBody s_check_people) t ∧ t { nx := fun _ H' => Q .non H', rt := Q } (start ["n"] vs) H) : Cal P w K mg base CX (k + 1) "check_people" ["n"] sp :=
  mk_cal T.f_check_people T.g_check_people sc_check_people (fun _ _ _ _ _ _ us hl => match us, hl with | [_], _ => rfl) len hbody
theorem Txt.f_are_shares (T : Txt K mg) : ∃ fd, FunD K "are_shares" "are_shares" (defArgs s_are_shares) (defBody s_are_shares) (defScope s_are_shares) [] [] (He.ga K "are_shares") fd := T.d dd_are_shares (mem_at 8 rfl)
theorem in_are_shares {CX : CXT} (T : Txt K mg) {k : Nat} {sp : Sp} (len : ∀ vs H Q E, sp vs H Q E → vs.length = 3)
    (hbody : ∀ (cdv : Value) (A : Around) (outer : List Env) (s : Shared) (H : Hp) (vs : List V) (Q : VK) (E : XK), Room k (A.deeper (envOfC "are_shares" (defScope s_are_shares) s.heap.objs.size (He.ga K "are_shares") cdv)) → sp vs H Q E →
      ∃ t, PSs (cxOf CX P w K mg base ["n", "m", "thing", "top"] "are_shares" (defScope s_are_shares) (He.ga K "are_shares") cdv A outer s H E) (defBody s_are_shares) t ∧ t { nx := fun _ H' => Q .non H', rt := Q } (start ["n", "m", "thing", "top"] vs) H) : Cal P w K mg base CX (k + 1) "are_shares" ["n", "m", "thing"] sp :=
  mk_cal T.f_are_shares T.g_are_shares sc_are_shares (fun _ _ _ _ _ _ us hl => match us, hl with | [_, _, _], _ => rfl) len hbody
theorem Txt.f_first_wrong (T : Txt K mg) : ∃ fd, FunD K "first_wrong" "first_wrong" (defArgs s_first_wrong) (defBody s_first_wrong) (defScope s_first_wrong) [] [] (He.ga K "first_wrong") fd := T.d dd_first_wrong (mem_at 9 rfl)
theorem in_first_wrong {CX : CXT} (T : Txt K mg) {k : Nat} {sp : Sp} (len : ∀ vs H Q E, sp vs H Q E → vs.length = 3)
    (hbody : ∀ (cdv : Value) (A : Around) (outer : List Env) (s : Shared) (H : Hp) (vs : List V) (Q : VK) (E : XK), Room k (A.deeper (envOfC "first_wrong" (defScope s_first_wrong) s.heap.objs.size (He.ga K "first_wrong") cdv)) → sp vs H Q E →
      ∃ t, PSs (cxOf CX P w K mg base ["n", "m", "row", "at", "shares"] "first_wrong" (defScope s_first_wrong) (He.ga K "first_wrong") cdv A outer s H E) (defBody s_first_wrong) t ∧ t { nx := fun _ H' => Q .non H', rt := Q } (start ["n", "m", "row", "at", "shares"] vs) H) : Cal P w K mg base CX (k + 1) "first_wrong" ["n", "m", "row"] sp :=
  mk_cal T.f_first_wrong T.g_first_wrong sc_first_wrong (fun _ _ _ _ _ _ us hl => match us, hl with | [_, _, _], _ => rfl) len hbody
theorem Txt.f_with_shares (T : Txt K mg) : ∃ fd, FunD K "with_shares" "with_shares" (defArgs s_with_shares) (defBody s_with_shares) (defScope s_with_shares) [] [] (He.ga K "with_shares") fd := T.d dd_with_shares (mem_at 10 rfl)
theorem in_with_shares {CX : CXT} (T : Txt K mg) {k : Nat} {sp : Sp} (len : ∀ vs H Q E, sp vs H Q E → vs.length = 2)
    (hbody : ∀ (cdv : Value) (A : Around) (outer : List Env) (s : Shared) (H : Hp) (vs : List V) (Q : VK) (E : XK), Room k (A.deeper (envOfC "with_shares" (defScope s_with_shares) s.heap.objs.size (He.ga K "with_shares") cdv)) → sp vs H Q E →
      ∃ t, PSs (cxOf CX P w K mg base ["so_far", "shares", "one", "top"] "with_shares" (defScope s_with_shares) (He.ga K "with_shares") cdv A outer s H E) (defBody s_with_shares) t ∧ t { nx := fun _ H' => Q .non H', rt := Q } (start ["so_far", "shares", "one", "top"] vs) H) : Cal P w K mg base CX (k + 1) "with_shares" ["so_far", "shares"] sp :=
  mk_cal T.f_with_shares T.g_with_shares sc_with_shares (fun _ _ _ _ _ _ us hl => match us, hl with | [_, _], _ => rfl) len hbody
theorem Txt.f_paid (T : Txt K mg) : ∃ fd, FunD K "paid" "paid" (defArgs s_paid) (defBody s_paid) (defScope s_paid) [] [] (He.ga K "paid") fd := T.d dd_paid (mem_at 11 rfl)
theorem in_paid {CX : CXT} (T : Txt K mg) {k : Nat} {sp : Sp} (len : ∀ vs H Q E, sp vs H Q E → vs.length = 2)
    (hbody : ∀ (cdv : Value) (A : Around) (outer : List Env) (s : Shared) (H : Hp) (vs : List V) (Q : VK) (E : XK), Room k (A.deeper (envOfC "paid" (defScope s_paid) s.heap.objs.size (He.ga K "paid") cdv)) → sp vs H Q E →
      ∃ t, PSs (cxOf CX P w K mg base ["debts", "person"] "paid" (defScope s_paid) (He.ga K "paid") cdv A outer s H E) (defBody s_paid) t ∧ t { nx := fun _ H' => Q .non H', rt := Q } (start ["debts", "person"] vs) H) : Cal P w K mg base CX (k + 1) "paid" ["debts", "person"] sp :=
  mk_cal T.f_paid T.g_paid sc_paid (fun _ _ _ _ _ _ us hl => match us, hl with | [_, _], _ => rfl) len hbody
theorem Txt.f_harmonic (T : Txt K mg) : ∃ fd, FunD K "harmonic" "harmonic" (defArgs s_harmonic) (defBody s_harmonic) (defScope s_harmonic) [] [] (He.ga K "harmonic") fd := T.d dd_harmonic (mem_at 12 rfl)
theorem in_harmonic {CX : CXT} (T : Txt K mg) {k : Nat} {sp : Sp} (len : ∀ vs H Q E, sp vs H Q E → vs.length = 2)
    (hbody : ∀ (cdv : Value) (A : Around) (outer : List Env) (s : Shared) (H : Hp) (vs : List V) (Q : VK) (E : XK), Room k (A.deeper (envOfC "harmonic" (defScope s_harmonic) s.heap.objs.size (He.ga K "harmonic") cdv)) → sp vs H Q E →
      ∃ t, PSs (cxOf CX P w K mg base ["low", "high", "found", "k"] "harmonic" (defScope s_harmonic) (He.ga K "harmonic") cdv A outer s H E) (defBody s_harmonic) t ∧ t { nx := fun _ H' => Q .non H', rt := Q } (start ["low", "high", "found", "k"] vs) H) : Cal P w K mg base CX (k + 1) "harmonic" ["low", "high"] sp :=
  mk_cal T.f_harmonic T.g_harmonic sc_harmonic (fun _ _ _ _ _ _ us hl => match us, hl with | [_, _], _ => rfl) len hbody
theorem Txt.f_check_beats (T : Txt K mg) : ∃ fd, FunD K "check_beats" "check_beats" (defArgs s_check_beats) (defBody s_check_beats) (defScope s_check_beats) [] [] (He.ga K "check_beats") fd := T.d dd_check_beats (mem_at 13 rfl)
theorem in_check_beats {CX : CXT} (T : Txt K mg) {k : Nat} {sp : Sp} (len : ∀ vs H Q E, sp vs H Q E → vs.length = 1)
    (hbody : ∀ (cdv : Value) (A : Around) (outer : List Env) (s : Shared) (H : Hp) (vs : List V) (Q : VK) (E : XK), Room k (A.deeper (envOfC "check_beats" (defScope s_check_beats) s.heap.objs.size (He.ga K "check_beats") cdv)) → sp vs H Q E →
      ∃ t, PSs (cxOf CX P w K mg base ["beats"] "check_beats" (defScope s_check_beats) (He.ga K "check_beats") cdv A outer s H E) (defBody s_check_beats) t ∧ t { nx := fun _ H' => Q .non H', rt := Q } (start ["beats"] vs) H) : Cal P w K mg base CX (k + 1) "check_beats" ["beats"] sp :=
  mk_cal T.f_check_beats T.g_check_beats sc_check_beats (fun _ _ _ _ _ _ us hl => match us, hl with | [_], _ => rfl) len hbody
theorem Txt.f_most (T : Txt K mg) : ∃ fd, FunD K "most" "most" (defArgs s_most) (defBody s_most) (defScope s_most) [] [] (He.ga K "most") fd := T.d dd_most (mem_at 14 rfl)
theorem in_most {CX : CXT} (T : Txt K mg) {k : Nat} {sp : Sp} (len : ∀ vs H Q E, sp vs H Q E → vs.length = 2)
    (hbody : ∀ (cdv : Value) (A : Around) (outer : List Env) (s : Shared) (H : Hp) (vs : List V) (Q : VK) (E : XK), Room k (A.deeper (envOfC "most" (defScope s_most) s.heap.objs.size (He.ga K "most") cdv)) → sp vs H Q E →
      ∃ t, PSs (cxOf CX P w K mg base ["n", "beats"] "most" (defScope s_most) (He.ga K "most") cdv A outer s H E) (defBody s_most) t ∧ t { nx := fun _ H' => Q .non H', rt := Q } (start ["n", "beats"] vs) H) : Cal P w K mg base CX (k + 1) "most" ["n", "beats"] sp :=
  mk_cal T.f_most T.g_most sc_most (fun _ _ _ _ _ _ us hl => match us, hl with | [_, _], _ => rfl) len hbody
theorem Txt.f_check_many_beats (T : Txt K mg) : ∃ fd, FunD K "check_many_beats" "check_many_beats" (defArgs s_check_many_beats) (defBody s_check_many_beats) (defScope s_check_many_beats) [] [] (He.ga K "check_many_beats") fd := T.d dd_check_many_beats (mem_at 15 rfl)
theorem in_check_many_beats {CX : CXT} (T : Txt K mg) {k : Nat} {sp : Sp} (len : ∀ vs H Q E, sp vs H Q E → vs.length = 1)
    (hbody : ∀ (cdv : Value) (A : Around) (outer : List Env) (s : Shared) (H : Hp) (vs : List V) (Q : VK) (E : XK), Room k (A.deeper (envOfC "check_many_beats" (defScope s_check_many_beats) s.heap.objs.size (He.ga K "check_many_beats") cdv)) → sp vs H Q E →
      ∃ t, PSs (cxOf CX P w K mg base ["beats"] "check_many_beats" (defScope s_check_many_beats) (He.ga K "check_many_beats") cdv A outer s H E) (defBody s_check_many_beats) t ∧ t { nx := fun _ H' => Q .non H', rt := Q } (start ["beats"] vs) H) : Cal P w K mg base CX (k + 1) "check_many_beats" ["beats"] sp :=
  mk_cal T.f_check_many_beats T.g_check_many_beats sc_check_many_beats (fun _ _ _ _ _ _ us hl => match us, hl with | [_], _ => rfl) len hbody
theorem Txt.f_group_of (T : Txt K mg) : ∃ fd, FunD K "group_of" "group_of" (defArgs s_group_of) (defBody s_group_of) (defScope s_group_of) [] [] (He.ga K "group_of") fd := T.d dd_group_of (mem_at 16 rfl)
theorem in_group_of {CX : CXT} (T : Txt K mg) {k : Nat} {sp : Sp} (len : ∀ vs H Q E, sp vs H Q E → vs.length = 2)
    (hbody : ∀ (cdv : Value) (A : Around) (outer : List Env) (s : Shared) (H : Hp) (vs : List V) (Q : VK) (E : XK), Room k (A.deeper (envOfC "group_of" (defScope s_group_of) s.heap.objs.size (He.ga K "group_of") cdv)) → sp vs H Q E →
      ∃ t, PSs (cxOf CX P w K mg base ["n", "beats"] "group_of" (defScope s_group_of) (He.ga K "group_of") cdv A outer s H E) (defBody s_group_of) t ∧ t { nx := fun _ H' => Q .non H', rt := Q } (start ["n", "beats"] vs) H) : Cal P w K mg base CX (k + 1) "group_of" ["n", "beats"] sp :=
  mk_cal T.f_group_of T.g_group_of sc_group_of (fun _ _ _ _ _ _ us hl => match us, hl with | [_, _], _ => rfl) len hbody
theorem Txt.f_shares_for (T : Txt K mg) : ∃ fd, FunD K "shares_for" "shares_for" (defArgs s_shares_for) (defBody s_shares_for) (defScope s_shares_for) [] [] (He.ga K "shares_for") fd := T.d dd_shares_for (mem_at 17 rfl)
theorem in_shares_for {CX : CXT} (T : Txt K mg) {k : Nat} {sp : Sp} (len : ∀ vs H Q E, sp vs H Q E → vs.length = 2)
    (hbody : ∀ (cdv : Value) (A : Around) (outer : List Env) (s : Shared) (H : Hp) (vs : List V) (Q : VK) (E : XK), Room k (A.deeper (envOfC "shares_for" (defScope s_shares_for) s.heap.objs.size (He.ga K "shares_for") cdv)) → sp vs H Q E →
      ∃ t, PSs (cxOf CX P w K mg base ["n", "group", "person"] "shares_for" (defScope s_shares_for) (He.ga K "shares_for") cdv A outer s H E) (defBody s_shares_for) t ∧ t { nx := fun _ H' => Q .non H', rt := Q } (start ["n", "group", "person"] vs) H) : Cal P w K mg base CX (k + 1) "shares_for" ["n", "group"] sp :=
  mk_cal T.f_shares_for T.g_shares_for sc_shares_for (fun _ _ _ _ _ _ us hl => match us, hl with | [_, _], _ => rfl) len hbody
theorem Txt.f_group_behind (T : Txt K mg) : ∃ fd, FunD K "group_behind" "group_behind" (defArgs s_group_behind) (defBody s_group_behind) (defScope s_group_behind) [] [] (He.ga K "group_behind") fd := T.d dd_group_behind (mem_at 18 rfl)
theorem in_group_behind {CX : CXT} (T : Txt K mg) {k : Nat} {sp : Sp} (len : ∀ vs H Q E, sp vs H Q E → vs.length = 2)
    (hbody : ∀ (cdv : Value) (A : Around) (outer : List Env) (s : Shared) (H : Hp) (vs : List V) (Q : VK) (E : XK), Room k (A.deeper (envOfC "group_behind" (defScope s_group_behind) s.heap.objs.size (He.ga K "group_behind") cdv)) → sp vs H Q E →
      ∃ t, PSs (cxOf CX P w K mg base ["group", "person", "gone", "one"] "group_behind" (defScope s_group_behind) (He.ga K "group_behind") cdv A outer s H E) (defBody s_group_behind) t ∧ t { nx := fun _ H' => Q .non H', rt := Q } (start ["group", "person", "gone", "one"] vs) H) : Cal P w K mg base CX (k + 1) "group_behind" ["group", "person"] sp :=
  mk_cal T.f_group_behind T.g_group_behind sc_group_behind (fun _ _ _ _ _ _ us hl => match us, hl with | [_, _], _ => rfl) len hbody
theorem Txt.f_is_person (T : Txt K mg) : ∃ fd, FunD K "is_person" "is_person" (defArgs s_is_person) (defBody s_is_person) (defScope s_is_person) [] [] (He.ga K "is_person") fd := T.d dd_is_person (mem_at 19 rfl)
theorem in_is_person {CX : CXT} (T : Txt K mg) {k : Nat} {sp : Sp} (len : ∀ vs H Q E, sp vs H Q E → vs.length = 2)
    (hbody : ∀ (cdv : Value) (A : Around) (outer : List Env) (s : Shared) (H : Hp) (vs : List V) (Q : VK) (E : XK), Room k (A.deeper (envOfC "is_person" (defScope s_is_person) s.heap.objs.size (He.ga K "is_person") cdv)) → sp vs H Q E →
      ∃ t, PSs (cxOf CX P w K mg base ["n", "thing"] "is_person" (defScope s_is_person) (He.ga K "is_person") cdv A outer s H E) (defBody s_is_person) t ∧ t { nx := fun _ H' => Q .non H', rt := Q } (start ["n", "thing"] vs) H) : Cal P w K mg base CX (k + 1) "is_person" ["n", "thing"] sp :=
  mk_cal T.f_is_person T.g_is_person sc_is_person (fun _ _ _ _ _ _ us hl => match us, hl with | [_, _], _ => rfl) len hbody
theorem Txt.f_against (T : Txt K mg) : ∃ fd, FunD K "against" "against" (defArgs s_against) (defBody s_against) (defScope s_against) [] [] (He.ga K "against") fd := T.d dd_against (mem_at 20 rfl)
theorem in_against {CX : CXT} (T : Txt K mg) {k : Nat} {sp : Sp} (len : ∀ vs H Q E, sp vs H Q E → vs.length = 3)
    (hbody : ∀ (cdv : Value) (A : Around) (outer : List Env) (s : Shared) (H : Hp) (vs : List V) (Q : VK) (E : XK), Room k (A.deeper (envOfC "against" (defScope s_against) s.heap.objs.size (He.ga K "against") cdv)) → sp vs H Q E →
      ∃ t, PSs (cxOf CX P w K mg base ["n", "beats", "way", "dealer", "group", "row", "deals", "shares", "person"] "against" (defScope s_against) (He.ga K "against") cdv A outer s H E) (defBody s_against) t ∧ t { nx := fun _ H' => Q .non H', rt := Q } (start ["n", "beats", "way", "dealer", "group", "row", "deals", "shares", "person"] vs) H) : Cal P w K mg base CX (k + 1) "against" ["n", "beats", "way"] sp :=
  mk_cal T.f_against T.g_against sc_against (fun _ _ _ _ _ _ us hl => match us, hl with | [_, _, _], _ => rfl) len hbody
theorem Txt.f_is_led (T : Txt K mg) : ∃ fd, FunD K "is_led" "is_led" (defArgs s_is_led) (defBody s_is_led) (defScope s_is_led) [] [] (He.ga K "is_led") fd := T.d dd_is_led (mem_at 21 rfl)
theorem in_is_led {CX : CXT} (T : Txt K mg) {k : Nat} {sp : Sp} (len : ∀ vs H Q E, sp vs H Q E → vs.length = 4)
    (hbody : ∀ (cdv : Value) (A : Around) (outer : List Env) (s : Shared) (H : Hp) (vs : List V) (Q : VK) (E : XK), Room k (A.deeper (envOfC "is_led" (defScope s_is_led) s.heap.objs.size (He.ga K "is_led") cdv)) → sp vs H Q E →
      ∃ t, PSs (cxOf CX P w K mg base ["n", "beats", "row", "deals", "group", "shares", "person"] "is_led" (defScope s_is_led) (He.ga K "is_led") cdv A outer s H E) (defBody s_is_led) t ∧ t { nx := fun _ H' => Q .non H', rt := Q } (start ["n", "beats", "row", "deals", "group", "shares", "person"] vs) H) : Cal P w K mg base CX (k + 1) "is_led" ["n", "beats", "row", "deals"] sp :=
  mk_cal T.f_is_led T.g_is_led sc_is_led (fun _ _ _ _ _ _ us hl => match us, hl with | [_, _, _, _], _ => rfl) len hbody
theorem Txt.f_is_against (T : Txt K mg) : ∃ fd, FunD K "is_against" "is_against" (defArgs s_is_against) (defBody s_is_against) (defScope s_is_against) [] [] (He.ga K "is_against") fd := T.d dd_is_against (mem_at 22 rfl)
theorem in_is_against {CX : CXT} (T : Txt K mg) {k : Nat} {sp : Sp} (len : ∀ vs H Q E, sp vs H Q E → vs.length = 3)
    (hbody : ∀ (cdv : Value) (A : Around) (outer : List Env) (s : Shared) (H : Hp) (vs : List V) (Q : VK) (E : XK), Room k (A.deeper (envOfC "is_against" (defScope s_is_against) s.heap.objs.size (He.ga K "is_against") cdv)) → sp vs H Q E →
      ∃ t, PSs (cxOf CX P w K mg base ["n", "beats", "thing", "row", "deals", "person", "debt", "one", "group"] "is_against" (defScope s_is_against) (He.ga K "is_against") cdv A outer s H E) (defBody s_is_against) t ∧ t { nx := fun _ H' => Q .non H', rt := Q } (start ["n", "beats", "thing", "row", "deals", "person", "debt", "one", "group"] vs) H) : Cal P w K mg base CX (k + 1) "is_against" ["n", "beats", "thing"] sp :=
  mk_cal T.f_is_against T.g_is_against sc_is_against (fun _ _ _ _ _ _ us hl => match us, hl with | [_, _, _], _ => rfl) len hbody
theorem Txt.f__law_hand (T : Txt K mg) : ∃ fd, FunD K "_law_hand" "_law_hand" (defArgs s__law_hand) (defBody s__law_hand) (defScope s__law_hand) [] [] (He.ga K "_law_hand") fd := T.d dd__law_hand (mem_at 23 rfl)
theorem in__law_hand {CX : CXT} (T : Txt K mg) {k : Nat} {sp : Sp} (len : ∀ vs H Q E, sp vs H Q E → vs.length = 1)
    (hbody : ∀ (cdv : Value) (A : Around) (outer : List Env) (s : Shared) (H : Hp) (vs : List V) (Q : VK) (E : XK), Room k (A.deeper (envOfC "_law_hand" (defScope s__law_hand) s.heap.objs.size (He.ga K "_law_hand") cdv)) → sp vs H Q E →
      ∃ t, PSs (cxOf CX P w K mg base ["_law_script", "_law_cells", "_law_cell"] "_law_hand" (defScope s__law_hand) (He.ga K "_law_hand") cdv A outer s H E) (defBody s__law_hand) t ∧ t { nx := fun _ H' => Q .non H', rt := Q } (start ["_law_script", "_law_cells", "_law_cell"] vs) H) : Cal P w K mg base CX (k + 1) "_law_hand" ["_law_script"] sp :=
  mk_cal T.f__law_hand T.g__law_hand sc__law_hand (fun _ _ _ _ _ _ us hl => match us, hl with | [_], _ => rfl) len hbody
theorem Txt.f__law_draw (T : Txt K mg) : ∃ fd, FunD K "_law_draw" "_law_draw" (defArgs s__law_draw) (defBody s__law_draw) (defScope s__law_draw) [] [] (He.ga K "_law_draw") fd := T.d dd__law_draw (mem_at 24 rfl)
theorem in__law_draw {CX : CXT} (T : Txt K mg) {k : Nat} {sp : Sp} (len : ∀ vs H Q E, sp vs H Q E → vs.length = 2)
    (hbody : ∀ (cdv : Value) (A : Around) (outer : List Env) (s : Shared) (H : Hp) (vs : List V) (Q : VK) (E : XK), Room k (A.deeper (envOfC "_law_draw" (defScope s__law_draw) s.heap.objs.size (He.ga K "_law_draw") cdv)) → sp vs H Q E →
      ∃ t, PSs (cxOf CX P w K mg base ["_law_hand_here", "_law_many", "_law_cell", "_law_digit", "_law_number"] "_law_draw" (defScope s__law_draw) (He.ga K "_law_draw") cdv A outer s H E) (defBody s__law_draw) t ∧ t { nx := fun _ H' => Q .non H', rt := Q } (start ["_law_hand_here", "_law_many", "_law_cell", "_law_digit", "_law_number"] vs) H) : Cal P w K mg base CX (k + 1) "_law_draw" ["_law_hand_here", "_law_many"] sp :=
  mk_cal T.f__law_draw T.g__law_draw sc__law_draw (fun _ _ _ _ _ _ us hl => match us, hl with | [_, _], _ => rfl) len hbody
theorem Txt.f__law_some (T : Txt K mg) : ∃ fd, FunD K "_law_some" "_law_some" (defArgs s__law_some) (defBody s__law_some) (defScope s__law_some) [] [] (He.ga K "_law_some") fd := T.d dd__law_some (mem_at 25 rfl)
theorem in__law_some {CX : CXT} (T : Txt K mg) {k : Nat} {sp : Sp} (len : ∀ vs H Q E, sp vs H Q E → vs.length = 2)
    (hbody : ∀ (cdv : Value) (A : Around) (outer : List Env) (s : Shared) (H : Hp) (vs : List V) (Q : VK) (E : XK), Room k (A.deeper (envOfC "_law_some" (defScope s__law_some) s.heap.objs.size (He.ga K "_law_some") cdv)) → sp vs H Q E →
      ∃ t, PSs (cxOf CX P w K mg base ["_law_hand_here", "_law_things"] "_law_some" (defScope s__law_some) (He.ga K "_law_some") cdv A outer s H E) (defBody s__law_some) t ∧ t { nx := fun _ H' => Q .non H', rt := Q } (start ["_law_hand_here", "_law_things"] vs) H) : Cal P w K mg base CX (k + 1) "_law_some" ["_law_hand_here", "_law_things"] sp :=
  mk_cal T.f__law_some T.g__law_some sc__law_some (fun _ _ _ _ _ _ us hl => match us, hl with | [_, _], _ => rfl) len hbody
theorem Txt.f__law_is (T : Txt K mg) : ∃ fd, FunD K "_law_is" "_law_is" (defArgs s__law_is) (defBody s__law_is) (defScope s__law_is) [] [] (He.ga K "_law_is") fd := T.d dd__law_is (mem_at 26 rfl)
theorem in__law_is {CX : CXT} (T : Txt K mg) {k : Nat} {sp : Sp} (len : ∀ vs H Q E, sp vs H Q E → vs.length = 2)
    (hbody : ∀ (cdv : Value) (A : Around) (outer : List Env) (s : Shared) (H : Hp) (vs : List V) (Q : VK) (E : XK), Room k (A.deeper (envOfC "_law_is" (defScope s__law_is) s.heap.objs.size (He.ga K "_law_is") cdv)) → sp vs H Q E →
      ∃ t, PSs (cxOf CX P w K mg base ["_law_told", "_law_due", "_law_k", "_law_key"] "_law_is" (defScope s__law_is) (He.ga K "_law_is") cdv A outer s H E) (defBody s__law_is) t ∧ t { nx := fun _ H' => Q .non H', rt := Q } (start ["_law_told", "_law_due", "_law_k", "_law_key"] vs) H) : Cal P w K mg base CX (k + 1) "_law_is" ["_law_told", "_law_due"] sp :=
  mk_cal T.f__law_is T.g__law_is sc__law_is (fun _ _ _ _ _ _ us hl => match us, hl with | [_, _], _ => rfl) len hbody
theorem Txt.f__law_deep (T : Txt K mg) : ∃ fd, FunD K "_law_deep" "_law_deep" (defArgs s__law_deep) (defBody s__law_deep) (defScope s__law_deep) [] [] (He.ga K "_law_deep") fd := T.d dd__law_deep (mem_at 27 rfl)
theorem in__law_deep {CX : CXT} (T : Txt K mg) {k : Nat} {sp : Sp} (len : ∀ vs H Q E, sp vs H Q E → vs.length = 1)
    (hbody : ∀ (cdv : Value) (A : Around) (outer : List Env) (s : Shared) (H : Hp) (vs : List V) (Q : VK) (E : XK), Room k (A.deeper (envOfC "_law_deep" (defScope s__law_deep) s.heap.objs.size (He.ga K "_law_deep") cdv)) → sp vs H Q E →
      ∃ t, PSs (cxOf CX P w K mg base ["_law_kind", "_law_found", "_law_turn"] "_law_deep" (defScope s__law_deep) (He.ga K "_law_deep") cdv A outer s H E) (defBody s__law_deep) t ∧ t { nx := fun _ H' => Q .non H', rt := Q } (start ["_law_kind", "_law_found", "_law_turn"] vs) H) : Cal P w K mg base CX (k + 1) "_law_deep" ["_law_kind"] sp :=
  mk_cal T.f__law_deep T.g__law_deep sc__law_deep (fun _ _ _ _ _ _ us hl => match us, hl with | [_], _ => rfl) len hbody
theorem Txt.f__law_low (T : Txt K mg) : ∃ fd, FunD K "_law_low" "_law_low" (defArgs s__law_low) (defBody s__law_low) (defScope s__law_low) [] [] (He.ga K "_law_low") fd := T.d dd__law_low (mem_at 28 rfl)
theorem in__law_low {CX : CXT} (T : Txt K mg) {k : Nat} {sp : Sp} (len : ∀ vs H Q E, sp vs H Q E → vs.length = 2)
    (hbody : ∀ (cdv : Value) (A : Around) (outer : List Env) (s : Shared) (H : Hp) (vs : List V) (Q : VK) (E : XK), Room k (A.deeper (envOfC "_law_low" (defScope s__law_low) s.heap.objs.size (He.ga K "_law_low") cdv)) → sp vs H Q E →
      ∃ t, PSs (cxOf CX P w K mg base ["_law_top", "_law_bottom", "_law_one", "_law_other"] "_law_low" (defScope s__law_low) (He.ga K "_law_low") cdv A outer s H E) (defBody s__law_low) t ∧ t { nx := fun _ H' => Q .non H', rt := Q } (start ["_law_top", "_law_bottom", "_law_one", "_law_other"] vs) H) : Cal P w K mg base CX (k + 1) "_law_low" ["_law_top", "_law_bottom"] sp :=
  mk_cal T.f__law_low T.g__law_low sc__law_low (fun _ _ _ _ _ _ us hl => match us, hl with | [_, _], _ => rfl) len hbody
theorem Txt.f__law_plus (T : Txt K mg) : ∃ fd, FunD K "_law_plus" "_law_plus" (defArgs s__law_plus) (defBody s__law_plus) (defScope s__law_plus) [] [] (He.ga K "_law_plus") fd := T.d dd__law_plus (mem_at 29 rfl)
theorem in__law_plus {CX : CXT} (T : Txt K mg) {k : Nat} {sp : Sp} (len : ∀ vs H Q E, sp vs H Q E → vs.length = 2)
    (hbody : ∀ (cdv : Value) (A : Around) (outer : List Env) (s : Shared) (H : Hp) (vs : List V) (Q : VK) (E : XK), Room k (A.deeper (envOfC "_law_plus" (defScope s__law_plus) s.heap.objs.size (He.ga K "_law_plus") cdv)) → sp vs H Q E →
      ∃ t, PSs (cxOf CX P w K mg base ["_law_one", "_law_other"] "_law_plus" (defScope s__law_plus) (He.ga K "_law_plus") cdv A outer s H E) (defBody s__law_plus) t ∧ t { nx := fun _ H' => Q .non H', rt := Q } (start ["_law_one", "_law_other"] vs) H) : Cal P w K mg base CX (k + 1) "_law_plus" ["_law_one", "_law_other"] sp :=
  mk_cal T.f__law_plus T.g__law_plus sc__law_plus (fun _ _ _ _ _ _ us hl => match us, hl with | [_, _], _ => rfl) len hbody
theorem Txt.f__law_less (T : Txt K mg) : ∃ fd, FunD K "_law_less" "_law_less" (defArgs s__law_less) (defBody s__law_less) (defScope s__law_less) [] [] (He.ga K "_law_less") fd := T.d dd__law_less (mem_at 30 rfl)
theorem in__law_less {CX : CXT} (T : Txt K mg) {k : Nat} {sp : Sp} (len : ∀ vs H Q E, sp vs H Q E → vs.length = 2)
    (hbody : ∀ (cdv : Value) (A : Around) (outer : List Env) (s : Shared) (H : Hp) (vs : List V) (Q : VK) (E : XK), Room k (A.deeper (envOfC "_law_less" (defScope s__law_less) s.heap.objs.size (He.ga K "_law_less") cdv)) → sp vs H Q E →
      ∃ t, PSs (cxOf CX P w K mg base ["_law_one", "_law_other"] "_law_less" (defScope s__law_less) (He.ga K "_law_less") cdv A outer s H E) (defBody s__law_less) t ∧ t { nx := fun _ H' => Q .non H', rt := Q } (start ["_law_one", "_law_other"] vs) H) : Cal P w K mg base CX (k + 1) "_law_less" ["_law_one", "_law_other"] sp :=
  mk_cal T.f__law_less T.g__law_less sc__law_less (fun _ _ _ _ _ _ us hl => match us, hl with | [_, _], _ => rfl) len hbody
theorem Txt.f__law_most (T : Txt K mg) : ∃ fd, FunD K "_law_most" "_law_most" (defArgs s__law_most) (defBody s__law_most) (defScope s__law_most) [] [] (He.ga K "_law_most") fd := T.d dd__law_most (mem_at 31 rfl)
theorem in__law_most {CX : CXT} (T : Txt K mg) {k : Nat} {sp : Sp} (len : ∀ vs H Q E, sp vs H Q E → vs.length = 2)
    (hbody : ∀ (cdv : Value) (A : Around) (outer : List Env) (s : Shared) (H : Hp) (vs : List V) (Q : VK) (E : XK), Room k (A.deeper (envOfC "_law_most" (defScope s__law_most) s.heap.objs.size (He.ga K "_law_most") cdv)) → sp vs H Q E →
      ∃ t, PSs (cxOf CX P w K mg base ["_law_n", "_law_beats_here", "_law_found", "_law_k"] "_law_most" (defScope s__law_most) (He.ga K "_law_most") cdv A outer s H E) (defBody s__law_most) t ∧ t { nx := fun _ H' => Q .non H', rt := Q } (start ["_law_n", "_law_beats_here", "_law_found", "_law_k"] vs) H) : Cal P w K mg base CX (k + 1) "_law_most" ["_law_n", "_law_beats_here"] sp :=
  mk_cal T.f__law_most T.g__law_most sc__law_most (fun _ _ _ _ _ _ us hl => match us, hl with | [_, _], _ => rfl) len hbody
theorem Txt.f__law_group_shares (T : Txt K mg) : ∃ fd, FunD K "_law_group_shares" "_law_group_shares" (defArgs s__law_group_shares) (defBody s__law_group_shares) (defScope s__law_group_shares) [] [] (He.ga K "_law_group_shares") fd := T.d dd__law_group_shares (mem_at 32 rfl)
theorem in__law_group_shares {CX : CXT} (T : Txt K mg) {k : Nat} {sp : Sp} (len : ∀ vs H Q E, sp vs H Q E → vs.length = 2)
    (hbody : ∀ (cdv : Value) (A : Around) (outer : List Env) (s : Shared) (H : Hp) (vs : List V) (Q : VK) (E : XK), Room k (A.deeper (envOfC "_law_group_shares" (defScope s__law_group_shares) s.heap.objs.size (He.ga K "_law_group_shares") cdv)) → sp vs H Q E →
      ∃ t, PSs (cxOf CX P w K mg base ["_law_n", "_law_group", "_law_person"] "_law_group_shares" (defScope s__law_group_shares) (He.ga K "_law_group_shares") cdv A outer s H E) (defBody s__law_group_shares) t ∧ t { nx := fun _ H' => Q .non H', rt := Q } (start ["_law_n", "_law_group", "_law_person"] vs) H) : Cal P w K mg base CX (k + 1) "_law_group_shares" ["_law_n", "_law_group"] sp :=
  mk_cal T.f__law_group_shares T.g__law_group_shares sc__law_group_shares (fun _ _ _ _ _ _ us hl => match us, hl with | [_, _], _ => rfl) len hbody
theorem Txt.f__law_dealt (T : Txt K mg) : ∃ fd, FunD K "_law_dealt" "_law_dealt" (defArgs s__law_dealt) (defBody s__law_dealt) (defScope s__law_dealt) [] [] (He.ga K "_law_dealt") fd := T.d dd__law_dealt (mem_at 33 rfl)
theorem in__law_dealt {CX : CXT} (T : Txt K mg) {k : Nat} {sp : Sp} (len : ∀ vs H Q E, sp vs H Q E → vs.length = 3)
    (hbody : ∀ (cdv : Value) (A : Around) (outer : List Env) (s : Shared) (H : Hp) (vs : List V) (Q : VK) (E : XK), Room k (A.deeper (envOfC "_law_dealt" (defScope s__law_dealt) s.heap.objs.size (He.ga K "_law_dealt") cdv)) → sp vs H Q E →
      ∃ t, PSs (cxOf CX P w K mg base ["_law_debts", "_law_shares", "_law_person", "_law_found", "_law_debt", "_law_top"] "_law_dealt" (defScope s__law_dealt) (He.ga K "_law_dealt") cdv A outer s H E) (defBody s__law_dealt) t ∧ t { nx := fun _ H' => Q .non H', rt := Q } (start ["_law_debts", "_law_shares", "_law_person", "_law_found", "_law_debt", "_law_top"] vs) H) : Cal P w K mg base CX (k + 1) "_law_dealt" ["_law_debts", "_law_shares", "_law_person"] sp :=
  mk_cal T.f__law_dealt T.g__law_dealt sc__law_dealt (fun _ _ _ _ _ _ us hl => match us, hl with | [_, _, _], _ => rfl) len hbody
theorem Txt.f__law_followed (T : Txt K mg) : ∃ fd, FunD K "_law_followed" "_law_followed" (defArgs s__law_followed) (defBody s__law_followed) (defScope s__law_followed) [] [] (He.ga K "_law_followed") fd := T.d dd__law_followed (mem_at 34 rfl)
theorem in__law_followed {CX : CXT} (T : Txt K mg) {k : Nat} {sp : Sp} (len : ∀ vs H Q E, sp vs H Q E → vs.length = 3)
    (hbody : ∀ (cdv : Value) (A : Around) (outer : List Env) (s : Shared) (H : Hp) (vs : List V) (Q : VK) (E : XK), Room k (A.deeper (envOfC "_law_followed" (defScope s__law_followed) s.heap.objs.size (He.ga K "_law_followed") cdv)) → sp vs H Q E →
      ∃ t, PSs (cxOf CX P w K mg base ["_law_n", "_law_beats_here", "_law_deals", "_law_group", "_law_debts", "_law_row", "_law_views", "_law_number", "_law_person", "_law_shares", "_law_out", "_law_one"] "_law_followed" (defScope s__law_followed) (He.ga K "_law_followed") cdv A outer s H E) (defBody s__law_followed) t ∧ t { nx := fun _ H' => Q .non H', rt := Q } (start ["_law_n", "_law_beats_here", "_law_deals", "_law_group", "_law_debts", "_law_row", "_law_views", "_law_number", "_law_person", "_law_shares", "_law_out", "_law_one"] vs) H) : Cal P w K mg base CX (k + 1) "_law_followed" ["_law_n", "_law_beats_here", "_law_deals"] sp :=
  mk_cal T.f__law_followed T.g__law_followed sc__law_followed (fun _ _ _ _ _ _ us hl => match us, hl with | [_, _, _], _ => rfl) len hbody
theorem Txt.f__law_way (T : Txt K mg) : ∃ fd, FunD K "_law_way" "_law_way" (defArgs s__law_way) (defBody s__law_way) (defScope s__law_way) [] [] (He.ga K "_law_way") fd := T.d dd__law_way (mem_at 35 rfl)
theorem in__law_way {CX : CXT} (T : Txt K mg) {k : Nat} {sp : Sp} (len : ∀ vs H Q E, sp vs H Q E → vs.length = 3)
    (hbody : ∀ (cdv : Value) (A : Around) (outer : List Env) (s : Shared) (H : Hp) (vs : List V) (Q : VK) (E : XK), Room k (A.deeper (envOfC "_law_way" (defScope s__law_way) s.heap.objs.size (He.ga K "_law_way") cdv)) → sp vs H Q E →
      ∃ t, PSs (cxOf CX P w K mg base ["_law_way_here", "_law_table", "_law_view", "_law_debts", "_law_shares", "_law_number", "_law_grown", "_law_debt", "_law_top", "_law_left", "_law_person", "_law_best", "_law_one", "_law_other"] "_law_way" (defScope s__law_way) (He.ga K "_law_way") cdv A outer s H E) (defBody s__law_way) t ∧ t { nx := fun _ H' => Q .non H', rt := Q } (start ["_law_way_here", "_law_table", "_law_view", "_law_debts", "_law_shares", "_law_number", "_law_grown", "_law_debt", "_law_top", "_law_left", "_law_person", "_law_best", "_law_one", "_law_other"] vs) H) : Cal P w K mg base CX (k + 1) "_law_way" ["_law_way_here", "_law_table", "_law_view"] sp :=
  mk_cal T.f__law_way T.g__law_way sc__law_way (fun _ _ _ _ _ _ us hl => match us, hl with | [_, _, _], _ => rfl) len hbody
theorem Txt.f__law_logged (T : Txt K mg) : ∃ fd, FunD K "_law_logged" "_law_logged" (defArgs s__law_logged) (defBody s__law_logged) (defScope s__law_logged) [] [] (He.ga K "_law_logged") fd := T.d dd__law_logged (mem_at 36 rfl)
theorem in__law_logged {CX : CXT} (T : Txt K mg) {k : Nat} {sp : Sp} (len : ∀ vs H Q E, sp vs H Q E → vs.length = 4)
    (hbody : ∀ (cdv : Value) (A : Around) (outer : List Env) (s : Shared) (H : Hp) (vs : List V) (Q : VK) (E : XK), Room k (A.deeper (envOfC "_law_logged" (defScope s__law_logged) s.heap.objs.size (He.ga K "_law_logged") cdv)) → sp vs H Q E →
      ∃ t, PSs (cxOf CX P w K mg base ["_law_seen", "_law_way_here", "_law_table", "_law_view"] "_law_logged" (defScope s__law_logged) (He.ga K "_law_logged") cdv A outer s H E) (defBody s__law_logged) t ∧ t { nx := fun _ H' => Q .non H', rt := Q } (start ["_law_seen", "_law_way_here", "_law_table", "_law_view"] vs) H) : Cal P w K mg base CX (k + 1) "_law_logged" ["_law_seen", "_law_way_here", "_law_table", "_law_view"] sp :=
  mk_cal T.f__law_logged T.g__law_logged sc__law_logged (fun _ _ _ _ _ _ us hl => match us, hl with | [_, _, _, _], _ => rfl) len hbody
theorem Txt.f__law_deals_of (T : Txt K mg) : ∃ fd, FunD K "_law_deals_of" "_law_deals_of" (defArgs s__law_deals_of) (defBody s__law_deals_of) (defScope s__law_deals_of) [] [] (He.ga K "_law_deals_of") fd := T.d dd__law_deals_of (mem_at 37 rfl)
theorem in__law_deals_of {CX : CXT} (T : Txt K mg) {k : Nat} {sp : Sp} (len : ∀ vs H Q E, sp vs H Q E → vs.length = 4)
    (hbody : ∀ (cdv : Value) (A : Around) (outer : List Env) (s : Shared) (H : Hp) (vs : List V) (Q : VK) (E : XK), Room k (A.deeper (envOfC "_law_deals_of" (defScope s__law_deals_of) s.heap.objs.size (He.ga K "_law_deals_of") cdv)) → sp vs H Q E →
      ∃ t, PSs (cxOf CX P w K mg base ["_law_n", "_law_beats_here", "_law_way_here", "_law_table", "_law_deals", "_law_number", "_law_group", "_law_debts", "_law_person", "_law_out", "_law_one"] "_law_deals_of" (defScope s__law_deals_of) (He.ga K "_law_deals_of") cdv A outer s H E) (defBody s__law_deals_of) t ∧ t { nx := fun _ H' => Q .non H', rt := Q } (start ["_law_n", "_law_beats_here", "_law_way_here", "_law_table", "_law_deals", "_law_number", "_law_group", "_law_debts", "_law_person", "_law_out", "_law_one"] vs) H) : Cal P w K mg base CX (k + 1) "_law_deals_of" ["_law_n", "_law_beats_here", "_law_way_here", "_law_table"] sp :=
  mk_cal T.f__law_deals_of T.g__law_deals_of sc__law_deals_of (fun _ _ _ _ _ _ us hl => match us, hl with | [_, _, _, _], _ => rfl) len hbody
theorem Txt.f__law_beats (T : Txt K mg) : ∃ fd, FunD K "_law_beats" "_law_beats" (defArgs s__law_beats) (defBody s__law_beats) (defScope s__law_beats) [] [] (He.ga K "_law_beats") fd := T.d dd__law_beats (mem_at 38 rfl)
theorem in__law_beats {CX : CXT} (T : Txt K mg) {k : Nat} {sp : Sp} (len : ∀ vs H Q E, sp vs H Q E → vs.length = 1)
    (hbody : ∀ (cdv : Value) (A : Around) (outer : List Env) (s : Shared) (H : Hp) (vs : List V) (Q : VK) (E : XK), Room k (A.deeper (envOfC "_law_beats" (defScope s__law_beats) s.heap.objs.size (He.ga K "_law_beats") cdv)) → sp vs H Q E →
      ∃ t, PSs (cxOf CX P w K mg base ["_law_hand_here"] "_law_beats" (defScope s__law_beats) (He.ga K "_law_beats") cdv A outer s H E) (defBody s__law_beats) t ∧ t { nx := fun _ H' => Q .non H', rt := Q } (start ["_law_hand_here"] vs) H) : Cal P w K mg base CX (k + 1) "_law_beats" ["_law_hand_here"] sp :=
  mk_cal T.f__law_beats T.g__law_beats sc__law_beats (fun _ _ _ _ _ _ us hl => match us, hl with | [_], _ => rfl) len hbody
theorem Txt.f__law_foe_right (T : Txt K mg) : ∃ fd, FunD K "_law_foe_right" "_law_foe_right" (defArgs s__law_foe_right) (defBody s__law_foe_right) (defScope s__law_foe_right) [] [] (He.ga K "_law_foe_right") fd := T.d dd__law_foe_right (mem_at 39 rfl)
theorem in__law_foe_right {CX : CXT} (T : Txt K mg) {k : Nat} {sp : Sp} (len : ∀ vs H Q E, sp vs H Q E → vs.length = 3)
    (hbody : ∀ (cdv : Value) (A : Around) (outer : List Env) (s : Shared) (H : Hp) (vs : List V) (Q : VK) (E : XK), Room k (A.deeper (envOfC "_law_foe_right" (defScope s__law_foe_right) s.heap.objs.size (He.ga K "_law_foe_right") cdv)) → sp vs H Q E →
      ∃ t, PSs (cxOf CX P w K mg base ["_law_hand_here", "_law_n", "_law_beats_here", "_law_many", "_law_way_here", "_law_table", "_law_beat", "_law_deals", "_law_row", "_law_views", "_law_person", "_law_debts", "_law_seen", "_law_told"] "_law_foe_right" (defScope s__law_foe_right) (He.ga K "_law_foe_right") cdv A outer s H E) (defBody s__law_foe_right) t ∧ t { nx := fun _ H' => Q .non H', rt := Q } (start ["_law_hand_here", "_law_n", "_law_beats_here", "_law_many", "_law_way_here", "_law_table", "_law_beat", "_law_deals", "_law_row", "_law_views", "_law_person", "_law_debts", "_law_seen", "_law_told"] vs) H) : Cal P w K mg base CX (k + 1) "_law_foe_right" ["_law_hand_here", "_law_n", "_law_beats_here"] sp :=
  mk_cal T.f__law_foe_right T.g__law_foe_right sc__law_foe_right (fun _ _ _ _ _ _ us hl => match us, hl with | [_, _, _], _ => rfl) len hbody
theorem Txt.f__law_bad_way (T : Txt K mg) : ∃ fd, FunD K "_law_bad_way" "_law_bad_way" (defArgs s__law_bad_way) (defBody s__law_bad_way) (defScope s__law_bad_way) [] [] (He.ga K "_law_bad_way") fd := T.d dd__law_bad_way (mem_at 40 rfl)
theorem in__law_bad_way {CX : CXT} (T : Txt K mg) {k : Nat} {sp : Sp} (len : ∀ vs H Q E, sp vs H Q E → vs.length = 3)
    (hbody : ∀ (cdv : Value) (A : Around) (outer : List Env) (s : Shared) (H : Hp) (vs : List V) (Q : VK) (E : XK), Room k (A.deeper (envOfC "_law_bad_way" (defScope s__law_bad_way) s.heap.objs.size (He.ga K "_law_bad_way") cdv)) → sp vs H Q E →
      ∃ t, PSs (cxOf CX P w K mg base ["_law_hand_here", "_law_n", "_law_beats_here", "_law_many", "_law_table", "_law_beat", "_law_at", "_law_place", "_law_turn", "_law_odd", "_law_wrong", "_law_found", "e"] "_law_bad_way" (defScope s__law_bad_way) (He.ga K "_law_bad_way") cdv A outer s H E) (defBody s__law_bad_way) t ∧ t { nx := fun _ H' => Q .non H', rt := Q } (start ["_law_hand_here", "_law_n", "_law_beats_here", "_law_many", "_law_table", "_law_beat", "_law_at", "_law_place", "_law_turn", "_law_odd", "_law_wrong", "_law_found", "e"] vs) H) : Cal P w K mg base CX (k + 1) "_law_bad_way" ["_law_hand_here", "_law_n", "_law_beats_here"] sp :=
  mk_cal T.f__law_bad_way T.g__law_bad_way sc__law_bad_way (fun _ _ _ _ _ _ us hl => match us, hl with | [_, _, _], _ => rfl) len hbody
theorem Txt.f__law_raised (T : Txt K mg) : ∃ fd, FunD K "_law_raised" "_law_raised" (defArgs s__law_raised) (defBody s__law_raised) (defScope s__law_raised) [] [] (He.ga K "_law_raised") fd := T.d dd__law_raised (mem_at 41 rfl)
theorem in__law_raised {CX : CXT} (T : Txt K mg) {k : Nat} {sp : Sp} (len : ∀ vs H Q E, sp vs H Q E → vs.length = 3)
    (hbody : ∀ (cdv : Value) (A : Around) (outer : List Env) (s : Shared) (H : Hp) (vs : List V) (Q : VK) (E : XK), Room k (A.deeper (envOfC "_law_raised" (defScope s__law_raised) s.heap.objs.size (He.ga K "_law_raised") cdv)) → sp vs H Q E →
      ∃ t, PSs (cxOf CX P w K mg base ["_law_n", "_law_beats_here", "_law_at", "_law_found"] "_law_raised" (defScope s__law_raised) (He.ga K "_law_raised") cdv A outer s H E) (defBody s__law_raised) t ∧ t { nx := fun _ H' => Q .non H', rt := Q } (start ["_law_n", "_law_beats_here", "_law_at", "_law_found"] vs) H) : Cal P w K mg base CX (k + 1) "_law_raised" ["_law_n", "_law_beats_here", "_law_at"] sp :=
  mk_cal T.f__law_raised T.g__law_raised sc__law_raised (fun _ _ _ _ _ _ us hl => match us, hl with | [_, _, _], _ => rfl) len hbody
theorem Txt.f_law (T : Txt K mg) : ∃ fd, FunD K "law" "law" (defArgs s_law) (defBody s_law) (defScope s_law) [] [] (He.ga K "law") fd := T.d dd_law (mem_at 42 rfl)
theorem in_law {CX : CXT} (T : Txt K mg) {k : Nat} {sp : Sp} (len : ∀ vs H Q E, sp vs H Q E → vs.length = 1)
    (hbody : ∀ (cdv : Value) (A : Around) (outer : List Env) (s : Shared) (H : Hp) (vs : List V) (Q : VK) (E : XK), Room k (A.deeper (envOfC "law" (defScope s_law) s.heap.objs.size (He.ga K "law") cdv)) → sp vs H Q E →
      ∃ t, PSs (cxOf CX P w K mg base ["_law_script", "_law_hand_here", "_law_turn", "_law_n", "_law_beats_here", "_law_many"] "law" (defScope s_law) (He.ga K "law") cdv A outer s H E) (defBody s_law) t ∧ t { nx := fun _ H' => Q .non H', rt := Q } (start ["_law_script", "_law_hand_here", "_law_turn", "_law_n", "_law_beats_here", "_law_many"] vs) H) : Cal P w K mg base CX (k + 1) "law" ["_law_script"] sp :=
  mk_cal T.f_law T.g_law sc_law (fun _ _ _ _ _ _ us hl => match us, hl with | [_], _ => rfl) len hbody
theorem Txt.f_Dealer_init (T : Txt K mg) : ∃ fd, FunD K "__init__" "Dealer.__init__" (defArgs s_Dealer_init) (defBody s_Dealer_init) (defScope s_Dealer_init) [] [] (He.ma K (He.ga K "Dealer") "__init__") fd := T.d dd_Dealer_init (mem_at 43 rfl)
theorem in_Dealer_init {CX : CXT} (T : Txt K mg) {k : Nat} {sp : Sp} (len : ∀ vs H Q E, sp vs H Q E → vs.length = 2)
    (hbody : ∀ (cdv : Value) (A : Around) (outer : List Env) (s : Shared) (H : Hp) (vs : List V) (Q : VK) (E : XK), Room k (A.deeper (envOfC "Dealer.__init__" (defScope s_Dealer_init) s.heap.objs.size (He.ma K (He.ga K "Dealer") "__init__") cdv)) → sp vs H Q E →
      ∃ t, PSs (cxOf CX P w K mg base ["self", "n"] "Dealer.__init__" (defScope s_Dealer_init) (He.ma K (He.ga K "Dealer") "__init__") cdv A outer s H E) (defBody s_Dealer_init) t ∧ t { nx := fun _ H' => Q .non H', rt := Q } (start ["self", "n"] vs) H) : CalM P w K mg base CX (k + 1) (He.ga K "Dealer") "__init__" ["self", "n"] sp :=
  mk_calM T.f_Dealer_init sc_Dealer_init (fun _ _ _ _ _ _ us hl => match us, hl with | [_, _], _ => rfl) len hbody
theorem Txt.f_Dealer_check_shares (T : Txt K mg) : ∃ fd, FunD K "check_shares" "Dealer.check_shares" (defArgs s_Dealer_check_shares) (defBody s_Dealer_check_shares) (defScope s_Dealer_check_shares) [] [] (He.ma K (He.ga K "Dealer") "check_shares") fd := T.d dd_Dealer_check_shares (mem_at 44 rfl)
theorem in_Dealer_check_shares {CX : CXT} (T : Txt K mg) {k : Nat} {sp : Sp} (len : ∀ vs H Q E, sp vs H Q E → vs.length = 2)
    (hbody : ∀ (cdv : Value) (A : Around) (outer : List Env) (s : Shared) (H : Hp) (vs : List V) (Q : VK) (E : XK), Room k (A.deeper (envOfC "Dealer.check_shares" (defScope s_Dealer_check_shares) s.heap.objs.size (He.ma K (He.ga K "Dealer") "check_shares") cdv)) → sp vs H Q E →
      ∃ t, PSs (cxOf CX P w K mg base ["self", "shares"] "Dealer.check_shares" (defScope s_Dealer_check_shares) (He.ma K (He.ga K "Dealer") "check_shares") cdv A outer s H E) (defBody s_Dealer_check_shares) t ∧ t { nx := fun _ H' => Q .non H', rt := Q } (start ["self", "shares"] vs) H) : CalM P w K mg base CX (k + 1) (He.ga K "Dealer") "check_shares" ["self", "shares"] sp :=
  mk_calM T.f_Dealer_check_shares sc_Dealer_check_shares (fun _ _ _ _ _ _ us hl => match us, hl with | [_, _], _ => rfl) len hbody
theorem Txt.f_Dealer_give (T : Txt K mg) : ∃ fd, FunD K "give" "Dealer.give" (defArgs s_Dealer_give) (defBody s_Dealer_give) (defScope s_Dealer_give) [] [] (He.ma K (He.ga K "Dealer") "give") fd := T.d dd_Dealer_give (mem_at 45 rfl)
theorem in_Dealer_give {CX : CXT} (T : Txt K mg) {k : Nat} {sp : Sp} (len : ∀ vs H Q E, sp vs H Q E → vs.length = 3)
    (hbody : ∀ (cdv : Value) (A : Around) (outer : List Env) (s : Shared) (H : Hp) (vs : List V) (Q : VK) (E : XK), Room k (A.deeper (envOfC "Dealer.give" (defScope s_Dealer_give) s.heap.objs.size (He.ma K (He.ga K "Dealer") "give") cdv)) → sp vs H Q E →
      ∃ t, PSs (cxOf CX P w K mg base ["self", "shares", "person"] "Dealer.give" (defScope s_Dealer_give) (He.ma K (He.ga K "Dealer") "give") cdv A outer s H E) (defBody s_Dealer_give) t ∧ t { nx := fun _ H' => Q .non H', rt := Q } (start ["self", "shares", "person"] vs) H) : CalM P w K mg base CX (k + 1) (He.ga K "Dealer") "give" ["self", "shares", "person"] sp :=
  mk_calM T.f_Dealer_give sc_Dealer_give (fun _ _ _ _ _ _ us hl => match us, hl with | [_, _, _], _ => rfl) len hbody
theorem Txt.f_Dealer_deal (T : Txt K mg) : ∃ fd, FunD K "deal" "Dealer.deal" (defArgs s_Dealer_deal) (defBody s_Dealer_deal) (defScope s_Dealer_deal) [] [] (He.ma K (He.ga K "Dealer") "deal") fd := T.d dd_Dealer_deal (mem_at 46 rfl)
theorem in_Dealer_deal {CX : CXT} (T : Txt K mg) {k : Nat} {sp : Sp} (len : ∀ vs H Q E, sp vs H Q E → vs.length = 3)
    (hbody : ∀ (cdv : Value) (A : Around) (outer : List Env) (s : Shared) (H : Hp) (vs : List V) (Q : VK) (E : XK), Room k (A.deeper (envOfC "Dealer.deal" (defScope s_Dealer_deal) s.heap.objs.size (He.ma K (He.ga K "Dealer") "deal") cdv)) → sp vs H Q E →
      ∃ t, PSs (cxOf CX P w K mg base ["self", "shares", "person"] "Dealer.deal" (defScope s_Dealer_deal) (He.ma K (He.ga K "Dealer") "deal") cdv A outer s H E) (defBody s_Dealer_deal) t ∧ t { nx := fun _ H' => Q .non H', rt := Q } (start ["self", "shares", "person"] vs) H) : CalM P w K mg base CX (k + 1) (He.ga K "Dealer") "deal" ["self", "shares", "person"] sp :=
  mk_calM T.f_Dealer_deal sc_Dealer_deal (fun _ _ _ _ _ _ us hl => match us, hl with | [_, _, _], _ => rfl) len hbody
theorem Txt.f_Dealer_debts (T : Txt K mg) : ∃ fd, FunD K "debts" "Dealer.debts" (defArgs s_Dealer_debts) (defBody s_Dealer_debts) (defScope s_Dealer_debts) [] [] (He.ma K (He.ga K "Dealer") "debts") fd := T.d dd_Dealer_debts (mem_at 47 rfl)
theorem in_Dealer_debts {CX : CXT} (T : Txt K mg) {k : Nat} {sp : Sp} (len : ∀ vs H Q E, sp vs H Q E → vs.length = 1)
    (hbody : ∀ (cdv : Value) (A : Around) (outer : List Env) (s : Shared) (H : Hp) (vs : List V) (Q : VK) (E : XK), Room k (A.deeper (envOfC "Dealer.debts" (defScope s_Dealer_debts) s.heap.objs.size (He.ma K (He.ga K "Dealer") "debts") cdv)) → sp vs H Q E →
      ∃ t, PSs (cxOf CX P w K mg base ["self"] "Dealer.debts" (defScope s_Dealer_debts) (He.ma K (He.ga K "Dealer") "debts") cdv A outer s H E) (defBody s_Dealer_debts) t ∧ t { nx := fun _ H' => Q .non H', rt := Q } (start ["self"] vs) H) : CalM P w K mg base CX (k + 1) (He.ga K "Dealer") "debts" ["self"] sp :=
  mk_calM T.f_Dealer_debts sc_Dealer_debts (fun _ _ _ _ _ _ us hl => match us, hl with | [_], _ => rfl) len hbody
theorem Txt.m_check_shares (T : Txt K mg) : Meth K (He.ga K "Dealer") "check_shares" (He.ma K (He.ga K "Dealer") "check_shares") := T.mt _ (mem_at 0 rfl)
theorem Txt.m_give (T : Txt K mg) : Meth K (He.ga K "Dealer") "give" (He.ma K (He.ga K "Dealer") "give") := T.mt _ (mem_at 1 rfl)
theorem Txt.m_deal (T : Txt K mg) : Meth K (He.ga K "Dealer") "deal" (He.ma K (He.ga K "Dealer") "deal") := T.mt _ (mem_at 2 rfl)
theorem Txt.m_debts (T : Txt K mg) : Meth K (He.ga K "Dealer") "debts" (He.ma K (He.ga K "Dealer") "debts") := T.mt _ (mem_at 3 rfl)
theorem Txt.a_kept_debts (T : Txt K mg) : NoAttr K (He.ga K "Dealer") "kept_debts" := T.na _ (mem_at 0 rfl)
theorem Txt.a_kept_things (T : Txt K mg) : NoAttr K (He.ga K "Dealer") "kept_things" := T.na _ (mem_at 1 rfl)
theorem Txt.a_kept_beats (T : Txt K mg) : NoAttr K (He.ga K "Dealer") "kept_beats" := T.na _ (mem_at 2 rfl)
end
end Hd
end
section
set_option Elab.async false
set_option linter.all false
set_option maxRecDepth 100000
set_option maxHeartbeats 4000000
/-! HdWords: growth of the heap, data, steps of readings. -/
namespace Hd
open PySem PySem.Spec PyProof.Rows L2
/-! ### growth -/
theorem Same.tup {K : PySem.W.Frag} {H H' : Hp} {a : Addr} {xs : List V} (e : Same H H') (h : SqT K H a xs) : SqT K H' a xs := by
  rcases h with (h | ⟨o, h⟩) | h
  · exact .inl (.inl (e _ _ h))
  · exact .inl (.inr ⟨o, e _ _ h⟩)
  · exact .inr h
theorem Same.new {H : Hp} {p : Addr} {o : HO} (h : H p = none) : Same H (upd H p o) := fun a u e => by
  rw [upd_ne (ne_of_none e h)]
  exact e
theorem Same.mut {H H' : Hp} {p : Addr} {o : HO} (e : Same H H') (h : H p = none) : Same H (upd H' p o) := fun a u ha => by
  rw [upd_ne (ne_of_none ha h)]
  exact e a u ha
/-- all but p stays -/
def But (p : Addr) (H H' : Hp) : Prop := ∀ a o, a ≠ p → H a = some o → H' a = some o
theorem But.refl (p : Addr) (H : Hp) : But p H H := fun _ _ _ h => h
theorem Same.but {p : Addr} {H H' : Hp} (e : Same H H') : But p H H' := fun a o _ h => e a o h
theorem But.trans {p : Addr} {H H1 H2 : Hp} (a : But p H H1) (b : But p H1 H2) : But p H H2 := fun x o n h => b x o n (a x o n h)
theorem But.upd {p : Addr} {H : Hp} {o : HO} : But p H (upd H p o) := fun a u n h => by rw [upd_ne n]; exact h
theorem But.same {p : Addr} {H H' : Hp} (e : But p H H') (h : H p = none) : Same H H' := fun a o q => e a o (ne_of_none q h) q
/-- a list at p is written: tuples stay -/
theorem But.tup {K : PySem.W.Frag} {p : Addr} {H H' : Hp} {a : Addr} {xs ys : List V} (e : But p H H') (hp : H p = some (.lst ys)) (h : SqT K H a xs) : SqT K H' a xs := by
  rcases h with (h | ⟨o, h⟩) | h
  · exact .inl (.inl (e _ _ (ne_of h hp (fun z => by cases z)) h))
  · exact .inl (.inr ⟨o, e _ _ (ne_of h hp (fun z => by cases z)) h⟩)
  · exact .inr h
mutual
theorem dp_same {K : PySem.W.Frag} {H H' : Hp} (e : Same H H') : ∀ {v : V} {d : PyData}, Dp K H v d → Dp K H' v d
  | _, _, .non => .non
  | _, _, .bl b => .bl b
  | _, _, .int i => .int i
  | _, _, .str x => .str x
  | _, _, .lst h1 h2 => .lst (e.seq h1) (dpAll_same e h2)
  | _, _, .tup h1 h2 => .tup (Same.tup e h1) (dpAll_same e h2)
theorem dpAll_same {K : PySem.W.Frag} {H H' : Hp} (e : Same H H') : ∀ {vs : List V} {ds : List PyData}, DpAll K H vs ds → DpAll K H' vs ds
  | _, _, .nil => .nil
  | _, _, .cons h t => .cons (dp_same e h) (dpAll_same e t)
end
theorem dp_tup {K : PySem.W.Frag} {H : Hp} {v : V} {ds : List PyData} (h : Dp K H v (.tuple ds)) : ∃ a vs, v = .ref a ∧ SqT K H a vs ∧ DpAll K H vs ds := by
  cases h with
  | tup h1 h2 => exact ⟨_, _, rfl, h1, h2⟩
theorem dp_int {K : PySem.W.Frag} {H : Hp} {v : V} {i : Int} (h : Dp K H v (.int i)) : v = .int i := by
  cases h; rfl
theorem dpAll_cons {K : PySem.W.Frag} {H : Hp} {vs : List V} {d : PyData} {ds : List PyData} (h : DpAll K H vs (d :: ds)) : ∃ v r, vs = v :: r ∧ Dp K H v d ∧ DpAll K H r ds := by
  cases h with
  | cons h1 h2 => exact ⟨_, _, rfl, h1, h2⟩
theorem dpAll_nil {K : PySem.W.Frag} {H : Hp} {vs : List V} (h : DpAll K H vs []) : vs = [] := by
  cases h; rfl
theorem dpAll_ints {K : PySem.W.Frag} {H : Hp} : ∀ ns : List Int, DpAll K H (ns.map V.int) (ns.map PyData.int)
  | [] => .nil
  | n :: ns => .cons (.int n) (dpAll_ints ns)
theorem dpAll_ints' {K : PySem.W.Frag} {H : Hp} : ∀ {ns : List Int} {vs : List V}, DpAll K H vs (ns.map PyData.int) → vs = ns.map V.int
  | [], _, h => by cases h; rfl
  | n :: ns, _, h => by
    cases h with
    | cons h1 h2 => cases h1; rw [dpAll_ints' h2]; rfl
theorem dpAll_len {K : PySem.W.Frag} {H : Hp} : ∀ {vs : List V} {ds : List PyData}, DpAll K H vs ds → vs.length = ds.length
  | _, _, .nil => rfl
  | _, _, .cons _ t => by simp [dpAll_len t]
theorem dpAll_get {K : PySem.W.Frag} {H : Hp} : ∀ {vs : List V} {ds : List PyData} {i : Nat} {d : PyData}, DpAll K H vs ds → ds[i]? = some d → ∃ v, vs[i]? = some v ∧ Dp K H v d
  | _, _, i, d, .nil, h => by simp at h
  | _, _, 0, d, .cons h1 t, h => by simp at h; subst h; exact ⟨_, rfl, h1⟩
  | _, _, i + 1, d, .cons h1 t, h => dpAll_get (i := i) t (by simpa using h)
theorem dpAll_append {K : PySem.W.Frag} {H : Hp} : ∀ {vs ws : List V} {ds es : List PyData}, DpAll K H vs ds → DpAll K H ws es → DpAll K H (vs ++ ws) (ds ++ es)
  | _, _, _, _, .nil, h => h
  | _, _, _, _, .cons h1 t, h => .cons h1 (dpAll_append t h)
/-! ### fractions as data -/
def frD (x : Int) : PyData := .tuple [.int (nu x), .int (de x)]
theorem fr_of {K : PySem.W.Frag} {H : Hp} {v : V} {x : Int} (h : Dp K H v (frD x)) : ∃ a, v = .ref a ∧ SqT K H a [.int (nu x), .int (de x)] := by
  obtain ⟨a, vs, rfl, h1, h2⟩ := dp_tup h
  obtain ⟨v1, r, rfl, h3, h4⟩ := dpAll_cons h2
  obtain ⟨v2, r, rfl, h5, h6⟩ := dpAll_cons h4
  cases dpAll_nil h6
  cases dp_int h3
  cases dp_int h5
  exact ⟨a, rfl, h1⟩
theorem fr_mk {K : PySem.W.Frag} {H : Hp} {a : Addr} {x : Int} (h : SqT K H a [.int (nu x), .int (de x)]) : Dp K H (.ref a) (frD x) := .tup h (.cons (.int _) (.cons (.int _) .nil))
/-! ### two ways -/
theorem ifB {c : Bool} {A B : Prop} (h1 : c = true → A) (h2 : c = false → B) : if c = true then A else B := by
  cases c with
  | true => exact h1 rfl
  | false => exact h2 rfl
theorem ifT {c : Bool} {A B : Prop} (h : c = true) (a : A) : if c = true then A else B := by rw [if_pos h]; exact a
theorem ifF {c : Bool} {A B : Prop} (h : c = false) (b : B) : if c = true then A else B := by rw [h]; exact b
/-! ### steps of readings -/
section
variable {K : PySem.W.Frag} {σ : L2.St} {H : Hp} {Q : VK} {QB : Bool → Hp → Prop} {QA : List V → Hp → Prop} {D : Ends} {ta tb tc te : TE} {t u : TT} {ts us : TS} {tA tr : TA} {r r' : R2} {i j : Int} {n : Nat} {v x y : V}
theorem c_seq (h : ts { D with nx := us D } σ H) : tSeq ts us D σ H := h
theorem c_next (h : D.nx σ H) : tNext D σ H := h
theorem c_ret (h : te σ H D.rt) : tRet te D σ H := h
theorem c_retN (h : D.rt .non H) : tRetN D σ H := h
theorem c_asg (h : te σ H fun x H1 => D.nx (σ.set n (some x)) H1) : tAsg te (gName n) D σ H := h
theorem c_drop (h : te σ H fun _ H1 => D.nx σ H1) : tDrop te D σ H := h
theorem c_ifS (h : t σ H fun b H1 => if b = true then ts D σ H1 else us D σ H1) : tIfS t ts us D σ H := h
theorem c_par {a b : Nat} (h : tA σ H fun vs H1 => ∃ v w, vs = [v, w] ∧ D.nx ((σ.set a (some v)).set b (some w)) H1) : tPar a b tA D σ H := h
theorem c_two {P : V → V → Prop} (h : P x y) : ∃ v w, [x, y] = [v, w] ∧ P v w := ⟨x, y, rfl, h⟩
theorem c_var (h : σ[n]? = some (some v)) (q : Q v H) : tVar n σ H Q := ⟨v, h, q⟩
theorem c_c (q : Q v H) : tC v σ H Q := q
theorem c_op (h : ta σ H fun x H1 => tb σ H1 fun y H2 => r x y H2 Q) : tOp r ta tb σ H Q := h
theorem c_un {ru : V → Hp → VK → Prop} (h : ta σ H fun x H1 => ru x H1 Q) : tUn ru ta σ H Q := h
theorem c_U {g : Int → V} (h : Q (g i) H) : rU g (.int i) H Q := ⟨i, rfl, h⟩
theorem c_I0 {g : Int → Int → V} (q : Q (g i j) H) : rI0 g (.int i) (.int j) H Q := ⟨i, j, rfl, rfl, q⟩
theorem c_I {C : Int → Int → Prop} {g : Int → Int → V} (c : C i j) (q : Q (g i j) H) : rI C g (.int i) (.int j) H Q := ⟨i, j, rfl, rfl, c, q⟩
theorem c_ixT {p : Addr} {xs : List V} (h : SqT K H p xs) (a : atI xs i = some v) (q : Q v H) : rIxT K (.ref p) (.int i) H Q := ⟨p, xs, i, v, rfl, rfl, h, a, q⟩
theorem c_ixL {p : Addr} {xs : List V} (h : SqL K H p xs) (a : atI xs i = some v) (q : Q v H) : rIxL K (.ref p) (.int i) H Q := ⟨p, xs, i, v, rfl, rfl, h, a, q⟩
theorem c_test (h : te σ H fun x H' => ∃ k, x = .bl k ∧ QB k H') : tTest te σ H QB := h
theorem c_B (h : te σ H fun x H' => ∃ k, x = .bl k ∧ QB k H') : tB te σ H QB := h
theorem c_bl {k : Bool} {P : Bool → Prop} (h : P k) : ∃ k', V.bl k = .bl k' ∧ P k' := ⟨k, rfl, h⟩
theorem c_eq (s : scal x y = true) (q : Q (.bl (decide (x = y))) H) : rEq x y H Q := ⟨s, q⟩
theorem c_ne (s : scal x y = true) (q : Q (.bl (!decide (x = y))) H) : rNe x y H Q := ⟨s, q⟩
theorem c_chain (h : ta σ H fun x H1 => tb σ H1 fun y H2 => r x y H2 fun z H3 => ∃ k, z = .bl k ∧ (if k = true then tc σ H3 fun w' H4 => r' y w' H4 Q else Q (.bl false) H3)) : tChain r r' ta tb tc σ H Q := h
theorem c_and (h : t σ H fun c H1 => if c = true then u σ H1 QB else QB false H1) : tAnd t u σ H QB := h
theorem c_or (h : t σ H fun c H1 => if c = true then QB true H1 else u σ H1 QB) : tOr t u σ H QB := h
theorem c_not (h : t σ H fun c H1 => QB (!c) H1) : tNot t σ H QB := h
theorem c_andV (h : ta σ H fun x H1 => ∃ c, x = .bl c ∧ if c = true then tb σ H1 Q else Q (.bl false) H1) : tAndV ta tb σ H Q := h
theorem c_orV (h : ta σ H fun x H1 => ∃ c, x = .bl c ∧ if c = true then Q (.bl true) H1 else tb σ H1 Q) : tOrV ta tb σ H Q := h
theorem c_notV (h : ta σ H fun x H1 => ∃ c, x = .bl c ∧ Q (.bl (!c)) H1) : tNotV ta σ H Q := h
theorem c_ifE (h : t σ H fun c H1 => if c = true then ta σ H1 Q else tb σ H1 Q) : tIf t ta tb σ H Q := h
theorem c_call {sp : Sp} {E : XK} (h : tA σ H fun vs H1 => sp (vs ++ []) H1 Q E) : tCall sp [] E tA σ H Q := h
theorem c_cb {rc : List V → Hp → VK → Prop} (h : tA σ H fun vs H1 => rc vs H1 Q) : tCB rc tA σ H Q := h
theorem c_cons (h : ta σ H fun x H1 => tr σ H1 fun xs H2 => QA (x :: xs) H2) : tCons ta tr σ H QA := h
theorem c_nil (h : QA [] H) : tNil σ H QA := h
theorem c_tup (h : tA σ H fun xs H1 => xs.length ≤ sizeLine ∧ ∀ p, H1 p = none → Q (.ref p) (upd H1 p (.tup xs))) : tTup tA σ H Q := h
theorem c_lst (h : tA σ H fun xs H1 => xs.length ≤ sizeLine ∧ ∀ p, H1 p = none → Q (.ref p) (upd H1 p (.lst xs))) : tLst tA σ H Q := h
/-- a new tuple, a new list: told by growth alone -/
theorem c_newT {xs : List V} (z : xs.length ≤ 1000) (h : ∀ p H', Same H H' → H p = none → H' p = some (.tup xs) → Q (.ref p) H') : xs.length ≤ sizeLine ∧ ∀ p, H p = none → Q (.ref p) (upd H p (.tup xs)) :=
  ⟨Nat.le_trans z (by decide), fun p hp => h p _ (Same.new hp) hp upd_same⟩
theorem c_newL {xs : List V} (z : xs.length ≤ 1000) (h : ∀ p H', Same H H' → H p = none → H' p = some (.lst xs) → Q (.ref p) H') : xs.length ≤ sizeLine ∧ ∀ p, H p = none → Q (.ref p) (upd H p (.lst xs)) :=
  ⟨Nat.le_trans z (by decide), fun p hp => h p _ (Same.new hp) hp upd_same⟩
theorem c_e1 {z : Int} {P : Int → Prop} (h : P z) : ∃ i, [V.int z] = [V.int i] ∧ P i := ⟨z, rfl, h⟩
theorem c_e2 {y z : Int} {P : Int → Int → Prop} (h : P y z) : ∃ i j, [V.int y, V.int z] = [V.int i, V.int j] ∧ P i j := ⟨y, z, rfl, h⟩
theorem c_int1 {z : Int} {P : Int → Prop} {R : Prop} (h : P z) : (∃ i, [V.int z] = [V.int i] ∧ P i) ∨ R := .inl ⟨z, rfl, h⟩
theorem c_int1b {z : Bool} {P : Bool → Prop} {R : Prop} (h : P z) : R ∨ ∃ k, [V.bl z] = [V.bl k] ∧ P k := .inr ⟨z, rfl, h⟩
end
local macro_rules | `(tactic| walk_at "hd1") => `(tactic| (first
  | with_reducible refine c_seq ?_ | with_reducible refine c_ret ?_ | with_reducible refine c_asg ?_ | with_reducible refine c_drop ?_ | with_reducible refine c_next ?_ | with_reducible refine c_ifS ?_ | with_reducible refine c_par ?_
  | with_reducible refine c_var rfl ?_ | with_reducible refine c_c ?_ | with_reducible refine c_op ?_ | with_reducible refine c_un ?_ | with_reducible refine c_U ?_ | with_reducible refine c_I0 ?_
  | with_reducible refine c_test ?_ | with_reducible refine c_B ?_ | with_reducible refine c_bl ?_ | with_reducible refine c_eq rfl ?_ | with_reducible refine c_ne rfl ?_ | with_reducible refine c_chain ?_
  | with_reducible refine c_and ?_ | with_reducible refine c_or ?_ | with_reducible refine c_not ?_ | with_reducible refine c_andV ?_ | with_reducible refine c_orV ?_ | with_reducible refine c_notV ?_ | with_reducible refine c_ifE ?_
  | with_reducible refine c_call ?_ | with_reducible refine c_cb ?_ | with_reducible refine c_cons ?_ | with_reducible refine c_nil ?_ | with_reducible refine c_tup ?_ | with_reducible refine c_lst ?_ | with_reducible refine c_two ?_ | with_reducible refine c_e1 ?_ | with_reducible refine c_e2 ?_ | with_reducible refine c_int1 ?_ | with_reducible refine c_int1b ?_
  | with_reducible refine c_ixT (by assumption) rfl ?_ | with_reducible refine c_ixL (by assumption) rfl ?_
  | with_reducible refine c_I (by assumption) ?_))
local macro_rules | `(tactic| walk_at "hd") => `(tactic| repeat (walk_at "hd1"))
local macro_rules | `(tactic| walk_at "in") => `(tactic| ((try dsimp only [cxOf]); walk_at "hd"))
/-! ### the first defs -/
section
variable {P : Program} {w : World} {K : PySem.W.Frag} {mg : Str → Option Value} {base : Heap}
/-- the divisor -/
def spDivisor : Sp := fun vs H Q _ => ∃ a b : Int, vs = [.int a, .int b] ∧ 0 ≤ b ∧ Q (.int (Int.gcd a b : Int)) H
theorem ok_divisor (T : Txt K mg) : Cal P w K mg base CX0 1 "divisor" ["one", "other"] spDivisor := by
  refine in_divisor T (fun vs H Q E h => ?_) (fun cdv A outer s H vs Q E hr h => ?_)
  · obtain ⟨a, b, rfl, _⟩ := h
    rfl
  · obtain ⟨a, b, rfl, hb, k⟩ := h
    refine ⟨_, pss_cons (ps_while (passes_of rfl) (pt_cmpR op_ne (pv 1) pe_int (nomark _)) (pss_one (ps_par (i := 0) (j := 1) rfl sc_divisor.nd rfl rfl (by decide) rfl rfl (pa_cons (pv 1) (pa_cons (pe_op op_mod (pv 0) (pv 1)) pa_nil)) (by rfl))))
      (pss_one (ps_ret (pe_callB call_abs (by rfl) T.n_abs bo_abs (pa_cons (pv 0) pa_nil)))), ?_⟩
    walk_at "hd"
    refine ⟨fun m σ' H' => ∃ x y : Int, σ' = [some (.int x), some (.int y)] ∧ H' = H ∧ 0 ≤ y ∧ m = y.toNat ∧ Int.gcd x y = Int.gcd a b, ⟨_, _, _, rfl, rfl, hb, rfl, rfl⟩, ?_⟩
    rintro m σ' H' ⟨x, y, rfl, rfl, hy, rfl, hg⟩
    walk_at "hd"
    refine ifB (fun h => ?_) (fun h => ?_)
    · have y0 : y ≠ 0 := by simpa using h
      refine ⟨_, fun σ2 H2 n => n, ?_⟩
      have hm : 0 < y := by omega
      walk_at "hd"
      refine ⟨(x % y).toNat, ?_, _, _, rfl, rfl, Int.emod_nonneg _ y0, rfl, by rw [gcd_turn, hg]⟩
      have := Int.emod_lt_of_pos x hm
      omega
    · have y0 : y = 0 := by simpa using h
      subst y0
      walk_at "hd"
      have e : (if x < 0 then -x else x) = (Int.gcd a b : Int) := by
        rw [← hg, Int.gcd_zero_right]
        omega
      rw [e]
      exact k
end
end Hd
end
section
set_option Elab.async false
set_option linter.all false
set_option maxRecDepth 100000
set_option maxHeartbeats 4000000
namespace Hd
open PySem PySem.Spec PyProof.Rows L2
local macro_rules | `(tactic| walk_at "hd1") => `(tactic| (first
  | with_reducible refine c_seq ?_ | with_reducible refine c_ret ?_ | with_reducible refine c_asg ?_ | with_reducible refine c_drop ?_ | with_reducible refine c_next ?_ | with_reducible refine c_ifS ?_ | with_reducible refine c_par ?_
  | with_reducible refine c_var rfl ?_ | with_reducible refine c_c ?_ | with_reducible refine c_op ?_ | with_reducible refine c_un ?_ | with_reducible refine c_U ?_ | with_reducible refine c_I0 ?_
  | with_reducible refine c_test ?_ | with_reducible refine c_B ?_ | with_reducible refine c_bl ?_ | with_reducible refine c_eq rfl ?_ | with_reducible refine c_ne rfl ?_ | with_reducible refine c_chain ?_
  | with_reducible refine c_and ?_ | with_reducible refine c_or ?_ | with_reducible refine c_not ?_ | with_reducible refine c_andV ?_ | with_reducible refine c_orV ?_ | with_reducible refine c_notV ?_ | with_reducible refine c_ifE ?_
  | with_reducible refine c_call ?_ | with_reducible refine c_cb ?_ | with_reducible refine c_cons ?_ | with_reducible refine c_nil ?_ | with_reducible refine c_tup ?_ | with_reducible refine c_lst ?_ | with_reducible refine c_two ?_ | with_reducible refine c_e1 ?_ | with_reducible refine c_e2 ?_ | with_reducible refine c_int1 ?_ | with_reducible refine c_int1b ?_
  | with_reducible refine c_ixT (by assumption) rfl ?_ | with_reducible refine c_ixL (by assumption) rfl ?_
  | with_reducible refine c_I (by assumption) ?_))
local macro_rules | `(tactic| walk_at "hd") => `(tactic| repeat (walk_at "hd1"))
local macro_rules | `(tactic| walk_at "in") => `(tactic| ((try dsimp only [cxOf]); walk_at "hd"))
/-! ### fractions -/
section
variable {P : Program} {w : World} {K : PySem.W.Frag} {mg : Str → Option Value} {base : Heap}
theorem gcd_small {t b : Int} (h0 : 0 < b) (h1 : b < 1073741824) : CDiv t (Int.gcd t b : Int) ∧ CDiv b (Int.gcd t b : Int) := by
  have g0 : 0 < Int.gcd t b := Nat.pos_of_ne_zero fun e => by
    have := (Int.gcd_eq_zero_iff.mp e).2
    omega
  have g1 : (Int.gcd t b : Int) ≤ b := Int.le_of_dvd h0 (Int.gcd_dvd_right ..)
  have : 0 < (Int.gcd t b : Int) ∧ (Int.gcd t b : Int) < 1073741824 := by omega
  exact ⟨this, this⟩
/-- a fraction of so much / 27720 in lowest terms, of any top and bottom that are worth it -/
def spLow (K : PySem.W.Frag) : Sp := fun vs H Q _ => ∃ t b x : Int, vs = [.int t, .int b] ∧ 0 < b ∧ b < 1073741824 ∧ t * 27720 = x * b ∧ ∀ v H', Same H H' → Dp K H' v (frD x) → Q v H'
theorem ok_lowest (T : Txt K mg) : Cal P w K mg base CX0 2 "lowest" ["top", "bottom"] (spLow K) := by
  have c1 := ok_divisor (P := P) (w := w) (base := base) T
  refine in_lowest T (fun vs H Q E h => ?_) (fun cdv A outer s H vs Q E hr h => ?_)
  · obtain ⟨t, b, x, rfl, _⟩ := h
    rfl
  · obtain ⟨t, b, x, rfl, hb, hb2, he, k⟩ := h
    refine ⟨_, pss_cons (ps_set (i := 2) sc_lowest.nd rfl (.inl rfl) (pe_cal c1 hr (by rfl) (pa_cons (pv 0) (pa_cons (pv 1) pa_nil))))
      (pss_one (ps_ret (pe_tup (pa_cons (pe_op op_fdiv (pv 0) (pv 2)) (pa_cons (pe_op op_fdiv (pv 1) (pv 2)) pa_nil))))), ?_⟩
    obtain ⟨d1, d2⟩ := gcd_small (t := t) hb hb2
    obtain ⟨e1, e2⟩ := low_eq hb he
    walk_at "in"
    refine ⟨_, _, rfl, Int.le_of_lt hb, ?_⟩
    walk_at "hd"
    refine c_newT (by show 2 ≤ 1000; decide) fun p H' e0 _ hp => ?_
    rw [e1, e2] at hp
    exact k _ _ e0 (fr_mk (SqT.of hp))
/-- one + other, the other one any pair that is worth y / 27720 -/
def spSum (K : PySem.W.Frag) (sg : Int) : Sp := fun vs H Q _ => ∃ (v1 : V) (a2 : Addr) (x y t2 b2 : Int), vs = [v1, .ref a2] ∧ Dp K H v1 (frD x) ∧ SqT K H a2 [.int t2, .int b2] ∧ 0 < b2 ∧ b2 ≤ 27720 ∧ t2 * 27720 = y * b2 ∧
  ∀ v H', Same H H' → Dp K H' v (frD (x + sg * y)) → Q v H'
theorem sum_bnd {x b2 : Int} (h1 : 0 < b2) (h2 : b2 ≤ 27720) : 0 < de x * b2 ∧ de x * b2 < 1073741824 := by
  have h3 := de_pos x
  have h4 := de_le x
  have h5 := Int.mul_pos h3 h1
  have h6 : de x * b2 ≤ 27720 * 27720 := Int.mul_le_mul h4 h2 (Int.le_of_lt h1) (by omega)
  omega
theorem cm_r {i j : Int} (h1 : 0 < j) (h2 : j ≤ 27720) : CMul i j := .inr ⟨by omega, by omega⟩
theorem cm_l {i j : Int} (h1 : 0 < i) (h2 : i ≤ 27720) : CMul i j := .inl ⟨by omega, by omega⟩
theorem ok_plus (T : Txt K mg) : Cal P w K mg base CX0 3 "plus" ["one", "other"] (spSum K 1) := by
  have c1 := ok_lowest (P := P) (w := w) (base := base) T
  refine in_plus T (fun vs H Q E h => ?_) (fun cdv A outer s H vs Q E hr h => ?_)
  · obtain ⟨v1, a2, x, y, t2, b2, rfl, _⟩ := h
    rfl
  · obtain ⟨v1, a2, x, y, t2, b2, rfl, h1, h2, hb, hb2, he, k⟩ := h
    obtain ⟨a1, rfl, h1⟩ := fr_of h1
    refine ⟨_, pss_one (ps_ret (pe_cal c1 hr (by rfl) (pa_cons (pe_op op_add (pe_op op_mul (pe_ix ix_tup (pv 0) pe_int (fun _ _ => rfl)) (pe_ix ix_tup (pv 1) pe_int (fun _ _ => rfl)))
      (pe_op op_mul (pe_ix ix_tup (pv 1) pe_int (fun _ _ => rfl)) (pe_ix ix_tup (pv 0) pe_int (fun _ _ => rfl)))) (pa_cons (pe_op op_mul (pe_ix ix_tup (pv 0) pe_int (fun _ _ => rfl)) (pe_ix ix_tup (pv 1) pe_int (fun _ _ => rfl))) pa_nil)))), ?_⟩
    have m1 : CMul (nu x) b2 := cm_r hb hb2
    have m2 : CMul t2 (de x) := cm_r (de_pos x) (de_le x)
    have m3 : CMul (de x) b2 := cm_r hb hb2
    obtain ⟨p1, p2⟩ := sum_bnd (x := x) hb hb2
    walk_at "in"
    refine ⟨_, _, _, rfl, p1, p2, add_sc he, fun v H' e hv => k v H' e ?_⟩
    rw [Int.one_mul]
    exact hv
theorem ok_minus (T : Txt K mg) : Cal P w K mg base CX0 3 "minus" ["one", "other"] (spSum K (-1)) := by
  have c1 := ok_lowest (P := P) (w := w) (base := base) T
  refine in_minus T (fun vs H Q E h => ?_) (fun cdv A outer s H vs Q E hr h => ?_)
  · obtain ⟨v1, a2, x, y, t2, b2, rfl, _⟩ := h
    rfl
  · obtain ⟨v1, a2, x, y, t2, b2, rfl, h1, h2, hb, hb2, he, k⟩ := h
    obtain ⟨a1, rfl, h1⟩ := fr_of h1
    refine ⟨_, pss_one (ps_ret (pe_cal c1 hr (by rfl) (pa_cons (pe_op op_sub (pe_op op_mul (pe_ix ix_tup (pv 0) pe_int (fun _ _ => rfl)) (pe_ix ix_tup (pv 1) pe_int (fun _ _ => rfl)))
      (pe_op op_mul (pe_ix ix_tup (pv 1) pe_int (fun _ _ => rfl)) (pe_ix ix_tup (pv 0) pe_int (fun _ _ => rfl)))) (pa_cons (pe_op op_mul (pe_ix ix_tup (pv 0) pe_int (fun _ _ => rfl)) (pe_ix ix_tup (pv 1) pe_int (fun _ _ => rfl))) pa_nil)))), ?_⟩
    have m1 : CMul (nu x) b2 := cm_r hb hb2
    have m2 : CMul t2 (de x) := cm_r (de_pos x) (de_le x)
    have m3 : CMul (de x) b2 := cm_r hb hb2
    obtain ⟨p1, p2⟩ := sum_bnd (x := x) hb hb2
    have he' : (-t2) * 27720 = (-y) * b2 := by rw [Int.neg_mul, Int.neg_mul, he]
    have e3 := add_sc (x := x) he'
    rw [Int.neg_mul, ← Int.sub_eq_add_neg] at e3
    walk_at "in"
    refine ⟨_, _, _, rfl, p1, p2, e3, fun v H' e hv => k v H' e ?_⟩
    rw [Int.neg_mul, Int.one_mul]
    exact hv
theorem ok_law_low (T : Txt K mg) : Cal P w K mg base CX0 1 "_law_low" ["_law_top", "_law_bottom"] (spLow K) := by
  refine in__law_low T (fun vs H Q E h => ?_) (fun cdv A outer s H vs Q E hr h => ?_)
  · obtain ⟨t, b, x, rfl, _⟩ := h
    rfl
  · obtain ⟨t, b, x, rfl, hb, hb2, he, k⟩ := h
    refine ⟨_, pss_cons (ps_par (i := 2) (j := 3) rfl sc__law_low.nd rfl rfl (by decide) rfl rfl (pa_cons (pe_callB call_abs (by rfl) T.n_abs bo_abs (pa_cons (pv 0) pa_nil)) (pa_cons (pv 1) pa_nil)) (by rfl))
      (pss_cons (ps_while (passes_of rfl) (pt_cmpR op_gt (pv 3) pe_int (nomark _)) (pss_one (ps_par (i := 2) (j := 3) rfl sc__law_low.nd rfl rfl (by decide) rfl rfl (pa_cons (pv 3) (pa_cons (pe_op op_mod (pe_callTy call_int1 (by rfl) T.n_int bo_int (pa_cons (pv 2) pa_nil)) (pv 3)) pa_nil)) (by rfl))))
      (pss_one (ps_ret (pe_tup (pa_cons (pe_op op_fdiv (pv 0) (pv 2)) (pa_cons (pe_op op_fdiv (pv 1) (pv 2)) pa_nil)))))), ?_⟩
    obtain ⟨d1, d2⟩ := gcd_small (t := t) hb hb2
    obtain ⟨e1, e2⟩ := low_eq hb he
    walk_at "in"
    have ea : (if t < 0 then -t else t) = (t.natAbs : Int) := by split <;> omega
    rw [ea]
    have eg : Int.gcd (t.natAbs : Int) b = Int.gcd t b := by simp [Int.gcd]
    refine ⟨fun m σ' H' => ∃ x y : Int, σ' = [some (.int t), some (.int b), some (.int x), some (.int y)] ∧ H' = H ∧ 0 ≤ x ∧ 0 ≤ y ∧ m = y.toNat ∧ Int.gcd x y = Int.gcd t b, ⟨_, _, _, rfl, rfl, by omega, Int.le_of_lt hb, rfl, eg⟩, ?_⟩
    rintro m σ' H' ⟨x, y, rfl, rfl, hx, hy, rfl, hg⟩
    walk_at "hd"
    refine ifB (fun h => ?_) (fun h => ?_)
    · have y0 : 0 < y := by simpa using h
      refine ⟨_, fun σ2 H2 n => n, ?_⟩
      walk_at "hd"
      refine ⟨(x % y).toNat, ?_, _, _, rfl, rfl, hy, Int.emod_nonneg _ (by omega), rfl, by rw [gcd_turn, hg]⟩
      have := Int.emod_lt_of_pos x y0
      omega
    · have y0 : y = 0 := by
        have : y ≤ 0 := by simpa using h
        omega
      subst y0
      have ex : x = (Int.gcd t b : Int) := by
        rw [← hg, Int.gcd_zero_right]
        omega
      rw [ex]
      walk_at "hd"
      refine c_newT (by show 2 ≤ 1000; decide) fun p H' e0 _ hp => ?_
      rw [e1, e2] at hp
      exact k _ _ e0 (fr_mk (SqT.of hp))
theorem ok_law_plus (T : Txt K mg) : Cal P w K mg base CX0 2 "_law_plus" ["_law_one", "_law_other"] (spSum K 1) := by
  have c1 := ok_law_low (P := P) (w := w) (base := base) T
  refine in__law_plus T (fun vs H Q E h => ?_) (fun cdv A outer s H vs Q E hr h => ?_)
  · obtain ⟨v1, a2, x, y, t2, b2, rfl, _⟩ := h
    rfl
  · obtain ⟨v1, a2, x, y, t2, b2, rfl, h1, h2, hb, hb2, he, k⟩ := h
    obtain ⟨a1, rfl, h1⟩ := fr_of h1
    refine ⟨_, pss_one (ps_ret (pe_cal c1 hr (by rfl) (pa_cons (pe_op op_add (pe_op op_mul (pe_ix ix_tup (pv 0) pe_int (fun _ _ => rfl)) (pe_ix ix_tup (pv 1) pe_int (fun _ _ => rfl)))
      (pe_op op_mul (pe_ix ix_tup (pv 1) pe_int (fun _ _ => rfl)) (pe_ix ix_tup (pv 0) pe_int (fun _ _ => rfl)))) (pa_cons (pe_op op_mul (pe_ix ix_tup (pv 0) pe_int (fun _ _ => rfl)) (pe_ix ix_tup (pv 1) pe_int (fun _ _ => rfl))) pa_nil)))), ?_⟩
    have m1 : CMul (nu x) b2 := cm_r hb hb2
    have m2 : CMul t2 (de x) := cm_r (de_pos x) (de_le x)
    have m3 : CMul (de x) b2 := cm_r hb hb2
    obtain ⟨p1, p2⟩ := sum_bnd (x := x) hb hb2
    walk_at "in"
    refine ⟨_, _, _, rfl, p1, p2, add_sc he, fun v H' e hv => k v H' e ?_⟩
    rw [Int.one_mul]
    exact hv
def spLess (K : PySem.W.Frag) : Sp := fun vs H Q _ => ∃ (v1 v2 : V) (x y : Int), vs = [v1, v2] ∧ Dp K H v1 (frD x) ∧ Dp K H v2 (frD y) ∧ Q (.bl (decide (x < y))) H
theorem ok_law_less (T : Txt K mg) : Cal P w K mg base CX0 1 "_law_less" ["_law_one", "_law_other"] (spLess K) := by
  refine in__law_less T (fun vs H Q E h => ?_) (fun cdv A outer s H vs Q E hr h => ?_)
  · obtain ⟨v1, v2, x, y, rfl, _⟩ := h
    rfl
  · obtain ⟨v1, v2, x, y, rfl, h1, h2, k⟩ := h
    obtain ⟨a1, rfl, h1⟩ := fr_of h1
    obtain ⟨a2, rfl, h2⟩ := fr_of h2
    refine ⟨_, pss_one (ps_ret (pe_cmpR op_lt (pe_op op_mul (pe_ix ix_tup (pv 0) pe_int (fun _ _ => rfl)) (pe_ix ix_tup (pv 1) pe_int (fun _ _ => rfl)))
      (pe_op op_mul (pe_ix ix_tup (pv 1) pe_int (fun _ _ => rfl)) (pe_ix ix_tup (pv 0) pe_int (fun _ _ => rfl))) (nomark _))), ?_⟩
    have m1 : CMul (nu x) (de y) := cm_r (de_pos y) (de_le y)
    have m2 : CMul (nu y) (de x) := cm_r (de_pos x) (de_le x)
    walk_at "in"
    have e : decide (nu x * de y < nu y * de x) = decide (x < y) := decide_eq_decide.mpr (less_sc x y)
    rw [e]
    exact k
end
end Hd
end
section
set_option Elab.async false
set_option linter.all false
set_option maxRecDepth 100000
set_option maxHeartbeats 4000000
namespace Hd
open PySem PySem.Spec PyProof.Rows L2
local macro_rules | `(tactic| walk_at "hd1") => `(tactic| (first
  | with_reducible refine c_seq ?_ | with_reducible refine c_ret ?_ | with_reducible refine c_asg ?_ | with_reducible refine c_drop ?_ | with_reducible refine c_next ?_ | with_reducible refine c_ifS ?_ | with_reducible refine c_par ?_
  | with_reducible refine c_var rfl ?_ | with_reducible refine c_c ?_ | with_reducible refine c_op ?_ | with_reducible refine c_un ?_ | with_reducible refine c_U ?_ | with_reducible refine c_I0 ?_
  | with_reducible refine c_test ?_ | with_reducible refine c_B ?_ | with_reducible refine c_bl ?_ | with_reducible refine c_eq rfl ?_ | with_reducible refine c_ne rfl ?_ | with_reducible refine c_chain ?_
  | with_reducible refine c_and ?_ | with_reducible refine c_or ?_ | with_reducible refine c_not ?_ | with_reducible refine c_andV ?_ | with_reducible refine c_orV ?_ | with_reducible refine c_notV ?_ | with_reducible refine c_ifE ?_
  | with_reducible refine c_call ?_ | with_reducible refine c_cb ?_ | with_reducible refine c_cons ?_ | with_reducible refine c_nil ?_ | with_reducible refine c_tup ?_ | with_reducible refine c_lst ?_ | with_reducible refine c_two ?_ | with_reducible refine c_e1 ?_ | with_reducible refine c_e2 ?_ | with_reducible refine c_int1 ?_ | with_reducible refine c_int1b ?_
  | with_reducible refine c_ixT (by assumption) rfl ?_ | with_reducible refine c_ixL (by assumption) rfl ?_
  | with_reducible refine c_I (by assumption) ?_))
local macro_rules | `(tactic| walk_at "hd") => `(tactic| repeat (walk_at "hd1"))
local macro_rules | `(tactic| walk_at "in") => `(tactic| ((try dsimp only [cxOf]); walk_at "hd"))
/-! ### kinds -/
def tyL : List String := ["int", "bool", "NoneType", "str", "tuple", "list", "dict"]
theorem kit_int : ∀ t ∈ tyL, kitB t "int" = some (t == "int" || t == "bool") := by decide +kernel
theorem kit_bool : ∀ t ∈ tyL, kitB t "bool" = some (t == "bool") := by decide +kernel
theorem kit_tuple : ∀ t ∈ tyL, kitB t "tuple" = some (t == "tuple") := by decide +kernel
theorem kit_list : ∀ t ∈ tyL, kitB t "list" = some (t == "list") := by decide +kernel
theorem kit_dict : ∀ t ∈ tyL, kitB t "dict" = some (t == "dict") := by decide +kernel
/-- an int, or a thing of another of these kinds -/
def Knd (K : PySem.W.Frag) (H : Hp) (v : V) : Option Int → Prop
  | some i => v = .int i
  | none => ∃ t, t ∈ tyL ∧ (t == "int") = false ∧ TyX K H v (.type t)
theorem c_isi {K : PySem.W.Frag} {H : Hp} {Q : VK} {x : V} {t n : String} {b : Bool} (ty : TyX K H x (.type t)) (k : kitB t n = some b) (q : Q (.bl b) H) : rIsi K [x, .ty n] H Q :=
  ⟨x, .ty n, .type t, .type n, b, rfl, .ty n, ty, kit_ty k, q⟩
section
variable {P : Program} {w : World} {K : PySem.W.Frag} {mg : Str → Option Value} {base : Heap}
def spInteger (K : PySem.W.Frag) : Sp := fun vs H Q _ => ∃ (v : V) (o : Option Int), vs = [v] ∧ Knd K H v o ∧ Q (.bl o.isSome) H
theorem ok_is_integer (T : Txt K mg) : Cal P w K mg base CX0 1 "is_integer" ["thing"] (spInteger K) := by
  refine in_is_integer T (fun vs H Q E h => ?_) (fun cdv A outer s H vs Q E hr h => ?_)
  · obtain ⟨v, o, rfl, _⟩ := h
    rfl
  · obtain ⟨v, o, rfl, hv, k⟩ := h
    refine ⟨_, pss_one (ps_ret (pe_and (pe_callB call_isi (by rfl) T.n_isinstance bo_isinstance (pa_cons (pv 0) (pa_cons (pe_bltn (v := .ty "int") (by rfl) T.n_int bo_int rfl) pa_nil)))
      (pe_one (pe_not (pe_callB call_isi (by rfl) T.n_isinstance bo_isinstance (pa_cons (pv 0) (pa_cons (pe_bltn (v := .ty "bool") (by rfl) T.n_bool bo_bool rfl) pa_nil))))))), ?_⟩
    cases o with
    | some i =>
      have e : v = .int i := hv
      subst e
      walk_at "in"
      refine c_isi (.base (.int i)) (kit_int _ (by decide)) ?_
      walk_at "hd"
      refine ifT (by decide) ?_
      walk_at "hd"
      refine c_isi (.base (.int i)) (kit_bool _ (by decide)) ?_
      walk_at "hd"
      exact k
    | none =>
      obtain ⟨t, ht, hne, ty⟩ := hv
      walk_at "in"
      refine c_isi ty (kit_int _ ht) ?_
      walk_at "hd"
      refine ifB (fun h => ?_) (fun _ => k)
      walk_at "hd"
      refine c_isi ty (kit_bool _ ht) ?_
      walk_at "hd"
      have e : (t == "bool") = true := by rw [hne] at h; simpa using h
      rw [e]
      exact k
def inR (lo hi : Int) : Option Int → Bool
  | some i => decide (lo ≤ i) && decide (i ≤ hi)
  | none => false
def spWithin (K : PySem.W.Frag) : Sp := fun vs H Q _ => ∃ (v : V) (o : Option Int) (lo hi : Int), vs = [v, .int lo, .int hi] ∧ Knd K H v o ∧ Q (.bl (inR lo hi o)) H
theorem ok_is_within (T : Txt K mg) : Cal P w K mg base CX0 2 "is_within" ["thing", "low", "high"] (spWithin K) := by
  have c1 := ok_is_integer (P := P) (w := w) (base := base) T
  refine in_is_within T (fun vs H Q E h => ?_) (fun cdv A outer s H vs Q E hr h => ?_)
  · obtain ⟨v, o, lo, hi, rfl, _⟩ := h
    rfl
  · obtain ⟨v, o, lo, hi, rfl, hv, k⟩ := h
    refine ⟨_, pss_one (ps_ret (pe_and (pe_cal c1 hr (by rfl) (pa_cons (pv 0) pa_nil)) (pe_one (pe_chain op_le op_le (pv 1) (pv 0) (pv 2))))), ?_⟩
    walk_at "in"
    refine ⟨v, o, rfl, hv, ?_⟩
    walk_at "hd"
    cases o with
    | some i =>
      have e : v = .int i := hv
      subst e
      refine ifT rfl ?_
      walk_at "hd"
      by_cases h : lo ≤ i
      · refine ifT (decide_eq_true h) ?_
        walk_at "hd"
        have e : inR lo hi (some i) = decide (i ≤ hi) := by simp [inR, h]
        rw [e] at k
        exact k
      · refine ifF (decide_eq_false h) ?_
        have e : inR lo hi (some i) = false := by simp [inR, h]
        rw [e] at k
        exact k
    | none => exact ifF rfl k
def spPair (K : PySem.W.Frag) : Sp := fun vs H Q _ => ∃ (a : Addr) (xs : List V), vs = [.ref a] ∧ SqT K H a xs ∧ TyX K H (.ref a) (.type "tuple") ∧ xs.length = 2 ∧ Q (.bl true) H
theorem c_lenT {K : PySem.W.Frag} {H : Hp} {P : Nat → Prop} {a : Addr} {xs : List V} (h : SqT K H a xs) (q : P xs.length) : ∃ x n, [V.ref a] = [x] ∧ LenV K x H n ∧ P n :=
  ⟨.ref a, xs.length, rfl, .inr ⟨xs, h, rfl⟩, q⟩
theorem c_lenL {K : PySem.W.Frag} {H : Hp} {P : Nat → Prop} {a : Addr} {xs : List V} (h : SqL K H a xs) (q : P xs.length) : ∃ x n, [V.ref a] = [x] ∧ LenV K x H n ∧ P n :=
  ⟨.ref a, xs.length, rfl, .inl ⟨xs, h, rfl⟩, q⟩
theorem ok_is_pair (T : Txt K mg) : Cal P w K mg base CX0 1 "is_pair" ["thing"] (spPair K) := by
  refine in_is_pair T (fun vs H Q E h => ?_) (fun cdv A outer s H vs Q E hr h => ?_)
  · obtain ⟨v, o, rfl, _⟩ := h
    rfl
  · obtain ⟨a, xs, rfl, hx, ty, hl, k⟩ := h
    refine ⟨_, pss_one (ps_ret (pe_and (pe_callB call_isi (by rfl) T.n_isinstance bo_isinstance (pa_cons (pv 0) (pa_cons (pe_bltn (v := .ty "tuple") (by rfl) T.n_tuple bo_tuple rfl) pa_nil)))
      (pe_one (pe_cmpR op_eq (pe_callB call_len (by rfl) T.n_len bo_len (pa_cons (pv 0) pa_nil)) pe_int (nomark _))))), ?_⟩
    walk_at "in"
    refine c_isi ty (kit_tuple _ (by decide)) ?_
    walk_at "hd"
    refine ifT (by decide) ?_
    walk_at "hd"
    refine c_lenT hx ?_
    rw [hl]
    walk_at "hd"
    exact k
def spPerson (K : PySem.W.Frag) : Sp := fun vs H Q _ => ∃ (n : Int) (v : V) (o : Option Int), vs = [.int n, v] ∧ Knd K H v o ∧ Q (.bl (inR 0 (n - 1) o)) H
theorem ok_is_person (T : Txt K mg) : Cal P w K mg base CX0 3 "is_person" ["n", "thing"] (spPerson K) := by
  have c1 := ok_is_within (P := P) (w := w) (base := base) T
  refine in_is_person T (fun vs H Q E h => ?_) (fun cdv A outer s H vs Q E hr h => ?_)
  · obtain ⟨n, v, o, rfl, _⟩ := h
    rfl
  · obtain ⟨n, v, o, rfl, hv, k⟩ := h
    refine ⟨_, pss_one (ps_ret (pe_cal c1 hr (by rfl) (pa_cons (pv 1) (pa_cons pe_int (pa_cons (pe_op op_sub (pv 0) pe_int) pa_nil))))), ?_⟩
    walk_at "in"
    exact ⟨v, o, 0, n - 1, rfl, hv, k⟩
/-- an int within bounds is let by -/
def spLet (lo hi : Int) : Sp := fun vs H Q _ => ∃ n : Int, vs = [.int n] ∧ lo ≤ n ∧ n ≤ hi ∧ Q .non H
theorem inR_yes {lo hi n : Int} (h1 : lo ≤ n) (h2 : n ≤ hi) : inR lo hi (some n) = true := by simp [inR, h1, h2]
theorem ok_check_people (T : Txt K mg) : Cal P w K mg base CX0 3 "check_people" ["n"] (spLet 1 12) := by
  have c1 := ok_is_within (P := P) (w := w) (base := base) T
  obtain ⟨tk, g⟩ := T.i_MOST_PEOPLE
  refine in_check_people T (fun vs H Q E h => ?_) (fun cdv A outer s H vs Q E hr h => ?_)
  · obtain ⟨n, rfl, _⟩ := h
    rfl
  · obtain ⟨n, rfl, h1, h2, k⟩ := h
    refine ⟨_, pss_one (ps_if (pt_not (pt_val (pe_cal c1 hr (by rfl) (pa_cons (pv 0) (pa_cons pe_int (pa_cons (pe_glob (v := .int 12) (by rfl) g ⟨_, rfl⟩) pa_nil)))))) (pss_one ps_never) pss_nil), ?_⟩
    walk_at "in"
    refine ⟨_, some n, _, _, rfl, rfl, ?_⟩
    rw [inR_yes h1 h2]
    walk_at "hd"
    refine ifF rfl ?_
    exact k
theorem ok_check_many_beats (T : Txt K mg) : Cal P w K mg base CX0 3 "check_many_beats" ["beats"] (spLet 1 400) := by
  have c1 := ok_is_within (P := P) (w := w) (base := base) T
  obtain ⟨tk, g⟩ := T.i_MOST_BEATS_shares
  refine in_check_many_beats T (fun vs H Q E h => ?_) (fun cdv A outer s H vs Q E hr h => ?_)
  · obtain ⟨n, rfl, _⟩ := h
    rfl
  · obtain ⟨n, rfl, h1, h2, k⟩ := h
    refine ⟨_, pss_one (ps_if (pt_not (pt_val (pe_cal c1 hr (by rfl) (pa_cons (pv 0) (pa_cons pe_int (pa_cons (pe_glob (v := .int 400) (by rfl) g ⟨_, rfl⟩) pa_nil)))))) (pss_one ps_never) pss_nil), ?_⟩
    walk_at "in"
    refine ⟨_, some n, _, _, rfl, rfl, ?_⟩
    rw [inR_yes h1 h2]
    walk_at "hd"
    refine ifF rfl ?_
    exact k
theorem ok_check_beats (T : Txt K mg) : Cal P w K mg base CX0 3 "check_beats" ["beats"] (spLet 0 1000000000) := by
  have c1 := ok_is_within (P := P) (w := w) (base := base) T
  obtain ⟨tk, g⟩ := T.i_MOST_BEATS_dealing
  refine in_check_beats T (fun vs H Q E h => ?_) (fun cdv A outer s H vs Q E hr h => ?_)
  · obtain ⟨n, rfl, _⟩ := h
    rfl
  · obtain ⟨n, rfl, h1, h2, k⟩ := h
    refine ⟨_, pss_one (ps_if (pt_not (pt_val (pe_cal c1 hr (by rfl) (pa_cons (pv 0) (pa_cons pe_int (pa_cons (pe_glob (v := .int 1000000000) (by rfl) g ⟨_, rfl⟩) pa_nil)))))) (pss_one ps_never) pss_nil), ?_⟩
    walk_at "in"
    refine ⟨_, some n, _, _, rfl, rfl, ?_⟩
    rw [inR_yes h1 h2]
    walk_at "hd"
    refine ifF rfl ?_
    exact k
end
end Hd
end
section
set_option Elab.async false
set_option linter.all false
set_option maxRecDepth 100000
set_option maxHeartbeats 4000000
namespace Hd
open PySem PySem.Spec PyProof.Rows L2
local macro_rules | `(tactic| walk_at "hd1") => `(tactic| (first
  | with_reducible refine c_seq ?_ | with_reducible refine c_ret ?_ | with_reducible refine c_asg ?_ | with_reducible refine c_drop ?_ | with_reducible refine c_next ?_ | with_reducible refine c_ifS ?_ | with_reducible refine c_par ?_
  | with_reducible refine c_var rfl ?_ | with_reducible refine c_c ?_ | with_reducible refine c_op ?_ | with_reducible refine c_un ?_ | with_reducible refine c_U ?_ | with_reducible refine c_I0 ?_
  | with_reducible refine c_test ?_ | with_reducible refine c_B ?_ | with_reducible refine c_bl ?_ | with_reducible refine c_eq rfl ?_ | with_reducible refine c_ne rfl ?_ | with_reducible refine c_chain ?_
  | with_reducible refine c_and ?_ | with_reducible refine c_or ?_ | with_reducible refine c_not ?_ | with_reducible refine c_andV ?_ | with_reducible refine c_orV ?_ | with_reducible refine c_notV ?_ | with_reducible refine c_ifE ?_
  | with_reducible refine c_call ?_ | with_reducible refine c_cb ?_ | with_reducible refine c_cons ?_ | with_reducible refine c_nil ?_ | with_reducible refine c_tup ?_ | with_reducible refine c_lst ?_ | with_reducible refine c_two ?_ | with_reducible refine c_e1 ?_ | with_reducible refine c_e2 ?_ | with_reducible refine c_int1 ?_ | with_reducible refine c_int1b ?_
  | with_reducible refine c_ixT (by assumption) rfl ?_ | with_reducible refine c_ixL (by assumption) rfl ?_
  | with_reducible refine c_I (by assumption) ?_))
local macro_rules | `(tactic| walk_at "hd") => `(tactic| repeat (walk_at "hd1"))
local macro_rules | `(tactic| walk_at "in") => `(tactic| ((try dsimp only [cxOf]); walk_at "hd"))
/-! ### data without lists stays when a list is written -/
mutual
def noL : PyData → Bool
  | .none => true
  | .bool _ => true
  | .int _ => true
  | .str _ => true
  | .tuple ds => noLs ds
  | _ => false
def noLs : List PyData → Bool
  | [] => true
  | d :: ds => noL d && noLs ds
end
mutual
theorem dp_but {K : PySem.W.Frag} {p : Addr} {H H' : Hp} {ws : List V} (e : But p H H') (hp : H p = some (.lst ws)) : ∀ {v : V} {d : PyData}, noL d = true → Dp K H v d → Dp K H' v d
  | _, _, _, .non => .non
  | _, _, _, .bl b => .bl b
  | _, _, _, .int i => .int i
  | _, _, _, .str x => .str x
  | _, _, n, .lst h1 h2 => nomatch n
  | _, _, n, .tup h1 h2 => .tup (e.tup hp h1) (dpAll_but e hp n h2)
theorem dpAll_but {K : PySem.W.Frag} {p : Addr} {H H' : Hp} {ws : List V} (e : But p H H') (hp : H p = some (.lst ws)) : ∀ {vs : List V} {ds : List PyData}, noLs ds = true → DpAll K H vs ds → DpAll K H' vs ds
  | _, _, _, .nil => .nil
  | _, _, n, .cons h t => .cons (dp_but e hp (Bool.and_eq_true_iff.mp n).1 h) (dpAll_but e hp (Bool.and_eq_true_iff.mp n).2 t)
end
theorem noLs_map {f : Nat → PyData} : ∀ {l : List Nat}, (∀ i ∈ l, noL (f i) = true) → noLs (l.map f) = true
  | [], _ => rfl
  | a :: l, h => by
    show (noL (f a) && noLs (l.map f)) = true
    rw [h a List.mem_cons_self, noLs_map fun i hi => h i (List.mem_cons_of_mem _ hi)]
    rfl
theorem noLs_ints : ∀ ns : List Int, noLs (ns.map PyData.int) = true
  | [] => rfl
  | n :: ns => by
    show (noL (.int n) && noLs (ns.map PyData.int)) = true
    rw [noLs_ints ns]
    rfl
theorem noL_fr (x : Int) : noL (frD x) = true := rfl
/-! ### comprehensions -/
section
variable {K : PySem.W.Frag} {J : It} {n : Nat} {G : Hp → Prop} {Y : Nat → Hp → V → Hp → Prop}
theorem range_snoc {α : Type} (f : Nat → α) (i : Nat) : (List.range (i + 1)).map f = (List.range i).map f ++ [f i] := by
  rw [List.range_succ, List.map_append]
  rfl
/-- one datum a turn -/
theorem lc_dp (wk : Walk J n G Y) {g : TG} {te : TE} {vs : List Nat} {σ : L2.St} {H1 : Hp} {D : Addr} {Qd : Hp → Prop} (hD : H1 D = none) (hG : ∀ H, Same H1 H → G H) (d : Nat → PyData) (hn : n ≤ 1000) (hl : ∀ i, i < n → noL (d i) = true)
    (hs : ∀ i x H H' (QQ : VK), i < n → Same H1 H → Y i H x H' → (∀ y H4, Same H' H4 → Dp K H4 y (d i) → QQ y H4) → g x (wipe σ vs) H' fun σ2 H2 => wipe σ2 vs = wipe σ vs ∧ te σ2 H2 QQ)
    (hy : ∀ i H x H', i < n → Same H1 H → Y i H x H' → Same H H')
    (hd : ∀ H ys, Same H1 H → H D = some (.lst ys) → DpAll K H ys ((List.range n).map d) → Qd H) :
    ∃ W : Nat → Nat → Hp → Prop, (∃ m, W 0 m (upd H1 D (.lst []))) ∧ ∀ i m H, W i m H →
      (J.stop i H ∧ Qd H) ∨ (J.go i H ∧ ∃ Nx : Hp → Prop, (∀ H', Nx H' → ∃ m', m' < m ∧ W (i + 1) m' H') ∧ ∀ x H', J.yld i H x H' → g x (wipe σ vs) H' fun σ2 H2 => wipe σ2 vs = wipe σ vs ∧ tYes σ2 H2 fun b H3 =>
        if b = true then te σ2 H3 fun y H4 => ∃ acc, H4 D = some (.lst acc) ∧ acc.length < sizeLine ∧ Nx (upd H4 D (.lst (acc ++ [y]))) else Nx H3) := by
  refine lc_it wk (fun i H => Same H1 H ∧ ∃ ys, H D = some (.lst ys) ∧ DpAll K H ys ((List.range i).map d)) ⟨Same.new hD, [], upd_same, .nil⟩ (fun i H _ h => hG H h.1) ?_ (fun H ⟨e, ys, h1, h2⟩ => hd H ys e h1 h2)
  rintro i x H H' hi ⟨e, ys, h1, h2⟩ y
  have eH := hy i H x H' hi e y
  refine hs i x H H' _ hi e y fun z H4 e4 hz => ?_
  have hD4 : H4 D = some (.lst ys) := e4 _ _ (eH _ _ h1)
  have len : ys.length = i := by
    have := dpAll_len h2
    simpa using this
  refine ⟨ys, hD4, Nat.lt_of_lt_of_le (show ys.length < 1000 by omega) (by decide), Same.mut ((e.trans eH).trans e4) hD, ys ++ [z], upd_same, ?_⟩
  have hls : noLs ((List.range i).map d) = true := noLs_map fun j hj => hl j (by have := List.mem_range.mp hj; omega)
  rw [range_snoc]
  exact dpAll_append (dpAll_but But.upd hD4 hls (dpAll_same (eH.trans e4) h2)) (.cons (dp_but But.upd hD4 (hl i hi) hz) .nil)
/-- items of a list that pass a test -/
theorem lc_filt {a : Addr} {xs : List V} {tt : TT} {te : TE} {vs : List Nat} {j : Nat} {σ : L2.St} {H1 : Hp} {D : Addr} {Qd : Hp → Prop} (hD : H1 D = none) (hx : SqL K H1 a xs) (p : V → Bool) (hz : xs.length ≤ 1000)
    (hw : ∀ x, wipe ((wipe σ vs).set j (some x)) vs = wipe σ vs)
    (ht : ∀ x H QB, x ∈ xs → Same H1 H → QB (p x) H → tt ((wipe σ vs).set j (some x)) H QB) (he : ∀ x H (Q : VK), x ∈ xs → Same H1 H → Q x H → te ((wipe σ vs).set j (some x)) H Q)
    (hd : ∀ H, Same H1 H → H D = some (.lst (xs.filter p)) → Qd H) :
    ∃ W : Nat → Nat → Hp → Prop, (∃ m, W 0 m (upd H1 D (.lst []))) ∧ ∀ i m H, W i m H →
      ((Itl K a).stop i H ∧ Qd H) ∨ ((Itl K a).go i H ∧ ∃ Nx : Hp → Prop, (∀ H', Nx H' → ∃ m', m' < m ∧ W (i + 1) m' H') ∧ ∀ x H', (Itl K a).yld i H x H' → (gName j) x (wipe σ vs) H' fun σ2 H2 => wipe σ2 vs = wipe σ vs ∧ tt σ2 H2 fun b H3 =>
        if b = true then te σ2 H3 fun y H4 => ∃ acc, H4 D = some (.lst acc) ∧ acc.length < sizeLine ∧ Nx (upd H4 D (.lst (acc ++ [y]))) else Nx H3) := by
  refine lc_it walk_list (fun i H => Same H1 H ∧ H D = some (.lst ((xs.take i).filter p))) ⟨Same.new hD, upd_same⟩ (fun i H _ h => h.1.seq hx) ?_ (fun H ⟨e, h1⟩ => hd H e (by rw [List.take_length] at h1; exact h1))
  rintro i x H H' hi ⟨e, h1⟩ ⟨rfl, hxi⟩
  have hm : x ∈ xs := List.mem_of_getElem? hxi
  have et : (xs.take (i + 1)).filter p = (xs.take i).filter p ++ (if p x = true then [x] else []) := by
    have e1 : xs.take (i + 1) = xs.take i ++ [x] := by
      rw [List.take_add_one, hxi]
      rfl
    rw [e1, List.filter_append]
    congr 1
    cases hp : p x <;> simp [hp]
  have hle : ((xs.take i).filter p).length ≤ 1000 := by
    have h2 := List.length_filter_le p (xs.take i)
    have h3 := List.length_take_le i xs
    omega
  refine ⟨hw x, ht x _ _ hm e ?_⟩
  refine ifB (fun hp => ?_) (fun hp => ?_)
  · refine he x _ _ hm e ?_
    refine ⟨_, h1, Nat.lt_of_le_of_lt hle (by decide), Same.mut e hD, ?_⟩
    rw [upd_same, et, if_pos hp]
  · refine ⟨e, ?_⟩
    rw [h1, et, hp]
    simp
end
/-! ### the shapes of the data -/
/-- how many are in the group at first -/
def kk (n b : Nat) : Nat := min n (b + 1)
def shD (n : Nat) (g : List Int) : PyData := .tuple [.int (g.length : Int), .tuple ((tops n g).map PyData.int)]
def dbD (n : Nat) (d : Nat → Int) : PyData := .tuple ((List.range n).map fun i => frD (d i))
theorem noL_sh (n : Nat) (g : List Int) : noL (shD n g) = true := by
  show (true && ((noLs ((tops n g).map PyData.int)) && true)) = true
  rw [noLs_ints]
  rfl
theorem noL_db (n : Nat) (d : Nat → Int) : noL (dbD n d) = true := noLs_map fun i _ => noL_fr _
theorem rgV_ints (k : Nat) : rgV 0 (k : Int) = (grp0 k).map V.int := by
  unfold rgV grp0
  rw [List.map_map]
  have : ((k : Int) - 0).toNat = k := by omega
  rw [this]
  refine List.map_congr_left fun i _ => ?_
  show V.int (0 + (i : Int)) = V.int (i : Int)
  rw [Int.zero_add]
section
variable {P : Program} {w : World} {K : PySem.W.Frag} {mg : Str → Option Value} {base : Heap}
theorem kk_int (n b : Nat) : (if ((b : Int) + 1) < (n : Int) then ((b : Int) + 1) else (n : Int)) = ((kk n b : Nat) : Int) := by
  unfold kk
  split <;> omega
def spGroupOf (K : PySem.W.Frag) : Sp := fun vs H Q _ => ∃ n b : Nat, vs = [.int n, .int b] ∧ n ≤ 12 ∧ ∀ p H', Same H H' → H p = none → H' p = some (.lst ((grp0 (kk n b)).map V.int)) → Q (.ref p) H'
theorem ok_group_of (T : Txt K mg) : Cal P w K mg base CX0 1 "group_of" ["n", "beats"] (spGroupOf K) := by
  refine in_group_of T (fun vs H Q E h => ?_) (fun cdv A outer s H vs Q E hr h => ?_)
  · obtain ⟨n, b, rfl, _⟩ := h
    rfl
  · obtain ⟨n, b, rfl, hn, k⟩ := h
    refine ⟨_, pss_one (ps_ret (pe_listRg rfl (by rfl) T.n_list (prg_1 (by rfl) T.n_range (pe_callB (call_min2 rfl) (by rfl) T.n_min bo_min (pa_cons (pv 0) (pa_cons (pe_op op_add (pv 1) pe_int) pa_nil)))))), ?_⟩
    walk_at "in"
    have go : ∀ z : Int, z = ((kk n b : Nat) : Int) → RgOk 0 z ∧ ∀ q, H q = none → Q (.ref q) (upd H q (.lst (rgV 0 z))) := fun z e => by
      subst e
      have : kk n b ≤ 12 := by unfold kk; omega
      refine ⟨.of_le (by omega) (by omega) (by omega) (by omega), fun q hq => ?_⟩
      rw [rgV_ints]
      exact k q _ (Same.new hq) hq upd_same
    have e := kk_int n b
    unfold tLstRg tRg1
    walk_at "hd"
    exact ⟨_, rfl, go _ e⟩
end
end Hd
end
section
set_option Elab.async false
set_option linter.all false
set_option maxRecDepth 100000
set_option maxHeartbeats 4000000
/-! HdRules: rules that the layer lacks: sum of a tuple, enumerate of a tuple, zip of a tuple and a list, tuple * 1, xs[i] += e. -/
namespace Hd
open PySem PySem.Spec PyProof.Rows L2
local macro_rules | `(tactic| walk_at "hd1") => `(tactic| (first
  | with_reducible refine c_seq ?_ | with_reducible refine c_ret ?_ | with_reducible refine c_asg ?_ | with_reducible refine c_drop ?_ | with_reducible refine c_next ?_ | with_reducible refine c_ifS ?_ | with_reducible refine c_par ?_
  | with_reducible refine c_var rfl ?_ | with_reducible refine c_c ?_ | with_reducible refine c_op ?_ | with_reducible refine c_un ?_ | with_reducible refine c_U ?_ | with_reducible refine c_I0 ?_
  | with_reducible refine c_test ?_ | with_reducible refine c_B ?_ | with_reducible refine c_bl ?_ | with_reducible refine c_eq rfl ?_ | with_reducible refine c_ne rfl ?_ | with_reducible refine c_chain ?_
  | with_reducible refine c_and ?_ | with_reducible refine c_or ?_ | with_reducible refine c_not ?_ | with_reducible refine c_andV ?_ | with_reducible refine c_orV ?_ | with_reducible refine c_notV ?_ | with_reducible refine c_ifE ?_
  | with_reducible refine c_call ?_ | with_reducible refine c_cb ?_ | with_reducible refine c_cons ?_ | with_reducible refine c_nil ?_ | with_reducible refine c_tup ?_ | with_reducible refine c_lst ?_ | with_reducible refine c_two ?_ | with_reducible refine c_e1 ?_ | with_reducible refine c_e2 ?_ | with_reducible refine c_int1 ?_ | with_reducible refine c_int1b ?_
  | with_reducible refine c_ixT (by assumption) rfl ?_ | with_reducible refine c_ixL (by assumption) rfl ?_
  | with_reducible refine c_I (by assumption) ?_))
local macro_rules | `(tactic| walk_at "hd") => `(tactic| repeat (walk_at "hd1"))
local macro_rules | `(tactic| walk_at "in") => `(tactic| ((try dsimp only [cxOf]); walk_at "hd"))
section
variable {X : Cx}
/-! ### sum(t), t a tuple of ints -/
theorem sum_tup_raw {prog : Program} {w : World} {A : Around} {E : Value → Shared → Prop} {s : Shared} {l : Addr} {its : List Value} {ns : List Int} {Q : Value → Shared → Prop} (hh : A.handled = none) (hl : s.heap.IsTuple l its.toArray) (hi : IntsAre its ns)
    (h : ∀ h' tk t', (∀ b o, s.heap.get? b = some o → h'.get? b = some o) → Q (.int ns.sum t') { s with heap := h', toks := tk }) : wpAny (model prog w) A (call (.builtin "sum") [.ref l]) Q E s := by
  obtain ⟨xs, e⟩ := hi.allInts.items
  have hn : numsOf (intItems xs).toList = ns := by rw [← e]; exact hi.numsOf
  rw [nums_intItems] at hn
  rw [e] at hl
  have hne : l ≠ s.heap.objs.size := by
    obtain ⟨o, ho, _⟩ := hl
    exact Nat.ne_of_lt (Heap.lt_size ho)
  refine call_sum_walkG (wpAny_pyIter_tuple hl ?_)
  have hl2 : (s.heap.push { cls := .type "tuple_iterator", data := .fields #[.ref l, .int 0 0] }).IsTuple l (intItems xs) := hl.at fun o q => Heap.get?_push_of_some _ q
  refine ⟨s.heap.objs.size, [s.heap.objs.size, l], [s.heap.objs.size], (intItems xs).size, _, _, numAt xs, rfl, Walks.tuple (A := A.in1) hh _ l hne (intItems xs), ⟨⟨_, Heap.get?_push_size _ rfl, rfl, rfl⟩, hl2⟩, fun b hb => ?_, fun _ _ => intItems_at, fun h' tk t' hk => ?_⟩
  · show b < (s.heap.push _).objs.size
    rw [Heap.size_push]
    have e' : b = s.heap.objs.size ∨ b = l := by simpa using hb
    rcases e' with z | z
    · rw [z]; exact Nat.lt_succ_self _
    · rw [z]
      obtain ⟨o, ho, _⟩ := hl
      exact Nat.lt_succ_of_lt (Heap.lt_size ho)
  · have q := h h' tk t' fun b o z => hk b o (by
      intro m
      have : b = s.heap.objs.size := by simpa using m
      rw [this] at z
      exact absurd (Heap.lt_size z) (Nat.lt_irrefl _)) (Heap.get?_push_of_some _ z)
    rw [preSum_eq, List.take_of_length_le (by simp [intItems]), hn]
    exact q
def rSumT (K : PySem.W.Frag) : List V → Hp → VK → Prop := fun vs H Q => ∃ (a : Addr) (ns : List Int), vs = [V.ref a] ∧ SqT K H a (ns.map V.int) ∧ Q (.int ns.sum) H
theorem cr_sumT (hc : X.calm = true) : CallR X (.builtin "sum") (rSumT X.K) := by
  intro pins s σ H vs us Q I r h
  obtain ⟨a, ns, rfl, hs, q⟩ := h
  obtain ⟨its, rv, hl, _⟩ := I.tuple hs
  rw [Vals.ref1 r]
  exact sum_tup_raw (I.ok.hd hc) (show s.heap.IsTuple a its.toArray from hl) rv.ints fun h' tk t' hk => ⟨.int _, H, I.kept hk, ⟨_, rfl⟩, q⟩
/-! ### pairs from an iterator that the library knows -/
/-- n turns; a new pair of fx i and fy i each; G: what stands meanwhile -/
def ItN (n : Nat) (G : Hp → Prop) (fx fy : Nat → Option V) : It :=
  ⟨fun i H => i < n ∧ G H, fun i H v H' => ∃ T x y, v = .ref T ∧ H T = none ∧ H' = upd H T (.tup [x, y]) ∧ fx i = some x ∧ fy i = some y, fun i H => n ≤ i ∧ G H⟩
theorem walk_N {n : Nat} {G : Hp → Prop} {fx fy : Nat → Option V} : Walk (ItN n G fx fy) n G (YPair fx fy) :=
  ⟨fun _ _ hi q => ⟨hi, q⟩, fun _ q => ⟨Nat.le_refl _, q⟩, fun _ _ _ _ _ _ y => y⟩
theorem turn_N {P : Program} {w : World} {K : PySem.W.Frag} {tg : Expr} {n : Nat} {G : Hp → Prop} {fx fy : Nat → Option V} {it : Addr} {fp : List Addr} {tn : Nat → Heap → Prop} (mem : it ∈ fp) (obj : ∀ i h, tn i h → ∀ b ∈ fp, ∃ o, h.get? b = some o ∧ ∀ v, o.data ≠ .cell v)
    (keep : ∀ i h h', tn i h → (∀ b ∈ fp, ∀ o, h.get? b = some o → h'.get? b = some o) → tn i h') (le : ∀ i h, tn i h → i ≤ n)
    (gn : ∀ (A : Around) (s : Shared) (H : Hp), A.handled = none → HOk P w H s.heap → K.In s.heap → G H → (∀ b ∈ fp, H b = none) → (∃ i, tn i s.heap) → ∃ (fp' wr : List Addr) (Y : Nat → Heap → Value → Heap → Prop) (St : Nat → Heap → Prop), GoesN P w A tg it fp' wr n Y St ∧ (∀ i, tn i s.heap → St i s.heap) ∧ (∀ b ∈ wr, b ∈ fp) ∧
      (∀ i h', i < n → tn i s.heap → St (i + 1) h' → tn (i + 1) h') ∧ ∀ i v h, i < n → Y i s.heap v h → ∃ T x y u1 u2, v = .ref T ∧ s.heap.objs.size ≤ T ∧ h.IsTuple T #[u1, u2] ∧ fx i = some x ∧ fy i = some y ∧ RelV x u1 ∧ RelV y u2)
    (slf : ∀ (A : Around) (i : Nat) (s : Shared) (Q : Value → Shared → Prop) (E : Value → Shared → Prop), tn i s.heap → Q (.ref it) s → wpAny (model P w) A (pyIter (.ref it)) Q E s) :
    Turn P w K tg (ItN n G fx fy) fp it tn where
  mem := mem
  obj := obj
  keep := keep
  item := by
    intro X hP hw hK hc i pins s σ H E I hf st hg
    subst hP hw hK
    obtain ⟨hi, hG⟩ := hg
    obtain ⟨fp', wr, Y, St, W, h1, h2, h3, h4⟩ := gn X.A s H (I.ok.hd hc) I.hok I.kIn hG (fun b hb => (hf b hb).1) ⟨i, st⟩
    refine W.goes i s _ _ hi (h1 i st) fun v h' tk hY st' hk htk => ?_
    obtain ⟨T, x, y, u1, u2, rfl, hT, hTt, ex, ey, r1, r2⟩ := h4 i v h' hi hY
    have new : ObjOk X.prog X.w (upd H T (.tup [x, y])) h' T (.tup [x, y]) := ⟨by show 2 ≤ sizeLine; decide, [u1, u2], .cons r1 (.cons r2 .nil), hTt⟩
    refine ⟨.ref T, _, I.turnedNew (t' := tk) (ch := fp) (fun b o hb q => hk b o (fun z => hb (h2 b z)) q) hf hT new, rfl, ⟨T, x, y, rfl, I.hok.fresh hT, rfl, ex, ey⟩, h3 i h' hi st st', fun b hb => ?_⟩
    have hb' : b < s.heap.objs.size := by
      obtain ⟨o, ho, _⟩ := obj i _ st b hb
      exact Heap.lt_size ho
    rw [upd_ne (Nat.ne_of_lt (Nat.lt_of_lt_of_le hb' hT))]
    exact (hf b hb).1
  done := by
    intro X hP hw hK hc i pins s σ H E I hf st hg
    subst hP hw hK
    obtain ⟨hi, hG⟩ := hg
    obtain ⟨fp', wr, Y, St, W, h1, h2, h3, h4⟩ := gn X.A s H (I.ok.hd hc) I.hok I.kIn hG (fun b hb => (hf b hb).1) ⟨i, st⟩
    have e : i = n := Nat.le_antisymm (le i _ st) hi
    subst e
    exact W.stops s _ _ (h1 i st) fun h' tk hk htk => I.turnedL (t' := tk) (ch := fp) (fun b o hb q => hk b o (fun z => hb (h2 b z)) q) hf
  self := slf
/-! ### enumerate(t), t a tuple -/
theorem call_enum_tup {prog : Program} {w : World} {A : Around} {E : Value → Shared → Prop} {s : Shared} {l : Addr} {items : Array Value} {Q : Value → Shared → Prop} (hL : s.heap.IsTuple l items)
    (h : ∀ h', IsEnum h' (s.heap.objs.size + 1) s.heap.objs.size 0 .none → h'.IsTupleIter s.heap.objs.size l 0 →
      (∀ b o, s.heap.get? b = some o → h'.get? b = some o) → Q (.ref (s.heap.objs.size + 1)) { s with heap := h' }) :
    wpAny (model prog w) A (call (.type "enumerate") [.ref l]) Q E s := by
  have meets : Meets (Builtin.«enumerate.__new__» ⟨[.type "enumerate", .ref l], []⟩) (fun _ R s => s.heap.IsTuple l items ∧
      R (.ok (.ret (.ref (s.heap.push { cls := .type "tuple_iterator", data := .fields #[.ref l, .int 0 0] }).objs.size)))
        { s with heap := (s.heap.push { cls := .type "tuple_iterator", data := .fields #[.ref l, .int 0 0] }).push { cls := .type "enumerate", data := .fields #[.none, .bool false, .ref s.heap.objs.size, rawInt 0, .none, .none] } }) :=
    .of_wp fun prog w A R s h => by
      obtain ⟨hp, g, d, tk, os⟩ := s
      obtain ⟨hl, h⟩ := h
      have hsub := sub_enumerate
      obtain ⟨o, ho, _⟩ := id hl
      have q1 : ∀ {A' : Around} {E : Value → Shared → Prop} {Q : Value → Shared → Prop}, Q (.ref hp.objs.size) ⟨hp.push { cls := .type "tuple_iterator", data := .fields #[.ref l, .int 0 0] }, g, d, tk, os⟩ → wpAny (model prog w) A' (pyIter (.ref l)) Q E ⟨hp, g, d, tk, os⟩ :=
        fun q => wpAny_pyIter_tuple (s := ⟨hp, g, d, tk, os⟩) hl q
      wp_walk using AutoSeq1.wpAny_loadPart' ho, q1
      refine wpAny_stack_any fun st => wpAny_pure ?_
      split
      · rename_i c _ _ _ _ _
        cases (c == Value.type "enumerate")
        · wp_walk using AutoSeq1.wpAny_loadPart' ho, q1
          exact ⟨_, rfl, h⟩
        · wp_walk using AutoSeq1.wpAny_loadPart' ho, q1
          exact ⟨_, rfl, h⟩
      · wp_walk using AutoSeq1.wpAny_loadPart' ho, q1
        exact ⟨_, rfl, h⟩
  refine callType_new F.called_enumerate (by decide) (F.typeCall_enumerate_1 _) (F.newCall_enumerate_1 _) (fun obj => F.args_object_init_2 obj _) F.entry_enumerate_new meets ⟨hL, ?_⟩
  have hz : (s.heap.push { cls := .type "tuple_iterator", data := .fields #[.ref l, .int 0 0] }).objs.size = s.heap.objs.size + 1 := Heap.size_push ..
  show _ ∧ _
  rw [hz]
  have he : IsEnum ((s.heap.push { cls := .type "tuple_iterator", data := .fields #[.ref l, .int 0 0] }).push
      { cls := .type "enumerate", data := .fields #[.none, .bool false, .ref s.heap.objs.size, rawInt 0, .none, .none] }) (s.heap.objs.size + 1) s.heap.objs.size 0 .none := by
    have := Heap.get?_push_size (s.heap.push { cls := .type "tuple_iterator", data := .fields #[.ref l, .int 0 0] })
      (o := { cls := .type "enumerate", data := .fields #[.none, .bool false, .ref s.heap.objs.size, rawInt 0, .none, .none] }) rfl
    rw [hz] at this
    exact this
  exact ⟨⟨_, he, rfl⟩, h _ he ⟨_, Heap.get?_push_of_some _ (Heap.get?_push_size _ rfl), rfl, rfl⟩ fun b o x => Heap.get?_push_of_some _ (Heap.get?_push_of_some _ x)⟩
theorem hok_tup {P : Program} {w : World} {K : PySem.W.Frag} {H : Hp} {h : Heap} {a : Addr} {xs : List V} (ok : HOk P w H h) (KI : K.In h) (q : SqT K H a xs) : ∃ its : List Value, Vals xs its ∧ h.IsTuple a its.toArray := by
  rcases q with q | ⟨o, its, n, hk, hc, hs, hz, r⟩
  · obtain ⟨z, its, r, p⟩ := q.ok ok
    exact ⟨its, r, p⟩
  · exact ⟨its.toList, r, o, KI a o hk, hc, n, by simpa using hs⟩
theorem hok_lst {P : Program} {w : World} {K : PySem.W.Frag} {H : Hp} {h : Heap} {a : Addr} {xs : List V} (ok : HOk P w H h) (KI : K.In h) (q : SqL K H a xs) : ∃ its : List Value, Vals xs its ∧ h.IsList a its.toArray := by
  rcases q with q | ⟨o, its, n, hk, hc, hd, hs, hz, r⟩
  · obtain ⟨z, its, n, r, e⟩ := q.ok ok
    exact ⟨its, r, _, e, rfl, n, rfl⟩
  · exact ⟨its.toList, r, o, KI a o hk, hc, n, by simpa using hs⟩
/-- a record is no tuple, no list -/
theorem rec_ne {h : Heap} {a b : Addr} {o : Obj} {fs : Array Value} {items : Array Value} (h1 : h.get? a = some o) (d1 : o.data = .fields fs) (h2 : ∃ u n, h.get? b = some u ∧ u.data = .seq items n) : b ≠ a := by
  obtain ⟨u, n, e, d⟩ := h2
  intro z
  rw [z, h1] at e
  cases e
  rw [d1] at d
  cases d
theorem tup_seq {h : Heap} {a : Addr} {items : Array Value} (p : h.IsTuple a items) : ∃ u n, h.get? a = some u ∧ u.data = .seq items n := let ⟨o, e, _, n, d⟩ := p; ⟨o, n, e, d⟩
theorem lst_seq {h : Heap} {a : Addr} {items : Array Value} (p : h.IsList a items) : ∃ u n, h.get? a = some u ∧ u.data = .seq items n := let ⟨o, e, _, n, d⟩ := p; ⟨o, n, e, d⟩
theorem turn_enumT {P : Program} {w : World} {K : PySem.W.Frag} {elts : List Expr} {kq : Nat} {tpos : Pos} {xs : List V} (a e it : Addr) :
    Turn P w K (.Tuple elts kq tpos) (ItN xs.length (fun H => SqT K H a xs) (fun i => some (.int (i : Nat))) (fun i => xs[i]?)) [e, it] e
      (fun i h => (∃ old, IsEnum h e it ((i : Nat) : Int) old) ∧ h.IsTupleIter it a i ∧ e ≠ it ∧ i ≤ xs.length) := by
  refine turn_N (by simp) (fun i h st b hb => ?_) (fun i h h' st k => ?_) (fun i h st => st.2.2.2) (fun A s H hh ok KI hG hn ht => ?_) (fun A i s Q E st h => ?_)
  · obtain ⟨⟨old, he⟩, ⟨o, ho, hc, hd⟩, _⟩ := st
    have e' : b = e ∨ b = it := by simpa using hb
    rcases e' with z | z
    · rw [z]; exact ⟨_, he, fun v q => nomatch q⟩
    · rw [z]; exact ⟨o, ho, fun v q => by rw [hd] at q; cases q⟩
  · obtain ⟨⟨old, he⟩, hi, hne, hle⟩ := st
    exact ⟨⟨old, k e (by simp) _ he⟩, hi.at fun o q => k it (by simp) o q, hne, hle⟩
  · obtain ⟨i0, ⟨old, he⟩, ⟨o, ho, hc, hd⟩, hne, _⟩ := ht
    obtain ⟨its, rv, p⟩ := hok_tup ok KI hG
    have hl := rv.length
    have n1 : a ≠ it := rec_ne ho hd (tup_seq p)
    have n2 : a ≠ e := rec_ne he rfl (tup_seq p)
    have D := Draws.tuple (prog := P) (w := w) (A := A.in1) hh it a n1 its.toArray
    have W := GoesN.enumFrom (elts := elts) (x1 := kq) (pos := tpos) 0 D e hne (by intro m; rcases List.mem_cons.mp m with z | z; exact hne z; exact n2 (List.mem_singleton.mp z).symm) (by simp)
    have hsz : its.toArray.size = xs.length := by simp [hl]
    rw [hsz] at W
    refine ⟨_, _, _, _, W, fun i st => ?_, fun b hb => hb, fun i h' hi st st' => ?_, fun i v h hi hY => ?_⟩
    · obtain ⟨⟨old, he⟩, hit, _, _⟩ := st
      exact ⟨⟨old, by rw [Int.zero_add]; exact he⟩, hit, p⟩
    · obtain ⟨⟨old, he⟩, hit, _⟩ := st'
      rw [Int.zero_add] at he
      exact ⟨⟨old, he⟩, hit, hne, hi⟩
    · obtain ⟨T, t, x, ev, hT, hx, hTt⟩ := hY
      have hx' : its[i]? = some x := by simpa using hx
      obtain ⟨hi2, ex⟩ := List.getElem?_eq_some_iff.mp hx'
      cases hv : xs[i]? with
      | none =>
        have := rv.none_of hv
        rw [hx'] at this
        cases this
      | some y =>
        obtain ⟨u, hu, ru⟩ := rv.get hv
        rw [hx'] at hu
        cases hu
        exact ⟨T, .int (i : Nat), y, _, _, ev, hT, hTt, rfl, rfl, ⟨t, by rw [Int.zero_add]⟩, ru⟩
  · obtain ⟨⟨_, he⟩, _⟩ := st
    exact wpAny_pyIter_enum he h
def iEnumT (K : PySem.W.Frag) (ta : TA) : TI := fun σ H R => ta σ H fun vs H1 => ∃ a xs, vs = [.ref a] ∧ SqT K H1 a xs ∧ R (ItN xs.length (fun H => SqT K H a xs) (fun i => some (.int (i : Nat))) (fun i => xs[i]?)) H1
theorem pi_enumT {e : Expr} {ta : TA} {p pos tpos : Pos} {elts : List Expr} {kq : Nat} (hg : Gl X "enumerate") (hm : X.mg "enumerate" = none) (ha : PA X [e] ta) (hs : starEach [e] X.env = [(false, eval e X.env)] := by rfl) :
    PI X (.Tuple elts kq tpos) (.Call (.Name "enumerate" p) [e] [] pos) (iEnumT X.K ta) := by
  refine ⟨fun pins s σ H R I h => ?_⟩
  refine Call_ (ld_blt I hg hm boot_enumerate (PyProof.Rows.callWith_type1 (thn (ha.run pos pins s σ H _ I h) fun us s1 ⟨vs, H1, I1, r1, q1⟩ => ?_) hs rfl))
  obtain ⟨a, xs, ex, hq, q⟩ := q1
  subst ex
  cases r1 with
  | cons r rr =>
    cases rr
    cases r
    obtain ⟨its, rv, p', hz⟩ := I1.tuple hq
    refine call_enum_tup (show s1.heap.IsTuple a its.toArray from p') fun h' he hit hk => wpAny_pyIter_enum he ?_
    have I2 : Inv X pins σ H1 { s1 with heap := h' } := I1.kept (t' := s1.toks) hk
    refine ⟨s1.heap.objs.size + 1, [s1.heap.objs.size + 1, s1.heap.objs.size], _, _, H1, rfl, I2, turn_enumT a (s1.heap.objs.size + 1) s1.heap.objs.size, ⟨⟨.none, he⟩, hit, Nat.succ_ne_self _, Nat.zero_le _⟩, fun b hb => ?_, q⟩
    have e' : b = s1.heap.objs.size + 1 ∨ b = s1.heap.objs.size := by simpa using hb
    have hle : s1.heap.objs.size ≤ b := by
      rcases e' with z | z
      · rw [z]; exact Nat.le_add_right _ _
      · rw [z]; exact Nat.le_refl _
    exact I1.fpOk hle (I1.hok.fresh hle)
/-! ### zip(t, l), t a tuple, l a list -/
structure ZAp (z TI TO i1 i2 : Addr) : Prop where
  a1 : TI ≠ z
  a2 : TO ≠ z
  a3 : TI ≠ TO
  a4 : TI ≠ i1
  a5 : TI ≠ i2
  a6 : z ≠ i1
  a7 : z ≠ i2
  a8 : TO ≠ i1
  a9 : TO ≠ i2
  b1 : i1 ≠ i2
theorem turn_zipTL {P : Program} {w : World} {K : PySem.W.Frag} {elts : List Expr} {kq : Nat} {tpos : Pos} {xs ys : List V} {a b z TI TO i1 i2 : Addr} (D : ZAp z TI TO i1 i2) :
    Turn P w K (.Tuple elts kq tpos) (ItN (min xs.length ys.length) (fun H => SqT K H a xs ∧ SqL K H b ys) (fun i => xs[i]?) (fun i => ys[i]?)) [z, TI, TO, i1, i2] z
      (fun i h => IsZip h z TI TO .none ∧ IsTupOf2 h TI (.ref i1) (.ref i2) ∧ (∃ x y, IsTupOf2 h TO x y) ∧ h.IsTupleIter i1 a i ∧ h.IsListIter i2 b i ∧ TO ≠ a ∧ i ≤ min xs.length ys.length) := by
  refine turn_N (by simp) (fun i h st c hc => ?_) (fun i h h' st k => ?_) (fun i h st => st.2.2.2.2.2.2) (fun A s H hh ok KI hG hn ht => ?_) (fun A i s Q E st h => ?_)
  · obtain ⟨hz, hTI, ⟨x, y, hTO⟩, ⟨o1, e1, _, d1⟩, ⟨o2, e2, _, d2⟩, _⟩ := st
    have e' : c = z ∨ c = TI ∨ c = TO ∨ c = i1 ∨ c = i2 := by simpa using hc
    rcases e' with q | q | q | q | q
    · rw [q]; exact ⟨_, hz, fun v q => nomatch q⟩
    · rw [q]; exact ⟨_, hTI, fun v q => nomatch q⟩
    · rw [q]; exact ⟨_, hTO, fun v q => nomatch q⟩
    · rw [q]; exact ⟨o1, e1, fun v q => by rw [d1] at q; cases q⟩
    · rw [q]; exact ⟨o2, e2, fun v q => by rw [d2] at q; cases q⟩
  · obtain ⟨hz, hTI, ⟨x, y, hTO⟩, h1, h2, h3, h4⟩ := st
    exact ⟨k z (by simp) _ hz, k TI (by simp) _ hTI, ⟨x, y, k TO (by simp) _ hTO⟩, h1.at fun o q => k i1 (by simp) o q, h2.at fun o q => k i2 (by simp) o q, h3, h4⟩
  · obtain ⟨i0, hz, hTI, ⟨x, y, hTO⟩, ⟨o1, e1, _, d1⟩, ⟨o2, e2, _, d2⟩, hTOa, _⟩ := ht
    obtain ⟨its, rv, p⟩ := hok_tup ok KI hG.1
    obtain ⟨its2, rv2, p2⟩ := hok_lst ok KI hG.2
    have hl := rv.length
    have hl2 := rv2.length
    have n1 : a ≠ i1 := rec_ne e1 d1 (tup_seq p)
    have n2 : a ≠ i2 := rec_ne e2 d2 (tup_seq p)
    have n3 : b ≠ i1 := rec_ne e1 d1 (lst_seq p2)
    have n4 : b ≠ i2 := rec_ne e2 d2 (lst_seq p2)
    have n5 : a ≠ z := rec_ne hz rfl (tup_seq p)
    have n6 : b ≠ z := rec_ne hz rfl (lst_seq p2)
    have n7 : TO ≠ b := by
      intro q
      obtain ⟨o, e, c, _⟩ := p2
      have e2 : s.heap.get? TO = some _ := hTO
      rw [q, e] at e2
      cases e2
      exact absurd (show Value.type "tuple" = Value.type "list" from c) (by decide +kernel)
    have S : ZipSep2 z TI TO i1 i2 [i1, a] [i2, b] :=
      { TIz := D.a1, TOz := D.a2, TITO := D.a3, TIi1 := D.a4, mem1 := by simp, zf1 := by simp [D.a6, n5.symm], Tf1 := by simp [D.a8, hTOa], TIi2 := D.a5, mem2 := by simp, zf2 := by simp [D.a7, n6.symm], Tf2 := by simp [D.a9, n7],
        sep1_2 := by simp [D.b1, n3.symm], sep2_1 := by simp [D.b1.symm, n2.symm] }
    have W := GoesN.zip2 (elts := elts) (x1 := kq) (pos := tpos) S (Draws.tuple (prog := P) (w := w) (A := A.in1) hh i1 a n1 its.toArray) (Draws.list (prog := P) (w := w) (A := A.in1) hh i2 b n4 its2.toArray)
    have hsz : its.toArray.size = xs.length := by simp [hl]
    have hsz2 : its2.toArray.size = ys.length := by simp [hl2]
    rw [hsz, hsz2] at W
    refine ⟨_, _, _, _, W, fun i st => ?_, fun c hc => ?_, fun i h' hi st st' => ?_, fun i v h hi hY => ?_⟩
    · obtain ⟨hz, hTI, hTO, h1, h2, _⟩ := st
      exact ⟨hz, hTI, hTO, ⟨h1, p⟩, ⟨h2, p2⟩⟩
    · have e' : c = z ∨ c = TO ∨ c = i1 ∨ c = i2 := by simpa using hc
      rcases e' with q | q | q | q <;> subst q <;> simp
    · obtain ⟨hz, hTI, hTO, ⟨h1, _⟩, ⟨h2, _⟩⟩ := st'
      exact ⟨hz, hTI, hTO, h1, h2, hTOa, hi⟩
    · obtain ⟨T, x, y, ev, hT, hx, hy, hTt⟩ := hY
      have hx' : its[i]? = some x := by simpa using hx
      have hy' : its2[i]? = some y := by simpa using hy
      cases hv : xs[i]? with
      | none =>
        have := rv.none_of hv
        rw [hx'] at this
        cases this
      | some x0 =>
        obtain ⟨u, hu, ru⟩ := rv.get hv
        rw [hx'] at hu
        cases hu
        cases hv2 : ys[i]? with
        | none =>
          have := rv2.none_of hv2
          rw [hy'] at this
          cases this
        | some y0 =>
          obtain ⟨u2, hu2, ru2⟩ := rv2.get hv2
          rw [hy'] at hu2
          cases hu2
          exact ⟨T, x0, y0, _, _, ev, hT, hTt, rfl, rfl, ru, ru2⟩
  · exact wpAny_pyIter_zip st.1 h
def iZipTL (K : PySem.W.Frag) (ta : TA) : TI := fun σ H R => ta σ H fun vs H1 => ∃ a b xs ys, vs = [.ref a, .ref b] ∧ SqT K H1 a xs ∧ SqL K H1 b ys ∧
  R (ItN (min xs.length ys.length) (fun H => SqT K H a xs ∧ SqL K H b ys) (fun i => xs[i]?) (fun i => ys[i]?)) H1
theorem pi_zipTL {e e2 : Expr} {ta : TA} {p pos tpos : Pos} {elts : List Expr} {kq : Nat} (hg : Gl X "zip") (hm : X.mg "zip" = none) (ha : PA X [e, e2] ta)
    (hs : starEach [e, e2] X.env = (false, eval e X.env) :: starEach [e2] X.env := by rfl) (hpl : (backTo pos (starEach [e2] X.env)).any (·.1) = false := by rfl) :
    PI X (.Tuple elts kq tpos) (.Call (.Name "zip" p) [e, e2] [] pos) (iZipTL X.K ta) := by
  refine ⟨fun pins s σ H R I h => ?_⟩
  refine Call_ (ld_blt I hg hm PyProof.Rows.boot_zip (PyProof.Rows.callWith_type1 (thn (ha.run pos pins s σ H _ I h) fun us s1 ⟨vs, H1, I1, r1, q1⟩ => ?_) hs hpl))
  obtain ⟨a, b, xs, ys, ex, hx, hy, q⟩ := q1
  subst ex
  cases r1 with
  | cons r rr =>
    cases rr with
    | cons r' rr =>
      cases rr
      cases r
      cases r'
      obtain ⟨its, rv, p1, _⟩ := I1.tuple hx
      obtain ⟨its2, rv2, p2, _⟩ := I1.list hy
      have pt : s1.heap.IsTuple a its.toArray := p1
      have hal : a < s1.heap.objs.size := by obtain ⟨o, e, _⟩ := pt; exact Heap.lt_size e
      refine zip_begins2 (begins_tuple a its.toArray) (begins_list b its2.toArray) pt p2.isList fun h' hz hTI hTO h1 h2 hsz hk => wpAny_pyIter_zip hz ?_
      have I2 : Inv X pins σ H1 { s1 with heap := h' } := I1.kept (t' := s1.toks) hk
      generalize hN : s1.heap.objs.size = N at *
      have ap : ZAp (N + 4) (N + 2) (N + 3) N (N + 1) := ⟨show (N + 2 : Nat) ≠ N + 4 by omega, show (N + 3 : Nat) ≠ N + 4 by omega, show (N + 2 : Nat) ≠ N + 3 by omega, show (N + 2 : Nat) ≠ N by omega, show (N + 2 : Nat) ≠ N + 1 by omega,
        show (N + 4 : Nat) ≠ N by omega, show (N + 4 : Nat) ≠ N + 1 by omega, show (N + 3 : Nat) ≠ N by omega, show (N + 3 : Nat) ≠ N + 1 by omega, show (N : Nat) ≠ N + 1 by omega⟩
      refine ⟨N + 4, [N + 4, N + 2, N + 3, N, N + 1], _, _, H1, rfl, I2, turn_zipTL ap, ⟨hz, hTI, ⟨_, _, hTO⟩, ⟨_, h1, rfl, rfl⟩, ⟨_, h2, rfl, rfl⟩, Nat.ne_of_gt (Nat.lt_of_lt_of_le hal (Nat.le_add_right _ _)), Nat.zero_le _⟩, fun c hc => ?_, q⟩
      have e' : c = N + 4 ∨ c = N + 2 ∨ c = N + 3 ∨ c = N ∨ c = N + 1 := by simpa using hc
      have hle : s1.heap.objs.size ≤ c := by
        rw [hN]
        rcases e' with z | z | z | z | z <;> rw [z] <;> first | exact Nat.le_add_right _ _ | exact Nat.le_refl _
      exact I1.fpOk hle (I1.hok.fresh hle)
end
end Hd
end
section
set_option Elab.async false
set_option linter.all false
set_option maxRecDepth 100000
set_option maxHeartbeats 4000000
/-! HdRules2: tuple * int of any number from 1 on, a list's item by values, the written part by its own name, more steps. -/
namespace Hd
open PySem PySem.Spec PyProof.Rows L2
local macro_rules | `(tactic| walk_at "hd1") => `(tactic| (first
  | with_reducible refine c_seq ?_ | with_reducible refine c_ret ?_ | with_reducible refine c_asg ?_ | with_reducible refine c_drop ?_ | with_reducible refine c_next ?_ | with_reducible refine c_ifS ?_ | with_reducible refine c_par ?_
  | with_reducible refine c_var rfl ?_ | with_reducible refine c_c ?_ | with_reducible refine c_op ?_ | with_reducible refine c_un ?_ | with_reducible refine c_U ?_ | with_reducible refine c_I0 ?_
  | with_reducible refine c_test ?_ | with_reducible refine c_B ?_ | with_reducible refine c_bl ?_ | with_reducible refine c_eq rfl ?_ | with_reducible refine c_ne rfl ?_ | with_reducible refine c_chain ?_
  | with_reducible refine c_and ?_ | with_reducible refine c_or ?_ | with_reducible refine c_not ?_ | with_reducible refine c_andV ?_ | with_reducible refine c_orV ?_ | with_reducible refine c_notV ?_ | with_reducible refine c_ifE ?_
  | with_reducible refine c_call ?_ | with_reducible refine c_cb ?_ | with_reducible refine c_cons ?_ | with_reducible refine c_nil ?_ | with_reducible refine c_tup ?_ | with_reducible refine c_lst ?_ | with_reducible refine c_two ?_ | with_reducible refine c_e1 ?_ | with_reducible refine c_e2 ?_ | with_reducible refine c_int1 ?_ | with_reducible refine c_int1b ?_
  | with_reducible refine c_ixT (by assumption) rfl ?_ | with_reducible refine c_ixL (by assumption) rfl ?_
  | with_reducible refine c_I (by assumption) ?_))
local macro_rules | `(tactic| walk_at "hd") => `(tactic| repeat (walk_at "hd1"))
local macro_rules | `(tactic| walk_at "in") => `(tactic| ((try dsimp only [cxOf]); walk_at "hd"))
section
variable {X : Cx}
theorem tuple_mul1 (l : Addr) (items : Array Value) (n : Nat) (dd : Option Addr) (sl : Array (Option Value)) (u : Tok) :
    Meets (Builtin.«tuple.__mul__» ⟨[.ref l, .int 1 u], []⟩) (fun _ R s => s.heap.get? l = some { cls := .type "tuple", dict := dd, data := .seq items n, slots := sl } ∧ R (.ok (.ret (Value.ref l))) s) :=
  .of_wp fun prog w A R s h => by
    obtain ⟨hp, g, d, tk, os⟩ := s
    obtain ⟨hl, h⟩ := h
    have f1 := AutoSeq1.idx_int
    have c1 : (items.isEmpty || (1 : Int) == 1) = true := by simp
    wp_walk using AutoSeq1.wpAny_loadPart' hl
    repeat (first
      | (refine wpAny_ite_true (decide_eq_true (by rw [c1])) ?_; wp_walk using AutoSeq1.wpAny_loadPart' hl))
    exact ⟨_, rfl, h⟩
/-- a tuple of one item, times 1 or more -/
def rRep1 (K : PySem.W.Frag) : R2 := fun x y H Q => ∃ l k z, x = .ref l ∧ y = .int k ∧ SqT K H l [z] ∧ 1 ≤ k ∧ k ≤ 1000 ∧ ∀ p H', Same H H' → SqT K H' p (List.replicate k.toNat z) → Q (.ref p) H'
theorem op_rep1 : OpR X (binaryOp .Mult) (rRep1 X.K) := by
  intro pins s σ H x y v u Q I rx ry h
  obtain ⟨l, k, z, rfl, rfl, hT, h1, h2, q⟩ := h
  by_cases hk : k = 1
  · subst hk
    cases rx
    obtain ⟨t, rfl⟩ := ry
    obtain ⟨its, r, ⟨⟨cls, dd, data, sl⟩, ho, hc, n, hd⟩, hs⟩ := I.tuple hT
    simp only at hc hd
    subst hc hd
    refine wpAny_binaryOp_repeat_ref (T := "tuple") (U := "int") (by decide) ⟨_, ho, rfl⟩ (fun s' => typeIs_int s' 1 t) noFill_tuple_mul F.fills_int_mul F.slot_int_rmul repeat_tuple F.slot_int_index.lookup
      (call_meets F.slot_int_rmul (typeIs_int s 1 t) F.entry_int_rmul (F.args_int_rmul_2 _ _) (int_rmul_tuple 1 t l its.toArray n dd sl)
        ⟨ho, rfl, ⟨_, ho, rfl⟩, call_meets F.slot_tuple_mul ⟨_, ho, rfl⟩ F.entry_tuple_mul (F.args_tuple_mul_2 _ _) (tuple_mul1 l its.toArray n dd sl t) ⟨ho, ?_⟩⟩)
    exact ⟨.ref l, H, I, rfl, q l H (Same.refl H) hT⟩
  · refine op_repT pins s σ H _ _ v u Q I rx ry ⟨l, k, [z], rfl, rfl, hT, by simp, by omega, h2, by simp, fun p hp => q p _ (Same.new hp) (SqT.of ?_)⟩
    rw [upd_same]
    have e : ∀ m : Nat, (List.replicate m [z]).flatten = List.replicate m z := fun m => by
      induction m with
      | zero => rfl
      | succ m ih => rw [List.replicate_succ, List.flatten_cons, ih, List.replicate_succ]; rfl
    rw [e]
/-! ### xs[i] += e: the read -/
def rGetL (K : PySem.W.Frag) : V → V → Hp → VK → Prop := fun x y H Q => ∃ p xs i v, x = .ref p ∧ y = .int i ∧ SqL K H p xs ∧ 0 ≤ i ∧ xs[i.toNat]? = some v ∧ Q v H
theorem get_list : PGet X (rGetL X.K) := by
  intro pins s σ H x y v u Q I rx ry h
  obtain ⟨p, xs, i, z, rfl, rfl, hq, h0, he, q⟩ := h
  cases rx
  obtain ⟨t, rfl⟩ := ry
  obtain ⟨its, r, pl, hz⟩ := I.list hq
  obtain ⟨w, ew, rw'⟩ := r.get he
  have hi := (List.getElem?_eq_some_iff.mp he).1
  have hn := line63
  exact wpAny_getItem_list pl.isList h0 (by omega) (by simpa using ew) ⟨z, H, I, rw', q⟩
/-! ### a new tuple, a new list, told by growth -/
def tTupS (t : TA) : TE := fun σ H Q => t σ H fun xs H1 => Nat.ble xs.length 1000 = true ∧ ∀ p H', Same H1 H' → H1 p = none → H' p = some (.tup xs) → Q (.ref p) H'
def tLstS (t : TA) : TE := fun σ H Q => t σ H fun xs H1 => Nat.ble xs.length 1000 = true ∧ ∀ p H', Same H1 H' → H1 p = none → H' p = some (.lst xs) → Q (.ref p) H'
theorem pe_tupS {es : List Expr} {t : TA} {pos : Pos} {x1} (h : PA X es t) : PE X (.Tuple es x1 pos) (tTupS t) := by
  constructor
  intro pins s σ H Q I hq
  refine wpAny_Tuple_spliced (thn (h.run pos pins s σ H _ I hq) fun us s1 ha => ?_)
  obtain ⟨xs, H1, I1, r, z, q⟩ := ha
  have z2 : xs.length ≤ sizeLine := Nat.le_trans (Nat.le_of_ble_eq_true z) (by decide)
  have fr : H1 s1.heap.objs.size = none := I1.hok.fresh (Nat.le_refl _)
  refine ⟨by rw [← r.length]; exact z2, .ref s1.heap.objs.size, upd H1 s1.heap.objs.size (.tup xs), ?_, rfl, q _ _ (Same.new fr) fr upd_same⟩
  exact I1.laid (t' := s1.toks) (fun b u e => Heap.get?_push_of_some _ e) (Nat.le_refl _) ⟨z2, us, r, _, Heap.get?_push_size _ rfl, rfl, _, rfl⟩
theorem pe_lstS {es : List Expr} {t : TA} {pos : Pos} (h : PA X es t) : PE X (.List es pos) (tLstS t) := by
  constructor
  intro pins s σ H Q I hq
  refine wpAny_List_spliced (thn (h.run pos pins s σ H _ I hq) fun us s1 ha => ?_)
  obtain ⟨xs, H1, I1, r, z, q⟩ := ha
  have z2 : xs.length ≤ sizeLine := Nat.le_trans (Nat.le_of_ble_eq_true z) (by decide)
  have fr : H1 s1.heap.objs.size = none := I1.hok.fresh (Nat.le_refl _)
  refine ⟨by rw [← r.length]; exact z2, .ref s1.heap.objs.size, upd H1 s1.heap.objs.size (.lst xs), ?_, rfl, q _ _ (Same.new fr) fr upd_same⟩
  exact I1.laid (t' := s1.toks) (fun b u e => Heap.get?_push_of_some _ e) (Nat.le_refl _) ⟨z2, us, 0, r, Heap.get?_push_size _ rfl⟩
/-! ### the written part by its own name -/
theorem ixT (K : PySem.W.Frag) (h : X.K = K := by rfl) : IxR X (rIxT K) := h ▸ ix_tup
theorem ixL (K : PySem.W.Frag) (h : X.K = K := by rfl) : IxR X (rIxL K) := h ▸ ix_list
theorem opIn (K : PySem.W.Frag) (h : X.K = K := by rfl) : OpR X (compareOp .In) (rIn K false) := h ▸ op_in_seq
theorem opNotIn (K : PySem.W.Frag) (h : X.K = K := by rfl) : OpR X (compareOp .NotIn) (rIn K true) := h ▸ op_notIn_seq
theorem clLen (K : PySem.W.Frag) (h : X.K = K := by rfl) : CallR X (.builtin "len") (fun xs H Q => ∃ x n, xs = [x] ∧ LenV K x H n ∧ Q (.int n) H) := h ▸ call_len
theorem clIsi (K : PySem.W.Frag) (h : X.K = K := by rfl) : CallR X (.builtin "isinstance") (rIsi K) := h ▸ call_isi
end
section
variable {K : PySem.W.Frag} {σ : L2.St} {H : Hp} {Q : VK} {ta te : TE} {tA : TA} {g : TG} {tt : TT} {wi : TI} {R : It → Hp → Prop}
theorem c_tupS (h : tA σ H fun xs H1 => Nat.ble xs.length 1000 = true ∧ ∀ p H', Same H1 H' → H1 p = none → H' p = some (.tup xs) → Q (.ref p) H') : tTupS tA σ H Q := h
theorem c_lstS (h : tA σ H fun xs H1 => Nat.ble xs.length 1000 = true ∧ ∀ p H', Same H1 H' → H1 p = none → H' p = some (.lst xs) → Q (.ref p) H') : tLstS tA σ H Q := h
theorem c_then {k : V → Hp → VK → Prop} (h : ta σ H fun x H1 => k x H1 Q) : tThen ta k σ H Q := h
theorem c_lc {vs : List Nat} (h : wi σ H fun J H1 => ∀ D, H1 D = none → ∃ W : Nat → Nat → Hp → Prop, (∃ m, W 0 m (upd H1 D (.lst []))) ∧
    ∀ i m H, W i m H → (J.stop i H ∧ Q (.ref D) H) ∨ (J.go i H ∧ ∃ Nx : Hp → Prop, (∀ H', Nx H' → ∃ m', m' < m ∧ W (i + 1) m' H') ∧
      ∀ x H', J.yld i H x H' → g x (wipe σ vs) H' fun σ2 H2 => wipe σ2 vs = wipe σ vs ∧ tt σ2 H2 fun b H3 =>
        if b = true then te σ2 H3 fun y H4 => ∃ acc, H4 D = some (.lst acc) ∧ acc.length < sizeLine ∧ Nx (upd H4 D (.lst (acc ++ [y]))) else Nx H3)) : tLc wi g tt te vs σ H Q := h
theorem c_rng1 (h : tA σ H fun vs H1 => ∃ j : Int, vs = [.int j] ∧ -(2 ^ 62) ≤ j ∧ j < 2 ^ 62 ∧ R (Itr 0 j.toNat) H1) : iRng1 tA σ H R := h
theorem c_rng2 (h : tA σ H fun vs H1 => ∃ i j : Int, vs = [.int i, .int j] ∧ (-(2 ^ 62) ≤ i ∧ i < 2 ^ 62 ∧ -(2 ^ 62) ≤ j ∧ j < 2 ^ 62) ∧ R (Itr i (j - i).toNat) H1) : iRng2 tA σ H R := h
theorem c_list (h : te σ H fun x H1 => ∃ a, x = .ref a ∧ (∃ xs, SqL K H1 a xs) ∧ R (Itl K a) H1) : iList K te σ H R := h
theorem c_in {z : Int} {p : Addr} {g : List Int} (h : SqL K H p (g.map V.int)) (q : Q (.bl (decide (z ∈ g))) H) : rIn K false (.int z) (.ref p) H Q := by
  refine ⟨p, _, rfl, .inl h, rfl, ?_, ?_⟩
  · rw [List.all_map]
    exact List.all_eq_true.mpr fun _ _ => rfl
  · have e : inV (.int z) (g.map V.int) = decide (z ∈ g) := by
      unfold inV
      rw [List.any_map]
      have e2 : ((fun y => eqV y (V.int z)) ∘ V.int) = fun i : Int => i == z := rfl
      rw [e2, Bool.eq_iff_iff]
      simp
    show Q (.bl (inV (.int z) (g.map V.int))) H
    rw [e]
    exact q
end
end Hd
end
section
set_option Elab.async false
set_option linter.all false
set_option maxRecDepth 100000
set_option maxHeartbeats 4000000
namespace Hd
open PySem PySem.Spec PyProof.Rows L2
local macro_rules | `(tactic| walk_at "hd1") => `(tactic| (first
  | with_reducible refine c_seq ?_ | with_reducible refine c_ret ?_ | with_reducible refine c_asg ?_ | with_reducible refine c_drop ?_ | with_reducible refine c_next ?_ | with_reducible refine c_ifS ?_ | with_reducible refine c_par ?_
  | with_reducible refine c_var rfl ?_ | with_reducible refine c_c ?_ | with_reducible refine c_op ?_ | with_reducible refine c_un ?_ | with_reducible refine c_U ?_ | with_reducible refine c_I0 ?_
  | with_reducible refine c_test ?_ | with_reducible refine c_B ?_ | with_reducible refine c_bl ?_ | with_reducible refine c_eq rfl ?_ | with_reducible refine c_ne rfl ?_ | with_reducible refine c_chain ?_
  | with_reducible refine c_and ?_ | with_reducible refine c_or ?_ | with_reducible refine c_not ?_ | with_reducible refine c_andV ?_ | with_reducible refine c_orV ?_ | with_reducible refine c_notV ?_ | with_reducible refine c_ifE ?_
  | with_reducible refine c_call ?_ | with_reducible refine c_cb ?_ | with_reducible refine c_cons ?_ | with_reducible refine c_nil ?_ | with_reducible refine c_tup ?_ | with_reducible refine c_lst ?_ | with_reducible refine c_two ?_ | with_reducible refine c_e1 ?_ | with_reducible refine c_e2 ?_ | with_reducible refine c_int1 ?_ | with_reducible refine c_int1b ?_
  | with_reducible refine c_ixT (by assumption) rfl ?_ | with_reducible refine c_ixL (by assumption) rfl ?_
  | with_reducible refine c_tupS ?_ | with_reducible refine c_lstS ?_ | with_reducible refine c_then ?_ | with_reducible refine c_lc ?_ | with_reducible refine c_rng1 ?_ | with_reducible refine c_rng2 ?_ | with_reducible refine c_list ?_
  | with_reducible refine c_I (by assumption) ?_))
local macro_rules | `(tactic| walk_at "hd") => `(tactic| repeat (walk_at "hd1"))
local macro_rules | `(tactic| walk_at "in") => `(tactic| ((try dsimp only [cxOf]); walk_at "hd"))
section
variable {P : Program} {w : World} {K : PySem.W.Frag} {mg : Str → Option Value} {base : Heap}
/-- the shares of a group -/
def spShares (K : PySem.W.Frag) : Sp := fun vs H Q _ => ∃ (n : Nat) (a : Addr) (g : List Int), vs = [.int n, .ref a] ∧ SqL K H a (g.map V.int) ∧ n ≤ 12 ∧ ∀ v H', Same H H' → Dp K H' v (shD n g) → Q v H'
theorem ind_b (g : List Int) (i : Nat) : (if decide ((i : Int) ∈ g) = true then (1 : Int) else 0) = ind g i := by
  unfold ind
  by_cases h : (i : Int) ∈ g <;> simp [h]
theorem shares_end {n : Nat} {g : List Int} {H H1 : Hp} {Q : VK} {ys : List V} {D : Addr} (e1 : Same H H1) (hy : H1 D = some (.lst ys)) (hd : DpAll K H1 ys ((List.range n).map fun i => PyData.int (ind g i)))
    (k : ∀ v H', Same H H' → Dp K H' v (shD n g) → Q v H') : kTup K (.ref D) H1 fun x H2 => [V.int (g.length : Int), x].length ≤ sizeLine ∧ ∀ p, H2 p = none → Q (.ref p) (upd H2 p (.tup [V.int (g.length : Int), x])) := by
  refine .inl ⟨D, ys, rfl, SqL.of hy, fun q hq => ?_⟩
  refine c_newT (by show 2 ≤ 1000; decide) fun p H' e2 _ hp => ?_
  have e3 := (Same.new (o := .tup ys) hq).trans e2
  refine k _ _ (e1.trans e3) (.tup (SqT.of hp) (.cons (.int _) (.cons (.tup (SqT.of (e2 _ _ upd_same)) ?_) .nil)))
  have e : (tops n g).map PyData.int = (List.range n).map fun i => PyData.int (ind g i) := by
    unfold tops
    rw [List.map_map]
    rfl
  rw [e]
  exact dpAll_same e3 hd
theorem ok_shares_for (T : Txt K mg) : Cal P w K mg base CX0 1 "shares_for" ["n", "group"] (spShares K) := by
  refine in_shares_for T (fun vs H Q E h => ?_) (fun cdv A outer s H vs Q E hr h => ?_)
  · obtain ⟨n, a, g, rfl, _⟩ := h
    rfl
  · obtain ⟨n, a, g, rfl, hg, hn, k⟩ := h
    refine ⟨_, pss_one (ps_ret (pe_tup (pa_cons (pe_callB call_len (by rfl) T.n_len bo_len (pa_cons (pv 1) pa_nil)) (pa_cons (pe_tupleOf (by rfl) T.n_tuple
      (pe_lc (own := [("person", 2)]) (g := gName 2) (tt := tYes) rfl sc_shares_for.nd (pi_range1 rfl T.n_range (pa_cons (pv 0) pa_nil)) (blkOk_by (N := ["n", "group", "person"]) (sc := defScope s_shares_for) (by decide +kernel))
        (fun _ _ _ _ _ => pg_name (i := 2) sc_shares_for.nd rfl (.inl rfl)) (fun _ _ _ _ _ => pts_nil) (fun _ _ _ _ _ => pe_callTy call_int1 (by rfl) T.n_int bo_int (pa_cons (pe_cmpR (opIn K) (pv 2) (pv 1) (by rfl)) pa_nil)))) pa_nil)))), ?_⟩
    walk_at "in"
    refine c_lenL hg ?_
    rw [List.length_map]
    walk_at "hd"
    refine ⟨by omega, by omega, fun D hD => ?_⟩
    refine lc_dp (K := K) walk_range hD (fun _ _ => trivial) (fun i => .int (ind g i)) (by simp; omega) (fun _ _ => rfl) (fun i x H1 H' QQ hi e y hq => ?_) (fun i H1 x H' hi e y => ?_) (fun H1 ys e hy hd => ?_)
    · obtain ⟨rfl, rfl⟩ := y
      refine ⟨rfl, ?_⟩
      walk_at "hd"
      refine c_in (e.seq hg) ?_
      walk_at "hd"
      have e0 : (0 : Int) + (i : Int) = (i : Int) := Int.zero_add _
      rw [e0, ind_b]
      exact hq _ _ (Same.refl _) (.int _)
    · obtain ⟨rfl, _⟩ := y
      exact Same.refl _
    · refine shares_end e hy ?_ k
      simpa using hd
theorem ok_law_group_shares (T : Txt K mg) : Cal P w K mg base CX0 1 "_law_group_shares" ["_law_n", "_law_group"] (spShares K) := by
  refine in__law_group_shares T (fun vs H Q E h => ?_) (fun cdv A outer s H vs Q E hr h => ?_)
  · obtain ⟨n, a, g, rfl, _⟩ := h
    rfl
  · obtain ⟨n, a, g, rfl, hg, hn, k⟩ := h
    refine ⟨_, pss_one (ps_ret (pe_tup (pa_cons (pe_callB call_len (by rfl) T.n_len bo_len (pa_cons (pv 1) pa_nil)) (pa_cons (pe_tupleOf (by rfl) T.n_tuple
      (pe_lc (own := [("_law_person", 2)]) (g := gName 2) (tt := tYes) rfl sc__law_group_shares.nd (pi_range1 rfl T.n_range (pa_cons (pv 0) pa_nil)) (blkOk_by (N := ["_law_n", "_law_group", "_law_person"]) (sc := defScope s__law_group_shares) (by decide +kernel))
        (fun _ _ _ _ _ => pg_name (i := 2) sc__law_group_shares.nd rfl (.inl rfl)) (fun _ _ _ _ _ => pts_nil) (fun _ _ _ _ _ => pe_callTy call_int1 (by rfl) T.n_int bo_int (pa_cons (pe_cmpR (opIn K) (pv 2) (pv 1) (by rfl)) pa_nil)))) pa_nil)))), ?_⟩
    walk_at "in"
    refine c_lenL hg ?_
    rw [List.length_map]
    walk_at "hd"
    refine ⟨by omega, by omega, fun D hD => ?_⟩
    refine lc_dp (K := K) walk_range hD (fun _ _ => trivial) (fun i => .int (ind g i)) (by simp; omega) (fun _ _ => rfl) (fun i x H1 H' QQ hi e y hq => ?_) (fun i H1 x H' hi e y => ?_) (fun H1 ys e hy hd => ?_)
    · obtain ⟨rfl, rfl⟩ := y
      refine ⟨rfl, ?_⟩
      walk_at "hd"
      refine c_in (e.seq hg) ?_
      walk_at "hd"
      have e0 : (0 : Int) + (i : Int) = (i : Int) := Int.zero_add _
      rw [e0, ind_b]
      exact hq _ _ (Same.refl _) (.int _)
    · obtain ⟨rfl, _⟩ := y
      exact Same.refl _
    · refine shares_end e hy ?_ k
      simpa using hd
/-- the group behind -/
def spBehind (K : PySem.W.Frag) : Sp := fun vs H Q _ => ∃ (p : Int) (a : Addr) (g : List Int), vs = [.ref a, .int p] ∧ SqL K H a (g.map V.int) ∧ g ≠ [] ∧ g.length ≤ 1000 ∧ ∀ q H', Same H H' → H q = none → H' q = some (.lst ((behind g p).map V.int)) → Q (.ref q) H'
theorem atI_lastI : ∀ {g : List Int}, g ≠ [] → atI (g.map V.int) (-1) = some (.int (g.getLastD 0)) := fun {g} h => by
  have e : g = g.dropLast ++ [g.getLastD 0] := by
    have q := List.dropLast_concat_getLast h
    have q2 : g.getLast h = g.getLastD 0 := by
      cases g with
      | nil => exact absurd rfl h
      | cons a r => rfl
    rw [q2] at q
    exact q.symm
  conv => lhs; rw [e]
  rw [List.map_append]
  exact atI_last _ _
theorem filt_beh {g : List Int} {p z : Int} (hz : z = gone g p) : (g.map V.int).filter (fun v => !decide (v = V.int z)) = (behind g p).map V.int := by
  unfold behind
  rw [List.filter_map]
  congr 1
  refine List.filter_congr fun x _ => ?_
  rw [hz]
  show (!decide (V.int x = V.int (gone g p))) = (x != gone g p)
  rw [dec_int]
  rfl
theorem ok_group_behind (T : Txt K mg) : Cal P w K mg base CX0 1 "group_behind" ["group", "person"] (spBehind K) := by
  refine in_group_behind T (fun vs H Q E h => ?_) (fun cdv A outer s H vs Q E hr h => ?_)
  · obtain ⟨p, a, g, rfl, _⟩ := h
    rfl
  · obtain ⟨p, a, g, rfl, hg, hne, hl, k⟩ := h
    refine ⟨_, pss_cons (ps_set (i := 2) sc_group_behind.nd rfl (.inr rfl) (pe_ifExp (pt_cmpR (opIn K) (pv 1) (pv 0) (by rfl)) (pv 1) (pe_ix (ixL K) (pv 0) (pe_un un_neg pe_int) (fun _ _ => rfl))))
      (pss_one (ps_ret (pe_lc (own := [("one", 3)]) (g := gName 3) rfl sc_group_behind.nd (pi_list (pv 0)) (blkOk_by (N := ["group", "person", "gone", "one"]) (sc := defScope s_group_behind) (by decide +kernel))
        (fun _ _ _ _ _ => pg_name (i := 3) sc_group_behind.nd rfl (.inl rfl)) (fun _ _ _ _ _ => pts_one (pt_cmpR op_ne (pv 3) (pv 2) (nomark _))) (fun _ _ _ _ _ => pv 3)))), ?_⟩
    walk_at "in"
    refine c_in hg ?_
    walk_at "hd"
    have go : ∀ z : Int, z = gone g p → ∀ σ', σ' = [some (.ref a), some (.int p), some (.int z), none] → tRet (tLc (iList K (tVar 0)) (gName 3) (tTest (tOp rNe (tVar 3) (tVar 2))) (tVar 3) [3]) { nx := fun _ H' => Q .non H', rt := Q } σ' H := by
      intro z hz σ' hs
      subst hs
      walk_at "hd"
      refine ⟨a, rfl, ⟨_, hg⟩, fun D hD => ?_⟩
      refine lc_filt hD hg (fun v => !decide (v = V.int z)) (by rw [List.length_map]; exact hl) (fun x => rfl) (fun x H1 QB hx e q => ?_) (fun x H1 Q' hx e q => ?_) (fun H1 e hy => ?_)
      · obtain ⟨y, _, rfl⟩ := List.mem_map.mp hx
        walk_at "hd"
        exact q
      · walk_at "hd"
        exact q
      · rw [filt_beh hz] at hy
        exact k D H1 e hD hy
    refine ifB (fun h => ?_) (fun h => ?_)
    · have hp : p ∈ g := by simpa using h
      walk_at "hd1"
      exact go p (if_pos hp).symm _ rfl
    · have hp : ¬ p ∈ g := by simpa using h
      walk_at "hd"
      refine c_ixL hg (atI_lastI hne) ?_
      exact go _ (if_neg hp).symm _ rfl
end
end Hd
end
section
set_option Elab.async false
set_option linter.all false
set_option maxRecDepth 100000
set_option maxHeartbeats 4000000
namespace Hd
open PySem PySem.Spec PyProof.Rows L2
local macro_rules | `(tactic| walk_at "hd1") => `(tactic| (first
  | with_reducible refine c_seq ?_ | with_reducible refine c_ret ?_ | with_reducible refine c_asg ?_ | with_reducible refine c_drop ?_ | with_reducible refine c_next ?_ | with_reducible refine c_ifS ?_ | with_reducible refine c_par ?_
  | with_reducible refine c_var rfl ?_ | with_reducible refine c_c ?_ | with_reducible refine c_op ?_ | with_reducible refine c_un ?_ | with_reducible refine c_U ?_ | with_reducible refine c_I0 ?_
  | with_reducible refine c_test ?_ | with_reducible refine c_B ?_ | with_reducible refine c_bl ?_ | with_reducible refine c_eq rfl ?_ | with_reducible refine c_ne rfl ?_ | with_reducible refine c_chain ?_
  | with_reducible refine c_and ?_ | with_reducible refine c_or ?_ | with_reducible refine c_not ?_ | with_reducible refine c_andV ?_ | with_reducible refine c_orV ?_ | with_reducible refine c_notV ?_ | with_reducible refine c_ifE ?_
  | with_reducible refine c_call ?_ | with_reducible refine c_cb ?_ | with_reducible refine c_cons ?_ | with_reducible refine c_nil ?_ | with_reducible refine c_tup ?_ | with_reducible refine c_lst ?_ | with_reducible refine c_two ?_ | with_reducible refine c_e1 ?_ | with_reducible refine c_e2 ?_ | with_reducible refine c_int1 ?_ | with_reducible refine c_int1b ?_
  | with_reducible refine c_ixT (by assumption) rfl ?_ | with_reducible refine c_ixL (by assumption) rfl ?_
  | with_reducible refine c_tupS ?_ | with_reducible refine c_lstS ?_ | with_reducible refine c_then ?_ | with_reducible refine c_lc ?_ | with_reducible refine c_rng1 ?_ | with_reducible refine c_rng2 ?_ | with_reducible refine c_list ?_
  | with_reducible refine c_I (by assumption) ?_))
local macro_rules | `(tactic| walk_at "hd") => `(tactic| repeat (walk_at "hd1"))
local macro_rules | `(tactic| walk_at "in") => `(tactic| ((try dsimp only [cxOf]); walk_at "hd"))
section
variable {P : Program} {w : World} {K : PySem.W.Frag} {mg : Str → Option Value} {base : Heap}
theorem walk_zipT {a b : Addr} {xs ys : List V} {n : Nat} (hn : n = min xs.length ys.length) : Walk (RZ.ItzT K a b) n (fun H => SqT K H a xs ∧ SqT K H b ys) (YPair (fun i => xs[i]?) (fun i => ys[i]?)) := by
  subst hn
  refine ⟨fun i _ hi q => ?_, fun _ q => ⟨xs, ys, q.1, q.2, by omega⟩, fun i H v H' _ q y => ?_⟩
  · have h1 : i < xs.length := by omega
    have h2 : i < ys.length := by omega
    exact ⟨xs, ys, xs[i], ys[i], q.1, q.2, by simp [h1], by simp [h2]⟩
  · obtain ⟨T, x, z, h1, h2, h3, h4, h5⟩ := y
    exact ⟨T, x, z, h1, h2, h3, h4 xs q.1, h5 ys q.2⟩
theorem yp_same {fx fy : Nat → Option V} {i : Nat} {H H' : Hp} {x : V} (y : YPair fx fy i H x H') : Same H H' := by
  obtain ⟨T, x, z, h1, h2, h3, _⟩ := y
  rw [h3]
  exact Same.new h2
/-- a target of two names -/
theorem g_two {i j : Nat} {T : Addr} {x y : V} {σ : L2.St} {H : Hp} {Q : L2.St → Hp → Prop} (h : SqT K H T [x, y]) (q : Q ((σ.set i (some x)).set j (some y)) H) : gTup K 2 (gCons (gName i) (gCons (gName j) gNil)) (.ref T) σ H Q :=
  ⟨T, [x, y], rfl, h, rfl, x, [y], rfl, y, [], rfl, rfl, q⟩
theorem sh_of {H : Hp} {v : V} {n : Nat} {g : List Int} (h : Dp K H v (shD n g)) : ∃ a b, v = .ref a ∧ SqT K H a [.int (g.length : Int), .ref b] ∧ SqT K H b ((tops n g).map V.int) := by
  obtain ⟨a, vs, rfl, h1, h2⟩ := dp_tup h
  obtain ⟨v1, r, rfl, h3, h4⟩ := dpAll_cons h2
  obtain ⟨v2, r, rfl, h5, h6⟩ := dpAll_cons h4
  cases dpAll_nil h6
  cases dp_int h3
  obtain ⟨b, ws, rfl, h7, h8⟩ := dp_tup h5
  cases dpAll_ints' h8
  exact ⟨a, b, rfl, h1, h7⟩
theorem db_of {H : Hp} {v : V} {n : Nat} {d : Nat → Int} (h : Dp K H v (dbD n d)) : ∃ a xs, v = .ref a ∧ SqT K H a xs ∧ xs.length = n ∧ ∀ i, i < n → ∃ x, xs[i]? = some x ∧ Dp K H x (frD (d i)) := by
  obtain ⟨a, vs, rfl, h1, h2⟩ := dp_tup h
  refine ⟨a, vs, rfl, h1, by simpa using dpAll_len h2, fun i hi => dpAll_get h2 ?_⟩
  rw [List.getElem?_map, List.getElem?_range hi]
  rfl
theorem tops_get {n : Nat} {g : List Int} {i : Nat} (h : i < n) : ((tops n g).map V.int)[i]? = some (.int (ind g i)) := by
  unfold tops
  rw [List.map_map, List.getElem?_map, List.getElem?_range h]
  rfl
theorem tops_len (n : Nat) (g : List Int) : ((tops n g).map V.int).length = n := by simp [tops]
/-- the debts with shares more -/
def spWith (K : PySem.W.Frag) : Sp := fun vs H Q _ => ∃ (v1 v2 : V) (n : Nat) (d : Nat → Int) (g : List Int), vs = [v1, v2] ∧ Dp K H v1 (dbD n d) ∧ Dp K H v2 (shD n g) ∧ n ≤ 12 ∧ 0 < g.length ∧ g.length ≤ 12 ∧
  ∀ v H', Same H H' → Dp K H' v (dbD n fun i => d i + sh g i) → Q v H'
theorem ok_with_shares (T : Txt K mg) : Cal P w K mg base CX0 4 "with_shares" ["so_far", "shares"] (spWith K) := by
  have c1 := ok_plus (P := P) (w := w) (base := base) T
  have c2 := ok_lowest (P := P) (w := w) (base := base) T
  refine in_with_shares T (fun vs H Q E h => ?_) (fun cdv A outer s H vs Q E hr h => ?_)
  · obtain ⟨v1, v2, n, d, g, rfl, _⟩ := h
    rfl
  · obtain ⟨v1, v2, n, d, g, rfl, h1, h2, hn, g0, g1, k⟩ := h
    obtain ⟨a, xs, rfl, ha, hxl, hx⟩ := db_of h1
    obtain ⟨b, c, rfl, hb, hc⟩ := sh_of h2
    refine ⟨_, pss_one (ps_ret (pe_tupleOf (by rfl) T.n_tuple (pe_lc (own := [("one", 2), ("top", 3)]) (g := gTup K 2 (gCons (gName 2) (gCons (gName 3) gNil))) (tt := tYes) rfl sc_with_shares.nd
      (RZ.pi_zipA (by rfl) T.n_zip (pa_cons (pv 0) (pa_cons (pe_ix (ixT K) (pv 1) pe_int (fun _ _ => rfl)) pa_nil))) (blkOk_by (N := ["so_far", "shares", "one", "top"]) (sc := defScope s_with_shares) (by decide +kernel))
      (fun _ _ _ _ _ => pg_tup rfl (pgs_cons (pg_name (i := 2) sc_with_shares.nd rfl (.inl rfl)) (pgs_cons (pg_name (i := 3) sc_with_shares.nd rfl (.inl rfl)) pgs_nil))) (fun _ _ _ _ _ => pts_nil)
      (fun _ _ _ _ _ => pe_cal c1 hr (by rfl) (pa_cons (pv 2) (pa_cons (pe_cal c2 (hr.mono (by decide)) (by rfl) (pa_cons (pv 3) (pa_cons (pe_ix (ixT K) (pv 1) pe_int (fun _ _ => rfl)) pa_nil))) pa_nil)))))), ?_⟩
    walk_at "in"
    unfold RZ.iZipA
    walk_at "hd"
    refine ⟨a, c, xs, _, rfl, .inr ⟨ha, hc, fun D hD => ?_⟩⟩
    refine lc_dp (K := K) (walk_zipT (n := n) (by rw [tops_len, hxl]; simp)) hD (fun H1 e => ⟨Same.tup e ha, Same.tup e hc⟩) (fun i => frD (d i + sh g i)) (by omega) (fun _ _ => rfl) (fun i x H1 H' QQ hi e y hq => ?_) (fun i H1 x H' hi e y => yp_same y) (fun H1 ys e hy hd => ?_)
    · have e1 := yp_same y
      obtain ⟨T0, x1, y1, rfl, hT, rfl, hx1, hy1⟩ := y
      obtain ⟨x2, hx2, hdx⟩ := hx i hi
      have hx1 : xs[i]? = some x1 := hx1
      have hy1 : ((tops n g).map V.int)[i]? = some y1 := hy1
      rw [hx2] at hx1
      cases hx1
      rw [tops_get hi] at hy1
      cases hy1
      refine g_two (SqT.of upd_same) ⟨rfl, ?_⟩
      have hb' := Same.tup (e.trans e1) hb
      walk_at "hd"
      refine ⟨_, _, _, rfl, by omega, by omega, top_sc g0 g1, fun v2 H2 e2 hv2 => ?_⟩
      obtain ⟨a2, rfl, hv3⟩ := fr_of hv2
      walk_at "hd"
      refine ⟨_, a2, _, _, _, _, rfl, dp_same ((e.trans e1).trans e2) hdx, hv3, de_pos _, de_le _, nu_de _, fun v3 H3 e3 hv4 => hq v3 H3 (e2.trans e3) ?_⟩
      rw [Int.one_mul] at hv4
      exact hv4
    · refine .inl ⟨D, ys, rfl, SqL.of hy, fun q hq => ?_⟩
      have e3 := Same.new (o := .tup ys) hq
      exact k _ _ (e.trans e3) (.tup (SqT.of upd_same) (dpAll_same e3 hd))
/-- the harmonic sums -/
def spHarm (K : PySem.W.Frag) : Sp := fun vs H Q _ => ∃ m : Nat, vs = [.int 2, .int m] ∧ 1 ≤ m ∧ m ≤ 12 ∧ ∀ v H', Same H H' → Dp K H' v (frD (hs m - hs 1)) → Q v H'
theorem nu0 : nu 0 = 0 := by decide
theorem de0 : de 0 = 1 := by decide
theorem one_sc (i : Nat) (h : i + 2 ≤ 12) : (1 : Int) * 27720 = (27720 / ((i + 2 : Nat) : Int)) * ((i + 2 : Nat) : Int) := by
  rw [div_ok (by omega) h]
  rfl
theorem ok_harmonic (T : Txt K mg) : Cal P w K mg base CX0 4 "harmonic" ["low", "high"] (spHarm K) := by
  have c1 := ok_plus (P := P) (w := w) (base := base) T
  refine in_harmonic T (fun vs H Q E h => ?_) (fun cdv A outer s H vs Q E hr h => ?_)
  · obtain ⟨m, rfl, _⟩ := h
    rfl
  · obtain ⟨m, rfl, h1, h2, k⟩ := h
    refine ⟨_, pss_cons (ps_set (i := 2) sc_harmonic.nd rfl (.inl rfl) (pe_glob (v := .ref (He.ga K "NOUGHT")) (by rfl) T.g_NOUGHT rfl))
      (pss_cons (ps_for (passes_of rfl) rfl (pi_range2 rfl T.n_range (pa_cons (pv 0) (pa_cons (pe_op op_add (pv 1) pe_int) pa_nil))) (pg_name (i := 3) sc_harmonic.nd rfl (.inl rfl))
        (pss_one (ps_set (i := 2) sc_harmonic.nd rfl (.inl rfl) (pe_cal c1 hr (by rfl) (pa_cons (pv 2) (pa_cons (pe_tupS (pa_cons pe_int (pa_cons (pv 3) pa_nil))) pa_nil))))))
      (pss_one (ps_ret (pv 2)))), ?_⟩
    walk_at "in"
    unfold tFor
    walk_at "hd"
    refine ⟨by omega, ?_⟩
    refine for_it walk_range (fun i σ H' => ∃ v u, σ = [some (.int 2), some (.int m), some v, u] ∧ Same H H' ∧ Dp K H' v (frD (hs (i + 1) - hs 1))) ⟨_, none, rfl, Same.refl _, ?_⟩ (fun _ _ _ _ _ => trivial) ?_ ?_
    · refine fr_mk ?_
      have e : hs (0 + 1) - hs 1 = 0 := by show hs 1 - hs 1 = 0; omega
      rw [e, nu0, de0]
      exact T.nought H
    · rintro i x σ H1 H' hi ⟨v, u, rfl, e, hv⟩ ⟨rfl, hx⟩
      have hx : x = V.int (2 + (i : Int)) := hx
      subst hx
      have hi12 : i + 2 ≤ 12 := by omega
      show tAsg _ _ _ _ _
      walk_at "hd"
      refine ⟨rfl, fun p H2 e2 _ hp => ?_⟩
      walk_at "hd"
      have ek : (2 : Int) + (i : Int) = ((i + 2 : Nat) : Int) := by omega
      rw [ek] at hp
      refine ⟨_, p, _, _, _, _, rfl, dp_same e2 hv, SqT.of hp, by omega, by omega, one_sc i hi12, fun v3 H3 e3 hv3 => ⟨v3, _, rfl, (e.trans e2).trans e3, ?_⟩⟩
      have eh : hs (i + 1) - hs 1 + 1 * (27720 / ((i + 2 : Nat) : Int)) = hs (i + 1 + 1) - hs 1 := by
        have : hs (i + 1 + 1) = hs (i + 1) + 27720 / ((i + 2 : Nat) : Int) := rfl
        omega
      rw [eh] at hv3
      exact hv3
    · rintro σ H' ⟨v, u, rfl, e, hv⟩
      walk_at "hd"
      refine k v H' e ?_
      have em : ((m : Int) + 1 - 2).toNat + 1 = m := by omega
      rw [em] at hv
      exact hv
def spMost (K : PySem.W.Frag) : Sp := fun vs H Q _ => ∃ n b : Nat, vs = [.int n, .int b] ∧ 1 ≤ n ∧ n ≤ 12 ∧ b ≤ 400 ∧ ∀ v H', Same H H' → Dp K H' v (frD (hs (kk n b) - hs 1)) → Q v H'
theorem ok_most (T : Txt K mg) : Cal P w K mg base CX0 5 "most" ["n", "beats"] (spMost K) := by
  have c1 := ok_harmonic (P := P) (w := w) (base := base) T
  have c2 := ok_check_people (P := P) (w := w) (base := base) T
  have c3 := ok_check_beats (P := P) (w := w) (base := base) T
  refine in_most T (fun vs H Q E h => ?_) (fun cdv A outer s H vs Q E hr h => ?_)
  · obtain ⟨n, b, rfl, _⟩ := h
    rfl
  · obtain ⟨n, b, rfl, h1, h2, h3, k⟩ := h
    refine ⟨_, pss_cons (ps_expr (pe_cal c2 (hr.mono (by decide)) (by rfl) (pa_cons (pv 0) pa_nil))) (pss_cons (ps_expr (pe_cal c3 (hr.mono (by decide)) (by rfl) (pa_cons (pv 1) pa_nil)))
      (pss_one (ps_ret (pe_cal c1 hr (by rfl) (pa_cons pe_int (pa_cons (pe_callB (call_min2 rfl) (by rfl) T.n_min bo_min (pa_cons (pv 0) (pa_cons (pe_op op_add (pv 1) pe_int) pa_nil))) pa_nil)))))), ?_⟩
    walk_at "in"
    refine ⟨_, rfl, by omega, by omega, ?_⟩
    walk_at "hd"
    refine ⟨_, rfl, by omega, by omega, ?_⟩
    walk_at "hd"
    refine ⟨kk n b, ?_, by unfold kk; omega, by unfold kk; omega, k⟩
    rw [kk_int]
    rfl
theorem ok_law_most (T : Txt K mg) : Cal P w K mg base CX0 3 "_law_most" ["_law_n", "_law_beats_here"] (spMost K) := by
  have c1 := ok_law_plus (P := P) (w := w) (base := base) T
  refine in__law_most T (fun vs H Q E h => ?_) (fun cdv A outer s H vs Q E hr h => ?_)
  · obtain ⟨n, b, rfl, _⟩ := h
    rfl
  · obtain ⟨n, b, rfl, h1, h2, h3, k⟩ := h
    refine ⟨_, pss_cons (ps_set (i := 2) sc__law_most.nd rfl (.inl rfl) (pe_tupS (pa_cons pe_int (pa_cons pe_int pa_nil))))
      (pss_cons (ps_for (passes_of rfl) rfl (pi_range2 rfl T.n_range (pa_cons pe_int (pa_cons (pe_op op_add (pe_callB (call_min2 rfl) (by rfl) T.n_min bo_min (pa_cons (pv 0) (pa_cons (pe_op op_add (pv 1) pe_int) pa_nil))) pe_int) pa_nil))) (pg_name (i := 3) sc__law_most.nd rfl (.inl rfl))
        (pss_one (ps_set (i := 2) sc__law_most.nd rfl (.inl rfl) (pe_cal c1 hr (by rfl) (pa_cons (pv 2) (pa_cons (pe_tupS (pa_cons pe_int (pa_cons (pv 3) pa_nil))) pa_nil))))))
      (pss_one (ps_ret (pv 2)))), ?_⟩
    have m1 : 1 ≤ kk n b := by unfold kk; omega
    have m2 : kk n b ≤ 12 := by unfold kk; omega
    walk_at "in"
    refine ⟨rfl, fun p H0 e0 _ hp => ?_⟩
    unfold tFor
    walk_at "hd"
    rw [kk_int]
    refine ⟨by omega, ?_⟩
    refine for_it walk_range (fun i σ H' => ∃ v u, σ = [some (.int n), some (.int b), some v, u] ∧ Same H H' ∧ Dp K H' v (frD (hs (i + 1) - hs 1))) ⟨_, none, rfl, e0, ?_⟩ (fun _ _ _ _ _ => trivial) ?_ ?_
    · refine fr_mk ?_
      have e : hs (0 + 1) - hs 1 = 0 := by show hs 1 - hs 1 = 0; omega
      rw [e, nu0, de0]
      exact SqT.of hp
    · rintro i x σ H1 H' hi ⟨v, u, rfl, e, hv⟩ ⟨rfl, hx⟩
      have hx : x = V.int (2 + (i : Int)) := hx
      subst hx
      have hi12 : i + 2 ≤ 12 := by omega
      show tAsg _ _ _ _ _
      walk_at "hd"
      refine ⟨rfl, fun p H2 e2 _ hp => ?_⟩
      walk_at "hd"
      have ek : (2 : Int) + (i : Int) = ((i + 2 : Nat) : Int) := by omega
      rw [ek] at hp
      refine ⟨_, p, _, _, _, _, rfl, dp_same e2 hv, SqT.of hp, by omega, by omega, one_sc i hi12, fun v3 H3 e3 hv3 => ⟨v3, _, rfl, (e.trans e2).trans e3, ?_⟩⟩
      have eh : hs (i + 1) - hs 1 + 1 * (27720 / ((i + 2 : Nat) : Int)) = hs (i + 1 + 1) - hs 1 := by
        have : hs (i + 1 + 1) = hs (i + 1) + 27720 / ((i + 2 : Nat) : Int) := rfl
        omega
      rw [eh] at hv3
      exact hv3
    · rintro σ H' ⟨v, u, rfl, e, hv⟩
      walk_at "hd"
      refine k v H' e ?_
      have em : (((kk n b : Nat) : Int) + 1 - 2).toNat + 1 = kk n b := by omega
      rw [em] at hv
      exact hv
end
end Hd
end
section
set_option Elab.async false
set_option linter.all false
set_option maxRecDepth 100000
set_option maxHeartbeats 4000000
namespace Hd
open PySem PySem.Spec PyProof.Rows L2
local macro_rules | `(tactic| walk_at "hd1") => `(tactic| (first
  | with_reducible refine c_seq ?_ | with_reducible refine c_ret ?_ | with_reducible refine c_asg ?_ | with_reducible refine c_drop ?_ | with_reducible refine c_next ?_ | with_reducible refine c_ifS ?_ | with_reducible refine c_par ?_
  | with_reducible refine c_var rfl ?_ | with_reducible refine c_c ?_ | with_reducible refine c_op ?_ | with_reducible refine c_un ?_ | with_reducible refine c_U ?_ | with_reducible refine c_I0 ?_
  | with_reducible refine c_test ?_ | with_reducible refine c_B ?_ | with_reducible refine c_bl ?_ | with_reducible refine c_eq rfl ?_ | with_reducible refine c_ne rfl ?_ | with_reducible refine c_chain ?_
  | with_reducible refine c_and ?_ | with_reducible refine c_or ?_ | with_reducible refine c_not ?_ | with_reducible refine c_andV ?_ | with_reducible refine c_orV ?_ | with_reducible refine c_notV ?_ | with_reducible refine c_ifE ?_
  | with_reducible refine c_call ?_ | with_reducible refine c_cb ?_ | with_reducible refine c_cons ?_ | with_reducible refine c_nil ?_ | with_reducible refine c_tup ?_ | with_reducible refine c_lst ?_ | with_reducible refine c_two ?_ | with_reducible refine c_e1 ?_ | with_reducible refine c_e2 ?_ | with_reducible refine c_int1 ?_ | with_reducible refine c_int1b ?_
  | with_reducible refine c_ixT (by assumption) rfl ?_ | with_reducible refine c_ixL (by assumption) rfl ?_
  | with_reducible refine c_tupS ?_ | with_reducible refine c_lstS ?_ | with_reducible refine c_then ?_ | with_reducible refine c_lc ?_ | with_reducible refine c_rng1 ?_ | with_reducible refine c_rng2 ?_ | with_reducible refine c_list ?_
  | with_reducible refine c_I (by assumption) ?_))
local macro_rules | `(tactic| walk_at "hd") => `(tactic| repeat (walk_at "hd1"))
local macro_rules | `(tactic| walk_at "in") => `(tactic| ((try dsimp only [cxOf]); walk_at "hd"))
section
variable {P : Program} {w : World} {K : PySem.W.Frag} {mg : Str → Option Value} {base : Heap}
theorem tyx_tup {H : Hp} {a : Addr} {xs : List V} (h : SqT K H a xs) : TyX K H (.ref a) (.type "tuple") := by
  rcases h with (h | ⟨o, h⟩) | ⟨o, its, n, hk, hc, _⟩
  · exact .base (.tup h)
  · exact .fTuple h
  · exact .kTuple hk hc
theorem tyx_lst {H : Hp} {a : Addr} {xs : List V} (h : SqL K H a xs) : TyX K H (.ref a) (.type "list") := by
  rcases h with (h | ⟨o, h⟩) | ⟨o, its, n, hk, hc, _⟩
  · exact .base (.lst h)
  · exact .base (.frz h)
  · exact .kList hk hc
/-- a group whose shares are shares of n people -/
structure GSh (n : Nat) (g : List Int) : Prop where
  nd : g.Nodup
  bnd : ∀ i ∈ g, 0 ≤ i ∧ i < (n : Int)
  pos : 0 < g.length
  le : g.length ≤ 12
theorem ind_bnd (g : List Int) (i : Nat) : 0 ≤ ind g i ∧ ind g i ≤ 1 := by
  unfold ind
  split <;> omega
theorem all_true (n : Nat) : ((List.replicate n true).all id) = true := by
  rw [List.all_eq_true]
  intro x hx
  rw [List.eq_of_mem_replicate hx]
  rfl
theorem dpAll_true : ∀ {n : Nat} {H : Hp} {vs : List V} {l : List Nat}, l.length = n → DpAll K H vs (l.map fun _ => PyData.bool true) → vs = (List.replicate n true).map V.bl
  | 0, _, _, [], _, h => by cases h; rfl
  | n + 1, _, _, a :: l, e, h => by
    cases h with
    | cons h1 h2 =>
      cases h1
      rw [dpAll_true (n := n) (by simpa using e) h2]
      rfl
def spAre (K : PySem.W.Frag) : Sp := fun vs H Q _ => ∃ (n : Nat) (v : V) (g : List Int), vs = [.int n, .int 1, v] ∧ Dp K H v (shD n g) ∧ n ≤ 12 ∧ GSh n g ∧ ∀ H', Same H H' → Q (.bl true) H'
theorem ok_are_shares (T : Txt K mg) : Cal P w K mg base CX0 3 "are_shares" ["n", "m", "thing"] (spAre K) := by
  have c1 := ok_is_pair (P := P) (w := w) (base := base) T
  have c2 := ok_is_within (P := P) (w := w) (base := base) T
  obtain ⟨tk, gm⟩ := T.i_MOST_BOTTOM
  refine in_are_shares T (fun vs H Q E h => ?_) (fun cdv A outer s H vs Q E hr h => ?_)
  · obtain ⟨n, v, g, rfl, _⟩ := h
    rfl
  · obtain ⟨n, v, g, rfl, hv, hn, hg, k⟩ := h
    obtain ⟨a, b, rfl, ha, hb⟩ := sh_of hv
    refine ⟨_, pss_cons (ps_if (PW.pt (pw_or (pt_not (pt_val (pe_cal c1 (hr.mono (by decide)) (by rfl) (pa_cons (pv 2) pa_nil)))) (pw_or (pt_not (pt_val (pe_cal c2 hr (by rfl) (pa_cons (pe_ix (ixT K) (pv 2) pe_int (fun _ _ => rfl)) (pa_cons pe_int (pa_cons (pe_glob (v := .int 360) (by rfl) gm ⟨_, rfl⟩) pa_nil))))))
        (pw_or1 (pt_not (pt_val (pe_callB (clIsi K) (by rfl) T.n_isinstance bo_isinstance (pa_cons (pe_ix (ixT K) (pv 2) pe_int (fun _ _ => rfl)) (pa_cons (pe_bltn (v := .ty "tuple") (by rfl) T.n_tuple bo_tuple rfl) pa_nil))))))))) (pss_one ps_never) pss_nil)
      (pss_cons (ps_if (PW.pt (pw_or (pt_cmpR op_ne (pe_callB (clLen K) (by rfl) T.n_len bo_len (pa_cons (pe_ix (ixT K) (pv 2) pe_int (fun _ _ => rfl)) pa_nil)) (pv 0) (nomark _))
        (pw_or1 (pt_not (pt_val (pe_callB (cr_all rfl) (by rfl) T.n_all bo_all (pa_cons
          (pe_lc (own := [("top", 3)]) (g := gName 3) (tt := tYes) rfl sc_are_shares.nd (pi_tup (pe_ix (ixT K) (pv 2) pe_int (fun _ _ => rfl))) (blkOk_by (N := ["n", "m", "thing", "top"]) (sc := defScope s_are_shares) (by decide +kernel))
            (fun _ _ _ _ _ => pg_name (i := 3) sc_are_shares.nd rfl (.inl rfl)) (fun _ _ _ _ _ => pts_nil) (fun _ _ _ _ _ => pe_cal c2 hr (by rfl) (pa_cons (pv 3) (pa_cons pe_int (pa_cons (pe_ix (ixT K) (pv 2) pe_int (fun _ _ => rfl)) pa_nil))))) pa_nil))))))) (pss_one ps_never) pss_nil)
      (pss_one (ps_ret (pe_cmpR op_eq (pe_callB (cr_sumT rfl) (by rfl) T.n_sum bo_sum (pa_cons (pe_ix (ixT K) (pv 2) pe_int (fun _ _ => rfl)) pa_nil)) (pe_op op_mul (pv 1) (pe_ix (ixT K) (pv 2) pe_int (fun _ _ => rfl))) (nomark _))))), ?_⟩
    have hg1 := hg.pos
    have hg2 := hg.le
    walk_at "in"
    refine ⟨a, _, rfl, ha, tyx_tup ha, rfl, ?_⟩
    walk_at "hd"
    refine ifF rfl ?_
    walk_at "hd"
    refine ⟨_, some _, _, _, rfl, rfl, ?_⟩
    rw [inR_yes (by omega) (by omega)]
    walk_at "hd"
    refine ifF rfl ?_
    walk_at "hd"
    refine c_isi (tyx_tup hb) (kit_tuple _ (by decide)) ?_
    walk_at "hd"
    refine ifF (by decide) ?_
    walk_at "hd"
    refine c_lenT hb ?_
    rw [tops_len]
    walk_at "hd"
    refine ifF (by simp) ?_
    walk_at "hd"
    unfold iTup
    walk_at "hd"
    refine ⟨b, rfl, ⟨_, hb⟩, fun D hD => ?_⟩
    refine lc_dp (K := K) walk_tup hD (fun H1 e => Same.tup e hb) (fun _ => .bool true) (by rw [tops_len]; omega) (fun _ _ => rfl) (fun i x H1 H' QQ hi e y hq => ?_) (fun i H1 x H' hi e y => ?_) (fun H1 ys e hy hd => ?_)
    · obtain ⟨rfl, hx⟩ := y
      rw [tops_len] at hi
      rw [tops_get hi] at hx
      cases hx
      refine ⟨rfl, ?_⟩
      have ha' := Same.tup e ha
      obtain ⟨i0, i1⟩ := ind_bnd g i
      walk_at "hd"
      refine ⟨_, some _, _, _, rfl, rfl, ?_⟩
      rw [inR_yes (by omega) (by omega)]
      exact hq _ _ (Same.refl _) (.bl true)
    · obtain ⟨rfl, _⟩ := y
      exact Same.refl _
    · have e1 := dpAll_true (n := n) (by rw [tops_len]; simp) hd
      subst e1
      refine ⟨D, _, rfl, SqL.of hy, ?_⟩
      rw [all_true]
      walk_at "hd"
      refine ifF rfl ?_
      have ha' := Same.tup e ha
      have hb' := Same.tup e hb
      have m1 : CMul 1 (g.length : Int) := .inl ⟨by decide, by decide⟩
      walk_at "hd"
      refine ⟨b, _, rfl, hb', ?_⟩
      walk_at "hd"
      have e2 : decide (V.int (tops n g).sum = V.int (1 * (g.length : Int))) = true := by
        rw [tops_sum n g hg.nd hg.bnd, Int.one_mul]
        exact decide_eq_true rfl
      rw [e2]
      exact k H1 e
/-- a row of such shares -/
def spFirst (K : PySem.W.Frag) : Sp := fun vs H Q _ => ∃ (n : Nat) (v : V) (gs : List (List Int)), vs = [.int n, .int 1, v] ∧ Dp K H v (.tuple (gs.map (shD n))) ∧ n ≤ 12 ∧ gs.length ≤ 400 ∧ (∀ g ∈ gs, GSh n g) ∧ ∀ H', Same H H' → Q .non H'
theorem ok_first_wrong (T : Txt K mg) : Cal P w K mg base CX0 4 "first_wrong" ["n", "m", "row"] (spFirst K) := by
  have c1 := ok_are_shares (P := P) (w := w) (base := base) T
  obtain ⟨tk, gm⟩ := T.i_MOST_BEATS_shares
  refine in_first_wrong T (fun vs H Q E h => ?_) (fun cdv A outer s H vs Q E hr h => ?_)
  · obtain ⟨n, v, g, rfl, _⟩ := h
    rfl
  · obtain ⟨n, v, gs, rfl, hv, hn, hl, hg, k⟩ := h
    obtain ⟨a, xs, rfl, ha, hx⟩ := dp_tup hv
    have hxl : xs.length = gs.length := by simpa using dpAll_len hx
    refine ⟨_, pss_cons (ps_if (PW.pt (pw_or (pt_not (pt_val (pe_callB (clIsi K) (by rfl) T.n_isinstance bo_isinstance (pa_cons (pv 2) (pa_cons (pe_bltn (v := .ty "tuple") (by rfl) T.n_tuple bo_tuple rfl) pa_nil)))))
        (pw_or1 (pt_cmpR op_gt (pe_callB (clLen K) (by rfl) T.n_len bo_len (pa_cons (pv 2) pa_nil)) (pe_glob (v := .int 400) (by rfl) gm ⟨_, rfl⟩) (nomark _))))) (pss_one ps_never) pss_nil)
      (pss_cons (ps_for (passes_of rfl) rfl (pi_enumT (by rfl) T.n_enumerate (pa_cons (pv 2) pa_nil)) (pg_tup rfl (pgs_cons (pg_name (i := 3) sc_first_wrong.nd rfl (.inl rfl)) (pgs_cons (pg_name (i := 4) sc_first_wrong.nd rfl (.inl rfl)) pgs_nil)))
        (pss_one (ps_if (pt_not (pt_val (pe_cal c1 hr (by rfl) (pa_cons (pv 0) (pa_cons (pv 1) (pa_cons (pv 4) pa_nil)))))) (pss_one ps_never) pss_nil)))
      (pss_one (ps_ret pe_non))), ?_⟩
    walk_at "in"
    refine c_isi (tyx_tup ha) (kit_tuple _ (by decide)) ?_
    walk_at "hd"
    refine ifF (by decide) ?_
    walk_at "hd"
    refine c_lenT ha ?_
    walk_at "hd"
    refine ifF (by simp; omega) ?_
    walk_at "hd"
    unfold tFor iEnumT
    walk_at "hd"
    refine ⟨a, xs, rfl, ha, ?_⟩
    refine for_it walk_N (fun i σ H' => ∃ u1 u2, σ = [some (.int n), some (.int 1), some (.ref a), u1, u2] ∧ Same H H') ⟨none, none, rfl, Same.refl _⟩ (fun i σ H' _ ⟨_, _, _, e⟩ => Same.tup e ha) ?_ ?_
    · rintro i x σ H1 H' hi ⟨u1, u2, rfl, e⟩ y
      have e1 := yp_same y
      obtain ⟨T0, x1, y1, rfl, hT, rfl, hx1, hy1⟩ := y
      have hx1 : some (V.int (i : Nat)) = some x1 := hx1
      cases hx1
      have hy1 : xs[i]? = some y1 := hy1
      refine g_two (SqT.of upd_same) ?_
      have hi2 : i < gs.length := by omega
      obtain ⟨z, hz, hdz⟩ := dpAll_get (i := i) (d := shD n gs[i]) hx (by rw [List.getElem?_map, List.getElem?_eq_getElem hi2]; rfl)
      rw [hz] at hy1
      cases hy1
      show tIfS _ _ _ _ _ _
      walk_at "hd"
      refine ⟨n, _, gs[i], rfl, dp_same (e.trans e1) hdz, hn, hg _ (List.getElem_mem _), fun H2 e2 => ?_⟩
      walk_at "hd"
      refine ifF rfl ?_
      exact ⟨_, _, rfl, (e.trans e1).trans e2⟩
    · rintro σ H' ⟨u1, u2, rfl, e⟩
      walk_at "hd"
      exact k H' e
/-! ### tuples glued and cut -/
theorem c_catA {H : Hp} {Q : VK} {a b : Addr} {xs ys : List V} (h1 : SqT K H a xs) (h2 : SqT K H b ys) (z : xs.length + ys.length ≤ 1000) (q : ∀ p H', Same H H' → SqT K H' p (xs ++ ys) → Q (.ref p) H') : rCatA K (.ref a) (.ref b) H Q :=
  ⟨a, b, xs, ys, rfl, rfl, h1, h2, Nat.le_trans z (by decide), fun e => q b H (Same.refl H) (by rw [e]; exact h2), fun _ e => q a H (Same.refl H) (by rw [e, List.append_nil]; exact h1), fun _ _ p hp => q p _ (Same.new hp) (SqT.of upd_same)⟩
theorem c_slA {H : Hp} {Q : VK} {a : Addr} {xs : List V} {lo hi : Option Int} (h1 : SqT K H a xs) (q : ∀ p H', Same H H' → SqT K H' p (cutV xs lo hi) → Q (.ref p) H') : rSlA K (.ref a) lo hi H Q := by
  refine ⟨a, xs, rfl, h1, fun e => q a H (Same.refl H) ?_, fun _ p hp => q p _ (Same.new hp) (SqT.of upd_same)⟩
  have e2 : cutV xs lo hi = xs := by
    unfold cutV
    rw [e.1, e.2]
    simp
  rw [e2]
  exact h1
theorem cut_lo {xs : List V} {q : Nat} (h : q ≤ xs.length) : cutV xs none (some (q : Int)) = xs.take q := by
  unfold cutV
  rw [HT.sIx_none, HT.sIx_nat, List.drop_zero, Nat.sub_zero, Nat.min_eq_left h]
theorem cut_hi {xs : List V} {q : Nat} (h : q ≤ xs.length) : cutV xs (some (q : Int)) none = xs.drop q := by
  unfold cutV
  rw [HT.sIx_none, HT.sIx_nat, Nat.min_eq_left h]
  exact List.take_of_length_le (by simp)
theorem c_sl {r : V → Option Int → Option Int → Hp → VK → Prop} {te : TE} {tl th : TO} {σ : L2.St} {H : Hp} {Q : VK} (h : te σ H fun x H1 => tl σ H1 fun l H2 => th σ H2 fun u H3 => r x l u H3 Q) : tSl r te tl th σ H Q := h
theorem c_noP {σ : L2.St} {H : Hp} {R : Option Int → Hp → Prop} (h : R none H) : tNoPart σ H R := h
theorem c_part {te : TE} {σ : L2.St} {H : Hp} {R : Option Int → Hp → Prop} (h : te σ H fun x H1 => ∃ i, x = .int i ∧ R (some i) H1) : tPart te σ H R := h
def spPaid (K : PySem.W.Frag) : Sp := fun vs H Q _ => ∃ (v : V) (n q : Nat) (d : Nat → Int), vs = [v, .int q] ∧ Dp K H v (dbD n d) ∧ q < n ∧ n ≤ 12 ∧ ∀ v' H', Same H H' → Dp K H' v' (dbD n fun i => d i - ex (q : Int) i) → Q v' H'
theorem ok_paid (T : Txt K mg) : Cal P w K mg base CX0 4 "paid" ["debts", "person"] (spPaid K) := by
  have c1 := ok_minus (P := P) (w := w) (base := base) T
  refine in_paid T (fun vs H Q E h => ?_) (fun cdv A outer s H vs Q E hr h => ?_)
  · obtain ⟨v, n, q, d, rfl, _⟩ := h
    rfl
  · obtain ⟨v, n, q, d, rfl, hv, hq, hn, k⟩ := h
    obtain ⟨a, xs, rfl, ha, hxs⟩ := dp_tup hv
    have hl : xs.length = n := by simpa using dpAll_len hxs
    obtain ⟨x, hx, hdx⟩ := dpAll_get (i := q) (d := frD (d q)) hxs (by rw [List.getElem?_map, List.getElem?_range hq]; rfl)
    refine ⟨_, pss_one (ps_ret (pe_op op_catA (pe_op op_catA (pe_slice sl_tupA (pv 0) po_none (po_some (pv 1))) (pe_tupS (pa_cons (pe_cal c1 hr (by rfl) (pa_cons (pe_ix (ixT K) (pv 0) (pv 1) (fun _ _ => rfl)) (pa_cons (pe_glob (v := .ref (He.ga K "ONE")) (by rfl) T.g_ONE rfl) pa_nil))) pa_nil)))
      (pe_slice sl_tupA (pv 0) (po_some (pe_op op_add (pv 1) pe_int)) po_none))), ?_⟩
    walk_at "in"
    refine c_sl ?_
    walk_at "hd"
    refine c_noP (c_part ?_)
    walk_at "hd"
    refine ⟨_, rfl, c_slA ha fun p1 H1 e1 h1 => ?_⟩
    rw [cut_lo (by omega)] at h1
    walk_at "hd"
    refine c_ixT (Same.tup e1 ha) (atI_nat hx) ?_
    walk_at "hd"
    refine ⟨x, _, d q, 27720, 1, 1, rfl, dp_same e1 hdx, T.one H1, by decide, by decide, by decide, fun v2 H2 e2 hv2 => ?_⟩
    walk_at "hd"
    refine ⟨rfl, fun p3 H3 e3 _ h3 => ?_⟩
    refine c_catA (Same.tup (e2.trans e3) h1) (SqT.of h3) (by simp; omega) fun p4 H4 e4 h4 => ?_
    refine c_sl ?_
    have e14 := ((e1.trans e2).trans e3).trans e4
    walk_at "hd"
    refine c_part ?_
    walk_at "hd"
    have eq1 : ((q : Int) + 1) = ((q + 1 : Nat) : Int) := by omega
    refine ⟨_, rfl, c_noP (c_slA (Same.tup e14 ha) fun p5 H5 e5 h5 => ?_)⟩
    rw [eq1, cut_hi (by omega)] at h5
    refine c_catA (Same.tup e5 h4) h5 (by simp; omega) fun p6 H6 e6 h6 => ?_
    have e2' := (((e3.trans e4).trans e5).trans e6)
    have eAll := ((e1.trans e2).trans e2')
    refine k _ _ eAll (.tup h6 ?_)
    -- the data, piece by piece
    have hall := dpAll_same eAll hxs
    have key : ∀ (l1 : List V) (l2 : List PyData), DpAll K H6 l1 l2 → ∀ m, DpAll K H6 (l1.take m) (l2.take m) ∧ DpAll K H6 (l1.drop m) (l2.drop m) := by
      intro l1 l2 h
      induction l1 generalizing l2 with
      | nil => cases h; intro m; simp only [List.take_nil, List.drop_nil]; exact ⟨.nil, .nil⟩
      | cons a r ih =>
        cases h with
        | cons h1 h2 =>
          intro m
          cases m with
          | zero => exact ⟨.nil, .cons h1 h2⟩
          | succ m => exact ⟨.cons h1 (ih _ h2 m).1, (ih _ h2 m).2⟩
    have r1 := (key _ _ hall q).1
    have r2 := (key _ _ hall (q + 1)).2
    have r3 : DpAll K H6 [v2] [frD (d q - 27720)] := .cons (dp_same e2' (by rw [Int.neg_mul, Int.one_mul, ← Int.sub_eq_add_neg] at hv2; exact hv2)) .nil
    have rr := dpAll_append (dpAll_append r1 r3) r2
    have ed : ((List.range n).map fun i => frD (d i - ex (q : Int) i)) = ((List.range n).map fun i => frD (d i)).take q ++ [frD (d q - 27720)] ++ ((List.range n).map fun i => frD (d i)).drop (q + 1) := by
      apply List.ext_getElem?
      intro i
      by_cases hi : i < n
      · rw [List.getElem?_map, List.getElem?_range hi]
        have len1 : (((List.range n).map fun i => frD (d i)).take q).length = q := by simp; omega
        rcases Nat.lt_trichotomy i q with c | c | c
        · rw [List.append_assoc, List.getElem?_append_left (by rw [len1]; exact c), List.getElem?_take_of_lt c, List.getElem?_map, List.getElem?_range hi]
          have : ex (q : Int) i = 0 := if_neg (by omega)
          simp [this]
        · subst c
          rw [List.append_assoc, List.getElem?_append_right (by rw [len1]; exact Nat.le_refl _), len1]
          have : ex (i : Int) i = 27720 := if_pos rfl
          simp [this]
        · rw [List.append_assoc, List.getElem?_append_right (by rw [len1]; omega), len1]
          have : ex (q : Int) i = 0 := if_neg (by omega)
          obtain ⟨j, rfl⟩ : ∃ j, i = q + 1 + j := ⟨i - (q + 1), by omega⟩
          have e1 : q + 1 + j - q = j + 1 := by omega
          rw [e1]
          simp [this, List.getElem?_drop, List.getElem?_range hi]
      · rw [List.getElem?_eq_none (by simp; omega), List.getElem?_eq_none (by simp; omega)]
    rw [ed]
    exact rr
end
end Hd
end
section
set_option Elab.async false
set_option linter.all false
set_option maxRecDepth 100000
set_option maxHeartbeats 4000000
namespace Hd
open PySem PySem.Spec PyProof.Rows L2
/-- all but these stays -/
def ButS (S : List Addr) (H H' : Hp) : Prop := ∀ a o, a ∉ S → H a = some o → H' a = some o
theorem ButS.refl (S : List Addr) (H : Hp) : ButS S H H := fun _ _ _ h => h
theorem Same.buts {S : List Addr} {H H' : Hp} (e : Same H H') : ButS S H H' := fun a o _ h => e a o h
theorem ButS.trans {S : List Addr} {H H1 H2 : Hp} (a : ButS S H H1) (b : ButS S H1 H2) : ButS S H H2 := fun x o n h => b x o n (a x o n h)
theorem ButS.upd {S : List Addr} {H : Hp} {p : Addr} {o : HO} (h : p ∈ S) : ButS S H (upd H p o) := fun a u n e => by
  rw [upd_ne (fun z => n (by rw [z]; exact h))]
  exact e
theorem ButS.mono {S S' : List Addr} {H H' : Hp} (a : ButS S H H') (h : ∀ x ∈ S, x ∈ S') : ButS S' H H' := fun x o n e => a x o (fun z => n (h x z)) e
def mutB : HO → Bool
  | .lst _ => true
  | .ins _ _ _ => true
  | _ => false
/-- the written addresses hold lists and instances -/
def Muts (S : List Addr) (H : Hp) : Prop := ∀ a ∈ S, ∃ u, H a = some u ∧ mutB u = true
theorem Muts.not {S : List Addr} {H : Hp} {a : Addr} {o : HO} (m : Muts S H) (h : H a = some o) (k : mutB o = false) : a ∉ S := fun z => by
  obtain ⟨u, hu, hm⟩ := m a z
  rw [h] at hu
  cases hu
  rw [k] at hm
  cases hm
theorem ButS.tup {K : PySem.W.Frag} {S : List Addr} {H H' : Hp} {a : Addr} {xs : List V} (e : ButS S H H') (hp : Muts S H) (h : SqT K H a xs) : SqT K H' a xs := by
  rcases h with (h | ⟨o, h⟩) | h
  · exact .inl (.inl (e _ _ (hp.not h rfl) h))
  · exact .inl (.inr ⟨o, e _ _ (hp.not h rfl) h⟩)
  · exact .inr h
mutual
theorem dp_buts {K : PySem.W.Frag} {S : List Addr} {H H' : Hp} (e : ButS S H H') (hp : Muts S H) : ∀ {v : V} {d : PyData}, noL d = true → Dp K H v d → Dp K H' v d
  | _, _, _, .non => .non
  | _, _, _, .bl b => .bl b
  | _, _, _, .int i => .int i
  | _, _, _, .str x => .str x
  | _, _, n, .lst h1 h2 => nomatch n
  | _, _, n, .tup h1 h2 => .tup (e.tup hp h1) (dpAll_buts e hp n h2)
theorem dpAll_buts {K : PySem.W.Frag} {S : List Addr} {H H' : Hp} (e : ButS S H H') (hp : Muts S H) : ∀ {vs : List V} {ds : List PyData}, noLs ds = true → DpAll K H vs ds → DpAll K H' vs ds
  | _, _, _, .nil => .nil
  | _, _, n, .cons h t => .cons (dp_buts e hp (Bool.and_eq_true_iff.mp n).1 h) (dpAll_buts e hp (Bool.and_eq_true_iff.mp n).2 t)
end
/-! ### the dealer -/
def dlF (a l : Addr) (t : Int) : List (Str × V) := [("kept_debts", .ref a), ("kept_things", .ref l), ("kept_beats", .int t)]
structure DlAt (K : PySem.W.Frag) (p l : Addr) (H : Hp) (n : Nat) (d : Nat → Int) : Prop where
  ex : ∃ (dx a : Addr) (ts : List Int) (t : Int), H p = some (.ins (He.ga K "Dealer") dx (dlF a l t)) ∧ H l = some (.lst (ts.map V.int)) ∧ ts.length = n ∧ Dp K H (.ref a) (dbD n d)
theorem DlAt.muts {K : PySem.W.Frag} {p l : Addr} {H : Hp} {n : Nat} {d : Nat → Int} (h : DlAt K p l H n d) : Muts [p, l] H := by
  obtain ⟨dx, a, ts, t, h1, h2, _⟩ := h.ex
  intro x hx
  rcases List.mem_cons.mp hx with rfl | hx
  · exact ⟨_, h1, rfl⟩
  · rw [List.mem_singleton] at hx
    subst hx
    exact ⟨_, h2, rfl⟩
theorem DlAt.same {K : PySem.W.Frag} {p l : Addr} {H H' : Hp} {n : Nat} {d : Nat → Int} (h : DlAt K p l H n d) (e : Same H H') : DlAt K p l H' n d := by
  obtain ⟨dx, a, ts, t, h1, h2, h3, h4⟩ := h.ex
  exact ⟨dx, a, ts, t, e _ _ h1, e _ _ h2, h3, dp_same e h4⟩
theorem DlAt.buts {K : PySem.W.Frag} {p l : Addr} {H H' : Hp} {n : Nat} {d : Nat → Int} {S : List Addr} (h : DlAt K p l H n d) (e : ButS S H H') (m : Muts S H) (np : p ∉ S) (nl : l ∉ S) : DlAt K p l H' n d := by
  obtain ⟨dx, a, ts, t, h1, h2, h3, h4⟩ := h.ex
  exact ⟨dx, a, ts, t, e _ _ np h1, e _ _ nl h2, h3, dp_buts e m (noL_db n d) h4⟩
theorem c_bta {A : Prop} (h : A) : A := h
section
variable {K : PySem.W.Frag} {σ : L2.St} {H : Hp} {Q : VK} {D : Ends} {ta tv te : TE} {f : Str} {y v : V} {a C dx : Addr} {fs : List (Str × V)} {P2 : Hp → Prop}
theorem c_sF (h : tv σ H fun y H1 => ta σ H1 fun x H2 => ∃ a C dx fs, x = .ref a ∧ H2 a = some (.ins C dx fs) ∧ Cls K C ∧ NoAttr K C f ∧ fs.length < 1000 ∧ D.nx σ (upd H2 a (.ins C dx (putF f y fs)))) : sFld K ta tv f D σ H := h
theorem c_put (e : H a = some (.ins C dx fs)) (c : Cls K C) (n : NoAttr K C f) (l : Nat.blt fs.length 1000 = true) (q : P2 (upd H a (.ins C dx (putF f y fs)))) :
    ∃ a' C' dx' fs', V.ref a = .ref a' ∧ H a' = some (.ins C' dx' fs') ∧ Cls K C' ∧ NoAttr K C' f ∧ fs'.length < 1000 ∧ P2 (upd H a' (.ins C' dx' (putF f y fs'))) := ⟨a, C, dx, fs, rfl, e, c, n, Nat.le_of_ble_eq_true l, q⟩
theorem c_tF (h : ta σ H fun x H1 => ∃ a C dx fs v, x = .ref a ∧ H1 a = some (.ins C dx fs) ∧ Cls K C ∧ NoAttr K C f ∧ fs.lookup f = some v ∧ Q v H1) : tFld K ta f σ H Q := h
theorem c_get {P3 : V → Prop} (e : H a = some (.ins C dx fs)) (c : Cls K C) (n : NoAttr K C f) (l : fs.lookup f = some v) (q : P3 v) :
    ∃ a' C' dx' fs' v', V.ref a = .ref a' ∧ H a' = some (.ins C' dx' fs') ∧ Cls K C' ∧ NoAttr K C' f ∧ fs'.lookup f = some v' ∧ P3 v' := ⟨a, C, dx, fs, v, rfl, e, c, n, l, q⟩
end
local macro_rules | `(tactic| walk_at "hd1") => `(tactic| (first
  | with_reducible refine c_seq ?_ | with_reducible refine c_ret ?_ | with_reducible refine c_asg ?_ | with_reducible refine c_drop ?_ | with_reducible refine c_next ?_ | with_reducible refine c_ifS ?_ | with_reducible refine c_par ?_
  | with_reducible refine c_var rfl ?_ | with_reducible refine c_c ?_ | with_reducible refine c_op ?_ | with_reducible refine c_un ?_ | with_reducible refine c_U ?_ | with_reducible refine c_I0 ?_
  | with_reducible refine c_test ?_ | with_reducible refine c_B ?_ | with_reducible refine c_bl ?_ | with_reducible refine c_eq rfl ?_ | with_reducible refine c_ne rfl ?_ | with_reducible refine c_chain ?_
  | with_reducible refine c_and ?_ | with_reducible refine c_or ?_ | with_reducible refine c_not ?_ | with_reducible refine c_andV ?_ | with_reducible refine c_orV ?_ | with_reducible refine c_notV ?_ | with_reducible refine c_ifE ?_
  | with_reducible refine c_call ?_ | with_reducible refine c_cb ?_ | with_reducible refine c_cons ?_ | with_reducible refine c_nil ?_ | with_reducible refine c_tup ?_ | with_reducible refine c_lst ?_ | with_reducible refine c_two ?_ | with_reducible refine c_e1 ?_ | with_reducible refine c_e2 ?_ | with_reducible refine c_int1 ?_ | with_reducible refine c_int1b ?_
  | with_reducible refine c_ixT (by assumption) rfl ?_ | with_reducible refine c_ixL (by assumption) rfl ?_
  | with_reducible refine c_sF ?_ | with_reducible refine c_tF ?_ | with_reducible refine c_tupS ?_ | with_reducible refine c_lstS ?_ | with_reducible refine c_then ?_ | with_reducible refine c_lc ?_ | with_reducible refine c_rng1 ?_ | with_reducible refine c_rng2 ?_ | with_reducible refine c_list ?_
  | with_reducible refine c_I (by assumption) ?_))
local macro_rules | `(tactic| walk_at "hd") => `(tactic| repeat (walk_at "hd1"))
local macro_rules | `(tactic| walk_at "in") => `(tactic| ((try dsimp only [cxOf]); walk_at "hd"))
section
variable {P : Program} {w : World} {K : PySem.W.Frag} {mg : Str → Option Value} {base : Heap}
abbrev CD (K : PySem.W.Frag) : Addr := He.ga K "Dealer"
def spInit (K : PySem.W.Frag) : Sp := fun vs H Q _ => ∃ (x dx : Addr) (n : Nat), vs = [.ref x, .int n] ∧ 1 ≤ n ∧ n ≤ 12 ∧ H x = some (.ins (CD K) dx []) ∧ ∀ l H', ButS [x] H H' → H l = none → DlAt K x l H' n (fun _ => 0) → Q .non H'
theorem ok_Dealer_init (T : Txt K mg) : CalM P w K mg base CX0 4 (CD K) "__init__" ["self", "n"] (spInit K) := by
  have c1 := ok_check_people (P := P) (w := w) (base := base) T
  refine in_Dealer_init T (fun vs H Q E h => ?_) (fun cdv A outer s H vs Q E hr h => ?_)
  · obtain ⟨x, dx, n, rfl, _⟩ := h
    rfl
  · obtain ⟨x, dx, n, rfl, h1, h2, hx, k⟩ := h
    refine ⟨_, pss_cons (ps_expr (pe_cal c1 (hr.mono (by decide)) (by rfl) (pa_cons (pv 1) pa_nil)))
      (pss_cons (ps_fld (pv 0) (pe_op op_rep1 (pe_tupS (pa_cons (pe_glob (v := .ref (He.ga K "NOUGHT")) (by rfl) T.g_NOUGHT rfl) pa_nil)) (pv 1)) (by rfl))
      (pss_cons (ps_fld (pv 0) (pe_op op_rep (pe_lstS (pa_cons pe_int pa_nil)) (pv 1)) (by rfl))
      (pss_one (ps_fld (pv 0) pe_int (by rfl))))), ?_⟩
    walk_at "in"
    refine ⟨_, rfl, by omega, by omega, ?_⟩
    walk_at "hd"
    refine ⟨rfl, fun p1 H1 e1 _ hp1 => ?_⟩
    walk_at "hd"
    refine ⟨p1, n, _, rfl, rfl, SqT.of hp1, by omega, by omega, fun p2 H2 e2 hp2 => ?_⟩
    walk_at "hd"
    have hx2 := e2 _ _ (e1 _ _ hx)
    refine c_put hx2 T.cls T.a_kept_debts rfl ?_
    walk_at "hd"
    walk_at "hd"
    refine ⟨rfl, fun p3 H3 e3 n3 hp3 => ?_⟩
    walk_at "hd"
    refine ⟨p3, n, _, rfl, rfl, hp3, by omega, by omega, Nat.le_trans (show _ ≤ 1000 by simp; omega) (by decide), fun l hl => ?_⟩
    walk_at "hd"
    have hx3 := (Same.new (o := .lst (List.replicate (n : Int).toNat [V.int 0]).flatten) hl) _ _ (e3 _ _ upd_same)
    refine c_put hx3 T.cls T.a_kept_things rfl ?_
    walk_at "hd"
    walk_at "hd"
    refine c_put upd_same T.cls T.a_kept_beats rfl ?_
    have lx : l ≠ x := fun z => by
      subst z
      have := e3 _ _ upd_same
      rw [hl] at this
      cases this
    have nl : H l = none := by
      cases hh : H l with
      | none => rfl
      | some u =>
        have h5 := e2 _ _ (e1 _ _ hh)
        have h6 : upd H2 x (.ins (CD K) dx (putF "kept_debts" (.ref p2) [])) l = some u := by rw [upd_ne lx]; exact h5
        have h7 := e3 _ _ h6
        rw [hl] at h7
        cases h7
    have b1 : ButS [x] H H3 := ((Same.buts (e1.trans e2)).trans (ButS.upd List.mem_cons_self)).trans (Same.buts e3)
    have b2 : ButS [x] H2 H3 := (ButS.upd List.mem_cons_self).trans (Same.buts e3)
    refine k l _ ((b1.trans (Same.buts (Same.new hl))).trans ((ButS.upd List.mem_cons_self).trans (ButS.upd List.mem_cons_self))) nl ⟨⟨dx, p2, List.replicate n 0, 0, upd_same, ?_, by simp, ?_⟩⟩
    · rw [upd_ne lx, upd_ne lx, upd_same]
      congr 2
      rw [List.map_replicate]
      have e : ∀ m : Nat, (List.replicate m [V.int 0]).flatten = List.replicate m (V.int 0) := fun m => by
        induction m with
        | zero => rfl
        | succ m ih => rw [List.replicate_succ, List.flatten_cons, ih, List.replicate_succ]; rfl
      rw [e]
      rfl
    · have h8 : SqT K H3 p2 (List.replicate n (.ref (He.ga K "NOUGHT"))) := b2.tup (fun a ha => by rw [List.mem_singleton] at ha; subst ha; exact ⟨_, hx2, rfl⟩) hp2
      have m9 : Muts [x] (upd H3 l (.lst (List.replicate (n : Int).toNat [V.int 0]).flatten)) := fun a ha => by rw [List.mem_singleton] at ha; subst ha; exact ⟨_, hx3, rfl⟩
      have h9 := ((ButS.upd (S := [x]) (p := x) (o := .ins (CD K) dx (putF "kept_things" (.ref l) (putF "kept_debts" (.ref p2) []))) List.mem_cons_self).trans (ButS.upd (p := x) (o := .ins (CD K) dx (putF "kept_beats" (.int 0) (putF "kept_things" (.ref l) (putF "kept_debts" (.ref p2) [])))) List.mem_cons_self)).tup m9 (Same.tup (Same.new hl) h8)
      refine .tup h9 ?_
      have z : ∀ (HH : Hp) (m : Nat), DpAll K HH (List.replicate m (V.ref (He.ga K "NOUGHT"))) ((List.range m).map fun _ => frD 0) := fun HH m => by
        have e : ((List.range m).map fun _ => frD 0) = List.replicate m (frD 0) := by
          rw [List.map_const']
          simp
        rw [e]
        induction m with
        | zero => exact .nil
        | succ m ih => 
          refine .cons (fr_mk ?_) (ih (by rw [List.map_const']; simp))
          rw [nu0, de0]
          exact T.nought HH
      exact z _ n
def spDebts (K : PySem.W.Frag) : Sp := fun vs H Q _ => ∃ (p l : Addr) (n : Nat) (d : Nat → Int), vs = [.ref p] ∧ DlAt K p l H n d ∧ ∀ a, Dp K H (.ref a) (dbD n d) → Q (.ref a) H
theorem ok_Dealer_debts (T : Txt K mg) : CalM P w K mg base CX0 1 (CD K) "debts" ["self"] (spDebts K) := by
  refine in_Dealer_debts T (fun vs H Q E h => ?_) (fun cdv A outer s H vs Q E hr h => ?_)
  · obtain ⟨p, l, n, d, rfl, _⟩ := h
    rfl
  · obtain ⟨p, l, n, d, rfl, hd, k⟩ := h
    obtain ⟨dx, a, ts, t, h1, h2, h3, h4⟩ := hd.ex
    refine ⟨_, pss_one (ps_ret (pe_fld (pv 0) (by rfl))), ?_⟩
    walk_at "in"
    refine c_get h1 T.cls T.a_kept_debts rfl ?_
    exact k a h4
def spChk (K : PySem.W.Frag) : Sp := fun vs H Q _ => ∃ (p l : Addr) (v : V) (n : Nat) (d : Nat → Int) (g : List Int), vs = [.ref p, v] ∧ DlAt K p l H n d ∧ Dp K H v (shD n g) ∧ n ≤ 12 ∧ GSh n g ∧ ∀ H', Same H H' → Q .non H'
theorem ok_Dealer_check_shares (T : Txt K mg) : CalM P w K mg base CX0 4 (CD K) "check_shares" ["self", "shares"] (spChk K) := by
  have c1 := ok_are_shares (P := P) (w := w) (base := base) T
  refine in_Dealer_check_shares T (fun vs H Q E h => ?_) (fun cdv A outer s H vs Q E hr h => ?_)
  · obtain ⟨p, l, v, n, d, g, rfl, _⟩ := h
    rfl
  · obtain ⟨p, l, v, n, d, g, rfl, hd, hv, hn, hg, k⟩ := h
    obtain ⟨dx, a, ts, t, h1, h2, h3, h4⟩ := hd.ex
    obtain ⟨a', xs, e, ha, hl, _⟩ := db_of h4
    cases e
    refine ⟨_, pss_one (ps_if (pt_not (pt_val (pe_cal c1 hr (by rfl) (pa_cons (pe_callB (clLen K) (by rfl) T.n_len bo_len (pa_cons (pe_fld (pv 0) (by rfl)) pa_nil)) (pa_cons pe_int (pa_cons (pv 1) pa_nil)))))) (pss_one ps_never) pss_nil), ?_⟩
    walk_at "in"
    refine c_get h1 T.cls T.a_kept_debts rfl ?_
    walk_at "hd"
    refine c_lenT ha ?_
    rw [hl]
    walk_at "hd"
    refine ⟨n, v, g, rfl, hv, hn, hg, fun H' e => ?_⟩
    walk_at "hd"
    exact ifF rfl (k H' e)
def spGive (K : PySem.W.Frag) : Sp := fun vs H Q _ => ∃ (p l : Addr) (v : V) (q n : Nat) (d : Nat → Int) (g : List Int), vs = [.ref p, v, .int q] ∧ DlAt K p l H n d ∧ Dp K H v (shD n g) ∧ n ≤ 12 ∧ q < n ∧ GSh n g ∧
  ∀ H', ButS [p, l] H H' → DlAt K p l H' n (fun i => d i + sh g i - ex (q : Int) i) → Q .non H'
theorem ok_Dealer_give (T : Txt K mg) : CalM P w K mg base CX0 5 (CD K) "give" ["self", "shares", "person"] (spGive K) := by
  have c1 := ok_with_shares (P := P) (w := w) (base := base) T
  have c2 := ok_paid (P := P) (w := w) (base := base) T
  refine in_Dealer_give T (fun vs H Q E h => ?_) (fun cdv A outer s H vs Q E hr h => ?_)
  · obtain ⟨p, l, v, q, n, d, g, rfl, _⟩ := h
    rfl
  · obtain ⟨p, l, v, q, n, d, g, rfl, hd, hv, hn, hq, hg, k⟩ := h
    obtain ⟨dx, a, ts, t, h1, h2, h3, h4⟩ := hd.ex
    have hm := hd.muts
    refine ⟨_, pss_cons (ps_fld (pv 0) (pe_cal c2 hr (by rfl) (pa_cons (pe_cal c1 hr (by rfl) (pa_cons (pe_fld (pv 0) (by rfl)) (pa_cons (pv 1) pa_nil))) (pa_cons (pv 2) pa_nil))) (by rfl))
      (pss_cons (ps_augS (pe_fld (pv 0) (by rfl)) (pv 2) get_list pe_int ip_add set_list)
      (pss_one (ps_fldaug (pv 0) pe_int in_add))), ?_⟩
    have lp : l ≠ p := ne_of h2 h1 (by intro z; cases z)
    walk_at "in"
    refine c_get h1 T.cls T.a_kept_debts rfl ?_
    walk_at "hd"
    refine ⟨_, _, n, d, g, rfl, h4, hv, hn, hg.pos, hg.le, fun v1 H1 e1 hv1 => ?_⟩
    walk_at "hd"
    refine ⟨_, n, q, _, rfl, hv1, hq, hn, fun v2 H2 e2 hv2 => ?_⟩
    obtain ⟨a2, xs2, rfl, _, _⟩ := db_of hv2
    walk_at "hd"
    refine c_put (e2 _ _ (e1 _ _ h1)) T.cls T.a_kept_debts rfl ?_
    walk_at "hd"
    unfold tAugS
    walk_at "hd"
    refine c_get upd_same T.cls T.a_kept_things rfl ?_
    walk_at "hd"
    have hl3 : ts[q]? = some (ts[q]'(by omega)) := List.getElem?_eq_getElem (by omega)
    have hl4 : ∀ HH : Hp, HH l = some (.lst (ts.map V.int)) → SqL K HH l (ts.map V.int) := fun HH e => SqL.of e
    have hl2 : (upd H2 p (HO.ins (He.ga K "Dealer") dx (putF "kept_debts" (V.ref a2) (dlF a l t)))) l = some (.lst (ts.map V.int)) := by
      rw [upd_ne lp]
      exact e2 _ _ (e1 _ _ h2)
    refine ⟨l, _, q, .int (ts[q]'(by omega)), rfl, rfl, hl4 _ hl2, by omega, by rw [List.getElem?_map, Int.toNat_natCast, hl3]; rfl, ?_⟩
    walk_at "hd"
    refine ⟨_, _, rfl, rfl, ?_⟩
    refine ⟨l, _, q, q, rfl, rfl, hl2, ?_, ?_⟩
    · unfold ixN
      rw [if_pos (by omega), if_pos (by rw [List.length_map]; omega), Int.toNat_natCast]
    · unfold sFldAug
      simp only []
      walk_at "hd"
      have hp5 := upd_ne (H := upd H2 p (.ins (He.ga K "Dealer") dx (putF "kept_debts" (V.ref a2) (dlF a l t)))) (o := .lst ((ts.map V.int).set q (V.int (ts[q]'(by omega) + 1)))) lp.symm
      rw [upd_same] at hp5
      refine ⟨p, _, dx, _, _, rfl, hp5, T.cls, T.a_kept_beats, rfl, ?_⟩
      walk_at "hd"
      refine ⟨_, _, rfl, rfl, dx, _, hp5, by show 3 < 1000; decide, ?_⟩
      walk_at "hd"
      have m1 : p ∈ [p, l] := List.mem_cons_self
      have m2 : l ∈ [p, l] := List.mem_cons_of_mem _ List.mem_cons_self
      have b2 := ((ButS.upd (H := H2) (o := .ins (He.ga K "Dealer") dx (putF "kept_debts" (V.ref a2) (dlF a l t))) m1).trans (ButS.upd (o := .lst ((ts.map V.int).set q (V.int (ts[q]'(by omega) + 1)))) m2)).trans
        (ButS.upd (o := .ins (He.ga K "Dealer") dx (putF "kept_beats" (.int (t + 1)) (putF "kept_debts" (V.ref a2) (dlF a l t)))) m1)
      refine k _ ((Same.buts (e1.trans e2)).trans b2) ⟨⟨dx, a2, ts.set q (ts[q]'(by omega) + 1), t + 1, upd_same, ?_, by rw [List.length_set]; exact h3, ?_⟩⟩
      · rw [upd_ne lp, upd_same, List.map_set]
      · refine dp_buts b2 ?_ (noL_db _ _) hv2
        intro x hx
        obtain ⟨u, hu, hm2⟩ := hm x hx
        exact ⟨u, e2 _ _ (e1 _ _ hu), hm2⟩
theorem ok_Dealer_deal (T : Txt K mg) : CalM P w K mg base CX0 6 (CD K) "deal" ["self", "shares", "person"] (spGive K) := by
  have c1 := ok_Dealer_check_shares (P := P) (w := w) (base := base) T
  have c2 := ok_is_within (P := P) (w := w) (base := base) T
  have c3 := ok_Dealer_give (P := P) (w := w) (base := base) T
  refine in_Dealer_deal T (fun vs H Q E h => ?_) (fun cdv A outer s H vs Q E hr h => ?_)
  · obtain ⟨p, l, v, q, n, d, g, rfl, _⟩ := h
    rfl
  · obtain ⟨p, l, v, q, n, d, g, rfl, hd, hv, hn, hq, hg, k⟩ := h
    refine ⟨_, pss_cons (ps_expr (pe_calM c1 T.cls T.m_check_shares (hr.mono (by decide)) (pv 0) (pa_cons (pv 1) pa_nil)))
      (pss_cons (ps_if (pt_not (pt_val (pe_cal c2 (hr.mono (by decide)) (by rfl) (pa_cons (pv 2) (pa_cons pe_int (pa_cons (pe_op op_sub (pe_callB (clLen K) (by rfl) T.n_len bo_len (pa_cons (pe_fld (pv 0) (by rfl)) pa_nil)) pe_int) pa_nil)))))) (pss_one ps_never) pss_nil)
      (pss_one (ps_expr (pe_calM c3 T.cls T.m_give hr (pv 0) (pa_cons (pv 1) (pa_cons (pv 2) pa_nil)))))), ?_⟩
    obtain ⟨dx, a, ts, t, h1, h2, h3, h4⟩ := hd.ex
    walk_at "in"
    unfold tMeth
    walk_at "hd"
    refine ⟨p, dx, _, rfl, h1, rfl, ?_⟩
    walk_at "hd"
    refine ⟨p, l, v, n, d, g, rfl, hd, hv, hn, hg, fun H1 e1 => ?_⟩
    obtain ⟨a', xs, ea, ha, hl, _⟩ := db_of h4
    cases ea
    walk_at "hd"
    refine c_get (e1 _ _ h1) T.cls T.a_kept_debts rfl ?_
    walk_at "hd"
    refine c_lenT (Same.tup e1 ha) ?_
    rw [hl]
    walk_at "hd"
    refine ⟨_, some _, _, _, rfl, rfl, ?_⟩
    rw [inR_yes (by omega) (by omega)]
    walk_at "hd"
    refine ifF rfl ?_
    walk_at "hd"
    refine ⟨p, dx, _, rfl, e1 _ _ h1, rfl, ?_⟩
    walk_at "hd"
    refine ⟨p, l, v, q, n, d, g, rfl, hd.same e1, dp_same e1 hv, hn, hq, hg, fun H2 e2 hd2 => ?_⟩
    exact k H2 ((Same.buts e1).trans e2) hd2
end
end Hd
end
section
set_option Elab.async false
set_option linter.all false
set_option maxRecDepth 100000
set_option maxHeartbeats 4000000
/-! HdLam: a lambda of one parameter, told of its maker's names; its call in the def that got it. -/
namespace Hd
open PySem PySem.Spec PyProof.Rows L2
/-- one parameter a, else captured names and globals -/
structure LamP (sc scope : Scope) (a : Str) : Prop where
  kind : scope.kind = .function
  co : scope.isCoroutine = false
  gen : scope.isGenerator = false
  own : ∀ y ∈ scope.names, y.2 ≠ .cell ∧ (y.2 = .local → y.1 = a)
  par : scope.names.lookup a = some .local
  free : ∀ y ∈ scope.names, y.2 = .free → sc.names.lookup y.1 = some .cell ∨ sc.names.lookup y.1 = some .free
def lamPB (sc scope : Scope) (a : Str) : Bool :=
  (decide (scope.kind = .function) && !scope.isCoroutine && !scope.isGenerator && decide (scope.names.lookup a = some .local)) &&
    scope.names.all fun y => !decide (y.2 = .cell) && (!decide (y.2 = .local) || decide (y.1 = a)) && (!decide (y.2 = .free) || decide (sc.names.lookup y.1 = some .cell) || decide (sc.names.lookup y.1 = some .free))
theorem lamP_by {sc scope : Scope} {a : Str} (h : lamPB sc scope a = true) : LamP sc scope a := by
  unfold lamPB at h
  simp only [Bool.and_eq_true, Bool.or_eq_true, Bool.not_eq_true', decide_eq_true_eq, decide_eq_false_iff_not, List.all_eq_true] at h
  obtain ⟨⟨⟨⟨h1, h2⟩, h3⟩, h5⟩, h4⟩ := h
  refine ⟨h1, h2, h3, fun y hy => ⟨(h4 y hy).1.1, fun e => (h4 y hy).1.2.resolve_left (fun z => z e)⟩, h5, fun y hy e => ?_⟩
  rcases (h4 y hy).2 with (z | z) | z
  · exact absurd e z
  · exact .inl z
  · exact .inr z
theorem LamP.has {X : Cx} {scope : Scope} {a : Str} (L : LamP X.env.scope scope a) (ok : X.Ok) : ∀ y ∈ scope.names, y.2 = .free → ∃ c, X.env.cells.lookup y.1 = some c := fun y hy e => by
  rcases L.free y hy e with k | k
  · exact ok.has _ (.inl k)
  · exact ok.has _ (.inr k)
/-- the context of its body -/
def lamCxP (X : Cx) (A : Around) (outer : List Env) (s : Shared) (H : Hp) (E : XK) (scope : Scope) (f c' : Addr) (a : Str) : Cx where
  prog := X.prog
  w := X.w
  K := X.K
  mg := X.mg
  base := X.base
  A := A.deeper (LamX.lamEnv X scope s.heap.objs.size f c')
  N := X.N ++ [a]
  s_0 := s
  H_0 := H
  env := LamX.lamEnv X scope s.heap.objs.size f c'
  outer := outer
  stack := LamX.lamEnv X scope s.heap.objs.size f c' :: outer
  ex := []
  fn := fun _ => false
  calm := true
  pn := []
  xe := fun e s' => wpAny (model X.prog X.w) (A.deeper (LamX.lamEnv X scope s.heap.objs.size f c')) (leaving (LamX.lamEnv X scope s.heap.objs.size f c') e) (fun _ s'' => L2.CX X.prog X.w outer H s E e s'') (fun e' s'' => L2.CX X.prog X.w outer H s E e' s'') s'
section
variable {X : Cx} {pins : List (Addr × Obj)} {σ : L2.St} {H HZ : Hp} {s s1 : Shared}
theorem lam_startP {A : Around} {outer : List Env} {E : XK} {scope : Scope} {f c' : Addr} {a : Str} {h₁ : Heap} {tk : Nat} {v : V} {u : Value} (I : Inv X pins σ H s) (L : LamP X.env.scope scope a) (hn : a ∉ X.N) (e0 : Env0 X.prog X.w X.K X.mg X.base A outer s1 HZ) (hd : A.handled = none)
    (un : Un (frs X.stack) [] H HZ s.heap s1.heap) (rv : RelV v u) (hns : h₁.Ns s1.heap.objs.size fun y => [(a, u)].reverse.lookup y) (kp : ∀ b o, s1.heap.get? b = some o → h₁.get? b = some o) :
    Inv (lamCxP X A outer s1 HZ E scope f c' a) [] (σ ++ [some v]) HZ { s1 with heap := h₁, toks := tk } := by
  have hfree := L.has I.ok
  have cm : ∀ {y c}, (cloFrom X.env.cells scope.names []).lookup y = some c → X.env.cells.lookup y = some c := fun {y c} e => by
    rcases cloFrom_mem (PySem.mem_of_lookup e) with hm | ⟨h1, h2⟩
    · cases hm
    · obtain ⟨c1, hc⟩ := hfree _ h1 rfl
      have hc : X.env.cells.lookup y = some c1 := hc
      have e2 : c = c1 := by
        rw [h2, hc] <;> rfl
      rw [e2]
      exact hc
  have look : ∀ {y}, scope.names.lookup y = some .free → ∃ c, (cloFrom X.env.cells scope.names []).lookup y = some c := fun {y} hl => by
    have hy : (y, NameKind.free) ∈ scope.names := PySem.mem_of_lookup hl
    exact mem_lookup (cloFrom_has (cells := X.env.cells) (acc := []) hy)
  have cellK : ∀ {c : Addr} {v : Option Value}, H c = none → s.heap.IsCell c v → h₁.IsCell c v := fun {c v} n ⟨o, ho, hd⟩ => by
    obtain ⟨sl, q⟩ := un.any ho n (by simp)
    exact ⟨_, kp _ _ q, hd⟩
  have noA : ∀ b : Addr, b ∉ (lamCxP X A outer s1 HZ E scope f c' a).ex := fun b z => absurd (show b ∈ ([] : List Addr) from z) (by simp)
  refine ⟨⟨e0.mod, L.kind, rfl, rfl, Nat.le_refl _, fun y z c e1 e2 => I.ok.inj y z c (cm e1) (cm e2), fun y hy => ?_, fun y c z _ => ?_, fun _ => hd, Around.frames_deeper e0.frames, .inr ⟨rfl, rfl⟩, fun b z => absurd z (noA b), e0.bs, e0.bsz, fun b _ _ => noA b,
      fun b z => absurd z (noA b), e0.funs, e0.frf⟩,
    rfl, e0.bare, Un.kept kp, ⟨_, hns, fun i y w e1 e2 e3 => ?_⟩, fun y c e => ?_, e0.hok.fresh (Nat.le_refl _), fun y c e => ?_, fun q hq => absurd (show q ∈ ([] : List (Addr × Obj)) ++ [] from hq) (by simp), e0.hok.kept kp, ?_⟩
  · have hy : scope.names.lookup y = some .cell ∨ scope.names.lookup y = some .free := hy
    rcases hy with hy | hy
    · exact absurd rfl (L.own _ (PySem.mem_of_lookup hy)).1
    · exact look hy
  · have z : false = true := z
    cases z
  · have e1 : (X.N ++ [a])[i]? = some y := e1
    have e3 : Vis scope y := e3
    by_cases hi : i < X.N.length
    · rw [List.getElem?_append_left hi] at e1
      rw [List.getElem?_append_left (by rw [I.len]; exact hi)] at e2
      have hya : y ≠ a := fun z => hn (by rw [← z]; exact List.mem_of_getElem? e1)
      rcases e3 with k | k | k
      · exact absurd ((L.own _ (PySem.mem_of_lookup k)).2 rfl) hya
      · exact absurd rfl (L.own _ (PySem.mem_of_lookup k)).1
      · obtain ⟨m, hn, hl⟩ := I.loc
        have hvis : Vis X.env.scope y := (L.free _ (PySem.mem_of_lookup k) rfl).elim (fun k => .inr (.inl k)) (fun k => .inr (.inr k))
        obtain ⟨w', r, q⟩ := hl i y w e1 e2 hvis
        obtain ⟨c2, h2⟩ := look k
        refine ⟨w', r, .inr ⟨.inr k, c2, h2, ?_⟩⟩
        have c1 := cm h2
        rcases q with ⟨k', _⟩ | ⟨_, c3, e', z⟩
        · have k' : X.env.scope.names.lookup y = some .local := k'
          rcases L.free _ (PySem.mem_of_lookup k) rfl with k2 | k2 <;> rw [show X.env.scope.names.lookup y = _ from k2] at k' <;> cases k'
        · rw [c1] at e'
          cases e'
          exact cellK (I.freeC y _ c1) z
    · have hi : X.N.length ≤ i := Nat.le_of_not_lt hi
      rw [List.getElem?_append_right hi] at e1
      rw [List.getElem?_append_right (by rw [I.len]; exact hi), I.len] at e2
      cases hj : i - X.N.length with
      | succ j =>
        rw [hj] at e1
        simp at e1
      | zero =>
        rw [hj] at e1 e2
        cases e1
        cases e2
        refine ⟨u, rv, .inl ⟨L.par, ?_⟩⟩
        simp
  · obtain ⟨w', z⟩ := I.cell y c (cm e)
    exact ⟨w', cellK (I.freeC y c (cm e)) z⟩
  · obtain ⟨v, o, ho, hd⟩ := I.cell y c (cm e)
    exact un.free c o ho (I.freeC y c (cm e)) (by simp)
  · show (σ ++ [some v]).length = (X.N ++ [a]).length
    rw [List.length_append, List.length_append, I.len]
    rfl
/-- x(e), in the def that got the lambda: Z is that def's context, entered at s -/
theorem pe_actP {CXg : CXT} {Eg : XK} {Ng : List Str} {qg : Str} {sg : Scope} {g f c' : Addr} {cdg pm ctv : Value} {params : Arguments} {body : Expr} {scope : Scope} {k i : Nat} {a b : Str} {W : WX} {E : XK} {tb : TE} {p1 p2 : Pos} {e : Expr} {ta : TA}
    (I : Inv X pins σ H s) (L : LamP X.env.scope scope b) (hn : b ∉ X.N) (hf : s.heap.get? f = some (PySem.W.kla_obj "<lambda>" (X.env.qual ++ "<lambda>") params body scope (cloFrom X.env.cells scope.names []) pm c' ctv)) (hfn : H f = none) (hfr : f ∉ frs X.stack)
    (hbind : ∀ u, bindArgs (PySem.W.kla_fn "<lambda>" (X.env.qual ++ "<lambda>") params body scope (cloFrom X.env.cells scope.names []) pm (.ref c') ctv) ⟨[u], []⟩ = pure [(b, u)])
    (tk : Takes (cxOf CXg X.prog X.w X.K X.mg X.base Ng qg sg g cdg X.A X.stack s H Eg) W) (hW : ∀ cls d σ' H', E cls d H' → W cls d σ' H') (hr : Room (k + 1) (X.A.deeper (envOfC qg sg s.heap.objs.size g cdg)))
    (hbody : ∀ (A : Around) (outer : List Env) (s : Shared) (H : Hp), Room k (A.deeper (LamX.lamEnv X scope s.heap.objs.size f c')) → PE (lamCxP X A outer s H E scope f c' b) body tb)
    (hN : Ng[i]? = some a) (hv : Vis sg a) (ha : PA (cxOf CXg X.prog X.w X.K X.mg X.base Ng qg sg g cdg X.A X.stack s H Eg) [e] ta) (hd : (a == ("__debug__" : Str)) = false := by decide) (hcd : (a == ("__classdict__" : Str)) = false := by decide)
    (hst : starEach [e] (envOfC qg sg s.heap.objs.size g cdg) = [(false, eval e (envOfC qg sg s.heap.objs.size g cdg))] := by rfl) :
    PE (cxOf CXg X.prog X.w X.K X.mg X.base Ng qg sg g cdg X.A X.stack s H Eg) (.Call (.Name a p1) [e] [] p2)
      (fun σZ HZ Q => σZ[i]? = some (some (.ref f)) ∧ ta σZ HZ fun vs H1 => ∃ v, vs = [v] ∧ H1 c' = some (LamX.CodeO c' (X.env.qual ++ "<lambda>")) ∧ tb (σ ++ [some v]) H1 Q) := by
  refine ⟨fun pinsZ sZ σZ HZ Q IZ h => ?_⟩
  obtain ⟨hs, ht⟩ := h
  refine wpAny_Call_Name_kw (thn ((pe_var (pos := p1) (i := i) hN hv hd hcd).run pinsZ sZ σZ HZ (fun v H1 => v = .ref f ∧ H1 = HZ) IZ ⟨.ref f, hs, rfl, rfl⟩) fun u s1 ⟨v, H1, I1, r1, q1⟩ => ?_)
  obtain ⟨ev, eH⟩ := q1
  subst ev
  rw [eH] at I1
  obtain rfl : u = Value.ref f := r1
  have atf : ∀ {pz sz σz Hz}, Inv (cxOf CXg X.prog X.w X.K X.mg X.base Ng qg sg g cdg X.A X.stack s H Eg) pz σz Hz sz → sz.heap.get? f = some (PySem.W.kla_obj "<lambda>" (X.env.qual ++ "<lambda>") params body scope (cloFrom X.env.cells scope.names []) pm c' ctv) :=
    fun {pz sz σz Hz} J => J.base.keep f _ hf hfn hfr (fun z => nomatch (show f ∈ ([] : List Addr) from z))
  refine PySem.W.callWith_F ⟨_, _, _, _, atf I1⟩ (thn (ha.run p2 _ s1 σZ HZ (fun vs H2 => ∃ v, vs = [v] ∧ H2 c' = some (LamX.CodeO c' (X.env.qual ++ "<lambda>")) ∧ tb (σ ++ [some v]) H2 Q) I1 ht) fun us s2 ⟨vs, H2, I2, r2, q2⟩ => ?_) hst rfl
  · obtain ⟨v, rfl, hc, hq⟩ := q2
    obtain ⟨u, rfl, rv⟩ : ∃ u, us = [u] ∧ RelV v u := by
      cases r2 with
      | cons h1 h2 =>
        cases h2
        exact ⟨_, rfl, h1⟩
    have of2 := atf I2
    refine ⟨⟨_, _, _, _, of2⟩, ?_⟩
    have un : Un (frs X.stack) [] H H2 s.heap s2.heap := I2.base
    obtain ⟨⟨oc, vs, t, hoc, hdc, hvc⟩, _, _⟩ := I2.hok c' _ hc
    have rc : codeAny (model X.prog X.w) (X.A.deeper (envOfC qg sg s.heap.objs.size g cdg)) (.call (.ref f) ⟨[u], []⟩) (CR (L2.CX X.prog X.w) (envOfC qg sg s.heap.objs.size g cdg :: X.stack) X.prog X.w H2 s2 Q E) s2 := by
      refine PySem.W.kla_callFunE hr.depth of2 rfl L.co L.gen rfl ⟨c', oc, vs, t, rfl, hoc, hdc, hvc⟩ ?_
      rw [hbind]
      refine wpAny_pure (wpAny_newFunctionEnv (fun y hy => (L.own y hy).1) (fun y hy => by rw [List.mem_singleton] at hy; subst hy; exact L.par) (fun h₁ hns hsb => ⟨I2.nolimit.fresh _ hsb, ?_⟩) L.kind)
      show codeAny _ _ (.expr body (LamX.lamEnv X scope s2.heap.objs.size f c')) _ _
      have kp : ∀ b o, s2.heap.get? b = some o → h₁.get? b = some o := fun b o e => hsb.extBut b o (Nat.ne_of_lt (Heap.lt_size e)) (Heap.get?_push_of_some _ e)
      have J : Inv (lamCxP X (X.A.deeper (envOfC qg sg s.heap.objs.size g cdg)) (envOfC qg sg s.heap.objs.size g cdg :: X.stack) s2 H2 E scope f c' b) [] (σ ++ [some v]) H2 { s2 with heap := h₁, toks := s2.toks + [(b, u)].length } :=
        lam_startP I L hn I2.env0 hr.hd un rv hns kp
      refine PySem.W.kla_codeExpr (wpAny_mono ((hbody _ _ s2 H2 (hr.deeper _)).run [] _ _ H2 Q J hq) (fun v s' hq => ?_) fun e s' hq => hq)
      obtain ⟨w', H', J', rv, q⟩ := hq
      exact ⟨w', H', J'.os, J'.bare, J'.base, J'.hok, rv, q⟩
    have hx : Passes (L2.CX X.prog X.w) (cxOf CXg X.prog X.w X.K X.mg X.base Ng qg sg g cdg X.A X.stack s H Eg) E := passes_call tk hW
    refine wpAny_call (codeAny_mono rc fun r s' hq => ?_)
    cases r with
    | error e => exact hx _ σZ H2 s2 e s' I2 hq
    | ok fl =>
      cases fl with
      | ret u => exact I2.after hq
      | next => exact False.elim hq
      | brk => exact False.elim hq
      | cont => exact False.elim hq
end
end Hd
end
section
set_option Elab.async false
set_option linter.all false
set_option maxRecDepth 100000
set_option maxHeartbeats 4000000
/-! HdExc: an own error whose __init__ says super().__init__(x), over own classes over ValueError. -/
namespace Hd
open PySem PySem.Spec PyProof.Rows L2
/-- the context of a def that closes over __class__ -/
def cxC (CX : CXT) (P : Program) (w : World) (K : PySem.W.Frag) (mg : Str → Option Value) (base : Heap) (N : List Str) (qual : Str) (scope : Scope) (f : Addr) (cd : Value) (cc : Addr) (A : Around) (outer : List Env) (s : Shared) (H : Hp) (E : XK) : Cx where
  prog := P
  w := w
  K := K
  mg := mg
  base := base
  A := A.deeper (PySem.W.ksEnv qual scope s.heap.objs.size f cd cc)
  N := N
  s_0 := s
  H_0 := H
  env := PySem.W.ksEnv qual scope s.heap.objs.size f cd cc
  outer := outer
  stack := PySem.W.ksEnv qual scope s.heap.objs.size f cd cc :: outer
  ex := []
  calm := true
  fn := fun _ => false
  pn := []
  xe := fun e s' => wpAny (model P w) (A.deeper (PySem.W.ksEnv qual scope s.heap.objs.size f cd cc)) (leaving (PySem.W.ksEnv qual scope s.heap.objs.size f cd cc) e) (fun _ s'' => CX outer H s E e s'') (fun e' s'' => CX outer H s E e' s'') s'
/-- self, another: locals; __class__: free -/
structure ScC (scope : Scope) (a b : Str) : Prop where
  kind : scope.kind = .function
  co : scope.isCoroutine = false
  gen : scope.isGenerator = false
  ab : a ≠ b
  pa : scope.names.lookup a = some .local
  pb : scope.names.lookup b = some .local
  cl : scope.names.lookup ("__class__" : Str) = some .free
  su : scope.names.lookup ("super" : Str) = some .globalImplicit
  nocell : ∀ y ∈ scope.names, y.2 ≠ .cell
  free : ∀ y ∈ scope.names, y.2 = .free → y.1 = "__class__"
section
variable {CX : CXT} {P : Program} {w : World} {K : PySem.W.Frag} {mg : Str → Option Value} {base : Heap} {qual : Str} {scope : Scope} {f cc : Addr} {cd : Value} {A : Around} {outer : List Env} {s : Shared} {H : Hp} {E : XK} {a b : Str}
theorem inv_startC {vx vy : V} {ux uy : Value} {h₁ : Heap} {tk : Nat} {oc : Obj} {cv : Option Value} (S : ScC scope a b) (hd : A.handled = none) (e0 : Env0 P w K mg base A outer s H) (rx : RelV vx ux) (ry : RelV vy uy)
    (hcc : base.get? cc = some oc) (hcd : oc.data = .cell cv) (hns : h₁.Ns s.heap.objs.size fun y => [(a, ux), (b, uy)].reverse.lookup y) (kp : ∀ b o, s.heap.get? b = some o → h₁.get? b = some o) :
    Inv (cxC CX P w K mg base [a, b] qual scope f cd cc A outer s H E) [] [some vx, some vy] H { s with heap := h₁, toks := tk } := by
  have noA : ∀ q : Addr, q ∉ (cxC CX P w K mg base [a, b] qual scope f cd cc A outer s H E).ex := fun q z => absurd (show q ∈ ([] : List Addr) from z) (by simp)
  have cl1 : ∀ {y : Str} {c : Addr}, [(("__class__" : Str), cc)].lookup y = some c → y = "__class__" ∧ c = cc := fun {y c} e => by
    have m := PySem.mem_of_lookup e
    rw [List.mem_singleton] at m
    cases m
    exact ⟨rfl, rfl⟩
  refine ⟨⟨e0.mod, S.kind, rfl, rfl, Nat.le_refl _, fun y z c e1 e2 => (cl1 e1).1.trans (cl1 e2).1.symm, fun y hy => ?_, fun y c z _ => ?_, fun _ => hd, Around.frames_deeper e0.frames, .inr ⟨rfl, rfl⟩, fun b z => absurd z (noA b), e0.bs, e0.bsz, fun b _ _ => noA b,
      fun b z => absurd z (noA b), e0.funs, e0.frf⟩,
    rfl, e0.bare, Un.kept kp, ⟨_, hns, fun i y w e1 e2 e3 => ?_⟩, fun y c e => ?_, e0.hok.fresh (Nat.le_refl _), fun y c e => ?_, fun q hq => absurd (show q ∈ ([] : List (Addr × Obj)) ++ [] from hq) (by simp), e0.hok.kept kp, rfl⟩
  · have hy : scope.names.lookup y = some .cell ∨ scope.names.lookup y = some .free := hy
    rcases hy with hy | hy
    · exact absurd rfl (S.nocell _ (PySem.mem_of_lookup hy))
    · have h2 : y = "__class__" := S.free _ (PySem.mem_of_lookup hy) rfl
      exact ⟨cc, by rw [h2]; rfl⟩
  · have z : false = true := z
    cases z
  · match i, e1, e2 with
    | 0, e1, e2 =>
      cases e1
      cases e2
      refine ⟨ux, rx, .inl ⟨S.pa, ?_⟩⟩
      show [(b, uy), (a, ux)].lookup a = some ux
      have : (a == b) = false := by simpa using S.ab
      simp [List.lookup, this]
    | 1, e1, e2 =>
      cases e1
      cases e2
      refine ⟨uy, ry, .inl ⟨S.pb, ?_⟩⟩
      show [(b, uy), (a, ux)].lookup b = some uy
      simp [List.lookup]
    | i + 2, e1, e2 => cases e1
  · obtain ⟨_, rfl⟩ := cl1 e
    exact ⟨cv, oc, kp _ _ (e0.bs _ _ hcc).1, hcd⟩
  · obtain ⟨_, rfl⟩ := cl1 e
    exact (e0.bs _ _ hcc).2
end
/-- what the written part says of such a class -/
structure BW (K : PySem.W.Frag) (P : Program) (C fI : Addr) (qual a b : Str) (body : List Stmt) (params : Arguments) (scope : Scope) : Prop where
  oex : OexC K C
  init : PySem.W.findIn K (.ref C) "__init__" = some (some (.ref fI))
  ty : PySem.W.typeIn K (.ref fI) = some (.type "function")
  fn : ∃ (oc : Value) (od : Option Addr) (kV doc pm : Value) (an : Option Addr) (cda : Addr) (ct : Value) (osl : Array (Option Value)) (cc : Addr) (ccl : Value) (cdd : Option Addr) (vs : Array Value) (ccs : Array (Option Value)) (file : Str) (tf : Tok) (cl : Value) (cld : Option Addr) (csl : Array (Option Value)),
    K.lookup fI = some ⟨oc, od, .func (PySem.W.ksFn "__init__" qual params body scope .none kV doc pm an (.ref cda) ct cc), osl⟩ ∧ PySem.W.codeIn K (.ref cda) qual = true ∧ K.lookup cda = some ⟨ccl, cdd, .fields vs, ccs⟩ ∧ vs[2]? = some (.str file tf) ∧
      ((P.main.file : Str) == file) = true ∧ K.lookup cc = some ⟨cl, cld, .cell (some (.ref C)), csl⟩
  cls : ∃ cd, PySem.W.clsIn K C = some cd ∧ PySem.W.alongIn K "__init__" ((cd.mro.dropWhile (· != .ref C)).drop 1) = some (some (.builtin "ValueError.__init__"))
  sub : PySem.W.mroIn K C (.ref C) = some true
  opq : PySem.W.nsIn K PySem.cStatics "thirdparty.any" = some none
  ve : PySem.W.subIn K (.ref C) (.type "ValueError") = some true
  fld : PySem.W.findIn K (.ref C) b = some none
  top : (P.main.scope.names.lookup ("super" : Str)).isSome = false
def spBI (C : Addr) (b : Str) : Sp := fun vs H Q _ => ∃ (x : Addr) (v : V), vs = [.ref x, v] ∧ H x = some (exo x C none) ∧ ∀ dx, H dx = none → dx ≠ x → Q .non (upd (upd H dx (exd dx [(b, v)])) x (exo x C (some dx)))
theorem boot_super : bootBuiltins "super" = some (.type "super") := by decide +kernel
theorem call_mw {prog : Program} {w : World} {A : Around} {E : Value → Shared → Prop} {h : Heap} {g : Array GenState} {d : Drawn} {t : Nat} {os : OsState} {nm q : Str} {C N e u t0 : Addr} {bs bm : List Value} {hdct : Bool} {sn : List Str} {sub : List Value} {ab : Bool} {col : Option Bool} {dd : Option Addr} {k0 k1 k2 k3 k5 : Option Value}
    {rest : List Value} {Q : Value → Shared → Prop} (hC : h.get? C = some (excClassObj nm q C N bs bm hdct sn sub ab col dd k0 k1 k2 k3 k5 "ValueError.__new__")) (he : h.get? e = some (PySem.W.excObj C t0 none .none)) (hu : h.get? u = some (PySem.W.kxs_mw "ValueError.__init__" e)) (hz : rest.length ≤ sizeLine)
    (hq : ∀ h', (∀ b o, b ≠ e → h.get? b = some o → h'.get? b = some o) → h'.get? e = some (PySem.W.excObj C h.objs.size none .none) → Q .none ⟨h', g, d, t, os⟩) : wpAny (model prog w) A (call (.ref u) rest) Q E ⟨h, g, d, t, os⟩ := by
  have FB := F.excBase_ValueError
  refine wpAny_call (codeAny_of_tree ?_)
  show wpAny _ A.in1 (callAny (.ref u) ⟨rest, []⟩) _ _ _
  simp only [callAny]
  refine wpAny_bind (wpAny_load hu ?_)
  simp only [PySem.W.kxs_mw, show (Value.type "method-wrapper" == Value.type "method" || Value.type "method-wrapper" == Value.type "builtin_function_or_method" || Value.type "method-wrapper" == Value.type "method-wrapper") = true by decide, if_true]
  refine PySem.W.KFB.if_so (by decide) ?_
  refine wpAny_bind (PySem.W.check_bound_init FB.toExcCallFacts hC he rfl ?_)
  refine wpAny_bind (wpAny_pure (wpAny_pure ?_))
  refine ⟨plainId_quiet FB.init.plain _, codeAny_builtin FB.initEntry ?_⟩
  exact PySem.W.exc_init_tree (cls := .ref C) (t0 := t0) (dv := none) (c2 := .none) (c3 := .none) (b4 := .bool false) he hz fun h' k e' _ => hq h' k e'
abbrev bwBody (a b : Str) (p0 p1 p2 p3 p4 p5 p6 p7 p8 p9 : Pos) : List Stmt := [.Expr (.Call (.Attribute (.Call (.Name "super" p0) [] [] p1) "__init__" p2) [.Name b p3] [] p4) p5, .Assign [.Attribute (.Name a p6) b p7] (.Name b p8) p9]
theorem fn_bad {P : Program} {w : World} {K : PySem.W.Frag} {mg : Str → Option Value} {base : Heap} {C fI : Addr} {qual a b : Str} {params : Arguments} {scope : Scope} {p0 p1 p2 p3 p4 p5 p6 p7 p8 p9 : Pos} {ar : Arg}
    (F : BW K P C fI qual a b (bwBody a b p0 p1 p2 p3 p4 p5 p6 p7 p8 p9) params scope)
    (S : ScC scope a b) (hp : (params.posonlyargs ++ params.args).head? = some ar) (har : ar.arg = a) (hms : mg "super" = none) (hda : (a == ("__debug__" : Str)) = false) (hdb : (b == ("__debug__" : Str)) = false) (hca : (a == ("__classdict__" : Str)) = false) (hcb : (b == ("__classdict__" : Str)) = false)
    (hE : ∀ (L : Addr) (cd : Value) (cc : Addr), ∃ pl, eval (.Call (.Attribute (.Call (.Name "super" p0) [] [] p1) "__init__" p2) [.Name b p3] [] p4) (PySem.W.ksEnv qual scope L fI cd cc) = (do
      let ov ← attributeBase (.Call (.Name "super" p0) [] [] p1) "__init__" (PySem.W.ksEnv qual scope L fI cd cc) (eval (.Call (.Name "super" p0) [] [] p1) (PySem.W.ksEnv qual scope L fI cd cc))
      standAt p2.atName
      let (f, first) ← holding [ov] (getMethod ov "__init__" pl)
      callWith p4 f first (backTo p4 (starEach [.Name b p3] (PySem.W.ksEnv qual scope L fI cd cc))) []))
    (hI : ∀ (L : Addr) (cd : Value) (cc : Addr), interactive (PySem.W.ksEnv qual scope L fI cd cc) = false)
    (hW1 : ∀ (L : Addr) (cd : Value) (cc : Addr), swapsWith (.Call (.Attribute (.Call (.Name "super" p0) [] [] p1) "__init__" p2) [.Name b p3] [] p4) none p5.line (PySem.W.ksEnv qual scope L fI cd cc) = pure false)
    (hW2 : ∀ (L : Addr) (cd : Value) (cc : Addr), swapsWith (.Name b p8) (some (.Attribute (.Name a p6) b p7)) p9.line (PySem.W.ksEnv qual scope L fI cd cc) = pure false)
    (hbind : ∀ (kV doc pm : Value) (an : Option Addr) (cdv ct : Value) (cc : Addr) (us : List Value), us.length = 2 → bindArgs (PySem.W.ksFn "__init__" qual params (bwBody a b p0 p1 p2 p3 p4 p5 p6 p7 p8 p9) scope .none kV doc pm an cdv ct cc) ⟨us, []⟩ = pure ([a, b].zip us)) :
    ∃ fd, FnOk P w K mg base CX0 1 fI fd [a, b] (spBI C b) ∧ Binds K fd [a, b] [] := by
  obtain ⟨oc, od, kV, doc, pm, an, cda, ct, osl, cc, ccl, cdd, vs, ccs, file, tf, cl, cld, csl, lk, hcd, lcd, hvs, hfile, lcc⟩ := F.fn
  refine ⟨PySem.W.ksFn "__init__" qual params (bwBody a b p0 p1 p2 p3 p4 p5 p6 p7 p8 p9) scope .none kV doc pm an (.ref cda) ct cc, ⟨fun vs H Q E h => ?_, fun A outer s H args us vs Q E hr e0 hb r hsp => ?_⟩, Binds.all fun us hl => hbind _ _ _ _ _ _ _ us hl⟩
  · obtain ⟨x, v, rfl, _⟩ := h
    rfl
  · obtain ⟨x, v, rfl, hx, k⟩ := hsp
    have KX : K.In s.heap := e0.mod.kin.keeps fun b o e => (e0.bs b o e).1
    have lim : s.heap.NoLimit := e0.mod.nolimit.keeps fun b o e => (e0.bs b o e).1
    obtain ⟨ux, uy, rfl, rx, ry⟩ : ∃ ux uy, us = [ux, uy] ∧ RelV (.ref x) ux ∧ RelV v uy := by
      cases r with
      | cons h1 h2 =>
        cases h2 with
        | cons h3 h4 =>
          cases h4
          exact ⟨_, _, rfl, h1, h3⟩
    obtain rfl : ux = Value.ref x := rx
    refine PySem.ks_codeAny_call_defAt (fd := PySem.W.ksFn "__init__" qual params (bwBody a b p0 p1 p2 p3 p4 p5 p6 p7 p8 p9) scope .none kV doc pm an (.ref cda) ct cc) (body := bwBody a b p0 p1 p2 p3 p4 p5 p6 p7 p8 p9) (binds := [(a, .ref x), (b, uy)]) hr.depth (KX _ _ lk) rfl lim (PySem.W.codeRec_of KX hcd) rfl hb S.nocell ?_ (fun h₁ hns kp => ?_) S.co S.gen S.kind
    · intro y hy
      rcases List.mem_cons.mp hy with rfl | hy
      · exact S.pa
      · rw [List.mem_singleton] at hy
        subst hy
        exact S.pb
    have hK := e0.mod.kin
    have bcc := hK _ _ lcc
    have I0 := inv_startC (CX := CX0) (qual := qual) (scope := scope) (f := fI) (cd := .ref cda) (E := E) (tk := s.toks + 2) S hr.hd e0 (show RelV (.ref x) (.ref x) from rfl) ry bcc rfl hns kp
    show PySem.wpAt (model P w) (A.deeper (PySem.W.ksEnv qual scope s.heap.objs.size fI (.ref cda) cc)) (.func (bwBody a b p0 p1 p2 p3 p4 p5 p6 p7 p8 p9) (PySem.W.ksEnv qual scope s.heap.objs.size fI (.ref cda) cc)) (execs (bwBody a b p0 p1 p2 p3 p4 p5 p6 p7 p8 p9) (PySem.W.ksEnv qual scope s.heap.objs.size fI (.ref cda) cc)) _ _ { s with heap := h₁, toks := s.toks + 2 }
    obtain ⟨pl, hE1⟩ := hE s.heap.objs.size (.ref cda) cc
    refine PySem.ks_wpAt_execs_cons (PySem.ks_wpAt_Expr_any (PySem.ks_wpAt_MethodCall (pl := pl) ?_ hE1) (hI _ _ _) (hW1 _ _ _))
    have K1 := I0.kIn
    refine PySem.ks_wpAt_super_base (env := PySem.W.ksEnv qual scope s.heap.objs.size fI (.ref cda) cc) S.su S.cl (by rfl) rfl (K1 _ _ lk) rfl hp rfl (K1 _ _ lcd) rfl hvs hfile F.top ?_
    obtain ⟨mb, hmb, hbb⟩ := e0.mod.blt
    refine PySem.W.ks_loadName_global S.kind S.su (PySem.Calls.loadGlobal_builtin (env := PySem.W.ksEnv qual scope s.heap.objs.size fI (.ref cda) cc) (e0.mod.glob.keeps I0.bk) hms (hmb.keeps I0.bk) ((hbb _ (by decide)).trans boot_super) ⟨rfl, ?_⟩)
    refine wpAny_loadName_free S.kind S.cl rfl ⟨_, K1 _ _ lcc, rfl⟩ ?_
    refine wpAny_loadName_local (m := fun y => [(a, Value.ref x), (b, uy)].reverse.lookup y) (v := .ref x) S.kind (by rw [har]; exact S.pa) hns ?_ ?_
    · rw [har]
      show [(b, uy), (a, Value.ref x)].lookup a = some (.ref x)
      have : (a == b) = false := by simpa using S.ab
      simp [List.lookup, this]
    obtain ⟨cdD, hcl, hal⟩ := F.cls
    have X1 : K.In h₁ := K1
    obtain ⟨oD, hD1, hD2⟩ : ∃ oD, h₁.get? C = some oD ∧ oD.data = .cls cdD := by
      unfold PySem.W.clsIn at hcl
      split at hcl
      · rename_i c d cd' sl ho
        cases hcl
        exact ⟨_, X1 _ _ ho, rfl⟩
      · cases hcl
    refine PySem.ks_wpAny_isType_cls hD1 hD2 ⟨rfl, ?_⟩
    obtain ⟨t1, hx1⟩ := exo_at I0.hok hx
    refine PySem.ks_wpAny_call_super hD1 hD2 hx1 rfl (fun c e => nomatch e) (PySem.W.looks_mroIn X1 F.sub) (fun h2 e2 k2 => ?_)
    have I1 := I0.kept (t' := s.toks + 2) k2
    have X2 : K.In h2 := I1.kIn
    obtain ⟨t2, hx2⟩ := exo_at I1.hok hx
    have I2 : PySem.W.InstAt h2 x _ C none := ⟨hx2, rfl, rfl, trivial⟩
    refine PySem.W.kxs_getMethod PySem.W.kxs_ValueError e2 (PySem.W.looks_opaque X2 F.opq) (l₀ := cdD.mro) (fun A Q E s k q => wpAny_bind ((PySem.W.looks_clsIn X2 hcl) A _ E s k (wpAny_pure q))) rfl X2 hal (I2.type.andThen (PySem.W.looks_subIn X2 F.ve)) (PySem.W.ks_ne X2 I2 hcl) (by rfl) ?_
    have I3 := ClX.pin_new (t' := s.toks + 2 + 1) (h' := h2.push (PySem.W.kxs_mw "ValueError.__init__" x)) I1 (fun b o z => Heap.get?_push_of_some _ z) (Nat.le_refl _) (Heap.get?_push_size h2 rfl) (fun v z => nomatch z)
    refine PySem.W.kxs_callWith (i := "ValueError.__init__") (x := x) (by rfl) (Calls.evalArgs_plain ?_)
    have hv2 : PA (cxC CX0 P w K mg base [a, b] qual scope fI (.ref cda) cc A outer s H E) [.Name b p3] (tCons (tVar 1) tNil) := pa_cons (pe_var (i := 1) rfl (.inl S.pb) hdb hcb) pa_nil
    refine thn (hv2.run p4 _ _ _ H (fun vs H1 => vs = [v] ∧ H1 = H) I3 ⟨v, rfl, rfl, rfl⟩) fun us s4 ⟨vs4, H4, I4, r4, e4, e4'⟩ => ?_
    subst e4
    rw [e4'] at I4
    refine ⟨ClX.pin_at I4, ?_⟩
    obtain ⟨u4, rfl, _⟩ : ∃ u, us = [u] ∧ True := by
      cases r4 with
      | cons h1 h2 =>
        cases h2
        exact ⟨_, rfl, trivial⟩
    obtain ⟨t4, hx4⟩ := exo_at I4.hok hx
    have hu4 := ClX.pin_at I4
    obtain ⟨nm, q, N, bs, bm, sn, sub, ab, col, dd, k0, k1, k2', k3, k5, hC, hbm⟩ := F.oex.cls
    have hC4 := I4.kIn _ _ hC
    obtain ⟨hh4, g4, d4, tk4, os4⟩ := s4
    refine call_mw hC4 hx4 hu4 (by show 1 ≤ sizeLine; rw [sizeLine_eq]; omega) fun h5 k5' e5 => ?_
    have I5 := (ClX.unpin I4).write (t' := tk4) (x := x) (e := x) (o := exo x C none) (by rw [hx]; exact True.intro) (.inl rfl) k5' ⟨_, e5⟩ (exo_ok e5)
    have eu : upd H x (exo x C none) = H := by
      funext z
      by_cases hb : z = x
      · rw [hb, upd_same, hx]
      · rw [upd_ne hb]
    rw [eu] at I5
    refine wpAt_of_wpAny ?_
    have P2 : PSs (cxC CX0 P w K mg base [a, b] qual scope fI (.ref cda) cc A outer s H E) [.Assign [.Attribute (.Name a p6) b p7] (.Name b p8) p9] _ := pss_one (ps_ost (X := cxC CX0 P w K mg base [a, b] qual scope fI (.ref cda) cc A outer s H E) (f := b) (pe_var (i := 0) rfl (.inl S.pa) hda hca) (pe_var (i := 1) rfl (.inl S.pb) hdb hcb) (hW2 _ _ _))
    refine wpAny_mono (P2.run [] _ _ H { nx := fun _ H' => Q .non H', rt := Q } I5 ⟨v, rfl, .ref x, rfl, x, C, rfl, F.oex, F.fld, .inl ⟨hx, fun dx n ne => k dx n ne⟩⟩) (fun fl s' hs => ?_) fun e s' hs => hs
    cases fl with
    | ret u =>
      obtain ⟨v, σ', H', J, rv, q⟩ := hs
      exact ⟨v, H', J.os, J.bare, J.base, J.hok, rv, q⟩
    | next =>
      obtain ⟨σ', H', J, q⟩ := hs
      exact ⟨.non, H', J.os, J.bare, J.base, J.hok, rfl, q⟩
    | brk =>
      obtain ⟨_, _, _, q⟩ := hs
      exact False.elim q
    | cont =>
      obtain ⟨_, _, _, q⟩ := hs
      exact False.elim q
/-! ### BadWay -/
abbrev CB (K : PySem.W.Frag) : Addr := He.ga K "BadWay"
abbrev FB (K : PySem.W.Frag) : Addr := He.ma K (CB K) "__init__"
abbrev BWay (K : PySem.W.Frag) (P : Program) : Prop := BW K P (CB K) (FB K) "BadWay.__init__" "self" "beat" (defBody s_BadWay_init) (defArgs s_BadWay_init) (defScope s_BadWay_init)
theorem scC_bad : ScC (defScope s_BadWay_init) "self" "beat" := ⟨rfl, rfl, rfl, by decide, by decide +kernel, by decide +kernel, by decide +kernel, by decide +kernel, by decide +kernel, by decide +kernel⟩
section
variable {P : Program} {w : World} {K : PySem.W.Frag} {mg : Str → Option Value} {base : Heap}
theorem ok_bad (F : BWay K P) (T : Txt K mg) : ∃ fd, FnOk P w K mg base CX0 1 (FB K) fd ["self", "beat"] (spBI (CB K) "beat") ∧ Binds K fd ["self", "beat"] [] := by
  refine fn_bad (K := K) (P := P) (fI := FB K) (C := CB K) (params := defArgs s_BadWay_init) (scope := defScope s_BadWay_init) F scC_bad rfl rfl T.n_super (by decide) (by decide) (by decide) (by decide) (fun _ _ _ => ⟨_, rfl⟩) (fun _ _ _ => rfl) (fun _ _ _ => rfl) (fun _ _ _ => rfl) fun _ _ _ _ _ _ _ us hl => match us, hl with | [_, _], _ => rfl
end
/-- raise BadWay(e) -/
theorem ps_bad {X : Cx} {W : WX} {e : Expr} {ta : TA} {p pos pos' : Pos} (F : BWay X.K X.prog) (T : Txt X.K X.mg) (hc : X.calm = true) (tk : Takes X W) (hr : Room 2 X.A) (hg : Gl X "BadWay") (ha : PA X [e] ta)
    (he : starEach [e] X.env = (false, eval e X.env) :: starEach [] X.env := by rfl) :
    PS X (.Raise (some (.Call (.Name "BadWay" p) [e] [] pos)) none pos') (fun _ σ H => tMkO (CB X.K) (spBI (CB X.K) "beat") [] ta σ H fun cls d H' => W cls d σ H') := by
  obtain ⟨fd, G, b⟩ := ok_bad (w := X.w) (base := X.base) F T
  exact ps_raise hc tk (pmk_oex F.oex F.init F.ty G hr b .nil pass0 hg T.g_BadWay ha (by decide) he)
end Hd
end
section
set_option Elab.async false
set_option linter.all false
set_option maxRecDepth 100000
set_option maxHeartbeats 4000000
namespace Hd
open PySem PySem.Spec PyProof.Rows L2
local macro_rules | `(tactic| walk_at "hd1") => `(tactic| (first
  | with_reducible refine c_seq ?_ | with_reducible refine c_ret ?_ | with_reducible refine c_asg ?_ | with_reducible refine c_drop ?_ | with_reducible refine c_next ?_ | with_reducible refine c_ifS ?_ | with_reducible refine c_par ?_
  | with_reducible refine c_var rfl ?_ | with_reducible refine c_c ?_ | with_reducible refine c_op ?_ | with_reducible refine c_un ?_ | with_reducible refine c_U ?_ | with_reducible refine c_I0 ?_
  | with_reducible refine c_test ?_ | with_reducible refine c_B ?_ | with_reducible refine c_bl ?_ | with_reducible refine c_eq rfl ?_ | with_reducible refine c_ne rfl ?_ | with_reducible refine c_chain ?_
  | with_reducible refine c_and ?_ | with_reducible refine c_or ?_ | with_reducible refine c_not ?_ | with_reducible refine c_andV ?_ | with_reducible refine c_orV ?_ | with_reducible refine c_notV ?_ | with_reducible refine c_ifE ?_
  | with_reducible refine c_call ?_ | with_reducible refine c_cb ?_ | with_reducible refine c_cons ?_ | with_reducible refine c_nil ?_ | with_reducible refine c_tup ?_ | with_reducible refine c_lst ?_ | with_reducible refine c_two ?_ | with_reducible refine c_e1 ?_ | with_reducible refine c_e2 ?_ | with_reducible refine c_int1 ?_ | with_reducible refine c_int1b ?_
  | with_reducible refine c_ixT (by assumption) rfl ?_ | with_reducible refine c_ixL (by assumption) rfl ?_
  | with_reducible refine c_sF ?_ | with_reducible refine c_tF ?_ | with_reducible refine c_tupS ?_ | with_reducible refine c_lstS ?_ | with_reducible refine c_then ?_ | with_reducible refine c_lc ?_ | with_reducible refine c_rng1 ?_ | with_reducible refine c_rng2 ?_ | with_reducible refine c_list ?_
  | with_reducible refine c_I (by assumption) ?_))
local macro_rules | `(tactic| walk_at "hd") => `(tactic| repeat (walk_at "hd1"))
local macro_rules | `(tactic| walk_at "in") => `(tactic| ((try dsimp only [cxOf]); walk_at "hd"))
abbrev nAg : List Str := ["n", "beats", "way", "dealer", "group", "row", "deals", "shares", "person"]
def rowD (n k : Nat) (ds : List Int) : List PyData := (List.range ds.length).map fun i => shD n (run k (ds.take i)).1
def vwD (n k : Nat) (ds : List Int) : PyData := .tuple [dbD n (run k ds).2, shD n (run k ds).1, .int (ds.length : Int)]
def toldD (n k : Nat) (ds : List Int) : PyData := .tuple [.tuple (rowD n k ds), .list (ds.map PyData.int), .int ((run k ds).1.headD 0), frD (hs k - hs 1)]
theorem rowD_snoc (n k : Nat) (ds : List Int) (q : Int) : rowD n k (ds ++ [q]) = rowD n k ds ++ [shD n (run k ds).1] := by
  unfold rowD
  rw [List.length_append, List.length_singleton, range_snoc]
  congr 1
  · refine List.map_congr_left fun i hi => ?_
    rw [List.take_append_of_le_length (Nat.le_of_lt (List.mem_range.mp hi))]
  · rw [List.take_append_of_le_length (Nat.le_refl _), List.take_length]
theorem noL_row (n k : Nat) (ds : List Int) : noL (.tuple (rowD n k ds)) = true := noLs_map fun _ _ => noL_sh _ _
/-- what a way that is called must keep -/
structure WayOk (K : PySem.W.Frag) (n k : Nat) (S : List Addr) (H0 : Hp) (W : List Int → Hp → Prop) (cq : Hp → Prop) (Bd : List Int → Prop) (wy : V → Hp → VK → Prop) (E : XK) : Prop where
  stay : ∀ ds H H' S', W ds H → ButS S' H H' → Muts S' H → (∀ a ∈ S', a ∉ S) → (∀ a ∈ S', H0 a = none) → W ds H'
  mts : ∀ ds H, W ds H → Muts S H
  mts0 : Muts S H0
  cq : ∀ H', ButS S H0 H' → cq H'
  ask : ∀ ds v H (Q : VK), W ds H → ButS S H0 H → ROk k ds → 1 < (run k ds).1.length → (∀ d ∈ ds, 0 ≤ d ∧ d < (n : Int)) → Dp K H v (vwD n k ds) →
    (∀ r H', ButS S H H' → ((∃ q : Nat, q < n ∧ r = .int q ∧ W (ds ++ [(q : Int)]) H') ∨ (∃ o, Knd K H' r o ∧ inR 0 ((n : Int) - 1) o = false ∧ Bd ds)) → Q r H') → wy v H Q
  bad : ∀ ds dx H', Bd ds → ButS S H0 H' → H' dx = some (.xd [("beat", .int (ds.length : Int))]) → E (.ref (CB K)) (some dx) H'
structure AgF (K : PySem.W.Frag) (n k : Nat) (S : List Addr) (H0 : Hp) (W : List Int → Hp → Prop) (ds : List Int) (p l a r e : Addr) (H : Hp) : Prop where
  rok : ROk k ds
  bnd : ∀ d ∈ ds, 0 ≤ d ∧ d < (n : Int)
  w : W ds H
  fr : ButS S H0 H
  dl : DlAt K p l H n (run k ds).2
  grp : H a = some (.lst ((run k ds).1.map V.int))
  row : Dp K H (.ref r) (.tuple (rowD n k ds))
  lst : H e = some (.lst (ds.map V.int))
  np : p ∉ S
  nl : l ∉ S
  na : a ∉ S
  ne : e ∉ S
  le : l ≠ e
  la : l ≠ a
  ae : a ≠ e
  p0 : H0 p = none
  l0 : H0 l = none
  e0 : H0 e = none
theorem DlAt.ins {K : PySem.W.Frag} {p l q : Addr} {H : Hp} {n : Nat} {d : Nat → Int} {xs : List V} (h : DlAt K p l H n d) (e : H q = some (.lst xs)) : p ≠ q := by
  obtain ⟨dx, a, ts, t, h1, _⟩ := h.ex
  exact ne_of h1 e (fun z => by cases z)
theorem muts_nil (H : Hp) : Muts [] H := fun _ h => nomatch h
theorem Muts.no {S : List Addr} {H : Hp} {p : Addr} (m : Muts S H) (h : H p = none) : p ∉ S := fun z => by
  obtain ⟨u, hu, _⟩ := m p z
  rw [h] at hu
  cases hu
theorem gsh_of {n k : Nat} {g : List Int} (h : GOk k g) (hk : k ≤ n) (hn : n ≤ 12) (hl : g.length ≤ k) : GSh n g :=
  ⟨asc_nodup h.asc, fun i hi => by have := h.bnd i hi; omega, List.length_pos_iff.mpr h.ne, by omega⟩
section
variable {P : Program} {w : World} {K : PySem.W.Frag} {mg : Str → Option Value} {base : Heap}
theorem ok_Dealer (T : Txt K mg) {X : Cx} {t : TA} {e : Expr} {es : List Expr} {p pos : Pos} (T : Txt X.K X.mg) (hr : Room 5 X.A) (hg : Gl X "Dealer") (ha : PA X (e :: es) t)
    (he : starEach (e :: es) X.env = (false, eval e X.env) :: starEach es X.env := by rfl) (hpl : (backTo pos (starEach es X.env)).any (·.1) = false := by rfl) : PE X (.Call (.Name "Dealer" p) (e :: es) [] pos) (tMake (CD X.K) (spInit X.K) [] E0 t) := by
  obtain ⟨fd, F, b⟩ := (ok_Dealer_init (P := X.prog) (w := X.w) (base := X.base) T).ex
  exact pe_make T.made F hr hg T.g_Dealer b .nil pass0 ha (by decide) he hpl
theorem against_body (T : Txt K mg) (F : BWay K P) {g f : Addr} {cdg : Value} {A : Around} {outer : List Env} {s : Shared} {H0 : Hp} {E : XK} {n b : Nat} {S : List Addr} {W : List Int → Hp → Prop} {cq : Hp → Prop} {Bd : List Int → Prop} {wy : V → Hp → VK → Prop} {Q : VK}
    (hr : Room 7 (A.deeper (envOfC "against" (defScope s_against) s.heap.objs.size g cdg))) (hn1 : 1 ≤ n) (hn2 : n ≤ 12) (hb1 : 1 ≤ b) (hb2 : b ≤ 400)
    (hact : ∀ {e : Expr} {ta : TA} {p1 p2 : Pos}, PA (cxOf (L2.CX P w) P w K mg base nAg "against" (defScope s_against) g cdg A outer s H0 E) [e] ta →
      starEach [e] (envOfC "against" (defScope s_against) s.heap.objs.size g cdg) = [(false, eval e (envOfC "against" (defScope s_against) s.heap.objs.size g cdg))] →
      PE (cxOf (L2.CX P w) P w K mg base nAg "against" (defScope s_against) g cdg A outer s H0 E) (.Call (.Name "way" p1) [e] [] p2)
        (fun σZ HZ Q => σZ[2]? = some (some (.ref f)) ∧ ta σZ HZ fun vs H1 => ∃ v, vs = [v] ∧ cq H1 ∧ wy v H1 Q))
    (hw : WayOk K n (kk n b) S H0 W cq Bd wy E) (h0 : W [] H0)
    (hend : ∀ ds v H', ROk (kk n b) ds → (run (kk n b) ds).1.length = 1 → (∀ d ∈ ds, 0 ≤ d ∧ d < (n : Int)) → W ds H' → ButS S H0 H' → Dp K H' v (toldD n (kk n b) ds) → Q v H') :
    ∃ t, PSs (cxOf (L2.CX P w) P w K mg base nAg "against" (defScope s_against) g cdg A outer s H0 E) (defBody s_against) t ∧ t { nx := fun _ H' => Q .non H', rt := Q } (start nAg [.int n, .int b, .ref f]) H0 := by
  have c1 := ok_check_people (P := P) (w := w) (base := base) T
  have c2 := ok_check_many_beats (P := P) (w := w) (base := base) T
  have c3 := ok_group_of (P := P) (w := w) (base := base) T
  have c4 := ok_shares_for (P := P) (w := w) (base := base) T
  have c5 := ok_Dealer_debts (P := P) (w := w) (base := base) T
  have c6 := ok_is_person (P := P) (w := w) (base := base) T
  have c7 := ok_Dealer_deal (P := P) (w := w) (base := base) T
  have c8 := ok_group_behind (P := P) (w := w) (base := base) T
  have hk1 : 1 ≤ kk n b := by unfold kk; omega
  have hk2 : kk n b ≤ n := by unfold kk; omega
  refine ⟨_, pss_cons (ps_expr (pe_cal c1 (hr.mono (by decide)) (by rfl) (pa_cons (pv 0) pa_nil))) (pss_cons (ps_expr (pe_cal c2 (hr.mono (by decide)) (by rfl) (pa_cons (pv 1) pa_nil)))
    (pss_cons (ps_par (i := 3) (j := 4) rfl sc_against.nd rfl rfl (by decide) rfl rfl (pa_cons (ok_Dealer T T (hr.mono (by decide)) (by rfl) (pa_cons (pv 0) pa_nil)) (pa_cons (pe_cal c3 (hr.mono (by decide)) (by rfl) (pa_cons (pv 0) (pa_cons (pv 1) pa_nil))) pa_nil)) (by rfl))
    (pss_cons (ps_par (i := 5) (j := 6) rfl sc_against.nd rfl rfl (by decide) rfl rfl (pa_cons (pe_tupS pa_nil) (pa_cons (pe_lstS pa_nil) pa_nil)) (by rfl))
    (pss_cons (ps_while (passes_of rfl) (pt_cmpR op_gt (pe_callB (clLen K) (by rfl) T.n_len bo_len (pa_cons (pv 4) pa_nil)) pe_int (nomark _))
      (pss_cons (ps_set (i := 7) sc_against.nd rfl (.inl rfl) (pe_cal c4 (hr.mono (by decide)) (by rfl) (pa_cons (pv 0) (pa_cons (pv 4) pa_nil))))
      (pss_cons (ps_set (i := 8) sc_against.nd rfl (.inl rfl) (hact (pa_cons (pe_tupS (pa_cons (pe_calM0 c5 T.cls T.m_debts (hr.mono (by decide)) (pv 3)) (pa_cons (pv 7) (pa_cons (pe_callB (clLen K) (by rfl) T.n_len bo_len (pa_cons (pv 6) pa_nil)) pa_nil)))) pa_nil) (by rfl)))
      (pss_cons (ps_if (pt_not (pt_val (pe_cal c6 (hr.mono (by decide)) (by rfl) (pa_cons (pv 0) (pa_cons (pv 8) pa_nil))))) (pss_one (ps_bad F T rfl (takes_of rfl rfl rfl rfl) (hr.mono (by decide)) (by rfl) (pa_cons (pe_callB (clLen K) (by rfl) T.n_len bo_len (pa_cons (pv 6) pa_nil)) pa_nil))) pss_nil)
      (pss_cons (ps_expr (pe_calM c7 T.cls T.m_deal (hr.mono (by decide)) (pv 3) (pa_cons (pv 7) (pa_cons (pv 8) pa_nil))))
      (pss_cons (ps_set (i := 5) sc_against.nd rfl (.inl rfl) (pe_op op_catA (pv 5) (pe_tupS (pa_cons (pv 7) pa_nil))))
      (pss_cons (ps_expr (pe_bm PySem.F.plainAttrs_list PySem.F.slot_list_append PySem.F.type_list_append mt_append (pv 6) (pa_cons (pv 8) pa_nil)))
      (pss_one (ps_set (i := 4) sc_against.nd rfl (.inl rfl) (pe_cal c8 (hr.mono (by decide)) (by rfl) (pa_cons (pv 4) (pa_cons (pv 8) pa_nil))))))))))))
    (pss_one (ps_ret (pe_tupS (pa_cons (pv 5) (pa_cons (pv 6) (pa_cons (pe_ix (ixL K) (pv 4) pe_int (fun _ _ => rfl)) (pa_cons (pe_ix (ixT K) (pe_calM0 c5 T.cls T.m_debts (hr.mono (by decide)) (pv 3)) (pe_ix (ixL K) (pv 4) pe_int (fun _ _ => rfl)) (fun _ _ => rfl)) pa_nil))))))))))), ?_⟩
  walk_at "in"
  refine ⟨_, rfl, by omega, by omega, ?_⟩
  walk_at "hd"
  refine ⟨_, rfl, by omega, by omega, ?_⟩
  walk_at "hd"
  unfold tMake
  walk_at "hd"
  intro p dx hp hdx hdp
  refine ⟨p, dx, n, rfl, hn1, hn2, upd_same, fun l H1 b1 nl dl => ⟨rfl, ?_⟩⟩
  have hpx : p ≠ dx := Ne.symm hdp
  have hl0 : H0 l = none := by
    cases h : H0 l with
    | none => rfl
    | some u =>
      have h1 : upd (upd H0 dx (.own p)) p (.ins (CD K) dx []) l = some u := by rw [upd_ne (ne_of_none h hp), upd_ne (ne_of_none h hdx)]; exact h
      rw [nl] at h1
      cases h1
  have s1 : Same H0 H1 := fun z u hz => b1 z u (by rw [List.mem_singleton]; exact ne_of_none hz hp) (by rw [upd_ne (ne_of_none hz hp), upd_ne (ne_of_none hz hdx)]; exact hz)
  walk_at "hd"
  refine ⟨n, b, rfl, hn2, fun a H2 e2 na ha => ?_⟩
  walk_at "hd"
  refine ⟨rfl, fun r H3 e3 nr hr3 => ?_⟩
  walk_at "hd"
  refine ⟨rfl, fun e H4 e4 ne he => ?_⟩
  walk_at "hd"
  have s4 : Same H0 H4 := ((s1.trans e2).trans e3).trans e4
  have ndl := dl.muts
  have dl4 : DlAt K p l H4 n (fun _ => 0) := dl.same ((e2.trans e3).trans e4)
  have hlA : ∃ ts, H1 l = some (.lst ts) := by
    obtain ⟨_, _, ts, _, _, h2, _⟩ := dl.ex
    exact ⟨_, h2⟩
  obtain ⟨ts0, hl1⟩ := hlA
  have naS : a ∉ S := fun z => by
    obtain ⟨u, hu, _⟩ := hw.mts0 a z
    have := s1 _ _ hu
    rw [na] at this
    cases this
  have neS : e ∉ S := fun z => by
    obtain ⟨u, hu, _⟩ := hw.mts0 e z
    have := ((s1.trans e2).trans e3) _ _ hu
    rw [ne] at this
    cases this
  have he0 : H0 e = none := by
    cases hh : H0 e with
    | none => rfl
    | some u =>
      have := ((s1.trans e2).trans e3) _ _ hh
      rw [ne] at this
      cases this
  have F0 : AgF K n (kk n b) S H0 W [] p l a r e H4 := ⟨.zero hk1, (fun d hd => nomatch hd), hw.stay _ _ _ [] h0 (Same.buts s4) (muts_nil _) (fun _ h => nomatch h) (fun _ h => nomatch h), Same.buts s4, dl4, (e3.trans e4) _ _ ha, .tup (Same.tup e4 (SqT.of hr3)) .nil, he,
    hw.mts0.no hp, hw.mts0.no hl0, naS, neS, ne_of_none ((e2.trans e3) _ _ hl1) ne, ne_of_none hl1 na, ne_of_none (e3 _ _ ha) ne, hp, hl0, he0⟩
  refine ⟨fun m σ H' => ∃ (ds : List Int) (p l a r e : Addr) (u1 u2 : Option V), σ = [some (.int n), some (.int b), some (.ref f), some (.ref p), some (.ref a), some (.ref r), some (.ref e), u1, u2] ∧ AgF K n (kk n b) S H0 W ds p l a r e H' ∧ m = (run (kk n b) ds).1.length,
    ⟨_, [], p, l, a, r, e, none, none, rfl, F0, rfl⟩, ?_⟩
  clear F0 he0 naS neS hl1 ndl dl4 s4 he ne e4 hr3 nr e3 ha na e2 s1 hl0 hpx dl nl b1 hdp hdx hp
  rintro m σ H5 ⟨ds, p, l, a, r, e, u1, u2, rfl, G, rfl⟩
  have hlen := G.rok.len
  walk_at "hd"
  refine c_lenL (SqL.of G.grp) ?_
  rw [List.length_map]
  walk_at "hd"
  refine ifB (fun h => ?_) (fun h => ?_)
  · have hgl : 1 < (run (kk n b) ds).1.length := by
      have := of_decide_eq_true h
      omega
    have hgs : GSh n (run (kk n b) ds).1 := gsh_of G.rok.g hk2 hn2 (by omega)
    refine ⟨_, fun σ2 H2 n => n, ?_⟩
    walk_at "hd"
    refine ⟨n, a, (run (kk n b) ds).1, rfl, SqL.of G.grp, hn2, fun v6 H6 e6 hv6 => ?_⟩
    walk_at "hd"
    refine ⟨rfl, ?_⟩
    unfold tMeth
    walk_at "hd"
    have dl6 := G.dl.same e6
    obtain ⟨dx, da, ts, tt, h61, h62, h63, h64⟩ := dl6.ex
    refine ⟨p, dx, _, rfl, h61, rfl, ?_⟩
    walk_at "hd"
    refine ⟨p, l, n, _, rfl, dl6, fun da hda => ?_⟩
    walk_at "hd"
    refine c_lenL (SqL.of (e6 _ _ G.lst)) ?_
    rw [List.length_map]
    walk_at "hd"
    refine ⟨rfl, fun pv H7 e7 n7 hv7 => ?_⟩
    walk_at "hd"
    have e67 := e6.trans e7
    have W7 : W ds H7 := hw.stay _ _ _ [] G.w (Same.buts e67) (muts_nil _) (fun _ h => nomatch h) (fun _ h => nomatch h)
    have fr7 : ButS S H0 H7 := G.fr.trans (Same.buts e67)
    refine ⟨_, rfl, hw.cq _ fr7, hw.ask ds _ H7 _ W7 fr7 G.rok hgl G.bnd (.tup (SqT.of hv7) (.cons (dp_same e7 hda) (.cons (dp_same e7 hv6) (.cons (.int _) .nil)))) fun r8 H8 b8 ans => ?_⟩
    have m7 := hw.mts _ _ W7
    have dl8 := (G.dl.same e67).buts b8 m7 G.np G.nl
    have lst8 : H8 e = some (.lst (ds.map V.int)) := b8 _ _ G.ne (e67 _ _ G.lst)
    have grp8 : H8 a = some (.lst ((run (kk n b) ds).1.map V.int)) := b8 _ _ G.na (e67 _ _ G.grp)
    have row8 := dp_buts b8 m7 (noL_row n (kk n b) ds) (dp_same e67 G.row)
    have sh8 := dp_buts b8 m7 (noL_sh n (run (kk n b) ds).1) (dp_same e7 hv6)
    walk_at "hd"
    rcases ans with ⟨q, hq, rfl, W8⟩ | ⟨o, ho, hno, hbd⟩
    · refine ⟨n, _, some q, rfl, rfl, ?_⟩
      rw [inR_yes (by omega) (by omega)]
      walk_at "hd"
      refine ifF rfl ?_
      walk_at "hd"
      obtain ⟨dx8, da8, ts8, tt8, h81, h82, h83, h84⟩ := dl8.ex
      refine ⟨p, dx8, _, rfl, h81, rfl, ?_⟩
      walk_at "hd"
      refine ⟨p, l, v6, q, n, _, (run (kk n b) ds).1, rfl, dl8, sh8, hn2, hq, hgs, fun H9 b9 dl9 => ?_⟩
      walk_at "hd"
      refine ⟨rfl, fun t10 H10 e10 n10 ht10 => ?_⟩
      have m8 := dl8.muts
      obtain ⟨r', rvs, er, hr8, hrv8⟩ := dp_tup row8
      cases er
      have hr9 := b9.tup m8 hr8
      have rl : rvs.length = ds.length := by
        have := dpAll_len hrv8
        unfold rowD at this
        simpa using this
      refine c_catA (Same.tup e10 hr9) (SqT.of ht10) (by simp; omega) fun r11 H11 e11 h11 => ?_
      have pe : p ≠ e := dl8.ins lst8
      have pa : p ≠ a := dl8.ins grp8
      have nme : e ∉ [p, l] := by
        intro z
        rcases List.mem_cons.mp z with z | z
        · exact pe z.symm
        · exact G.le (List.mem_singleton.mp z).symm
      have nma : a ∉ [p, l] := by
        intro z
        rcases List.mem_cons.mp z with z | z
        · exact pa z.symm
        · exact G.la (List.mem_singleton.mp z).symm
      have lst11 : H11 e = some (.lst (ds.map V.int)) := (e10.trans e11) _ _ (b9 _ _ nme lst8)
      walk_at "hd"
      unfold tBM
      walk_at "hd"
      refine ⟨.inl ⟨rfl, _, SqL.of lst11⟩, ?_⟩
      walk_at "hd"
      refine ⟨e, _, _, rfl, rfl, lst11, Nat.lt_of_le_of_lt (show _ ≤ 100 by rw [List.length_map]; omega) (by decide), ?_⟩
      walk_at "hd"
      have b12 : ButS [p, l, e] H8 (upd H11 e (.lst (ds.map V.int ++ [V.int q]))) := ((b9.mono (fun z hz => by simp at hz ⊢; rcases hz with rfl | rfl <;> simp)).trans (Same.buts (e10.trans e11))).trans (ButS.upd (by simp))
      have nma3 : a ∉ [p, l, e] := by simp; exact ⟨Ne.symm pa, Ne.symm G.la, G.ae⟩
      have grp12 := b12 _ _ nma3 grp8
      refine ⟨q, a, (run (kk n b) ds).1, rfl, SqL.of grp12, G.rok.g.ne, by omega, fun a13 H13 e13 n13 h13 => ?_⟩
      walk_at "hd"
      have b13 := b12.trans (Same.buts e13)
      have m8e : Muts [p, l, e] H8 := fun z hz => by
        rcases List.mem_cons.mp hz with rfl | hz
        · exact ⟨_, h81, rfl⟩
        · rcases List.mem_cons.mp hz with rfl | hz
          · exact ⟨_, h82, rfl⟩
          · rw [List.mem_singleton] at hz
            subst hz
            exact ⟨_, lst8, rfl⟩
      have dis : ∀ z ∈ [p, l, e], z ∉ S := fun z hz => by
        rcases List.mem_cons.mp hz with rfl | hz
        · exact G.np
        · rcases List.mem_cons.mp hz with rfl | hz
          · exact G.nl
          · rw [List.mem_singleton] at hz
            subst hz
            exact G.ne
      have frs : ∀ z ∈ [p, l, e], H0 z = none := fun z hz => by
        rcases List.mem_cons.mp hz with rfl | hz
        · exact G.p0
        · rcases List.mem_cons.mp hz with rfl | hz
          · exact G.l0
          · rw [List.mem_singleton] at hz
            subst hz
            exact G.e0
      have fr8 := fr7.trans b8
      have fr13 : ButS S H0 H13 := fun z u nz hz => b13 _ _ (fun hm => by
        rcases List.mem_cons.mp hm with rfl | hm
        · rw [G.p0] at hz
          cases hz
        · rcases List.mem_cons.mp hm with rfl | hm
          · rw [G.l0] at hz
            cases hz
          · rw [List.mem_singleton] at hm
            subst hm
            rw [G.e0] at hz
            cases hz) (fr8 _ _ nz hz)
      have na13 : a13 ∉ S := fun z => by
        obtain ⟨u, hu, _⟩ := hw.mts _ _ W8 a13 z
        have := b12 _ _ (fun hm => dis _ hm z) hu
        rw [n13] at this
        cases this
      have e911 := e10.trans e11
      have me11 : Muts [e] H11 := fun z hz => by
        rw [List.mem_singleton] at hz
        subst hz
        exact ⟨_, lst11, rfl⟩
      have be12 : ButS [e] H11 (upd H11 e (.lst (ds.map V.int ++ [V.int q]))) := ButS.upd List.mem_cons_self
      have dl12 := (dl9.same e911).buts be12 me11 (by simpa using pe) (by simpa using G.le)
      obtain ⟨_, _, tsx, _, _, hl12, _⟩ := dl12.ex
      have bl := behind_len (asc_nodup G.rok.g.asc) G.rok.g.ne (q : Int)
      refine ⟨(behind (run (kk n b) ds).1 q).length, by omega, ds ++ [(q : Int)], p, l, a13, r11, e, _, _, rfl, ⟨G.rok.next q hgl, fun d hd => ?_, hw.stay _ _ _ _ W8 b13 m8e dis frs, fr13, ?_, ?_, ?_, ?_, G.np, G.nl, na13, G.ne, G.le, ne_of_none hl12 n13, fun z => ?_, G.p0, G.l0, G.e0⟩, by rw [run_snoc]; rfl⟩
      · rcases List.mem_append.mp hd with hd | hd
        · exact G.bnd d hd
        · rw [List.mem_singleton] at hd
          omega
      · rw [run_snoc]
        exact dl12.same e13
      · rw [run_snoc]
        exact h13
      · rw [rowD_snoc]
        exact .tup (Same.tup e13 (be12.tup me11 h11)) (dpAll_append (dpAll_buts b13 m8e (noL_row n (kk n b) ds) hrv8) (.cons (dp_buts b13 m8e (noL_sh _ _) sh8) .nil))
      · rw [e13 _ _ upd_same, List.map_append]
        rfl
      · rw [z, upd_same] at n13
        cases n13
    · refine ⟨n, _, o, rfl, ho, ?_⟩
      rw [hno]
      walk_at "hd"
      refine ifT rfl ?_
      unfold tMkO
      walk_at "hd"
      refine c_lenL (SqL.of lst8) ?_
      rw [List.length_map]
      walk_at "hd"
      refine ⟨by show 1 ≤ 1000; decide, fun x hx => ⟨x, _, rfl, upd_same, fun dx hdx ne => ⟨rfl, dx, _, upd_same, by rw [upd_ne ne, upd_same], by rw [upd_ne ne] at hdx; exact hdx, ?_⟩⟩⟩
      rw [upd_ne ne] at hdx
      refine hw.bad ds dx _ hbd (fun z u nz hz => ?_) upd_same
      have h8 := (fr7.trans b8) _ _ nz hz
      rw [upd_ne (ne_of_none h8 hdx), del_ne (ne_of_none h8 hx), upd_ne (ne_of_none h8 hx), upd_ne (ne_of_none h8 hdx), upd_ne (ne_of_none h8 hx)]
      exact h8
  · have hgl : (run (kk n b) ds).1.length = 1 := by
      have := of_decide_eq_false h
      have := List.length_pos_iff.mpr G.rok.g.ne
      omega
    obtain ⟨g0, hg0⟩ : ∃ g0, (run (kk n b) ds).1 = [g0] := by
      match hh : (run (kk n b) ds).1, hgl with
      | [x], _ => exact ⟨x, rfl⟩
    have hgm : g0 ∈ (run (kk n b) ds).1 := by rw [hg0]; exact List.mem_cons_self
    have hgb := G.rok.g.bnd g0 hgm
    have grp := G.grp
    rw [hg0] at grp
    obtain ⟨dx, da', ts, tt, h1, h2, h3, h4⟩ := G.dl.ex
    have ix0 : atI ([g0].map V.int) 0 = some (.int g0) := rfl
    walk_at "hd"
    refine c_ixL (SqL.of grp) ix0 ?_
    walk_at "hd"
    unfold tMeth
    walk_at "hd"
    refine ⟨p, dx, _, rfl, h1, rfl, ?_⟩
    walk_at "hd"
    refine ⟨p, l, n, _, rfl, G.dl, fun da hda => ?_⟩
    walk_at "hd"
    refine c_ixL (SqL.of grp) ix0 ?_
    obtain ⟨da2, xs, ed, hT, hxl, hx⟩ := db_of hda
    cases ed
    have hgn : g0.toNat < n := by omega
    obtain ⟨x, hxi, hdx⟩ := hx g0.toNat hgn
    have hgi : g0 = ((g0.toNat : Nat) : Int) := by omega
    refine c_ixT hT (by rw [hgi]; exact atI_nat hxi) ?_
    walk_at "hd"
    refine ⟨rfl, fun t6 H6 e6 n6 h6 => ?_⟩
    have hdb := G.rok.debt g0.toNat (by rw [← hgi]; exact hgm)
    rw [hgl] at hdb
    rw [hdb] at hdx
    refine hend ds _ H6 G.rok hgl G.bnd (hw.stay _ _ _ [] G.w (Same.buts e6) (muts_nil _) (fun _ h => nomatch h) (fun _ h => nomatch h)) (G.fr.trans (Same.buts e6)) ?_
    unfold toldD
    rw [hg0]
    exact .tup (SqT.of h6) (.cons (dp_same e6 G.row) (.cons (.lst (SqL.of (e6 _ _ G.lst)) (dpAll_ints ds)) (.cons (.int g0) (.cons (dp_same e6 hdx) .nil))))
end
end Hd
end
section
set_option Elab.async false
set_option linter.all false
set_option maxRecDepth 100000
set_option maxHeartbeats 4000000
namespace Hd
open PySem PySem.Spec PyProof.Rows L2
local macro_rules | `(tactic| walk_at "hd1") => `(tactic| (first
  | with_reducible refine c_seq ?_ | with_reducible refine c_ret ?_ | with_reducible refine c_asg ?_ | with_reducible refine c_drop ?_ | with_reducible refine c_next ?_ | with_reducible refine c_ifS ?_ | with_reducible refine c_par ?_
  | with_reducible refine c_var rfl ?_ | with_reducible refine c_c ?_ | with_reducible refine c_op ?_ | with_reducible refine c_un ?_ | with_reducible refine c_U ?_ | with_reducible refine c_I0 ?_
  | with_reducible refine c_test ?_ | with_reducible refine c_B ?_ | with_reducible refine c_bl ?_ | with_reducible refine c_eq rfl ?_ | with_reducible refine c_ne rfl ?_ | with_reducible refine c_chain ?_
  | with_reducible refine c_and ?_ | with_reducible refine c_or ?_ | with_reducible refine c_not ?_ | with_reducible refine c_andV ?_ | with_reducible refine c_orV ?_ | with_reducible refine c_notV ?_ | with_reducible refine c_ifE ?_
  | with_reducible refine c_call ?_ | with_reducible refine c_cb ?_ | with_reducible refine c_cons ?_ | with_reducible refine c_nil ?_ | with_reducible refine c_tup ?_ | with_reducible refine c_lst ?_ | with_reducible refine c_two ?_ | with_reducible refine c_e1 ?_ | with_reducible refine c_e2 ?_ | with_reducible refine c_int1 ?_ | with_reducible refine c_int1b ?_
  | with_reducible refine c_ixT (by assumption) rfl ?_ | with_reducible refine c_ixL (by assumption) rfl ?_
  | with_reducible refine c_sF ?_ | with_reducible refine c_tF ?_ | with_reducible refine c_tupS ?_ | with_reducible refine c_lstS ?_ | with_reducible refine c_then ?_ | with_reducible refine c_lc ?_ | with_reducible refine c_rng1 ?_ | with_reducible refine c_rng2 ?_ | with_reducible refine c_list ?_
  | with_reducible refine c_I (by assumption) ?_))
local macro_rules | `(tactic| walk_at "hd") => `(tactic| repeat (walk_at "hd1"))
local macro_rules | `(tactic| walk_at "in") => `(tactic| ((try dsimp only [cxOf]); walk_at "hd"))
/-- the reading of against(n, beats, lambda b: body) -/
def tAg (K : PySem.W.Frag) (T : List (Addr × Str)) (t1 t2 : TE) (tl : XK → TE) (E : L2.St → XK) : TE := fun σ H Q => t1 σ H fun v1 H1 => t2 σ H1 fun v2 H2 => LamX.Tabs T H2 ∧ ∀ H3, LamX.ExtN H2 H3 → LamX.Tabs T H3 → ∃ (n b : Nat) (S : List Addr) (W : List Int → Hp → Prop) (Bd : List Int → Prop),
  v1 = .int n ∧ v2 = .int b ∧ 1 ≤ n ∧ n ≤ 12 ∧ 1 ≤ b ∧ b ≤ 400 ∧ WayOk K n (kk n b) S H3 W (fun _ => True) Bd (fun v H' Q' => tl (E σ) (σ ++ [some v]) H' Q') (E σ) ∧ W [] H3 ∧
    ∀ ds v H', ROk (kk n b) ds → (run (kk n b) ds).1.length = 1 → (∀ d ∈ ds, 0 ≤ d ∧ d < (n : Int)) → W ds H' → ButS S H3 H' → Dp K H' v (toldD n (kk n b) ds) → Q v H'
theorem pe_ag {X : Cx} {T : List (Addr × Str)} {c P0 : Addr} {params : Arguments} {body : Expr} {scope : Scope} {lpos p pos : Pos} {b : Str} {tl : XK → TE} {E : L2.St → XK} {t1 t2 : TE} {e1 e2 : Expr} (Tx : Txt X.K X.mg) (F : BWay X.K X.prog) (hg : Gl X "against") (hr : Room 8 X.A)
    (h1 : PE X e1 t1) (h2 : PE X e2 t2) (TB : LamX.TabB X.base X.mg c P0) (hcode : X.env.code = .ref c) (hmT : (P0, X.env.qual ++ "<lambda>") ∈ T) (hu : ∀ p ∈ T, p.1 = P0 → p.2 = X.env.qual ++ "<lambda>")
    (L : LamP X.env.scope scope b) (hb : b ∉ X.N) (hdef : defaultsOf params X.env = ([], []))
    (hbind : ∀ (q : Str) (cl : List (Str × Addr)) (pm cv ctv u : Value), bindArgs (PySem.W.kla_fn "<lambda>" q params body scope cl pm cv ctv) ⟨[u], []⟩ = pure [(b, u)])
    (hbody : ∀ (A : Around) (outer : List Env) (s : Shared) (H : Hp) (E : XK) (f c' : Addr), Room 5 (A.deeper (LamX.lamEnv X scope s.heap.objs.size f c')) → PE (lamCxP X A outer s H E scope f c' b) body (tl E))
    (hx : ∀ σ, PassesAt (L2.CX X.prog X.w) X σ (E σ))
    (hs : starEach [e1, e2, .Lambda params body scope lpos] X.env = (false, eval e1 X.env) :: starEach [e2, .Lambda params body scope lpos] X.env := by rfl)
    (hs2 : starEach [e2, .Lambda params body scope lpos] X.env = (false, eval e2 X.env) :: starEach [.Lambda params body scope lpos] X.env := by rfl)
    (hs3 : starEach [.Lambda params body scope lpos] X.env = (false, eval (.Lambda params body scope lpos) X.env) :: starEach [] X.env := by rfl) :
    PE X (.Call (.Name "against" p) [e1, e2, .Lambda params body scope lpos] [] pos) (tAg X.K T t1 t2 tl E) := by
  obtain ⟨fd, Fd⟩ := Tx.f_against
  obtain ⟨oc, od, dV, kV, doc, pm, an, cdv, ct, osl, efd, lk, hcd, hdV, _⟩ := Fd.ex
  have hbin : Binds X.K fd ["n", "beats", "way"] [] := Fd.bindsN (fun _ _ _ _ _ _ us hl => match us, hl with | [_, _, _], _ => rfl)
  rw [efd] at lk hbin
  refine ⟨fun pins s σ H Q I h => ?_⟩
  refine wpAny_Call_Name_kw (ld_glob I hg Tx.g_against ?_ (by decide))
  refine PySem.W.callWith_K (h₀ := X.base) I.ok.mod.kin Fd.kp ?_ hs (by rw [hs2, hs3] <;> rfl)
  rw [hs]
  show wpAny _ _ (spliced ((false, eval e1 X.env) :: backTo pos (starEach [e2, .Lambda params body scope lpos] X.env))) _ _ s
  refine Calls.spliced_cons (thn (h1.run pins s σ H _ I h) fun w1 s1 ⟨v1, H1, I1, r1, q1⟩ => ?_)
  rw [hs2]
  show wpAny _ _ (spliced ((false, eval e2 X.env) :: backTo pos (starEach [.Lambda params body scope lpos] X.env))) _ _ s1
  refine Calls.spliced_cons (thn (h2.run pins s1 σ H1 _ I1 q1) fun w2 s2 ⟨v2, H2, I2, r2, q2⟩ => ?_)
  rw [hs3]
  show wpAny _ _ (spliced ((false, eval (.Lambda params body scope lpos) X.env) :: backTo pos (starEach [] X.env))) _ _ s2
  obtain ⟨hT, h⟩ := q2
  refine Calls.spliced_cons (LamX.lam_make2 I2 TB hcode hmT hu hT hdef (L.has I2.ok) fun f c' pm' ctv H3 s3 I3 eN T3 hf hfn hfr hco => ?_)
  refine Calls.spliced_nil ⟨I3.kIn, ?_⟩
  obtain ⟨n, b', S, W, Bd, rfl, rfl, hn1, hn2, hb1, hb2, hw, hW0, hend⟩ := h H3 eN T3
  have hc'S : c' ∉ S := hw.mts0.not hco rfl
  have hw' : WayOk X.K n (kk n b') S H3 W (fun H' => H' c' = some (LamX.CodeO c' (X.env.qual ++ "<lambda>"))) Bd (fun v H' Q' => tl (E σ) (σ ++ [some v]) H' Q') (E σ) :=
    ⟨hw.stay, hw.mts, hw.mts0, fun H' e => e _ _ hc'S hco, hw.ask, hw.bad⟩
  have rc : codeAny (model X.prog X.w) X.A (.call (.ref (He.ga X.K "against")) ⟨[w1, w2, .ref f], []⟩) (CR (L2.CX X.prog X.w) X.stack X.prog X.w H3 s3 Q (E σ)) s3 := by
    refine LamX.run_ofS (N := nAg) (ps := ["n", "beats", "way"]) (us := [w1, w2, .ref f]) (vs := [.int n, .int b', .ref f]) lk hcd sc_against hr I3.env0 (hbin s3 [w1, w2, .ref f] I3.kIn rfl) (.cons r1 (.cons r2 (.cons rfl .nil))) rfl fun hr' => ?_
    refine against_body Tx F (f := f) hr' hn1 hn2 hb1 hb2 (fun {e ta p1 p2} ha hst => ?_) hw' hW0 hend
    exact pe_actP (i := 2) (a := "way") (W := fun cls d _ H => E σ cls d H) I3 L hb hf hfn hfr (hbind _ _ _ _ _) (takes_of rfl rfl rfl rfl) (fun _ _ _ _ z => z) (hr'.mono (by decide)) (fun A outer s H hr2 => hbody A outer s H (E σ) f c' hr2) rfl (.inl (by decide +kernel)) ha (by decide) (by decide) hst
  refine wpAny_call (codeAny_mono rc fun r s4 hq => ?_)
  cases r with
  | error e => exact hx σ pins H3 s3 e s4 I3 hq
  | ok fl =>
    cases fl with
    | ret u => exact I3.after hq
    | next => exact False.elim hq
    | brk => exact False.elim hq
    | cont => exact False.elim hq
end Hd
end
section
set_option Elab.async false
set_option linter.all false
set_option maxRecDepth 100000
set_option maxHeartbeats 4000000
namespace Hd
open PySem PySem.Spec PyProof.Rows L2
local macro_rules | `(tactic| walk_at "hd1") => `(tactic| (first
  | with_reducible refine c_seq ?_ | with_reducible refine c_ret ?_ | with_reducible refine c_asg ?_ | with_reducible refine c_drop ?_ | with_reducible refine c_next ?_ | with_reducible refine c_ifS ?_ | with_reducible refine c_par ?_
  | with_reducible refine c_var rfl ?_ | with_reducible refine c_c ?_ | with_reducible refine c_op ?_ | with_reducible refine c_un ?_ | with_reducible refine c_U ?_ | with_reducible refine c_I0 ?_
  | with_reducible refine c_test ?_ | with_reducible refine c_B ?_ | with_reducible refine c_bl ?_ | with_reducible refine c_eq rfl ?_ | with_reducible refine c_ne rfl ?_ | with_reducible refine c_chain ?_
  | with_reducible refine c_and ?_ | with_reducible refine c_or ?_ | with_reducible refine c_not ?_ | with_reducible refine c_andV ?_ | with_reducible refine c_orV ?_ | with_reducible refine c_notV ?_ | with_reducible refine c_ifE ?_
  | with_reducible refine c_call ?_ | with_reducible refine c_cb ?_ | with_reducible refine c_cons ?_ | with_reducible refine c_nil ?_ | with_reducible refine c_tup ?_ | with_reducible refine c_lst ?_ | with_reducible refine c_two ?_ | with_reducible refine c_e1 ?_ | with_reducible refine c_e2 ?_ | with_reducible refine c_int1 ?_ | with_reducible refine c_int1b ?_
  | with_reducible refine c_ixT (by assumption) rfl ?_ | with_reducible refine c_ixL (by assumption) rfl ?_
  | with_reducible refine c_sF ?_ | with_reducible refine c_tF ?_ | with_reducible refine c_tupS ?_ | with_reducible refine c_lstS ?_ | with_reducible refine c_then ?_ | with_reducible refine c_lc ?_ | with_reducible refine c_rng1 ?_ | with_reducible refine c_rng2 ?_ | with_reducible refine c_list ?_
  | with_reducible refine c_I (by assumption) ?_))
local macro_rules | `(tactic| walk_at "hd") => `(tactic| repeat (walk_at "hd1"))
local macro_rules | `(tactic| walk_at "in") => `(tactic| ((try dsimp only [cxOf]); walk_at "hd"))
/-- the hand: its cells, the place, the big number, the seed, the count -/
structure HandAt (K : PySem.W.Frag) (p c : Addr) (H : Hp) : Prop where
  ex : ∃ (i big seed cnt : Int) (ns : List Int), H p = some (.lst [.ref c, .int i, .int big, .int seed, .int cnt]) ∧ H c = some (.lst (ns.map V.int)) ∧ c ≠ p ∧ 0 ≤ i ∧ 0 ≤ big ∧ 0 ≤ seed ∧ (∀ n ∈ ns, 0 ≤ n) ∧ ns.length ≤ 63 ∧ seed < 2147483629
theorem HandAt.same {K : PySem.W.Frag} {p c : Addr} {H H' : Hp} (h : HandAt K p c H) (e : Same H H') : HandAt K p c H' := by
  obtain ⟨i, big, seed, cnt, ns, h1, h2, r⟩ := h.ex
  exact ⟨i, big, seed, cnt, ns, e _ _ h1, e _ _ h2, r⟩
theorem HandAt.ne {K : PySem.W.Frag} {p c : Addr} {H : Hp} (h : HandAt K p c H) : ∃ xs, H p = some (.lst xs) := by
  obtain ⟨i, big, seed, cnt, ns, h1, _⟩ := h.ex
  exact ⟨_, h1⟩
section
variable {P : Program} {w : World} {K : PySem.W.Frag} {mg : Str → Option Value} {base : Heap}
def spHand (K : PySem.W.Frag) : Sp := fun vs H Q _ => ∃ (a : Addr) (ns : List Int), vs = [.ref a] ∧ SqL K H a (ns.map V.int) ∧ ns.length ≤ 63 ∧ ∀ p c H', Same H H' → H p = none → HandAt K p c H' → Q (.ref p) H'
theorem ok_law_hand (T : Txt K mg) : Cal P w K mg base CX0 1 "_law_hand" ["_law_script"] (spHand K) := by
  refine in__law_hand T (fun vs H Q E h => ?_) (fun cdv A outer s H vs Q E hr h => ?_)
  · obtain ⟨a, ns, rfl, _⟩ := h
    rfl
  · obtain ⟨a, ns, rfl, ha, hl, k⟩ := h
    refine ⟨_, pss_cons (ps_setLc (i := 1) (own := [("_law_cell", 2)]) (g := gName 2) (tt := tYes) rfl sc__law_hand.nd rfl rfl (by rfl) (pi_list (pe_slice sl_list (pv 0) po_none (po_some pe_int)))
        (blkOk_by (N := ["_law_script", "_law_cells", "_law_cell"]) (sc := defScope s__law_hand) (by decide +kernel))
        (fun _ _ _ _ _ => pg_name (i := 2) sc__law_hand.nd rfl (.inl rfl)) (fun _ _ _ _ _ => pts_nil) (fun _ _ _ _ _ => pe_callB call_abs (by rfl) T.n_abs bo_abs (pa_cons (pe_callTy call_int1 (by rfl) T.n_int bo_int (pa_cons (pv 2) pa_nil)) pa_nil)))
      (pss_one (ps_ret (pe_lstS (pa_cons (pv 1) (pa_cons pe_int (pa_cons pe_int (pa_cons (pe_op op_add pe_int (pe_callB (clLen K) (by rfl) T.n_len bo_len (pa_cons (pv 1) pa_nil))) (pa_cons pe_int pa_nil)))))))), ?_⟩
    walk_at "in"
    refine c_sl ?_
    walk_at "hd"
    refine c_noP (c_part ?_)
    walk_at "hd"
    refine ⟨_, rfl, a, _, rfl, ha, fun b hb => ?_⟩
    have h63 : cutV (ns.map V.int) none (some 63) = (ns.map V.int) := by
      unfold cutV
      rw [HT.sIx_none, List.drop_zero]
      have : (HT.sIx (ns.map V.int).length (ns.map V.int).length (some (63 : Int))) = min 63 (ns.map V.int).length := HT.sIx_nat _ _ 63
      rw [this]
      refine List.take_of_length_le ?_
      simp
      omega
    rw [h63]
    have e1 := Same.new (o := .lst (ns.map V.int)) hb
    refine ⟨b, rfl, ⟨_, SqL.of upd_same⟩, fun D hD => ?_⟩
    refine lc_dp (K := K) walk_list hD (fun H1 e => SqL.of (e _ _ upd_same)) (fun i => .int (((ns.getD i 0).natAbs : Nat) : Int)) (by rw [List.length_map]; omega) (fun _ _ => rfl) (fun i x H1 H' QQ hi e y hq => ?_) (fun i H1 x H' hi e y => ?_) (fun H1 ys e hy hd => ?_)
    · obtain ⟨rfl, hx⟩ := y
      rw [List.length_map] at hi
      rw [List.getElem?_map, List.getElem?_eq_getElem hi] at hx
      cases hx
      refine ⟨rfl, ?_⟩
      walk_at "hd"
      have e3 : (if ns[i] < 0 then -ns[i] else ns[i]) = (((ns.getD i 0).natAbs : Nat) : Int) := by
        rw [List.getD_eq_getElem?_getD, List.getElem?_eq_getElem hi, Option.getD_some]
        omega
      rw [e3]
      exact hq _ _ (Same.refl _) (.int _)
    · obtain ⟨rfl, _⟩ := y
      exact Same.refl _
    · rw [List.length_map] at hd
      have e3 : ((List.range ns.length).map fun i => PyData.int (((ns.getD i 0).natAbs : Nat) : Int)) = ((List.range ns.length).map fun i => (((ns.getD i 0).natAbs : Nat) : Int)).map PyData.int := by rw [List.map_map]; rfl
      rw [e3] at hd
      have e4 := dpAll_ints' hd
      subst e4
      walk_at "hd"
      refine c_lenL (SqL.of hy) ?_
      walk_at "hd"
      refine ⟨rfl, fun p H2 e2 hp hp2 => ?_⟩
      refine k p D H2 ((e1.trans e).trans e2) ?_ ⟨⟨0, 0, _, 0, _, hp2, e2 _ _ hy, ne_of_none hy hp, by decide, by decide, by simp; omega, ?_, by simp; omega, by simp; omega⟩⟩
      · cases hh : H p with
        | none => rfl
        | some u =>
          have := (e1.trans e) _ _ hh
          rw [hp] at this
          cases this
      · intro n hn
        obtain ⟨i, _, rfl⟩ := List.mem_map.mp hn
        omega
/-- a part that goes on in one way from many states -/
theorem c_ifcut {t : TT} {ts us : TS} {D : Ends} {σ : L2.St} {H : Hp} (I : L2.St → Hp → Prop) (h2 : ∀ σ H, I σ H → D.nx σ H) (h1 : (∀ σ H, I σ H → D.nx σ H) → tIfS t ts us D σ H) : tIfS t ts us D σ H := h1 h2
def spDraw (K : PySem.W.Frag) : Sp := fun vs H Q _ => ∃ (p c : Addr) (m : Nat), vs = [.ref p, .int m] ∧ HandAt K p c H ∧ 1 ≤ m ∧ m ≤ 1000 ∧ ∀ (r : Nat) H', r < m → But p H H' → HandAt K p c H' → Q (.int r) H'
abbrev hx (K : PySem.W.Frag) {X : Cx} (h : X.K = K := by rfl) := ixL K (X := X) h
theorem c_sub {to ti : TE} {t : TSet} {v : V} {σ : L2.St} {H : Hp} {Q : L2.St → Hp → Prop} (h : to σ H fun o H1 => ti σ H1 fun i H2 => t o i v H2 fun H3 => Q σ H3) : gSub to ti t v σ H Q := h
theorem c_asgS {te to ti : TE} {ts : TSet} {σ : L2.St} {H : Hp} {D : Ends} (h : te σ H fun x H1 => to σ H1 fun o H2 => ti σ H2 fun i H3 => ts o i x H3 fun H4 => D.nx σ H4) : tAsg te (gSub to ti ts) D σ H := h
theorem c_setL {H : Hp} {p : Addr} {xs : List V} {i : Int} {j : Nat} {v : V} {Q : Hp → Prop} (h : H p = some (.lst xs)) (hj : ixN xs.length i = some j) (q : Q (upd H p (.lst (xs.set j v)))) : rSetL (.ref p) (.int i) v H Q := ⟨p, xs, i, j, rfl, rfl, h, hj, q⟩
local macro_rules | `(tactic| walk_at "hd1") => `(tactic| (first
  | with_reducible refine c_seq ?_ | with_reducible refine c_ret ?_ | with_reducible refine c_asg ?_ | with_reducible refine c_drop ?_ | with_reducible refine c_next ?_ | with_reducible refine c_ifS ?_ | with_reducible refine c_par ?_
  | with_reducible refine c_var rfl ?_ | with_reducible refine c_c ?_ | with_reducible refine c_op ?_ | with_reducible refine c_un ?_ | with_reducible refine c_U ?_ | with_reducible refine c_I0 ?_
  | with_reducible refine c_test ?_ | with_reducible refine c_B ?_ | with_reducible refine c_bl ?_ | with_reducible refine c_eq rfl ?_ | with_reducible refine c_ne rfl ?_ | with_reducible refine c_chain ?_
  | with_reducible refine c_and ?_ | with_reducible refine c_or ?_ | with_reducible refine c_not ?_ | with_reducible refine c_andV ?_ | with_reducible refine c_orV ?_ | with_reducible refine c_notV ?_ | with_reducible refine c_ifE ?_
  | with_reducible refine c_call ?_ | with_reducible refine c_cb ?_ | with_reducible refine c_cons ?_ | with_reducible refine c_nil ?_ | with_reducible refine c_tup ?_ | with_reducible refine c_lst ?_ | with_reducible refine c_two ?_ | with_reducible refine c_e1 ?_ | with_reducible refine c_e2 ?_ | with_reducible refine c_int1 ?_ | with_reducible refine c_int1b ?_
  | with_reducible refine c_ixT (by assumption) rfl ?_ | with_reducible refine c_ixL (by assumption) rfl ?_
  | with_reducible refine c_asgS ?_ | with_reducible refine c_sF ?_ | with_reducible refine c_tF ?_ | with_reducible refine c_tupS ?_ | with_reducible refine c_lstS ?_ | with_reducible refine c_then ?_ | with_reducible refine c_lc ?_ | with_reducible refine c_rng1 ?_ | with_reducible refine c_rng2 ?_ | with_reducible refine c_list ?_
  | with_reducible refine c_I (by assumption) ?_))
local macro_rules | `(tactic| walk_at "hd") => `(tactic| repeat (walk_at "hd1"))
local macro_rules | `(tactic| walk_at "in") => `(tactic| ((try dsimp only [cxOf]); walk_at "hd"))
theorem ok_law_draw (T : Txt K mg) : Cal P w K mg base CX0 1 "_law_draw" ["_law_hand_here", "_law_many"] (spDraw K) := by
  refine in__law_draw T (fun vs H Q E h => ?_) (fun cdv A outer s H vs Q E hr h => ?_)
  · obtain ⟨p, c, m, rfl, _⟩ := h
    rfl
  · obtain ⟨p, c, m, rfl, hp, hm1, hm2, k⟩ := h
    obtain ⟨i, big, seed, cnt, ns, h1, h2, hcp, hi, hb, hs, hns, hnl, hs2⟩ := hp.ex
    refine ⟨_, pss_cons (ps_if (PW.pt (pw_and (pt_cmpR op_eq (pe_ix (ixL K) (pv 0) pe_int (fun _ _ => rfl)) pe_int (nomark _))
        (pw_and1 (pt_cmpR op_lt (pe_ix (ixL K) (pv 0) pe_int (fun _ _ => rfl)) (pe_callB (clLen K) (by rfl) T.n_len bo_len (pa_cons (pe_ix (ixL K) (pv 0) pe_int (fun _ _ => rfl)) pa_nil)) (nomark _)))))
        (pss_cons (ps_set (i := 2) sc__law_draw.nd rfl (.inl rfl) (pe_ix (ixL K) (pe_ix (ixL K) (pv 0) pe_int (fun _ _ => rfl)) (pe_ix (ixL K) (pv 0) pe_int (fun _ _ => rfl)) (fun _ _ => rfl)))
        (pss_cons (ps_asg (pe_op op_add (pe_ix (ixL K) (pv 0) pe_int (fun _ _ => rfl)) pe_int) (pg_sub (pv 0) pe_int set_list))
        (pss_cons (ps_asg (pe_op op_mod (pe_callTy call_int1 (by rfl) T.n_int bo_int (pa_cons (pe_op op_add (pe_op op_add (pe_op op_mul (pe_ix (ixL K) (pv 0) pe_int (fun _ _ => rfl)) pe_int) (pv 2)) pe_int) pa_nil)) pe_int) (pg_sub (pv 0) pe_int set_list))
        (pss_one (ps_if (pt_cmpR op_ge (pv 2) (pe_op op_pow pe_int pe_int) (nomark _)) (pss_one (ps_asg (pv 2) (pg_sub (pv 0) pe_int set_list))) pss_nil))))) pss_nil)
      (pss_cons (ps_if (pt_cmpR op_gt (pe_ix (ixL K) (pv 0) pe_int (fun _ _ => rfl)) pe_int (nomark _))
        (pss_cons (ps_set (i := 3) sc__law_draw.nd rfl (.inl rfl) (pe_op op_mod (pe_callTy call_int1 (by rfl) T.n_int bo_int (pa_cons (pe_ix (ixL K) (pv 0) pe_int (fun _ _ => rfl)) pa_nil)) (pv 1)))
        (pss_cons (ps_asg (pe_op op_fdiv (pe_ix (ixL K) (pv 0) pe_int (fun _ _ => rfl)) (pv 1)) (pg_sub (pv 0) pe_int set_list))
        (pss_one (ps_ret (pv 3))))) pss_nil)
      (pss_cons (ps_asg (pe_op op_add (pe_ix (ixL K) (pv 0) pe_int (fun _ _ => rfl)) pe_int) (pg_sub (pv 0) pe_int set_list))
      (pss_cons (ps_set (i := 4) sc__law_draw.nd rfl (.inl rfl) (pe_op op_mod (pe_callTy call_int1 (by rfl) T.n_int bo_int (pa_cons (pe_op op_mul (pe_callTy call_int1 (by rfl) T.n_int bo_int (pa_cons (pe_op op_add (pe_ix (ixL K) (pv 0) pe_int (fun _ _ => rfl)) (pe_op op_mul pe_int (pe_ix (ixL K) (pv 0) pe_int (fun _ _ => rfl)))) pa_nil)) pe_int) pa_nil)) pe_int))
      (pss_cons (ps_set (i := 4) sc__law_draw.nd rfl (.inl rfl) (pe_op op_mod (pe_callTy call_int1 (by rfl) T.n_int bo_int (pa_cons (pe_op op_mul (pv 4) (pe_op op_add (pe_op op_fdiv (pv 4) pe_int) pe_int)) pa_nil)) pe_int))
      (pss_cons (ps_set (i := 4) sc__law_draw.nd rfl (.inl rfl) (pe_op op_mod (pe_callTy call_int1 (by rfl) T.n_int bo_int (pa_cons (pe_op op_mul (pv 4) (pe_op op_add (pe_op op_fdiv (pv 4) pe_int) pe_int)) pa_nil)) pe_int))
      (pss_one (ps_ret (pe_op op_mod (pe_callTy call_int1 (by rfl) T.n_int bo_int (pa_cons (pe_op op_fdiv (pv 4) pe_int) pa_nil)) (pv 1))))))))), ?_⟩
    (try dsimp only [cxOf])
    refine c_seq ?_
    have mm : (0 : Int) < (m : Int) := by omega
    refine c_ifcut (fun σ1 H1 => ∃ (i big seed cnt : Int) (u2 : Option V), σ1 = [some (.ref p), some (.int m), u2, none, none] ∧ But p H H1 ∧ H1 p = some (.lst [.ref c, .int i, .int big, .int seed, .int cnt]) ∧ 0 ≤ i ∧ 0 ≤ big ∧ 0 ≤ seed ∧ seed < 2147483629) ?_ (fun go => ?_)
    · clear hi hb hs hs2 h1
      rintro σ1 H1 ⟨i, big, seed, cnt, u2, rfl, b1, h1, hi, hb, hs, hs2⟩
      have q1 : SqL K H1 p _ := SqL.of h1
      walk_at "hd"
      refine ifB (fun h => ?_) (fun h => ?_)
      · have big0 : 0 < big := of_decide_eq_true h
        walk_at "hd"
        refine c_I (show CDiv big (m : Int) from ⟨mm, by omega⟩) ?_
        walk_at "hd"
        refine c_setL h1 rfl ?_
        walk_at "hd"
        have er : ((big % (m : Int)).toNat : Int) = big % (m : Int) := Int.toNat_of_nonneg (Int.emod_nonneg _ (by omega))
        rw [← er]
        have elt := Int.emod_lt_of_pos big mm
        refine k _ _ (by omega) (b1.trans But.upd) ⟨⟨i, big / (m : Int), seed, cnt, ns, upd_same, ?_, hcp, hi, Int.ediv_nonneg hb (by omega), hs, hns, hnl, hs2⟩⟩
        rw [upd_ne hcp]
        exact b1 _ _ hcp h2
      · walk_at "hd"
        refine c_setL h1 rfl ?_
        walk_at "hd"
        have q3 : SqL K (upd H1 p (.lst ([V.ref c, V.int i, V.int big, V.int seed, V.int cnt].set 4 (V.int (cnt + 1))))) p _ := SqL.of upd_same
        refine c_ixL q3 rfl ?_
        walk_at "hd"
        refine c_ixL q3 rfl ?_
        refine c_I (show CMul 7919 (cnt + 1) from .inl ⟨by decide, by decide⟩) ?_
        walk_at "hd"
        refine c_I (show CMul (seed + 7919 * (cnt + 1)) 48271 from .inr ⟨by decide, by decide⟩) ?_
        walk_at "hd"
        refine c_I (by decide) ?_
        walk_at "hd"
        have n1 := Int.emod_nonneg ((seed + 7919 * (cnt + 1)) * 48271) (show (2147483647 : Int) ≠ 0 by decide)
        have n2 := Int.emod_lt_of_pos ((seed + 7919 * (cnt + 1)) * 48271) (show (0 : Int) < 2147483647 by decide)
        generalize (seed + 7919 * (cnt + 1)) * 48271 % 2147483647 = x1 at n1 n2 ⊢
        refine c_I (show CDiv x1 1009 from ⟨by decide, by decide⟩) ?_
        walk_at "hd"
        refine c_I (show CMul x1 (x1 / 1009 + 69621) from .inl ⟨by omega, by omega⟩) ?_
        walk_at "hd"
        refine c_I (by decide) ?_
        walk_at "hd"
        have n3 := Int.emod_nonneg (x1 * (x1 / 1009 + 69621)) (show (2147483647 : Int) ≠ 0 by decide)
        have n4 := Int.emod_lt_of_pos (x1 * (x1 / 1009 + 69621)) (show (0 : Int) < 2147483647 by decide)
        generalize x1 * (x1 / 1009 + 69621) % 2147483647 = x2 at n3 n4 ⊢
        refine c_I (show CDiv x2 2003 from ⟨by decide, by decide⟩) ?_
        walk_at "hd"
        refine c_I (show CMul x2 (x2 / 2003 + 40692) from .inl ⟨by omega, by omega⟩) ?_
        walk_at "hd"
        refine c_I (by decide) ?_
        walk_at "hd"
        generalize x2 * (x2 / 2003 + 40692) % 2147483399 = x3
        refine c_I (show CDiv x3 16 from ⟨by decide, by decide⟩) ?_
        walk_at "hd"
        have er : (((x3 / 16) % (m : Int)).toNat : Int) = (x3 / 16) % (m : Int) := Int.toNat_of_nonneg (Int.emod_nonneg _ (by omega))
        rw [← er]
        have elt := Int.emod_lt_of_pos (x3 / 16) mm
        refine k _ _ (by omega) (b1.trans But.upd) ⟨⟨i, big, seed, cnt + 1, ns, upd_same, ?_, hcp, hi, hb, hs, hns, hnl, hs2⟩⟩
        rw [upd_ne hcp]
        exact b1 _ _ hcp h2
    · have q1 : SqL K H p _ := SqL.of h1
      have q2 : SqL K H c _ := SqL.of h2
      walk_at "hd"
      have stop : ∃ (i big seed cnt : Int) (u2 : Option V), start ["_law_hand_here", "_law_many", "_law_cell", "_law_digit", "_law_number"] [V.ref p, .int m] = [some (.ref p), some (.int m), u2, none, none] ∧ But p H H ∧ H p = some (.lst [.ref c, .int i, .int big, .int seed, .int cnt]) ∧ 0 ≤ i ∧ 0 ≤ big ∧ 0 ≤ seed ∧ seed < 2147483629 :=
        ⟨i, big, seed, cnt, none, rfl, But.refl _ _, h1, hi, hb, hs, hs2⟩
      refine ifB (fun h => ?_) (fun h => ifF rfl (go _ _ stop))
      walk_at "hd"
      refine c_lenL q2 ?_
      rw [List.length_map]
      walk_at "hd"
      refine ifB (fun h => ?_) (fun h => go _ _ stop)
      have hil : i < (ns.length : Int) := of_decide_eq_true h
      have hit : i = ((i.toNat : Nat) : Int) := by omega
      have hix : (ns.map V.int)[i.toNat]? = some (.int (ns[i.toNat]'(by omega))) := by rw [List.getElem?_map, List.getElem?_eq_getElem (by omega)]; rfl
      have hcn := hns _ (List.getElem_mem (show i.toNat < ns.length by omega))
      walk_at "hd"
      refine c_ixL q2 (by rw [hit]; exact atI_nat hix) ?_
      generalize ns[i.toNat]'(by omega) = cell at hcn ⊢
      walk_at "hd"
      refine c_setL h1 rfl ?_
      walk_at "hd"
      have q3 : SqL K (upd H p (.lst ([V.ref c, V.int i, V.int big, V.int seed, V.int cnt].set 1 (V.int (i + 1))))) p _ := SqL.of upd_same
      refine c_ixL q3 rfl ?_
      walk_at "hd"
      refine c_I (show CMul seed 69621 from .inr ⟨by decide, by decide⟩) ?_
      walk_at "hd"
      refine c_I (by decide) ?_
      walk_at "hd"
      refine c_setL upd_same rfl ?_
      rw [upd_upd]
      walk_at "hd"
      have n1 := Int.emod_nonneg (seed * 69621 + cell + 11) (show (2147483629 : Int) ≠ 0 by decide)
      have n2 := Int.emod_lt_of_pos (seed * 69621 + cell + 11) (show (0 : Int) < 2147483629 by decide)
      generalize (seed * 69621 + cell + 11) % 2147483629 = x1 at n1 n2 ⊢
      refine c_I (show CPow 10 18 from ⟨by decide, by decide, by decide⟩) ?_
      walk_at "hd"
      refine ifB (fun h => ?_) (fun h => ?_)
      · walk_at "hd"
        refine c_setL upd_same rfl ?_
        rw [upd_upd]
        exact go _ _ ⟨i + 1, cell, x1, cnt, _, rfl, But.upd, upd_same, by omega, hcn, n1, n2⟩
      · exact go _ _ ⟨i + 1, big, x1, cnt, _, rfl, But.upd, upd_same, by omega, hb, n1, n2⟩
end
end Hd
end
section
set_option Elab.async false
set_option linter.all false
set_option maxRecDepth 100000
set_option maxHeartbeats 4000000
namespace Hd
open PySem PySem.Spec PyProof.Rows L2
local macro_rules | `(tactic| walk_at "hd1") => `(tactic| (first
  | with_reducible refine c_seq ?_ | with_reducible refine c_ret ?_ | with_reducible refine c_asg ?_ | with_reducible refine c_drop ?_ | with_reducible refine c_next ?_ | with_reducible refine c_ifS ?_ | with_reducible refine c_par ?_
  | with_reducible refine c_var rfl ?_ | with_reducible refine c_c ?_ | with_reducible refine c_op ?_ | with_reducible refine c_un ?_ | with_reducible refine c_U ?_ | with_reducible refine c_I0 ?_
  | with_reducible refine c_test ?_ | with_reducible refine c_B ?_ | with_reducible refine c_bl ?_ | with_reducible refine c_eq rfl ?_ | with_reducible refine c_ne rfl ?_ | with_reducible refine c_chain ?_
  | with_reducible refine c_and ?_ | with_reducible refine c_or ?_ | with_reducible refine c_not ?_ | with_reducible refine c_andV ?_ | with_reducible refine c_orV ?_ | with_reducible refine c_notV ?_ | with_reducible refine c_ifE ?_
  | with_reducible refine c_call ?_ | with_reducible refine c_cb ?_ | with_reducible refine c_cons ?_ | with_reducible refine c_nil ?_ | with_reducible refine c_tup ?_ | with_reducible refine c_lst ?_ | with_reducible refine c_two ?_ | with_reducible refine c_e1 ?_ | with_reducible refine c_e2 ?_ | with_reducible refine c_int1 ?_ | with_reducible refine c_int1b ?_
  | with_reducible refine c_ixT (by assumption) rfl ?_ | with_reducible refine c_ixL (by assumption) rfl ?_
  | with_reducible refine c_asgS ?_ | with_reducible refine c_sF ?_ | with_reducible refine c_tF ?_ | with_reducible refine c_tupS ?_ | with_reducible refine c_lstS ?_ | with_reducible refine c_then ?_ | with_reducible refine c_lc ?_ | with_reducible refine c_rng1 ?_ | with_reducible refine c_rng2 ?_ | with_reducible refine c_list ?_
  | with_reducible refine c_I (by assumption) ?_))
local macro_rules | `(tactic| walk_at "hd") => `(tactic| repeat (walk_at "hd1"))
local macro_rules | `(tactic| walk_at "in") => `(tactic| ((try dsimp only [cxOf]); walk_at "hd"))
section
variable {P : Program} {w : World} {K : PySem.W.Frag} {mg : Str → Option Value} {base : Heap}
def spSome (K : PySem.W.Frag) : Sp := fun vs H Q _ => ∃ (p c a : Addr) (xs : List V), vs = [.ref p, .ref a] ∧ HandAt K p c H ∧ H a = some (.lst xs) ∧ a ≠ p ∧ 1 ≤ xs.length ∧ xs.length ≤ 1000 ∧ ∀ (i : Nat) v H', xs[i]? = some v → But p H H' → HandAt K p c H' → Q v H'
theorem ok_law_some (T : Txt K mg) : Cal P w K mg base CX0 2 "_law_some" ["_law_hand_here", "_law_things"] (spSome K) := by
  have c1 := ok_law_draw (P := P) (w := w) (base := base) T
  refine in__law_some T (fun vs H Q E h => ?_) (fun cdv A outer s H vs Q E hr h => ?_)
  · obtain ⟨p, c, a, xs, rfl, _⟩ := h
    rfl
  · obtain ⟨p, c, a, xs, rfl, hp, ha, hap, h1, h2, k⟩ := h
    refine ⟨_, pss_one (ps_ret (pe_ix (ixL K) (pv 1) (pe_cal c1 hr (by rfl) (pa_cons (pv 0) (pa_cons (pe_callB (clLen K) (by rfl) T.n_len bo_len (pa_cons (pv 1) pa_nil)) pa_nil))) (fun _ _ => rfl))), ?_⟩
    walk_at "in"
    refine c_lenL (SqL.of ha) ?_
    walk_at "hd"
    refine ⟨p, c, xs.length, rfl, hp, h1, h2, fun r H' hr b hp' => ?_⟩
    have hx : xs[r]? = some xs[r] := List.getElem?_eq_getElem hr
    refine c_ixL (SqL.of (b _ _ hap ha)) (atI_nat hx) ?_
    exact k r _ _ hx b hp'
def spBeats (K : PySem.W.Frag) : Sp := fun vs H Q _ => ∃ (p c : Addr), vs = [.ref p] ∧ HandAt K p c H ∧ ∀ (b : Nat) H', 1 ≤ b → b ≤ 400 → But p H H' → HandAt K p c H' → Q (.int b) H'
theorem ok_law_beats (T : Txt K mg) : Cal P w K mg base CX0 3 "_law_beats" ["_law_hand_here"] (spBeats K) := by
  have c1 := ok_law_draw (P := P) (w := w) (base := base) T
  have c2 := ok_law_some (P := P) (w := w) (base := base) T
  refine in__law_beats T (fun vs H Q E h => ?_) (fun cdv A outer s H vs Q E hr h => ?_)
  · obtain ⟨p, c, rfl, _⟩ := h
    rfl
  · obtain ⟨p, c, rfl, hp, k⟩ := h
    refine ⟨_, pss_one (ps_ret (pe_cal c2 hr (by rfl) (pa_cons (pv 0) (pa_cons (pe_lstS (pa_cons (pe_op op_add pe_int (pe_cal c1 (hr.mono (by decide)) (by rfl) (pa_cons (pv 0) (pa_cons pe_int pa_nil)))) (pa_cons (pe_op op_add pe_int (pe_cal c1 (hr.mono (by decide)) (by rfl) (pa_cons (pv 0) (pa_cons pe_int pa_nil))))
      (pa_cons pe_int (pa_cons (pe_op op_add pe_int (pe_cal c1 (hr.mono (by decide)) (by rfl) (pa_cons (pv 0) (pa_cons pe_int pa_nil)))) pa_nil))))) pa_nil)))), ?_⟩
    walk_at "in"
    refine ⟨p, c, 12, rfl, hp, by decide, by decide, fun r1 H1 hr1 b1 hp1 => ?_⟩
    walk_at "hd"
    refine ⟨p, c, 12, rfl, hp1, by decide, by decide, fun r2 H2 hr2 b2 hp2 => ?_⟩
    walk_at "hd"
    refine ⟨p, c, 400, rfl, hp2, by decide, by decide, fun r3 H3 hr3 b3 hp3 => ?_⟩
    walk_at "hd"
    refine ⟨rfl, fun a H4 e4 n4 ha => ?_⟩
    obtain ⟨ys, hy⟩ := hp3.ne
    walk_at "hd"
    refine ⟨p, c, a, _, rfl, hp3.same e4, ha, Ne.symm (ne_of_none hy n4), Nat.le_of_ble_eq_true rfl, Nat.le_of_ble_eq_true rfl, fun i v H5 hv b5 hp5 => ?_⟩
    have bb := ((b1.trans b2).trans b3).trans ((Same.but e4).trans b5)
    have hb : ∃ b : Nat, v = .int b ∧ 1 ≤ b ∧ b ≤ 400 := by
      match i, hv with
      | 0, hv => cases hv; exact ⟨1 + r1, by congr 1, by omega, by omega⟩
      | 1, hv => cases hv; exact ⟨1 + r2, by congr 1, by omega, by omega⟩
      | 2, hv => cases hv; exact ⟨400, rfl, by omega, by omega⟩
      | 3, hv => cases hv; exact ⟨1 + r3, by congr 1, by omega, by omega⟩
    obtain ⟨b, rfl, hb1, hb2⟩ := hb
    exact k b H5 hb1 hb2 bb hp5
/-- a thing of another kind than ints -/
def spDeep (K : PySem.W.Frag) : Sp := fun vs H Q _ => ∃ (z : Int), vs = [.int z] ∧ ∀ a H', Same H H' → ((∃ xs, H' a = some (.lst xs) ∧ H a = none) ∨ ∃ xs, H' a = some (.tup xs)) → Q (.ref a) H'
theorem ok_law_deep (T : Txt K mg) : Cal P w K mg base CX0 1 "_law_deep" ["_law_kind"] (spDeep K) := by
  refine in__law_deep T (fun vs H Q E h => ?_) (fun cdv A outer s H vs Q E hr h => ?_)
  · obtain ⟨z, rfl, _⟩ := h
    rfl
  · obtain ⟨z, rfl, k⟩ := h
    refine ⟨_, pss_cons (ps_set (i := 1) sc__law_deep.nd rfl (.inl rfl) pe_non)
      (pss_cons (ps_for (passes_of rfl) rfl (pi_range1 rfl T.n_range (pa_cons pe_int pa_nil)) (pg_name (i := 2) sc__law_deep.nd rfl (.inl rfl))
        (pss_one (ps_set (i := 1) sc__law_deep.nd rfl (.inl rfl) (pe_ifExp (pt_cmpR op_eq (pv 0) pe_int (nomark _)) (pe_lstS (pa_cons (pv 1) pa_nil)) (pe_tupS (pa_cons (pv 1) pa_nil))))))
      (pss_one (ps_ret (pv 1)))), ?_⟩
    walk_at "in"
    unfold tFor
    walk_at "hd"
    refine ⟨by decide, by decide, ?_⟩
    refine for_it walk_range (fun i σ H' => ∃ v u, σ = [some (.int z), some v, u] ∧ Same H H' ∧ (i = 0 ∨ ∃ a, v = .ref a ∧ ((∃ xs, H' a = some (.lst xs) ∧ H a = none) ∨ ∃ xs, H' a = some (.tup xs)))) ⟨_, none, rfl, Same.refl _, .inl rfl⟩ (fun _ _ _ _ _ => trivial) ?_ ?_
    · rintro i x σ H1 H' hi ⟨v, u, rfl, e, _⟩ ⟨rfl, hx⟩
      show tAsg _ _ _ _ _
      walk_at "hd"
      refine ifB (fun h => ?_) (fun h => ?_)
      · walk_at "hd"
        refine ⟨rfl, fun a H2 e2 n2 ha => ?_⟩
        refine ⟨_, _, rfl, e.trans e2, .inr ⟨a, rfl, .inl ⟨_, ha, ?_⟩⟩⟩
        cases hh : H a with
        | none => rfl
        | some u =>
          have := e _ _ hh
          rw [n2] at this
          cases this
      · walk_at "hd"
        refine ⟨rfl, fun a H2 e2 _ ha => ?_⟩
        exact ⟨_, _, rfl, e.trans e2, .inr ⟨a, rfl, .inr ⟨_, ha⟩⟩⟩
    · rintro σ H' ⟨v, u, rfl, e, h⟩
      walk_at "hd"
      rcases h with h | ⟨a, rfl, h⟩
      · exact absurd h (by decide)
      · exact k a H' e h
/-! ### the same data -/
def Dep : Nat → PyData → Prop
  | 0, d => ∃ i, d = .int i
  | j + 1, d => (∃ i, d = .int i) ∨ (∃ ds, d = .tuple ds ∧ ds.length ≤ 1000 ∧ ∀ x ∈ ds, Dep j x) ∨ (∃ ds, d = .list ds ∧ ds.length ≤ 1000 ∧ ∀ x ∈ ds, Dep j x)
def spIs (K : PySem.W.Frag) (j : Nat) : Sp := fun vs H Q _ => ∃ (v1 v2 : V) (d : PyData), vs = [v1, v2] ∧ Dp K H v1 d ∧ Dp K H v2 d ∧ Dep j d ∧ ∀ H', Same H H' → Q (.bl true) H'
theorem dp_lst {H : Hp} {v : V} {ds : List PyData} (h : Dp K H v (.list ds)) : ∃ a vs, v = .ref a ∧ SqL K H a vs ∧ DpAll K H vs ds := by
  cases h with
  | lst h1 h2 => exact ⟨_, _, rfl, h1, h2⟩
theorem c_isiT {H : Hp} {Q : VK} {x : V} {t : String} {tp : Addr} {b : Bool} (e : H tp = some (.tup [.ty "tuple", .ty "list"])) (ty : TyX K H x (.type t)) (k : PySem.W.kitAny K (.type t) [.type "tuple", .type "list"] = some b) (q : Q (.bl b) H) : rIsiT K [x, .ref tp] H Q :=
  ⟨x, tp, _, _, _, b, rfl, e, .cons (.ty _) (.cons (.ty _) .nil), ty, k, q⟩
theorem any_tup : PySem.W.kitAny K (.type "tuple") [.type "tuple", .type "list"] = some true := kitAny_cons (b := true) (kit_ty (by decide +kernel)) (fun z => nomatch z) (fun _ => rfl)
theorem any_lst : PySem.W.kitAny K (.type "list") [.type "tuple", .type "list"] = some true := kitAny_cons (b := false) (kit_ty (by decide +kernel)) (fun _ => kitAny_cons (b := true) (kit_ty (by decide +kernel)) (fun z => nomatch z) (fun _ => rfl)) (fun z => nomatch z)
theorem any_int : PySem.W.kitAny K (.type "int") [.type "tuple", .type "list"] = some false := kitAny_cons (b := false) (kit_ty (by decide +kernel)) (fun _ => kitAny_cons (b := false) (kit_ty (by decide +kernel)) (fun _ => kitAny_nil) (fun z => nomatch z)) (fun z => nomatch z)
theorem clIsiT {X : Cx} (K : PySem.W.Frag) (h : X.K = K := by rfl) : CallR X (.builtin "isinstance") (rIsiT K) := h ▸ call_isiT
theorem ok_law_is (T : Txt K mg) : ∀ j : Nat, Cal P w K mg base CX0 (j + 1) "_law_is" ["_law_told", "_law_due"] (spIs K j) := fun j => by
  have step : (∃ c : Unit, 0 < j → Cal P w K mg base CX0 j "_law_is" ["_law_told", "_law_due"] (spIs K (j - 1))) := ⟨(), fun h => by
    cases j with
    | zero => exact absurd h (by decide)
    | succ j => exact ok_law_is T j⟩
  obtain ⟨_, ih⟩ := step
  refine in__law_is T (fun vs H Q E h => ?_) (fun cdv A outer s H vs Q E hr h => ?_)
  · obtain ⟨v1, v2, d, rfl, _⟩ := h
    rfl
  · obtain ⟨v1, v2, d, rfl, h1, h2, hd, k⟩ := h
    have int_case : ∀ i, d = .int i → ∃ t, PSs (cxOf CX0 P w K mg base ["_law_told", "_law_due", "_law_k", "_law_key"] "_law_is" (defScope s__law_is) (He.ga K "_law_is") cdv A outer s H E) (defBody s__law_is) t ∧ t { nx := fun _ H' => Q .non H', rt := Q } (start ["_law_told", "_law_due", "_law_k", "_law_key"] [v1, v2]) H := by
      rintro i rfl
      cases dp_int h1
      cases dp_int h2
      refine ⟨_, pss_cons (ps_if (pt_val (pe_callB (clIsiT K) (by rfl) T.n_isinstance bo_isinstance (pa_cons (pv 1) (pa_cons (pe_tupS (pa_cons (pe_bltn (v := .ty "tuple") (by rfl) T.n_tuple bo_tuple rfl) (pa_cons (pe_bltn (v := .ty "list") (by rfl) T.n_list bo_list rfl) pa_nil))) pa_nil)))) (pss_cons ps_never (pss_one ps_never)) pss_nil)
        (pss_cons (ps_if (pt_val (pe_callB (clIsi K) (by rfl) T.n_isinstance bo_isinstance (pa_cons (pv 1) (pa_cons (pe_bltn (v := .ty "dict") (by rfl) T.n_dict bo_dict rfl) pa_nil)))) (pss_one ps_never) pss_nil)
        (pss_one (ps_ret (pe_and (pe_cmpR op_eq (pe_callB (clIsi K) (by rfl) T.n_isinstance bo_isinstance (pa_cons (pv 0) (pa_cons (pe_bltn (v := .ty "bool") (by rfl) T.n_bool bo_bool rfl) pa_nil))) (pe_callB (clIsi K) (by rfl) T.n_isinstance bo_isinstance (pa_cons (pv 1) (pa_cons (pe_bltn (v := .ty "bool") (by rfl) T.n_bool bo_bool rfl) pa_nil))) (nomark _))
          (pe_one (pe_cmpR op_eq (pv 0) (pv 1) (nomark _))))))), ?_⟩
      walk_at "in"
      refine ⟨rfl, fun tp H1 e1 _ ht => ?_⟩
      walk_at "hd"
      refine c_isiT ht (.base (.int i)) any_int ?_
      walk_at "hd"
      refine ifF rfl ?_
      walk_at "hd"
      refine c_isi (.base (.int i)) (kit_dict _ (by decide)) ?_
      walk_at "hd"
      refine ifF (by decide) ?_
      walk_at "hd"
      refine c_isi (.base (.int i)) (kit_bool _ (by decide)) ?_
      walk_at "hd"
      refine c_isi (.base (.int i)) (kit_bool _ (by decide)) ?_
      walk_at "hd"
      refine ifT (by decide) ?_
      walk_at "hd"
      have ee : decide (V.int i = V.int i) = true := decide_eq_true rfl
      rw [ee]
      exact k H1 e1
    cases j with
    | zero =>
      obtain ⟨i, hi⟩ := hd
      exact int_case i hi
    | succ j =>
      rcases hd with ⟨i, hi⟩ | ⟨ds, rfl, hl, hds⟩ | ⟨ds, rfl, hl, hds⟩
      · exact int_case i hi
      · have c1 := ih (by omega)
        obtain ⟨a1, vs1, rfl, q1, g1⟩ := dp_tup h1
        obtain ⟨a2, vs2, rfl, q2, g2⟩ := dp_tup h2
        have l1 := dpAll_len g1
        have l2 := dpAll_len g2
        refine ⟨_, pss_cons (ps_if (pt_val (pe_callB (clIsiT K) (by rfl) T.n_isinstance bo_isinstance (pa_cons (pv 1) (pa_cons (pe_tupS (pa_cons (pe_bltn (v := .ty "tuple") (by rfl) T.n_tuple bo_tuple rfl) (pa_cons (pe_bltn (v := .ty "list") (by rfl) T.n_list bo_list rfl) pa_nil))) pa_nil))))
          (pss_cons (ps_if (PW.pt (pw_or (pt_cmpR op_ne (pe_callB (clIsi K) (by rfl) T.n_isinstance bo_isinstance (pa_cons (pv 0) (pa_cons (pe_bltn (v := .ty "tuple") (by rfl) T.n_tuple bo_tuple rfl) pa_nil))) (pe_callB (clIsi K) (by rfl) T.n_isinstance bo_isinstance (pa_cons (pv 1) (pa_cons (pe_bltn (v := .ty "tuple") (by rfl) T.n_tuple bo_tuple rfl) pa_nil))) (nomark _))
              (pw_or1 (pt_cmpR op_ne (pe_callB (clIsi K) (by rfl) T.n_isinstance bo_isinstance (pa_cons (pv 0) (pa_cons (pe_bltn (v := .ty "list") (by rfl) T.n_list bo_list rfl) pa_nil))) (pe_callB (clIsi K) (by rfl) T.n_isinstance bo_isinstance (pa_cons (pv 1) (pa_cons (pe_bltn (v := .ty "list") (by rfl) T.n_list bo_list rfl) pa_nil))) (nomark _))))) (pss_one ps_never) pss_nil)
          (pss_one (ps_ret (pe_and (pe_cmpR op_eq (pe_callB (clLen K) (by rfl) T.n_len bo_len (pa_cons (pv 0) pa_nil)) (pe_callB (clLen K) (by rfl) T.n_len bo_len (pa_cons (pv 1) pa_nil)) (nomark _))
            (pe_one (pe_callB (cr_all rfl) (by rfl) T.n_all bo_all (pa_cons (pe_lc (own := [("_law_k", 2)]) (g := gName 2) (tt := tYes) rfl sc__law_is.nd (pi_range1 rfl T.n_range (pa_cons (pe_callB (clLen K) (by rfl) T.n_len bo_len (pa_cons (pv 1) pa_nil)) pa_nil))
              (blkOk_by (N := ["_law_told", "_law_due", "_law_k", "_law_key"]) (sc := defScope s__law_is) (by decide +kernel)) (fun _ _ _ _ _ => pg_name (i := 2) sc__law_is.nd rfl (.inl rfl)) (fun _ _ _ _ _ => pts_nil)
              (fun _ _ _ _ _ => pe_cal c1 hr (by rfl) (pa_cons (pe_ix (ixT K) (pv 0) (pv 2) (fun _ _ => rfl)) (pa_cons (pe_ix (ixT K) (pv 1) (pv 2) (fun _ _ => rfl)) pa_nil)))) pa_nil))))))) pss_nil)
          (pss_cons ps_never (pss_one ps_never)), ?_⟩
        walk_at "in"
        refine ⟨rfl, fun tp H1 e1 _ ht => ?_⟩
        walk_at "hd"
        have q11 := Same.tup e1 q1
        have q21 := Same.tup e1 q2
        refine c_isiT ht (tyx_tup q21) any_tup ?_
        walk_at "hd"
        refine ifT rfl ?_
        walk_at "hd"
        refine c_isi (tyx_tup q11) (kit_tuple _ (by decide)) ?_
        walk_at "hd"
        refine c_isi (tyx_tup q21) (kit_tuple _ (by decide)) ?_
        walk_at "hd"
        refine ifF (by decide) ?_
        walk_at "hd"
        refine c_isi (tyx_tup q11) (kit_list _ (by decide)) ?_
        walk_at "hd"
        refine c_isi (tyx_tup q21) (kit_list _ (by decide)) ?_
        walk_at "hd"
        refine ifF (by decide) ?_
        walk_at "hd"
        refine c_lenT q11 ?_
        walk_at "hd"
        refine c_lenT q21 ?_
        walk_at "hd"
        refine ifT (by rw [l1, l2]; exact decide_eq_true rfl) ?_
        walk_at "hd"
        refine c_lenT q21 ?_
        rw [l2]
        walk_at "hd"
        refine ⟨by omega, by omega, fun D hD => ?_⟩
        refine lc_dp (K := K) walk_range hD (fun _ _ => trivial) (fun _ => .bool true) (by omega) (fun _ _ => rfl) (fun i x H2 H' QQ hi e y hq => ?_) (fun i H2 x H' hi e y => ?_) (fun H2 ys e hy hd => ?_)
        · obtain ⟨rfl, rfl⟩ := y
          refine ⟨rfl, ?_⟩
          have hi' : i < ds.length := by omega
          have hdi : ds[i]? = some ds[i] := List.getElem?_eq_getElem hi'
          obtain ⟨x1, hx1, hd1⟩ := dpAll_get g1 hdi
          obtain ⟨x2, hx2, hd2⟩ := dpAll_get g2 hdi
          have e0 : (0 : Int) + (i : Int) = (i : Int) := Int.zero_add _
          walk_at "hd"
          refine c_ixT (Same.tup e q11) (by rw [e0]; exact atI_nat hx1) ?_
          walk_at "hd"
          refine c_ixT (Same.tup e q21) (by rw [e0]; exact atI_nat hx2) ?_
          walk_at "hd"
          refine ⟨x1, x2, ds[i], rfl, dp_same (e1.trans e) hd1, dp_same (e1.trans e) hd2, hds _ (List.getElem_mem _), fun H3 e3 => ?_⟩
          exact hq _ _ e3 (.bl true)
        · obtain ⟨rfl, _⟩ := y
          exact Same.refl _
        · have e5 := dpAll_true (n := ds.length) (by simp) hd
          subst e5
          refine ⟨D, _, rfl, SqL.of hy, ?_⟩
          rw [all_true]
          exact k H2 (e1.trans e)
      · have c1 := ih (by omega)
        obtain ⟨a1, vs1, rfl, q1, g1⟩ := dp_lst h1
        obtain ⟨a2, vs2, rfl, q2, g2⟩ := dp_lst h2
        have l1 := dpAll_len g1
        have l2 := dpAll_len g2
        refine ⟨_, pss_cons (ps_if (pt_val (pe_callB (clIsiT K) (by rfl) T.n_isinstance bo_isinstance (pa_cons (pv 1) (pa_cons (pe_tupS (pa_cons (pe_bltn (v := .ty "tuple") (by rfl) T.n_tuple bo_tuple rfl) (pa_cons (pe_bltn (v := .ty "list") (by rfl) T.n_list bo_list rfl) pa_nil))) pa_nil))))
          (pss_cons (ps_if (PW.pt (pw_or (pt_cmpR op_ne (pe_callB (clIsi K) (by rfl) T.n_isinstance bo_isinstance (pa_cons (pv 0) (pa_cons (pe_bltn (v := .ty "tuple") (by rfl) T.n_tuple bo_tuple rfl) pa_nil))) (pe_callB (clIsi K) (by rfl) T.n_isinstance bo_isinstance (pa_cons (pv 1) (pa_cons (pe_bltn (v := .ty "tuple") (by rfl) T.n_tuple bo_tuple rfl) pa_nil))) (nomark _))
              (pw_or1 (pt_cmpR op_ne (pe_callB (clIsi K) (by rfl) T.n_isinstance bo_isinstance (pa_cons (pv 0) (pa_cons (pe_bltn (v := .ty "list") (by rfl) T.n_list bo_list rfl) pa_nil))) (pe_callB (clIsi K) (by rfl) T.n_isinstance bo_isinstance (pa_cons (pv 1) (pa_cons (pe_bltn (v := .ty "list") (by rfl) T.n_list bo_list rfl) pa_nil))) (nomark _))))) (pss_one ps_never) pss_nil)
          (pss_one (ps_ret (pe_and (pe_cmpR op_eq (pe_callB (clLen K) (by rfl) T.n_len bo_len (pa_cons (pv 0) pa_nil)) (pe_callB (clLen K) (by rfl) T.n_len bo_len (pa_cons (pv 1) pa_nil)) (nomark _))
            (pe_one (pe_callB (cr_all rfl) (by rfl) T.n_all bo_all (pa_cons (pe_lc (own := [("_law_k", 2)]) (g := gName 2) (tt := tYes) rfl sc__law_is.nd (pi_range1 rfl T.n_range (pa_cons (pe_callB (clLen K) (by rfl) T.n_len bo_len (pa_cons (pv 1) pa_nil)) pa_nil))
              (blkOk_by (N := ["_law_told", "_law_due", "_law_k", "_law_key"]) (sc := defScope s__law_is) (by decide +kernel)) (fun _ _ _ _ _ => pg_name (i := 2) sc__law_is.nd rfl (.inl rfl)) (fun _ _ _ _ _ => pts_nil)
              (fun _ _ _ _ _ => pe_cal c1 hr (by rfl) (pa_cons (pe_ix (ixL K) (pv 0) (pv 2) (fun _ _ => rfl)) (pa_cons (pe_ix (ixL K) (pv 1) (pv 2) (fun _ _ => rfl)) pa_nil)))) pa_nil))))))) pss_nil)
          (pss_cons ps_never (pss_one ps_never)), ?_⟩
        walk_at "in"
        refine ⟨rfl, fun tp H1 e1 _ ht => ?_⟩
        walk_at "hd"
        have q11 := e1.seq q1
        have q21 := e1.seq q2
        refine c_isiT ht (tyx_lst q21) any_lst ?_
        walk_at "hd"
        refine ifT rfl ?_
        walk_at "hd"
        refine c_isi (tyx_lst q11) (kit_tuple _ (by decide)) ?_
        walk_at "hd"
        refine c_isi (tyx_lst q21) (kit_tuple _ (by decide)) ?_
        walk_at "hd"
        refine ifF (by decide) ?_
        walk_at "hd"
        refine c_isi (tyx_lst q11) (kit_list _ (by decide)) ?_
        walk_at "hd"
        refine c_isi (tyx_lst q21) (kit_list _ (by decide)) ?_
        walk_at "hd"
        refine ifF (by decide) ?_
        walk_at "hd"
        refine c_lenL q11 ?_
        walk_at "hd"
        refine c_lenL q21 ?_
        walk_at "hd"
        refine ifT (by rw [l1, l2]; exact decide_eq_true rfl) ?_
        walk_at "hd"
        refine c_lenL q21 ?_
        rw [l2]
        walk_at "hd"
        refine ⟨by omega, by omega, fun D hD => ?_⟩
        refine lc_dp (K := K) walk_range hD (fun _ _ => trivial) (fun _ => .bool true) (by omega) (fun _ _ => rfl) (fun i x H2 H' QQ hi e y hq => ?_) (fun i H2 x H' hi e y => ?_) (fun H2 ys e hy hd => ?_)
        · obtain ⟨rfl, rfl⟩ := y
          refine ⟨rfl, ?_⟩
          have hi' : i < ds.length := by omega
          have hdi : ds[i]? = some ds[i] := List.getElem?_eq_getElem hi'
          obtain ⟨x1, hx1, hd1⟩ := dpAll_get g1 hdi
          obtain ⟨x2, hx2, hd2⟩ := dpAll_get g2 hdi
          have e0 : (0 : Int) + (i : Int) = (i : Int) := Int.zero_add _
          walk_at "hd"
          refine c_ixL (e.seq q11) (by rw [e0]; exact atI_nat hx1) ?_
          walk_at "hd"
          refine c_ixL (e.seq q21) (by rw [e0]; exact atI_nat hx2) ?_
          walk_at "hd"
          refine ⟨x1, x2, ds[i], rfl, dp_same (e1.trans e) hd1, dp_same (e1.trans e) hd2, hds _ (List.getElem_mem _), fun H3 e3 => ?_⟩
          exact hq _ _ e3 (.bl true)
        · obtain ⟨rfl, _⟩ := y
          exact Same.refl _
        · have e5 := dpAll_true (n := ds.length) (by simp) hd
          subst e5
          refine ⟨D, _, rfl, SqL.of hy, ?_⟩
          rw [all_true]
          exact k H2 (e1.trans e)
end
end Hd
end
section
set_option Elab.async false
set_option linter.all false
set_option maxRecDepth 100000
set_option maxHeartbeats 4000000
namespace Hd
open PySem PySem.Spec PyProof.Rows L2
local macro_rules | `(tactic| walk_at "hd1") => `(tactic| (first
  | with_reducible refine c_seq ?_ | with_reducible refine c_ret ?_ | with_reducible refine c_asg ?_ | with_reducible refine c_drop ?_ | with_reducible refine c_next ?_ | with_reducible refine c_ifS ?_ | with_reducible refine c_par ?_
  | with_reducible refine c_var rfl ?_ | with_reducible refine c_c ?_ | with_reducible refine c_op ?_ | with_reducible refine c_un ?_ | with_reducible refine c_U ?_ | with_reducible refine c_I0 ?_
  | with_reducible refine c_test ?_ | with_reducible refine c_B ?_ | with_reducible refine c_bl ?_ | with_reducible refine c_eq rfl ?_ | with_reducible refine c_ne rfl ?_ | with_reducible refine c_chain ?_
  | with_reducible refine c_and ?_ | with_reducible refine c_or ?_ | with_reducible refine c_not ?_ | with_reducible refine c_andV ?_ | with_reducible refine c_orV ?_ | with_reducible refine c_notV ?_ | with_reducible refine c_ifE ?_
  | with_reducible refine c_call ?_ | with_reducible refine c_cb ?_ | with_reducible refine c_cons ?_ | with_reducible refine c_nil ?_ | with_reducible refine c_tup ?_ | with_reducible refine c_lst ?_ | with_reducible refine c_two ?_ | with_reducible refine c_e1 ?_ | with_reducible refine c_e2 ?_ | with_reducible refine c_int1 ?_ | with_reducible refine c_int1b ?_
  | with_reducible refine c_ixT (by assumption) rfl ?_ | with_reducible refine c_ixL (by assumption) rfl ?_
  | with_reducible refine c_asgS ?_ | with_reducible refine c_sF ?_ | with_reducible refine c_tF ?_ | with_reducible refine c_tupS ?_ | with_reducible refine c_lstS ?_ | with_reducible refine c_then ?_ | with_reducible refine c_lc ?_ | with_reducible refine c_rng1 ?_ | with_reducible refine c_rng2 ?_ | with_reducible refine c_list ?_
  | with_reducible refine c_I (by assumption) ?_))
local macro_rules | `(tactic| walk_at "hd") => `(tactic| repeat (walk_at "hd1"))
local macro_rules | `(tactic| walk_at "in") => `(tactic| ((try dsimp only [cxOf]); walk_at "hd"))
section
variable {P : Program} {w : World} {K : PySem.W.Frag} {mg : Str → Option Value} {base : Heap}
theorem dpAll_set {H : Hp} : ∀ {vs : List V} {ds : List PyData} {q : Nat} {v : V} {d : PyData}, DpAll K H vs ds → Dp K H v d → DpAll K H (vs.set q v) (ds.set q d)
  | _, _, _, _, _, .nil, _ => by simp; exact .nil
  | _, _, 0, _, _, .cons h1 t, h => .cons h t
  | _, _, q + 1, _, _, .cons h1 t, h => .cons h1 (dpAll_set (q := q) t h)
theorem map_set_ex {n q : Nat} (d : Nat → Int) : (((List.range n).map fun i => frD (d i)).set q (frD (d q - 27720))) = (List.range n).map fun i => frD (d i - ex (q : Int) i) := by
  apply List.ext_getElem?
  intro i
  by_cases hi : i < n
  · rw [List.getElem?_set, List.getElem?_map, List.getElem?_map, List.getElem?_range hi]
    by_cases hq : q = i
    · subst hq
      have : ex (q : Int) q = 27720 := if_pos rfl
      rw [if_pos rfl, if_pos (by simp; exact hi)]
      simp [this]
    · have : ex (q : Int) i = 0 := if_neg (by omega)
      rw [if_neg hq]
      simp [this]
  · rw [List.getElem?_eq_none (by simp; omega), List.getElem?_eq_none (by simp; omega)]
def spDealt (K : PySem.W.Frag) : Sp := fun vs H Q _ => ∃ (v1 v2 : V) (n q : Nat) (d : Nat → Int) (g : List Int), vs = [v1, v2, .int q] ∧ Dp K H v1 (dbD n d) ∧ Dp K H v2 (shD n g) ∧ n ≤ 12 ∧ q < n ∧ 0 < g.length ∧ g.length ≤ 12 ∧
  ∀ v H', Same H H' → Dp K H' v (dbD n fun i => d i + sh g i - ex (q : Int) i) → Q v H'
theorem ok_law_dealt (T : Txt K mg) : Cal P w K mg base CX0 3 "_law_dealt" ["_law_debts", "_law_shares", "_law_person"] (spDealt K) := by
  have c1 := ok_law_plus (P := P) (w := w) (base := base) T
  refine in__law_dealt T (fun vs H Q E h => ?_) (fun cdv A outer s H vs Q E hr h => ?_)
  · obtain ⟨v1, v2, n, q, d, g, rfl, _⟩ := h
    rfl
  · obtain ⟨v1, v2, n, q, d, g, rfl, h1, h2, hn, hq, g0, g1, k⟩ := h
    obtain ⟨a, xs, rfl, ha, hxl, hx⟩ := db_of h1
    obtain ⟨b, c, rfl, hb, hc⟩ := sh_of h2
    refine ⟨_, pss_cons (ps_setLc (i := 3) (own := [("_law_debt", 4), ("_law_top", 5)]) (g := gTup K 2 (gCons (gName 4) (gCons (gName 5) gNil))) (tt := tYes) rfl sc__law_dealt.nd rfl (by rfl) (by rfl)
        (RZ.pi_zipA (by rfl) T.n_zip (pa_cons (pv 0) (pa_cons (pe_ix (ixT K) (pv 1) pe_int (fun _ _ => rfl)) pa_nil)))
        (blkOk_by (N := ["_law_debts", "_law_shares", "_law_person", "_law_found", "_law_debt", "_law_top"]) (sc := defScope s__law_dealt) (by decide +kernel))
        (fun _ _ _ _ _ => pg_tup rfl (pgs_cons (pg_name (i := 4) sc__law_dealt.nd rfl (.inl rfl)) (pgs_cons (pg_name (i := 5) sc__law_dealt.nd rfl (.inl rfl)) pgs_nil))) (fun _ _ _ _ _ => pts_nil)
        (fun _ _ _ _ _ => pe_cal c1 hr (by rfl) (pa_cons (pv 4) (pa_cons (pe_tupS (pa_cons (pv 5) (pa_cons (pe_ix (ixT K) (pv 1) pe_int (fun _ _ => rfl)) pa_nil))) pa_nil))))
      (pss_cons (ps_asg (pe_cal c1 hr (by rfl) (pa_cons (pe_ix (ixL K) (pv 3) (pv 2) (fun _ _ => rfl)) (pa_cons (pe_tupS (pa_cons (pe_un un_neg pe_int) (pa_cons pe_int pa_nil))) pa_nil))) (pg_sub (pv 3) (pv 2) set_list))
      (pss_one (ps_ret (pe_tupleOf (by rfl) T.n_tuple (pv 3))))), ?_⟩
    walk_at "in"
    unfold RZ.iZipA
    walk_at "hd"
    refine ⟨a, c, xs, _, rfl, .inr ⟨ha, hc, fun D hD => ?_⟩⟩
    refine lc_dp (K := K) (walk_zipT (n := n) (by rw [tops_len, hxl]; simp)) hD (fun H1 e => ⟨Same.tup e ha, Same.tup e hc⟩) (fun i => frD (d i + sh g i)) (by omega) (fun _ _ => rfl) (fun i x H1 H' QQ hi e y hq => ?_) (fun i H1 x H' hi e y => yp_same y) (fun H1 ys e hy hd => ?_)
    · have e1 := yp_same y
      obtain ⟨T0, x1, y1, rfl, hT, rfl, hx1, hy1⟩ := y
      obtain ⟨x2, hx2, hdx⟩ := hx i hi
      have hx1 : xs[i]? = some x1 := hx1
      have hy1 : ((tops n g).map V.int)[i]? = some y1 := hy1
      rw [hx2] at hx1
      cases hx1
      rw [tops_get hi] at hy1
      cases hy1
      refine g_two (SqT.of upd_same) ⟨rfl, ?_⟩
      have hb' := Same.tup (e.trans e1) hb
      walk_at "hd"
      refine ⟨rfl, fun t H2 e2 _ ht => ?_⟩
      walk_at "hd"
      refine ⟨_, t, _, sh g i, _, _, rfl, dp_same ((e.trans e1).trans e2) hdx, SqT.of ht, by omega, by omega, top_sc g0 g1, fun v3 H3 e3 hv4 => hq v3 H3 (e2.trans e3) ?_⟩
      rw [Int.one_mul] at hv4
      exact hv4
    · walk_at "hd"
      have hyl : ys.length = n := by
        have := dpAll_len hd
        simpa using this
      obtain ⟨x, hxq, hdx⟩ := dpAll_get (i := q) (d := frD (d q + sh g q)) hd (by rw [List.getElem?_map, List.getElem?_range hq]; rfl)
      refine c_ixL (SqL.of hy) (atI_nat hxq) ?_
      walk_at "hd"
      refine ⟨rfl, fun t H2 e2 _ ht => ?_⟩
      walk_at "hd"
      refine ⟨x, t, _, -27720, -1, 1, rfl, dp_same e2 hdx, SqT.of ht, by decide, by decide, by decide, fun v3 H3 e3 hv3 => ?_⟩
      walk_at "hd"
      refine c_setL ((e2.trans e3) _ _ hy) (by unfold ixN; rw [if_pos (by omega), if_pos (by omega), Int.toNat_natCast]) ?_
      walk_at "hd"
      have hv3' : Dp K H3 v3 (frD (d q + sh g q - 27720)) := by
        have : d q + sh g q + 1 * -27720 = d q + sh g q - 27720 := by omega
        rw [this] at hv3
        exact hv3
      have hd3 := dpAll_set (q := q) (dpAll_same (e2.trans e3) hd) hv3'
      have eset : (((List.range n).map fun i => frD (d i + sh g i)).set q (frD (d q + sh g q - 27720))) = (List.range n).map fun i => frD (d i + sh g i - ex (q : Int) i) := map_set_ex fun i => d i + sh g i
      rw [eset] at hd3
      have hd4 := dpAll_but (But.upd (o := .lst (ys.set q v3))) ((e2.trans e3) _ _ hy) (noLs_map fun _ _ => rfl) hd3
      have s3 : Same H (upd H3 D (.lst (ys.set q v3))) := Same.mut ((e.trans e2).trans e3) hD
      refine .inl ⟨D, _, rfl, SqL.of upd_same, fun t2 ht2 => ?_⟩
      have e5 := Same.new (o := .tup (ys.set q v3)) ht2
      exact k _ _ (s3.trans e5) (.tup (SqT.of upd_same) (dpAll_same e5 hd4))
end
end Hd
end
section
set_option Elab.async false
set_option linter.all false
set_option maxRecDepth 100000
set_option maxHeartbeats 4000000
namespace Hd
open PySem PySem.Spec PyProof.Rows L2
local macro_rules | `(tactic| walk_at "hd1") => `(tactic| (first
  | with_reducible refine c_seq ?_ | with_reducible refine c_ret ?_ | with_reducible refine c_asg ?_ | with_reducible refine c_drop ?_ | with_reducible refine c_next ?_ | with_reducible refine c_ifS ?_ | with_reducible refine c_par ?_
  | with_reducible refine c_var rfl ?_ | with_reducible refine c_c ?_ | with_reducible refine c_op ?_ | with_reducible refine c_un ?_ | with_reducible refine c_U ?_ | with_reducible refine c_I0 ?_
  | with_reducible refine c_test ?_ | with_reducible refine c_B ?_ | with_reducible refine c_bl ?_ | with_reducible refine c_eq rfl ?_ | with_reducible refine c_ne rfl ?_ | with_reducible refine c_chain ?_
  | with_reducible refine c_and ?_ | with_reducible refine c_or ?_ | with_reducible refine c_not ?_ | with_reducible refine c_andV ?_ | with_reducible refine c_orV ?_ | with_reducible refine c_notV ?_ | with_reducible refine c_ifE ?_
  | with_reducible refine c_call ?_ | with_reducible refine c_cb ?_ | with_reducible refine c_cons ?_ | with_reducible refine c_nil ?_ | with_reducible refine c_tup ?_ | with_reducible refine c_lst ?_ | with_reducible refine c_two ?_ | with_reducible refine c_e1 ?_ | with_reducible refine c_e2 ?_ | with_reducible refine c_int1 ?_ | with_reducible refine c_int1b ?_
  | with_reducible refine c_ixT (by assumption) rfl ?_ | with_reducible refine c_ixL (by assumption) rfl ?_
  | with_reducible refine c_asgS ?_ | with_reducible refine c_sF ?_ | with_reducible refine c_tF ?_ | with_reducible refine c_tupS ?_ | with_reducible refine c_lstS ?_ | with_reducible refine c_then ?_ | with_reducible refine c_lc ?_ | with_reducible refine c_rng1 ?_ | with_reducible refine c_rng2 ?_ | with_reducible refine c_list ?_
  | with_reducible refine c_I (by assumption) ?_))
local macro_rules | `(tactic| walk_at "hd") => `(tactic| repeat (walk_at "hd1"))
local macro_rules | `(tactic| walk_at "in") => `(tactic| ((try dsimp only [cxOf]); walk_at "hd"))
/-! ### the ways, in plain words -/
def bestF (mo : Bool) (gr : Nat → Int) : Nat → Nat
  | 0 => 0
  | p + 1 => if (if mo = true then gr (bestF mo gr p) else gr p) < (if mo = true then gr p else gr (bestF mo gr p)) then p else bestF mo gr p
def leftF (n : Nat) (g : List Int) : List Nat := (List.range n).filter fun i => decide (ind g i = 0)
def wayF (kd : Str) (tb : List Int) (n : Nat) (d : Nat → Int) (g : List Int) (num : Nat) : Nat :=
  if kd = "table" then (tb.getD num 0).toNat else if kd = "turn" then num % n else if kd = "none" then (leftF n g).getLastD 0 else bestF (decide (kd = "most")) (fun i => d i + sh g i) n
theorem bestF_le {mo : Bool} {gr : Nat → Int} : ∀ {n : Nat}, bestF mo gr n ≤ n - 1
  | 0 => Nat.le_refl _
  | n + 1 => by
    have h := bestF_le (mo := mo) (gr := gr) (n := n)
    show (if (if mo = true then gr (bestF mo gr n) else gr n) < (if mo = true then gr n else gr (bestF mo gr n)) then n else bestF mo gr n) ≤ n + 1 - 1
    repeat' split
    all_goals omega
theorem leftF_mem {n : Nat} {g : List Int} (h : leftF n g ≠ []) : (leftF n g).getLastD 0 < n := by
  have : (leftF n g).getLastD 0 ∈ leftF n g := by
    cases hh : leftF n g with
    | nil => exact absurd hh h
    | cons a r => simp [List.getLastD]
  exact List.mem_range.mp (List.mem_filter.mp this).1
theorem wayF_lt {kd : Str} {tb : List Int} {n : Nat} {d : Nat → Int} {g : List Int} {num : Nat} (hn : 1 ≤ n) (htl : ∀ x ∈ tb, 0 ≤ x ∧ x < (n : Int)) (hnum : num < tb.length) : wayF kd tb n d g num < n := by
  unfold wayF
  split
  · have e : tb.getD num 0 = tb[num] := by rw [List.getD_eq_getElem?_getD, List.getElem?_eq_getElem hnum]; rfl
    have := htl _ (List.getElem_mem hnum)
    rw [e]
    omega
  · split
    · exact Nat.mod_lt _ hn
    · split
      · by_cases h : leftF n g = []
        · rw [h]
          exact hn
        · exact leftF_mem h
      · have := bestF_le (mo := decide (kd = "most")) (gr := fun i => d i + sh g i) (n := n)
        omega
section
variable {K : PySem.W.Frag} {σ : L2.St} {H : Hp} {D : Ends} {te : TE} {g : TG}
theorem c_asgT (h : te σ H fun x H1 => g x σ H1 fun σ2 H2 => D.nx σ2 H2) : tAsg te g D σ H := h
theorem g_three {i j k : Nat} {T : Addr} {x y z : V} {Q : L2.St → Hp → Prop} (h : SqT K H T [x, y, z]) (q : Q (((σ.set i (some x)).set j (some y)).set k (some z)) H) : gTup K 3 (gCons (gName i) (gCons (gName j) (gCons (gName k) gNil))) (.ref T) σ H Q :=
  ⟨T, [x, y, z], rfl, h, rfl, x, [y, z], rfl, y, [z], rfl, z, [], rfl, rfl, q⟩
theorem g_four {i j k l : Nat} {T : Addr} {x y z u : V} {Q : L2.St → Hp → Prop} (h : SqT K H T [x, y, z, u]) (q : Q ((((σ.set i (some x)).set j (some y)).set k (some z)).set l (some u)) H) : gTup K 4 (gCons (gName i) (gCons (gName j) (gCons (gName k) (gCons (gName l) gNil)))) (.ref T) σ H Q :=
  ⟨T, [x, y, z, u], rfl, h, rfl, x, [y, z, u], rfl, y, [z, u], rfl, z, [u], rfl, u, [], rfl, rfl, q⟩
theorem atI_lastV {xs : List V} {v : V} (h : xs.getLast? = some v) : atI xs (-1) = some v := by
  have e : xs = xs.dropLast ++ [v] := by
    cases xs with
    | nil => simp at h
    | cons a r =>
      have q := List.dropLast_concat_getLast (show (a :: r) ≠ [] by simp)
      rw [List.getLast?_eq_some_getLast (by simp)] at h
      cases h
      exact q.symm
  rw [e]
  exact atI_last _ _
end
section
variable {P : Program} {w : World} {K : PySem.W.Frag} {mg : Str → Option Value} {base : Heap}
abbrev nWay : List Str := ["_law_way_here", "_law_table", "_law_view", "_law_debts", "_law_shares", "_law_number", "_law_grown", "_law_debt", "_law_top", "_law_left", "_law_person", "_law_best", "_law_one", "_law_other"]
def spWay (K : PySem.W.Frag) : Sp := fun vs H Q _ => ∃ (kd : Str) (tb : Addr) (tl : List Int) (v : V) (n num : Nat) (d : Nat → Int) (g : List Int), vs = [.str kd, .ref tb, v] ∧ Dp K H v (.tuple [dbD n d, shD n g, .int num]) ∧ SqT K H tb (tl.map V.int) ∧ num < tl.length ∧ (∀ x ∈ tl, 0 ≤ x ∧ x < (n : Int)) ∧ 1 ≤ n ∧ n ≤ 12 ∧
  0 < g.length ∧ g.length ≤ 12 ∧ ∀ H', Same H H' → Q (.int (wayF kd tl n d g num : Nat)) H'
theorem ok_law_way (T : Txt K mg) : Cal P w K mg base CX0 3 "_law_way" ["_law_way_here", "_law_table", "_law_view"] (spWay K) := by
  have c1 := ok_law_plus (P := P) (w := w) (base := base) T
  have c2 := ok_law_less (P := P) (w := w) (base := base) T
  refine in__law_way T (fun vs H Q E h => ?_) (fun cdv A outer s H vs Q E hr h => ?_)
  · obtain ⟨kd, tb, tl, v, n, num, d, g, rfl, _⟩ := h
    rfl
  · obtain ⟨kd, tb, tl, v, n, num, d, g, rfl, hv, htb, hnum, htl, hn1, hn, g0, g1, k⟩ := h
    obtain ⟨va, vvs, rfl, hva, hvv⟩ := dp_tup hv
    obtain ⟨vd, r1, rfl, hd, hvv⟩ := dpAll_cons hvv
    obtain ⟨vs, r2, rfl, hs, hvv⟩ := dpAll_cons hvv
    obtain ⟨vn, r3, rfl, hnn, hvv⟩ := dpAll_cons hvv
    cases dpAll_nil hvv
    cases dp_int hnn
    obtain ⟨a, xs, rfl, ha, hxl, hx⟩ := db_of hd
    obtain ⟨b, c, rfl, hb, hc⟩ := sh_of hs
    refine ⟨_, pss_cons (ps_asg (pv 2) (pg_tup rfl (pgs_cons (pg_name (i := 3) sc__law_way.nd rfl (.inl rfl)) (pgs_cons (pg_name (i := 4) sc__law_way.nd rfl (.inr rfl)) (pgs_cons (pg_name (i := 5) sc__law_way.nd rfl (.inl rfl)) pgs_nil)))))
      (pss_cons (ps_setLc (i := 6) (own := [("_law_debt", 7), ("_law_top", 8)]) (g := gTup K 2 (gCons (gName 7) (gCons (gName 8) gNil))) (tt := tYes) rfl sc__law_way.nd rfl (by rfl) (by rfl)
        (RZ.pi_zipA (by rfl) T.n_zip (pa_cons (pv 3) (pa_cons (pe_ix (ixT K) (pv 4) pe_int (fun _ _ => rfl)) pa_nil)))
        (blkOk_by (N := nWay) (sc := defScope s__law_way) (by decide +kernel))
        (fun _ _ _ _ _ => pg_tup rfl (pgs_cons (pg_name (i := 7) sc__law_way.nd rfl (.inl rfl)) (pgs_cons (pg_name (i := 8) sc__law_way.nd rfl (.inl rfl)) pgs_nil))) (fun _ _ _ _ _ => pts_nil)
        (fun _ _ _ _ _ => pe_cal c1 hr (by rfl) (pa_cons (pv 7) (pa_cons (pe_tupS (pa_cons (pv 8) (pa_cons (pe_ix (ixT K) (pv 4) pe_int (fun _ _ => rfl)) pa_nil))) pa_nil))))
      (pss_cons (ps_if (pt_cmpR op_eq (pv 0) pe_str (nomark _)) (pss_one (ps_ret (pe_ix (ixT K) (pv 1) (pv 5) (fun _ _ => rfl)))) pss_nil)
      (pss_cons (ps_if (pt_cmpR op_eq (pv 0) pe_str (nomark _)) (pss_one (ps_ret (pe_op op_mod (pe_callTy call_int1 (by rfl) T.n_int bo_int (pa_cons (pv 5) pa_nil)) (pe_callB (clLen K) (by rfl) T.n_len bo_len (pa_cons (pv 3) pa_nil))))) pss_nil)
      (pss_cons (ps_if (pt_cmpR op_eq (pv 0) pe_str (nomark _))
          (pss_cons (ps_setLc (i := 9) (own := [("_law_person", 10)]) (g := gName 10) rfl sc__law_way.nd rfl (by rfl) (by rfl) (pi_range1 rfl T.n_range (pa_cons (pe_callB (clLen K) (by rfl) T.n_len bo_len (pa_cons (pv 3) pa_nil)) pa_nil))
              (blkOk_by (N := nWay) (sc := defScope s__law_way) (by decide +kernel)) (fun _ _ _ _ _ => pg_name (i := 10) sc__law_way.nd rfl (.inl rfl))
              (fun _ _ _ _ _ => pts_one (pt_cmpR op_eq (pe_ix (ixT K) (pe_ix (ixT K) (pv 4) pe_int (fun _ _ => rfl)) (pv 10) (fun _ _ => rfl)) pe_int (nomark _))) (fun _ _ _ _ _ => pv 10))
          (pss_one (ps_ret (pe_ifExp (pt_cmpR op_gt (pe_callB (clLen K) (by rfl) T.n_len bo_len (pa_cons (pv 9) pa_nil)) pe_int (nomark _)) (pe_ix (ixL K) (pv 9) (pe_un un_neg pe_int) (fun _ _ => rfl)) pe_int)))) pss_nil)
      (pss_cons (ps_set (i := 11) sc__law_way.nd rfl (.inl rfl) pe_int)
      (pss_cons (ps_for (passes_of rfl) rfl (pi_range1 rfl T.n_range (pa_cons (pe_callB (clLen K) (by rfl) T.n_len bo_len (pa_cons (pv 3) pa_nil)) pa_nil)) (pg_name (i := 10) sc__law_way.nd rfl (.inl rfl))
          (pss_cons (ps_asg (pe_ifExp (pt_cmpR op_eq (pv 0) pe_str (nomark _)) (pe_tupS (pa_cons (pe_ix (ixL K) (pv 6) (pv 11) (fun _ _ => rfl)) (pa_cons (pe_ix (ixL K) (pv 6) (pv 10) (fun _ _ => rfl)) pa_nil))) (pe_tupS (pa_cons (pe_ix (ixL K) (pv 6) (pv 10) (fun _ _ => rfl)) (pa_cons (pe_ix (ixL K) (pv 6) (pv 11) (fun _ _ => rfl)) pa_nil))))
              (pg_tup rfl (pgs_cons (pg_name (i := 12) sc__law_way.nd rfl (.inl rfl)) (pgs_cons (pg_name (i := 13) sc__law_way.nd rfl (.inl rfl)) pgs_nil))))
          (pss_one (ps_set (i := 11) sc__law_way.nd rfl (.inl rfl) (pe_ifExp (pt_val (pe_cal c2 (hr.mono (by decide)) (by rfl) (pa_cons (pv 12) (pa_cons (pv 13) pa_nil)))) (pv 10) (pv 11))))))
      (pss_one (ps_ret (pv 11))))))))), ?_⟩
    walk_at "in"
    refine c_asgT ?_
    walk_at "hd"
    refine g_three hva ?_
    walk_at "hd"
    unfold RZ.iZipA
    walk_at "hd"
    refine ⟨a, c, xs, _, rfl, .inr ⟨ha, hc, fun D hD => ?_⟩⟩
    refine lc_dp (K := K) (walk_zipT (n := n) (by rw [tops_len, hxl]; simp)) hD (fun H1 e => ⟨Same.tup e ha, Same.tup e hc⟩) (fun i => frD (d i + sh g i)) (by omega) (fun _ _ => rfl) (fun i x H1 H' QQ hi e y hq => ?_) (fun i H1 x H' hi e y => yp_same y) (fun H1 ys e hy hd1 => ?_)
    · have e1 := yp_same y
      obtain ⟨T0, x1, y1, rfl, hT, rfl, hx1, hy1⟩ := y
      obtain ⟨x2, hx2, hdx⟩ := hx i hi
      have hx1 : xs[i]? = some x1 := hx1
      have hy1 : ((tops n g).map V.int)[i]? = some y1 := hy1
      rw [hx2] at hx1
      cases hx1
      rw [tops_get hi] at hy1
      cases hy1
      refine g_two (SqT.of upd_same) ⟨rfl, ?_⟩
      have hb' := Same.tup (e.trans e1) hb
      walk_at "hd"
      refine ⟨rfl, fun t H2 e2 _ ht => ?_⟩
      walk_at "hd"
      refine ⟨_, t, _, sh g i, _, _, rfl, dp_same ((e.trans e1).trans e2) hdx, SqT.of ht, by omega, by omega, top_sc g0 g1, fun v3 H3 e3 hv4 => hq v3 H3 (e2.trans e3) ?_⟩
      rw [Int.one_mul] at hv4
      exact hv4
    · have ha1 := Same.tup e ha
      have hb1 := Same.tup e hb
      have hc1 := Same.tup e hc
      have htb1 := Same.tup e htb
      have nn : (0 : Int) < (n : Int) := by omega
      walk_at "hd"
      refine ifB (fun h => ?_) (fun h1 => ?_)
      · have hk : kd = "table" := by have := of_decide_eq_true h; cases this; rfl
        walk_at "hd"
        have e2 : (tl.map V.int)[num]? = some (.int ((wayF kd tl n d g num : Nat) : Int)) := by
          have e3 : wayF kd tl n d g num = (tl.getD num 0).toNat := if_pos hk
          have := htl _ (List.getElem_mem hnum)
          rw [e3, List.getElem?_map, List.getElem?_eq_getElem hnum, List.getD_eq_getElem?_getD, List.getElem?_eq_getElem hnum]
          show some (V.int tl[num]) = some (V.int ((tl[num].toNat : Nat) : Int))
          rw [Int.toNat_of_nonneg this.1]
        refine c_ixT htb1 (atI_nat e2) ?_
        exact k H1 e
      · have k1 : ¬ kd = "table" := fun z => by rw [z] at h1; exact absurd h1 (by decide)
        walk_at "hd"
        refine ifB (fun h => ?_) (fun h2 => ?_)
        · have hk : kd = "turn" := by have := of_decide_eq_true h; cases this; rfl
          walk_at "hd"
          refine c_lenT ha1 ?_
          rw [hxl]
          walk_at "hd"
          have e3 : (num : Int) % (n : Int) = ((wayF kd tl n d g num : Nat) : Int) := by
            have : wayF kd tl n d g num = num % n := by unfold wayF; rw [if_neg k1, if_pos hk]
            rw [this, Int.natCast_emod]
          rw [e3]
          exact k H1 e
        · have k2 : ¬ kd = "turn" := fun z => by rw [z] at h2; exact absurd h2 (by decide)
          walk_at "hd"
          refine ifB (fun h => ?_) (fun h3 => ?_)
          · have hk : kd = "none" := by have := of_decide_eq_true h; cases this; rfl
            have hwf : wayF kd tl n d g num = (leftF n g).getLastD 0 := by unfold wayF; rw [if_neg k1, if_neg k2, if_pos hk]
            walk_at "hd"
            refine c_lenT ha1 ?_
            rw [hxl]
            walk_at "hd"
            refine ⟨by omega, by omega, fun D2 hD2 => ?_⟩
            refine lc_it walk_range (fun i H2 => Same H1 H2 ∧ H2 D2 = some (.lst ((leftF i g).map fun j : Nat => V.int (j : Int)))) ⟨Same.new hD2, upd_same⟩ (fun _ _ _ _ => trivial) ?_ ?_
            · rintro i x H2 H' hi ⟨e2, h2⟩ ⟨rfl, hx⟩
              have hx : x = V.int (0 + (i : Int)) := hx
              rw [Int.zero_add] at hx
              subst hx
              have hi : i < n := by omega
              refine ⟨rfl, ?_⟩
              walk_at "hd"
              refine c_ixT (Same.tup e2 hb1) rfl ?_
              walk_at "hd"
              refine c_ixT (Same.tup e2 hc1) (atI_nat (tops_get hi)) ?_
              walk_at "hd"
              have hll : (leftF i g).length ≤ 12 := by
                have := List.length_filter_le (fun i => decide (ind g i = 0)) (List.range i)
                rw [List.length_range] at this
                exact Nat.le_trans this (by omega)
              have elf : leftF (i + 1) g = leftF i g ++ (if ind g i = 0 then [i] else []) := by
                unfold leftF
                rw [List.range_succ, List.filter_append]
                congr 1
                by_cases hz : ind g i = 0 <;> simp [hz]
              refine ifB (fun h => ?_) (fun h => ?_)
              · have hz : ind g i = 0 := V.int.inj (of_decide_eq_true h)
                walk_at "hd"
                refine ⟨_, h2, Nat.lt_of_le_of_lt (show _ ≤ 12 by rw [List.length_map]; exact hll) (by decide), Same.mut e2 hD2, ?_⟩
                rw [upd_same, elf, if_pos hz, List.map_append]
                rfl
              · have hz : ¬ ind g i = 0 := fun z => by rw [z] at h; exact absurd h (by decide)
                refine ⟨e2, ?_⟩
                rw [elf, if_neg hz, List.append_nil]
                exact h2
            · rintro H2 ⟨e2, h2⟩
              have en : ((n : Int)).toNat = n := Int.toNat_natCast n
              rw [en] at h2
              walk_at "hd"
              refine c_lenL (SqL.of h2) ?_
              rw [List.length_map]
              walk_at "hd"
              refine ifB (fun h => ?_) (fun h => ?_)
              · have hl : leftF n g ≠ [] := fun z => by rw [z] at h; exact absurd h (by decide)
                have el : ((leftF n g).map fun j : Nat => V.int (j : Int)).getLast? = some (.int ((wayF kd tl n d g num : Nat) : Int)) := by
                  rw [hwf, List.getLast?_map]
                  cases hh : leftF n g with
                  | nil => exact absurd hh hl
                  | cons a r => simp [List.getLastD, List.getLast?_eq_some_getLast]
                walk_at "hd"
                refine c_ixL (SqL.of h2) (atI_lastV el) ?_
                exact k H2 (e.trans e2)
              · have hl : leftF n g = [] := by
                  have := of_decide_eq_false h
                  exact List.length_eq_zero_iff.mp (by omega)
                walk_at "hd"
                have e0 : ((wayF kd tl n d g num : Nat) : Int) = 0 := by rw [hwf, hl]; rfl
                have := k H2 (e.trans e2)
                rw [e0] at this
                exact this
          · have k3 : ¬ kd = "none" := fun z => by rw [z] at h3; exact absurd h3 (by decide)
            have hwf : wayF kd tl n d g num = bestF (decide (kd = "most")) (fun i => d i + sh g i) n := by unfold wayF; rw [if_neg k1, if_neg k2, if_neg k3]
            walk_at "hd"
            unfold tFor
            walk_at "hd"
            refine c_lenT ha1 ?_
            rw [hxl]
            walk_at "hd"
            refine ⟨by omega, by omega, ?_⟩
            have hgr : ∀ j, j < n → ∃ x, ys[j]? = some x ∧ Dp K H1 x (frD (d j + sh g j)) := fun j hj => dpAll_get (i := j) hd1 (by rw [List.getElem?_map, List.getElem?_range hj]; rfl)
            refine for_it walk_range (fun i σ H' => ∃ u7 u8 u9 u10 u12 u13, σ = [some (.str kd), some (.ref tb), some (.ref va), some (.ref a), some (.ref b), some (.int num), some (.ref D), u7, u8, u9, u10, some (.int ((bestF (decide (kd = "most")) (fun i => d i + sh g i) i : Nat) : Int)), u12, u13] ∧ Same H1 H') ⟨_, _, _, _, _, _, rfl, Same.refl _⟩ (fun _ _ _ _ _ => trivial) ?_ ?_
            · rintro i x σ H2 H' hi ⟨u7, u8, u9, u10, u12, u13, rfl, e2⟩ ⟨rfl, hx⟩
              have hx : x = V.int (0 + (i : Int)) := hx
              rw [Int.zero_add] at hx
              subst hx
              have hi : i < n := by omega
              have hbl : bestF (decide (kd = "most")) (fun i => d i + sh g i) i < n := by
                have := bestF_le (mo := decide (kd = "most")) (gr := fun i => d i + sh g i) (n := i)
                omega
              have ebest : bestF (decide (kd = "most")) (fun i => d i + sh g i) (i + 1) = if (if decide (kd = "most") = true then (d (bestF (decide (kd = "most")) (fun i => d i + sh g i) i) + sh g (bestF (decide (kd = "most")) (fun i => d i + sh g i) i)) else (d i + sh g i)) <
                (if decide (kd = "most") = true then (d i + sh g i) else (d (bestF (decide (kd = "most")) (fun i => d i + sh g i) i) + sh g (bestF (decide (kd = "most")) (fun i => d i + sh g i) i))) then i else bestF (decide (kd = "most")) (fun i => d i + sh g i) i := rfl
              generalize bestF (decide (kd = "most")) (fun i => d i + sh g i) i = bb at hbl ebest ⊢
              obtain ⟨xb, hxb, hdb⟩ := hgr bb hbl
              obtain ⟨xi, hxi, hdi⟩ := hgr i hi
              have hyD : SqL K H' D ys := SqL.of (e2 _ _ hy)
              show tSeq _ _ _ _ _
              refine c_seq (c_asgT ?_)
              walk_at "hd"
              refine ifB (fun h => ?_) (fun h => ?_)
              · have hk : kd = "most" := by have := of_decide_eq_true h; cases this; rfl
                walk_at "hd"
                refine c_ixL hyD (atI_nat hxb) ?_
                walk_at "hd"
                refine c_ixL hyD (atI_nat hxi) ?_
                walk_at "hd"
                refine ⟨rfl, fun t H3 e3 _ ht => ?_⟩
                refine g_two (SqT.of ht) ?_
                walk_at "hd"
                refine ⟨xb, xi, _, _, rfl, dp_same (e2.trans e3) hdb, dp_same (e2.trans e3) hdi, ?_⟩
                have eb : decide (kd = "most") = true := decide_eq_true hk
                rw [eb] at ebest
                walk_at "hd"
                refine ifB (fun h5 => ?_) (fun h5 => ?_)
                · walk_at "hd"
                  rw [eb, ebest]
                  exact ⟨_, _, _, _, _, _, by rw [if_pos]; exact rfl; simpa using h5, e2.trans e3⟩
                · walk_at "hd"
                  rw [eb, ebest]
                  exact ⟨_, _, _, _, _, _, by rw [if_neg]; exact rfl; simpa using h5, e2.trans e3⟩
              · have hk : ¬ kd = "most" := fun z => by rw [z] at h; exact absurd h (by decide)
                walk_at "hd"
                refine c_ixL hyD (atI_nat hxi) ?_
                walk_at "hd"
                refine c_ixL hyD (atI_nat hxb) ?_
                walk_at "hd"
                refine ⟨rfl, fun t H3 e3 _ ht => ?_⟩
                refine g_two (SqT.of ht) ?_
                walk_at "hd"
                refine ⟨xi, xb, _, _, rfl, dp_same (e2.trans e3) hdi, dp_same (e2.trans e3) hdb, ?_⟩
                have eb : decide (kd = "most") = false := decide_eq_false hk
                rw [eb] at ebest
                walk_at "hd"
                refine ifB (fun h5 => ?_) (fun h5 => ?_)
                · walk_at "hd"
                  rw [eb, ebest]
                  exact ⟨_, _, _, _, _, _, by rw [if_pos]; exact rfl; simpa using h5, e2.trans e3⟩
                · walk_at "hd"
                  rw [eb, ebest]
                  exact ⟨_, _, _, _, _, _, by rw [if_neg]; exact rfl; simpa using h5, e2.trans e3⟩
            · rintro σ H2 ⟨u7, u8, u9, u10, u12, u13, rfl, e2⟩
              walk_at "hd"
              have en : ((n : Int)).toNat = n := Int.toNat_natCast n
              rw [en, ← hwf]
              exact k H2 (e.trans e2)
end
end Hd
end
section
set_option Elab.async false
set_option linter.all false
set_option maxRecDepth 100000
set_option maxHeartbeats 4000000
namespace Hd
open PySem PySem.Spec PyProof.Rows L2
local macro_rules | `(tactic| walk_at "hd1") => `(tactic| (first
  | with_reducible refine c_seq ?_ | with_reducible refine c_ret ?_ | with_reducible refine c_asg ?_ | with_reducible refine c_drop ?_ | with_reducible refine c_next ?_ | with_reducible refine c_ifS ?_ | with_reducible refine c_par ?_
  | with_reducible refine c_var rfl ?_ | with_reducible refine c_c ?_ | with_reducible refine c_op ?_ | with_reducible refine c_un ?_ | with_reducible refine c_U ?_ | with_reducible refine c_I0 ?_
  | with_reducible refine c_test ?_ | with_reducible refine c_B ?_ | with_reducible refine c_bl ?_ | with_reducible refine c_eq rfl ?_ | with_reducible refine c_ne rfl ?_ | with_reducible refine c_chain ?_
  | with_reducible refine c_and ?_ | with_reducible refine c_or ?_ | with_reducible refine c_not ?_ | with_reducible refine c_andV ?_ | with_reducible refine c_orV ?_ | with_reducible refine c_notV ?_ | with_reducible refine c_ifE ?_
  | with_reducible refine c_call ?_ | with_reducible refine c_cb ?_ | with_reducible refine c_cons ?_ | with_reducible refine c_nil ?_ | with_reducible refine c_tup ?_ | with_reducible refine c_lst ?_ | with_reducible refine c_two ?_ | with_reducible refine c_e1 ?_ | with_reducible refine c_e2 ?_ | with_reducible refine c_int1 ?_ | with_reducible refine c_int1b ?_
  | with_reducible refine c_ixT (by assumption) rfl ?_ | with_reducible refine c_ixL (by assumption) rfl ?_
  | with_reducible refine c_asgS ?_ | with_reducible refine c_sF ?_ | with_reducible refine c_tF ?_ | with_reducible refine c_tupS ?_ | with_reducible refine c_lstS ?_ | with_reducible refine c_then ?_ | with_reducible refine c_lc ?_ | with_reducible refine c_rng1 ?_ | with_reducible refine c_rng2 ?_ | with_reducible refine c_list ?_
  | with_reducible refine c_I (by assumption) ?_))
local macro_rules | `(tactic| walk_at "hd") => `(tactic| repeat (walk_at "hd1"))
local macro_rules | `(tactic| walk_at "in") => `(tactic| ((try dsimp only [cxOf]); walk_at "hd"))
theorem rok_of {k : Nat} : ∀ {ds : List Int}, ds.length < k → ROk k ds := fun {ds} h => by
  have key : ∀ m (ds : List Int), ds.length = m → m < k → ROk k ds := fun m => by
    induction m with
    | zero =>
      intro ds e h
      rw [List.length_eq_zero_iff.mp e]
      exact .zero (by omega)
    | succ m ih =>
      intro ds e h
      have hne : ds ≠ [] := fun z => by rw [z] at e; cases e
      have es := List.dropLast_concat_getLast hne
      have hl : ds.dropLast.length = m := by rw [List.length_dropLast, e]; rfl
      have r := ih _ hl (by omega)
      have rl := r.len
      rw [← es]
      exact r.next _ (by omega)
  exact key _ ds rfl h
def dealsF (kd : Str) (tl : List Int) (n k : Nat) : Nat → List Int
  | 0 => []
  | j + 1 => dealsF kd tl n k j ++ [((wayF kd tl n (run k (dealsF kd tl n k j)).2 (run k (dealsF kd tl n k j)).1 j : Nat) : Int)]
theorem dealsF_len {kd : Str} {tl : List Int} {n k : Nat} : ∀ j, (dealsF kd tl n k j).length = j
  | 0 => rfl
  | j + 1 => by
    show (dealsF kd tl n k j ++ [_]).length = j + 1
    rw [List.length_append, dealsF_len j]
    rfl
theorem dealsF_bnd {kd : Str} {tl : List Int} {n k : Nat} (hn : 1 ≤ n) (htl : ∀ x ∈ tl, 0 ≤ x ∧ x < (n : Int)) : ∀ j, j ≤ tl.length → ∀ d ∈ dealsF kd tl n k j, 0 ≤ d ∧ d < (n : Int)
  | 0, _, d, hd => nomatch hd
  | j + 1, hj, d, hd => by
    rcases List.mem_append.mp (show d ∈ dealsF kd tl n k j ++ [_] from hd) with h | h
    · exact dealsF_bnd hn htl j (by omega) d h
    · rw [List.mem_singleton] at h
      have := wayF_lt (kd := kd) (tb := tl) (d := (run k (dealsF kd tl n k j)).2) (g := (run k (dealsF kd tl n k j)).1) (num := j) hn htl (by omega)
      omega
theorem take_snoc {ds : List Int} {j : Nat} (h : j < ds.length) : ds.take (j + 1) = ds.take j ++ [ds[j]] := by
  rw [List.take_add_one, List.getElem?_eq_getElem h]
  rfl
section
variable {P : Program} {w : World} {K : PySem.W.Frag} {mg : Str → Option Value} {base : Heap}
theorem dp_zero {H : Hp} {p z : Addr} {n : Nat} (h1 : SqT K H p (List.replicate n (.ref z))) (h2 : SqT K H z [.int 0, .int 1]) : Dp K H (.ref p) (dbD n fun _ => 0) := by
  refine .tup h1 ?_
  have key : ∀ (m : Nat), DpAll K H (List.replicate m (V.ref z)) ((List.range m).map fun _ => frD 0) := fun m => by
    have e : ((List.range m).map fun _ => frD 0) = List.replicate m (frD 0) := by
      rw [List.map_const']
      simp
    rw [e]
    induction m with
    | zero => exact .nil
    | succ m ih =>
      refine .cons (fr_mk ?_) (ih (by rw [List.map_const']; simp))
      rw [nu0, de0]
      exact h2
  exact key n
def spLogged (K : PySem.W.Frag) : Sp := fun vs H Q _ => ∃ (sn : Addr) (xs : List V) (kd : Str) (tb : Addr) (tl : List Int) (v : V) (n num : Nat) (d : Nat → Int) (g : List Int), vs = [.ref sn, .str kd, .ref tb, v] ∧ H sn = some (.lst xs) ∧ xs.length ≤ 100 ∧ Dp K H v (.tuple [dbD n d, shD n g, .int num]) ∧ SqT K H tb (tl.map V.int) ∧ num < tl.length ∧ (∀ x ∈ tl, 0 ≤ x ∧ x < (n : Int)) ∧ 1 ≤ n ∧ n ≤ 12 ∧
  0 < g.length ∧ g.length ≤ 12 ∧ ∀ H', But sn H H' → H' sn = some (.lst (xs ++ [v])) → Q (.int (wayF kd tl n d g num : Nat)) H'
theorem noL_view (n : Nat) (d : Nat → Int) (g : List Int) (i : Int) : noL (.tuple [dbD n d, shD n g, .int i]) = true := by
  show (noL (dbD n d) && (noL (shD n g) && (true && true))) = true
  rw [noL_db, noL_sh]
  rfl
theorem ok_law_logged (T : Txt K mg) : Cal P w K mg base CX0 4 "_law_logged" ["_law_seen", "_law_way_here", "_law_table", "_law_view"] (spLogged K) := by
  have c1 := ok_law_way (P := P) (w := w) (base := base) T
  refine in__law_logged T (fun vs H Q E h => ?_) (fun cdv A outer s H vs Q E hr h => ?_)
  · obtain ⟨sn, xs, kd, tb, tl, v, n, num, d, g, rfl, _⟩ := h
    rfl
  · obtain ⟨sn, xs, kd, tb, tl, v, n, num, d, g, rfl, hsn, hxl, hv, htb, hnum, htl, hn1, hn, g0, g1, k⟩ := h
    refine ⟨_, pss_cons (ps_expr (pe_bm PySem.F.plainAttrs_list PySem.F.slot_list_append PySem.F.type_list_append mt_append (pv 0) (pa_cons (pv 3) pa_nil)))
      (pss_one (ps_ret (pe_cal c1 hr (by rfl) (pa_cons (pv 1) (pa_cons (pv 2) (pa_cons (pv 3) pa_nil)))))), ?_⟩
    walk_at "in"
    unfold tBM
    walk_at "hd"
    refine ⟨.inl ⟨rfl, _, SqL.of hsn⟩, ?_⟩
    walk_at "hd"
    refine ⟨sn, _, _, rfl, rfl, hsn, Nat.lt_of_le_of_lt hxl (by decide), ?_⟩
    walk_at "hd"
    have b : But sn H (upd H sn (.lst (xs ++ [v]))) := But.upd
    refine ⟨kd, tb, tl, v, n, num, d, g, rfl, dp_but b hsn (noL_view _ _ _ _) hv, b.tup hsn htb, hnum, htl, hn1, hn, g0, g1, fun H' e => ?_⟩
    exact k H' (b.trans (Same.but e)) (e _ _ upd_same)
def spDealsOf (K : PySem.W.Frag) : Sp := fun vs H Q _ => ∃ (kd : Str) (tb : Addr) (tl : List Int) (n b : Nat), vs = [.int n, .int b, .str kd, .ref tb] ∧ SqT K H tb (tl.map V.int) ∧ tl.length + 1 = kk n b ∧ (∀ x ∈ tl, 0 ≤ x ∧ x < (n : Int)) ∧ 1 ≤ n ∧ n ≤ 12 ∧
  ∀ e H', Same H H' → H e = none → H' e = some (.lst ((dealsF kd tl n (kk n b) tl.length).map V.int)) → Q (.ref e) H'
abbrev nDof : List Str := ["_law_n", "_law_beats_here", "_law_way_here", "_law_table", "_law_deals", "_law_number", "_law_group", "_law_debts", "_law_person", "_law_out", "_law_one"]
theorem ok_law_deals_of (T : Txt K mg) : Cal P w K mg base CX0 4 "_law_deals_of" ["_law_n", "_law_beats_here", "_law_way_here", "_law_table"] (spDealsOf K) := by
  have c1 := ok_law_way (P := P) (w := w) (base := base) T
  have c2 := ok_law_dealt (P := P) (w := w) (base := base) T
  have c3 := ok_law_group_shares (P := P) (w := w) (base := base) T
  refine in__law_deals_of T (fun vs H Q E h => ?_) (fun cdv A outer s H vs Q E hr h => ?_)
  · obtain ⟨kd, tb, tl, n, b, rfl, _⟩ := h
    rfl
  · obtain ⟨kd, tb, tl, n, b, rfl, htb, hk, htl, hn1, hn, k⟩ := h
    refine ⟨_, pss_cons (ps_set (i := 4) sc__law_deals_of.nd rfl (.inl rfl) (pe_lstS pa_nil))
      (pss_cons (ps_for (passes_of rfl) rfl (pi_range1 rfl T.n_range (pa_cons (pe_op op_sub (pe_callB (call_min2 rfl) (by rfl) T.n_min bo_min (pa_cons (pv 0) (pa_cons (pe_op op_add (pv 1) pe_int) pa_nil))) pe_int) pa_nil)) (pg_name (i := 5) sc__law_deals_of.nd rfl (.inl rfl))
        (pss_cons (ps_par (i := 6) (j := 7) rfl sc__law_deals_of.nd rfl rfl (by decide) rfl rfl (pa_cons (pe_listRg rfl (by rfl) T.n_list (prg_1 (by rfl) T.n_range (pe_callB (call_min2 rfl) (by rfl) T.n_min bo_min (pa_cons (pv 0) (pa_cons (pe_op op_add (pv 1) pe_int) pa_nil)))))
            (pa_cons (pe_op op_rep1 (pe_tupS (pa_cons (pe_tupS (pa_cons pe_int (pa_cons pe_int pa_nil))) pa_nil)) (pv 0)) pa_nil)) (by rfl))
        (pss_cons (ps_for (passes_of rfl) rfl (pi_list (pv 4)) (pg_name (i := 8) sc__law_deals_of.nd rfl (.inl rfl))
          (pss_cons (ps_set (i := 7) sc__law_deals_of.nd rfl (.inl rfl) (pe_cal c2 hr (by rfl) (pa_cons (pv 7) (pa_cons (pe_cal c3 (hr.mono (by decide)) (by rfl) (pa_cons (pv 0) (pa_cons (pv 6) pa_nil))) (pa_cons (pv 8) pa_nil)))))
          (pss_cons (ps_set (i := 9) sc__law_deals_of.nd rfl (.inr rfl) (pe_ifExp (pt_cmpR (opIn K) (pv 8) (pv 6) (by rfl)) (pv 8) (pe_callB (cr_max rfl) (by rfl) T.n_max bo_max (pa_cons (pv 6) pa_nil))))
          (pss_one (ps_setLc (i := 6) (own := [("_law_one", 10)]) (g := gName 10) rfl sc__law_deals_of.nd rfl (by rfl) (by rfl) (pi_list (pv 6)) (blkOk_by (N := nDof) (sc := defScope s__law_deals_of) (by decide +kernel))
              (fun _ _ _ _ _ => pg_name (i := 10) sc__law_deals_of.nd rfl (.inl rfl)) (fun _ _ _ _ _ => pts_one (pt_cmpR op_ne (pv 10) (pv 9) (nomark _))) (fun _ _ _ _ _ => pv 10))))))
        (pss_one (ps_expr (pe_bm PySem.F.plainAttrs_list PySem.F.slot_list_append PySem.F.type_list_append mt_append (pv 4) (pa_cons (pe_cal c1 hr (by rfl) (pa_cons (pv 2) (pa_cons (pv 3) (pa_cons (pe_tupS (pa_cons (pv 7) (pa_cons (pe_cal c3 (hr.mono (by decide)) (by rfl) (pa_cons (pv 0) (pa_cons (pv 6) pa_nil))) (pa_cons (pv 5) pa_nil)))) pa_nil)))) pa_nil)))))))
      (pss_one (ps_ret (pv 4)))), ?_⟩
    have hkn : kk n b ≤ n := by unfold kk; omega
    walk_at "in"
    refine ⟨rfl, fun e H1 e1 n1 he => ?_⟩
    walk_at "hd"
    unfold tFor
    walk_at "hd"
    rw [kk_int]
    refine ⟨by omega, by omega, ?_⟩
    refine for_it walk_range (fun i σ H' => ∃ u5 u6 u7 u8 u9 u10, σ = [some (.int n), some (.int b), some (.str kd), some (.ref tb), some (.ref e), u5, u6, u7, u8, u9, u10] ∧ Same H H' ∧ H' e = some (.lst ((dealsF kd tl n (kk n b) i).map V.int))) ⟨_, _, _, _, _, _, rfl, e1, he⟩ (fun _ _ _ _ _ => trivial) ?_ ?_
    · rintro i x σ H2 H' hi ⟨u5, u6, u7, u8, u9, u10, rfl, e2, he2⟩ ⟨rfl, hx⟩
      have hx : x = V.int (0 + (i : Int)) := hx
      rw [Int.zero_add] at hx
      subst hx
      have hil : i < tl.length := by omega
      have hdl := dealsF_len (kd := kd) (tl := tl) (n := n) (k := kk n b) i
      have hdb := dealsF_bnd (kd := kd) (k := kk n b) hn1 htl i (by omega)
      have hds : dealsF kd tl n (kk n b) (i + 1) = dealsF kd tl n (kk n b) i ++ [((wayF kd tl n (run (kk n b) (dealsF kd tl n (kk n b) i)).2 (run (kk n b) (dealsF kd tl n (kk n b) i)).1 i : Nat) : Int)] := rfl
      generalize dealsF kd tl n (kk n b) i = ds at he2 hdl hdb hds
      show tSeq _ _ _ _ _
      walk_at "hd"
      unfold tLstRg tRg1
      walk_at "hd"
      rw [kk_int]
      refine ⟨_, rfl, .of_le (by omega) (by omega) (by omega) (by omega), fun a3 n3 => ?_⟩
      rw [rgV_ints]
      have ha3 : (upd H' a3 (.lst ((grp0 (kk n b)).map V.int))) a3 = some (.lst ((grp0 (kk n b)).map V.int)) := upd_same
      have e3 := Same.new (o := .lst ((grp0 (kk n b)).map V.int)) n3
      generalize upd H' a3 (.lst ((grp0 (kk n b)).map V.int)) = H3 at ha3 e3 ⊢
      walk_at "hd"
      refine ⟨rfl, fun z4 H4 e4 n4 hz4 => ?_⟩
      walk_at "hd"
      refine ⟨rfl, fun z5 H5 e5 n5 hz5 => ?_⟩
      walk_at "hd"
      refine ⟨z5, n, _, rfl, rfl, SqT.of hz5, by omega, by omega, fun z6 H6 e6 hz6 => ?_⟩
      rw [Int.toNat_natCast] at hz6
      have hd6 := dp_zero hz6 (SqT.of ((e5.trans e6) _ _ hz4))
      have e36 := (e4.trans e5).trans e6
      walk_at "hd"
      refine ⟨e, rfl, ⟨_, SqL.of ((e3.trans e36) _ _ he2)⟩, ?_⟩
      refine for_it walk_list (fun j σ H' => ∃ a v u8 u9 u10, σ = [some (.int n), some (.int b), some (.str kd), some (.ref tb), some (.ref e), some (.int i), some (.ref a), some v, u8, u9, u10] ∧ Same H6 H' ∧ SqL K H' a ((run (kk n b) (ds.take j)).1.map V.int) ∧ Dp K H' v (dbD n (run (kk n b) (ds.take j)).2))
        ⟨_, _, _, _, _, rfl, Same.refl _, SqL.of (e36 _ _ ha3), hd6⟩ (fun j σ H' _ ⟨_, _, _, _, _, _, e7, _⟩ => SqL.of (e7 _ _ ((e3.trans e36) _ _ he2))) ?_ ?_
      · rintro j x σ H7 H' hj ⟨a, v, u8, u9, u10, rfl, e7, ha, hv⟩ ⟨rfl, hx⟩
        rw [List.length_map] at hj
        rw [List.getElem?_map, List.getElem?_eq_getElem hj] at hx
        cases hx
        have hq := hdb _ (List.getElem_mem hj)
        have ets := take_snoc hj
        have erun : run (kk n b) (ds.take (j + 1)) = stp (run (kk n b) (ds.take j)) ds[j] := by rw [ets, run_snoc]
        have rk : ROk (kk n b) (ds.take j) := rok_of (by rw [List.length_take]; omega)
        have rkl := rk.len
        rw [List.length_take] at rkl
        generalize ds[j] = dj at hq erun ⊢
        have hdj : dj = ((dj.toNat : Nat) : Int) := by omega
        have ha0 := ha
        have hrg := rk.g
        generalize run (kk n b) (ds.take j) = st at ha hv erun hrg rkl ⊢
        obtain ⟨g, dd⟩ := st
        dsimp only at ha hv hrg rkl erun
        have hg0 : 0 < g.length := List.length_pos_iff.mpr hrg.ne
        have hg1 : g.length ≤ 12 := by omega
        show tSeq _ _ _ _ _
        walk_at "hd"
        refine ⟨n, a, g, rfl, ha, hn, fun v8 H8 e8 hv8 => ?_⟩
        walk_at "hd"
        refine ⟨v, v8, n, dj.toNat, dd, g, by rw [← hdj]; rfl, dp_same e8 hv, hv8, hn, by omega, hg0, hg1, fun v9 H9 e9 hv9 => ?_⟩
        rw [← hdj] at hv9
        have ha9 := (e8.trans e9).seq ha
        walk_at "hd"
        refine c_in ha9 ?_
        walk_at "hd"
        have go : ∀ z : Int, z = gone g dj → ∀ σ', σ' = [some (V.int n), some (.int b), some (.str kd), some (.ref tb), some (.ref e), some (.int i), some (.ref a), some v9, some (.int dj), some (.int z), u10] → ∀ D : Ends,
            (∀ q H', Same H9 H' → H' q = some (.lst ((behind g dj).map V.int)) → D.nx (σ'.set 6 (some (.ref q))) H') → tAsg (tLc (iList K (tVar 6)) (gName 10) (tTest (tOp rNe (tVar 10) (tVar 9))) (tVar 10) [10]) (gName 6) D σ' H9 := by
          intro z hz σ' hs D hD
          subst hs
          walk_at "hd"
          refine ⟨a, rfl, ⟨_, ha9⟩, fun L hL => ?_⟩
          refine lc_filt hL ha9 (fun v => !decide (v = V.int z)) (by rw [List.length_map]; omega) (fun x => rfl) (fun x H1 QB hx e q => ?_) (fun x H1 Q' hx e q => ?_) (fun H1 e hy => ?_)
          · obtain ⟨y, _, rfl⟩ := List.mem_map.mp hx
            walk_at "hd"
            exact q
          · walk_at "hd"
            exact q
          · rw [filt_beh hz] at hy
            walk_at "hd"
            exact hD L H1 e hy
        refine ifB (fun h => ?_) (fun h => ?_)
        · have hp : dj ∈ g := by simpa using h
          walk_at "hd1"
          walk_at "hd1"
          refine go dj (if_pos hp).symm _ rfl _ fun q H10 e10 hq10 => ?_
          exact ⟨q, v9, _, _, _, rfl, ((e7.trans e8).trans e9).trans e10, by rw [erun]; exact SqL.of hq10, by rw [erun]; exact dp_same e10 hv9⟩
        · have hp : ¬ dj ∈ g := by simpa using h
          walk_at "hd"
          refine ⟨a, g, rfl, ha9, hg0, fun m hm1 hm2 => ?_⟩
          have em : m = gone g dj := by
            have h1 := last_max hrg.asc m hm1
            have h2 := hm2 _ (last_mem hrg.ne)
            rw [show gone g dj = g.getLastD 0 from if_neg hp]
            omega
          walk_at "hd1"
          refine go m em _ rfl _ fun q H10 e10 hq10 => ?_
          exact ⟨q, v9, _, _, _, rfl, ((e7.trans e8).trans e9).trans e10, by rw [erun]; exact SqL.of hq10, by rw [erun]; exact dp_same e10 hv9⟩
      · rintro σ H7 ⟨a, v, u8, u9, u10, rfl, e7, ha, hv⟩
        rw [List.length_map] at ha hv
        rw [List.take_length] at ha hv
        have rk : ROk (kk n b) ds := rok_of (by omega)
        have rkl := rk.len
        have hrg := rk.g
        have e27 := (e3.trans e36).trans e7
        walk_at "hd"
        unfold tBM
        walk_at "hd"
        refine ⟨.inl ⟨rfl, _, SqL.of (e27 _ _ he2)⟩, ?_⟩
        walk_at "hd"
        refine ⟨n, a, _, rfl, ha, hn, fun v8 H8 e8 hv8 => ?_⟩
        walk_at "hd"
        refine ⟨rfl, fun t9 H9 e9 n9 ht9 => ?_⟩
        walk_at "hd"
        have e29 := (e27.trans e8).trans e9
        refine ⟨kd, tb, tl, .ref t9, n, i, (run (kk n b) ds).2, (run (kk n b) ds).1, rfl, .tup (SqT.of ht9) (.cons (dp_same (e8.trans e9) hv) (.cons (dp_same e9 hv8) (.cons (.int _) .nil))), Same.tup (e2.trans e29) htb, hil, htl, hn1, hn, List.length_pos_iff.mpr hrg.ne, by omega, fun H10 e10 => ?_⟩
        have he10 := (e29.trans e10) _ _ he2
        walk_at "hd"
        refine ⟨e, _, _, rfl, rfl, he10, Nat.lt_of_le_of_lt (show _ ≤ 100 by rw [List.length_map]; omega) (by decide), ?_⟩
        walk_at "hd"
        exact ⟨_, _, _, _, _, _, rfl, Same.mut ((e2.trans e29).trans e10) n1, by rw [upd_same, hds, List.map_append]; rfl⟩
    · rintro σ H2 ⟨u5, u6, u7, u8, u9, u10, rfl, e2, he2⟩
      have en : ((kk n b : Nat) : Int) - 1 = ((tl.length : Nat) : Int) := by omega
      rw [en, Int.toNat_natCast] at he2
      walk_at "hd"
      exact k e H2 e2 n1 he2
end
end Hd
end
section
set_option Elab.async false
set_option linter.all false
set_option maxRecDepth 100000
set_option maxHeartbeats 4000000
namespace Hd
open PySem PySem.Spec PyProof.Rows L2
local macro_rules | `(tactic| walk_at "hd1") => `(tactic| (first
  | with_reducible refine c_seq ?_ | with_reducible refine c_ret ?_ | with_reducible refine c_asg ?_ | with_reducible refine c_drop ?_ | with_reducible refine c_next ?_ | with_reducible refine c_ifS ?_ | with_reducible refine c_par ?_
  | with_reducible refine c_var rfl ?_ | with_reducible refine c_c ?_ | with_reducible refine c_op ?_ | with_reducible refine c_un ?_ | with_reducible refine c_U ?_ | with_reducible refine c_I0 ?_
  | with_reducible refine c_test ?_ | with_reducible refine c_B ?_ | with_reducible refine c_bl ?_ | with_reducible refine c_eq rfl ?_ | with_reducible refine c_ne rfl ?_ | with_reducible refine c_chain ?_
  | with_reducible refine c_and ?_ | with_reducible refine c_or ?_ | with_reducible refine c_not ?_ | with_reducible refine c_andV ?_ | with_reducible refine c_orV ?_ | with_reducible refine c_notV ?_ | with_reducible refine c_ifE ?_
  | with_reducible refine c_call ?_ | with_reducible refine c_cb ?_ | with_reducible refine c_cons ?_ | with_reducible refine c_nil ?_ | with_reducible refine c_tup ?_ | with_reducible refine c_lst ?_ | with_reducible refine c_two ?_ | with_reducible refine c_e1 ?_ | with_reducible refine c_e2 ?_ | with_reducible refine c_int1 ?_ | with_reducible refine c_int1b ?_
  | with_reducible refine c_ixT (by assumption) rfl ?_ | with_reducible refine c_ixL (by assumption) rfl ?_
  | with_reducible refine c_asgS ?_ | with_reducible refine c_sF ?_ | with_reducible refine c_tF ?_ | with_reducible refine c_tupS ?_ | with_reducible refine c_lstS ?_ | with_reducible refine c_then ?_ | with_reducible refine c_lc ?_ | with_reducible refine c_rng1 ?_ | with_reducible refine c_rng2 ?_ | with_reducible refine c_list ?_
  | with_reducible refine c_I (by assumption) ?_))
local macro_rules | `(tactic| walk_at "hd") => `(tactic| repeat (walk_at "hd1"))
local macro_rules | `(tactic| walk_at "in") => `(tactic| ((try dsimp only [cxOf]); walk_at "hd"))
def viewsD (n k : Nat) (ds : List Int) : List PyData := (List.range ds.length).map fun i => vwD n k (ds.take i)
theorem range_dp {α : Type} (f : List Int → α) (ds : List Int) (j : Nat) (h : j < ds.length) : ((List.range (j + 1)).map fun i => f ((ds.take (j + 1)).take i)) = ((List.range j).map fun i => f ((ds.take j).take i)) ++ [f (ds.take j)] := by
  rw [range_snoc]
  congr 1
  · refine List.map_congr_left fun i hi => ?_
    have := List.mem_range.mp hi
    rw [List.take_take, List.take_take, Nat.min_eq_left (by omega), Nat.min_eq_left (by omega)]
  · rw [List.take_take, Nat.min_eq_left (by omega)]
theorem rowD_take (n k : Nat) {ds : List Int} {j : Nat} (h : j < ds.length) : rowD n k (ds.take (j + 1)) = rowD n k (ds.take j) ++ [shD n (run k (ds.take j)).1] := by
  rw [take_snoc h, rowD_snoc]
theorem viewsD_snoc (n k : Nat) (ds : List Int) (q : Int) : viewsD n k (ds ++ [q]) = viewsD n k ds ++ [vwD n k ds] := by
  unfold viewsD
  rw [List.length_append, List.length_singleton, range_snoc]
  congr 1
  · refine List.map_congr_left fun i hi => ?_
    rw [List.take_append_of_le_length (Nat.le_of_lt (List.mem_range.mp hi))]
  · rw [List.take_append_of_le_length (Nat.le_refl _), List.take_length]
theorem viewsD_take (n k : Nat) {ds : List Int} {j : Nat} (h : j < ds.length) : viewsD n k (ds.take (j + 1)) = viewsD n k (ds.take j) ++ [vwD n k (ds.take j)] := by
  rw [take_snoc h, viewsD_snoc]
theorem noL_vw (n k : Nat) (ds : List Int) : noL (vwD n k ds) = true := noL_view _ _ _ _
section
variable {P : Program} {w : World} {K : PySem.W.Frag} {mg : Str → Option Value} {base : Heap}
def spFollowed (K : PySem.W.Frag) : Sp := fun vs H Q _ => ∃ (e : Addr) (ds : List Int) (n b : Nat), vs = [.int n, .int b, .ref e] ∧ H e = some (.lst (ds.map V.int)) ∧ ds.length + 1 = kk n b ∧ (∀ x ∈ ds, 0 ≤ x ∧ x < (n : Int)) ∧ 1 ≤ n ∧ n ≤ 12 ∧
  ∀ t r vw dv vvs H', Same H H' → H' t = some (.tup [r, .ref vw, .int ((run (kk n b) ds).1.headD 0), dv]) → Dp K H' r (.tuple (rowD n (kk n b) ds)) → H' vw = some (.lst vvs) → DpAll K H' vvs (viewsD n (kk n b) ds) → Dp K H' dv (dbD n (run (kk n b) ds).2) → Q (.ref t) H'
abbrev nFol : List Str := ["_law_n", "_law_beats_here", "_law_deals", "_law_group", "_law_debts", "_law_row", "_law_views", "_law_number", "_law_person", "_law_shares", "_law_out", "_law_one"]
theorem ok_law_followed (T : Txt K mg) : Cal P w K mg base CX0 4 "_law_followed" ["_law_n", "_law_beats_here", "_law_deals"] (spFollowed K) := by
  have c2 := ok_law_dealt (P := P) (w := w) (base := base) T
  have c3 := ok_law_group_shares (P := P) (w := w) (base := base) T
  refine in__law_followed T (fun vs H Q E h => ?_) (fun cdv A outer s H vs Q E hr h => ?_)
  · obtain ⟨e, ds, n, b, rfl, _⟩ := h
    rfl
  · obtain ⟨e, ds, n, b, rfl, he, hk, hds, hn1, hn, k⟩ := h
    refine ⟨_, pss_cons (ps_asg (pe_tupS (pa_cons (pe_listRg rfl (by rfl) T.n_list (prg_1 (by rfl) T.n_range (pe_callB (call_min2 rfl) (by rfl) T.n_min bo_min (pa_cons (pv 0) (pa_cons (pe_op op_add (pv 1) pe_int) pa_nil)))))
            (pa_cons (pe_op op_rep1 (pe_tupS (pa_cons (pe_tupS (pa_cons pe_int (pa_cons pe_int pa_nil))) pa_nil)) (pv 0)) (pa_cons (pe_lstS pa_nil) (pa_cons (pe_lstS pa_nil) pa_nil)))))
          (pg_tup rfl (pgs_cons (pg_name (i := 3) sc__law_followed.nd rfl (.inl rfl)) (pgs_cons (pg_name (i := 4) sc__law_followed.nd rfl (.inl rfl)) (pgs_cons (pg_name (i := 5) sc__law_followed.nd rfl (.inl rfl)) (pgs_cons (pg_name (i := 6) sc__law_followed.nd rfl (.inl rfl)) pgs_nil))))))
      (pss_cons (ps_for (passes_of rfl) rfl (pi_enum (by rfl) T.n_enumerate (pa_cons (pv 2) pa_nil)) (pg_tup rfl (pgs_cons (pg_name (i := 7) sc__law_followed.nd rfl (.inl rfl)) (pgs_cons (pg_name (i := 8) sc__law_followed.nd rfl (.inl rfl)) pgs_nil)))
        (pss_cons (ps_set (i := 9) sc__law_followed.nd rfl (.inl rfl) (pe_cal c3 (hr.mono (by decide)) (by rfl) (pa_cons (pv 0) (pa_cons (pv 3) pa_nil))))
        (pss_cons (ps_expr (pe_bm PySem.F.plainAttrs_list PySem.F.slot_list_append PySem.F.type_list_append mt_append (pv 6) (pa_cons (pe_tupS (pa_cons (pv 4) (pa_cons (pv 9) (pa_cons (pv 7) pa_nil)))) pa_nil)))
        (pss_cons (ps_expr (pe_bm PySem.F.plainAttrs_list PySem.F.slot_list_append PySem.F.type_list_append mt_append (pv 5) (pa_cons (pv 9) pa_nil)))
        (pss_cons (ps_set (i := 4) sc__law_followed.nd rfl (.inl rfl) (pe_cal c2 hr (by rfl) (pa_cons (pv 4) (pa_cons (pv 9) (pa_cons (pv 8) pa_nil)))))
        (pss_cons (ps_set (i := 10) sc__law_followed.nd rfl (.inr rfl) (pe_ifExp (pt_cmpR (opIn K) (pv 8) (pv 3) (by rfl)) (pv 8) (pe_callB (cr_max rfl) (by rfl) T.n_max bo_max (pa_cons (pv 3) pa_nil))))
        (pss_one (ps_setLc (i := 3) (own := [("_law_one", 11)]) (g := gName 11) rfl sc__law_followed.nd rfl (by rfl) (by rfl) (pi_list (pv 3)) (blkOk_by (N := nFol) (sc := defScope s__law_followed) (by decide +kernel))
              (fun _ _ _ _ _ => pg_name (i := 11) sc__law_followed.nd rfl (.inl rfl)) (fun _ _ _ _ _ => pts_one (pt_cmpR op_ne (pv 11) (pv 10) (nomark _))) (fun _ _ _ _ _ => pv 11)))))))))
      (pss_one (ps_ret (pe_tupS (pa_cons (pe_tupleOf (by rfl) T.n_tuple (pv 5)) (pa_cons (pv 6) (pa_cons (pe_ix (ixL K) (pv 3) pe_int (fun _ _ => rfl)) (pa_cons (pv 4) pa_nil)))))))), ?_⟩
    have hkn : kk n b ≤ n := by unfold kk; omega
    walk_at "in"
    refine c_asgT ?_
    walk_at "hd"
    unfold tLstRg tRg1
    walk_at "hd"
    rw [kk_int]
    refine ⟨_, rfl, .of_le (by omega) (by omega) (by omega) (by omega), fun a3 n3 => ?_⟩
    rw [rgV_ints]
    have ha3 : (upd H a3 (.lst ((grp0 (kk n b)).map V.int))) a3 = some (.lst ((grp0 (kk n b)).map V.int)) := upd_same
    have e3 := Same.new (o := .lst ((grp0 (kk n b)).map V.int)) n3
    generalize upd H a3 (.lst ((grp0 (kk n b)).map V.int)) = H3 at ha3 e3 ⊢
    walk_at "hd"
    refine ⟨rfl, fun z4 H4 e4 n4 hz4 => ?_⟩
    walk_at "hd"
    refine ⟨rfl, fun z5 H5 e5 n5 hz5 => ?_⟩
    walk_at "hd"
    refine ⟨z5, n, _, rfl, rfl, SqT.of hz5, by omega, by omega, fun z6 H6 e6 hz6 => ?_⟩
    rw [Int.toNat_natCast] at hz6
    have hd6 := dp_zero hz6 (SqT.of ((e5.trans e6) _ _ hz4))
    have e36 := (e4.trans e5).trans e6
    walk_at "hd"
    refine ⟨rfl, fun r7 H7 e7 n7 hr7 => ?_⟩
    walk_at "hd"
    refine ⟨rfl, fun w8 H8 e8 n8 hw8 => ?_⟩
    walk_at "hd"
    refine ⟨rfl, fun t9 H9 e9 n9 ht9 => ?_⟩
    refine g_four (SqT.of ht9) ?_
    have hr8 := e8 _ _ hr7
    have e09 : Same H H9 := (((((e3.trans e36).trans e7).trans e8).trans e9))
    have nr : H r7 = none := by
      cases hh : H r7 with
      | none => rfl
      | some u =>
        have := (e3.trans e36) _ _ hh
        rw [n7] at this
        cases this
    have nw : H w8 = none := by
      cases hh : H w8 with
      | none => rfl
      | some u =>
        have := ((e3.trans e36).trans e7) _ _ hh
        rw [n8] at this
        cases this
    have rw0 : r7 ≠ w8 := ne_of_none hr7 n8
    have ar : a3 ≠ r7 := ne_of_none (e36 _ _ ha3) n7
    have aw : a3 ≠ w8 := ne_of_none ((e36.trans e7) _ _ ha3) n8
    walk_at "hd"
    unfold tFor iEnum
    walk_at "hd"
    refine ⟨e, _, rfl, SqL.of (e09 _ _ he), ?_⟩
    refine for_it walk_enum (fun j σ H' => ∃ a v u7 u8 u9 u10 u11 rvs vvs, σ = [some (.int n), some (.int b), some (.ref e), some (.ref a), some v, some (.ref r7), some (.ref w8), u7, u8, u9, u10, u11] ∧ Same H H' ∧ H' a = some (.lst ((run (kk n b) (ds.take j)).1.map V.int)) ∧ a ≠ r7 ∧ a ≠ w8 ∧
        Dp K H' v (dbD n (run (kk n b) (ds.take j)).2) ∧ H' r7 = some (.lst rvs) ∧ DpAll K H' rvs (rowD n (kk n b) (ds.take j)) ∧ H' w8 = some (.lst vvs) ∧ DpAll K H' vvs (viewsD n (kk n b) (ds.take j)))
      ⟨_, _, _, _, _, _, _, [], [], rfl, e09, ((e36.trans (e7.trans e8)).trans e9) _ _ ha3, ar, aw, dp_same ((e7.trans e8).trans e9) hd6, e9 _ _ hr8, .nil, e9 _ _ hw8, .nil⟩ (fun j σ H' _ ⟨_, _, _, _, _, _, _, _, _, _, e7, _⟩ => SqL.of (e7 _ _ he)) ?_ ?_
    · rintro j x σ H1 H' hj ⟨a, v, u7, u8, u9, u10, u11, rvs, vvs, rfl, e1, ha, har, haw, hv, hr, hrv, hw, hvv⟩ y
      have ey := yp_same y
      obtain ⟨T0, x1, y1, rfl, hT, rfl, hx1, hy1⟩ := y
      have hx1 : some (V.int (j : Nat)) = some x1 := hx1
      cases hx1
      have hy1 : (ds.map V.int)[j]? = some y1 := hy1
      rw [List.length_map] at hj
      rw [List.getElem?_map, List.getElem?_eq_getElem hj] at hy1
      cases hy1
      refine g_two (SqT.of upd_same) ?_
      generalize upd H1 T0 _ = H' at ey ⊢
      have hq := hds _ (List.getElem_mem hj)
      have ets := take_snoc hj
      have erun : run (kk n b) (ds.take (j + 1)) = stp (run (kk n b) (ds.take j)) ds[j] := by rw [ets, run_snoc]
      have erow := rowD_take n (kk n b) hj
      have eview := viewsD_take n (kk n b) hj
      have rk : ROk (kk n b) (ds.take j) := rok_of (by rw [List.length_take]; omega)
      have rkl := rk.len
      have hlt : (ds.take j).length = j := by rw [List.length_take]; omega
      rw [hlt] at rkl
      have hvwD : vwD n (kk n b) (ds.take j) = .tuple [dbD n (run (kk n b) (ds.take j)).2, shD n (run (kk n b) (ds.take j)).1, .int (j : Int)] := by unfold vwD; rw [hlt]
      have hrvl : rvs.length = j := by
        have := dpAll_len hrv
        unfold rowD at this
        simp at this
        omega
      have hvvl : vvs.length = j := by
        have := dpAll_len hvv
        unfold viewsD at this
        simp at this
        omega
      have nrow : noLs (rowD n (kk n b) (ds.take j)) = true := noL_row n (kk n b) (ds.take j)
      have nview : noLs (viewsD n (kk n b) (ds.take j)) = true := noLs_map fun i _ => noL_vw n (kk n b) _
      generalize ds[j] = dj at hq erun ⊢
      have hdj : dj = ((dj.toNat : Nat) : Int) := by omega
      have hrg := rk.g
      rw [hvwD] at eview
      generalize rowD n (kk n b) (ds.take j) = rD at hrv erow nrow
      generalize viewsD n (kk n b) (ds.take j) = wD at hvv eview nview
      generalize run (kk n b) (ds.take j) = st at ha hv erun hrg rkl erow eview
      obtain ⟨g, dd⟩ := st
      dsimp only at ha hv hrg rkl erun erow eview
      have hg0 : 0 < g.length := List.length_pos_iff.mpr hrg.ne
      have hg1 : g.length ≤ 12 := by omega
      show tSeq _ _ _ _ _
      walk_at "hd"
      refine ⟨n, a, g, rfl, SqL.of (ey _ _ ha), hn, fun v8 H8 e8 hv8 => ?_⟩
      have e18 := ey.trans e8
      walk_at "hd"
      unfold tBM
      walk_at "hd"
      refine ⟨.inl ⟨rfl, _, SqL.of (e18 _ _ hw)⟩, ?_⟩
      walk_at "hd"
      refine ⟨rfl, fun t9 H9 e9 n9 ht9 => ?_⟩
      walk_at "hd"
      have e19 := e18.trans e9
      have hw9 := e19 _ _ hw
      have hr9 := e19 _ _ hr
      have ha9 := e19 _ _ ha
      refine ⟨w8, _, _, rfl, rfl, hw9, Nat.lt_of_le_of_lt (show _ ≤ 100 by omega) (by decide), ?_⟩
      walk_at "hd"
      have hr10 : upd H9 w8 (.lst (vvs ++ [V.ref t9])) r7 = some (.lst rvs) := by rw [upd_ne rw0]; exact hr9
      refine ⟨.inl ⟨rfl, _, SqL.of hr10⟩, ?_⟩
      walk_at "hd"
      refine ⟨r7, _, _, rfl, rfl, hr10, Nat.lt_of_le_of_lt (show _ ≤ 100 by omega) (by decide), ?_⟩
      walk_at "hd"
      have m9 : Muts [w8, r7] H9 := fun z hz => by
        rcases List.mem_cons.mp hz with rfl | hz
        · exact ⟨_, hw9, rfl⟩
        · rw [List.mem_singleton] at hz
          subst hz
          exact ⟨_, hr9, rfl⟩
      have b11 : ButS [w8, r7] H9 (upd (upd H9 w8 (.lst (vvs ++ [V.ref t9]))) r7 (.lst (rvs ++ [v8]))) := (ButS.upd (by simp)).trans (ButS.upd (by simp))
      have hr11 : (upd (upd H9 w8 (.lst (vvs ++ [V.ref t9]))) r7 (.lst (rvs ++ [v8]))) r7 = some (.lst (rvs ++ [v8])) := upd_same
      have hw11 : (upd (upd H9 w8 (.lst (vvs ++ [V.ref t9]))) r7 (.lst (rvs ++ [v8]))) w8 = some (.lst (vvs ++ [V.ref t9])) := by rw [upd_ne (Ne.symm rw0), upd_same]
      have ha11 := b11 _ _ (show a ∉ [w8, r7] by simp; exact ⟨haw, har⟩) ha9
      have hs11 : Same H (upd (upd H9 w8 (.lst (vvs ++ [V.ref t9]))) r7 (.lst (rvs ++ [v8]))) := Same.mut (Same.mut (e1.trans e19) nw) nr
      generalize upd (upd H9 w8 (.lst (vvs ++ [V.ref t9]))) r7 (.lst (rvs ++ [v8])) = H11 at b11 hr11 hw11 ha11 hs11 ⊢
      have hv11 := dp_buts b11 m9 (noL_db n dd) (dp_same e19 hv)
      have sh11 := dp_buts b11 m9 (noL_sh n g) (dp_same e9 hv8)
      have rv11 : DpAll K H11 (rvs ++ [v8]) (rD ++ [shD n g]) := dpAll_append (dpAll_buts b11 m9 nrow (dpAll_same e19 hrv)) (.cons sh11 .nil)
      have vv11 : DpAll K H11 (vvs ++ [V.ref t9]) (wD ++ [.tuple [dbD n dd, shD n g, .int (j : Int)]]) := dpAll_append (dpAll_buts b11 m9 nview (dpAll_same e19 hvv)) (.cons (.tup (b11.tup m9 (SqT.of ht9)) (.cons hv11 (.cons sh11 (.cons (.int _) .nil)))) .nil)
      refine ⟨v, v8, n, dj.toNat, dd, g, by rw [← hdj]; rfl, hv11, sh11, hn, by omega, hg0, hg1, fun v12 H12 e12 hv12 => ?_⟩
      rw [← hdj] at hv12
      have ha12 := e12 _ _ ha11
      walk_at "hd"
      refine c_in (SqL.of ha12) ?_
      walk_at "hd"
      have go : ∀ z : Int, z = gone g dj → ∀ σ', σ' = [some (V.int n), some (.int b), some (.ref e), some (.ref a), some v12, some (.ref r7), some (.ref w8), some (.int j), some (.int dj), some v8, some (.int z), u11] → ∀ D : Ends,
          (∀ q H', Same H12 H' → H12 q = none → H' q = some (.lst ((behind g dj).map V.int)) → D.nx (σ'.set 3 (some (.ref q))) H') → tAsg (tLc (iList K (tVar 3)) (gName 11) (tTest (tOp rNe (tVar 11) (tVar 10))) (tVar 11) [11]) (gName 3) D σ' H12 := by
        intro z hz σ' hs D hD
        subst hs
        walk_at "hd"
        refine ⟨a, rfl, ⟨_, SqL.of ha12⟩, fun L hL => ?_⟩
        refine lc_filt hL (SqL.of ha12) (fun v => !decide (v = V.int z)) (by rw [List.length_map]; omega) (fun x => rfl) (fun x H1 QB hx e q => ?_) (fun x H1 Q' hx e q => ?_) (fun H1 e hy => ?_)
        · obtain ⟨y, _, rfl⟩ := List.mem_map.mp hx
          walk_at "hd"
          exact q
        · walk_at "hd"
          exact q
        · rw [filt_beh hz] at hy
          walk_at "hd"
          exact hD L H1 e hL hy
      have fin : ∀ z : Int, ∀ q H13, Same H12 H13 → H12 q = none → H13 q = some (.lst ((behind g dj).map V.int)) → ∃ a v u7 u8 u9 u10 u11' rvs vvs, ([some (V.int n), some (.int b), some (.ref e), some (.ref a), some v12, some (.ref r7), some (.ref w8), some (.int j), some (.int dj), some v8, some (.int z), u11] : L2.St).set 3 (some (.ref q)) =
          [some (.int n), some (.int b), some (.ref e), some (.ref a), some v, some (.ref r7), some (.ref w8), u7, u8, u9, u10, u11'] ∧ Same H H13 ∧ H13 a = some (.lst ((run (kk n b) (ds.take (j + 1))).1.map V.int)) ∧ a ≠ r7 ∧ a ≠ w8 ∧
          Dp K H13 v (dbD n (run (kk n b) (ds.take (j + 1))).2) ∧ H13 r7 = some (.lst rvs) ∧ DpAll K H13 rvs (rowD n (kk n b) (ds.take (j + 1))) ∧ H13 w8 = some (.lst vvs) ∧ DpAll K H13 vvs (viewsD n (kk n b) (ds.take (j + 1))) := fun z q H13 e13 n13 h13 => by
        have e113 := e12.trans e13
        refine ⟨q, v12, _, _, _, _, _, _, _, rfl, hs11.trans e113, ?_, Ne.symm (ne_of_none (e12 _ _ hr11) n13), Ne.symm (ne_of_none (e12 _ _ hw11) n13), ?_, e113 _ _ hr11, ?_, e113 _ _ hw11, ?_⟩
        · rw [erun]
          exact h13
        · rw [erun]
          exact dp_same e13 hv12
        · rw [erow]
          exact dpAll_same e113 rv11
        · rw [eview]
          exact dpAll_same e113 vv11
      refine ifB (fun h => ?_) (fun h => ?_)
      · have hp : dj ∈ g := by simpa using h
        walk_at "hd1"
        walk_at "hd1"
        exact go dj (if_pos hp).symm _ rfl _ fun q H13 e13 n13 h13 => fin dj q H13 e13 n13 h13
      · have hp : ¬ dj ∈ g := by simpa using h
        walk_at "hd"
        refine ⟨a, g, rfl, SqL.of ha12, hg0, fun m hm1 hm2 => ?_⟩
        have em : m = gone g dj := by
          have h1 := last_max hrg.asc m hm1
          have h2 := hm2 _ (last_mem hrg.ne)
          rw [show gone g dj = g.getLastD 0 from if_neg hp]
          omega
        walk_at "hd1"
        exact go m em _ rfl _ fun q H13 e13 n13 h13 => fin m q H13 e13 n13 h13
    · rintro σ H1 ⟨a, v, u7, u8, u9, u10, u11, rvs, vvs, rfl, e1, ha, har, haw, hv, hr, hrv, hw, hvv⟩
      rw [List.length_map, List.take_length] at ha hv hrv hvv
      have rk : ROk (kk n b) ds := rok_of (by omega)
      have rkl := rk.len
      obtain ⟨g0, hg0⟩ : ∃ g0, (run (kk n b) ds).1 = [g0] := by
        match hh : (run (kk n b) ds).1, (show (run (kk n b) ds).1.length = 1 by omega) with
        | [x], _ => exact ⟨x, rfl⟩
      have hag := ha
      rw [hg0] at hag
      walk_at "hd"
      refine .inl ⟨r7, rvs, rfl, SqL.of hr, fun t2 n2 => ?_⟩
      have e2 := Same.new (o := .tup rvs) n2
      have ht2 : upd H1 t2 (.tup rvs) t2 = some (.tup rvs) := upd_same
      generalize upd H1 t2 (.tup rvs) = H2 at e2 ht2 ⊢
      walk_at "hd"
      refine c_ixL (SqL.of (e2 _ _ hag)) (show atI ([g0].map V.int) 0 = some (.int g0) from rfl) ?_
      walk_at "hd"
      refine ⟨rfl, fun t3 H3 e3 n3 ht3 => ?_⟩
      have e23 := e2.trans e3
      refine k t3 (.ref t2) w8 v vvs H3 (e1.trans e23) (by rw [hg0]; exact ht3) (.tup (SqT.of (e3 _ _ ht2)) (dpAll_same e23 hrv)) (e23 _ _ hw) (dpAll_same e23 hvv) (dp_same e23 hv)
end
end Hd
end
section
set_option Elab.async false
set_option linter.all false
set_option maxRecDepth 100000
set_option maxHeartbeats 4000000
namespace Hd
open PySem PySem.Spec PyProof.Rows L2
local macro_rules | `(tactic| walk_at "hd1") => `(tactic| (first
  | with_reducible refine c_seq ?_ | with_reducible refine c_ret ?_ | with_reducible refine c_asg ?_ | with_reducible refine c_drop ?_ | with_reducible refine c_next ?_ | with_reducible refine c_ifS ?_ | with_reducible refine c_par ?_
  | with_reducible refine c_var rfl ?_ | with_reducible refine c_c ?_ | with_reducible refine c_op ?_ | with_reducible refine c_un ?_ | with_reducible refine c_U ?_ | with_reducible refine c_I0 ?_
  | with_reducible refine c_test ?_ | with_reducible refine c_B ?_ | with_reducible refine c_bl ?_ | with_reducible refine c_eq rfl ?_ | with_reducible refine c_ne rfl ?_ | with_reducible refine c_chain ?_
  | with_reducible refine c_and ?_ | with_reducible refine c_or ?_ | with_reducible refine c_not ?_ | with_reducible refine c_andV ?_ | with_reducible refine c_orV ?_ | with_reducible refine c_notV ?_ | with_reducible refine c_ifE ?_
  | with_reducible refine c_call ?_ | with_reducible refine c_cb ?_ | with_reducible refine c_cons ?_ | with_reducible refine c_nil ?_ | with_reducible refine c_tup ?_ | with_reducible refine c_lst ?_ | with_reducible refine c_two ?_ | with_reducible refine c_e1 ?_ | with_reducible refine c_e2 ?_ | with_reducible refine c_int1 ?_ | with_reducible refine c_int1b ?_
  | with_reducible refine c_ixT (by assumption) rfl ?_ | with_reducible refine c_ixL (by assumption) rfl ?_
  | with_reducible refine c_asgS ?_ | with_reducible refine c_sF ?_ | with_reducible refine c_tF ?_ | with_reducible refine c_tupS ?_ | with_reducible refine c_lstS ?_ | with_reducible refine c_then ?_ | with_reducible refine c_lc ?_ | with_reducible refine c_rng1 ?_ | with_reducible refine c_rng2 ?_ | with_reducible refine c_list ?_
  | with_reducible refine c_I (by assumption) ?_))
local macro_rules | `(tactic| walk_at "hd") => `(tactic| repeat (walk_at "hd1"))
local macro_rules | `(tactic| walk_at "in") => `(tactic| ((try dsimp only [cxOf]); walk_at "hd"))
/-! ### the shapes -/
theorem dep_lay : ∀ {j : Nat} {d : PyData}, Dep j d → d.canLay0 = true ∧ d.depth ≤ j
  | 0, d, h => by
    obtain ⟨i, rfl⟩ := h
    exact ⟨by simp [PyData.canLay0], by simp [PyData.depth]⟩
  | j + 1, d, h => by
    have ls : ∀ ds : List PyData, (∀ x ∈ ds, Dep j x) → PyData.canLayAll0 ds = true ∧ PyData.depthAll ds ≤ j := fun ds => by
      induction ds with
      | nil => intro _; exact ⟨by simp [PyData.canLayAll0], by simp [PyData.depthAll]⟩
      | cons a r ih =>
        intro hh
        have h1 := dep_lay (hh a List.mem_cons_self)
        have h2 := ih fun x hx => hh x (List.mem_cons_of_mem _ hx)
        refine ⟨by simp [PyData.canLayAll0, h1.1, h2.1], ?_⟩
        simp only [PyData.depthAll]
        omega
    rcases h with ⟨i, rfl⟩ | ⟨ds, rfl, _, hd⟩ | ⟨ds, rfl, _, hd⟩
    · exact ⟨by simp [PyData.canLay0], by simp [PyData.depth]⟩
    · have := ls ds hd
      refine ⟨by simp [PyData.canLay0, this.1], ?_⟩
      simp only [PyData.depth]
      omega
    · have := ls ds hd
      refine ⟨by simp [PyData.canLay0, this.1], ?_⟩
      simp only [PyData.depth]
      omega
theorem dep_shaped {j : Nat} {d : PyData} (h : Dep j d) (hj : j ≤ 60) : SeqAt.shaped d = true := by
  have := dep_lay h
  show (d.canLay0 && decide (d.depth ≤ 64)) = true
  rw [this.1]
  exact decide_eq_true (by omega)
theorem dep_mono : ∀ {j : Nat} {d : PyData}, Dep j d → Dep (j + 1) d
  | 0, d, h => .inl h
  | j + 1, d, h => by
    rcases h with h | ⟨ds, e, l, hd⟩ | ⟨ds, e, l, hd⟩
    · exact .inl h
    · exact .inr (.inl ⟨ds, e, l, fun x hx => dep_mono (hd x hx)⟩)
    · exact .inr (.inr ⟨ds, e, l, fun x hx => dep_mono (hd x hx)⟩)
theorem dep_int (j : Nat) (i : Int) : Dep j (.int i) := by
  cases j with
  | zero => exact ⟨i, rfl⟩
  | succ j => exact .inl ⟨i, rfl⟩
theorem dep_fr (x : Int) : Dep 1 (frD x) := .inr (.inl ⟨_, rfl, by show 2 ≤ 1000; decide, fun y hy => by
  rcases List.mem_cons.mp hy with rfl | hy
  · exact ⟨_, rfl⟩
  · rw [List.mem_singleton] at hy
    exact ⟨_, hy⟩⟩)
theorem dep_ints (ns : List Int) (h : ns.length ≤ 1000) : Dep 1 (.tuple (ns.map PyData.int)) ∧ Dep 1 (.list (ns.map PyData.int)) := by
  have key : ∀ x ∈ ns.map PyData.int, Dep 0 x := fun x hx => by
    obtain ⟨i, _, rfl⟩ := List.mem_map.mp hx
    exact ⟨i, rfl⟩
  exact ⟨.inr (.inl ⟨_, rfl, by rw [List.length_map]; exact h, key⟩), .inr (.inr ⟨_, rfl, by rw [List.length_map]; exact h, key⟩)⟩
theorem dep_sh {n : Nat} (hn : n ≤ 12) (g : List Int) : Dep 2 (shD n g) := .inr (.inl ⟨_, rfl, by show 2 ≤ 1000; decide, fun y hy => by
  rcases List.mem_cons.mp hy with rfl | hy
  · exact dep_int _ _
  · rw [List.mem_singleton] at hy
    rw [hy]
    exact (dep_ints (tops n g) (by unfold tops; simp; omega)).1⟩)
theorem dep_db {n : Nat} (hn : n ≤ 12) (d : Nat → Int) : Dep 2 (dbD n d) := .inr (.inl ⟨_, rfl, by simp; omega, fun y hy => by
  obtain ⟨i, _, rfl⟩ := List.mem_map.mp hy
  exact dep_fr _⟩)
theorem dep_vw {n : Nat} (hn : n ≤ 12) (k : Nat) (ds : List Int) : Dep 3 (vwD n k ds) := .inr (.inl ⟨_, rfl, by show 3 ≤ 1000; decide, fun y hy => by
  rcases List.mem_cons.mp hy with rfl | hy
  · exact dep_db hn _
  · rcases List.mem_cons.mp hy with rfl | hy
    · exact dep_sh hn _
    · rw [List.mem_singleton] at hy
      rw [hy]
      exact dep_int _ _⟩)
theorem dep_views {n : Nat} (hn : n ≤ 12) (k : Nat) {ds : List Int} (h : ds.length ≤ 1000) : Dep 4 (.list (viewsD n k ds)) := .inr (.inr ⟨_, rfl, by unfold viewsD; simp; omega, fun y hy => by
  obtain ⟨i, _, rfl⟩ := List.mem_map.mp hy
  exact dep_vw hn k _⟩)
theorem dep_row {n : Nat} (hn : n ≤ 12) (k : Nat) {ds : List Int} (h : ds.length ≤ 1000) : Dep 3 (.tuple (rowD n k ds)) := .inr (.inl ⟨_, rfl, by unfold rowD; simp; omega, fun y hy => by
  obtain ⟨i, _, rfl⟩ := List.mem_map.mp hy
  exact dep_sh hn _⟩)
theorem dep_told {n : Nat} (hn : n ≤ 12) (k : Nat) {ds : List Int} (h : ds.length ≤ 1000) : Dep 4 (toldD n k ds) := .inr (.inl ⟨_, rfl, by show 4 ≤ 1000; decide, fun y hy => by
  rcases List.mem_cons.mp hy with rfl | hy
  · exact dep_row hn k h
  · rcases List.mem_cons.mp hy with rfl | hy
    · exact dep_mono (dep_mono (dep_ints ds h).2)
    · rcases List.mem_cons.mp hy with rfl | hy
      · exact dep_int _ _
      · rw [List.mem_singleton] at hy
        rw [hy]
        exact dep_mono (dep_mono (dep_fr _))⟩)
section
variable {K : PySem.W.Frag} {H : Hp} {Q : VK} {x y : V} {d : PyData} {j : Nat}
theorem c_eqD (h1 : Dp K H x d) (h2 : Dp K H y d) (hd : Dep j d) (hj : j ≤ 60) (q : Q (.bl true) H) : rEqD K x y H Q :=
  ⟨d, d, h1, h2, dep_shaped hd hj, dep_shaped hd hj, by rw [SeqAt.eqv_refl d (dep_lay hd).1]; exact q⟩
theorem c_neD (h1 : Dp K H x d) (h2 : Dp K H y d) (hd : Dep j d) (hj : j ≤ 60) (q : Q (.bl false) H) : rNeD K x y H Q :=
  ⟨d, d, h1, h2, dep_shaped hd hj, dep_shaped hd hj, by rw [SeqAt.eqv_refl d (dep_lay hd).1]; exact q⟩
theorem opEqD {X : Cx} (K : PySem.W.Frag) (hu : X.A.units + 64 < cLine) (h : X.K = K := by rfl) : OpR X (compareOp .Eq) (rEqD K) := h ▸ op_eqD hu
theorem opNeD {X : Cx} (K : PySem.W.Frag) (hu : X.A.units + 64 < cLine) (h : X.K = K := by rfl) : OpR X (compareOp .NotEq) (rNeD K) := h ▸ op_neD hu
end
section
variable {P : Program} {w : World} {K : PySem.W.Frag} {mg : Str → Option Value} {base : Heap}
def spLed (K : PySem.W.Frag) : Sp := fun vs H Q _ => ∃ (v : V) (e : Addr) (ds : List Int) (n b : Nat), vs = [.int n, .int b, v, .ref e] ∧ Dp K H v (.tuple (rowD n (kk n b) ds)) ∧ SqL K H e (ds.map V.int) ∧ ds.length + 1 = kk n b ∧ (∀ x ∈ ds, 0 ≤ x ∧ x < (n : Int)) ∧ 1 ≤ n ∧ n ≤ 12 ∧
  ∀ a H', Same H H' → SqL K H' a ((run (kk n b) ds).1.map V.int) → Q (.ref a) H'
theorem ok_is_led (T : Txt K mg) : Cal P w K mg base CX0 2 "is_led" ["n", "beats", "row", "deals"] (spLed K) := by
  have c1 := ok_group_of (P := P) (w := w) (base := base) T
  have c2 := ok_shares_for (P := P) (w := w) (base := base) T
  have c3 := ok_group_behind (P := P) (w := w) (base := base) T
  refine in_is_led T (fun vs H Q E h => ?_) (fun cdv A outer s H vs Q E hr h => ?_)
  · obtain ⟨v, e, ds, n, b, rfl, _⟩ := h
    rfl
  · obtain ⟨v, e, ds, n, b, rfl, hv, he, hk, hds, hn1, hn, k⟩ := h
    obtain ⟨a, xs, rfl, ha, hx⟩ := dp_tup hv
    have hxl : xs.length = ds.length := by
      have := dpAll_len hx
      unfold rowD at this
      simpa using this
    refine ⟨_, pss_cons (ps_set (i := 4) sc_is_led.nd rfl (.inl rfl) (pe_cal c1 hr (by rfl) (pa_cons (pv 0) (pa_cons (pv 1) pa_nil))))
      (pss_cons (ps_for (passes_of rfl) rfl (pi_zipTL (by rfl) T.n_zip (pa_cons (pv 2) (pa_cons (pv 3) pa_nil))) (pg_tup rfl (pgs_cons (pg_name (i := 5) sc_is_led.nd rfl (.inl rfl)) (pgs_cons (pg_name (i := 6) sc_is_led.nd rfl (.inl rfl)) pgs_nil)))
        (pss_cons (ps_if (PW.pt (pw_or (pt_cmpR op_eq (pe_callB (clLen K) (by rfl) T.n_len bo_len (pa_cons (pv 4) pa_nil)) pe_int (nomark _)) (pw_or1 (pt_cmpR (opNeD K hr.units) (pv 5) (pe_cal c2 hr (by rfl) (pa_cons (pv 0) (pa_cons (pv 4) pa_nil))) (nomark _))))) (pss_one ps_never) pss_nil)
        (pss_one (ps_set (i := 4) sc_is_led.nd rfl (.inl rfl) (pe_cal c3 hr (by rfl) (pa_cons (pv 4) (pa_cons (pv 6) pa_nil)))))))
      (pss_one (ps_ret (pe_ifExp (pt_cmpR op_eq (pe_callB (clLen K) (by rfl) T.n_len bo_len (pa_cons (pv 4) pa_nil)) pe_int (nomark _)) (pv 4) pe_non)))), ?_⟩
    have hkn : kk n b ≤ n := by unfold kk; omega
    walk_at "in"
    refine ⟨n, b, rfl, hn, fun a2 H2 e2 n2 h2 => ?_⟩
    walk_at "hd"
    unfold tFor iZipTL
    walk_at "hd"
    refine ⟨a, e, xs, _, rfl, Same.tup e2 ha, e2.seq he, ?_⟩
    refine for_it walk_N (fun j σ H' => ∃ a3 u5 u6, σ = [some (.int n), some (.int b), some (.ref a), some (.ref e), some (.ref a3), u5, u6] ∧ Same H H' ∧ SqL K H' a3 ((run (kk n b) (ds.take j)).1.map V.int)) ⟨_, _, _, rfl, e2, SqL.of h2⟩ (fun j σ H' _ ⟨_, _, _, _, e7, _⟩ => ⟨Same.tup e7 ha, e7.seq he⟩) ?_ ?_
    · rintro j x σ H1 H' hj ⟨a3, u5, u6, rfl, e1, ha3⟩ y
      have ey := yp_same y
      obtain ⟨T0, x1, y1, rfl, hT, rfl, hx1, hy1⟩ := y
      have hx1 : xs[j]? = some x1 := hx1
      have hy1 : (ds.map V.int)[j]? = some y1 := hy1
      rw [List.length_map, hxl, Nat.min_self] at hj
      rw [List.getElem?_map, List.getElem?_eq_getElem hj] at hy1
      cases hy1
      obtain ⟨x2, hx2, hdx⟩ := dpAll_get (i := j) (d := shD n (run (kk n b) (ds.take j)).1) hx (by unfold rowD; rw [List.getElem?_map, List.getElem?_range hj]; rfl)
      rw [hx2] at hx1
      cases hx1
      refine g_two (SqT.of upd_same) ?_
      generalize upd H1 T0 _ = H' at ey ⊢
      have rk : ROk (kk n b) (ds.take j) := rok_of (by rw [List.length_take]; omega)
      have rkl := rk.len
      have hlt : (ds.take j).length = j := by rw [List.length_take]; omega
      rw [hlt] at rkl
      have ets := take_snoc hj
      have erun : run (kk n b) (ds.take (j + 1)) = stp (run (kk n b) (ds.take j)) ds[j] := by rw [ets, run_snoc]
      have ha4 := ey.seq ha3
      show tSeq _ _ _ _ _
      walk_at "hd"
      refine c_lenL ha4 ?_
      rw [List.length_map]
      walk_at "hd"
      refine ifF (decide_eq_false (by intro z; have := V.int.inj z; omega)) ?_
      walk_at "hd"
      refine ⟨n, a3, _, rfl, ha4, hn, fun v5 H5 e5 hv5 => ?_⟩
      refine c_neD (dp_same ((e1.trans ey).trans e5) hdx) hv5 (dep_sh hn _) (by decide) ?_
      walk_at "hd"
      refine ifF rfl ?_
      walk_at "hd"
      refine ⟨ds[j], a3, _, rfl, e5.seq ha4, rk.g.ne, by omega, fun q H6 e6 n6 h6 => ?_⟩
      exact ⟨q, _, _, rfl, ((e1.trans ey).trans e5).trans e6, by rw [erun]; exact SqL.of h6⟩
    · rintro σ H1 ⟨a3, u5, u6, rfl, e1, ha3⟩
      rw [List.length_map, hxl, Nat.min_self, List.take_length] at ha3
      have rk : ROk (kk n b) ds := rok_of (by omega)
      have rkl := rk.len
      have hl1 : (run (kk n b) ds).1.length = 1 := by omega
      walk_at "hd"
      refine c_lenL ha3 ?_
      rw [List.length_map, hl1]
      walk_at "hd"
      refine ifT (by decide) ?_
      walk_at "hd"
      exact k a3 H1 e1 ha3
theorem rok_fin {k : Nat} {ds : List Int} (r : ROk k ds) (h : (run k ds).1.length = 1) : ds.length + 1 = k := by
  have := r.len
  omega
def spIsAg (K : PySem.W.Frag) : Sp := fun vs H Q _ => ∃ (v : V) (ds : List Int) (n b : Nat), vs = [.int n, .int b, v] ∧ Dp K H v (toldD n (kk n b) ds) ∧ ds.length + 1 = kk n b ∧ (∀ x ∈ ds, 0 ≤ x ∧ x < (n : Int)) ∧ 1 ≤ n ∧ n ≤ 12 ∧ 1 ≤ b ∧ b ≤ 400 ∧ ∀ H', Same H H' → Q (.bl true) H'
abbrev nIsAg : List Str := ["n", "beats", "thing", "row", "deals", "person", "debt", "one", "group"]
theorem ok_is_against (T : Txt K mg) : Cal P w K mg base CX0 6 "is_against" ["n", "beats", "thing"] (spIsAg K) := by
  have c1 := ok_check_people (P := P) (w := w) (base := base) T
  have c2 := ok_check_many_beats (P := P) (w := w) (base := base) T
  have c3 := ok_first_wrong (P := P) (w := w) (base := base) T
  have c4 := ok_is_person (P := P) (w := w) (base := base) T
  have c5 := ok_is_led (P := P) (w := w) (base := base) T
  have c6 := ok_is_integer (P := P) (w := w) (base := base) T
  have c7 := ok_most (P := P) (w := w) (base := base) T
  refine in_is_against T (fun vs H Q E h => ?_) (fun cdv A outer s H vs Q E hr h => ?_)
  · obtain ⟨v, ds, n, b, rfl, _⟩ := h
    rfl
  · obtain ⟨v, ds, n, b, rfl, hv, hk, hds, hn1, hn, hb1, hb2, k⟩ := h
    obtain ⟨a, vs4, rfl, ha, hv4⟩ := dp_tup hv
    obtain ⟨vr, r1, rfl, hr1, hv4⟩ := dpAll_cons hv4
    obtain ⟨vl, r2, rfl, hl1, hv4⟩ := dpAll_cons hv4
    obtain ⟨vp, r3, rfl, hp1, hv4⟩ := dpAll_cons hv4
    obtain ⟨vd, r4, rfl, hd1, hv4⟩ := dpAll_cons hv4
    cases dpAll_nil hv4
    cases dp_int hp1
    obtain ⟨ar, rs, rfl, har, hrs⟩ := dp_tup hr1
    obtain ⟨al, ls, rfl, hal, hls⟩ := dp_lst hl1
    cases dpAll_ints' hls
    obtain ⟨ad, rfl, had⟩ := fr_of hd1
    have hkn : kk n b ≤ n := by unfold kk; omega
    have hrl : rs.length = ds.length := by
      have := dpAll_len hrs
      unfold rowD at this
      simpa using this
    have rk : ROk (kk n b) ds := rok_of (by omega)
    have rkl := rk.len
    obtain ⟨g0, hg0⟩ : ∃ g0, (run (kk n b) ds).1 = [g0] := by
      match hh : (run (kk n b) ds).1, (show (run (kk n b) ds).1.length = 1 by omega) with
      | [x], _ => exact ⟨x, rfl⟩
    have hgb := rk.g.bnd g0 (by rw [hg0]; exact List.mem_cons_self)
    have ehd : (run (kk n b) ds).1.headD 0 = g0 := by rw [hg0]; rfl
    rw [ehd] at ha hp1
    have egs : rowD n (kk n b) ds = ((List.range ds.length).map fun i => (run (kk n b) (ds.take i)).1).map (shD n) := by unfold rowD; rw [List.map_map]; rfl
    refine ⟨_, pss_cons (ps_expr (pe_cal c1 (hr.mono (by decide)) (by rfl) (pa_cons (pv 0) pa_nil))) (pss_cons (ps_expr (pe_cal c2 (hr.mono (by decide)) (by rfl) (pa_cons (pv 1) pa_nil)))
      (pss_cons (ps_if (PW.pt (pw_or (pt_not (pt_val (pe_callB (clIsi K) (by rfl) T.n_isinstance bo_isinstance (pa_cons (pv 2) (pa_cons (pe_bltn (v := .ty "tuple") (by rfl) T.n_tuple bo_tuple rfl) pa_nil))))) (pw_or1 (pt_cmpR op_ne (pe_callB (clLen K) (by rfl) T.n_len bo_len (pa_cons (pv 2) pa_nil)) pe_int (nomark _))))) (pss_one ps_never) pss_nil)
      (pss_cons (ps_asg (pv 2) (pg_tup rfl (pgs_cons (pg_name (i := 3) sc_is_against.nd rfl (.inl rfl)) (pgs_cons (pg_name (i := 4) sc_is_against.nd rfl (.inl rfl)) (pgs_cons (pg_name (i := 5) sc_is_against.nd rfl (.inl rfl)) (pgs_cons (pg_name (i := 6) sc_is_against.nd rfl (.inl rfl)) pgs_nil))))))
      (pss_cons (ps_if (PW.pt (pw_or (pt_cmpR op_notN (pe_cal c3 (hr.mono (by decide)) (by rfl) (pa_cons (pv 0) (pa_cons pe_int (pa_cons (pv 3) pa_nil)))) pe_non (nomark _))
          (pw_or (pt_not (pt_val (pe_callB (clIsi K) (by rfl) T.n_isinstance bo_isinstance (pa_cons (pv 4) (pa_cons (pe_bltn (v := .ty "list") (by rfl) T.n_list bo_list rfl) pa_nil))))) (pw_or1 (pt_cmpR op_ne (pe_callB (clLen K) (by rfl) T.n_len bo_len (pa_cons (pv 4) pa_nil)) (pe_callB (clLen K) (by rfl) T.n_len bo_len (pa_cons (pv 3) pa_nil)) (nomark _)))))) (pss_one ps_never) pss_nil)
      (pss_cons (ps_if (PW.pt (pw_or (pt_not (pt_val (pe_callB (cr_all rfl) (by rfl) T.n_all bo_all (pa_cons
          (pe_lc (own := [("one", 7)]) (g := gName 7) (tt := tYes) rfl sc_is_against.nd (pi_list (pv 4)) (blkOk_by (N := nIsAg) (sc := defScope s_is_against) (by decide +kernel))
            (fun _ _ _ _ _ => pg_name (i := 7) sc_is_against.nd rfl (.inl rfl)) (fun _ _ _ _ _ => pts_nil) (fun _ _ _ _ _ => pe_cal c4 (hr.mono (by decide)) (by rfl) (pa_cons (pv 0) (pa_cons (pv 7) pa_nil)))) pa_nil))))
          (pw_or1 (pt_not (pt_val (pe_cal c4 (hr.mono (by decide)) (by rfl) (pa_cons (pv 0) (pa_cons (pv 5) pa_nil)))))))) (pss_one ps_never) pss_nil)
      (pss_cons (ps_set (i := 8) sc_is_against.nd rfl (.inl rfl) (pe_cal c5 (hr.mono (by decide)) (by rfl) (pa_cons (pv 0) (pa_cons (pv 1) (pa_cons (pv 3) (pa_cons (pv 4) pa_nil))))))
      (pss_cons (ps_if (PW.pt (pw_or (pt_cmpR (opNeD K hr.units) (pv 8) (pe_lstS (pa_cons (pv 5) pa_nil)) (nomark _)) (pw_or (pt_not (pt_val (pe_callB (clIsi K) (by rfl) T.n_isinstance bo_isinstance (pa_cons (pv 6) (pa_cons (pe_bltn (v := .ty "tuple") (by rfl) T.n_tuple bo_tuple rfl) pa_nil)))))
          (pw_or1 (pt_cmpR op_ne (pe_callB (clLen K) (by rfl) T.n_len bo_len (pa_cons (pv 6) pa_nil)) pe_int (nomark _)))))) (pss_one ps_never) pss_nil)
      (pss_one (ps_ret (pe_and (pe_callB (cr_all rfl) (by rfl) T.n_all bo_all (pa_cons
          (pe_lc (own := [("one", 7)]) (g := gName 7) (tt := tYes) rfl sc_is_against.nd (pi_tup (pv 6)) (blkOk_by (N := nIsAg) (sc := defScope s_is_against) (by decide +kernel))
            (fun _ _ _ _ _ => pg_name (i := 7) sc_is_against.nd rfl (.inl rfl)) (fun _ _ _ _ _ => pts_nil) (fun _ _ _ _ _ => pe_cal c6 (hr.mono (by decide)) (by rfl) (pa_cons (pv 7) pa_nil))) pa_nil))
          (pe_one (pe_cmpR (opEqD K hr.units) (pv 6) (pe_cal c7 hr (by rfl) (pa_cons (pv 0) (pa_cons (pv 1) pa_nil))) (nomark _))))))))))))), ?_⟩
    walk_at "in"
    refine ⟨_, rfl, by omega, by omega, ?_⟩
    walk_at "hd"
    refine ⟨_, rfl, by omega, by omega, ?_⟩
    walk_at "hd"
    refine c_isi (tyx_tup ha) (kit_tuple _ (by decide)) ?_
    walk_at "hd"
    refine ifF (by decide) ?_
    walk_at "hd"
    refine c_lenT ha ?_
    walk_at "hd"
    refine ifF (by simp) ?_
    walk_at "hd"
    refine c_asgT ?_
    walk_at "hd"
    refine g_four ha ?_
    walk_at "hd"
    refine ⟨n, .ref ar, (List.range ds.length).map fun i => (run (kk n b) (ds.take i)).1, rfl, by rw [← egs]; exact hr1, hn, by simp; omega, fun g hg => ?_, fun H1 e1 => ?_⟩
    · obtain ⟨i, hi, rfl⟩ := List.mem_map.mp hg
      have hi := List.mem_range.mp hi
      have rki : ROk (kk n b) (ds.take i) := rok_of (by rw [List.length_take]; omega)
      have := rki.len
      exact gsh_of rki.g hkn hn (by omega)
    walk_at "hd"
    refine ⟨rfl, ?_⟩
    walk_at "hd"
    refine ifF rfl ?_
    walk_at "hd"
    have hal1 := e1.seq hal
    have har1 := Same.tup e1 har
    refine c_isi (tyx_lst hal1) (kit_list _ (by decide)) ?_
    walk_at "hd"
    refine ifF (by decide) ?_
    walk_at "hd"
    refine c_lenL hal1 ?_
    rw [List.length_map]
    walk_at "hd"
    refine c_lenT har1 ?_
    rw [hrl]
    walk_at "hd"
    refine ifF (by simp) ?_
    walk_at "hd"
    refine ⟨al, rfl, ⟨_, hal1⟩, fun D hD => ?_⟩
    refine lc_dp (K := K) walk_list hD (fun H2 e => e.seq hal1) (fun _ => .bool true) (by rw [List.length_map]; omega) (fun _ _ => rfl) (fun i x H2 H' QQ hi e y hq => ?_) (fun i H2 x H' hi e y => ?_) (fun H2 ys e hy hd => ?_)
    · obtain ⟨rfl, hx⟩ := y
      rw [List.length_map] at hi
      rw [List.getElem?_map, List.getElem?_eq_getElem hi] at hx
      cases hx
      refine ⟨rfl, ?_⟩
      have hb := hds _ (List.getElem_mem hi)
      walk_at "hd"
      refine ⟨n, _, some _, rfl, rfl, ?_⟩
      rw [inR_yes (by omega) (by omega)]
      exact hq _ _ (Same.refl _) (.bl true)
    · obtain ⟨rfl, _⟩ := y
      exact Same.refl _
    rw [List.length_map] at hd
    have e5 := dpAll_true (n := ds.length) (by simp) hd
    subst e5
    refine ⟨D, _, rfl, SqL.of hy, ?_⟩
    rw [all_true]
    walk_at "hd"
    refine ifF rfl ?_
    walk_at "hd"
    refine ⟨n, _, some _, rfl, rfl, ?_⟩
    rw [inR_yes (by omega) (by omega)]
    walk_at "hd"
    refine ifF rfl ?_
    walk_at "hd"
    have e12 := e1.trans e
    refine ⟨.ref ar, al, ds, n, b, rfl, dp_same e12 hr1, e.seq hal1, hk, hds, hn1, hn, fun a3 H3 e3 h3 => ?_⟩
    rw [hg0] at h3
    have e13 := e12.trans e3
    walk_at "hd"
    refine ⟨rfl, fun t4 H4 e4 n4 ht4 => ?_⟩
    refine c_neD (d := .list [.int g0]) (j := 1) (.lst (e4.seq h3) (.cons (.int g0) .nil)) (.lst (SqL.of ht4) (.cons (.int g0) .nil)) (dep_ints [g0] (by show 1 ≤ 1000; decide)).2 (by decide) ?_
    have had4 := Same.tup (e13.trans e4) had
    walk_at "hd"
    refine ifF rfl ?_
    walk_at "hd"
    refine c_isi (tyx_tup had4) (kit_tuple _ (by decide)) ?_
    walk_at "hd"
    refine ifF (by decide) ?_
    walk_at "hd"
    refine c_lenT had4 ?_
    walk_at "hd"
    refine ifF (by simp) ?_
    walk_at "hd"
    unfold iTup
    walk_at "hd"
    refine ⟨ad, rfl, ⟨_, had4⟩, fun D5 hD5 => ?_⟩
    refine lc_dp (K := K) walk_tup hD5 (fun H2 e => Same.tup e had4) (fun _ => .bool true) (by show 2 ≤ 1000; decide) (fun _ _ => rfl) (fun i x H2 H' QQ hi e y hq => ?_) (fun i H2 x H' hi e y => ?_) (fun H6 ys6 e6 hy6 hd6 => ?_)
    · obtain ⟨rfl, hx⟩ := y
      refine ⟨rfl, ?_⟩
      have hix : ∃ z, x = .int z := by
        match i, hx with
        | 0, hx => cases hx; exact ⟨_, rfl⟩
        | 1, hx => cases hx; exact ⟨_, rfl⟩
      obtain ⟨z, rfl⟩ := hix
      walk_at "hd"
      refine ⟨_, some z, rfl, rfl, ?_⟩
      exact hq _ _ (Same.refl _) (.bl true)
    · obtain ⟨rfl, _⟩ := y
      exact Same.refl _
    have e7 := dpAll_true (n := 2) (by simp) hd6
    subst e7
    refine ⟨D5, _, rfl, SqL.of hy6, ?_⟩
    rw [all_true]
    walk_at "hd"
    refine ifT rfl ?_
    walk_at "hd"
    refine ⟨n, b, rfl, hn1, hn, hb2, fun v7 H7 e7 hv7 => ?_⟩
    have e17 := ((e13.trans e4).trans e6).trans e7
    refine c_eqD (dp_same e17 hd1) hv7 (dep_fr _) (by decide) ?_
    exact k H7 e17
end
end Hd
end
section
set_option Elab.async false
set_option linter.all false
set_option maxRecDepth 100000
set_option maxHeartbeats 4000000
/-! HdIsE: isinstance of a caught error that has a dict of its own. -/
namespace PySem.W
open PySem PySem.Spec PySem.Calls PyProof.Rows
section
variable {prog : Program} {w : World} {A : Around} {E : Value → Shared → Prop} {s : Shared} {K : Frag} {x D : Addr} {ox : Obj} {od : Option Obj}
theorem hd_findObj {C : Addr} {name : Str} {a g : Value} (hc : (clsIn K C).isSome = true) (ha : findIn K (.ref C) name = some (some a)) (hg : specialIn K a "__get__" = some (some g)) (ht : takesIn K a = some true) : findObj K C od name = some (.bind g a) := by
  obtain ⟨cd, hc⟩ := Option.isSome_iff_exists.mp hc
  unfold findObj
  rw [hc, Option.bind_some, ha, Option.bind_some]
  simp [hg, ht]
theorem hd_classE {Q : Option Value → Shared → Prop} (hga : findIn K (.ref D) "__getattribute__" = some (some (.builtin "BaseException.__getattribute__"))) (hgt : findIn K (.ref D) "__getattr__" = some none) (hsub : subIn K (.ref D) (.type "BaseException") = some true)
    (hdct : hasDictIn K D = true) (ha : findIn K (.ref D) "__class__" = some (some (.builtin "object.__class__")))
    (hn : specialIn K (.builtin "object.__class__") "__get__" = some (some (.builtin "getset_descriptor.__get__"))) (htk : takesIn K (.builtin "object.__class__") = some true) (hm : mroIn K D (.type "object") = some true)
    (X : K.In s.heap) (I : InstAt s.heap x ox D od) (h : Q (some (.ref D)) { s with toks := s.toks + 1 }) : wpAny (model prog w) A (getAttr? (.ref x) "__class__") Q E s := by
  have hf : findObj K D od "__class__" = some (.bind (.builtin "getset_descriptor.__get__") (.builtin "object.__class__")) := hd_findObj (by obtain ⟨cd, hc, _⟩ := any_some hdct; rw [hc]; rfl) ha hn htk
  obtain ⟨hp, g, d, t, os⟩ := s
  have L0 := I.type (M := model prog w)
  have L1 := looks_findIn (M := model prog w) X hga
  have L2 := looks_findIn (M := model prog w) X hgt
  have L3 := looks_find (M := model prog w) X I hf
  have sub : Looks (model prog w) hp (isInstance (.ref x) (.type "BaseException")) true := L0.andThen (looks_subIn X hsub)
  have hx0 : (false && onTheHeap (Value.builtin "BaseException.__getattribute__")) = false := rfl
  have hx2 : (Value.builtin "BaseException.__getattribute__" == Value.builtin "object.__getattribute__") = false := by decide +kernel
  have hx1 : (onTheHeap (Value.ref D) && Value.builtin "BaseException.__getattribute__" == Value.builtin "object.__getattribute__") = false := by rw [hx2]; rfl
  unfold getAttr? getAttrBy? getAttrBy
  refine wpAny_bind (wpAny_mkText (wpAny_bind (wpAny_attempt (wpAny_holding (wpAny_bind (L0.at (wpAny_bind (L1.at ?_))))))))
  show wpAny _ _ (if (onTheHeap (Value.ref D) && Value.builtin "BaseException.__getattribute__" == Value.builtin "object.__getattribute__") = true then _ else _) _ _ _
  rw [hx1, if_neg Bool.false_ne_true]
  unfold getAttrByItsOwn hookBefore
  refine wpAny_bind ?_
  rw [if_pos (show onTheHeap (Value.ref D) = true from rfl)]
  refine L2.at ?_
  refine wpAny_bind (wpAny_attempt (wpAny_holding ?_))
  unfold callGetattribute
  rw [hx0, if_neg Bool.false_ne_true]
  unfold boundAndCalled
  rw [PySem.F.excAttr_ValueError.ga.bind (.ref x)]
  refine wpAny_bind (wpAny_pure ?_)
  show wpAny _ _ (call (.builtin "BaseException.__getattribute__") [.ref x, .str "__class__" t]) _ _ _
  refine wpAny_call (codeAny_call_builtin PySem.F.excAttr_ValueError.ga.plain PySem.F.entry_bexc_ga ?_)
  refine @check_slot (model prog w) _ _ ⟨hp, g, d, t + 1, os⟩ "BaseException.__getattribute__" "BaseException" "__getattribute__" (.ref x) [.str "__class__" t] [] _ (by decide +kernel) (by decide +kernel) sub (PySem.F.args_bexc_ga (.ref x) (.str "__class__" t)) ?_
  unfold Builtin.«object.__getattribute__»
  refine wpAny_bind (wpAny_of_eq (a := ((Value.ref x : Value), [Value.str "__class__" t])) (by first | rfl | (simp only [slotArgs]; rfl)) ?_)
  refine wpAny_bind (wpAny_pure (wpAny_bind (L0.at (wpAny_bind (L3.at ?_)))))
  show wpAny _ _ (holding [Value.builtin "object.__class__"] (call (.builtin "getset_descriptor.__get__") [.builtin "object.__class__", .ref x, .ref D]) >>= ret) _ _ _
  refine wpAny_bind (wpAny_holding (wpAny_call (class_get (s := ⟨hp, g, d, t + 1, os⟩) (ox := ox) (od := od) X I hm ?_)))
  refine wpAny_pure ?_
  show wpAny _ _ (handedOut (.ref D)) _ _ _
  rw [handedOut_of (v := .ref D) rfl]
  first
    | exact wpAny_pure (wpAny_pure h)
    | exact wpAny_pure h
    | exact wpAny_pure (wpAny_bind (wpAny_pure (wpAny_pure h)))
theorem hd_kitx (C : L2.ExcC K D) : KitX K (.ref x) (.ref D) (fun h => InstAt h x ox D od) where
  ty := fun _ _ _ I => I.type
  it := fun _ _ X _ => by
    obtain ⟨cdD, hcD, _⟩ := any_some C.hd
    unfold clsIn at hcD
    split at hcD
    · rename_i c' d' cd' sl' ho
      intro A' Q' E' s' k q
      unfold isType loadHead
      exact wpAny_bind (wpAny_loadPart (k _ _ (X _ _ ho)) (wpAny_pure q))
    · cases hcD
  ne := fun h tp dd its n sl X htp => by
    obtain ⟨cdD, hcD, _⟩ := any_some C.hd
    refine Bool.eq_false_iff.mpr fun q => ?_
    have e : D = tp := Value.ref.inj (beq_iff_eq.mp q)
    subst e
    unfold clsIn at hcD
    split at hcD
    · rename_i c' d' cd' sl' ho
      have z := (X _ _ ho).symm.trans htp
      cases z
    · cases hcD
  ca := fun X I k => hd_classE C.hg C.hk C.hs C.hd C.ha C.hn C.ht C.hm X I k
end
end PySem.W
namespace Hd
open PySem PySem.Spec PyProof.Rows L2
/-- isinstance(e, c), e the exception that the suite holds, its dict at dd -/
def rIsED (K : PySem.W.Frag) (D a : Addr) (cls : Value) (d : Option Addr) : List V → Hp → VK → Prop := fun xs H Q => cls = .ref D ∧ ∃ (dd : Addr) (fs : List (Str × V)) (c : V) (cv : Value) (b : Bool), d = some dd ∧ H dd = some (.xd fs) ∧ xs = [.ref a, c] ∧ (∀ u, RelV c u → u = cv) ∧ PySem.W.kitOne K (.ref D) cv = some b ∧ Q (.bl b) H
theorem call_isED {X : Cx} {a D : Addr} {oe : Obj} {cls : Value} {d : Option Addr} {pn : List (Addr × Obj)} (C : ExcC X.K D) (hz : Zc cls d oe) (hf : ∃ vs, oe.data = .fields vs) : CallR (X.suite a ((a, oe) :: pn)) (.builtin "isinstance") (rIsED X.K D a cls d) := by
  intro pins s σ H xs us Q I r h
  obtain ⟨rfl, dd, fs, c, cv, b, rfl, ea, rfl, hcv, e, q⟩ := h
  cases r with
  | cons rx rr =>
    cases rr with
    | cons rt rr =>
      cases rr
      cases rx
      have ec := hcv _ rt
      subst ec
      obtain ⟨hget, _⟩ := I.pin (a, oe) (List.mem_append.mpr (.inl List.mem_cons_self))
      obtain ⟨vs, hv⟩ := hf
      have hx : ObjOk X.prog X.w H s.heap dd (.xd fs) := I.hok dd _ ea
      obtain ⟨mA, hns, hr⟩ := hx
      obtain ⟨od, es, ep, ho, _⟩ := hns
      have J : PySem.W.InstAt s.heap a oe D (some od) := ⟨hget, hz.1, by unfold PySem.W.notCls; rw [hv] <;> rfl, by rw [hz.2]; exact ho⟩
      exact PySem.W.kia_one (PySem.W.hd_kitx C) I.kIn J e (fun z => nomatch z) fun tk => ⟨.bl b, H, I.kept (t' := tk) fun _ _ z => z, rfl, q⟩
/-- what the written part says of BadWay's errors -/
structure BX (K : PySem.W.Frag) : Prop where
  ex : ExcC K (He.ga K "BadWay")
  xf : XfC K (He.ga K "BadWay")
  kd : PySem.W.kitOne K (.ref (He.ga K "BadWay")) (.ref (He.ga K "DuesError")) = some true
  kv : PySem.W.kitOne K (.ref (He.ga K "BadWay")) (.type "ValueError") = some true
  em : PySem.W.exmOne K (.ref (He.ga K "BadWay")) (.ref (He.ga K "BadWay")) = some true
end Hd
end
section
set_option Elab.async false
set_option linter.all false
set_option maxRecDepth 100000
set_option maxHeartbeats 4000000
namespace Hd
open PySem PySem.Spec PyProof.Rows L2
local macro_rules | `(tactic| walk_at "hd1") => `(tactic| (first
  | with_reducible refine c_seq ?_ | with_reducible refine c_ret ?_ | with_reducible refine c_asg ?_ | with_reducible refine c_drop ?_ | with_reducible refine c_next ?_ | with_reducible refine c_ifS ?_ | with_reducible refine c_par ?_
  | with_reducible refine c_var rfl ?_ | with_reducible refine c_c ?_ | with_reducible refine c_op ?_ | with_reducible refine c_un ?_ | with_reducible refine c_U ?_ | with_reducible refine c_I0 ?_
  | with_reducible refine c_test ?_ | with_reducible refine c_B ?_ | with_reducible refine c_bl ?_ | with_reducible refine c_eq rfl ?_ | with_reducible refine c_ne rfl ?_ | with_reducible refine c_chain ?_
  | with_reducible refine c_and ?_ | with_reducible refine c_or ?_ | with_reducible refine c_not ?_ | with_reducible refine c_andV ?_ | with_reducible refine c_orV ?_ | with_reducible refine c_notV ?_ | with_reducible refine c_ifE ?_
  | with_reducible refine c_call ?_ | with_reducible refine c_cb ?_ | with_reducible refine c_cons ?_ | with_reducible refine c_nil ?_ | with_reducible refine c_tup ?_ | with_reducible refine c_lst ?_ | with_reducible refine c_two ?_ | with_reducible refine c_e1 ?_ | with_reducible refine c_e2 ?_ | with_reducible refine c_int1 ?_ | with_reducible refine c_int1b ?_
  | with_reducible refine c_ixT (by assumption) rfl ?_ | with_reducible refine c_ixL (by assumption) rfl ?_
  | with_reducible refine c_asgS ?_ | with_reducible refine c_sF ?_ | with_reducible refine c_tF ?_ | with_reducible refine c_tupS ?_ | with_reducible refine c_lstS ?_ | with_reducible refine c_then ?_ | with_reducible refine c_lc ?_ | with_reducible refine c_rng1 ?_ | with_reducible refine c_rng2 ?_ | with_reducible refine c_list ?_
  | with_reducible refine c_I (by assumption) ?_))
local macro_rules | `(tactic| walk_at "hd") => `(tactic| repeat (walk_at "hd1"))
local macro_rules | `(tactic| walk_at "in") => `(tactic| ((try dsimp only [cxOf]); walk_at "hd"))
/-! ### frames and tables -/
theorem codeO_mut {c : Addr} {q : Str} : mutB (LamX.CodeO c q) = false := rfl
theorem tabs_buts {T : List (Addr × Str)} {S : List Addr} {H H' : Hp} (t : LamX.Tabs T H) (e : ButS S H H') (m : Muts S H) : LamX.Tabs T H' := fun p hp => by
  obtain ⟨ps, h1, h2, h3⟩ := t p hp
  refine ⟨ps, e _ _ (m.not h1 rfl) h1, h2, fun pos cv hc => ?_⟩
  obtain ⟨c, e1, e2⟩ := h3 pos cv hc
  exact ⟨c, e1, e _ _ (m.not e2 rfl) e2⟩
theorem But.buts {p : Addr} {H H' : Hp} (e : But p H H') : ButS [p] H H' := fun a o n h => e a o (fun z => n (by rw [z]; exact List.mem_cons_self)) h
theorem HandAt.mut {K : PySem.W.Frag} {p c : Addr} {H : Hp} (h : HandAt K p c H) : Muts [p] H := fun a ha => by
  rw [List.mem_singleton] at ha
  subst ha
  obtain ⟨xs, e⟩ := h.ne
  exact ⟨_, e, rfl⟩
theorem HandAt.ext {K : PySem.W.Frag} {p c : Addr} {H H' : Hp} (h : HandAt K p c H) (e : LamX.ExtN H H') : HandAt K p c H' := by
  obtain ⟨i, big, seed, cnt, ns, h1, h2, r⟩ := h.ex
  exact ⟨i, big, seed, cnt, ns, e _ _ h1 (fun ps z => by cases z), e _ _ h2 (fun ps z => by cases z), r⟩
theorem HandAt.buts {K : PySem.W.Frag} {p c : Addr} {S : List Addr} {H H' : Hp} (h : HandAt K p c H) (e : ButS S H H') (np : p ∉ S) (nc : c ∉ S) : HandAt K p c H' := by
  obtain ⟨i, big, seed, cnt, ns, h1, h2, r⟩ := h.ex
  exact ⟨i, big, seed, cnt, ns, e _ _ np h1, e _ _ nc h2, r⟩
theorem HandAt.pos {K : PySem.W.Frag} {p c q : Addr} {H : Hp} (h : HandAt K p c H) (n : H q = none) : q ≠ p ∧ q ≠ c := by
  obtain ⟨i, big, seed, cnt, ns, h1, h2, r⟩ := h.ex
  exact ⟨Ne.symm (ne_of_none h1 n), Ne.symm (ne_of_none h2 n)⟩
theorem tup_ext {K : PySem.W.Frag} {H H' : Hp} {a : Addr} {xs : List V} (e : LamX.ExtN H H') (h : SqT K H a xs) : SqT K H' a xs := by
  rcases h with (h | ⟨o, h⟩) | h
  · exact .inl (.inl (e _ _ h (fun ps z => by cases z)))
  · exact .inl (.inr ⟨o, e _ _ h (fun ps z => by cases z)⟩)
  · exact .inr h
theorem lst_ext {K : PySem.W.Frag} {H H' : Hp} {a : Addr} {xs : List V} (e : LamX.ExtN H H') (h : SqL K H a xs) : SqL K H' a xs := by
  rcases h with (h | ⟨o, h⟩) | h
  · exact .inl (.inl (e _ _ h (fun ps z => by cases z)))
  · exact .inl (.inr ⟨o, e _ _ h (fun ps z => by cases z)⟩)
  · exact .inr h
mutual
theorem dp_ext {K : PySem.W.Frag} {H H' : Hp} (e : LamX.ExtN H H') : ∀ {v : V} {d : PyData}, Dp K H v d → Dp K H' v d
  | _, _, .non => .non
  | _, _, .bl b => .bl b
  | _, _, .int i => .int i
  | _, _, .str x => .str x
  | _, _, .lst h1 h2 => .lst (lst_ext e h1) (dpAll_ext e h2)
  | _, _, .tup h1 h2 => .tup (tup_ext e h1) (dpAll_ext e h2)
theorem dpAll_ext {K : PySem.W.Frag} {H H' : Hp} (e : LamX.ExtN H H') : ∀ {vs : List V} {ds : List PyData}, DpAll K H vs ds → DpAll K H' vs ds
  | _, _, .nil => .nil
  | _, _, .cons h t => .cons (dp_ext e h) (dpAll_ext e t)
end
/-! ### what the law's defs with lambdas stand on -/
def lamT (K : PySem.W.Frag) (x : Str) : Addr × Str := ((He.cT K (x, none)).2, (x ++ ".<locals>.") ++ "<lambda>")
def tabL (K : PySem.W.Frag) : List (Addr × Str) := [lamT K "_law_foe_right", lamT K "_law_bad_way", lamT K "_law_raised"]
structure LawT (P : Program) (K : PySem.W.Frag) (mg : Str → Option Value) (base : Heap) : Prop where
  tx : Txt K mg
  bw : BWay K P
  bx : BX K
  tb : ∀ x ∈ (["_law_foe_right", "_law_bad_way", "_law_raised"] : List Str), LamX.TabB base mg (He.cT K (x, none)).1 (He.cT K (x, none)).2
  d12 : (He.cT K ("_law_foe_right", none)).2 ≠ (He.cT K ("_law_bad_way", none)).2
  d13 : (He.cT K ("_law_foe_right", none)).2 ≠ (He.cT K ("_law_raised", none)).2
  d23 : (He.cT K ("_law_bad_way", none)).2 ≠ (He.cT K ("_law_raised", none)).2
section
variable {P : Program} {w : World} {K : PySem.W.Frag} {mg : Str → Option Value} {base : Heap}
/-- a def whose code object is known by its place -/
theorem mk_calL {CX : CXT} {x : Str} {st : Stmt} {N ps : List Str} {k : Nat} {sp : Sp} (F : ∃ fd, FunD K x x (defArgs st) (defBody st) (defScope st) [] [] (He.ga K x) fd) (g : mg x = some (.ref (He.ga K x))) (S : FnScope N ps (defScope st))
    (hb : ∀ (kV doc pm : Value) (an : Option Addr) (cdv ct : Value) (us : List Value), us.length = ps.length → bindArgs (PySem.W.fnOf x x (defArgs st) (defBody st) (defScope st) .none kV doc pm an cdv ct) ⟨us, []⟩ = pure (ps.zip us))
    (len : ∀ vs H Q E, sp vs H Q E → vs.length = ps.length)
    (hbody : ∀ (A : Around) (outer : List Env) (s : Shared) (H : Hp) (vs : List V) (Q : VK) (E : XK), Room k (A.deeper (envOfC x (defScope st) s.heap.objs.size (He.ga K x) (.ref (He.codeOf K (x, none))))) → sp vs H Q E →
      ∃ t, PSs (cxOf CX P w K mg base N x (defScope st) (He.ga K x) (.ref (He.codeOf K (x, none))) A outer s H E) (defBody st) t ∧ t { nx := fun _ H' => Q .non H', rt := Q } (start N vs) H) : Cal P w K mg base CX (k + 1) x ps sp := by
  obtain ⟨fd, F⟩ := F
  have hbin := F.bindsN hb
  have kp := F.kp
  obtain ⟨oc, od, dV, kV, doc, pm, an, cdv, ct, osl, rfl, lk, hcd, _, _⟩ := F.ex
  obtain ⟨c, rfl⟩ := He.codeIn_ref hcd
  have e := He.codeOf_eq (p := (x, none)) lk rfl
  refine ⟨⟨_, fn_of lk hcd S len fun A outer s H vs Q E hr hsp => ?_, hbin⟩, kp, g⟩
  have := hbody A outer s H vs Q E
  rw [e] at this
  exact this hr hsp
/-- draws, one a turn -/
theorem lc_draws {p c : Addr} {n m : Nat} {g : TG} {te : TE} {vs : List Nat} {σ : L2.St} {H1 : Hp} {D : Addr} {Qd : Hp → Prop} (hD : H1 D = none) (hp : HandAt K p c H1) (hm : m ≤ 1000)
    (hs : ∀ x H (QQ : VK), HandAt K p c H → But p H1 H → (∀ (r : Nat) H', r < n → But p H H' → HandAt K p c H' → QQ (.int r) H') → g x (wipe σ vs) H fun σ2 H2 => wipe σ2 vs = wipe σ vs ∧ te σ2 H2 QQ)
    (hd : ∀ H (ys : List Int), But p H1 H → HandAt K p c H → H D = some (.lst (ys.map V.int)) → ys.length = m → (∀ y ∈ ys, 0 ≤ y ∧ y < (n : Int)) → Qd H) :
    ∃ W : Nat → Nat → Hp → Prop, (∃ z, W 0 z (upd H1 D (.lst []))) ∧ ∀ i z H, W i z H →
      ((Itr 0 m).stop i H ∧ Qd H) ∨ ((Itr 0 m).go i H ∧ ∃ Nx : Hp → Prop, (∀ H', Nx H' → ∃ z', z' < z ∧ W (i + 1) z' H') ∧ ∀ x H', (Itr 0 m).yld i H x H' → g x (wipe σ vs) H' fun σ2 H2 => wipe σ2 vs = wipe σ vs ∧ tYes σ2 H2 fun b H3 =>
        if b = true then te σ2 H3 fun y H4 => ∃ acc, H4 D = some (.lst acc) ∧ acc.length < sizeLine ∧ Nx (upd H4 D (.lst (acc ++ [y]))) else Nx H3) := by
  obtain ⟨hDp, hDc⟩ := hp.pos hD
  refine lc_it walk_range (fun i H => But p H1 H ∧ HandAt K p c H ∧ ∃ ys : List Int, H D = some (.lst (ys.map V.int)) ∧ ys.length = i ∧ ∀ y ∈ ys, 0 ≤ y ∧ y < (n : Int)) ⟨Same.but (Same.new hD), hp.same (Same.new hD), [], upd_same, rfl, fun y hy => nomatch hy⟩ (fun _ _ _ _ => trivial) ?_ (fun H ⟨b, h, ys, h1, h2, h3⟩ => hd H ys b h h1 h2 h3)
  rintro i x H H' hi ⟨b, h, ys, h1, h2, h3⟩ ⟨rfl, hx⟩
  refine hs x H' _ h b fun r H4 hr b4 h4 => ?_
  have h14 := b4 _ _ hDp h1
  refine ⟨ys.map V.int, h14, Nat.lt_of_le_of_lt (show _ ≤ 1000 by rw [List.length_map]; omega) (by decide), ?_, ?_, ys ++ [(r : Int)], ?_, ?_, ?_⟩
  · intro a u n ha
    rw [upd_ne (ne_of_none ha hD)]
    exact (b.trans b4) a u n ha
  · exact h4.buts (ButS.upd (S := [D]) List.mem_cons_self) (by simpa using Ne.symm hDp) (by simpa using Ne.symm hDc)
  · rw [upd_same, List.map_append]
    rfl
  · rw [List.length_append, h2]
    rfl
  · intro y hy
    rcases List.mem_append.mp hy with hy | hy
    · exact h3 y hy
    · rw [List.mem_singleton] at hy
      omega
end
end Hd
end
section
set_option Elab.async false
set_option linter.all false
set_option maxRecDepth 100000
set_option maxHeartbeats 4000000
namespace Hd
open PySem PySem.Spec PyProof.Rows L2
local macro_rules | `(tactic| walk_at "hd1") => `(tactic| (first
  | with_reducible refine c_seq ?_ | with_reducible refine c_ret ?_ | with_reducible refine c_asg ?_ | with_reducible refine c_drop ?_ | with_reducible refine c_next ?_ | with_reducible refine c_ifS ?_ | with_reducible refine c_par ?_
  | with_reducible refine c_var rfl ?_ | with_reducible refine c_c ?_ | with_reducible refine c_op ?_ | with_reducible refine c_un ?_ | with_reducible refine c_U ?_ | with_reducible refine c_I0 ?_
  | with_reducible refine c_test ?_ | with_reducible refine c_B ?_ | with_reducible refine c_bl ?_ | with_reducible refine c_eq rfl ?_ | with_reducible refine c_ne rfl ?_ | with_reducible refine c_chain ?_
  | with_reducible refine c_and ?_ | with_reducible refine c_or ?_ | with_reducible refine c_not ?_ | with_reducible refine c_andV ?_ | with_reducible refine c_orV ?_ | with_reducible refine c_notV ?_ | with_reducible refine c_ifE ?_
  | with_reducible refine c_call ?_ | with_reducible refine c_cb ?_ | with_reducible refine c_cons ?_ | with_reducible refine c_nil ?_ | with_reducible refine c_tup ?_ | with_reducible refine c_lst ?_ | with_reducible refine c_two ?_ | with_reducible refine c_e1 ?_ | with_reducible refine c_e2 ?_ | with_reducible refine c_int1 ?_ | with_reducible refine c_int1b ?_
  | with_reducible refine c_ixT (by assumption) rfl ?_ | with_reducible refine c_ixL (by assumption) rfl ?_
  | with_reducible refine c_asgS ?_ | with_reducible refine c_sF ?_ | with_reducible refine c_tF ?_ | with_reducible refine c_tupS ?_ | with_reducible refine c_lstS ?_ | with_reducible refine c_then ?_ | with_reducible refine c_lc ?_ | with_reducible refine c_rng1 ?_ | with_reducible refine c_rng2 ?_ | with_reducible refine c_list ?_
  | with_reducible refine c_I (by assumption) ?_))
local macro_rules | `(tactic| walk_at "hd") => `(tactic| repeat (walk_at "hd1"))
local macro_rules | `(tactic| walk_at "in") => `(tactic| ((try dsimp only [cxOf]); walk_at "hd"))
section
variable {P : Program} {w : World} {K : PySem.W.Frag} {mg : Str → Option Value} {base : Heap}
theorem LawT.hu1 (L : LawT P K mg base) : ∀ p ∈ tabL K, p.1 = (lamT K "_law_foe_right").1 → p.2 = (lamT K "_law_foe_right").2 := fun p hp e => by
  rcases List.mem_cons.mp hp with rfl | hp
  · rfl
  · rcases List.mem_cons.mp hp with rfl | hp
    · exact absurd e.symm L.d12
    · rw [List.mem_singleton] at hp
      subst hp
      exact absurd e.symm L.d13
theorem LawT.hu2 (L : LawT P K mg base) : ∀ p ∈ tabL K, p.1 = (lamT K "_law_bad_way").1 → p.2 = (lamT K "_law_bad_way").2 := fun p hp e => by
  rcases List.mem_cons.mp hp with rfl | hp
  · exact absurd e L.d12
  · rcases List.mem_cons.mp hp with rfl | hp
    · rfl
    · rw [List.mem_singleton] at hp
      subst hp
      exact absurd e.symm L.d23
theorem LawT.hu3 (L : LawT P K mg base) : ∀ p ∈ tabL K, p.1 = (lamT K "_law_raised").1 → p.2 = (lamT K "_law_raised").2 := fun p hp e => by
  rcases List.mem_cons.mp hp with rfl | hp
  · exact absurd e L.d13
  · rcases List.mem_cons.mp hp with rfl | hp
    · exact absurd e L.d23
    · rw [List.mem_singleton] at hp
      subst hp
      rfl
abbrev nFoe : List Str := ["_law_hand_here", "_law_n", "_law_beats_here", "_law_many", "_law_way_here", "_law_table", "_law_beat", "_law_deals", "_law_row", "_law_views", "_law_person", "_law_debts", "_law_seen", "_law_told"]
def spFoe (K : PySem.W.Frag) : Sp := fun vs H Q _ => ∃ (p c : Addr) (n b : Nat), vs = [.ref p, .int n, .int b] ∧ HandAt K p c H ∧ LamX.Tabs (tabL K) H ∧ 1 ≤ n ∧ n ≤ 12 ∧ 1 ≤ b ∧ b ≤ 400 ∧ ∀ H', HandAt K p c H' → LamX.Tabs (tabL K) H' → Q (.bl true) H'
theorem ok_law_foe_right (L : LawT P K mg base) : Cal P w K mg base CX0 9 "_law_foe_right" ["_law_hand_here", "_law_n", "_law_beats_here"] (spFoe K) := by
  have T := L.tx
  have c1 := ok_law_draw (P := P) (w := w) (base := base) T
  have c2 := ok_law_some (P := P) (w := w) (base := base) T
  have c3 := ok_law_deals_of (P := P) (w := w) (base := base) T
  have c4 := ok_law_followed (P := P) (w := w) (base := base) T
  have c5 := ok_law_logged (P := P) (w := w) (base := base) T
  have c6 := ok_law_is (P := P) (w := w) (base := base) T 4
  have c7 := ok_law_most (P := P) (w := w) (base := base) T
  have c8 := ok_is_against (P := P) (w := w) (base := base) T
  refine mk_calL T.f__law_foe_right T.g__law_foe_right sc__law_foe_right (fun _ _ _ _ _ _ us hl => match us, hl with | [_, _, _], _ => rfl) (fun vs H Q E h => ?_) (fun A outer s H vs Q E hr h => ?_)
  · obtain ⟨p, c, n, b, rfl, _⟩ := h
    rfl
  · obtain ⟨p, c, n, b, rfl, hp, hT, hn1, hn, hb1, hb2, k⟩ := h
    refine ⟨_, pss_cons (ps_set (i := 3) sc__law_foe_right.nd rfl (.inl rfl) (pe_op op_sub (pe_callB (call_min2 rfl) (by rfl) T.n_min bo_min (pa_cons (pv 1) (pa_cons (pe_op op_add (pv 2) pe_int) pa_nil))) pe_int))
      (pss_cons (ps_set (i := 4) sc__law_foe_right.nd rfl (.inr rfl) (pe_cal c2 (hr.mono (by decide)) (by rfl) (pa_cons (pv 0) (pa_cons (pe_lstS (pa_cons pe_str (pa_cons pe_str (pa_cons pe_str (pa_cons pe_str (pa_cons pe_str (pa_cons pe_str pa_nil))))))) pa_nil))))
      (pss_cons (ps_set (i := 5) sc__law_foe_right.nd rfl (.inr rfl) (pe_tupleOf (by rfl) T.n_tuple (pe_lc (own := [("_law_beat", 6)]) (g := gName 6) (tt := tYes) rfl sc__law_foe_right.nd (pi_range1 rfl T.n_range (pa_cons (pv 3) pa_nil))
          (blkOk_by (N := nFoe) (sc := defScope s__law_foe_right) (by decide +kernel)) (fun _ _ _ _ _ => pg_name (i := 6) sc__law_foe_right.nd rfl (.inl rfl)) (fun _ _ _ _ _ => pts_nil) (fun _ _ _ _ _ => pe_cal c1 (hr.mono (by decide)) (by rfl) (pa_cons (pv 0) (pa_cons (pv 1) pa_nil))))))
      (pss_cons (ps_set (i := 7) sc__law_foe_right.nd rfl (.inl rfl) (pe_cal c3 (hr.mono (by decide)) (by rfl) (pa_cons (pv 1) (pa_cons (pv 2) (pa_cons (pv 4) (pa_cons (pv 5) pa_nil))))))
      (pss_cons (ps_asg (pe_cal c4 (hr.mono (by decide)) (by rfl) (pa_cons (pv 1) (pa_cons (pv 2) (pa_cons (pv 7) pa_nil)))) (pg_tup rfl (pgs_cons (pg_name (i := 8) sc__law_foe_right.nd rfl (.inl rfl)) (pgs_cons (pg_name (i := 9) sc__law_foe_right.nd rfl (.inl rfl)) (pgs_cons (pg_name (i := 10) sc__law_foe_right.nd rfl (.inl rfl)) (pgs_cons (pg_name (i := 11) sc__law_foe_right.nd rfl (.inl rfl)) pgs_nil))))))
      (pss_cons (ps_set (i := 12) sc__law_foe_right.nd rfl (.inr rfl) (pe_lstS pa_nil))
      (pss_cons (ps_set (i := 13) sc__law_foe_right.nd rfl (.inl rfl) (pe_ag (T := tabL K) (b := "_law_view") (E := fun _ _ _ _ => False) T L.bw (by rfl) hr (pv 1) (pv 2) (L.tb "_law_foe_right" (mem_at 0 rfl)) rfl (mem_at 0 rfl) L.hu1
          (lamP_by (show lamPB (defScope s__law_foe_right) _ _ = true by decide +kernel)) (show ("_law_view" : Str) ∉ nFoe by decide +kernel) rfl (fun _ _ _ _ _ _ => rfl) (fun A outer s H E f c' hr' => pe_cal c5 (hr'.mono (by decide)) (by rfl) (pa_cons (pv 12) (pa_cons (pv 4) (pa_cons (pv 5) (pa_cons (pv 14) pa_nil))))) (fun σ pins H s e s' I cx => passL pins σ H s e s' I cx)))
      (pss_cons (ps_if (pt_cmpR (opNeD K hr.units) (pv 12) (pv 9) (nomark _)) (pss_one ps_never) pss_nil)
      (pss_cons (ps_if (pt_not (pt_val (pe_cal c6 (hr.mono (by decide)) (by rfl) (pa_cons (pv 13) (pa_cons (pe_tupS (pa_cons (pv 8) (pa_cons (pv 7) (pa_cons (pv 10) (pa_cons (pe_ix (ixT K) (pv 11) (pv 10) (fun _ _ => rfl)) pa_nil))))) pa_nil))))) (pss_one ps_never) pss_nil)
      (pss_one (ps_ret (pe_and (pe_cmpR (opEqD K hr.units) (pe_ix (ixT K) (pv 13) pe_int (fun _ _ => rfl)) (pe_cal c7 (hr.mono (by decide)) (by rfl) (pa_cons (pv 1) (pa_cons (pv 2) pa_nil))) (nomark _))
          (pe_one (pe_cmpR op_isBl (pe_cal c8 (hr.mono (by decide)) (by rfl) (pa_cons (pv 1) (pa_cons (pv 2) (pa_cons (pv 13) pa_nil)))) pe_bl (nomark _)))))))))))))), ?_⟩
    have hkn : kk n b ≤ n := by unfold kk; omega
    have hk1 : 1 ≤ kk n b := by unfold kk; omega
    obtain ⟨m, hm⟩ : ∃ m, kk n b = m + 1 := ⟨kk n b - 1, by omega⟩
    walk_at "in"
    rw [kk_int]
    have em : ((kk n b : Nat) : Int) - 1 = ((m : Nat) : Int) := by omega
    rw [em]
    walk_at "hd"
    refine ⟨rfl, fun a1 H1 e1 n1 ha1 => ?_⟩
    walk_at "hd"
    have hT1 := tabs_buts hT (Same.buts (S := []) e1) (muts_nil _)
    obtain ⟨np1, nc1⟩ := hp.pos n1
    refine ⟨p, c, a1, _, rfl, hp.same e1, ha1, np1, Nat.le_of_ble_eq_true rfl, Nat.le_of_ble_eq_true rfl, fun i v H2 hv b2 hp2 => ?_⟩
    have hT2 := tabs_buts hT1 b2.buts (hp.same e1).mut
    have hkd : ∃ kd, v = .str kd := by
      match i, hv with
      | 0, hv => cases hv; exact ⟨_, rfl⟩
      | 1, hv => cases hv; exact ⟨_, rfl⟩
      | 2, hv => cases hv; exact ⟨_, rfl⟩
      | 3, hv => cases hv; exact ⟨_, rfl⟩
      | 4, hv => cases hv; exact ⟨_, rfl⟩
      | 5, hv => cases hv; exact ⟨_, rfl⟩
    obtain ⟨kd, rfl⟩ := hkd
    walk_at "hd"
    refine ⟨by omega, by omega, fun D hD => ?_⟩
    rw [Int.toNat_natCast]
    refine lc_draws (n := n) hD hp2 (by omega) (fun x H3 QQ h3 b3 hq => ?_) (fun H3 tl b3 hp3 hy3 htl hbd => ?_)
    · refine ⟨rfl, ?_⟩
      walk_at "hd"
      exact ⟨p, c, n, rfl, h3, hn1, by omega, hq⟩
    have hT3 := tabs_buts hT2 b3.buts hp2.mut
    refine .inl ⟨D, _, rfl, SqL.of hy3, fun tb ntb => ?_⟩
    have e4 := Same.new (o := .tup (tl.map V.int)) ntb
    have htb : upd H3 tb (.tup (tl.map V.int)) tb = some (.tup (tl.map V.int)) := upd_same
    have hp4 := hp3.same e4
    have hT4 := tabs_buts hT3 (Same.buts (S := []) e4) (muts_nil _)
    generalize upd H3 tb (.tup (tl.map V.int)) = H4 at e4 htb hp4 hT4 ⊢
    walk_at "hd"
    refine ⟨kd, tb, tl, n, b, rfl, SqT.of htb, by omega, hbd, hn1, hn, fun e H5 e5 n5 he5 => ?_⟩
    have hds := dealsF_bnd (kd := kd) (k := kk n b) hn1 hbd tl.length (Nat.le_refl _)
    have hdl := dealsF_len (kd := kd) (tl := tl) (n := n) (k := kk n b) tl.length
    walk_at "hd"
    refine c_asgT ?_
    walk_at "hd"
    refine ⟨e, _, n, b, rfl, he5, by rw [hdl]; omega, hds, hn1, hn, fun t r vw dv vvs H6 e6 ht6 hr6 hvw6 hvv6 hdv6 => ?_⟩
    refine g_four (SqT.of ht6) ?_
    walk_at "hd"
    refine ⟨rfl, fun sn H7 e7 n7 hsn7 => ?_⟩
    walk_at "hd"
    unfold tAg
    walk_at "hd"
    have e47 := (e5.trans e6).trans e7
    refine ⟨tabs_buts hT4 (Same.buts (S := []) e47) (muts_nil _), fun H8 x8 hT8 => ?_⟩
    have hp7 := hp4.same e47
    have hp8 := hp7.ext x8
    have hsn8 : H8 sn = some (.lst []) := x8 _ _ hsn7 (fun ps z => by cases z)
    have htb8 : SqT K H8 tb (tl.map V.int) := tup_ext x8 (SqT.of (e47 _ _ htb))
    refine ⟨n, b, [sn], fun ds H => ds = dealsF kd tl n (kk n b) ds.length ∧ ds.length ≤ tl.length ∧ SqT K H tb (tl.map V.int) ∧ ∃ xs, H sn = some (.lst xs) ∧ DpAll K H xs (viewsD n (kk n b) ds), fun _ => False, rfl, rfl, hn1, hn, hb1, hb2,
      ⟨?_, ?_, ?_, fun _ _ => trivial, ?_, fun _ _ _ z => z.elim⟩, ⟨rfl, Nat.zero_le _, htb8, [], hsn8, .nil⟩, ?_⟩
    · rintro ds HH HH' S' ⟨h1, h2, h3, xs, h4, h5⟩ bb mm dis _
      exact ⟨h1, h2, bb.tup mm h3, xs, bb _ _ (fun z => dis sn z List.mem_cons_self) h4, dpAll_buts bb mm (noLs_map fun i _ => noL_vw n (kk n b) _) h5⟩
    · rintro ds HH ⟨h1, h2, h3, xs, h4, h5⟩ z hz
      rw [List.mem_singleton] at hz
      subst hz
      exact ⟨_, h4, rfl⟩
    · intro z hz
      rw [List.mem_singleton] at hz
      subst hz
      exact ⟨_, hsn8, rfl⟩
    · rintro ds v HH QQ ⟨h1, h2, h3, xs, h4, h5⟩ fr rk hgl hb hv hQ
      have hl := rk.len
      have hlt : ds.length < tl.length := by omega
      have hg0 : 0 < (run (kk n b) ds).1.length := by omega
      have hxl : xs.length = ds.length := by
        have := dpAll_len h5
        unfold viewsD at this
        simpa using this
      show tCall (spLogged K) [] E0 _ _ _ _
      walk_at "hd"
      refine ⟨sn, xs, kd, tb, tl, v, n, ds.length, _, _, rfl, h4, by omega, hv, h3, hlt, hbd, hn1, hn, hg0, by omega, fun H' bq hq => ?_⟩
      have mq : Muts [sn] HH := fun z hz => by
        rw [List.mem_singleton] at hz
        subst hz
        exact ⟨_, h4, rfl⟩
      refine hQ _ H' bq.buts (.inl ⟨_, wayF_lt hn1 hbd hlt, rfl, ?_, by rw [List.length_append]; exact hlt, bq.buts.tup mq h3, _, hq, ?_⟩)
      · rw [List.length_append, List.length_singleton]
        show _ = dealsF kd tl n (kk n b) ds.length ++ _
        rw [← h1]
      · rw [viewsD_snoc]
        exact dpAll_append (dpAll_buts bq.buts mq (noLs_map fun i _ => noL_vw n (kk n b) _) h5) (.cons (dp_buts bq.buts mq (noL_vw _ _ _) hv) .nil)
    · rintro ds v H9 rk hgl hb ⟨h1, h2, h3, xs, h4, h5⟩ fr hv
      have hl := rk.len
      have elen : ds.length = tl.length := by omega
      rw [elen] at h1
      subst h1
      obtain ⟨nsp, nsc⟩ := (hp4.same (e5.trans e6)).pos n7
      have msn8 : Muts [sn] H8 := fun z hz => by
        rw [List.mem_singleton] at hz
        subst hz
        exact ⟨_, hsn8, rfl⟩
      have hp9 := hp8.buts fr (by simpa using Ne.symm nsp) (by simpa using Ne.symm nsc)
      have hT9 := tabs_buts hT8 fr msn8
      have vns : vw ≠ sn := ne_of_none hvw6 n7
      have ens : e ≠ sn := ne_of_none (e6 _ _ he5) n7
      have hvw9 : H9 vw = some (.lst vvs) := fr _ _ (by simpa using vns) (x8 _ _ (e7 _ _ hvw6) (fun ps z => by cases z))
      have he9 : H9 e = some (.lst ((dealsF kd tl n (kk n b) tl.length).map V.int)) := fr _ _ (by simpa using ens) (x8 _ _ (e7 _ _ (e6 _ _ he5)) (fun ps z => by cases z))
      have hvv9 := dpAll_buts fr msn8 (noLs_map fun i _ => noL_vw n (kk n b) _) (dpAll_ext x8 (dpAll_same e7 hvv6))
      have hr9 := dp_buts fr msn8 (noL_row n (kk n b) _) (dp_ext x8 (dp_same e7 hr6))
      have hd9 := dp_buts fr msn8 (noL_db n _) (dp_ext x8 (dp_same e7 hdv6))
      generalize dealsF kd tl n (kk n b) tl.length = ds at he9 hvv9 hr9 hd9 hds hdl hv h5 rk hgl hb hl elen
      obtain ⟨g0, hg0⟩ : ∃ g0, (run (kk n b) ds).1 = [g0] := by
        match hh : (run (kk n b) ds).1, hgl with
        | [x], _ => exact ⟨x, rfl⟩
      have hgm : g0 ∈ (run (kk n b) ds).1 := by rw [hg0]; exact List.mem_cons_self
      have hgb := rk.g.bnd g0 hgm
      have ehd : (run (kk n b) ds).1.headD 0 = g0 := by rw [hg0]; rfl
      have hdb := rk.debt g0.toNat (by rw [show ((g0.toNat : Nat) : Int) = g0 by omega]; exact hgm)
      rw [hgl] at hdb
      have hdl12 : ds.length ≤ 1000 := by omega
      walk_at "hd"
      refine c_neD (d := .list (viewsD n (kk n b) ds)) (.lst (SqL.of h4) h5) (.lst (SqL.of hvw9) hvv9) (dep_views hn _ hdl12) (by decide) ?_
      walk_at "hd"
      refine ifF rfl ?_
      obtain ⟨da, xs2, rfl, hTd, hxl, hx⟩ := db_of hd9
      obtain ⟨x, hxi, hdx⟩ := hx g0.toNat (by omega)
      rw [hdb] at hdx
      walk_at "hd"
      refine c_ixT hTd (by rw [ehd, show g0 = ((g0.toNat : Nat) : Int) by omega]; exact atI_nat hxi) ?_
      walk_at "hd"
      refine ⟨rfl, fun t10 H10 e10 n10 ht10 => ?_⟩
      walk_at "hd"
      have hdt : Dp K H10 (.ref t10) (toldD n (kk n b) ds) := .tup (SqT.of ht10) (.cons (dp_same e10 hr9) (.cons (.lst (SqL.of (e10 _ _ he9)) (dpAll_ints ds)) (.cons (.int _) (.cons (dp_same e10 hdx) .nil))))
      refine ⟨v, .ref t10, _, rfl, dp_same e10 hv, hdt, dep_told hn _ hdl12, fun H11 e11 => ?_⟩
      walk_at "hd"
      refine ifF rfl ?_
      have e911 := e10.trans e11
      have hv11 := dp_same e911 hv
      obtain ⟨va, vs4, rfl, hva, hv4⟩ := dp_tup hv11
      obtain ⟨x0, r1, rfl, _, hv4⟩ := dpAll_cons hv4
      obtain ⟨x1, r2, rfl, _, hv4⟩ := dpAll_cons hv4
      obtain ⟨x2, r3, rfl, _, hv4⟩ := dpAll_cons hv4
      obtain ⟨x3, r4, rfl, hx3, hv4⟩ := dpAll_cons hv4
      cases dpAll_nil hv4
      walk_at "hd"
      refine ⟨n, b, rfl, hn1, hn, hb2, fun v12 H12 e12 hv12 => ?_⟩
      refine c_eqD (dp_same e12 hx3) hv12 (dep_fr _) (by decide) ?_
      walk_at "hd"
      refine ifT rfl ?_
      walk_at "hd"
      refine ⟨_, ds, n, b, rfl, dp_same e12 hv11, rok_fin rk hgl, hb, hn1, hn, hb1, hb2, fun H13 e13 => ?_⟩
      walk_at "hd"
      refine ⟨true, true, rfl, rfl, ?_⟩
      have e913 := (e911.trans e12).trans e13
      exact k H13 (hp9.same e913) (tabs_buts hT9 (Same.buts (S := []) e913) (muts_nil _))
end
end Hd
end
section
set_option Elab.async false
set_option linter.all false
set_option maxRecDepth 100000
set_option maxHeartbeats 4000000
namespace Hd
open PySem PySem.Spec PyProof.Rows L2
section
variable {prog : Program} {w : World} {A : Around} {E : Value → Shared → Prop} {s : Shared} {a : Int} {t u : Tok} {Q : Value → Shared → Prop}
theorem floordiv_zero (hA : A.handled = none) (hE : ∀ h' tk e, Heap.NewExc s.heap h' e "ZeroDivisionError" → E (.ref e) { s with heap := h', toks := tk }) : wpAny (model prog w) A (binaryOp .FloorDiv (.int a t) (.int 0 u)) Q E s := by
  refine wpAny_binaryOp_same (op := .FloorDiv) (T := "int") (typeIs_int s a t) (typeIs_int s 0 u) fills_int_floordiv slot_int_floordiv ?_
  refine wpAny_call_entry slot_int_floordiv (typeIs_int s a t) entry_int_floordiv ?_ (args_int_floordiv _ _)
  show wpAny _ _ (do
    if ((0 : Int) == 0) = true then rule "int.floordiv.zero"; raiseError "ZeroDivisionError" "integer division or modulo by zero"
    Builtin.roomForPylong a 0
    ret (← mkInt (a.fdiv 0))) _ _ s
  simp only [beq_self_eq_true, if_true]
  exact wpAny_bind (wpAny_rule (wpAny_bind (by exact_raiseError plainExc_ZeroDivisionError hA hE)))
end
/-- // that may raise -/
def rDivZ (E : XK) : R2 := fun x y H Q => ∃ i j : Int, x = .int i ∧ y = .int j ∧ ((j ≠ 0 ∧ j.natAbs < 1073741824 ∧ Q (.int (i.fdiv j)) H) ∨ (j = 0 ∧ ∀ d, E (.type "ZeroDivisionError") d H))
theorem op_fdivZ {X : Cx} {E : XK} (hc : X.calm = true) (tk : Takes X (fun cls d _ H => E cls d H)) : OpR X (binaryOp .FloorDiv) (rDivZ E) := by
  intro pins s σ H x y v u Q I rx ry h
  obtain ⟨i, j, rfl, rfl, h⟩ := h
  rcases h with ⟨h1, h2, q⟩ | ⟨rfl, q⟩
  · exact op_fdivN pins s σ H _ _ v u Q I rx ry ⟨i, j, rfl, rfl, ⟨h1, h2⟩, q⟩
  · obtain ⟨t, rfl⟩ := (show ∃ t, v = Value.int i t from rx)
    obtain ⟨t', rfl⟩ := (show ∃ t, u = Value.int 0 t from ry)
    exact floordiv_zero (I.ok.hd hc) fun h' tk' e hx => takes_new (t' := tk') tk I hx fun d => q d
end Hd
end
section
set_option Elab.async false
set_option linter.all false
set_option maxRecDepth 100000
set_option maxHeartbeats 400000
namespace Hd
open PySem PySem.Spec PyProof.Rows L2
local macro_rules | `(tactic| walk_at "hd1") => `(tactic| (first
  | with_reducible refine c_seq ?_ | with_reducible refine c_ret ?_ | with_reducible refine c_asg ?_ | with_reducible refine c_drop ?_ | with_reducible refine c_next ?_ | with_reducible refine c_ifS ?_ | with_reducible refine c_par ?_
  | with_reducible refine c_var rfl ?_ | with_reducible refine c_c ?_ | with_reducible refine c_op ?_ | with_reducible refine c_un ?_ | with_reducible refine c_U ?_ | with_reducible refine c_I0 ?_
  | with_reducible refine c_test ?_ | with_reducible refine c_B ?_ | with_reducible refine c_bl ?_ | with_reducible refine c_eq rfl ?_ | with_reducible refine c_ne rfl ?_ | with_reducible refine c_chain ?_
  | with_reducible refine c_and ?_ | with_reducible refine c_or ?_ | with_reducible refine c_not ?_ | with_reducible refine c_andV ?_ | with_reducible refine c_orV ?_ | with_reducible refine c_notV ?_ | with_reducible refine c_ifE ?_
  | with_reducible refine c_call ?_ | with_reducible refine c_cb ?_ | with_reducible refine c_cons ?_ | with_reducible refine c_nil ?_ | with_reducible refine c_tup ?_ | with_reducible refine c_lst ?_ | with_reducible refine c_two ?_ | with_reducible refine c_e1 ?_ | with_reducible refine c_e2 ?_ | with_reducible refine c_int1 ?_ | with_reducible refine c_int1b ?_
  | with_reducible refine c_ixT (by assumption) rfl ?_ | with_reducible refine c_ixL (by assumption) rfl ?_
  | with_reducible refine c_asgS ?_ | with_reducible refine c_sF ?_ | with_reducible refine c_tF ?_ | with_reducible refine c_tupS ?_ | with_reducible refine c_lstS ?_ | with_reducible refine c_then ?_ | with_reducible refine c_lc ?_ | with_reducible refine c_rng1 ?_ | with_reducible refine c_rng2 ?_ | with_reducible refine c_list ?_
  | with_reducible refine c_I (by assumption) ?_))
local macro_rules | `(tactic| walk_at "hd") => `(tactic| repeat (walk_at "hd1"))
local macro_rules | `(tactic| walk_at "in") => `(tactic| ((try dsimp only [cxOf]); walk_at "hd"))
section
variable {P : Program} {w : World} {K : PySem.W.Frag} {mg : Str → Option Value} {base : Heap}
theorem takes_lam {X : Cx} {A : Around} {outer : List Env} {s : Shared} {H : Hp} {E : XK} {scope : Scope} {f c' : Addr} {a : Str} : Takes (lamCxP X A outer s H E scope f c' a) (fun cls d _ H => E cls d H) := takes_of rfl rfl rfl rfl
abbrev nRai : List Str := ["_law_n", "_law_beats_here", "_law_at", "_law_found"]
def spRai (K : PySem.W.Frag) : Sp := fun vs H Q _ => ∃ (n b a : Nat), vs = [.int n, .int b, .int a] ∧ LamX.Tabs (tabL K) H ∧ 1 ≤ n ∧ n ≤ 12 ∧ 1 ≤ b ∧ b ≤ 400 ∧ a + 1 < kk n b ∧ ∀ H', LamX.ExtN H H' → LamX.Tabs (tabL K) H' → Q (.bl true) H'
theorem tab3 {K : PySem.W.Frag} : ((He.cT K ("_law_raised", none)).2, (("_law_raised" : Str) ++ ".<locals>.") ++ "<lambda>") ∈ tabL K := List.mem_cons_of_mem _ (List.mem_cons_of_mem _ List.mem_cons_self)
theorem mem3 : ("_law_raised" : Str) ∈ (["_law_foe_right", "_law_bad_way", "_law_raised"] : List Str) := List.mem_cons_of_mem _ (List.mem_cons_of_mem _ List.mem_cons_self)
theorem exm_zero {K : PySem.W.Frag} : PySem.W.exmOne K (.type "ZeroDivisionError") (.type "ZeroDivisionError") = some true := rfl
theorem ok_law_raised (L : LawT P K mg base) : Cal P w K mg base CX0 9 "_law_raised" ["_law_n", "_law_beats_here", "_law_at"] (spRai K) := by
  have T := L.tx
  refine mk_calL T.f__law_raised T.g__law_raised sc__law_raised (fun _ _ _ _ _ _ us hl => match us, hl with | [_, _, _], _ => rfl) (fun vs H Q E h => ?_) (fun A outer s H vs Q E hr h => ?_)
  · obtain ⟨n, b, a, rfl, _⟩ := h
    rfl
  · obtain ⟨n, b, a, rfl, hT, hn1, hn, hb1, hb2, ha, k⟩ := h
    refine ⟨_, pss_cons (ps_set (i := 3) sc__law_raised.nd rfl (.inl rfl) pe_bl)
      (pss_cons (ps_try_only (x := "ZeroDivisionError") (c := .type "ZeroDivisionError") (Wout := fun _ _ _ _ => False) rfl rfl (names_blt (by rfl) T.n_ZeroDivisionError bo_ZeroDivisionError) takes0 (tb := fun W => tDrop (tAg K (tabL K) (tVar 0) (tVar 1) (fun E => tOp (rDivZ E) (tC (.int 0)) (tOp (rI0 fun i j => .int (i - j)) (tVar 2) (tOp (rIxT K) (tVar 4) (tC (.int 2))))) (fun σ cls d H => W cls d σ H))) ?hb
          (fun a oe cls d pn _ _ => pss_one (ps_set (i := 3) sc__law_raised.nd rfl (.inl rfl) pe_bl)))
      (pss_one (ps_ret (pv 3)))), ?_⟩
    case hb =>
      intro W pn xe tk _
      exact pss_one (ps_expr (pe_ag (T := tabL K) (b := "_law_view") (E := fun σ cls d H => W cls d σ H) T L.bw (by rfl) hr (pv 0) (pv 1) (L.tb _ mem3) rfl tab3 L.hu3
            (lamP_by (show lamPB (defScope s__law_raised) _ _ = true by decide +kernel)) (show ("_law_view" : Str) ∉ nRai by decide +kernel) rfl (fun _ _ _ _ _ _ => rfl)
            (fun A outer s H E f c' hr' => pe_op (op_fdivZ (E := E) rfl takes_lam) pe_int (pe_op op_sub (pv 2) (pe_ix (ixT K) (pv 4) pe_int (fun _ _ => rfl)))) (fun σ => passAt tk σ)))
    walk_at "in"
    unfold tAg
    walk_at "hd"
    refine ⟨hT, fun H3 x3 hT3 => ?_⟩
    refine ⟨n, b, [], fun ds _ => ds.length ≤ a, fun _ => False, rfl, rfl, hn1, hn, hb1, hb2, ⟨fun _ _ _ _ h _ _ _ _ => h, fun _ _ _ => muts_nil _, muts_nil _, fun _ _ => trivial, ?_, fun _ _ _ z => z.elim⟩, Nat.zero_le _, ?_⟩
    · intro ds v HH QQ hl fr rk hgl hb hv hQ
      obtain ⟨va, vvs, rfl, hva, hvv⟩ := dp_tup hv
      obtain ⟨x1, r1, rfl, _, hvv⟩ := dpAll_cons hvv
      obtain ⟨x2, r2, rfl, _, hvv⟩ := dpAll_cons hvv
      obtain ⟨x3', r3, rfl, hx3, hvv⟩ := dpAll_cons hvv
      cases dpAll_nil hvv
      cases dp_int hx3
      walk_at "hd"
      refine ⟨0, _, rfl, rfl, ?_⟩
      have hrk := rk.len
      by_cases he : ds.length = a
      · refine .inr ⟨by omega, fun d => ⟨true, exm_zero, fun _ q hq => ?_, fun z => nomatch z⟩⟩
        walk_at "hd"
        exact k HH (x3.trans (LamX.ExtN.of fun b o h => fr b o (fun z => nomatch z) h)) (tabs_buts hT3 fr (muts_nil _))
      · have hkn : kk n b ≤ 12 := by unfold kk; omega
        refine .inl ⟨by omega, by omega, ?_⟩
        rw [Int.zero_fdiv]
        exact hQ _ _ (ButS.refl _ _) (.inl ⟨0, hn1, rfl, by rw [List.length_append, List.length_singleton]; omega⟩)
    · intro ds v H9 rk hgl hb hl fr hv
      have := rk.len
      omega
end
end Hd
end
section
set_option Elab.async false
set_option linter.all false
set_option maxRecDepth 100000
set_option maxHeartbeats 4000000
namespace PySem.SeqAt
open MeetsSeq
open AutoSeq1 (wpAny_loadPart')
theorem hd_int_eq_dict (b : Int) (u : Tok) (l : Addr) (es : Array DictEntry) (n : Nat) (dd : Option Addr) (sl : Array (Option Value)) :
    Meets (Builtin.«int.__eq__» ⟨[.int b u, .ref l], []⟩) (fun _ R s => s.heap.get? l = some { cls := .type "dict", dict := dd, data := .dict es n, slots := sl } ∧ R (.ok (.ret .notImplemented)) s) :=
  .of_wp fun prog w A R s h => by obtain ⟨hp, g, d, tk, os⟩ := s; obtain ⟨hl, h⟩ := h; wp_walk using wpAny_loadPart' hl, wpAny_load hl; exact ⟨_, rfl, h⟩
theorem hd_dict_eq_int (b : Int) (u : Tok) (l : Addr) (es : Array DictEntry) (n : Nat) (dd : Option Addr) (sl : Array (Option Value)) :
    Meets (Builtin.«dict.__eq__» ⟨[.ref l, .int b u], []⟩) (fun _ R s => s.heap.get? l = some { cls := .type "dict", dict := dd, data := .dict es n, slots := sl } ∧ R (.ok (.ret .notImplemented)) s) :=
  .of_wp fun prog w A R s h => by obtain ⟨hp, g, d, tk, os⟩ := s; obtain ⟨hl, h⟩ := h; have f1 := F.sub_int_dict; wp_walk using wpAny_loadPart' hl; exact ⟨_, rfl, h⟩
variable {A : Around} {s : Shared}
theorem hd_rc_int_dict {l : Addr} {es : Array DictEntry} {n : Nat} {dd : Option Addr} {sl : Array (Option Value)} (b : Int) (u : Tok) (ho : s.heap.get? l = some { cls := .type "dict", dict := dd, data := .dict es n, slots := sl }) (hu : A.units < cLine) : RcAt A s (.int b u) (.ref l) false := fun prog w E Q h =>
  rc_eq_decline_or (k := false) (typeIs_int s b u) ⟨_, ho, rfl⟩ (by decide) F.sub_dict_int F.slot_int_eq F.slot_dict_eq_refl
    (fun _ hq => call_meets F.slot_int_eq (typeIs_int s b u) F.entry_int_eq (F.args_int_eq_2 _ _) (hd_int_eq_dict b u l es n dd sl) ⟨ho, hq⟩)
    (fun _ hq => call_meets F.slot_dict_eq_refl ⟨_, ho, rfl⟩ F.entry_dict_eq (F.args_dict_eq_2 _ _) (hd_dict_eq_int b u l es n dd sl) ⟨ho, hq⟩)
    (fun _ hq => wpAny_of_eq (rfl : isSame (.int b u) (.ref l) = pure false) hq) (.inr hu) h
theorem hd_int_dict {l : Addr} {es : Array DictEntry} {n : Nat} {dd : Option Addr} {sl : Array (Option Value)} (b : Int) (u : Tok) (ho : s.heap.get? l = some { cls := .type "dict", dict := dd, data := .dict es n, slots := sl }) (hu : A.units < cLine) : EqAt A s (.int b u) (.ref l) false := fun prog w E Q h => by
  unfold eqBool
  refine wpAny_holding ?_
  refine wpAny_ite_split (fun hab => absurd (eq_of_beq hab) nofun) (fun _ => ?_)
  exact wpAny_bind (hd_rc_int_dict b u ho hu prog w E _ (wpAny_truthy_bool h))
end PySem.SeqAt
end
section
set_option Elab.async false
set_option linter.all false
set_option maxRecDepth 100000
set_option maxHeartbeats 4000000
namespace Hd
open PySem PySem.Spec PyProof.Rows L2
local macro_rules | `(tactic| walk_at "hd1") => `(tactic| (first
  | with_reducible refine c_seq ?_ | with_reducible refine c_ret ?_ | with_reducible refine c_asg ?_ | with_reducible refine c_drop ?_ | with_reducible refine c_next ?_ | with_reducible refine c_ifS ?_ | with_reducible refine c_par ?_
  | with_reducible refine c_var rfl ?_ | with_reducible refine c_c ?_ | with_reducible refine c_op ?_ | with_reducible refine c_un ?_ | with_reducible refine c_U ?_ | with_reducible refine c_I0 ?_
  | with_reducible refine c_test ?_ | with_reducible refine c_B ?_ | with_reducible refine c_bl ?_ | with_reducible refine c_eq rfl ?_ | with_reducible refine c_ne rfl ?_ | with_reducible refine c_chain ?_
  | with_reducible refine c_and ?_ | with_reducible refine c_or ?_ | with_reducible refine c_not ?_ | with_reducible refine c_andV ?_ | with_reducible refine c_orV ?_ | with_reducible refine c_notV ?_ | with_reducible refine c_ifE ?_
  | with_reducible refine c_call ?_ | with_reducible refine c_cb ?_ | with_reducible refine c_cons ?_ | with_reducible refine c_nil ?_ | with_reducible refine c_tup ?_ | with_reducible refine c_lst ?_ | with_reducible refine c_two ?_ | with_reducible refine c_e1 ?_ | with_reducible refine c_e2 ?_ | with_reducible refine c_int1 ?_ | with_reducible refine c_int1b ?_
  | with_reducible refine c_ixT (by assumption) rfl ?_ | with_reducible refine c_ixL (by assumption) rfl ?_
  | with_reducible refine c_asgS ?_ | with_reducible refine c_sF ?_ | with_reducible refine c_tF ?_ | with_reducible refine c_tupS ?_ | with_reducible refine c_lstS ?_ | with_reducible refine c_then ?_ | with_reducible refine c_lc ?_ | with_reducible refine c_rng1 ?_ | with_reducible refine c_rng2 ?_ | with_reducible refine c_list ?_
  | with_reducible refine c_I (by assumption) ?_))
local macro_rules | `(tactic| walk_at "hd") => `(tactic| repeat (walk_at "hd1"))
local macro_rules | `(tactic| walk_at "in") => `(tactic| ((try dsimp only [cxOf]); walk_at "hd"))
/-- what stands in a bad table: an int (some), or a thing of another kind -/
inductive Odd (K : PySem.W.Frag) (S : List Addr) (H : Hp) : V → Option Int → Prop
  | int (i : Int) : Odd K S H (.int i) (some i)
  | bl (b : Bool) : Odd K S H (.bl b) none
  | non : Odd K S H .non none
  | str (x : Str) : Odd K S H (.str x) none
  | tup {a : Addr} {xs : List V} (h : SqT K H a xs) : Odd K S H (.ref a) none
  | lst {a : Addr} {xs : List V} (h : H a = some (.lst xs)) (n : a ∉ S) : Odd K S H (.ref a) none
  | dct {a : Addr} {kvs : List (Key × V)} (h : H a = some (.dK kvs)) : Odd K S H (.ref a) none
theorem Odd.buts {K : PySem.W.Frag} {S S' : List Addr} {H H' : Hp} {v : V} {o : Option Int} (h : Odd K S H v o) (e : ButS S' H H') (m : Muts S' H) (sub : ∀ a ∈ S', a ∈ S) : Odd K S H' v o := by
  cases h with
  | int i => exact .int i
  | bl b => exact .bl b
  | non => exact .non
  | str x => exact .str x
  | tup h => exact .tup (e.tup m h)
  | lst h n => exact .lst (e _ _ (fun z => n (sub _ z)) h) n
  | dct h => exact .dct (e _ _ (m.not h rfl) h)
theorem Odd.ext {K : PySem.W.Frag} {S : List Addr} {H H' : Hp} {v : V} {o : Option Int} (h : Odd K S H v o) (e : LamX.ExtN H H') : Odd K S H' v o := by
  cases h with
  | int i => exact .int i
  | bl b => exact .bl b
  | non => exact .non
  | str x => exact .str x
  | tup h => exact .tup (tup_ext e h)
  | lst h n => exact .lst (e _ _ h (fun ps z => by cases z)) n
  | dct h => exact .dct (e _ _ h (fun ps z => by cases z))
theorem Odd.ofBl {K : PySem.W.Frag} {S : List Addr} {H : Hp} {b : Bool} {o : Option Int} (h : Odd K S H (.bl b) o) : o = none := by
  cases h
  rfl
theorem Odd.ofInt {K : PySem.W.Frag} {S : List Addr} {H : Hp} {v : V} {i : Int} (h : Odd K S H v (some i)) : v = .int i := by
  cases h
  rfl
theorem Odd.knd {K : PySem.W.Frag} {S : List Addr} {H : Hp} {v : V} {o : Option Int} (h : Odd K S H v o) : Knd K H v o := by
  cases h with
  | int i => exact rfl
  | bl b => exact ⟨"bool", by decide, by decide, .base (.bl b)⟩
  | non => exact ⟨"NoneType", by decide, by decide, .base .non⟩
  | str x => exact ⟨"str", by decide, by decide, .base (.str x)⟩
  | tup h => exact ⟨"tuple", by decide, by decide, tyx_tup h⟩
  | lst h n => exact ⟨"list", by decide, by decide, tyx_lst (SqL.of h)⟩
  | dct h => exact ⟨"dict", by decide, by decide, .base (.dK h)⟩
/-- its type; is it a bool -/
theorem Odd.ty {K : PySem.W.Frag} {S : List Addr} {H : Hp} {v : V} {o : Option Int} (h : Odd K S H v o) : ∃ t, t ∈ tyL ∧ TyX K H v (.type t) ∧ ((∃ b, v = .bl b ∧ (t == "bool") = true) ∨ ((∀ b, v ≠ .bl b) ∧ (t == "bool") = false)) := by
  cases h with
  | int i => exact ⟨"int", by decide, .base (.int i), .inr ⟨fun b z => (by cases z), by decide⟩⟩
  | bl b => exact ⟨"bool", by decide, .base (.bl b), .inl ⟨b, rfl, by decide⟩⟩
  | non => exact ⟨"NoneType", by decide, .base .non, .inr ⟨fun b z => (by cases z), by decide⟩⟩
  | str x => exact ⟨"str", by decide, .base (.str x), .inr ⟨fun b z => (by cases z), by decide⟩⟩
  | tup h => exact ⟨"tuple", by decide, tyx_tup h, .inr ⟨fun b z => (by cases z), by decide⟩⟩
  | lst h n => exact ⟨"list", by decide, tyx_lst (SqL.of h), .inr ⟨fun b z => (by cases z), by decide⟩⟩
  | dct h => exact ⟨"dict", by decide, .base (.dK h), .inr ⟨fun b z => (by cases z), by decide⟩⟩
def rNotOdd (K : PySem.W.Frag) : R2 := fun x y H Q => ∃ (S : List Addr) (o : Option Int) (l : Addr) (ns : List Int), Odd K S H x o ∧ (∀ b, x ≠ .bl b) ∧ y = .ref l ∧ SqL K H l (ns.map V.int) ∧ Q (.bl (match o with | some i => !decide (i ∈ ns) | none => true)) H
theorem op_notOdd {X : Cx} (K : PySem.W.Frag) (hu : X.A.units + 64 < cLine) (hK : X.K = K := by rfl) : OpR X (compareOp .NotIn) (rNotOdd K) := by
  subst hK
  intro pins s σ H x y v u Q I rx ry h
  obtain ⟨S, o, l, ns, ho, hnb, rfl, hl, q⟩ := h
  cases ry
  obtain ⟨its, r, hil, hz⟩ := I.list hl
  have hu1 : X.A.in1.units < cLine := by show X.A.units + 1 < cLine; omega
  have it : ∀ z ∈ its, ∃ n t, n ∈ ns ∧ z = Value.int n t := fun z hz => by
    obtain ⟨i, hi⟩ := List.getElem?_of_mem hz
    have hlen := r.length
    have hi2 : i < its.length := (List.getElem?_eq_some_iff.mp hi).1
    have hi3 : i < ns.length := by rw [List.length_map] at hlen; omega
    obtain ⟨w, hw, rw'⟩ := r.get (i := i) (x := V.int ns[i]) (by rw [List.getElem?_map, List.getElem?_eq_getElem hi3]; rfl)
    rw [hi] at hw
    cases hw
    obtain ⟨t, rfl⟩ := (show ∃ t, z = Value.int ns[i] t from rw')
    exact ⟨_, t, List.getElem_mem hi3, rfl⟩
  have back : ∀ n ∈ ns, ∃ t, Value.int n t ∈ its := fun n hn => by
    obtain ⟨i, hi⟩ := List.getElem?_of_mem hn
    obtain ⟨w, hw, rw'⟩ := r.get (i := i) (x := V.int n) (by rw [List.getElem?_map, hi]; rfl)
    obtain ⟨t, rfl⟩ := (show ∃ t, w = Value.int n t from rw')
    exact ⟨t, List.mem_of_getElem? hw⟩
  have fin : ∀ (e : Value → Bool) (b : Bool), (∀ z, z ∈ its.toArray → SeqAt.EqAt X.A.in1 s z v (e z)) → (its.toArray.any e = b) → Q (.bl (!b)) H → wpAny (model X.prog X.w) X.A (compareOp .NotIn v (.ref l)) (EP X pins σ Q) X.xe s := fun e b he hb q => by
    refine SeqAt.notIn_listAt e hil.isList he ?_
    rw [hb]
    exact ⟨.bl (!b), H, I, rfl, q⟩
  have noAny : ∀ e : Value → Bool, (∀ z ∈ its, e z = false) → its.toArray.any e = false := fun e h => by
    rw [Array.any_eq_false]
    intro i hi
    have := h its[i] (by exact List.getElem_mem (by simpa using hi))
    simpa using this
  have none_case : o = none → (∀ n t, SeqAt.EqAt X.A.in1 s (.int n t) v false) → wpAny (model X.prog X.w) X.A (compareOp .NotIn v (.ref l)) (EP X pins σ Q) X.xe s := fun eo he => by
    subst eo
    refine fin (fun _ => false) false (fun z hz => ?_) (noAny _ fun _ _ => rfl) q
    obtain ⟨n, t, _, rfl⟩ := it z (by simpa using hz)
    exact he n t
  cases ho with
  | int i =>
    obtain ⟨t, rfl⟩ := (show ∃ t, v = Value.int i t from rx)
    refine fin (fun z => match z with | .int n _ => n == i | _ => false) (decide (i ∈ ns)) (fun z hz => ?_) ?_ q
    · obtain ⟨n, t', _, rfl⟩ := it z (by simpa using hz)
      exact SeqAt.EqAt.int_int n t' i t
    · rw [Bool.eq_iff_iff, Array.any_eq_true, decide_eq_true_iff]
      constructor
      · rintro ⟨j, hj, hz⟩
        obtain ⟨n, t', hn, e⟩ := it (its[j]'(by simpa using hj)) (List.getElem_mem _)
        have e2 : its.toArray[j] = Value.int n t' := by simpa using e
        rw [e2] at hz
        have : n = i := by simpa using hz
        rw [← this]
        exact hn
      · intro hi
        obtain ⟨t', hm⟩ := back i hi
        obtain ⟨j, hj, e⟩ := List.getElem_of_mem hm
        refine ⟨j, by simpa using hj, ?_⟩
        have e2 : its.toArray[j]'(by simpa using hj) = Value.int i t' := by simpa using e
        rw [e2]
        simp
  | bl b => exact absurd rfl (hnb b)
  | non =>
    cases (show v = Value.none from rx)
    exact none_case rfl fun n t => SeqAt.EqAt.int_none n t
  | str z =>
    obtain ⟨t', rfl⟩ := (show ∃ t, v = Value.str z t from rx)
    exact none_case rfl fun n t => SeqAt.EqAt.int_str n t z t'
  | @tup a xs h =>
    cases (show v = Value.ref a from rx)
    obtain ⟨its2, r2, hT, hs2⟩ := I.tuple h
    exact none_case rfl fun n t => SeqAt.EqAt.int_tuple n t hT hu1
  | @lst a xs h hn =>
    cases (show v = Value.ref a from rx)
    obtain ⟨its2, r2, hT, hz2⟩ := I.list (SqL.of h)
    exact none_case rfl fun n t => SeqAt.EqAt.int_list n t hT.isList hu1
  | @dct a kvs h =>
    cases (show v = Value.ref a from rx)
    obtain ⟨_, _, vs, _, ob, es, ep, e1, ⟨e2, e3, e4⟩, e5, _⟩ := I.hok a _ h
    obtain ⟨oc, od, dt, sl⟩ := ob
    dsimp only at e2 e3 e4 e5
    subst e2 e3 e4 e5
    exact none_case rfl fun n t => SeqAt.hd_int_dict n t e1 hu1
end Hd
end
section
set_option Elab.async false
set_option linter.all false
set_option maxRecDepth 100000
set_option maxHeartbeats 1000000
namespace Hd
open PySem PySem.Spec PyProof.Rows L2
local macro_rules | `(tactic| walk_at "hd1") => `(tactic| (first
  | with_reducible refine c_seq ?_ | with_reducible refine c_ret ?_ | with_reducible refine c_asg ?_ | with_reducible refine c_drop ?_ | with_reducible refine c_next ?_ | with_reducible refine c_ifS ?_ | with_reducible refine c_par ?_
  | with_reducible refine c_var rfl ?_ | with_reducible refine c_c ?_ | with_reducible refine c_op ?_ | with_reducible refine c_un ?_ | with_reducible refine c_U ?_ | with_reducible refine c_I0 ?_
  | with_reducible refine c_test ?_ | with_reducible refine c_B ?_ | with_reducible refine c_bl ?_ | with_reducible refine c_eq rfl ?_ | with_reducible refine c_ne rfl ?_ | with_reducible refine c_chain ?_
  | with_reducible refine c_and ?_ | with_reducible refine c_or ?_ | with_reducible refine c_not ?_ | with_reducible refine c_andV ?_ | with_reducible refine c_orV ?_ | with_reducible refine c_notV ?_ | with_reducible refine c_ifE ?_
  | with_reducible refine c_call ?_ | with_reducible refine c_cb ?_ | with_reducible refine c_cons ?_ | with_reducible refine c_nil ?_ | with_reducible refine c_tup ?_ | with_reducible refine c_lst ?_ | with_reducible refine c_two ?_ | with_reducible refine c_e1 ?_ | with_reducible refine c_e2 ?_ | with_reducible refine c_int1 ?_ | with_reducible refine c_int1b ?_
  | with_reducible refine c_ixT (by assumption) rfl ?_ | with_reducible refine c_ixL (by assumption) rfl ?_
  | with_reducible refine c_asgS ?_ | with_reducible refine c_sF ?_ | with_reducible refine c_tF ?_ | with_reducible refine c_tupS ?_ | with_reducible refine c_lstS ?_ | with_reducible refine c_then ?_ | with_reducible refine c_lc ?_ | with_reducible refine c_rng1 ?_ | with_reducible refine c_rng2 ?_ | with_reducible refine c_list ?_
  | with_reducible refine c_I (by assumption) ?_))
local macro_rules | `(tactic| walk_at "hd") => `(tactic| repeat (walk_at "hd1"))
local macro_rules | `(tactic| walk_at "in") => `(tactic| ((try dsimp only [cxOf]); walk_at "hd"))
section
variable {P : Program} {w : World} {K : PySem.W.Frag} {mg : Str → Option Value} {base : Heap}
abbrev nBad : List Str := ["_law_hand_here", "_law_n", "_law_beats_here", "_law_many", "_law_table", "_law_beat", "_law_at", "_law_place", "_law_turn", "_law_odd", "_law_wrong", "_law_found", "e"]
theorem tab2 {K : PySem.W.Frag} : ((He.cT K ("_law_bad_way", none)).2, (("_law_bad_way" : Str) ++ ".<locals>.") ++ "<lambda>") ∈ tabL K := List.mem_cons_of_mem _ List.mem_cons_self
theorem mem2 : ("_law_bad_way" : Str) ∈ (["_law_foe_right", "_law_bad_way", "_law_raised"] : List Str) := List.mem_cons_of_mem _ List.mem_cons_self
def spBad (K : PySem.W.Frag) : Sp := fun vs H Q _ => ∃ (p c : Addr) (n b : Nat), vs = [.ref p, .int n, .int b] ∧ HandAt K p c H ∧ LamX.Tabs (tabL K) H ∧ 1 ≤ n ∧ n ≤ 12 ∧ 1 ≤ b ∧ b ≤ 400 ∧ 2 ≤ kk n b ∧ ∀ H', HandAt K p c H' → LamX.Tabs (tabL K) H' → Q (.bl true) H'
def badL (o : Nat → Option Int) (n m : Nat) : List Nat := (List.range m).filter fun i => !inR 0 ((n : Int) - 1) (o i)
theorem badL_snoc (o : Nat → Option Int) (n m : Nat) : badL o n (m + 1) = badL o n m ++ (if inR 0 ((n : Int) - 1) (o m) = false then [m] else []) := by
  unfold badL
  rw [List.range_succ, List.filter_append]
  congr 1
  cases h : inR 0 ((n : Int) - 1) (o m) <;> simp [h]
theorem badL_len (o : Nat → Option Int) (n m : Nat) : (badL o n m).length ≤ m := by
  have := List.length_filter_le (fun i => !inR 0 ((n : Int) - 1) (o i)) (List.range m)
  rw [List.length_range] at this
  exact this
theorem badL_first {o : Nat → Option Int} {n l : Nat} : ∀ {m : Nat}, (∀ i, i < l → inR 0 ((n : Int) - 1) (o i) = true) → inR 0 ((n : Int) - 1) (o l) = false → l < m → (badL o n m)[0]? = some l
  | 0, _, _, h => absurd h (Nat.not_lt_zero _)
  | m + 1, h1, h2, h => by
    rw [badL_snoc]
    by_cases hl : l < m
    · have := badL_first (m := m) h1 h2 hl
      rw [List.getElem?_append_left (by
        cases hb : badL o n m with
        | nil => rw [hb] at this; cases this
        | cons a r => simp)]
      exact this
    · have e : l = m := by omega
      subst e
      have hz : badL o n l = [] := by
        unfold badL
        rw [List.filter_eq_nil_iff]
        intro a ha
        have := h1 a (List.mem_range.mp ha)
        simp [this]
      rw [hz, if_pos h2]
      rfl
theorem inR_above {n i : Int} (h : ¬ i ≤ n - 1) : inR 0 (n - 1) (some i) = false := by
  show (decide (0 ≤ i) && decide (i ≤ n - 1)) = false
  rw [decide_eq_false h, Bool.and_false]
theorem notIn_range {n : Nat} (o : Option Int) : (match o with | some i => !decide (i ∈ grp0 n) | none => true) = !inR 0 ((n : Int) - 1) o := by
  cases o with
  | none => rfl
  | some i =>
    show (!decide (i ∈ grp0 n)) = !(decide (0 ≤ i) && decide (i ≤ (n : Int) - 1))
    congr 1
    rw [Bool.eq_iff_iff]
    simp only [decide_eq_true_iff, Bool.and_eq_true]
    unfold grp0
    constructor
    · intro h
      obtain ⟨j, hj, rfl⟩ := List.mem_map.mp h
      have := List.mem_range.mp hj
      omega
    · rintro ⟨h1, h2⟩
      exact List.mem_map.mpr ⟨i.toNat, List.mem_range.mpr (by omega), by omega⟩
theorem ok_law_bad_way (L : LawT P K mg base) : Cal P w K mg base CX0 9 "_law_bad_way" ["_law_hand_here", "_law_n", "_law_beats_here"] (spBad K) := by
  have T := L.tx
  have c1 := ok_law_draw (P := P) (w := w) (base := base) T
  have c2 := ok_law_some (P := P) (w := w) (base := base) T
  have c3 := ok_law_deep (P := P) (w := w) (base := base) T
  have c6 := ok_law_is (P := P) (w := w) (base := base) T 1
  refine mk_calL T.f__law_bad_way T.g__law_bad_way sc__law_bad_way (fun _ _ _ _ _ _ us hl => match us, hl with | [_, _, _], _ => rfl) (fun vs H Q E h => ?_) (fun A outer s H vs Q E hr h => ?_)
  · obtain ⟨p, c, n, b, rfl, _⟩ := h
    rfl
  · obtain ⟨p, c, n, b, rfl, hp, hT, hn1, hn, hb1, hb2, hk2, k⟩ := h
    refine ⟨_, pss_cons (ps_set (i := 3) sc__law_bad_way.nd rfl (.inr rfl) (pe_op op_sub (pe_callB (call_min2 rfl) (by rfl) T.n_min bo_min (pa_cons (pv 1) (pa_cons (pe_op op_add (pv 2) pe_int) pa_nil))) pe_int))
      (pss_cons (ps_set (i := 4) sc__law_bad_way.nd rfl (.inr rfl) (pe_lc (own := [("_law_beat", 5)]) (g := gName 5) (tt := tYes) rfl sc__law_bad_way.nd (pi_range1 rfl T.n_range (pa_cons (pv 3) pa_nil))
          (blkOk_by (N := nBad) (sc := defScope s__law_bad_way) (by decide +kernel)) (fun _ _ _ _ _ => pg_name (i := 5) sc__law_bad_way.nd rfl (.inl rfl)) (fun _ _ _ _ _ => pts_nil) (fun _ _ _ _ _ => pe_cal c1 (hr.mono (by decide)) (by rfl) (pa_cons (pv 0) (pa_cons (pv 1) pa_nil)))))
      (pss_cons (ps_set (i := 6) sc__law_bad_way.nd rfl (.inl rfl) (pe_cal c1 (hr.mono (by decide)) (by rfl) (pa_cons (pv 0) (pa_cons (pv 3) pa_nil))))
      (pss_cons (ps_for (passes_of rfl) rfl (pi_list (pe_op op_cat (pe_lstS (pa_cons (pv 6) pa_nil)) (pe_lc (own := [("_law_turn", 8)]) (g := gName 8) (tt := tYes) rfl sc__law_bad_way.nd (pi_range1 rfl T.n_range (pa_cons (pe_cal c1 (hr.mono (by decide)) (by rfl) (pa_cons (pv 0) (pa_cons pe_int pa_nil))) pa_nil))
            (blkOk_by (N := nBad) (sc := defScope s__law_bad_way) (by decide +kernel)) (fun _ _ _ _ _ => pg_name (i := 8) sc__law_bad_way.nd rfl (.inl rfl)) (fun _ _ _ _ _ => pts_nil) (fun _ _ _ _ _ => pe_cal c1 (hr.mono (by decide)) (by rfl) (pa_cons (pv 0) (pa_cons (pv 3) pa_nil))))))
          (pg_name (i := 7) sc__law_bad_way.nd rfl (.inl rfl))
          (pss_cons (ps_set (i := 9) sc__law_bad_way.nd rfl (.inl rfl) (pe_lstS (pa_cons (pv 1) (pa_cons (pe_un un_neg pe_int) (pa_cons pe_bl (pa_cons pe_bl (pa_cons pe_non (pa_cons pe_str (pa_cons (pe_tupS (pa_cons pe_int pa_nil)) (pa_cons (pe_lstS (pa_cons pe_int pa_nil)) (pa_cons pe_dnewK (pa_cons (pe_op op_pow pe_int pe_int)
              (pa_cons (pe_cal c3 (hr.mono (by decide)) (by rfl) (pa_cons pe_int pa_nil)) (pa_cons (pe_cal c3 (hr.mono (by decide)) (by rfl) (pa_cons pe_int pa_nil)) pa_nil))))))))))))))
          (pss_one (ps_asg (pe_cal c2 (hr.mono (by decide)) (by rfl) (pa_cons (pv 0) (pa_cons (pv 9) pa_nil))) (pg_sub (pv 4) (pv 7) set_list)))))
      (pss_cons (ps_setLc (i := 10) (own := [("_law_beat", 5)]) (g := gName 5) rfl sc__law_bad_way.nd rfl (by rfl) (by rfl) (pi_range1 rfl T.n_range (pa_cons (pv 3) pa_nil)) (blkOk_by (N := nBad) (sc := defScope s__law_bad_way) (by decide +kernel))
          (fun _ _ _ _ _ => pg_name (i := 5) sc__law_bad_way.nd rfl (.inl rfl))
          (fun _ _ _ _ _ => pts_one (PW.pt (pw_or (pt_val (pe_callB (clIsi K) (by rfl) T.n_isinstance bo_isinstance (pa_cons (pe_ix (ixL K) (pv 4) (pv 5) (fun _ _ => rfl)) (pa_cons (pe_bltn (v := .ty "bool") (by rfl) T.n_bool bo_bool rfl) pa_nil))))
            (pw_or1 (pt_cmpR (op_notOdd K hr.units) (pe_ix (ixL K) (pv 4) (pv 5) (fun _ _ => rfl)) (pe_listRg rfl (by rfl) T.n_list (prg_1 (by rfl) T.n_range (pv 1))) (by rfl)))))) (fun _ _ _ _ _ => pv 5))
      (pss_cons (ps_set (i := 11) sc__law_bad_way.nd rfl (.inl rfl) pe_non)
      (pss_cons (ps_try_as (i := 12) (x := "BadWay") (c := .ref (CB K)) (Wout := fun _ _ _ _ => False) rfl rfl sc__law_bad_way.nd rfl (show (defScope s__law_bad_way).names.lookup ("e" : Str) = some .local by decide +kernel) ⟨by rfl, by decide, .inl T.g_BadWay⟩ takes0
          (tb := fun W => tDrop (tAg K (tabL K) (tVar 1) (tVar 2) (fun E => tOp (rIxL K) (tVar 4) (tOp (rIxT K) (tVar 13) (tC (.int 2)))) (fun σ cls d H => W cls d σ H))) ?hb
          (fun a oe cls d pn hz hf => pss_one (ps_set (i := 11) sc__law_bad_way.nd rfl (.inl rfl) (pe_ifExp (PW.pt (pw_and (pt_val (pe_callB (call_isED L.bx.ex hz hf) (by rfl) T.n_isinstance bo_isinstance (pa_cons (pv 12) (pa_cons (pe_glob (v := .ref (He.ga K "DuesError")) (by rfl) T.g_DuesError rfl) pa_nil))))
              (pw_and1 (pt_val (pe_callB (call_isED L.bx.ex hz hf) (by rfl) T.n_isinstance bo_isinstance (pa_cons (pv 12) (pa_cons (pe_bltn (v := .ty "ValueError") (by rfl) T.n_ValueError bo_ValueError rfl) pa_nil)))))))
            (pe_xf L.bx.xf L.bw.fld hz hf (pv 12)) pe_non))))
      (pss_one (ps_ret (pe_cal c6 (hr.mono (by decide)) (by rfl) (pa_cons (pe_lstS (pa_cons (pv 11) pa_nil)) (pa_cons (pe_lstS (pa_cons (pe_ix (ixL K) (pv 10) pe_int (fun _ _ => rfl)) pa_nil)) pa_nil))))))))))), ?_⟩
    case hb =>
      intro W pn xe tk _
      exact pss_one (ps_expr (pe_ag (T := tabL K) (b := "_law_view") (E := fun σ cls d H => W cls d σ H) T L.bw (by rfl) hr (pv 1) (pv 2) (L.tb _ mem2) rfl tab2 L.hu2
            (lamP_by (show lamPB (defScope s__law_bad_way) _ _ = true by decide +kernel)) (show ("_law_view" : Str) ∉ nBad by decide +kernel) rfl (fun _ _ _ _ _ _ => rfl)
            (fun A outer s H E f c' hr' => pe_ix (ixL K) (pv 4) (pe_ix (ixT K) (pv 13) pe_int (fun _ _ => rfl)) (fun _ _ => rfl)) (fun σ => passAt tk σ)))
    have hkn : kk n b ≤ n := by unfold kk; omega
    obtain ⟨m, hm⟩ : ∃ m, kk n b = m + 1 := ⟨kk n b - 1, by omega⟩
    walk_at "in"
    rw [kk_int]
    have em : ((kk n b : Nat) : Int) - 1 = ((m : Nat) : Int) := by omega
    rw [em]
    walk_at "hd"
    refine ⟨by omega, by omega, fun tb hD => ?_⟩
    rw [Int.toNat_natCast]
    refine lc_draws (n := n) hD hp (by omega) (fun x H3 QQ h3 b3 hq => ?_) (fun H3 tl b3 hp3 hy3 htl hbd => ?_)
    · refine ⟨rfl, ?_⟩
      walk_at "hd"
      exact ⟨p, c, n, rfl, h3, hn1, by omega, hq⟩
    obtain ⟨tbp, tbc⟩ := hp.pos hD
    have hT3 := tabs_buts hT b3.buts hp.mut
    walk_at "hd"
    refine ⟨p, c, m, rfl, hp3, by omega, by omega, fun at0 H4 hat b4 hp4 => ?_⟩
    have hT4 := tabs_buts hT3 b4.buts hp3.mut
    have htb4 := b4 _ _ tbp hy3
    walk_at "hd"
    unfold tFor
    walk_at "hd"
    refine ⟨rfl, fun la H5 e5 n5 hla => ?_⟩
    walk_at "hd"
    have hp5 := hp4.same e5
    have hT5 := tabs_buts hT4 (Same.buts (S := []) e5) (muts_nil _)
    refine ⟨p, c, 2, rfl, hp5, by decide, by decide, fun rp H6 hrp b6 hp6 => ?_⟩
    have hT6 := tabs_buts hT5 b6.buts hp5.mut
    walk_at "hd"
    refine ⟨by omega, by omega, fun lb hlb => ?_⟩
    rw [Int.toNat_natCast]
    refine lc_draws (n := m) hlb hp6 (by omega) (fun x H7 QQ h7 b7 hq => ?_) (fun H7 pl b7 hp7 hy7 hpl hpb => ?_)
    · refine ⟨rfl, ?_⟩
      walk_at "hd"
      exact ⟨p, c, m, rfl, h7, by omega, by omega, hq⟩
    have hT7 := tabs_buts hT6 b7.buts hp6.mut
    have lap : la ≠ p := (hp4.pos n5).1
    have hla7 := b7 _ _ lap (b6 _ _ lap hla)
    have htb7 := b7 _ _ tbp (b6 _ _ tbp (e5 _ _ htb4))
    refine ⟨la, lb, _, _, rfl, rfl, hla7, hy7, Nat.le_trans (show _ ≤ 1000 by simp; omega) (by decide), fun lc hlc => ?_⟩
    obtain ⟨lcp, lcc⟩ := hp7.pos hlc
    have lctb : lc ≠ tb := Ne.symm (ne_of_none htb7 hlc)
    have e8 := Same.new (o := .lst ([V.int at0] ++ pl.map V.int)) hlc
    have hlc8 : upd H7 lc (.lst ([V.int at0] ++ pl.map V.int)) lc = some (.lst (((at0 : Int) :: pl).map V.int)) := upd_same
    have hp8 := hp7.same e8
    have hT8 := tabs_buts hT7 (Same.buts (S := []) e8) (muts_nil _)
    have htb8 := e8 _ _ htb7
    have hpl2 : ∀ y ∈ ((at0 : Int) :: pl), 0 ≤ y ∧ y < (m : Int) := fun y hy => by
      rcases List.mem_cons.mp hy with rfl | hy
      · omega
      · exact hpb y hy
    generalize upd H7 lc (.lst ([V.int at0] ++ pl.map V.int)) = H8 at e8 hlc8 hp8 hT8 htb8 ⊢
    have hpll : 1 ≤ ((at0 : Int) :: pl).length := by simp
    generalize ((at0 : Int) :: pl) = places at hlc8 hpl2 hpll
    refine ⟨lc, rfl, ⟨_, SqL.of hlc8⟩, ?_⟩
    refine for_it walk_list (fun j σ H' => ∃ u5 u7 u8 u9 u10 u11 u12 vs o, σ = [some (.ref p), some (.int n), some (.int b), some (.int m), some (.ref tb), u5, some (.int at0), u7, u8, u9, u10, u11, u12] ∧ H' tb = some (.lst vs) ∧ vs.length = m ∧ (∀ i, i < m → ∃ v, vs[i]? = some v ∧ Odd K [p, tb] H' v (o i)) ∧
        (1 ≤ j → ∃ i, i < m ∧ inR 0 ((n : Int) - 1) (o i) = false) ∧ HandAt K p c H' ∧ LamX.Tabs (tabL K) H' ∧ H' lc = some (.lst (places.map V.int)))
      ⟨_, _, _, _, _, _, _, _, fun i => some (tl.getD i 0), rfl, htb8, by rw [List.length_map]; exact htl, fun i hi => ⟨.int (tl.getD i 0), by rw [List.getElem?_map, List.getD_eq_getElem?_getD, List.getElem?_eq_getElem (by omega)]; rfl, .int _⟩, fun h => absurd h (by decide), hp8, hT8, hlc8⟩
      (fun j σ H' _ ⟨_, _, _, _, _, _, _, _, _, _, _, _, _, _, _, _, h⟩ => SqL.of h) ?_ ?_
    · rintro j x σ H1 H' hj ⟨u5, u7, u8, u9, u10, u11, u12, vs, o, rfl, ht1, hvl, hvs, hbad, hp1, hT1, hlc1⟩ ⟨rfl, hx⟩
      rw [List.length_map] at hj
      rw [List.getElem?_map, List.getElem?_eq_getElem hj] at hx
      cases hx
      have hq := hpl2 _ (List.getElem_mem hj)
      generalize places[j] = q at hq ⊢
      show tSeq _ _ _ _ _
      walk_at "hd"
      refine ⟨rfl, fun t1 G1 f1 m1 ht1' => ?_⟩
      walk_at "hd"
      refine ⟨rfl, fun t2 G2 f2 m2 ht2 => ?_⟩
      walk_at "hd"
      intro d hd
      have f3 := Same.new (o := .dK []) hd
      have hd3 : upd G2 d (.dK []) d = some (.dK []) := upd_same
      generalize upd G2 d (.dK []) = G3 at f3 hd3 ⊢
      walk_at "hd"
      refine c_I (show CPow 10 59 from ⟨by decide, by decide, by decide⟩) ?_
      walk_at "hd"
      refine ⟨0, rfl, fun a4 G4 f4 h4 => ?_⟩
      walk_at "hd"
      refine ⟨1, rfl, fun a5 G5 f5 h5 => ?_⟩
      walk_at "hd"
      refine ⟨rfl, fun ol G6 f6 m6 hol => ?_⟩
      walk_at "hd"
      have f16 := (((f1.trans f2).trans (f3.trans f4)).trans f5).trans f6
      have hp6' := hp1.same f16
      have hT6' := tabs_buts hT1 (Same.buts (S := []) f16) (muts_nil _)
      have olp : ol ≠ p := ((hp1.same (((f1.trans f2).trans (f3.trans f4)).trans f5)).pos m6).1
      have inS : ∀ {a : Addr} {G : Hp}, Same H' G → G a = none → a ∉ [p, tb] := fun {a G} f hn z => by
        rcases List.mem_cons.mp z with rfl | z
        · exact ((hp1.same f).pos hn).1 rfl
        · rw [List.mem_singleton] at z
          subst z
          have := f _ _ ht1
          rw [hn] at this
          cases this
      have o7 : Odd K [p, tb] G6 (.ref t1) none := .tup (SqT.of ((((f2.trans (f3.trans f4)).trans f5).trans f6) _ _ ht1'))
      have o8 : Odd K [p, tb] G6 (.ref t2) none := .lst ((((f3.trans f4).trans f5).trans f6) _ _ ht2) (inS f1 m2)
      have o9 : Odd K [p, tb] G6 (.ref d) none := .dct (((f4.trans f5).trans f6) _ _ hd3)
      have o11 : Odd K [p, tb] G6 (.ref a4) none := by
        rcases h4 with ⟨xs, hx, hn⟩ | ⟨xs, hx⟩
        · exact .lst ((f5.trans f6) _ _ hx) (inS ((f1.trans f2).trans f3) hn)
        · exact .tup (SqT.of ((f5.trans f6) _ _ hx))
      have o12 : Odd K [p, tb] G6 (.ref a5) none := by
        rcases h5 with ⟨xs, hx, hn⟩ | ⟨xs, hx⟩
        · exact .lst (f6 _ _ hx) (inS ((f1.trans f2).trans (f3.trans f4)) hn)
        · exact .tup (SqT.of (f6 _ _ hx))
      refine ⟨p, c, ol, _, rfl, hp6', hol, olp, Nat.le_of_ble_eq_true rfl, Nat.le_of_ble_eq_true rfl, fun i v G7 hv b7' hp7' => ?_⟩
      have hov : ∃ ov, Odd K [p, tb] G6 v ov ∧ inR 0 ((n : Int) - 1) ov = false := by
        match i, hv with
        | 0, hv => cases hv; exact ⟨_, .int _, inR_above (by omega)⟩
        | 1, hv => cases hv; exact ⟨_, .int _, by simp [inR]⟩
        | 2, hv => cases hv; exact ⟨_, .bl _, rfl⟩
        | 3, hv => cases hv; exact ⟨_, .bl _, rfl⟩
        | 4, hv => cases hv; exact ⟨_, .non, rfl⟩
        | 5, hv => cases hv; exact ⟨_, .str _, rfl⟩
        | 6, hv => cases hv; exact ⟨_, o7, rfl⟩
        | 7, hv => cases hv; exact ⟨_, o8, rfl⟩
        | 8, hv => cases hv; exact ⟨_, o9, rfl⟩
        | 9, hv =>
          cases hv
          refine ⟨_, .int _, ?_⟩
          have : ¬ ((10 : Int) ^ (Int.toNat 59) ≤ (n : Int) - 1) := by
            have e : (10 : Int) ^ (Int.toNat 59) = 100000000000000000000000000000000000000000000000000000000000 := by decide
            rw [e]
            omega
          exact inR_above this
        | 10, hv => cases hv; exact ⟨_, o11, rfl⟩
        | 11, hv => cases hv; exact ⟨_, o12, rfl⟩
      obtain ⟨ov, hov1, hov2⟩ := hov
      have ht6 := f16 _ _ ht1
      have ht7 := b7' _ _ tbp ht6
      have mp6 := hp6'.mut
      walk_at "hd"
      refine c_setL (j := q.toNat) ht7 (by unfold ixN; rw [if_pos (by omega), if_pos (by omega)]) ?_
      walk_at "hd"
      have mt7 : Muts [tb] G7 := fun z hz => by
        rw [List.mem_singleton] at hz
        subst hz
        exact ⟨_, ht7, rfl⟩
      have bt : ButS [tb] G7 (upd G7 tb (.lst (vs.set q.toNat v))) := ButS.upd List.mem_cons_self
      have move : ∀ {x z}, Odd K [p, tb] G6 x z → Odd K [p, tb] (upd G7 tb (.lst (vs.set q.toNat v))) x z := fun {x z} h => (h.buts b7'.buts mp6 (fun a ha => by rw [List.mem_singleton] at ha; subst ha; exact List.mem_cons_self)).buts bt mt7 (fun a ha => by rw [List.mem_singleton] at ha; subst ha; exact List.mem_cons_of_mem _ List.mem_cons_self)
      refine ⟨_, _, _, _, _, _, _, vs.set q.toNat v, fun i => if i = q.toNat then ov else o i, rfl, upd_same, by rw [List.length_set]; exact hvl, fun i hi => ?_, fun _ => ⟨q.toNat, by omega, by show inR 0 ((n : Int) - 1) (if q.toNat = q.toNat then ov else o q.toNat) = false; rw [if_pos rfl]; exact hov2⟩, hp7'.buts bt (by simpa using Ne.symm tbp) (by simpa using Ne.symm tbc), tabs_buts (tabs_buts hT6' b7'.buts mp6) bt mt7, ?_⟩
      · by_cases he : i = q.toNat
        · subst he
          refine ⟨v, List.getElem?_set_self (by omega), ?_⟩
          show Odd K [p, tb] _ v (if q.toNat = q.toNat then ov else o q.toNat)
          rw [if_pos rfl]
          exact move hov1
        · obtain ⟨v', hv1, hv2⟩ := hvs i hi
          refine ⟨v', by rw [List.getElem?_set_ne (by omega)]; exact hv1, ?_⟩
          show Odd K [p, tb] _ v' (if i = q.toNat then ov else o i)
          rw [if_neg he]
          exact move (hv2.buts (Same.buts (S := []) f16) (muts_nil _) (fun _ z => nomatch z))
      · exact bt _ _ (by simpa using lctb) (b7' _ _ lcp (f16 _ _ hlc1))
    · rintro σ H9 ⟨u5, u7, u8, u9, u10, u11, u12, vs, o, rfl, ht9, hvl, hvs, hbad, hp9, hT9, hlc9⟩
      rw [List.length_map] at hbad
      obtain ⟨fb, hfb, hfb2⟩ := hbad hpll
      walk_at "hd"
      refine ⟨by omega, by omega, fun D2 hD2 => ?_⟩
      rw [Int.toNat_natCast]
      refine lc_it walk_range (fun i H2 => Same H9 H2 ∧ H2 D2 = some (.lst ((badL o n i).map fun j : Nat => V.int (j : Int)))) ⟨Same.new hD2, upd_same⟩ (fun _ _ _ _ => trivial) ?_ ?_
      · rintro i x H2 H' hi ⟨e2, h2⟩ ⟨rfl, hx⟩
        have hx : x = V.int (0 + (i : Int)) := hx
        rw [Int.zero_add] at hx
        subst hx
        obtain ⟨v, hv1, hv2⟩ := hvs i hi
        have hv3 : Odd K [p, tb] H' v (o i) := hv2.buts (Same.buts (S := []) e2) (muts_nil _) (fun _ z => nomatch z)
        have ht2 := e2 _ _ ht9
        have hbl := badL_len o n i
        refine ⟨rfl, ?_⟩
        have fin : ∀ (bb : Bool) (G : Hp), Same H' G → bb = !inR 0 ((n : Int) - 1) (o i) → (if bb = true then tVar 5 ([some (V.ref p), some (.int n), some (.int b), some (.int m), some (.ref tb), some (.int i), some (.int at0), u7, u8, u9, u10, u11, u12] : L2.St) G fun y H4 => ∃ acc, H4 D2 = some (.lst acc) ∧ acc.length < sizeLine ∧ (Same H9 (upd H4 D2 (.lst (acc ++ [y]))) ∧ (upd H4 D2 (.lst (acc ++ [y]))) D2 = some (.lst ((badL o n (i + 1)).map fun j : Nat => V.int (j : Int))))
            else (Same H9 G ∧ G D2 = some (.lst ((badL o n (i + 1)).map fun j : Nat => V.int (j : Int))))) := fun bb G eg hb => by
          rw [badL_snoc]
          cases hin : inR 0 ((n : Int) - 1) (o i) with
          | false =>
            rw [hin] at hb
            subst hb
            refine ifT rfl ?_
            walk_at "hd"
            refine ⟨_, eg _ _ h2, Nat.lt_of_le_of_lt (show _ ≤ 1000 by rw [List.length_map]; omega) (by decide), Same.mut (e2.trans eg) hD2, ?_⟩
            rw [upd_same, if_pos rfl, List.map_append]
            rfl
          | true =>
            rw [hin] at hb
            subst hb
            refine ifF rfl ⟨e2.trans eg, ?_⟩
            rw [if_neg (by decide), List.append_nil]
            exact eg _ _ h2
        obtain ⟨t, htl', hty, hcase⟩ := hv3.ty
        walk_at "hd"
        refine c_ixL (SqL.of ht2) (atI_nat hv1) ?_
        walk_at "hd"
        refine c_isi hty (kit_bool _ htl') ?_
        walk_at "hd"
        rcases hcase with ⟨bv, rfl, ht⟩ | ⟨hnb, ht⟩
        · rw [ht]
          refine ifT rfl ?_
          refine fin true H' (Same.refl _) ?_
          have ho : o i = none := hv3.ofBl
          rw [ho]
          rfl
        · rw [ht]
          refine ifF rfl ?_
          walk_at "hd"
          refine c_ixL (SqL.of ht2) (atI_nat hv1) ?_
          walk_at "hd"
          unfold tLstRg tRg1
          walk_at "hd"
          refine ⟨_, rfl, .of_le (by omega) (by omega) (by omega) (by omega), fun l3 n3 => ?_⟩
          rw [rgV_ints]
          have e3 := Same.new (o := .lst ((grp0 n).map V.int)) n3
          refine ⟨[p, tb], o i, l3, grp0 n, hv3.buts (Same.buts (S := []) e3) (muts_nil _) (fun _ z => nomatch z), hnb, rfl, SqL.of upd_same, ?_⟩
          refine ⟨_, rfl, ?_⟩
          exact fin _ _ e3 (notIn_range (o i))
      · rintro H10 ⟨e10, h10⟩
        walk_at "hd"
        have hp10 := hp9.same e10
        have hT10 := tabs_buts hT9 (Same.buts (S := []) e10) (muts_nil _)
        unfold tAg
        walk_at "hd"
        refine ⟨hT10, fun H11 x11 hT11 => ?_⟩
        have hp11 := hp10.ext x11
        have ht11 : H11 tb = some (.lst vs) := x11 _ _ (e10 _ _ ht9) (fun ps z => by cases z)
        have hw11 : H11 D2 = some (.lst ((badL o n m).map fun j : Nat => V.int (j : Int))) := x11 _ _ h10 (fun ps z => by cases z)
        have hv11 : ∀ i, i < m → ∃ v, vs[i]? = some v ∧ Odd K [p, tb] H11 v (o i) := fun i hi => by
          obtain ⟨v, h1, h2⟩ := hvs i hi
          exact ⟨v, h1, (h2.buts (Same.buts (S := []) e10) (muts_nil _) (fun _ z => nomatch z)).ext x11⟩
        refine ⟨n, b, [], fun ds G => (∀ i, i < ds.length → inR 0 ((n : Int) - 1) (o i) = true) ∧ Same H11 G, fun ds => (∀ i, i < ds.length → inR 0 ((n : Int) - 1) (o i) = true) ∧ ds.length < m ∧ inR 0 ((n : Int) - 1) (o ds.length) = false, rfl, rfl, hn1, hn, hb1, hb2,
          ⟨?_, fun _ _ _ => muts_nil _, muts_nil _, fun _ _ => trivial, ?_, ?_⟩, ⟨fun i hi => absurd hi (Nat.not_lt_zero _), Same.refl _⟩, ?_⟩
        · rintro ds G G' S' ⟨h1, h2⟩ bb mm dis fresh
          refine ⟨h1, fun z u hz => bb _ _ (fun zm => ?_) (h2 _ _ hz)⟩
          rw [fresh z zm] at hz
          cases hz
        · rintro ds v G QQ ⟨h1, h2⟩ fr rk hgl hb hv hQ
          have hrl := rk.len
          have hlm : ds.length < m := by omega
          obtain ⟨va, vvs, rfl, hva, hvv⟩ := dp_tup hv
          obtain ⟨x1, r1, rfl, _, hvv⟩ := dpAll_cons hvv
          obtain ⟨x2, r2, rfl, _, hvv⟩ := dpAll_cons hvv
          obtain ⟨x3', r3, rfl, hx3, hvv⟩ := dpAll_cons hvv
          cases dpAll_nil hvv
          cases dp_int hx3
          obtain ⟨v, hv1, hv2⟩ := hv11 _ hlm
          have hv3 : Odd K [p, tb] G v (o ds.length) := hv2.buts (Same.buts (S := []) h2) (muts_nil _) (fun _ z => nomatch z)
          walk_at "hd"
          refine c_ixL (SqL.of (h2 _ _ ht11)) (atI_nat hv1) ?_
          refine hQ v G (ButS.refl _ _) ?_
          cases hin : inR 0 ((n : Int) - 1) (o ds.length) with
          | false => exact .inr ⟨_, hv3.knd, hin, h1, hlm, rfl⟩
          | true =>
            cases ho : o ds.length with
            | none => rw [ho] at hin; cases hin
            | some z =>
              rw [ho] at hv3 hin
              have hz := hv3.ofInt
              subst hz
              have hz2 : 0 ≤ z ∧ z ≤ (n : Int) - 1 := by
                have h3 : (decide (0 ≤ z) && decide (z ≤ (n : Int) - 1)) = true := hin
                rw [Bool.and_eq_true] at h3
                exact ⟨of_decide_eq_true h3.1, of_decide_eq_true h3.2⟩
              refine .inl ⟨z.toNat, by omega, by rw [Int.toNat_of_nonneg hz2.1], fun i hi => ?_, h2⟩
              rw [List.length_append, List.length_singleton] at hi
              by_cases he : i = ds.length
              · subst he
                rw [ho]
                exact hin
              · exact h1 i (by omega)
        · rintro ds dx G ⟨h1, h2, h3⟩ fr hdx
          have sG : Same H11 G := fun z u hz => fr z u (fun q => nomatch q) hz
          refine ⟨true, L.bx.em, fun _ ea hea => ?_, fun z => nomatch z⟩
          walk_at "hd"
          refine ⟨rfl, dx, _, _, _, true, rfl, hdx, rfl, fun u r => r, L.bx.kd, ?_⟩
          walk_at "hd"
          refine ifT rfl ?_
          walk_at "hd"
          refine ⟨rfl, dx, _, _, _, true, rfl, hdx, rfl, fun u r => r, L.bx.kv, ?_⟩
          walk_at "hd"
          refine ifT rfl ?_
          unfold tXf
          walk_at "hd"
          refine ⟨rfl, rfl, dx, _, _, rfl, hdx, rfl, ?_⟩
          walk_at "hd"
          refine ⟨rfl, fun q1 G1 f1 m1 hq1 => ?_⟩
          walk_at "hd"
          have hfirst := badL_first h1 h3 h2
          refine c_ixL (SqL.of (f1 _ _ (sG _ _ hw11))) (show atI _ ((0 : Nat) : Int) = some (.int (ds.length : Int)) from atI_nat (by rw [List.getElem?_map, hfirst]; rfl)) ?_
          walk_at "hd"
          refine ⟨rfl, fun q2 G2 f2 m2 hq2 => ?_⟩
          walk_at "hd"
          refine ⟨.ref q1, .ref q2, .list [.int (ds.length : Int)], rfl, .lst (SqL.of (f2 _ _ hq1)) (.cons (.int _) .nil), .lst (SqL.of hq2) (.cons (.int _) .nil), (dep_ints [(ds.length : Int)] (by show 1 ≤ 1000; decide)).2, fun G3 f3 => ?_⟩
          have sT := ((sG.trans f1).trans f2).trans f3
          exact k G3 (hp11.same sT) (tabs_buts hT11 (Same.buts (S := []) sT) (muts_nil _))
        · rintro ds v G rk hgl hb ⟨h1, h2⟩ fr hv
          have hrl := rk.len
          have := h1 fb (by omega)
          rw [hfb2] at this
          cases this
end
end Hd
end
section
set_option Elab.async false
set_option linter.all false
set_option maxRecDepth 100000
set_option maxHeartbeats 1000000
namespace Hd
open PySem PySem.Spec PyProof.Rows L2
local macro_rules | `(tactic| walk_at "hd1") => `(tactic| (first
  | with_reducible refine c_seq ?_ | with_reducible refine c_ret ?_ | with_reducible refine c_asg ?_ | with_reducible refine c_drop ?_ | with_reducible refine c_next ?_ | with_reducible refine c_ifS ?_ | with_reducible refine c_par ?_
  | with_reducible refine c_var rfl ?_ | with_reducible refine c_c ?_ | with_reducible refine c_op ?_ | with_reducible refine c_un ?_ | with_reducible refine c_U ?_ | with_reducible refine c_I0 ?_
  | with_reducible refine c_test ?_ | with_reducible refine c_B ?_ | with_reducible refine c_bl ?_ | with_reducible refine c_eq rfl ?_ | with_reducible refine c_ne rfl ?_ | with_reducible refine c_chain ?_
  | with_reducible refine c_and ?_ | with_reducible refine c_or ?_ | with_reducible refine c_not ?_ | with_reducible refine c_andV ?_ | with_reducible refine c_orV ?_ | with_reducible refine c_notV ?_ | with_reducible refine c_ifE ?_
  | with_reducible refine c_call ?_ | with_reducible refine c_cb ?_ | with_reducible refine c_cons ?_ | with_reducible refine c_nil ?_ | with_reducible refine c_tup ?_ | with_reducible refine c_lst ?_ | with_reducible refine c_two ?_ | with_reducible refine c_e1 ?_ | with_reducible refine c_e2 ?_ | with_reducible refine c_int1 ?_ | with_reducible refine c_int1b ?_
  | with_reducible refine c_ixT (by assumption) rfl ?_ | with_reducible refine c_ixL (by assumption) rfl ?_
  | with_reducible refine c_asgS ?_ | with_reducible refine c_sF ?_ | with_reducible refine c_tF ?_ | with_reducible refine c_tupS ?_ | with_reducible refine c_lstS ?_ | with_reducible refine c_then ?_ | with_reducible refine c_lc ?_ | with_reducible refine c_rng1 ?_ | with_reducible refine c_rng2 ?_ | with_reducible refine c_list ?_
  | with_reducible refine c_I (by assumption) ?_))
local macro_rules | `(tactic| walk_at "hd") => `(tactic| repeat (walk_at "hd1"))
local macro_rules | `(tactic| walk_at "in") => `(tactic| ((try dsimp only [cxOf]); walk_at "hd"))
section
variable {P : Program} {w : World} {K : PySem.W.Frag} {mg : Str → Option Value} {base : Heap}
def spLaw (K : PySem.W.Frag) : Sp := fun vs H Q _ => ∃ (a : Addr) (ns : List Int), vs = [.ref a] ∧ SqL K H a (ns.map V.int) ∧ ns.length ≤ 63 ∧ LamX.Tabs (tabL K) H ∧ ∀ H', Q (.bl true) H'
theorem law_fn (L : LawT P K mg base) {fd : FuncData} (F : FunD K "law" "law" (defArgs s_law) (defBody s_law) (defScope s_law) [] [] (He.ga K "law") fd) : FnOk P w K mg base CX0 10 (He.ga K "law") fd ["_law_script"] (spLaw K) := by
  have T := L.tx
  have c1 := ok_law_draw (P := P) (w := w) (base := base) T
  have c2 := ok_law_hand (P := P) (w := w) (base := base) T
  have c3 := ok_law_beats (P := P) (w := w) (base := base) T
  have c4 := ok_law_foe_right (P := P) (w := w) L
  have c5 := ok_law_bad_way (P := P) (w := w) L
  have c6 := ok_law_raised (P := P) (w := w) L
  refine F.ok sc_law (fun vs H Q E h => ?_) (fun cdv A outer s H vs Q E hr h => ?_)
  · obtain ⟨a, ns, rfl, _⟩ := h
    rfl
  · obtain ⟨a, ns, rfl, ha, hl, hT, k⟩ := h
    refine ⟨_, pss_cons (ps_set (i := 1) sc_law.nd rfl (.inl rfl) (pe_cal c2 (hr.mono (by decide)) (by rfl) (pa_cons (pv 0) pa_nil)))
      (pss_cons (ps_for (passes_of rfl) rfl (pi_range1 rfl T.n_range (pa_cons pe_int pa_nil)) (pg_name (i := 2) sc_law.nd rfl (.inl rfl))
        (pss_cons (ps_par (i := 3) (j := 4) rfl sc_law.nd rfl rfl (by decide) rfl rfl (pa_cons (pe_op op_add pe_int (pe_cal c1 (hr.mono (by decide)) (by rfl) (pa_cons (pv 1) (pa_cons pe_int pa_nil)))) (pa_cons (pe_cal c3 (hr.mono (by decide)) (by rfl) (pa_cons (pv 1) pa_nil)) pa_nil)) (by rfl))
        (pss_cons (ps_if (pt_not (pt_val (pe_cal c4 hr (by rfl) (pa_cons (pv 1) (pa_cons (pv 3) (pa_cons (pv 4) pa_nil)))))) (pss_one ps_never) pss_nil)
        (pss_cons (ps_set (i := 5) sc_law.nd rfl (.inl rfl) (pe_op op_sub (pe_callB (call_min2 rfl) (by rfl) T.n_min bo_min (pa_cons (pv 3) (pa_cons (pe_op op_add (pv 4) pe_int) pa_nil))) pe_int))
        (pss_cons (ps_if (PW.pt (pw_and (pt_cmpR op_gt (pv 5) pe_int (nomark _)) (pw_and1 (pt_not (pt_val (pe_cal c5 hr (by rfl) (pa_cons (pv 1) (pa_cons (pv 3) (pa_cons (pv 4) pa_nil))))))))) (pss_one ps_never) pss_nil)
        (pss_one (ps_if (PW.pt (pw_and (pt_cmpR op_gt (pv 5) pe_int (nomark _)) (pw_and1 (pt_not (pt_val (pe_cal c6 hr (by rfl) (pa_cons (pv 3) (pa_cons (pv 4) (pa_cons (pe_cal c1 (hr.mono (by decide)) (by rfl) (pa_cons (pv 1) (pa_cons (pv 5) pa_nil))) pa_nil))))))))) (pss_one ps_never) pss_nil)))))))
      (pss_one (ps_ret pe_bl))), ?_⟩
    walk_at "in"
    refine ⟨a, ns, rfl, ha, hl, fun p c H1 e1 n1 hp => ?_⟩
    have hT1 := tabs_buts hT (Same.buts (S := []) e1) (muts_nil _)
    walk_at "hd"
    unfold tFor
    walk_at "hd"
    refine ⟨by decide, by decide, ?_⟩
    refine for_it walk_range (fun i σ H' => ∃ u2 u3 u4 u5, σ = [some (.ref a), some (.ref p), u2, u3, u4, u5] ∧ HandAt K p c H' ∧ LamX.Tabs (tabL K) H') ⟨_, _, _, _, rfl, hp, hT1⟩ (fun _ _ _ _ _ => trivial) ?_ ?_
    · rintro i x σ H2 H' hi ⟨u2, u3, u4, u5, rfl, hp2, hT2⟩ ⟨rfl, hx⟩
      show tSeq _ _ _ _ _
      walk_at "hd"
      refine ⟨p, c, 12, rfl, hp2, by decide, by decide, fun r H3 hr3 b3 hp3 => ?_⟩
      have hT3 := tabs_buts hT2 b3.buts hp2.mut
      walk_at "hd"
      refine ⟨p, c, rfl, hp3, fun b H4 hb1 hb2 b4 hp4 => ?_⟩
      have hT4 := tabs_buts hT3 b4.buts hp3.mut
      have en : (1 : Int) + (r : Int) = ((r + 1 : Nat) : Int) := by omega
      walk_at "hd"
      rw [en]
      generalize hn : r + 1 = n
      have hn1 : 1 ≤ n := by omega
      have hn2 : n ≤ 12 := by omega
      refine ⟨p, c, n, b, rfl, hp4, hT4, hn1, hn2, hb1, hb2, fun H5 hp5 hT5 => ?_⟩
      walk_at "hd"
      refine ifF rfl ?_
      walk_at "hd"
      rw [kk_int]
      have hk1 : 1 ≤ kk n b := by unfold kk; omega
      have hkn : kk n b ≤ n := by unfold kk; omega
      obtain ⟨m, hm⟩ : ∃ m, kk n b = m + 1 := ⟨kk n b - 1, by omega⟩
      have em : ((kk n b : Nat) : Int) - 1 = ((m : Nat) : Int) := by omega
      rw [em]
      refine ifB (fun h => ?_) (fun h => ?_)
      · have m0 : 1 ≤ m := by have := of_decide_eq_true h; omega
        walk_at "hd"
        refine ⟨p, c, n, b, rfl, hp5, hT5, hn1, hn2, hb1, hb2, by omega, fun H6 hp6 hT6 => ?_⟩
        walk_at "hd"
        refine ifF rfl ?_
        walk_at "hd"
        refine ifT h ?_
        walk_at "hd"
        refine ⟨p, c, m, rfl, hp6, m0, by omega, fun r7 H7 hr7 b7 hp7 => ?_⟩
        have hT7 := tabs_buts hT6 b7.buts hp6.mut
        walk_at "hd"
        refine ⟨n, b, r7, rfl, hT7, hn1, hn2, hb1, hb2, by omega, fun H8 x8 hT8 => ?_⟩
        walk_at "hd"
        exact ifF rfl ⟨_, _, _, _, rfl, hp7.ext x8, hT8⟩
      · refine ifF rfl ?_
        walk_at "hd"
        refine ifF h ?_
        exact ifF rfl ⟨_, _, _, _, rfl, hp5, hT5⟩
    · rintro σ H' ⟨u2, u3, u4, u5, rfl, _, _⟩
      walk_at "hd"
      exact k H'
end
end Hd
end
section
set_option Elab.async false
set_option linter.all false
set_option maxRecDepth 100000
set_option maxHeartbeats 1000000
/-! HdHd1: what is looked at behind the top, and what it tells. -/
namespace Hd
open PySem PySem.Spec PyProof.Rows L2
def oexB (K : PySem.W.Frag) (C : Addr) : Bool := (match K.lookup C with
  | some ⟨.type t, _, .cls cd, sl⟩ => (match cd.mro, sl.toList with
    | .ref C' :: bm, [_, _, _, _, some (.builtin n), _] => decide (t = "type") && (decide (C' = C) && (decide (n = "ValueError.__new__") && (!cd.hasDel && (cd.hasDict && PySem.HandSPX.refsVE bm))))
    | _, _ => false)
  | _ => false) && (He.eqO (PySem.W.findIn K (.ref C) "__setattr__") (some (some (.builtin "object.__setattr__"))) && (decide (PySem.W.subIn K (.ref C) (.type "BaseException") = some true) && (decide (PySem.W.typeIn K (.ref C) = some (.type "type")) && PySem.W.keepIn K (.ref C))))
theorem oexB_ok {K : PySem.W.Frag} {C : Addr} (h : oexB K C = true) : OexC K C := by
  obtain ⟨h1, h⟩ := He.ba h
  obtain ⟨h2, h⟩ := He.ba h
  obtain ⟨h3, h⟩ := He.ba h
  obtain ⟨h4, h5⟩ := He.ba h
  refine ⟨?_, He.eqO_ok h2, of_decide_eq_true h3, of_decide_eq_true h4, h5⟩
  split at h1
  · rename_i t dd cd sl ho
    split at h1
    · rename_i C' bm k0 k1 k2 k3 n k5 hm hs
      obtain ⟨g1, h1⟩ := He.ba h1
      obtain ⟨g2, h1⟩ := He.ba h1
      obtain ⟨g3, h1⟩ := He.ba h1
      obtain ⟨g4, h1⟩ := He.ba h1
      obtain ⟨g5, g6⟩ := He.ba h1
      have e1 := of_decide_eq_true g1
      have e2 := of_decide_eq_true g2
      have e3 := of_decide_eq_true g3
      obtain ⟨nm, bs, mro, ns, qn, hd, sn, sub, ab, col, del⟩ := cd
      dsimp only at hm g4 g5
      have e4 : del = false := by simpa using g4
      subst e1 e2 e3 e4 g5 hm
      have hsl : sl = #[k0, k1, k2, k3, some (.builtin "ValueError.__new__"), k5] := by
        obtain ⟨l⟩ := sl
        simp only at hs
        rw [hs]
      subst hsl
      exact ⟨nm, qn, ns, bs, bm, sn, sub, ab, col, dd, k0, k1, k2, k3, k5, ho, g6⟩
    · cases h1
  · cases h1
/-- a def's record, its closure by names -/
abbrev FnC : Type := Option (Str × Str × Arguments × FuncBody × Scope × Addr × List Str × Addr)
def fnC (K : PySem.W.Frag) (p : Str × Option Str) : FnC := match K.lookup (He.fAd K p) with
  | some ⟨_, _, .func fd, _⟩ => some (fd.name, fd.qualname, fd.params, fd.body, fd.scope, fd.globals, fd.closure.map (·.1), fd.builtins)
  | _ => none
def cloB (K : PySem.W.Frag) (C fI : Addr) (qual : Str) (pf : Str) : Bool := match K.lookup fI with
  | some ⟨_, _, .func fd, _⟩ => (match fd.code, fd.defaults, fd.closure with
    | .ref cda, .none, [(_, cc)] => PySem.W.codeIn K (.ref cda) qual && ((match K.lookup cda with
      | some ⟨_, _, .fields vs, _⟩ => (match vs[2]? with
        | some (Value.str file _) => pf == file
        | _ => false)
      | _ => false) && (match K.lookup cc with
      | some ⟨_, _, .cell (some (.ref c')), _⟩ => decide (c' = C)
      | _ => false))
    | _, _, _ => false)
  | _ => false
theorem cloB_ok {K : PySem.W.Frag} {C : Addr} {p : Str × Option Str} {nm qual pf : Str} {params : Arguments} {body : List Stmt} {scope : Scope} (e : fnC K p = (some (nm, qual, params, FuncBody.stmts body, scope, mainGlobals, ["__class__"], builtinsNs) : FnC)) (h : cloB K C (He.fAd K p) qual pf = true) :
    ∃ (oc : Value) (od : Option Addr) (kV doc pm : Value) (an : Option Addr) (cda : Addr) (ct : Value) (osl : Array (Option Value)) (cc : Addr) (ccl : Value) (cdd : Option Addr) (vs : Array Value) (ccs : Array (Option Value)) (file : Str) (tf : Tok) (cl : Value) (cld : Option Addr) (csl : Array (Option Value)),
    K.lookup (He.fAd K p) = some ⟨oc, od, .func (PySem.W.ksFn nm qual params body scope .none kV doc pm an (.ref cda) ct cc), osl⟩ ∧ PySem.W.codeIn K (.ref cda) qual = true ∧ K.lookup cda = some ⟨ccl, cdd, .fields vs, ccs⟩ ∧ vs[2]? = some (.str file tf) ∧
      (pf == file) = true ∧ K.lookup cc = some ⟨cl, cld, .cell (some (.ref C)), csl⟩ := by
  unfold cloB at h
  unfold fnC at e
  split at h
  · rename_i oc od fd osl ho
    rw [ho] at e
    obtain ⟨fname, fqual, fparams, fbody, fscope, fglob, fclo, fdef, fkwd, fdoc, fpm, fan, fcode, fct, fbl⟩ := fd
    dsimp only at e h
    split at h
    · rename_i cda a1 cc
      have e := Option.some.inj e
      simp only [Prod.mk.injEq, List.map_cons, List.map_nil, List.cons.injEq, and_true] at e
      obtain ⟨e1, e2, e3, e4, e5, e6, e7, e8⟩ := e
      subst e1 e2 e3 e4 e5 e6 e7 e8
      obtain ⟨h1, h⟩ := He.ba h
      obtain ⟨h2, h3⟩ := He.ba h
      split at h2
      · rename_i c1 c2 vs c4 hcda
        split at h2
        · rename_i file tf hv
          split at h3
          · rename_i d1 d2 c' d4 hcc
            have e9 := of_decide_eq_true h3
            subst e9
            exact ⟨oc, od, _, _, _, _, cda, _, osl, cc, c1, c2, vs, c4, file, tf, d1, d2, d4, ho, h1, hcda, hv, h2, hcc⟩
          · cases h3
        · cases h2
      · cases h2
    · cases h
  · cases h
def supB (K : PySem.W.Frag) (C : Addr) : Bool := match PySem.W.clsIn K C with
  | some cd => He.eqO (PySem.W.alongIn K "__init__" ((cd.mro.dropWhile (· != .ref C)).drop 1)) (some (some (.builtin "ValueError.__init__")))
  | none => false
theorem supB_ok {K : PySem.W.Frag} {C : Addr} (h : supB K C = true) : ∃ cd, PySem.W.clsIn K C = some cd ∧ PySem.W.alongIn K "__init__" ((cd.mro.dropWhile (· != .ref C)).drop 1) = some (some (.builtin "ValueError.__init__")) := by
  unfold supB at h
  split at h
  · rename_i cd hc
    exact ⟨cd, hc, He.eqO_ok h⟩
  · cases h
abbrev badP : Str × Option Str := ("BadWay", some "__init__")
/-- what is looked at of BadWay and its errors -/
def badB (pf : Str) (K : PySem.W.Frag) : Bool := oexB K (CB K) && (He.eqO (PySem.W.findIn K (.ref (CB K)) "__init__") (some (some (.ref (FB K)))) && (decide (PySem.W.typeIn K (.ref (FB K)) = some (.type "function")) && (cloB K (CB K) (He.fAd K badP) "BadWay.__init__" pf && (supB K (CB K) &&
  (decide (PySem.W.mroIn K (CB K) (.ref (CB K)) = some true) && (He.eqO (PySem.W.nsIn K PySem.cStatics "thirdparty.any") (some none) && (decide (PySem.W.subIn K (.ref (CB K)) (.type "ValueError") = some true) && He.eqO (PySem.W.findIn K (.ref (CB K)) "beat") (some none))))))))
theorem badB_ok {K : PySem.W.Frag} {P : Program} {pf : Str} (h : badB pf K = true) (hf : P.main.file = pf) (ht : (P.main.scope.names.lookup ("super" : Str)).isSome = false)
    (e : fnC K badP = (some ("__init__", "BadWay.__init__", defArgs s_BadWay_init, FuncBody.stmts (defBody s_BadWay_init), defScope s_BadWay_init, mainGlobals, ["__class__"], builtinsNs) : FnC)) : BWay K P := by
  obtain ⟨h1, h⟩ := He.ba h
  obtain ⟨h2, h⟩ := He.ba h
  obtain ⟨h3, h⟩ := He.ba h
  obtain ⟨h4, h⟩ := He.ba h
  obtain ⟨h5, h⟩ := He.ba h
  obtain ⟨h6, h⟩ := He.ba h
  obtain ⟨h7, h⟩ := He.ba h
  obtain ⟨h8, h9⟩ := He.ba h
  subst hf
  exact ⟨oexB_ok h1, He.eqO_ok h2, of_decide_eq_true h3, cloB_ok e h4, supB_ok h5, of_decide_eq_true h6, He.eqO_ok h7, of_decide_eq_true h8, He.eqO_ok h9, ht⟩
def bxB (K : PySem.W.Frag) : Bool := xfB K (CB K) && (He.eqO (PySem.W.findIn K (.ref (CB K)) "__class__") (some (some (.builtin "object.__class__"))) && (He.eqO (PySem.W.specialIn K (.builtin "object.__class__") "__get__") (some (some (.builtin "getset_descriptor.__get__"))) &&
  (decide (PySem.W.takesIn K (.builtin "object.__class__") = some true) && (decide (PySem.W.mroIn K (CB K) (.type "object") = some true) && (decide (PySem.W.kitOne K (.ref (CB K)) (.ref (He.ga K "DuesError")) = some true) &&
  (decide (PySem.W.kitOne K (.ref (CB K)) (.type "ValueError") = some true) && decide (PySem.W.exmOne K (.ref (CB K)) (.ref (CB K)) = some true)))))))
theorem bxB_ok {K : PySem.W.Frag} (h : bxB K = true) : BX K := by
  obtain ⟨h1, h⟩ := He.ba h
  obtain ⟨h2, h⟩ := He.ba h
  obtain ⟨h3, h⟩ := He.ba h
  obtain ⟨h4, h⟩ := He.ba h
  obtain ⟨h5, h⟩ := He.ba h
  obtain ⟨h6, h⟩ := He.ba h
  obtain ⟨h7, h8⟩ := He.ba h
  have x := xfB_ok h1
  exact ⟨⟨x.ga, x.gg, x.exC, x.hdC, He.eqO_ok h2, He.eqO_ok h3, of_decide_eq_true h4, of_decide_eq_true h5⟩, x, of_decide_eq_true h6, of_decide_eq_true h7, of_decide_eq_true h8⟩
def disB (K : PySem.W.Frag) : Bool := !decide ((He.cT K ("_law_foe_right", none)).2 = (He.cT K ("_law_bad_way", none)).2) && (!decide ((He.cT K ("_law_foe_right", none)).2 = (He.cT K ("_law_raised", none)).2) && !decide ((He.cT K ("_law_bad_way", none)).2 = (He.cT K ("_law_raised", none)).2))
def exB (pf : Str) (K : PySem.W.Frag) : Bool := He.tupB K "NOUGHT" [.int 0, .int 1] && (He.tupB K "ONE" [.int 1, .int 1] && (badB pf K && (bxB K && disB K)))
/-! ### the facts -/
def faG : List He.Fa := gloL.map fun x => .glo x
def faF : List He.Fa := freeL.map fun x => .free x
def faI : List He.Fa := intL.map fun p => .int p.1 p.2
def faC : List He.Fa := [.cls "Dealer", .mkr "Dealer", .noat "Dealer" "kept_debts", .noat "Dealer" "kept_things", .noat "Dealer" "kept_beats", .meth "Dealer" "check_shares", .meth "Dealer" "give", .meth "Dealer" "deal", .meth "Dealer" "debts"]
def fa : List He.Fa := faG ++ (faF ++ (faI ++ faC))
def tf : List He.Defn := [("_law_foe_right", none), ("_law_bad_way", none), ("_law_raised", none)]
theorem txt_of {pf : Str} {w : World} {h : Heap} {K : PySem.W.Frag} {mg : Str → Option Value} (X : K.In h) (G : h.Ns mainGlobals mg) (c : He.SaysX fa fnL [] tf (exB pf) w h K) : Txt K mg := by
  have cd := c.t.d
  have fact : ∀ f ∈ fa, f.ok K = true := fun f hf => cd.facts hf
  have inC : ∀ f ∈ faC, f.ok K = true := fun f hf => fact f (List.mem_append_right _ (List.mem_append_right _ (List.mem_append_right _ hf)))
  obtain ⟨t1, m⟩ := He.ba c.more
  obtain ⟨t2, _⟩ := He.ba m
  refine ⟨fun dd hd => cd.defs hd, fun x hx => He.glo_ok X G (fact _ (List.mem_append_left _ (List.mem_map.mpr ⟨x, hx, rfl⟩))), fun x hx => He.free_ok X G (fact _ (List.mem_append_right _ (List.mem_append_left _ (List.mem_map.mpr ⟨x, hx, rfl⟩)))),
    fun p hp => He.int_ok X G (fact _ (List.mem_append_right _ (List.mem_append_right _ (List.mem_append_left _ (List.mem_map.mpr ⟨p, hp, rfl⟩))))), fun H => He.tupB_ok t1 H, fun H => He.tupB_ok t2 H, He.cls_ok (inC (.cls "Dealer") (mem_at 0 rfl)), fun f hf => ?_, fun m hm => ?_, He.mkr_ok (inC (.mkr "Dealer") (mem_at 1 rfl))⟩
  · rcases List.mem_cons.mp hf with rfl | hf
    · exact He.noat_ok (inC (.noat "Dealer" "kept_debts") (mem_at 2 rfl))
    · rcases List.mem_cons.mp hf with rfl | hf
      · exact He.noat_ok (inC (.noat "Dealer" "kept_things") (mem_at 3 rfl))
      · rw [List.mem_singleton] at hf
        subst hf
        exact He.noat_ok (inC (.noat "Dealer" "kept_beats") (mem_at 4 rfl))
  · rcases List.mem_cons.mp hm with rfl | hm
    · exact He.meth_ok (inC (.meth "Dealer" "check_shares") (mem_at 5 rfl))
    · rcases List.mem_cons.mp hm with rfl | hm
      · exact He.meth_ok (inC (.meth "Dealer" "give") (mem_at 6 rfl))
      · rcases List.mem_cons.mp hm with rfl | hm
        · exact He.meth_ok (inC (.meth "Dealer" "deal") (mem_at 7 rfl))
        · rw [List.mem_singleton] at hm
          subst hm
          exact He.meth_ok (inC (.meth "Dealer" "debts") (mem_at 8 rfl))
abbrev FnBad (K : PySem.W.Frag) : Prop := fnC K badP = (some ("__init__", "BadWay.__init__", defArgs s_BadWay_init, FuncBody.stmts (defBody s_BadWay_init), defScope s_BadWay_init, mainGlobals, ["__class__"], builtinsNs) : FnC)
theorem lawT_of {pf : Str} {P : Program} {w : World} {h base : Heap} {K : PySem.W.Frag} {mg : Str → Option Value} (X : K.In h) (G : h.Ns mainGlobals mg) (c : He.SaysX fa fnL [] tf (exB pf) w h K) (e : FnBad K) (hf : P.main.file = pf) (ht : (P.main.scope.names.lookup ("super" : Str)).isSome = false)
    (tb : ∀ p ∈ tf, LamX.TabB base mg (He.cT K p).1 (He.cT K p).2) : LawT P K mg base := by
  obtain ⟨_, m⟩ := He.ba c.more
  obtain ⟨_, m⟩ := He.ba m
  obtain ⟨b1, m⟩ := He.ba m
  obtain ⟨b2, b3⟩ := He.ba m
  obtain ⟨d1, d⟩ := He.ba b3
  obtain ⟨d2, d3⟩ := He.ba d
  have ne : ∀ {a b : Addr}, (!decide (a = b)) = true → a ≠ b := fun {a b} h z => by
    rw [decide_eq_true z] at h
    cases h
  refine ⟨txt_of X G c, badB_ok b1 hf ht e, bxB_ok b2, fun x hx => ?_, ne d1, ne d2, ne d3⟩
  rcases List.mem_cons.mp hx with rfl | hx
  · exact tb _ (mem_at 0 rfl)
  · rcases List.mem_cons.mp hx with rfl | hx
    · exact tb _ (mem_at 1 rfl)
    · rw [List.mem_singleton] at hx
      subst hx
      exact tb _ (mem_at 2 rfl)
end Hd
end
section
set_option Elab.async false
set_option linter.all false
set_option maxRecDepth 100000
set_option maxHeartbeats 0
/-! HdHd2: the head. -/
namespace Hd
open PySem PySem.Spec PyProof.Rows L2
def names1 : List PySem.Str := ["_wall", "is_integer", "is_within", "is_pair", "DuesError", "NoPeople", "NoShares", "NoPerson", "NoNumber", "BadWay", "NOUGHT", "ONE", "divisor", "lowest", "plus", "minus", "is_less", "MOST_PEOPLE", "MOST_BOTTOM", "MOST_BEATS_shares", "check_people", "are_shares", "first_wrong", "with_shares", "MOST_BEATS_dealing", "taker_of", "paid", "Dealer", "harmonic", "check_beats"]
def names2 : List PySem.Str := ["most", "check_many_beats", "group_of", "shares_for", "group_behind", "is_person", "against", "is_led", "is_against", "_law_hand", "_law_draw", "_law_some", "_law_is", "_law_deep", "_law_low", "_law_plus", "_law_less", "_law_most", "_law_group_shares", "_law_dealt", "_law_followed", "_law_way", "_law_logged", "_law_deals_of", "_law_beats", "_law_foe_right", "_law_bad_way", "_law_raised"]
def names : List PySem.Str := names1 ++ names2
/-- the parts looked at: what the names reach, the third party's namespace -/
def asY (g : Addr → Option Obj) : List Addr := PySem.cStatics :: He.asD g 6
abbrev AlY : Type := He.AlX × FnC
def obsY (pf : Str) (g : Addr → Option Obj) : AlY := ((He.obsT fa fnL [] (He.frT g (asY g)), exB pf (He.frT g (asY g)) && He.tabsB g tf (He.frT g (asY g))), fnC (He.frT g (asY g)) badP)
def valY (w : World) : AlY := (He.valX fnL [] w, some ("__init__", "BadWay.__init__", defArgs s_BadWay_init, FuncBody.stmts (defBody s_BadWay_init), defScope s_BadWay_init, mainGlobals, ["__class__"], builtinsNs))
theorem saysY_of {pf : Str} {w : World} {h : Heap} (e : obsY pf h.get? = valY w) : He.SaysX fa fnL [] tf (exB pf) w h (He.frT h.get? (asY h.get?)) ∧ FnBad (He.frT h.get? (asY h.get?)) := by
  have d : FnBad (He.frT h.get? (asY h.get?)) := congrArg (fun z : AlY => z.2) e
  have a : He.obsT fa fnL [] (He.frT h.get? (asY h.get?)) = He.valT fnL [] w := congrArg (fun z : AlY => z.1.1) e
  have b : (exB pf (He.frT h.get? (asY h.get?)) && He.tabsB h.get? tf (He.frT h.get? (asY h.get?))) = true := congrArg (fun z : AlY => z.1.2) e
  generalize asY h.get? = l at a b d
  obtain ⟨b1, b2⟩ := He.ba b
  have one : ∀ p ∈ tf, PySem.W.codeHdIn (He.frT h.get? l) (He.cT (He.frT h.get? l) p).1 (He.cT (He.frT h.get? l) p).2 = true ∧ ((He.frT h.get? l).lookup (He.cT (He.frT h.get? l) p).2 = none ∧ h.get? (He.cT (He.frT h.get? l) p).2 = some { cls := .none, data := .fields #[] }) := fun p hp => by
    obtain ⟨x1, x2⟩ := He.ba (List.all_eq_true.mp b2 p hp)
    cases r : h.get? (He.cT (He.frT h.get? l) p).2 with
    | some u =>
      rw [r] at x2
      exact ⟨x1, He.frT_none r x2, congrArg some (He.emptyTab_eq x2)⟩
    | none =>
      rw [r] at x2
      cases x2
  exact ⟨⟨a, b1, fun p hp => (one p hp).1, fun p hp => (one p hp).2.1, fun p hp => (one p hp).2.2⟩, d⟩
def hkY (pf : Str) : PySem.W.Hook where
  α := AlY
  obs := fun s => obsY pf s.heap.get?
  val := valY
  says := fun w h => ∃ K : PySem.W.Frag, K.In h ∧ (He.SaysX fa fnL [] tf (exB pf) w h K ∧ FnBad K)
  of := fun _ _ e => ⟨_, He.frT_in, saysY_of e⟩
  keeps := fun _ _ _ y k => by
    obtain ⟨K, i, c, d⟩ := y
    exact ⟨K, PySem.W.Frag.In.keeps i k, ⟨c.t, c.more, c.hd, c.out, fun p hp => k _ _ (c.empty p hp)⟩, d⟩
abbrev R : PySem.W.OpenRow := PySem.W.OpenLaw.row PySem.Challenge.rw_harmonicdues_k20_whole_foes_against_any
abbrev pfR : Str := R.prog.main.file
abbrev hk : PySem.W.Hook := hkY pfR
def ob (s : PySem.W.SharedT) : AlY := obsY pfR (HandSHeadRun.getT s)
theorem ob_eq (s : PySem.W.SharedT) : ob s = hk.obs s.abs := by
  have e : HandSHeadRun.getT s = s.abs.heap.get? := funext (HandSHeadRun.getT_eq s)
  unfold ob
  rw [e] <;> rfl
theorem runY (w : World) : HandSHeadRun.RunEq R (PySem.W.view R.prog [65]) hk ob 3400 names w := by
  intro os
  kernel_rfl
end Hd
end
section
set_option Elab.async false
set_option linter.all false
set_option maxRecDepth 100000
set_option maxHeartbeats 0
/-! HdHd3: the law holds. -/
namespace Hd
open PySem PySem.Spec PyProof.Rows L2
theorem end_at {w : World} {K : PySem.W.Frag} {mg : Str → Option Value} {f : Addr} {h : Heap} (X : K.In h) (G : h.Ns mainGlobals mg) (hfa : mg ("law" : Str) = some (.ref f)) (c : He.SaysX fa fnL [] tf (exB pfR) w h K) (e : FnBad K) :
    LamX.LawAtS PySem.Challenge.rw_harmonicdues_k20_whole_foes_against_any w K CX0 10 63 "_law_script" mg f h := by
  have T := txt_of X G c
  have hf : f = He.ga K "law" := by
    have z := hfa.symm.trans T.g_law
    exact Value.ref.inj (Option.some.inj z)
  subst hf
  obtain ⟨fd, F⟩ := T.f_law
  have b := FunD.bindsA (ps := ["_law_script"]) F fun _ _ _ _ _ _ us hl => match us, hl with | [_], _ => rfl
  refine ⟨fd, tf.map (He.cT K), spLaw K, fun p hp => ?_, fun p hp => ?_, fun p hp => ?_, fun s u => b s [u] rfl, fun H a ns hl _ ht hS => ⟨a, ns, rfl, hS, hl, fun p hp => ?_, fun _ => rfl⟩, fun base _ G' tb => law_fn (lawT_of (pf := pfR) X G c e rfl (by kernel_rfl) fun p hp => tb _ (List.mem_map_of_mem hp)) F⟩
  · obtain ⟨q, hq, rfl⟩ := List.mem_map.mp hp
    exact c.empty q hq
  · obtain ⟨q, hq, rfl⟩ := List.mem_map.mp hp
    exact c.out q hq
  · obtain ⟨q, hq, rfl⟩ := List.mem_map.mp hp
    exact PySem.W.codeHd_of_K X (c.hd q hq)
  · rcases List.mem_cons.mp hp with rfl | hp
    · exact LamX.TabS.nil (ht _ (List.mem_map_of_mem (a := (("_law_foe_right", none) : He.Defn)) (mem_at 0 rfl)))
    · rcases List.mem_cons.mp hp with rfl | hp
      · exact LamX.TabS.nil (ht _ (List.mem_map_of_mem (a := (("_law_bad_way", none) : He.Defn)) (mem_at 1 rfl)))
      · rw [List.mem_singleton] at hp
        subst hp
        exact LamX.TabS.nil (ht _ (List.mem_map_of_mem (a := (("_law_raised", none) : He.Defn)) (mem_at 2 rfl)))
end Hd
open PySem PySem.W PySem.Calls PyProof.Rows
theorem PySem.Challenge.cw_harmonicdues_k20_whole_foes_against_any_holds : PySem.Challenge.rw_harmonicdues_k20_whole_foes_against_any.Holds := by
  w_on; o_law
  refine HandSHeadRun.head_any (r := OpenLaw.row PySem.Challenge.rw_harmonicdues_k20_whole_foes_against_any) (q := view (OpenLaw.row PySem.Challenge.rw_harmonicdues_k20_whole_foes_against_any).prog [65]) (H := Hd.hk) (ob := Hd.ob) (M := 3400) (loose := Hd.names) (d := HandSHeadRun.topDef (OpenLaw.row PySem.Challenge.rw_harmonicdues_k20_whole_foes_against_any).prog 65) (kwd := []) Hd.ob_eq
    (by kernel_rfl) (fun s => by kernel_rfl) Hd.runY (by kernel_rfl) (by kernel_rfl) (by kernel_rfl) (by rfl) (by first | assumption | decide +kernel) (by decide +kernel) ⟨rfl, rfl, rfl, rfl, rfl, by decide +kernel⟩ ?hw ?hc
  case hw => w_witness2
  case hc =>
    refine LamX.walk_ofTsE (l := PySem.Challenge.rw_harmonicdues_k20_whole_foes_against_any) (n := 63) (k := 10) (x := "_law_script") (CX := fun _ => L2.CX0) rfl (by decide) (by kernel_rfl) ⟨rfl, by decide, by decide⟩ ?F (fun _ _ _ _ _ z => z)
    intro w mg fa h Y G hmg0
    obtain ⟨K, KX, c, e⟩ := Y
    have hmg : mg ("law" : PySem.Str) = some (.ref fa) := by
      have e : (HandSHeadRun.topDef (OpenLaw.row PySem.Challenge.rw_harmonicdues_k20_whole_foes_against_any).prog 65).name = ("law" : PySem.Str) := by kernel_rfl
      rw [← e]
      exact hmg0
    exact ⟨K, KX, Hd.end_at KX G hmg c e⟩
end
