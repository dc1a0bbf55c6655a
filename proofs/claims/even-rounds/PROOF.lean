import PyProof.Rows.All
import Wide.All
import OpenK.AllK
import Wide.FinOn
import KE.KStateDown
import HandS.ForMost
import HandS.Codes
import HandS.Wide
import HandS.WideBits
import HandS.IsInst
import HandS.Defaults
import HandS.FStr
import HandS.Walk
import HandS.Head0
import HandS.Head1
import HandS.Head2
import HandS.HeadEnd
import HandS.HeadHook1
import HandS.HeadHook2
import HandS.HeadHook3
import HandS.HeadHook4
import KE.DatumOrd
import KE.KTupSum
import PySem.Challenge.RW_lightturns_k45_whole_even_rounds
set_option Elab.async false
set_option linter.all false
set_option maxRecDepth 100000
set_option maxHeartbeats 8000000
/-! The plain law: rounds of turns, no program in sight. -/
namespace LtM

/-- how many of the begins are on in slot s -/
def cnt (on T s : Int) (bs : List Int) : Nat := bs.countP fun b => decide ((s - b) % T < on)
theorem cnt_nil (on T s : Int) : cnt on T s [] = 0 := rfl
theorem cnt_cons (on T s b : Int) (bs : List Int) : cnt on T s (b :: bs) = cnt on T s bs + (if (s - b) % T < on then 1 else 0) := by
  unfold cnt
  rw [List.countP_cons]
  simp only [decide_eq_true_eq]

/-! ### the sum over a turn -/
def sumTo (f : Nat → Nat) : Nat → Nat
  | 0 => 0
  | n + 1 => sumTo f n + f n
theorem sumTo_add (f g : Nat → Nat) : ∀ n, sumTo (fun s => f s + g s) n = sumTo f n + sumTo g n
  | 0 => rfl
  | n + 1 => by
    simp only [sumTo]
    rw [sumTo_add f g n]
    omega
theorem sumTo_ge (f : Nat → Nat) (c : Nat) : ∀ n, (∀ s, s < n → c ≤ f s) → n * c ≤ sumTo f n
  | 0, _ => by simp [sumTo]
  | n + 1, h => by
    have h1 := sumTo_ge f c n fun s hs => h s (by omega)
    have h2 := h n (by omega)
    simp only [sumTo]
    rw [Nat.add_mul]
    omega
theorem sumTo_zero : ∀ n, sumTo (fun _ => 0) n = 0
  | 0 => rfl
  | n + 1 => by
    simp only [sumTo]
    rw [sumTo_zero n]

theorem mod_low {x T : Int} (h0 : 0 ≤ x) (h1 : x < T) : x % T = x := Int.emod_eq_of_lt h0 h1
theorem mod_neg {x T : Int} (h0 : -T ≤ x) (h1 : x < 0) : x % T = x + T := by
  have e : x % T = (x + T) % T := (Int.add_emod_right x T).symm
  rw [e]
  exact Int.emod_eq_of_lt (by omega) (by omega)
/-- one begin: in the first n slots it is on so often -/
theorem one_sum (on T b : Int) (h1 : 1 ≤ on) (h2 : on ≤ T) (b0 : 0 ≤ b) (bT : b < T) : ∀ n : Nat, (n : Int) ≤ T →
    ((sumTo (fun s => if ((s : Int) - b) % T < on then 1 else 0) n : Nat) : Int) = (if (n : Int) ≤ b + on - T then (n : Int) else if b + on - T ≤ 0 then 0 else b + on - T) + (if (n : Int) ≤ b then 0 else if (n : Int) ≤ b + on then (n : Int) - b else on)
  | 0, _ => by
    simp only [sumTo]
    have e1 : ((0 : Nat) : Int) = 0 := rfl
    rw [e1, if_pos b0]
    split
    · rfl
    · split
      · rfl
      · omega
  | n + 1, hn => by
    have ih := one_sum on T b h1 h2 b0 bT n (by omega)
    simp only [sumTo]
    have ec : ((sumTo (fun s => if ((s : Int) - b) % T < on then 1 else 0) n + (if ((n : Int) - b) % T < on then 1 else 0) : Nat) : Int) = ((sumTo (fun s => if ((s : Int) - b) % T < on then 1 else 0) n : Nat) : Int) + (if ((n : Int) - b) % T < on then 1 else 0) := by
      split <;> simp
    rw [ec, ih]
    have e1 : ((n + 1 : Nat) : Int) = (n : Int) + 1 := by omega
    rw [e1]
    rw [e1] at hn
    generalize (n : Int) = k at *
    by_cases hk : k < b
    · rw [mod_neg (by omega) (by omega)]
      split <;> split <;> (try split) <;> (try split) <;> (try split) <;> (try split) <;> omega
    · rw [mod_low (by omega) (by omega)]
      split <;> split <;> (try split) <;> (try split) <;> (try split) <;> (try split) <;> omega
theorem one_all (on T b : Int) (h1 : 1 ≤ on) (h2 : on ≤ T) (b0 : 0 ≤ b) (bT : b < T) : ((sumTo (fun s => if ((s : Int) - b) % T < on then 1 else 0) T.toNat : Nat) : Int) = on := by
  have e : ((T.toNat : Nat) : Int) = T := Int.toNat_of_nonneg (by omega)
  rw [one_sum on T b h1 h2 b0 bT T.toNat (by omega), e]
  split <;> split <;> (try split) <;> (try split) <;> omega
theorem all_sum (on T : Int) (h1 : 1 ≤ on) (h2 : on ≤ T) : ∀ bs : List Int, (∀ b ∈ bs, 0 ≤ b ∧ b < T) → ((sumTo (fun s => cnt on T s bs) T.toNat : Nat) : Int) = bs.length * on
  | [], _ => by
    have e : (fun s : Nat => cnt on T s []) = fun _ => 0 := rfl
    rw [e, sumTo_zero]
    simp
  | b :: bs, h => by
    have e : (fun s : Nat => cnt on T s (b :: bs)) = fun s : Nat => cnt on T s bs + (if ((s : Int) - b) % T < on then 1 else 0) := by
      funext s
      exact cnt_cons on T s b bs
    have hb := h b List.mem_cons_self
    rw [e, sumTo_add]
    have i1 := all_sum on T h1 h2 bs fun c hc => h c (List.mem_cons_of_mem _ hc)
    have i2 := one_all on T b h1 h2 hb.1 hb.2
    rw [Int.natCast_add, i1, i2, List.length_cons]
    have e2 : ((bs.length + 1 : Nat) : Int) = (bs.length : Int) + 1 := by omega
    rw [e2, Int.add_mul, Int.one_mul]
/-- in some slot no more than the mean are on -/
theorem some_low (on T : Int) (h1 : 1 ≤ on) (h2 : on ≤ T) (bs : List Int) (h : ∀ b ∈ bs, 0 ≤ b ∧ b < T) : ∃ s : Nat, (s : Int) < T ∧ (cnt on T s bs : Int) ≤ (bs.length * on) / T := by
  by_cases q : ∃ s : Nat, (s : Int) < T ∧ (cnt on T s bs : Int) ≤ (bs.length * on) / T
  · exact q
  · exfalso
    have hT : 0 < T := by omega
    have d0 : 0 ≤ (bs.length * on) / T := Int.ediv_nonneg (Int.mul_nonneg (by omega) (by omega)) (by omega)
    have hge := sumTo_ge (fun s : Nat => cnt on T s bs) (((bs.length * on) / T).toNat + 1) T.toNat fun s hs => by
      have q1 : ¬ (cnt on T s bs : Int) ≤ (bs.length * on) / T := fun z => q ⟨s, by omega, z⟩
      show _ ≤ cnt on T s bs
      omega
    have e := all_sum on T h1 h2 bs h
    have hge' : ((T.toNat * (((bs.length * on) / T).toNat + 1) : Nat) : Int) ≤ bs.length * on := by
      have z := Int.ofNat_le.mpr hge
      rw [e] at z
      exact z
    rw [Int.natCast_mul, Int.toNat_of_nonneg (by omega : 0 ≤ T)] at hge'
    have e3 : ((((bs.length * on) / T).toNat + 1 : Nat) : Int) = (bs.length * on) / T + 1 := by omega
    rw [e3] at hge'
    have hlt := Int.lt_ediv_add_one_mul_self (bs.length * on) hT
    rw [Int.mul_comm] at hge'
    omega

/-! ### the slots at which one goes off are enough -/
/-- a slot at which none goes off: no fewer are on than ahead of it -/
theorem step_back (on T : Int) (h1 : 1 ≤ on) (h2 : on ≤ T) (s : Int) (s0 : 0 < s) (sT : s < T) : ∀ bs : List Int, (∀ b ∈ bs, 0 ≤ b ∧ b < T) → (∀ b ∈ bs, (b + on) % T ≠ s) → cnt on T (s - 1) bs ≤ cnt on T s bs
  | [], _, _ => Nat.le_refl _
  | b :: bs, h, g => by
    have ih := step_back on T h1 h2 s s0 sT bs (fun c hc => h c (List.mem_cons_of_mem _ hc)) fun c hc => g c (List.mem_cons_of_mem _ hc)
    have hb := h b List.mem_cons_self
    have gb := g b List.mem_cons_self
    rw [cnt_cons, cnt_cons]
    have key : (s - 1 - b) % T < on → (s - b) % T < on := fun k => by
      by_cases c1 : s - 1 < b
      · rw [mod_neg (by omega) (by omega)] at k
        by_cases c2 : s < b
        · rw [mod_neg (by omega) (by omega)]
          by_cases c3 : s - b + T < on
          · exact c3
          · exfalso
            apply gb
            have e : (b + on) % T = (b + on - T) % T := (Int.sub_emod_right (b + on) T).symm
            rw [e, mod_low (by omega) (by omega)]
            omega
        · rw [mod_low (by omega) (by omega)]
          omega
      · rw [mod_low (by omega) (by omega)] at k
        rw [mod_low (by omega) (by omega)]
        by_cases c3 : s - b < on
        · exact c3
        · exfalso
          apply gb
          rw [mod_low (by omega) (by omega)]
          omega
    by_cases c : (s - 1 - b) % T < on
    · rw [if_pos c, if_pos (key c)]
      omega
    · rw [if_neg c]
      omega
/-- slot 0, and those at which one goes off -/
def cands (on T : Int) (bs : List Int) : List Int := 0 :: bs.map fun b => (b + on) % T
theorem cand_for (on T : Int) (h1 : 1 ≤ on) (h2 : on ≤ T) (bs : List Int) (h : ∀ b ∈ bs, 0 ≤ b ∧ b < T) : ∀ s : Nat, (s : Int) < T → ∃ c ∈ cands on T bs, cnt on T c bs ≤ cnt on T s bs
  | 0, _ => ⟨0, List.mem_cons_self, Nat.le_refl _⟩
  | s + 1, hs => by
    by_cases q : ∃ b ∈ bs, (b + on) % T = ((s + 1 : Nat) : Int)
    · obtain ⟨b, hb, e⟩ := q
      exact ⟨_, List.mem_cons_of_mem _ (List.mem_map.mpr ⟨b, hb, e⟩), Nat.le_refl _⟩
    · obtain ⟨c, hc, hle⟩ := cand_for on T h1 h2 bs h s (by omega)
      refine ⟨c, hc, Nat.le_trans hle ?_⟩
      have := step_back on T h1 h2 ((s + 1 : Nat) : Int) (by omega) hs bs h fun b hb e => q ⟨b, hb, e⟩
      have e : ((s + 1 : Nat) : Int) - 1 = (s : Int) := by omega
      rw [e] at this
      exact this
/-- of any begins the fewest are no more than the mean -/
theorem fewest_le (on T : Int) (h1 : 1 ≤ on) (h2 : on ≤ T) (bs : List Int) (h : ∀ b ∈ bs, 0 ≤ b ∧ b < T) (m : Int) (hm : ∀ c ∈ cands on T bs, m ≤ (cnt on T c bs : Int)) : m ≤ (bs.length * on) / T := by
  obtain ⟨s, hs, hl⟩ := some_low on T h1 h2 bs h
  obtain ⟨c, hc, hcl⟩ := cand_for on T h1 h2 bs h s hs
  have := hm c hc
  omega

/-! ### even begins -/
def evens (on off : Int) (m : Nat) : List Int := (List.range m).map fun k : Nat => (-((-(k : Int) * (on + off)) / (m : Int))) % (on + off)
theorem evens_len (on off : Int) (m : Nat) : (evens on off m).length = m := by
  unfold evens
  rw [List.length_map, List.length_range]
theorem evens_in (on off : Int) (m : Nat) (h1 : 1 ≤ on) (h0 : 0 ≤ off) : ∀ b ∈ evens on off m, 0 ≤ b ∧ b < on + off := fun b hb => by
  obtain ⟨k, _, rfl⟩ := List.mem_map.mp hb
  exact ⟨Int.emod_nonneg _ (by omega), Int.emod_lt_of_pos _ (by omega)⟩
/-- on or not, by two floors -/
theorem on_floor (on T x : Int) (h1 : 1 ≤ on) (h2 : on ≤ T) : (if x % T < on then (1 : Int) else 0) = x / T - (x - on) / T := by
  have hT : 0 < T := by omega
  have e := Int.mul_ediv_add_emod x T
  have r0 := Int.emod_nonneg x (show T ≠ 0 by omega)
  have r1 := Int.emod_lt_of_pos x hT
  generalize x % T = r at *
  generalize x / T = q at *
  by_cases c : r < on
  · rw [if_pos c]
    have : (x - on) / T = q - 1 := by
      have e2 : x - on = (r - on + T) + T * (q - 1) := by
        rw [Int.mul_sub]
        omega
      rw [e2, Int.add_mul_ediv_left _ _ (by omega), Int.ediv_eq_zero_of_lt (by omega) (by omega)]
      omega
    omega
  · rw [if_neg c]
    have : (x - on) / T = q := by
      have e2 : x - on = (r - on) + T * q := by omega
      rw [e2, Int.add_mul_ediv_left _ _ (by omega), Int.ediv_eq_zero_of_lt (by omega) (by omega)]
      omega
    omega
/-- the floor of a begin's distance -/
theorem floor_even (T x k m : Int) (hT : 0 < T) (hm : 0 < m) : (x - -((-k * T) / m)) / T = ((x * m) / T - k) / m := by
  have e1 : x - -((-k * T) / m) = (x * m + -k * T) / m := by
    rw [Int.add_comm (x * m), Int.add_mul_ediv_right _ _ (by omega)]
    omega
  have e2 : (x * m) / T - k = (x * m + -k * T) / T := by
    rw [Int.add_mul_ediv_right _ _ (by omega)]
    omega
  rw [e1, e2, Int.ediv_ediv_of_nonneg (by omega), Int.ediv_ediv_of_nonneg (by omega), Int.mul_comm m T]
def sumZ (f : Nat → Int) : Nat → Int
  | 0 => 0
  | n + 1 => sumZ f n + f n
theorem sumZ_sub (f g : Nat → Int) : ∀ n, sumZ (fun s => f s - g s) n = sumZ f n - sumZ g n
  | 0 => rfl
  | n + 1 => by
    simp only [sumZ]
    rw [sumZ_sub f g n]
    omega
theorem sumZ_congr {f g : Nat → Int} : ∀ n, (∀ k, k < n → f k = g k) → sumZ f n = sumZ g n
  | 0, _ => rfl
  | n + 1, h => by
    simp only [sumZ]
    rw [sumZ_congr n fun k hk => h k (by omega), h n (by omega)]
/-- Hermite's identity, turned round -/
theorem hermite (F m : Int) (hm : 0 < m) : ∀ n : Nat, (n : Int) ≤ m → sumZ (fun k => (F - (k : Int)) / m) n = (n : Int) * (F / m) - (if (n : Int) ≤ F % m + 1 then 0 else (n : Int) - (F % m + 1))
  | 0, _ => by
    have r0 := Int.emod_nonneg F (show m ≠ 0 by omega)
    simp only [sumZ]
    rw [if_pos (by omega)]
    simp
  | n + 1, hn => by
    have ih := hermite F m hm n (by omega)
    simp only [sumZ]
    rw [ih]
    have e := Int.mul_ediv_add_emod F m
    have r0 := Int.emod_nonneg F (show m ≠ 0 by omega)
    have r1 := Int.emod_lt_of_pos F hm
    have e1 : ((n + 1 : Nat) : Int) = (n : Int) + 1 := by omega
    rw [e1] at hn ⊢
    generalize F % m = r at *
    generalize F / m = q at *
    generalize (n : Int) = k at *
    rw [Int.add_mul, Int.one_mul]
    by_cases c : k ≤ r
    · have : (F - k) / m = q := by
        have e2 : F - k = (r - k) + m * q := by omega
        rw [e2, Int.add_mul_ediv_left _ _ (by omega), Int.ediv_eq_zero_of_lt (by omega) (by omega)]
        omega
      rw [this]
      split <;> split <;> omega
    · have : (F - k) / m = q - 1 := by
        have e2 : F - k = (r - k + m) + m * (q - 1) := by
          rw [Int.mul_sub]
          omega
        rw [e2, Int.add_mul_ediv_left _ _ (by omega), Int.ediv_eq_zero_of_lt (by omega) (by omega)]
        omega
      rw [this]
      split <;> split <;> omega
theorem hermite_all (F : Int) (m : Nat) (hm : 0 < m) : sumZ (fun k => (F - (k : Int)) / (m : Int)) m = F - (m : Int) + 1 := by
  have e := Int.mul_ediv_add_emod F (m : Int)
  have r0 := Int.emod_nonneg F (show (m : Int) ≠ 0 by omega)
  have r1 := Int.emod_lt_of_pos F (show (0 : Int) < m by omega)
  rw [hermite F m (by omega) m (by omega)]
  split <;> omega
theorem cnt_map (on T s : Int) (f : Nat → Int) : ∀ n, (cnt on T s ((List.range n).map f) : Int) = sumZ (fun k => if (s - f k) % T < on then (1 : Int) else 0) n
  | 0 => rfl
  | n + 1 => by
    have ih := cnt_map on T s f n
    rw [List.range_succ, List.map_append]
    have e : cnt on T s (List.map f (List.range n) ++ List.map f [n]) = cnt on T s (List.map f (List.range n)) + cnt on T s [f n] := by
      unfold cnt
      rw [List.countP_append]
      rfl
    rw [e, cnt_cons, cnt_nil]
    simp only [sumZ]
    rw [← ih]
    split <;> simp
/-- how many of the even begins are on in a slot -/
theorem cnt_evens (on off s : Int) (m : Nat) (h1 : 1 ≤ on) (h0 : 0 ≤ off) (hm : 0 < m) : (cnt on (on + off) s (evens on off m) : Int) = (s * m) / (on + off) - ((s - on) * m) / (on + off) := by
  unfold evens
  rw [cnt_map]
  have hT : 0 < on + off := by omega
  have e : ∀ k, k < m → (if (s - (-((-(k : Int) * (on + off)) / (m : Int))) % (on + off)) % (on + off) < on then (1 : Int) else 0) = ((s * m) / (on + off) - (k : Int)) / (m : Int) - (((s - on) * m) / (on + off) - (k : Int)) / (m : Int) := fun k _ => by
    have e1 : (s - (-((-(k : Int) * (on + off)) / (m : Int))) % (on + off)) % (on + off) = (s - -((-(k : Int) * (on + off)) / (m : Int))) % (on + off) := by
      rw [Int.sub_emod, Int.emod_emod, ← Int.sub_emod]
    rw [e1, on_floor on (on + off) _ h1 (by omega), floor_even (on + off) s k m hT (by omega)]
    have e2 : s - -((-(k : Int) * (on + off)) / (m : Int)) - on = (s - on) - -((-(k : Int) * (on + off)) / (m : Int)) := by omega
    rw [e2, floor_even (on + off) (s - on) k m hT (by omega)]
  rw [sumZ_congr m e, sumZ_sub, hermite_all _ m hm, hermite_all _ m hm]
  omega
/-- in no slot fewer than the mean -/
theorem evens_ge (on off s : Int) (m : Nat) (h1 : 1 ≤ on) (h0 : 0 ≤ off) : ((m : Int) * on) / (on + off) ≤ (cnt on (on + off) s (evens on off m) : Int) := by
  have hT : 0 < on + off := by omega
  by_cases hm : 0 < m
  · rw [cnt_evens on off s m h1 h0 hm]
    have e : s * (m : Int) = (s - on) * (m : Int) + (m : Int) * on := by
      rw [Int.sub_mul, Int.mul_comm on]
      omega
    rw [e]
    generalize (s - on) * (m : Int) = x
    generalize (m : Int) * on = y
    have a1 := Int.ediv_mul_le x (show on + off ≠ 0 by omega)
    have a2 := Int.ediv_mul_le y (show on + off ≠ 0 by omega)
    have : x / (on + off) + y / (on + off) ≤ (x + y) / (on + off) := by
      refine (Int.le_ediv_iff_mul_le hT).mpr ?_
      rw [Int.add_mul]
      omega
    omega
  · have e : m = 0 := by omega
    subst e
    simp
/-- the least of even begins, as counted at the slots where one goes off -/
theorem evens_fewest (on off : Int) (m : Nat) (h1 : 1 ≤ on) (h0 : 0 ≤ off) (x c : Int) (hx : x = (cnt on (on + off) c (evens on off m) : Int)) (hm : ∀ c ∈ cands on (on + off) (evens on off m), x ≤ (cnt on (on + off) c (evens on off m) : Int)) :
    x = ((m : Int) * on) / (on + off) := by
  have a := fewest_le on (on + off) h1 (by omega) (evens on off m) (evens_in on off m h1 h0) x hm
  rw [evens_len] at a
  have b := evens_ge on off c m h1 h0
  omega
end LtM
/-! The text by places. -/
namespace Lt
open PySem PySem.Spec PyProof.Rows L2
def top (i : Nat) : Stmt := PySem.Challenge.pw_lightturns_k45_whole_even_rounds.main.body.getD i (.Pass ⟨0, 0, 0, 0⟩)
abbrev sWhole : Stmt := top 7
abbrev sIsList : Stmt := top 8
abbrev sWant : Stmt := top 11
abbrev sAre : Stmt := top 12
abbrev sInit : Stmt := inClass (top 13) 0
abbrev sOn : Stmt := inClass (top 13) 1
abbrev sOff : Stmt := inClass (top 13) 2
abbrev sBegins : Stmt := inClass (top 13) 3
abbrev sTurn : Stmt := inClass (top 13) 4
abbrev sThose : Stmt := inClass (top 13) 5
abbrev sLeast : Stmt := inClass (top 13) 7
abbrev sRepr : Stmt := inClass (top 13) 11
abbrev sSpread : Stmt := top 14
abbrev sEven : Stmt := top 15
abbrev sCell : Stmt := top 17
abbrev sPot : Stmt := top 18
abbrev sTake : Stmt := top 19
abbrev sNumber : Stmt := top 20
abbrev sBegin : Stmt := top 21
abbrev sLTurn : Stmt := top 22
abbrev sSizes : Stmt := top 24
abbrev sThere : Stmt := top 25
abbrev sFewest : Stmt := top 26
abbrev sRight : Stmt := top 27
abbrev sLaw : Stmt := top 28
end Lt
/-! Rules that the layer lacks. -/
namespace Lt
open PySem PySem.Spec PyProof.Rows L2
/-! ### sum of a tuple of ints -/
def rSumT (K : PySem.W.Frag) : List V → Hp → VK → Prop := fun vs H Q => ∃ (a : Addr) (ns : List Int), vs = [V.ref a] ∧ SqT K H a (ns.map V.int) ∧ Q (.int ns.sum) H
theorem cr_sumT {X : Cx} (hc : X.calm = true) : CallR X (.builtin "sum") (rSumT X.K) := by
  intro pins s σ H vs us Q I r hq
  obtain ⟨a, ns, rfl, ht, q⟩ := hq
  obtain ⟨its, rv, tp, _⟩ := I.tuple ht
  obtain ⟨u, rfl, ru⟩ := vals1 r
  cases ru
  have hi := rv.ints
  obtain ⟨xs, hx⟩ := hi.allInts.items
  have hn : numsOf its = ns := hi.numsOf
  have tp2 : s.heap.IsTuple a (intItems xs) := by
    rw [← hx]
    obtain ⟨o, e1, e2, n, e3⟩ := tp
    exact ⟨o, e1, e2, n, e3⟩
  have hn2 : numsOf (intItems xs).toList = ns := by
    rw [← hx]
    exact hn
  rw [nums_intItems] at hn2
  refine PySem.W.ktm_sumG (I.ok.hd hc) tp2 fun h' tk t' hk => ⟨.int ns.sum, H, I.kept hk, ⟨t', ?_⟩, q⟩
  rw [preSum_eq, List.take_of_length_le (by simp), hn2]

/-! ### min of a list of pairs of ints -/
theorem pair_inj {h : Heap} {v : Value} {a b c d : Int} {as bs : List Addr} (r1 : Reads h v (.tuple [.int a, .int b]) as) (r2 : Reads h v (.tuple [.int c, .int d]) bs) : a = c ∧ b = d := by
  cases r1 with
  | tuple g1 g2 g3 g4 =>
    cases r2 with
    | tuple k1 k2 k3 k4 =>
      rw [g1] at k1
      cases k1
      rw [g3] at k3
      cases k3
      generalize Array.toList _ = l at g4 k4
      cases g4 with
      | cons x1 y1 =>
        cases k4 with
        | cons x2 y2 =>
          cases y1 with
          | cons x3 y3 =>
            cases y2 with
            | cons x4 y4 =>
              cases x1
              cases x2
              cases x3
              cases x4
              exact ⟨rfl, rfl⟩
theorem lt_fst {p q : Int × Int} (h : PySem.W.DatumOrd.lt p q = true) : p.1 ≤ q.1 := by
  have e : (if p.1 = q.1 then decide (p.2 < q.2) else decide (p.1 < q.1)) = true := h
  by_cases c : p.1 = q.1
  · omega
  · rw [if_neg c] at e
    have := of_decide_eq_true e
    omega
theorem nlt_fst {p q : Int × Int} (h : ¬ PySem.W.DatumOrd.lt p q = true) : q.1 ≤ p.1 := by
  have e : ¬ (if p.1 = q.1 then decide (p.2 < q.2) else decide (p.1 < q.1)) = true := h
  by_cases c : p.1 = q.1
  · omega
  · rw [if_neg c, decide_eq_true_eq] at e
    omega
theorem minOf_le : ∀ (xs : List (Int × Int)) (x : Int × Int), (PySem.W.minOf x xs).1 ≤ x.1 ∧ ∀ y ∈ xs, (PySem.W.minOf x xs).1 ≤ y.1
  | [], x => ⟨Int.le_refl _, fun y hy => by cases hy⟩
  | z :: zs, x => by
    have e : PySem.W.minOf x (z :: zs) = PySem.W.minOf (if PySem.W.DatumOrd.lt z x = true then z else x) zs := rfl
    rw [e]
    obtain ⟨i1, i2⟩ := minOf_le zs (if PySem.W.DatumOrd.lt z x = true then z else x)
    by_cases c : PySem.W.DatumOrd.lt z x = true
    · rw [if_pos c] at i1 i2 ⊢
      have := lt_fst c
      refine ⟨by omega, fun y hy => ?_⟩
      rcases List.mem_cons.mp hy with rfl | hy
      · exact i1
      · exact i2 y hy
    · rw [if_neg c] at i1 i2 ⊢
      have := nlt_fst c
      refine ⟨i1, fun y hy => ?_⟩
      rcases List.mem_cons.mp hy with rfl | hy
      · omega
      · exact i2 y hy
/-- pairs at addresses -/
abbrev PairsAt (H : Hp) (ts : List Addr) (ps : List (Int × Int)) : Prop := Paired (fun t p => H t = some (.tup [.int p.1, .int p.2])) ts ps
theorem pairs_dp {K : PySem.W.Frag} {H : Hp} : ∀ {ts : List Addr} {ps : List (Int × Int)}, PairsAt H ts ps → DpAll K H (ts.map V.ref) (ps.map PySem.W.Datum.toD)
  | _, _, .nil => .nil
  | _, _, .cons h t => .cons (.tup (SqT.of h) (.cons (.int _) (.cons (.int _) .nil))) (pairs_dp t)
def rMinP (K : PySem.W.Frag) : List V → Hp → VK → Prop := fun vs H Q => ∃ (a : Addr) (ts : List Addr) (ps : List (Int × Int)), vs = [V.ref a] ∧ SqL K H a (ts.map V.ref) ∧ PairsAt H ts ps ∧ ps ≠ [] ∧
  ∀ (t : Addr) (p : Int × Int), p ∈ ps → (∀ q ∈ ps, p.1 ≤ q.1) → H t = some (.tup [.int p.1, .int p.2]) → Q (.ref t) H
theorem cr_minP {X : Cx} {k : Nat} (hr : Room k X.A) (hc : X.calm = true) : CallR X (.builtin "min") (rMinP X.K) := by
  intro pins s σ H vs us Q I r hq
  obtain ⟨a, ts, ps, rfl, hl, hp, hne, q⟩ := hq
  obtain ⟨its, rv, pl, _⟩ := I.list hl
  obtain ⟨u, rfl, ru⟩ := vals1 r
  cases ru
  cases ps with
  | nil => exact absurd rfl hne
  | cons x xs =>
    obtain ⟨as, ra⟩ := Dp.readsAll I _ _ _ (pairs_dp hp) rv
    have hu : X.A.units + 1 + PySem.W.Datum.depth (Int × Int) < cLine := by
      have := hr.units
      have e : PySem.W.Datum.depth (Int × Int) = 1 := rfl
      rw [e]
      omega
    refine PySem.W.min_list_datum (x := x) (xs := xs) (I.ok.hd hc) pl.isList ⟨as, ra⟩ hu fun i v h' tk hi hh hk => ?_
    have hi2 : its[i]? = some v := by simpa using hi
    have hlen := rv.length
    rw [List.length_map] at hlen
    have il : i < ts.length := by
      have := (List.getElem?_eq_some_iff.mp hi2).1
      omega
    obtain ⟨t, ht⟩ : ∃ t, ts[i]? = some t := ⟨ts[i], by simp [il]⟩
    have ht2 : (ts.map V.ref)[i]? = some (V.ref t) := by simp [ht]
    obtain ⟨w', hw, rw'⟩ := rv.get ht2
    rw [hi2] at hw
    cases hw
    cases rw'
    obtain ⟨p, hpi, hsq⟩ : ∃ p, (x :: xs)[i]? = some p ∧ H t = some (.tup [.int p.1, .int p.2]) := by
      have key : ∀ {ts : List Addr} {ps : List (Int × Int)} {i : Nat} {t : Addr}, PairsAt H ts ps → ts[i]? = some t → ∃ p, ps[i]? = some p ∧ H t = some (.tup [.int p.1, .int p.2]) := by
        intro ts ps i t h
        induction h generalizing i with
        | nil => intro e; simp at e
        | cons h1 h2 ih =>
          intro e
          cases i with
          | zero =>
            simp at e
            subst e
            exact ⟨_, rfl, h1⟩
          | succ i =>
            simp at e
            obtain ⟨p, e1, e2⟩ := ih e
            exact ⟨p, by simpa using e1, e2⟩
      exact key hp ht
    have I2 := I.kept (t' := tk) hk
    obtain ⟨bs, rb⟩ := Dp.reads I2 (.tuple [.int p.1, .int p.2]) (.ref t) (.ref t) (.tup (SqT.of hsq) (.cons (.int _) (.cons (.int _) .nil))) rfl
    obtain ⟨cs, rc⟩ := hh
    obtain ⟨e1, e2⟩ := pair_inj rb rc
    obtain ⟨m1, m2⟩ := minOf_le xs x
    refine ⟨.ref t, H, I2, rfl, q t p (List.mem_of_getElem? hpi) (fun z hz => ?_) hsq⟩
    rw [e1]
    rcases List.mem_cons.mp hz with rfl | hz
    · exact m1
    · exact m2 z hz

/-! ### a call with keywords alone -/
theorem pe_kwOnly {X : Cx} {CX : CXT} {k : Nat} {f : Addr} {fd : FuncData} {ps ks : List Str} {sp : Sp} {E : XK} {x : Str} {p pos : Pos} {kws : List Keyword} {tk : TA} {g : List Value → List Value → List Value} {gV : List V → List V → List V}
    (F : FnOk X.prog X.w X.K X.mg X.base CX k f fd ps sp) (hr : Room k X.A) (hg : Gl X x) (hm : X.mg x = some (.ref f)) (hk : PySem.W.keepIn X.K (.ref f) = true) (hb : KBn X.K fd ps 0 ks g gV) (hx : Passes CX X E)
    (hw : PK X kws tk) (h1 : (backToKw pos (keywordEach kws X.env)).all (·.1.isSome) = true := by rfl) (h2 : (backToKw pos (keywordEach kws X.env)).filterMap (·.1) = ks := by rfl)
    (h3 : (x == ("__debug__" : Str)) = false := by decide)
    (h4 : ((backTo pos (starEach [] X.env)).any (·.1) || (backToKw pos (keywordEach kws X.env)).any (·.1.isNone)) = false := by rfl) :
    PE X (.Call (.Name x p) [] kws pos) (tCallN 0 ks.length sp gV E tNil tk) := ⟨fun pins s σ H Q I h =>
  wpAny_Call_Name_kw (ld_glob I hg hm (PySem.W.callWith_KW0 (h₀ := X.base) I.ok.mod.kin hk h1 (thn (hw.run pos pins s σ H _ I h) fun ws s2 hh => by
    obtain ⟨zs, H2, J, rz, n0, n1, q⟩ := hh
    refine ⟨J.kIn, ?_⟩
    rw [h2]
    exact run_fnN (us := []) (vs := []) F hr hb hx J .nil rz rfl n1 q) h4) h3)⟩

/-! ### the guards that run, told -/
abbrev atG (X : Cx) (g : List Code) : Cx := { X with A := { X.A with guards := some g } }
theorem any_split {α : Type} {M : Model} {A : Around} {t : Sem α} {Q : α → Shared → Prop} {E : Value → Shared → Prop} {s : Shared} (h : ∀ g, wpAny M { A with guards := some g } t Q E s) : wpAny M A t Q E s := fun Γ p hΓ =>
  h (Γ.code.guards ++ guardsOf Γ.below) Γ p ⟨hΓ.1, hΓ.2.1, hΓ.2.2.1, fun g e => Option.some.inj e, hΓ.2.2.2.2⟩
section
variable {X : Cx} {g : List Code} {pins : List (Addr × Obj)} {σ : L2.St} {H : Hp} {s : Shared}
theorem okG (ok : X.Ok) : (atG X g).Ok := by
  obtain ⟨a1, a2, a3, a4, a5, a6, a7, a8, a9, a10, a11, a12, a13, a14, a15, a16, a17, a18⟩ := ok
  exact ⟨a1, a2, a3, a4, a5, a6, a7, a8, a9, a10, a11, a12, a13, a14, a15, a16, a17, a18⟩
theorem unG (ok : (atG X g).Ok) : X.Ok := by
  obtain ⟨a1, a2, a3, a4, a5, a6, a7, a8, a9, a10, a11, a12, a13, a14, a15, a16, a17, a18⟩ := ok
  exact ⟨a1, a2, a3, a4, a5, a6, a7, a8, a9, a10, a11, a12, a13, a14, a15, a16, a17, a18⟩
theorem invG (I : Inv X pins σ H s) : Inv (atG X g) pins σ H s := by
  obtain ⟨a1, a2, a3, a4, a5, a6, a7, a8, a9, a10, a11⟩ := I
  exact ⟨okG a1, a2, a3, a4, a5, a6, a7, a8, a9, a10, a11⟩
theorem invU (I : Inv (atG X g) pins σ H s) : Inv X pins σ H s := by
  obtain ⟨a1, a2, a3, a4, a5, a6, a7, a8, a9, a10, a11⟩ := I
  exact ⟨unG a1, a2, a3, a4, a5, a6, a7, a8, a9, a10, a11⟩
theorem spU {D : Ends} {f : Flow} (h : SP (atG X g) pins D f s) : SP X pins D f s := by
  cases f with
  | next =>
    obtain ⟨a, b, c, d⟩ := h
    exact ⟨a, b, invU c, d⟩
  | brk =>
    obtain ⟨a, b, c, d⟩ := h
    exact ⟨a, b, invU c, d⟩
  | cont =>
    obtain ⟨a, b, c, d⟩ := h
    exact ⟨a, b, invU c, d⟩
  | ret u =>
    obtain ⟨v, a, b, c, d, e⟩ := h
    exact ⟨v, a, b, invU c, d, e⟩
/-- a block, whatever guards run -/
theorem pss_guards {body : List Stmt} {tg : List Code → TS} (h : ∀ g, PSs (atG X g) body (tg g)) : PSs X body fun D σ H => ∀ g, tg g D σ H :=
  ⟨fun pins s σ H D I q => any_split fun g => thn ((h g).run pins s σ H D (invG I) (q g)) fun f s' z => spU z⟩
end

/-! ### the text of a list of ints -/
/-- is the list at a under way of being told? -/
def Hit (g : List Code) (a : Addr) : Prop := ∃ (v : Value) (rest : List Value) (kw : List (Str × Value)), Code.builtin "list.__repr__.loop" ⟨v :: rest, kw⟩ ∈ g ∧ Builtin.List.listSameRef v (.ref a) = true
def tx (n : Int) : Str := toString n
open Classical in
noncomputable def listTx (g : List Code) (a : Addr) (ns : List Int) : Str := if ns = [] then "[]" else if Hit g a then "[...]" else listText (ns.map tx)
theorem tx_len {n : Int} (h : n.natAbs.log2 < 1920) : (tx n).length ≤ 1921 := PyProof.Rows.int_text_len_1921 h
theorem txs_len : ∀ {ns : List Int}, (∀ n ∈ ns, n.natAbs.log2 < 1920) → ((ns.map tx).map (·.length)).sum ≤ ns.length * 1921
  | [], _ => by simp
  | n :: ns, h => by
    have i1 := txs_len (ns := ns) fun m hm => h m (List.mem_cons_of_mem _ hm)
    have i2 := tx_len (h n List.mem_cons_self)
    rw [List.map_cons, List.map_cons, List.sum_cons, List.length_cons, Nat.add_mul]
    omega
theorem lt_len {ns : List Int} (h : ∀ n ∈ ns, n.natAbs.log2 < 1920) : (listText (ns.map tx)).length ≤ ns.length * 1923 + 3 := by
  have a := listText_len_le (ns.map tx)
  have b := txs_len h
  rw [List.length_map] at a
  omega
theorem listTx_len {g : List Code} {a : Addr} {ns : List Int} (h : ∀ n ∈ ns, n.natAbs.log2 < 1920) : (listTx g a ns).length ≤ ns.length * 1923 + 5 := by
  unfold listTx
  have e1 : (("[]" : String) : Str).length = 2 := rfl
  have e2 : (("[...]" : String) : Str).length = 5 := rfl
  have e3 := lt_len h
  split
  · omega
  · split
    · omega
    · omega
def hitF (a : Addr) : Code × Pos → Bool
  | (.builtin "list.__repr__.loop" ⟨v :: _, _⟩, _) => Builtin.List.listSameRef v (.ref a)
  | _ => false
section
variable {prog : Program} {w : World} {A : Around} {E : Value → Shared → Prop} {s : Shared} {a : Addr} {g : List Code}
theorem hit_own {c : Code} {o : Obj} {x : Value} {l : List Value} {n : Nat} {Q : Fin → Shared → Prop} (hg : A.guards = some g) (ht : Hit g a) (ho : s.heap.get? a = some o) (hd : o.data = .seq (x :: l).toArray n)
    (h : Q (.done (.ret (.str "[...]" s.toks))) { s with toks := s.toks + 1 }) : wpOwn (model prog w) A c (Builtin.listReprAt 0 ⟨[.ref a], []⟩) Q E s := by
  intro Γ p hc hΓ
  have e : Γ.below.any (hitF a) = true := by
    obtain ⟨v, rest, kw, h1, h2⟩ := ht
    rw [← hΓ.2.2.2.1 g hg] at h1
    obtain ⟨⟨c2, p2⟩, h3, h4⟩ := List.mem_map.mp (List.mem_filter.mp h1).1
    refine List.any_eq_true.mpr ⟨_, h3, ?_⟩
    have h5 : c2 = Code.builtin "list.__repr__.loop" ⟨v :: rest, kw⟩ := h4
    rw [h5]
    exact h2
  unfold Builtin.listReprAt
  simp [slotArgs, Builtin.List.listItems, seqItems?, Sem.wp_load_of (h := ho), hd, stack]
  show Sem.wp _ Γ (if (Γ.below.any (hitF a)) = true then _ else _) _ _ p s
  rw [if_pos e]
  simp [rule, retStr, ret]
  exact h
/-- list.__repr__ of a list of ints -/
theorem call_list_tx {o : Obj} {its : List Value} {n : Nat} {ns : List Int} {Q : Value → Shared → Prop} (hg : A.guards = some g) (ho : s.heap.get? a = some o) (hc : o.cls = .type "list") (hd : o.data = .seq its.toArray n)
    (rv : Vals (ns.map V.int) its) (hb : ∀ n ∈ ns, n.natAbs.log2 < 1920) (hz : (listText (ns.map tx)).length ≤ sizeLine)
    (hQ : ∀ h' u tk, (∀ b o, s.heap.get? b = some o → h'.get? b = some o) → Q (.str (listTx g a ns) u) { s with heap := h', toks := tk }) : wpAny (model prog w) A (call (.builtin "list.__repr__") [.ref a]) Q E s := by
  have hT : s.TypeIs (.ref a) "list" := ⟨o, ho, hc⟩
  cases ns with
  | nil =>
    cases rv
    have e : listTx g a [] = "[]" := by
      unfold listTx
      rw [if_pos rfl]
    refine call_list_repr_empty hT ho hd ?_
    have q := hQ s.heap s.toks (s.toks + 1) fun _ _ z => z
    rw [e] at q
    exact q
  | cons m ms =>
    cases its with
    | nil => cases rv
    | cons x l =>
      by_cases ht : Hit g a
      · have e : listTx g a (m :: ms) = "[...]" := by
          unfold listTx
          rw [if_neg (List.cons_ne_nil _ _), if_pos ht]
        have q := hQ s.heap s.toks (s.toks + 1) fun _ _ z => z
        rw [e] at q
        exact wpAny_call (codeAny_call_builtin_own (Code.quiet_builtin _ (by decide +kernel)) F.entry_list_repr (F.slot_list_repr.check _ _ _ _ _ _ _ _ hT (F.args_list_repr_1 _) (hit_own hg ht ho hd q)))
      · have e : listTx g a (m :: ms) = listText ((m :: ms).map tx) := by
          unfold listTx
          rw [if_neg (List.cons_ne_nil _ _), if_neg ht]
        refine call_list_repr (ts := (m :: ms).map tx) hT hg (fun v rest kw hm => ?_) ho hd ?_ (fun i y hi => ?_) (fun h' u tk hk => ?_) hz
        · cases c : Builtin.List.listSameRef v (.ref a) with
          | false => rfl
          | true => exact absurd ⟨v, rest, kw, hm, c⟩ ht
        · have := rv.length
          rw [List.length_map] at this ⊢
          simpa using this
        · have hi2 : (x :: l)[i]? = some y := by simpa using hi
          have il : i < (m :: ms).length := by
            have h1 := (List.getElem?_eq_some_iff.mp hi2).1
            have h2 := rv.length
            rw [List.length_map] at h2
            omega
          have hn : (m :: ms)[i]? = some (m :: ms)[i] := by simp [il]
          obtain ⟨u, hu, ru⟩ := rv.get (i := i) (x := V.int (m :: ms)[i]) (by rw [List.getElem?_map, hn]; rfl)
          rw [hi2] at hu
          cases hu
          obtain ⟨t, rfl⟩ := ru
          refine ⟨tx (m :: ms)[i], by rw [List.getElem?_map, hn]; rfl, ?_⟩
          exact ReprIs.int t (hb _ (List.getElem_mem il))
        · have q := hQ h' u tk hk
          rw [e] at q
          exact q
end
section
variable {X : Cx}
/-- {xs}, xs a list of ints that this def holds -/
def tFmtL (g : List Code) (te : TE) : TE := fun σ H Q => te σ H fun x H1 => ∃ (a : Addr) (ns : List Int), x = .ref a ∧ H1 a = some (.lst (ns.map V.int)) ∧ ns.length ≤ 100 ∧ (∀ n ∈ ns, n.natAbs.log2 < 1920) ∧ Q (.str (listTx g a ns)) H1
theorem pe_fmtL {g : List Code} {e : Expr} {te : TE} {pos : Pos} {k : Nat} (hg : X.A.guards = some g) (hr : Room k X.A) (he : PE X e te) : PE X (.FormattedValue e (-1) none pos) (tFmtL g te) := by
  refine ⟨fun pins s σ H Q I h => wpAny_FormattedValue_plain (thn (he.run pins s σ H _ I h) fun v s1 hv => ?_)⟩
  obtain ⟨x, H1, J, rx, a, ns, rfl, ha, hl, hb, q⟩ := hv
  cases rx
  obtain ⟨_, its, n, rv, ho⟩ := (show ObjOk X.prog X.w H1 s1.heap a (.lst (ns.map V.int)) from J.hok a _ ha)
  have hz := lt_len hb
  have hu := hr.units
  refine wpAny_formatField_slot (fun _ _ => nofun) (by omega) ⟨_, ho, rfl⟩ F.slot_list_format F.slot_list_str F.slot_list_repr.toG ?_
  refine call_list_tx (s := { s1 with toks := s1.toks + 1 }) (A := X.A.in1.in1) (g := g) hg ho rfl rfl rv hb (by rw [sizeLine_eq]; omega) fun h' u tk hk => ⟨_, _, rfl, ?_⟩
  exact ⟨.str _, H1, J.kept (t' := tk) hk, ⟨u, rfl⟩, q⟩
end
/-! ### rules whose reading names the written part itself (within a comprehension) -/
section
variable {X : Cx} {K : PySem.W.Frag}
theorem kFld {e : Expr} {te : TE} {nm : Str} {pos : Pos} (hK : X.K = K) (he : PE X e te) (hb : attributeBase e nm X.env (eval e X.env) = eval e X.env) : PE X (.Attribute e nm pos) (tFld K te nm) := by
  subst hK
  exact pe_fld he hb
theorem kLen (hK : X.K = K) : CallR X (.builtin "len") (fun xs H Q => ∃ p ys, xs = [.ref p] ∧ (SqL K H p ys ∨ SqT K H p ys) ∧ Q (.int ys.length) H) := by
  subst hK
  exact call_len_seq
theorem kIsi (hK : X.K = K) : CallR X (.builtin "isinstance") (rIsi K) := by
  subst hK
  exact call_isi
theorem kSumT (hK : X.K = K) (hc : X.calm = true) : CallR X (.builtin "sum") (rSumT K) := by
  subst hK
  exact cr_sumT hc
theorem kTup {es : List Expr} {n k : Nat} {pos : Pos} {t : TGs} (hK : X.K = K) (hc : X.calm = true) (h : PGs X es t) (h1 : (assignEach es X.env).length = n := by rfl) (h2 : (assignEach es X.env).findIdx? (·.1) = none := by rfl) :
    PG X (.Tuple es k pos) (gTup K n t) := by
  subst hK
  exact pg_tup hc h h1 h2
end
end Lt
/-! What stands where, the promises, the facts of the text. -/
namespace Lt
open PySem PySem.Spec PyProof.Rows L2 LtM
/-! ### a round's fields -/
theorem k_oo : ¬ (("slots_on" : Str) = "slots_off") := by decide +kernel
theorem k_os : ¬ (("slots_on" : Str) = "starts") := by decide +kernel
theorem k_fs : ¬ (("slots_off" : Str) = "starts") := by decide +kernel
def rf (on off : Int) (l : Addr) : List (Str × V) := putF "starts" (.ref l) (putF "slots_off" (.int off) (putF "slots_on" (.int on) []))
theorem rf_on (on off : Int) (l : Addr) : (rf on off l).lookup ("slots_on" : Str) = some (.int on) := by
  unfold rf
  rw [lookup_putF, if_neg k_os, lookup_putF, if_neg k_oo, lookup_putF, if_pos rfl]
theorem rf_off (on off : Int) (l : Addr) : (rf on off l).lookup ("slots_off" : Str) = some (.int off) := by
  unfold rf
  rw [lookup_putF, if_neg k_fs, lookup_putF, if_pos rfl]
theorem rf_st (on off : Int) (l : Addr) : (rf on off l).lookup ("starts" : Str) = some (.ref l) := by
  unfold rf
  rw [lookup_putF, if_pos rfl]
theorem rf_no (on off : Int) (l : Addr) {m : Str} (h1 : ¬ m = "starts") (h2 : ¬ m = "slots_off") (h3 : ¬ m = "slots_on") : (rf on off l).lookup m = none := by
  unfold rf
  rw [lookup_putF, if_neg h1, lookup_putF, if_neg h2, lookup_putF, if_neg h3]
  all_goals rfl
/-- a round stands at p -/
structure RoundAt (C : Addr) (H : Hp) (p : Addr) (on off : Int) (l : Addr) (ns : List Int) : Prop where
  ob : ∃ dx, H p = some (.ins C dx (rf on off l))
  ls : H l = some (.lst (ns.map V.int))
theorem RoundAt.same {C p l : Addr} {H H' : Hp} {on off : Int} {ns : List Int} (R : RoundAt C H p on off l ns) (s : Same H H') : RoundAt C H' p on off l ns := by
  obtain ⟨⟨dx, h1⟩, h2⟩ := R
  exact ⟨⟨dx, s _ _ h1⟩, s _ _ h2⟩
theorem same_upd {H : Hp} {a : Addr} {o : HO} (h : H a = none) : Same H (upd H a o) := fun b u e => by
  rw [upd_ne (ne_of_none e h)]
  exact e
/-! ### sizes -/
def B : Int := 10 ^ 59
theorem B_big : B < 2 ^ 200 := by decide +kernel
theorem B_pos : 1000 < B := by decide +kernel
structure Sz (on off : Int) : Prop where
  a : 1 ≤ on
  b : on ≤ B
  c : 0 ≤ off
  d : off ≤ B
/-- within the turn's bound, either way -/
def Sm (x : Int) : Prop := x.natAbs < 2 ^ 210
theorem Sm.of {x : Int} (h1 : -(1000 * B) ≤ x) (h2 : x ≤ 1000 * B) : Sm x := by
  have := B_big
  have e : (2 : Nat) ^ 210 = 1024 * 2 ^ 200 := by decide +kernel
  have e2 : ((2 ^ 200 : Nat) : Int) = 2 ^ 200 := by decide +kernel
  unfold Sm
  rw [e]
  generalize B = y at *
  generalize (2 : Nat) ^ 200 = n at *
  generalize (2 : Int) ^ 200 = m at *
  omega
theorem Sm.fit {x : Int} (h : Sm x) : x.natAbs.log2 < 1920 := Nat.lt_of_lt_of_le (PySem.Flt.log2_lt_of (by decide) h) (by decide)
theorem Sm.mul {x y : Int} (hx : Sm x) (hy : Sm y) : CMulW x y := wide_mul hx hy (by decide) (by decide) (by decide)
theorem Sm.div {x y : Int} (h0 : 0 < y) (hy : Sm y) : CDivW x y := wide_div h0 hy (by decide) (by decide)
/-- the begins of a list -/
def In (T : Int) (ns : List Int) : Prop := ∀ n ∈ ns, 0 ≤ n ∧ n < T
/-! ### the facts of the text -/
structure Txt (K : PySem.W.Frag) (mg : Str → Option Value) (C fI fR : Addr) : Prop where
  cl : Cls K C
  nOn : NoAttr K C "slots_on"
  nOff : NoAttr K C "slots_off"
  nSt : NoAttr K C "starts"
  mgC : mg "Round" = some (.ref C)
  mkr : Mk K C fI
  isi : C8.InsC K C
  rep : Meth K C "__repr__" fR
  most : ∃ t, mg "MOST_KEEPERS" = some (.int 40 t)
  isinstance : mg "isinstance" = none
  int : mg "int" = none
  bool : mg "bool" = none
  list : mg "list" = none
  tuple : mg "tuple" = none
  len : mg "len" = none
  all : mg "all" = none
  enumerate : mg "enumerate" = none
  min : mg "min" = none
  max : mg "max" = none
  abs : mg "abs" = none
  range : mg "range" = none
  divmod : mg "divmod" = none
  sum : mg "sum" = none
  repr : mg "repr" = none
/-! ### a def of the text -/
abbrev FD (K : PySem.W.Frag) (x q : Str) (st : Stmt) (dvs : List V) (f : Addr) (fd : FuncData) : Prop := FunD K x q (defArgs st) (defBody st) (defScope st) dvs [] f fd
section
variable {P : Program} {w : World} {K : PySem.W.Frag} {mg : Str → Option Value} {base : Heap}
theorem fok {x q : Str} {st : Stmt} {dvs : List V} {f : Addr} {fd : FuncData} {N ps : List Str} {k : Nat} {sp : Sp} (F : FD K x q st dvs f fd) (S : FnScope N ps (defScope st)) (len : ∀ vs H Q E, sp vs H Q E → vs.length = ps.length)
    (hb : ∀ (cdv : Value) (A : Around) (outer : List Env) (s : Shared) (H : Hp) (vs : List V) (Q : VK) (E : XK), Room k (A.deeper (envOfC q (defScope st) s.heap.objs.size f cdv)) → sp vs H Q E →
      ∃ t, PSs (cxOf C8.CX0 P w K mg base N q (defScope st) f cdv A outer s H E).nox (defBody st) t ∧ t { nx := fun _ H' => Q .non H', rt := Q } (start N vs) H) : FnOk P w K mg base C8.CX0 (k + 1) f fd ps sp :=
  F.ok S len fun cdv A outer s H vs Q E hr h => by
    obtain ⟨t, h1, h2⟩ := hb cdv A outer s H vs Q E hr h
    exact ⟨t, h1.nox, h2⟩
end
/-! ### the promises -/
def spWhole : Sp := fun vs H Q _ => ∃ n m : Int, vs = [.int n, .int m] ∧ Q (.bl (decide (m ≤ n))) H
def spIsList : Sp := fun vs H Q _ => ∃ (a : Addr) (xs : List V), vs = [.ref a] ∧ H a = some (.lst xs) ∧ ∀ H', Same H H' → Q (.bl true) H'
def spWant : Sp := fun vs H Q _ => ∃ on off : Int, vs = [.int on, .int off] ∧ 1 ≤ on ∧ 0 ≤ off ∧ Q .non H
def spAre : Sp := fun vs H Q _ => ∃ (a : Addr) (T : Int) (ns : List Int), vs = [.ref a, .int T] ∧ H a = some (.lst (ns.map V.int)) ∧ ns.length ≤ 40 ∧ In T ns ∧ ∀ H', Same H H' → Q (.bl true) H'
def spInit (C : Addr) : Sp := fun vs H Q _ => ∃ (p a dx : Addr) (on off : Int) (ns : List Int), vs = [.ref p, .int on, .int off, .ref a] ∧ H p = some (.ins C dx []) ∧ H a = some (.lst (ns.map V.int)) ∧ 1 ≤ on ∧ 0 ≤ off ∧ ns.length ≤ 40 ∧ In (on + off) ns ∧
  ∀ (l : Addr) (H' : Hp), H l = none → RoundAt C H' p on off l ns → (∀ b o, H b = some o → b ≠ p → H' b = some o) → Q .non H'
def spGetI (C : Addr) (f : Int → Int → Int) : Sp := fun vs H Q _ => ∃ (p l : Addr) (on off : Int) (ns : List Int), vs = [.ref p] ∧ RoundAt C H p on off l ns ∧ Q (.int (f on off)) H
def spBegins (C : Addr) : Sp := fun vs H Q _ => ∃ (p l : Addr) (on off : Int) (ns : List Int), vs = [.ref p] ∧ RoundAt C H p on off l ns ∧ ∀ q, H q = none → Q (.ref q) (upd H q (.lst (ns.map V.int)))
def spThose (C : Addr) : Sp := fun vs H Q _ => ∃ (p l : Addr) (on off c : Int) (ns : List Int), vs = [.ref p, .int c] ∧ RoundAt C H p on off l ns ∧ 0 < on + off ∧ ns.length ≤ 40 ∧
  ∀ (q : Addr) (ks : List V) (H' : Hp), Same H H' → H q = none → H' q = some (.lst ks) → ks.length = cnt on (on + off) c ns → Q (.ref q) H'
def spLeast (C : Addr) : Sp := fun vs H Q _ => ∃ (p l : Addr) (on off : Int) (ns : List Int), vs = [.ref p] ∧ RoundAt C H p on off l ns ∧ 0 < on + off ∧ ns.length ≤ 40 ∧
  ∀ (t : Addr) (n c : Int) (H' : Hp), Same H H' → H' t = some (.tup [.int n, .int c]) → c ∈ cands on (on + off) ns → n = (cnt on (on + off) c ns : Int) → (∀ d ∈ cands on (on + off) ns, n ≤ (cnt on (on + off) d ns : Int)) → Q (.ref t) H'
def spEven (C : Addr) : Sp := fun vs H Q _ => ∃ (on off : Int) (m : Nat), vs = [.int on, .int off, .int (m : Int)] ∧ Sz on off ∧ m ≤ 40 ∧ ∀ (p l : Addr) (H' : Hp), Same H H' → H p = none → H l = none → RoundAt C H' p on off l (evens on off m) → Q (.ref p) H'
end Lt
/-! The small defs of names and rounds. -/
namespace Lt
open PySem PySem.Spec PyProof.Rows L2 LtM
section
variable {P : Program} {w : World} {K : PySem.W.Frag} {mg : Str → Option Value} {base : Heap} {C fI fR f : Addr} {fd : FuncData}
theorem b_isi : bootBuiltins "isinstance" = some (.builtin "isinstance") := by decide +kernel
theorem b_int : bootBuiltins "int" = some (.type "int") := by decide +kernel
theorem b_bool : bootBuiltins "bool" = some (.type "bool") := by decide +kernel
theorem b_list : bootBuiltins "list" = some (.type "list") := by decide +kernel
theorem b_tuple : bootBuiltins "tuple" = some (.type "tuple") := by decide +kernel
theorem b_len : bootBuiltins "len" = some (.builtin "len") := by decide +kernel
theorem b_all : bootBuiltins "all" = some (.builtin "all") := by decide +kernel
theorem k_ii {K : PySem.W.Frag} : PySem.W.kitOne K (.type "int") (.type "int") = some true := kit_ty (by decide +kernel)
theorem k_ib {K : PySem.W.Frag} : PySem.W.kitOne K (.type "int") (.type "bool") = some false := kit_ty (by decide +kernel)
theorem k_ll {K : PySem.W.Frag} : PySem.W.kitOne K (.type "list") (.type "list") = some true := kit_ty (by decide +kernel)
/-! ### is_whole -/
theorem scWhole : FnScope ["thing", "least"] ["thing", "least"] (defScope sWhole) := ⟨rfl, rfl, rfl, by decide +kernel, rfl, by decide +kernel, by decide +kernel⟩
theorem ok_whole (F : FD K "is_whole" "is_whole" sWhole [.int 0] f fd) (T : Txt K mg C fI fR) : FnOk P w K mg base C8.CX0 1 f fd ["thing", "least"] spWhole := by
  refine fok F scWhole (fun vs H Q E h => ?_) (fun cdv A outer s H vs Q E hr h => ?_)
  · obtain ⟨n, m, rfl, _⟩ := h
    rfl
  · obtain ⟨n, m, rfl, q⟩ := h
    refine ⟨_, pss_one (ps_ret (pe_and (pe_callB call_isi (by rfl) T.isinstance b_isi (pa_cons (pv 0) (pa_cons (pe_bltn (v := .ty "int") (by rfl) T.int b_int rfl) pa_nil)))
      (pe_and (pe_not (pe_callB call_isi (by rfl) T.isinstance b_isi (pa_cons (pv 0) (pa_cons (pe_bltn (v := .ty "bool") (by rfl) T.bool b_bool rfl) pa_nil))))
      (pe_one (pe_cmp (pc_ge (pv 0) (pv 1)) rfl))))), ?_⟩
    refine ⟨_, rfl, .int n, .ty "int", .type "int", .type "int", true, rfl, .ty _, .base (.int _), k_ii, true, rfl, iteT ?_⟩
    refine ⟨_, rfl, .int n, .ty "bool", .type "int", .type "bool", false, rfl, .ty _, .base (.int _), k_ib, false, rfl, true, rfl, iteT ?_⟩
    exact ⟨_, rfl, _, rfl, n, m, rfl, rfl, q⟩
theorem cal_whole2 (F : FD K "is_whole" "is_whole" sWhole [.int 0] f fd) (T : Txt K mg C fI fR) (hm : mg "is_whole" = some (.ref f)) : C8.Cal P w K mg base 1 "is_whole" spWhole [] := by
  obtain ⟨ds, d, b⟩ := FunD.binds1 (ps := ["thing", "least"]) F 2 1 (by simp) rfl fun T kV doc pm an cdv ct us its h1 h2 => match us, its, h1, h2 with | [_, _], [_], _, _ => ⟨_, rfl, rfl⟩
  exact ⟨f, fd, _, ds, ok_whole F T, hm, F.kp, b, d⟩
theorem cal_whole1 (F : FD K "is_whole" "is_whole" sWhole [.int 0] f fd) (T : Txt K mg C fI fR) (hm : mg "is_whole" = some (.ref f)) : C8.Cal P w K mg base 1 "is_whole" spWhole [.int 0] := by
  obtain ⟨ds, d, b⟩ := FunD.binds1 (ps := ["thing", "least"]) F 1 0 (by simp) rfl fun T kV doc pm an cdv ct us its h1 h2 => match us, its, h1, h2 with | [_], [_], _, _ => ⟨_, rfl, rfl⟩
  exact ⟨f, fd, _, ds, ok_whole F T, hm, F.kp, b, d⟩
/-! ### is_list -/
theorem scIsList : FnScope ["thing"] ["thing"] (defScope sIsList) := ⟨rfl, rfl, rfl, by decide +kernel, rfl, by decide +kernel, by decide +kernel⟩
theorem cal_isList (F : FD K "is_list" "is_list" sIsList [] f fd) (T : Txt K mg C fI fR) (hm : mg "is_list" = some (.ref f)) : C8.Cal P w K mg base 1 "is_list" spIsList [] := by
  have G : FnOk P w K mg base C8.CX0 1 f fd ["thing"] spIsList := by
    refine fok F scIsList (fun vs H Q E h => ?_) (fun cdv A outer s H vs Q E hr h => ?_)
    · obtain ⟨a, xs, rfl, _⟩ := h
      rfl
    · obtain ⟨a, xs, rfl, ha, q⟩ := h
      refine ⟨_, pss_one (ps_ret (pe_callB call_isiT (by rfl) T.isinstance b_isi (pa_cons (pv 0) (pa_cons (pe_tup (pa_cons (pe_bltn (v := .ty "list") (by rfl) T.list b_list rfl) (pa_cons (pe_bltn (v := .ty "tuple") (by rfl) T.tuple b_tuple rfl) pa_nil))) pa_nil)))), ?_⟩
      refine ⟨_, rfl, (by show 2 ≤ sizeLine; decide), fun p hp => ?_⟩
      refine ⟨.ref a, p, _, .type "list", [.type "list", .type "tuple"], true, rfl, upd_same, .cons (.ty _) (.cons (.ty _) .nil), .base (.lst (xs := xs) ?_), kitAny_cons k_ll (fun z => nomatch z) (fun _ => rfl), q _ (same_upd hp)⟩
      rw [upd_ne (ne_of_none ha hp)]
      exact ha
  exact ⟨f, fd, _, [], G, hm, F.kp, F.bindsN fun _ _ _ _ _ _ us hl => match us, hl with | [_], _ => rfl, .nil⟩
/-! ### want_turn -/
theorem scWant : FnScope ["on", "off"] ["on", "off"] (defScope sWant) := ⟨rfl, rfl, rfl, by decide +kernel, rfl, by decide +kernel, by decide +kernel⟩
theorem cal_want (F : FD K "want_turn" "want_turn" sWant [] f fd) (T : Txt K mg C fI fR) (hm : mg "want_turn" = some (.ref f)) (c2 : C8.Cal P w K mg base 1 "is_whole" spWhole []) (c1 : C8.Cal P w K mg base 1 "is_whole" spWhole [.int 0]) :
    C8.Cal P w K mg base 2 "want_turn" spWant [] := by
  have G : FnOk P w K mg base C8.CX0 2 f fd ["on", "off"] spWant := by
    refine fok F scWant (fun vs H Q E h => ?_) (fun cdv A outer s H vs Q E hr h => ?_)
    · obtain ⟨on, off, rfl, _⟩ := h
      rfl
    · obtain ⟨on, off, rfl, h1, h2, q⟩ := h
      refine ⟨_, pss_cons (ps_if (pt_not (pt_val (C8.pe_c c2 hr (Nat.le_refl _) (by rfl) (pa_cons (pv 0) (pa_cons pe_int pa_nil))))) (pss_one ps_never) pss_nil)
        (pss_one (ps_if (pt_not (pt_val (C8.pe_c c1 hr (Nat.le_refl _) (by rfl) (pa_cons (pv 1) pa_nil)))) (pss_one ps_never) pss_nil)), ?_⟩
      refine ⟨_, rfl, on, 1, rfl, _, rfl, iteNS h1 ?_⟩
      exact ⟨_, rfl, off, 0, rfl, _, rfl, iteNS h2 q⟩
  exact ⟨f, fd, _, [], G, hm, F.kp, F.bindsN fun _ _ _ _ _ _ us hl => match us, hl with | [_, _], _ => rfl, .nil⟩
end
end Lt
/-! A round's making and its plain methods. -/
namespace Lt
open PySem PySem.Spec PyProof.Rows L2 LtM
theorem all_true : ∀ n : Nat, (List.replicate n true).all id = true
  | 0 => rfl
  | n + 1 => by
    rw [List.replicate_succ, List.all_cons, all_true n]
    rfl
theorem reps_app (n : Nat) : (List.replicate n true).map V.bl ++ [V.bl true] = (List.replicate (n + 1) true).map V.bl := by
  rw [List.replicate_succ', List.map_append]
  rfl
theorem int_at {ns : List Int} {i : Nat} {x : V} (h : (ns.map V.int)[i]? = some x) : ∃ n, ns[i]? = some n ∧ x = V.int n := by
  rw [List.getElem?_map] at h
  cases e : ns[i]? with
  | none =>
    rw [e] at h
    cases h
  | some n =>
    rw [e] at h
    exact ⟨n, rfl, (Option.some.inj h).symm⟩
theorem line1000 {n : Nat} (h : n ≤ 1000) : n < sizeLine := small1000 h
section
variable {P : Program} {w : World} {K : PySem.W.Frag} {mg : Str → Option Value} {base : Heap} {C fI fR f : Addr} {fd : FuncData}
/-! ### are_begins -/
theorem scAre : FnScope ["thing", "turn", "begin"] ["thing", "turn"] (defScope sAre) := ⟨rfl, rfl, rfl, by decide +kernel, rfl, by decide +kernel, by decide +kernel⟩
theorem cal_are (F : FD K "are_begins" "are_begins" sAre [] f fd) (T : Txt K mg C fI fR) (hm : mg "are_begins" = some (.ref f)) (cL : C8.Cal P w K mg base 1 "is_list" spIsList []) (c1 : C8.Cal P w K mg base 1 "is_whole" spWhole [.int 0]) :
    C8.Cal P w K mg base 2 "are_begins" spAre [] := by
  have G : FnOk P w K mg base C8.CX0 2 f fd ["thing", "turn"] spAre := by
    refine fok F scAre (fun vs H Q E h => ?_) (fun cdv A outer s H vs Q E hr h => ?_)
    · obtain ⟨a, t, ns, rfl, _⟩ := h
      rfl
    · obtain ⟨a, t, ns, rfl, ha, hl, hi, q⟩ := h
      obtain ⟨tm, em⟩ := T.most
      refine ⟨_, pss_cons (ps_if (PW.pt (pw_or (pt_not (pt_val (C8.pe_c cL hr (Nat.le_refl _) (by rfl) (pa_cons (pv 0) pa_nil))))
          (pw_or1 (pt_cmpR op_gt (pe_callB call_len_seq (by rfl) T.len b_len (pa_cons (pv 0) pa_nil)) (C8.pe_gc (v := .int 40) (by rfl) ⟨_, em, tm, rfl⟩) (nomark _))))) (pss_one (ps_ret pe_bl)) pss_nil)
        (pss_one (ps_ret (pe_callB (cr_all rfl) (by rfl) T.all b_all (pa_cons
          (pe_lc (own := [("begin", 2)]) (g := gName 2) (tt := tYes) rfl scAre.nd (pi_list (pv 0)) (blkOk_by (N := ["thing", "turn", "begin"]) (sc := defScope sAre) (by decide +kernel))
            (fun _ _ _ _ _ => pg_name (i := 2) scAre.nd rfl (Or.inl rfl)) (fun _ _ _ _ _ => pts_nil)
            (fun _ _ _ _ _ => pe_and (C8.pe_c c1 hr (Nat.le_refl _) (by rfl) (pa_cons (pv 2) pa_nil)) (pe_one (pe_cmp (pc_lt (pv 2) (pv 1)) rfl)))) pa_nil)))), ?_⟩
      refine ⟨_, rfl, a, _, rfl, ha, fun H1 s1 => ⟨true, rfl, iteF ?_⟩⟩
      refine ⟨_, rfl, a, _, rfl, .inl (SqL.of (s1 _ _ ha)), _, _, rfl, rfl, _, rfl, ?_⟩
      have e40 : decide ((40 : Int) < (((ns.map V.int).length : Nat) : Int)) = false := by
        rw [List.length_map]
        exact decide_eq_false (by omega)
      rw [e40]
      refine iteF ?_
      refine ⟨_, rfl, a, rfl, ⟨_, SqL.of (s1 _ _ ha)⟩, fun D hD => ?_⟩
      refine lc_list (K := K) (a := a) (xs := ns.map V.int) (fun i H2 => Same H1 H2 ∧ H2 D = some (.lst ((List.replicate i true).map V.bl))) ⟨same_upd hD, upd_same⟩ (fun i H2 _ p => SqL.of (p.1 _ _ (s1 _ _ ha))) (fun i x H2 hx p => ?_) (fun H2 p => ?_)
      · obtain ⟨n, hn, rfl⟩ := int_at hx
        have il : i < ns.length := (List.getElem?_eq_some_iff.mp hn).1
        obtain ⟨n0, n1⟩ := hi n (List.mem_of_getElem? hn)
        refine ⟨rfl, ?_⟩
        refine ⟨_, rfl, n, 0, rfl, true, ?_, iteT ?_⟩
        · exact (congrArg V.bl (decide_eq_true n0)).trans rfl
        · refine ⟨_, rfl, _, rfl, n, t, rfl, rfl, _, p.2, ?_, ?_⟩
          · rw [List.length_map, List.length_replicate]
            exact line1000 (by omega)
          · show Same H1 (upd H2 D (.lst ((List.replicate i true).map V.bl ++ [V.bl (decide (n < t))]))) ∧ upd H2 D (.lst ((List.replicate i true).map V.bl ++ [V.bl (decide (n < t))])) D = _
            rw [decide_eq_true n1, reps_app]
            refine ⟨fun b o e => ?_, upd_same⟩
            rw [upd_ne (ne_of_none e hD)]
            exact p.1 _ _ e
      · refine ⟨D, List.replicate ns.length true, rfl, ?_, ?_⟩
        · have e := p.2
          rw [List.length_map] at e
          exact SqL.of e
        · rw [all_true]
          exact q _ (s1.trans p.1)
  exact ⟨f, fd, _, [], G, hm, F.kp, F.bindsN fun _ _ _ _ _ _ us hl => match us, hl with | [_, _], _ => rfl, .nil⟩
/-! ### Round.__init__ -/
theorem scInit : FnScope ["self", "on", "off", "begins"] ["self", "on", "off", "begins"] (defScope sInit) := ⟨rfl, rfl, rfl, by decide +kernel, rfl, by decide +kernel, by decide +kernel⟩
theorem mak_round (F : FD K "__init__" "Round.__init__" sInit [] fI fd) (T : Txt K mg C fI fR) (cW : C8.Cal P w K mg base 2 "want_turn" spWant []) (cA : C8.Cal P w K mg base 2 "are_begins" spAre []) :
    C8.Mak P w K mg base 3 "Round" C (spInit C) [] := by
  have G : FnOk P w K mg base C8.CX0 3 fI fd ["self", "on", "off", "begins"] (spInit C) := by
    refine fok F scInit (fun vs H Q E h => ?_) (fun cdv A outer s H vs Q E hr h => ?_)
    · obtain ⟨p, a, dx, on, off, ns, rfl, _⟩ := h
      rfl
    · obtain ⟨p, a, dx, on, off, ns, rfl, hp, ha, h1, h2, hl, hi, q⟩ := h
      refine ⟨_, pss_cons (ps_expr (C8.pe_c cW hr (Nat.le_refl _) (by rfl) (pa_cons (pv 1) (pa_cons (pv 2) pa_nil))))
        (pss_cons (ps_if (pt_not (pt_val (C8.pe_c cA hr (Nat.le_refl _) (by rfl) (pa_cons (pv 3) (pa_cons (pe_op op_add (pv 1) (pv 2)) pa_nil))))) (pss_one ps_never) pss_nil)
        (pss_cons (ps_fld (pv 0) (pv 1) rfl) (pss_cons (ps_fld (pv 0) (pv 2) rfl)
        (pss_one (ps_fld (pv 0) (pe_callTy call_list_of (by rfl) T.list b_list (pa_cons (pv 3) pa_nil)) rfl))))), ?_⟩
      refine ⟨_, rfl, _, rfl, on, off, rfl, h1, h2, ?_⟩
      refine ⟨_, rfl, _, rfl, _, rfl, on, off, rfl, rfl, a, on + off, ns, rfl, ha, hl, hi, fun H1 s1 => ⟨true, rfl, iteF ?_⟩⟩
      have p1 := s1 _ _ hp
      have a1 := s1 _ _ ha
      have nap : a ≠ p := ne_of ha hp (by intro z; cases z)
      refine ⟨_, rfl, _, rfl, p, C, dx, _, rfl, p1, T.cl, T.nOn, (by show 0 < 1000; decide), ?_⟩
      refine ⟨_, rfl, _, rfl, p, C, dx, _, rfl, upd_same, T.cl, T.nOff, (by show 1 < 1000; decide), ?_⟩
      refine ⟨_, rfl, a, _, rfl, .inl (SqL.of (by rw [upd_ne nap, upd_ne nap]; exact a1)), fun l hl0 => ?_⟩
      have npl : p ≠ l := fun z => by
        rw [z, upd_same] at hl0
        cases hl0
      have hl1 : H1 l = none := by
        rw [upd_ne npl.symm, upd_ne npl.symm] at hl0
        exact hl0
      refine ⟨_, rfl, p, C, dx, _, rfl, Eq.trans (upd_ne npl) upd_same, T.cl, T.nSt, ?_, ?_⟩
      · have e : (putF "slots_off" (V.int off) (putF "slots_on" (V.int on) [])).length = 2 := by
          show (if ("slots_on" : Str) = "slots_off" then [(("slots_on" : Str), V.int off)] else (("slots_on" : Str), V.int on) :: putF "slots_off" (V.int off) []).length = 2
          rw [if_neg k_oo]
          rfl
        show (putF "slots_off" (V.int off) (putF "slots_on" (V.int on) [])).length < 1000
        rw [e]
        decide
      · refine q l _ (s1.free hl1) ⟨⟨dx, upd_same⟩, ?_⟩ fun b o e hb => ?_
        · rw [upd_ne npl.symm]
          exact upd_same
        · rw [upd_ne hb, upd_ne (ne_of_none (s1 _ _ e) hl1), upd_ne hb, upd_ne hb]
          exact s1 _ _ e
  exact ⟨fI, fd, _, [], T.mkr, G, T.mgC, F.bindsN fun _ _ _ _ _ _ us hl => match us, hl with | [_, _, _, _], _ => rfl, .nil⟩
/-! ### on, off, turn, begins -/
theorem scOn : FnScope ["self"] ["self"] (defScope sOn) := ⟨rfl, rfl, rfl, by decide +kernel, rfl, by decide +kernel, by decide +kernel⟩
theorem scOff : FnScope ["self"] ["self"] (defScope sOff) := ⟨rfl, rfl, rfl, by decide +kernel, rfl, by decide +kernel, by decide +kernel⟩
theorem scTurn : FnScope ["self"] ["self"] (defScope sTurn) := ⟨rfl, rfl, rfl, by decide +kernel, rfl, by decide +kernel, by decide +kernel⟩
theorem scBegins : FnScope ["self"] ["self"] (defScope sBegins) := ⟨rfl, rfl, rfl, by decide +kernel, rfl, by decide +kernel, by decide +kernel⟩
theorem met_on (F : FD K "on" "Round.on" sOn [] f fd) (T : Txt K mg C fI fR) (me : Meth K C "on" f) : C8.Met P w K mg base 1 C "on" (spGetI C fun on _ => on) [] := by
  have G : FnOk P w K mg base C8.CX0 1 f fd ["self"] (spGetI C fun on _ => on) := by
    refine fok F scOn (fun vs H Q E h => ?_) (fun cdv A outer s H vs Q E hr h => ?_)
    · obtain ⟨p, l, on, off, ns, rfl, _⟩ := h
      rfl
    · obtain ⟨p, l, on, off, ns, rfl, ⟨⟨dx, h1⟩, _⟩, q⟩ := h
      exact ⟨_, pss_one (ps_ret (pe_fld (pv 0) rfl)), _, rfl, p, C, dx, _, _, rfl, h1, T.cl, T.nOn, rf_on _ _ _, q⟩
  exact ⟨f, fd, _, [], T.cl, me, G, F.bindsN fun _ _ _ _ _ _ us hl => match us, hl with | [_], _ => rfl, .nil⟩
theorem met_off (F : FD K "off" "Round.off" sOff [] f fd) (T : Txt K mg C fI fR) (me : Meth K C "off" f) : C8.Met P w K mg base 1 C "off" (spGetI C fun _ off => off) [] := by
  have G : FnOk P w K mg base C8.CX0 1 f fd ["self"] (spGetI C fun _ off => off) := by
    refine fok F scOff (fun vs H Q E h => ?_) (fun cdv A outer s H vs Q E hr h => ?_)
    · obtain ⟨p, l, on, off, ns, rfl, _⟩ := h
      rfl
    · obtain ⟨p, l, on, off, ns, rfl, ⟨⟨dx, h1⟩, _⟩, q⟩ := h
      exact ⟨_, pss_one (ps_ret (pe_fld (pv 0) rfl)), _, rfl, p, C, dx, _, _, rfl, h1, T.cl, T.nOff, rf_off _ _ _, q⟩
  exact ⟨f, fd, _, [], T.cl, me, G, F.bindsN fun _ _ _ _ _ _ us hl => match us, hl with | [_], _ => rfl, .nil⟩
theorem met_turn (F : FD K "turn" "Round.turn" sTurn [] f fd) (T : Txt K mg C fI fR) (me : Meth K C "turn" f) : C8.Met P w K mg base 1 C "turn" (spGetI C fun on off => on + off) [] := by
  have G : FnOk P w K mg base C8.CX0 1 f fd ["self"] (spGetI C fun on off => on + off) := by
    refine fok F scTurn (fun vs H Q E h => ?_) (fun cdv A outer s H vs Q E hr h => ?_)
    · obtain ⟨p, l, on, off, ns, rfl, _⟩ := h
      rfl
    · obtain ⟨p, l, on, off, ns, rfl, ⟨⟨dx, h1⟩, _⟩, q⟩ := h
      exact ⟨_, pss_one (ps_ret (pe_op op_add (pe_fld (pv 0) rfl) (pe_fld (pv 0) rfl))), _, rfl, p, C, dx, _, _, rfl, h1, T.cl, T.nOn, rf_on _ _ _, _, rfl, p, C, dx, _, _, rfl, h1, T.cl, T.nOff, rf_off _ _ _, on, off, rfl, rfl, q⟩
  exact ⟨f, fd, _, [], T.cl, me, G, F.bindsN fun _ _ _ _ _ _ us hl => match us, hl with | [_], _ => rfl, .nil⟩
theorem met_begins (F : FD K "begins" "Round.begins" sBegins [] f fd) (T : Txt K mg C fI fR) (me : Meth K C "begins" f) : C8.Met P w K mg base 1 C "begins" (spBegins C) [] := by
  have G : FnOk P w K mg base C8.CX0 1 f fd ["self"] (spBegins C) := by
    refine fok F scBegins (fun vs H Q E h => ?_) (fun cdv A outer s H vs Q E hr h => ?_)
    · obtain ⟨p, l, on, off, ns, rfl, _⟩ := h
      rfl
    · obtain ⟨p, l, on, off, ns, rfl, ⟨⟨dx, h1⟩, h2⟩, q⟩ := h
      exact ⟨_, pss_one (ps_ret (pe_callTy call_list_of (by rfl) T.list b_list (pa_cons (pe_fld (pv 0) rfl) pa_nil))), _, rfl, p, C, dx, _, _, rfl, h1, T.cl, T.nSt, rf_st _ _ _, l, _, rfl, .inl (SqL.of h2), q⟩
  exact ⟨f, fd, _, [], T.cl, me, G, F.bindsN fun _ _ _ _ _ _ us hl => match us, hl with | [_], _ => rfl, .nil⟩
end
end Lt
/-! Who is on, the least, even rounds. -/
namespace Lt
open PySem PySem.Spec PyProof.Rows L2 LtM
theorem take_one {α : Type} : ∀ {l : List α} {i : Nat} {x : α}, l[i]? = some x → l.take (i + 1) = l.take i ++ [x]
  | [], i, x, h => by simp at h
  | a :: l, 0, x, h => by
    have e : a = x := Option.some.inj h
    rw [e]
    rfl
  | a :: l, i + 1, x, h => by
    have ih := take_one (l := l) (i := i) (x := x) h
    show a :: l.take (i + 1) = a :: l.take i ++ [x]
    rw [ih]
    rfl
theorem cnt_take {on T s : Int} {ns : List Int} {i : Nat} {n : Int} (h : ns[i]? = some n) : LtM.cnt on T s (ns.take (i + 1)) = LtM.cnt on T s (ns.take i) + (if (s - n) % T < on then 1 else 0) := by
  rw [take_one h]
  unfold LtM.cnt
  rw [List.countP_append, List.countP_cons, List.countP_nil]
  simp only [decide_eq_true_eq]
  omega
theorem map_take {α : Type} {ns : List Int} {i : Nat} {n : Int} (g : Int → α) (h : ns[i]? = some n) : (ns.take (i + 1)).map g = (ns.take i).map g ++ [g n] := by
  rw [take_one h, List.map_append]
  rfl
theorem b_enum : bootBuiltins "enumerate" = some (.type "enumerate") := by decide +kernel
theorem b_min : bootBuiltins "min" = some (.builtin "min") := by decide +kernel
theorem b_max : bootBuiltins "max" = some (.builtin "max") := by decide +kernel
theorem b_range : bootBuiltins "range" = some (.type "range") := by decide +kernel
theorem paired_len {α β : Type} {R : α → β → Prop} {xs : List α} {ys : List β} (r : Paired R xs ys) : xs.length = ys.length := Paired.length r
theorem pairs_on {H H' : Hp} {ts : List Addr} {ps : List (Int × Int)} (h : PairsAt H ts ps) (k : ∀ b xs, H b = some (.tup xs) → H' b = some (.tup xs)) : PairsAt H' ts ps := by
  induction h with
  | nil => exact .nil
  | cons h1 h2 ih => exact .cons (k _ _ h1) ih
theorem pairs_app {H : Hp} : ∀ {ts : List Addr} {ps : List (Int × Int)} {t : Addr} {p : Int × Int}, PairsAt H ts ps → H t = some (.tup [.int p.1, .int p.2]) → PairsAt H (ts ++ [t]) (ps ++ [p])
  | _, _, _, _, .nil, h => .cons h .nil
  | _, _, _, _, .cons h1 h2, h => .cons h1 (pairs_app h2 h)
section
variable {P : Program} {w : World} {K : PySem.W.Frag} {mg : Str → Option Value} {base : Heap} {C fI fR f : Addr} {fd : FuncData}
/-! ### those_on -/
theorem scThose : FnScope ["self", "slot", "k", "begin"] ["self", "slot"] (defScope sThose) := ⟨rfl, rfl, rfl, by decide +kernel, rfl, by decide +kernel, by decide +kernel⟩
theorem met_those (F : FD K "those_on" "Round.those_on" sThose [] f fd) (T : Txt K mg C fI fR) (me : Meth K C "those_on" f) (mT : C8.Met P w K mg base 1 C "turn" (spGetI C fun on off => on + off) []) : C8.Met P w K mg base 2 C "those_on" (spThose C) [] := by
  have G : FnOk P w K mg base C8.CX0 2 f fd ["self", "slot"] (spThose C) := by
    refine fok F scThose (fun vs H Q E h => ?_) (fun cdv A outer s H vs Q E hr h => ?_)
    · obtain ⟨p, l, on, off, c, ns, rfl, _⟩ := h
      rfl
    · obtain ⟨p, l, on, off, c, ns, rfl, R, hT, hl, q⟩ := h
      obtain ⟨⟨dx, h1⟩, h2⟩ := id R
      refine ⟨_, pss_one (ps_ret (pe_lc (own := [("k", 2), ("begin", 3)]) rfl scThose.nd (pi_enum (by rfl) T.enumerate (pa_cons (pe_fld (pv 0) rfl) pa_nil)) (blkOk_by (N := ["self", "slot", "k", "begin"]) (sc := defScope sThose) (by decide +kernel))
        (fun _ _ _ _ _ => kTup (K := K) (n := 2) rfl rfl (pgs_cons (pg_name (i := 2) scThose.nd rfl (Or.inl rfl)) (pgs_cons (pg_name (i := 3) scThose.nd rfl (Or.inl rfl)) pgs_nil)))
        (fun _ _ _ _ _ => pts_one (pt_cmpR op_lt (pe_op op_mod (pe_op op_sub (pv 1) (pv 3)) (C8.pe_mt0 mT hr (Nat.le_refl _) (pv 0))) (kFld (K := K) rfl (pv 0) rfl) (nomark _)))
        (fun _ _ _ _ _ => pv 2))), ?_⟩
      refine ⟨_, rfl, p, C, dx, _, _, rfl, h1, T.cl, T.nSt, rf_st _ _ _, l, _, rfl, SqL.of h2, fun D hD => ?_⟩
      refine lc_it (walk_enum (K := K) (a := l) (xs := ns.map V.int)) (fun i H2 => Same H H2 ∧ ∃ ks, H2 D = some (.lst ks) ∧ ks.length = LtM.cnt on (on + off) c (ns.take i)) ⟨same_upd hD, [], upd_same, rfl⟩ (fun i H2 _ p => SqL.of (p.1 _ _ h2)) (fun i x H2 H3 hi p y => ?_) (fun H2 p => ?_)
      · obtain ⟨s1, ks, hk, hkl⟩ := p
        obtain ⟨t, x1, x2, rfl, ht, rfl, e1, e2⟩ := y
        cases e1
        obtain ⟨n, hn, rfl⟩ := int_at e2
        have il : i < ns.length := (List.getElem?_eq_some_iff.mp hn).1
        have s2 : Same H2 (upd H2 t (.tup [V.int (i : Nat), V.int n])) := same_upd ht
        refine ⟨t, _, rfl, SqT.of upd_same, rfl, _, _, rfl, _, _, rfl, rfl, rfl, ?_⟩
        refine ⟨_, rfl, _, rfl, _, _, rfl, rfl, ?_⟩
        refine ⟨_, rfl, p, dx, _, rfl, s2 _ _ (s1 _ _ h1), rf_no _ _ _ (by decide +kernel) (by decide +kernel) (by decide +kernel), p, l, on, off, ns, rfl, (R.same s1).same s2, ?_⟩
        refine ⟨_, _, rfl, rfl, hT, ?_⟩
        refine ⟨_, rfl, p, C, dx, _, _, rfl, s2 _ _ (s1 _ _ h1), T.cl, T.nOn, rf_on _ _ _, _, _, rfl, rfl, _, rfl, ?_⟩
        have hkD := s2 _ _ hk
        refine ite2 (fun hc => ?_) (fun hc => ?_)
        · have hc : (c - n) % (on + off) < on := of_decide_eq_true hc
          refine ⟨_, rfl, ks, hkD, ?_, ?_⟩
          · have := List.countP_le_length (p := fun b => decide ((c - b) % (on + off) < on)) (l := ns.take i)
            have e3 : LtM.cnt on (on + off) c (ns.take i) ≤ (ns.take i).length := this
            rw [List.length_take] at e3
            exact line1000 (by omega)
          · refine ⟨fun b o e => ?_, _, upd_same, ?_⟩
            · rw [upd_ne (ne_of_none e hD)]
              exact s2 _ _ (s1 _ _ e)
            · rw [List.length_append, hkl, cnt_take hn, if_pos hc]
              rfl
        · have hc : ¬ (c - n) % (on + off) < on := fun z => hc (decide_eq_true z)
          refine ⟨fun b o e => s2 _ _ (s1 _ _ e), ks, hkD, ?_⟩
          rw [hkl, cnt_take hn, if_neg hc, Nat.add_zero]
      · obtain ⟨s1, ks, hk, hkl⟩ := p
        rw [List.length_map, List.take_length] at hkl
        exact q D ks _ s1 hD hk hkl
  exact ⟨f, fd, _, [], T.cl, me, G, F.bindsN fun _ _ _ _ _ _ us hl => match us, hl with | [_, _], _ => rfl, .nil⟩
end
end Lt
/-! The least, even rounds. -/
namespace Lt
open PySem PySem.Spec PyProof.Rows L2 LtM
theorem cands_eq (on T : Int) (ns : List Int) : [V.int 0] ++ (ns.map fun b => (b + on) % T).map V.int = (cands on T ns).map V.int := rfl
theorem cands_len (on T : Int) (ns : List Int) : (cands on T ns).length = ns.length + 1 := by
  unfold cands
  rw [List.length_cons, List.length_map]
section
variable {P : Program} {w : World} {K : PySem.W.Frag} {mg : Str → Option Value} {base : Heap} {C fI fR f : Addr} {fd : FuncData}
/-! ### least -/
theorem scLeast : FnScope ["self", "slots", "begin", "slot"] ["self"] (defScope sLeast) := ⟨rfl, rfl, rfl, by decide +kernel, rfl, by decide +kernel, by decide +kernel⟩
theorem met_least (F : FD K "least" "Round.least" sLeast [] f fd) (T : Txt K mg C fI fR) (me : Meth K C "least" f) (mT : C8.Met P w K mg base 1 C "turn" (spGetI C fun on off => on + off) []) (mO : C8.Met P w K mg base 2 C "those_on" (spThose C) []) :
    C8.Met P w K mg base 3 C "least" (spLeast C) [] := by
  have G : FnOk P w K mg base C8.CX0 3 f fd ["self"] (spLeast C) := by
    refine fok F scLeast (fun vs H Q E h => ?_) (fun cdv A outer s H vs Q E hr h => ?_)
    · obtain ⟨p, l, on, off, ns, rfl, _⟩ := h
      rfl
    · obtain ⟨p, l, on, off, ns, rfl, R, hT, hl, q⟩ := h
      obtain ⟨⟨dx, h1⟩, h2⟩ := id R
      refine ⟨_, pss_cons (ps_set (i := 1) scLeast.nd rfl (Or.inl rfl) (pe_op op_cat (pe_lst (pa_cons pe_int pa_nil))
          (pe_lc (own := [("begin", 2)]) rfl scLeast.nd (pi_list (pe_fld (pv 0) rfl)) (blkOk_by (N := ["self", "slots", "begin", "slot"]) (sc := defScope sLeast) (by decide +kernel))
            (fun _ _ _ _ _ => pg_name (i := 2) scLeast.nd rfl (Or.inl rfl)) (fun _ _ _ _ _ => pts_nil)
            (fun _ _ _ _ _ => pe_op op_mod (pe_op op_add (pv 2) (kFld (K := K) rfl (pv 0) rfl)) (C8.pe_mt0 mT hr (by decide) (pv 0))))))
        (pss_one (ps_ret (pe_callB (cr_minP hr rfl) (by rfl) T.min b_min (pa_cons
          (pe_lc (own := [("slot", 3)]) rfl scLeast.nd (pi_list (pv 1)) (blkOk_by (N := ["self", "slots", "begin", "slot"]) (sc := defScope sLeast) (by decide +kernel))
            (fun _ _ _ _ _ => pg_name (i := 3) scLeast.nd rfl (Or.inl rfl)) (fun _ _ _ _ _ => pts_nil)
            (fun _ _ _ _ _ => pe_tup (pa_cons (pe_callB (kLen (K := K) rfl) (by rfl) T.len b_len (pa_cons (C8.pe_mt mO hr (Nat.le_refl _) (pv 0) (pa_cons (pv 3) pa_nil)) pa_nil)) (pa_cons (pv 3) pa_nil)))) pa_nil)))), ?_⟩
      -- [0]
      refine ⟨(by show 1 ≤ sizeLine; decide), fun z hz => ?_⟩
      have sz : Same H (upd H z (.lst [V.int 0])) := same_upd hz
      -- the slots at which one goes off
      refine ⟨_, rfl, p, C, dx, _, _, rfl, sz _ _ h1, T.cl, T.nSt, rf_st _ _ _, l, rfl, ⟨_, SqL.of (sz _ _ h2)⟩, fun D hD => ?_⟩
      refine lc_list (K := K) (a := l) (xs := ns.map V.int) (fun i H2 => Same (upd H z (.lst [V.int 0])) H2 ∧ H2 D = some (.lst (((ns.take i).map fun b => (b + on) % (on + off)).map V.int))) ⟨same_upd hD, upd_same⟩
        (fun i H2 _ p => SqL.of (p.1 _ _ (sz _ _ h2))) (fun i x H2 hx p2 => ?_) (fun H2 p2 => ?_)
      · obtain ⟨n, hn, rfl⟩ := int_at hx
        have il : i < ns.length := (List.getElem?_eq_some_iff.mp hn).1
        have h3 := p2.1 _ _ (sz _ _ h1)
        refine ⟨rfl, ?_⟩
        refine ⟨_, rfl, _, rfl, p, C, dx, _, _, rfl, h3, T.cl, T.nOn, rf_on _ _ _, _, _, rfl, rfl, ?_⟩
        refine ⟨_, rfl, p, dx, _, rfl, h3, rf_no _ _ _ (by decide +kernel) (by decide +kernel) (by decide +kernel), p, l, on, off, ns, rfl, (R.same sz).same p2.1, ?_⟩
        refine ⟨_, _, rfl, rfl, hT, _, p2.2, ?_, ?_⟩
        · rw [List.length_map, List.length_map, List.length_take]
          exact line1000 (by omega)
        · refine ⟨fun b o e => ?_, ?_⟩
          · rw [upd_ne (ne_of_none e hD)]
            exact p2.1 _ _ e
          · rw [upd_same, map_take (fun b => (b + on) % (on + off)) hn, List.map_append]
            rfl
      · obtain ⟨s2, hD2⟩ := p2
        rw [List.length_map, List.take_length] at hD2
        have hz2 := s2 _ _ (upd_same (H := H) (a := z) (o := .lst [V.int 0]))
        refine ⟨z, D, _, _, rfl, rfl, hz2, hD2, ?_, fun e he => ?_⟩
        · rw [List.length_map, List.length_map, sizeLine_eq, List.length_singleton]
          omega
        · rw [cands_eq]
          have sA : Same H (upd H2 e (.lst ((cands on (on + off) ns).map V.int))) := fun b o q1 => same_upd he _ _ (s2 _ _ (sz _ _ q1))
          generalize hH3 : upd H2 e (.lst ((cands on (on + off) ns).map V.int)) = H3 at sA
          have he3 : H3 e = some (.lst ((cands on (on + off) ns).map V.int)) := by
            rw [← hH3]
            exact upd_same
          -- how many there, in each of them
          refine ⟨_, rfl, e, rfl, ⟨_, SqL.of he3⟩, fun M hM => ?_⟩
          refine lc_list (K := K) (a := e) (xs := (cands on (on + off) ns).map V.int) (fun i H4 => Same H3 H4 ∧ ∃ ts, H4 M = some (.lst (ts.map V.ref)) ∧ PairsAt H4 ts (((cands on (on + off) ns).take i).map fun c => ((LtM.cnt on (on + off) c ns : Int), c)))
            ⟨same_upd hM, [], upd_same, .nil⟩ (fun i H4 _ p4 => SqL.of (p4.1 _ _ he3)) (fun i x H4 hx p4 => ?_) (fun H4 p4 => ?_)
          · obtain ⟨c, hc, rfl⟩ := int_at hx
            have il : i < (cands on (on + off) ns).length := (List.getElem?_eq_some_iff.mp hc).1
            rw [cands_len] at il
            obtain ⟨s4, ts, hts, hps⟩ := p4
            refine ⟨rfl, ?_⟩
            refine ⟨_, rfl, p, dx, _, rfl, s4 _ _ (sA _ _ h1), rf_no _ _ _ (by decide +kernel) (by decide +kernel) (by decide +kernel), _, rfl, p, l, on, off, c, ns, rfl, (R.same sA).same s4, hT, hl, fun g ks H5 s5 g0 hg hgl => ?_⟩
            refine ⟨g, ks, rfl, .inl (SqL.of hg), _, rfl, (by show 2 ≤ sizeLine; decide), fun t ht => ?_⟩
            have tl := paired_len hps
            rw [List.length_map, List.length_take] at tl
            have nMt : M ≠ t := ne_of_none (s5 _ _ hts) ht
            refine ⟨ts.map V.ref, by rw [upd_ne nMt]; exact s5 _ _ hts, ?_, ?_⟩
            · rw [List.length_map]
              exact line1000 (by omega)
            · refine ⟨fun b o q1 => ?_, ts ++ [t], ?_, ?_⟩
              · rw [upd_ne (ne_of_none q1 hM), upd_ne (ne_of_none (s5 _ _ (s4 _ _ q1)) ht)]
                exact s5 _ _ (s4 _ _ q1)
              · rw [upd_same, List.map_append]
                rfl
              · rw [map_take (fun c => ((LtM.cnt on (on + off) c ns : Int), c)) hc]
                refine pairs_app (pairs_on hps fun b xs q1 => ?_) ?_
                · have nb : b ≠ M := ne_of q1 hts (by intro z; cases z)
                  rw [upd_ne nb, upd_ne (ne_of_none (s5 _ _ q1) ht)]
                  exact s5 _ _ q1
                · rw [upd_ne nMt.symm, upd_same, hgl]
          · obtain ⟨s4, ts, hts, hps⟩ := p4
            rw [List.length_map, List.take_length] at hps
            refine ⟨M, ts, _, rfl, SqL.of hts, hps, ?_, fun t pr hp hmin ht => ?_⟩
            · intro z0
              have := congrArg List.length z0
              rw [List.length_map, cands_len] at this
              cases this
            · obtain ⟨c, hc, rfl⟩ := List.mem_map.mp hp
              exact q t _ c H4 (sA.trans s4) ht hc rfl fun d hd => hmin _ (List.mem_map.mpr ⟨d, hd, rfl⟩)
  exact ⟨f, fd, _, [], T.cl, me, G, F.bindsN fun _ _ _ _ _ _ us hl => match us, hl with | [_], _ => rfl, .nil⟩
end
end Lt
/-! Even rounds. -/
namespace Lt
open PySem PySem.Spec PyProof.Rows L2 LtM
theorem evens_take (on off : Int) (m i : Nat) (h : i < m) : (evens on off m).take (i + 1) = (evens on off m).take i ++ [(-((-(i : Int) * (on + off)) / (m : Int))) % (on + off)] := by
  refine take_one ?_
  unfold evens
  rw [List.getElem?_map, List.getElem?_range h]
  rfl
section
variable {P : Program} {w : World} {K : PySem.W.Frag} {mg : Str → Option Value} {base : Heap} {C fI fR f : Addr} {fd : FuncData}
/-! ### evenly_spread -/
theorem scSpread : FnScope ["on", "off", "many", "turn", "k"] ["on", "off", "many"] (defScope sSpread) := ⟨rfl, rfl, rfl, by decide +kernel, rfl, by decide +kernel, by decide +kernel⟩
theorem cal_spread (F : FD K "evenly_spread" "evenly_spread" sSpread [] f fd) (T : Txt K mg C fI fR) (hm : mg "evenly_spread" = some (.ref f)) (mR : C8.Mak P w K mg base 3 "Round" C (spInit C) []) : C8.Cal P w K mg base 5 "evenly_spread" (spEven C) [] := by
  have G : FnOk P w K mg base C8.CX0 5 f fd ["on", "off", "many"] (spEven C) := by
    refine fok F scSpread (fun vs H Q E h => ?_) (fun cdv A outer s H vs Q E hr h => ?_)
    · obtain ⟨on, off, m, rfl, _⟩ := h
      rfl
    · obtain ⟨on, off, m, rfl, z, hm, q⟩ := h
      have z1 := z.a
      have z3 := z.c
      refine ⟨_, pss_cons (ps_set (i := 3) scSpread.nd rfl (Or.inr rfl) (pe_op op_add (pv 0) (pv 1)))
        (pss_one (ps_ret (C8.pe_mk mR hr (Nat.le_refl _) (by rfl) (pa_cons (pv 0) (pa_cons (pv 1) (pa_cons
          (pe_lc (own := [("k", 4)]) rfl scSpread.nd (pi_range1 (by rfl) T.range (pa_cons (pv 2) pa_nil)) (blkOk_by (N := ["on", "off", "many", "turn", "k"]) (sc := defScope sSpread) (by decide +kernel))
            (fun _ _ _ _ _ => pg_name (i := 4) scSpread.nd rfl (Or.inl rfl)) (fun _ _ _ _ _ => pts_nil)
            (fun _ _ _ _ _ => pe_op op_mod (pe_un un_neg (pe_op op_fdiv (pe_op op_mul (pe_un un_neg (pv 4)) (pv 3)) (pv 2))) (pv 3))) pa_nil)))))), ?_⟩
      refine ⟨_, rfl, _, rfl, on, off, rfl, rfl, ?_⟩
      refine ⟨_, rfl, _, rfl, _, rfl, (m : Int), rfl, by omega, by omega, fun D hD => ?_⟩
      have em : ((m : Int)).toNat = m := Int.toNat_natCast m
      rw [em]
      refine lc_range (lo := 0) (n := m) (fun i H2 => Same H H2 ∧ H2 D = some (.lst (((evens on off m).take i).map V.int))) ⟨same_upd hD, upd_same⟩ (fun i H2 hi p => ?_) (fun H2 p => ?_)
      · refine ⟨rfl, ?_⟩
        refine ⟨_, rfl, _, rfl, _, rfl, _, _, rfl, rfl, .inl ⟨by omega, by omega⟩, _, rfl, _, _, rfl, rfl, ⟨by omega, by omega⟩, _, rfl, _, rfl, _, _, rfl, rfl, (by show 0 < on + off; omega), _, p.2, ?_, ?_⟩
        · rw [List.length_map, List.length_take, evens_len]
          exact line1000 (by omega)
        · refine ⟨fun b o e => ?_, ?_⟩
          · rw [upd_ne (ne_of_none e hD)]
            exact p.1 _ _ e
          · rw [upd_same, evens_take on off m i hi, List.map_append, Int.zero_add]
            rfl
      · obtain ⟨s1, h1⟩ := p
        have e : (evens on off m).take m = evens on off m := by
          rw [List.take_of_length_le]
          rw [evens_len]
          omega
        rw [e] at h1
        intro x dx hx hdx ne
        have s2 : Same H2 (upd (upd H2 dx (.own x)) x (.ins C dx [])) := fun b o e => by
          rw [upd_ne (ne_of_none e hx), upd_ne (ne_of_none e hdx)]
          exact e
        refine ⟨x, D, dx, on, off, evens on off m, rfl, upd_same, s2 _ _ h1, z1, z3, by rw [evens_len]; exact hm, evens_in on off m z1 z3, fun l H3 hl R k => ⟨rfl, ?_⟩⟩
        refine q x l H3 (fun b o e => ?_) ((s1.free hx)) ((s1.trans s2).free hl) R
        exact k b o (s2 _ _ (s1 _ _ e)) (ne_of_none (s1 _ _ e) hx)
  exact ⟨f, fd, _, [], G, hm, F.kp, F.bindsN fun _ _ _ _ _ _ us hl => match us, hl with | [_, _, _], _ => rfl, .nil⟩
/-! ### even_round -/
theorem scEven : FnScope ["on", "off", "many"] ["on", "off", "many"] (defScope sEven) := ⟨rfl, rfl, rfl, by decide +kernel, rfl, by decide +kernel, by decide +kernel⟩
theorem ok_even (F : FD K "even_round" "even_round" sEven [] f fd) (T : Txt K mg C fI fR) (cW : C8.Cal P w K mg base 2 "want_turn" spWant []) (c1 : C8.Cal P w K mg base 1 "is_whole" spWhole [.int 0]) (cS : C8.Cal P w K mg base 5 "evenly_spread" (spEven C) []) :
    FnOk P w K mg base C8.CX0 6 f fd ["on", "off", "many"] (spEven C) := by
  refine fok F scEven (fun vs H Q E h => ?_) (fun cdv A outer s H vs Q E hr h => ?_)
  · obtain ⟨on, off, m, rfl, _⟩ := h
    rfl
  · obtain ⟨on, off, m, rfl, z, hm, q⟩ := h
    have z1 := z.a
    have z3 := z.c
    obtain ⟨tm, em⟩ := T.most
    refine ⟨_, pss_cons (ps_expr (C8.pe_c cW hr (by decide) (by rfl) (pa_cons (pv 0) (pa_cons (pv 1) pa_nil))))
      (pss_cons (ps_if (PW.pt (pw_or (pt_not (pt_val (C8.pe_c c1 hr (by decide) (by rfl) (pa_cons (pv 2) pa_nil)))) (pw_or1 (pt_cmpR op_gt (pv 2) (C8.pe_gc (v := .int 40) (by rfl) ⟨_, em, tm, rfl⟩) (nomark _))))) (pss_one ps_never) pss_nil)
      (pss_one (ps_ret (C8.pe_c cS hr (Nat.le_refl _) (by rfl) (pa_cons (pv 0) (pa_cons (pv 1) (pa_cons (pv 2) pa_nil))))))), ?_⟩
    refine ⟨_, rfl, _, rfl, on, off, rfl, z1, z3, ?_⟩
    have e0 : decide ((0 : Int) ≤ (m : Int)) = true := decide_eq_true (by omega)
    have e1 : decide ((40 : Int) < (m : Int)) = false := decide_eq_false (by omega)
    refine ⟨_, rfl, (m : Int), 0, rfl, _, rfl, ?_⟩
    show (if (!decide ((0 : Int) ≤ (m : Int))) = true then _ else _)
    rw [e0]
    refine iteF ?_
    refine ⟨_, rfl, _, _, rfl, rfl, _, rfl, ?_⟩
    rw [e1]
    refine iteF ?_
    exact ⟨_, rfl, _, rfl, _, rfl, on, off, m, rfl, z, hm, q⟩
theorem even_binds (F : FD K "even_round" "even_round" sEven [] f fd) : Binds K fd ["on", "off", "many"] [] := F.bindsN fun _ _ _ _ _ _ us hl => match us, hl with | [_, _, _], _ => rfl
/-- the three by keywords: many, on, off -/
def rot {α : Type} (_ zs : List α) : List α := match zs with
  | [m, a, b] => [a, b, m]
  | _ => []
theorem even_kw (F : FD K "even_round" "even_round" sEven [] f fd) : KBn K fd ["on", "off", "many"] 0 ["many", "on", "off"] rot rot := by
  obtain ⟨oc, od, dV, kV, doc, pm, an, cdv, ct, osl, rfl, lk, hcd, hD, hK⟩ := F.ex
  rcases hD with ⟨_, rfl⟩ | ⟨e, _⟩
  · refine ⟨fun s us ws X h1 h2 => ?_, fun {vs us zs ws} r1 r2 => ?_⟩
    · match us, ws, h1, h2 with
      | [], [_, _, _], _, _ => exact .of_eq rfl
    · cases r2 with
      | nil => exact .nil
      | cons a t =>
        cases t with
        | nil => exact .nil
        | cons b t =>
          cases t with
          | nil => exact .nil
          | cons c t =>
            cases t with
            | nil => exact .cons b (.cons c (.cons a .nil))
            | cons d t => exact .nil
  · exact absurd rfl e
end
end Lt
/-! The law's draws. -/
namespace Lt
open PySem PySem.Spec PyProof.Rows L2 LtM
/-- a pot of digits stands at q -/
def PotAt (H : Hp) (q : Addr) : Prop := ∃ a b : Int, H q = some (.lst [.int a, .int b]) ∧ 0 ≤ a ∧ 0 ≤ b ∧ b < 2147483647
/-- all that was tracked is as it was, but at q -/
def But (q : Addr) (H H' : Hp) : Prop := ∀ b o, H b = some o → b ≠ q → H' b = some o
theorem But.refl (q : Addr) (H : Hp) : But q H H := fun _ _ h _ => h
theorem But.trans {q : Addr} {H H1 H2 : Hp} (a : But q H H1) (b : But q H1 H2) : But q H H2 := fun c o h n => b c o (a c o h n) n
theorem But.of {q : Addr} {H H' : Hp} (s : Same H H') : But q H H' := fun b o h _ => s b o h
theorem But.free {q l : Addr} {H H' : Hp} (k : But q H H') (hq : H' q ≠ none) (h : H' l = none) : H l = none := by
  cases e : H l with
  | none => rfl
  | some o =>
    have n : l ≠ q := fun z => hq (z ▸ h)
    rw [k l o e n] at h
    cases h
theorem PotAt.some {H : Hp} {q : Addr} (h : PotAt H q) : H q ≠ none := by
  obtain ⟨a, b, e, _⟩ := h
  rw [e]
  intro z
  cases z
theorem PotAt.upd {H : Hp} {q p : Addr} {o : HO} (h : PotAt H q) (hp : H p = none) : PotAt (upd H p o) q := by
  obtain ⟨a, b, e, k⟩ := h
  exact ⟨a, b, same_upd hp _ _ e, k⟩
theorem PotAt.same {H H' : Hp} {q : Addr} (h : PotAt H q) (s : Same H H') : PotAt H' q := by
  obtain ⟨a, b, e, k⟩ := h
  exact ⟨a, b, s _ _ e, k⟩
/-! ### the promises -/
def spCell (K : PySem.W.Frag) : Sp := fun vs H Q _ => ∃ (a : Addr) (ns : List Int) (k : Int), vs = [.ref a, .int k] ∧ SqL K H a (ns.map V.int) ∧ 0 ≤ k ∧ ∀ n : Int, Q (.int n) H
def spPot (K : PySem.W.Frag) : Sp := fun vs H Q _ => ∃ (a : Addr) (ns : List Int) (k : Int), vs = [.ref a, .int k] ∧ SqL K H a (ns.map V.int) ∧ 0 ≤ k ∧ k ≤ 100 ∧ ∀ (q : Addr) (H' : Hp), H q = none → Same H H' → PotAt H' q → Q (.ref q) H'
def spTake : Sp := fun vs H Q _ => ∃ (q : Addr) (n : Int), vs = [.ref q, .int n] ∧ PotAt H q ∧ 0 < n ∧ Sm n ∧ ∀ (d : Int) (H' : Hp), 0 ≤ d → d < n → But q H H' → PotAt H' q → Q (.int d) H'
def spNumber : Sp := fun vs H Q _ => ∃ (q : Addr) (n : Int), vs = [.ref q, .int n] ∧ PotAt H q ∧ 0 < n ∧ n ≤ 100 ∧ ∀ (d : Int) (H' : Hp), 0 ≤ d → d < B → But q H H' → PotAt H' q → Q (.int d) H'
def spTurns : Sp := fun vs H Q _ => ∃ q : Addr, vs = [.ref q] ∧ PotAt H q ∧ ∀ (t : Addr) (on off : Int) (H' : Hp), Sz on off → But q H H' → PotAt H' q → H' t = some (.tup [.int on, .int off]) → Q (.ref t) H'
theorem b_abs : bootBuiltins "abs" = some (.builtin "abs") := by decide +kernel
theorem b_divmod : bootBuiltins "divmod" = some (.builtin "divmod") := by decide +kernel
theorem sm_small {n : Int} (h0 : 0 ≤ n) (h : n ≤ 1000) : Sm n := Sm.of (by have := B_pos; omega) (by have := B_pos; omega)
section
variable {P : Program} {w : World} {K : PySem.W.Frag} {mg : Str → Option Value} {base : Heap} {C fI fR f : Addr} {fd : FuncData}
/-! ### _law_cell -/
theorem scCell : FnScope ["_law_script", "_law_k"] ["_law_script", "_law_k"] (defScope sCell) := ⟨rfl, rfl, rfl, by decide +kernel, rfl, by decide +kernel, by decide +kernel⟩
theorem cal_cell (F : FD K "_law_cell" "_law_cell" sCell [] f fd) (T : Txt K mg C fI fR) (hm : mg "_law_cell" = some (.ref f)) : C8.Cal P w K mg base 1 "_law_cell" (spCell K) [] := by
  have G : FnOk P w K mg base C8.CX0 1 f fd ["_law_script", "_law_k"] (spCell K) := by
    refine fok F scCell (fun vs H Q E h => ?_) (fun cdv A outer s H vs Q E hr h => ?_)
    · obtain ⟨a, ns, k, rfl, _⟩ := h
      rfl
    · obtain ⟨a, ns, k, rfl, hs, h0, q⟩ := h
      refine ⟨_, pss_cons (ps_if (pt_cmpR op_lt (pv 1) (pe_callB call_len_seq (by rfl) T.len b_len (pa_cons (pv 0) pa_nil)) (nomark _)) (pss_one (ps_ret (pe_ix ix_list (pv 0) (pv 1) (fun _ _ => rfl)))) pss_nil)
        (pss_one (ps_ret pe_int)), ?_⟩
      refine ⟨_, rfl, _, rfl, a, _, rfl, .inl hs, _, _, rfl, rfl, _, rfl, ?_⟩
      refine ite2 (fun hc => ?_) (fun _ => q 0)
      have hc := of_decide_eq_true hc
      rw [List.length_map] at hc
      have hi : k.toNat < ns.length := by omega
      refine ⟨_, rfl, _, rfl, a, _, k, .int (ns[k.toNat]), rfl, rfl, hs, ?_, q _⟩
      refine at_of (j := k.toNat) (by omega) ?_
      rw [List.getElem?_map, List.getElem?_eq_getElem hi]
      rfl
  exact ⟨f, fd, _, [], G, hm, F.kp, F.bindsN fun _ _ _ _ _ _ us hl => match us, hl with | [_, _], _ => rfl, .nil⟩
/-! ### _law_pot -/
theorem scPot : FnScope ["_law_script", "_law_k", "_law_cell_here"] ["_law_script", "_law_k"] (defScope sPot) := ⟨rfl, rfl, rfl, by decide +kernel, rfl, by decide +kernel, by decide +kernel⟩
theorem cal_pot (F : FD K "_law_pot" "_law_pot" sPot [] f fd) (T : Txt K mg C fI fR) (hm : mg "_law_pot" = some (.ref f)) (cC : C8.Cal P w K mg base 1 "_law_cell" (spCell K) []) : C8.Cal P w K mg base 2 "_law_pot" (spPot K) [] := by
  have G : FnOk P w K mg base C8.CX0 2 f fd ["_law_script", "_law_k"] (spPot K) := by
    refine fok F scPot (fun vs H Q E h => ?_) (fun cdv A outer s H vs Q E hr h => ?_)
    · obtain ⟨a, ns, k, rfl, _⟩ := h
      rfl
    · obtain ⟨a, ns, k, rfl, hs, h0, h1, q⟩ := h
      refine ⟨_, pss_cons (ps_set (i := 2) scPot.nd rfl (Or.inl rfl) (C8.pe_c cC hr (Nat.le_refl _) (by rfl) (pa_cons (pv 0) (pa_cons (pv 1) pa_nil))))
        (pss_one (ps_ret (pe_lst (pa_cons (pe_callB (call_max2 rfl) (by rfl) T.max b_max (pa_cons pe_int (pa_cons (pe_op op_sub (pv 2) (pe_op op_pow pe_int pe_int)) pa_nil)))
          (pa_cons (pe_op op_mod (pe_op op_add (pe_op op_mod (pe_callB call_abs (by rfl) T.abs b_abs (pa_cons (pv 2) pa_nil)) pe_int) (pe_op op_mul pe_int (pe_op op_add (pv 1) pe_int))) pe_int) pa_nil))))), ?_⟩
      refine ⟨_, rfl, _, rfl, a, ns, k, rfl, hs, h0, fun n => ?_⟩
      refine ⟨_, rfl, 10, 18, rfl, rfl, ⟨by decide, by decide, by decide⟩, n, _, rfl, rfl, 0, _, rfl, ?_⟩
      refine ⟨_, rfl, n, rfl, _, 2147483629, rfl, rfl, (by show (0 : Int) < 2147483629; decide), ?_⟩
      refine ⟨_, rfl, k, 1, rfl, rfl, 48271, k + 1, rfl, rfl, .inl ⟨by decide, by decide⟩, _, _, rfl, rfl, _, 2147483629, rfl, rfl, (by show (0 : Int) < 2147483629; decide), ?_⟩
      refine ⟨(by show 2 ≤ sizeLine; decide), fun p hp => ?_⟩
      refine q p _ hp (same_upd hp) ⟨_, _, upd_same, ?_, Int.emod_nonneg _ (by decide), Int.lt_trans (Int.emod_lt_of_pos _ (by decide)) (by decide)⟩
      split <;> omega
  exact ⟨f, fd, _, [], G, hm, F.kp, F.bindsN fun _ _ _ _ _ _ us hl => match us, hl with | [_, _], _ => rfl, .nil⟩
/-! ### _law_take -/
theorem scTake : FnScope ["_law_pot_here", "_law_keepers", "_law_digit"] ["_law_pot_here", "_law_keepers"] (defScope sTake) := ⟨rfl, rfl, rfl, by decide +kernel, rfl, by decide +kernel, by decide +kernel⟩
theorem cal_take (F : FD K "_law_take" "_law_take" sTake [] f fd) (T : Txt K mg C fI fR) (hm : mg "_law_take" = some (.ref f)) : C8.Cal P w K mg base 1 "_law_take" spTake [] := by
  have G : FnOk P w K mg base C8.CX0 1 f fd ["_law_pot_here", "_law_keepers"] spTake := by
    refine fok F scTake (fun vs H Q E h => ?_) (fun cdv A outer s H vs Q E hr h => ?_)
    · obtain ⟨q, n, rfl, _⟩ := h
      rfl
    · obtain ⟨q, n, rfl, ⟨a, b, hq, a0, b0, b1⟩, n0, n1, k⟩ := h
      refine ⟨_, pss_cons (ps_if (pt_cmpR op_gt (pe_ix ix_list (pv 0) pe_int (fun _ _ => rfl)) pe_int (nomark _))
          (pss_cons (ps_asg (pe_callB call_divmodW (by rfl) T.divmod b_divmod (pa_cons (pe_ix ix_list (pv 0) pe_int (fun _ _ => rfl)) (pa_cons (pv 1) pa_nil)))
              (pg_tup rfl (pgs_cons (pg_sub (pv 0) pe_int set_list) (pgs_cons (pg_name (i := 2) scTake.nd rfl (.inl rfl)) pgs_nil))))
            (pss_one (ps_ret (pv 2)))) pss_nil)
        (pss_cons (ps_asg (pe_op op_mod (pe_op op_add (pe_op op_mul (pe_ix ix_list (pv 0) pe_int (fun _ _ => rfl)) pe_int) pe_int) pe_int) (pg_sub (pv 0) pe_int set_list))
        (pss_one (ps_ret (pe_op op_mod (pe_op op_fdiv (pe_op op_mod (pe_op op_mul (pe_ix ix_list (pv 0) pe_int (fun _ _ => rfl)) (pe_ix ix_list (pv 0) pe_int (fun _ _ => rfl))) pe_int) pe_int) (pv 1))))), ?_⟩
      refine ⟨_, rfl, q, _, 0, .int a, rfl, rfl, SqL.of hq, atI_nat (j := 0) rfl, _, _, rfl, rfl, _, rfl, ?_⟩
      refine ite2 (fun hc => ?_) (fun hc => ?_)
      · refine ⟨_, rfl, q, _, 0, .int a, rfl, rfl, SqL.of hq, atI_nat (j := 0) rfl, _, rfl, a, n, rfl, ⟨n0, PyProof.noPylong_of_log2 (Nat.lt_of_lt_of_le (PySem.Flt.log2_lt_of (by decide) n1) (by decide))⟩, fun t ht => ?_⟩
        have nqt : q ≠ t := ne_of_none hq ht
        refine ⟨t, _, rfl, SqT.of upd_same, rfl, _, _, rfl, _, rfl, q, _, 0, 0, rfl, rfl, (by rw [upd_ne nqt]; exact hq), rfl, _, _, rfl, rfl, _, rfl, ?_⟩
        refine k _ _ (Int.emod_nonneg _ (by omega)) (Int.emod_lt_of_pos _ n0) (fun c o e ne => ?_) ⟨a / n, b, upd_same, Int.ediv_nonneg a0 (by omega), b0, b1⟩
        rw [upd_ne ne, upd_ne (ne_of_none e ht)]
        exact e
      · refine ⟨_, rfl, q, _, 1, .int b, rfl, rfl, SqL.of hq, atI_nat (j := 1) rfl, b, 39373, rfl, rfl, .inl ⟨by omega, by omega⟩, _, 10007, rfl, rfl, _, 2147483647, rfl, rfl, (by show (0 : Int) < 2147483647; decide), _, rfl, q, _, 1, 1, rfl, rfl, hq, rfl, ?_⟩
        have c0 : 0 ≤ (b * 39373 + 10007) % 2147483647 := Int.emod_nonneg _ (by decide)
        have c1 : (b * 39373 + 10007) % 2147483647 < 2147483647 := Int.emod_lt_of_pos _ (by decide)
        have hq2 : (upd H q (.lst ([V.int a, V.int b].set 1 (V.int ((b * 39373 + 10007) % 2147483647))))) q = some (.lst [V.int a, V.int ((b * 39373 + 10007) % 2147483647)]) := upd_same
        refine ⟨_, rfl, q, _, 1, .int ((b * 39373 + 10007) % 2147483647), rfl, rfl, SqL.of hq2, atI_nat (j := 1) rfl, _, rfl, q, _, 1, .int ((b * 39373 + 10007) % 2147483647), rfl, rfl, SqL.of hq2, atI_nat (j := 1) rfl, ((b * 39373 + 10007) % 2147483647), ((b * 39373 + 10007) % 2147483647), rfl, rfl, .inl ⟨by omega, by omega⟩, _, 2147483587, rfl, rfl, (by show (0 : Int) < 2147483587; decide), _, 17, rfl, rfl, ⟨by decide, by decide⟩, _, rfl, _, n, rfl, rfl, n0, ?_⟩
        refine k _ _ (Int.emod_nonneg _ (by omega)) (Int.emod_lt_of_pos _ n0) (fun d o e ne => ?_) ⟨a, ((b * 39373 + 10007) % 2147483647), hq2, a0, c0, c1⟩
        rw [upd_ne ne]
        exact e
  exact ⟨f, fd, _, [], G, hm, F.kp, F.bindsN fun _ _ _ _ _ _ us hl => match us, hl with | [_, _], _ => rfl, .nil⟩
end
end Lt
/-! The law's numbers, begins, sizes. -/
namespace Lt
open PySem PySem.Spec PyProof.Rows L2 LtM
section
variable {P : Program} {w : World} {K : PySem.W.Frag} {mg : Str → Option Value} {base : Heap} {C fI fR f : Addr} {fd : FuncData}
theorem pow59 : (10 : Int) ^ (59 : Int).toNat = B := rfl
/-! ### _law_number -/
theorem scNumber : FnScope ["_law_pot_here", "_law_most"] ["_law_pot_here", "_law_most"] (defScope sNumber) := ⟨rfl, rfl, rfl, by decide +kernel, rfl, by decide +kernel, by decide +kernel⟩
theorem cal_number (F : FD K "_law_number" "_law_number" sNumber [] f fd) (hm : mg "_law_number" = some (.ref f)) (cT : C8.Cal P w K mg base 1 "_law_take" spTake []) : C8.Cal P w K mg base 2 "_law_number" spNumber [] := by
  have G : FnOk P w K mg base C8.CX0 2 f fd ["_law_pot_here", "_law_most"] spNumber := by
    refine fok F scNumber (fun vs H Q E h => ?_) (fun cdv A outer s H vs Q E hr h => ?_)
    · obtain ⟨q, n, rfl, _⟩ := h
      rfl
    · obtain ⟨q, n, rfl, hp, n0, n1, k⟩ := h
      have bp := B_pos
      refine ⟨_, pss_cons (ps_if (pt_cmpR op_eq (C8.pe_c cT hr (Nat.le_refl _) (by rfl) (pa_cons (pv 0) (pa_cons pe_int pa_nil))) pe_int (nomark _))
          (pss_one (ps_ret (pe_op op_add (pv 1) (C8.pe_c cT hr (Nat.le_refl _) (by rfl) (pa_cons (pv 0) (pa_cons (pe_op op_sub (pe_op op_pow pe_int pe_int) (pv 1)) pa_nil)))))) pss_nil)
        (pss_one (ps_ret (C8.pe_c cT hr (Nat.le_refl _) (by rfl) (pa_cons (pv 0) (pa_cons (pv 1) pa_nil))))), ?_⟩
      refine ⟨_, rfl, q, 4, rfl, hp, by decide, sm_small (by decide) (by decide), fun d H1 d0 d1 k1 p1 => ⟨rfl, _, rfl, ?_⟩⟩
      refine ite2 (fun _ => ?_) (fun _ => ?_)
      · refine ⟨_, rfl, _, rfl, 10, 59, rfl, rfl, ⟨by decide, by decide, by decide⟩, _, rfl, _, n, rfl, rfl, q, B - n, rfl, p1, by omega, Sm.of (by omega) (by omega), fun e H2 e0 e1 k2 p2 => ?_⟩
        exact ⟨n, e, rfl, rfl, k _ _ (by omega) (by omega) (k1.trans k2) p2⟩
      · refine ⟨_, rfl, _, rfl, q, n, rfl, p1, n0, sm_small (by omega) (by omega), fun e H2 e0 e1 k2 p2 => ?_⟩
        exact k _ _ e0 (by omega) (k1.trans k2) p2
  exact ⟨f, fd, _, [], G, hm, F.kp, F.bindsN fun _ _ _ _ _ _ us hl => match us, hl with | [_, _], _ => rfl, .nil⟩
/-! ### _law_begin -/
theorem scBegin : FnScope ["_law_pot_here", "_law_turn_here", "_law_way"] ["_law_pot_here", "_law_turn_here"] (defScope sBegin) := ⟨rfl, rfl, rfl, by decide +kernel, rfl, by decide +kernel, by decide +kernel⟩
theorem cal_begin (F : FD K "_law_begin" "_law_begin" sBegin [] f fd) (hm : mg "_law_begin" = some (.ref f)) (cT : C8.Cal P w K mg base 1 "_law_take" spTake []) : C8.Cal P w K mg base 2 "_law_begin" spTake [] := by
  have G : FnOk P w K mg base C8.CX0 2 f fd ["_law_pot_here", "_law_turn_here"] spTake := by
    refine fok F scBegin (fun vs H Q E h => ?_) (fun cdv A outer s H vs Q E hr h => ?_)
    · obtain ⟨q, n, rfl, _⟩ := h
      rfl
    · obtain ⟨q, n, rfl, hp, n0, n1, k⟩ := h
      refine ⟨_, pss_cons (ps_set (i := 2) scBegin.nd rfl (Or.inl rfl) (C8.pe_c cT hr (Nat.le_refl _) (by rfl) (pa_cons (pv 0) (pa_cons pe_int pa_nil))))
        (pss_cons (ps_if (pt_cmpR op_eq (pv 2) pe_int (nomark _))
          (pss_one (ps_ret (pe_ix ix_list (pe_lst (pa_cons pe_int (pa_cons (pe_op op_sub (pv 1) pe_int) pa_nil))) (C8.pe_c cT hr (Nat.le_refl _) (by rfl) (pa_cons (pv 0) (pa_cons pe_int pa_nil))) (fun _ _ => rfl)))) pss_nil)
        (pss_one (ps_ret (C8.pe_c cT hr (Nat.le_refl _) (by rfl) (pa_cons (pv 0) (pa_cons (pv 1) pa_nil)))))), ?_⟩
      refine ⟨_, rfl, q, 4, rfl, hp, by decide, sm_small (by decide) (by decide), fun d H1 d0 d1 k1 p1 => ?_⟩
      refine ⟨_, rfl, rfl, _, rfl, ?_⟩
      refine ite2 (fun _ => ?_) (fun _ => ?_)
      · refine ⟨_, rfl, n, 1, rfl, rfl, (by show 2 ≤ sizeLine; decide), fun l hl => ?_⟩
        have nlq : l ≠ q := fun z => p1.some (z ▸ hl)
        refine ⟨_, rfl, q, 2, rfl, p1.upd hl, by decide, sm_small (by decide) (by decide), fun e H2 e0 e1 k2 p2 => ?_⟩
        have hl2 : H2 l = some (.lst [V.int 0, V.int (n - 1)]) := k2 _ _ upd_same nlq
        have fin : ∀ (y : Int), 0 ≤ y → y < n → Q (V.int y) H2 := fun y y0 y1 => k _ _ y0 y1 (k1.trans ((But.of (same_upd hl)).trans k2)) p2
        by_cases c : e = 0
        · exact ⟨l, _, e, .int 0, rfl, rfl, SqL.of hl2, by rw [c]; exact atI_nat (j := 0) rfl, fin 0 (by omega) n0⟩
        · have c : e = 1 := by omega
          exact ⟨l, _, e, .int (n - 1), rfl, rfl, SqL.of hl2, by rw [c]; exact atI_nat (j := 1) rfl, fin (n - 1) (by omega) (by omega)⟩
      · refine ⟨_, rfl, _, rfl, q, n, rfl, p1, n0, n1, fun e H2 e0 e1 k2 p2 => ?_⟩
        exact k _ _ e0 e1 (k1.trans k2) p2
  exact ⟨f, fd, _, [], G, hm, F.kp, F.bindsN fun _ _ _ _ _ _ us hl => match us, hl with | [_, _], _ => rfl, .nil⟩
/-! ### _law_turn -/
theorem scLTurn : FnScope ["_law_pot_here"] ["_law_pot_here"] (defScope sLTurn) := ⟨rfl, rfl, rfl, by decide +kernel, rfl, by decide +kernel, by decide +kernel⟩
theorem cal_lturn (F : FD K "_law_turn" "_law_turn" sLTurn [] f fd) (hm : mg "_law_turn" = some (.ref f)) (cN : C8.Cal P w K mg base 2 "_law_number" spNumber []) : C8.Cal P w K mg base 3 "_law_turn" spTurns [] := by
  have G : FnOk P w K mg base C8.CX0 3 f fd ["_law_pot_here"] spTurns := by
    refine fok F scLTurn (fun vs H Q E h => ?_) (fun cdv A outer s H vs Q E hr h => ?_)
    · obtain ⟨q, rfl, _⟩ := h
      rfl
    · obtain ⟨q, rfl, hp, k⟩ := h
      refine ⟨_, pss_one (ps_ret (pe_tup (pa_cons (pe_op op_add pe_int (C8.pe_c cN hr (Nat.le_refl _) (by rfl) (pa_cons (pv 0) (pa_cons pe_int pa_nil)))) (pa_cons (C8.pe_c cN hr (Nat.le_refl _) (by rfl) (pa_cons (pv 0) (pa_cons pe_int pa_nil))) pa_nil)))), ?_⟩
      refine ⟨_, rfl, q, 9, rfl, hp, by decide, by decide, fun d H1 d0 d1 k1 p1 => ⟨1, d, rfl, rfl, ?_⟩⟩
      refine ⟨_, rfl, q, 10, rfl, p1, by decide, by decide, fun e H2 e0 e1 k2 p2 => ⟨(by show 2 ≤ sizeLine; decide), fun t ht => ?_⟩⟩
      exact k t _ _ _ ⟨by omega, by omega, e0, by omega⟩ ((k1.trans k2).trans (But.of (same_upd ht))) (p2.upd ht) upd_same
  exact ⟨f, fd, _, [], G, hm, F.kp, F.bindsN fun _ _ _ _ _ _ us hl => match us, hl with | [_], _ => rfl, .nil⟩
/-! ### _law_sizes -/
theorem scSizes : FnScope ["_law_pot_here", "_law_way"] ["_law_pot_here"] (defScope sSizes) := ⟨rfl, rfl, rfl, by decide +kernel, rfl, by decide +kernel, by decide +kernel⟩
theorem cal_sizes (F : FD K "_law_sizes" "_law_sizes" sSizes [] f fd) (hm : mg "_law_sizes" = some (.ref f)) (cT : C8.Cal P w K mg base 1 "_law_take" spTake []) (cU : C8.Cal P w K mg base 3 "_law_turn" spTurns []) : C8.Cal P w K mg base 4 "_law_sizes" spTurns [] := by
  have G : FnOk P w K mg base C8.CX0 4 f fd ["_law_pot_here"] spTurns := by
    refine fok F scSizes (fun vs H Q E h => ?_) (fun cdv A outer s H vs Q E hr h => ?_)
    · obtain ⟨q, rfl, _⟩ := h
      rfl
    · obtain ⟨q, rfl, hp, k⟩ := h
      have bp := B_pos
      refine ⟨_, pss_cons (ps_set (i := 1) scSizes.nd rfl (Or.inl rfl) (C8.pe_c cT hr (by decide) (by rfl) (pa_cons (pv 0) (pa_cons pe_int pa_nil))))
        (pss_cons (ps_if (pt_cmpR op_eq (pv 1) pe_int (nomark _)) (pss_one (ps_ret (C8.pe_c cU hr (Nat.le_refl _) (by rfl) (pa_cons (pv 0) pa_nil)))) pss_nil)
        (pss_cons (ps_if (pt_cmpR op_eq (pv 1) pe_int (nomark _))
          (pss_one (ps_ret (pe_tup (pa_cons (pe_op op_add pe_int (C8.pe_c cT hr (by decide) (by rfl) (pa_cons (pv 0) (pa_cons pe_int pa_nil)))) (pa_cons (C8.pe_c cT hr (by decide) (by rfl) (pa_cons (pv 0) (pa_cons pe_int pa_nil))) pa_nil))))) pss_nil)
        (pss_one (ps_ret (pe_tup (pa_cons (pe_op op_add pe_int (C8.pe_c cT hr (by decide) (by rfl) (pa_cons (pv 0) (pa_cons pe_int pa_nil)))) (pa_cons (C8.pe_c cT hr (by decide) (by rfl) (pa_cons (pv 0) (pa_cons pe_int pa_nil))) pa_nil))))))), ?_⟩
      refine ⟨_, rfl, q, 4, rfl, hp, by decide, sm_small (by decide) (by decide), fun d H1 d0 d1 k1 p1 => ?_⟩
      refine ⟨_, rfl, rfl, _, rfl, ?_⟩
      refine ite2 (fun _ => ?_) (fun _ => ?_)
      · exact ⟨_, rfl, q, rfl, p1, fun t on off H2 z k2 p2 ht => k t on off H2 z (k1.trans k2) p2 ht⟩
      · refine ⟨_, rfl, rfl, _, rfl, ?_⟩
        refine ite2 (fun _ => ?_) (fun _ => ?_)
        · refine ⟨_, rfl, q, 24, rfl, p1, by decide, sm_small (by decide) (by decide), fun e H2 e0 e1 k2 p2 => ⟨1, e, rfl, rfl, ?_⟩⟩
          refine ⟨_, rfl, q, 25, rfl, p2, by decide, sm_small (by decide) (by decide), fun g H3 g0 g1 k3 p3 => ⟨(by show 2 ≤ sizeLine; decide), fun t ht => ?_⟩⟩
          exact k t _ _ _ ⟨by omega, by omega, g0, by omega⟩ (((k1.trans k2).trans k3).trans (But.of (same_upd ht))) (p3.upd ht) upd_same
        · refine ⟨_, rfl, q, 9, rfl, p1, by decide, sm_small (by decide) (by decide), fun e H2 e0 e1 k2 p2 => ⟨1, e, rfl, rfl, ?_⟩⟩
          refine ⟨_, rfl, q, 10, rfl, p2, by decide, sm_small (by decide) (by decide), fun g H3 g0 g1 k3 p3 => ⟨(by show 2 ≤ sizeLine; decide), fun t ht => ?_⟩⟩
          exact k t _ _ _ ⟨by omega, by omega, g0, by omega⟩ (((k1.trans k2).trans k3).trans (But.of (same_upd ht))) (p3.upd ht) upd_same
  exact ⟨f, fd, _, [], G, hm, F.kp, F.bindsN fun _ _ _ _ _ _ us hl => match us, hl with | [_], _ => rfl, .nil⟩
end
end Lt
/-! The law's own counting. -/
namespace Lt
open PySem PySem.Spec PyProof.Rows L2 LtM
theorem cands_in (on T : Int) (ns : List Int) (h : 0 < T) : ∀ c ∈ cands on T ns, 0 ≤ c ∧ c < T := fun c hc => by
  rcases List.mem_cons.mp hc with rfl | hc
  · exact ⟨Int.le_refl _, h⟩
  · obtain ⟨b, _, rfl⟩ := List.mem_map.mp hc
    exact ⟨Int.emod_nonneg _ (by omega), Int.emod_lt_of_pos _ h⟩
theorem cands_take {on T : Int} {ns : List Int} {i : Nat} {n : Int} (h : ns[i]? = some n) : cands on T (ns.take (i + 1)) = cands on T (ns.take i) ++ [(n + on) % T] := by
  unfold cands
  rw [map_take (fun b => (b + on) % T) h]
  rfl
theorem off_at {n on T : Int} (h0 : 0 ≤ n) (h1 : n < T) (o0 : 0 ≤ on) (o1 : on ≤ T) : (n + on) - T * (if T ≤ n + on then 1 else 0) = (n + on) % T := by
  by_cases c : T ≤ n + on
  · rw [if_pos c]
    have e : (n + on) % T = (n + on - T) % T := (Int.sub_emod_right (n + on) T).symm
    rw [e, Int.emod_eq_of_lt (by omega) (by omega)]
    omega
  · rw [if_neg c, Int.emod_eq_of_lt (by omega) (by omega)]
    omega
theorem far_rest (x T : Int) : x - x / T * T = x % T := by
  rw [Int.emod_def, Int.mul_comm T]
/-! ### the promises -/
def spThere : Sp := fun vs H Q _ => ∃ (t l : Addr) (on off c : Int) (ns : List Int), vs = [.ref t, .ref l, .int c] ∧ H t = some (.tup [.int on, .int off]) ∧ H l = some (.lst (ns.map V.int)) ∧ Sz on off ∧ In (on + off) ns ∧ 0 ≤ c ∧ c < on + off ∧
  Q (.int (LtM.cnt on (on + off) c ns : Int)) H
def spFewest : Sp := fun vs H Q _ => ∃ (t l : Addr) (on off : Int) (ns : List Int), vs = [.ref t, .ref l] ∧ H t = some (.tup [.int on, .int off]) ∧ H l = some (.lst (ns.map V.int)) ∧ Sz on off ∧ In (on + off) ns ∧ ns.length ≤ 40 ∧
  ∀ (c : Int) (H' : Hp), Same H H' → c ∈ cands on (on + off) ns → (∀ d ∈ cands on (on + off) ns, (LtM.cnt on (on + off) c ns : Int) ≤ (LtM.cnt on (on + off) d ns : Int)) → Q (.int (LtM.cnt on (on + off) c ns : Int)) H'
section
variable {P : Program} {w : World} {K : PySem.W.Frag} {mg : Str → Option Value} {base : Heap} {C fI fR f : Addr} {fd : FuncData}
/-! ### _law_there -/
theorem scThere : FnScope ["_law_size", "_law_begins_here", "_law_slot", "_law_turn_here", "_law_found", "_law_begin_here", "_law_far"] ["_law_size", "_law_begins_here", "_law_slot"] (defScope sThere) := ⟨rfl, rfl, rfl, by decide +kernel, rfl, by decide +kernel, by decide +kernel⟩
theorem cal_there (F : FD K "_law_there" "_law_there" sThere [] f fd) (T : Txt K mg C fI fR) (hm : mg "_law_there" = some (.ref f)) : C8.Cal P w K mg base 1 "_law_there" spThere [] := by
  have G : FnOk P w K mg base C8.CX0 1 f fd ["_law_size", "_law_begins_here", "_law_slot"] spThere := by
    refine fok F scThere (fun vs H Q E h => ?_) (fun cdv A outer s H vs Q E hr h => ?_)
    · obtain ⟨t, l, on, off, c, ns, rfl, _⟩ := h
      rfl
    · obtain ⟨t, l, on, off, c, ns, rfl, ht, hl, z, hi, c0, c1, q⟩ := h
      obtain ⟨z1, z2, z3, z4⟩ := id z
      have bp := B_pos
      have smT : Sm (on + off) := Sm.of (by omega) (by omega)
      refine ⟨_, pss_cons (ps_set (i := 3) scThere.nd rfl (Or.inl rfl) (pe_op op_add (pe_ix ix_tup (pv 0) pe_int (fun _ _ => rfl)) (pe_ix ix_tup (pv 0) pe_int (fun _ _ => rfl))))
        (pss_cons (ps_set (i := 4) scThere.nd rfl (Or.inl rfl) pe_int)
        (pss_cons (ps_for PassesOwn.never rfl (pi_list (pv 1)) (pg_name (i := 5) scThere.nd rfl (Or.inl rfl))
          (pss_cons (ps_set (i := 6) scThere.nd rfl (Or.inl rfl) (pe_op op_sub (pv 2) (pv 5)))
          (pss_one (ps_set (i := 4) scThere.nd rfl (Or.inl rfl) (pe_op op_add (pv 4) (pe_callTy call_int1 (by rfl) T.int b_int (pa_cons
            (pe_cmpR op_lt (pe_op op_sub (pv 6) (pe_op op_mulW (pe_op op_fdivW (pv 6) (pv 3)) (pv 3))) (pe_ix ix_tup (pv 0) pe_int (fun _ _ => rfl)) (nomark _)) pa_nil)))))))
        (pss_one (ps_ret (pv 4))))), ?_⟩
      refine ⟨_, rfl, t, _, 0, .int on, rfl, rfl, SqT.of ht, atI_nat (j := 0) rfl, _, rfl, t, _, 1, .int off, rfl, rfl, SqT.of ht, atI_nat (j := 1) rfl, on, off, rfl, rfl, ?_⟩
      refine ⟨_, rfl, l, rfl, ⟨_, SqL.of hl⟩, for_list (K := K) (a := l) (xs := ns.map V.int) (fun i σ H' => H' = H ∧ ∃ v u : Option V, σ = [some (.ref t), some (.ref l), some (.int c), some (.int (on + off)), some (.int (LtM.cnt on (on + off) c (ns.take i) : Int)), v, u])
        ⟨rfl, none, none, rfl⟩ (fun i σ H' _ p => by rw [p.1]; exact SqL.of hl) ?_ ?_⟩
      · rintro i y σ H' hx ⟨rfl, v, u, rfl⟩
        obtain ⟨n, hn, rfl⟩ := int_at hx
        obtain ⟨n0, n1⟩ := hi n (List.mem_of_getElem? hn)
        have sd : Sm ((c - n) / (on + off)) := by
          by_cases g : c - n < 0
          · have e : (c - n) / (on + off) = -1 := by
              have e2 : c - n = (c - n + (on + off)) + (on + off) * (-1) := by omega
              rw [e2, Int.add_mul_ediv_left _ _ (by omega), Int.ediv_eq_zero_of_lt (by omega) (by omega)]
              rfl
            rw [e]
            exact Sm.of (by omega) (by omega)
          · rw [Int.ediv_eq_zero_of_lt (by omega) (by omega)]
            exact Sm.of (by omega) (by omega)
        refine ⟨_, rfl, _, rfl, c, n, rfl, rfl, ?_⟩
        refine ⟨_, rfl, _, rfl, _, rfl, _, rfl, c - n, on + off, rfl, rfl, Sm.div (by omega) smT, _, rfl, _, on + off, rfl, rfl, Sm.mul sd smT, c - n, _, rfl, rfl, _, rfl, t, _, 0, .int on, rfl, rfl, SqT.of ht, atI_nat (j := 0) rfl, _, on, rfl, rfl, .inr ⟨_, rfl, _, _, rfl, rfl, rfl, some (.int n), some (.int (c - n)), ?_⟩⟩
        show [some (V.ref t), some (V.ref l), some (V.int c), some (V.int (on + off)), some (V.int ((LtM.cnt on (on + off) c (ns.take i) : Int) + (if decide ((c - n) - (c - n) / (on + off) * (on + off) < on) = true then 1 else 0))), some (V.int n), some (V.int (c - n))] = _
        rw [far_rest, cnt_take hn]
        by_cases g : (c - n) % (on + off) < on
        · rw [if_pos g, if_pos (decide_eq_true g)]
          rfl
        · rw [if_neg g, if_neg (by rw [decide_eq_true_eq]; exact g)]
          rfl
      · rintro σ H' ⟨rfl, v, u, rfl⟩
        rw [List.length_map, List.take_length]
        exact ⟨_, rfl, q⟩
  exact ⟨f, fd, _, [], G, hm, F.kp, F.bindsN fun _ _ _ _ _ _ us hl => match us, hl with | [_, _, _], _ => rfl, .nil⟩
end
end Lt
/-! The law's fewest. -/
namespace Lt
open PySem PySem.Spec PyProof.Rows L2 LtM
theorem cnts_pos (on T : Int) (ns : List Int) : 0 < ((cands on T ns).map fun c => (LtM.cnt on T c ns : Int)).length := by
  rw [List.length_map, cands_len]
  omega
section
variable {P : Program} {w : World} {K : PySem.W.Frag} {mg : Str → Option Value} {base : Heap} {C fI fR f : Addr} {fd : FuncData}
/-! ### _law_fewest -/
theorem scFewest : FnScope ["_law_size", "_law_begins_here", "_law_slots", "_law_begin_here", "_law_off_at", "_law_slot"] ["_law_size", "_law_begins_here"] (defScope sFewest) := ⟨rfl, rfl, rfl, by decide +kernel, rfl, by decide +kernel, by decide +kernel⟩
theorem cal_fewest (F : FD K "_law_fewest" "_law_fewest" sFewest [] f fd) (T : Txt K mg C fI fR) (hm : mg "_law_fewest" = some (.ref f)) (cT : C8.Cal P w K mg base 1 "_law_there" spThere []) : C8.Cal P w K mg base 2 "_law_fewest" spFewest [] := by
  have G : FnOk P w K mg base C8.CX0 2 f fd ["_law_size", "_law_begins_here"] spFewest := by
    refine fok F scFewest (fun vs H Q E h => ?_) (fun cdv A outer s H vs Q E hr h => ?_)
    · obtain ⟨t, l, on, off, ns, rfl, _⟩ := h
      rfl
    · obtain ⟨t, l, on, off, ns, rfl, ht, hl, z, hi, hn40, q⟩ := h
      obtain ⟨z1, z2, z3, z4⟩ := id z
      refine ⟨_, pss_cons (ps_set (i := 2) scFewest.nd rfl (Or.inl rfl) (pe_lst (pa_cons pe_int pa_nil)))
        (pss_cons (ps_for PassesOwn.never rfl (pi_list (pv 1)) (pg_name (i := 3) scFewest.nd rfl (Or.inl rfl))
          (pss_cons (ps_set (i := 4) scFewest.nd rfl (Or.inl rfl) (pe_op op_add (pv 3) (pe_ix ix_tup (pv 0) pe_int (fun _ _ => rfl))))
          (pss_one (ps_expr (pe_bm PySem.F.plainAttrs_list PySem.F.slot_list_append PySem.F.type_list_append mt_append (pv 2) (pa_cons
            (pe_op op_sub (pv 4) (pe_op op_mul (pe_op op_add (pe_ix ix_tup (pv 0) pe_int (fun _ _ => rfl)) (pe_ix ix_tup (pv 0) pe_int (fun _ _ => rfl)))
              (pe_callTy call_int1 (by rfl) T.int b_int (pa_cons (pe_cmpR op_ge (pv 4) (pe_op op_add (pe_ix ix_tup (pv 0) pe_int (fun _ _ => rfl)) (pe_ix ix_tup (pv 0) pe_int (fun _ _ => rfl))) (nomark _)) pa_nil)))) pa_nil))))))
        (pss_one (ps_ret (pe_callB (cr_min rfl) (by rfl) T.min b_min (pa_cons
          (pe_lc (own := [("_law_slot", 5)]) rfl scFewest.nd (pi_list (pv 2)) (blkOk_by (N := ["_law_size", "_law_begins_here", "_law_slots", "_law_begin_here", "_law_off_at", "_law_slot"]) (sc := defScope sFewest) (by decide +kernel))
            (fun _ _ _ _ _ => pg_name (i := 5) scFewest.nd rfl (Or.inl rfl)) (fun _ _ _ _ _ => pts_nil)
            (fun _ _ _ _ _ => C8.pe_c cT hr (Nat.le_refl _) (by rfl) (pa_cons (pv 0) (pa_cons (pv 1) (pa_cons (pv 5) pa_nil))))) pa_nil))))), ?_⟩
      refine ⟨(by show 1 ≤ sizeLine; decide), fun g hg => ?_⟩
      have sg : Same H (upd H g (.lst [V.int 0])) := same_upd hg
      have ntg : t ≠ g := ne_of_none ht hg
      have nlg : l ≠ g := ne_of_none hl hg
      refine ⟨_, rfl, l, rfl, ⟨_, SqL.of (sg _ _ hl)⟩, for_list (K := K) (a := l) (xs := ns.map V.int) (fun i σ H2 => Same H H2 ∧ H2 g = some (.lst ((cands on (on + off) (ns.take i)).map V.int)) ∧ ∃ v u : Option V, σ = [some (.ref t), some (.ref l), some (.ref g), v, u, none])
        ⟨sg, upd_same, none, none, rfl⟩ (fun i σ H2 _ p => SqL.of (p.1 _ _ hl)) ?_ ?_⟩
      · rintro i y σ H2 hx ⟨s2, hg2, v, u, rfl⟩
        obtain ⟨n, hn, rfl⟩ := int_at hx
        have il : i < ns.length := (List.getElem?_eq_some_iff.mp hn).1
        obtain ⟨n0, n1⟩ := hi n (List.mem_of_getElem? hn)
        have ht2 := s2 _ _ ht
        refine ⟨_, rfl, _, rfl, t, _, 0, .int on, rfl, rfl, SqT.of ht2, atI_nat (j := 0) rfl, n, on, rfl, rfl, ?_⟩
        refine ⟨_, rfl, .inl ⟨rfl, _, SqL.of hg2⟩, _, rfl, _, rfl, t, _, 0, .int on, rfl, rfl, SqT.of ht2, atI_nat (j := 0) rfl, _, rfl, t, _, 1, .int off, rfl, rfl, SqT.of ht2, atI_nat (j := 1) rfl, on, off, rfl, rfl, ?_⟩
        refine ⟨_, rfl, _, rfl, t, _, 0, .int on, rfl, rfl, SqT.of ht2, atI_nat (j := 0) rfl, _, rfl, t, _, 1, .int off, rfl, rfl, SqT.of ht2, atI_nat (j := 1) rfl, on, off, rfl, rfl, _, _, rfl, rfl, .inr ⟨_, rfl, ?_⟩⟩
        refine ⟨_, _, rfl, rfl, .inr ⟨?_, ?_⟩, n + on, _, rfl, rfl, ?_⟩
        · split <;> decide
        · split <;> decide
        refine ⟨g, _, _, rfl, rfl, hg2, ?_, ?_⟩
        · rw [List.length_map, cands_len, List.length_take]
          exact line1000 (by omega)
        · refine ⟨fun b o e => ?_, ?_, some (.int n), some (.int (n + on)), rfl⟩
          · rw [upd_ne (ne_of_none e hg)]
            exact s2 _ _ e
          · have e : (n + on) - (on + off) * (if decide (on + off ≤ n + on) = true then 1 else 0) = (n + on) % (on + off) := by
              rw [← off_at (on := on) (T := on + off) n0 n1 (by omega) (by omega)]
              simp only [decide_eq_true_eq]
            rw [upd_same]
            show some (HO.lst ((cands on (on + off) (ns.take i)).map V.int ++ [V.int ((n + on) - (on + off) * (if decide (on + off ≤ n + on) = true then 1 else 0))])) = _
            rw [e, cands_take hn, List.map_append]
            rfl
      · rintro σ H2 ⟨s2, hg2, v, u, rfl⟩
        rw [List.length_map, List.take_length] at hg2
        refine ⟨_, rfl, g, rfl, ⟨_, SqL.of hg2⟩, fun M hM => ?_⟩
        refine lc_list (K := K) (a := g) (xs := (cands on (on + off) ns).map V.int) (fun i H4 => Same H2 H4 ∧ H4 M = some (.lst ((((cands on (on + off) ns).take i).map fun c => (LtM.cnt on (on + off) c ns : Int)).map V.int)))
          ⟨same_upd hM, upd_same⟩ (fun i H4 _ p4 => SqL.of (p4.1 _ _ hg2)) (fun i x H4 hx p4 => ?_) (fun H4 p4 => ?_)
        · obtain ⟨c, hc, rfl⟩ := int_at hx
          have il : i < (cands on (on + off) ns).length := (List.getElem?_eq_some_iff.mp hc).1
          rw [cands_len] at il
          obtain ⟨c0, c1⟩ := cands_in on (on + off) ns (by omega) c (List.mem_of_getElem? hc)
          obtain ⟨s4, hM4⟩ := p4
          refine ⟨rfl, ?_⟩
          refine ⟨_, rfl, _, rfl, _, rfl, t, l, on, off, c, ns, rfl, s4 _ _ (s2 _ _ ht), s4 _ _ (s2 _ _ hl), z, hi, c0, c1, _, hM4, ?_, ?_⟩
          · rw [List.length_map, List.length_map, List.length_take]
            exact line1000 (by omega)
          · refine ⟨fun b o q1 => ?_, ?_⟩
            · rw [upd_ne (ne_of_none q1 hM)]
              exact s4 _ _ q1
            · rw [upd_same, map_take (fun c => (LtM.cnt on (on + off) c ns : Int)) hc, List.map_append]
              rfl
        · obtain ⟨s4, hM4⟩ := p4
          rw [List.length_map, List.take_length] at hM4
          refine ⟨M, _, rfl, SqL.of hM4, cnts_pos _ _ _, fun m hm hle => ?_⟩
          obtain ⟨c, hc, rfl⟩ := List.mem_map.mp hm
          exact q c H4 (s2.trans s4) hc fun d hd => hle _ (List.mem_map.mpr ⟨d, hd, rfl⟩)
  exact ⟨f, fd, _, [], G, hm, F.kp, F.bindsN fun _ _ _ _ _ _ us hl => match us, hl with | [_, _], _ => rfl, .nil⟩
end
end Lt
/-! Is a round right. -/
namespace Lt
open PySem PySem.Spec PyProof.Rows L2 LtM
theorem sum2 (a b : Int) : ([a, b] : List Int).sum = a + b := by
  simp
theorem shaped2 (a b : Int) : SeqAt.shaped (.tuple [.int a, .int b]) = true := by
  simp [SeqAt.shaped, PyData.canLay0, PyData.canLayAll0, PyData.depth, PyData.depthAll]
theorem eqv2 (a b : Int) : PyData.eqv (.tuple [.int a, .int b]) (.tuple [.int a, .int b]) = true := by
  simp [PyData.eqv, PyData.eqvAll]
theorem shaped0 : SeqAt.shaped (.list []) = true := by
  simp [SeqAt.shaped, PyData.canLay0, PyData.canLayAll0, PyData.depth, PyData.depthAll]
theorem eqv0 : PyData.eqv (.list []) (.list []) = true := by
  simp [PyData.eqv, PyData.eqvAll]
theorem b_sum : bootBuiltins "sum" = some (.builtin "sum") := by decide +kernel
def spRight (C : Addr) : Sp := fun vs H Q _ => ∃ (p t l : Addr) (on off : Int) (m : Nat), vs = [.ref p, .ref t, .int (m : Int)] ∧ RoundAt C H p on off l (evens on off m) ∧ H t = some (.tup [.int on, .int off]) ∧ Sz on off ∧ m ≤ 40 ∧
  ∀ H', Same H H' → Q (.bl true) H'
section
variable {P : Program} {w : World} {K : PySem.W.Frag} {mg : Str → Option Value} {base : Heap} {C fI fR f : Addr} {fd : FuncData}
theorem scRight : FnScope ["_law_made", "_law_size", "_law_keepers", "_law_begins_here", "_law_due", "_law_least", "_law_begin_here"] ["_law_made", "_law_size", "_law_keepers"] (defScope sRight) := ⟨rfl, rfl, rfl, by decide +kernel, rfl, by decide +kernel, by decide +kernel⟩
theorem cal_right (F : FD K "_law_right" "_law_right" sRight [] f fd) (T : Txt K mg C fI fR) (hm : mg "_law_right" = some (.ref f)) (cT : C8.Cal P w K mg base 1 "_law_there" spThere []) (cF : C8.Cal P w K mg base 2 "_law_fewest" spFewest [])
    (mOn : C8.Met P w K mg base 1 C "on" (spGetI C fun on _ => on) []) (mOff : C8.Met P w K mg base 1 C "off" (spGetI C fun _ off => off) []) (mB : C8.Met P w K mg base 1 C "begins" (spBegins C) []) (mL : C8.Met P w K mg base 3 C "least" (spLeast C) []) :
    C8.Cal P w K mg base 4 "_law_right" (spRight C) [] := by
  have G : FnOk P w K mg base C8.CX0 4 f fd ["_law_made", "_law_size", "_law_keepers"] (spRight C) := by
    refine fok F scRight (fun vs H Q E h => ?_) (fun cdv A outer s H vs Q E hr h => ?_)
    · obtain ⟨p, t, l, on, off, m, rfl, _⟩ := h
      rfl
    · obtain ⟨p, t, l, on, off, m, rfl, R, ht, z, hm40, q⟩ := h
      obtain ⟨z1, z2, z3, z4⟩ := id z
      have bp := B_pos
      have smT : Sm (on + off) := Sm.of (by omega) (by omega)
      have hi : In (on + off) (evens on off m) := evens_in on off m z1 z3
      have hl40 : (evens on off m).length ≤ 40 := by rw [evens_len]; exact hm40
      refine ⟨_, pss_cons (ps_set (i := 3) scRight.nd rfl (Or.inl rfl) (C8.pe_mt0 mB hr (by decide) (pv 0)))
        (pss_cons (ps_if (PW.pt (pw_or (pt_not (pt_val (pe_callB (C8.call_isC T.isi) (by rfl) T.isinstance b_isi (pa_cons (pv 0) (pa_cons (pe_glob (v := .ref C) (by rfl) T.mgC rfl) pa_nil)))))
            (pw_or (pt_cmpR (op_neD hr.units) (pe_tup (pa_cons (C8.pe_mt0 mOn hr (by decide) (pv 0)) (pa_cons (C8.pe_mt0 mOff hr (by decide) (pv 0)) pa_nil))) (pv 1) (nomark _))
            (pw_or1 (pt_cmpR op_ne (pe_callB call_len_seq (by rfl) T.len b_len (pa_cons (pv 3) pa_nil)) (pv 2) (nomark _)))))) (pss_one (ps_ret pe_bl)) pss_nil)
        (pss_cons (ps_if (pt_not (pt_val (pe_callB (cr_all rfl) (by rfl) T.all b_all (pa_cons
            (pe_lc (own := [("_law_begin_here", 6)]) rfl scRight.nd (pi_list (pv 3)) (blkOk_by (N := ["_law_made", "_law_size", "_law_keepers", "_law_begins_here", "_law_due", "_law_least", "_law_begin_here"]) (sc := defScope sRight) (by decide +kernel))
              (fun _ _ _ _ _ => pg_name (i := 6) scRight.nd rfl (Or.inl rfl)) (fun _ _ _ _ _ => pts_nil)
              (fun _ _ _ _ _ => pe_and (pe_callB (kIsi (K := K) rfl) (by rfl) T.isinstance b_isi (pa_cons (pv 6) (pa_cons (pe_bltn (v := .ty "int") (by rfl) T.int b_int rfl) pa_nil)))
                (pe_one (pe_not (pe_callB (kIsi (K := K) rfl) (by rfl) T.isinstance b_isi (pa_cons (pv 6) (pa_cons (pe_bltn (v := .ty "bool") (by rfl) T.bool b_bool rfl) pa_nil)))))) ) pa_nil)))) (pss_one (ps_ret pe_bl)) pss_nil)
        (pss_cons (ps_if (pt_cmpR (op_neD hr.units)
            (pe_lc (own := [("_law_begin_here", 6)]) rfl scRight.nd (pi_list (pv 3)) (blkOk_by (N := ["_law_made", "_law_size", "_law_keepers", "_law_begins_here", "_law_due", "_law_least", "_law_begin_here"]) (sc := defScope sRight) (by decide +kernel))
              (fun _ _ _ _ _ => pg_name (i := 6) scRight.nd rfl (Or.inl rfl))
              (fun _ _ _ _ _ => pts_one (PW.pt (pw_or (pt_cmpR op_lt (pv 6) pe_int (nomark _)) (pw_or1 (pt_cmpR op_ge (pv 6) (pe_callB (kSumT (K := K) rfl rfl) (by rfl) T.sum b_sum (pa_cons (pv 1) pa_nil)) (nomark _))))))
              (fun _ _ _ _ _ => pv 6)) (pe_lst pa_nil) (nomark _)) (pss_one (ps_ret pe_bl)) pss_nil)
        (pss_cons (ps_set (i := 4) scRight.nd rfl (Or.inl rfl) (pe_op op_fdivW (pe_op op_mul (pv 2) (pe_ix ix_tup (pv 1) pe_int (fun _ _ => rfl))) (pe_callB (cr_sumT rfl) (by rfl) T.sum b_sum (pa_cons (pv 1) pa_nil))))
        (pss_cons (ps_set (i := 5) scRight.nd rfl (Or.inl rfl) (C8.pe_mt0 mL hr (by decide) (pv 0)))
        (pss_cons (ps_if (PW.pt (pw_or (pt_cmpR op_ne (C8.pe_c cF hr (by decide) (by rfl) (pa_cons (pv 1) (pa_cons (pv 3) pa_nil))) (pv 4) (nomark _))
            (pw_or1 (pt_cmpR op_ne (pe_ix ix_tup (pv 5) pe_int (fun _ _ => rfl)) (pv 4) (nomark _))))) (pss_one (ps_ret pe_bl)) pss_nil)
        (pss_one (ps_ret (pe_cmpR op_eq (C8.pe_c cT hr (by decide) (by rfl) (pa_cons (pv 1) (pa_cons (pv 3) (pa_cons (pe_ix ix_tup (pv 5) pe_int (fun _ _ => rfl)) pa_nil)))) (pv 4) (nomark _)))))))))), ?_⟩
      have no : ∀ {m : Str}, ¬ m = "starts" → ¬ m = "slots_off" → ¬ m = "slots_on" → (rf on off l).lookup m = none := fun a b c => rf_no _ _ _ a b c
      obtain ⟨⟨dx, h1⟩, h2⟩ := id R
      -- made.begins()
      refine ⟨_, rfl, p, dx, _, rfl, h1, no (by decide +kernel) (by decide +kernel) (by decide +kernel), p, l, on, off, _, rfl, R, fun g hg => ?_⟩
      have s1 : Same H (upd H g (.lst ((evens on off m).map V.int))) := same_upd hg
      generalize eH1 : upd H g (.lst ((evens on off m).map V.int)) = H1 at s1
      have hg1 : H1 g = some (.lst ((evens on off m).map V.int)) := by
        rw [← eH1]
        exact upd_same
      have R1 := R.same s1
      -- isinstance, on and off, the length
      refine ⟨_, rfl, p, dx, _, rfl, s1 _ _ h1, true, rfl, iteF ?_⟩
      refine ⟨_, rfl, p, dx, _, rfl, s1 _ _ h1, no (by decide +kernel) (by decide +kernel) (by decide +kernel), p, l, on, off, _, rfl, R1, ?_⟩
      refine ⟨_, rfl, p, dx, _, rfl, s1 _ _ h1, no (by decide +kernel) (by decide +kernel) (by decide +kernel), p, l, on, off, _, rfl, R1, (by show 2 ≤ sizeLine; decide), fun e he => ?_⟩
      have s2 : Same H1 (upd H1 e (.tup [V.int on, V.int off])) := same_upd he
      have he2 : (upd H1 e (.tup [V.int on, V.int off])) e = some (.tup [V.int on, V.int off]) := upd_same
      generalize upd H1 e (.tup [V.int on, V.int off]) = H2 at s2 he2
      refine ⟨_, rfl, _, _, .tup (SqT.of he2) (.cons (.int _) (.cons (.int _) .nil)), .tup (SqT.of (s2 _ _ (s1 _ _ ht))) (.cons (.int _) (.cons (.int _) .nil)), shaped2 _ _, shaped2 _ _, _, rfl, ?_⟩
      rw [eqv2]
      refine iteF ?_
      refine ⟨_, rfl, g, _, rfl, .inl (SqL.of (s2 _ _ hg1)), _, rfl, rfl, _, rfl, ?_⟩
      have el : decide (V.int (((evens on off m).map V.int).length : Nat) = V.int (m : Int)) = true := decide_eq_true (by rw [List.length_map, evens_len])
      rw [el]
      refine iteF ?_
      -- all of them are ints
      refine ⟨_, rfl, g, rfl, ⟨_, SqL.of (s2 _ _ hg1)⟩, fun D hD => ?_⟩
      refine lc_list (K := K) (a := g) (xs := (evens on off m).map V.int) (fun i H3 => Same H2 H3 ∧ H3 D = some (.lst ((List.replicate i true).map V.bl))) ⟨same_upd hD, upd_same⟩ (fun i H3 _ p3 => SqL.of (p3.1 _ _ (s2 _ _ hg1))) (fun i x H3 hx p3 => ?_) (fun H3 p3 => ?_)
      · obtain ⟨n, hn, rfl⟩ := int_at hx
        have il : i < (evens on off m).length := (List.getElem?_eq_some_iff.mp hn).1
        refine ⟨rfl, ?_⟩
        refine ⟨_, rfl, .int n, .ty "int", .type "int", .type "int", true, rfl, .ty _, .base (.int _), k_ii, true, rfl, iteT ?_⟩
        refine ⟨_, rfl, .int n, .ty "bool", .type "int", .type "bool", false, rfl, .ty _, .base (.int _), k_ib, false, rfl, _, p3.2, ?_, ?_⟩
        · rw [List.length_map, List.length_replicate]
          exact line1000 (by omega)
        · show Same H2 (upd H3 D (.lst ((List.replicate i true).map V.bl ++ [V.bl true]))) ∧ upd H3 D (.lst ((List.replicate i true).map V.bl ++ [V.bl true])) D = _
          rw [reps_app]
          refine ⟨fun b o e => ?_, upd_same⟩
          rw [upd_ne (ne_of_none e hD)]
          exact p3.1 _ _ e
      obtain ⟨s3, hD3⟩ := p3
      rw [List.length_map] at hD3
      refine ⟨D, List.replicate (evens on off m).length true, rfl, SqL.of hD3, true, congrArg V.bl (all_true _), iteF ?_⟩
      -- none is out of the turn
      have sA : Same H H3 := (s1.trans s2).trans s3
      have hg3 := s3 _ _ (s2 _ _ hg1)
      refine ⟨_, rfl, g, rfl, ⟨_, SqL.of hg3⟩, fun M hM => ?_⟩
      refine lc_list (K := K) (a := g) (xs := (evens on off m).map V.int) (fun i H4 => Same H3 H4 ∧ H4 M = some (.lst [])) ⟨same_upd hM, upd_same⟩ (fun i H4 _ p4 => SqL.of (p4.1 _ _ hg3)) (fun i x H4 hx p4 => ?_) (fun H4 p4 => ?_)
      · obtain ⟨n, hn, rfl⟩ := int_at hx
        obtain ⟨n0, n1⟩ := hi n (List.mem_of_getElem? hn)
        refine ⟨rfl, ?_⟩
        refine ⟨_, rfl, _, _, rfl, rfl, _, rfl, ?_⟩
        rw [decide_eq_false (show ¬ n < 0 by omega)]
        refine iteF ?_
        refine ⟨_, rfl, _, rfl, t, [on, off], rfl, SqT.of (p4.1 _ _ (sA _ _ ht)), _, _, rfl, rfl, _, rfl, ?_⟩
        rw [sum2, decide_eq_false (show ¬ on + off ≤ n by omega)]
        exact iteF p4
      obtain ⟨s4, hM4⟩ := p4
      refine ⟨(by show 0 ≤ sizeLine; decide), fun y hy => ?_⟩
      have s5 : Same H4 (upd H4 y (.lst [])) := same_upd hy
      have hy5 : (upd H4 y (.lst [])) y = some (.lst []) := upd_same
      generalize upd H4 y (.lst []) = H5 at s5 hy5
      refine ⟨_, _, .lst (SqL.of (s5 _ _ hM4)) .nil, .lst (SqL.of hy5) .nil, shaped0, shaped0, _, rfl, ?_⟩
      rw [eqv0]
      refine iteF ?_
      have sB : Same H H5 := (sA.trans s4).trans s5
      -- what is due
      refine ⟨_, rfl, _, rfl, t, _, 0, .int on, rfl, rfl, SqT.of (sB _ _ ht), atI_nat (j := 0) rfl, (m : Int), on, rfl, rfl, .inl ⟨by omega, by omega⟩, ?_⟩
      refine ⟨_, rfl, t, [on, off], rfl, SqT.of (sB _ _ ht), _, _, rfl, rfl, ?_, ?_⟩
      · rw [sum2]
        exact Sm.div (by omega) smT
      rw [sum2]
      -- the least, the fewest
      refine ⟨_, rfl, p, dx, _, rfl, sB _ _ h1, no (by decide +kernel) (by decide +kernel) (by decide +kernel), p, l, on, off, _, rfl, R.same sB, by omega, hl40, fun u n c H6 s6 hu hc en hle => ?_⟩
      have due : n = ((m : Int) * on) / (on + off) := evens_fewest on off m z1 z3 n c en hle
      have sC : Same H H6 := sB.trans s6
      have hg6 := s6 _ _ (s5 _ _ (s4 _ _ hg3))
      refine ⟨_, rfl, _, rfl, t, g, on, off, evens on off m, rfl, sC _ _ ht, hg6, z, hi, hl40, fun d H7 s7 hd hdle => ?_⟩
      have due2 : (LtM.cnt on (on + off) d (evens on off m) : Int) = ((m : Int) * on) / (on + off) := evens_fewest on off m z1 z3 _ d rfl hdle
      refine ⟨_, rfl, rfl, _, rfl, ?_⟩
      have e1 : decide (V.int (LtM.cnt on (on + off) d (evens on off m) : Int) = V.int (((m : Int) * on) / (on + off))) = true := decide_eq_true (by rw [due2])
      show (if (!decide (V.int (LtM.cnt on (on + off) d (evens on off m) : Int) = V.int (((m : Int) * on) / (on + off)))) = true then _ else _)
      rw [e1]
      refine iteF ?_
      refine ⟨_, rfl, u, _, 0, .int n, rfl, rfl, SqT.of (s7 _ _ hu), atI_nat (j := 0) rfl, _, rfl, rfl, _, rfl, ?_⟩
      have e2 : decide (V.int n = V.int (((m : Int) * on) / (on + off))) = true := decide_eq_true (by rw [due])
      show (if (!decide (V.int n = V.int (((m : Int) * on) / (on + off)))) = true then _ else _)
      rw [e2]
      refine iteF ?_
      -- as counted there
      obtain ⟨c0, c1⟩ := cands_in on (on + off) _ (by omega) c hc
      refine ⟨_, rfl, _, rfl, _, rfl, u, _, 1, .int c, rfl, rfl, SqT.of (s7 _ _ hu), atI_nat (j := 1) rfl, t, g, on, off, c, _, rfl, s7 _ _ (sC _ _ ht), s7 _ _ hg6, z, hi, c0, c1, _, rfl, rfl, ?_⟩
      have e3 : decide (V.int (LtM.cnt on (on + off) c (evens on off m) : Int) = V.int (((m : Int) * on) / (on + off))) = true := decide_eq_true (by rw [← en, due])
      show Q (V.bl (decide (V.int (LtM.cnt on (on + off) c (evens on off m) : Int) = V.int (((m : Int) * on) / (on + off))))) H7
      rw [e3]
      exact q H7 (sC.trans s7)
  exact ⟨f, fd, _, [], G, hm, F.kp, F.bindsN fun _ _ _ _ _ _ us hl => match us, hl with | [_, _, _], _ => rfl, .nil⟩
end
end Lt
/-! A round's text, where the guards that run are known. -/
namespace Lt
open PySem PySem.Spec PyProof.Rows L2 LtM
section
variable {P : Program} {w : World} {K : PySem.W.Frag} {mg : Str → Option Value} {base : Heap}
/-- a def is run at one place -/
theorem run_at {x q : Str} {st : Stmt} {dvs : List V} {f : Addr} {fd : FuncData} {N ps : List Str} {k : Nat} {A : Around} {outer : List Env} {s : Shared} {H : Hp} {args : Args} {us : List Value} {vs : List V} {Q : VK}
    (F : FD K x q st dvs f fd) (S : FnScope N ps (defScope st)) (hl : vs.length = ps.length) (room : Room (k + 1) A) (e0 : Env0 P w K mg base A outer s H) (bd : BindsTo s fd args (ps.zip us)) (rv : Vals vs us)
    (body : ∀ cdv, Room k (A.deeper (envOfC q (defScope st) s.heap.objs.size f cdv)) → ∃ t, PSs (cxOf C8.CX0 P w K mg base N q (defScope st) f cdv A outer s H C8.E0) (defBody st) t ∧ t { nx := fun _ H' => Q .non H', rt := Q } (start N vs) H) :
    codeAny (model P w) A (.call (.ref f) args) (CR C8.CX0 outer P w H s Q C8.E0) s := by
  obtain ⟨oc, od, dV, kV, doc, pm, an, cdv, ct, osl, rfl, look, code, _, _⟩ := F.ex
  have there : ∀ b o, base.get? b = some o → s.heap.get? b = some o := fun b o z => (e0.bs b o z).1
  have kin : K.In s.heap := e0.mod.kin.keeps there
  obtain ⟨t, ht, hq⟩ := body cdv (room.deeper _)
  refine codeAny_call_function room.depth (kin _ _ look) rfl S.co S.gen rfl (PySem.W.codeRec_of kin code)
    (bd _ _ _ _ (wpAny_newFunctionEnv_cells S.kind (fun y hy => ?_) fun env he s1 ic => ?_))
  · rcases S.par y.1 (List.of_mem_zip (a := y.1) (b := y.2) hy).1 with z | z
    · exact Or.inl z
    · exact Or.inr ⟨z, PySem.W.cellsFrom_some _ _ _ (Or.inl z)⟩
  · subst he
    refine ⟨(e0.mod.nolimit.keeps there).keeps ic.toInCall.keep, codeAny_func (wpAny_mono (ht.run [] s1 (start N vs) H _ (inv_start S room.hd e0 hl rv ic) hq) (fun fl s2 z => ?_) fun e s2 z => z)⟩
    cases fl with
    | brk =>
      obtain ⟨_, _, _, no⟩ := z
      exact no.elim
    | cont =>
      obtain ⟨_, _, _, no⟩ := z
      exact no.elim
    | next =>
      obtain ⟨σ', H', J, got⟩ := z
      exact ⟨V.non, H', J.os, J.bare, J.base, J.hok, rfl, got⟩
    | ret u =>
      obtain ⟨v, σ', H', J, ru, got⟩ := z
      exact ⟨v, H', J.os, J.bare, J.base, J.hok, ru, got⟩
end
/-- a round's text -/
noncomputable def reprTx (g : List Code) (l : Addr) (on off : Int) (ns : List Int) : Str := Str.empty ++ "Round(" ++ tx on ++ ", " ++ tx off ++ ", " ++ listTx g l ns ++ ")"
def rRepr (C : Addr) (g : List Code) : List V → Hp → VK → Prop := fun vs H Q => ∃ (p l : Addr) (on off : Int) (ns : List Int), vs = [.ref p] ∧ RoundAt C H p on off l ns ∧ Sm on ∧ Sm off ∧ ns.length ≤ 40 ∧ (∀ n ∈ ns, Sm n) ∧ Q (.str (reprTx g l on off ns)) H
theorem scRepr : FnScope ["self"] ["self"] (defScope sRepr) := ⟨rfl, rfl, rfl, by decide +kernel, rfl, by decide +kernel, by decide +kernel⟩
theorem repr_lens {g : List Code} {l : Addr} {on off : Int} {ns : List Int} (h1 : Sm on) (h2 : Sm off) (h3 : ns.length ≤ 40) (h4 : ∀ n ∈ ns, Sm n) :
    (tx on).length ≤ 1921 ∧ (tx off).length ≤ 1921 ∧ (listTx g l ns).length ≤ 77000 := by
  have a := tx_len h1.fit
  have b := tx_len h2.fit
  have c := listTx_len (g := g) (a := l) fun n hn => (h4 n hn).fit
  exact ⟨a, b, by omega⟩
section
variable {X : Cx} {C fI fR : Addr} {fd : FuncData} {g : List Code}
theorem call_reprG {k : Nat} (T : Txt X.K X.mg C fI fR) (F : FD X.K "__repr__" "Round.__repr__" sRepr [] fR fd) (hg : X.A.guards = some g) (room : Room (k + 2) X.A) : CallR X (.builtin "repr") (rRepr C g) := by
  intro pins s σ H vs us Q I r hq
  obtain ⟨p, l, on, off, ns, rfl, R, z1, z2, z3, z4, q⟩ := hq
  obtain ⟨u, rfl, ru⟩ := vals1 r
  cases ru
  obtain ⟨⟨dx, h1⟩, h2⟩ := id R
  obtain ⟨mA, O, _⟩ := ins_get I.hok h1
  obtain ⟨od, J, _⟩ := O.look
  obtain ⟨m, hF⟩ := I.fr
  have b : Binds X.K fd ["self"] [] := FunD.bindsN (ps := ["self"]) F fun _ _ _ _ _ _ us hl => match us, hl with | [_], _ => rfl
  have r1 : Room (k + 1) X.A.in1 := room.in1
  refine PySem.W.repr_K r1.units0 hF I.mod.kin J T.rep.at_ T.rep.fn (wpAny_call (codeAny_mono (run_at (vs := [V.ref p]) (Q := fun v H' => v = .str (reprTx g l on off ns) ∧ Q v H') F scRepr rfl r1 I.env0.in1 (b s [.ref p] I.kIn rfl) (.cons rfl .nil) fun cdv hr => ?_) fun rs s2 hs => ?_))
  · obtain ⟨l1, l2, l3⟩ := repr_lens (g := g) (l := l) z1 z2 z3 z4
    have e1 : (("Round(" : String) : Str).length = 6 := rfl
    have e2 : ((", " : String) : Str).length = 2 := rfl
    have e3 : ((")" : String) : Str).length = 1 := rfl
    have e0 : (Str.empty).length = 0 := rfl
    refine ⟨_, pss_one (ps_ret (pe_joined (.cons pe_str (.cons (pe_fmt (pe_fld (pv 0) rfl)) (.cons pe_str (.cons (pe_fmt (pe_fld (pv 0) rfl)) (.cons pe_str (.cons (pe_fmtL (g := g) hg hr (pe_fld (pv 0) rfl)) (.cons pe_str .nil))))))))), ?_⟩
    refine ⟨_, rfl, ?_, ?_⟩
    · rw [strLen_append, sizeLine_eq]
      omega
    refine ⟨_, rfl, p, C, dx, _, _, rfl, h1, T.cl, T.nOn, rf_on _ _ _, .inr ⟨on, rfl, z1.fit, tx on, rfl, ?_, ?_⟩⟩
    · rw [strLen_append, strLen_append, sizeLine_eq]
      omega
    refine ⟨_, rfl, ?_, ?_⟩
    · rw [strLen_append, strLen_append, strLen_append, sizeLine_eq]
      omega
    refine ⟨_, rfl, p, C, dx, _, _, rfl, h1, T.cl, T.nOff, rf_off _ _ _, .inr ⟨off, rfl, z2.fit, tx off, rfl, ?_, ?_⟩⟩
    · rw [strLen_append, strLen_append, strLen_append, strLen_append, sizeLine_eq]
      omega
    refine ⟨_, rfl, ?_, ?_⟩
    · rw [strLen_append, strLen_append, strLen_append, strLen_append, strLen_append, sizeLine_eq]
      omega
    refine ⟨_, rfl, p, C, dx, _, _, rfl, h1, T.cl, T.nSt, rf_st _ _ _, l, ns, rfl, h2, by omega, fun n hn => (z4 n hn).fit, _, rfl, ?_, ?_⟩
    · rw [strLen_append, strLen_append, strLen_append, strLen_append, strLen_append, strLen_append, sizeLine_eq]
      omega
    refine ⟨_, rfl, ?_, ?_⟩
    · rw [strLen_append, strLen_append, strLen_append, strLen_append, strLen_append, strLen_append, strLen_append, sizeLine_eq]
      omega
    exact ⟨rfl, q⟩
  · cases rs with
    | error e => exact False.elim hs
    | ok fl =>
      cases fl with
      | next => exact False.elim hs
      | brk => exact False.elim hs
      | cont => exact False.elim hs
      | ret u =>
        obtain ⟨v, H', J', rv, ev, q'⟩ := I.after hs
        subst ev
        obtain ⟨tk, rfl⟩ := id rv
        exact ⟨_, H', J', rv, q'⟩
end
end Lt
/-! The law. -/
namespace Lt
open PySem PySem.Spec PyProof.Rows L2 LtM
theorem ints_dp {K : PySem.W.Frag} {H : Hp} : ∀ ns : List Int, DpAll K H (ns.map V.int) (ns.map PyData.int)
  | [] => .nil
  | n :: ns => .cons (.int n) (ints_dp ns)
theorem ints_lay : ∀ ns : List Int, PyData.canLayAll0 (ns.map PyData.int) = true
  | [] => rfl
  | n :: ns => by
    rw [List.map_cons, PyData.canLayAll0, ints_lay ns]
    rfl
theorem ints_depth : ∀ ns : List Int, PyData.depthAll (ns.map PyData.int) = 0
  | [] => rfl
  | n :: ns => by
    rw [List.map_cons, PyData.depthAll, ints_depth ns]
    rfl
theorem ints_can (ns : List Int) : (PyData.list (ns.map PyData.int)).canLay0 = true := by
  rw [PyData.canLay0]
  exact ints_lay ns
theorem ints_shaped (ns : List Int) : SeqAt.shaped (.list (ns.map PyData.int)) = true := by
  unfold SeqAt.shaped
  rw [ints_can, PyData.depth, ints_depth]
  rfl
theorem ints_eqv (ns : List Int) : PyData.eqv (.list (ns.map PyData.int)) (.list (ns.map PyData.int)) = true := SeqAt.eqv_refl _ (ints_can ns)
theorem b_repr : bootBuiltins "repr" = some (.builtin "repr") := by decide +kernel
theorem roomG {k : Nat} {A : Around} {g : List Code} (r : Room k A) : Room k { A with guards := some g } := ⟨r.hd, r.dp, r.un⟩
def spLaw (K : PySem.W.Frag) : Sp := fun vs H Q _ => ∃ (a : Addr) (ns : List Int), vs = [.ref a] ∧ SqL K H a (ns.map V.int) ∧ ns.length ≤ 63 ∧ ∀ H', Q (.bl true) H'
abbrev NL : List Str := ["_law_script", "_law_k", "_law_pot_here", "_law_size", "_law_there_here", "_law_away", "_law_keepers", "_law_made", "_law_shown", "_law_near", "_law_again", "_law_begins_here", "_law_some", "_law_turn_here"]
theorem scLaw : FnScope NL ["_law_script"] (defScope sLaw) := ⟨rfl, rfl, rfl, by decide +kernel, rfl, by decide +kernel, by decide +kernel⟩
theorem RoundAt.but {C p l q : Addr} {H H' : Hp} {on off : Int} {ns : List Int} (R : RoundAt C H p on off l ns) (k : But q H H') (hq : PotAt H q) (nl : l ≠ q) : RoundAt C H' p on off l ns := by
  obtain ⟨⟨dx, h1⟩, h2⟩ := R
  obtain ⟨a, b, e, _⟩ := hq
  exact ⟨⟨dx, k _ _ h1 (ne_of h1 e (by intro z; cases z))⟩, k _ _ h2 nl⟩
theorem tup_ne {H : Hp} {t q : Addr} {xs : List V} (ht : H t = some (.tup xs)) (hq : PotAt H q) : t ≠ q := by
  obtain ⟨a, b, e, _⟩ := hq
  exact ne_of ht e (by intro z; cases z)
/-- the loop's slots: the script, what a turn leaves -/
def Slots (a : Addr) (σ : L2.St) : Prop := ∃ v1 v2 v3 v4 v5 v6 v7 v8 v9 v10 v11 v12 : Option V, σ = [some (.ref a), v1, v2, v3, v4, v5, v6, v7, v8, v9, v10, v11, v12, none]
section
variable {P : Program} {w : World} {K : PySem.W.Frag} {mg : Str → Option Value} {base : Heap} {C fI fR f fE : Addr} {fd fdE fdR : FuncData}
theorem ok_law (F : FD K "law" "law" sLaw [] f fd) (T : Txt K mg C fI fR) (FR : FD K "__repr__" "Round.__repr__" sRepr [] fR fdR)
    (cP : C8.Cal P w K mg base 2 "_law_pot" (spPot K) []) (cZ : C8.Cal P w K mg base 4 "_law_sizes" spTurns []) (cT : C8.Cal P w K mg base 1 "_law_take" spTake []) (cB : C8.Cal P w K mg base 2 "_law_begin" spTake [])
    (cF : C8.Cal P w K mg base 2 "_law_fewest" spFewest []) (cR : C8.Cal P w K mg base 4 "_law_right" (spRight C) []) (cE : C8.Cal P w K mg base 6 "even_round" (spEven C) [])
    (GE : FnOk P w K mg base C8.CX0 6 fE fdE ["on", "off", "many"] (spEven C)) (gE : mg "even_round" = some (.ref fE)) (kE : PySem.W.keepIn K (.ref fE) = true) (bE : KBn K fdE ["on", "off", "many"] 0 ["many", "on", "off"] rot rot)
    (mR : C8.Mak P w K mg base 3 "Round" C (spInit C) []) (mB : C8.Met P w K mg base 1 C "begins" (spBegins C) []) (mL : C8.Met P w K mg base 3 C "least" (spLeast C) []) :
    FnOk P w K mg base C8.CX0 7 f fd ["_law_script"] (spLaw K) := by
  refine fok F scLaw (fun vs H Q E h => ?_) (fun cdv A outer s H vs Q E hr0 h => ?_)
  · obtain ⟨a, ns, rfl, _⟩ := h
    rfl
  · obtain ⟨a, ns, rfl, hS, hlen, k⟩ := h
    have hr := fun g => roomG (g := g) hr0
    refine ⟨_, pss_guards fun g => pss_cons (ps_for PassesOwn.never rfl (pi_range1 (by rfl) T.range (pa_cons (pe_callB (call_max2 rfl) (by rfl) T.max b_max (pa_cons pe_int (pa_cons
          (pe_callB (call_min2 rfl) (by rfl) T.min b_min (pa_cons pe_int (pa_cons (pe_callB call_len_seq (by rfl) T.len b_len (pa_cons (pv 0) pa_nil)) pa_nil))) pa_nil))) pa_nil)) (pg_name (i := 1) scLaw.nd rfl (Or.inl rfl))
        (pss_cons (ps_set (i := 2) scLaw.nd rfl (Or.inr rfl) (C8.pe_c cP (hr g) (by decide) (by rfl) (pa_cons (pv 0) (pa_cons (pv 1) pa_nil))))
        (pss_cons (ps_set (i := 3) scLaw.nd rfl (Or.inl rfl) (C8.pe_c cZ (hr g) (by decide) (by rfl) (pa_cons (pv 2) pa_nil)))
        (pss_cons (ps_asg (pv 3) (pg_tup rfl (pgs_cons (pg_name (i := 4) scLaw.nd rfl (Or.inr rfl)) (pgs_cons (pg_name (i := 5) scLaw.nd rfl (Or.inr rfl)) pgs_nil))))
        (pss_cons (ps_set (i := 6) scLaw.nd rfl (Or.inl rfl) (C8.pe_c cT (hr g) (by decide) (by rfl) (pa_cons (pv 2) (pa_cons pe_int pa_nil))))
        (pss_cons (ps_set (i := 7) scLaw.nd rfl (Or.inl rfl) (C8.pe_c cE (hr g) (by decide) (by rfl) (pa_cons (pv 4) (pa_cons (pv 5) (pa_cons (pv 6) pa_nil)))))
        (pss_cons (ps_set (i := 8) scLaw.nd rfl (Or.inl rfl) (pe_callB (call_reprG (g := g) T FR rfl ((hr g).mono (by decide) : Room (0 + 2) _)) (by rfl) T.repr b_repr (pa_cons (pv 7) pa_nil)))
        (C8.pss_cut (ps_set (i := 9) scLaw.nd rfl (Or.inl rfl) (pe_ix ix_list (pe_lst (pa_cons (pe_op op_add (pv 6) pe_int) (pa_cons (pe_op op_sub (pv 6) pe_int) pa_nil)))
            (pe_callTy call_int1 (by rfl) T.int b_int (pa_cons (pe_or (pe_cmpR op_eq (pv 6) pe_int (nomark _)) (pe_one (pe_and (pe_cmpR op_gt (pv 6) pe_int (nomark _))
              (pe_one (pe_cmpR op_eq (C8.pe_c cT (hr g) (by decide) (by rfl) (pa_cons (pv 2) (pa_cons pe_int pa_nil))) pe_int (nomark _)))))) pa_nil)) (fun _ _ => rfl)))
        (pss_cons (ps_if (PW.pt (pw_or (pt_not (pt_val (C8.pe_c cR (hr g) (by decide) (by rfl) (pa_cons (C8.pe_c cE (hr g) (by decide) (by rfl) (pa_cons (pv 4) (pa_cons (pv 5) (pa_cons (pv 9) pa_nil)))) (pa_cons (pv 3) (pa_cons (pv 9) pa_nil))))))
            (pw_or1 (pt_not (pt_val (C8.pe_c cR (hr g) (by decide) (by rfl) (pa_cons (pv 7) (pa_cons (pv 3) (pa_cons (pv 6) pa_nil))))))))) (pss_one (ps_ret pe_bl)) pss_nil)
        (pss_cons (ps_set (i := 10) scLaw.nd rfl (Or.inl rfl) (pe_kwOnly (E := C8.E0) GE (hr g) (by rfl) gE kE bE C8.pass0 (pk_cons (pv 6) (pk_cons (pv 4) (pk_cons (pv 5) pk_nil)))))
        (pss_cons (ps_if (PW.pt (pw_or (pt_not (pt_val (C8.pe_c cR (hr g) (by decide) (by rfl) (pa_cons (pv 10) (pa_cons (pv 3) (pa_cons (pv 6) pa_nil))))))
            (pw_or (pt_cmpR op_ne (pe_callB (call_reprG (g := g) T FR rfl ((hr g).mono (by decide) : Room (0 + 2) _)) (by rfl) T.repr b_repr (pa_cons (pv 7) pa_nil)) (pv 8) (nomark _))
            (pw_or1 (pt_cmpR (op_neD (hr g).units) (C8.pe_mt0 mB (hr g) (by decide) (pv 10)) (C8.pe_mt0 mB (hr g) (by decide) (pv 7)) (nomark _)))))) (pss_one (ps_ret pe_bl)) pss_nil)
        (pss_cons (ps_setLc (i := 11) (own := [("_law_turn_here", 13)]) rfl scLaw.nd rfl rfl (sw_true rfl rfl rfl (by decide +kernel)) (pi_range1 (by rfl) T.range (pa_cons (pv 6) pa_nil)) (blkOk_by (N := NL) (sc := defScope sLaw) (by decide +kernel))
            (fun _ _ _ _ _ => pg_name (i := 13) scLaw.nd rfl (Or.inl rfl)) (fun _ _ _ _ _ => pts_nil)
            (fun _ _ _ _ _ => C8.pe_c cB (hr g) (by decide) (by rfl) (pa_cons (pv 2) (pa_cons (pe_op op_add (pv 4) (pv 5)) pa_nil))))
        (pss_cons (ps_set (i := 12) scLaw.nd rfl (Or.inl rfl) (pe_lst (pa_cons (C8.pe_c cF (hr g) (by decide) (by rfl) (pa_cons (pv 3) (pa_cons (pv 11) pa_nil)))
            (pa_cons (pe_ix ix_tup (C8.pe_mt0 mL (hr g) (by decide) (C8.pe_mk mR (hr g) (by decide) (by rfl) (pa_cons (pv 4) (pa_cons (pv 5) (pa_cons (pv 11) pa_nil))))) pe_int (fun _ _ => rfl)) pa_nil))))
        (pss_one (ps_if (pt_cmpR op_gt (pe_callB (cr_max rfl) (by rfl) T.max b_max (pa_cons (pv 12) pa_nil)) (pe_ix ix_tup (C8.pe_mt0 mL (hr g) (by decide) (pv 7)) pe_int (fun _ _ => rfl)) (nomark _)) (pss_one (ps_ret pe_bl)) pss_nil)))))))))))))))
      (pss_one (ps_ret pe_bl)), fun g => ?_⟩
    have no : ∀ (on off : Int) (l : Addr) {m : Str}, ¬ m = "starts" → ¬ m = "slots_off" → ¬ m = "slots_on" → (rf on off l).lookup m = none := fun on off l m a b c => rf_no _ _ _ a b c
    have bp := B_pos
    refine ⟨_, rfl, a, _, rfl, .inl hS, 6, _, rfl, 2, _, rfl, _, rfl, ?_, ?_, for_range (lo := 0) (fun i σ H' => Same H H' ∧ Slots a σ) ⟨Same.refl H, none, none, none, none, none, none, none, none, none, none, none, none, rfl⟩ ?_ ?_⟩
    · split
      · split <;> omega
      · omega
    · split
      · split <;> omega
      · omega
    · rintro i σ H0 hi ⟨s0, v1, v2, v3, v4, v5, v6, v7, v8, v9, v10, v11, v12, rfl⟩
      have hi6 : i ≤ 6 := by
        split at hi
        · split at hi <;> omega
        · omega
      -- the pot, the sizes
      refine ⟨_, rfl, _, rfl, a, ns, 0 + (i : Int), rfl, s0.seq hS, by omega, by omega, fun q H1 q0 s1 p1 => ?_⟩
      refine ⟨_, rfl, q, rfl, p1, fun t on off H2 z k2 p2 ht2 => ?_⟩
      obtain ⟨z1, z2, z3, z4⟩ := id z
      have smOn : Sm on := Sm.of (by omega) (by omega)
      have smOff : Sm off := Sm.of (by omega) (by omega)
      have smT : Sm (on + off) := Sm.of (by omega) (by omega)
      refine ⟨_, rfl, t, _, rfl, SqT.of ht2, rfl, _, _, rfl, _, _, rfl, rfl, ?_⟩
      -- how many keepers
      refine ⟨_, rfl, q, 41, rfl, p2, by decide, sm_small (by decide) (by decide), fun m0 H3 d0 d1 k3 p3 => ?_⟩
      obtain ⟨m, rfl⟩ : ∃ m : Nat, m0 = (m : Int) := ⟨m0.toNat, by omega⟩
      have hm : m ≤ 40 := by omega
      have ht3 := k3 _ _ ht2 (tup_ne ht2 p2)
      have smE : ∀ n ∈ evens on off m, Sm n := fun n hn => by
        obtain ⟨n0, n1⟩ := evens_in on off m z1 z3 n hn
        exact Sm.of (by omega) (by omega)
      have le40 : (evens on off m).length ≤ 40 := by rw [evens_len]; exact hm
      -- made, shown
      refine ⟨_, rfl, _, rfl, _, rfl, on, off, m, rfl, z, hm, fun p l H4 s4 p0 l0 R4 => ?_⟩
      have nlq : l ≠ q := fun e => p3.some (e ▸ l0)
      have p4 := p3.same s4
      have ht4 := s4 _ _ ht3
      have k4 : But q H1 H4 := (k2.trans k3).trans (But.of s4)
      refine ⟨_, rfl, p, l, on, off, _, rfl, R4, smOn, smOff, le40, smE, ?_⟩
      -- one more or fewer
      refine ⟨fun σ' H' => But q H4 H' ∧ PotAt H' q ∧ ∃ r : Nat, r ≤ 40 ∧ σ' = [some (.ref a), some (.int (0 + (i : Int))), some (.ref q), some (.ref t), some (.int on), some (.int off), some (.int (m : Int)), some (.ref p), some (.str (reprTx g l on off (evens on off m))), some (.int (r : Int)), v10, v11, v12, none], ?_, ?_⟩
      · refine ⟨_, rfl, _, _, rfl, rfl, _, rfl, _, _, rfl, rfl, (by show 2 ≤ sizeLine; decide), fun e he => ?_⟩
        have se : Same H4 (upd H4 e (.lst [V.int ((m : Int) + 1), V.int ((m : Int) - 1)])) := same_upd he
        have he5 : (upd H4 e (.lst [V.int ((m : Int) + 1), V.int ((m : Int) - 1)])) e = some (.lst [V.int ((m : Int) + 1), V.int ((m : Int) - 1)]) := upd_same
        have pe5 := p4.upd (o := .lst [V.int ((m : Int) + 1), V.int ((m : Int) - 1)]) he
        have neq : e ≠ q := fun x => p4.some (x ▸ he)
        refine ⟨_, rfl, rfl, _, rfl, ?_⟩
        by_cases c40 : m = 40
        · have e40 : decide (V.int (m : Int) = V.int 40) = true := decide_eq_true (by rw [c40]; rfl)
          rw [e40]
          refine iteT (.inr ⟨true, rfl, e, _, 1, .int ((m : Int) - 1), rfl, rfl, SqL.of he5, atI_nat (j := 1) rfl, ?_⟩)
          exact ⟨But.of se, pe5, 39, by omega, by rw [c40]; rfl⟩
        · have e40 : decide (V.int (m : Int) = V.int 40) = false := decide_eq_false (fun x => c40 (by injection x with x; omega))
          rw [e40]
          refine iteF ?_
          refine ⟨_, rfl, _, _, rfl, rfl, _, rfl, ?_⟩
          by_cases cz : (0 : Int) < (m : Int)
          · rw [decide_eq_true cz]
            refine iteT ?_
            refine ⟨_, rfl, q, 2, rfl, pe5, by decide, sm_small (by decide) (by decide), fun d H5 d0 d1 k5 p5 => ⟨rfl, ?_⟩⟩
            have he6 := k5 _ _ he5 neq
            by_cases cd : d = 0
            · refine .inr ⟨_, rfl, e, _, _, .int ((m : Int) - 1), rfl, rfl, SqL.of he6, ?_, (But.of se).trans k5, p5, m - 1, by omega, ?_⟩
              · rw [cd]
                exact atI_nat (j := 1) rfl
              · have em : (((m - 1 : Nat) : Int)) = (m : Int) - 1 := by omega
                rw [em]
                rfl
            · refine .inr ⟨_, rfl, e, _, _, .int ((m : Int) + 1), rfl, rfl, SqL.of he6, ?_, (But.of se).trans k5, p5, m + 1, by omega, rfl⟩
              have ed : decide (V.int d = V.int 0) = false := decide_eq_false (fun x => cd (by injection x))
              rw [ed]
              exact atI_nat (j := 0) rfl
          · rw [decide_eq_false cz]
            refine iteF (.inr ⟨false, rfl, e, _, 0, .int ((m : Int) + 1), rfl, rfl, SqL.of he5, atI_nat (j := 0) rfl, But.of se, pe5, m + 1, by omega, rfl⟩)
      · rintro σ' H5 ⟨k5, p5, r, hr40, rfl⟩
        have ht5 := k5 _ _ ht4 (tup_ne ht4 p4)
        have R5 := R4.but k5 p4 nlq
        -- both are right
        refine ⟨_, rfl, _, rfl, _, rfl, on, off, r, rfl, z, hr40, fun p' l' H6 s6 _ _ R6 => ?_⟩
        refine ⟨_, rfl, _, rfl, p', t, l', on, off, r, rfl, R6, s6 _ _ ht5, z, hr40, fun H7 s7 => ⟨true, rfl, iteF ?_⟩⟩
        have R7 := (R5.same s6).same s7
        have ht7 := s7 _ _ (s6 _ _ ht5)
        refine ⟨_, rfl, _, rfl, _, rfl, p, t, l, on, off, m, rfl, R7, ht7, z, hm, fun H8 s8 => ⟨true, rfl, iteF ?_⟩⟩
        -- again
        refine ⟨_, rfl, _, rfl, _, rfl, rfl, rfl, on, off, m, rfl, z, hm, fun p3' l3 H9 s9 _ _ R9 => ?_⟩
        have ht9 := s9 _ _ (s8 _ _ ht7)
        refine ⟨_, rfl, _, rfl, _, rfl, p3', t, l3, on, off, m, rfl, R9, ht9, z, hm, fun H10 s10 => ⟨true, rfl, iteF ?_⟩⟩
        have R10 := ((R7.same s8).same s9).same s10
        have Ra := R9.same s10
        have ht10 := s10 _ _ ht9
        refine ⟨_, rfl, p, l, on, off, _, rfl, R10, smOn, smOff, le40, smE, _, rfl, rfl, _, rfl, iteNS rfl ?_⟩
        obtain ⟨⟨dx, o1⟩, o2⟩ := id R10
        obtain ⟨⟨dy, o3⟩, o4⟩ := id Ra
        refine ⟨_, rfl, p3', dy, _, rfl, o3, no _ _ _ (by decide +kernel) (by decide +kernel) (by decide +kernel), p3', l3, on, off, _, rfl, Ra, fun b1 hb1 => ?_⟩
        have sb1 : Same H10 (upd H10 b1 (.lst ((evens on off m).map V.int))) := same_upd hb1
        have hb1' : (upd H10 b1 (.lst ((evens on off m).map V.int))) b1 = some (.lst ((evens on off m).map V.int)) := upd_same
        generalize upd H10 b1 (.lst ((evens on off m).map V.int)) = Hb at sb1 hb1'
        refine ⟨_, rfl, p, dx, _, rfl, sb1 _ _ o1, no _ _ _ (by decide +kernel) (by decide +kernel) (by decide +kernel), p, l, on, off, _, rfl, R10.same sb1, fun b2 hb2 => ?_⟩
        have sb2 : Same Hb (upd Hb b2 (.lst ((evens on off m).map V.int))) := same_upd hb2
        have hb2' : (upd Hb b2 (.lst ((evens on off m).map V.int))) b2 = some (.lst ((evens on off m).map V.int)) := upd_same
        generalize upd Hb b2 (.lst ((evens on off m).map V.int)) = Hx at sb2 hb2'
        refine ⟨_, _, .lst (SqL.of (sb2 _ _ hb1')) (ints_dp _), .lst (SqL.of hb2') (ints_dp _), ints_shaped _, ints_shaped _, _, rfl, ?_⟩
        rw [ints_eqv]
        refine iteF ?_
        have sX : Same H5 Hx := fun b o e => sb2 _ _ (sb1 _ _ (s10 _ _ (s9 _ _ (s8 _ _ (s7 _ _ (s6 _ _ e))))))
        have pX := p5.same sX
        have htX := sX _ _ ht5
        have RX := R5.same sX
        have kX : But q H1 Hx := (k4.trans k5).trans (But.of sX)
        -- other begins
        refine ⟨_, rfl, (m : Int), rfl, by omega, by omega, fun D hD => ?_⟩
        have nDq : D ≠ q := fun e => pX.some (e ▸ hD)
        have em : ((m : Int)).toNat = m := Int.toNat_natCast m
        rw [em]
        refine lc_range (lo := 0) (n := m) (fun j H' => But q Hx H' ∧ PotAt H' q ∧ ∃ bs : List Int, H' D = some (.lst (bs.map V.int)) ∧ bs.length = j ∧ In (on + off) bs) ⟨But.of (same_upd hD), pX.upd hD, [], upd_same, rfl, fun n hn => by cases hn⟩ (fun j H' hj pj => ?_) (fun H' pj => ?_)
        · obtain ⟨kj, qj, bs, hbs, lbs, ibs⟩ := pj
          refine ⟨rfl, ?_⟩
          refine ⟨_, rfl, _, rfl, _, rfl, on, off, rfl, rfl, q, on + off, rfl, qj, by omega, smT, fun d H'' d0 d1 kd pd => ?_⟩
          refine ⟨bs.map V.int, kd _ _ hbs nDq, ?_, fun b o e nb => ?_, ?_, bs ++ [d], ?_, ?_, ?_⟩
          · rw [List.length_map]
            exact line1000 (by omega)
          · rw [upd_ne (ne_of_none e hD)]
            exact kd _ _ (kj _ _ e nb) nb
          · obtain ⟨x, y, e, w⟩ := pd
            exact ⟨x, y, by rw [upd_ne nDq.symm]; exact e, w⟩
          · rw [upd_same, List.map_append]
            rfl
          · rw [List.length_append, lbs]
            rfl
          · intro n hn
            rcases List.mem_append.mp hn with hn | hn
            · exact ibs n hn
            · rw [List.mem_singleton.mp hn]
              exact ⟨d0, d1⟩
        · obtain ⟨kj, qj, bs, hbs, lbs, ibs⟩ := pj
          have htY := kj _ _ htX (tup_ne htX pX)
          have RY := RX.but kj pX nlq
          have lb40 : bs.length ≤ 40 := by omega
          -- the fewest of these
          refine ⟨_, rfl, _, rfl, t, D, on, off, bs, rfl, htY, hbs, z, ibs, lb40, fun c1 HA sA hc1 hle1 => ?_⟩
          refine ⟨_, rfl, _, rfl, _, rfl, ?_⟩
          intro x dx' hx hdx nex
          have sM : Same HA (upd (upd HA dx' (.own x)) x (.ins C dx' [])) := fun b o e => by
            rw [upd_ne (ne_of_none e hx), upd_ne (ne_of_none e hdx)]
            exact e
          refine ⟨x, D, dx', on, off, bs, rfl, upd_same, sM _ _ (sA _ _ hbs), z1, z3, lb40, ibs, fun l4 HB hl4 RB kB => ⟨rfl, ?_⟩⟩
          have sB : Same HA HB := fun b o e => kB b o (sM _ _ e) (ne_of_none e hx)
          obtain ⟨⟨dz, o5⟩, o6⟩ := id RB
          refine ⟨x, dz, _, rfl, o5, no _ _ _ (by decide +kernel) (by decide +kernel) (by decide +kernel), x, l4, on, off, bs, rfl, RB, by omega, lb40, fun t2 n2 c2 HC sC ht2' hc2 en2 hle2 => ?_⟩
          refine ⟨t2, _, 0, .int n2, rfl, rfl, SqT.of ht2', atI_nat (j := 0) rfl, (by show 2 ≤ sizeLine; decide), fun w' hw => ?_⟩
          have sW : Same HC (upd HC w' (.lst [V.int (LtM.cnt on (on + off) c1 bs : Int), V.int n2])) := same_upd hw
          have hw' : (upd HC w' (.lst [V.int (LtM.cnt on (on + off) c1 bs : Int), V.int n2])) w' = some (.lst ([(LtM.cnt on (on + off) c1 bs : Int), n2].map V.int)) := upd_same
          generalize upd HC w' (.lst [V.int (LtM.cnt on (on + off) c1 bs : Int), V.int n2]) = HD at sW hw'
          have RD := (((RY.same sA).same sB).same sC).same sW
          obtain ⟨⟨du, o7⟩, o8⟩ := id RD
          refine ⟨_, rfl, w', _, rfl, SqL.of hw', Nat.zero_lt_succ _, fun M hM hMle => ?_⟩
          refine ⟨_, rfl, p, du, _, rfl, o7, no _ _ _ (by decide +kernel) (by decide +kernel) (by decide +kernel), p, l, on, off, _, rfl, RD, by omega, le40, fun t3 n3 c3 HE sE ht3' hc3 en3 hle3 => ?_⟩
          refine ⟨t3, _, 0, .int n3, rfl, rfl, SqT.of ht3', atI_nat (j := 0) rfl, M, n3, rfl, rfl, _, rfl, ?_⟩
          have due : n3 = ((m : Int) * on) / (on + off) := evens_fewest on off m z1 z3 n3 c3 en3 hle3
          have ib : ∀ b ∈ bs, 0 ≤ b ∧ b < on + off := ibs
          have f1 : (LtM.cnt on (on + off) c1 bs : Int) ≤ n3 := by
            have := fewest_le on (on + off) z1 (by omega) bs ib _ hle1
            rw [lbs] at this
            rw [due]
            exact this
          have f2 : n2 ≤ n3 := by
            have := fewest_le on (on + off) z1 (by omega) bs ib _ hle2
            rw [lbs] at this
            rw [due]
            exact this
          have f3 : ¬ n3 < M := by
            rcases List.mem_cons.mp hM with e | e
            · omega
            · have := List.mem_singleton.mp e
              omega
          rw [decide_eq_false f3]
          refine iteF ⟨fun b o e => ?_, ?_⟩
          · have e0 := s0 _ _ e
            have nb : b ≠ q := ne_of_none e0 q0
            exact sE _ _ (sW _ _ (sC _ _ (sB _ _ (sA _ _ (kj _ _ (kX _ _ (s1 _ _ e0) nb) nb)))))
          · exact ⟨_, _, _, _, _, _, _, _, _, _, _, _, rfl⟩
    · rintro σ H' ⟨s0, _⟩
      exact k H'
end
end Lt
namespace Lt
open PySem PySem.Spec PyProof.Rows L2
/-! ### the head: facts by names, the run -/
def dd (x : Str) (st : Stmt) (dfl : List He.Dv) : He.DefD := ⟨(x, none), x, x, defArgs st, defBody st, defScope st, dfl, []⟩
def dm (m q : Str) (st : Stmt) : He.DefD := ⟨("Round", some m), m, q, defArgs st, defBody st, defScope st, [], []⟩
def fnL : List He.DefD := [dd "is_whole" sWhole [.int 0], dd "is_list" sIsList [], dd "want_turn" sWant [], dd "are_begins" sAre [], dm "__init__" "Round.__init__" sInit, dm "on" "Round.on" sOn, dm "off" "Round.off" sOff,
  dm "begins" "Round.begins" sBegins, dm "turn" "Round.turn" sTurn, dm "those_on" "Round.those_on" sThose, dm "least" "Round.least" sLeast, dm "__repr__" "Round.__repr__" sRepr, dd "evenly_spread" sSpread [], dd "even_round" sEven [],
  dd "_law_cell" sCell [], dd "_law_pot" sPot [], dd "_law_take" sTake [], dd "_law_number" sNumber [], dd "_law_begin" sBegin [], dd "_law_turn" sLTurn [], dd "_law_sizes" sSizes [], dd "_law_there" sThere [],
  dd "_law_fewest" sFewest [], dd "_law_right" sRight [], dd "law" sLaw []]
def faL : List He.Fa := [.glo "is_whole", .glo "is_list", .glo "want_turn", .glo "are_begins", .glo "Round", .glo "evenly_spread", .glo "even_round", .glo "_law_cell", .glo "_law_pot", .glo "_law_take", .glo "_law_number",
  .glo "_law_begin", .glo "_law_turn", .glo "_law_sizes", .glo "_law_there", .glo "_law_fewest", .glo "_law_right", .glo "law", .int "MOST_KEEPERS" 40,
  .cls "Round", .noat "Round" "slots_on", .noat "Round" "slots_off", .noat "Round" "starts", .meth "Round" "on", .meth "Round" "off", .meth "Round" "begins", .meth "Round" "turn", .meth "Round" "those_on", .meth "Round" "least", .meth "Round" "__repr__", .mkr "Round",
  .free "isinstance", .free "int", .free "bool", .free "list", .free "tuple", .free "len", .free "all", .free "enumerate", .free "min", .free "max", .free "abs", .free "range", .free "divmod", .free "sum", .free "repr"]
/-- what isinstance asks of Round -/
def exL (K : PySem.W.Frag) : Bool := He.eqO (PySem.W.findIn K (.ref (He.ga K "Round")) "__class__") (some (some (.builtin "object.__class__"))) &&
  (He.eqO (PySem.W.specialIn K (.builtin "object.__class__") "__get__") (some (some (.builtin "getset_descriptor.__get__"))) && (decide (PySem.W.takesIn K (.builtin "object.__class__") = some true) &&
  (decide (PySem.W.mroIn K (He.ga K "Round") (.type "object") = some true) && decide (PySem.W.kitOne K (.ref (He.ga K "Round")) (.ref (He.ga K "Round")) = some true))))
abbrev R : PySem.W.OpenRow := PySem.W.OpenLaw.row PySem.Challenge.rw_lightturns_k45_whole_even_rounds
abbrev hk : PySem.W.Hook := He.hookX 6 faL fnL [] [] exL
def ob (s : PySem.W.SharedT) : He.AlX := He.obsX 6 faL fnL [] [] exL (HandSHeadRun.getT s)
theorem ob_eq (s : PySem.W.SharedT) : ob s = hk.obs s.abs := He.obsX_eq (HandSHeadRun.getT_eq s)
def loose : List Str := ["_wall", "LightsError", "Wrong", "NoNumber", "NoRound", "is_whole", "is_list", "MOST_KEEPERS", "want_turn", "are_begins", "Round", "evenly_spread", "even_round", "_law_cell", "_law_pot", "_law_take", "_law_number",
  "_law_begin", "_law_turn", "_law_begins", "_law_sizes", "_law_there", "_law_fewest", "_law_right"]
theorem run (w : World) : HandSHeadRun.RunEq R (PySem.W.view R.prog [28]) hk ob 4000 loose w := by
  intro os
  kernel_rfl
end Lt
/-! The facts of the head, the law's promise. -/
namespace Lt
open PySem PySem.Spec PyProof.Rows L2 LtM
theorem facts {P : Program} {w : World} {K : PySem.W.Frag} {h : Heap} {mg : Str → Option Value} {f : Addr} (X : K.In h) (G : h.Ns mainGlobals mg) (hfa : mg ("law" : Str) = some (.ref f)) (c : He.SaysX faL fnL [] [] exL w h K) :
    ∃ fd : FuncData, (∀ (s : Shared) (v : Value), BindsTo s fd ⟨[v], []⟩ [("_law_script", v)]) ∧ ∀ base : Heap, K.In base → base.Ns mainGlobals mg → FnOk P w K mg base C8.CX0 7 f fd ["_law_script"] (spLaw K) := by
  have d : He.SaysD faL fnL K := c.t.d
  have ex : exL K = true := c.more
  obtain ⟨x1, ex⟩ := He.ba ex
  obtain ⟨x2, ex⟩ := He.ba ex
  obtain ⟨x3, ex⟩ := He.ba ex
  obtain ⟨x4, x5⟩ := He.ba ex
  have e := hfa.symm.trans (He.glo_ok X G (d.fact 17 (f := .glo "law") rfl))
  cases e
  have cl := He.cls_ok (d.fact 19 (f := .cls "Round") rfl)
  have T : Txt K mg (He.ga K "Round") (He.ma K (He.ga K "Round") "__init__") (He.ma K (He.ga K "Round") "__repr__") :=
    { cl := cl, nOn := He.noat_ok (d.fact 20 (f := .noat "Round" "slots_on") rfl), nOff := He.noat_ok (d.fact 21 (f := .noat "Round" "slots_off") rfl), nSt := He.noat_ok (d.fact 22 (f := .noat "Round" "starts") rfl),
      mgC := He.glo_ok X G (d.fact 4 (f := .glo "Round") rfl), mkr := He.mkr_ok (d.fact 30 (f := .mkr "Round") rfl),
      isi := ⟨cl, He.eqO_ok x1, He.eqO_ok x2, of_decide_eq_true x3, of_decide_eq_true x4, of_decide_eq_true x5⟩,
      rep := He.meth_ok (d.fact 29 (f := .meth "Round" "__repr__") rfl), most := He.int_ok X G (d.fact 18 (f := .int "MOST_KEEPERS" 40) rfl),
      isinstance := He.free_ok X G (d.fact 31 (f := .free "isinstance") rfl), int := He.free_ok X G (d.fact 32 (f := .free "int") rfl), bool := He.free_ok X G (d.fact 33 (f := .free "bool") rfl),
      list := He.free_ok X G (d.fact 34 (f := .free "list") rfl), tuple := He.free_ok X G (d.fact 35 (f := .free "tuple") rfl), len := He.free_ok X G (d.fact 36 (f := .free "len") rfl),
      all := He.free_ok X G (d.fact 37 (f := .free "all") rfl), enumerate := He.free_ok X G (d.fact 38 (f := .free "enumerate") rfl), min := He.free_ok X G (d.fact 39 (f := .free "min") rfl),
      max := He.free_ok X G (d.fact 40 (f := .free "max") rfl), abs := He.free_ok X G (d.fact 41 (f := .free "abs") rfl), range := He.free_ok X G (d.fact 42 (f := .free "range") rfl),
      divmod := He.free_ok X G (d.fact 43 (f := .free "divmod") rfl), sum := He.free_ok X G (d.fact 44 (f := .free "sum") rfl), repr := He.free_ok X G (d.fact 45 (f := .free "repr") rfl) }
  obtain ⟨_, F0⟩ := d.def_ 0 (d := dd "is_whole" sWhole [.int 0]) rfl
  obtain ⟨_, F1⟩ := d.def_ 1 (d := dd "is_list" sIsList []) rfl
  obtain ⟨_, F2⟩ := d.def_ 2 (d := dd "want_turn" sWant []) rfl
  obtain ⟨_, F3⟩ := d.def_ 3 (d := dd "are_begins" sAre []) rfl
  obtain ⟨_, F4⟩ := d.def_ 4 (d := dm "__init__" "Round.__init__" sInit) rfl
  obtain ⟨_, F5⟩ := d.def_ 5 (d := dm "on" "Round.on" sOn) rfl
  obtain ⟨_, F6⟩ := d.def_ 6 (d := dm "off" "Round.off" sOff) rfl
  obtain ⟨_, F7⟩ := d.def_ 7 (d := dm "begins" "Round.begins" sBegins) rfl
  obtain ⟨_, F8⟩ := d.def_ 8 (d := dm "turn" "Round.turn" sTurn) rfl
  obtain ⟨_, F9⟩ := d.def_ 9 (d := dm "those_on" "Round.those_on" sThose) rfl
  obtain ⟨_, F10⟩ := d.def_ 10 (d := dm "least" "Round.least" sLeast) rfl
  obtain ⟨_, F11⟩ := d.def_ 11 (d := dm "__repr__" "Round.__repr__" sRepr) rfl
  obtain ⟨_, F12⟩ := d.def_ 12 (d := dd "evenly_spread" sSpread []) rfl
  obtain ⟨_, F13⟩ := d.def_ 13 (d := dd "even_round" sEven []) rfl
  obtain ⟨_, F14⟩ := d.def_ 14 (d := dd "_law_cell" sCell []) rfl
  obtain ⟨_, F15⟩ := d.def_ 15 (d := dd "_law_pot" sPot []) rfl
  obtain ⟨_, F16⟩ := d.def_ 16 (d := dd "_law_take" sTake []) rfl
  obtain ⟨_, F17⟩ := d.def_ 17 (d := dd "_law_number" sNumber []) rfl
  obtain ⟨_, F18⟩ := d.def_ 18 (d := dd "_law_begin" sBegin []) rfl
  obtain ⟨_, F19⟩ := d.def_ 19 (d := dd "_law_turn" sLTurn []) rfl
  obtain ⟨_, F20⟩ := d.def_ 20 (d := dd "_law_sizes" sSizes []) rfl
  obtain ⟨_, F21⟩ := d.def_ 21 (d := dd "_law_there" sThere []) rfl
  obtain ⟨_, F22⟩ := d.def_ 22 (d := dd "_law_fewest" sFewest []) rfl
  obtain ⟨_, F23⟩ := d.def_ 23 (d := dd "_law_right" sRight []) rfl
  obtain ⟨fd, F24⟩ := d.def_ 24 (d := dd "law" sLaw []) rfl
  have g : ∀ (i : Nat) (x : Str), faL[i]? = some (.glo x) → mg x = some (.ref (He.ga K x)) := fun i x z => He.glo_ok X G (d.fact i (f := .glo x) z)
  have me : ∀ (i : Nat) (x : Str), faL[i]? = some (.meth "Round" x) → Meth K (He.ga K "Round") x (He.ma K (He.ga K "Round") x) := fun i x z => He.meth_ok (d.fact i (f := .meth "Round" x) z)
  have b := FunD.bindsA (ps := ["_law_script"]) F24 fun _ _ _ _ _ _ us hl => match us, hl with | [_], _ => rfl
  refine ⟨fd, fun s v => b s [v] rfl, fun base _ _ => ?_⟩
  have w2 := cal_whole2 (P := P) (w := w) (base := base) F0 T (g 0 _ rfl)
  have w1 := cal_whole1 (P := P) (w := w) (base := base) F0 T (g 0 _ rfl)
  have il := cal_isList (P := P) (w := w) (base := base) F1 T (g 1 _ rfl)
  have wa := cal_want F2 T (g 2 _ rfl) w2 w1
  have ar := cal_are F3 T (g 3 _ rfl) il w1
  have mk := mak_round F4 T wa ar
  have mOn := met_on (P := P) (w := w) (base := base) F5 T (me 23 _ rfl)
  have mOff := met_off (P := P) (w := w) (base := base) F6 T (me 24 _ rfl)
  have mB := met_begins (P := P) (w := w) (base := base) F7 T (me 25 _ rfl)
  have mT := met_turn (P := P) (w := w) (base := base) F8 T (me 26 _ rfl)
  have mO := met_those F9 T (me 27 _ rfl) mT
  have mL := met_least F10 T (me 28 _ rfl) mT mO
  have sp := cal_spread F12 T (g 5 _ rfl) mk
  have GE := ok_even F13 T wa w1 sp
  have ev : C8.Cal P w K mg base 6 "even_round" (spEven (He.ga K "Round")) [] := ⟨_, _, _, [], GE, g 6 _ rfl, F13.kp, even_binds F13, .nil⟩
  have ce := cal_cell (P := P) (w := w) (base := base) F14 T (g 7 _ rfl)
  have po := cal_pot F15 T (g 8 _ rfl) ce
  have ta := cal_take (P := P) (w := w) (base := base) F16 T (g 9 _ rfl)
  have nu := cal_number F17 (g 10 _ rfl) ta
  have be := cal_begin F18 (g 11 _ rfl) ta
  have tu := cal_lturn F19 (g 12 _ rfl) nu
  have si := cal_sizes F20 (g 13 _ rfl) ta tu
  have th := cal_there (P := P) (w := w) (base := base) F21 T (g 14 _ rfl)
  have fe := cal_fewest F22 T (g 15 _ rfl) th
  have ri := cal_right F23 T (g 16 _ rfl) th fe mOn mOff mB mL
  exact ok_law F24 T F11 po si ta be fe ri ev GE (g 6 _ rfl) F13.kp (even_kw F13) mk mB mL
end Lt
open PySem PySem.W PySem.Calls PyProof.Rows
set_option maxRecDepth 100000 in
set_option maxHeartbeats 0 in
theorem PySem.Challenge.cw_lightturns_k45_whole_even_rounds_holds : PySem.Challenge.rw_lightturns_k45_whole_even_rounds.Holds := by
  w_on; o_law
  refine HandSHeadRun.head_any (r := Lt.R) (q := view Lt.R.prog [28]) (H := Lt.hk) (ob := Lt.ob) (M := 4000) (loose := Lt.loose) (d := HandSHeadRun.topDef Lt.R.prog 28) (kwd := []) Lt.ob_eq
    (by kernel_rfl) (fun s => by kernel_rfl) Lt.run (by kernel_rfl) (by kernel_rfl) (by kernel_rfl) (by rfl) (by first | assumption | decide +kernel) (by decide +kernel) ⟨rfl, rfl, rfl, rfl, rfl, by decide +kernel⟩ ?hw ?hc
  case hw => w_witness2
  case hc =>
    refine L2.walk_ofE (l := PySem.Challenge.rw_lightturns_k45_whole_even_rounds) (n := 63) (k := 7) (x := "_law_script") (CX := C8.CX0) rfl (by decide) (by kernel_rfl) ⟨rfl, by decide, by decide⟩ ?F (fun _ _ _ _ z => z)
    intro w mg fa h Y G hmg0
    obtain ⟨K, KX, c⟩ := Y
    have hmg : mg ("law" : PySem.Str) = some (.ref fa) := by
      have e : (HandSHeadRun.topDef Lt.R.prog 28).name = ("law" : PySem.Str) := by kernel_rfl
      rw [← e]
      exact hmg0
    obtain ⟨fd, hb, hF⟩ := Lt.facts (P := (PySem.Challenge.rw_lightturns_k45_whole_even_rounds).prog) (w := w) KX G hmg c
    exact ⟨K, fd, Lt.spLaw K, KX, hb, fun H a ns hl _ hS => ⟨a, ns, rfl, hS, hl, fun _ => rfl⟩, hF⟩
