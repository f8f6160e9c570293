import PyProof.Rows.All
import Wide.All
import OpenK.AllK
import Wide.FinOn
import PyProof.ReprRoads
import HandS.ForMost
import HandS.Wide
import HandS.Style
import HandS.IsInst
import HandS.DictTup
import HandS.SortOrd
import HandS.SortRule
import HandS.Flow
import HandS.Evl
import HandS.Rev
import PySem.Challenge.RW_seenandheard_k80_whole_great_clocks_know
import HandS.TryOnly
set_option Elab.async false
set_option linter.all false
set_option maxRecDepth 100000
set_option maxHeartbeats 8000000
namespace Ck
/-- the sum of f over 0 .. m - 1 -/
def fs (f : Nat → Int) : Nat → Int
  | 0 => 0
  | n + 1 => fs f n + f n
theorem fs_succ (f : Nat → Int) (n : Nat) : fs f (n + 1) = fs f n + f n := rfl
theorem fs_congr {f g : Nat → Int} : ∀ {m : Nat}, (∀ n, n < m → f n = g n) → fs f m = fs g m
  | 0, _ => rfl
  | m + 1, h => by
    rw [fs_succ, fs_succ, h m (Nat.lt_succ_self m), fs_congr (m := m) fun n hn => h n (Nat.lt_succ_of_lt hn)]
theorem fs_add (f g : Nat → Int) : ∀ m, fs (fun n => f n + g n) m = fs f m + fs g m
  | 0 => rfl
  | m + 1 => by
    rw [fs_succ, fs_succ, fs_succ, fs_add f g m]
    omega
theorem fs_const (c : Int) : ∀ m : Nat, fs (fun _ => c) m = m * c
  | 0 => by simp [fs]
  | m + 1 => by
    rw [fs_succ, fs_const c m]
    grind
theorem fs_mul (c : Int) (f : Nat → Int) : ∀ m, fs (fun n => c * f n) m = c * fs f m
  | 0 => by simp [fs]
  | m + 1 => by
    rw [fs_succ, fs_succ, fs_mul c f m]
    grind
theorem fs_split (f : Nat → Int) (a : Nat) : ∀ b, fs f (a + b) = fs f a + fs (fun n => f (a + n)) b
  | 0 => by simp [fs]
  | b + 1 => by
    rw [fs_succ, ← Nat.add_assoc, fs_succ, fs_split f a b]
    omega
theorem fs_id : ∀ m : Nat, 2 * fs (fun n => (n : Int)) m = (m : Int) * (m - 1)
  | 0 => by simp [fs]
  | m + 1 => by
    rw [fs_succ]
    have := fs_id m
    grind
theorem fs_nonneg {f : Nat → Int} : ∀ {m : Nat}, (∀ n, n < m → 0 ≤ f n) → 0 ≤ fs f m
  | 0, _ => Int.le_refl _
  | m + 1, h => by
    rw [fs_succ]
    have := fs_nonneg (m := m) fun n hn => h n (Nat.lt_succ_of_lt hn)
    have := h m (Nat.lt_succ_self m)
    omega

/-! ### sums of floors -/
def F (m : Nat) (p r s : Int) : Int := fs (fun n => ((n : Int) * p + s) / r) m
theorem F_red {m : Nat} {p r s : Int} (hr : 0 < r) : F m p r s = (m : Int) * ((m : Int) - 1) / 2 * (p / r) + m * (s / r) + F m (p % r) r (s % r) := by
  have e : ∀ n : Nat, ((n : Int) * p + s) / r = (p / r) * (n : Int) + (s / r + ((n : Int) * (p % r) + s % r) / r) := fun n => by
    have h1 : (n : Int) * p + s = ((n : Int) * (p % r) + s % r) + ((n : Int) * (p / r) + s / r) * r := by
      have h2 := Int.mul_ediv_add_emod p r
      have h3 := Int.mul_ediv_add_emod s r
      grind
    rw [h1, Int.add_mul_ediv_right _ _ (by omega)]
    grind
  have h2 := fs_id m
  have h3 : (m : Int) * ((m : Int) - 1) / 2 = fs (fun n => (n : Int)) m := by omega
  show fs _ m = _
  rw [fs_congr fun n _ => e n, fs_add, fs_add, fs_mul, fs_const, h3]
  show _ = _ + fs _ m
  grind
theorem F_zero {m : Nat} {p r s : Int} (hp : 0 ≤ p) (hs : 0 ≤ s) (h : ((m : Int) - 1) * p + s < r) : F m p r s = 0 := by
  have e : ∀ n, n < m → ((n : Int) * p + s) / r = 0 := fun n hn => by
    have h1 : 0 ≤ (n : Int) * p := Int.mul_nonneg (by omega) hp
    have h2 : (n : Int) * p ≤ ((m : Int) - 1) * p := Int.mul_le_mul_of_nonneg_right (by omega) hp
    exact Int.ediv_eq_zero_of_lt (by omega) (by omega)
  show fs _ m = 0
  rw [fs_congr e, fs_const]
  simp
theorem div_is {x p m : Int} (hp : 0 < p) (h1 : m * p ≤ x) (h2 : x ≤ m * p + p - 1) : x / p = m := by
  have h3 : m ≤ x / p := (Int.le_ediv_iff_mul_le hp).mpr h1
  have h4 : x / p < m + 1 := (Int.ediv_lt_iff_lt_mul hp).mpr (by grind)
  omega
theorem F_flip {p r s : Int} (hp : 0 < p) (hr : 0 < r) (h0 : 0 ≤ s) (h1 : s < r) : ∀ m : Nat,
    F (m + 1) p r s = (((m : Int) * p + s) / r) * ((m : Int) + 1) - F (((m : Int) * p + s) / r).toNat r p (r - s + p - 1)
  | 0 => by
    have e : s / r = 0 := Int.ediv_eq_zero_of_lt h0 h1
    simp [F, fs, e]
  | m + 1 => by
    have ih := F_flip hp hr h0 h1 m
    have e1 : F (m + 1 + 1) p r s = F (m + 1) p r s + (((m + 1 : Nat) : Int) * p + s) / r := rfl
    rw [e1, ih]
    generalize ha : ((m : Int) * p + s) / r = a
    generalize hb : (((m + 1 : Nat) : Int) * p + s) / r = b
    have mp : 0 ≤ (m : Int) * p := Int.mul_nonneg (by omega) (by omega)
    have emp : ((m + 1 : Nat) : Int) * p = (m : Int) * p + p := by grind
    have a0 : 0 ≤ a := by rw [← ha]; exact Int.ediv_nonneg (by omega) (by omega)
    have ab : a ≤ b := by rw [← ha, ← hb]; exact Int.ediv_le_ediv hr (by omega)
    have la : (m : Int) * p + s < (a + 1) * r := by rw [← ha]; have := Int.lt_ediv_add_one_mul_self ((m : Int) * p + s) hr; exact this
    have lb : b * r ≤ ((m + 1 : Nat) : Int) * p + s := by rw [← hb]; exact Int.ediv_mul_le _ (by omega)
    have e2 : b.toNat = a.toNat + (b - a).toNat := by omega
    have e3 : F b.toNat r p (r - s + p - 1) = F a.toNat r p (r - s + p - 1) + (b - a) * ((m : Int) + 1) := by
      rw [e2]
      show fs _ _ = fs _ _ + _
      rw [fs_split]
      have e4 : ∀ n, n < (b - a).toNat → (((a.toNat + n : Nat) : Int) * r + (r - s + p - 1)) / p = (m : Int) + 1 := fun n hn => by
        have e5 : ((a.toNat + n : Nat) : Int) = a + n := by omega
        rw [e5]
        have g1 : (a + 1) * r ≤ (a + (n : Int) + 1) * r := Int.mul_le_mul_of_nonneg_right (by omega) (by omega)
        have g2 : (a + (n : Int) + 1) * r ≤ b * r := Int.mul_le_mul_of_nonneg_right (by omega) (by omega)
        have g3 : (a + (n : Int)) * r + r = (a + (n : Int) + 1) * r := by grind
        have g4 : ((m : Int) + 1) * p = (m : Int) * p + p := by grind
        exact div_is hp (by omega) (by omega)
      rw [fs_congr e4, fs_const]
      have e6 : (((b - a).toNat : Nat) : Int) = b - a := by omega
      rw [e6]
    rw [e3]
    have e7 : ((m + 1 : Nat) : Int) = (m : Int) + 1 := by omega
    rw [e7]
    grind
end Ck

namespace Ck
/-! ### how many fall in a range -/
def InR (p r s lo hi n : Int) : Prop := lo ≤ (n * p + s) % r ∧ (n * p + s) % r ≤ hi
instance (p r s lo hi n : Int) : Decidable (InR p r s lo hi n) := by unfold InR; infer_instance
def cnt (p r s lo hi : Int) (m : Nat) : Int := fs (fun n => if InR p r s lo hi (n : Int) then 1 else 0) m
theorem one_floor {x r lo hi : Int} (hr : 0 < r) (h0 : 0 ≤ lo) (h1 : lo ≤ hi) (h2 : hi < r) : (x - lo) / r - (x - hi - 1) / r = if lo ≤ x % r ∧ x % r ≤ hi then 1 else 0 := by
  have e := Int.mul_ediv_add_emod x r
  have n0 := Int.emod_nonneg x (show r ≠ 0 by omega)
  have n1 := Int.emod_lt_of_pos x hr
  generalize x % r = y at *
  generalize x / r = q at *
  have e2 : x = q * r + y := by grind
  subst e2
  have a1 : (q * r + y - lo) / r = if lo ≤ y then q else q - 1 := by
    split
    · exact div_is hr (by omega) (by omega)
    · have : (q - 1) * r = q * r - r := by grind
      exact div_is hr (by omega) (by omega)
  have a2 : (q * r + y - hi - 1) / r = if hi < y then q else q - 1 := by
    split
    · exact div_is hr (by omega) (by omega)
    · have : (q - 1) * r = q * r - r := by grind
      exact div_is hr (by omega) (by omega)
  rw [a1, a2]
  split <;> split <;> split <;> omega
theorem fs_sub (f g : Nat → Int) : ∀ m, fs f m - fs g m = fs (fun n => f n - g n) m
  | 0 => rfl
  | m + 1 => by
    rw [fs_succ, fs_succ, fs_succ, ← fs_sub f g m]
    omega
theorem cnt_F {p r s lo hi : Int} {m : Nat} (hr : 0 < r) (h0 : 0 ≤ lo) (h1 : lo ≤ hi) (h2 : hi < r) : F m p r (s - lo) - F m p r (s - hi - 1) = cnt p r s lo hi m := by
  unfold F cnt
  rw [fs_sub]
  refine fs_congr fun n _ => ?_
  have e1 : (n : Int) * p + (s - lo) = ((n : Int) * p + s) - lo := by omega
  have e2 : (n : Int) * p + (s - hi - 1) = ((n : Int) * p + s) - hi - 1 := by omega
  rw [e1, e2, one_floor hr h0 h1 h2]
  rfl
theorem cnt_succ (p r s lo hi : Int) (m : Nat) : cnt p r s lo hi (m + 1) = cnt p r s lo hi m + if InR p r s lo hi (m : Int) then 1 else 0 := rfl
theorem cnt_nonneg (p r s lo hi : Int) (m : Nat) : 0 ≤ cnt p r s lo hi m := fs_nonneg fun n _ => by split <;> decide
theorem cnt_le (p r s lo hi : Int) : ∀ m : Nat, cnt p r s lo hi m ≤ m
  | 0 => Int.le_refl _
  | m + 1 => by
    have := cnt_le p r s lo hi m
    rw [cnt_succ]
    split <;> omega
theorem cnt_split (p r s lo hi : Int) (a b : Nat) : cnt p r s lo hi (a + b) = cnt p r s lo hi a + fs (fun n => if InR p r s lo hi ((a + n : Nat) : Int) then 1 else 0) b := fs_split _ a b
theorem cnt_mono (p r s lo hi : Int) {a b : Nat} (h : a ≤ b) : cnt p r s lo hi a ≤ cnt p r s lo hi b := by
  obtain ⟨c, rfl⟩ := Nat.exists_eq_add_of_le h
  rw [cnt_split]
  have := fs_nonneg (f := fun n => if InR p r s lo hi ((a + n : Nat) : Int) then (1 : Int) else 0) (m := c) fun n _ => by split <;> decide
  omega
/-- one fallen picture by its number -/
theorem cnt_inj {p r s lo hi : Int} {a b : Nat} (ha : InR p r s lo hi (a : Int)) (hb : InR p r s lo hi (b : Int)) (h : cnt p r s lo hi a = cnt p r s lo hi b) : a = b := by
  have key : ∀ {a b : Nat}, InR p r s lo hi (a : Int) → cnt p r s lo hi a = cnt p r s lo hi b → ¬ a < b := fun {a b} ha h l => by
    have h1 := cnt_mono p r s lo hi (show a + 1 ≤ b from l)
    rw [cnt_succ, if_pos ha] at h1
    omega
  have h1 := key ha h
  have h2 := key hb h.symm
  omega
theorem emod_shift {x y r : Int} (h : r ∣ x - y) : x % r = y % r := Int.emod_eq_emod_iff_emod_sub_eq_zero.mpr (Int.emod_eq_zero_of_dvd h)
theorem inR_shift {p r s lo hi n t : Int} (h : r ∣ t * p) : InR p r s lo hi (t + n) ↔ InR p r s lo hi n := by
  unfold InR
  rw [emod_shift (x := (t + n) * p + s) (y := n * p + s) (by
    have : (t + n) * p + s - (n * p + s) = t * p := by grind
    rw [this]; exact h)]
theorem cnt_period {p r s lo hi : Int} {per : Nat} (h : r ∣ (per : Int) * p) : ∀ (q x : Nat), cnt p r s lo hi (q * per + x) = q * cnt p r s lo hi per + cnt p r s lo hi x
  | 0, x => by simp
  | q + 1, x => by
    have e : (q + 1) * per + x = per + (q * per + x) := by grind
    rw [e, cnt_split]
    have e2 : fs (fun n => if InR p r s lo hi ((per + n : Nat) : Int) then (1 : Int) else 0) (q * per + x) = cnt p r s lo hi (q * per + x) :=
      fs_congr fun n _ => by
        have := inR_shift (s := s) (lo := lo) (hi := hi) (n := (n : Int)) h
        have e3 : ((per + n : Nat) : Int) = (per : Int) + n := by omega
        rw [e3]
        by_cases z : InR p r s lo hi (n : Int)
        · rw [if_pos z, if_pos (this.mpr z)]
        · rw [if_neg z, if_neg fun y => z (this.mp y)]
    rw [e2, cnt_period h q x]
    grind
/-- the search for the n-th -/
theorem nth_ok {p r s lo hi : Int} {per : Nat} (h : r ∣ (per : Int) * p) {n each : Int} {least : Nat} (he : each = cnt p r s lo hi per) (e0 : 0 < each) (hn : 0 ≤ n)
    (h1 : n % each < cnt p r s lo hi (least + 1)) (h2 : ∀ k : Nat, k < least → cnt p r s lo hi (k + 1) ≤ n % each) :
    InR p r s lo hi (n / each * per + least) ∧ cnt p r s lo hi (n / each * per + least).toNat = n := by
  have m0 := Int.emod_nonneg n (show each ≠ 0 by omega)
  have d0 := Int.ediv_nonneg hn (show 0 ≤ each by omega)
  have c1 : cnt p r s lo hi least ≤ n % each := by
    cases least with
    | zero => exact m0
    | succ k => exact h2 k (Nat.lt_succ_self k)
  rw [cnt_succ] at h1
  have hin : InR p r s lo hi (least : Int) := by
    by_cases z : InR p r s lo hi (least : Int)
    · exact z
    · rw [if_neg z] at h1; omega
  rw [if_pos hin] at h1
  have c2 : cnt p r s lo hi least = n % each := by omega
  have e1 : (n / each * per + least).toNat = (n / each).toNat * per + least := by
    have : ((n / each).toNat : Int) = n / each := Int.toNat_of_nonneg d0
    have q0 : 0 ≤ n / each * (per : Int) := Int.mul_nonneg d0 (by omega)
    have q1 : (((n / each).toNat * per : Nat) : Int) = n / each * (per : Int) := by rw [Int.natCast_mul, this]
    omega
  have e2 := Int.mul_ediv_add_emod n each
  refine ⟨(inR_shift (t := n / each * per) ?_).mpr hin, ?_⟩
  · obtain ⟨c, hc⟩ := h
    exact ⟨n / each * c, by grind⟩
  · rw [e1, cnt_period h, c2, ← he, Int.toNat_of_nonneg d0]
    grind

/-! ### the first one in a range -/
def Hit (p r l h n : Int) : Prop := l ≤ (n * p) % r ∧ (n * p) % r ≤ h
def First (p r l h : Int) : Option Int → Prop
  | some n => 0 ≤ n ∧ Hit p r l h n ∧ ∀ m, 0 ≤ m → m < n → ¬ Hit p r l h m
  | none => ∀ m, 0 ≤ m → ¬ Hit p r l h m
theorem First.of_iff {p r l h p' r' l' h' : Int} (e : ∀ n, Hit p r l h n ↔ Hit p' r' l' h' n) : ∀ {o}, First p r l h o → First p' r' l' h' o
  | some _, ⟨a, b, c⟩ => ⟨a, (e _).mp b, fun m m0 m1 z => c m m0 m1 ((e m).mpr z)⟩
  | none, c => fun m m0 z => c m m0 ((e m).mpr z)
theorem hit_mod {p r l h n : Int} : Hit (p % r) r l h n ↔ Hit p r l h n := by
  unfold Hit
  have : (n * (p % r)) % r = (n * p) % r := by
    rw [Int.mul_emod n (p % r), Int.emod_emod_of_dvd _ (Int.dvd_refl r), ← Int.mul_emod]
  rw [this]
theorem first_mod {p r l h : Int} {o : Option Int} : First (p % r) r l h o → First p r l h o := First.of_iff fun _ => hit_mod
theorem first_none {p r l h : Int} (hp : p = 0) (hl : 1 ≤ l) : First p r l h none := fun m _ ⟨z, _⟩ => by
  rw [hp, Int.mul_zero, Int.zero_emod] at z
  omega
theorem first_turn {p r l h : Int} (hr : 0 < r) (hl : 1 ≤ l) (hh : h < r) {o : Option Int} : First (r - p) r (r - h) (r - l) o → First p r l h o := First.of_iff fun n => by
  unfold Hit
  have e : (n * (r - p)) % r = (-(n * p)) % r := emod_shift ⟨n, by grind⟩
  rw [e, Int.neg_emod]
  have n0 := Int.emod_nonneg (n * p) (show r ≠ 0 by omega)
  have n1 := Int.emod_lt_of_pos (n * p) hr
  by_cases z : r ∣ n * p
  · rw [if_pos z, Int.emod_eq_zero_of_dvd z]
    omega
  · rw [if_neg z]
    have : ((r.natAbs : Nat) : Int) = r := by omega
    rw [this]
    omega
theorem first_hit {p r l h : Int} (hp : 0 < p) (hl : 1 ≤ l) (hh : h < r) (hk : (l + p - 1) / p * p ≤ h) : First p r l h (some ((l + p - 1) / p)) := by
  have a1 := Int.lt_ediv_add_one_mul_self (l + p - 1) hp
  have a2 := Int.ediv_mul_le (l + p - 1) (show p ≠ 0 by omega)
  have a3 : 0 ≤ (l + p - 1) / p := Int.ediv_nonneg (by omega) (by omega)
  generalize (l + p - 1) / p = n at *
  have a4 : (n + 1) * p = n * p + p := by grind
  have np : 0 ≤ n * p := Int.mul_nonneg a3 (by omega)
  refine ⟨a3, ?_, fun m m0 m1 ⟨z1, z2⟩ => ?_⟩
  · unfold Hit
    rw [Int.emod_eq_of_lt np (by omega)]
    omega
  · have b1 : m * p ≤ (n - 1) * p := Int.mul_le_mul_of_nonneg_right (by omega) (by omega)
    have b2 : (n - 1) * p = n * p - p := by grind
    have b3 : 0 ≤ m * p := Int.mul_nonneg m0 (by omega)
    rw [Int.emod_eq_of_lt b3 (by omega)] at z1
    omega
theorem down_facts {p l h : Int} (hp : 0 < p) (hl : 1 ≤ l) (hlh : l ≤ h) (hk : h < (l + p - 1) / p * p) :
    h / p = l / p ∧ 1 ≤ l % p ∧ l % p ≤ h % p ∧ h % p < p ∧ h % p = h - l / p * p ∧ l % p = l - l / p * p ∧ h ≤ l + p - 2 := by
  have l1 := Int.mul_ediv_add_emod l p
  have l2 := Int.emod_nonneg l (show p ≠ 0 by omega)
  have l3 := Int.emod_lt_of_pos l hp
  have hm := Int.mul_ediv_add_emod h p
  generalize hq : l / p = q at *
  generalize l % p = y at *
  have e1 : p * q = q * p := Int.mul_comm _ _
  have y1 : 1 ≤ y := by
    by_cases z : y = 0
    · have : (l + p - 1) / p = q := div_is hp (by omega) (by omega)
      rw [this] at hk
      omega
    · omega
  have e2 : (l + p - 1) / p = q + 1 := div_is hp (by grind) (by grind)
  have e3 : (q + 1) * p = q * p + p := by grind
  rw [e2, e3] at hk
  have e4 : h / p = q := div_is hp (by omega) (by omega)
  rw [e4] at hm
  refine ⟨e4, y1, ?_, ?_, ?_, ?_, ?_⟩ <;> omega
theorem first_down {p r l h : Int} (hp : 0 < p) (hr : 0 < r) (hl : 1 ≤ l) (hlh : l ≤ h) (hh : h < r) (hk : h < (l + p - 1) / p * p) {o : Option Int} (f : First (-r) p (l % p) (h % p) o) :
    First p r l h (o.map fun k => (l + r * k + p - 1) / p) := by
  obtain ⟨_, f1, f2, f3, f4, f5, f6⟩ := down_facts hp hl hlh hk
  generalize hq : l / p = q at *
  have q0 : 0 ≤ q := by rw [← hq]; exact Int.ediv_nonneg (by omega) (by omega)
  -- from n to k
  have down : ∀ n, 0 ≤ n → Hit p r l h n → 0 ≤ n * p / r ∧ Hit (-r) p (l % p) (h % p) (n * p / r) ∧ (l + r * (n * p / r) + p - 1) / p = n := fun n n0 ⟨z1, z2⟩ => by
    have e := Int.mul_ediv_add_emod (n * p) r
    generalize (n * p) % r = m at *
    have k0 : 0 ≤ n * p / r := Int.ediv_nonneg (Int.mul_nonneg n0 (by omega)) (by omega)
    generalize n * p / r = k at *
    refine ⟨k0, ?_, div_is hp (by omega) (by omega)⟩
    have e2 : (k * -r) % p = m - q * p := by
      rw [emod_shift (x := k * -r) (y := m - q * p) ⟨q - n, by grind⟩]
      exact Int.emod_eq_of_lt (by omega) (by omega)
    unfold Hit
    rw [e2]
    omega
  have up : ∀ k, 0 ≤ k → Hit (-r) p (l % p) (h % p) k → 0 ≤ (l + r * k + p - 1) / p ∧ Hit p r l h ((l + r * k + p - 1) / p) := fun k k0 ⟨z1, z2⟩ => by
    have e := Int.mul_ediv_add_emod (k * -r) p
    generalize (k * -r) % p = t at *
    generalize (k * -r) / p = w at *
    have rk : 0 ≤ r * k := Int.mul_nonneg (by omega) k0
    have e1 : (q - w) * p = r * k + (q * p + t) := by grind
    have e2 : (l + r * k + p - 1) / p = q - w := div_is hp (by omega) (by omega)
    rw [e2]
    have qp : 0 ≤ q * p := Int.mul_nonneg q0 (by omega)
    refine ⟨?_, ?_⟩
    · rw [← e2]
      exact Int.ediv_nonneg (by omega) (by omega)
    · unfold Hit
      rw [e1, emod_shift (x := r * k + (q * p + t)) (y := q * p + t) ⟨k, by omega⟩, Int.emod_eq_of_lt (by omega) (by omega)]
      omega
  cases o with
  | none =>
    intro m m0 z
    obtain ⟨a, b, _⟩ := down m m0 z
    exact f _ a b
  | some k =>
    obtain ⟨k0, hk1, kmin⟩ := f
    obtain ⟨n0, hn⟩ := up k k0 hk1
    refine ⟨n0, hn, fun m m0 m1 z => ?_⟩
    obtain ⟨a, b, c⟩ := down m m0 z
    have hge : k ≤ m * p / r := by
      by_cases q : m * p / r < k
      · exact absurd b (kmin _ a q)
      · omega
    have : r * k ≤ r * (m * p / r) := Int.mul_le_mul_of_nonneg_left hge (by omega)
    have : (l + r * k + p - 1) / p ≤ (l + r * (m * p / r) + p - 1) / p := Int.ediv_le_ediv hp (by omega)
    have m2 : m < (l + r * k + p - 1) / p := m1
    omega
theorem first_lt {p r l h n : Int} (hr : 0 < r) (f : First p r l h (some n)) : n < r := by
  obtain ⟨n0, hn, hm⟩ := f
  by_cases z : n < r
  · exact z
  · refine absurd ?_ (hm (n - r) (by omega) (by omega))
    unfold Hit at *
    rw [emod_shift (x := (n - r) * p) (y := n * p) ⟨-p, by grind⟩]
    exact hn
/-- from the turned range to the range -/
theorem hit_inR {p r s lo hi n : Int} (hr : 0 < r) (h0 : 0 ≤ lo) (h1 : lo ≤ hi) (h2 : hi < r) (hs : ¬ (lo ≤ s % r ∧ s % r ≤ hi)) : Hit p r ((lo - s % r) % r) ((hi - s % r) % r) n ↔ InR p r s lo hi n := by
  have b0 := Int.emod_nonneg s (show r ≠ 0 by omega)
  have b1 := Int.emod_lt_of_pos s hr
  have eb : (n * p + s) % r = (n * p % r + s % r) % r := Int.add_emod _ _ _
  have x0 := Int.emod_nonneg (n * p) (show r ≠ 0 by omega)
  have x1 := Int.emod_lt_of_pos (n * p) hr
  unfold Hit InR
  rw [eb]
  generalize s % r = b at *
  generalize n * p % r = x at *
  have e1 : (x + b) % r = if x + b < r then x + b else x + b - r := by
    split
    · exact Int.emod_eq_of_lt (by omega) (by omega)
    · rw [emod_shift (x := x + b) (y := x + b - r) ⟨1, by omega⟩]
      exact Int.emod_eq_of_lt (by omega) (by omega)
  have e2 : ∀ y, 0 ≤ y → y < r → (y - b) % r = if b ≤ y then y - b else y - b + r := fun y y0 y1 => by
    split
    · exact Int.emod_eq_of_lt (by omega) (by omega)
    · rw [emod_shift (x := y - b) (y := y - b + r) ⟨-1, by omega⟩]
      exact Int.emod_eq_of_lt (by omega) (by omega)
  rw [e1, e2 lo h0 (by omega), e2 hi (by omega) h2]
  split <;> split <;> split <;> omega
theorem range_turned {r b lo hi : Int} (hr : 0 < r) (h0 : 0 ≤ lo) (h1 : lo ≤ hi) (h2 : hi < r) (b0 : 0 ≤ b) (b1 : b < r) (hs : ¬ (lo ≤ b ∧ b ≤ hi)) : 1 ≤ (lo - b) % r ∧ (lo - b) % r ≤ (hi - b) % r ∧ (hi - b) % r < r := by
  have e2 : ∀ y, 0 ≤ y → y < r → (y - b) % r = if b ≤ y then y - b else y - b + r := fun y y0 y1 => by
    split
    · exact Int.emod_eq_of_lt (by omega) (by omega)
    · rw [emod_shift (x := y - b) (y := y - b + r) ⟨-1, by omega⟩]
      exact Int.emod_eq_of_lt (by omega) (by omega)
  rw [e2 lo h0 (by omega), e2 hi (by omega) h2]
  split <;> split <;> omega
end Ck

namespace Ck
/-! ### the first picture of a clock -/
def FirstIn (p r s lo hi : Int) : Option Int → Prop
  | some n => 0 ≤ n ∧ InR p r s lo hi n ∧ ∀ m, 0 ≤ m → m < n → ¬ InR p r s lo hi m
  | none => ∀ m, 0 ≤ m → ¬ InR p r s lo hi m
theorem firstIn_zero {p r s lo hi : Int} (h : lo ≤ s % r ∧ s % r ≤ hi) : FirstIn p r s lo hi (some 0) :=
  ⟨Int.le_refl _, by unfold InR; rw [Int.zero_mul, Int.zero_add]; exact h, fun m m0 m1 => by omega⟩
theorem firstIn_of {p r s lo hi : Int} (hr : 0 < r) (h0 : 0 ≤ lo) (h1 : lo ≤ hi) (h2 : hi < r) (hs : ¬ (lo ≤ s % r ∧ s % r ≤ hi)) : ∀ {o}, First p r ((lo - s % r) % r) ((hi - s % r) % r) o → FirstIn p r s lo hi o
  | some _, ⟨a, b, c⟩ => ⟨a, (hit_inR hr h0 h1 h2 hs).mp b, fun m m0 m1 z => c m m0 m1 ((hit_inR hr h0 h1 h2 hs).mpr z)⟩
  | none, c => fun m m0 z => c m m0 ((hit_inR hr h0 h1 h2 hs).mpr z)
theorem firstIn_uniq {p r s lo hi : Int} : ∀ {o o'}, FirstIn p r s lo hi o → FirstIn p r s lo hi o' → o = o'
  | some a, some b, ⟨a0, a1, a2⟩, ⟨b0, b1, b2⟩ => by
    by_cases h : a < b
    · exact absurd a1 (b2 a a0 h)
    · by_cases h' : b < a
      · exact absurd b1 (a2 b b0 h')
      · have : a = b := by omega
        rw [this]
  | some a, none, ⟨a0, a1, _⟩, h => absurd a1 (h a a0)
  | none, some a, h, ⟨a0, a1, _⟩ => absurd a1 (h a a0)
  | none, none, _, _ => rfl
theorem firstIn_iff {p r s lo hi p' r' s' lo' hi' : Int} (e : ∀ n, InR p r s lo hi n ↔ InR p' r' s' lo' hi' n) : ∀ {o}, FirstIn p r s lo hi o → FirstIn p' r' s' lo' hi' o
  | some _, ⟨a, b, c⟩ => ⟨a, (e _).mp b, fun m m0 m1 z => c m m0 m1 ((e m).mpr z)⟩
  | none, c => fun m m0 z => c m m0 ((e m).mpr z)
theorem firstIn_lt {p r s lo hi n : Int} (hr : 0 < r) : FirstIn p r s lo hi (some n) → n < r := fun ⟨n0, hn, hm⟩ => by
  by_cases z : n < r
  · exact z
  · refine absurd ?_ (hm (n - r) (by omega) (by omega))
    have e : n = r + (n - r) := by omega
    rw [e] at hn
    exact (inR_shift ⟨p, rfl⟩).mp hn

/-! ### the nearest rests -/
structure Near (p r k1 d1 k2 d2 : Int) : Prop where
  pk1 : 1 ≤ k1
  pd1 : 1 ≤ d1
  pk2 : 1 ≤ k2
  pd2 : 1 ≤ d2
  up : r ∣ k1 * p - d1
  dn : r ∣ k2 * p + d2
  sum : k1 * d2 + k2 * d1 = r
theorem near_begin {p r : Int} (hr : 0 < r) (hp : p % r ≠ 0) : Near p r 1 (p % r) 1 (r - p % r) := by
  have a := Int.emod_nonneg p (show r ≠ 0 by omega)
  have b := Int.emod_lt_of_pos p hr
  have c := Int.mul_ediv_add_emod p r
  exact ⟨by omega, by omega, by omega, by omega, ⟨p / r, by omega⟩, ⟨p / r + 1, by grind⟩, by omega⟩
theorem near_up {p r k1 d1 k2 d2 m : Int} (N : Near p r k1 d1 k2 d2) (h0 : 0 ≤ m) (h1 : m ≤ (d1 - 1) / d2) : Near p r (k1 + m * k2) (d1 - m * d2) k2 d2 := by
  have d2p := N.pd2
  have k2p := N.pk2
  have e1 : m * d2 ≤ d1 - 1 := by
    have := (Int.le_ediv_iff_mul_le (by omega)).mp h1
    exact this
  have e2 : 0 ≤ m * k2 := Int.mul_nonneg h0 (by omega)
  have := N.pk1
  obtain ⟨a, ha⟩ := N.up
  obtain ⟨b, hb⟩ := N.dn
  have hs := N.sum
  refine ⟨by omega, by omega, k2p, d2p, ⟨a + m * b, by grind⟩, N.dn, by grind⟩
theorem near_dn {p r k1 d1 k2 d2 m : Int} (N : Near p r k1 d1 k2 d2) (h0 : 0 ≤ m) (h1 : m ≤ (d2 - 1) / d1) : Near p r k1 d1 (k2 + m * k1) (d2 - m * d1) := by
  have d1p := N.pd1
  have k1p := N.pk1
  have e1 : m * d1 ≤ d2 - 1 := by
    have := (Int.le_ediv_iff_mul_le (by omega)).mp h1
    exact this
  have e2 : 0 ≤ m * k1 := Int.mul_nonneg h0 (by omega)
  have := N.pk2
  obtain ⟨a, ha⟩ := N.up
  obtain ⟨b, hb⟩ := N.dn
  have hs := N.sum
  refine ⟨k1p, d1p, by omega, by omega, N.up, ⟨b + m * a, by grind⟩, by grind⟩
theorem one_le_div {x y : Int} (hy : 0 < y) (h : y ≤ x) : 1 ≤ x / y := (Int.le_ediv_iff_mul_le hy).mpr (by omega)
/-- the two steps are unlike while both fit below the first one -/
theorem near_ne {p r s lo hi n k1 d1 k2 d2 : Int} (N : Near p r k1 d1 k2 d2) (f : FirstIn p r s lo hi (some n)) (h : k1 + k2 ≤ n) : d1 ≠ d2 := fun e => by
  obtain ⟨n0, hn, hm⟩ := f
  have a := N.pk1
  have b := N.pk2
  refine absurd ?_ (hm (n - (k1 + k2)) (by omega) (by omega))
  have e2 : n = (k1 + k2) + (n - (k1 + k2)) := by omega
  rw [e2] at hn
  refine (inR_shift ?_).mp hn
  obtain ⟨c, hc⟩ := N.up
  obtain ⟨d, hd⟩ := N.dn
  exact ⟨c + d, by grind⟩
/-- what the paper shows -/
theorem near_shows {p r s lo hi n k1 d1 k2 d2 : Int} (hr : 0 < r) (h0 : 0 ≤ lo) (h2 : hi < r) (N : Near p r k1 d1 k2 d2) (f : FirstIn p r s lo hi (some n)) (h1 : k1 ≤ n) (h3 : k2 ≤ n) :
    (n * p + s) % r - d1 < lo ∧ hi < (n * p + s) % r + d2 := by
  obtain ⟨n0, hn, hm⟩ := f
  obtain ⟨z1, z2⟩ := hn
  have a := N.pk1
  have b := N.pk2
  have c := N.pd1
  have d := N.pd2
  have u := hm (n - k1) (by omega) (by omega)
  have v := hm (n - k2) (by omega) (by omega)
  have w := Int.mul_ediv_add_emod (n * p + s) r
  generalize (n * p + s) % r = y at *
  generalize (n * p + s) / r = q at *
  obtain ⟨e, he⟩ := N.up
  obtain ⟨g, hg⟩ := N.dn
  refine ⟨?_, ?_⟩
  · by_cases z : y - d1 < lo
    · exact z
    · refine absurd ?_ u
      unfold InR
      rw [emod_shift (x := (n - k1) * p + s) (y := y - d1) ⟨q - e, by grind⟩, Int.emod_eq_of_lt (by omega) (by omega)]
      omega
  · by_cases z : hi < y + d2
    · exact z
    · refine absurd ?_ v
      unfold InR
      rw [emod_shift (x := (n - k2) * p + s) (y := y + d2) ⟨q - g, by grind⟩, Int.emod_eq_of_lt (by omega) (by omega)]
      omega

/-! ### common divisors -/
structure IsGcd (g a b : Int) : Prop where
  pos : 0 ≤ g
  one : g ∣ a
  two : g ∣ b
  all : ∀ x, x ∣ a → x ∣ b → x ∣ g
theorem isGcd_zero {a : Int} (h : 0 ≤ a) : IsGcd a a 0 := ⟨h, Int.dvd_refl _, Int.dvd_zero _, fun _ hx _ => hx⟩
theorem isGcd_step {g a b : Int} (h : IsGcd g b (a % b)) : IsGcd g a b := by
  have e := Int.mul_ediv_add_emod a b
  refine ⟨h.pos, ?_, h.one, fun x h1 h2 => h.all x h2 ?_⟩
  · rw [← e]
    exact Int.dvd_add (Int.dvd_trans h.one (Int.dvd_mul_right _ _)) h.two
  · have e2 : a % b = a - b * (a / b) := by omega
    rw [e2]
    exact Int.dvd_sub h1 (Int.dvd_trans h2 (Int.dvd_mul_right _ _))
theorem isGcd_uniq {g g' a b : Int} (h : IsGcd g a b) (h' : IsGcd g' a b) : g = g' :=
  Int.dvd_antisymm h.pos h'.pos (h'.all g h.one h.two) (h.all g' h'.one h'.two)
theorem isGcd_pos {g a b : Int} (h : IsGcd g a b) (hb : 0 < b) : 0 < g := by
  have := h.pos
  by_cases z : g = 0
  · have := h.two
    rw [z] at this
    have := Int.zero_dvd.mp this
    omega
  · omega

/-! ### steps within a reach -/
structure Cut (p r g k1 d1 k2 d2 reach : Int) : Prop where
  near : Near p r k1 d1 k2 d2
  g1 : g ∣ d1
  g2 : g ∣ d2
  cd : ∀ x, x ∣ d1 → x ∣ d2 → x ∣ g
  far : reach < d1 + d2
theorem cut_begin {p r g reach : Int} (hr : 0 < r) (hp : p % r ≠ 0) (G : IsGcd g p r) (h : reach < r) : Cut p r g 1 (p % r) 1 (r - p % r) reach := by
  have c := Int.mul_ediv_add_emod p r
  have e : p % r = p - r * (p / r) := by omega
  have h1 : g ∣ p % r := by rw [e]; exact Int.dvd_sub G.one (Int.dvd_trans G.two (Int.dvd_mul_right _ _))
  refine ⟨near_begin hr hp, h1, Int.dvd_sub G.two h1, fun x a b => ?_, by omega⟩
  have h2 : x ∣ r := by
    have := Int.dvd_add a b
    have e2 : p % r + (r - p % r) = r := by omega
    rwa [e2] at this
  refine G.all x ?_ h2
  rw [← c]
  exact Int.dvd_add (Int.dvd_trans h2 (Int.dvd_mul_right _ _)) a
theorem ceil_far {a b reach m : Int} (hb : 0 < b) (h : m ≤ 1 ∨ m ≤ (a - reach + b - 1) / b) (hm : 0 ≤ m) (h1 : m ≤ 1 → reach < a - m * b + b) : reach < a - m * b + b := by
  rcases h with h | h
  · exact h1 h
  · have := (Int.le_ediv_iff_mul_le hb).mp h
    omega
theorem cut_up {p r g k1 d1 k2 d2 reach m : Int} (C : Cut p r g k1 d1 k2 d2 reach) (hgt : d2 < d1) (hreach : reach < d1 ∨ reach < d2)
    (hm : m = min (max 1 ((d1 - reach + d2 - 1) / d2)) ((d1 - 1) / d2)) : 1 ≤ m ∧ Cut p r g (k1 + m * k2) (d1 - m * d2) k2 d2 reach := by
  have dp := C.near.pd2
  have m1 : 1 ≤ (d1 - 1) / d2 := one_le_div (by omega) (by omega)
  have m2 : 1 ≤ m := by omega
  have m3 : m ≤ (d1 - 1) / d2 := by omega
  refine ⟨m2, near_up C.near (by omega) m3, ?_, C.g2, fun x a b => C.cd x ?_ b, ?_⟩
  · exact Int.dvd_sub C.g1 (Int.dvd_trans C.g2 (Int.dvd_mul_left _ _))
  · have := Int.dvd_add a (Int.dvd_trans b (Int.dvd_mul_left m d2))
    have e : d1 - m * d2 + m * d2 = d1 := by omega
    rwa [e] at this
  · refine ceil_far (a := d1) (by omega) (by omega) (by omega) fun h => ?_
    have : m = 1 := by omega
    subst this
    omega
theorem cut_dn {p r g k1 d1 k2 d2 reach m : Int} (C : Cut p r g k1 d1 k2 d2 reach) (hg0 : 0 < g) (hgr : g ≤ reach) (hle : ¬ d2 < d1) (hreach : reach < d1 ∨ reach < d2)
    (hm : m = min (max 1 ((d2 - reach + d1 - 1) / d1)) ((d2 - 1) / d1)) : 1 ≤ m ∧ Cut p r g k1 d1 (k2 + m * k1) (d2 - m * d1) reach := by
  have dp := C.near.pd1
  have dne : d1 ≠ d2 := fun e => by
    have h1 : d1 ∣ g := C.cd d1 (Int.dvd_refl _) (by rw [e]; exact Int.dvd_refl _)
    have h2 := Int.le_of_dvd hg0 h1
    omega
  have m1 : 1 ≤ (d2 - 1) / d1 := one_le_div (by omega) (by omega)
  have m2 : 1 ≤ m := by omega
  have m3 : m ≤ (d2 - 1) / d1 := by omega
  refine ⟨m2, near_dn C.near (by omega) m3, C.g1, ?_, fun x a b => C.cd x a ?_, ?_⟩
  · exact Int.dvd_sub C.g2 (Int.dvd_trans C.g1 (Int.dvd_mul_left _ _))
  · have := Int.dvd_add b (Int.dvd_trans a (Int.dvd_mul_left m d1))
    have e : d2 - m * d1 + m * d1 = d2 := by omega
    rwa [e] at this
  · have := ceil_far (a := d2) (b := d1) (reach := reach) (m := m) (by omega) (by omega) (by omega) fun h => by
      have : m = 1 := by omega
      subst this
      omega
    omega
/-- the pair within a reach is the only one -/
theorem near_half {p r k1 d1 k2 d2 k1' d1' k2' d2' reach : Int} (hr : 0 < r) (N : Near p r k1 d1 k2 d2) (N' : Near p r k1' d1' k2' d2') (h1' : d1' ≤ reach) (h : reach < d1 + d2) : 0 ≤ k1' * d1 - k1 * d1' := by
  obtain ⟨a, ha⟩ := N.up
  obtain ⟨b, hb⟩ := N.dn
  obtain ⟨c, hc⟩ := N'.up
  have hs := N.sum
  have q1 := N.pk1
  have q2 := N.pk2
  have q3 := N.pd1
  have q4 := N.pd2
  have q5 := N'.pk1
  have q6 := N'.pd1
  have e1 : k1' * d1 - k1 * d1' = r * (k1 * c - k1' * a) := by grind
  have e2 : k1' * d2 + k2 * d1' = r * (k1' * b - k2 * c) := by grind
  generalize hx : k1 * c - k1' * a = x at *
  generalize hy : k1' * b - k2 * c = y at *
  have e3 : r * (d1' - y * d1 + x * d2) = 0 := by grind
  have e4 : d1' = y * d1 - x * d2 := by
    rcases Int.mul_eq_zero.mp e3 with z | z <;> omega
  have y1 : 1 ≤ y := by
    by_cases z : 1 ≤ y
    · exact z
    · have g1 : r * y ≤ 0 := by
        have := Int.mul_le_mul_of_nonneg_left (show y ≤ 0 by omega) (show 0 ≤ r by omega)
        omega
      have g2 : 0 < k1' * d2 := Int.mul_pos (by omega) (by omega)
      have g3 : 0 < k2 * d1' := Int.mul_pos (by omega) (by omega)
      omega
  by_cases z : 0 ≤ x
  · rw [e1]
    exact Int.mul_nonneg (by omega) z
  · have g1 : d1 ≤ y * d1 := by
      have := Int.mul_le_mul_of_nonneg_right y1 (show 0 ≤ d1 by omega)
      omega
    have g2 : d2 ≤ -x * d2 := by
      have := Int.mul_le_mul_of_nonneg_right (show 1 ≤ -x by omega) (show 0 ≤ d2 by omega)
      omega
    have g3 : -x * d2 = -(x * d2) := by grind
    omega
theorem near_uniq1 {p r k1 d1 k2 d2 k1' d1' k2' d2' reach : Int} (hr : 0 < r) (N : Near p r k1 d1 k2 d2) (N' : Near p r k1' d1' k2' d2') (h1 : d1 ≤ reach) (h : reach < d1 + d2) (h1' : d1' ≤ reach) (h' : reach < d1' + d2') : k1 = k1' ∧ d1 = d1' := by
  have e1 := near_half hr N N' h1' h
  have e2 := near_half hr N' N h1 h'
  have e : k1' * d1 = k1 * d1' := by omega
  obtain ⟨a, ha⟩ := N.up
  obtain ⟨b, hb⟩ := N.dn
  obtain ⟨c, hc⟩ := N'.up
  obtain ⟨b', hb'⟩ := N'.dn
  have hs := N.sum
  have hs' := N'.sum
  have q1 := N.pk1
  have q2 := N.pk2
  have q3 := N.pd1
  have q4 := N.pd2
  have q5 := N'.pk1
  have q6 := N'.pd1
  have q7 := N'.pk2
  have q8 := N'.pd2
  have f1 : k1' * d2 + k2 * d1' = r * (k1' * b - k2 * c) := by grind
  have f2 : k1 * d2' + k2' * d1 = r * (k1 * b' - k2' * a) := by grind
  generalize hy : k1' * b - k2 * c = y at *
  generalize hz : k1 * b' - k2' * a = z at *
  have y1 : 1 ≤ y := by
    by_cases z : 1 ≤ y
    · exact z
    · have g1 : r * y ≤ 0 := by
        have := Int.mul_le_mul_of_nonneg_left (show y ≤ 0 by omega) (show 0 ≤ r by omega)
        omega
      have g2 : 0 < k1' * d2 := Int.mul_pos (by omega) (by omega)
      have g3 : 0 < k2 * d1' := Int.mul_pos (by omega) (by omega)
      omega
  have z1 : 1 ≤ z := by
    by_cases w : 1 ≤ z
    · exact w
    · have g1 : r * z ≤ 0 := by
        have := Int.mul_le_mul_of_nonneg_left (show z ≤ 0 by omega) (show 0 ≤ r by omega)
        omega
      have g2 : 0 < k1 * d2' := Int.mul_pos (by omega) (by omega)
      have g3 : 0 < k2' * d1 := Int.mul_pos (by omega) (by omega)
      omega
  have m1 : r * (d1' - y * d1) = 0 := by grind
  have m2 : r * (d1 - z * d1') = 0 := by grind
  have l1 : d1' = y * d1 := by rcases Int.mul_eq_zero.mp m1 with w | w <;> omega
  have l2 : d1 = z * d1' := by rcases Int.mul_eq_zero.mp m2 with w | w <;> omega
  have g1 : d1 ≤ y * d1 := by
    have := Int.mul_le_mul_of_nonneg_right y1 (show 0 ≤ d1 by omega)
    omega
  have g2 : d1' ≤ z * d1' := by
    have := Int.mul_le_mul_of_nonneg_right z1 (show 0 ≤ d1' by omega)
    omega
  have dd : d1 = d1' := by omega
  refine ⟨?_, dd⟩
  rw [← dd] at e
  exact (Int.eq_of_mul_eq_mul_right (show d1 ≠ 0 by omega) e).symm
/-- turned about -/
theorem near_swap {p r k1 d1 k2 d2 q : Int} (N : Near p r k1 d1 k2 d2) (h : r ∣ p + q) : Near q r k2 d2 k1 d1 := by
  obtain ⟨a, ha⟩ := N.up
  obtain ⟨b, hb⟩ := N.dn
  obtain ⟨c, hc⟩ := h
  have hs := N.sum
  exact ⟨N.pk2, N.pd2, N.pk1, N.pd1, ⟨k2 * c - b, by grind⟩, ⟨k1 * c - a, by grind⟩, by grind⟩
theorem near_uniq {p r k1 d1 k2 d2 k1' d1' k2' d2' reach : Int} (hr : 0 < r) (N : Near p r k1 d1 k2 d2) (N' : Near p r k1' d1' k2' d2') (h1 : d1 ≤ reach) (h2 : d2 ≤ reach) (h : reach < d1 + d2) (h1' : d1' ≤ reach) (h2' : d2' ≤ reach) (h' : reach < d1' + d2') :
    k1 = k1' ∧ d1 = d1' ∧ k2 = k2' ∧ d2 = d2' := by
  obtain ⟨a, b⟩ := near_uniq1 hr N N' h1 h h1' h'
  have S := near_swap (q := -p) N ⟨0, by omega⟩
  have S' := near_swap (q := -p) N' ⟨0, by omega⟩
  obtain ⟨c, d⟩ := near_uniq1 hr S S' h2 (by omega) h2' (by omega)
  exact ⟨a, b, c, d⟩
end Ck

namespace Ck
/-! ### the levels of the way down -/
inductive Lv (P R L H : Int) : List (Int × Int × Int) → Int → Int → Int → Int → Prop
  | nil : 1 ≤ L → L ≤ H → H < R → Lv P R L H [] P R L H
  | snoc {t p r l h s l1 h1} : Lv P R L H t p r l h → 0 < s → 2 * s ≤ r → 1 ≤ l1 → l1 < r → 1 ≤ l1 % s → l1 % s ≤ h1 % s → h1 % s < s →
      (∀ o, First (-r) s (l1 % s) (h1 % s) o → First p r l h (o.map fun k => (l1 + r * k + s - 1) / s)) → Lv P R L H (t ++ [(s, r, l1)]) (-r) s (l1 % s) (h1 % s)
theorem Lv.ok {P R L H p r l h : Int} {t : List (Int × Int × Int)} (v : Lv P R L H t p r l h) : 1 ≤ l ∧ l ≤ h ∧ h < r ∧ r ≤ R := by
  induction v with
  | nil a b c => exact ⟨a, b, c, Int.le_refl _⟩
  | snoc _ _ _ _ _ b c d _ ih => exact ⟨b, c, d, by omega⟩
theorem Lv.len {P R L H p r l h : Int} {t : List (Int × Int × Int)} (v : Lv P R L H t p r l h) : (2 : Int) ^ t.length * r ≤ R := by
  induction v with
  | nil => simp
  | @snoc t' p' r' l' h' s l1 h1 v' a b c d e1 e2 e3 g ih =>
    rw [List.length_append, List.length_singleton, Int.pow_succ]
    have h0 : (0 : Int) ≤ 2 ^ t'.length := Int.pow_nonneg (by decide)
    have h1 := Int.mul_le_mul_of_nonneg_left b h0
    grind
theorem Lv.few {P R L H p r l h : Int} {t : List (Int × Int × Int)} (v : Lv P R L H t p r l h) (hR : R ≤ 10 ^ 13) : t.length < 64 := by
  have h1 := v.len
  have h2 := v.ok
  by_cases q : t.length < 64
  · exact q
  · have h3 : (2 : Int) ^ 64 ≤ 2 ^ t.length := by
      have := Nat.pow_le_pow_right (show 0 < 2 by decide) (show 64 ≤ t.length by omega)
      exact_mod_cast this
    have h4 : (2 : Int) ^ t.length * 1 ≤ 2 ^ t.length * r := Int.mul_le_mul_of_nonneg_left (by omega) (by omega)
    omega
theorem Lv.none {P R L H p r l h : Int} {t : List (Int × Int × Int)} (v : Lv P R L H t p r l h) : First p r l h none → First P R L H none := by
  induction v with
  | nil => exact fun f => f
  | snoc _ _ _ _ _ _ _ _ g ih => exact fun f => ih (g _ f)
theorem Lv.back {P R L H p r l h f : Int} {t : List (Int × Int × Int)} {x : Int × Int × Int} (v : Lv P R L H (t ++ [x]) p r l h) (hf : First p r l h (some f)) :
    0 < x.1 ∧ x.1 < x.2.1 ∧ x.2.1 ≤ R ∧ 1 ≤ x.2.2 ∧ x.2.2 < x.2.1 ∧ 0 ≤ f ∧ f < x.1 ∧ ∃ p' r' l' h', Lv P R L H t p' r' l' h' ∧ First p' r' l' h' (some ((x.2.2 + x.2.1 * f + x.1 - 1) / x.1)) := by
  generalize e : t ++ [x] = u at v
  cases v with
  | nil => cases t <;> cases e
  | @snoc t' p' r' l' h' s l1 h1 v' a b c d e1 e2 e3 g =>
    have hb : r < r' := by omega
    have hR : r' ≤ R := v'.ok.2.2.2
    obtain ⟨rfl, e4⟩ := List.append_inj' e rfl
    cases e4
    have hl := first_lt (by omega) hf
    exact ⟨a, hb, hR, c, d, hf.1, hl, p', r', l', h', v', g _ hf⟩
theorem Lv.end_ {P R L H p r l h : Int} {t : List (Int × Int × Int)} (v : Lv P R L H t p r l h) (e : t = []) {o : Option Int} (f : First p r l h o) : First P R L H o := by
  cases v with
  | nil => exact f
  | snoc => exact absurd e (by simp)
/-- one level: pace below rate, turned about if it is more than half -/
theorem level {p r l h : Int} (hl : 1 ≤ l) (hlh : l ≤ h) (hh : h < r) (hp : p % r ≠ 0) :
    (0 < p % r ∧ p % r < r) ∧ (2 * (p % r) > r → (1 ≤ r - h ∧ r - h ≤ r - l ∧ r - l < r ∧ 0 < r - p % r ∧ r - p % r < r ∧ ∀ o, First (r - p % r) r (r - h) (r - l) o → First p r l h o)) ∧ (∀ o, First (p % r) r l h o → First p r l h o) := by
  have a := Int.emod_nonneg p (show r ≠ 0 by omega)
  have b := Int.emod_lt_of_pos p (show 0 < r by omega)
  exact ⟨⟨by omega, b⟩, fun _ => ⟨by omega, by omega, by omega, by omega, by omega, fun o f => first_mod (first_turn (by omega) hl hh f)⟩, fun o f => first_mod f⟩
/-- down one level -/
theorem Lv.down {P R L H p r l h s l1 h1 : Int} {t : List (Int × Int × Int)} (v : Lv P R L H t p r l h) (hs : 0 < s) (hsr : 2 * s ≤ r) (a : 1 ≤ l1) (b : l1 ≤ h1) (c : h1 < r)
    (g : ∀ o, First s r l1 h1 o → First p r l h o) (hk : ¬ (l1 + s - 1) / s * s ≤ h1) : Lv P R L H (t ++ [(s, r, l1)]) (-r) s (l1 % s) (h1 % s) := by
  obtain ⟨_, f1, f2, f3, _, _, _⟩ := down_facts hs a b (by omega)
  exact .snoc v hs hsr a (by omega) f1 f2 f3 fun o f => g _ (first_down hs (by omega) a b c (by omega) f)
end Ck

namespace Ck
/-! ### one turn of the sum of floors -/
theorem floors_red {m p r s : Int} (hm : 0 < m) (hr : 0 < r) : F m.toNat p r s = (m * (m - 1) / 2 * (p / r) + m * (s / r)) + F m.toNat (p % r) r (s % r) := by
  have e : ((m.toNat : Nat) : Int) = m := by omega
  have h := F_red (m := m.toNat) (p := p) (r := r) (s := s) hr
  rw [e] at h
  exact h
theorem floors_end {m p r s : Int} (hm : 0 < m) (hp : 0 ≤ p) (hs : 0 ≤ s) (h : (m - 1) * p + s < r) : F m.toNat p r s = 0 := by
  have e : ((m.toNat : Nat) : Int) = m := by omega
  exact F_zero hp hs (by rw [e]; exact h)
theorem floors_flip {m p r s : Int} (hm : 0 < m) (hp : 0 ≤ p) (hpr : p < r) (hs : 0 ≤ s) (hsr : s < r) (h : ¬ (m - 1) * p + s < r) :
    0 < p ∧ 1 ≤ ((m - 1) * p + s) / r ∧ ((m - 1) * p + s) / r < m ∧ F m.toNat p r s = ((m - 1) * p + s) / r * m - F (((m - 1) * p + s) / r).toNat r p (r - s + p - 1) := by
  have p0 : 0 < p := by
    by_cases z : 0 < p
    · exact z
    · have : p = 0 := by omega
      subst this
      rw [Int.mul_zero] at h
      omega
  have h1 : 1 ≤ ((m - 1) * p + s) / r := (Int.le_ediv_iff_mul_le (by omega)).mpr (by omega)
  have h2 : ((m - 1) * p + s) / r < m := (Int.ediv_lt_iff_lt_mul (by omega)).mpr (by
    have := Int.mul_le_mul_of_nonneg_left (show p ≤ r by omega) (show 0 ≤ m - 1 by omega)
    have e : (m - 1) * r = m * r - r := by grind
    omega)
  refine ⟨p0, h1, h2, ?_⟩
  have e : m.toNat = (m - 1).toNat + 1 := by omega
  have e2 : (((m - 1).toNat : Nat) : Int) = m - 1 := by omega
  have := F_flip p0 (show 0 < r by omega) hs hsr (m - 1).toNat
  rw [e2] at this
  rw [e, this]
  have e3 : m - 1 + 1 = m := by omega
  rw [e3]
/-! ### a period -/
theorem period_dvd {g a b : Int} (G : IsGcd g a b) (hb : 0 < b) : b ∣ (((b / g).toNat : Nat) : Int) * a ∧ 1 ≤ b / g ∧ b / g ≤ b := by
  have g0 := isGcd_pos G hb
  obtain ⟨x, hx⟩ := G.one
  obtain ⟨y, hy⟩ := G.two
  have e : b / g = y := by rw [hy]; exact Int.mul_ediv_cancel_left _ (by omega)
  have y0 : 1 ≤ y := by
    by_cases z : 1 ≤ y
    · exact z
    · have := Int.mul_le_mul_of_nonneg_left (show y ≤ 0 by omega) (show 0 ≤ g by omega)
      omega
  have yb : y ≤ b := by
    have := Int.mul_le_mul_of_nonneg_right (show 1 ≤ g by omega) (show 0 ≤ y by omega)
    omega
  rw [e]
  refine ⟨⟨x, ?_⟩, y0, yb⟩
  have : ((y.toNat : Nat) : Int) = y := by omega
  rw [this, hx, hy]
  grind
theorem falls_each {a b c lo hi : Int} {per : Nat} (h : b ∣ (per : Int) * a) (hp : 0 < per) {n : Int} (h0 : 0 ≤ n) (hn : InR a b c lo hi n) : 0 < cnt a b c lo hi per := by
  have e : n = n / per * per + n % per := by
    have := Int.mul_ediv_add_emod n per
    grind
  have r0 := Int.emod_nonneg n (show (per : Int) ≠ 0 by omega)
  have r1 := Int.emod_lt_of_pos n (show 0 < (per : Int) by omega)
  rw [e] at hn
  have hn := (inR_shift (by obtain ⟨c, hc⟩ := h; exact ⟨n / per * c, by grind⟩)).mp hn
  have e2 : (((n % per).toNat : Nat) : Int) = n % per := by omega
  rw [← e2] at hn
  have h1 := cnt_mono a b c lo hi (show (n % per).toNat + 1 ≤ per by omega)
  rw [cnt_succ, if_pos hn] at h1
  have h2 := cnt_nonneg a b c lo hi (n % per).toNat
  omega
/-- the n-th one is the only one with its number -/
theorem nth_is {a b c lo hi : Int} {per : Nat} (h : b ∣ (per : Int) * a) {n each x : Int} {least : Nat} (he : each = cnt a b c lo hi per) (e0 : 0 < each) (hn : 0 ≤ n)
    (h1 : n % each < cnt a b c lo hi (least + 1)) (h2 : ∀ k : Nat, k < least → cnt a b c lo hi (k + 1) ≤ n % each) (x0 : 0 ≤ x) (hx : InR a b c lo hi x) (hc : cnt a b c lo hi x.toNat = n) : n / each * per + least = x := by
  obtain ⟨i1, i2⟩ := nth_ok h he e0 hn h1 h2
  have d0 := Int.ediv_nonneg hn (show 0 ≤ each by omega)
  have q0 : 0 ≤ n / each * (per : Int) := Int.mul_nonneg d0 (by omega)
  have e1 : (((n / each * per + least).toNat : Nat) : Int) = n / each * per + least := by omega
  have e2 : ((x.toNat : Nat) : Int) = x := by omega
  have := cnt_inj (a := (n / each * per + least).toNat) (b := x.toNat) (by rw [e1]; exact i1) (by rw [e2]; exact hx) (by rw [i2, hc])
  omega
end Ck

namespace Ck
/-! ### waits -/
def toldOf (k1 c1 k2 c2 c3 : Int) : List (Int × Int) := (if k1 = k2 then [(k1, c1 + c2)] else if k1 < k2 then [(k1, c1), (k2, c2)] else [(k2, c2), (k1, c1)]) ++ (if 0 < c3 then [(k1 + k2, c3)] else [])
def getI (l : List (Int × Int)) (k : Int) : Option Int := (l.find? fun e => decide (e.1 = k)).map (·.2)
def putI (l : List (Int × Int)) (k v : Int) : List (Int × Int) := if (l.any fun e => decide (e.1 = k)) = true then l.map (fun e => if e.1 = k then (e.1, v) else e) else l ++ [(k, v)]
def addI (l : List (Int × Int)) (e : Int × Int) : List (Int × Int) := if 0 < e.2 then putI l e.1 ((getI l e.1).getD 0 + e.2) else l
/-- not above, item by item -/
def lexI (e f : Int × Int) : Prop := e.1 < f.1 ∨ (e.1 = f.1 ∧ e.2 ≤ f.2)
theorem told_is {k1 c1 k2 c2 c3 : Int} (h1 : 1 ≤ k1) (h2 : 1 ≤ k2) (h3 : 0 < c1) (h4 : 0 < c2) {zs : List (Int × Int)} (hp : zs.Perm ([(k1, c1), (k2, c2), (k1 + k2, c3)].foldl addI [])) (hs : zs.Pairwise lexI) : zs = toldOf k1 c1 k2 c2 c3 := by
  have key : (toldOf k1 c1 k2 c2 c3).Pairwise lexI ∧ ([(k1, c1), (k2, c2), (k1 + k2, c3)].foldl addI []).Perm (toldOf k1 c1 k2 c2 c3) := by
    have e1 : addI [] (k1, c1) = [(k1, c1)] := by simp [addI, putI, getI, h3]
    have e2 : addI [(k1, c1)] (k2, c2) = if k1 = k2 then [(k1, c1 + c2)] else [(k1, c1), (k2, c2)] := by
      by_cases z : k1 = k2
      · simp [addI, putI, getI, h4, z]
      · simp [addI, putI, getI, h4, z]
    have n1 : ¬ k1 = k1 + k2 := by omega
    have n2 : ¬ k2 = k1 + k2 := by omega
    have e3 : [(k1, c1), (k2, c2), (k1 + k2, c3)].foldl addI [] = (if k1 = k2 then [(k1, c1 + c2)] else [(k1, c1), (k2, c2)]) ++ (if 0 < c3 then [(k1 + k2, c3)] else []) := by
      show addI (addI (addI [] (k1, c1)) (k2, c2)) (k1 + k2, c3) = _
      rw [e1, e2]
      by_cases z : k1 = k2
      · subst z
        by_cases y : 0 < c3
        · simp [addI, putI, getI, y, n1]
        · simp [addI, putI, getI, y]
      · by_cases y : 0 < c3
        · simp [addI, putI, getI, y, n1, n2, z]
        · simp [addI, putI, getI, y, z]
    refine ⟨?_, ?_⟩
    · unfold toldOf
      by_cases z : k1 = k2
      · subst z
        rw [if_pos rfl]
        by_cases y : 0 < c3
        · rw [if_pos y]
          simp [lexI]
          omega
        · rw [if_neg y]
          simp
      · rw [if_neg z]
        by_cases x : k1 < k2
        · rw [if_pos x]
          by_cases y : 0 < c3
          · rw [if_pos y]
            simp [lexI]
            omega
          · rw [if_neg y]
            simp [lexI]
            omega
        · rw [if_neg x]
          by_cases y : 0 < c3
          · rw [if_pos y]
            simp [lexI]
            omega
          · rw [if_neg y]
            simp [lexI]
            omega
    · rw [e3]
      unfold toldOf
      refine List.Perm.append ?_ (List.Perm.refl _)
      by_cases z : k1 = k2
      · rw [if_pos z, if_pos z]
      · rw [if_neg z, if_neg z]
        by_cases x : k1 < k2
        · rw [if_pos x]
        · rw [if_neg x]
          exact List.Perm.swap ..
  refine List.Perm.eq_of_pairwise (le := lexI) ?_ hs key.1 (hp.trans key.2)
  rintro ⟨a, b⟩ ⟨c, d⟩ _ _ h h'
  unfold lexI at h h'
  dsimp only at h h'
  have : a = c := by omega
  have : b = d := by omega
  simp [*]
theorem told_swap (k1 c1 k2 c2 c3 : Int) : toldOf k1 c1 k2 c2 c3 = toldOf k2 c2 k1 c1 c3 := by
  unfold toldOf
  rw [Int.add_comm k2 k1]
  by_cases z : k1 = k2
  · subst z
    simp [Int.add_comm]
  · have z' : ¬ k2 = k1 := by omega
    by_cases x : k1 < k2
    · have x' : ¬ k2 < k1 := by omega
      simp [z, z', x, x']
    · have x' : k2 < k1 := by omega
      simp [z, z', x, x']
/-- the ends: the least and the greatest rest of a range -/
theorem ends_facts {g c lo hi : Int} (hg : 0 < g) (h : lo + (c - lo) % g ≤ hi) : g ∣ (hi - (hi - c) % g) - (lo + (c - lo) % g) ∧ lo + (c - lo) % g ≤ hi - (hi - c) % g ∧ (hi - (hi - c) % g) - (lo + (c - lo) % g) ≤ hi - lo := by
  have a := Int.mul_ediv_add_emod (c - lo) g
  have b := Int.mul_ediv_add_emod (hi - c) g
  have a0 := Int.emod_nonneg (c - lo) (show g ≠ 0 by omega)
  have b0 := Int.emod_nonneg (hi - c) (show g ≠ 0 by omega)
  have b1 := Int.emod_lt_of_pos (hi - c) hg
  generalize (c - lo) % g = u at *
  generalize (hi - c) % g = v at *
  generalize (c - lo) / g = x at *
  generalize (hi - c) / g = y at *
  have e : hi - v - (lo + u) = g * (x + y) := by grind
  have p : 0 ≤ x + y := by
    by_cases z : 0 ≤ x + y
    · exact z
    · have := Int.mul_le_mul_of_nonneg_left (show x + y ≤ -1 by omega) (show 0 ≤ g by omega)
      omega
  have q : 0 ≤ g * (x + y) := Int.mul_nonneg (by omega) p
  exact ⟨⟨x + y, e⟩, by omega, by omega⟩
def Within (a b g reach k1 d1 k2 d2 : Int) : Prop := Near a b k1 d1 k2 d2 ∧ d1 ≤ reach ∧ d2 ≤ reach ∧ reach < d1 + d2 ∧ g ∣ d1 ∧ g ∣ d2
def toldR (g R k1 d1 k2 d2 : Int) : List (Int × Int) := toldOf k1 (R / g + 1 - d1 / g) k2 (R / g + 1 - d2 / g) ((d1 + d2) / g - (R / g + 1))
def WaitsR (a b c lo hi : Int) (told : List (Int × Int)) : Prop := ∃ g, IsGcd g a b ∧ ((hi < lo + (c - lo) % g ∧ told = []) ∨ (lo + (c - lo) % g ≤ hi ∧ lo + (c - lo) % g = hi - (hi - c) % g ∧ told = [(b / g, 1)]) ∨
  (lo + (c - lo) % g ≤ hi ∧ lo + (c - lo) % g < hi - (hi - c) % g ∧ ∃ k1 d1 k2 d2, Within a b g (hi - (hi - c) % g - (lo + (c - lo) % g)) k1 d1 k2 d2 ∧ told = toldR g (hi - (hi - c) % g - (lo + (c - lo) % g)) k1 d1 k2 d2))
/-- the counts of the waits -/
theorem within_counts {a b g R k1 d1 k2 d2 : Int} (hg : 0 < g) (hR : g ∣ R) (W : Within a b g R k1 d1 k2 d2) :
    0 < R / g + 1 - d1 / g ∧ 0 < R / g + 1 - d2 / g ∧ 0 ≤ (d1 + d2) / g - (R / g + 1) ∧ d1 / g * g = d1 ∧ d2 / g * g = d2 ∧ (d1 + d2) / g = d1 / g + d2 / g ∧ R / g * g = R := by
  obtain ⟨N, h1, h2, h3, ⟨x, rfl⟩, ⟨y, rfl⟩⟩ := W
  obtain ⟨z, rfl⟩ := hR
  have e : g * x + g * y = g * (x + y) := by grind
  rw [e, Int.mul_ediv_cancel_left _ (show g ≠ 0 by omega), Int.mul_ediv_cancel_left _ (show g ≠ 0 by omega), Int.mul_ediv_cancel_left _ (show g ≠ 0 by omega), Int.mul_ediv_cancel_left _ (show g ≠ 0 by omega)]
  have l1 : x ≤ z := Int.le_of_mul_le_mul_left h1 hg
  have l2 : y ≤ z := Int.le_of_mul_le_mul_left h2 hg
  have l3 : z < x + y := Int.lt_of_mul_lt_mul_left (by rw [← e]; exact h3) (by omega)
  exact ⟨by omega, by omega, by omega, Int.mul_comm _ _, Int.mul_comm _ _, rfl, Int.mul_comm _ _⟩
/-- a pace that is not a multiple of the rate, when something shorter than the rate is a multiple of the common divisor -/
theorem gcd_ne {g a b R : Int} (G : IsGcd g a b) (hR : g ∣ R) (h0 : 0 < R) (h1 : R < b) : a % b ≠ 0 := fun z => by
  have h2 := G.all b (Int.dvd_of_emod_eq_zero z) (Int.dvd_refl b)
  have h3 := Int.le_of_dvd h0 (Int.dvd_trans h2 hR)
  omega
end Ck

namespace Ck
/-! ### clocks with one picture a turn -/
theorem firstIn_uniq' {p r s lo hi : Int} {n : Int} {o : Option Int} (h : FirstIn p r s lo hi o) (h0 : 0 ≤ n) (h1 : InR p r s lo hi n) (h2 : ∀ m, 0 ≤ m → m < n → ¬ InR p r s lo hi m) : o = some n := firstIn_uniq h ⟨h0, h1, h2⟩
/-- a count of nought means the first one -/
theorem first_of_cnt {p r s lo hi n : Int} (h0 : 0 ≤ n) (h : InR p r s lo hi n) (hc : cnt p r s lo hi n.toNat = 0) : FirstIn p r s lo hi (some n) := by
  refine ⟨h0, h, fun m m0 m1 hm => ?_⟩
  have h1 := cnt_mono p r s lo hi (show m.toNat + 1 ≤ n.toNat by omega)
  have e : ((m.toNat : Nat) : Int) = m := by omega
  rw [cnt_succ, e, if_pos hm] at h1
  have := cnt_nonneg p r s lo hi m.toNat
  omega
theorem cnt_one {p r s lo hi n : Int} (hr : 0 < r) (n0 : 0 ≤ n) (n1 : n < r) (h : ∀ m : Int, 0 ≤ m → (InR p r s lo hi m ↔ m % r = n)) : ∀ m : Nat, cnt p r s lo hi m = (m : Int) / r + if n < (m : Int) % r then 1 else 0
  | 0 => by
    have e1 : ((0 : Nat) : Int) / r = 0 := by simp
    have e2 : ((0 : Nat) : Int) % r = 0 := by simp
    rw [e1, e2, if_neg (by omega)]
    rfl
  | m + 1 => by
    rw [cnt_succ, cnt_one hr n0 n1 h m]
    have e := Int.mul_ediv_add_emod (m : Int) r
    have a0 := Int.emod_nonneg (m : Int) (show r ≠ 0 by omega)
    have a1 := Int.emod_lt_of_pos (m : Int) hr
    have hm := h (m : Int) (by omega)
    by_cases z : (m : Int) % r + 1 < r
    · have e1 : ((m + 1 : Nat) : Int) / r = (m : Int) / r := div_is hr (by grind) (by grind)
      have e2 : ((m + 1 : Nat) : Int) % r = (m : Int) % r + 1 := by
        have := Int.mul_ediv_add_emod ((m + 1 : Nat) : Int) r
        rw [e1] at this
        omega
      rw [e1, e2]
      by_cases y : (m : Int) % r = n
      · rw [if_pos (hm.mpr y), if_neg (by omega), if_pos (by omega)]
        omega
      · rw [if_neg fun x => y (hm.mp x)]
        by_cases x : n < (m : Int) % r
        · rw [if_pos x, if_pos (by omega)]
          omega
        · rw [if_neg x, if_neg (by omega)]
          omega
    · have e1 : ((m + 1 : Nat) : Int) / r = (m : Int) / r + 1 := div_is hr (by grind) (by grind)
      have e2 : ((m + 1 : Nat) : Int) % r = 0 := by
        have := Int.mul_ediv_add_emod ((m + 1 : Nat) : Int) r
        rw [e1] at this
        grind
      rw [e1, e2, if_neg (show ¬ n < 0 by omega)]
      by_cases y : (m : Int) % r = n
      · rw [if_pos (hm.mpr y), if_neg (by omega)]
        try omega
      · rw [if_neg fun x => y (hm.mp x), if_pos (by omega)]
        try omega
theorem cnt_all {p r s lo hi : Int} (h : ∀ m : Int, 0 ≤ m → InR p r s lo hi m) : ∀ m : Nat, cnt p r s lo hi m = m
  | 0 => rfl
  | m + 1 => by
    rw [cnt_succ, cnt_all h m, if_pos (h _ (by omega))]
    omega
theorem cnt_congr {p r s lo hi p' r' s' lo' hi' : Int} (h : ∀ m : Int, 0 ≤ m → (InR p r s lo hi m ↔ InR p' r' s' lo' hi' m)) : ∀ m : Nat, cnt p r s lo hi m = cnt p' r' s' lo' hi' m
  | 0 => rfl
  | m + 1 => by
    rw [cnt_succ, cnt_succ, cnt_congr h m]
    have := h (m : Int) (by omega)
    by_cases z : InR p r s lo hi (m : Int)
    · rw [if_pos z, if_pos (this.mp z)]
    · rw [if_neg z, if_neg fun y => z (this.mpr y)]
theorem first_congr {p r s lo hi p' r' s' lo' hi' : Int} (h : ∀ m : Int, 0 ≤ m → (InR p r s lo hi m ↔ InR p' r' s' lo' hi' m)) {o o' : Option Int} (f : FirstIn p r s lo hi o) (f' : FirstIn p' r' s' lo' hi' o') : o = o' := by
  refine firstIn_uniq f ?_
  cases o' with
  | none => exact fun m m0 z => f' m m0 ((h m m0).mp z)
  | some n => exact ⟨f'.1, (h n f'.1).mpr f'.2.1, fun m m0 m1 z => f'.2.2 m m0 m1 ((h m m0).mp z)⟩
/-- a pace with an inverse -/
theorem inv_in {p r s up far m : Int} (hr : 0 < r) (hu : r ∣ up * p - 1) : InR p r s ((s + far) % r) ((s + far) % r) m ↔ m % r = (far * up) % r := by
  unfold InR
  have e : ((s + far) % r ≤ (m * p + s) % r ∧ (m * p + s) % r ≤ (s + far) % r) ↔ (m * p + s) % r = (s + far) % r := by omega
  rw [e, Int.emod_eq_emod_iff_emod_sub_eq_zero, Int.emod_eq_emod_iff_emod_sub_eq_zero]
  obtain ⟨c, hc⟩ := hu
  constructor
  · intro h
    obtain ⟨d, hd⟩ := Int.dvd_of_emod_eq_zero h
    exact Int.emod_eq_zero_of_dvd ⟨up * d - m * c, by grind⟩
  · intro h
    obtain ⟨d, hd⟩ := Int.dvd_of_emod_eq_zero h
    exact Int.emod_eq_zero_of_dvd ⟨p * d + far * c, by grind⟩
theorem inv_gcd {p r up : Int} (hu : r ∣ up * p - 1) : IsGcd 1 p r := by
  refine ⟨by decide, Int.one_dvd _, Int.one_dvd _, fun x h1 h2 => ?_⟩
  have h3 := Int.dvd_trans h2 hu
  have h4 := Int.dvd_trans h1 (Int.dvd_mul_left up p)
  have := Int.dvd_sub h4 h3
  have e : up * p - (up * p - 1) = 1 := by omega
  rwa [e] at this
/-! ### what the told waits amount to -/
def sumW (l : List (Int × Int)) : Int := (l.map fun e => e.1 * e.2).sum
def sumM (l : List (Int × Int)) : Int := (l.map fun e => e.2).sum
theorem told_sums {k1 c1 k2 c2 c3 : Int} (h : 0 ≤ c3) : sumW (toldOf k1 c1 k2 c2 c3) = k1 * c1 + k2 * c2 + (k1 + k2) * c3 ∧ sumM (toldOf k1 c1 k2 c2 c3) = c1 + c2 + c3 := by
  unfold toldOf sumW sumM
  by_cases z : k1 = k2
  · subst z
    rw [if_pos rfl]
    by_cases y : 0 < c3
    · rw [if_pos y]
      simp
      grind
    · rw [if_neg y]
      have : c3 = 0 := by omega
      subst this
      simp
      grind
  · rw [if_neg z]
    by_cases x : k1 < k2
    · rw [if_pos x]
      by_cases y : 0 < c3
      · rw [if_pos y]
        simp
        grind
      · rw [if_neg y]
        have : c3 = 0 := by omega
        subst this
        simp
    · rw [if_neg x]
      by_cases y : 0 < c3
      · rw [if_pos y]
        simp
        grind
      · rw [if_neg y]
        have : c3 = 0 := by omega
        subst this
        simp
        grind
theorem told_shape (k1 c1 k2 c2 c3 : Int) : (toldOf k1 c1 k2 c2 c3).length < 3 ∨ ∃ a b c, toldOf k1 c1 k2 c2 c3 = [a, b, c] ∧ c.1 = a.1 + b.1 := by
  unfold toldOf
  by_cases z : k1 = k2
  · left
    rw [if_pos z]
    split <;> simp
  · rw [if_neg z]
    by_cases x : k1 < k2
    · rw [if_pos x]
      split
      · exact .inr ⟨_, _, _, rfl, rfl⟩
      · left
        simp
    · rw [if_neg x]
      split
      · exact .inr ⟨_, _, _, rfl, Int.add_comm _ _⟩
      · left
        simp
theorem toldR_sums {a b g R k1 d1 k2 d2 : Int} (hg : 0 < g) (hb : g ∣ b) (hR : g ∣ R) (W : Within a b g R k1 d1 k2 d2) : sumW (toldR g R k1 d1 k2 d2) = b / g ∧ sumM (toldR g R k1 d1 k2 d2) = R / g + 1 := by
  obtain ⟨w1, w2, w3, w4, w5, w6, w7⟩ := within_counts hg hR W
  obtain ⟨N, _⟩ := W
  have hs := N.sum
  obtain ⟨e1, e2⟩ := told_sums (k1 := k1) (c1 := R / g + 1 - d1 / g) (k2 := k2) (c2 := R / g + 1 - d2 / g) w3
  unfold toldR
  rw [e1, e2, w6]
  have hbg : b / g * g = b := Int.ediv_mul_cancel hb
  generalize d1 / g = x at *
  generalize d2 / g = y at *
  generalize R / g = z at *
  generalize b / g = q at *
  refine ⟨?_, by omega⟩
  have : g * (k1 * y + k2 * x - q) = 0 := by grind
  rcases Int.mul_eq_zero.mp this with h | h
  · omega
  · grind
end Ck

namespace Ck
/-! ### slow clocks: one rest at a time -/
def rng (r lo hi x : Int) : Int := x / r * (hi - lo + 1) + (if x % r < lo then 0 else if x % r ≤ hi then x % r - lo else hi - lo + 1)
theorem rng_succ {r lo hi x : Int} (hr : 0 < r) (h0 : 0 ≤ lo) (h1 : lo ≤ hi) (h2 : hi < r) : rng r lo hi (x + 1) = rng r lo hi x + if lo ≤ x % r ∧ x % r ≤ hi then 1 else 0 := by
  have e := Int.mul_ediv_add_emod x r
  have a0 := Int.emod_nonneg x (show r ≠ 0 by omega)
  have a1 := Int.emod_lt_of_pos x hr
  unfold rng
  by_cases z : x % r + 1 < r
  · have e1 : (x + 1) / r = x / r := div_is hr (by grind) (by grind)
    have e2 : (x + 1) % r = x % r + 1 := by
      have := Int.mul_ediv_add_emod (x + 1) r
      rw [e1] at this
      omega
    rw [e1, e2]
    split <;> split <;> (try split) <;> (try split) <;> omega
  · have e1 : (x + 1) / r = x / r + 1 := div_is hr (by grind) (by grind)
    have e2 : (x + 1) % r = 0 := by
      have := Int.mul_ediv_add_emod (x + 1) r
      rw [e1] at this
      grind
    rw [e1, e2]
    have e3 : (x / r + 1) * (hi - lo + 1) = x / r * (hi - lo + 1) + (hi - lo + 1) := by grind
    rw [e3]
    generalize x / r * (hi - lo + 1) = q
    by_cases y : lo = 0
    · subst y
      rw [if_neg (show ¬ (0 : Int) < 0 by omega), if_pos (show (0 : Int) ≤ hi by omega), if_neg (show ¬ x % r < 0 by omega)]
      by_cases w : x % r ≤ hi
      · rw [if_pos w, if_pos ⟨a0, w⟩]
        omega
      · rw [if_neg w, if_neg (by omega)]
        omega
    · rw [if_pos (show (0 : Int) < lo by omega)]
      by_cases v : x % r < lo
      · omega
      · rw [if_neg v]
        by_cases w : x % r ≤ hi
        · rw [if_pos w, if_pos ⟨by omega, w⟩]
          omega
        · rw [if_neg w, if_neg (by omega)]
          try omega
theorem cnt_slow {r s lo hi : Int} (hr : 0 < r) (h0 : 0 ≤ lo) (h1 : lo ≤ hi) (h2 : hi < r) : ∀ m : Nat, cnt 1 r s lo hi m = rng r lo hi (m + s) - rng r lo hi s
  | 0 => by
    have : ((0 : Nat) : Int) + s = s := by omega
    rw [this, Int.sub_self]
    rfl
  | m + 1 => by
    have e : ((m + 1 : Nat) : Int) + s = ((m : Int) + s) + 1 := by omega
    rw [cnt_succ, cnt_slow hr h0 h1 h2 m, e, rng_succ hr h0 h1 h2]
    have hiff : InR 1 r s lo hi (m : Int) ↔ (lo ≤ ((m : Int) + s) % r ∧ ((m : Int) + s) % r ≤ hi) := by
      unfold InR
      rw [Int.mul_one]
    by_cases z : InR 1 r s lo hi (m : Int)
    · rw [if_pos z, if_pos (hiff.mp z)]
      omega
    · rw [if_neg z, if_neg fun y => z (hiff.mpr y)]
      omega
/-- in a turn -/
theorem rng_at {r lo hi q x : Int} (hr : 0 < r) (x0 : 0 ≤ x) (x1 : x < r) : rng r lo hi (q * r + x) = q * (hi - lo + 1) + (if x < lo then 0 else if x ≤ hi then x - lo else hi - lo + 1) := by
  have e1 : (q * r + x) / r = q := div_is hr (by omega) (by omega)
  have e2 : (q * r + x) % r = x := by
    have := Int.mul_ediv_add_emod (q * r + x) r
    rw [e1] at this
    grind
  unfold rng
  rw [e1, e2]
theorem mod_at {r q x : Int} (hr : 0 < r) (x0 : 0 ≤ x) (x1 : x < r) : (q * r + x) % r = x := by
  have e1 : (q * r + x) / r = q := div_is hr (by omega) (by omega)
  have := Int.mul_ediv_add_emod (q * r + x) r
  rw [e1] at this
  grind
/-- where the n-th falls: the numbers of the law's own text -/
structure Due (r s lo hi n due : Int) : Prop where
  nn : 0 ≤ due
  inr : InR 1 r s lo hi due
  cnt : cnt 1 r s lo hi due.toNat = n
theorem due_of {r s lo hi n due q x : Int} (hr : 0 < r) (h0 : 0 ≤ lo) (h1 : lo ≤ hi) (h2 : hi < r) (d0 : 0 ≤ due) (e : due + s = q * r + x) (x0 : lo ≤ x) (x1 : x ≤ hi) (hc : q * (hi - lo + 1) + (x - lo) - rng r lo hi s = n) : Due r s lo hi n due := by
  have ed : ((due.toNat : Nat) : Int) = due := by omega
  refine ⟨d0, ?_, ?_⟩
  · unfold InR
    rw [Int.mul_one, e, mod_at hr (by omega) (by omega)]
    exact ⟨x0, x1⟩
  · rw [cnt_slow hr h0 h1 h2, ed, e, rng_at hr (by omega) (by omega), if_neg (by omega), if_pos x1]
    exact hc
theorem rng_small {r lo hi s : Int} (s0 : 0 ≤ s) (s1 : s < r) : rng r lo hi s = if s < lo then 0 else if s ≤ hi then s - lo else hi - lo + 1 := by
  have := rng_at (r := r) (lo := lo) (hi := hi) (q := 0) (x := s) (by omega) s0 s1
  have e : 0 * r + s = s := by omega
  rw [e] at this
  rw [this]
  omega
/-- inside at the beginning -/
theorem due_in {r s lo hi n : Int} (hr : 0 < r) (h0 : 0 ≤ lo) (h1 : lo ≤ hi) (h2 : hi < r) (s0 : lo ≤ s) (s1 : s ≤ hi) (n0 : 0 ≤ n) (hn : n < hi - s + 1) : Due r s lo hi n n := by
  refine due_of (q := 0) (x := n + s) hr h0 h1 h2 n0 (by omega) (by omega) (by omega) ?_
  rw [rng_small (by omega) (by omega), if_neg (by omega), if_pos s1]
  omega
theorem due_in2 {r s lo hi n : Int} (hr : 0 < r) (h0 : 0 ≤ lo) (h1 : lo ≤ hi) (h2 : hi < r) (s0 : lo ≤ s) (s1 : s ≤ hi) (hn : hi - s + 1 ≤ n) :
    Due r s lo hi n ((hi - s + 1) + (r - (hi - lo + 1)) + (n - (hi - s + 1)) / (hi - lo + 1) * r + (n - (hi - s + 1)) % (hi - lo + 1)) := by
  have e := Int.mul_ediv_add_emod (n - (hi - s + 1)) (hi - lo + 1)
  have a0 := Int.emod_nonneg (n - (hi - s + 1)) (show hi - lo + 1 ≠ 0 by omega)
  have a1 := Int.emod_lt_of_pos (n - (hi - s + 1)) (show 0 < hi - lo + 1 by omega)
  have q0 : 0 ≤ (n - (hi - s + 1)) / (hi - lo + 1) := Int.ediv_nonneg (by omega) (by omega)
  generalize (n - (hi - s + 1)) / (hi - lo + 1) = q at *
  generalize (n - (hi - s + 1)) % (hi - lo + 1) = u at *
  have q1 : 0 ≤ q * r := Int.mul_nonneg q0 (by omega)
  refine due_of (q := q + 1) (x := lo + u) hr h0 h1 h2 (by omega) (by grind) (by omega) (by omega) ?_
  rw [rng_small (by omega) (by omega), if_neg (by omega), if_pos s1]
  grind
/-- outside at the beginning -/
theorem due_out {r s lo hi n : Int} (hr : 0 < r) (h0 : 0 ≤ lo) (h1 : lo ≤ hi) (h2 : hi < r) (s0 : 0 ≤ s) (s1 : s < r) (ho : ¬ (lo ≤ s ∧ s ≤ hi)) (hn : 0 ≤ n) : 0 < (lo - s) % r ∧
    Due r s lo hi n ((lo - s) % r + n / (hi - lo + 1) * r + n % (hi - lo + 1)) := by
  have e := Int.mul_ediv_add_emod n (hi - lo + 1)
  have a0 := Int.emod_nonneg n (show hi - lo + 1 ≠ 0 by omega)
  have a1 := Int.emod_lt_of_pos n (show 0 < hi - lo + 1 by omega)
  have q0 : 0 ≤ n / (hi - lo + 1) := Int.ediv_nonneg (by omega) (by omega)
  generalize n / (hi - lo + 1) = q at *
  generalize n % (hi - lo + 1) = u at *
  have q1 : 0 ≤ q * r := Int.mul_nonneg q0 (by omega)
  by_cases z : s < lo
  · have e1 : (lo - s) % r = lo - s := Int.emod_eq_of_lt (by omega) (by omega)
    rw [e1]
    refine ⟨by omega, due_of (q := q) (x := lo + u) hr h0 h1 h2 (by omega) (by grind) (by omega) (by omega) ?_⟩
    rw [rng_small (by omega) (by omega), if_pos z]
    grind
  · have e1 : (lo - s) % r = lo - s + r := by
      have := mod_at (r := r) (q := -1) (x := lo - s + r) hr (by omega) (by omega)
      have e : -1 * r + (lo - s + r) = lo - s := by omega
      rwa [e] at this
    rw [e1]
    refine ⟨by omega, due_of (q := q + 1) (x := lo + u) hr h0 h1 h2 (by omega) (by grind) (by omega) (by omega) ?_⟩
    rw [rng_small (by omega) (by omega), if_neg z, if_neg (by omega)]
    grind
theorem due_first {r s lo hi due : Int} (d : Due r s lo hi 0 due) : FirstIn 1 r s lo hi (some due) := first_of_cnt d.nn d.inr d.cnt
/-- the numbers of the law's own text, the beginning within or not -/
def firstL (r s lo hi f : Int) : Int := if lo ≤ s ∧ s ≤ hi then 0 else f
def insideL (s hi first : Int) : Int := if first = 0 then hi - s + 1 else 0
def dueL (r lo hi first inside n : Int) : Int := if n < inside then n else (if first > 0 then first else inside + (r - (hi - lo + 1))) + (n - inside) / (hi - lo + 1) * r + (n - inside) % (hi - lo + 1)
theorem due_all {r s lo hi n : Int} (hr : 0 < r) (h0 : 0 ≤ lo) (h1 : lo ≤ hi) (h2 : hi < r) (s0 : 0 ≤ s) (s1 : s < r) (hn : 0 ≤ n) :
    Due r s lo hi n (dueL r lo hi (firstL r s lo hi ((lo - s) % r)) (insideL s hi (firstL r s lo hi ((lo - s) % r))) n) := by
  by_cases z : lo ≤ s ∧ s ≤ hi
  · have e1 : firstL r s lo hi ((lo - s) % r) = 0 := if_pos z
    have e2 : insideL s hi 0 = hi - s + 1 := if_pos rfl
    rw [e1, e2]
    unfold dueL
    by_cases y : n < hi - s + 1
    · rw [if_pos y]
      exact due_in hr h0 h1 h2 z.1 z.2 hn y
    · rw [if_neg y, if_neg (by omega)]
      exact due_in2 hr h0 h1 h2 z.1 z.2 (by omega)
  · have e1 : firstL r s lo hi ((lo - s) % r) = (lo - s) % r := if_neg z
    obtain ⟨f0, d⟩ := due_out hr h0 h1 h2 s0 s1 z hn
    have e2 : insideL s hi ((lo - s) % r) = 0 := if_neg (by omega)
    rw [e1, e2]
    unfold dueL
    rw [if_neg (by omega), if_pos f0, Int.sub_zero]
    exact d
/-- the same clock by times slower -/
theorem slow_in {r s lo hi e by_ more m : Int} (hr : 0 < r) (hb : 0 < by_) (m0 : 0 ≤ more) (m1 : more < by_) : InR (by_ * e) (by_ * r) (by_ * s + more) (by_ * lo + more) (by_ * hi + more) m ↔ InR e r s lo hi m := by
  have key : (m * (by_ * e) + (by_ * s + more)) % (by_ * r) = by_ * ((m * e + s) % r) + more := by
    have h1 := Int.mul_ediv_add_emod (m * e + s) r
    have a0 := Int.emod_nonneg (m * e + s) (show r ≠ 0 by omega)
    have a1 := Int.emod_lt_of_pos (m * e + s) hr
    generalize (m * e + s) % r = y at *
    generalize (m * e + s) / r = q at *
    have g1 : 0 ≤ by_ * y := Int.mul_nonneg (by omega) a0
    have g2 : by_ * (y + 1) ≤ by_ * r := Int.mul_le_mul_of_nonneg_left (by omega) (by omega)
    have g3 : by_ * (y + 1) = by_ * y + by_ := by grind
    have e1 : m * (by_ * e) + (by_ * s + more) = q * (by_ * r) + (by_ * y + more) := by grind
    rw [e1]
    exact mod_at (by omega) (by omega) (by omega)
  unfold InR
  rw [key]
  have h1 : ∀ x y : Int, by_ * x + more ≤ by_ * y + more ↔ x ≤ y := fun x y => by
    constructor
    · intro h
      exact Int.le_of_mul_le_mul_left (show by_ * x ≤ by_ * y by omega) hb
    · intro h
      have := Int.mul_le_mul_of_nonneg_left h (show 0 ≤ by_ by omega)
      omega
  rw [h1, h1]
/-- a clock that goes back, read in a mirror -/
theorem back_in {r s lo hi m : Int} (hr : 0 < r) : InR (r - 1) r s lo hi m ↔ InR 1 r (r - 1 - s) (r - 1 - hi) (r - 1 - lo) m := by
  have h1 := Int.mul_ediv_add_emod (m * (r - 1) + s) r
  have a0 := Int.emod_nonneg (m * (r - 1) + s) (show r ≠ 0 by omega)
  have a1 := Int.emod_lt_of_pos (m * (r - 1) + s) hr
  unfold InR
  generalize (m * (r - 1) + s) % r = y at *
  generalize (m * (r - 1) + s) / r = q at *
  have e : m * 1 + (r - 1 - s) = (m - q) * r + (r - 1 - y) := by grind
  rw [e, mod_at hr (by omega) (by omega)]
  omega
end Ck

namespace Ck
/-! ### the slow clock's waits -/
def slowTold (r size : Int) : List (Int × Int) := if size = 1 then [(r, 1)] else if size = r then [(1, size)] else [(1, size - 1), (r - size + 1, 1)]
theorem slow_gcd {r by_ e : Int} (hb : 0 < by_) (he : e = 1 ∨ e = r - 1) : IsGcd by_ (by_ * e) (by_ * r) := by
  refine ⟨by omega, Int.dvd_mul_right _ _, Int.dvd_mul_right _ _, fun x h1 h2 => ?_⟩
  rcases he with rfl | rfl
  · rwa [Int.mul_one] at h1
  · have := Int.dvd_sub h2 h1
    have e : by_ * r - by_ * (r - 1) = by_ := by grind
    rwa [e] at this
theorem slow_within {r by_ e size : Int} (hb : 0 < by_) (h2 : 2 ≤ size) (hr : size ≤ r) (he : e = 1 ∨ e = r - 1) :
    (e = 1 → Within (by_ * e) (by_ * r) by_ (by_ * (size - 1)) 1 by_ (r - size + 1) (by_ * (size - 1))) ∧ (e = r - 1 → Within (by_ * e) (by_ * r) by_ (by_ * (size - 1)) (r - size + 1) (by_ * (size - 1)) 1 by_) := by
  have b1 : by_ * 1 ≤ by_ * (size - 1) := Int.mul_le_mul_of_nonneg_left (by omega) (by omega)
  have b2 : by_ * (size - 1) + by_ = by_ * size := by grind
  refine ⟨fun e1 => ?_, fun e1 => ?_⟩
  · subst e1
    refine ⟨⟨by omega, hb, by omega, by omega, ⟨0, by grind⟩, ⟨1, by grind⟩, by grind⟩, by omega, Int.le_refl _, by omega, Int.dvd_refl _, Int.dvd_mul_right _ _⟩
  · subst e1
    refine ⟨⟨by omega, by omega, by omega, by omega, ⟨r - size, by grind⟩, ⟨1, by grind⟩, by grind⟩, Int.le_refl _, by omega, by omega, Int.dvd_mul_right _ _, Int.dvd_refl _⟩
theorem slow_waits {r s lo hi e by_ more : Int} {told : List (Int × Int)} (hr : 0 < r) (hb : 0 < by_) (h0 : 0 ≤ lo) (h1 : lo ≤ hi) (h2 : hi < r) (he : e = 1 ∨ e = r - 1)
    (W : WaitsR (by_ * e) (by_ * r) (by_ * s + more) (by_ * lo + more) (by_ * hi + more) told) : told = slowTold r (hi - lo + 1) := by
  obtain ⟨g, G, W⟩ := W
  obtain rfl := isGcd_uniq G (slow_gcd (r := r) hb he)
  have u0 : (g * s + more - (g * lo + more)) % g = 0 := Int.emod_eq_zero_of_dvd ⟨s - lo, by grind⟩
  have v0 : (g * hi + more - (g * s + more)) % g = 0 := Int.emod_eq_zero_of_dvd ⟨hi - s, by grind⟩
  have bR : g * hi + more - 0 - (g * lo + more + 0) = g * (hi - lo + 1 - 1) := by grind
  rw [u0, v0, bR] at W
  have l1 : g * lo ≤ g * hi := Int.mul_le_mul_of_nonneg_left h1 (by omega)
  have br : g * r / g = r := Int.mul_ediv_cancel_left _ (by omega)
  rcases W with ⟨z, _⟩ | ⟨_, z, rfl⟩ | ⟨_, z, k1, d1, k2, d2, W, rfl⟩
  · omega
  · have : lo = hi := by
      have : g * lo = g * hi := by omega
      exact Int.eq_of_mul_eq_mul_left (by omega) this
    subst this
    unfold slowTold
    rw [if_pos (by omega), br]
  · have hne : lo ≠ hi := fun y => by
      subst y
      omega
    have e0 : g * (hi - lo + 1 - 1) / g = hi - lo + 1 - 1 := Int.mul_ediv_cancel_left _ (by omega)
    have e1 : g / g = 1 := Int.ediv_self (by omega)
    have fin : toldOf 1 (hi - lo + 1 - 1 + 1 - 1) (r - (hi - lo + 1) + 1) (hi - lo + 1 - 1 + 1 - (hi - lo + 1 - 1)) 0 = slowTold r (hi - lo + 1) := by
      unfold toldOf slowTold
      have c1 : hi - lo + 1 - 1 + 1 - 1 = hi - lo + 1 - 1 := by omega
      have c2 : hi - lo + 1 - 1 + 1 - (hi - lo + 1 - 1) = 1 := by omega
      rw [c1, c2, if_neg (show ¬ (0 : Int) < 0 by omega), if_neg (show ¬ hi - lo + 1 = 1 by omega), List.append_nil]
      by_cases y : hi - lo + 1 = r
      · rw [if_pos y, if_pos (by omega)]
        have : hi - lo + 1 - 1 + 1 = hi - lo + 1 := by omega
        rw [this]
      · rw [if_neg y, if_neg (by omega), if_pos (by omega)]
    obtain ⟨N, w1, w2, w3, w4, w5⟩ := W
    obtain ⟨c1, c2⟩ := slow_within (r := r) (by_ := g) (e := e) (size := hi - lo + 1) hb (by omega) (by omega) he
    have rr : 0 < g * r := Int.mul_pos hb hr
    rcases he with e' | e'
    · obtain ⟨N', w1', w2', w3', _, _⟩ := c1 e'
      obtain ⟨rfl, rfl, rfl, rfl⟩ := near_uniq rr N N' w1 w2 w3 w1' w2' w3'
      unfold toldR
      have e2 : d1 + d1 * (hi - lo + 1 - 1) = d1 * (hi - lo + 1) := by grind
      rw [e0, e1, e2, Int.mul_ediv_cancel_left _ (show d1 ≠ 0 by omega)]
      have e3 : hi - lo + 1 - (hi - lo + 1 - 1 + 1) = 0 := by omega
      rw [e3]
      exact fin
    · obtain ⟨N', w1', w2', w3', _, _⟩ := c2 e'
      obtain ⟨rfl, rfl, rfl, rfl⟩ := near_uniq rr N N' w1 w2 w3 w1' w2' w3'
      unfold toldR
      have e2 : d2 * (hi - lo + 1 - 1) + d2 = d2 * (hi - lo + 1) := by grind
      rw [e0, e1, e2, Int.mul_ediv_cancel_left _ (show d2 ≠ 0 by omega)]
      have e3 : hi - lo + 1 - (hi - lo + 1 - 1 + 1) = 0 := by omega
      rw [e3, told_swap]
      exact fin
/-! ### how often two pictures share a piece -/
theorem cnt_same {a b c : Int} (ha : 0 < a) (hab : a < b) : ∀ m : Nat, cnt a b c 0 (b - a - 1) m = m - (((m : Int) * a + c) / b - c / b)
  | 0 => by
    have : ((0 : Nat) : Int) * a + c = c := by simp
    rw [this]
    simp [cnt, fs]
  | m + 1 => by
    rw [cnt_succ, cnt_same ha hab m]
    have h1 := Int.mul_ediv_add_emod ((m : Int) * a + c) b
    have a0 := Int.emod_nonneg ((m : Int) * a + c) (show b ≠ 0 by omega)
    have a1 := Int.emod_lt_of_pos ((m : Int) * a + c) (show 0 < b by omega)
    have e : ((m + 1 : Nat) : Int) * a + c = ((m : Int) * a + c) + a := by grind
    rw [e]
    have hi : InR a b c 0 (b - a - 1) (m : Int) ↔ ((m : Int) * a + c) % b + a < b := by
      unfold InR
      omega
    by_cases z : ((m : Int) * a + c) % b + a < b
    · have e1 : ((m : Int) * a + c + a) / b = ((m : Int) * a + c) / b := div_is (by omega) (by grind) (by grind)
      rw [if_pos (hi.mpr z), e1]
      omega
    · have e1 : ((m : Int) * a + c + a) / b = ((m : Int) * a + c) / b + 1 := div_is (by omega) (by grind) (by grind)
      rw [if_neg fun y => z (hi.mp y), e1]
      omega
/-! ### the mirror -/
theorem neg_mod {x b : Int} (hb : 0 < b) : (0 - x) % b = if x % b = 0 then 0 else b - x % b := by
  have h1 := Int.mul_ediv_add_emod x b
  have a0 := Int.emod_nonneg x (show b ≠ 0 by omega)
  have a1 := Int.emod_lt_of_pos x hb
  by_cases z : x % b = 0
  · rw [if_pos z]
    exact Int.emod_eq_zero_of_dvd (by
      have := Int.dvd_of_emod_eq_zero z
      obtain ⟨c, hc⟩ := this
      exact ⟨-c, by grind⟩)
  · rw [if_neg z]
    have := mod_at (r := b) (q := -(x / b) - 1) (x := b - x % b) hb (by omega) (by omega)
    rw [← this]
    congr 1
    grind
/-- the numbers of a turned clock and its range -/
structure Mir (a b c lo hi a' c' lo' hi' : Int) : Prop where
  bp : 0 < b
  l0 : 0 ≤ lo
  l1 : lo ≤ hi
  l2 : hi < b
  da : b ∣ a + a'
  dc : b ∣ c + c'
  elo : lo' = (0 - hi) % b
  ehi : hi' = (0 - lo) % b
  le : lo' ≤ hi'
theorem Mir.ends {a b c lo hi a' c' lo' hi' : Int} (M : Mir a b c lo hi a' c' lo' hi') : (lo = 0 ∧ hi = 0 ∧ lo' = 0 ∧ hi' = 0) ∨ (1 ≤ lo ∧ lo' = b - hi ∧ hi' = b - lo) := by
  obtain ⟨bp, l0, l1, l2, _, _, e1, e2, le⟩ := M
  rw [neg_mod bp, Int.emod_eq_of_lt (by omega) (by omega)] at e1
  rw [neg_mod bp, Int.emod_eq_of_lt (by omega) (by omega)] at e2
  by_cases z : lo = 0
  · rw [if_pos z] at e2
    by_cases y : hi = 0
    · rw [if_pos y] at e1
      exact .inl ⟨z, y, e1, e2⟩
    · rw [if_neg y] at e1
      omega
  · rw [if_neg z] at e2
    rw [if_neg (by omega)] at e1
    exact .inr ⟨by omega, e1, e2⟩
theorem Mir.inr {a b c lo hi a' c' lo' hi' : Int} (M : Mir a b c lo hi a' c' lo' hi') (m : Int) : InR a b c lo hi m ↔ InR a' b c' lo' hi' m := by
  have E := M.ends
  obtain ⟨bp, l0, l1, l2, ⟨x, hx⟩, ⟨y, hy⟩, _, _, _⟩ := M
  have e : (m * a' + c') % b = (0 - (m * a + c)) % b := emod_shift ⟨m * x + y, by grind⟩
  unfold InR
  rw [e, neg_mod bp]
  have a0 := Int.emod_nonneg (m * a + c) (show b ≠ 0 by omega)
  have a1 := Int.emod_lt_of_pos (m * a + c) bp
  generalize (m * a + c) % b = y at *
  by_cases z : y = 0
  · rw [if_pos z]
    omega
  · rw [if_neg z]
    omega
theorem Mir.gcd {a b c lo hi a' c' lo' hi' g : Int} (M : Mir a b c lo hi a' c' lo' hi') (G : IsGcd g a b) : IsGcd g a' b := by
  have d := M.da
  have e1 : a' = (a + a') - a := by omega
  have e2 : a = (a + a') - a' := by omega
  refine ⟨G.pos, ?_, G.two, fun x h1 h2 => G.all x ?_ h2⟩
  · rw [e1]
    exact Int.dvd_sub (Int.dvd_trans G.two d) G.one
  · rw [e2]
    exact Int.dvd_sub (Int.dvd_trans h2 d) h1
theorem Mir.waits {a b c lo hi a' c' lo' hi' : Int} (M : Mir a b c lo hi a' c' lo' hi') {told told' : List (Int × Int)} (W : WaitsR a b c lo hi told) (W' : WaitsR a' b c' lo' hi' told') : told = told' := by
  obtain ⟨g, G, W⟩ := W
  obtain ⟨g', G', W'⟩ := W'
  obtain rfl := isGcd_uniq G' (M.gcd G)
  have g0 := isGcd_pos G M.bp
  have E := M.ends
  obtain ⟨bp, l0, l1, l2, da, ⟨y, hy⟩, _, _, _⟩ := M
  obtain ⟨z, hz⟩ := G.two
  have ed : hi' - lo' = hi - lo := by omega
  have eu : (c' - lo') % g' = (hi - c) % g' := by
    rcases E with ⟨e1, e2, e3, e4⟩ | ⟨e1, e3, e4⟩
    · exact emod_shift ⟨z * y, by grind⟩
    · exact emod_shift ⟨z * y - z, by grind⟩
  have ev : (hi' - c') % g' = (c - lo) % g' := by
    rcases E with ⟨e1, e2, e3, e4⟩ | ⟨e1, e3, e4⟩
    · exact emod_shift ⟨-(z * y), by grind⟩
    · exact emod_shift ⟨z - z * y, by grind⟩
  rw [eu, ev] at W'
  have u0 := Int.emod_nonneg (c - lo) (show g' ≠ 0 by omega)
  have u1 := Int.emod_lt_of_pos (c - lo) g0
  have v0 := Int.emod_nonneg (hi - c) (show g' ≠ 0 by omega)
  have v1 := Int.emod_lt_of_pos (hi - c) g0
  have hu := Int.mul_ediv_add_emod (c - lo) g'
  have hv := Int.mul_ediv_add_emod (hi - c) g'
  generalize (c - lo) % g' = u at *
  generalize (hi - c) % g' = v at *
  generalize (c - lo) / g' = p at *
  generalize (hi - c) / g' = q at *
  have es : hi - lo = g' * (p + q) + (u + v) := by grind
  have both : u ≤ hi - lo ↔ v ≤ hi - lo := by
    by_cases w : 0 ≤ p + q
    · have := Int.mul_nonneg (show 0 ≤ g' by omega) w
      omega
    · have := Int.mul_le_mul_of_nonneg_left (show p + q ≤ -1 by omega) (show 0 ≤ g' by omega)
      omega
  rcases W with ⟨w, rfl⟩ | ⟨w1, w2, rfl⟩ | ⟨w1, w2, k1, d1, k2, d2, X, rfl⟩
  · rcases W' with ⟨_, rfl⟩ | ⟨x1, x2, rfl⟩ | ⟨x1, _⟩
    · rfl
    · omega
    · omega
  · rcases W' with ⟨x, rfl⟩ | ⟨x1, x2, rfl⟩ | ⟨x1, x2, _⟩
    · omega
    · rfl
    · omega
  · rcases W' with ⟨x, rfl⟩ | ⟨x1, x2, rfl⟩ | ⟨x1, x2, k1', d1', k2', d2', X', rfl⟩
    · omega
    · omega
    · have eR : hi' - u - (lo' + v) = hi - v - (lo + u) := by omega
      rw [eR] at X' ⊢
      obtain ⟨N, w3, w4, w5, _, _⟩ := X
      obtain ⟨N', w3', w4', w5', _, _⟩ := X'
      obtain ⟨rfl, rfl, rfl, rfl⟩ := near_uniq bp (near_swap N da) N' w4 w3 (by omega) w3' w4' w5'
      unfold toldR
      rw [told_swap, Int.add_comm d1 d2]
/-! ### the spiral's numbers -/
def fib : Nat → Int
  | 0 => 1
  | 1 => 2
  | n + 2 => fib (n + 1) + fib n
theorem fib_pos : ∀ n, 1 ≤ fib n ∧ fib n < fib (n + 1)
  | 0 => by decide
  | n + 1 => by
    have h := fib_pos n
    refine ⟨by omega, ?_⟩
    show fib (n + 1) < fib (n + 1) + fib n
    omega
theorem fib_mono {a : Nat} : ∀ k, fib a ≤ fib (a + k)
  | 0 => Int.le_refl _
  | k + 1 => by
    have := fib_mono (a := a) k
    have := (fib_pos (a + k)).2
    show fib a ≤ fib (a + k + 1)
    omega
theorem fib_le {n : Nat} (h : n ≤ 55) : fib n ≤ 10 ^ 12 := by
  have h1 := fib_mono (a := n) (55 - n)
  have e : n + (55 - n) = 55 := by omega
  rw [e] at h1
  have h2 : fib 55 ≤ 10 ^ 12 := by decide +kernel
  omega
theorem cassini : ∀ n, fib (n + 1) * fib (n + 1) - fib n * fib (n + 2) = 1 ∨ fib (n + 1) * fib (n + 1) - fib n * fib (n + 2) = -1
  | 0 => by decide
  | n + 1 => by
    have h := cassini n
    have e1 : fib (n + 2) = fib (n + 1) + fib n := rfl
    have e2 : fib (n + 1 + 2) = fib (n + 2) + fib (n + 1) := rfl
    have e3 : fib (n + 1 + 1) = fib (n + 1) + fib n := rfl
    rw [e1] at h
    rw [e2, e1]
    generalize fib n = a at *
    generalize fib (n + 1) = b at *
    rcases h with h | h
    · right
      grind
    · left
      grind
/-- the turn that goes up by one -/
theorem spiral_up {l p r : Int} (h3 : 3 ≤ r) (lp : 1 ≤ l) (pr : 1 ≤ p) (h : p * p - l * r = 1 ∨ p * p - l * r = -1) : r ∣ (if p * p % r = 1 then p else r - p) * p - 1 := by
  rcases h with h | h
  · have e : p * p % r = 1 := by
      have := mod_at (r := r) (q := l) (x := 1) (by omega) (by omega) (by omega)
      have e2 : l * r + 1 = p * p := by omega
      rwa [e2] at this
    rw [if_pos e]
    exact ⟨l, by grind⟩
  · have e : p * p % r = r - 1 := by
      have := mod_at (r := r) (q := l - 1) (x := r - 1) (by omega) (by omega) (by omega)
      have e2 : (l - 1) * r + (r - 1) = p * p := by grind
      rwa [e2] at this
    rw [if_neg (by omega)]
    exact ⟨p - l, by grind⟩
end Ck

namespace Ck
theorem waits_one {p r s lo l : Int} {told : List (Int × Int)} (G : IsGcd 1 p r) (l2 : 2 ≤ l) (W : WaitsR p r s lo (lo + l - 1) told) :
    sumW told = r ∧ sumM told = l ∧ (told.length < 3 ∨ ∃ a b c, told = [a, b, c] ∧ c.1 = a.1 + b.1) := by
  obtain ⟨g, G', W⟩ := W
  obtain rfl := isGcd_uniq G' G
  rw [Int.emod_one, Int.emod_one] at W
  have e : lo + l - 1 - 0 - (lo + 0) = l - 1 := by omega
  rw [e] at W
  rcases W with ⟨z, _⟩ | ⟨_, z, _⟩ | ⟨_, _, k1, d1, k2, d2, X, rfl⟩
  · omega
  · omega
  · obtain ⟨a, b⟩ := toldR_sums (by decide) (Int.one_dvd r) (Int.one_dvd (l - 1)) X
    rw [Int.ediv_one] at a b
    exact ⟨a, by omega, told_shape _ _ _ _ _⟩
theorem sumW_map {α : Type} (zs : List (α × (Int × Int))) : sumW (zs.map (·.2)) = (zs.map fun z => z.2.1 * z.2.2).sum := by
  unfold sumW
  rw [List.map_map]
  rfl
theorem sumM_map {α : Type} (zs : List (α × (Int × Int))) : sumM (zs.map (·.2)) = (zs.map fun z => z.2.2).sum := by
  unfold sumM
  rw [List.map_map]
  rfl
end Ck

namespace Ck
/-! ### the slow clock, forth or back -/
structure Slow (bk : Bool) (r s lo hi e s' lo' hi' : Int) : Prop where
  r2 : 2 ≤ r
  s0 : 0 ≤ s
  s1 : s < r
  l0 : 0 ≤ lo
  l1 : lo ≤ hi
  l2 : hi < r
  ee : e = if bk = true then r - 1 else 1
  es : s' = if bk = true then r - 1 - s else s
  el : lo' = if bk = true then r - 1 - hi else lo
  eh : hi' = if bk = true then r - 1 - lo else hi
theorem Slow.inr {bk : Bool} {r s lo hi e s' lo' hi' : Int} (S : Slow bk r s lo hi e s' lo' hi') (m : Int) : InR e r s lo hi m ↔ InR 1 r s' lo' hi' m := by
  obtain ⟨r2, s0, s1, l0, l1, l2, ee, es, el, eh⟩ := S
  cases bk with
  | true =>
    rw [if_pos rfl] at ee es el eh
    subst ee es el eh
    exact back_in (by omega)
  | false =>
    rw [if_neg (by decide)] at ee es el eh
    subst ee es el eh
    exact Iff.rfl
theorem Slow.fwd {bk : Bool} {r s lo hi e s' lo' hi' : Int} (S : Slow bk r s lo hi e s' lo' hi') : 0 ≤ s' ∧ s' < r ∧ 0 ≤ lo' ∧ lo' ≤ hi' ∧ hi' < r ∧ hi' - lo' = hi - lo ∧ (lo' ≤ s' ∧ s' ≤ hi' ↔ lo ≤ s ∧ s ≤ hi) ∧ (e = 1 ∨ e = r - 1) ∧
    lo' - s' = (if bk = true then s - hi else lo - s) ∧ hi' - s' = (if bk = true then s - lo else hi - s) := by
  obtain ⟨r2, s0, s1, l0, l1, l2, ee, es, el, eh⟩ := S
  cases bk with
  | true =>
    simp only [if_true] at ee es el eh ⊢
    subst ee es el eh
    omega
  | false =>
    simp only [Bool.false_eq_true, if_false] at ee es el eh ⊢
    subst ee es el eh
    omega
/-- where the n-th falls -/
theorem Slow.due {bk : Bool} {r s lo hi e s' lo' hi' by_ more n : Int} (S : Slow bk r s lo hi e s' lo' hi') (hb : 0 < by_) (m0 : 0 ≤ more) (m1 : more < by_) (hn : 0 ≤ n) :
    0 ≤ dueL r lo' hi' (firstL r s' lo' hi' ((lo' - s') % r)) (insideL s' hi' (firstL r s' lo' hi' ((lo' - s') % r))) n ∧
    InR (by_ * e) (by_ * r) (by_ * s + more) (by_ * lo + more) (by_ * hi + more) (dueL r lo' hi' (firstL r s' lo' hi' ((lo' - s') % r)) (insideL s' hi' (firstL r s' lo' hi' ((lo' - s') % r))) n) ∧
    cnt (by_ * e) (by_ * r) (by_ * s + more) (by_ * lo + more) (by_ * hi + more) (dueL r lo' hi' (firstL r s' lo' hi' ((lo' - s') % r)) (insideL s' hi' (firstL r s' lo' hi' ((lo' - s') % r))) n).toNat = n := by
  obtain ⟨a1, a2, a3, a4, a5, _⟩ := S.fwd
  have hr : 0 < r := by have := S.r2; omega
  have key : ∀ m : Int, InR (by_ * e) (by_ * r) (by_ * s + more) (by_ * lo + more) (by_ * hi + more) m ↔ InR 1 r s' lo' hi' m := fun m => (slow_in hr hb m0 m1).trans (S.inr m)
  have d := due_all hr a3 a4 a5 a1 a2 hn
  exact ⟨d.nn, (key _).mpr d.inr, by rw [cnt_congr fun m _ => key m]; exact d.cnt⟩
theorem Slow.first {bk : Bool} {r s lo hi e s' lo' hi' by_ more : Int} (S : Slow bk r s lo hi e s' lo' hi') (hb : 0 < by_) (m0 : 0 ≤ more) (m1 : more < by_) :
    FirstIn (by_ * e) (by_ * r) (by_ * s + more) (by_ * lo + more) (by_ * hi + more) (some (firstL r s' lo' hi' ((lo' - s') % r))) := by
  obtain ⟨a1, a2, a3, a4, a5, _⟩ := S.fwd
  have hr : 0 < r := by have := S.r2; omega
  have d := S.due hb m0 m1 (Int.le_refl 0)
  have e1 : dueL r lo' hi' (firstL r s' lo' hi' ((lo' - s') % r)) (insideL s' hi' (firstL r s' lo' hi' ((lo' - s') % r))) 0 = firstL r s' lo' hi' ((lo' - s') % r) := by
    by_cases z : lo' ≤ s' ∧ s' ≤ hi'
    · have e1 : firstL r s' lo' hi' ((lo' - s') % r) = 0 := if_pos z
      have e2 : insideL s' hi' 0 = hi' - s' + 1 := if_pos rfl
      rw [e1, e2]
      exact if_pos (by omega)
    · have e1 : firstL r s' lo' hi' ((lo' - s') % r) = (lo' - s') % r := if_neg z
      obtain ⟨f0, _⟩ := due_out hr a3 a4 a5 a1 a2 z (Int.le_refl 0)
      have e2 : insideL s' hi' ((lo' - s') % r) = 0 := if_neg (by omega)
      rw [e1, e2]
      unfold dueL
      rw [if_neg (by omega), if_pos f0, Int.sub_zero, Int.zero_ediv, Int.zero_emod]
      omega
  rw [e1] at d
  exact first_of_cnt d.1 d.2.1 d.2.2
theorem firstL_bd {r s lo hi : Int} (hr : 0 < r) : 0 ≤ firstL r s lo hi ((lo - s) % r) ∧ firstL r s lo hi ((lo - s) % r) < r := by
  have a0 := Int.emod_nonneg (lo - s) (show r ≠ 0 by omega)
  have a1 := Int.emod_lt_of_pos (lo - s) hr
  unfold firstL
  split <;> omega
theorem dueL_bd {r lo hi first inside n : Int} (hr : 0 < r) (hb : r ≤ 10 ^ 11 + 2) (h1 : lo ≤ hi) (h2 : hi - lo < r) (f0 : 0 ≤ first) (f1 : first < r) (i0 : 0 ≤ inside) (i1 : inside ≤ r) (n0 : 0 ≤ n) (n1 : n ≤ 10 ^ 6) : dueL r lo hi first inside n ≤ 10 ^ 18 := by
  unfold dueL
  split
  · omega
  · have q1 := Int.ediv_le_self (a := n - inside) (hi - lo + 1) (by omega)
    have q0 := Int.ediv_nonneg (show 0 ≤ n - inside by omega) (show 0 ≤ hi - lo + 1 by omega)
    have u1 := Int.emod_lt_of_pos (n - inside) (show 0 < hi - lo + 1 by omega)
    have m1 := Int.mul_le_mul (show (n - inside) / (hi - lo + 1) ≤ 10 ^ 6 by omega) hb (by omega) (by decide)
    split <;> omega
/-- two pictures that share a piece, one rest at a time -/
theorem slow_same_fwd {r s by_ more : Int} {o : Option Int} (hb : by_ = 1) (m0 : 0 ≤ more) (m1 : more < by_) (hr : 2 ≤ r) (s0 : 0 ≤ s) (s1 : s < r) (f : FirstIn (by_ * 1) (by_ * r) (by_ * s + more) 0 (by_ * r - by_ * 1 - 1) o) : o = some (if s < r - 1 then 0 else 1) := by
  subst hb
  have : more = 0 := by omega
  subst this
  simp only [Int.one_mul, Int.add_zero] at f
  refine firstIn_uniq f ?_
  by_cases z : s < r - 1
  · rw [if_pos z]
    refine ⟨Int.le_refl _, ?_, fun m a b => by omega⟩
    unfold InR
    rw [Int.zero_mul, Int.zero_add, Int.emod_eq_of_lt s0 s1]
    omega
  · rw [if_neg z]
    have : s = r - 1 := by omega
    subst this
    refine ⟨by omega, ?_, fun m a b => ?_⟩
    · unfold InR
      have := mod_at (r := r) (q := 1) (x := 0) (by omega) (by omega) (by omega)
      have e : 1 * 1 + (r - 1) = 1 * r + 0 := by omega
      rw [e, this]
      omega
    · have : m = 0 := by omega
      subst this
      unfold InR
      rw [Int.zero_mul, Int.zero_add, Int.emod_eq_of_lt s0 s1]
      omega
theorem slow_same_back {r s by_ more : Int} {o : Option Int} (hb : by_ = 1) (m0 : 0 ≤ more) (m1 : more < by_) (hr : 2 < r) (s0 : 0 ≤ s) (s1 : s < r) (f : FirstIn (by_ * (r - 1)) (by_ * r) (by_ * s + more) 0 (by_ * r - by_ * (r - 1) - 1) o) : o = some s := by
  subst hb
  have : more = 0 := by omega
  subst this
  simp only [Int.one_mul, Int.add_zero] at f
  have e : r - (r - 1) - 1 = 0 := by omega
  rw [e] at f
  have key : ∀ m, 0 ≤ m → m ≤ s → (m * (r - 1) + s) % r = s - m := fun m a b => by
    have := mod_at (r := r) (q := m) (x := s - m) (by omega) (by omega) (by omega)
    have e : m * (r - 1) + s = m * r + (s - m) := by grind
    rw [e, this]
  refine firstIn_uniq f ⟨s0, ?_, fun m a b => ?_⟩
  · unfold InR
    rw [key s s0 (Int.le_refl _)]
    omega
  · unfold InR
    rw [key m a (by omega)]
    omega
theorem slow_pos {r e by_ : Int} (hb : 0 < by_) (hr : 2 ≤ r) (he : e = 1 ∨ e = r - 1) : 1 ≤ by_ * e ∧ by_ * e < by_ * r := by
  have h1 := Int.mul_le_mul_of_nonneg_left (show 1 ≤ e by omega) (show 0 ≤ by_ by omega)
  have h2 := Int.mul_lt_mul_of_pos_left (show e < r by omega) hb
  omega
theorem slow_rng {r x by_ more : Int} (hb : 0 < by_) (x0 : 0 ≤ x) (x1 : x < r) (m0 : 0 ≤ more) (m1 : more < by_) : 0 ≤ by_ * x + more ∧ by_ * x + more < by_ * r := by
  have h1 := Int.mul_nonneg (show 0 ≤ by_ by omega) x0
  have h2 := Int.mul_le_mul_of_nonneg_left (show x + 1 ≤ r by omega) (show 0 ≤ by_ by omega)
  have e : by_ * (x + 1) = by_ * x + by_ := by grind
  omega
theorem slow_top {r by_ : Int} (b0 : 0 < by_) (b1 : by_ ≤ 9) (r0 : 0 ≤ r) (r1 : r ≤ 10 ^ 11 + 1) : by_ * r ≤ 10 ^ 12 := by
  have := Int.mul_le_mul b1 r1 r0 (by decide)
  omega
end Ck

namespace Ck
open PySem PySem.Spec PyProof.Rows L2

/-! ### how long a shown datum is -/
mutual
def bd : PyData → Nat
  | .none => 4
  | .bool _ => 5
  | .int _ => 2000
  | .str x => (reprText x).length
  | .list xs => bds xs + 3
  | .tuple xs => bds xs + 3
  | .dict _ => 0
def bds : List PyData → Nat
  | [] => 0
  | x :: xs => bd x + 2 + bds xs
end
theorem bds_len : ∀ xs : List PyData, (PyData.shownAll xs).length = xs.length
  | [] => rfl
  | _ :: xs => by simp only [PyData.shownAll, List.length_cons, bds_len xs]
mutual
theorem shown_bd : ∀ d : PyData, d.showable = true → d.hasDict = false → d.shown.length ≤ bd d
  | .none, _, _ => by simp only [PyData.shown, bd]; decide +kernel
  | .bool b, _, _ => by
    simp only [PyData.shown, bd]
    cases b <;> decide +kernel
  | .int i, hs, _ => by
    simp only [PyData.showable, decide_eq_true_eq] at hs
    have := int_text_len_1921 hs
    simp only [PyData.shown, bd]
    exact Nat.le_trans this (by decide)
  | .str x, _, _ => by simp only [PyData.shown, bd]; exact Nat.le_refl _
  | .list xs, hs, hd => by
    simp only [PyData.showable] at hs
    simp only [PyData.hasDict] at hd
    have h1 := shown_bds xs hs hd
    have h2 := listText_len_le (PyData.shownAll xs)
    rw [bds_len] at h2
    simp only [PyData.shown, bd]
    omega
  | .tuple xs, hs, hd => by
    simp only [PyData.showable] at hs
    simp only [PyData.hasDict] at hd
    have h1 := shown_bds xs hs hd
    have h2 := tupleText_len_le (PyData.shownAll xs)
    rw [bds_len] at h2
    simp only [PyData.shown, bd]
    omega
  | .dict _, _, hd => by simp only [PyData.hasDict] at hd; cases hd
theorem shown_bds : ∀ xs : List PyData, PyData.showableAll xs = true → PyData.hasDictAll xs = false → ((PyData.shownAll xs).map (·.length)).sum + 2 * xs.length ≤ bds xs
  | [], _, _ => by simp [PyData.shownAll, bds]
  | x :: xs, hs, hd => by
    simp only [PyData.showableAll, Bool.and_eq_true] at hs
    simp only [PyData.hasDictAll, Bool.or_eq_false_iff] at hd
    have h1 := shown_bd x hs.1 hd.1
    have h2 := shown_bds xs hs.2 hd.2
    simp only [PyData.shownAll, List.map_cons, List.sum_cons, List.length_cons, bds]
    omega
end

/-! ### repr of data -/
/-- all that repr of a datum wants -/
structure Rp (d : PyData) : Prop where
  sh : d.showable = true
  nd : d.hasDict = false
  dp : d.depth ≤ 60
  bd : bd d ≤ 16000000
def rRepr (K : PySem.W.Frag) : List V → Hp → VK → Prop := fun xs H Q => ∃ v d, xs = [v] ∧ Dp K H v d ∧ Rp d ∧ Q (.str d.shown) H
section
variable {X : Cx}
theorem call_repr (hr : X.A.units + 64 < cLine) (hg : X.A.guards = some []) : CallR X (.builtin "repr") (rRepr X.K) := by
  intro pins s σ H xs us Q I r h
  obtain ⟨v, d, rfl, hd, R, q⟩ := h
  obtain ⟨u, rfl, ru⟩ := vals1 r
  have hsz : d.shown.length ≤ sizeLine := Nat.le_trans (shown_bd d R.sh R.nd) (Nat.le_trans R.bd (by rw [sizeLine_eq]; decide))
  have hdp := R.dp
  obtain ⟨as, rd⟩ := Dp.reads I d v u hd ru
  cases hd with
  | non =>
    cases ru
    exact PySem.P.repr_of_none ⟨.str _, H, I.tok _, ⟨_, rfl⟩, by simpa only [PyData.shown] using q⟩
  | bl b =>
    cases ru
    exact PySem.P.repr_of_bool ⟨.str _, H, I.tok _, ⟨_, rfl⟩, by simpa only [PyData.shown] using q⟩
  | int i =>
    obtain ⟨t, rfl⟩ := ru
    have hs := R.sh
    simp only [PyData.showable, decide_eq_true_eq] at hs
    exact PySem.P.repr_of_int hs ⟨.str _, H, I.tok _, ⟨_, rfl⟩, by simpa only [PyData.shown] using q⟩
  | str x =>
    obtain ⟨t, rfl⟩ := ru
    exact PySem.P.repr_of_str ⟨.str _, H, I.tok _, ⟨_, rfl⟩, by simpa only [PyData.shown] using q⟩ (by simpa only [PyData.shown] using hsz)
  | lst h1 h2 =>
    cases ru
    exact repr_of_reads' rd R.sh (PyData.noDict_hsm R.nd) hg (by omega) (fun _ _ e => e) (fun h' u tk hk => ⟨.str _, H, I.kept hk, ⟨_, rfl⟩, q⟩) hsz
  | tup h1 h2 =>
    cases ru
    exact repr_of_reads' rd R.sh (PyData.noDict_hsm R.nd) hg (by omega) (fun _ _ e => e) (fun h' u tk hk => ⟨.str _, H, I.kept hk, ⟨_, rfl⟩, q⟩) hsz
end

/-! ### defs that know that no repr is under way -/
structure FnG (P : Program) (w : World) (K : PySem.W.Frag) (mg : Str → Option Value) (base : Heap) (k : Nat) (f : Addr) (fd : FuncData) (ps : List Str) (sp : Sp) : Prop where
  len : ∀ vs H Q E, sp vs H Q E → vs.length = ps.length
  run : ∀ (A : Around) (outer : List Env) (s : Shared) (H : Hp) (args : Args) (us : List Value) (vs : List V) (Q : VK) (E : XK), A.guards = some [] → Room k A → Env0 P w K mg base A outer s H → BindsTo s fd args (ps.zip us) → Vals vs us → sp vs H Q E →
    codeAny (model P w) A (.call (.ref f) args) (CR CX0 outer P w H s Q E) s
theorem fun_okG {P : Program} {w : World} {K : PySem.W.Frag} {mg : Str → Option Value} {base : Heap} {x qual : Str} {st : Stmt} {f : Addr} {fd : FuncData} {N ps : List Str} {k : Nat} {sp : Sp} (F : Fun K x qual st f fd) (S : FnScope N ps (defScope st))
    (len : ∀ vs H Q E, sp vs H Q E → vs.length = ps.length)
    (hbody : ∀ (cdv : Value) (A : Around) (outer : List Env) (s : Shared) (H : Hp) (vs : List V) (Q : VK) (E : XK), (A.deeper (envOfC qual (defScope st) s.heap.objs.size f cdv)).guards = some [] → Room k (A.deeper (envOfC qual (defScope st) s.heap.objs.size f cdv)) → sp vs H Q E →
      ∃ t, PSs (cxOf CX0 P w K mg base N qual (defScope st) f cdv A outer s H E).nox (defBody st) t ∧ t { nx := fun _ H' => Q .non H', rt := Q } (start N vs) H) : FnG P w K mg base (k + 1) f fd ps sp := by
  obtain ⟨oc, od, kV, doc, pm, an, cdv, ct, osl, rfl, lk, hcd⟩ := F.ex
  refine ⟨len, fun A outer s H args us vs Q E hg room e0 hb rel hsp => ?_⟩
  have hlen := len _ _ _ _ hsp
  have KX : K.In s.heap := e0.mod.kin.keeps fun b o e => (e0.bs b o e).1
  have kinds : ∀ y ∈ ps.zip us, (defScope st).names.lookup y.1 = some .local ∨ ((defScope st).names.lookup y.1 = some .cell ∧ ((cellsFrom (s.heap.objs.size + 1) (defScope st).names []).lookup y.1).isSome = true) := fun ⟨n, v⟩ hy =>
    (S.par n (List.of_mem_zip hy).1).elim .inl fun q => .inr ⟨q, PySem.W.cellsFrom_some _ _ _ (.inl q)⟩
  refine codeAny_call_function room.depth (KX _ _ lk) rfl S.co S.gen rfl (PySem.W.codeRec_of KX hcd) (hb _ _ _ _ (wpAny_newFunctionEnv_cells S.kind kinds fun env he s1 ic => ?_))
  subst he
  refine ⟨(e0.mod.nolimit.keeps fun b o e => (e0.bs b o e).1).keeps ic.toInCall.keep, codeAny_func ?_⟩
  obtain ⟨t, ht, hq⟩ := hbody cdv A outer s H vs Q E hg (room.deeper _) hsp
  refine wpAny_mono (ht.nox.run [] s1 (start N vs) H _ (inv_start S room.hd e0 hlen rel ic) hq) (fun fl s' hs => ?_) fun e s' hs => hs
  cases fl with
  | ret u =>
    obtain ⟨v, σ', H', J, rv, q⟩ := hs
    exact ⟨v, H', J.os, J.bare, J.base, J.hok, rv, q⟩
  | next =>
    obtain ⟨σ', H', J, q⟩ := hs
    exact ⟨V.non, H', J.os, J.bare, J.base, J.hok, rfl, q⟩
  | brk => exact hs.elim fun _ ⟨_, _, q⟩ => q.elim
  | cont => exact hs.elim fun _ ⟨_, _, q⟩ => q.elim

/-! ### a def as its callers see it -/
section
variable (P : Program) (w : World) (K : PySem.W.Frag) (mg : Str → Option Value) (base : Heap)
def DefOk (k : Nat) (x : Str) (ps : List Str) (sp : Sp) : Prop := ∃ f fd, FnOk P w K mg base CX0 k f fd ps sp ∧ mg x = some (.ref f) ∧ PySem.W.keepIn K (.ref f) = true ∧ L2.Binds K fd ps []
def DefG (k : Nat) (x : Str) (ps : List Str) (sp : Sp) : Prop := ∃ f fd, FnG P w K mg base k f fd ps sp ∧ mg x = some (.ref f) ∧ PySem.W.keepIn K (.ref f) = true ∧ L2.Binds K fd ps []
def MethOk (C : Addr) (k : Nat) (m : Str) (ps : List Str) (sp : Sp) : Prop := ∃ f fd, FnOk P w K mg base CX0 k f fd ps sp ∧ Meth K C m f ∧ L2.Binds K fd ps []
end
section
variable {X : Cx} {k j : Nat} {x m : Str} {ps : List Str} {sp : Sp} {e o : Expr} {es : List Expr} {t : TA} {to : TE} {p pos apos : Pos} {C : Addr}
theorem pcl (D : DefOk X.prog X.w X.K X.mg X.base k x ps sp) (hr : Room j X.A) (ha : PA X (e :: es) t) (hk : k ≤ j := by decide) (hg : Gl X x := by rfl) (hdb : (x == ("__debug__" : Str)) = false := by decide)
    (he : starEach (e :: es) X.env = (false, eval e X.env) :: starEach es X.env := by rfl) (hpl : (backTo pos (starEach es X.env)).any (·.1) = false := by rfl) : PE X (.Call (.Name x p) (e :: es) [] pos) (tCall sp [] E0 t) := by
  obtain ⟨f, fd, F, hm, kp, b⟩ := D
  exact pe_call F (hr.mono hk) hg hm kp b .nil pass0 ha hdb he hpl
theorem pcG (D : DefG X.prog X.w X.K X.mg X.base k x ps sp) (hG : X.A.guards = some []) (hr : Room j X.A) (ha : PA X (e :: es) t) (hk : k ≤ j := by decide) (hg : Gl X x := by rfl) (hdb : (x == ("__debug__" : Str)) = false := by decide)
    (he : starEach (e :: es) X.env = (false, eval e X.env) :: starEach es X.env := by rfl) (hpl : (backTo pos (starEach es X.env)).any (·.1) = false := by rfl) : PE X (.Call (.Name x p) (e :: es) [] pos) (tCall sp [] E0 t) := by
  obtain ⟨f, fd, F, hm, kp, b⟩ := D
  refine ⟨fun pins s σ H Q I h => wpAny_Call_Name_kw (ld_glob I hg hm ?_ hdb)⟩
  refine PySem.W.callWith_K (h₀ := X.base) I.ok.mod.kin kp (thn (ha.run pos pins s σ H _ I h) fun us s1 ⟨vs, H1, I1, r, q⟩ => ⟨I1.kIn, ?_⟩) he hpl
  have q : sp (vs ++ []) H1 Q E0 := q
  rw [List.append_nil] at q
  have hl : us.length = ps.length := by rw [← r.length]; exact F.len _ _ _ _ q
  have hb := b s1 us I1.kIn (by rw [List.append_nil]; exact hl)
  rw [List.append_nil] at hb
  refine wpAny_call (codeAny_mono (F.run X.A X.stack s1 H1 ⟨us, []⟩ us vs Q E0 hG (hr.mono hk) I1.env0 hb r q) fun r s' hq => ?_)
  cases r with
  | error e => exact (show False from hq).elim
  | ok fl =>
    cases fl with
    | ret u => exact I1.after hq
    | next => exact (show False from hq).elim
    | brk => exact (show False from hq).elim
    | cont => exact (show False from hq).elim
theorem pml (D : MethOk X.prog X.w X.K X.mg X.base C k m ps sp) (c : Cls X.K C) (ho : PE X o to) (hr : Room j X.A) (ha : PA X (e :: es) t) (hk : k ≤ j := by decide) {pl : Sem Bool}
    (hst : starEach (e :: es) X.env = (false, eval e X.env) :: starEach es X.env := by rfl) (hpl : (backTo pos (starEach es X.env)).any (·.1) = false := by rfl)
    (ht : eval (.Call (.Attribute o m apos) (e :: es) [] pos) X.env = (do
      let ov ← eval o X.env
      standAt apos.atName
      let (f, first) ← holding [ov] (getMethod ov m pl)
      callWith pos f first (backTo pos (starEach (e :: es) X.env)) (backToKw pos (keywordEach [] X.env))) := by rfl) :
    PE X (.Call (.Attribute o m apos) (e :: es) [] pos) (tMeth C m sp [] E0 to t) := by
  obtain ⟨f, fd, F, hm, b⟩ := D
  exact pe_meth ho c hm F (hr.mono hk) b .nil pass0 ha hst hpl ht
theorem pml0 (D : MethOk X.prog X.w X.K X.mg X.base C k m ps sp) (c : Cls X.K C) (ho : PE X o to) (hr : Room j X.A) (hk : k ≤ j := by decide) {pl : Sem Bool}
    (ht : eval (.Call (.Attribute o m apos) [] [] pos) X.env = (do
      let ov ← eval o X.env
      standAt apos.atName
      let (f, first) ← holding [ov] (getMethod ov m pl)
      callWith pos f first (backTo pos (starEach [] X.env)) (backToKw pos (keywordEach [] X.env))) := by rfl) :
    PE X (.Call (.Attribute o m apos) [] [] pos) (tMeth C m sp [] E0 to tNil) := by
  obtain ⟨f, fd, F, hm, b⟩ := D
  exact pe_meth0 ho c hm F (hr.mono hk) b .nil pass0 ht
end
end Ck

namespace Ck
open PySem PySem.Spec PyProof.Rows L2

/-! ### d.items() and its sorting, int keys and int values -/
def rItK : V → List V → Hp → VK → Prop := fun x xs H Q => ∃ (a : Addr) (kvs : List (Key × V)), x = .ref a ∧ xs = [] ∧ H a = some (.dK kvs) ∧ ∀ p, H p = none → Q (.ref p) (upd H p (DX.itemsO p a))
section
variable {X : Cx}
theorem mt_itemsK : MtR X "dict.items" rItK := by
  intro pins s σ H x xs v us Q I r rs h
  obtain ⟨a, kvs, rfl, rfl, ha, q⟩ := h
  cases r
  cases rs
  obtain ⟨_, hd, _, _, o, es, ep, ho, hx, hdat, _⟩ := dk_of I.hok ha
  refine DT.callItems (es := es) (ep := ep) hd ⟨o, ho, hx, hdat⟩ ?_
  exact ⟨.ref s.heap.objs.size, _, I.laid (t' := s.toks) (fun b u e => Heap.get?_push_of_some _ e) (Nat.le_refl _) (DX.itemsO_ok (Heap.get?_push_size _ rfl)), rfl, q _ (I.hok.fresh (Nat.le_refl _))⟩
end
/-- the pair of ints that a value is in a heap -/
def prOf (h : Heap) : Value → Int × Int
  | .ref a => match h.get? a with
    | some o => match o.data with
      | .seq xs _ => match xs.toList with
        | [.int x _, .int y _] => (x, y)
        | _ => (0, 0)
      | _ => (0, 0)
    | none => (0, 0)
  | _ => (0, 0)
theorem prOf_of {h : Heap} {v : Value} {x y : Int} (p : Srt.IsPair h v x y) : prOf h v = (x, y) := by
  obtain ⟨a, o, t, u, n, rfl, ho, _, hd⟩ := p
  simp only [prOf, ho, hd]
theorem zip_map1 {α β γ : Type} (f : α → γ) : ∀ (as : List α) (ks : List β), as.length = ks.length → (as.zip ks).map (fun z => f z.1) = as.map f
  | [], _, _ => rfl
  | a :: as, [], h => by simp at h
  | a :: as, k :: ks, h => by
    show f a :: (as.zip ks).map (fun z => f z.1) = f a :: as.map f
    rw [zip_map1 f as ks (by simpa using h)]
abbrev entK (e : Int × Int) : Key × V := (Sum.inl e.1, V.int e.2)
/-- not above, item by item -/
def lexLe (e f : Int × Int) : Prop := e.1 < f.1 ∨ (e.1 = f.1 ∧ e.2 ≤ f.2)
def rSortK : List V → Hp → VK → Prop := fun vs H Q => ∃ (p a : Addr) (ks : List (Int × Int)), vs = [.ref p] ∧ H p = some (DX.itemsO p a) ∧ H a = some (.dK (ks.map entK)) ∧
  ∀ (H' : Hp) (l : Addr) (zs : List (Addr × (Int × Int))), (∀ b o, H b = some o → H' b = some o) → (zs.map (·.2)).Perm ks → (zs.map (·.2)).Pairwise lexLe → H l = none → H' l = some (.lst (zs.map fun z => V.ref z.1)) →
    (∀ z ∈ zs, H' z.1 = some (.tup [.int z.2.1, .int z.2.2])) → Q (.ref l) H'
section
variable {X : Cx}
theorem cr_sortK (hc : X.calm = true) : CallR X (.builtin "sorted") rSortK := by
  intro pins s σ H xs us Q I r h
  obtain ⟨p, a, ks, rfl, hp, ha, q⟩ := h
  obtain ⟨u, rfl, ru⟩ := vals1 r
  obtain rfl : u = Value.ref p := ru
  have view : s.heap.IsItemsView p a := (show ObjOk X.prog X.w H s.heap p (DX.itemsO p a) from I.hok p _ hp).1
  obtain ⟨z, hd, vs, kv, o, es, ep, ho, hx, hdat, _, prs, _⟩ := dk_of I.hok ha
  have l1 : ks.length = vs.length := by
    have e := Paired.length kv
    rw [List.length_map] at e
    exact e
  have lp : ∀ {l : List DictEntry} {m : List (Key × Value)}, Pairs (mixKind X.prog X.w) l m → l.length = m.length := by
    intro l m h
    induction h with
    | nil => rfl
    | cons _ _ _ ih => rw [List.length_cons, List.length_cons, ih]
  have l2 : es.size = ks.length := by
    have e := lp prs
    rw [Array.length_toList] at e
    omega
  have zk : ks.length ≤ sizeLine := by
    rw [List.length_map] at z
    exact z
  -- the entries by place
  have ent : ∀ {l : List DictEntry} {m : List (Key × Value)} {ls : List (Int × Int)}, Pairs (mixKind X.prog X.w) l m → KV (ls.map entK) m → ∀ (j : Nat) (e : DictEntry), l[j]? = some e → ∃ (f : Int × Int) (t u : Tok), ls[j]? = some f ∧ e.key = Value.int f.1 t ∧ e.val = Value.int f.2 u := by
    intro l m ls h
    induction h generalizing ls with
    | nil =>
      intro _ j e he
      cases he
    | @cons e0 kv0 es0 kvs0 h1 h2 h3 ih =>
      intro k j e he
      cases ls with
      | nil => cases k
      | cons f ls =>
        cases k with
        | cons k1 k2 =>
          cases j with
          | zero =>
            cases he
            obtain ⟨k1a, k1b⟩ := k1
            rw [← show Sum.inl f.1 = kv0.1 from k1a] at h1
            obtain ⟨t, ht⟩ := Value.isInt_shape (show Value.isInt f.1 e0.key = true from h1)
            obtain ⟨u, hu⟩ := (show ∃ u, kv0.2 = Value.int f.2 u from k1b)
            exact ⟨f, t, u, rfl, ht, h2.trans hu⟩
          | succ j => exact ih k2 j e he
  refine DT.sortedI (es := es) (ep := ep) (I.ok.hd hc) view ⟨o, ho, hx, hdat⟩ (by omega) fun h' tk as hk hlt hl hG => ?_
  have lak : as.length = ks.length := by omega
  have nd : as.Nodup := List.Pairwise.imp (fun h => Nat.ne_of_lt h) hG.rise
  have pr : ∀ (j : Nat) (b : Addr), as[j]? = some b → ∃ (e : Int × Int) (t u : Tok), ks[j]? = some e ∧ h'.get? b = some { cls := .type "tuple", data := .seq #[Value.int e.1 t, Value.int e.2 u] } := by
    intro j b hj
    obtain ⟨en, he, hg⟩ := hG.pairs j b hj
    rw [← Array.getElem?_toList] at he
    obtain ⟨f, t, u, e1, e2, e3⟩ := ent prs kv j en he
    exact ⟨f, t, u, e1, by rw [hg, e2, e3]⟩
  have hob : (h'.push { cls := .type "list", data := .seq (as.map Value.ref).toArray }).get? h'.objs.size = some (seqObj "list" (as.map Value.ref).toArray 0) := Heap.get?_push_size _ rfl
  have ne0 : ∀ b o, h'.get? b = some o → b ≠ h'.objs.size := fun b o e => Nat.ne_of_lt (Heap.lt_size e)
  generalize hh2 : h'.push { cls := .type "list", data := .seq (as.map Value.ref).toArray } = h2 at hob ⊢
  have ka : ∀ b o, h'.get? b = some o → h2.get? b = some o := fun b o e => by rw [← hh2]; exact Heap.get?_push_of_some _ e
  have isp : ∀ (j : Nat) (b : Addr) (e : Int × Int), as[j]? = some b → ks[j]? = some e → Srt.IsPair h2 (.ref b) e.1 e.2 := by
    intro j b e hj he
    obtain ⟨e', t, u, he', hg⟩ := pr j b hj
    rw [he] at he'
    cases he'
    exact ⟨b, _, t, u, 0, rfl, ka _ _ hg, rfl, rfl⟩
  have at_ : ∀ v ∈ as.map Value.ref, ∃ (j : Nat) (b : Addr) (e : Int × Int), v = .ref b ∧ as[j]? = some b ∧ ks[j]? = some e := by
    intro v hv
    obtain ⟨b, hb, rfl⟩ := List.mem_map.mp hv
    obtain ⟨j, hj⟩ := List.mem_iff_getElem?.mp hb
    obtain ⟨e, _, _, he, _⟩ := pr j b hj
    exact ⟨j, b, e, rfl, hj, he⟩
  refine wpAny_call_entry PyProof.Rows.slot_list_sort ⟨_, hob, rfl⟩ PyProof.Rows.entry_list_sort
    (SrtO.list_sort_ord (s := { s with heap := h2, toks := tk }) (SrtO.swo_lex (prOf h2)) hob (by rw [List.length_map]; omega) (fun h2' => ?_) fun out o1 o2 => ⟨.none, rfl, ?_⟩) (PyProof.Rows.args_list_sort _)
  · refine SrtO.pairs_sortableO (by omega) (fun v hv => ?_) fun o e => ?_
    · obtain ⟨j, b, e, rfl, hj, he⟩ := at_ v hv
      have := isp j b e hj he
      rw [prOf_of this]
      exact this
    · have e' : some o = some (seqObj "list" (as.map Value.ref).toArray 0) := e.symm.trans hob
      cases e'
      intro c
      exact absurd (Value.type.inj c) (by decide)
  · show EP X pins σ Q (.ref h'.objs.size) { s with heap := sortedHeap h2 h'.objs.size (as.map Value.ref) out.toArray, toks := tk }
    have mz : (as.zip ks).map (fun z => Value.ref z.1) = as.map Value.ref := zip_map1 Value.ref as ks lak
    obtain ⟨zs, pz, ez⟩ := perm_lift (fun z : Addr × (Int × Int) => Value.ref z.1) o2.perm (as.zip ks) mz
    have idx : ∀ z ∈ zs, ∃ j : Nat, as[j]? = some z.1 ∧ ks[j]? = some z.2 := by
      intro z' hz'
      obtain ⟨j, hj⟩ := List.mem_iff_getElem?.mp (pz.mem_iff.mp hz')
      exact ⟨j, List.getElem?_zip_eq_some.mp hj⟩
    have hperm : (zs.map (·.2)).Perm ks := by
      have e := pz.map (·.2)
      have m2 : (as.zip ks).map (·.2) = ks := List.map_snd_zip (by omega)
      rw [m2] at e
      exact e
    have hval : ∀ z ∈ zs, prOf h2 (.ref z.1) = z.2 := fun z hz => by
      obtain ⟨j, j1, j2⟩ := idx z hz
      exact prOf_of (isp j _ _ j1 j2)
    have hsort : (zs.map (·.2)).Pairwise lexLe := by
      have o1' : out.Pairwise (fun x y => SrtO.lexB (prOf h2 y) (prOf h2 x) = false) := o1
      rw [← ez, List.pairwise_map] at o1'
      rw [List.pairwise_map]
      refine List.Pairwise.imp_of_mem (fun {x y} hx hy h => ?_) o1'
      rw [hval x hx, hval y hy] at h
      have := SrtO.lexB_no.mp h
      unfold lexLe
      omega
    have kF : ∀ b o, b ≠ h'.objs.size → h2.get? b = some o → (sortedHeap h2 h'.objs.size (as.map Value.ref) out.toArray).get? b = some o := fun b o hb e => (PyProof.Rows.sortedHeap_old hb (Heap.lt_size e)).trans e
    have kS : ∀ b o, s.heap.get? b = some o → (sortedHeap h2 h'.objs.size (as.map Value.ref) out.toArray).get? b = some o := fun b o e => kF b o (ne0 _ _ (hk b o e)) (ka _ _ (hk b o e))
    obtain ⟨eF, heF⟩ := PyProof.Rows.sortedHeap_at (vs := as.map Value.ref) (out := out.toArray) hob
    have I1 : Inv X pins σ H { s with heap := sortedHeap h2 h'.objs.size (as.map Value.ref) out.toArray, toks := tk } := I.kept (t' := tk) kS
    have hn0 : H h'.objs.size = none := I.hok.fresh (Nat.le_of_lt hlt)
    have rv : Vals (zs.map fun z => V.ref z.1) out := by
      rw [← ez]
      exact vals_maps (fun z : Addr × (Int × Int) => V.ref z.1) (fun z => Value.ref z.1) zs fun _ _ => rfl
    have hlen : (zs.map fun z => V.ref z.1).length ≤ sizeLine := by
      have e := hperm.length_eq
      rw [List.length_map] at e
      rw [List.length_map]
      omega
    have I2 : Inv X pins σ (upd H h'.objs.size (.lst (zs.map fun z => V.ref z.1))) { s with heap := sortedHeap h2 h'.objs.size (as.map Value.ref) out.toArray, toks := tk } :=
      I1.take (h' := sortedHeap h2 h'.objs.size (as.map Value.ref) out.toArray) (t' := tk) (fun b ob _ e => e) (I.fpOk (Nat.le_of_lt hlt) hn0) ⟨hlen, out, eF, rv, heF⟩
    obtain ⟨H2, I3, g, qt⟩ := DX.takeT (P := fun b vs => ∃ (j : Nat) (e : Int × Int), as[j]? = some b ∧ ks[j]? = some e ∧ vs = [.int e.1, .int e.2]) I as _ I2 nd fun b hb => by
      obtain ⟨j, hj⟩ := List.mem_iff_getElem?.mp hb
      obtain ⟨e, t, u, he, hg⟩ := pr j b hj
      have hbl : s.heap.objs.size ≤ b := Nat.le_of_lt (hG.above b hb)
      refine ⟨hbl, ?_, [.int e.1, .int e.2], ⟨j, e, hj, he, rfl⟩, fun H3 => ⟨(by rw [sizeLine_eq]; show 2 ≤ 16777216; omega), [Value.int e.1 t, Value.int e.2 u], .cons ⟨t, rfl⟩ (.cons ⟨u, rfl⟩ .nil), ⟨_, kF _ _ (ne0 _ _ hg) (ka _ _ hg), rfl, 0, rfl⟩⟩⟩
      rw [upd_ne (ne0 _ _ hg)]
      exact I.hok.fresh hbl
    have gr : ∀ b o, H b = some o → H2 b = some o := fun b o e => g b o (by rw [upd_ne (ne_of_none e hn0)]; exact e)
    refine ⟨.ref h'.objs.size, H2, I3, rfl, q H2 h'.objs.size zs gr hperm hsort hn0 (g _ _ upd_same) fun z' hz' => ?_⟩
    obtain ⟨i, i1, i2⟩ := idx z' hz'
    obtain ⟨vs', ⟨j, e, j1, j2, ev⟩, hH⟩ := qt z'.1 (List.mem_of_getElem? i1)
    have eij : i = j := (List.getElem?_inj (List.getElem?_eq_some_iff.mp i1).1 nd).mp (i1.trans j1.symm)
    subst eij
    have ee : e = z'.2 := Option.some.inj (j2.symm.trans i2)
    rw [ev, ee] at hH
    exact hH
end
/-! ### min of five ints -/
section
variable {prog : Program} {w : World} {A : Around} {E : Value → Shared → Prop} {s : Shared}
theorem args_min5 (a b c d e : Value) : argsOk "min" ⟨[a, b, c, d, e], []⟩ := by unfold argsOk; kernel_rfl
theorem min_five {xs : Array (Int × Tok)} {v1 v2 v3 v4 v5 : Value} (hx : intItems xs = #[v1, v2, v3, v4, v5]) (hz : xs.size = 5) {Q : Value → Shared → Prop} (hh : A.handled = none)
    (h : ∀ h' tk M t, (∀ d o, s.heap.get? d = some o → h'.get? d = some o) → (∃ j, j < 5 ∧ M = numAt xs j) → (∀ j, j < 5 → M ≤ numAt xs j) → Q (.int M t) { s with heap := h', toks := tk }) :
    wpAny (model prog w) A (call (.builtin "min") [v1, v2, v3, v4, v5]) Q E s := by
  have hname : (toString "min" ++ toString ".loop" : String) = "min.loop" := by decide
  refine call_function_tree F.kind_min F.plain_min F.entry_min (args_min5 _ _ _ _ _) ?_
  show wpAny _ A.in1 (Builtin.Builtins.bindParams "min" ["key", "default"] 0 ⟨[], []⟩ >>= _) _ _ s
  refine wpAny_bind (wpAny_of_eq (show Builtin.Builtins.bindParams "min" ["key", "default"] 0 ⟨[], []⟩ = pure [none, none] from rfl) ?_)
  show wpAny _ A.in1 (newTuple [v1, v2, v3, v4, v5] >>= _) _ _ s
  refine wpAny_bind (wpAny_newObj_type ?_)
  have hT : (s.heap.push { cls := .type "tuple", data := .seq #[v1, v2, v3, v4, v5] }).IsTuple s.heap.objs.size (intItems xs) := ⟨_, Heap.get?_push_size _ rfl, rfl, 0, by rw [hx]⟩
  have hsz : (s.heap.push { cls := .type "tuple", data := .seq #[v1, v2, v3, v4, v5] }).objs.size = s.heap.objs.size + 1 := Heap.size_push ..
  refine wpAny_bind (wpAny_pyIter_tuple hT ?_)
  have W := Walks.tuple (prog := prog) (w := w) (A := A.in1) hh (s.heap.push { cls := .type "tuple", data := .seq #[v1, v2, v3, v4, v5] }).objs.size s.heap.objs.size (by rw [hsz]; exact Nat.ne_of_lt (Nat.lt_succ_self _)) (intItems xs)
  have hcmp := CmpOf.ints_lt (prog := prog) (w := w) (A := A.in1) (P := fun j v => (intItems xs)[j]? = some v) (numAt xs) (fun _ _ => intItems_at)
  have in5 : (intItems xs).size = 5 := by rw [hx]; rfl
  refine wpAny_bind (wpAny_newObj_type ?_)
  rw [hname]
  refine wpAny_pure ⟨plainId_quiet F.plain_min_loop _, ?_⟩
  refine codeAny_min_loop_first (c := 0) W _ hcmp _ ?_ (by rw [in5]; decide) ?_ ?_ fun v h' tk hP hk => ?_
  rotate_left 2
  · exact Heap.get?_push_size _ rfl
  · obtain ⟨t, rfl⟩ := intItems_at hP
    have hk' := hk
    show Q (.int (numAt xs (argBest _ ((intItems xs).size - 1))) t) _
    rw [in5]
    obtain ⟨g1, g2⟩ := argBest_lt (numAt xs) (5 - 1)
    refine h h' tk _ t (fun d o e => ?_) ⟨_, Nat.lt_succ_of_le g1, rfl⟩ fun j hj => g2 j (Nat.le_of_lt_succ hj)
    have hd := Heap.lt_size e
    have e1 := Heap.get?_push_of_some { cls := .type "tuple", data := .seq #[v1, v2, v3, v4, v5] } e
    have e2 := Heap.get?_push_of_some { cls := .type "tuple_iterator", data := .fields #[.ref s.heap.objs.size, .int 0 0] } e1
    refine hk' d o (fun z => ?_) (fun z => ?_) (Heap.get?_push_of_some _ e2)
    · rcases List.mem_cons.mp z with z | z
      · have z2 : (d : Nat) = s.heap.objs.size + 1 := by simpa [Heap.size_push] using z
        rw [z2] at hd
        exact absurd hd (Nat.not_lt.mpr (Nat.le_succ _))
      · cases z
    · have z2 : (d : Nat) = s.heap.objs.size + 1 + 1 := by simpa [Heap.size_push] using z
      rw [z2] at hd
      exact absurd hd (Nat.not_lt.mpr (Nat.le_succ_of_le (Nat.le_succ _)))
  · intro z
    rcases List.mem_cons.mp z with z | z
    · have z2 : (s.heap.objs.size + 1 + 1 : Nat) = s.heap.objs.size + 1 := by simpa [Heap.size_push] using z
      omega
    · rcases List.mem_cons.mp z with z | z
      · have z2 : (s.heap.objs.size + 1 + 1 : Nat) = s.heap.objs.size := by simpa [Heap.size_push] using z
        omega
      · cases z
  · exact ⟨⟨_, Heap.get?_push_of_some _ (Heap.get?_push_size _ rfl), rfl, rfl⟩, (hT.push _).push _⟩
theorem call_min5 {X : Cx} (hc : X.calm = true) : CallR X (.builtin "min") (fun xs H Q => ∃ a b c d e : Int, xs = [.int a, .int b, .int c, .int d, .int e] ∧ Q (.int (min a (min b (min c (min d e))))) H) := by
  intro pins s σ H xs us Q I r h
  obtain ⟨a, b, c, d, e, rfl, q⟩ := h
  cases r with
  | cons r1 r =>
    cases r with
    | cons r2 r =>
      cases r with
      | cons r3 r =>
        cases r with
        | cons r4 r =>
          cases r with
          | cons r5 r =>
            cases r
            obtain ⟨t1, rfl⟩ := r1
            obtain ⟨t2, rfl⟩ := r2
            obtain ⟨t3, rfl⟩ := r3
            obtain ⟨t4, rfl⟩ := r4
            obtain ⟨t5, rfl⟩ := r5
            refine min_five (xs := #[(a, t1), (b, t2), (c, t3), (d, t4), (e, t5)]) (by simp [intItems]) rfl (I.ok.hd hc) fun h' tk M t k hj hm => ⟨.int M, H, I.kept k, ⟨t, rfl⟩, ?_⟩
            have e0 := hm 0 (by decide)
            have e1 := hm 1 (by decide)
            have e2 := hm 2 (by decide)
            have e3 := hm 3 (by decide)
            have e4 := hm 4 (by decide)
            simp [numAt] at e0 e1 e2 e3 e4
            have hM : M = min a (min b (min c (min d e))) := by
              obtain ⟨j, j5, hj⟩ := hj
              have : j = 0 ∨ j = 1 ∨ j = 2 ∨ j = 3 ∨ j = 4 := by omega
              rcases this with rfl | rfl | rfl | rfl | rfl <;> simp [numAt] at hj <;> omega
            rw [hM]
            exact q
end
end Ck

namespace Ck
open PySem PySem.Spec PyProof.Rows L2
def topS (i : Nat) : Stmt := PySem.Challenge.pw_seenandheard_k80_whole_great_clocks_know.main.body.getD i (.Pass ⟨0, 0, 0, 0⟩)
/-! ### built-in names -/
theorem bo_len : bootBuiltins "len" = some (.builtin "len") := by decide +kernel
theorem bo_abs : bootBuiltins "abs" = some (.builtin "abs") := by decide +kernel
theorem bo_min : bootBuiltins "min" = some (.builtin "min") := by decide +kernel
theorem bo_max : bootBuiltins "max" = some (.builtin "max") := by decide +kernel
theorem bo_sum : bootBuiltins "sum" = some (.builtin "sum") := by decide +kernel
theorem bo_all : bootBuiltins "all" = some (.builtin "all") := by decide +kernel
theorem bo_repr : bootBuiltins "repr" = some (.builtin "repr") := by decide +kernel
theorem bo_sorted : bootBuiltins "sorted" = some (.builtin "sorted") := by decide +kernel
theorem bo_isinstance : bootBuiltins "isinstance" = some (.builtin "isinstance") := by decide +kernel
theorem bo_int : bootBuiltins "int" = some (.type "int") := by decide +kernel
theorem bo_bool : bootBuiltins "bool" = some (.type "bool") := by decide +kernel
theorem bo_str : bootBuiltins "str" = some (.type "str") := by decide +kernel
theorem bo_tuple : bootBuiltins "tuple" = some (.type "tuple") := by decide +kernel
structure Bn (mg : Str → Option Value) : Prop where
  len : mg "len" = none
  abs : mg "abs" = none
  min : mg "min" = none
  max : mg "max" = none
  sum : mg "sum" = none
  all : mg "all" = none
  repr : mg "repr" = none
  sorted : mg "sorted" = none
  isinstance : mg "isinstance" = none
  int : mg "int" = none
  bool : mg "bool" = none
  str : mg "str" = none
  tuple : mg "tuple" = none
  range : mg "range" = none
  reversed : mg "reversed" = none
/-- the class Clock and the module's numbers -/
structure Txt (K : PySem.W.Frag) (mg : Str → Option Value) (C : Addr) : Prop where
  cl : Cls K C
  nP : NoAttr K C "pace"
  nR : NoAttr K C "rate"
  nS : NoAttr K C "shift"
  mg_Clock : mg "Clock" = some (.ref C)
  mg_MOST : ∃ t, mg "MOST" = some (.int 1000000000000 t)
  mg_MOST_MANY : ∃ t, mg "MOST_MANY" = some (.int 1000000000000000000 t)
  mg_MOST_NTH : ∃ t, mg "MOST_NTH" = some (.int 1000000000000000 t)
  ha : PySem.W.findIn K (.ref C) "__class__" = some (some (.builtin "object.__class__"))
  hn : PySem.W.specialIn K (.builtin "object.__class__") "__get__" = some (some (.builtin "getset_descriptor.__get__"))
  htk : PySem.W.takesIn K (.builtin "object.__class__") = some true
  hm : PySem.W.mroIn K C (.type "object") = some true
  kc : PySem.W.kitOne K (.ref C) (.ref C) = some true
theorem pgi {X : Cx} {x : Str} {i : Int} {pos : Pos} (hg : Gl X x) (hm : ∃ t, X.mg x = some (.int i t)) (hd : (x == ("__debug__" : Str)) = false := by decide) : PE X (.Name x pos) (tC (.int i)) :=
  let ⟨t, h⟩ := hm
  pe_glob hg h ⟨t, rfl⟩ hd
/-- a clock stands at p -/
def Clk (C : Addr) (H : Hp) (p : Addr) (a b c : Int) : Prop := ∃ dx, H p = some (.ins C dx [("pace", .int a), ("rate", .int b), ("shift", .int c)])
theorem Clk.same {C p : Addr} {H H' : Hp} {a b c : Int} (h : Clk C H p a b c) (s : Same H H') : Clk C H' p a b c := let ⟨dx, e⟩ := h; ⟨dx, s _ _ e⟩
/-- small enough for every product -/
def Bd (x : Int) : Prop := -(10 ^ 70) ≤ x ∧ x ≤ 10 ^ 70
theorem Bd.log {x : Int} (h : Bd x) : x.natAbs < 2 ^ 250 := by
  obtain ⟨h1, h2⟩ := h
  have : x.natAbs ≤ 10 ^ 70 := by omega
  exact Nat.lt_of_le_of_lt this (by decide)
theorem mulB {i j : Int} (hi : Bd i) (hj : Bd j) : CMulW i j := wide_mul hi.log hj.log (by decide) (by decide) (by decide)
theorem divB {i j : Int} (h : 0 < j) (hj : Bd j) : CDivW i j := wide_div h hj.log (by decide) (by decide)
theorem iteD {c : Prop} [Decidable c] {A B : Prop} (h1 : c → A) (h2 : ¬ c → B) : if decide c = true then A else B := by
  by_cases h : c
  · rw [decide_eq_true h]
    exact iteT (h1 h)
  · rw [decide_eq_false h]
    exact iteF (h2 h)
def optV : Option Int → V
  | some n => .int n
  | none => .non
local macro_rules | `(tactic| walk_at "bd") => `(tactic| exact (show Bd _ from ⟨by omega, by omega⟩))
local macro_rules | `(tactic| walk_at "ck") => `(tactic| first
  | (refine ⟨_, rfl, ?_⟩)
  | (refine ⟨_, _, rfl, rfl, ?_⟩)
  | (refine ⟨mulB (by walk_at "bd") (by walk_at "bd"), ?_⟩)
  | (refine ⟨divB (by omega) (by walk_at "bd"), ?_⟩)
  | (refine ⟨_, _, _, _, _, rfl, by assumption, by assumption, by assumption, rfl, ?_⟩)
  | (refine ⟨_, _, _, rfl, by assumption, rfl, ?_⟩))

section
variable {P : Program} {w : World} {K : PySem.W.Frag} {mg : Str → Option Value} {base : Heap} {C : Addr}
/-! ### kinds -/
abbrev s_is_number : Stmt := topS 9
abbrev N_is_number : List Str := ["thing"]
theorem sc_is_number : FnScope N_is_number ["thing"] (defScope s_is_number) := ⟨rfl, rfl, rfl, by decide +kernel, rfl, by decide +kernel, by decide +kernel⟩
def sp_is_number : Sp := fun vs H Q _ => ∃ i : Int, vs = [.int i] ∧ Q (.bl true) H
theorem ok_is_number {f : Addr} {fd : FuncData} (F : Fun K "is_number" "is_number" s_is_number f fd) (B : Bn mg) : FnOk P w K mg base CX0 1 f fd ["thing"] sp_is_number := by
  refine F.ok sc_is_number (fun vs H Q E h => ?_) (fun cdv A outer s H vs Q E hr h => ?_)
  · obtain ⟨i, rfl, _⟩ := h
    rfl
  · obtain ⟨i, rfl, q⟩ := h
    refine ⟨_, (pss_one (ps_ret (pe_and (pe_callB call_isi (by rfl) B.isinstance bo_isinstance (pa_cons (pv 0) (pa_cons (pe_bltn (v := .ty "int") (by rfl) B.int bo_int rfl) pa_nil))) (pe_one (pe_not (pe_callB call_isi (by rfl) B.isinstance bo_isinstance (pa_cons (pv 0) (pa_cons (pe_bltn (v := .ty "bool") (by rfl) B.bool bo_bool rfl) pa_nil)))))))), ?_⟩
    refine ⟨_, rfl, _, _, _, _, true, rfl, .ty "int", .base (.int i), kit_ty (by decide +kernel), true, rfl, ?_⟩
    refine iteT ?_
    refine ⟨_, rfl, _, _, _, _, false, rfl, .ty "bool", .base (.int i), kit_ty (by decide +kernel), false, rfl, ?_⟩
    exact q
abbrev s_is_between : Stmt := topS 10
abbrev N_is_between : List Str := ["thing", "low", "high"]
theorem sc_is_between : FnScope N_is_between ["thing", "low", "high"] (defScope s_is_between) := ⟨rfl, rfl, rfl, by decide +kernel, rfl, by decide +kernel, by decide +kernel⟩
theorem yes {p : Prop} (h : p) : (true = true ↔ p) := ⟨fun _ => h, fun _ => rfl⟩
def sp_is_between : Sp := fun vs H Q _ => ∃ (i lo hi : Int) (k : Bool), vs = [.int i, .int lo, .int hi] ∧ (k = true ↔ lo ≤ i ∧ i ≤ hi) ∧ Q (.bl k) H
theorem ok_is_between {f : Addr} {fd : FuncData} (F : Fun K "is_between" "is_between" s_is_between f fd) (D_is_number : DefOk P w K mg base 1 "is_number" ["thing"] sp_is_number) : FnOk P w K mg base CX0 2 f fd ["thing", "low", "high"] sp_is_between := by
  refine F.ok sc_is_between (fun vs H Q E h => ?_) (fun cdv A outer s H vs Q E hr h => ?_)
  · obtain ⟨i, lo, hi, k, rfl, _⟩ := h
    rfl
  · obtain ⟨i, lo, hi, k, rfl, hk, q⟩ := h
    refine ⟨_, (pss_one (ps_ret (pe_and (pcl D_is_number hr (pa_cons (pv 0) pa_nil)) (pe_one (pe_chain op_le op_le (pv 1) (pv 0) (pv 2)))))), ?_⟩
    refine ⟨_, rfl, i, rfl, true, rfl, iteT ?_⟩
    refine ⟨_, rfl, _, rfl, _, _, rfl, rfl, _, rfl, ?_⟩
    refine iteD (fun e => ?_) (fun e => ?_)
    · refine ⟨_, rfl, _, _, rfl, rfl, ?_⟩
      have : decide (i ≤ hi) = k := by
        cases k with
        | true => exact decide_eq_true (hk.mp rfl).2
        | false => exact decide_eq_false fun z => by cases hk.mpr ⟨e, z⟩
      show Q (.bl (decide (i ≤ hi))) H
      rw [this]
      exact q
    · have : k = false := by
        cases k with
        | true => exact absurd (hk.mp rfl).1 e
        | false => rfl
      rw [this] at q
      exact q
/-! ### the greatest common divisor -/
abbrev s_divisor : Stmt := topS 12
abbrev N_divisor : List Str := ["one", "other"]
theorem sc_divisor : FnScope N_divisor ["one", "other"] (defScope s_divisor) := ⟨rfl, rfl, rfl, by decide +kernel, rfl, by decide +kernel, by decide +kernel⟩
def sp_divisor : Sp := fun vs H Q _ => ∃ a b : Int, vs = [.int a, .int b] ∧ 0 ≤ a ∧ 0 ≤ b ∧ ∀ g, IsGcd g a b → Q (.int g) H
theorem ok_divisor {f : Addr} {fd : FuncData} (F : Fun K "divisor" "divisor" s_divisor f fd) (B : Bn mg) : FnOk P w K mg base CX0 1 f fd ["one", "other"] sp_divisor := by
  refine F.ok sc_divisor (fun vs H Q E h => ?_) (fun cdv A outer s H vs Q E hr h => ?_)
  · obtain ⟨a, b, rfl, _⟩ := h
    rfl
  · obtain ⟨a, b, rfl, ha, hb, q⟩ := h
    refine ⟨_, (pss_cons (ps_par (i := 0) (j := 1) rfl sc_divisor.nd rfl rfl (by decide) rfl rfl (pa_cons (pe_callB call_abs (by rfl) B.abs bo_abs (pa_cons (pv 0) pa_nil)) (pa_cons (pe_callB call_abs (by rfl) B.abs bo_abs (pa_cons (pv 1) pa_nil)) pa_nil)) (by rfl))
      (pss_cons (ps_while PassesOwn.never (pt_cmpR op_gt (pv 1) pe_int (nomark _)) (pss_one (ps_par (i := 0) (j := 1) rfl sc_divisor.nd rfl rfl (by decide) rfl rfl (pa_cons (pv 1) (pa_cons (pe_op op_mod (pv 0) (pv 1)) pa_nil)) (by rfl))))
      (pss_one (ps_ret (pv 0))))), ?_⟩
    refine ⟨_, rfl, _, rfl, _, rfl, _, rfl, _, _, rfl, ?_⟩
    rw [if_neg (by omega), if_neg (by omega)]
    refine while_by (fun σ H' => H' = H ∧ ∃ x y : Int, σ = [some (.int x), some (.int y)] ∧ 0 ≤ x ∧ 0 ≤ y ∧ ∀ g, IsGcd g x y → IsGcd g a b)
      (fun σ _ => match σ with | [_, some (.int y)] => y.toNat | _ => 0) ⟨rfl, a, b, rfl, ha, hb, fun g h => h⟩ ?_ (fun σ H Q Q' m h => ?_)
    · rintro σ H' ⟨rfl, x, y, rfl, hx, hy, hg⟩
      refine ⟨_, rfl, _, _, rfl, rfl, _, rfl, ?_⟩
      refine iteD (fun e => ?_) (fun e => ?_)
      · have m0 := Int.emod_nonneg x (show y ≠ 0 by omega)
        have m1 := Int.emod_lt_of_pos x e
        refine ⟨_, rfl, _, rfl, _, rfl, _, _, rfl, rfl, e, _, _, rfl, ⟨rfl, y, x % y, rfl, hy, m0, fun g h => hg g (isGcd_step h)⟩, ?_⟩
        show (x % y).toNat < y.toNat
        omega
      · have : y = 0 := by omega
        subst this
        exact ⟨_, rfl, q x (hg x (isGcd_zero hx))⟩
    · obtain ⟨v, e, i, j, e1, e2, k, e3, z⟩ := h
      exact ⟨v, e, i, j, e1, e2, k, e3, m _ _ z⟩
end
end Ck

namespace Ck
open PySem PySem.Spec PyProof.Rows L2
theorem n_pr : ¬ (("pace" : Str) = "rate") := by decide +kernel
theorem n_ps : ¬ (("pace" : Str) = "shift") := by decide +kernel
theorem n_rs : ¬ (("rate" : Str) = "shift") := by decide +kernel
theorem flds3 (x y z : V) : putF "shift" z (putF "rate" y (putF "pace" x [])) = ([("pace", x), ("rate", y), ("shift", z)] : List (Str × V)) := by
  simp only [putF, if_neg n_pr, if_neg n_ps, if_neg n_rs]
theorem lk_p {x y z : V} : ([("pace", x), ("rate", y), ("shift", z)] : List (Str × V)).lookup ("pace" : Str) = some x := by
  rw [List.lookup_cons, show (("pace" : Str) == "pace") = true by decide +kernel]
theorem lk_r {x y z : V} : ([("pace", x), ("rate", y), ("shift", z)] : List (Str × V)).lookup ("rate" : Str) = some y := by
  rw [List.lookup_cons, show (("rate" : Str) == "pace") = false by decide +kernel]
  show List.lookup _ _ = _
  rw [List.lookup_cons, show (("rate" : Str) == "rate") = true by decide +kernel]
theorem lk_s {x y z : V} : ([("pace", x), ("rate", y), ("shift", z)] : List (Str × V)).lookup ("shift" : Str) = some z := by
  rw [List.lookup_cons, show (("shift" : Str) == "pace") = false by decide +kernel]
  show List.lookup _ _ = _
  rw [List.lookup_cons, show (("shift" : Str) == "rate") = false by decide +kernel]
  show List.lookup _ _ = _
  rw [List.lookup_cons, show (("shift" : Str) == "shift") = true by decide +kernel]
theorem lk_no {x y z : V} {m : Str} (h1 : (m == "pace") = false) (h2 : (m == "rate") = false) (h3 : (m == "shift") = false) : ([("pace", x), ("rate", y), ("shift", z)] : List (Str × V)).lookup m = none := by
  rw [List.lookup_cons, h1]
  show List.lookup _ _ = _
  rw [List.lookup_cons, h2]
  show List.lookup _ _ = _
  rw [List.lookup_cons, h3]
  rfl
theorem lk_rest {x y z : V} : ([("pace", x), ("rate", y), ("shift", z)] : List (Str × V)).lookup ("rest_at" : Str) = none := lk_no (by decide +kernel) (by decide +kernel) (by decide +kernel)
theorem lk_common {x y z : V} : ([("pace", x), ("rate", y), ("shift", z)] : List (Str × V)).lookup ("common" : Str) = none := lk_no (by decide +kernel) (by decide +kernel) (by decide +kernel)
theorem same_upd {H : Hp} {p : Addr} {o : HO} (h : H p = none) : Same H (upd H p o) := fun b x e => by
  rw [upd_ne (ne_of_none e h)]
  exact e
local macro_rules | `(tactic| walk_at "bd") => `(tactic| exact (show Bd _ from ⟨by omega, by omega⟩))
local macro_rules | `(tactic| walk_at "ck") => `(tactic| first
  | (refine ⟨_, rfl, ?_⟩)
  | (refine ⟨_, _, rfl, rfl, ?_⟩)
  | (refine ⟨mulB (by walk_at "bd") (by walk_at "bd"), ?_⟩)
  | (refine ⟨divB (by omega) (by walk_at "bd"), ?_⟩)
  | (refine ⟨_, _, _, _, _, rfl, by assumption, by assumption, by assumption, lk_p, ?_⟩)
  | (refine ⟨_, _, _, _, _, rfl, by assumption, by assumption, by assumption, lk_r, ?_⟩)
  | (refine ⟨_, _, _, _, _, rfl, by assumption, by assumption, by assumption, lk_s, ?_⟩)
  | (refine ⟨_, _, _, rfl, by assumption, lk_rest, ?_⟩)
  | (refine ⟨_, _, _, rfl, by assumption, lk_common, ?_⟩))
section
variable {P : Program} {w : World} {K : PySem.W.Frag} {mg : Str → Option Value} {base : Heap} {C : Addr}
/-! ### clocks -/
abbrev s_Clock___init__ : Stmt := inClass (topS 15) 0
abbrev N_Clock___init__ : List Str := ["self", "pace", "rate", "shift"]
theorem sc_Clock___init__ : FnScope N_Clock___init__ ["self", "pace", "rate", "shift"] (defScope s_Clock___init__) := ⟨rfl, rfl, rfl, by decide +kernel, rfl, by decide +kernel, by decide +kernel⟩
def sp_init (C : Addr) : Sp := fun vs H Q _ => ∃ (p dx : Addr) (a b c : Int), vs = [.ref p, .int a, .int b, .int c] ∧ H p = some (.ins C dx []) ∧ 1 ≤ a ∧ a ≤ 10 ^ 12 ∧ 1 ≤ b ∧ b ≤ 10 ^ 12 ∧ 0 ≤ c ∧ c ≤ 10 ^ 12 ∧
  ∀ H', (∀ q o, H q = some o → q ≠ p → H' q = some o) → Clk C H' p a b c → Q .non H'
theorem ok_init {f : Addr} {fd : FuncData} (F : Fun K "__init__" "Clock.__init__" s_Clock___init__ f fd) (T : Txt K mg C) (D_is_between : DefOk P w K mg base 2 "is_between" ["thing", "low", "high"] sp_is_between) : FnOk P w K mg base CX0 3 f fd ["self", "pace", "rate", "shift"] (sp_init C) := by
  refine F.ok sc_Clock___init__ (fun vs H Q E h => ?_) (fun cdv A outer s H vs Q E hr h => ?_)
  · obtain ⟨p, dx, a, b, c, rfl, _⟩ := h
    rfl
  · obtain ⟨p, dx, a, b, c, rfl, hp, h1, h2, h3, h4, h5, h6, q⟩ := h
    refine ⟨_, (pss_cons (ps_if (pt_not (pt_val (pcl D_is_between hr (pa_cons (pv 1) (pa_cons pe_int (pa_cons (pgi (by rfl) T.mg_MOST) pa_nil)))))) pss_never pss_nil)
      (pss_cons (ps_if (pt_not (pt_val (pcl D_is_between hr (pa_cons (pv 2) (pa_cons pe_int (pa_cons (pgi (by rfl) T.mg_MOST) pa_nil)))))) pss_never pss_nil)
      (pss_cons (ps_if (pt_not (pt_val (pcl D_is_between hr (pa_cons (pv 3) (pa_cons pe_int (pa_cons (pgi (by rfl) T.mg_MOST) pa_nil)))))) pss_never pss_nil)
      (pss_cons (ps_fld (pv 0) (pv 1) rfl)
      (pss_cons (ps_fld (pv 0) (pv 2) rfl)
      (pss_one (ps_fld (pv 0) (pv 3) rfl))))))), ?_⟩
    refine ⟨_, rfl, a, 1, _, true, rfl, yes ⟨h1, h2⟩, _, rfl, iteF ?_⟩
    refine ⟨_, rfl, b, 1, _, true, rfl, yes ⟨h3, h4⟩, _, rfl, iteF ?_⟩
    refine ⟨_, rfl, c, 0, _, true, rfl, yes ⟨h5, h6⟩, _, rfl, iteF ?_⟩
    refine ⟨_, rfl, _, rfl, p, C, dx, [], rfl, hp, T.cl, T.nP, (by decide), ?_⟩
    refine ⟨_, rfl, _, rfl, p, C, dx, _, rfl, upd_same, T.cl, T.nR, (by show 1 < 1000; decide), ?_⟩
    refine ⟨_, rfl, _, rfl, p, C, dx, _, rfl, upd_same, T.cl, T.nS, (by simp only [putF, if_neg n_pr]; show 2 < 1000; decide), ?_⟩
    rw [flds3, upd_upd, upd_upd]
    exact q _ (fun y o e ne => by rw [upd_ne ne]; exact e) ⟨dx, upd_same⟩
abbrev s_Clock_rest_at : Stmt := inClass (topS 15) 3
abbrev N_Clock_rest_at : List Str := ["self", "n"]
theorem sc_Clock_rest_at : FnScope N_Clock_rest_at ["self", "n"] (defScope s_Clock_rest_at) := ⟨rfl, rfl, rfl, by decide +kernel, rfl, by decide +kernel, by decide +kernel⟩
def sp_rest (C : Addr) : Sp := fun vs H Q _ => ∃ (p : Addr) (n a b c : Int), vs = [.ref p, .int n] ∧ Clk C H p a b c ∧ Bd n ∧ Bd a ∧ 0 < b ∧ Q (.int ((n * a + c) % b)) H
theorem ok_rest {f : Addr} {fd : FuncData} (F : Fun K "rest_at" "Clock.rest_at" s_Clock_rest_at f fd) (T : Txt K mg C) : FnOk P w K mg base CX0 1 f fd ["self", "n"] (sp_rest C) := by
  refine F.ok sc_Clock_rest_at (fun vs H Q E h => ?_) (fun cdv A outer s H vs Q E hr h => ?_)
  · obtain ⟨p, n, a, b, c, rfl, _⟩ := h
    rfl
  · obtain ⟨p, n, a, b, c, rfl, ⟨dx, hp⟩, h1, h2, h3, q⟩ := h
    have := T.cl
    have := T.nP
    have := T.nR
    have := T.nS
    refine ⟨_, (pss_one (ps_ret (pe_op op_mod (pe_op op_add (pe_op op_mulW (pv 1) (pe_fld (pv 0) rfl)) (pe_fld (pv 0) rfl)) (pe_fld (pv 0) rfl)))), ?_⟩
    walk_at "ck"
    walk_at "ck"
    walk_at "ck"
    walk_at "ck"
    refine ⟨mulB h1 h2, ?_⟩
    walk_at "ck"
    walk_at "ck"
    walk_at "ck"
    walk_at "ck"
    walk_at "ck"
    walk_at "ck"
    exact ⟨h3, q⟩
abbrev s_Clock_common : Stmt := inClass (topS 15) 4
abbrev N_Clock_common : List Str := ["self"]
theorem sc_Clock_common : FnScope N_Clock_common ["self"] (defScope s_Clock_common) := ⟨rfl, rfl, rfl, by decide +kernel, rfl, by decide +kernel, by decide +kernel⟩
def sp_common (C : Addr) : Sp := fun vs H Q _ => ∃ (p : Addr) (a b c : Int), vs = [.ref p] ∧ Clk C H p a b c ∧ 0 ≤ a ∧ 0 ≤ b ∧ ∀ g, IsGcd g a b → Q (.int g) H
theorem ok_common {f : Addr} {fd : FuncData} (F : Fun K "common" "Clock.common" s_Clock_common f fd) (T : Txt K mg C) (D_divisor : DefOk P w K mg base 1 "divisor" ["one", "other"] sp_divisor) : FnOk P w K mg base CX0 2 f fd ["self"] (sp_common C) := by
  refine F.ok sc_Clock_common (fun vs H Q E h => ?_) (fun cdv A outer s H vs Q E hr h => ?_)
  · obtain ⟨p, a, b, c, rfl, _⟩ := h
    rfl
  · obtain ⟨p, a, b, c, rfl, ⟨dx, hp⟩, h1, h2, q⟩ := h
    have := T.cl
    have := T.nP
    have := T.nR
    refine ⟨_, (pss_one (ps_ret (pcl D_divisor hr (pa_cons (pe_fld (pv 0) rfl) (pa_cons (pe_fld (pv 0) rfl) pa_nil))))), ?_⟩
    repeat walk_at "ck"
    exact ⟨a, b, rfl, h1, h2, q⟩
abbrev s_need_clock : Stmt := topS 16
abbrev N_need_clock : List Str := ["clock"]
theorem sc_need_clock : FnScope N_need_clock ["clock"] (defScope s_need_clock) := ⟨rfl, rfl, rfl, by decide +kernel, rfl, by decide +kernel, by decide +kernel⟩
def sp_need_clock (C : Addr) : Sp := fun vs H Q _ => ∃ (p : Addr) (a b c : Int), vs = [.ref p] ∧ Clk C H p a b c ∧ Q .non H
theorem ok_need_clock {f : Addr} {fd : FuncData} (F : Fun K "need_clock" "need_clock" s_need_clock f fd) (T : Txt K mg C) (B : Bn mg) : FnOk P w K mg base CX0 1 f fd ["clock"] (sp_need_clock C) := by
  refine F.ok sc_need_clock (fun vs H Q E h => ?_) (fun cdv A outer s H vs Q E hr h => ?_)
  · obtain ⟨p, a, b, c, rfl, _⟩ := h
    rfl
  · obtain ⟨p, a, b, c, rfl, ⟨dx, hp⟩, q⟩ := h
    let C_Clock := C
    refine ⟨_, (pss_one (ps_if (pt_not (pt_val (pe_callB call_isi (by rfl) B.isinstance bo_isinstance (pa_cons (pv 0) (pa_cons (pe_glob (v := .ref C_Clock) (by rfl) T.mg_Clock rfl) pa_nil))))) pss_never pss_nil)), ?_⟩
    refine ⟨_, rfl, _, _, _, _, true, rfl, .own C, .base (.ins hp T.cl T.ha T.hn T.htk T.hm), T.kc, _, rfl, ?_⟩
    exact iteF q
abbrev s_need_number : Stmt := topS 17
abbrev N_need_number : List Str := ["thing", "most", "part"]
theorem sc_need_number : FnScope N_need_number ["thing", "most", "part"] (defScope s_need_number) := ⟨rfl, rfl, rfl, by decide +kernel, rfl, by decide +kernel, by decide +kernel⟩
def sp_need_number : Sp := fun vs H Q _ => ∃ (x m : Int) (z : V), vs = [.int x, .int m, z] ∧ 0 ≤ x ∧ x ≤ m ∧ Q .non H
theorem ok_need_number {f : Addr} {fd : FuncData} (F : Fun K "need_number" "need_number" s_need_number f fd) (D_is_between : DefOk P w K mg base 2 "is_between" ["thing", "low", "high"] sp_is_between) : FnOk P w K mg base CX0 3 f fd ["thing", "most", "part"] sp_need_number := by
  refine F.ok sc_need_number (fun vs H Q E h => ?_) (fun cdv A outer s H vs Q E hr h => ?_)
  · obtain ⟨x, m, z, rfl, _⟩ := h
    rfl
  · obtain ⟨x, m, z, rfl, h1, h2, q⟩ := h
    refine ⟨_, (pss_one (ps_if (pt_not (pt_val (pcl D_is_between hr (pa_cons (pv 0) (pa_cons pe_int (pa_cons (pv 1) pa_nil)))))) pss_never pss_nil)), ?_⟩
    exact ⟨_, rfl, _, rfl, x, 0, m, true, rfl, yes ⟨h1, h2⟩, _, rfl, iteF q⟩
abbrev s_need_range : Stmt := topS 18
abbrev N_need_range : List Str := ["clock", "low", "high"]
theorem sc_need_range : FnScope N_need_range ["clock", "low", "high"] (defScope s_need_range) := ⟨rfl, rfl, rfl, by decide +kernel, rfl, by decide +kernel, by decide +kernel⟩
def sp_need_range (C : Addr) : Sp := fun vs H Q _ => ∃ (p : Addr) (a b c lo hi : Int), vs = [.ref p, .int lo, .int hi] ∧ Clk C H p a b c ∧ 0 ≤ lo ∧ lo ≤ hi ∧ hi < b ∧ Q .non H
theorem ok_need_range {f : Addr} {fd : FuncData} (F : Fun K "need_range" "need_range" s_need_range f fd) (T : Txt K mg C) (D_need_clock : DefOk P w K mg base 1 "need_clock" ["clock"] (sp_need_clock C))
    (D_is_between : DefOk P w K mg base 2 "is_between" ["thing", "low", "high"] sp_is_between) : FnOk P w K mg base CX0 3 f fd ["clock", "low", "high"] (sp_need_range C) := by
  refine F.ok sc_need_range (fun vs H Q E h => ?_) (fun cdv A outer s H vs Q E hr h => ?_)
  · obtain ⟨p, a, b, c, lo, hi, rfl, _⟩ := h
    rfl
  · obtain ⟨p, a, b, c, lo, hi, rfl, ⟨dx, hp⟩, h1, h2, h3, q⟩ := h
    have := T.cl
    have := T.nR
    refine ⟨_, (pss_cons (ps_expr (pcl D_need_clock hr (pa_cons (pv 0) pa_nil)))
      (pss_one (ps_if (PW.pt (pw_or (pt_not (pt_val (pcl D_is_between hr (pa_cons (pv 1) (pa_cons pe_int (pa_cons (pe_op op_sub (pe_fld (pv 0) rfl) pe_int) pa_nil)))))) (pw_or1 (pt_not (pt_val (pcl D_is_between hr (pa_cons (pv 2) (pa_cons (pv 1) (pa_cons (pe_op op_sub (pe_fld (pv 0) rfl) pe_int) pa_nil))))))))) pss_never pss_nil))), ?_⟩
    refine ⟨_, rfl, p, a, b, c, rfl, ⟨dx, hp⟩, ?_⟩
    walk_at "ck"
    walk_at "ck"
    walk_at "ck"
    walk_at "ck"
    refine ⟨lo, 0, b - 1, true, rfl, yes ⟨h1, by omega⟩, _, rfl, iteF ?_⟩
    walk_at "ck"
    walk_at "ck"
    walk_at "ck"
    walk_at "ck"
    walk_at "ck"
    exact ⟨hi, lo, b - 1, true, rfl, yes ⟨h2, by omega⟩, _, rfl, iteF q⟩
/-! ### the first multiple in a range -/
abbrev s_first_multiple : Stmt := topS 19
abbrev N_first_multiple : List Str := ["pace", "rate", "low", "high", "turned", "found", "many", "step", "whole", "least"]
theorem sc_first_multiple : FnScope N_first_multiple ["pace", "rate", "low", "high"] (defScope s_first_multiple) := ⟨rfl, rfl, rfl, by decide +kernel, rfl, by decide +kernel, by decide +kernel⟩
/-- the tuples of the way down, each at its place -/
def Tps (H : Hp) (zs : List (Addr × (Int × Int × Int))) : Prop := ∀ z ∈ zs, H z.1 = some (.tup [.int z.2.1, .int z.2.2.1, .int z.2.2.2])
theorem Tps.same {H H' : Hp} {zs : List (Addr × (Int × Int × Int))} (h : Tps H zs) (s : Same H H') : Tps H' zs := fun z m => s _ _ (h z m)
def sp_first_multiple : Sp := fun vs H Q _ => ∃ p r l h : Int, vs = [.int p, .int r, .int l, .int h] ∧ 1 ≤ l ∧ l ≤ h ∧ h < r ∧ r ≤ 10 ^ 13 ∧ Bd p ∧ ∀ H' o, Same H H' → First p r l h o → Q (optV o) H'
/-- the way down: m falls; either no one is found yet, or the last one is -/
def fmW (p0 r0 l0 h0 : Int) (H0 : Hp) (t : Addr) (m : Nat) (σ : L2.St) (H' : Hp) : Prop := Same H0 H' ∧ ∃ (zs : List (Addr × (Int × Int × Int))) (x6 : Option V), H' t = some (.lst (zs.map fun z => .ref z.1)) ∧ Tps H' zs ∧
        ((∃ p r l h : Int, σ = [some (.int p), some (.int r), some (.int l), some (.int h), some (.ref t), some .non, x6, none, none, none] ∧ Lv p0 r0 l0 h0 (zs.map (·.2)) p r l h ∧ Bd p ∧ m = r.toNat + 1) ∨
         (∃ (y0 y1 y2 y3 : Option V) (n p r l h : Int), σ = [y0, y1, y2, y3, some (.ref t), some (.int n), x6, none, none, none] ∧ Lv p0 r0 l0 h0 (zs.map (·.2)) p r l h ∧ First p r l h (some n) ∧ m = 0))
theorem ok_first_multiple {f : Addr} {fd : FuncData} (F : Fun K "first_multiple" "first_multiple" s_first_multiple f fd) (B : Bn mg) : FnOk P w K mg base CX0 1 f fd ["pace", "rate", "low", "high"] sp_first_multiple := by
  refine F.ok sc_first_multiple (fun vs H Q E h => ?_) (fun cdv A outer s H vs Q E hr h => ?_)
  · obtain ⟨p, r, l, h, rfl, _⟩ := h
    rfl
  · obtain ⟨p0, r0, l0, h0, rfl, b1, b2, b3, b4, b5, q⟩ := h
    refine ⟨_, (pss_cons (ps_par (i := 4) (j := 5) rfl sc_first_multiple.nd rfl rfl (by decide) rfl rfl (pa_cons (pe_lst pa_nil) (pa_cons pe_non pa_nil)) (by rfl))
      (pss_cons (ps_while PassesOwn.never (pt_cmpR op_isN (pv 5) pe_non (nomark _)) (pss_cons (ps_set (i := 0) sc_first_multiple.nd rfl (.inl rfl) (pe_op op_mod (pv 0) (pv 1)))
      (pss_cons (ps_if (pt_cmpR op_eq (pv 0) pe_int (nomark _)) (pss_one (ps_ret pe_non)) pss_nil)
      (Evl.pss_cut (ps_if (pt_cmpR op_gt (pe_op op_mulW pe_int (pv 0)) (pv 1) (nomark _)) (pss_one (ps_par3 (i := 0) (j := 2) (l := 3) rfl sc_first_multiple.nd rfl rfl rfl (by decide) (by decide) (by decide) rfl rfl rfl (pa_cons (pe_op op_sub (pv 1) (pv 0)) (pa_cons (pe_op op_sub (pv 1) (pv 3)) (pa_cons (pe_op op_sub (pv 1) (pv 2)) pa_nil))) (by rfl))) pss_nil)
      (pss_cons (ps_set (i := 6) sc_first_multiple.nd rfl (.inl rfl) (pe_op op_fdivW (pe_op op_sub (pe_op op_add (pv 2) (pv 0)) pe_int) (pv 0)))
      (pss_one (ps_if (pt_cmpR op_le (pe_op op_mulW (pv 6) (pv 0)) (pv 3) (nomark _)) (pss_one (ps_set (i := 5) sc_first_multiple.nd rfl (.inl rfl) (pv 6))) (pss_cons (ps_expr (pe_bm PySem.F.plainAttrs_list PySem.F.slot_list_append PySem.F.type_list_append mt_append (pv 4) (pa_cons (pe_tup (pa_cons (pv 0) (pa_cons (pv 1) (pa_cons (pv 2) pa_nil)))) pa_nil)))
      (pss_one (ps_asg (pe_tup (pa_cons (pe_un un_neg (pv 1)) (pa_cons (pv 0) (pa_cons (pe_op op_mod (pv 2) (pv 0)) (pa_cons (pe_op op_mod (pv 3) (pv 0)) pa_nil))))) (pg_tup rfl (pgs_cons (pg_name (i := 0) sc_first_multiple.nd rfl (.inl rfl)) (pgs_cons (pg_name (i := 1) sc_first_multiple.nd rfl (.inl rfl)) (pgs_cons (pg_name (i := 2) sc_first_multiple.nd rfl (.inl rfl)) (pgs_cons (pg_name (i := 3) sc_first_multiple.nd rfl (.inl rfl)) pgs_nil)))))))))))))))
      (pss_cons (ps_for PassesOwn.never rfl (pi_reversed (by rfl) B.reversed (pa_cons (pv 4) pa_nil)) (pg_tup rfl (pgs_cons (pg_name (i := 7) sc_first_multiple.nd rfl (.inl rfl)) (pgs_cons (pg_name (i := 8) sc_first_multiple.nd rfl (.inl rfl)) (pgs_cons (pg_name (i := 9) sc_first_multiple.nd rfl (.inl rfl)) pgs_nil)))) (pss_one (ps_set (i := 5) sc_first_multiple.nd rfl (.inl rfl) (pe_op op_fdivW (pe_op op_sub (pe_op op_add (pe_op op_add (pv 9) (pe_op op_mulW (pv 8) (pv 5))) (pv 7)) pe_int) (pv 7)))))
      (pss_one (ps_ret (pv 5)))))), ?_⟩
    refine ⟨Nat.zero_le _, fun t nt => ?_⟩
    refine ⟨_, _, rfl, ?_⟩
    have s0 : Same H (upd H t (.lst [])) := same_upd nt
    refine ⟨fmW p0 r0 l0 h0 H t, ⟨r0.toNat + 1, s0, [], none, upd_same, (fun z m => nomatch m), .inl ⟨p0, r0, l0, h0, rfl, .nil b1 b2 b3, b5, rfl⟩⟩, ?_⟩
    rintro m σ H1 ⟨s1, zs, x6, et, tz, ⟨p, r, l, h, rfl, L1, bp, rfl⟩ | ⟨y0, y1, y2, y3, n, p, r, l, h, rfl, L1, f1, rfl⟩⟩
    · -- one level down
      obtain ⟨c1, c2, c3, c4⟩ := L1.ok
      refine ⟨_, rfl, rfl, _, rfl, iteT ?_⟩
      refine ⟨fun σ' H' => ∃ m', m' < r.toNat + 1 ∧ fmW p0 r0 l0 h0 H t m' σ' H', fun _ _ h => h, ?_⟩
      refine ⟨_, rfl, _, rfl, _, _, rfl, rfl, (by omega), ?_⟩
      refine ⟨_, rfl, rfl, _, rfl, ?_⟩
      by_cases e0 : p % r = 0
      · refine ite2 (fun _ => ?_) (fun z => absurd (decide_eq_true (congrArg V.int e0)) z)
        exact q _ none s1 (L1.none (first_mod (by rw [e0]; exact first_none rfl c1)))
      · refine ite2 (fun z => absurd (V.int.inj (of_decide_eq_true z)) e0) (fun _ => ?_)
        obtain ⟨⟨g1, g2⟩, g3, g4⟩ := level c1 c2 c3 e0
        refine ⟨fun σ' H' => H' = H1 ∧ ∃ s l1 h1 : Int, σ' = [some (.int s), some (.int r), some (.int l1), some (.int h1), some (.ref t), some .non, x6, none, none, none] ∧ 0 < s ∧ 2 * s ≤ r ∧ 1 ≤ l1 ∧ l1 ≤ h1 ∧ h1 < r ∧ (∀ o, First s r l1 h1 o → First p r l h o), ?_, ?_⟩
        · -- turned about or not
          refine ⟨_, rfl, _, _, rfl, rfl, mulB ⟨by omega, by omega⟩ ⟨by omega, by omega⟩, ?_⟩
          refine ⟨_, rfl, _, _, rfl, rfl, _, rfl, iteD (fun e => ?_) (fun e => ?_)⟩
          · obtain ⟨k1, k2, k3, k4, k5, k6⟩ := g3 e
            refine ⟨_, rfl, _, rfl, _, _, rfl, rfl, _, rfl, _, rfl, _, _, rfl, rfl, _, rfl, _, rfl, _, _, rfl, rfl, _, _, _, rfl, ?_⟩
            exact ⟨rfl, _, _, _, rfl, k4, by omega, k1, k2, k3, k6⟩
          · exact ⟨rfl, _, _, _, rfl, g1, by omega, c1, c2, c3, g4⟩
        · rintro σ' H' ⟨rfl, s, l1, h1, rfl, k1, k2, k3, k4, k5, k6⟩
          refine ⟨_, rfl, _, rfl, _, _, rfl, rfl, _, _, rfl, rfl, _, rfl, _, _, rfl, rfl, divB k1 ⟨by omega, by omega⟩, ?_⟩
          have d1 : 0 ≤ (l1 + s - 1) / s := Int.ediv_nonneg (by omega) (by omega)
          have d2 : (l1 + s - 1) / s ≤ l1 + s - 1 := Int.ediv_le_self _ (by omega)
          refine ⟨_, rfl, _, rfl, _, _, rfl, rfl, mulB ⟨by omega, by omega⟩ ⟨by omega, by omega⟩, ?_⟩
          refine ⟨_, rfl, _, _, rfl, rfl, _, rfl, iteD (fun e => ?_) (fun e => ?_)⟩
          · -- found
            refine ⟨_, rfl, 0, by omega, s1, zs, _, et, tz, .inr ⟨_, _, _, _, _, p, r, l, h, rfl, L1, k6 _ (first_hit k1 k3 k5 e), rfl⟩⟩
          · -- one more entry
            have few := L1.few (by omega)
            rw [List.length_map] at few
            refine ⟨_, rfl, .inl ⟨rfl, _, .inl (.inl et)⟩, _, rfl, _, rfl, _, rfl, (by show 3 ≤ sizeLine; decide), fun y ny => ?_⟩
            have sy : Same H' (upd H' y (.tup [.int s, .int r, .int l1])) := same_upd ny
            have ty : t ≠ y := ne_of_none et ny
            refine ⟨t, _, _, rfl, rfl, sy _ _ et, (by rw [List.length_map]; exact small1000 (by omega)), ?_⟩
            refine ⟨_, rfl, _, rfl, _, rfl, _, rfl, _, rfl, _, _, rfl, rfl, k1, _, rfl, _, rfl, _, _, rfl, rfl, k1, (by show 4 ≤ sizeLine; decide), fun z nz => ?_⟩
            refine ⟨z, _, rfl, .inl (.inl upd_same), rfl, _, _, rfl, _, _, rfl, _, _, rfl, _, _, rfl, rfl, ?_⟩
            have zt : t ≠ z := ne_of_none upd_same nz
            have zy : y ≠ z := ne_of_none (by rw [upd_ne ty.symm]; exact upd_same) nz
            refine ⟨s.toNat + 1, by omega, fun b o e' => ?_, zs ++ [(y, (s, r, l1))], some (.int ((l1 + s - 1) / s)), ?_, fun x hx => ?_, .inl ⟨_, _, _, _, rfl, ?_, ⟨by omega, by omega⟩, rfl⟩⟩
            · have h1 := s1 _ _ e'
              have h2 : b ≠ t := fun z => by rw [z, nt] at e'; cases e'
              rw [upd_ne (ne_of_none (by rw [upd_ne h2]; exact sy _ _ h1) nz), upd_ne h2]
              exact sy _ _ h1
            · rw [upd_ne zt, upd_same, List.map_append]
              rfl
            · rcases List.mem_append.mp hx with hx | hx
              · have h1 := tz x hx
                have h2 : x.1 ≠ t := ne_of h1 et (by intro z; cases z)
                rw [upd_ne (ne_of_none (by rw [upd_ne h2]; exact sy _ _ h1) nz), upd_ne h2]
                exact sy _ _ h1
              · rw [List.mem_singleton.mp hx]
                rw [upd_ne zy, upd_ne ty.symm, upd_same]
            · rw [List.map_append]
              exact L1.down k1 k2 k3 k4 k5 k6 e
    · -- back up
      refine ⟨_, rfl, rfl, _, rfl, iteF ?_⟩
      refine ⟨_, rfl, t, _, rfl, .inl (.inl et), ?_⟩
      refine RT.for_Itv (K := K) (fun i σ H' => H' = H1 ∧ ∃ (f : Int) (x7 x8 x9 : Option V) (p r l h : Int), σ = [y0, y1, y2, y3, some (.ref t), some (.int f), x6, x7, x8, x9] ∧ i ≤ zs.length ∧
          Lv p0 r0 l0 h0 ((zs.take (zs.length - i)).map (·.2)) p r l h ∧ First p r l h (some f))
          ⟨rfl, n, none, none, none, p, r, l, h, rfl, Nat.zero_le _, by rw [Nat.sub_zero, List.take_length]; exact L1, f1⟩ ?_ ?_ ?_
      · rintro i σ H' ⟨rfl, _⟩
        exact .inl (.inl et)
      · rintro i x σ H' hi hx ⟨rfl, f, x7, x8, x9, p, r, l, h, rfl, hil, L2, f2⟩
        rw [List.length_map] at hi hx
        rw [List.getElem?_map] at hx
        obtain ⟨z, hz, rfl⟩ := Option.map_eq_some_iff.mp hx
        have hz' := (List.getElem?_eq_some_iff.mp hz)
        obtain ⟨hlt, hget⟩ := hz'
        have et2 : zs.take (zs.length - i) = zs.take (zs.length - (i + 1)) ++ [z] := by
          have e1 : zs.length - i = zs.length - 1 - i + 1 := by omega
          have e2 : zs.length - (i + 1) = zs.length - 1 - i := by omega
          rw [e1, e2, List.take_add_one, hz]
          rfl
        rw [et2, List.map_append] at L2
        obtain ⟨a1, a2, a3, a4, a5, a6, a7, p', r', l', h', L3, f3⟩ := L2.back f2
        dsimp only at a1 a2 a3 a4 a5 a7 f3
        refine ⟨z.1, _, rfl, .inl (.inl (tz z (List.mem_of_getElem? hz))), rfl, _, _, rfl, _, _, rfl, _, _, rfl, rfl, ?_⟩
        refine ⟨_, rfl, _, rfl, _, rfl, _, _, rfl, rfl, mulB ⟨by omega, by omega⟩ ⟨by omega, by omega⟩, _, _, rfl, rfl, _, rfl, _, _, rfl, rfl, _, _, rfl, rfl, _, rfl, _, _, rfl, rfl, divB a1 ⟨by omega, by omega⟩, ?_⟩
        exact ⟨rfl, _, _, _, _, p', r', l', h', rfl, by omega, L3, f3⟩
      · rintro σ H' ⟨rfl, f, x7, x8, x9, p, r, l, h, rfl, hil, L2, f2⟩
        rw [List.length_map, Nat.sub_self, List.take_zero] at L2
        exact ⟨_, rfl, q _ (some f) s1 (L2.end_ rfl f2)⟩
end
end Ck

namespace Ck
open PySem PySem.Spec PyProof.Rows L2
section
variable {P : Program} {w : World} {K : PySem.W.Frag} {mg : Str → Option Value} {base : Heap} {C : Addr}
/-- numbers of a clock -/
structure CkB (a b c : Int) : Prop where
  a1 : 1 ≤ a
  a2 : a ≤ 10 ^ 12
  b1 : 1 ≤ b
  b2 : b ≤ 10 ^ 12
  c1 : 0 ≤ c
  c2 : c ≤ 10 ^ 12
abbrev s_first_at : Stmt := topS 20
abbrev N_first_at : List Str := ["clock", "low", "high", "begin"]
theorem sc_first_at : FnScope N_first_at ["clock", "low", "high"] (defScope s_first_at) := ⟨rfl, rfl, rfl, by decide +kernel, rfl, by decide +kernel, by decide +kernel⟩
def sp_first_at (C : Addr) : Sp := fun vs H Q _ => ∃ (p : Addr) (a b c lo hi : Int), vs = [.ref p, .int lo, .int hi] ∧ Clk C H p a b c ∧ CkB a b c ∧ 0 ≤ lo ∧ lo ≤ hi ∧ hi < b ∧ ∀ H' o, Same H H' → FirstIn a b c lo hi o → Q (optV o) H'
theorem ok_first_at {f : Addr} {fd : FuncData} (F : Fun K "first_at" "first_at" s_first_at f fd) (T : Txt K mg C) (D_rest_at : MethOk P w K mg base C 1 "rest_at" ["self", "n"] (sp_rest C))
    (D_first_multiple : DefOk P w K mg base 1 "first_multiple" ["pace", "rate", "low", "high"] sp_first_multiple) : FnOk P w K mg base CX0 2 f fd ["clock", "low", "high"] (sp_first_at C) := by
  refine F.ok sc_first_at (fun vs H Q E h => ?_) (fun cdv A outer s H vs Q E hr h => ?_)
  · obtain ⟨p, a, b, c, lo, hi, rfl, _⟩ := h
    rfl
  · obtain ⟨p, a, b, c, lo, hi, rfl, ⟨dx, hp⟩, N, h1, h2, h3, q⟩ := h
    obtain ⟨n1, n2, n3, n4, n5, n6⟩ := N
    have e0 : (0 * a + c) % b = c % b := by rw [Int.zero_mul, Int.zero_add]
    have r0 := Int.emod_nonneg c (show b ≠ 0 by omega)
    have r1 := Int.emod_lt_of_pos c (show 0 < b by omega)
    refine ⟨_, (pss_cons (ps_set (i := 3) sc_first_at.nd rfl (.inl rfl) (pml D_rest_at T.cl (pv 0) hr (pa_cons pe_int pa_nil)))
      (pss_cons (ps_if (pt_chain op_le op_le (pv 1) (pv 3) (pv 2)) (pss_one (ps_ret pe_int)) pss_nil)
      (pss_one (ps_ret (pcl D_first_multiple hr (pa_cons (pe_fld (pv 0) rfl) (pa_cons (pe_fld (pv 0) rfl) (pa_cons (pe_op op_mod (pe_op op_sub (pv 1) (pv 3)) (pe_fld (pv 0) rfl)) (pa_cons (pe_op op_mod (pe_op op_sub (pv 2) (pv 3)) (pe_fld (pv 0) rfl)) pa_nil))))))))), ?_⟩
    refine ⟨_, rfl, p, dx, _, rfl, hp, lk_rest, p, 0, a, b, c, rfl, ⟨dx, hp⟩, ⟨by omega, by omega⟩, ⟨by omega, by omega⟩, by omega, ?_⟩
    rw [e0]
    have go : ¬ (lo ≤ c % b ∧ c % b ≤ hi) → (tRet (tCall sp_first_multiple [] E0 (tCons (tFld K (tVar 0) "pace") (tCons (tFld K (tVar 0) "rate") (tCons (tOp (rI (fun _ j => 0 < j) fun i j => .int (i % j)) (tOp (rI0 fun i j => .int (i - j)) (tVar 1) (tVar 3)) (tFld K (tVar 0) "rate")) (tCons (tOp (rI (fun _ j => 0 < j) fun i j => .int (i % j)) (tOp (rI0 fun i j => .int (i - j)) (tVar 2) (tVar 3)) (tFld K (tVar 0) "rate")) tNil)))))) { nx := fun _ H' => Q .non H', rt := Q } [some (.ref p), some (.int lo), some (.int hi), some (.int (c % b))] H := fun hn => by
      obtain ⟨t1, t2, t3⟩ := range_turned (show 0 < b by omega) h1 h2 h3 r0 r1 hn
      refine ⟨_, rfl, p, C, dx, _, _, rfl, hp, T.cl, T.nP, lk_p, ?_⟩
      refine ⟨_, rfl, p, C, dx, _, _, rfl, hp, T.cl, T.nR, lk_r, ?_⟩
      refine ⟨_, rfl, _, rfl, _, _, rfl, rfl, _, rfl, p, C, dx, _, _, rfl, hp, T.cl, T.nR, lk_r, _, _, rfl, rfl, by omega, ?_⟩
      refine ⟨_, rfl, _, rfl, _, _, rfl, rfl, _, rfl, p, C, dx, _, _, rfl, hp, T.cl, T.nR, lk_r, _, _, rfl, rfl, by omega, ?_⟩
      exact ⟨a, b, _, _, rfl, t1, t2, t3, by omega, ⟨by omega, by omega⟩, fun H' o s1 f => q H' o s1 (firstIn_of (by omega) h1 h2 h3 hn f)⟩
    refine ⟨_, rfl, _, rfl, _, _, rfl, rfl, _, rfl, ?_⟩
    refine iteD (fun e1 => ?_) (fun e1 => ?_)
    · refine ⟨_, rfl, _, _, rfl, rfl, _, rfl, iteD (fun e2 => ?_) (fun e2 => ?_)⟩
      · exact q H (some 0) (Same.refl H) (firstIn_zero ⟨e1, e2⟩)
      · exact go fun z => e2 z.2
    · exact ⟨_, rfl, go fun z => e1 z.1⟩
abbrev s_first_in : Stmt := topS 21
abbrev N_first_in : List Str := ["clock", "low", "high"]
theorem sc_first_in : FnScope N_first_in ["clock", "low", "high"] (defScope s_first_in) := ⟨rfl, rfl, rfl, by decide +kernel, rfl, by decide +kernel, by decide +kernel⟩
theorem ok_first_in {f : Addr} {fd : FuncData} (F : Fun K "first_in" "first_in" s_first_in f fd) (D_need_range : DefOk P w K mg base 3 "need_range" ["clock", "low", "high"] (sp_need_range C)) (D_first_at : DefOk P w K mg base 2 "first_at" ["clock", "low", "high"] (sp_first_at C)) :
    FnOk P w K mg base CX0 4 f fd ["clock", "low", "high"] (sp_first_at C) := by
  refine F.ok sc_first_in (fun vs H Q E h => ?_) (fun cdv A outer s H vs Q E hr h => ?_)
  · obtain ⟨p, a, b, c, lo, hi, rfl, _⟩ := h
    rfl
  · obtain ⟨p, a, b, c, lo, hi, rfl, hp, N, h1, h2, h3, q⟩ := h
    refine ⟨_, (pss_cons (ps_expr (pcl D_need_range hr (pa_cons (pv 0) (pa_cons (pv 1) (pa_cons (pv 2) pa_nil)))))
      (pss_one (ps_ret (pcl D_first_at hr (pa_cons (pv 0) (pa_cons (pv 1) (pa_cons (pv 2) pa_nil))))))), ?_⟩
    exact ⟨_, rfl, _, rfl, _, rfl, p, a, b, c, lo, hi, rfl, hp, h1, h2, h3, _, rfl, _, rfl, _, rfl, p, a, b, c, lo, hi, rfl, hp, N, h1, h2, h3, q⟩
abbrev s_steps_to : Stmt := topS 22
abbrev N_steps_to : List Str := ["up", "down", "many"]
theorem sc_steps_to : FnScope N_steps_to ["up", "down", "many"] (defScope s_steps_to) := ⟨rfl, rfl, rfl, by decide +kernel, rfl, by decide +kernel, by decide +kernel⟩
def sp_steps_to : Sp := fun vs H Q _ => ∃ (up down many : Int), vs = [.int up, .int down, .int many] ∧ 0 < down ∧ Bd down ∧ Q (.int (min many ((up - 1) / down))) H
theorem ok_steps_to {f : Addr} {fd : FuncData} (F : Fun K "steps_to" "steps_to" s_steps_to f fd) (B : Bn mg) : FnOk P w K mg base CX0 1 f fd ["up", "down", "many"] sp_steps_to := by
  refine F.ok sc_steps_to (fun vs H Q E h => ?_) (fun cdv A outer s H vs Q E hr h => ?_)
  · obtain ⟨u, d, m, rfl, _⟩ := h
    rfl
  · obtain ⟨u, d, m, rfl, h1, h2, q⟩ := h
    refine ⟨_, (pss_one (ps_ret (pe_callB (call_min2 rfl) (by rfl) B.min bo_min (pa_cons (pv 2) (pa_cons (pe_op op_fdivW (pe_op op_sub (pv 0) pe_int) (pv 1)) pa_nil))))), ?_⟩
    refine ⟨_, rfl, _, rfl, _, _, rfl, rfl, _, rfl, _, _, rfl, rfl, divB h1 h2, _, _, rfl, ?_⟩
    have : (if (u - 1) / d < m then (u - 1) / d else m) = min m ((u - 1) / d) := by split <;> omega
    rw [this]
    exact q
abbrev s_nearest_of : Stmt := topS 23
abbrev N_nearest_of : List Str := ["clock", "n", "k1", "d1", "k2", "d2", "many"]
theorem sc_nearest_of : FnScope N_nearest_of ["clock", "n"] (defScope s_nearest_of) := ⟨rfl, rfl, rfl, by decide +kernel, rfl, by decide +kernel, by decide +kernel⟩
def sp_nearest_of (C : Addr) : Sp := fun vs H Q _ => ∃ (p : Addr) (a b c lo hi n : Int), vs = [.ref p, .int n] ∧ Clk C H p a b c ∧ CkB a b c ∧ FirstIn a b c lo hi (some n) ∧ 1 ≤ n ∧
  ∀ H' y k1 d1 k2 d2, Same H H' → H' y = some (.tup [.int k1, .int d1, .int k2, .int d2]) → Near a b k1 d1 k2 d2 → n < k1 + k2 → k1 ≤ n → k2 ≤ n → Q (.ref y) H'
/-- within the bounds of the walk -/
theorem near_small {a b k1 d1 k2 d2 : Int} (N : Near a b k1 d1 k2 d2) : d1 < b ∧ d2 < b ∨ d1 ≤ b ∧ d2 ≤ b := by
  have h1 := N.pk1
  have h2 := N.pk2
  have h3 := N.pd1
  have h4 := N.pd2
  have h5 := N.sum
  have a1 : d2 ≤ k1 * d2 := by
    have := Int.mul_le_mul_of_nonneg_right h1 (show 0 ≤ d2 by omega)
    omega
  have a2 : d1 ≤ k2 * d1 := by
    have := Int.mul_le_mul_of_nonneg_right h2 (show 0 ≤ d1 by omega)
    omega
  right
  omega
theorem step_pos {x y m n k1 k2 : Int} (hy : 1 ≤ y) (hlt : y < x) (h : k1 + k2 ≤ n) (h2 : 1 ≤ k2) (hm : m = min ((n - k1) / k2) ((x - 1) / y)) : 1 ≤ m ∧ m ≤ (x - 1) / y ∧ k1 + m * k2 ≤ n := by
  have e1 : 1 ≤ (n - k1) / k2 := one_le_div (by omega) (by omega)
  have e2 : 1 ≤ (x - 1) / y := one_le_div (by omega) (by omega)
  have e3 : m ≤ (n - k1) / k2 := by omega
  have e4 := (Int.le_ediv_iff_mul_le (show 0 < k2 by omega)).mp e3
  exact ⟨by omega, by omega, by omega⟩
theorem ok_nearest_of {f : Addr} {fd : FuncData} (F : Fun K "nearest_of" "nearest_of" s_nearest_of f fd) (T : Txt K mg C) (D_steps_to : DefOk P w K mg base 1 "steps_to" ["up", "down", "many"] sp_steps_to) : FnOk P w K mg base CX0 2 f fd ["clock", "n"] (sp_nearest_of C) := by
  refine F.ok sc_nearest_of (fun vs H Q E h => ?_) (fun cdv A outer s H vs Q E hr h => ?_)
  · obtain ⟨p, a, b, c, lo, hi, n, rfl, _⟩ := h
    rfl
  · obtain ⟨p, a, b, c, lo, hi, n, rfl, ⟨dx, hp⟩, N, f1, h1, q⟩ := h
    have N' := N
    obtain ⟨n1, n2, n3, n4, n5, n6⟩ := N
    have nlt := firstIn_lt (show 0 < b by omega) f1
    have ap : a % b ≠ 0 := fun z => by
      obtain ⟨_, hn, hm⟩ := f1
      refine hm 0 (by omega) (by omega) ?_
      have e : (n - 0) + 0 = n := by omega
      rw [← e] at hn
      refine (inR_shift ?_).mp hn
      exact Int.dvd_trans (Int.dvd_of_emod_eq_zero z) (Int.dvd_mul_left _ _)
    have B0 := near_begin (show 0 < b by omega) ap
    have r0 := Int.emod_nonneg a (show b ≠ 0 by omega)
    have r1 := Int.emod_lt_of_pos a (show 0 < b by omega)
    refine ⟨_, (pss_cons (ps_asg (pe_tup (pa_cons pe_int (pa_cons (pe_op op_mod (pe_fld (pv 0) rfl) (pe_fld (pv 0) rfl)) (pa_cons pe_int (pa_cons (pe_op op_sub (pe_fld (pv 0) rfl) (pe_op op_mod (pe_fld (pv 0) rfl) (pe_fld (pv 0) rfl))) pa_nil))))) (pg_tup rfl (pgs_cons (pg_name (i := 2) sc_nearest_of.nd rfl (.inl rfl)) (pgs_cons (pg_name (i := 3) sc_nearest_of.nd rfl (.inl rfl)) (pgs_cons (pg_name (i := 4) sc_nearest_of.nd rfl (.inl rfl)) (pgs_cons (pg_name (i := 5) sc_nearest_of.nd rfl (.inl rfl)) pgs_nil))))))
      (pss_cons (ps_while PassesOwn.never (pt_cmpR op_le (pe_op op_add (pv 2) (pv 4)) (pv 1) (nomark _)) (pss_one (ps_if (pt_cmpR op_gt (pv 3) (pv 5) (nomark _)) (pss_cons (ps_set (i := 6) sc_nearest_of.nd rfl (.inl rfl) (pcl D_steps_to hr (pa_cons (pv 3) (pa_cons (pv 5) (pa_cons (pe_op op_fdivW (pe_op op_sub (pv 1) (pv 2)) (pv 4)) pa_nil)))))
      (pss_one (ps_par (i := 2) (j := 3) rfl sc_nearest_of.nd rfl rfl (by decide) rfl rfl (pa_cons (pe_op op_add (pv 2) (pe_op op_mulW (pv 6) (pv 4))) (pa_cons (pe_op op_sub (pv 3) (pe_op op_mulW (pv 6) (pv 5))) pa_nil)) (by rfl)))) (pss_cons (ps_set (i := 6) sc_nearest_of.nd rfl (.inl rfl) (pcl D_steps_to hr (pa_cons (pv 5) (pa_cons (pv 3) (pa_cons (pe_op op_fdivW (pe_op op_sub (pv 1) (pv 4)) (pv 2)) pa_nil)))))
      (pss_one (ps_par (i := 4) (j := 5) rfl sc_nearest_of.nd rfl rfl (by decide) rfl rfl (pa_cons (pe_op op_add (pv 4) (pe_op op_mulW (pv 6) (pv 2))) (pa_cons (pe_op op_sub (pv 5) (pe_op op_mulW (pv 6) (pv 3))) pa_nil)) (by rfl)))))))
      (pss_one (ps_ret (pe_tup (pa_cons (pv 2) (pa_cons (pv 3) (pa_cons (pv 4) (pa_cons (pv 5) pa_nil))))))))), ?_⟩
    refine ⟨_, rfl, p, C, dx, _, _, rfl, hp, T.cl, T.nP, lk_p, _, rfl, p, C, dx, _, _, rfl, hp, T.cl, T.nR, lk_r, _, _, rfl, rfl, by omega, ?_⟩
    refine ⟨_, rfl, p, C, dx, _, _, rfl, hp, T.cl, T.nR, lk_r, _, rfl, p, C, dx, _, _, rfl, hp, T.cl, T.nP, lk_p, _, rfl, p, C, dx, _, _, rfl, hp, T.cl, T.nR, lk_r, _, _, rfl, rfl, by omega, _, _, rfl, rfl, ?_⟩
    refine ⟨by show 4 ≤ sizeLine; decide, fun y ny => ?_⟩
    refine ⟨y, _, rfl, .inl (.inl upd_same), rfl, _, _, rfl, _, _, rfl, _, _, rfl, _, _, rfl, rfl, ?_⟩
    have s1 := same_upd (o := .tup [.int 1, .int (a % b), .int 1, .int (b - a % b)]) ny
    generalize hH1 : upd H y (.tup [.int 1, .int (a % b), .int 1, .int (b - a % b)]) = H1 at s1 ⊢
    have hp1 := s1 _ _ hp
    refine ⟨fun m σ H' => H' = H1 ∧ ∃ (k1 d1 k2 d2 : Int) (x6 : Option V), σ = [some (.ref p), some (.int n), some (.int k1), some (.int d1), some (.int k2), some (.int d2), x6] ∧ Near a b k1 d1 k2 d2 ∧ k1 ≤ n ∧ k2 ≤ n ∧ m = (d1 + d2).toNat,
      ⟨_, rfl, _, _, _, _, none, rfl, B0, by omega, by omega, rfl⟩, ?_⟩
    rintro m σ H' ⟨rfl, k1, d1, k2, d2, x6, rfl, Nr, l1, l2, rfl⟩
    have g1 := Nr.pk1
    have g2 := Nr.pk2
    have g3 := Nr.pd1
    have g4 := Nr.pd2
    have sm : d1 ≤ b ∧ d2 ≤ b := by
      have := near_small Nr
      omega
    refine ⟨_, rfl, _, rfl, _, _, rfl, rfl, _, rfl, _, _, rfl, rfl, _, rfl, iteD (fun e => ?_) (fun e => ?_)⟩
    · have ne := near_ne Nr f1 e
      refine ⟨fun σ' H'' => ∃ m', m' < (d1 + d2).toNat ∧ (H'' = H' ∧ ∃ (k1 d1 k2 d2 : Int) (x6 : Option V), σ' = [some (.ref p), some (.int n), some (.int k1), some (.int d1), some (.int k2), some (.int d2), x6] ∧ Near a b k1 d1 k2 d2 ∧ k1 ≤ n ∧ k2 ≤ n ∧ m' = (d1 + d2).toNat), fun _ _ h => h, ?_⟩
      refine ⟨_, rfl, _, rfl, _, _, rfl, rfl, _, rfl, iteD (fun e1 => ?_) (fun e1 => ?_)⟩
      · refine ⟨_, rfl, _, rfl, _, rfl, _, rfl, _, _, rfl, rfl, _, rfl, _, _, rfl, rfl, divB (by omega) ⟨by omega, by omega⟩, d1, d2, _, rfl, by omega, ⟨by omega, by omega⟩, ?_⟩
        generalize hm : min ((n - k1) / k2) ((d1 - 1) / d2) = m
        obtain ⟨m1, m2, m3⟩ := step_pos g4 e1 e g2 hm.symm
        have m4 : m ≤ d1 := by
          have := Int.ediv_le_self (a := d1 - 1) d2 (by omega)
          omega
        refine ⟨_, rfl, _, rfl, _, rfl, _, _, rfl, rfl, mulB ⟨by omega, by omega⟩ ⟨by omega, by omega⟩, _, _, rfl, rfl, _, rfl, _, rfl, _, rfl, _, _, rfl, rfl, mulB ⟨by omega, by omega⟩ ⟨by omega, by omega⟩, _, _, rfl, rfl, _, _, rfl, ?_⟩
        have mp : 0 < m * d2 := Int.mul_pos (by omega) (by omega)
        have Nr' := near_up Nr (by omega) m2
        have q1 := Nr'.pd1
        exact ⟨_, by omega, rfl, _, _, _, _, _, rfl, Nr', m3, l2, rfl⟩
      · have e2 : d1 < d2 := by omega
        refine ⟨_, rfl, _, rfl, _, rfl, _, rfl, _, _, rfl, rfl, _, rfl, _, _, rfl, rfl, divB (by omega) ⟨by omega, by omega⟩, d2, d1, _, rfl, by omega, ⟨by omega, by omega⟩, ?_⟩
        generalize hm : min ((n - k2) / k1) ((d2 - 1) / d1) = m
        obtain ⟨m1, m2, m3⟩ := step_pos g3 e2 (show k2 + k1 ≤ n by omega) g1 hm.symm
        have m4 : m ≤ d2 := by
          have := Int.ediv_le_self (a := d2 - 1) d1 (by omega)
          omega
        refine ⟨_, rfl, _, rfl, _, rfl, _, _, rfl, rfl, mulB ⟨by omega, by omega⟩ ⟨by omega, by omega⟩, _, _, rfl, rfl, _, rfl, _, rfl, _, rfl, _, _, rfl, rfl, mulB ⟨by omega, by omega⟩ ⟨by omega, by omega⟩, _, _, rfl, rfl, _, _, rfl, ?_⟩
        have mp : 0 < m * d1 := Int.mul_pos (by omega) (by omega)
        have Nr' := near_dn Nr (by omega) m2
        have q1 := Nr'.pd2
        exact ⟨_, by omega, rfl, _, _, _, _, _, rfl, Nr', l1, m3, rfl⟩
    · refine ⟨_, rfl, _, rfl, _, rfl, _, rfl, by show 4 ≤ sizeLine; decide, fun z nz => ?_⟩
      exact q _ z k1 d1 k2 d2 (s1.trans (same_upd nz)) upd_same Nr (by omega) l1 l2
end
end Ck

namespace Ck
open PySem PySem.Spec PyProof.Rows L2
theorem n_fn : ¬ (("first" : Str) = "none") := by decide +kernel
theorem small1000' {n : Nat} (h : n ≤ 10) : n < sizeLine := by rw [sizeLine_eq]; omega
theorem iteVD {x y : Int} {A B : Prop} (h1 : x = y → A) (h2 : x ≠ y → B) : if decide (V.int x = V.int y) = true then A else B := by
  by_cases h : x = y
  · rw [decide_eq_true (congrArg V.int h)]
    exact iteT (h1 h)
  · rw [decide_eq_false fun z => h (V.int.inj z)]
    exact iteF (h2 h)
theorem iteEqT {x y : Int} {A B : Prop} (h : x = y) (a : A) : if decide (V.int x = V.int y) = true then A else B := iteVD (fun _ => a) fun z => absurd h z
theorem iteEqF {x y : Int} {A B : Prop} (h : x ≠ y) (b : B) : if decide (V.int x = V.int y) = true then A else B := iteVD (fun z => absurd z h) fun _ => b
theorem iteVN {x y : Int} {A B : Prop} (h1 : x ≠ y → A) (h2 : x = y → B) : if (!decide (V.int x = V.int y)) = true then A else B := by
  by_cases h : x = y
  · rw [decide_eq_true (congrArg V.int h)]
    exact iteF (h2 h)
  · rw [decide_eq_false fun z => h (V.int.inj z)]
    exact iteT (h1 h)
theorem iteNeF {x y : Int} {A B : Prop} (h : x = y) (b : B) : if (!decide (V.int x = V.int y)) = true then A else B := iteVN (fun z => absurd h z) fun _ => b
theorem iteNeT {x y : Int} {A B : Prop} (h : x ≠ y) (a : A) : if (!decide (V.int x = V.int y)) = true then A else B := iteVN (fun _ => a) fun z => absurd z h
section
variable {P : Program} {w : World} {K : PySem.W.Frag} {mg : Str → Option Value} {base : Heap} {C : Addr}
theorem near_bd {a b k1 d1 k2 d2 : Int} (N : Near a b k1 d1 k2 d2) : (k1 ≤ b ∧ k2 ≤ b) ∧ (d1 ≤ b ∧ d2 ≤ b) := by
  have h1 := N.pk1
  have h2 := N.pk2
  have h3 := N.pd1
  have h4 := N.pd2
  have h5 := N.sum
  have a1 := Int.mul_le_mul_of_nonneg_right h1 (show 0 ≤ d2 by omega)
  have a2 := Int.mul_le_mul_of_nonneg_right h2 (show 0 ≤ d1 by omega)
  have a3 := Int.mul_le_mul_of_nonneg_left h4 (show 0 ≤ k1 by omega)
  have a4 := Int.mul_le_mul_of_nonneg_left h3 (show 0 ≤ k2 by omega)
  omega
/-- what a paper of a first picture holds -/
def Paper (a b c lo hi : Int) (xs : List V) : Prop := (xs = [.str "first", .int 0] ∧ InR a b c lo hi 0) ∨
  ∃ n k1 d1 k2 d2 : Int, xs = [.str "first", .int n, .int k1, .int d1, .int k2, .int d2] ∧ FirstIn a b c lo hi (some n) ∧ 1 ≤ n ∧ Near a b k1 d1 k2 d2 ∧ n < k1 + k2 ∧ k1 ≤ n ∧ k2 ≤ n
def Falls (a b c lo hi : Int) : Prop := ∃ n, 0 ≤ n ∧ InR a b c lo hi n
theorem Falls.not {a b c lo hi : Int} (h : Falls a b c lo hi) : ¬ FirstIn a b c lo hi none := fun f => by
  obtain ⟨n, h1, h2⟩ := h
  exact f n h1 h2
abbrev s_paper_at : Stmt := topS 24
abbrev N_paper_at : List Str := ["clock", "low", "high", "n"]
theorem sc_paper_at : FnScope N_paper_at ["clock", "low", "high"] (defScope s_paper_at) := ⟨rfl, rfl, rfl, by decide +kernel, rfl, by decide +kernel, by decide +kernel⟩
def sp_paper_at (C : Addr) : Sp := fun vs H Q _ => ∃ (p : Addr) (a b c lo hi : Int), vs = [.ref p, .int lo, .int hi] ∧ Clk C H p a b c ∧ CkB a b c ∧ 0 ≤ lo ∧ lo ≤ hi ∧ hi < b ∧ Falls a b c lo hi ∧
  ∀ H' y xs, Same H H' → H' y = some (.tup xs) → Paper a b c lo hi xs → Q (.ref y) H'
theorem ok_paper_at {f : Addr} {fd : FuncData} (F : Fun K "paper_at" "paper_at" s_paper_at f fd) (T : Txt K mg C) (D_first_at : DefOk P w K mg base 2 "first_at" ["clock", "low", "high"] (sp_first_at C)) (D_common : MethOk P w K mg base C 2 "common" ["self"] (sp_common C))
    (D_nearest_of : DefOk P w K mg base 2 "nearest_of" ["clock", "n"] (sp_nearest_of C)) : FnOk P w K mg base CX0 3 f fd ["clock", "low", "high"] (sp_paper_at C) := by
  refine F.ok sc_paper_at (fun vs H Q E h => ?_) (fun cdv A outer s H vs Q E hr h => ?_)
  · obtain ⟨p, a, b, c, lo, hi, rfl, _⟩ := h
    rfl
  · obtain ⟨p, a, b, c, lo, hi, rfl, hp, N, h1, h2, h3, hf, q⟩ := h
    refine ⟨_, (pss_cons (ps_set (i := 3) sc_paper_at.nd rfl (.inl rfl) (pcl D_first_at hr (pa_cons (pv 0) (pa_cons (pv 1) (pa_cons (pv 2) pa_nil)))))
      (pss_cons (ps_if (pt_cmpR op_isN (pv 3) pe_non (nomark _)) (pss_one (ps_ret (pe_tup (pa_cons pe_str (pa_cons (pml0 D_common T.cl (pv 0) hr) pa_nil))))) pss_nil)
      (pss_one (ps_ret (pe_ifExp (pt_cmpR op_eq (pv 3) pe_int (nomark _)) (pe_tup (pa_cons pe_str (pa_cons pe_int pa_nil))) (pe_op op_catT (pe_tup (pa_cons pe_str (pa_cons (pv 3) pa_nil))) (pcl D_nearest_of hr (pa_cons (pv 0) (pa_cons (pv 3) pa_nil))))))))), ?_⟩
    refine ⟨_, rfl, _, rfl, _, rfl, p, a, b, c, lo, hi, rfl, hp, N, h1, h2, h3, fun H1 o s1 f1 => ?_⟩
    cases o with
    | none => exact absurd f1 hf.not
    | some n =>
      refine ⟨_, rfl, rfl, _, rfl, iteF ?_⟩
      refine ⟨_, rfl, rfl, _, rfl, ?_⟩
      by_cases e : n = 0
      · subst e
        refine iteT ?_
        refine ⟨by show 2 ≤ sizeLine; decide, fun y ny => ?_⟩
        exact q _ _ _ (s1.trans (same_upd ny)) upd_same (.inl ⟨rfl, f1.2.1⟩)
      · have n0 := f1.1
        refine ite2 (fun z => absurd (V.int.inj (of_decide_eq_true z)) e) (fun _ => ?_)
        refine ⟨_, rfl, by show 2 ≤ sizeLine; decide, fun y ny => ?_⟩
        have s2 : Same H1 (upd H1 y (.tup [.str "first", .int n])) := same_upd ny
        refine ⟨_, rfl, _, rfl, p, a, b, c, lo, hi, n, rfl, (hp.same s1).same s2, N, f1, by omega, fun H2 z k1 d1 k2 d2 s3 hz Nr l1 l2 l3 => ?_⟩
        refine ⟨y, z, _, _, rfl, rfl, .inl (.inl (s3 _ _ upd_same)), .inl (.inl hz), by simp, by show 2 + 4 ≤ sizeLine; decide, (fun z => nomatch z), fun _ u nu => ?_⟩
        exact q _ _ _ (((s1.trans s2).trans s3).trans (same_upd nu)) upd_same (.inr ⟨n, k1, d1, k2, d2, rfl, f1, by omega, Nr, l1, l2, l3⟩)
abbrev s_first_paper : Stmt := topS 25
abbrev N_first_paper : List Str := ["clock", "low", "high"]
theorem sc_first_paper : FnScope N_first_paper ["clock", "low", "high"] (defScope s_first_paper) := ⟨rfl, rfl, rfl, by decide +kernel, rfl, by decide +kernel, by decide +kernel⟩
theorem ok_first_paper {f : Addr} {fd : FuncData} (F : Fun K "first_paper" "first_paper" s_first_paper f fd) (D_need_range : DefOk P w K mg base 3 "need_range" ["clock", "low", "high"] (sp_need_range C)) (D_paper_at : DefOk P w K mg base 3 "paper_at" ["clock", "low", "high"] (sp_paper_at C)) :
    FnOk P w K mg base CX0 4 f fd ["clock", "low", "high"] (sp_paper_at C) := by
  refine F.ok sc_first_paper (fun vs H Q E h => ?_) (fun cdv A outer s H vs Q E hr h => ?_)
  · obtain ⟨p, a, b, c, lo, hi, rfl, _⟩ := h
    rfl
  · obtain ⟨p, a, b, c, lo, hi, rfl, hp, N, h1, h2, h3, hf, q⟩ := h
    refine ⟨_, (pss_cons (ps_expr (pcl D_need_range hr (pa_cons (pv 0) (pa_cons (pv 1) (pa_cons (pv 2) pa_nil)))))
      (pss_one (ps_ret (pcl D_paper_at hr (pa_cons (pv 0) (pa_cons (pv 1) (pa_cons (pv 2) pa_nil))))))), ?_⟩
    exact ⟨_, rfl, _, rfl, _, rfl, p, a, b, c, lo, hi, rfl, hp, h1, h2, h3, _, rfl, _, rfl, _, rfl, p, a, b, c, lo, hi, rfl, hp, N, h1, h2, h3, hf, q⟩
abbrev s_is_pair_of : Stmt := topS 26
abbrev N_is_pair_of : List Str := ["clock", "k1", "d1", "k2", "d2"]
theorem sc_is_pair_of : FnScope N_is_pair_of ["clock", "k1", "d1", "k2", "d2"] (defScope s_is_pair_of) := ⟨rfl, rfl, rfl, by decide +kernel, rfl, by decide +kernel, by decide +kernel⟩
def sp_is_pair_of (C : Addr) : Sp := fun vs H Q _ => ∃ (p : Addr) (a b c k1 d1 k2 d2 : Int), vs = [.ref p, .int k1, .int d1, .int k2, .int d2] ∧ Clk C H p a b c ∧ CkB a b c ∧ Near a b k1 d1 k2 d2 ∧ Q (.bl true) H
theorem ok_is_pair_of {f : Addr} {fd : FuncData} (F : Fun K "is_pair_of" "is_pair_of" s_is_pair_of f fd) (T : Txt K mg C) : FnOk P w K mg base CX0 1 f fd ["clock", "k1", "d1", "k2", "d2"] (sp_is_pair_of C) := by
  refine F.ok sc_is_pair_of (fun vs H Q E h => ?_) (fun cdv A outer s H vs Q E hr h => ?_)
  · obtain ⟨p, a, b, c, k1, d1, k2, d2, rfl, _⟩ := h
    rfl
  · obtain ⟨p, a, b, c, k1, d1, k2, d2, rfl, ⟨dx, hp⟩, N, Nr, q⟩ := h
    obtain ⟨n1, n2, n3, n4, n5, n6⟩ := N
    have g1 := Nr.pk1
    have g2 := Nr.pk2
    have g3 := Nr.pd1
    have g4 := Nr.pd2
    obtain ⟨sm1, sm2⟩ := near_bd Nr
    have e1 : (k1 * a - d1) % b = 0 := Int.emod_eq_zero_of_dvd Nr.up
    have e2 : (k2 * a + d2) % b = 0 := Int.emod_eq_zero_of_dvd Nr.dn
    refine ⟨_, (pss_cons (ps_if (PW.pt (pw_or (pt_cmpR op_ne (pe_op op_mod (pe_op op_sub (pe_op op_mulW (pv 1) (pe_fld (pv 0) rfl)) (pv 2)) (pe_fld (pv 0) rfl)) pe_int (nomark _)) (pw_or1 (pt_cmpR op_ne (pe_op op_mod (pe_op op_add (pe_op op_mulW (pv 3) (pe_fld (pv 0) rfl)) (pv 4)) (pe_fld (pv 0) rfl)) pe_int (nomark _))))) (pss_one (ps_ret pe_bl)) pss_nil)
      (pss_one (ps_ret (pe_cmpR op_eq (pe_op op_add (pe_op op_mulW (pv 1) (pv 4)) (pe_op op_mulW (pv 3) (pv 2))) (pe_fld (pv 0) rfl) (nomark _))))), ?_⟩
    refine ⟨_, rfl, _, rfl, p, C, dx, _, _, rfl, hp, T.cl, T.nP, lk_p, _, _, rfl, rfl, mulB ⟨by omega, by omega⟩ ⟨by omega, by omega⟩, _, rfl, _, _, rfl, rfl, _, rfl, p, C, dx, _, _, rfl, hp, T.cl, T.nR, lk_r, _, _, rfl, rfl, by omega, rfl, _, rfl, ?_⟩
    refine iteNeF e1 ?_
    refine ⟨_, rfl, _, rfl, p, C, dx, _, _, rfl, hp, T.cl, T.nP, lk_p, _, _, rfl, rfl, mulB ⟨by omega, by omega⟩ ⟨by omega, by omega⟩, _, rfl, _, _, rfl, rfl, _, rfl, p, C, dx, _, _, rfl, hp, T.cl, T.nR, lk_r, _, _, rfl, rfl, by omega, rfl, _, rfl, ?_⟩
    refine iteNeF e2 ?_
    refine ⟨_, rfl, _, rfl, _, _, rfl, rfl, mulB ⟨by omega, by omega⟩ ⟨by omega, by omega⟩, _, rfl, _, rfl, _, _, rfl, rfl, mulB ⟨by omega, by omega⟩ ⟨by omega, by omega⟩, _, _, rfl, rfl, _, rfl, p, C, dx, _, _, rfl, hp, T.cl, T.nR, lk_r, rfl, ?_⟩
    have : decide (V.int (k1 * d2 + k2 * d1) = V.int b) = true := decide_eq_true (by rw [Nr.sum])
    show Q (.bl (decide (V.int (k1 * d2 + k2 * d1) = V.int b))) H
    rw [this]
    exact q
abbrev s_shows_first : Stmt := topS 27
abbrev N_shows_first : List Str := ["clock", "low", "high", "thing", "rest", "n", "k1", "d1", "k2", "d2", "item"]
theorem sc_shows_first : FnScope N_shows_first ["clock", "low", "high", "thing"] (defScope s_shows_first) := ⟨rfl, rfl, rfl, by decide +kernel, rfl, by decide +kernel, by decide +kernel⟩
def sp_shows (C : Addr) : Sp := fun vs H Q _ => ∃ (p : Addr) (a b c lo hi : Int) (y : Addr) (xs : List V), vs = [.ref p, .int lo, .int hi, .ref y] ∧ Clk C H p a b c ∧ CkB a b c ∧ 0 ≤ lo ∧ lo ≤ hi ∧ hi < b ∧ H y = some (.tup xs) ∧ Paper a b c lo hi xs ∧
  ∀ H', Same H H' → Q (.bl true) H'
theorem ok_shows_first {f : Addr} {fd : FuncData} (F : Fun K "shows_first" "shows_first" s_shows_first f fd) (T : Txt K mg C) (B : Bn mg) (D_is_between : DefOk P w K mg base 2 "is_between" ["thing", "low", "high"] sp_is_between) (D_common : MethOk P w K mg base C 2 "common" ["self"] (sp_common C))
    (D_rest_at : MethOk P w K mg base C 1 "rest_at" ["self", "n"] (sp_rest C)) (D_is_pair_of : DefOk P w K mg base 1 "is_pair_of" ["clock", "k1", "d1", "k2", "d2"] (sp_is_pair_of C)) : FnOk P w K mg base CX0 3 f fd ["clock", "low", "high", "thing"] (sp_shows C) := by
  refine F.ok sc_shows_first (fun vs H Q E h => ?_) (fun cdv A outer s H vs Q E hr h => ?_)
  · obtain ⟨p, a, b, c, lo, hi, y, xs, rfl, _⟩ := h
    rfl
  · obtain ⟨p, a, b, c, lo, hi, y, xs, rfl, ⟨dx, hp⟩, N, h1, h2, h3, hy, hx, q⟩ := h
    have N' := N
    obtain ⟨n1, n2, n3, n4, n5, n6⟩ := N
    have hy' : SqT K H y xs := .inl (.inl hy)
    -- the numbers of the thing
    have nums : ∃ (n0 : Int) (ns : List Int), xs = .str "first" :: .int n0 :: ns.map V.int ∧ ((ns = [] ∧ n0 = 0) ∨ ∃ k1 d1 k2 d2 : Int, ns = [k1, d1, k2, d2] ∧ FirstIn a b c lo hi (some n0) ∧ 1 ≤ n0 ∧ Near a b k1 d1 k2 d2 ∧ n0 < k1 + k2 ∧ k1 ≤ n0 ∧ k2 ≤ n0) ∧ (∀ i ∈ n0 :: ns, 0 ≤ i) ∧ InR a b c lo hi n0 ∧ n0 ≤ 10 ^ 13 := by
      rcases hx with ⟨rfl, i0⟩ | ⟨n, k1, d1, k2, d2, rfl, f1, l1, Nr, l2, l3⟩
      · exact ⟨0, [], rfl, .inl ⟨rfl, rfl⟩, by simp, i0, by omega⟩
      · have g1 := Nr.pk1
        have g2 := Nr.pk2
        have g3 := Nr.pd1
        have g4 := Nr.pd2
        obtain ⟨sm1, sm2⟩ := near_bd Nr
        refine ⟨n, [k1, d1, k2, d2], rfl, .inr ⟨_, _, _, _, rfl, f1, l1, Nr, l2, l3⟩, ?_, f1.2.1, by omega⟩
        simp only [List.mem_cons, List.not_mem_nil, or_false]
        rintro i (rfl | rfl | rfl | rfl | rfl) <;> omega
    obtain ⟨n0, ns, rfl, hl, hn, hin, hbig⟩ := nums
    have n00 := hn n0 (List.mem_cons_self ..)
    have hlen : inV (V.int ((V.str "first" :: V.int n0 :: ns.map V.int).length : Nat)) [V.int 2, V.int 6] = true := by
      rcases hl with ⟨rfl, _⟩ | ⟨_, _, _, _, rfl, _⟩ <;> rfl
    have cut1 : cutV (V.str "first" :: V.int n0 :: ns.map V.int) (some 1) none = (n0 :: ns).map V.int := by
      rcases hl with ⟨rfl, _⟩ | ⟨_, _, _, _, rfl, _⟩ <;> rfl
    have whole : ¬ (HT.sIx (V.str "first" :: V.int n0 :: ns.map V.int).length 0 (some 1) = 0 ∧ HT.sIx (V.str "first" :: V.int n0 :: ns.map V.int).length (V.str "first" :: V.int n0 :: ns.map V.int).length none = (V.str "first" :: V.int n0 :: ns.map V.int).length) := by
      rcases hl with ⟨rfl, _⟩ | ⟨_, _, _, _, rfl, _⟩ <;> exact fun z => absurd z.1 (by show ¬ (1 : Nat) = 0; decide)
    have at0 : atI (V.str "first" :: V.int n0 :: ns.map V.int) 0 = some (V.str "first") := by
      rcases hl with ⟨rfl, _⟩ | ⟨_, _, _, _, rfl, _⟩ <;> rfl
    have at1 : atI (V.str "first" :: V.int n0 :: ns.map V.int) 1 = some (V.int n0) := by
      rcases hl with ⟨rfl, _⟩ | ⟨_, _, _, _, rfl, _⟩ <;> rfl
    generalize hxs : (V.str "first" :: V.int n0 :: ns.map V.int) = xs at *
    refine ⟨_, (pss_cons (ps_if (PW.pt (pw_or (pt_not (pt_val (pe_callB call_isi (by rfl) B.isinstance bo_isinstance (pa_cons (pv 3) (pa_cons (pe_bltn (v := .ty "tuple") (by rfl) B.tuple bo_tuple rfl) pa_nil))))) (pw_or (pt_cmpR op_notIn_seq (pe_callB call_len_seq (by rfl) B.len bo_len (pa_cons (pv 3) pa_nil)) (pe_tup (pa_cons pe_int (pa_cons pe_int pa_nil))) (by with_unfolding_all rfl)) (pw_or1 (pt_not (pt_val (pe_callB call_isi (by rfl) B.isinstance bo_isinstance (pa_cons (pe_ix ix_tup (pv 3) pe_int (fun _ _ => rfl)) (pa_cons (pe_bltn (v := .ty "str") (by rfl) B.str bo_str rfl) pa_nil))))))))) (pss_one (ps_ret pe_bl)) pss_nil)
      (pss_cons (ps_if (pt_not (pt_val (pe_callB (cr_all rfl) (by rfl) B.all bo_all (pa_cons (pe_lc (own := [("item", 10)]) (g := (gName 10)) rfl sc_shows_first.nd (pi_tup (pe_slice sl_tup (pv 3) (po_some pe_int) po_none)) (blkOk_by (own := [("item", 10)]) (N := N_shows_first) (sc := defScope s_shows_first) (by decide +kernel)) (fun _ _ _ _ _ => pg_name (i := 10) sc_shows_first.nd rfl (Or.inl rfl)) (fun _ _ _ _ _ => pts_nil) (fun _ _ _ _ _ => (pcl D_is_between hr (pa_cons (pv 10) (pa_cons pe_int (pa_cons (pv 10) pa_nil)))))) pa_nil)))) (pss_one (ps_ret pe_bl)) pss_nil)
      (pss_cons (ps_if (pt_cmpR op_eq (pe_ix ix_tup (pv 3) pe_int (fun _ _ => rfl)) pe_str (nomark _)) (pss_cons (ps_if (PW.pt (pw_or (pt_cmpR op_ne (pe_callB call_len_seq (by rfl) B.len bo_len (pa_cons (pv 3) pa_nil)) pe_int (nomark _)) (pw_or (pt_cmpR op_eq (pe_ix ix_tup (pv 3) pe_int (fun _ _ => rfl)) pe_int (nomark _)) (pw_or1 (pt_cmpR op_ne (pe_op op_mod (pml0 D_common T.cl (pv 0) hr) (pe_ix ix_tup (pv 3) pe_int (fun _ _ => rfl))) pe_int (nomark _)))))) (pss_one (ps_ret pe_bl)) pss_nil)
      (pss_one (ps_ret (pe_cmpR op_gt (pe_op op_mod (pe_op op_sub (pe_fld (pv 0) rfl) (pv 1)) (pe_ix ix_tup (pv 3) pe_int (fun _ _ => rfl))) (pe_op op_sub (pv 2) (pv 1)) (nomark _))))) pss_nil)
      (pss_cons (ps_set (i := 4) sc_shows_first.nd rfl (.inl rfl) (pml D_rest_at T.cl (pv 0) hr (pa_cons (pe_ix ix_tup (pv 3) pe_int (fun _ _ => rfl)) pa_nil)))
      (pss_cons (ps_if (PW.pt (pw_or (pt_cmpR op_ne (pe_ix ix_tup (pv 3) pe_int (fun _ _ => rfl)) pe_str (nomark _)) (pw_or1 (pt_not (pt_chain op_le op_le (pv 1) (pv 4) (pv 2)))))) (pss_one (ps_ret pe_bl)) pss_nil)
      (pss_cons (ps_if (pt_cmpR op_eq (pe_callB call_len_seq (by rfl) B.len bo_len (pa_cons (pv 3) pa_nil)) pe_int (nomark _)) (pss_one (ps_ret (pe_cmpR op_eq (pe_ix ix_tup (pv 3) pe_int (fun _ _ => rfl)) pe_int (nomark _)))) pss_nil)
      (pss_cons (ps_asg (pe_slice sl_tup (pv 3) (po_some pe_int) po_none) (pg_tup rfl (pgs_cons (pg_name (i := 5) sc_shows_first.nd rfl (.inl rfl)) (pgs_cons (pg_name (i := 6) sc_shows_first.nd rfl (.inl rfl)) (pgs_cons (pg_name (i := 7) sc_shows_first.nd rfl (.inl rfl)) (pgs_cons (pg_name (i := 8) sc_shows_first.nd rfl (.inl rfl)) (pgs_cons (pg_name (i := 9) sc_shows_first.nd rfl (.inl rfl)) pgs_nil)))))))
      (pss_cons (ps_if (PW.pt (pw_or (pt_cmpR op_lt (pe_callB (call_min5 rfl) (by rfl) B.min bo_min (pa_cons (pv 5) (pa_cons (pv 6) (pa_cons (pv 7) (pa_cons (pv 8) (pa_cons (pv 9) pa_nil)))))) pe_int (nomark _)) (pw_or (pt_cmpR op_gt (pe_callB (call_max2 rfl) (by rfl) B.max bo_max (pa_cons (pv 6) (pa_cons (pv 8) pa_nil))) (pv 5) (nomark _)) (pw_or1 (pt_cmpR op_ge (pv 5) (pe_op op_add (pv 6) (pv 8)) (nomark _)))))) (pss_one (ps_ret pe_bl)) pss_nil)
      (pss_one (ps_ret (pe_and (pcl D_is_pair_of hr (pa_cons (pv 0) (pa_cons (pv 6) (pa_cons (pv 7) (pa_cons (pv 8) (pa_cons (pv 9) pa_nil)))))) (pe_and (pe_cmpR op_lt (pe_op op_sub (pv 4) (pv 7)) (pv 1) (nomark _)) (pe_one (pe_cmpR op_gt (pe_op op_add (pv 4) (pv 9)) (pv 2) (nomark _))))))))))))))), ?_⟩
    refine ⟨_, rfl, _, _, _, _, true, rfl, .ty "tuple", .base (.tup hy), kit_ty (by decide +kernel), true, rfl, iteF ?_⟩
    refine ⟨_, rfl, y, xs, rfl, .inr hy', by show 2 ≤ sizeLine; decide, fun z nz => ?_⟩
    refine ⟨z, _, rfl, .inr (.inl (.inl upd_same)), rfl, rfl, _, rfl, ?_⟩
    show if (!inV (V.int (xs.length : Nat)) [V.int 2, V.int 6]) = true then _ else _
    rw [hlen]
    refine iteF ?_
    have s1 : Same H (upd H z (.tup [.int 2, .int 6])) := same_upd nz
    generalize upd H z (.tup [.int 2, .int 6]) = H1 at s1 ⊢
    have hp1 := s1 _ _ hp
    have hy1 : SqT K H1 y xs := .inl (.inl (s1 _ _ hy))
    refine ⟨_, rfl, y, xs, 0, _, rfl, rfl, hy1, at0, _, _, _, _, true, rfl, .ty "str", .base (.str _), kit_ty (by decide +kernel), true, rfl, iteF ?_⟩
    refine ⟨_, rfl, _, rfl, y, xs, rfl, hy1, whole, fun z2 nz2 => ?_⟩
    rw [cut1]
    have s2 : Same H1 (upd H1 z2 (.tup ((n0 :: ns).map V.int))) := same_upd nz2
    have ez2 : upd H1 z2 (.tup ((n0 :: ns).map V.int)) z2 = some (.tup ((n0 :: ns).map V.int)) := upd_same
    generalize upd H1 z2 (.tup ((n0 :: ns).map V.int)) = H2 at s2 ez2 ⊢
    refine ⟨z2, rfl, ⟨_, .inl (.inl ez2)⟩, fun D hD => ?_⟩
    have s3 : Same H2 (upd H2 D (.lst [])) := same_upd hD
    refine lc_tup (xs := (n0 :: ns).map V.int) (fun i Hc => (∀ q o, H2 q = some o → Hc q = some o) ∧ Hc D = some (.lst ((List.replicate i true).map V.bl))) ⟨s3, upd_same⟩ ?_ ?_ ?_
    · rintro i Hc _ ⟨k1, _⟩
      exact .inl (.inl (k1 _ _ ez2))
    · rintro i x Hc hx ⟨k1, k2⟩
      rw [List.getElem?_map] at hx
      obtain ⟨v, hv, rfl⟩ := Option.map_eq_some_iff.mp hx
      have hv0 := hn v (List.mem_of_getElem? hv)
      refine ⟨rfl, ?_⟩
      refine ⟨_, rfl, _, rfl, v, 0, v, true, rfl, yes ⟨hv0, Int.le_refl _⟩, _, k2, ?_, fun q o e => ?_, ?_⟩
      · have hi := (List.getElem?_eq_some_iff.mp hv).1
        have : (n0 :: ns).length ≤ 5 := by
          rcases hl with ⟨rfl, _⟩ | ⟨_, _, _, _, rfl, _⟩ <;> simp
        rw [List.length_map, List.length_replicate]
        exact small1000' (by omega)
      · rw [upd_ne (ne_of_none e hD)]
        exact k1 q o e
      · rw [upd_same, List.replicate_succ', List.map_append]
        rfl
    · rintro Hc ⟨k1, k2⟩
      refine ⟨D, _, rfl, .inl (.inl k2), ?_⟩
      have al : (List.replicate ((n0 :: ns).map V.int).length true).all id = true := by
        rw [List.all_eq_true]
        intro x hx
        exact (List.mem_replicate.mp hx).2
      rw [al]
      refine ⟨true, rfl, iteF ?_⟩
      have s4 : Same H Hc := (s1.trans s2).trans k1
      have hp2 := s4 _ _ hp
      have hy2 : SqT K Hc y xs := .inl (.inl (s4 _ _ hy))
      refine ⟨_, rfl, y, xs, 0, _, rfl, rfl, hy2, at0, rfl, _, rfl, iteD (fun z => absurd (V.str.inj z) n_fn) (fun _ => ?_)⟩
      refine ⟨_, rfl, p, dx, _, rfl, hp2, lk_rest, _, rfl, y, xs, 1, _, rfl, rfl, hy2, at1, p, n0, a, b, c, rfl, ⟨dx, hp2⟩, ⟨by omega, by omega⟩, ⟨by omega, by omega⟩, by omega, ?_⟩
      obtain ⟨r1, r2⟩ := hin
      have rb1 := Int.emod_nonneg (n0 * a + c) (show b ≠ 0 by omega)
      have rb2 := Int.emod_lt_of_pos (n0 * a + c) (show 0 < b by omega)
      refine ⟨_, rfl, y, xs, 0, _, rfl, rfl, hy2, at0, rfl, _, rfl, ?_⟩
      rw [decide_eq_true (show V.str "first" = V.str "first" from rfl)]
      refine iteF ?_
      refine ⟨_, rfl, _, rfl, _, _, rfl, rfl, _, rfl, ?_⟩
      rw [decide_eq_true r1]
      refine iteT ?_
      refine ⟨_, rfl, _, _, rfl, rfl, _, rfl, ?_⟩
      rw [decide_eq_true r2]
      refine iteF ?_
      refine ⟨_, rfl, y, xs, rfl, .inr hy2, rfl, _, rfl, ?_⟩
      rcases hl with ⟨rfl, rfl⟩ | ⟨k1', d1, k2', d2, rfl, f1, l1, Nr, l2, l3, l4⟩
      · refine iteEqT (by rw [← hxs]; rfl) ?_
        refine ⟨_, rfl, y, xs, 1, _, rfl, rfl, hy2, at1, rfl, ?_⟩
        exact q Hc s4
      · refine iteEqF (by rw [← hxs]; show (6 : Int) ≠ 2; decide) ?_
        refine ⟨_, rfl, _, rfl, y, xs, rfl, hy2, whole, fun z3 nz3 => ?_⟩
        rw [cut1]
        have s5 : Same Hc (upd Hc z3 (.tup ([n0, k1', d1, k2', d2].map V.int))) := same_upd nz3
        have ez3 : upd Hc z3 (.tup ([n0, k1', d1, k2', d2].map V.int)) z3 = some (.tup ([n0, k1', d1, k2', d2].map V.int)) := upd_same
        generalize upd Hc z3 (.tup ([n0, k1', d1, k2', d2].map V.int)) = H3 at s5 ez3 ⊢
        refine ⟨z3, _, rfl, .inl (.inl ez3), rfl, _, _, rfl, _, _, rfl, _, _, rfl, _, _, rfl, _, _, rfl, rfl, ?_⟩
        have g1 := Nr.pk1
        have g2 := Nr.pk2
        have g3 := Nr.pd1
        have g4 := Nr.pd2
        obtain ⟨t1, t2⟩ := near_shows (show 0 < b by omega) h1 h3 Nr f1 l3 l4
        refine ⟨_, rfl, _, rfl, _, rfl, _, rfl, _, rfl, _, _, _, _, _, rfl, _, _, rfl, rfl, _, rfl, iteD (fun z => absurd z (by omega)) (fun _ => ?_)⟩
        refine ⟨_, rfl, _, rfl, _, _, rfl, _, rfl, _, _, rfl, rfl, _, rfl, iteD (fun z => absurd z (by split <;> omega)) (fun _ => ?_)⟩
        refine ⟨_, rfl, _, rfl, _, rfl, _, _, rfl, rfl, _, _, rfl, rfl, _, rfl, iteD (fun z => absurd z (by omega)) (fun _ => ?_)⟩
        refine ⟨_, rfl, _, rfl, _, rfl, _, rfl, _, rfl, p, a, b, c, _, _, _, _, rfl, ⟨dx, s5 _ _ hp2⟩, N', Nr, true, rfl, iteT ?_⟩
        refine ⟨_, rfl, _, rfl, _, _, rfl, rfl, _, rfl, _, _, rfl, rfl, _, rfl, ?_⟩
        rw [decide_eq_true t1]
        refine iteT ?_
        refine ⟨_, rfl, _, rfl, _, _, rfl, rfl, _, rfl, _, _, rfl, rfl, ?_⟩
        show Q (.bl (decide ((n0 * a + c) % b + d2 > hi))) H3
        rw [decide_eq_true t2]
        exact q H3 (s4.trans s5)
abbrev s_is_first : Stmt := topS 28
abbrev N_is_first : List Str := ["clock", "low", "high", "thing"]
theorem sc_is_first : FnScope N_is_first ["clock", "low", "high", "thing"] (defScope s_is_first) := ⟨rfl, rfl, rfl, by decide +kernel, rfl, by decide +kernel, by decide +kernel⟩
theorem ok_is_first {f : Addr} {fd : FuncData} (F : Fun K "is_first" "is_first" s_is_first f fd) (D_need_range : DefOk P w K mg base 3 "need_range" ["clock", "low", "high"] (sp_need_range C)) (D_shows_first : DefOk P w K mg base 3 "shows_first" ["clock", "low", "high", "thing"] (sp_shows C)) :
    FnOk P w K mg base CX0 4 f fd ["clock", "low", "high", "thing"] (sp_shows C) := by
  refine F.ok sc_is_first (fun vs H Q E h => ?_) (fun cdv A outer s H vs Q E hr h => ?_)
  · obtain ⟨p, a, b, c, lo, hi, y, xs, rfl, _⟩ := h
    rfl
  · obtain ⟨p, a, b, c, lo, hi, y, xs, rfl, hp, N, h1, h2, h3, hx, hP, q⟩ := h
    refine ⟨_, (pss_cons (ps_expr (pcl D_need_range hr (pa_cons (pv 0) (pa_cons (pv 1) (pa_cons (pv 2) pa_nil)))))
      (pss_one (ps_ret (pcl D_shows_first hr (pa_cons (pv 0) (pa_cons (pv 1) (pa_cons (pv 2) (pa_cons (pv 3) pa_nil)))))))), ?_⟩
    exact ⟨_, rfl, _, rfl, _, rfl, p, a, b, c, lo, hi, rfl, hp, h1, h2, h3, _, rfl, _, rfl, _, rfl, _, rfl, p, a, b, c, lo, hi, y, xs, rfl, hp, N, h1, h2, h3, hx, hP, q⟩
end
end Ck

namespace Ck
open PySem PySem.Spec PyProof.Rows L2
theorem abs_mul {x y : Int} {a b : Nat} (hx : x.natAbs ≤ a) (hy : y.natAbs ≤ b) : (x * y).natAbs ≤ a * b := by
  rw [Int.natAbs_mul]
  exact Nat.mul_le_mul hx hy
theorem bd_mul {x y a b : Int} (h1 : -a ≤ x) (h2 : x ≤ a) (h3 : -b ≤ y) (h4 : y ≤ b) (h : (a.natAbs * b.natAbs : Nat) ≤ 10 ^ 70) : Bd (x * y) := by
  have := abs_mul (x := x) (y := y) (a := a.natAbs) (b := b.natAbs) (by omega) (by omega)
  constructor <;> omega
section
variable {P : Program} {w : World} {K : PySem.W.Frag} {mg : Str → Option Value} {base : Heap} {C : Addr}
/-! ### sums of floors, counts, the n-th -/
abbrev s_floors : Stmt := topS 32
abbrev N_floors : List Str := ["many", "pace", "rate", "shift", "total", "sign", "great", "top"]
theorem sc_floors : FnScope N_floors ["many", "pace", "rate", "shift"] (defScope s_floors) := ⟨rfl, rfl, rfl, by decide +kernel, rfl, by decide +kernel, by decide +kernel⟩
def sp_floors : Sp := fun vs H Q _ => ∃ m p r s : Int, vs = [.int m, .int p, .int r, .int s] ∧ 0 ≤ m ∧ m ≤ 10 ^ 18 ∧ 0 < r ∧ r ≤ 10 ^ 13 ∧ Bd p ∧ p ≤ 10 ^ 13 ∧ -(10 ^ 13) ≤ p ∧ s ≤ 10 ^ 14 ∧ -(10 ^ 14) ≤ s ∧ ∀ H', Same H H' → Q (.int (F m.toNat p r s)) H'
theorem ok_floors {f : Addr} {fd : FuncData} (F : Fun K "floors" "floors" s_floors f fd) : FnOk P w K mg base CX0 1 f fd ["many", "pace", "rate", "shift"] sp_floors := by
  refine F.ok sc_floors (fun vs H Q E h => ?_) (fun cdv A outer s H vs Q E hr h => ?_)
  · obtain ⟨m, p, r, s, rfl, _⟩ := h
    rfl
  · obtain ⟨m0, p0, r0, s0, rfl, b1, b2, b3, b4, _, b5, b6, b7, b8, q⟩ := h
    refine ⟨_, (pss_cons (ps_asg (pe_tup (pa_cons pe_int (pa_cons pe_int pa_nil))) (pg_tup rfl (pgs_cons (pg_name (i := 4) sc_floors.nd rfl (.inl rfl)) (pgs_cons (pg_name (i := 5) sc_floors.nd rfl (.inl rfl)) pgs_nil))))
      (pss_cons (ps_while PassesOwn.never (pt_cmpR op_gt (pv 0) pe_int (nomark _)) (pss_cons (ps_aug (i := 4) sc_floors.nd rfl (.inl rfl) (pe_op op_mulW (pv 5) (pe_op op_add (pe_op op_mulW (pe_op op_fdivW (pe_op op_mulW (pv 0) (pe_op op_sub (pv 0) pe_int)) pe_int) (pe_op op_fdivW (pv 1) (pv 2))) (pe_op op_mulW (pv 0) (pe_op op_fdivW (pv 3) (pv 2))))) ip_add)
      (pss_cons (ps_par (i := 1) (j := 3) rfl sc_floors.nd rfl rfl (by decide) rfl rfl (pa_cons (pe_op op_mod (pv 1) (pv 2)) (pa_cons (pe_op op_mod (pv 3) (pv 2)) pa_nil)) (by rfl))
      (pss_cons (ps_set (i := 6) sc_floors.nd rfl (.inl rfl) (pe_op op_add (pe_op op_mulW (pe_op op_sub (pv 0) pe_int) (pv 1)) (pv 3)))
      (pss_cons (ps_if (pt_cmpR op_lt (pv 6) (pv 2) (nomark _)) (pss_one (ps_break)) pss_nil)
      (pss_cons (ps_set (i := 7) sc_floors.nd rfl (.inl rfl) (pe_op op_fdivW (pv 6) (pv 2)))
      (pss_cons (ps_aug (i := 4) sc_floors.nd rfl (.inl rfl) (pe_op op_mulW (pe_op op_mulW (pv 5) (pv 7)) (pv 0)) ip_add)
      (pss_cons (ps_set (i := 5) sc_floors.nd rfl (.inl rfl) (pe_un un_neg (pv 5)))
      (pss_one (ps_asg (pe_tup (pa_cons (pv 7) (pa_cons (pv 2) (pa_cons (pv 1) (pa_cons (pe_op op_sub (pe_op op_add (pe_op op_sub (pv 2) (pv 3)) (pv 1)) pe_int) pa_nil))))) (pg_tup rfl (pgs_cons (pg_name (i := 0) sc_floors.nd rfl (.inl rfl)) (pgs_cons (pg_name (i := 1) sc_floors.nd rfl (.inl rfl)) (pgs_cons (pg_name (i := 2) sc_floors.nd rfl (.inl rfl)) (pgs_cons (pg_name (i := 3) sc_floors.nd rfl (.inl rfl)) pgs_nil)))))))))))))))
      (pss_one (ps_ret (pv 4))))), ?_⟩
    refine ⟨by show 2 ≤ sizeLine; decide, fun y ny => ?_⟩
    refine ⟨y, _, rfl, .inl (.inl upd_same), rfl, _, _, rfl, _, _, rfl, rfl, ?_⟩
    have sy : Same H (upd H y (.tup [.int 0, .int 1])) := same_upd ny
    generalize upd H y (.tup [.int 0, .int 1]) = H1 at sy ⊢
    refine ⟨fun n σ H' => Same H H' ∧ ∃ (m p r s t g : Int) (x6 x7 : Option V), σ = [some (.int m), some (.int p), some (.int r), some (.int s), some (.int t), some (.int g), x6, x7] ∧ 0 ≤ m ∧ m ≤ 10 ^ 18 ∧ 0 < r ∧ r ≤ 10 ^ 13 ∧ p ≤ 10 ^ 13 ∧ -(10 ^ 13) ≤ p ∧ s ≤ 10 ^ 14 ∧ -(10 ^ 14) ≤ s ∧ (g = 1 ∨ g = -1) ∧ t + g * Ck.F m.toNat p r s = Ck.F m0.toNat p0 r0 s0 ∧ n = r.toNat,
      ⟨_, sy, m0, p0, r0, s0, 0, 1, none, none, rfl, b1, b2, b3, b4, b5, b6, b7, b8, .inl rfl, by omega, rfl⟩, ?_⟩
    rintro n σ H' ⟨sH, m, p, r, s, t, g, x6, x7, rfl, a1, a2, a3, a4, a5, a6, a7, a8, hg, inv, rfl⟩
    refine ⟨_, rfl, _, _, rfl, rfl, _, rfl, iteD (fun e => ?_) (fun e => ?_)⟩
    · have e : 0 < m := e
      have d1 : -(10 ^ 13) - 1 ≤ p / r := by
        have := Int.ediv_le_ediv a3 a6
        have h2 : -(10 ^ 13) - 1 ≤ (-(10 ^ 13) : Int) / r := (Int.le_ediv_iff_mul_le a3).mpr (by omega)
        omega
      have d2 : p / r ≤ 10 ^ 13 := by
        by_cases z : 0 ≤ p
        · have := Int.ediv_le_self r z; omega
        · have := Int.ediv_neg_of_neg_of_pos (show p < 0 by omega) a3; omega
      have d3 : -(10 ^ 14) - 1 ≤ s / r := by
        have := Int.ediv_le_ediv a3 a8
        have h2 : -(10 ^ 14) - 1 ≤ (-(10 ^ 14) : Int) / r := (Int.le_ediv_iff_mul_le a3).mpr (by omega)
        omega
      have d4 : s / r ≤ 10 ^ 14 := by
        by_cases z : 0 ≤ s
        · have := Int.ediv_le_self r z; omega
        · have := Int.ediv_neg_of_neg_of_pos (show s < 0 by omega) a3; omega
      have m1 : 0 ≤ m * (m - 1) := Int.mul_nonneg (by omega) (by omega)
      have m2 : m * (m - 1) ≤ 10 ^ 18 * 10 ^ 18 := Int.mul_le_mul (by omega) (by omega) (by omega) (by omega)
      have m3 := Int.emod_nonneg p (show r ≠ 0 by omega)
      have m4 := Int.emod_lt_of_pos p a3
      have m5 := Int.emod_nonneg s (show r ≠ 0 by omega)
      have m6 := Int.emod_lt_of_pos s a3
      have bg : Bd g := by rcases hg with rfl | rfl <;> exact ⟨by omega, by omega⟩
      have w1 : Bd (m * (m - 1) / 2 * (p / r)) := bd_mul (a := 10 ^ 36) (b := 10 ^ 14) (by omega) (by omega) (by omega) (by omega) (by decide)
      have w2 : Bd (m * (s / r)) := bd_mul (a := 10 ^ 18) (b := 10 ^ 15) (by omega) (by omega) (by omega) (by omega) (by decide)
      have w1' : (m * (m - 1) / 2 * (p / r)).natAbs ≤ 10 ^ 36 * 10 ^ 14 := abs_mul (by omega) (by omega)
      have w2' : (m * (s / r)).natAbs ≤ 10 ^ 18 * 10 ^ 15 := abs_mul (by omega) (by omega)
      have w3 : Bd (m * (m - 1) / 2 * (p / r) + m * (s / r)) := ⟨by omega, by omega⟩
      have red := floors_red (p := p) (s := s) e a3
      refine ⟨fun σ' H'' => ∃ n', n' < r.toNat ∧ (Same H H'' ∧ ∃ (m p r s t g : Int) (x6 x7 : Option V), σ' = [some (.int m), some (.int p), some (.int r), some (.int s), some (.int t), some (.int g), x6, x7] ∧ 0 ≤ m ∧ m ≤ 10 ^ 18 ∧ 0 < r ∧ r ≤ 10 ^ 13 ∧ p ≤ 10 ^ 13 ∧ -(10 ^ 13) ≤ p ∧ s ≤ 10 ^ 14 ∧ -(10 ^ 14) ≤ s ∧ (g = 1 ∨ g = -1) ∧ t + g * Ck.F m.toNat p r s = Ck.F m0.toNat p0 r0 s0 ∧ n' = r.toNat), fun _ _ h => h, ?_⟩
      refine ⟨_, rfl, _, rfl, _, rfl, _, rfl, _, _, rfl, rfl, _, _, rfl, rfl, mulB ⟨by omega, by omega⟩ ⟨by omega, by omega⟩, _, _, rfl, rfl, divB (by omega) ⟨by omega, by omega⟩, ?_⟩
      refine ⟨_, rfl, _, rfl, _, _, rfl, rfl, divB a3 ⟨by omega, by omega⟩, _, _, rfl, rfl, mulB ⟨by omega, by omega⟩ ⟨by omega, by omega⟩, ?_⟩
      refine ⟨_, rfl, _, rfl, _, rfl, _, _, rfl, rfl, divB a3 ⟨by omega, by omega⟩, _, _, rfl, rfl, mulB ⟨by omega, by omega⟩ ⟨by omega, by omega⟩, _, _, rfl, rfl, _, _, rfl, rfl, mulB bg w3, _, _, rfl, rfl, ?_⟩
      generalize ha : m * (m - 1) / 2 * (p / r) + m * (s / r) = A at *
      have gA : g * A + g * Ck.F m.toNat (p % r) r (s % r) = g * Ck.F m.toNat p r s := by rw [red]; grind
      refine ⟨_, rfl, _, rfl, _, _, rfl, rfl, a3, _, rfl, _, rfl, _, _, rfl, rfl, a3, _, _, rfl, ?_⟩
      have e0 : 0 ≤ (m - 1) * (p % r) := Int.mul_nonneg (by omega) m3
      have e1 : (m - 1) * (p % r) ≤ 10 ^ 18 * 10 ^ 13 := Int.mul_le_mul (by omega) (by omega) (by omega) (by omega)
      refine ⟨_, rfl, _, _, rfl, rfl, _, rfl, _, _, rfl, rfl, mulB ⟨by omega, by omega⟩ ⟨by omega, by omega⟩, _, rfl, _, _, rfl, rfl, ?_⟩
      refine ⟨_, rfl, _, rfl, _, _, rfl, rfl, _, rfl, iteD (fun e2 => ?_) (fun e2 => ?_)⟩
      · -- the end
        have z := floors_end e m3 m5 e2
        rw [z] at gA
        refine ⟨_, rfl, ?_⟩
        have : t + g * A = Ck.F m0.toNat p0 r0 s0 := by omega
        show Q (.int (t + g * A)) H'
        rw [this]
        exact q H' sH
      · obtain ⟨k1, k2, k3, k4⟩ := floors_flip e m3 m4 m5 m6 e2
        refine ⟨_, rfl, _, rfl, _, _, rfl, rfl, divB a3 ⟨by omega, by omega⟩, ?_⟩
        have w4 : (g * (((m - 1) * (p % r) + s % r) / r)).natAbs ≤ 1 * 10 ^ 18 := abs_mul (by omega) (by omega)
        refine ⟨_, rfl, _, rfl, _, rfl, _, _, rfl, rfl, mulB bg ⟨by omega, by omega⟩, _, rfl, _, _, rfl, rfl, mulB ⟨by omega, by omega⟩ ⟨by omega, by omega⟩, _, _, rfl, rfl, ?_⟩
        refine ⟨_, rfl, _, rfl, ?_⟩
        refine ⟨_, rfl, _, rfl, _, rfl, _, rfl, _, rfl, _, _, rfl, rfl, _, rfl, _, _, rfl, rfl, _, _, rfl, rfl, by show 4 ≤ sizeLine; decide, fun u nu => ?_⟩
        refine ⟨u, _, rfl, .inl (.inl upd_same), rfl, _, _, rfl, _, _, rfl, _, _, rfl, _, _, rfl, rfl, ?_⟩
        refine ⟨(p % r).toNat, by omega, sH.trans (same_upd nu), _, r, p % r, _, _, _, _, _, rfl, by omega, by omega, k1, by omega, by omega, by omega, by omega, by omega, by omega, ?_, rfl⟩
        rw [← inv, ← gA, k4]
        grind
    · have : m = 0 := by omega
      subst this
      refine ⟨_, rfl, ?_⟩
      have : Ck.F (0 : Int).toNat p r s = 0 := rfl
      rw [this] at inv
      have : t = Ck.F m0.toNat p0 r0 s0 := by omega
      rw [this]
      exact q H' sH
abbrev s_count_at : Stmt := topS 33
abbrev N_count_at : List Str := ["clock", "low", "high", "many", "above"]
theorem sc_count_at : FnScope N_count_at ["clock", "low", "high", "many"] (defScope s_count_at) := ⟨rfl, rfl, rfl, by decide +kernel, rfl, by decide +kernel, by decide +kernel⟩
def sp_count (C : Addr) : Sp := fun vs H Q _ => ∃ (p : Addr) (a b c lo hi m : Int), vs = [.ref p, .int lo, .int hi, .int m] ∧ Clk C H p a b c ∧ CkB a b c ∧ 0 ≤ lo ∧ lo ≤ hi ∧ hi < b ∧ 0 ≤ m ∧ m ≤ 10 ^ 18 ∧ ∀ H', Same H H' → Q (.int (cnt a b c lo hi m.toNat)) H'
theorem ok_count_at {f : Addr} {fd : FuncData} (F : Fun K "count_at" "count_at" s_count_at f fd) (T : Txt K mg C) (D_floors : DefOk P w K mg base 1 "floors" ["many", "pace", "rate", "shift"] sp_floors) : FnOk P w K mg base CX0 2 f fd ["clock", "low", "high", "many"] (sp_count C) := by
  refine F.ok sc_count_at (fun vs H Q E h => ?_) (fun cdv A outer s H vs Q E hr h => ?_)
  · obtain ⟨p, a, b, c, lo, hi, m, rfl, _⟩ := h
    rfl
  · obtain ⟨p, a, b, c, lo, hi, m, rfl, ⟨dx, hp⟩, ⟨n1, n2, n3, n4, n5, n6⟩, h1, h2, h3, m0, m1, q⟩ := h
    refine ⟨_, (pss_cons (ps_set (i := 4) sc_count_at.nd rfl (.inl rfl) (pcl D_floors hr (pa_cons (pv 3) (pa_cons (pe_fld (pv 0) rfl) (pa_cons (pe_fld (pv 0) rfl) (pa_cons (pe_op op_sub (pe_fld (pv 0) rfl) (pv 1)) pa_nil))))))
      (pss_one (ps_ret (pe_op op_sub (pv 4) (pcl D_floors hr (pa_cons (pv 3) (pa_cons (pe_fld (pv 0) rfl) (pa_cons (pe_fld (pv 0) rfl) (pa_cons (pe_op op_sub (pe_op op_sub (pe_fld (pv 0) rfl) (pv 2)) pe_int) pa_nil))))))))), ?_⟩
    refine ⟨_, rfl, _, rfl, p, C, dx, _, _, rfl, hp, T.cl, T.nP, lk_p, _, rfl, p, C, dx, _, _, rfl, hp, T.cl, T.nR, lk_r, _, rfl, p, C, dx, _, _, rfl, hp, T.cl, T.nS, lk_s, _, rfl, _, _, rfl, rfl, ?_⟩
    refine ⟨m, a, b, c - lo, rfl, m0, m1, by omega, by omega, ⟨by omega, by omega⟩, by omega, by omega, by omega, by omega, fun H1 s1 => ?_⟩
    have hp := s1 _ _ hp
    refine ⟨_, rfl, _, rfl, _, rfl, p, C, dx, _, _, rfl, hp, T.cl, T.nP, lk_p, _, rfl, p, C, dx, _, _, rfl, hp, T.cl, T.nR, lk_r, _, rfl, p, C, dx, _, _, rfl, hp, T.cl, T.nS, lk_s, _, rfl, _, _, rfl, rfl, _, _, rfl, rfl, ?_⟩
    refine ⟨m, a, b, c - hi - 1, rfl, m0, m1, by omega, by omega, ⟨by omega, by omega⟩, by omega, by omega, by omega, by omega, fun H2 s2 => ?_⟩
    refine ⟨_, _, rfl, rfl, ?_⟩
    have := cnt_F (m := m.toNat) (p := a) (s := c) (show 0 < b by omega) h1 h2 h3
    show Q (.int (Ck.F m.toNat a b (c - lo) - Ck.F m.toNat a b (c - hi - 1))) H2
    rw [this]
    exact q H2 (s1.trans s2)
abbrev s_count_in : Stmt := topS 34
abbrev N_count_in : List Str := ["clock", "low", "high", "many"]
theorem sc_count_in : FnScope N_count_in ["clock", "low", "high", "many"] (defScope s_count_in) := ⟨rfl, rfl, rfl, by decide +kernel, rfl, by decide +kernel, by decide +kernel⟩
theorem ok_count_in {f : Addr} {fd : FuncData} (F : Fun K "count_in" "count_in" s_count_in f fd) (T : Txt K mg C) (D_need_range : DefOk P w K mg base 3 "need_range" ["clock", "low", "high"] (sp_need_range C)) (D_need_number : DefOk P w K mg base 3 "need_number" ["thing", "most", "part"] sp_need_number)
    (D_count_at : DefOk P w K mg base 2 "count_at" ["clock", "low", "high", "many"] (sp_count C)) : FnOk P w K mg base CX0 4 f fd ["clock", "low", "high", "many"] (sp_count C) := by
  refine F.ok sc_count_in (fun vs H Q E h => ?_) (fun cdv A outer s H vs Q E hr h => ?_)
  · obtain ⟨p, a, b, c, lo, hi, m, rfl, _⟩ := h
    rfl
  · obtain ⟨p, a, b, c, lo, hi, m, rfl, hp, N, h1, h2, h3, m0, m1, q⟩ := h
    refine ⟨_, (pss_cons (ps_expr (pcl D_need_range hr (pa_cons (pv 0) (pa_cons (pv 1) (pa_cons (pv 2) pa_nil)))))
      (pss_cons (ps_expr (pcl D_need_number hr (pa_cons (pv 3) (pa_cons (pgi (by rfl) T.mg_MOST_MANY) (pa_cons pe_str pa_nil)))))
      (pss_one (ps_ret (pcl D_count_at hr (pa_cons (pv 0) (pa_cons (pv 1) (pa_cons (pv 2) (pa_cons (pv 3) pa_nil))))))))), ?_⟩
    exact ⟨_, rfl, _, rfl, _, rfl, p, a, b, c, lo, hi, rfl, hp, h1, h2, h3, _, rfl, m, _, _, rfl, m0, m1, _, rfl, _, rfl, _, rfl, _, rfl, p, a, b, c, lo, hi, m, rfl, hp, N, h1, h2, h3, m0, m1, q⟩
abbrev s_period_of : Stmt := topS 35
abbrev N_period_of : List Str := ["clock"]
theorem sc_period_of : FnScope N_period_of ["clock"] (defScope s_period_of) := ⟨rfl, rfl, rfl, by decide +kernel, rfl, by decide +kernel, by decide +kernel⟩
def sp_period (C : Addr) : Sp := fun vs H Q _ => ∃ (p : Addr) (a b c : Int), vs = [.ref p] ∧ Clk C H p a b c ∧ CkB a b c ∧ ∀ g, IsGcd g a b → Q (.int (b / g)) H
theorem ok_period_of {f : Addr} {fd : FuncData} (F : Fun K "period_of" "period_of" s_period_of f fd) (T : Txt K mg C) (D_common : MethOk P w K mg base C 2 "common" ["self"] (sp_common C)) : FnOk P w K mg base CX0 3 f fd ["clock"] (sp_period C) := by
  refine F.ok sc_period_of (fun vs H Q E h => ?_) (fun cdv A outer s H vs Q E hr h => ?_)
  · obtain ⟨p, a, b, c, rfl, _⟩ := h
    rfl
  · obtain ⟨p, a, b, c, rfl, ⟨dx, hp⟩, ⟨n1, n2, n3, n4, n5, n6⟩, q⟩ := h
    refine ⟨_, (pss_one (ps_ret (pe_op op_fdivW (pe_fld (pv 0) rfl) (pml0 D_common T.cl (pv 0) hr)))), ?_⟩
    refine ⟨_, rfl, p, C, dx, _, _, rfl, hp, T.cl, T.nR, lk_r, _, rfl, p, dx, _, rfl, hp, lk_common, p, a, b, c, rfl, ⟨dx, hp⟩, by omega, by omega, fun g G => ?_⟩
    have g0 := isGcd_pos G (show 0 < b by omega)
    have g1 := Int.le_of_dvd (show 0 < b by omega) G.two
    exact ⟨_, _, rfl, rfl, divB g0 ⟨by omega, by omega⟩, q g G⟩
abbrev s_nth_in : Stmt := topS 36
abbrev N_nth_in : List Str := ["clock", "low", "high", "n", "period", "each", "least", "most", "middle"]
theorem sc_nth_in : FnScope N_nth_in ["clock", "low", "high", "n"] (defScope s_nth_in) := ⟨rfl, rfl, rfl, by decide +kernel, rfl, by decide +kernel, by decide +kernel⟩
def sp_nth (C : Addr) : Sp := fun vs H Q _ => ∃ (p : Addr) (a b c lo hi n x : Int), vs = [.ref p, .int lo, .int hi, .int n] ∧ Clk C H p a b c ∧ CkB a b c ∧ 0 ≤ lo ∧ lo ≤ hi ∧ hi < b ∧ 0 ≤ n ∧ n ≤ 10 ^ 15 ∧ 0 ≤ x ∧ InR a b c lo hi x ∧ cnt a b c lo hi x.toNat = n ∧ ∀ H', Same H H' → Q (.int x) H'
theorem ok_nth_in {f : Addr} {fd : FuncData} (F : Fun K "nth_in" "nth_in" s_nth_in f fd) (T : Txt K mg C) (D_need_range : DefOk P w K mg base 3 "need_range" ["clock", "low", "high"] (sp_need_range C)) (D_need_number : DefOk P w K mg base 3 "need_number" ["thing", "most", "part"] sp_need_number)
    (D_count_at : DefOk P w K mg base 2 "count_at" ["clock", "low", "high", "many"] (sp_count C)) (D_period_of : DefOk P w K mg base 3 "period_of" ["clock"] (sp_period C)) : FnOk P w K mg base CX0 4 f fd ["clock", "low", "high", "n"] (sp_nth C) := by
  refine F.ok sc_nth_in (fun vs H Q E h => ?_) (fun cdv A outer s H vs Q E hr h => ?_)
  · obtain ⟨p, a, b, c, lo, hi, n, x, rfl, _⟩ := h
    rfl
  · obtain ⟨p, a, b, c, lo, hi, n, x, rfl, hp, N, h1, h2, h3, m0, m1, x0, hx, hc, q⟩ := h
    have N' := N
    obtain ⟨n1, n2, n3, n4, n5, n6⟩ := N'
    refine ⟨_, (pss_cons (ps_expr (pcl D_need_range hr (pa_cons (pv 0) (pa_cons (pv 1) (pa_cons (pv 2) pa_nil)))))
      (pss_cons (ps_expr (pcl D_need_number hr (pa_cons (pv 3) (pa_cons (pgi (by rfl) T.mg_MOST_NTH) (pa_cons pe_str pa_nil)))))
      (pss_cons (ps_set (i := 4) sc_nth_in.nd rfl (.inl rfl) (pcl D_period_of hr (pa_cons (pv 0) pa_nil)))
      (pss_cons (ps_set (i := 5) sc_nth_in.nd rfl (.inl rfl) (pcl D_count_at hr (pa_cons (pv 0) (pa_cons (pv 1) (pa_cons (pv 2) (pa_cons (pv 4) pa_nil))))))
      (pss_cons (ps_if (pt_cmpR op_eq (pv 5) pe_int (nomark _)) (pss_one (ps_ret pe_non)) pss_nil)
      (pss_cons (ps_par (i := 6) (j := 7) rfl sc_nth_in.nd rfl rfl (by decide) rfl rfl (pa_cons pe_int (pa_cons (pe_op op_sub (pv 4) pe_int) pa_nil)) (by rfl))
      (pss_cons (ps_while PassesOwn.never (pt_cmpR op_lt (pv 6) (pv 7) (nomark _)) (pss_cons (ps_set (i := 8) sc_nth_in.nd rfl (.inl rfl) (pe_op op_fdivW (pe_op op_add (pv 6) (pv 7)) pe_int))
      (pss_one (ps_if (pt_cmpR op_gt (pcl D_count_at hr (pa_cons (pv 0) (pa_cons (pv 1) (pa_cons (pv 2) (pa_cons (pe_op op_add (pv 8) pe_int) pa_nil))))) (pe_op op_mod (pv 3) (pv 5)) (nomark _)) (pss_one (ps_set (i := 7) sc_nth_in.nd rfl (.inl rfl) (pv 8))) (pss_one (ps_set (i := 6) sc_nth_in.nd rfl (.inl rfl) (pe_op op_add (pv 8) pe_int)))))))
      (pss_one (ps_ret (pe_op op_add (pe_op op_mulW (pe_op op_fdivW (pv 3) (pv 5)) (pv 4)) (pv 6))))))))))), ?_⟩
    refine ⟨_, rfl, _, rfl, _, rfl, p, a, b, c, lo, hi, rfl, hp, h1, h2, h3, ?_⟩
    refine ⟨_, rfl, n, _, _, rfl, m0, m1, ?_⟩
    refine ⟨_, rfl, p, a, b, c, rfl, hp, N, fun g G => ?_⟩
    obtain ⟨per, hper⟩ : ∃ per : Nat, ((per : Nat) : Int) = b / g := ⟨(b / g).toNat, by have := (period_dvd G (show 0 < b by omega)).2.1; omega⟩
    obtain ⟨g1, g2, g3⟩ := period_dvd G (show 0 < b by omega)
    rw [← hper] at g1 g2 g3
    have hpt : ((per : Nat) : Int).toNat = per := by omega
    rw [hpt] at g1
    rw [← hper]
    refine ⟨_, rfl, _, rfl, _, rfl, _, rfl, p, a, b, c, lo, hi, _, rfl, hp, N, h1, h2, h3, by omega, by omega, fun H1 s1 => ?_⟩
    rw [hpt]
    have e0 := falls_each (c := c) (lo := lo) (hi := hi) g1 (by omega) x0 hx
    generalize he : cnt a b c lo hi per = each at e0 ⊢
    have he0 := cnt_le a b c lo hi per
    have t0 := Int.emod_nonneg n (show each ≠ 0 by omega)
    have t1 := Int.emod_lt_of_pos n e0
    refine ⟨_, rfl, rfl, _, rfl, iteEqF (by omega) ?_⟩
    refine ⟨_, rfl, _, _, rfl, rfl, _, _, rfl, ?_⟩
    refine ⟨fun m σ H' => Same H H' ∧ ∃ (l t : Nat) (x8 : Option V), σ = [some (.ref p), some (.int lo), some (.int hi), some (.int n), some (.int per), some (.int each), some (.int l), some (.int t), x8] ∧ l ≤ t ∧ t < per ∧ n % each < cnt a b c lo hi (t + 1) ∧ (∀ k : Nat, k < l → cnt a b c lo hi (k + 1) ≤ n % each) ∧ m = t - l,
      ⟨per - 1 - 0, s1, 0, per - 1, none, by rw [show ((per - 1 : Nat) : Int) = (per : Int) - 1 by omega]; rfl, Nat.zero_le _, by omega, by rw [show per - 1 + 1 = per by omega, he]; exact t1, fun k hk => absurd hk (Nat.not_lt_zero k), rfl⟩, ?_⟩
    rintro m σ H' ⟨sH, l, t, x8, rfl, k1, k2, k3, k4, rfl⟩
    refine ⟨_, rfl, _, rfl, _, _, rfl, rfl, _, rfl, iteD (fun e => ?_) (fun e => ?_)⟩
    · obtain ⟨mid, hmid⟩ : ∃ mid : Nat, ((mid : Nat) : Int) = ((l : Int) + t) / 2 := ⟨(l + t) / 2, by omega⟩
      refine ⟨fun σ' H'' => ∃ m', m' < t - l ∧ (Same H H'' ∧ ∃ (l t : Nat) (x8 : Option V), σ' = [some (.ref p), some (.int lo), some (.int hi), some (.int n), some (.int per), some (.int each), some (.int l), some (.int t), x8] ∧ l ≤ t ∧ t < per ∧ n % each < cnt a b c lo hi (t + 1) ∧ (∀ k : Nat, k < l → cnt a b c lo hi (k + 1) ≤ n % each) ∧ m' = t - l), fun _ _ h => h, ?_⟩
      refine ⟨_, rfl, _, rfl, _, _, rfl, rfl, _, _, rfl, rfl, divB (by omega) ⟨by omega, by omega⟩, ?_⟩
      show gName 8 (V.int (((l : Int) + t) / 2)) _ _ _
      rw [← hmid]
      refine ⟨_, rfl, _, rfl, _, rfl, _, rfl, _, _, rfl, rfl, p, a, b, c, lo, hi, _, rfl, hp.same sH, N, h1, h2, h3, by omega, by omega, fun H2 s2 => ?_⟩
      have em : ((mid : Int) + 1).toNat = mid + 1 := by omega
      refine ⟨_, rfl, _, rfl, _, _, rfl, rfl, e0, _, _, rfl, rfl, _, rfl, iteD (fun e2 => ?_) (fun e2 => ?_)⟩
      · rw [em] at e2
        refine ⟨_, rfl, _, by omega, sH.trans s2, l, mid, _, rfl, by omega, by omega, e2, k4, rfl⟩
      · rw [em] at e2
        refine ⟨_, rfl, _, _, rfl, rfl, t - (mid + 1), by omega, sH.trans s2, mid + 1, t, _, rfl, by omega, k2, k3, fun k hk => ?_, rfl⟩
        have := cnt_mono a b c lo hi (show k + 1 ≤ mid + 1 by omega)
        omega
    · have : l = t := by omega
      subst this
      have q1 : 0 ≤ n / each := Int.ediv_nonneg m0 (by omega)
      have q2 : n / each ≤ n := Int.ediv_le_self _ m0
      refine ⟨_, rfl, _, rfl, _, _, rfl, rfl, divB e0 ⟨by omega, by omega⟩, _, rfl, _, _, rfl, rfl, mulB ⟨by omega, by omega⟩ ⟨by omega, by omega⟩, _, rfl, _, _, rfl, rfl, ?_⟩
      have := nth_is g1 he.symm e0 m0 k3 k4 x0 hx hc
      show Q (.int (n / each * per + l)) H'
      rw [this]
      exact q H' sH
end
end Ck

namespace Ck
open PySem PySem.Spec PyProof.Rows L2
theorem n_on : ¬ (("one" : Str) = "two") := by decide +kernel
theorem n_to : ¬ (("two" : Str) = "one") := by decide +kernel
section
variable {P : Program} {w : World} {K : PySem.W.Frag} {mg : Str → Option Value} {base : Heap} {C : Addr}
/-! ### waits -/
abbrev s_ends_of : Stmt := topS 37
abbrev N_ends_of : List Str := ["clock", "low", "high", "common", "least"]
theorem sc_ends_of : FnScope N_ends_of ["clock", "low", "high"] (defScope s_ends_of) := ⟨rfl, rfl, rfl, by decide +kernel, rfl, by decide +kernel, by decide +kernel⟩
def sp_ends (C : Addr) : Sp := fun vs H Q _ => ∃ (p : Addr) (a b c lo hi : Int), vs = [.ref p, .int lo, .int hi] ∧ Clk C H p a b c ∧ CkB a b c ∧ ∀ g, IsGcd g a b → (hi < lo + (c - lo) % g → Q .non H) ∧
  (lo + (c - lo) % g ≤ hi → ∀ H' y, Same H H' → H' y = some (.tup [.int (lo + (c - lo) % g), .int (hi - (hi - c) % g)]) → Q (.ref y) H')
theorem ok_ends_of {f : Addr} {fd : FuncData} (F : Fun K "ends_of" "ends_of" s_ends_of f fd) (T : Txt K mg C) (D_common : MethOk P w K mg base C 2 "common" ["self"] (sp_common C)) : FnOk P w K mg base CX0 3 f fd ["clock", "low", "high"] (sp_ends C) := by
  refine F.ok sc_ends_of (fun vs H Q E h => ?_) (fun cdv A outer s H vs Q E hr h => ?_)
  · obtain ⟨p, a, b, c, lo, hi, rfl, _⟩ := h
    rfl
  · obtain ⟨p, a, b, c, lo, hi, rfl, ⟨dx, hp⟩, ⟨n1, n2, n3, n4, n5, n6⟩, q⟩ := h
    refine ⟨_, (pss_cons (ps_set (i := 3) sc_ends_of.nd rfl (.inl rfl) (pml0 D_common T.cl (pv 0) hr))
      (pss_cons (ps_set (i := 4) sc_ends_of.nd rfl (.inl rfl) (pe_op op_add (pv 1) (pe_op op_mod (pe_op op_sub (pe_fld (pv 0) rfl) (pv 1)) (pv 3))))
      (pss_one (ps_ret (pe_ifExp (pt_cmpR op_gt (pv 4) (pv 2) (nomark _)) pe_non (pe_tup (pa_cons (pv 4) (pa_cons (pe_op op_sub (pv 2) (pe_op op_mod (pe_op op_sub (pv 2) (pe_fld (pv 0) rfl)) (pv 3))) pa_nil)))))))), ?_⟩
    refine ⟨_, rfl, p, dx, _, rfl, hp, lk_common, p, a, b, c, rfl, ⟨dx, hp⟩, by omega, by omega, fun g G => ?_⟩
    have g0 := isGcd_pos G (show 0 < b by omega)
    obtain ⟨q1, q2⟩ := q g G
    refine ⟨_, rfl, _, rfl, p, C, dx, _, _, rfl, hp, T.cl, T.nS, lk_s, _, rfl, _, _, rfl, rfl, _, rfl, _, _, rfl, rfl, g0, _, _, rfl, rfl, ?_⟩
    refine ⟨_, rfl, _, rfl, _, _, rfl, rfl, _, rfl, iteD (fun e => ?_) (fun e => ?_)⟩
    · exact q1 e
    · refine ⟨_, rfl, _, rfl, _, rfl, _, rfl, p, C, dx, _, _, rfl, hp, T.cl, T.nS, lk_s, _, _, rfl, rfl, _, rfl, _, _, rfl, rfl, g0, _, _, rfl, rfl, by show 2 ≤ sizeLine; decide, fun y ny => ?_⟩
      exact q2 (by omega) _ y (same_upd ny) upd_same
abbrev s_steps_within : Stmt := topS 38
abbrev N_steps_within : List Str := ["clock", "reach", "k1", "d1", "k2", "d2", "many"]
theorem sc_steps_within : FnScope N_steps_within ["clock", "reach"] (defScope s_steps_within) := ⟨rfl, rfl, rfl, by decide +kernel, rfl, by decide +kernel, by decide +kernel⟩
def sp_within (C : Addr) : Sp := fun vs H Q _ => ∃ (p : Addr) (a b c reach g : Int), vs = [.ref p, .int reach] ∧ Clk C H p a b c ∧ CkB a b c ∧ IsGcd g a b ∧ g ∣ reach ∧ 0 < reach ∧ reach < b ∧
  ∀ H' y k1 d1 k2 d2, Same H H' → H' y = some (.tup [.int k1, .int d1, .int k2, .int d2]) → Within a b g reach k1 d1 k2 d2 → Q (.ref y) H'
theorem max_is {x : Int} : (if x > 1 then x else 1) = max 1 x := by
  by_cases h : x > 1
  · rw [if_pos h]; omega
  · rw [if_neg h]; omega
theorem ok_steps_within {f : Addr} {fd : FuncData} (F : Fun K "steps_within" "steps_within" s_steps_within f fd) (T : Txt K mg C) (B : Bn mg) (D_steps_to : DefOk P w K mg base 1 "steps_to" ["up", "down", "many"] sp_steps_to) : FnOk P w K mg base CX0 2 f fd ["clock", "reach"] (sp_within C) := by
  refine F.ok sc_steps_within (fun vs H Q E h => ?_) (fun cdv A outer s H vs Q E hr h => ?_)
  · obtain ⟨p, a, b, c, n, g, rfl, _⟩ := h
    rfl
  · obtain ⟨p, a, b, c, n, g, rfl, ⟨dx, hp⟩, N, G, gd, h0, h1, q⟩ := h
    obtain ⟨n1, n2, n3, n4, n5, n6⟩ := N
    have ap := gcd_ne G gd h0 h1
    have g0 := isGcd_pos G (show 0 < b by omega)
    have gn := Int.le_of_dvd h0 gd
    have B0 := cut_begin (show 0 < b by omega) ap G h1
    have r0 := Int.emod_nonneg a (show b ≠ 0 by omega)
    have r1 := Int.emod_lt_of_pos a (show 0 < b by omega)
    refine ⟨_, (pss_cons (ps_asg (pe_tup (pa_cons pe_int (pa_cons (pe_op op_mod (pe_fld (pv 0) rfl) (pe_fld (pv 0) rfl)) (pa_cons pe_int (pa_cons (pe_op op_sub (pe_fld (pv 0) rfl) (pe_op op_mod (pe_fld (pv 0) rfl) (pe_fld (pv 0) rfl))) pa_nil))))) (pg_tup rfl (pgs_cons (pg_name (i := 2) sc_steps_within.nd rfl (.inl rfl)) (pgs_cons (pg_name (i := 3) sc_steps_within.nd rfl (.inl rfl)) (pgs_cons (pg_name (i := 4) sc_steps_within.nd rfl (.inl rfl)) (pgs_cons (pg_name (i := 5) sc_steps_within.nd rfl (.inl rfl)) pgs_nil))))))
      (pss_cons (ps_while PassesOwn.never (PW.pt (pw_or (pt_cmpR op_gt (pv 3) (pv 1) (nomark _)) (pw_or1 (pt_cmpR op_gt (pv 5) (pv 1) (nomark _))))) (pss_one (ps_if (pt_cmpR op_gt (pv 3) (pv 5) (nomark _)) (pss_cons (ps_set (i := 6) sc_steps_within.nd rfl (.inl rfl) (pcl D_steps_to hr (pa_cons (pv 3) (pa_cons (pv 5) (pa_cons (pe_callB (call_max2 rfl) (by rfl) B.max bo_max (pa_cons pe_int (pa_cons (pe_op op_fdivW (pe_op op_sub (pe_op op_add (pe_op op_sub (pv 3) (pv 1)) (pv 5)) pe_int) (pv 5)) pa_nil))) pa_nil)))))
      (pss_one (ps_par (i := 2) (j := 3) rfl sc_steps_within.nd rfl rfl (by decide) rfl rfl (pa_cons (pe_op op_add (pv 2) (pe_op op_mulW (pv 6) (pv 4))) (pa_cons (pe_op op_sub (pv 3) (pe_op op_mulW (pv 6) (pv 5))) pa_nil)) (by rfl)))) (pss_cons (ps_set (i := 6) sc_steps_within.nd rfl (.inl rfl) (pcl D_steps_to hr (pa_cons (pv 5) (pa_cons (pv 3) (pa_cons (pe_callB (call_max2 rfl) (by rfl) B.max bo_max (pa_cons pe_int (pa_cons (pe_op op_fdivW (pe_op op_sub (pe_op op_add (pe_op op_sub (pv 5) (pv 1)) (pv 3)) pe_int) (pv 3)) pa_nil))) pa_nil)))))
      (pss_one (ps_par (i := 4) (j := 5) rfl sc_steps_within.nd rfl rfl (by decide) rfl rfl (pa_cons (pe_op op_add (pv 4) (pe_op op_mulW (pv 6) (pv 2))) (pa_cons (pe_op op_sub (pv 5) (pe_op op_mulW (pv 6) (pv 3))) pa_nil)) (by rfl)))))))
      (pss_one (ps_ret (pe_tup (pa_cons (pv 2) (pa_cons (pv 3) (pa_cons (pv 4) (pa_cons (pv 5) pa_nil))))))))), ?_⟩
    refine ⟨_, rfl, p, C, dx, _, _, rfl, hp, T.cl, T.nP, lk_p, _, rfl, p, C, dx, _, _, rfl, hp, T.cl, T.nR, lk_r, _, _, rfl, rfl, by omega, ?_⟩
    refine ⟨_, rfl, p, C, dx, _, _, rfl, hp, T.cl, T.nR, lk_r, _, rfl, p, C, dx, _, _, rfl, hp, T.cl, T.nP, lk_p, _, rfl, p, C, dx, _, _, rfl, hp, T.cl, T.nR, lk_r, _, _, rfl, rfl, by omega, _, _, rfl, rfl, ?_⟩
    refine ⟨by show 4 ≤ sizeLine; decide, fun y ny => ?_⟩
    refine ⟨y, _, rfl, .inl (.inl upd_same), rfl, _, _, rfl, _, _, rfl, _, _, rfl, _, _, rfl, rfl, ?_⟩
    have s1 := same_upd (o := .tup [.int 1, .int (a % b), .int 1, .int (b - a % b)]) ny
    generalize hH1 : upd H y (.tup [.int 1, .int (a % b), .int 1, .int (b - a % b)]) = H1 at s1 ⊢
    refine ⟨fun m σ H' => H' = H1 ∧ ∃ (k1 d1 k2 d2 : Int) (x6 : Option V), σ = [some (.ref p), some (.int n), some (.int k1), some (.int d1), some (.int k2), some (.int d2), x6] ∧ Cut a b g k1 d1 k2 d2 n ∧ m = (d1 + d2).toNat,
      ⟨_, rfl, _, _, _, _, none, rfl, B0, rfl⟩, ?_⟩
    rintro m σ H' ⟨rfl, k1, d1, k2, d2, x6, rfl, Nr, rfl⟩
    have g1 := Nr.near.pk1
    have g2 := Nr.near.pk2
    have g3 := Nr.near.pd1
    have g4 := Nr.near.pd2
    obtain ⟨sm1, sm⟩ := near_bd Nr.near
    refine ⟨_, rfl, _, rfl, _, _, rfl, rfl, _, rfl, iteD (fun e => ?A) (fun e => ⟨_, rfl, _, rfl, _, _, rfl, rfl, _, rfl, iteD (fun e2 => ?B) (fun e2 => ?C)⟩)⟩
    case C =>
      refine ⟨_, rfl, _, rfl, _, rfl, _, rfl, by show 4 ≤ sizeLine; decide, fun z nz => ?_⟩
      exact q _ z k1 d1 k2 d2 (s1.trans (same_upd nz)) upd_same ⟨Nr.near, by omega, by omega, Nr.far, Nr.g1, Nr.g2⟩
    all_goals
      have far : n < d1 ∨ n < d2 := by omega
      first | refine iteT ⟨(fun σ' H'' => ∃ m', m' < (d1 + d2).toNat ∧ (H'' = H' ∧ ∃ (k1 d1 k2 d2 : Int) (x6 : Option V), σ' = [some (.ref p), some (.int n), some (.int k1), some (.int d1), some (.int k2), some (.int d2), x6] ∧ Cut a b g k1 d1 k2 d2 n ∧ m' = (d1 + d2).toNat)), fun _ _ h => h, ?_⟩ | refine ⟨(fun σ' H'' => ∃ m', m' < (d1 + d2).toNat ∧ (H'' = H' ∧ ∃ (k1 d1 k2 d2 : Int) (x6 : Option V), σ' = [some (.ref p), some (.int n), some (.int k1), some (.int d1), some (.int k2), some (.int d2), x6] ∧ Cut a b g k1 d1 k2 d2 n ∧ m' = (d1 + d2).toNat)), fun _ _ h => h, ?_⟩
      refine ⟨_, rfl, _, rfl, _, _, rfl, rfl, _, rfl, iteD (fun e1 => ?_) (fun e1 => ?_)⟩
      · have dv := divB (i := d1 - n + d2 - 1) (show 0 < d2 by omega) ⟨by omega, by omega⟩
        refine ⟨_, rfl, _, rfl, _, rfl, _, rfl, _, _, rfl, rfl, _, rfl, _, _, rfl, rfl, _, _, rfl, rfl, _, rfl, _, _, rfl, rfl, dv, _, _, rfl, d1, d2, _, rfl, by omega, ⟨by omega, by omega⟩, ?_⟩
        rw [max_is]
        generalize hm : min (max 1 ((d1 - n + d2 - 1) / d2)) ((d1 - 1) / d2) = m
        obtain ⟨m1, C1⟩ := cut_up Nr e1 far hm.symm
        have m4 : m ≤ d1 := by
          have := Int.ediv_le_self (a := d1 - 1) d2 (by omega)
          omega
        refine ⟨_, rfl, _, rfl, _, rfl, _, _, rfl, rfl, mulB ⟨by omega, by omega⟩ ⟨by omega, by omega⟩, _, _, rfl, rfl, _, rfl, _, rfl, _, rfl, _, _, rfl, rfl, mulB ⟨by omega, by omega⟩ ⟨by omega, by omega⟩, _, _, rfl, rfl, _, _, rfl, ?_⟩
        have mp : 0 < m * d2 := Int.mul_pos (by omega) (by omega)
        have q1 := C1.near.pd1
        exact ⟨_, by omega, rfl, _, _, _, _, _, rfl, C1, rfl⟩
      · have dv := divB (i := d2 - n + d1 - 1) (show 0 < d1 by omega) ⟨by omega, by omega⟩
        refine ⟨_, rfl, _, rfl, _, rfl, _, rfl, _, _, rfl, rfl, _, rfl, _, _, rfl, rfl, _, _, rfl, rfl, _, rfl, _, _, rfl, rfl, dv, _, _, rfl, d2, d1, _, rfl, by omega, ⟨by omega, by omega⟩, ?_⟩
        rw [max_is]
        generalize hm : min (max 1 ((d2 - n + d1 - 1) / d1)) ((d2 - 1) / d1) = m
        obtain ⟨m1, C1⟩ := cut_dn Nr g0 gn e1 far hm.symm
        have m4 : m ≤ d2 := by
          have := Int.ediv_le_self (a := d2 - 1) d1 (by omega)
          omega
        refine ⟨_, rfl, _, rfl, _, rfl, _, _, rfl, rfl, mulB ⟨by omega, by omega⟩ ⟨by omega, by omega⟩, _, _, rfl, rfl, _, rfl, _, rfl, _, rfl, _, _, rfl, rfl, mulB ⟨by omega, by omega⟩ ⟨by omega, by omega⟩, _, _, rfl, rfl, _, _, rfl, ?_⟩
        have mp : 0 < m * d1 := Int.mul_pos (by omega) (by omega)
        have q1 := C1.near.pd2
        exact ⟨_, by omega, rfl, _, _, _, _, _, rfl, C1, rfl⟩
end
end Ck

namespace Ck
open PySem PySem.Spec PyProof.Rows L2
section
variable {P : Program} {w : World} {K : PySem.W.Frag} {mg : Str → Option Value} {base : Heap} {C : Addr}
abbrev s_paper_of : Stmt := topS 39
abbrev N_paper_of : List Str := ["clock", "low", "high", "ends"]
theorem sc_paper_of : FnScope N_paper_of ["clock", "low", "high"] (defScope s_paper_of) := ⟨rfl, rfl, rfl, by decide +kernel, rfl, by decide +kernel, by decide +kernel⟩
def sp_paper_of (C : Addr) : Sp := fun vs H Q _ => ∃ (p : Addr) (a b c lo hi : Int), vs = [.ref p, .int lo, .int hi] ∧ Clk C H p a b c ∧ CkB a b c ∧ 0 ≤ lo ∧ lo ≤ hi ∧ hi < b ∧ ∀ g, IsGcd g a b →
  (hi < lo + (c - lo) % g → Q .non H) ∧
  (lo + (c - lo) % g ≤ hi → lo + (c - lo) % g = hi - (hi - c) % g → ∀ H' y, Same H H' → H' y = some (.tup [.str "one", .int (b / g)]) → Q (.ref y) H') ∧
  (lo + (c - lo) % g ≤ hi → lo + (c - lo) % g < hi - (hi - c) % g → ∀ H' y k1 d1 k2 d2, Same H H' → H' y = some (.tup [.str "two", .int k1, .int d1, .int k2, .int d2]) → Within a b g (hi - (hi - c) % g - (lo + (c - lo) % g)) k1 d1 k2 d2 → Q (.ref y) H')
theorem ok_paper_of {f : Addr} {fd : FuncData} (F : Fun K "paper_of" "paper_of" s_paper_of f fd) (T : Txt K mg C) (D_ends_of : DefOk P w K mg base 3 "ends_of" ["clock", "low", "high"] (sp_ends C)) (D_period_of : DefOk P w K mg base 3 "period_of" ["clock"] (sp_period C))
    (D_steps_within : DefOk P w K mg base 2 "steps_within" ["clock", "reach"] (sp_within C)) : FnOk P w K mg base CX0 4 f fd ["clock", "low", "high"] (sp_paper_of C) := by
  refine F.ok sc_paper_of (fun vs H Q E h => ?_) (fun cdv A outer s H vs Q E hr h => ?_)
  · obtain ⟨p, a, b, c, lo, hi, rfl, _⟩ := h
    rfl
  · obtain ⟨p, a, b, c, lo, hi, rfl, hp, N, h1, h2, h3, q⟩ := h
    have N' := N
    obtain ⟨n1, n2, n3, n4, n5, n6⟩ := N'
    refine ⟨_, (pss_cons (ps_set (i := 3) sc_paper_of.nd rfl (.inl rfl) (pcl D_ends_of hr (pa_cons (pv 0) (pa_cons (pv 1) (pa_cons (pv 2) pa_nil)))))
      (pss_cons (ps_if (pt_cmpR op_isN (pv 3) pe_non (nomark _)) (pss_one (ps_ret pe_non)) pss_nil)
      (pss_cons (ps_if (pt_cmpR op_eq (pe_ix ix_tup (pv 3) pe_int (fun _ _ => rfl)) (pe_ix ix_tup (pv 3) pe_int (fun _ _ => rfl)) (nomark _)) (pss_one (ps_ret (pe_tup (pa_cons pe_str (pa_cons (pcl D_period_of hr (pa_cons (pv 0) pa_nil)) pa_nil))))) pss_nil)
      (pss_one (ps_ret (pe_op op_catT (pe_tup (pa_cons pe_str pa_nil)) (pcl D_steps_within hr (pa_cons (pv 0) (pa_cons (pe_op op_sub (pe_ix ix_tup (pv 3) pe_int (fun _ _ => rfl)) (pe_ix ix_tup (pv 3) pe_int (fun _ _ => rfl))) pa_nil))))))))), ?_⟩
    refine ⟨_, rfl, _, rfl, _, rfl, p, a, b, c, lo, hi, rfl, hp, N, fun g G => ⟨fun no => ?_, fun yes H1 y s1 hy => ?_⟩⟩
    · obtain ⟨q1, _, _⟩ := q g G
      refine ⟨_, rfl, rfl, _, rfl, iteT ?_⟩
      exact q1 no
    · obtain ⟨_, q2, q3⟩ := q g G
      have g0 := isGcd_pos G (show 0 < b by omega)
      obtain ⟨f1, f2, f3⟩ := ends_facts g0 yes
      have hq : SqT K H1 y [.int (lo + (c - lo) % g), .int (hi - (hi - c) % g)] := .inl (.inl hy)
      refine ⟨_, rfl, rfl, _, rfl, iteF ?_⟩
      refine ⟨_, rfl, y, _, 0, _, rfl, rfl, hq, rfl, _, rfl, y, _, 1, _, rfl, rfl, hq, rfl, rfl, _, rfl, iteVD (fun e => ?_) (fun e => ?_)⟩
      · refine ⟨_, rfl, p, a, b, c, rfl, hp.same s1, N, fun g' G' => ?_⟩
        obtain rfl := isGcd_uniq G G'
        refine ⟨by show 2 ≤ sizeLine; decide, fun z nz => ?_⟩
        exact q2 yes e _ z (s1.trans (same_upd nz)) upd_same
      · refine ⟨by show 1 ≤ sizeLine; decide, fun z nz => ?_⟩
        have s2 : Same H1 (upd H1 z (.tup [.str "two"])) := same_upd nz
        have hz : upd H1 z (.tup [.str "two"]) z = some (.tup [.str "two"]) := upd_same
        generalize upd H1 z (.tup [.str "two"]) = H2 at s2 hz ⊢
        have hq : SqT K H2 y [.int (lo + (c - lo) % g), .int (hi - (hi - c) % g)] := .inl (.inl (s2 _ _ hy))
        refine ⟨_, rfl, _, rfl, y, _, 1, _, rfl, rfl, hq, rfl, _, rfl, y, _, 0, _, rfl, rfl, hq, rfl, _, _, rfl, rfl, ?_⟩
        refine ⟨p, a, b, c, _, g, rfl, (hp.same s1).same s2, N, G, f1, by omega, by omega, fun H3 u k1 d1 k2 d2 s3 hu W => ?_⟩
        refine ⟨z, u, _, _, rfl, rfl, .inl (.inl (s3 _ _ hz)), .inl (.inl hu), by simp, by show 1 + 4 ≤ sizeLine; decide, (fun z => nomatch z), fun _ v nv => ?_⟩
        exact q3 yes (by omega) _ v k1 d1 k2 d2 (((s1.trans s2).trans s3).trans (same_upd nv)) upd_same W
abbrev s_waits : Stmt := topS 40
abbrev N_waits : List Str := ["clock", "low", "high", "paper", "k1", "d1", "k2", "d2", "common", "ends", "rests", "counts", "found", "wait", "many"]
theorem sc_waits : FnScope N_waits ["clock", "low", "high"] (defScope s_waits) := ⟨rfl, rfl, rfl, by decide +kernel, rfl, by decide +kernel, by decide +kernel⟩
/-- a list of pairs at y -/
def Told (H : Hp) (y : Addr) (told : List (Int × Int)) : Prop := ∃ zs : List (Addr × (Int × Int)), H y = some (.lst (zs.map fun z => V.ref z.1)) ∧ (∀ z ∈ zs, H z.1 = some (.tup [.int z.2.1, .int z.2.2])) ∧ told = zs.map (·.2)
def sp_waits (C : Addr) : Sp := fun vs H Q _ => ∃ (p : Addr) (a b c lo hi : Int), vs = [.ref p, .int lo, .int hi] ∧ Clk C H p a b c ∧ CkB a b c ∧ 0 ≤ lo ∧ lo ≤ hi ∧ hi < b ∧ ∀ H' y told, Same H H' → H y = none → Told H' y told → WaitsR a b c lo hi told → Q (.ref y) H'
theorem none_of {H H' : Hp} {u : Addr} (s : Same H H') (n : H' u = none) : H u = none := by
  cases hu : H u with
  | none => rfl
  | some o => rw [s _ _ hu] at n; cases n
theorem stepS {H H1 : Hp} {t t2 : Addr} {o : HO} (s : Same H H1) (n1 : H1 t = none) (n2 : upd H1 t o t2 = none) : Same H (upd H1 t o) := s.trans (same_upd n1)
theorem updS {H1 : Hp} {t t2 : Addr} {o : HO} (n2 : upd H1 t o t2 = none) : upd H1 t o t = some o := upd_same
theorem updS' {H1 : Hp} {b : Addr} {o : HO} (s : Same H1 (upd H1 b o)) : upd H1 b o b = some o := upd_same
theorem lt_units {n : Nat} (h : n + 64 < cLine) : n + 1 < cLine := by omega
theorem getI_entK (l : List (Int × Int)) (k : Int) : valV (l.map entK) (Sum.inl k : Key) = (getI l k).map V.int := by
  induction l with
  | nil => rfl
  | cons e l ih =>
    by_cases z : e.1 = k
    · rw [List.map_cons, valV_pos (by rw [← z]), show getI (e :: l) k = some e.2 by simp [getI, z]]
      rfl
    · rw [List.map_cons, valV_neg (fun y => z (Sum.inl.inj y)), ih, show getI (e :: l) k = getI l k by simp [getI, z]]
theorem putI_entK (l : List (Int × Int)) (k v : Int) : putK (l.map entK) (Sum.inl k : Key) (V.int v) = (putI l k v).map entK := by
  have e1 : ((l.map entK).any fun kv => decide (kv.1 = (Sum.inl k : Key))) = l.any fun e => decide (e.1 = k) := by
    rw [List.any_map]
    refine congrArg (List.any l) (funext fun e => ?_)
    show decide ((Sum.inl e.1 : Key) = Sum.inl k) = _
    simp
  unfold putK putI
  rw [e1]
  split
  · rw [List.map_map, List.map_map]
    refine List.map_congr_left fun e _ => ?_
    show (if (Sum.inl e.1 : Key) = Sum.inl k then _ else _) = entK (if e.1 = k then _ else _)
    by_cases z : e.1 = k
    · rw [if_pos z, if_pos (by rw [z])]
    · rw [if_neg z, if_neg fun y => z (Sum.inl.inj y)]
  · rw [List.map_append]
    rfl
theorem addI_len (l : List (Int × Int)) (e : Int × Int) : (addI l e).length ≤ l.length + 1 := by
  unfold addI putI
  split
  · split
    · rw [List.length_map]; omega
    · rw [List.length_append]; simp
  · omega
theorem fold_len (cs : List (Int × Int)) : ∀ l, (cs.foldl addI l).length ≤ l.length + cs.length := by
  induction cs with
  | nil => intro l; simp
  | cons e cs ih =>
    intro l
    have h1 := ih (addI l e)
    have h2 := addI_len l e
    rw [List.foldl_cons, List.length_cons]
    omega
theorem ok_waits {f : Addr} {fd : FuncData} (F : Fun K "waits" "waits" s_waits f fd) (T : Txt K mg C) (B : Bn mg) (D_need_range : DefOk P w K mg base 3 "need_range" ["clock", "low", "high"] (sp_need_range C)) (D_common : MethOk P w K mg base C 2 "common" ["self"] (sp_common C))
    (D_ends_of : DefOk P w K mg base 3 "ends_of" ["clock", "low", "high"] (sp_ends C)) (D_paper_of : DefOk P w K mg base 4 "paper_of" ["clock", "low", "high"] (sp_paper_of C)) : FnOk P w K mg base CX0 5 f fd ["clock", "low", "high"] (sp_waits C) := by
  refine F.ok sc_waits (fun vs H Q E h => ?_) (fun cdv A outer s H vs Q E hr h => ?_)
  · obtain ⟨p, a, b, c, lo, hi, rfl, _⟩ := h
    rfl
  · obtain ⟨p, a, b, c, lo, hi, rfl, hp, N, h1, h2, h3, q⟩ := h
    have N' := N
    obtain ⟨n1, n2, n3, n4, n5, n6⟩ := N'
    have hu := lt_units hr.units
    refine ⟨_, (pss_cons (ps_expr (pcl D_need_range hr (pa_cons (pv 0) (pa_cons (pv 1) (pa_cons (pv 2) pa_nil)))))
      (pss_cons (ps_set (i := 3) sc_waits.nd rfl (.inl rfl) (pcl D_paper_of hr (pa_cons (pv 0) (pa_cons (pv 1) (pa_cons (pv 2) pa_nil)))))
      (pss_cons (ps_if (pt_cmpR op_isN (pv 3) pe_non (nomark _)) (pss_one (ps_ret (pe_lst pa_nil))) pss_nil)
      (pss_cons (ps_if (pt_cmpR op_eq (pe_ix ix_tup (pv 3) pe_int (fun _ _ => rfl)) pe_str (nomark _)) (pss_one (ps_ret (pe_lst (pa_cons (pe_tup (pa_cons (pe_ix ix_tup (pv 3) pe_int (fun _ _ => rfl)) (pa_cons pe_int pa_nil))) pa_nil)))) pss_nil)
      (pss_cons (ps_asg (pe_slice sl_tup (pv 3) (po_some pe_int) po_none) (pg_tup rfl (pgs_cons (pg_name (i := 4) sc_waits.nd rfl (.inl rfl)) (pgs_cons (pg_name (i := 5) sc_waits.nd rfl (.inl rfl)) (pgs_cons (pg_name (i := 6) sc_waits.nd rfl (.inl rfl)) (pgs_cons (pg_name (i := 7) sc_waits.nd rfl (.inl rfl)) pgs_nil))))))
      (pss_cons (ps_par (i := 8) (j := 9) rfl sc_waits.nd rfl rfl (by decide) rfl rfl (pa_cons (pml0 D_common T.cl (pv 0) hr) (pa_cons (pcl D_ends_of hr (pa_cons (pv 0) (pa_cons (pv 1) (pa_cons (pv 2) pa_nil)))) pa_nil)) (by rfl))
      (pss_cons (ps_set (i := 10) sc_waits.nd rfl (.inl rfl) (pe_op op_add (pe_op op_fdivW (pe_op op_sub (pe_ix ix_tup (pv 9) pe_int (fun _ _ => rfl)) (pe_ix ix_tup (pv 9) pe_int (fun _ _ => rfl))) (pv 8)) pe_int))
      (pss_cons (ps_set (i := 11) sc_waits.nd rfl (.inl rfl) (pe_lst (pa_cons (pe_tup (pa_cons (pv 4) (pa_cons (pe_op op_sub (pv 10) (pe_op op_fdivW (pv 5) (pv 8))) pa_nil))) (pa_cons (pe_tup (pa_cons (pv 6) (pa_cons (pe_op op_sub (pv 10) (pe_op op_fdivW (pv 7) (pv 8))) pa_nil))) (pa_cons (pe_tup (pa_cons (pe_op op_add (pv 4) (pv 6)) (pa_cons (pe_op op_sub (pe_op op_fdivW (pe_op op_add (pv 5) (pv 7)) (pv 8)) (pv 10)) pa_nil))) pa_nil)))))
      (pss_cons (ps_set (i := 12) sc_waits.nd rfl (.inl rfl) pe_dnewK)
      (pss_cons (ps_for PassesOwn.never rfl (pi_list (pv 11)) (pg_tup rfl (pgs_cons (pg_name (i := 13) sc_waits.nd rfl (.inl rfl)) (pgs_cons (pg_name (i := 14) sc_waits.nd rfl (.inl rfl)) pgs_nil))) (pss_one (ps_if (pt_cmpR op_gt (pv 14) pe_int (nomark _)) (pss_one (ps_dput hu (pv 12) (pv 13) (pe_op op_add (pe_dget2 hu (pv 12) (pv 13) pe_int ⟨rfl, rfl, rfl, rfl⟩) (pv 14)) rfl)) pss_nil)))
      (pss_one (ps_ret (pe_callB (cr_sortK rfl) (by rfl) B.sorted bo_sorted (pa_cons (pe_bm0 PySem.F.plainAttrs_dict PySem.F.slot_dict_items PySem.F.type_dict_items mt_itemsK (pv 12)) pa_nil)))))))))))))), ?_⟩
    refine ⟨_, rfl, _, rfl, _, rfl, p, a, b, c, lo, hi, rfl, hp, h1, h2, h3, ?_⟩
    refine ⟨_, rfl, _, rfl, _, rfl, p, a, b, c, lo, hi, rfl, hp, N, h1, h2, h3, fun g G => ⟨fun no => ?_, fun yes e H1 y s1 hy => ?_, fun yes e H1 y k1 d1 k2 d2 s1 hy W => ?_⟩⟩
    · refine ⟨_, rfl, rfl, _, rfl, iteT ?_⟩
      refine ⟨Nat.zero_le _, fun y ny => ?_⟩
      exact q _ y [] (same_upd ny) ny ⟨[], upd_same, (fun z m => nomatch m), rfl⟩ ⟨g, G, .inl ⟨no, rfl⟩⟩
    · have hq : SqT K H1 y [.str "one", .int (b / g)] := .inl (.inl hy)
      refine ⟨_, rfl, rfl, _, rfl, iteF ?_⟩
      refine ⟨_, rfl, y, _, 0, _, rfl, rfl, hq, rfl, rfl, _, rfl, ?_⟩
      rw [decide_eq_true (show V.str "one" = V.str "one" from rfl)]
      refine iteT ?_
      refine ⟨_, rfl, y, _, 1, _, rfl, rfl, hq, rfl, by show 2 ≤ sizeLine; decide, fun z nz => ⟨by show 1 ≤ sizeLine; decide, fun u nu => ?_⟩⟩
      have s2 := same_upd (o := .tup [.int (b / g), .int 1]) nz
      have hz : upd H1 z (.tup [.int (b / g), .int 1]) z = some (.tup [.int (b / g), .int 1]) := upd_same
      have nu' : H u = none := by
        cases hu : H u with
        | none => rfl
        | some o => rw [s2 _ _ (s1 _ _ hu)] at nu; cases nu
      refine q _ u [(b / g, 1)] ((s1.trans s2).trans (same_upd nu)) nu' ⟨[(z, (b / g, 1))], upd_same, fun x m => ?_, rfl⟩ ⟨g, G, .inr (.inl ⟨yes, e, rfl⟩)⟩
      rw [List.mem_singleton.mp m]
      rw [upd_ne (ne_of_none hz nu)]
      exact hz
    · have g0 := isGcd_pos G (show 0 < b by omega)
      obtain ⟨f1, f2, f3⟩ := ends_facts g0 yes
      obtain ⟨w1, w2, w3, w4, w5, w6, w7⟩ := within_counts g0 f1 W
      have W' := W
      obtain ⟨Nr, _, _, _, _, _⟩ := W'
      obtain ⟨_, sm⟩ := near_bd Nr
      have gb := Int.le_of_dvd (show 0 < b by omega) G.two
      have bg : Bd g := ⟨by omega, by omega⟩
      have hq : SqT K H1 y [.str "two", .int k1, .int d1, .int k2, .int d2] := .inl (.inl hy)
      refine ⟨_, rfl, rfl, _, rfl, iteF ?_⟩
      refine ⟨_, rfl, y, _, 0, _, rfl, rfl, hq, rfl, rfl, _, rfl, iteD (fun z => absurd (V.str.inj z) n_to) (fun _ => ?_)⟩
      refine ⟨_, rfl, _, rfl, y, _, rfl, hq, (fun z => absurd z.1 (by show ¬ (1 : Nat) = 0; decide)), fun z3 nz3 => ?_⟩
      have s2 := same_upd (o := .tup [.int k1, .int d1, .int k2, .int d2]) nz3
      refine ⟨z3, _, rfl, .inl (.inl upd_same), rfl, _, _, rfl, _, _, rfl, _, _, rfl, _, _, rfl, rfl, ?_⟩
      show tSeq _ _ _ _ (upd H1 z3 (.tup [.int k1, .int d1, .int k2, .int d2]))
      generalize upd H1 z3 (.tup [.int k1, .int d1, .int k2, .int d2]) = H2 at s2 ⊢
      obtain ⟨dx, hpx⟩ := (hp.same s1).same s2
      refine ⟨_, rfl, p, dx, _, rfl, hpx, lk_common, p, a, b, c, rfl, ⟨dx, hpx⟩, by omega, by omega, fun g' G' => ?_⟩
      obtain rfl := isGcd_uniq G G'
      refine ⟨_, rfl, _, rfl, _, rfl, p, a, b, c, lo, hi, rfl, ⟨dx, hpx⟩, N, fun g' G' => ?_⟩
      obtain rfl := isGcd_uniq G G'
      refine ⟨fun z => absurd z (by omega), fun _ H3 en s3 hen => ?_⟩
      have hqn : SqT K H3 en [.int (lo + (c - lo) % g), .int (hi - (hi - c) % g)] := .inl (.inl hen)
      refine ⟨_, _, rfl, ?_⟩
      refine ⟨_, rfl, en, _, 1, _, rfl, rfl, hqn, rfl, _, rfl, en, _, 0, _, rfl, rfl, hqn, rfl, _, _, rfl, rfl, _, rfl, _, _, rfl, rfl, divB g0 bg, _, _, rfl, rfl, ?_⟩
      refine ⟨_, rfl, _, rfl, _, rfl, _, rfl, _, _, rfl, rfl, divB g0 bg, _, _, rfl, rfl, by show 2 ≤ sizeLine; decide, fun t1 nt1 => ?_⟩
      refine ⟨_, rfl, _, rfl, _, rfl, _, rfl, _, _, rfl, rfl, divB g0 bg, _, _, rfl, rfl, by show 2 ≤ sizeLine; decide, fun t2 nt2 => ?_⟩
      refine ⟨_, rfl, _, rfl, _, _, rfl, rfl, _, rfl, _, rfl, _, _, rfl, rfl, _, rfl, _, _, rfl, rfl, divB g0 bg, _, rfl, _, _, rfl, rfl, by show 2 ≤ sizeLine; decide, fun t3 nt3 => ?_⟩
      refine ⟨by show 3 ≤ sizeLine; decide, fun L nL => ?_⟩
      refine fun d nd => ?_
      have a1 := s1.trans (s2.trans s3)
      have a2 := stepS a1 nt1 nt2
      have a3 := stepS a2 nt2 nt3
      have a4 := stepS a3 nt3 nL
      have a5 := stepS a4 nL nd
      have a6 := a5.trans (same_upd (o := .dK []) nd)
      have nL0 : H L = none := none_of a4 nL
      have nd0 : H d = none := none_of a5 nd
      have b5 := same_upd (o := .dK []) nd
      have b4 := (stepS (Same.refl _) nL nd).trans b5
      have b3 := (stepS (Same.refl _) nt3 nL).trans b4
      have b2 := (stepS (Same.refl _) nt2 nt3).trans b3
      have x1 : _ = some (HO.tup [.int k1, .int ((hi - (hi - c) % g - (lo + (c - lo) % g)) / g + 1 - d1 / g)]) := b2 t1 _ (updS nt2)
      have x2 : _ = some (HO.tup [.int k2, .int ((hi - (hi - c) % g - (lo + (c - lo) % g)) / g + 1 - d2 / g)]) := b3 t2 _ (updS nt3)
      have x3 : _ = some (HO.tup [.int (k1 + k2), .int ((d1 + d2) / g - ((hi - (hi - c) % g - (lo + (c - lo) % g)) / g + 1))]) := b4 t3 _ (updS nL)
      have x4 : _ = some (HO.lst [.ref t1, .ref t2, .ref t3]) := b5 L _ (updS nd)
      have x5 : _ = some (HO.dK []) := updS' (b := d) b5
      obtain ⟨c1, hc1⟩ : ∃ c1, c1 = (hi - (hi - c) % g - (lo + (c - lo) % g)) / g + 1 - d1 / g := ⟨_, rfl⟩
      obtain ⟨c2, hc2⟩ : ∃ c2, c2 = (hi - (hi - c) % g - (lo + (c - lo) % g)) / g + 1 - d2 / g := ⟨_, rfl⟩
      obtain ⟨c3, hc3⟩ : ∃ c3, c3 = (d1 + d2) / g - ((hi - (hi - c) % g - (lo + (c - lo) % g)) / g + 1) := ⟨_, rfl⟩
      rw [← hc1] at x1 w1
      rw [← hc2] at x2 w2
      rw [← hc3] at x3
      refine ⟨_, rfl, L, rfl, ⟨_, .inl (.inl x4)⟩, ?_⟩
      refine for_list (K := K) (xs := [V.ref t1, V.ref t2, V.ref t3]) (fun i σ H' => Same H H' ∧ H' L = some (.lst [.ref t1, .ref t2, .ref t3]) ∧ H' t1 = some (.tup [.int k1, .int c1]) ∧ H' t2 = some (.tup [.int k2, .int c2]) ∧ H' t3 = some (.tup [.int (k1 + k2), .int c3]) ∧
        H' d = some (.dK ((([(k1, c1), (k2, c2), (k1 + k2, c3)].take i).foldl addI []).map entK)) ∧
        ∃ y13 y14 : Option V, σ = [some (.ref p), some (.int lo), some (.int hi), some (.ref y), some (.int k1), some (.int d1), some (.int k2), some (.int d2), some (.int g), some (.ref en), some (.int ((hi - (hi - c) % g - (lo + (c - lo) % g)) / g + 1)), some (.ref L), some (.ref d), y13, y14]) ?_ ?_ ?_ ?_
      · exact ⟨a6, x4, x1, x2, x3, x5, none, none, rfl⟩
      · rintro i σ H' hi ⟨_, z, _⟩
        exact .inl (.inl z)
      · rintro i x σ H' hx ⟨v1, v2, v3, v4, v5, v6, y13, y14, rfl⟩
        have at_ : ∃ (t : Addr) (e : Int × Int), x = .ref t ∧ H' t = some (.tup [.int e.1, .int e.2]) ∧ [(k1, c1), (k2, c2), (k1 + k2, c3)].take (i + 1) = [(k1, c1), (k2, c2), (k1 + k2, c3)].take i ++ [e] ∧ i < 3 := by
          match i, hx with
          | 0, hx => exact ⟨t1, (k1, c1), (Option.some.inj hx).symm, v3, rfl, by omega⟩
          | 1, hx => exact ⟨t2, (k2, c2), (Option.some.inj hx).symm, v4, rfl, by omega⟩
          | 2, hx => exact ⟨t3, (k1 + k2, c3), (Option.some.inj hx).symm, v5, rfl, by omega⟩
          | n + 3, hx => cases hx
        obtain ⟨t, ⟨k, v⟩, rfl, ht, htake, hi3⟩ := at_
        have hfold : ([(k1, c1), (k2, c2), (k1 + k2, c3)].take (i + 1)).foldl addI [] = addI (([(k1, c1), (k2, c2), (k1 + k2, c3)].take i).foldl addI []) (k, v) := by
          rw [htake, List.foldl_append]
          rfl
        have hlen := fold_len ([(k1, c1), (k2, c2), (k1 + k2, c3)].take i) []
        rw [List.length_take] at hlen
        generalize ([(k1, c1), (k2, c2), (k1 + k2, c3)].take i).foldl addI [] = acc at v6 hfold hlen
        rw [hfold]
        refine ⟨t, _, rfl, .inl (.inl ht), rfl, _, _, rfl, _, _, rfl, rfl, ?_⟩
        refine ⟨_, rfl, _, _, rfl, rfl, _, rfl, iteD (fun e2 => ?_) (fun e2 => ?_)⟩
        · have e2 : 0 < v := e2
          refine ⟨_, rfl, d, rfl, .inl ⟨_, .inl v6⟩, _, rfl, _, DGet.k (k := (Sum.inl k : Key)) v6, ?_⟩
          rw [getI_entK]
          refine ⟨_, rfl, (getI acc k).getD 0, v, by cases getI acc k <;> rfl, rfl, ?_⟩
          refine ⟨_, rfl, _, rfl, d, _, rfl, DPut.k (k := (Sum.inl k : Key)) v6 ?_, ?_⟩
          · rw [List.length_map]
            exact small1000' (by simp at hlen; omega)
          · rw [putI_entK]
            have hadd : addI acc (k, v) = putI acc k ((getI acc k).getD 0 + v) := if_pos e2
            rw [hadd]
            have ne : ∀ {q : Addr} {o : HO}, H' q = some o → (∀ kvs, o ≠ .dK kvs) → upd H' d (.dK ((putI acc k ((getI acc k).getD 0 + v)).map entK)) q = some o := fun {q o} h1 h2 => by
              rw [upd_ne (ne_of h1 v6 (h2 _))]
              exact h1
            refine ⟨fun q o e3 => ?_, ne v2 (fun _ z => nomatch z), ne v3 (fun _ z => nomatch z), ne v4 (fun _ z => nomatch z), ne v5 (fun _ z => nomatch z), upd_same, _, _, rfl⟩
            have : q ≠ d := fun z => by rw [z, nd0] at e3; cases e3
            rw [upd_ne this]
            exact v1 _ _ e3
        · have hadd : addI acc (k, v) = acc := if_neg e2
          rw [hadd]
          exact ⟨v1, v2, v3, v4, v5, v6, _, _, rfl⟩
      · rintro σ H' ⟨v1, v2, v3, v4, v5, v6, y13, y14, rfl⟩
        refine ⟨_, rfl, (.inr (.inr (.inl ⟨rfl, .inl ⟨_, v6⟩⟩))), d, _, rfl, rfl, v6, fun it nit => ?_⟩
        have di : d ≠ it := ne_of_none v6 nit
        refine ⟨it, d, _, rfl, upd_same, by rw [upd_ne di]; exact v6, ?_⟩
        intro H5 l zs s5 perm pw nl hl hz
        have nl0 : H l = none := none_of (v1.trans (same_upd nit)) nl
        refine q H5 l _ ((v1.trans (same_upd nit)).trans s5) nl0 ⟨zs, hl, hz, rfl⟩ ⟨g, G, .inr (.inr ⟨yes, e, k1, d1, k2, d2, W, ?_⟩)⟩
        have := told_is Nr.pk1 Nr.pk2 w1 w2 perm pw
        rw [this, hc1, hc2, hc3]
        rfl
abbrev s_first_same : Stmt := topS 41
abbrev N_first_same : List Str := ["clock"]
theorem sc_first_same : FnScope N_first_same ["clock"] (defScope s_first_same) := ⟨rfl, rfl, rfl, by decide +kernel, rfl, by decide +kernel, by decide +kernel⟩
def sp_first_same (C : Addr) : Sp := fun vs H Q _ => ∃ (p : Addr) (a b c : Int), vs = [.ref p] ∧ Clk C H p a b c ∧ CkB a b c ∧ a < b ∧ ∀ H' o, Same H H' → FirstIn a b c 0 (b - a - 1) o → Q (optV o) H'
theorem ok_first_same {f : Addr} {fd : FuncData} (F : Fun K "first_same" "first_same" s_first_same f fd) (T : Txt K mg C) (D_need_clock : DefOk P w K mg base 1 "need_clock" ["clock"] (sp_need_clock C)) (D_first_at : DefOk P w K mg base 2 "first_at" ["clock", "low", "high"] (sp_first_at C)) :
    FnOk P w K mg base CX0 3 f fd ["clock"] (sp_first_same C) := by
  refine F.ok sc_first_same (fun vs H Q E h => ?_) (fun cdv A outer s H vs Q E hr h => ?_)
  · obtain ⟨p, a, b, c, rfl, _⟩ := h
    rfl
  · obtain ⟨p, a, b, c, rfl, ⟨dx, hp⟩, N, hab, q⟩ := h
    have N' := N
    obtain ⟨n1, n2, n3, n4, n5, n6⟩ := N'
    refine ⟨_, (pss_cons (ps_expr (pcl D_need_clock hr (pa_cons (pv 0) pa_nil)))
      (pss_one (ps_ret (pe_ifExp (pt_cmpR op_lt (pe_fld (pv 0) rfl) (pe_fld (pv 0) rfl) (nomark _)) (pcl D_first_at hr (pa_cons (pv 0) (pa_cons pe_int (pa_cons (pe_op op_sub (pe_op op_sub (pe_fld (pv 0) rfl) (pe_fld (pv 0) rfl)) pe_int) pa_nil)))) pe_non)))), ?_⟩
    refine ⟨_, rfl, p, a, b, c, rfl, ⟨dx, hp⟩, ?_⟩
    refine ⟨_, rfl, p, C, dx, _, _, rfl, hp, T.cl, T.nP, lk_p, _, rfl, p, C, dx, _, _, rfl, hp, T.cl, T.nR, lk_r, _, _, rfl, rfl, _, rfl, iteD (fun e => ?_) (fun e => absurd hab e)⟩
    refine ⟨_, rfl, _, rfl, p, C, dx, _, _, rfl, hp, T.cl, T.nR, lk_r, _, rfl, p, C, dx, _, _, rfl, hp, T.cl, T.nP, lk_p, _, _, rfl, rfl, _, _, rfl, rfl, ?_⟩
    exact ⟨p, a, b, c, 0, b - a - 1, rfl, ⟨dx, hp⟩, N, by omega, by omega, by omega, q⟩
abbrev s_first_gap : Stmt := topS 42
abbrev N_first_gap : List Str := ["clock"]
theorem sc_first_gap : FnScope N_first_gap ["clock"] (defScope s_first_gap) := ⟨rfl, rfl, rfl, by decide +kernel, rfl, by decide +kernel, by decide +kernel⟩
def sp_first_gap (C : Addr) : Sp := fun vs H Q _ => ∃ (p : Addr) (a b c : Int), vs = [.ref p] ∧ Clk C H p a b c ∧ a ≤ b ∧ Q .non H
theorem ok_first_gap {f : Addr} {fd : FuncData} (F : Fun K "first_gap" "first_gap" s_first_gap f fd) (T : Txt K mg C) (B : Bn mg) (D_need_clock : DefOk P w K mg base 1 "need_clock" ["clock"] (sp_need_clock C)) (D_first_at : DefOk P w K mg base 2 "first_at" ["clock", "low", "high"] (sp_first_at C)) :
    FnOk P w K mg base CX0 3 f fd ["clock"] (sp_first_gap C) := by
  refine F.ok sc_first_gap (fun vs H Q E h => ?_) (fun cdv A outer s H vs Q E hr h => ?_)
  · obtain ⟨p, a, b, c, rfl, _⟩ := h
    rfl
  · obtain ⟨p, a, b, c, rfl, ⟨dx, hp⟩, hab, q⟩ := h
    refine ⟨_, (pss_cons (ps_expr (pcl D_need_clock hr (pa_cons (pv 0) pa_nil)))
      (pss_cons (ps_if (pt_cmpR op_le (pe_fld (pv 0) rfl) (pe_fld (pv 0) rfl) (nomark _)) (pss_one (ps_ret pe_non)) pss_nil)
      (pss_one (ps_ret (pcl D_first_at hr (pa_cons (pv 0) (pa_cons (pe_callB (call_max2 rfl) (by rfl) B.max bo_max (pa_cons pe_int (pa_cons (pe_op op_sub (pe_op op_mulW pe_int (pe_fld (pv 0) rfl)) (pe_fld (pv 0) rfl)) pa_nil))) (pa_cons (pe_op op_sub (pe_fld (pv 0) rfl) pe_int) pa_nil)))))))), ?_⟩
    refine ⟨_, rfl, p, a, b, c, rfl, ⟨dx, hp⟩, ?_⟩
    refine ⟨_, rfl, p, C, dx, _, _, rfl, hp, T.cl, T.nP, lk_p, _, rfl, p, C, dx, _, _, rfl, hp, T.cl, T.nR, lk_r, _, _, rfl, rfl, _, rfl, iteD (fun e => ?_) (fun e => absurd hab e)⟩
    exact q
abbrev s_same_in : Stmt := topS 43
abbrev N_same_in : List Str := ["clock", "many"]
theorem sc_same_in : FnScope N_same_in ["clock", "many"] (defScope s_same_in) := ⟨rfl, rfl, rfl, by decide +kernel, rfl, by decide +kernel, by decide +kernel⟩
def sp_same_in (C : Addr) : Sp := fun vs H Q _ => ∃ (p : Addr) (a b c m : Int), vs = [.ref p, .int m] ∧ Clk C H p a b c ∧ CkB a b c ∧ a < b ∧ 0 ≤ m ∧ m ≤ 10 ^ 18 ∧ ∀ H', Same H H' → Q (.int (cnt a b c 0 (b - a - 1) m.toNat)) H'
theorem ok_same_in {f : Addr} {fd : FuncData} (F : Fun K "same_in" "same_in" s_same_in f fd) (T : Txt K mg C) (D_need_clock : DefOk P w K mg base 1 "need_clock" ["clock"] (sp_need_clock C)) (D_need_number : DefOk P w K mg base 3 "need_number" ["thing", "most", "part"] sp_need_number)
    (D_count_at : DefOk P w K mg base 2 "count_at" ["clock", "low", "high", "many"] (sp_count C)) : FnOk P w K mg base CX0 4 f fd ["clock", "many"] (sp_same_in C) := by
  refine F.ok sc_same_in (fun vs H Q E h => ?_) (fun cdv A outer s H vs Q E hr h => ?_)
  · obtain ⟨p, a, b, c, m, rfl, _⟩ := h
    rfl
  · obtain ⟨p, a, b, c, m, rfl, ⟨dx, hp⟩, N, hab, m0, m1, q⟩ := h
    have N' := N
    obtain ⟨n1, n2, n3, n4, n5, n6⟩ := N'
    refine ⟨_, (pss_cons (ps_expr (pcl D_need_clock hr (pa_cons (pv 0) pa_nil)))
      (pss_cons (ps_expr (pcl D_need_number hr (pa_cons (pv 1) (pa_cons (pgi (by rfl) T.mg_MOST_MANY) (pa_cons pe_str pa_nil)))))
      (pss_cons (ps_if (pt_cmpR op_ge (pe_fld (pv 0) rfl) (pe_fld (pv 0) rfl) (nomark _)) (pss_one (ps_ret pe_int)) pss_nil)
      (pss_one (ps_ret (pcl D_count_at hr (pa_cons (pv 0) (pa_cons pe_int (pa_cons (pe_op op_sub (pe_op op_sub (pe_fld (pv 0) rfl) (pe_fld (pv 0) rfl)) pe_int) (pa_cons (pv 1) pa_nil)))))))))), ?_⟩
    refine ⟨_, rfl, p, a, b, c, rfl, ⟨dx, hp⟩, ?_⟩
    refine ⟨_, rfl, m, _, _, rfl, m0, m1, ?_⟩
    refine ⟨_, rfl, p, C, dx, _, _, rfl, hp, T.cl, T.nP, lk_p, _, rfl, p, C, dx, _, _, rfl, hp, T.cl, T.nR, lk_r, _, _, rfl, rfl, _, rfl, iteD (fun e => absurd hab (by omega)) (fun e => ?_)⟩
    refine ⟨_, rfl, _, rfl, p, C, dx, _, _, rfl, hp, T.cl, T.nR, lk_r, _, rfl, p, C, dx, _, _, rfl, hp, T.cl, T.nP, lk_p, _, _, rfl, rfl, _, _, rfl, rfl, _, rfl, ?_⟩
    exact ⟨p, a, b, c, 0, b - a - 1, m, rfl, ⟨dx, hp⟩, N, by omega, by omega, by omega, m0, m1, q⟩
end
end Ck

namespace Ck
open PySem PySem.Spec PyProof.Rows L2
/-! ### the tape -/
def tapeKv (Lg Cl : Addr) (rest turn : Int) : List (Key × V) := [(Sum.inr ("large" : Str), .ref Lg), (Sum.inr ("rest" : Str), .int rest), (Sum.inr ("cells" : Str), .ref Cl), (Sum.inr ("turn" : Str), .int turn)]
theorem s_lr : ¬ (("large" : Str) = "rest") := by decide +kernel
theorem k_lr : ¬ ((Sum.inr ("large" : Str) : Key) = Sum.inr ("rest" : Str)) := fun z => s_lr (Sum.inr.inj z)
theorem s_lc : ¬ (("large" : Str) = "cells") := by decide +kernel
theorem k_lc : ¬ ((Sum.inr ("large" : Str) : Key) = Sum.inr ("cells" : Str)) := fun z => s_lc (Sum.inr.inj z)
theorem s_lt : ¬ (("large" : Str) = "turn") := by decide +kernel
theorem k_lt : ¬ ((Sum.inr ("large" : Str) : Key) = Sum.inr ("turn" : Str)) := fun z => s_lt (Sum.inr.inj z)
theorem s_rl : ¬ (("rest" : Str) = "large") := by decide +kernel
theorem k_rl : ¬ ((Sum.inr ("rest" : Str) : Key) = Sum.inr ("large" : Str)) := fun z => s_rl (Sum.inr.inj z)
theorem s_rc : ¬ (("rest" : Str) = "cells") := by decide +kernel
theorem k_rc : ¬ ((Sum.inr ("rest" : Str) : Key) = Sum.inr ("cells" : Str)) := fun z => s_rc (Sum.inr.inj z)
theorem s_rt : ¬ (("rest" : Str) = "turn") := by decide +kernel
theorem k_rt : ¬ ((Sum.inr ("rest" : Str) : Key) = Sum.inr ("turn" : Str)) := fun z => s_rt (Sum.inr.inj z)
theorem s_cl : ¬ (("cells" : Str) = "large") := by decide +kernel
theorem k_cl : ¬ ((Sum.inr ("cells" : Str) : Key) = Sum.inr ("large" : Str)) := fun z => s_cl (Sum.inr.inj z)
theorem s_cr : ¬ (("cells" : Str) = "rest") := by decide +kernel
theorem k_cr : ¬ ((Sum.inr ("cells" : Str) : Key) = Sum.inr ("rest" : Str)) := fun z => s_cr (Sum.inr.inj z)
theorem s_ct : ¬ (("cells" : Str) = "turn") := by decide +kernel
theorem k_ct : ¬ ((Sum.inr ("cells" : Str) : Key) = Sum.inr ("turn" : Str)) := fun z => s_ct (Sum.inr.inj z)
theorem s_tl : ¬ (("turn" : Str) = "large") := by decide +kernel
theorem k_tl : ¬ ((Sum.inr ("turn" : Str) : Key) = Sum.inr ("large" : Str)) := fun z => s_tl (Sum.inr.inj z)
theorem s_tr : ¬ (("turn" : Str) = "rest") := by decide +kernel
theorem k_tr : ¬ ((Sum.inr ("turn" : Str) : Key) = Sum.inr ("rest" : Str)) := fun z => s_tr (Sum.inr.inj z)
theorem s_tc : ¬ (("turn" : Str) = "cells") := by decide +kernel
theorem k_tc : ¬ ((Sum.inr ("turn" : Str) : Key) = Sum.inr ("cells" : Str)) := fun z => s_tc (Sum.inr.inj z)
section
variable {H : Hp} {t Lg Cl : Addr} {rest turn v : Int}
theorem tg_large (e : H t = some (.dK (tapeKv Lg Cl rest turn))) : DGet H t (.str "large") (some (.ref Lg)) := .inl ⟨_, Sum.inr ("large" : Str), .inl e, rfl, by rw [tapeKv, valV_pos rfl]⟩
theorem tg_rest (e : H t = some (.dK (tapeKv Lg Cl rest turn))) : DGet H t (.str "rest") (some (.int rest)) := .inl ⟨_, Sum.inr ("rest" : Str), .inl e, rfl, by rw [tapeKv, valV_neg k_lr, valV_pos rfl]⟩
theorem tg_cells (e : H t = some (.dK (tapeKv Lg Cl rest turn))) : DGet H t (.str "cells") (some (.ref Cl)) := .inl ⟨_, Sum.inr ("cells" : Str), .inl e, rfl, by rw [tapeKv, valV_neg k_lc, valV_neg k_rc, valV_pos rfl]⟩
theorem tg_turn (e : H t = some (.dK (tapeKv Lg Cl rest turn))) : DGet H t (.str "turn") (some (.int turn)) := .inl ⟨_, Sum.inr ("turn" : Str), .inl e, rfl, by rw [tapeKv, valV_neg k_lt, valV_neg k_rt, valV_neg k_ct, valV_pos rfl]⟩
theorem tp_rest (e : H t = some (.dK (tapeKv Lg Cl rest turn))) : DPut H t (.str "rest") (.int v) (upd H t (.dK (tapeKv Lg Cl v turn))) := .inl ⟨_, Sum.inr ("rest" : Str), e, rfl, by show 4 < sizeLine; decide, by
  unfold tapeKv putK
  simp [s_lr, s_cr, s_tr]⟩
theorem tp_turn (e : H t = some (.dK (tapeKv Lg Cl rest turn))) : DPut H t (.str "turn") (.int v) (upd H t (.dK (tapeKv Lg Cl rest v))) := .inl ⟨_, Sum.inr ("turn" : Str), e, rfl, by show 4 < sizeLine; decide, by
  unfold tapeKv putK
  simp [s_lt, s_rt, s_ct]⟩
end
/-- the tape at t, its great numbers at Lg, not more than n turns -/
def Tape (H : Hp) (t Lg : Addr) (n : Nat) : Prop := ∃ (Cl : Addr) (ls cs : List Int) (rest turn : Int), H t = some (.dK (tapeKv Lg Cl rest turn)) ∧ H Lg = some (.lst (ls.map V.int)) ∧ H Cl = some (.lst (cs.map V.int)) ∧ Cl ≠ Lg ∧ 0 ≤ rest ∧ (∀ x ∈ ls, 0 ≤ x) ∧ 0 ≤ turn ∧ turn ≤ n
/-- all but the tape and its great numbers is kept -/
def Kp (t Lg : Addr) (H H' : Hp) : Prop := ∀ b o, H b = some o → b ≠ t → b ≠ Lg → H' b = some o
theorem Kp.refl {t Lg : Addr} (H : Hp) : Kp t Lg H H := fun _ _ e _ _ => e
theorem Kp.trans {t Lg : Addr} {H H1 H2 : Hp} (a : Kp t Lg H H1) (b : Kp t Lg H1 H2) : Kp t Lg H H2 := fun x o e n1 n2 => b x o (a x o e n1 n2) n1 n2
theorem Kp.same {t Lg : Addr} {H H1 : Hp} (s : Same H H1) : Kp t Lg H H1 := fun x o e _ _ => s x o e
theorem Tape.same {t Lg : Addr} {H H1 : Hp} {n : Nat} (T : Tape H t Lg n) (s : Same H H1) : Tape H1 t Lg n := by
  obtain ⟨Cl, ls, cs, rest, turn, e1, e2, e3, r⟩ := T
  exact ⟨Cl, ls, cs, rest, turn, s _ _ e1, s _ _ e2, s _ _ e3, r⟩
theorem Tape.mono {t Lg : Addr} {H : Hp} {n m : Nat} (T : Tape H t Lg n) (h : n ≤ m) : Tape H t Lg m := by
  obtain ⟨Cl, ls, cs, rest, turn, e1, e2, e3, e4, e5, e6, e7, e8⟩ := T
  exact ⟨Cl, ls, cs, rest, turn, e1, e2, e3, e4, e5, e6, e7, by omega⟩
/-- what stands elsewhere is not the tape -/
def Off (H : Hp) (t Lg : Addr) (b : Addr) : Prop := b ≠ t ∧ b ≠ Lg
theorem Tape.off {t Lg b : Addr} {H : Hp} {n : Nat} (T : Tape H t Lg n) (h : H b = none) : b ≠ t ∧ b ≠ Lg := by
  obtain ⟨Cl, ls, cs, rest, turn, e1, e2, _⟩ := T
  constructor
  · intro z
    rw [z, e1] at h
    cases h
  · intro z
    rw [z, e2] at h
    cases h
theorem Tape.none {t Lg b : Addr} {H H' : Hp} {n : Nat} (T' : Tape H' t Lg n) (k : Kp t Lg H H') (h : H' b = none) : H b = none := by
  obtain ⟨n1, n2⟩ := T'.off h
  cases e : H b with
  | none => rfl
  | some o => rw [k b o e n1 n2] at h; cases h
/-- an object that is neither a dict nor a list is kept -/
theorem Tape.keep {t Lg b : Addr} {H H' : Hp} {n : Nat} {o : HO} (T : Tape H t Lg n) (k : Kp t Lg H H') (e : H b = some o) (h1 : ∀ kvs, o ≠ .dK kvs) (h2 : ∀ xs, o ≠ .lst xs) : H' b = some o := by
  obtain ⟨Cl, ls, cs, rest, turn, e1, e2, _⟩ := T
  exact k b o e (fun z => by rw [z, e1] at e; exact h1 _ (Option.some.inj e).symm) (fun z => by rw [z, e2] at e; exact h2 _ (Option.some.inj e).symm)
section
variable {P : Program} {w : World} {K : PySem.W.Frag} {mg : Str → Option Value} {base : Heap} {C : Addr}
abbrev s__law_blend : Stmt := topS 48
abbrev N__law_blend : List Str := ["tape", "turn", "found", "great", "mixed", "grain"]
theorem sc__law_blend : FnScope N__law_blend ["tape"] (defScope s__law_blend) := ⟨rfl, rfl, rfl, by decide +kernel, rfl, by decide +kernel, by decide +kernel⟩
def sp_blend : Sp := fun vs H Q _ => ∃ (t Lg : Addr) (n : Nat), vs = [.ref t] ∧ Tape H t Lg n ∧ n ≤ 10 ^ 6 ∧ ∀ H' v, Kp t Lg H H' → Tape H' t Lg (n + 1) → H' Lg = H Lg → 0 ≤ v → Q (.int v) H'
theorem ok_blend {f : Addr} {fd : FuncData} (F : Fun K "_law_blend" "_law_blend" s__law_blend f fd) (B : Bn mg) : FnOk P w K mg base CX0 1 f fd ["tape"] sp_blend := by
  refine F.ok sc__law_blend (fun vs H Q E h => ?_) (fun cdv A outer s H vs Q E hr h => ?_)
  · obtain ⟨t, Lg, n, rfl, _⟩ := h
    rfl
  · obtain ⟨t, Lg, n, rfl, ⟨Cl, ls, cs, rest, turn, e1, e2, e3, e4, e5, e6, e7, e8⟩, hn, q⟩ := h
    have hu := lt_units hr.units
    refine ⟨_, (pss_cons (ps_dput hu (pv 0) pe_str (pe_op op_add (pe_dget hu (pv 0) pe_str (fun _ _ => rfl)) pe_int) rfl)
      (pss_cons (ps_par (i := 1) (j := 2) rfl sc__law_blend.nd rfl rfl (by decide) rfl rfl (pa_cons (pe_callTy call_int1 (by rfl) B.int bo_int (pa_cons (pe_dget hu (pv 0) pe_str (fun _ _ => rfl)) pa_nil)) (pa_cons pe_int pa_nil)) (by rfl))
      (pss_cons (ps_for PassesOwn.never rfl (pi_list (pe_lst (pa_cons pe_int (pa_cons pe_int (pa_cons pe_int pa_nil))))) (pg_name (i := 3) sc__law_blend.nd rfl (.inl rfl)) (pss_cons (ps_set (i := 4) sc__law_blend.nd rfl (.inl rfl) (pe_op op_mod (pe_op op_add (pe_op op_mulW (pv 1) pe_int) (pe_op op_fdivW (pv 3) pe_int)) (pv 3)))
      (pss_cons (ps_for PassesOwn.never rfl (pi_list (pe_dget hu (pv 0) pe_str (fun _ _ => rfl))) (pg_name (i := 5) sc__law_blend.nd rfl (.inl rfl)) (pss_one (ps_set (i := 4) sc__law_blend.nd rfl (.inl rfl) (pe_op op_mod (pe_op op_add (pe_op op_mulW (pv 4) pe_int) (pe_callTy call_int1 (by rfl) B.int bo_int (pa_cons (pv 5) pa_nil))) (pv 3)))))
      (pss_one (ps_set (i := 2) sc__law_blend.nd rfl (.inl rfl) (pe_op op_add (pe_op op_mulW (pv 2) pe_int) (pe_op op_mod (pe_op op_pow (pv 4) pe_int) (pv 3))))))))
      (pss_one (ps_ret (pv 2)))))), ?_⟩
    refine ⟨_, rfl, t, _, rfl, tg_turn e1, _, _, rfl, rfl, _, rfl, t, _, rfl, tp_turn e1, ?_⟩
    have d1 : Lg ≠ t := ne_of e2 e1 (fun z => nomatch z)
    have d2 : Cl ≠ t := ne_of e3 e1 (fun z => nomatch z)
    have f1 : upd H t (.dK (tapeKv Lg Cl rest (turn + 1))) t = some (.dK (tapeKv Lg Cl rest (turn + 1))) := upd_same
    have f2 : upd H t (.dK (tapeKv Lg Cl rest (turn + 1))) Lg = some (.lst (ls.map V.int)) := by rw [upd_ne d1]; exact e2
    have f3 : upd H t (.dK (tapeKv Lg Cl rest (turn + 1))) Cl = some (.lst (cs.map V.int)) := by rw [upd_ne d2]; exact e3
    have k1 : Kp t Lg H (upd H t (.dK (tapeKv Lg Cl rest (turn + 1)))) := fun b o e n1 _ => by rw [upd_ne n1]; exact e
    refine ⟨_, rfl, t, _, rfl, tg_turn f1, .inl ⟨_, rfl, _, _, rfl, ?_⟩⟩
    refine ⟨by show 3 ≤ sizeLine; decide, fun y ny => ?_⟩
    show ∃ a, _
    generalize upd H t (.dK (tapeKv Lg Cl rest (turn + 1))) = H1 at f1 f2 f3 k1 ny ⊢
    have sy : Same H1 (upd H1 y (.lst [.int 2147483629, .int 2147483587, .int 2147483579])) := same_upd ny
    have hy : upd H1 y (.lst [.int 2147483629, .int 2147483587, .int 2147483579]) y = some (.lst [.int 2147483629, .int 2147483587, .int 2147483579]) := upd_same
    refine ⟨y, rfl, ⟨_, .inl (.inl hy)⟩, ?_⟩
    generalize upd H1 y (.lst [.int 2147483629, .int 2147483587, .int 2147483579]) = H2 at sy hy ⊢
    have g1 := sy _ _ f1
    have g3 := sy _ _ f3
    have hC : SqL K H2 Cl (cs.map V.int) := .inl (.inl g3)
    have bt : Bd (turn + 1) := ⟨by omega, by omega⟩
    refine for_list (K := K) (xs := [V.int 2147483629, .int 2147483587, .int 2147483579]) (fun i σ H' => H' = H2 ∧ ∃ (fo : Int) (y3 y4 y5 : Option V), σ = [some (.ref t), some (.int (turn + 1)), some (.int fo), y3, y4, y5] ∧ 0 ≤ fo ∧ fo < 2147483648 ^ i) ?_ ?_ ?_ ?_
    · exact ⟨rfl, 0, none, none, none, rfl, by omega, by omega⟩
    · rintro i σ H' _ ⟨rfl, _⟩
      exact .inl (.inl hy)
    · rintro i x σ H' hx ⟨rfl, fo, y3, y4, y5, rfl, fo0, fo1⟩
      have great : ∃ gr : Int, x = .int gr ∧ 2147483500 < gr ∧ gr < 2147483648 ∧ i < 3 := by
        match i, hx with
        | 0, hx => exact ⟨_, (Option.some.inj hx).symm, by omega, by omega, by omega⟩
        | 1, hx => exact ⟨_, (Option.some.inj hx).symm, by omega, by omega, by omega⟩
        | 2, hx => exact ⟨_, (Option.some.inj hx).symm, by omega, by omega, by omega⟩
        | n + 3, hx => cases hx
      obtain ⟨gr, rfl, gr1, gr2, hi⟩ := great
      refine ⟨_, rfl, _, _, rfl, rfl, mulB bt ⟨by omega, by omega⟩, _, rfl, _, _, rfl, rfl, divB (by omega) ⟨by omega, by omega⟩, _, _, rfl, rfl, _, rfl, _, _, rfl, rfl, by omega, ?_⟩
      have m0 := Int.emod_nonneg ((turn + 1) * 69621 + gr / 7) (show gr ≠ 0 by omega)
      have m1 := Int.emod_lt_of_pos ((turn + 1) * 69621 + gr / 7) (show 0 < gr by omega)
      refine ⟨_, rfl, t, _, rfl, tg_cells g1, Cl, rfl, ⟨_, hC⟩, ?_⟩
      refine for_list (K := K) (xs := cs.map V.int) (fun j σ' H'' => H'' = H' ∧ ∃ (mx : Int) (y5 : Option V), σ' = [some (.ref t), some (.int (turn + 1)), some (.int fo), some (.int gr), some (.int mx), y5] ∧ 0 ≤ mx ∧ mx < gr) ?_ ?_ ?_ ?_
      · exact ⟨rfl, _, y5, rfl, m0, m1⟩
      · rintro j σ' H'' _ ⟨rfl, _⟩
        exact hC
      · rintro j z σ' H'' hz ⟨rfl, my, y5', rfl, n0, n1⟩
        rw [List.getElem?_map] at hz
        obtain ⟨cg, _, rfl⟩ := Option.map_eq_some_iff.mp hz
        refine ⟨_, rfl, _, _, rfl, rfl, mulB ⟨by omega, by omega⟩ ⟨by omega, by omega⟩, _, rfl, .inl ⟨_, rfl, _, _, rfl, rfl, _, rfl, _, _, rfl, rfl, by omega, ?_⟩⟩
        exact ⟨rfl, _, _, rfl, Int.emod_nonneg _ (by omega), Int.emod_lt_of_pos _ (by omega)⟩
      · rintro σ' H'' ⟨rfl, my, y5', rfl, n0, n1⟩
        have pw : (2147483648 : Int) ^ i ≤ 2147483648 ^ 2 := by
          have : i = 0 ∨ i = 1 ∨ i = 2 := by omega
          rcases this with rfl | rfl | rfl <;> decide
        refine ⟨_, rfl, _, _, rfl, rfl, mulB ⟨by omega, by omega⟩ ⟨by omega, by omega⟩, _, rfl, _, _, rfl, rfl, ⟨by decide, by decide, by omega⟩, _, rfl, _, _, rfl, rfl, by omega, _, _, rfl, rfl, ?_⟩
        have r0 := Int.emod_nonneg (my ^ (5 : Int).toNat) (show gr ≠ 0 by omega)
        have r1 := Int.emod_lt_of_pos (my ^ (5 : Int).toNat) (show 0 < gr by omega)
        refine ⟨rfl, _, _, _, _, rfl, by omega, ?_⟩
        rw [Int.pow_succ]
        generalize (2147483648 : Int) ^ i = pp at fo1 pw ⊢
        omega
    · rintro σ H' ⟨rfl, fo, y3, y4, y5, rfl, fo0, fo1⟩
      refine ⟨_, rfl, q H' fo (k1.trans (.same sy)) ⟨Cl, ls, cs, rest, turn + 1, g1, sy _ _ f2, g3, e4, e5, e6, by omega, by omega⟩ ?_ fo0⟩
      rw [sy _ _ f2, e2]
/-! ### draws -/
theorem dp_ints {H : Hp} : ∀ ls : List Int, DpAll K H (ls.map V.int) (ls.map PyData.int)
  | [] => .nil
  | x :: ls => .cons (.int x) (dp_ints ls)
theorem lay_ints : ∀ ls : List Int, PyData.canLayAll0 (ls.map PyData.int) = true ∧ PyData.depthAll (ls.map PyData.int) = 0
  | [] => ⟨rfl, rfl⟩
  | x :: ls => by
    obtain ⟨h1, h2⟩ := lay_ints ls
    refine ⟨?_, ?_⟩
    · simp only [List.map_cons, PyData.canLayAll0, PyData.canLay0, h1, Bool.and_self]
    · simp only [List.map_cons, PyData.depthAll, PyData.depth, h2]
      rfl
theorem shaped_ints (ls : List Int) : SeqAt.shaped (.list (ls.map PyData.int)) = true := by
  obtain ⟨h1, h2⟩ := lay_ints ls
  unfold SeqAt.shaped
  simp only [PyData.canLay0, PyData.depth, h1, h2]
  rfl
theorem eqv_nil (ls : List Int) : PyData.eqv (.list (ls.map PyData.int)) (.list []) = decide (ls = []) := by
  cases ls with
  | nil => rfl
  | cons x l => rfl
abbrev s__law_draw : Stmt := topS 49
abbrev N__law_draw : List Str := ["tape", "size", "found"]
theorem sc__law_draw : FnScope N__law_draw ["tape", "size"] (defScope s__law_draw) := ⟨rfl, rfl, rfl, by decide +kernel, rfl, by decide +kernel, by decide +kernel⟩
def sp_draw : Sp := fun vs H Q _ => ∃ (t Lg : Addr) (n : Nat) (z : Int), vs = [.ref t, .int z] ∧ Tape H t Lg n ∧ n ≤ 10 ^ 6 ∧ 0 < z ∧ Bd z ∧ ∀ H' v, Kp t Lg H H' → Tape H' t Lg (n + 1) → 0 ≤ v → v < z → Q (.int v) H'
theorem ok_draw {f : Addr} {fd : FuncData} (F : Fun K "_law_draw" "_law_draw" s__law_draw f fd) (B : Bn mg) (D_law_blend : DefOk P w K mg base 1 "_law_blend" ["tape"] sp_blend) : FnOk P w K mg base CX0 2 f fd ["tape", "size"] sp_draw := by
  refine F.ok sc__law_draw (fun vs H Q E h => ?_) (fun cdv A outer s H vs Q E hr h => ?_)
  · obtain ⟨t, Lg, n, z, rfl, _⟩ := h
    rfl
  · obtain ⟨t, Lg, n, z, rfl, T0, hn, z0, zb, q⟩ := h
    have hu := lt_units hr.units
    have T0' := T0
    obtain ⟨Cl, ls, cs, rest, turn, e1, e2, e3, e4, e5, e6, e7, e8⟩ := T0'
    refine ⟨_, (Evl.pss_cut (ps_if (pt_cmpR op_eq (pe_dget hu (pv 0) pe_str (fun _ _ => rfl)) pe_int (nomark _)) (pss_one (ps_dput hu (pv 0) pe_str (pe_ifExp (pt_cmpR (op_neD hr.units) (pe_dget hu (pv 0) pe_str (fun _ _ => rfl)) (pe_lst pa_nil) (nomark _)) (pe_bm PySem.F.plainAttrs_list PySem.F.slot_list_pop PySem.F.type_list_pop mt_popAt (pe_dget hu (pv 0) pe_str (fun _ _ => rfl)) (pa_cons pe_int pa_nil)) (pcl D_law_blend hr (pa_cons (pv 0) pa_nil))) rfl)) pss_nil)
      (pss_cons (ps_set (i := 2) sc__law_draw.nd rfl (.inl rfl) (pe_op op_mod (pe_callTy call_int1 (by rfl) B.int bo_int (pa_cons (pe_dget hu (pv 0) pe_str (fun _ _ => rfl)) pa_nil)) (pv 1)))
      (pss_cons (ps_dput hu (pv 0) pe_str (pe_op op_fdivW (pe_callTy call_int1 (by rfl) B.int bo_int (pa_cons (pe_dget hu (pv 0) pe_str (fun _ _ => rfl)) pa_nil)) (pv 1)) rfl)
      (pss_one (ps_ret (pv 2)))))), ?_⟩
    refine ⟨fun σ H' => σ = [some (.ref t), some (.int z), none] ∧ Kp t Lg H H' ∧ Tape H' t Lg (n + 1), ?_, ?_⟩
    · refine ⟨_, rfl, t, _, rfl, tg_rest e1, rfl, _, rfl, iteVD (fun e => ?_) (fun e => ⟨rfl, Kp.refl H, T0.mono (by omega)⟩)⟩
      refine ⟨_, rfl, t, _, rfl, tg_large e1, Nat.zero_le _, fun y ny => ?_⟩
      have sy : Same H (upd H y (.lst [])) := same_upd ny
      have hy : upd H y (.lst []) y = some (.lst []) := upd_same
      have off := T0.off ny
      generalize upd H y (.lst []) = H1 at sy hy ⊢
      refine ⟨_, _, .lst (.inl (.inl (sy _ _ e2))) (dp_ints ls), .lst (xs := []) (.inl (.inl hy)) .nil, shaped_ints ls, shaped_ints [], _, rfl, ?_⟩
      show if (!PyData.eqv (.list (ls.map PyData.int)) (.list [])) = true then _ else _
      rw [eqv_nil]
      cases ls with
      | nil =>
        refine iteF ?_
        refine ⟨_, rfl, t, Lg, n, rfl, T0.same sy, hn, fun H2 v k2 T2 eL v0 => ?_⟩
        obtain ⟨Cl2, ls2, cs2, rest2, turn2, a1, a2, a3, a4, a5, a6, a7, a8⟩ := T2
        have d1 : Lg ≠ t := ne_of a2 a1 (fun z => nomatch z)
        have d2 : Cl2 ≠ t := ne_of a3 a1 (fun z => nomatch z)
        refine ⟨_, rfl, t, _, rfl, tp_rest a1, rfl, ?_, Cl2, ls2, cs2, v, turn2, upd_same, by rw [upd_ne d1]; exact a2, by rw [upd_ne d2]; exact a3, a4, v0, a6, a7, a8⟩
        exact ((Kp.same sy).trans k2).trans fun b o e n1 _ => by rw [upd_ne n1]; exact e
      | cons x ls =>
        refine iteT ?_
        have d1 : Lg ≠ t := ne_of e2 e1 (fun z => nomatch z)
        have d2 : Cl ≠ t := ne_of e3 e1 (fun z => nomatch z)
        have x0 := e6 x (List.mem_cons_self ..)
        refine ⟨_, rfl, t, _, rfl, tg_large (sy _ _ e1), .inl ⟨rfl, _, .inl (.inl (sy _ _ e2))⟩, Lg, _, 0, 0, _, rfl, rfl, sy _ _ e2, by decide, by decide, by
          rw [List.length_map]
          exact seqIndex_of (by decide) (by rw [List.length_cons]; omega), rfl, ?_⟩
        have g1 : upd H1 Lg (.lst (((x :: ls).map V.int).eraseIdx 0)) t = some (.dK (tapeKv Lg Cl rest turn)) := by rw [upd_ne d1.symm]; exact sy _ _ e1
        refine ⟨_, rfl, t, _, rfl, tp_rest g1, rfl, fun b o e n1 n2 => ?_, Cl, ls, cs, x, turn, upd_same, ?_, ?_, e4, x0, fun y hy => e6 y (List.mem_cons_of_mem _ hy), e7, by omega⟩
        · rw [upd_ne n1, upd_ne n2]
          exact sy _ _ e
        · rw [upd_ne d1, upd_same]
          rfl
        · rw [upd_ne d2, upd_ne e4]
          exact sy _ _ e3
    · rintro σ H1 ⟨rfl, k1, ⟨Cl, ls, cs, rest, turn, e1, e2, e3, e4, e5, e6, e7, e8⟩⟩
      have d1 : Lg ≠ t := ne_of e2 e1 (fun z => nomatch z)
      have d2 : Cl ≠ t := ne_of e3 e1 (fun z => nomatch z)
      refine ⟨_, rfl, t, _, rfl, tg_rest e1, .inl ⟨_, rfl, _, rfl, _, _, rfl, rfl, z0, ?_⟩⟩
      refine ⟨_, rfl, t, _, rfl, tg_rest e1, .inl ⟨_, rfl, _, rfl, _, _, rfl, rfl, divB z0 zb, _, rfl, t, _, rfl, tp_rest e1, ?_⟩⟩
      refine ⟨_, rfl, q _ _ (k1.trans fun b o e n1 _ => by rw [upd_ne n1]; exact e) ⟨Cl, ls, cs, rest / z, turn, upd_same, by rw [upd_ne d1]; exact e2, by rw [upd_ne d2]; exact e3, e4, Int.ediv_nonneg e5 (by omega), e6, e7, e8⟩ (Int.emod_nonneg _ (by omega)) (Int.emod_lt_of_pos _ z0)⟩
abbrev s__law_pick : Stmt := topS 50
abbrev N__law_pick : List Str := ["tape", "several"]
theorem sc__law_pick : FnScope N__law_pick ["tape", "several"] (defScope s__law_pick) := ⟨rfl, rfl, rfl, by decide +kernel, rfl, by decide +kernel, by decide +kernel⟩
def sp_pick (K : PySem.W.Frag) : Sp := fun vs H Q _ => ∃ (t Lg y : Addr) (n : Nat) (xs : List Int), vs = [.ref t, .ref y] ∧ Tape H t Lg n ∧ n ≤ 10 ^ 6 ∧ H y = some (.lst (xs.map V.int)) ∧ y ≠ Lg ∧ 0 < xs.length ∧ xs.length ≤ 1000 ∧ ∀ H' v, Kp t Lg H H' → Tape H' t Lg (n + 1) → v ∈ xs → Q (.int v) H'
theorem ok_pick {f : Addr} {fd : FuncData} (F : Fun K "_law_pick" "_law_pick" s__law_pick f fd) (B : Bn mg) (D_law_draw : DefOk P w K mg base 2 "_law_draw" ["tape", "size"] sp_draw) : FnOk P w K mg base CX0 3 f fd ["tape", "several"] (sp_pick K) := by
  refine F.ok sc__law_pick (fun vs H Q E h => ?_) (fun cdv A outer s H vs Q E hr h => ?_)
  · obtain ⟨t, Lg, y, n, xs, rfl, _⟩ := h
    rfl
  · obtain ⟨t, Lg, y, n, xs, rfl, T0, hn, hy, ny, x0, x1, q⟩ := h
    refine ⟨_, (pss_one (ps_ret (pe_ix ix_list (pv 1) (pcl D_law_draw hr (pa_cons (pv 0) (pa_cons (pe_callB call_len_seq (by rfl) B.len bo_len (pa_cons (pv 1) pa_nil)) pa_nil))) (fun _ _ => rfl)))), ?_⟩
    refine ⟨_, rfl, _, rfl, _, rfl, y, _, rfl, .inl (.inl (.inl hy)), t, Lg, n, _, rfl, T0, hn, by rw [List.length_map]; omega, by rw [List.length_map]; exact ⟨by omega, by omega⟩, fun H1 v k1 T1 v0 v1 => ?_⟩
    rw [List.length_map] at v1
    have yt : y ≠ t := by
      obtain ⟨Cl, ls, cs, rest, turn, e1, _⟩ := T0
      exact ne_of hy e1 (fun z => nomatch z)
    have hy1 := k1 _ _ hy yt ny
    obtain ⟨i, hi⟩ : ∃ i : Nat, ((i : Nat) : Int) = v := ⟨v.toNat, by omega⟩
    have hlt : i < xs.length := by omega
    refine ⟨y, _, v, _, rfl, rfl, .inl (.inl hy1), ?_, q H1 xs[i] k1 T1 (List.getElem_mem hlt)⟩
    rw [← hi]
    refine atI_nat (j := i) ?_
    rw [List.getElem?_map, List.getElem?_eq_getElem hlt]
    rfl
end
end Ck

namespace Ck
open PySem PySem.Spec PyProof.Rows L2
def fibs (n : Nat) : List Int := (List.range n).map fib
theorem fibs_succ (n : Nat) : fibs (n + 1) = fibs n ++ [fib n] := by
  unfold fibs
  rw [List.range_succ, List.map_append]
  rfl
theorem fibs_len (n : Nat) : (fibs n).length = n := by
  unfold fibs
  rw [List.length_map, List.length_range]
theorem fibs_get {n i : Nat} (h : i < n) : (fibs n)[i]? = some (fib i) := by
  unfold fibs
  rw [List.getElem?_map, List.getElem?_range h]
  rfl
theorem atI_back {α : Type} {xs : List α} {k : Nat} {v : α} (h0 : 0 < k) (h1 : k ≤ xs.length) (h : xs[xs.length - k]? = some v) : atI xs (-(k : Int)) = some v := by
  have e : ixN xs.length (-(k : Int)) = some (xs.length - k) := by
    unfold ixN
    rw [if_neg (by omega), if_pos (by omega)]
    congr 1
    omega
  unfold atI
  rw [e]
  exact h
section
variable {P : Program} {w : World} {K : PySem.W.Frag} {mg : Str → Option Value} {base : Heap} {C : Addr}
abbrev s__law_steps : Stmt := topS 51
abbrev N__law_steps : List Str := ["many", "found"]
theorem sc__law_steps : FnScope N__law_steps ["many"] (defScope s__law_steps) := ⟨rfl, rfl, rfl, by decide +kernel, rfl, by decide +kernel, by decide +kernel⟩
def sp_steps : Sp := fun vs H Q _ => ∃ m : Nat, vs = [.int m] ∧ 2 ≤ m ∧ m ≤ 100 ∧ ∀ H' y, Same H H' → H y = none → H' y = some (.lst ((fibs m).map V.int)) → Q (.ref y) H'
theorem ok_steps {f : Addr} {fd : FuncData} (F : Fun K "_law_steps" "_law_steps" s__law_steps f fd) (B : Bn mg) : FnOk P w K mg base CX0 1 f fd ["many"] sp_steps := by
  refine F.ok sc__law_steps (fun vs H Q E h => ?_) (fun cdv A outer s H vs Q E hr h => ?_)
  · obtain ⟨m, rfl, _⟩ := h
    rfl
  · obtain ⟨m, rfl, h1, h2, q⟩ := h
    refine ⟨_, (pss_cons (ps_set (i := 1) sc__law_steps.nd rfl (.inl rfl) (pe_lst (pa_cons pe_int (pa_cons pe_int pa_nil))))
      (pss_cons (ps_while PassesOwn.never (pt_cmpR op_lt (pe_callB call_len_seq (by rfl) B.len bo_len (pa_cons (pv 1) pa_nil)) (pv 0) (nomark _)) (pss_one (ps_expr (pe_bm PySem.F.plainAttrs_list PySem.F.slot_list_append PySem.F.type_list_append mt_append (pv 1) (pa_cons (pe_op op_add (pe_ix ix_list (pv 1) (pe_un un_neg pe_int) (fun _ _ => rfl)) (pe_ix ix_list (pv 1) (pe_un un_neg pe_int) (fun _ _ => rfl))) pa_nil)))))
      (pss_one (ps_ret (pv 1))))), ?_⟩
    refine ⟨by show 2 ≤ sizeLine; decide, fun y ny => ?_⟩
    refine ⟨fun n σ H' => σ = [some (.int m), some (.ref y)] ∧ Same H H' ∧ ∃ k : Nat, 2 ≤ k ∧ k ≤ m ∧ n = m - k ∧ H' y = some (.lst ((fibs k).map V.int)),
      ⟨_, rfl, same_upd ny, 2, by omega, h1, rfl, upd_same⟩, ?_⟩
    rintro n σ H' ⟨rfl, s1, k, k1, k2, rfl, hy⟩
    have hlen : ((fibs k).map V.int).length = k := by rw [List.length_map, fibs_len]
    refine ⟨_, rfl, y, _, rfl, .inl (.inl (.inl hy)), _, rfl, _, _, rfl, rfl, _, rfl, iteD (fun e => ?_) (fun e => ?_)⟩
    · rw [hlen] at e
      refine ⟨fun σ' H'' => ∃ n', n' < m - k ∧ (σ' = [some (.int m), some (.ref y)] ∧ Same H H'' ∧ ∃ k : Nat, 2 ≤ k ∧ k ≤ m ∧ n' = m - k ∧ H'' y = some (.lst ((fibs k).map V.int))), fun _ _ h => h, ?_⟩
      have a1 : atI ((fibs k).map V.int) (-1) = some (.int (fib (k - 1))) := by
        refine atI_back (k := 1) (by omega) (by omega) ?_
        rw [hlen, List.getElem?_map, fibs_get (by omega)]
        rfl
      have a2 : atI ((fibs k).map V.int) (-2) = some (.int (fib (k - 2))) := by
        refine atI_back (k := 2) (by omega) (by omega) ?_
        rw [hlen, List.getElem?_map, fibs_get (by omega)]
        rfl
      refine ⟨_, rfl, .inl ⟨rfl, _, .inl (.inl hy)⟩, _, rfl, 1, rfl, y, _, -1, _, rfl, rfl, .inl (.inl hy), a1, _, rfl, 2, rfl, y, _, -2, _, rfl, rfl, .inl (.inl hy), a2, _, _, rfl, rfl, y, _, _, rfl, rfl, hy, ?_, ?_⟩
      · rw [hlen]
        exact small1000 (by omega)
      · refine ⟨m - (k + 1), by omega, rfl, fun b o e' => ?_, k + 1, by omega, by omega, rfl, ?_⟩
        · rw [upd_ne (ne_of_none e' ny)]
          exact s1 _ _ e'
        · rw [upd_same, fibs_succ, List.map_append]
          have : fib k = fib (k - 1) + fib (k - 2) := by
            obtain ⟨j, rfl⟩ : ∃ j, k = j + 2 := ⟨k - 2, by omega⟩
            rfl
          rw [this]
          rfl
    · rw [hlen] at e
      have : k = m := by omega
      subst this
      exact ⟨_, rfl, q H' y s1 ny hy⟩
abbrev s__law_begun : Stmt := topS 47
abbrev N__law_begun : List Str := ["script", "large", "grain"]
theorem sc__law_begun : FnScope N__law_begun ["script"] (defScope s__law_begun) := ⟨rfl, rfl, rfl, by decide +kernel, rfl, by decide +kernel, by decide +kernel⟩
def sp_begun (K : PySem.W.Frag) : Sp := fun vs H Q _ => ∃ (a : Addr) (ns : List Int), vs = [.ref a] ∧ SqL K H a (ns.map V.int) ∧ ns.length ≤ 63 ∧ ∀ H' t Lg, Same H H' → H t = none → H Lg = none → Tape H' t Lg 0 → Q (.ref t) H'
theorem abs_nn (i : Int) : 0 ≤ if i < 0 then -i else i := by split <;> omega
theorem tape_new (Lg Cl : Addr) : mergeK [] (tapeKv Lg Cl 0 0) = tapeKv Lg Cl 0 0 := by
  unfold mergeK tapeKv putK
  simp [s_lr, s_lc, s_lt, s_rc, s_rt, s_ct]
theorem ok_begun {f : Addr} {fd : FuncData} (F : Fun K "_law_begun" "_law_begun" s__law_begun f fd) (B : Bn mg) : FnOk P w K mg base CX0 1 f fd ["script"] (sp_begun K) := by
  refine F.ok sc__law_begun (fun vs H Q E h => ?_) (fun cdv A outer s H vs Q E hr h => ?_)
  · obtain ⟨a, ns, rfl, _⟩ := h
    rfl
  · obtain ⟨a, ns, rfl, hS, hlen, q⟩ := h
    refine ⟨_, (pss_cons (ps_setLc (i := 1) (own := [("grain", 2)]) (g := (gName 2)) rfl sc__law_begun.nd rfl rfl (sw_true rfl rfl rfl (by decide +kernel)) (pi_list (pv 0)) (blkOk_by (own := [("grain", 2)]) (N := N__law_begun) (sc := defScope s__law_begun) (by decide +kernel)) (fun _ _ _ _ _ => pg_name (i := 2) sc__law_begun.nd rfl (Or.inl rfl)) (fun _ _ _ _ _ => (pts_one (pt_cmpR op_ge (pe_callB call_abs (by rfl) B.abs bo_abs (pa_cons (pv 2) pa_nil)) (pe_op op_pow pe_int pe_int) (nomark _)))) (fun _ _ _ _ _ => (pe_op op_sub (pe_callB call_abs (by rfl) B.abs bo_abs (pa_cons (pv 2) pa_nil)) (pe_op op_pow pe_int pe_int))))
      (pss_one (ps_ret (pe_disp (pps_cons pe_str (pv 1) (pps_cons pe_str pe_int (pps_cons pe_str (pe_lc (own := [("grain", 2)]) (g := (gName 2)) rfl sc__law_begun.nd (pi_list (pv 0)) (blkOk_by (own := [("grain", 2)]) (N := N__law_begun) (sc := defScope s__law_begun) (by decide +kernel)) (fun _ _ _ _ _ => pg_name (i := 2) sc__law_begun.nd rfl (Or.inl rfl)) (fun _ _ _ _ _ => pts_nil) (fun _ _ _ _ _ => (pe_callB call_abs (by rfl) B.abs bo_abs (pa_cons (pv 2) pa_nil)))) (pps_cons pe_str pe_int pps_nil)))) (by rfl) (by rfl) (fun z => by cases z) (by decide))))), ?_⟩
    refine ⟨_, rfl, a, rfl, ⟨_, hS⟩, fun D nD => ?_⟩
    have sD : Same H (upd H D (.lst [])) := same_upd nD
    refine lc_list (K := K) (xs := ns.map V.int) (fun i Hc => (∀ b o, H b = some o → Hc b = some o) ∧ ∃ ls : List Int, Hc D = some (.lst (ls.map V.int)) ∧ (∀ x ∈ ls, 0 ≤ x) ∧ ls.length ≤ i) ⟨sD, [], upd_same, (fun x hx => nomatch hx), Nat.le_refl _⟩ ?_ ?_ ?_
    · rintro i Hc _ ⟨k1, _⟩
      exact Same.seq k1 hS
    · rintro i x Hc hx ⟨k1, ls, k2, k3, k4⟩
      rw [List.getElem?_map] at hx
      obtain ⟨v, hv, rfl⟩ := Option.map_eq_some_iff.mp hx
      have hi := (List.getElem?_eq_some_iff.mp hv).1
      refine ⟨rfl, ?_⟩
      refine ⟨_, rfl, _, rfl, _, _, rfl, rfl, ⟨by decide, by decide, by decide⟩, _, _, rfl, rfl, _, rfl, iteD (fun e => ?_) (fun e => ?_)⟩
      · refine ⟨_, rfl, _, rfl, _, _, rfl, rfl, ⟨by decide, by decide, by decide⟩, _, _, rfl, rfl, _, k2, ?_, fun b o e' => ?_, ls ++ [(if v < 0 then -v else v) - (10 : Int) ^ (18 : Int).toNat], ?_, fun y hy => ?_, ?_⟩
        · rw [List.length_map]
          exact small1000 (by omega)
        · rw [upd_ne (ne_of_none e' nD)]
          exact k1 b o e'
        · rw [upd_same, List.map_append]
          rfl
        · rcases List.mem_append.mp hy with hy | hy
          · exact k3 y hy
          · rw [List.mem_singleton.mp hy]
            have e : (10 : Int) ^ (18 : Int).toNat ≤ (if v < 0 then -v else v) := e
            show 0 ≤ (if v < 0 then -v else v) - (10 : Int) ^ (18 : Int).toNat
            omega
        · rw [List.length_append]
          simp
          omega
      · exact ⟨k1, ls, k2, k3, by omega⟩
    · rintro H1 ⟨k1, ls, k2, k3, k4⟩
      intro t nt
      have nt0 : H t = none := none_of k1 nt
      have s2 : Same H1 (upd H1 t (.dK [])) := same_upd nt
      have ht : upd H1 t (.dK []) t = some (.dK []) := upd_same
      have tD : D ≠ t := ne_of_none k2 nt
      generalize upd H1 t (.dK []) = H2 at s2 ht ⊢
      have hS2 : SqL K H2 a (ns.map V.int) := Same.seq s2 (Same.seq k1 hS)
      refine ⟨_, rfl, ?_⟩
      refine ⟨_, rfl, a, rfl, ⟨_, hS2⟩, fun Cl nCl => ?_⟩
      have tC : t ≠ Cl := ne_of_none ht nCl
      have dC : D ≠ Cl := ne_of_none (s2 _ _ k2) nCl
      refine lc_list (K := K) (xs := ns.map V.int) (fun i Hc => (∀ b o, H2 b = some o → Hc b = some o) ∧ ∃ cs : List Int, Hc Cl = some (.lst (cs.map V.int)) ∧ cs.length ≤ i) ⟨same_upd nCl, [], upd_same, Nat.le_refl _⟩ ?_ ?_ ?_
      · rintro i Hc _ ⟨k1, _⟩
        exact Same.seq k1 hS2
      · rintro i x Hc hx ⟨j1, cs, j2, j3⟩
        rw [List.getElem?_map] at hx
        obtain ⟨v, hv, rfl⟩ := Option.map_eq_some_iff.mp hx
        have hi := (List.getElem?_eq_some_iff.mp hv).1
        refine ⟨rfl, ?_⟩
        refine ⟨_, rfl, _, rfl, _, j2, ?_, fun b o e' => ?_, cs ++ [if v < 0 then -v else v], ?_, ?_⟩
        · rw [List.length_map]
          exact small1000 (by omega)
        · rw [upd_ne (ne_of_none e' nCl)]
          exact j1 b o e'
        · rw [upd_same, List.map_append]
          rfl
        · rw [List.length_append]
          simp
          omega
      · rintro H3 ⟨j1, cs, j2, j3⟩
        refine ⟨j1 _ _ ht, tapeKv D Cl 0 0, rfl, by show 4 ≤ 15; decide, ?_⟩
        rw [tape_new]
        refine q _ t D (fun b o e => ?_) nt0 nD ⟨Cl, ls, cs, 0, 0, upd_same, ?_, ?_, dC.symm, by omega, k3, by omega, by omega⟩
        · rw [upd_ne (ne_of_none (k1 _ _ e) nt)]
          exact j1 _ _ (s2 _ _ (k1 _ _ e))
        · rw [upd_ne tD]
          exact j1 _ _ (s2 _ _ k2)
        · rw [upd_ne tC.symm]
          exact j2
end
end Ck

namespace Ck
open PySem PySem.Spec PyProof.Rows L2
section
variable {P : Program} {w : World} {K : PySem.W.Frag} {mg : Str → Option Value} {base : Heap} {C : Addr}
theorem div_in {x b m : Int} (h1 : 1 ≤ x) (h2 : x ≤ m) (b1 : 1 ≤ b) (b2 : b ≤ m) : 1 ≤ b * (if x / b > 1 then x / b else 1) ∧ b * (if x / b > 1 then x / b else 1) ≤ m := by
  have e := Int.mul_ediv_add_emod x b
  have r0 := Int.emod_nonneg x (show b ≠ 0 by omega)
  by_cases z : x / b > 1
  · rw [if_pos z]
    have := Int.mul_le_mul_of_nonneg_left (show 1 ≤ x / b by omega) (show 0 ≤ b by omega)
    omega
  · rw [if_neg z]
    omega
abbrev s__law_clock : Stmt := topS 45
abbrev N__law_clock : List Str := ["tape", "most", "pace", "rate", "by"]
theorem sc__law_clock : FnScope N__law_clock ["tape", "most"] (defScope s__law_clock) := ⟨rfl, rfl, rfl, by decide +kernel, rfl, by decide +kernel, by decide +kernel⟩
def sp_lclock : Sp := fun vs H Q _ => ∃ (t Lg : Addr) (n : Nat) (m : Int), vs = [.ref t, .int m] ∧ Tape H t Lg n ∧ n + 20 ≤ 10 ^ 6 ∧ 10 ≤ m ∧ m ≤ 3 * 10 ^ 11 ∧ ∀ H' y a b c, Kp t Lg H H' → Tape H' t Lg (n + 20) → H' y = some (.tup [.int a, .int b, .int c]) → 1 ≤ a → a ≤ m → 1 ≤ b → b ≤ m → 0 ≤ c → c ≤ 3 * m → Q (.ref y) H'
theorem ok_lclock {f : Addr} {fd : FuncData} (F : Fun K "_law_clock" "_law_clock" s__law_clock f fd) (B : Bn mg) (D_law_draw : DefOk P w K mg base 2 "_law_draw" ["tape", "size"] sp_draw) (D_law_pick : DefOk P w K mg base 3 "_law_pick" ["tape", "several"] (sp_pick K)) : FnOk P w K mg base CX0 4 f fd ["tape", "most"] sp_lclock := by
  refine F.ok sc__law_clock (fun vs H Q E h => ?_) (fun cdv A outer s H vs Q E hr h => ?_)
  · obtain ⟨t, Lg, n, m, rfl, _⟩ := h
    rfl
  · obtain ⟨t, Lg, n, m, rfl, T0, hn, m0, m1, q⟩ := h
    refine ⟨_, (pss_cons (ps_par (i := 2) (j := 3) rfl sc__law_clock.nd rfl rfl (by decide) rfl rfl (pa_cons (pe_op op_add pe_int (pcl D_law_draw hr (pa_cons (pv 0) (pa_cons (pv 1) pa_nil)))) (pa_cons (pe_op op_add pe_int (pcl D_law_draw hr (pa_cons (pv 0) (pa_cons (pv 1) pa_nil)))) pa_nil)) (by rfl))
      (Evl.pss_cut (ps_if (pt_cmpR op_eq (pcl D_law_draw hr (pa_cons (pv 0) (pa_cons pe_int pa_nil))) pe_int (nomark _)) (pss_cons (ps_set (i := 4) sc__law_clock.nd rfl (.inl rfl) (pe_op op_add pe_int (pcl D_law_draw hr (pa_cons (pv 0) (pa_cons pe_int pa_nil)))))
      (pss_one (ps_par (i := 2) (j := 3) rfl sc__law_clock.nd rfl rfl (by decide) rfl rfl (pa_cons (pe_op op_mulW (pv 4) (pe_callB (call_max2 rfl) (by rfl) B.max bo_max (pa_cons pe_int (pa_cons (pe_op op_fdivW (pv 2) (pv 4)) pa_nil)))) (pa_cons (pe_op op_mulW (pv 4) (pe_callB (call_max2 rfl) (by rfl) B.max bo_max (pa_cons pe_int (pa_cons (pe_op op_fdivW (pv 3) (pv 4)) pa_nil)))) pa_nil)) (by rfl)))) pss_nil)
      (Evl.pss_cut (ps_if (pt_cmpR op_eq (pcl D_law_draw hr (pa_cons (pv 0) (pa_cons pe_int pa_nil))) pe_int (nomark _)) (pss_one (ps_set (i := 2) sc__law_clock.nd rfl (.inl rfl) (pcl D_law_pick hr (pa_cons (pv 0) (pa_cons (pe_lst (pa_cons pe_int (pa_cons (pv 3) (pa_cons (pe_callB (call_max2 rfl) (by rfl) B.max bo_max (pa_cons pe_int (pa_cons (pe_op op_sub (pv 3) pe_int) pa_nil))) (pa_cons (pe_callB (call_min2 rfl) (by rfl) B.min bo_min (pa_cons (pv 1) (pa_cons (pe_op op_add (pv 3) pe_int) pa_nil))) (pa_cons (pe_callB (call_min2 rfl) (by rfl) B.min bo_min (pa_cons (pv 1) (pa_cons (pe_op op_mulW pe_int (pv 3)) pa_nil))) pa_nil)))))) pa_nil))))) pss_nil)
      (pss_one (ps_ret (pe_tup (pa_cons (pv 2) (pa_cons (pv 3) (pa_cons (pcl D_law_pick hr (pa_cons (pv 0) (pa_cons (pe_lst (pa_cons pe_int (pa_cons (pcl D_law_draw hr (pa_cons (pv 0) (pa_cons (pv 3) pa_nil))) (pa_cons (pcl D_law_draw hr (pa_cons (pv 0) (pa_cons (pe_op op_mulW pe_int (pv 1)) pa_nil))) pa_nil)))) pa_nil))) pa_nil))))))))), ?_⟩
    have bm : Bd m := ⟨by omega, by omega⟩
    refine ⟨_, rfl, _, rfl, t, Lg, n, _, rfl, T0, by omega, by omega, bm, fun H1 v1 k1 T1 v10 v11 => ⟨_, _, rfl, rfl, _, rfl, _, rfl, t, Lg, n + 1, _, rfl, T1, by omega, by omega, bm, fun H2 v2 k2 T2 v20 v21 => ⟨_, _, rfl, rfl, ?_⟩⟩⟩
    refine ⟨_, _, rfl, ?_⟩
    refine ⟨fun σ H' => ∃ (a b : Int) (x4 : Option V), σ = [some (.ref t), some (.int m), some (.int a), some (.int b), x4] ∧ 1 ≤ a ∧ a ≤ m ∧ 1 ≤ b ∧ b ≤ m ∧ Kp t Lg H H' ∧ Tape H' t Lg (n + 4), ?_, ?_⟩
    · refine ⟨_, rfl, t, Lg, n + 2, _, rfl, T2, by omega, by omega, ⟨by omega, by omega⟩, fun H3 v3 k3 T3 v30 v31 => ⟨rfl, _, rfl, iteVD (fun e => ?_) (fun e => ?_)⟩⟩
      · refine ⟨_, rfl, t, Lg, n + 3, _, rfl, T3, by omega, by omega, ⟨by omega, by omega⟩, fun H4 v4 k4 T4 v40 v41 => ⟨_, _, rfl, rfl, ?_⟩⟩
        have dA := div_in (x := 1 + v1) (b := 1 + v4) (m := m) (by omega) (by omega) (by omega) (by omega)
        have dB := div_in (x := 1 + v2) (b := 1 + v4) (m := m) (by omega) (by omega) (by omega) (by omega)
        have b1 : Bd (if (1 + v1) / (1 + v4) > 1 then (1 + v1) / (1 + v4) else 1) := by
          have := Int.ediv_le_self (a := 1 + v1) (1 + v4) (by omega)
          split <;> exact ⟨by omega, by omega⟩
        have b2 : Bd (if (1 + v2) / (1 + v4) > 1 then (1 + v2) / (1 + v4) else 1) := by
          have := Int.ediv_le_self (a := 1 + v2) (1 + v4) (by omega)
          split <;> exact ⟨by omega, by omega⟩
        refine ⟨_, rfl, _, rfl, _, rfl, _, _, rfl, rfl, divB (by omega) ⟨by omega, by omega⟩, _, _, rfl, _, _, rfl, rfl, mulB ⟨by omega, by omega⟩ b1, ?_⟩
        refine ⟨_, rfl, _, rfl, _, rfl, _, _, rfl, rfl, divB (by omega) ⟨by omega, by omega⟩, _, _, rfl, _, _, rfl, rfl, mulB ⟨by omega, by omega⟩ b2, _, _, rfl, ?_⟩
        exact ⟨_, _, _, rfl, dA.1, dA.2, dB.1, dB.2, ((k1.trans k2).trans k3).trans k4, T4⟩
      · exact ⟨_, _, _, rfl, by omega, by omega, by omega, by omega, (k1.trans k2).trans k3, T3.mono (by omega)⟩
    rintro σ H4 ⟨a, b, x4, rfl, a1, a2, b1, b2, k4, T4⟩
    refine ⟨fun σ H' => ∃ (a b : Int) (x4 : Option V), σ = [some (.ref t), some (.int m), some (.int a), some (.int b), x4] ∧ 1 ≤ a ∧ a ≤ m ∧ 1 ≤ b ∧ b ≤ m ∧ Kp t Lg H H' ∧ Tape H' t Lg (n + 6), ?_, ?_⟩
    · refine ⟨_, rfl, t, Lg, n + 4, _, rfl, T4, by omega, by omega, ⟨by omega, by omega⟩, fun H5 v5 k5 T5 v50 v51 => ⟨rfl, _, rfl, iteVD (fun e => ?_) (fun e => ?_)⟩⟩
      · refine ⟨_, rfl, _, rfl, _, rfl, _, _, rfl, rfl, _, _, rfl, _, rfl, _, rfl, _, _, rfl, rfl, _, _, rfl, _, rfl, _, rfl, _, _, rfl, rfl, mulB ⟨by omega, by omega⟩ ⟨by omega, by omega⟩, _, _, rfl, by show 5 ≤ sizeLine; decide, fun y ny => ?_⟩
        refine ⟨t, Lg, y, n + 5, [1, b, if b - 1 > 1 then b - 1 else 1, if b + 1 < m then b + 1 else m, if 2 * b < m then 2 * b else m], rfl, T5.same (same_upd ny), by omega, upd_same, (T5.off ny).2, by simp, by simp, fun H6 v6 k6 T6 v60 => ?_⟩
        refine ⟨v6, b, _, rfl, ?_, ?_, b1, b2, ((k4.trans k5).trans (.same (same_upd ny))).trans k6, T6⟩
        · simp only [List.mem_cons, List.not_mem_nil, or_false] at v60
          rcases v60 with rfl | rfl | rfl | rfl | rfl <;> (try split) <;> omega
        · simp only [List.mem_cons, List.not_mem_nil, or_false] at v60
          rcases v60 with rfl | rfl | rfl | rfl | rfl <;> (try split) <;> omega
      · exact ⟨_, _, _, rfl, a1, a2, b1, b2, k4.trans k5, T5.mono (by omega)⟩
    rintro σ H6 ⟨a, b, x4, rfl, a1, a2, b1, b2, k6, T6⟩
    refine ⟨_, rfl, _, rfl, _, rfl, _, rfl, _, rfl, t, Lg, n + 6, _, rfl, T6, by omega, by omega, ⟨by omega, by omega⟩, fun H7 v7 k7 T7 v70 v71 => ?_⟩
    refine ⟨_, rfl, _, rfl, _, _, rfl, rfl, mulB ⟨by omega, by omega⟩ bm, t, Lg, n + 7, _, rfl, T7, by omega, by omega, ⟨by omega, by omega⟩, fun H8 v8 k8 T8 v80 v81 => ?_⟩
    refine ⟨by show 3 ≤ sizeLine; decide, fun y ny => ?_⟩
    refine ⟨t, Lg, y, n + 8, [0, v7, v8], rfl, T8.same (same_upd ny), by omega, upd_same, (T8.off ny).2, by simp, by simp, fun H9 v9 k9 T9 v90 => ?_⟩
    refine ⟨by show 3 ≤ sizeLine; decide, fun z nz => ?_⟩
    have b9 : 0 ≤ v9 ∧ v9 ≤ 3 * m := by
      simp only [List.mem_cons, List.not_mem_nil, or_false] at v90
      rcases v90 with rfl | rfl | rfl <;> omega
    exact q _ z a b v9 ((((k6.trans k7).trans k8).trans (.same (same_upd ny))).trans (k9.trans (.same (same_upd nz)))) ((T9.same (same_upd nz)).mono (by omega)) upd_same a1 a2 b1 b2 b9.1 b9.2
abbrev s__law_range : Stmt := topS 46
abbrev N__law_range : List Str := ["tape", "rate", "low", "high"]
theorem sc__law_range : FnScope N__law_range ["tape", "rate"] (defScope s__law_range) := ⟨rfl, rfl, rfl, by decide +kernel, rfl, by decide +kernel, by decide +kernel⟩
def sp_lrange : Sp := fun vs H Q _ => ∃ (t Lg : Addr) (n : Nat) (b : Int), vs = [.ref t, .int b] ∧ Tape H t Lg n ∧ n + 5 ≤ 10 ^ 6 ∧ 1 ≤ b ∧ b ≤ 10 ^ 12 ∧ ∀ H' y lo hi, Kp t Lg H H' → Tape H' t Lg (n + 5) → H' y = some (.tup [.int lo, .int hi]) → 0 ≤ lo → lo ≤ hi → hi < b → Q (.ref y) H'
theorem ok_lrange {f : Addr} {fd : FuncData} (F : Fun K "_law_range" "_law_range" s__law_range f fd) (B : Bn mg) (D_law_draw : DefOk P w K mg base 2 "_law_draw" ["tape", "size"] sp_draw) (D_law_pick : DefOk P w K mg base 3 "_law_pick" ["tape", "several"] (sp_pick K)) : FnOk P w K mg base CX0 4 f fd ["tape", "rate"] sp_lrange := by
  refine F.ok sc__law_range (fun vs H Q E h => ?_) (fun cdv A outer s H vs Q E hr h => ?_)
  · obtain ⟨t, Lg, n, m, rfl, _⟩ := h
    rfl
  · obtain ⟨t, Lg, n, b, rfl, T0, hn, b0, b1, q⟩ := h
    refine ⟨_, (pss_cons (ps_set (i := 2) sc__law_range.nd rfl (.inl rfl) (pcl D_law_draw hr (pa_cons (pv 0) (pa_cons (pv 1) pa_nil))))
      (pss_cons (ps_set (i := 3) sc__law_range.nd rfl (.inl rfl) (pe_op op_add (pv 2) (pcl D_law_draw hr (pa_cons (pv 0) (pa_cons (pcl D_law_pick hr (pa_cons (pv 0) (pa_cons (pe_lst (pa_cons pe_int (pa_cons (pe_callB (call_min2 rfl) (by rfl) B.min bo_min (pa_cons pe_int (pa_cons (pe_op op_sub (pv 1) (pv 2)) pa_nil))) (pa_cons (pe_op op_sub (pv 1) (pv 2)) pa_nil)))) pa_nil))) pa_nil)))))
      (pss_one (ps_ret (pe_tup (pa_cons (pv 2) (pa_cons (pv 3) pa_nil))))))), ?_⟩
    refine ⟨_, rfl, _, rfl, t, Lg, n, _, rfl, T0, by omega, by omega, ⟨by omega, by omega⟩, fun H1 v1 k1 T1 v10 v11 => ?_⟩
    refine ⟨_, rfl, _, rfl, _, rfl, _, rfl, _, rfl, _, _, rfl, rfl, _, _, rfl, _, rfl, _, rfl, _, _, rfl, rfl, by show 3 ≤ sizeLine; decide, fun y ny => ?_⟩
    refine ⟨t, Lg, y, n + 1, [1, if b - v1 < 3 then b - v1 else 3, b - v1], rfl, T1.same (same_upd ny), by omega, upd_same, (T1.off ny).2, by simp, by simp, fun H2 v2 k2 T2 v20 => ?_⟩
    have b2 : 1 ≤ v2 ∧ v2 ≤ b - v1 := by
      simp only [List.mem_cons, List.not_mem_nil, or_false] at v20
      rcases v20 with rfl | rfl | rfl <;> (try split) <;> omega
    refine ⟨t, Lg, n + 2, _, rfl, T2, by omega, by omega, ⟨by omega, by omega⟩, fun H3 v3 k3 T3 v30 v31 => ⟨_, _, rfl, rfl, ?_⟩⟩
    refine ⟨_, rfl, _, rfl, by show 2 ≤ sizeLine; decide, fun z nz => ?_⟩
    exact q _ z v1 (v1 + v3) (((k1.trans (.same (same_upd ny))).trans k2).trans (k3.trans (.same (same_upd nz)))) ((T3.same (same_upd nz)).mono (by omega)) upd_same v10 (by omega) (by omega)
end
end Ck

namespace Ck
open PySem PySem.Spec PyProof.Rows L2
/-! ### what is shown is small -/
structure Sm (n m : Nat) (d : PyData) : Prop where
  sh : d.showable = true
  nd : d.hasDict = false
  dp : d.depth ≤ n
  bd : bd d ≤ m
theorem Sm.rp {n m : Nat} {d : PyData} (s : Sm n m d) (h1 : n ≤ 60) (h2 : m ≤ 16000000) : Rp d := ⟨s.sh, s.nd, Nat.le_trans s.dp h1, Nat.le_trans s.bd h2⟩
theorem sm_int {i : Int} (h : Bd i) : Sm 0 2000 (.int i) := by
  refine ⟨?_, rfl, Nat.le_refl _, by simp only [Ck.bd]; omega⟩
  simp only [PyData.showable, decide_eq_true_eq]
  have h1 := h.log
  by_cases z : i.natAbs = 0
  · rw [z]
    decide
  · have := (Nat.log2_lt z).mpr h1
    omega
theorem sm_none : Sm 0 2000 .none := ⟨rfl, rfl, Nat.le_refl _, by simp only [Ck.bd]; omega⟩
theorem sm_all {n m : Nat} : ∀ {ds : List PyData}, (∀ d ∈ ds, Sm n m d) → PyData.showableAll ds = true ∧ PyData.hasDictAll ds = false ∧ PyData.depthAll ds ≤ n ∧ bds ds ≤ ds.length * (m + 2)
  | [], _ => ⟨rfl, rfl, Nat.zero_le _, by simp only [Ck.bds]; omega⟩
  | d :: ds, h => by
    have h1 := h d (List.mem_cons_self ..)
    obtain ⟨a, b, c, e⟩ := sm_all (ds := ds) fun x hx => h x (List.mem_cons_of_mem _ hx)
    refine ⟨?_, ?_, ?_, ?_⟩
    · simp only [PyData.showableAll, h1.sh, a, Bool.and_self]
    · simp only [PyData.hasDictAll, h1.nd, b, Bool.or_self]
    · have := h1.dp
      simp only [PyData.depthAll]
      omega
    · have := h1.bd
      simp only [Ck.bds, List.length_cons]
      have e2 : (ds.length + 1) * (m + 2) = ds.length * (m + 2) + (m + 2) := by rw [Nat.add_mul, Nat.one_mul]
      omega
theorem sm_lst {n m : Nat} {ds : List PyData} (h : ∀ d ∈ ds, Sm n m d) (hl : ds.length ≤ 10) : Sm (n + 1) (10 * (m + 2) + 3) (.list ds) := by
  obtain ⟨a, b, c, e⟩ := sm_all h
  have := Nat.mul_le_mul_right (m + 2) hl
  refine ⟨?_, ?_, ?_, ?_⟩
  · simpa only [PyData.showable] using a
  · simpa only [PyData.hasDict] using b
  · simp only [PyData.depth]
    omega
  · simp only [Ck.bd]
    omega
theorem sm_tup {n m : Nat} {ds : List PyData} (h : ∀ d ∈ ds, Sm n m d) (hl : ds.length ≤ 10) : Sm (n + 1) (10 * (m + 2) + 3) (.tuple ds) := by
  obtain ⟨a, b, c, e⟩ := sm_all h
  have := Nat.mul_le_mul_right (m + 2) hl
  refine ⟨?_, ?_, ?_, ?_⟩
  · simpa only [PyData.showable] using a
  · simpa only [PyData.hasDict] using b
  · simp only [PyData.depth]
    omega
  · simp only [Ck.bd]
    omega
theorem sm_two {n m : Nat} {d e : PyData} (h1 : Sm n m d) (h2 : Sm n m e) : ∀ x ∈ [d, e], Sm n m x := by
  intro x hx
  simp only [List.mem_cons, List.not_mem_nil, or_false] at hx
  rcases hx with rfl | rfl
  · exact h1
  · exact h2
theorem Sm.up {n m n' m' : Nat} {d : PyData} (s : Sm n m d) (h1 : n ≤ n') (h2 : m ≤ m') : Sm n' m' d := ⟨s.sh, s.nd, Nat.le_trans s.dp h1, Nat.le_trans s.bd h2⟩
def toldD (l : List (Int × Int)) : PyData := .list (l.map fun e => .tuple [.int e.1, .int e.2])
def Few (l : List (Int × Int)) : Prop := l.length ≤ 3 ∧ ∀ e ∈ l, Bd e.1 ∧ Bd e.2
theorem sm_told {l : List (Int × Int)} (h : Few l) : Sm 2 200253 (toldD l) := by
  refine (sm_lst (n := 1) (m := 20023) (fun d hd => ?_) (by rw [List.length_map]; have := h.1; omega)).up (by omega) (by omega)
  obtain ⟨e, he, rfl⟩ := List.mem_map.mp hd
  obtain ⟨b1, b2⟩ := h.2 e he
  exact sm_tup (sm_two (sm_int b1) (sm_int b2)) (by simp)
theorem rp_two {i j : Int} (h1 : Bd i) (h2 : Bd j) : Rp (.list [.int i, .int j]) := (sm_lst (sm_two (sm_int h1) (sm_int h2)) (by simp)).rp (by omega) (by omega)
theorem rp_told {l : List (Int × Int)} (h : Few l) : Rp (toldD l) := (sm_told h).rp (by omega) (by omega)
def optD : Option Int → PyData
  | some n => .int n
  | none => .none
theorem sm_opt {o : Option Int} (h : ∀ n, o = some n → Bd n) : Sm 0 2000 (optD o) := by
  cases o with
  | none => exact sm_none
  | some n => exact sm_int (h n rfl)
theorem Told.same {H H' : Hp} {y : Addr} {l : List (Int × Int)} (h : Told H y l) (s : Same H H') : Told H' y l := by
  obtain ⟨zs, a, b, c⟩ := h
  exact ⟨zs, s _ _ a, fun z hz => s _ _ (b z hz), c⟩
theorem Told.dp {K : PySem.W.Frag} {H : Hp} {y : Addr} {l : List (Int × Int)} (h : Told H y l) : Dp K H (.ref y) (toldD l) := by
  obtain ⟨zs, a, b, rfl⟩ := h
  refine .lst (.inl (.inl a)) ?_
  rw [List.map_map]
  have key : ∀ us : List (Addr × (Int × Int)), (∀ z ∈ us, H z.1 = some (.tup [.int z.2.1, .int z.2.2])) → DpAll K H (us.map fun z => V.ref z.1) (us.map ((fun e => PyData.tuple [.int e.1, .int e.2]) ∘ fun z => z.2)) := by
    intro us
    induction us with
    | nil => exact fun _ => .nil
    | cons u us ih =>
      intro hu
      exact .cons (.tup (.inl (.inl (hu u (List.mem_cons_self ..)))) (.cons (.int _) (.cons (.int _) .nil))) (ih fun z hz => hu z (List.mem_cons_of_mem _ hz))
  exact key zs b
theorem dp_opt {K : PySem.W.Frag} {H : Hp} (o : Option Int) : Dp K H (optV o) (optD o) := by
  cases o with
  | none => exact .non
  | some n => exact .int n
/-- the told waits are few and small -/
theorem waits_few {a b c lo hi : Int} {told : List (Int × Int)} (b0 : 0 < b) (b1 : b ≤ 10 ^ 12) (h0 : 0 ≤ lo) (h1 : lo ≤ hi) (h2 : hi < b) (W : WaitsR a b c lo hi told) : Few told := by
  obtain ⟨g, G, W⟩ := W
  have g0 := isGcd_pos G b0
  rcases W with ⟨_, rfl⟩ | ⟨_, _, rfl⟩ | ⟨w1, w2, k1, d1, k2, d2, X, rfl⟩
  · exact ⟨by simp, by simp⟩
  · have e1 := Int.ediv_nonneg (show 0 ≤ b by omega) (show 0 ≤ g by omega)
    have e2 := Int.ediv_le_self g (show 0 ≤ b by omega)
    refine ⟨by simp, fun e he => ?_⟩
    rw [List.mem_singleton.mp he]
    exact ⟨⟨by omega, by omega⟩, ⟨by omega, by omega⟩⟩
  · obtain ⟨f1, f2, f3⟩ := ends_facts g0 w1
    obtain ⟨c1, c2, c3, c4, c5, c6, c7⟩ := within_counts g0 f1 X
    obtain ⟨N, x1, x2, _, _, _⟩ := X
    obtain ⟨⟨s1, s2⟩, s3, s4⟩ := near_bd N
    have p1 := N.pk1
    have p2 := N.pk2
    have p3 := N.pd1
    have p4 := N.pd2
    generalize hi - (hi - c) % g - (lo + (c - lo) % g) = R at *
    have e1 := Int.ediv_le_self (a := R) g (by omega)
    have e2 := Int.ediv_nonneg (show 0 ≤ d1 by omega) (show 0 ≤ g by omega)
    have e3 := Int.ediv_nonneg (show 0 ≤ d2 by omega) (show 0 ≤ g by omega)
    have e4 := Int.ediv_le_self (a := d1) g (by omega)
    have e5 := Int.ediv_le_self (a := d2) g (by omega)
    have e6 := Int.ediv_nonneg (show 0 ≤ R by omega) (show 0 ≤ g by omega)
    unfold toldR toldOf Few
    generalize R / g = z at *
    generalize d1 / g = u at *
    generalize d2 / g = v at *
    generalize (d1 + d2) / g = q at *
    have bd : ∀ i : Int, -(10 ^ 14) ≤ i → i ≤ 10 ^ 14 → Bd i := fun i h1 h2 => ⟨by omega, by omega⟩
    refine ⟨?_, fun e he => ?_⟩
    · split <;> (try split) <;> (try split) <;> simp
    · rcases List.mem_append.mp he with he | he
      · split at he
        · rw [List.mem_singleton.mp he]
          exact ⟨bd _ (by omega) (by omega), bd _ (by omega) (by omega)⟩
        · split at he
          · simp only [List.mem_cons, List.not_mem_nil, or_false] at he
            rcases he with rfl | rfl <;> exact ⟨bd _ (by omega) (by omega), bd _ (by omega) (by omega)⟩
          · simp only [List.mem_cons, List.not_mem_nil, or_false] at he
            rcases he with rfl | rfl <;> exact ⟨bd _ (by omega) (by omega), bd _ (by omega) (by omega)⟩
      · split at he
        · rw [List.mem_singleton.mp he]
          exact ⟨bd _ (by omega) (by omega), bd _ (by omega) (by omega)⟩
        · cases he
/-! ### tests on texts -/
theorem iteSame {v : V} {A B : Prop} (b : B) : if (!decide (v = v)) = true then A else B := by
  rw [decide_eq_true rfl]
  exact iteF b
theorem iteSameT {v : V} {A B : Prop} (a : A) : if decide (v = v) = true then A else B := by
  rw [decide_eq_true rfl]
  exact iteT a
/-! ### a class made -/
def MkOk (P : Program) (w : World) (K : PySem.W.Frag) (mg : Str → Option Value) (base : Heap) (C : Addr) (k : Nat) (x : Str) (ps : List Str) (sp : Sp) : Prop := ∃ f fd, Mk K C f ∧ FnOk P w K mg base CX0 k f fd ps sp ∧ mg x = some (.ref C) ∧ L2.Binds K fd ps []
section
variable {X : Cx} {k j : Nat} {x : Str} {ps : List Str} {sp : Sp} {e : Expr} {es : List Expr} {t : TA} {p pos : Pos} {C : Addr}
theorem pmk (D : MkOk X.prog X.w X.K X.mg X.base C k x ps sp) (hr : Room j X.A) (ha : PA X (e :: es) t) (hk : k + 1 ≤ j := by decide) (hg : Gl X x := by rfl) (hdb : (x == ("__debug__" : Str)) = false := by decide)
    (he : starEach (e :: es) X.env = (false, eval e X.env) :: starEach es X.env := by rfl) (hpl : (backTo pos (starEach es X.env)).any (·.1) = false := by rfl) : PE X (.Call (.Name x p) (e :: es) [] pos) (tMake C sp [] E0 t) := by
  obtain ⟨f, fd, M, F, hm, b⟩ := D
  exact pe_make M F (hr.mono hk) hg hm b .nil pass0 ha hdb he hpl
end
theorem Clk.keep {C p t Lg : Addr} {H H' : Hp} {a b c : Int} {n : Nat} (h : Clk C H p a b c) (T : Tape H t Lg n) (k : Kp t Lg H H') : Clk C H' p a b c := by
  obtain ⟨dx, e⟩ := h
  exact ⟨dx, T.keep k e (fun _ z => nomatch z) (fun _ z => nomatch z)⟩
theorem made_same {H H' : Hp} {x dx : Addr} {o1 o2 : HO} (nx : H x = none) (nd : H dx = none) (hne : dx ≠ x) (s : ∀ q o, upd (upd H dx o1) x o2 q = some o → q ≠ x → H' q = some o) : Same H H' := fun q o e => by
  have h1 : q ≠ x := ne_of_none e nx
  have h2 : q ≠ dx := ne_of_none e nd
  refine s q o ?_ h1
  rw [upd_ne h1, upd_ne h2]
  exact e
theorem cut_fibs (j : Nat) : cutV ((fibs (j + 4)).map V.int) (some ((j + 1 : Nat) : Int)) none = [.int (fib (j + 1)), .int (fib (j + 2)), .int (fib (j + 3))] := by
  unfold cutV
  rw [HT.sIx_none, HT.sIx_nat, List.length_map, fibs_len]
  have e : min (j + 1) (j + 4) = j + 1 := by omega
  rw [e, fibs_succ, fibs_succ, fibs_succ]
  simp only [List.map_append, List.append_assoc]
  rw [List.drop_append_of_le_length (by rw [List.length_map, fibs_len]; omega), List.drop_eq_nil_of_le (by rw [List.length_map, fibs_len]; omega)]
  have e2 : j + 4 - (j + 1) = 3 := by omega
  rw [e2]
  rfl
end Ck

namespace Ck
open PySem PySem.Spec PyProof.Rows L2
section
variable {P : Program} {w : World} {K : PySem.W.Frag} {mg : Str → Option Value} {base : Heap} {C : Addr}
/-- one of the three parts of the law: it says yes -/
def sp_right : Sp := fun vs H Q _ => ∃ (t Lg : Addr) (n : Nat), vs = [.ref t] ∧ Tape H t Lg n ∧ n + 100 ≤ 10 ^ 6 ∧ ∀ H', Kp t Lg H H' → Tape H' t Lg (n + 100) → Q (.bl true) H'
abbrev s__law_spiral_right : Stmt := topS 52
abbrev N__law_spiral_right : List Str := ["tape", "at", "less", "pace", "rate", "shift", "made", "up", "far", "rest", "n", "many", "due", "low", "told", "wait", "some"]
theorem sc__law_spiral_right : FnScope N__law_spiral_right ["tape"] (defScope s__law_spiral_right) := ⟨rfl, rfl, rfl, by decide +kernel, rfl, by decide +kernel, by decide +kernel⟩
theorem if_dec {p : Prop} [Decidable p] : (if decide p = true then (1 : Int) else 0) = if p then 1 else 0 := by
  by_cases h : p
  · rw [decide_eq_true h, if_pos h]
    rfl
  · rw [decide_eq_false h, if_neg h]
    rfl
/-- the sum over a list of pairs -/
theorem ok_spiral {f : Addr} {fd : FuncData} (F : Fun K "_law_spiral_right" "_law_spiral_right" s__law_spiral_right f fd) (T : Txt K mg C) (B : Bn mg)
    (D_law_draw : DefOk P w K mg base 2 "_law_draw" ["tape", "size"] sp_draw) (D_law_steps : DefOk P w K mg base 1 "_law_steps" ["many"] sp_steps) (M_Clock : MkOk P w K mg base C 3 "Clock" ["self", "pace", "rate", "shift"] (sp_init C))
    (D_first_in : DefOk P w K mg base 4 "first_in" ["clock", "low", "high"] (sp_first_at C)) (D_nth_in : DefOk P w K mg base 4 "nth_in" ["clock", "low", "high", "n"] (sp_nth C)) (D_is_first : DefOk P w K mg base 4 "is_first" ["clock", "low", "high", "thing"] (sp_shows C))
    (D_first_paper : DefOk P w K mg base 4 "first_paper" ["clock", "low", "high"] (sp_paper_at C)) (D_waits : DefOk P w K mg base 5 "waits" ["clock", "low", "high"] (sp_waits C)) (D_count_in : DefOk P w K mg base 4 "count_in" ["clock", "low", "high", "many"] (sp_count C)) :
    FnG P w K mg base 6 f fd ["tape"] sp_right := by
  refine fun_okG F sc__law_spiral_right (fun vs H Q E h => ?_) (fun cdv A outer s H vs Q E hG hr h => ?_)
  · obtain ⟨t, Lg, n, rfl, _⟩ := h
    rfl
  · obtain ⟨t, Lg, n, rfl, T0, hn, q⟩ := h
    refine ⟨_, (pss_cons (ps_set (i := 1) sc__law_spiral_right.nd rfl (.inl rfl) (pe_op op_add pe_int (pcl D_law_draw hr (pa_cons (pv 0) (pa_cons pe_int pa_nil)))))
      (pss_cons (ps_asg (pe_slice sl_list (pcl D_law_steps hr (pa_cons (pe_op op_add (pv 1) pe_int) pa_nil)) (po_some (pe_op op_sub (pv 1) pe_int)) po_none) (pg_lst rfl (pgs_cons (pg_name (i := 2) sc__law_spiral_right.nd rfl (.inl rfl)) (pgs_cons (pg_name (i := 3) sc__law_spiral_right.nd rfl (.inl rfl)) (pgs_cons (pg_name (i := 4) sc__law_spiral_right.nd rfl (.inl rfl)) pgs_nil)))))
      (pss_cons (ps_set (i := 5) sc__law_spiral_right.nd rfl (.inl rfl) (pcl D_law_draw hr (pa_cons (pv 0) (pa_cons (pv 4) pa_nil))))
      (pss_cons (ps_set (i := 6) sc__law_spiral_right.nd rfl (.inl rfl) (pmk M_Clock hr (pa_cons (pv 3) (pa_cons (pv 4) (pa_cons (pv 5) pa_nil)))))
      (Evl.pss_cut (ps_set (i := 7) sc__law_spiral_right.nd rfl (.inl rfl) (pe_ifExp (pt_cmpR op_eq (pe_op op_mod (pe_callTy call_int1 (by rfl) B.int bo_int (pa_cons (pe_op op_mulW (pv 3) (pv 3)) pa_nil)) (pv 4)) pe_int (nomark _)) (pv 3) (pe_op op_sub (pv 4) (pv 3))))
      (pss_cons (ps_set (i := 8) sc__law_spiral_right.nd rfl (.inl rfl) (pcl D_law_draw hr (pa_cons (pv 0) (pa_cons (pv 4) pa_nil))))
      (pss_cons (ps_set (i := 9) sc__law_spiral_right.nd rfl (.inl rfl) (pe_op op_mod (pe_callTy call_int1 (by rfl) B.int bo_int (pa_cons (pe_op op_add (pv 5) (pv 8)) pa_nil)) (pv 4)))
      (pss_cons (ps_set (i := 10) sc__law_spiral_right.nd rfl (.inl rfl) (pe_op op_mod (pe_callTy call_int1 (by rfl) B.int bo_int (pa_cons (pe_op op_mulW (pv 8) (pv 7)) pa_nil)) (pv 4)))
      (pss_cons (ps_if (pt_cmpR op_ne (pe_callB (call_repr hr.units hG) (by rfl) B.repr bo_repr (pa_cons (pe_lst (pa_cons (pcl D_first_in hr (pa_cons (pv 6) (pa_cons (pv 9) (pa_cons (pv 9) pa_nil)))) (pa_cons (pcl D_nth_in hr (pa_cons (pv 6) (pa_cons (pv 9) (pa_cons (pv 9) (pa_cons pe_int pa_nil))))) pa_nil))) pa_nil)) (pe_callB (call_repr hr.units hG) (by rfl) B.repr bo_repr (pa_cons (pe_lst (pa_cons (pv 10) (pa_cons (pe_op op_add (pv 10) (pe_op op_mulW pe_int (pv 4))) pa_nil))) pa_nil)) (nomark _)) (pss_one (ps_ret pe_bl)) pss_nil)
      (pss_cons (ps_if (PW.pt (pw_or (pt_cmpR op_notBl (pcl D_is_first hr (pa_cons (pv 6) (pa_cons (pv 9) (pa_cons (pv 9) (pa_cons (pcl D_first_paper hr (pa_cons (pv 6) (pa_cons (pv 9) (pa_cons (pv 9) pa_nil)))) pa_nil))))) pe_bl (nomark _)) (pw_or1 (pt_cmpR op_ne (pe_callB (call_repr hr.units hG) (by rfl) B.repr bo_repr (pa_cons (pcl D_waits hr (pa_cons (pv 6) (pa_cons (pv 9) (pa_cons (pv 9) pa_nil)))) pa_nil)) (pe_callB (call_repr hr.units hG) (by rfl) B.repr bo_repr (pa_cons (pe_lst (pa_cons (pe_tup (pa_cons (pv 4) (pa_cons pe_int pa_nil))) pa_nil)) pa_nil)) (nomark _))))) (pss_one (ps_ret pe_bl)) pss_nil)
      (pss_cons (ps_set (i := 11) sc__law_spiral_right.nd rfl (.inl rfl) (pcl D_law_draw hr (pa_cons (pv 0) (pa_cons (pe_op op_pow pe_int pe_int) pa_nil))))
      (pss_cons (ps_set (i := 12) sc__law_spiral_right.nd rfl (.inl rfl) (pe_op op_add (pe_op op_fdivW (pv 11) (pv 4)) (pe_callTy call_int1 (by rfl) B.int bo_int (pa_cons (pe_cmpR op_lt (pv 10) (pe_op op_mod (pe_callTy call_int1 (by rfl) B.int bo_int (pa_cons (pv 11) pa_nil)) (pv 4)) (nomark _)) pa_nil))))
      (pss_cons (ps_if (pt_cmpR op_ne (pe_callB (call_repr hr.units hG) (by rfl) B.repr bo_repr (pa_cons (pe_lst (pa_cons (pcl D_count_in hr (pa_cons (pv 6) (pa_cons (pv 9) (pa_cons (pv 9) (pa_cons (pv 11) pa_nil))))) (pa_cons (pcl D_count_in hr (pa_cons (pv 6) (pa_cons pe_int (pa_cons (pe_op op_sub (pv 4) pe_int) (pa_cons (pv 11) pa_nil))))) pa_nil))) pa_nil)) (pe_callB (call_repr hr.units hG) (by rfl) B.repr bo_repr (pa_cons (pe_lst (pa_cons (pv 12) (pa_cons (pv 11) pa_nil))) pa_nil)) (nomark _)) (pss_one (ps_ret pe_bl)) pss_nil)
      (pss_cons (ps_set (i := 13) sc__law_spiral_right.nd rfl (.inl rfl) (pcl D_law_draw hr (pa_cons (pv 0) (pa_cons (pe_op op_add (pe_op op_sub (pv 4) (pv 2)) pe_int) pa_nil))))
      (pss_cons (ps_set (i := 14) sc__law_spiral_right.nd rfl (.inl rfl) (pcl D_waits hr (pa_cons (pv 6) (pa_cons (pv 13) (pa_cons (pe_op op_sub (pe_op op_add (pv 13) (pv 2)) pe_int) pa_nil)))))
      (pss_cons (ps_if (PW.pt (pw_or (pt_cmpR op_ne (pe_callB (cr_sum rfl) (by rfl) B.sum bo_sum (pa_cons (pe_lc (own := [("wait", 15), ("some", 16)]) (g := (gTup _ 2 (gCons (gName 15) (gCons (gName 16) gNil)))) rfl sc__law_spiral_right.nd (pi_list (pv 14)) (blkOk_by (own := [("wait", 15), ("some", 16)]) (N := N__law_spiral_right) (sc := defScope s__law_spiral_right) (by decide +kernel)) (fun _ _ _ _ _ => pg_tup rfl (pgs_cons (pg_name (i := 15) sc__law_spiral_right.nd rfl (Or.inl rfl)) (pgs_cons (pg_name (i := 16) sc__law_spiral_right.nd rfl (Or.inl rfl)) pgs_nil))) (fun _ _ _ _ _ => pts_nil) (fun _ _ _ _ _ => (pe_op op_mulW (pv 15) (pv 16)))) pa_nil)) (pv 4) (nomark _)) (pw_or1 (pt_cmpR op_ne (pe_callB (cr_sum rfl) (by rfl) B.sum bo_sum (pa_cons (pe_lc (own := [("wait", 15), ("some", 16)]) (g := (gTup _ 2 (gCons (gName 15) (gCons (gName 16) gNil)))) rfl sc__law_spiral_right.nd (pi_list (pv 14)) (blkOk_by (own := [("wait", 15), ("some", 16)]) (N := N__law_spiral_right) (sc := defScope s__law_spiral_right) (by decide +kernel)) (fun _ _ _ _ _ => pg_tup rfl (pgs_cons (pg_name (i := 15) sc__law_spiral_right.nd rfl (Or.inl rfl)) (pgs_cons (pg_name (i := 16) sc__law_spiral_right.nd rfl (Or.inl rfl)) pgs_nil))) (fun _ _ _ _ _ => pts_nil) (fun _ _ _ _ _ => (pv 16))) pa_nil)) (pv 2) (nomark _))))) (pss_one (ps_ret pe_bl)) pss_nil)
      (pss_one (ps_ret (pe_and (pe_cmpR op_le (pe_callB call_len_seq (by rfl) B.len bo_len (pa_cons (pv 14) pa_nil)) pe_int (nomark _)) (pe_one (pe_or (pe_cmpR op_lt (pe_callB call_len_seq (by rfl) B.len bo_len (pa_cons (pv 14) pa_nil)) pe_int (nomark _)) (pe_one (pe_cmpR op_eq (pe_ix ix_tup (pe_ix ix_list (pv 14) pe_int (fun _ _ => rfl)) pe_int (fun _ _ => rfl)) (pe_op op_add (pe_ix ix_tup (pe_ix ix_list (pv 14) pe_int (fun _ _ => rfl)) pe_int (fun _ _ => rfl)) (pe_ix ix_tup (pe_ix ix_list (pv 14) pe_int (fun _ _ => rfl)) pe_int (fun _ _ => rfl))) (nomark _)))))))))))))))))))))))), ?_⟩
    -- at
    refine ⟨_, rfl, t, Lg, n, _, rfl, T0, by omega, by omega, ⟨by omega, by omega⟩, fun H1 v1 k1 T1 v10 v11 => ⟨_, _, rfl, rfl, ?_⟩⟩
    obtain ⟨j, rfl⟩ : ∃ j : Nat, v1 = (j : Int) := ⟨v1.toNat, by omega⟩
    -- less, pace, rate
    refine ⟨_, rfl, _, _, rfl, rfl, j + 4, congrArg (fun z => [V.int z]) (show 3 + (j : Int) + 1 = ((j + 4 : Nat) : Int) by omega), by omega, by omega, fun H2 y s2 ny hy => ?_⟩
    refine ⟨_, rfl, _, _, rfl, rfl, ((j + 1 : Nat) : Int), congrArg V.int (show 3 + (j : Int) - 2 = ((j + 1 : Nat) : Int) by omega), y, _, rfl, .inl (.inl hy), fun z nz => ?_⟩
    rw [cut_fibs]
    have s3 : Same H2 (upd H2 z (.lst [.int (fib (j + 1)), .int (fib (j + 2)), .int (fib (j + 3))])) := same_upd nz
    refine ⟨z, _, rfl, .inl (.inl upd_same), rfl, _, _, rfl, _, _, rfl, _, _, rfl, rfl, ?_⟩
    have L1 := fib_pos (j + 1)
    have L0 := fib_pos j
    have L2 := fib_pos (j + 2)
    have e3 : fib (j + 3) = fib (j + 2) + fib (j + 1) := rfl
    have e2 : fib (j + 2) = fib (j + 1) + fib j := rfl
    have rb := fib_le (n := j + 3) (by omega)
    have ca := cassini (j + 1)
    have l2 : 2 ≤ fib (j + 1) := by omega
    have up := spiral_up (l := fib (j + 1)) (p := fib (j + 2)) (r := fib (j + 3)) (by omega) (by omega) (by omega) ca
    have L1' := L1.2
    have L2' := L2.2
    have e1' : fib (j + 1 + 1) = fib (j + 2) := rfl
    have e2' : fib (j + 2 + 1) = fib (j + 3) := rfl
    rw [e1'] at L1'
    rw [e2'] at L2'
    clear e1' e2' ca L1 L0 L2 e2
    generalize fib (j + 1) = l at *
    generalize fib (j + 2) = p at *
    generalize fib (j + 3) = r at *
    have kk3 : Kp t Lg H (upd H2 z (.lst [.int l, .int p, .int r])) := k1.trans (.same (s2.trans s3))
    have T3 := (T1.same s2).same s3
    show tSeq _ _ _ _ (upd H2 z (.lst [.int l, .int p, .int r]))
    generalize upd H2 z (.lst [.int l, .int p, .int r]) = H3 at s3 kk3 T3 ⊢
    have br : Bd r := ⟨by omega, by omega⟩
    -- shift
    refine ⟨_, rfl, _, rfl, t, Lg, n + 1, r, rfl, T3, by omega, by omega, br, fun H4 sh k4 T4 sh0 sh1 => ?_⟩
    -- the clock
    refine ⟨_, rfl, _, rfl, _, rfl, fun x dx nx ndx hne => ?_⟩
    refine ⟨x, dx, p, r, sh, rfl, upd_same, by omega, by omega, by omega, by omega, by omega, by omega, fun H5 ks clk5 => ⟨rfl, ?_⟩⟩
    have s5 := made_same nx ndx hne ks
    have kk5 : Kp t Lg H H5 := (kk3.trans k4).trans (.same s5)
    have T5 := T4.same s5
    clear ks
    have ckb : CkB p r sh := ⟨by omega, by omega, by omega, by omega, by omega, by omega⟩
    have hr0 : 0 < r := by omega
    -- up
    refine ⟨fun σ H' => H' = H5 ∧ ∃ y1 : Option V, σ = [some (.ref t), y1, some (.int l), some (.int p), some (.int r), some (.int sh), some (.ref x), some (.int (if p * p % r = 1 then p else r - p)), none, none, none, none, none, none, none, none, none], ?_, ?_⟩
    · refine ⟨_, rfl, _, rfl, _, _, rfl, rfl, mulB ⟨by omega, by omega⟩ ⟨by omega, by omega⟩, .inl ⟨_, rfl, _, rfl, _, _, rfl, rfl, hr0, rfl, _, rfl, iteVD (fun e => ⟨_, rfl, rfl, some (.int (3 + (j : Int))), ?_⟩) (fun e => ⟨_, rfl, _, rfl, _, _, rfl, rfl, rfl, some (.int (3 + (j : Int))), ?_⟩)⟩⟩
      · rw [if_pos e]
        rfl
      · rw [if_neg e]
        rfl
    rintro σ H' ⟨rfl, y1, rfl⟩
    have bu : Bd (if p * p % r = 1 then p else r - p) := by split <;> exact ⟨by omega, by omega⟩
    generalize (if p * p % r = 1 then p else r - p) = u at up bu ⊢
    have u0 : Bd u := bu
    -- far, rest, n
    refine ⟨_, rfl, _, rfl, t, Lg, n + 2, r, rfl, T5, by omega, by omega, br, fun H6 far k6 T6 far0 far1 => ?_⟩
    have kk6 := kk5.trans k6
    have clk6 := clk5.keep T5 k6
    refine ⟨_, rfl, _, rfl, _, _, rfl, rfl, .inl ⟨_, rfl, _, rfl, _, _, rfl, rfl, hr0, ?_⟩⟩
    refine ⟨_, rfl, _, rfl, _, _, rfl, rfl, mulB ⟨by omega, by omega⟩ u0, .inl ⟨_, rfl, _, rfl, _, _, rfl, rfl, hr0, ?_⟩⟩
    have hin := fun m : Int => inv_in (s := sh) (far := far) (m := m) hr0 up
    have re0 := Int.emod_nonneg (sh + far) (show r ≠ 0 by omega)
    have re1 := Int.emod_lt_of_pos (sh + far) hr0
    have nn0 := Int.emod_nonneg (far * u) (show r ≠ 0 by omega)
    have nn1 := Int.emod_lt_of_pos (far * u) hr0
    have cone := cnt_one hr0 nn0 nn1 fun m _ => hin m
    have G1 := inv_gcd up
    show tSeq _ _ _ [some (.ref t), y1, some (.int l), some (.int p), some (.int r), some (.int sh), some (.ref x), some (.int u), some (.int far), some (.int ((sh + far) % r)), some (.int (far * u % r)), none, none, none, none, none, none] H6
    generalize (sh + far) % r = rest at *
    generalize far * u % r = nn at *
    have hnn : InR p r sh rest rest nn := (hin nn).mpr (Int.emod_eq_of_lt nn0 nn1)
    have fst : FirstIn p r sh rest rest (some nn) := ⟨nn0, hnn, fun m m0 m1 z => by
      have := (hin m).mp z
      rw [Int.emod_eq_of_lt m0 (by omega)] at this
      omega⟩
    have hnth : InR p r sh rest rest (nn + 5 * r) := (hin _).mpr (by
      have := mod_at (r := r) (q := 5) (x := nn) hr0 nn0 nn1
      rwa [Int.add_comm] at this)
    have cnth : cnt p r sh rest rest (nn + 5 * r).toNat = 5 := by
      rw [cone]
      have e : (((nn + 5 * r).toNat : Nat) : Int) = 5 * r + nn := by omega
      rw [e, div_is hr0 (m := 5) (by omega) (by omega), mod_at hr0 nn0 nn1, if_neg (by omega)]
      omega
    -- the first and the fifth
    refine ⟨_, rfl, _, rfl, _, rfl, x, p, r, sh, rest, rest, rfl, clk6, ckb, re0, Int.le_refl _, re1, fun H7 o s7 f7 => ?_⟩
    obtain rfl := firstIn_uniq f7 fst
    refine ⟨_, rfl, _, rfl, _, rfl, x, p, r, sh, rest, rest, 5, nn + 5 * r, rfl, clk6.same s7, ckb, re0, Int.le_refl _, re1, by decide, by decide, by omega, hnth, cnth, fun H8 s8 => ?_⟩
    refine ⟨by show 2 ≤ sizeLine; decide, fun y2 ny2 => ⟨_, .list [.int nn, .int (nn + 5 * r)], rfl, .lst (.inl (.inl upd_same)) (.cons (.int _) (.cons (.int _) .nil)), rp_two ⟨by omega, by omega⟩ ⟨by omega, by omega⟩, ?_⟩⟩
    have s9 : Same H8 (upd H8 y2 (.lst [.int nn, .int (nn + 5 * r)])) := same_upd ny2
    refine ⟨_, rfl, _, rfl, _, rfl, _, _, rfl, rfl, mulB ⟨by omega, by omega⟩ br, _, _, rfl, rfl, by show 2 ≤ sizeLine; decide, fun y3 ny3 => ⟨_, .list [.int nn, .int (nn + 5 * r)], rfl, .lst (.inl (.inl upd_same)) (.cons (.int _) (.cons (.int _) .nil)), rp_two ⟨by omega, by omega⟩ ⟨by omega, by omega⟩, rfl, _, rfl, iteSame ?_⟩⟩
    have s10 := s9.trans (same_upd (o := .lst [.int nn, .int (nn + 5 * r)]) ny3)
    have ss6 := (s7.trans s8).trans s10
    show tSeq _ _ _ _ (upd (upd H8 y2 (.lst [.int nn, .int (nn + 5 * r)])) y3 (.lst [.int nn, .int (nn + 5 * r)]))
    generalize upd (upd H8 y2 (.lst [.int nn, .int (nn + 5 * r)])) y3 (.lst [.int nn, .int (nn + 5 * r)]) = H9 at ss6 ⊢
    clear s9 s10
    have kk9 := kk6.trans (.same ss6)
    have clk9 := clk6.same ss6
    have T9 := T6.same ss6
    -- the paper, the waits at one rest
    refine ⟨_, rfl, _, rfl, _, rfl, _, rfl, _, rfl, _, rfl, x, p, r, sh, rest, rest, rfl, clk9, ckb, re0, Int.le_refl _, re1, ⟨nn, nn0, hnn⟩, fun H10 yp xs s11 hyp pap => ?_⟩
    refine ⟨x, p, r, sh, rest, rest, yp, xs, rfl, clk9.same s11, ckb, re0, Int.le_refl _, re1, hyp, pap, fun H11 s12 => ⟨true, true, rfl, rfl, _, rfl, iteF ?_⟩⟩
    refine ⟨_, rfl, _, rfl, _, rfl, x, p, r, sh, rest, rest, rfl, (clk9.same s11).same s12, ckb, re0, Int.le_refl _, re1, fun H12 yw told s13 nyw tw W => ?_⟩
    have etold : told = [(r, 1)] := by
      obtain ⟨g, G, W⟩ := W
      obtain rfl := isGcd_uniq G G1
      rw [Int.emod_one, Int.emod_one, Int.ediv_one] at W
      rcases W with ⟨z, _⟩ | ⟨_, _, e⟩ | ⟨_, z, _⟩
      · omega
      · exact e
      · omega
    subst etold
    have few1 : Few [(r, 1)] := ⟨by simp, fun e he => by rw [List.mem_singleton.mp he]; exact ⟨br, ⟨by omega, by omega⟩⟩⟩
    refine ⟨_, toldD [(r, 1)], rfl, tw.dp, rp_told few1, ?_⟩
    refine ⟨_, rfl, by show 2 ≤ sizeLine; decide, fun y4 ny4 => ⟨by show 1 ≤ sizeLine; decide, fun y5 ny5 => ⟨_, toldD [(r, 1)], rfl, Told.dp ⟨[(y4, (r, 1))], upd_same, fun z hz => ?_, rfl⟩, rp_told few1, rfl, _, rfl, iteSame ?_⟩⟩⟩
    · rw [List.mem_singleton.mp hz]
      rw [upd_ne (ne_of_none (updS ny5) ny5)]
      exact updS ny5
    have s14 := stepS (Same.refl H12) ny4 ny5
    have s15 := s14.trans (same_upd (o := .lst [.ref y4]) ny5)
    have ss9 := ((s11.trans s12).trans s13).trans s15
    show tSeq _ _ _ _ (upd (upd H12 y4 (.tup [.int r, .int 1])) y5 (.lst [.ref y4]))
    generalize upd (upd H12 y4 (.tup [.int r, .int 1])) y5 (.lst [.ref y4]) = H13 at ss9 ⊢
    clear s14 s15
    have kk13 := kk9.trans (.same ss9)
    have clk13 := clk9.same ss9
    have T13 := T9.same ss9
    -- how many
    refine ⟨_, rfl, _, _, rfl, rfl, ⟨by decide, by decide, by decide⟩, t, Lg, n + 3, _, rfl, T13, by omega, by decide, ⟨by decide, by decide⟩, fun H14 many k14 T14 m0 m1 => ?_⟩
    have m1 : many < 10 ^ 17 := m1
    have kk14 := kk13.trans k14
    have clk14 := clk13.keep T13 k14
    have em : ((many.toNat : Nat) : Int) = many := by omega
    have hdue : cnt p r sh rest rest many.toNat = many / r + (if decide (nn < many % r) = true then 1 else 0) := by
      rw [cone, em, if_dec]
    have hall : cnt p r sh 0 (r - 1) many.toNat = many := by
      rw [cnt_all fun m _ => ⟨Int.emod_nonneg _ (by omega), by have := Int.emod_lt_of_pos (m * p + sh) hr0; omega⟩]
      exact em
    refine ⟨_, rfl, _, rfl, _, _, rfl, rfl, divB hr0 br, _, rfl, _, rfl, .inl ⟨_, rfl, _, rfl, _, _, rfl, rfl, hr0, _, _, rfl, rfl, .inr ⟨_, rfl, _, _, rfl, rfl, ?_⟩⟩⟩
    refine ⟨_, rfl, _, rfl, _, rfl, _, rfl, x, p, r, sh, rest, rest, many, rfl, clk14, ckb, re0, Int.le_refl _, re1, m0, by omega, fun H15 s15 => ?_⟩
    refine ⟨_, rfl, _, rfl, _, _, rfl, rfl, _, rfl, x, p, r, sh, 0, r - 1, many, rfl, clk14.same s15, ckb, by omega, by omega, by omega, m0, by omega, fun H16 s16 => ?_⟩
    rw [hdue, hall]
    have q0 := Int.ediv_nonneg m0 (show 0 ≤ r by omega)
    have q1 := Int.ediv_le_self r m0
    have bdue : Bd (many / r + (if decide (nn < many % r) = true then 1 else 0)) := by split <;> exact ⟨by omega, by omega⟩
    refine ⟨by show 2 ≤ sizeLine; decide, fun y6 ny6 => ⟨_, .list [.int (many / r + (if decide (nn < many % r) = true then 1 else 0)), .int many], rfl, .lst (.inl (.inl upd_same)) (.cons (.int _) (.cons (.int _) .nil)), rp_two bdue ⟨by omega, by omega⟩, ?_⟩⟩
    refine ⟨_, rfl, _, rfl, by show 2 ≤ sizeLine; decide, fun y7 ny7 => ⟨_, .list [.int (many / r + (if decide (nn < many % r) = true then 1 else 0)), .int many], rfl, .lst (.inl (.inl upd_same)) (.cons (.int _) (.cons (.int _) .nil)), rp_two bdue ⟨by omega, by omega⟩, rfl, _, rfl, iteSame ?_⟩⟩
    have s17 := (stepS (Same.refl H16) ny6 ny7).trans (same_upd (o := .lst [.int (many / r + (if decide (nn < many % r) = true then 1 else 0)), .int many]) ny7)
    have ss14 := (s15.trans s16).trans s17
    show tSeq _ _ _ _ (upd (upd H16 y6 (.lst [.int (many / r + (if decide (nn < many % r) = true then 1 else 0)), .int many])) y7 (.lst [.int (many / r + (if decide (nn < many % r) = true then 1 else 0)), .int many]))
    generalize upd (upd H16 y6 (.lst [.int (many / r + (if decide (nn < many % r) = true then 1 else 0)), .int many])) y7 (.lst [.int (many / r + (if decide (nn < many % r) = true then 1 else 0)), .int many]) = H17 at ss14 ⊢
    clear s17
    have kk17 := kk14.trans (.same ss14)
    have clk17 := clk14.same ss14
    have T17 := T14.same ss14
    -- a range as wide as the third number
    refine ⟨_, rfl, _, rfl, _, rfl, _, _, rfl, rfl, _, _, rfl, rfl, t, Lg, n + 4, r - l + 1, rfl, T17, by omega, by omega, ⟨by omega, by omega⟩, fun H18 low k18 T18 w0 w1 => ?_⟩
    have kk18 := kk17.trans k18
    have clk18 := clk17.keep T17 k18
    refine ⟨_, rfl, _, rfl, _, rfl, _, rfl, _, _, rfl, rfl, _, _, rfl, rfl, x, p, r, sh, low, low + l - 1, rfl, clk18, ckb, w0, by omega, by omega, fun H19 yt told s19 nyt tt W2 => ?_⟩
    obtain ⟨sW, sM, shp⟩ := waits_one G1 l2 W2
    have few := waits_few hr0 rb w0 (by omega) (by omega) W2
    obtain ⟨zs, z1, z2, rfl⟩ := tt
    rw [sumW_map] at sW
    rw [sumM_map] at sM
    have few3 : zs.length ≤ 3 := by have := few.1; rwa [List.length_map] at this
    have hq : ∀ {Hc : Hp}, (∀ q o, H19 q = some o → Hc q = some o) → SqL K Hc yt (zs.map fun z => V.ref z.1) := fun k => .inl (.inl (k _ _ z1))
    -- the sum of the waits
    refine ⟨_, rfl, yt, rfl, ⟨_, hq fun _ _ e => e⟩, fun D nD => ?_⟩
    refine lc_list (K := K) (xs := zs.map fun z => V.ref z.1) (fun i Hc => (∀ q o, H19 q = some o → Hc q = some o) ∧ Hc D = some (.lst (((zs.take i).map fun z => z.2.1 * z.2.2).map V.int))) ⟨same_upd nD, upd_same⟩ ?_ ?_ ?_
    · rintro i Hc _ ⟨k1, _⟩
      exact hq k1
    · rintro i xx Hc hx ⟨k1, k2⟩
      rw [List.getElem?_map] at hx
      obtain ⟨zz, hz, rfl⟩ := Option.map_eq_some_iff.mp hx
      have hm := List.mem_of_getElem? hz
      obtain ⟨bz1, bz2⟩ := few.2 zz.2 (List.mem_map.mpr ⟨zz, hm, rfl⟩)
      refine ⟨zz.1, _, rfl, .inl (.inl (k1 _ _ (z2 zz hm))), rfl, _, _, rfl, _, _, rfl, rfl, rfl, ?_⟩
      refine ⟨_, rfl, _, rfl, _, _, rfl, rfl, mulB bz1 bz2, _, k2, ?_, fun q o e => ?_, ?_⟩
      · rw [List.length_map, List.length_map, List.length_take]
        exact small1000' (by omega)
      · rw [upd_ne (ne_of_none e nD)]
        exact k1 q o e
      · rw [upd_same, List.take_add_one, hz, List.map_append, List.map_append]
        rfl
    rintro H20 ⟨s20, hD⟩
    rw [List.length_map, List.take_length] at hD
    refine ⟨D, _, rfl, .inl (.inl hD), ?_⟩
    rw [sW]
    refine ⟨_, rfl, rfl, _, rfl, iteSame ?_⟩
    -- the sum of the counts
    refine ⟨_, rfl, yt, rfl, ⟨_, hq s20⟩, fun D2 nD2 => ?_⟩
    refine lc_list (K := K) (xs := zs.map fun z => V.ref z.1) (fun i Hc => (∀ q o, H20 q = some o → Hc q = some o) ∧ Hc D2 = some (.lst (((zs.take i).map fun z => z.2.2).map V.int))) ⟨same_upd nD2, upd_same⟩ ?_ ?_ ?_
    · rintro i Hc _ ⟨k1, _⟩
      exact hq fun q o e => k1 _ _ (s20 _ _ e)
    · rintro i xx Hc hx ⟨k1, k2⟩
      rw [List.getElem?_map] at hx
      obtain ⟨zz, hz, rfl⟩ := Option.map_eq_some_iff.mp hx
      have hm := List.mem_of_getElem? hz
      refine ⟨zz.1, _, rfl, .inl (.inl (k1 _ _ (s20 _ _ (z2 zz hm)))), rfl, _, _, rfl, _, _, rfl, rfl, rfl, ?_⟩
      refine ⟨_, rfl, _, k2, ?_, fun q o e => ?_, ?_⟩
      · rw [List.length_map, List.length_map, List.length_take]
        exact small1000' (by omega)
      · rw [upd_ne (ne_of_none e nD2)]
        exact k1 q o e
      · rw [upd_same, List.take_add_one, hz, List.map_append, List.map_append]
        rfl
    rintro H21 ⟨s21, hD2⟩
    rw [List.length_map, List.take_length] at hD2
    refine ⟨D2, _, rfl, .inl (.inl hD2), ?_⟩
    rw [sM]
    refine ⟨_, rfl, rfl, _, rfl, iteSame ?_⟩
    have sAll : ∀ q o, H19 q = some o → H21 q = some o := fun q o e => s21 _ _ (s20 _ _ e)
    have fin : Q (.bl true) H21 := q H21 (((kk18.trans (.same s19)).trans (.same s20)).trans (.same s21)) ((((T18.same s19).same s20).same s21).mono (by omega))
    refine ⟨_, rfl, yt, _, rfl, .inl (hq sAll), _, _, rfl, rfl, _, rfl, iteD (fun _ => ?_) (fun e => absurd (show ((zs.map fun z => V.ref z.1).length : Int) ≤ 3 by rw [List.length_map]; omega) e)⟩
    refine ⟨_, rfl, yt, _, rfl, .inl (hq sAll), _, _, rfl, rfl, _, rfl, ?_⟩
    rcases shp with hl | ⟨a, b, c, habc, hc⟩
    · rw [List.length_map] at hl
      refine iteD (fun e => ?_) (fun e => absurd (show ((zs.map fun z => V.ref z.1).length : Int) < 3 by rw [List.length_map]; omega) e)
      exact fin
    · have hz3 : ∃ za zb zc, zs = [za, zb, zc] := by
        match zs, habc with
        | [za, zb, zc], _ => exact ⟨za, zb, zc, rfl⟩
      obtain ⟨za, zb, zc, rfl⟩ := hz3
      simp only [List.map_cons, List.map_nil, List.cons.injEq, and_true] at habc
      obtain ⟨rfl, rfl, rfl⟩ := habc
      refine iteD (fun e => absurd (show ((3 : Nat) : Int) < 3 from e) (by decide)) (fun _ => ?_)
      have ha := sAll _ _ (z2 za (by simp))
      have hb := sAll _ _ (z2 zb (by simp))
      have hc' := sAll _ _ (z2 zc (by simp))
      refine ⟨_, rfl, yt, _, 2, _, rfl, rfl, hq sAll, rfl, zc.1, _, 0, _, rfl, rfl, .inl (.inl hc'), rfl, ?_⟩
      refine ⟨_, rfl, yt, _, 0, _, rfl, rfl, hq sAll, rfl, za.1, _, 0, _, rfl, rfl, .inl (.inl ha), rfl, ?_⟩
      refine ⟨_, rfl, yt, _, 1, _, rfl, rfl, hq sAll, rfl, zb.1, _, 0, _, rfl, rfl, .inl (.inl hb), rfl, _, _, rfl, rfl, rfl, ?_⟩
      show Q (.bl (decide (V.int zc.2.1 = V.int (za.2.1 + zb.2.1)))) H21
      rw [hc, decide_eq_true rfl]
      exact fin
end
end Ck

namespace Ck
open PySem PySem.Spec PyProof.Rows L2
section
variable {P : Program} {w : World} {K : PySem.W.Frag} {mg : Str → Option Value} {base : Heap} {C : Addr}
theorem Tape.tup {t Lg b : Addr} {H H' : Hp} {n : Nat} {xs : List V} (T : Tape H t Lg n) (k : Kp t Lg H H') (e : H b = some (.tup xs)) : H' b = some (.tup xs) := T.keep k e (fun _ z => nomatch z) (fun _ z => nomatch z)
theorem sm_pair {o : Option Int} {told : List (Int × Int)} (h1 : ∀ n, o = some n → Bd n) (h2 : Few told) : Rp (.list [optD o, toldD told]) := (sm_lst (n := 2) (m := 200253) (sm_two ((sm_opt h1).up (by omega) (by omega)) (sm_told h2)) (by simp)).rp (by omega) (by omega)
theorem first_bd {a b c lo hi : Int} (h0 : 0 < b) (h1 : b ≤ 10 ^ 12) {o : Option Int} (f : FirstIn a b c lo hi o) : ∀ n, o = some n → Bd n := by
  rintro n rfl
  have := firstIn_lt h0 f
  have := f.1
  exact ⟨by omega, by omega⟩
theorem turn_pace {a b : Int} (hb : 0 < b) : b ∣ a + (if (0 - a) % b > 0 then (0 - a) % b else b) ∧ 1 ≤ (if (0 - a) % b > 0 then (0 - a) % b else b) ∧ (if (0 - a) % b > 0 then (0 - a) % b else b) ≤ b := by
  have e := Int.mul_ediv_add_emod (0 - a) b
  have a0 := Int.emod_nonneg (0 - a) (show b ≠ 0 by omega)
  have a1 := Int.emod_lt_of_pos (0 - a) hb
  by_cases z : (0 - a) % b > 0
  · rw [if_pos z]
    exact ⟨⟨-((0 - a) / b), by grind⟩, by omega, by omega⟩
  · rw [if_neg z]
    have z0 : (0 - a) % b = 0 := by omega
    rw [z0] at e
    exact ⟨⟨1 - (0 - a) / b, by grind⟩, by omega, Int.le_refl _⟩
theorem turn_shift {c b : Int} (hb : 0 < b) : b ∣ c + (0 - c) % b := by
  have e := Int.mul_ediv_add_emod (0 - c) b
  exact ⟨-((0 - c) / b), by grind⟩
abbrev s__law_mirror_right : Stmt := topS 54
abbrev N__law_mirror_right : List Str := ["tape", "clock", "ends", "many", "back", "made", "turned", "low", "high", "one", "other"]
theorem sc__law_mirror_right : FnScope N__law_mirror_right ["tape"] (defScope s__law_mirror_right) := ⟨rfl, rfl, rfl, by decide +kernel, rfl, by decide +kernel, by decide +kernel⟩
theorem ok_mirror {f : Addr} {fd : FuncData} (F : Fun K "_law_mirror_right" "_law_mirror_right" s__law_mirror_right f fd) (T : Txt K mg C) (B : Bn mg)
    (D_law_draw : DefOk P w K mg base 2 "_law_draw" ["tape", "size"] sp_draw) (D_law_pick : DefOk P w K mg base 3 "_law_pick" ["tape", "several"] (sp_pick K)) (D_law_clock : DefOk P w K mg base 4 "_law_clock" ["tape", "most"] sp_lclock) (D_law_range : DefOk P w K mg base 4 "_law_range" ["tape", "rate"] sp_lrange)
    (M_Clock : MkOk P w K mg base C 3 "Clock" ["self", "pace", "rate", "shift"] (sp_init C))
    (D_first_in : DefOk P w K mg base 4 "first_in" ["clock", "low", "high"] (sp_first_at C)) (D_waits : DefOk P w K mg base 5 "waits" ["clock", "low", "high"] (sp_waits C)) (D_count_in : DefOk P w K mg base 4 "count_in" ["clock", "low", "high", "many"] (sp_count C)) :
    FnG P w K mg base 6 f fd ["tape"] sp_right := by
  refine fun_okG F sc__law_mirror_right (fun vs H Q E h => ?_) (fun cdv A outer s H vs Q E hG hr h => ?_)
  · obtain ⟨t, Lg, n, rfl, _⟩ := h
    rfl
  · obtain ⟨t, Lg, n, rfl, T0, hn, q⟩ := h
    refine ⟨_, (pss_cons (ps_set (i := 1) sc__law_mirror_right.nd rfl (.inl rfl) (pcl D_law_clock hr (pa_cons (pv 0) (pa_cons (pcl D_law_pick hr (pa_cons (pv 0) (pa_cons (pe_lst (pa_cons pe_int (pa_cons (pe_op op_pow pe_int pe_int) (pa_cons (pe_op op_mulW pe_int (pe_op op_pow pe_int pe_int)) pa_nil)))) pa_nil))) pa_nil))))
      (pss_cons (ps_par (i := 2) (j := 3) rfl sc__law_mirror_right.nd rfl rfl (by decide) rfl rfl (pa_cons (pcl D_law_range hr (pa_cons (pv 0) (pa_cons (pe_ix ix_tup (pv 1) pe_int (fun _ _ => rfl)) pa_nil))) (pa_cons (pcl D_law_draw hr (pa_cons (pv 0) (pa_cons (pcl D_law_pick hr (pa_cons (pv 0) (pa_cons (pe_lst (pa_cons pe_int (pa_cons (pe_op op_pow pe_int pe_int) (pa_cons (pe_op op_pow pe_int pe_int) pa_nil)))) pa_nil))) pa_nil))) pa_nil)) (by rfl))
      (pss_cons (ps_set (i := 4) sc__law_mirror_right.nd rfl (.inl rfl) (pe_op op_mod (pe_callTy call_int1 (by rfl) B.int bo_int (pa_cons (pe_op op_sub pe_int (pe_ix ix_tup (pv 1) pe_int (fun _ _ => rfl))) pa_nil)) (pe_ix ix_tup (pv 1) pe_int (fun _ _ => rfl))))
      (pss_cons (ps_set (i := 5) sc__law_mirror_right.nd rfl (.inl rfl) (pmk M_Clock hr (pa_cons (pe_ix ix_tup (pv 1) pe_int (fun _ _ => rfl)) (pa_cons (pe_ix ix_tup (pv 1) pe_int (fun _ _ => rfl)) (pa_cons (pe_ix ix_tup (pv 1) pe_int (fun _ _ => rfl)) pa_nil)))))
      (Evl.pss_cut (ps_set (i := 6) sc__law_mirror_right.nd rfl (.inl rfl) (pmk M_Clock hr (pa_cons (pe_ifExp (pt_cmpR op_gt (pv 4) pe_int (nomark _)) (pv 4) (pe_ix ix_tup (pv 1) pe_int (fun _ _ => rfl))) (pa_cons (pe_ix ix_tup (pv 1) pe_int (fun _ _ => rfl)) (pa_cons (pe_op op_mod (pe_callTy call_int1 (by rfl) B.int bo_int (pa_cons (pe_op op_sub pe_int (pe_ix ix_tup (pv 1) pe_int (fun _ _ => rfl))) pa_nil)) (pe_ix ix_tup (pv 1) pe_int (fun _ _ => rfl))) pa_nil)))))
      (pss_cons (ps_par (i := 7) (j := 8) rfl sc__law_mirror_right.nd rfl rfl (by decide) rfl rfl (pa_cons (pe_op op_mod (pe_callTy call_int1 (by rfl) B.int bo_int (pa_cons (pe_op op_sub pe_int (pe_ix ix_tup (pv 2) pe_int (fun _ _ => rfl))) pa_nil)) (pe_ix ix_tup (pv 1) pe_int (fun _ _ => rfl))) (pa_cons (pe_op op_mod (pe_callTy call_int1 (by rfl) B.int bo_int (pa_cons (pe_op op_sub pe_int (pe_ix ix_tup (pv 2) pe_int (fun _ _ => rfl))) pa_nil)) (pe_ix ix_tup (pv 1) pe_int (fun _ _ => rfl))) pa_nil)) (by rfl))
      (pss_cons (ps_if (pt_cmpR op_gt (pv 7) (pv 8) (nomark _)) (pss_one (ps_ret pe_bl)) pss_nil)
      (pss_cons (ps_if (pt_cmpR op_ne (pcl D_count_in hr (pa_cons (pv 5) (pa_cons (pe_ix ix_tup (pv 2) pe_int (fun _ _ => rfl)) (pa_cons (pe_ix ix_tup (pv 2) pe_int (fun _ _ => rfl)) (pa_cons (pv 3) pa_nil))))) (pcl D_count_in hr (pa_cons (pv 6) (pa_cons (pv 7) (pa_cons (pv 8) (pa_cons (pv 3) pa_nil))))) (nomark _)) (pss_one (ps_ret pe_bl)) pss_nil)
      (pss_cons (ps_par (i := 9) (j := 10) rfl sc__law_mirror_right.nd rfl rfl (by decide) rfl rfl (pa_cons (pcl D_first_in hr (pa_cons (pv 5) (pa_cons (pe_ix ix_tup (pv 2) pe_int (fun _ _ => rfl)) (pa_cons (pe_ix ix_tup (pv 2) pe_int (fun _ _ => rfl)) pa_nil)))) (pa_cons (pcl D_first_in hr (pa_cons (pv 6) (pa_cons (pv 7) (pa_cons (pv 8) pa_nil)))) pa_nil)) (by rfl))
      (pss_one (ps_ret (pe_cmpR op_eq (pe_callB (call_repr hr.units hG) (by rfl) B.repr bo_repr (pa_cons (pe_lst (pa_cons (pv 9) (pa_cons (pcl D_waits hr (pa_cons (pv 5) (pa_cons (pe_ix ix_tup (pv 2) pe_int (fun _ _ => rfl)) (pa_cons (pe_ix ix_tup (pv 2) pe_int (fun _ _ => rfl)) pa_nil)))) pa_nil))) pa_nil)) (pe_callB (call_repr hr.units hG) (by rfl) B.repr bo_repr (pa_cons (pe_lst (pa_cons (pv 10) (pa_cons (pcl D_waits hr (pa_cons (pv 6) (pa_cons (pv 7) (pa_cons (pv 8) pa_nil)))) pa_nil))) pa_nil)) (nomark _))))))))))))), ?_⟩
    -- the clock
    refine ⟨_, rfl, _, rfl, _, _, rfl, rfl, ⟨by decide, by decide, by decide⟩, _, _, rfl, rfl, ⟨by decide, by decide, by decide⟩, _, _, rfl, rfl, mulB ⟨by decide, by decide⟩ ⟨by decide, by decide⟩, by show 3 ≤ sizeLine; decide, fun y1 ny1 => ?_⟩
    refine ⟨t, Lg, y1, n, [50, 10 ^ (6 : Int).toNat, 3 * 10 ^ (11 : Int).toNat], rfl, T0.same (same_upd ny1), by omega, upd_same, (T0.off ny1).2, by simp, by simp, fun H1 m k1 T1 hm => ?_⟩
    have mb : 10 ≤ m ∧ m ≤ 3 * 10 ^ 11 := by
      simp only [List.mem_cons, List.not_mem_nil, or_false] at hm
      rcases hm with rfl | rfl | rfl <;> exact ⟨by decide, by decide⟩
    have kk1 : Kp t Lg H H1 := (Kp.same (same_upd ny1)).trans k1
    clear hm k1
    refine ⟨t, Lg, n + 1, m, rfl, T1, by omega, mb.1, mb.2, fun H2 yc a b c k2 T2 hyc a0 a1 b0 b1 c0 c1 => ?_⟩
    have kk2 := kk1.trans k2
    have hb : 0 < b := by omega
    -- the range, how many
    refine ⟨_, rfl, _, rfl, yc, _, 1, _, rfl, rfl, .inl (.inl hyc), rfl, t, Lg, n + 21, b, rfl, T2, by omega, by omega, by omega, fun H3 ye lo hi k3 T3 hye l0 l1 l2 => ?_⟩
    have kk3 := kk2.trans k3
    have hyc3 := T2.tup k3 hyc
    refine ⟨_, rfl, _, rfl, _, _, rfl, rfl, ⟨by decide, by decide, by decide⟩, _, _, rfl, rfl, ⟨by decide, by decide, by decide⟩, by show 3 ≤ sizeLine; decide, fun y2 ny2 => ?_⟩
    have sy2 : Same H3 (upd H3 y2 (.lst [.int 40, .int (10 ^ (8 : Int).toNat), .int (10 ^ (17 : Int).toNat)])) := same_upd ny2
    refine ⟨t, Lg, y2, n + 26, [40, 10 ^ (8 : Int).toNat, 10 ^ (17 : Int).toNat], rfl, T3.same (same_upd ny2), by omega, upd_same, (T3.off ny2).2, by simp, by simp, fun H4 z k4 T4 hz => ?_⟩
    have zb : 40 ≤ z ∧ z ≤ 10 ^ 17 := by
      simp only [List.mem_cons, List.not_mem_nil, or_false] at hz
      rcases hz with rfl | rfl | rfl <;> exact ⟨by decide, by decide⟩
    have kk4 : Kp t Lg H H4 := kk3.trans ((Kp.same sy2).trans k4)
    have hyc4 := (T3.same sy2).tup k4 (sy2 _ _ hyc3)
    have hye4 := (T3.same sy2).tup k4 (sy2 _ _ hye)
    refine ⟨t, Lg, n + 27, z, rfl, T4, by omega, by omega, ⟨by omega, by omega⟩, fun H5 many k5 T5 many0 many1 => ⟨_, _, rfl, ?_⟩⟩
    have kk5 := kk4.trans k5
    have hyc5 := T4.tup k5 hyc4
    have hye5 := T4.tup k5 hye4
    clear hz ny1 ny2 k2 k3 k4 k5 sy2
    have qc : SqT K H5 yc [.int a, .int b, .int c] := .inl (.inl hyc5)
    -- back
    refine ⟨_, rfl, yc, _, 0, _, rfl, rfl, qc, rfl, _, _, rfl, rfl, .inl ⟨_, rfl, _, rfl, yc, _, 1, _, rfl, rfl, qc, rfl, _, _, rfl, rfl, hb, ?_⟩⟩
    -- made
    refine ⟨_, rfl, yc, _, 0, _, rfl, rfl, qc, rfl, _, rfl, yc, _, 1, _, rfl, rfl, qc, rfl, _, rfl, yc, _, 2, _, rfl, rfl, qc, rfl, fun x dx nx ndx hne => ?_⟩
    refine ⟨x, dx, a, b, c, rfl, upd_same, by omega, by omega, by omega, by omega, by omega, by omega, fun H6 ks clk6 => ⟨rfl, ?_⟩⟩
    have s6 := made_same nx ndx hne ks
    clear ks
    have hyc6 := s6 _ _ hyc5
    have qc6 : SqT K H6 yc [.int a, .int b, .int c] := .inl (.inl hyc6)
    obtain ⟨ta, t1, t2⟩ := turn_pace (a := a) hb
    have ts := turn_shift (c := c) hb
    have c0' := Int.emod_nonneg (0 - c) (show b ≠ 0 by omega)
    have c1' := Int.emod_lt_of_pos (0 - c) hb
    -- turned
    refine ⟨fun σ H' => ∃ (x2 : Addr) (a' : Int), σ = [some (.ref t), some (.ref yc), some (.ref ye), some (.int many), some (.int ((0 - a) % b)), some (.ref x), some (.ref x2), none, none, none, none] ∧ Same H6 H' ∧ Clk C H' x2 a' b ((0 - c) % b) ∧ b ∣ a + a' ∧ 1 ≤ a' ∧ a' ≤ b, ?_, ?_⟩
    · refine ⟨_, rfl, _, _, rfl, rfl, _, rfl, iteD (fun e => ?_) (fun e => ?_)⟩
      · rw [if_pos e] at ta t1 t2
        refine ⟨_, rfl, _, rfl, yc, _, 1, _, rfl, rfl, qc6, rfl, _, rfl, yc, _, 2, _, rfl, rfl, qc6, rfl, _, _, rfl, rfl, .inl ⟨_, rfl, _, rfl, yc, _, 1, _, rfl, rfl, qc6, rfl, _, _, rfl, rfl, hb, fun x2 dx2 nx2 ndx2 hne2 => ?_⟩⟩
        exact ⟨x2, dx2, _, b, _, rfl, upd_same, t1, by omega, by omega, by omega, c0', by omega, fun H7 ks2 clk7 => ⟨rfl, x2, _, rfl, made_same nx2 ndx2 hne2 ks2, clk7, ta, t1, t2⟩⟩
      · rw [if_neg e] at ta t1 t2
        refine ⟨_, rfl, yc, _, 1, _, rfl, rfl, qc6, rfl, _, rfl, yc, _, 1, _, rfl, rfl, qc6, rfl, _, rfl, yc, _, 2, _, rfl, rfl, qc6, rfl, _, _, rfl, rfl, .inl ⟨_, rfl, _, rfl, yc, _, 1, _, rfl, rfl, qc6, rfl, _, _, rfl, rfl, hb, fun x2 dx2 nx2 ndx2 hne2 => ?_⟩⟩
        exact ⟨x2, dx2, b, b, _, rfl, upd_same, t1, by omega, by omega, by omega, c0', by omega, fun H7 ks2 clk7 => ⟨rfl, x2, _, rfl, made_same nx2 ndx2 hne2 ks2, clk7, ta, t1, t2⟩⟩
    rintro σ H7 ⟨x2, a', rfl, s7, clk7, ta, t1, t2⟩
    have clk7' := clk6.same s7
    have kk7 := kk5.trans (.same (s6.trans s7))
    have T7 := T5.same (s6.trans s7)
    have hyc7 := s7 _ _ hyc6
    have hye7 := s7 _ _ (s6 _ _ hye5)
    have qc7 : SqT K H7 yc [.int a, .int b, .int c] := .inl (.inl hyc7)
    have qe7 : SqT K H7 ye [.int lo, .int hi] := .inl (.inl hye7)
    generalize (0 - c) % b = c' at *
    -- low, high
    refine ⟨_, rfl, ye, _, 1, _, rfl, rfl, qe7, rfl, _, _, rfl, rfl, .inl ⟨_, rfl, _, rfl, yc, _, 1, _, rfl, rfl, qc7, rfl, _, _, rfl, rfl, hb, ?_⟩⟩
    refine ⟨_, rfl, ye, _, 0, _, rfl, rfl, qe7, rfl, _, _, rfl, rfl, .inl ⟨_, rfl, _, rfl, yc, _, 1, _, rfl, rfl, qc7, rfl, _, _, rfl, rfl, hb, _, _, rfl, ?_⟩⟩
    have lo0 := Int.emod_nonneg (0 - hi) (show b ≠ 0 by omega)
    have hi1 := Int.emod_lt_of_pos (0 - lo) hb
    refine ⟨_, rfl, _, rfl, _, _, rfl, rfl, _, rfl, iteD (fun e => ?_) (fun e => ?_)⟩
    · exact q H7 kk7 (T7.mono (by omega))
    have M : Mir a b c lo hi a' c' ((0 - hi) % b) ((0 - lo) % b) := ⟨hb, l0, l1, l2, ta, ts, rfl, rfl, by omega⟩
    have ck : CkB a b c := ⟨by omega, by omega, by omega, by omega, by omega, by omega⟩
    have ck' : CkB a' b c' := ⟨by omega, by omega, by omega, by omega, by omega, by omega⟩
    have lh : (0 - hi) % b ≤ (0 - lo) % b := M.le
    -- counts
    refine ⟨_, rfl, _, rfl, ye, _, 0, _, rfl, rfl, qe7, rfl, _, rfl, ye, _, 1, _, rfl, rfl, qe7, rfl, _, rfl, x, a, b, c, lo, hi, many, rfl, clk7', ck, l0, l1, l2, many0, by omega, fun H8 s8 => ?_⟩
    refine ⟨_, rfl, _, rfl, _, rfl, _, rfl, x2, a', b, c', _, _, many, rfl, clk7.same s8, ck', lo0, lh, hi1, many0, by omega, fun H9 s9 => ?_⟩
    refine ⟨rfl, _, rfl, iteNeF (cnt_congr (fun m _ => M.inr m) _) ?_⟩
    have ss9 := s8.trans s9
    have clk9 := clk7.same ss9
    have clk9' := clk7'.same ss9
    have qe9 : SqT K H9 ye [.int lo, .int hi] := .inl (.inl (ss9 _ _ hye7))
    -- firsts
    refine ⟨_, rfl, _, rfl, ye, _, 0, _, rfl, rfl, qe9, rfl, _, rfl, ye, _, 1, _, rfl, rfl, qe9, rfl, x, a, b, c, lo, hi, rfl, clk9', ck, l0, l1, l2, fun H10 o1 s10 f1 => ?_⟩
    refine ⟨_, rfl, _, rfl, _, rfl, x2, a', b, c', _, _, rfl, clk9.same s10, ck', lo0, lh, hi1, fun H11 o2 s11 f2 => ⟨_, _, rfl, ?_⟩⟩
    obtain rfl := first_congr (fun m _ => M.inr m) f1 f2
    have bo := first_bd hb (by omega) f1
    have ss11 := s10.trans s11
    have qe11 : SqT K H11 ye [.int lo, .int hi] := .inl (.inl (ss11 _ _ (ss9 _ _ hye7)))
    -- waits
    refine ⟨_, rfl, _, rfl, _, rfl, ye, _, 0, _, rfl, rfl, qe11, rfl, _, rfl, ye, _, 1, _, rfl, rfl, qe11, rfl, x, a, b, c, lo, hi, rfl, clk9'.same ss11, ck, l0, l1, l2, fun H12 yw told s12 nyw tw W => ?_⟩
    have few := waits_few hb (by omega) l0 l1 l2 W
    refine ⟨by show 2 ≤ sizeLine; decide, fun y3 ny3 => ⟨_, .list [optD o1, toldD told], rfl, .lst (.inl (.inl upd_same)) (.cons (dp_opt o1) (.cons (tw.same (same_upd ny3)).dp .nil)), sm_pair bo few, ?_⟩⟩
    have s13 := same_upd (o := .lst [optV o1, .ref yw]) ny3
    generalize hH13 : upd H12 y3 (.lst [optV o1, .ref yw]) = H13 at s13
    have ss13 := (ss11.trans s12).trans s13
    refine ⟨_, rfl, _, rfl, _, rfl, _, rfl, x2, a', b, c', _, _, rfl, clk9.same ss13, ck', lo0, lh, hi1, fun H14 yw2 told2 s14 nyw2 tw2 W2 => ?_⟩
    obtain rfl := M.waits W W2
    refine ⟨by show 2 ≤ sizeLine; decide, fun y4 ny4 => ⟨_, .list [optD o1, toldD told], rfl, .lst (.inl (.inl upd_same)) (.cons (dp_opt o1) (.cons (tw2.same (same_upd ny4)).dp .nil)), sm_pair bo few, rfl, ?_⟩⟩
    have s15 := same_upd (o := .lst [optV o1, .ref yw2]) ny4
    show Q (.bl (decide (V.str (PyData.list [optD o1, toldD told]).shown = V.str (PyData.list [optD o1, toldD told]).shown))) _
    rw [decide_eq_true rfl]
    exact q _ (kk7.trans (.same (ss9.trans ((ss13.trans s14).trans s15)))) ((T7.same (ss9.trans ((ss13.trans s14).trans s15))).mono (by omega))
end
end Ck

namespace Ck
open PySem PySem.Spec PyProof.Rows L2
/-- the slots of the slow part -/
abbrev slS (t : Addr) (r b s lo more : Int) (bk : Bool) (hi : Int) (x ye : Addr) (rest : List (Option V)) : List (Option V) :=
  some (.ref t) :: some (.int r) :: some (.int b) :: some (.int s) :: some (.int lo) :: some (.int more) :: some (.bl bk) :: some (.int hi) :: some (.ref x) :: some (.ref ye) :: rest
section
variable {P : Program} {w : World} {K : PySem.W.Frag} {mg : Str → Option Value} {base : Heap} {C : Addr}
abbrev s__law_slow_right : Stmt := topS 53
abbrev N__law_slow_right : List Str := ["tape", "rate", "by", "begin", "low", "more", "is_back", "high", "made", "ends", "first", "size", "due", "inside", "n", "spot", "begins", "many"]
theorem sc__law_slow_right : FnScope N__law_slow_right ["tape"] (defScope s__law_slow_right) := ⟨rfl, rfl, rfl, by decide +kernel, rfl, by decide +kernel, by decide +kernel⟩
theorem ok_slow {f : Addr} {fd : FuncData} (F : Fun K "_law_slow_right" "_law_slow_right" s__law_slow_right f fd) (T : Txt K mg C) (B : Bn mg)
    (D_law_draw : DefOk P w K mg base 2 "_law_draw" ["tape", "size"] sp_draw) (D_law_pick : DefOk P w K mg base 3 "_law_pick" ["tape", "several"] (sp_pick K))
    (M_Clock : MkOk P w K mg base C 3 "Clock" ["self", "pace", "rate", "shift"] (sp_init C)) (D_nth_in : DefOk P w K mg base 4 "nth_in" ["clock", "low", "high", "n"] (sp_nth C)) (D_is_first : DefOk P w K mg base 4 "is_first" ["clock", "low", "high", "thing"] (sp_shows C))
    (D_first_paper : DefOk P w K mg base 4 "first_paper" ["clock", "low", "high"] (sp_paper_at C))
    (D_first_in : DefOk P w K mg base 4 "first_in" ["clock", "low", "high"] (sp_first_at C)) (D_waits : DefOk P w K mg base 5 "waits" ["clock", "low", "high"] (sp_waits C)) (D_count_in : DefOk P w K mg base 4 "count_in" ["clock", "low", "high", "many"] (sp_count C))
    (D_first_same : DefOk P w K mg base 3 "first_same" ["clock"] (sp_first_same C)) (D_first_gap : DefOk P w K mg base 3 "first_gap" ["clock"] (sp_first_gap C)) (D_same_in : DefOk P w K mg base 4 "same_in" ["clock", "many"] (sp_same_in C)) :
    FnG P w K mg base 6 f fd ["tape"] sp_right := by
  refine fun_okG F sc__law_slow_right (fun vs H Q E h => ?_) (fun cdv A outer s0 H vs Q E hG hr h => ?_)
  · obtain ⟨t, Lg, n, rfl, _⟩ := h
    rfl
  · obtain ⟨t, Lg, n, rfl, T0, hn, q⟩ := h
    refine ⟨_, (Evl.pss_cut (ps_par (i := 1) (j := 2) rfl sc__law_slow_right.nd rfl rfl (by decide) rfl rfl (pa_cons (pe_op op_add pe_int (pcl D_law_draw hr (pa_cons (pv 0) (pa_cons (pcl D_law_pick hr (pa_cons (pv 0) (pa_cons (pe_lst (pa_cons (pe_op op_pow pe_int pe_int) (pa_cons (pe_op op_pow pe_int pe_int) (pa_cons (pe_op op_pow pe_int pe_int) pa_nil)))) pa_nil))) pa_nil)))) (pa_cons (pe_op op_add pe_int (pcl D_law_draw hr (pa_cons (pv 0) (pa_cons pe_int pa_nil)))) pa_nil)) (by rfl))
      (Evl.pss_cut (ps_asg (pe_tup (pa_cons (pcl D_law_draw hr (pa_cons (pv 0) (pa_cons (pv 1) pa_nil))) (pa_cons (pcl D_law_draw hr (pa_cons (pv 0) (pa_cons (pv 1) pa_nil))) (pa_cons (pcl D_law_draw hr (pa_cons (pv 0) (pa_cons (pv 2) pa_nil))) (pa_cons (pe_cmpR op_eq (pcl D_law_draw hr (pa_cons (pv 0) (pa_cons pe_int pa_nil))) pe_int (nomark _)) pa_nil))))) (pg_tup rfl (pgs_cons (pg_name (i := 3) sc__law_slow_right.nd rfl (.inl rfl)) (pgs_cons (pg_name (i := 4) sc__law_slow_right.nd rfl (.inl rfl)) (pgs_cons (pg_name (i := 5) sc__law_slow_right.nd rfl (.inl rfl)) (pgs_cons (pg_name (i := 6) sc__law_slow_right.nd rfl (.inl rfl)) pgs_nil))))))
      (Evl.pss_cut (ps_set (i := 7) sc__law_slow_right.nd rfl (.inl rfl) (pe_op op_add (pv 4) (pcl D_law_draw hr (pa_cons (pv 0) (pa_cons (pe_op op_sub (pv 1) (pv 4)) pa_nil)))))
      (Evl.pss_cut (ps_set (i := 8) sc__law_slow_right.nd rfl (.inl rfl) (pmk M_Clock hr (pa_cons (pe_op op_mulW (pv 2) (pe_ifExp (pt_val (pv 6)) (pe_op op_sub (pv 1) pe_int) pe_int)) (pa_cons (pe_op op_mulW (pv 2) (pv 1)) (pa_cons (pe_op op_add (pe_op op_mulW (pv 2) (pv 3)) (pv 5)) pa_nil)))))
      (pss_cons (ps_set (i := 9) sc__law_slow_right.nd rfl (.inl rfl) (pe_tup (pa_cons (pe_op op_add (pe_op op_mulW (pv 2) (pv 4)) (pv 5)) (pa_cons (pe_op op_add (pe_op op_mulW (pv 2) (pv 7)) (pv 5)) pa_nil))))
      (Evl.pss_cut (ps_set (i := 10) sc__law_slow_right.nd rfl (.inl rfl) (pe_op op_mod (pe_callTy call_int1 (by rfl) B.int bo_int (pa_cons (pe_ifExp (pt_val (pv 6)) (pe_op op_sub (pv 3) (pv 7)) (pe_op op_sub (pv 4) (pv 3))) pa_nil)) (pv 1)))
      (Evl.pss_cut (ps_asg (pe_ifExp (pt_chain op_le op_le (pv 4) (pv 3) (pv 7)) (pe_tup (pa_cons pe_int (pa_cons (pe_op op_add (pe_op op_sub (pv 7) (pv 4)) pe_int) pa_nil))) (pe_tup (pa_cons (pv 10) (pa_cons (pe_op op_add (pe_op op_sub (pv 7) (pv 4)) pe_int) pa_nil)))) (pg_tup rfl (pgs_cons (pg_name (i := 10) sc__law_slow_right.nd rfl (.inl rfl)) (pgs_cons (pg_name (i := 11) sc__law_slow_right.nd rfl (.inl rfl)) pgs_nil))))
      (pss_cons (ps_if (pt_cmpR op_ne (pe_callB (call_repr hr.units hG) (by rfl) B.repr bo_repr (pa_cons (pcl D_first_in hr (pa_cons (pv 8) (pa_cons (pe_ix ix_tup (pv 9) pe_int (fun _ _ => rfl)) (pa_cons (pe_ix ix_tup (pv 9) pe_int (fun _ _ => rfl)) pa_nil)))) pa_nil)) (pe_callB (call_repr hr.units hG) (by rfl) B.repr bo_repr (pa_cons (pv 10) pa_nil)) (nomark _)) (pss_one (ps_ret pe_bl)) pss_nil)
      (pss_cons (ps_if (pt_cmpR op_notBl (pcl D_is_first hr (pa_cons (pv 8) (pa_cons (pe_ix ix_tup (pv 9) pe_int (fun _ _ => rfl)) (pa_cons (pe_ix ix_tup (pv 9) pe_int (fun _ _ => rfl)) (pa_cons (pcl D_first_paper hr (pa_cons (pv 8) (pa_cons (pe_ix ix_tup (pv 9) pe_int (fun _ _ => rfl)) (pa_cons (pe_ix ix_tup (pv 9) pe_int (fun _ _ => rfl)) pa_nil)))) pa_nil))))) pe_bl (nomark _)) (pss_one (ps_ret pe_bl)) pss_nil)
      (Evl.pss_cut (ps_set (i := 12) sc__law_slow_right.nd rfl (.inl rfl) (pe_ifExp (pt_chain op_lt op_lt pe_int (pv 11) (pv 1)) (pe_lst (pa_cons (pe_tup (pa_cons pe_int (pa_cons (pe_op op_sub (pv 11) pe_int) pa_nil))) (pa_cons (pe_tup (pa_cons (pe_op op_add (pe_op op_sub (pv 1) (pv 11)) pe_int) (pa_cons pe_int pa_nil))) pa_nil))) (pe_ifExp (pt_cmpR op_eq (pv 11) pe_int (nomark _)) (pe_lst (pa_cons (pe_tup (pa_cons (pv 1) (pa_cons pe_int pa_nil))) pa_nil)) (pe_lst (pa_cons (pe_tup (pa_cons pe_int (pa_cons (pv 1) pa_nil))) pa_nil)))))
      (Evl.pss_cut (ps_set (i := 12) sc__law_slow_right.nd rfl (.inl rfl) (pe_ifExp (PW.pt (pw_and (pt_cmpR op_gt (pv 11) pe_int (nomark _)) (pw_and1 (pt_cmpR op_eq (pe_op op_add (pe_op op_sub (pv 1) (pv 11)) pe_int) pe_int (nomark _))))) (pe_lst (pa_cons (pe_tup (pa_cons pe_int (pa_cons (pv 11) pa_nil))) pa_nil)) (pv 12)))
      (pss_cons (ps_if (pt_cmpR op_ne (pe_callB (call_repr hr.units hG) (by rfl) B.repr bo_repr (pa_cons (pcl D_waits hr (pa_cons (pv 8) (pa_cons (pe_ix ix_tup (pv 9) pe_int (fun _ _ => rfl)) (pa_cons (pe_ix ix_tup (pv 9) pe_int (fun _ _ => rfl)) pa_nil)))) pa_nil)) (pe_callB (call_repr hr.units hG) (by rfl) B.repr bo_repr (pa_cons (pv 12) pa_nil)) (nomark _)) (pss_one (ps_ret pe_bl)) pss_nil)
      (Evl.pss_cut (ps_set (i := 13) sc__law_slow_right.nd rfl (.inl rfl) (pe_ifExp (pt_cmpR op_eq (pv 10) pe_int (nomark _)) (pe_op op_add (pe_ifExp (pt_val (pv 6)) (pe_op op_sub (pv 3) (pv 4)) (pe_op op_sub (pv 7) (pv 3))) pe_int) pe_int))
      (pss_cons (ps_set (i := 14) sc__law_slow_right.nd rfl (.inl rfl) (pcl D_law_draw hr (pa_cons (pv 0) (pa_cons (pe_op op_pow pe_int pe_int) pa_nil))))
      (Evl.pss_cut (ps_set (i := 15) sc__law_slow_right.nd rfl (.inl rfl) (pe_ifExp (pt_cmpR op_lt (pv 14) (pv 13) (nomark _)) (pv 14) (pe_op op_sub (pv 14) (pv 13))))
      (Evl.pss_cut (ps_set (i := 16) sc__law_slow_right.nd rfl (.inl rfl) (pe_ifExp (pt_cmpR op_lt (pv 14) (pv 13) (nomark _)) pe_int (pe_op op_add (pv 13) (pe_ifExp (pt_cmpR op_eq (pv 10) pe_int (nomark _)) (pe_op op_sub (pv 1) (pv 11)) (pv 10)))))
      (Evl.pss_cut (ps_if (PW.pt (pw_and (pt_cmpR op_ge (pv 14) (pv 13) (nomark _)) (pw_and1 (pt_cmpR op_gt (pv 10) pe_int (nomark _))))) (pss_one (ps_set (i := 16) sc__law_slow_right.nd rfl (.inl rfl) (pv 10))) pss_nil)
      (Evl.pss_cut (ps_set (i := 12) sc__law_slow_right.nd rfl (.inl rfl) (pe_ifExp (pt_cmpR op_lt (pv 14) (pv 13) (nomark _)) (pv 14) (pe_op op_add (pe_op op_add (pv 16) (pe_op op_mulW (pe_op op_fdivW (pv 15) (pv 11)) (pv 1))) (pe_op op_mod (pe_callTy call_int1 (by rfl) B.int bo_int (pa_cons (pv 15) pa_nil)) (pv 11)))))
      (pss_cons (ps_if (PW.pt (pw_or (pt_cmpR op_ne (pcl D_nth_in hr (pa_cons (pv 8) (pa_cons (pe_ix ix_tup (pv 9) pe_int (fun _ _ => rfl)) (pa_cons (pe_ix ix_tup (pv 9) pe_int (fun _ _ => rfl)) (pa_cons (pv 14) pa_nil))))) (pv 12) (nomark _)) (pw_or1 (pt_cmpR op_ne (pcl D_count_in hr (pa_cons (pv 8) (pa_cons (pe_ix ix_tup (pv 9) pe_int (fun _ _ => rfl)) (pa_cons (pe_ix ix_tup (pv 9) pe_int (fun _ _ => rfl)) (pa_cons (pv 12) pa_nil))))) (pv 14) (nomark _))))) (pss_one (ps_ret pe_bl)) pss_nil)
      (Evl.pss_cut (ps_if (PW.pt (pw_and (pt_cmpR op_eq (pv 2) pe_int (nomark _)) (pw_and (pt_not (pt_val (pv 6))) (pw_and1 (pt_cmpR op_ne (pe_callB (call_repr hr.units hG) (by rfl) B.repr bo_repr (pa_cons (pe_lst (pa_cons (pcl D_first_same hr (pa_cons (pv 8) pa_nil)) (pa_cons (pcl D_first_gap hr (pa_cons (pv 8) pa_nil)) pa_nil))) pa_nil)) (pe_callB (call_repr hr.units hG) (by rfl) B.repr bo_repr (pa_cons (pe_lst (pa_cons (pe_callTy call_int1 (by rfl) B.int bo_int (pa_cons (pe_ifExp (pt_cmpR op_lt (pv 3) (pe_op op_sub (pv 1) pe_int) (nomark _)) pe_int pe_int) pa_nil)) (pa_cons pe_non pa_nil))) pa_nil)) (nomark _)))))) (pss_one (ps_ret pe_bl)) pss_nil)
      (Evl.pss_cut (ps_if (PW.pt (pw_and (pt_cmpR op_eq (pv 2) pe_int (nomark _)) (pw_and (pt_val (pv 6)) (pw_and (pt_cmpR op_gt (pv 1) pe_int (nomark _)) (pw_and1 (pt_cmpR op_ne (pe_callB (call_repr hr.units hG) (by rfl) B.repr bo_repr (pa_cons (pcl D_first_same hr (pa_cons (pv 8) pa_nil)) pa_nil)) (pe_callB (call_repr hr.units hG) (by rfl) B.repr bo_repr (pa_cons (pv 3) pa_nil)) (nomark _))))))) (pss_one (ps_ret pe_bl)) pss_nil)
      (pss_cons (ps_set (i := 17) sc__law_slow_right.nd rfl (.inl rfl) (pcl D_law_draw hr (pa_cons (pv 0) (pa_cons (pe_op op_pow pe_int pe_int) pa_nil))))
      (pss_one (ps_ret (pe_cmpR op_eq (pcl D_same_in hr (pa_cons (pv 8) (pa_cons (pv 17) pa_nil))) (pe_op op_sub (pv 17) (pe_op op_sub (pe_op op_fdivW (pe_op op_add (pe_op op_mulW (pv 17) (pe_fld (pv 8) rfl)) (pe_fld (pv 8) rfl)) (pe_fld (pv 8) rfl)) (pe_op op_fdivW (pe_fld (pv 8) rfl) (pe_fld (pv 8) rfl)))) (nomark _)))))))))))))))))))))))))), ?_⟩
    -- rate, by
    refine ⟨fun σ H' => ∃ r b : Int, σ = [some (.ref t), some (.int r), some (.int b), none, none, none, none, none, none, none, none, none, none, none, none, none, none, none] ∧ 2 ≤ r ∧ r ≤ 10 ^ 11 + 1 ∧ 1 ≤ b ∧ b ≤ 9 ∧ Kp t Lg H H' ∧ Tape H' t Lg (n + 3), ?_, ?_⟩
    · refine ⟨_, rfl, _, rfl, _, _, rfl, rfl, ⟨by decide, by decide, by decide⟩, _, _, rfl, rfl, ⟨by decide, by decide, by decide⟩, _, _, rfl, rfl, ⟨by decide, by decide, by decide⟩, by show 3 ≤ sizeLine; decide, fun y1 ny1 => ?_⟩
      refine ⟨t, Lg, y1, n, [10 ^ (2 : Int).toNat, 10 ^ (6 : Int).toNat, 10 ^ (11 : Int).toNat], rfl, T0.same (same_upd ny1), by omega, upd_same, (T0.off ny1).2, by simp, by simp, fun H1 z k1 T1 hz => ?_⟩
      have zb : 1 ≤ z ∧ z ≤ 10 ^ 11 := by
        simp only [List.mem_cons, List.not_mem_nil, or_false] at hz
        rcases hz with rfl | rfl | rfl <;> exact ⟨by decide, by decide⟩
      refine ⟨t, Lg, n + 1, z, rfl, T1, by omega, by omega, ⟨by omega, by omega⟩, fun H2 v2 k2 T2 v20 v21 => ⟨_, _, rfl, rfl, ?_⟩⟩
      refine ⟨_, rfl, t, Lg, n + 2, _, rfl, T2, by omega, by omega, ⟨by omega, by omega⟩, fun H3 v3 k3 T3 v30 v31 => ⟨_, _, rfl, rfl, _, _, rfl, ?_⟩⟩
      exact ⟨_, _, rfl, by omega, by omega, by omega, by omega, (((Kp.same (same_upd ny1)).trans k1).trans k2).trans k3, T3⟩
    rintro σ H3 ⟨r, b, rfl, r2, r3, b1, b2, kk3, T3⟩
    have br : Bd r := ⟨by omega, by omega⟩
    have bb : Bd b := ⟨by omega, by omega⟩
    -- begin, low, more, is_back
    refine ⟨fun σ H' => ∃ (s lo more : Int) (bk : Bool), σ = [some (.ref t), some (.int r), some (.int b), some (.int s), some (.int lo), some (.int more), some (.bl bk), none, none, none, none, none, none, none, none, none, none, none] ∧ 0 ≤ s ∧ s < r ∧ 0 ≤ lo ∧ lo < r ∧ 0 ≤ more ∧ more < b ∧ Kp t Lg H H' ∧ Tape H' t Lg (n + 7), ?_, ?_⟩
    · refine ⟨_, rfl, _, rfl, t, Lg, n + 3, _, rfl, T3, by omega, by omega, br, fun H4 s k4 T4 s0 s1 => ?_⟩
      refine ⟨_, rfl, _, rfl, t, Lg, n + 4, _, rfl, T4, by omega, by omega, br, fun H5 lo k5 T5 l0 l1 => ?_⟩
      refine ⟨_, rfl, _, rfl, t, Lg, n + 5, _, rfl, T5, by omega, by omega, bb, fun H6 more k6 T6 m0 m1 => ?_⟩
      refine ⟨_, rfl, t, Lg, n + 6, _, rfl, T6, by omega, by omega, ⟨by omega, by omega⟩, fun H7 bv k7 T7 _ _ => ⟨rfl, by show 4 ≤ sizeLine; decide, fun y ny => ?_⟩⟩
      refine ⟨y, _, rfl, .inl (.inl upd_same), rfl, _, _, rfl, _, _, rfl, _, _, rfl, _, _, rfl, rfl, ?_⟩
      exact ⟨s, lo, more, _, rfl, s0, s1, l0, l1, m0, m1, (((kk3.trans k4).trans k5).trans k6).trans (k7.trans (.same (same_upd ny))), T7.same (same_upd ny)⟩
    rintro σ H7 ⟨s, lo, more, bk, rfl, s0, s1, l0, lr, m0, m1, kk7, T7⟩
    -- high
    refine ⟨fun σ H' => ∃ hi : Int, σ = [some (.ref t), some (.int r), some (.int b), some (.int s), some (.int lo), some (.int more), some (.bl bk), some (.int hi), none, none, none, none, none, none, none, none, none, none] ∧ lo ≤ hi ∧ hi < r ∧ Kp t Lg H H' ∧ Tape H' t Lg (n + 8), ?_, ?_⟩
    · refine ⟨_, rfl, _, rfl, _, rfl, _, rfl, _, _, rfl, rfl, t, Lg, n + 7, _, rfl, T7, by omega, by omega, ⟨by omega, by omega⟩, fun H8 v k8 T8 v0 v1 => ⟨_, _, rfl, rfl, ?_⟩⟩
      exact ⟨_, rfl, by omega, by omega, kk7.trans k8, T8⟩
    rintro σ H8 ⟨hi, rfl, l1, l2, kk8, T8⟩
    obtain ⟨e, s', lo', hi', S⟩ : ∃ e s' lo' hi', Slow bk r s lo hi e s' lo' hi' := ⟨_, _, _, _, ⟨r2, s0, s1, l0, l1, l2, rfl, rfl, rfl, rfl⟩⟩
    obtain ⟨q1, q2, q3, q4, q5, q6, q7, q8, q9, q10⟩ := S.fwd
    obtain ⟨pa, pb⟩ := slow_pos (by_ := b) (by omega) r2 q8
    have pt := slow_top (r := r) (by_ := b) (by omega) b2 (by omega) (by omega)
    obtain ⟨c0, c1⟩ := slow_rng (r := r) (by_ := b) (by omega) s0 s1 m0 m1
    obtain ⟨lo0, lo1⟩ := slow_rng (r := r) (by_ := b) (by omega) l0 (show lo < r by omega) m0 m1
    obtain ⟨hi0, hi1⟩ := slow_rng (r := r) (by_ := b) (by omega) (show 0 ≤ hi by omega) l2 m0 m1
    have lohi : b * lo + more ≤ b * hi + more := by
      have := Int.mul_le_mul_of_nonneg_left l1 (show 0 ≤ b by omega)
      omega
    have ck : CkB (b * e) (b * r) (b * s + more) := ⟨by omega, by omega, by omega, by omega, by omega, by omega⟩
    -- made
    refine ⟨fun σ H' => ∃ x : Addr, σ = [some (.ref t), some (.int r), some (.int b), some (.int s), some (.int lo), some (.int more), some (.bl bk), some (.int hi), some (.ref x), none, none, none, none, none, none, none, none, none] ∧ Same H8 H' ∧ Clk C H' x (b * e) (b * r) (b * s + more), ?_, ?_⟩
    · cases bk with
      | true =>
        have he : e = r - 1 := S.ee
        refine ⟨_, rfl, _, rfl, true, rfl, iteT ⟨_, rfl, _, _, rfl, rfl, _, _, rfl, rfl, mulB bb ⟨by omega, by omega⟩, ?_⟩⟩
        refine ⟨_, rfl, _, rfl, _, _, rfl, rfl, mulB bb br, _, rfl, _, rfl, _, _, rfl, rfl, mulB bb ⟨by omega, by omega⟩, _, rfl, _, _, rfl, rfl, fun x dx nx ndx hne => ?_⟩
        rw [← he]
        exact ⟨x, dx, _, _, _, rfl, upd_same, ck.a1, ck.a2, ck.b1, ck.b2, ck.c1, ck.c2, fun H9 ks clk => ⟨rfl, x, rfl, made_same nx ndx hne ks, clk⟩⟩
      | false =>
        have he : e = 1 := S.ee
        refine ⟨_, rfl, _, rfl, false, rfl, iteF ⟨_, _, rfl, rfl, mulB bb ⟨by omega, by omega⟩, ?_⟩⟩
        refine ⟨_, rfl, _, rfl, _, _, rfl, rfl, mulB bb br, _, rfl, _, rfl, _, _, rfl, rfl, mulB bb ⟨by omega, by omega⟩, _, rfl, _, _, rfl, rfl, fun x dx nx ndx hne => ?_⟩
        rw [← he]
        exact ⟨x, dx, _, _, _, rfl, upd_same, ck.a1, ck.a2, ck.b1, ck.b2, ck.c1, ck.c2, fun H9 ks clk => ⟨rfl, x, rfl, made_same nx ndx hne ks, clk⟩⟩
    rintro σ H9 ⟨x, rfl, s9, clk9⟩
    have kk9 := kk8.trans (.same s9)
    have T9 := T8.same s9
    have bmul : ∀ z : Int, 0 ≤ z → z < r → CMulW b z := fun z z0 z1 => mulB bb ⟨by omega, by omega⟩
    -- ends
    refine ⟨_, rfl, _, rfl, _, _, rfl, rfl, bmul lo l0 lr, _, rfl, _, _, rfl, rfl, _, rfl, _, rfl, _, _, rfl, rfl, bmul hi (by omega) l2, _, rfl, _, _, rfl, rfl, by show 2 ≤ sizeLine; decide, fun ye nye => ?_⟩
    have s10 : Same H9 (upd H9 ye (.tup [.int (b * lo + more), .int (b * hi + more)])) := same_upd nye
    have hye : upd H9 ye (.tup [.int (b * lo + more), .int (b * hi + more)]) ye = some (.tup [.int (b * lo + more), .int (b * hi + more)]) := upd_same
    show Evl.tCut _ _ _ (slS t r b s lo more bk hi x ye [none, none, none, none, none, none, none, none]) (upd H9 ye (.tup [.int (b * lo + more), .int (b * hi + more)]))
    generalize upd H9 ye (.tup [.int (b * lo + more), .int (b * hi + more)]) = H10 at s10 hye ⊢
    have kk10 := kk9.trans (.same s10)
    have clk10 := clk9.same s10
    have T10 := T9.same s10
    have hr0 : 0 < r := by omega
    -- first
    refine ⟨fun σ H' => σ = slS t r b s lo more bk hi x ye [some (.int ((lo' - s') % r)), none, none, none, none, none, none, none] ∧ H' = H10, ?_, ?_⟩
    · cases bk with
      | true =>
        have he : lo' - s' = s - hi := q9
        rw [he]
        exact ⟨_, rfl, true, rfl, iteT ⟨_, rfl, _, rfl, _, _, rfl, rfl, .inl ⟨_, rfl, _, rfl, _, _, rfl, rfl, hr0, rfl, rfl⟩⟩⟩
      | false =>
        have he : lo' - s' = lo - s := q9
        rw [he]
        exact ⟨_, rfl, false, rfl, iteF ⟨_, rfl, _, rfl, _, _, rfl, rfl, .inl ⟨_, rfl, _, rfl, _, _, rfl, rfl, hr0, rfl, rfl⟩⟩⟩
    rintro σ H' ⟨rfl, rfl⟩
    have fb := firstL_bd (r := r) (s := s') (lo := lo') (hi := hi') hr0
    have fst := S.first (by_ := b) (more := more) (by omega) m0 m1
    have du := fun k hk => S.due (by_ := b) (more := more) (n := k) (by omega) m0 m1 hk
    have fdef : firstL r s' lo' hi' ((lo' - s') % r) = if lo ≤ s ∧ s ≤ hi then 0 else (lo' - s') % r := by
      unfold firstL
      by_cases z : lo ≤ s ∧ s ≤ hi
      · rw [if_pos z, if_pos (q7.mpr z)]
      · rw [if_neg z, if_neg fun y => z (q7.mp y)]
    -- first, size
    refine ⟨fun σ H'' => σ = slS t r b s lo more bk hi x ye [some (.int (firstL r s' lo' hi' ((lo' - s') % r))), some (.int (hi - lo + 1)), none, none, none, none, none, none] ∧ Same H' H'', ?_, ?_⟩
    · rw [fdef]
      refine ⟨_, rfl, _, rfl, _, _, rfl, rfl, _, rfl, iteD (fun e1 => ?_) (fun e1 => ?_)⟩
      · refine ⟨_, rfl, _, _, rfl, rfl, _, rfl, iteD (fun e2 => ?_) (fun e2 => ?_)⟩
        · refine ⟨_, rfl, _, rfl, _, _, rfl, rfl, _, _, rfl, rfl, by show 2 ≤ sizeLine; decide, fun y ny => ⟨y, _, rfl, .inl (.inl upd_same), rfl, _, _, rfl, _, _, rfl, rfl, ?_, same_upd ny⟩⟩
          rw [if_pos ⟨e1, e2⟩]
          rfl
        · refine ⟨_, rfl, _, rfl, _, rfl, _, _, rfl, rfl, _, _, rfl, rfl, by show 2 ≤ sizeLine; decide, fun y ny => ⟨y, _, rfl, .inl (.inl upd_same), rfl, _, _, rfl, _, _, rfl, rfl, ?_, same_upd ny⟩⟩
          rw [if_neg fun z => e2 z.2]
          rfl
      · refine ⟨_, rfl, iteF ⟨_, rfl, _, rfl, _, rfl, _, _, rfl, rfl, _, _, rfl, rfl, by show 2 ≤ sizeLine; decide, fun y ny => ⟨y, _, rfl, .inl (.inl upd_same), rfl, _, _, rfl, _, _, rfl, rfl, ?_, same_upd ny⟩⟩⟩
        rw [if_neg fun z => e1 z.1]
        rfl
    rintro σ H11 ⟨rfl, s11⟩
    have hz0 : firstL r s' lo' hi' ((lo' - s') % r) = 0 → s' ≤ hi' := fun z => by
      by_cases y : lo' ≤ s' ∧ s' ≤ hi'
      · exact y.2
      · have h1 : firstL r s' lo' hi' ((lo' - s') % r) = (lo' - s') % r := if_neg y
        have h2 := (due_out hr0 q3 q4 q5 q1 q2 y (Int.le_refl 0)).1
        omega
    clear fdef
    have idef : (if firstL r s' lo' hi' ((lo' - s') % r) = 0 then hi' - s' + 1 else 0) = insideL s' hi' (firstL r s' lo' hi' ((lo' - s') % r)) := rfl
    generalize firstL r s' lo' hi' ((lo' - s') % r) = first at *
    have kk11 := kk10.trans (.same s11)
    have clk11 := clk10.same s11
    have T11 := T10.same s11
    have hye11 := s11 _ _ hye
    have qe11 : SqT K H11 ye [.int (b * lo + more), .int (b * hi + more)] := .inl (.inl hye11)
    have bf : Bd first := ⟨by omega, by omega⟩
    -- the first one
    refine ⟨_, rfl, _, rfl, ye, _, 0, _, rfl, rfl, qe11, rfl, _, rfl, ye, _, 1, _, rfl, rfl, qe11, rfl, x, _, _, _, _, _, rfl, clk11, ck, lo0, lohi, hi1, fun H12 o s12 f12 => ?_⟩
    obtain rfl := firstIn_uniq f12 fst
    refine ⟨_, .int first, rfl, .int _, (sm_int bf).rp (by omega) (by omega), _, rfl, _, .int first, rfl, .int _, (sm_int bf).rp (by omega) (by omega), rfl, _, rfl, iteSame ?_⟩
    have kk12 := kk11.trans (.same s12)
    have clk12 := clk11.same s12
    have T12 := T11.same s12
    have hye12 := s12 _ _ hye11
    have qe12 : SqT K H12 ye [.int (b * lo + more), .int (b * hi + more)] := .inl (.inl hye12)
    -- its paper
    refine ⟨_, rfl, _, rfl, ye, _, 0, _, rfl, rfl, qe12, rfl, _, rfl, ye, _, 1, _, rfl, rfl, qe12, rfl, _, rfl, _, rfl, ye, _, 0, _, rfl, rfl, qe12, rfl, _, rfl, ye, _, 1, _, rfl, rfl, qe12, rfl, x, _, _, _, _, _, rfl, clk12, ck, lo0, lohi, hi1, ⟨first, fb.1, fst.2.1⟩, fun H13 yp xs s13 hyp pap => ?_⟩
    refine ⟨x, _, _, _, _, _, yp, xs, rfl, clk12.same s13, ck, lo0, lohi, hi1, hyp, pap, fun H14 s14 => ⟨true, true, rfl, rfl, _, rfl, iteF ?_⟩⟩
    have ss14 := s13.trans s14
    have kk14 := kk12.trans (.same ss14)
    have clk14 := clk12.same ss14
    have T14 := T12.same ss14
    have hye14 := ss14 _ _ hye12
    -- due
    have told1 : ∀ H', Same H14 H' → ∀ H'' y1 y2, H' y1 = none → upd H' y1 (.tup [.int r, .int 1]) y2 = none → H'' = upd (upd H' y1 (.tup [.int r, .int 1])) y2 (.lst [.ref y1]) → Told H'' y2 [(r, 1)] := fun H' _ H'' y1 y2 n1 n2 e => by
      subst e
      refine ⟨[(y1, (r, 1))], upd_same, fun z hz => ?_, rfl⟩
      rw [List.mem_singleton.mp hz]
      exact (same_upd n2) _ _ upd_same
    refine ⟨fun σ H'' => ∃ yd : Addr, σ = slS t r b s lo more bk hi x ye [some (.int first), some (.int (hi - lo + 1)), some (.ref yd), none, none, none, none, none] ∧ Same H14 H'' ∧ Told H'' yd (slowTold r (hi - lo + 1)), ?_, ?_⟩
    · by_cases z1 : 1 < hi - lo + 1
      · refine ⟨_, rfl, _, _, rfl, rfl, _, rfl, iteD (fun _ => ?_) (fun e => absurd z1 e)⟩
        refine ⟨_, rfl, _, _, rfl, rfl, _, rfl, iteD (fun e2 => ?_) (fun e2 => ?_)⟩
        · -- two waits
          refine ⟨_, rfl, _, _, rfl, rfl, by show 2 ≤ sizeLine; decide, fun y1 n1 => ⟨_, rfl, _, rfl, _, _, rfl, rfl, _, _, rfl, rfl, by show 2 ≤ sizeLine; decide, fun y2 n2 => ⟨by show 2 ≤ sizeLine; decide, fun y3 n3 => ?_⟩⟩⟩
          have e2 : hi - lo + 1 < r := e2
          have f1 := stepS (Same.refl H14) n1 n2
          have f2 := stepS f1 n2 n3
          have f3 := f2.trans (same_upd (o := .lst [.ref y1, .ref y2]) n3)
          refine ⟨y3, rfl, f3, [(y1, (1, hi - lo + 1 - 1)), (y2, (r - (hi - lo + 1) + 1, 1))], upd_same, fun z hz => ?_, ?_⟩
          · simp only [List.mem_cons, List.not_mem_nil, or_false] at hz
            rcases hz with rfl | rfl
            · exact (same_upd n3) _ _ ((same_upd n2) _ _ upd_same)
            · exact (same_upd n3) _ _ upd_same
          · unfold slowTold
            rw [if_neg (by omega), if_neg (by omega)]
            rfl
        · -- as wide as the rate
          have e2 : ¬ hi - lo + 1 < r := e2
          have e3 : hi - lo + 1 = r := by omega
          refine ⟨_, rfl, rfl, _, rfl, iteEqF (by omega) ?_⟩
          refine ⟨_, rfl, by show 2 ≤ sizeLine; decide, fun y1 n1 => ⟨by show 1 ≤ sizeLine; decide, fun y3 n3 => ?_⟩⟩
          have f1 := stepS (Same.refl H14) n1 n3
          refine ⟨y3, rfl, f1.trans (same_upd n3), [(y1, (1, r))], upd_same, fun z hz => ?_, ?_⟩
          · rw [List.mem_singleton.mp hz]
            exact (same_upd n3) _ _ upd_same
          · unfold slowTold
            rw [if_neg (by omega), if_pos e3, e3]
            rfl
      · -- one rest
        refine ⟨_, rfl, _, _, rfl, rfl, _, rfl, iteD (fun e => absurd e z1) (fun _ => ?_)⟩
        have e3 : hi - lo + 1 = 1 := by omega
        refine ⟨_, rfl, iteF ⟨_, rfl, rfl, _, rfl, iteEqT e3 ?_⟩⟩
        refine ⟨_, rfl, by show 2 ≤ sizeLine; decide, fun y1 n1 => ⟨by show 1 ≤ sizeLine; decide, fun y3 n3 => ?_⟩⟩
        have f1 := stepS (Same.refl H14) n1 n3
        refine ⟨y3, rfl, f1.trans (same_upd n3), [(y1, (r, 1))], upd_same, fun z hz => ?_, ?_⟩
        · rw [List.mem_singleton.mp hz]
          exact (same_upd n3) _ _ upd_same
        · unfold slowTold
          rw [if_pos e3]
          rfl
    rintro σ H15 ⟨yd, rfl, s15, td⟩
    clear told1
    refine ⟨fun σ H'' => ∃ yd : Addr, σ = slS t r b s lo more bk hi x ye [some (.int first), some (.int (hi - lo + 1)), some (.ref yd), none, none, none, none, none] ∧ Same H15 H'' ∧ Told H'' yd (slowTold r (hi - lo + 1)), ?_, ?_⟩
    · refine ⟨_, rfl, _, _, rfl, rfl, _, rfl, iteD (fun e1 => ?_) (fun e1 => ?_)⟩
      · have e1 : 1 < hi - lo + 1 := e1
        refine ⟨_, rfl, _, rfl, _, _, rfl, rfl, _, _, rfl, rfl, rfl, _, rfl, iteVD (fun e2 => ?_) (fun e2 => ?_)⟩
        · have e3 : hi - lo + 1 = r := by omega
          refine ⟨_, rfl, by show 2 ≤ sizeLine; decide, fun y1 n1 => ⟨by show 1 ≤ sizeLine; decide, fun y3 n3 => ?_⟩⟩
          have f1 := stepS (Same.refl H15) n1 n3
          refine ⟨y3, rfl, f1.trans (same_upd n3), [(y1, (1, hi - lo + 1))], upd_same, fun z hz => ?_, ?_⟩
          · rw [List.mem_singleton.mp hz]
            exact (same_upd n3) _ _ upd_same
          · unfold slowTold
            rw [if_neg (by omega), if_pos e3]
            rfl
        · exact ⟨_, rfl, yd, rfl, Same.refl _, td⟩
      · exact iteF ⟨_, rfl, yd, rfl, Same.refl _, td⟩
    rintro σ H16 ⟨yd', rfl, s16, td⟩
    have ss16 := s15.trans s16
    have kk16 := kk14.trans (.same ss16)
    have clk16 := clk14.same ss16
    have T16 := T14.same ss16
    have hye16 := ss16 _ _ hye14
    have qe16 : SqT K H16 ye [.int (b * lo + more), .int (b * hi + more)] := .inl (.inl hye16)
    -- the waits
    refine ⟨_, rfl, _, rfl, ye, _, 0, _, rfl, rfl, qe16, rfl, _, rfl, ye, _, 1, _, rfl, rfl, qe16, rfl, x, _, _, _, _, _, rfl, clk16, ck, lo0, lohi, hi1, fun H17 yw told s17 nyw tw W => ?_⟩
    have few := waits_few (show 0 < b * r by omega) pt lo0 lohi hi1 W
    obtain rfl := slow_waits hr0 (show 0 < b by omega) l0 l1 l2 q8 W
    refine ⟨_, _, rfl, tw.dp, rp_told few, _, rfl, _, _, rfl, (td.same s17).dp, rp_told few, rfl, _, rfl, iteSame ?_⟩
    have kk17 := kk16.trans (.same s17)
    have clk17 := clk16.same s17
    have T17 := T16.same s17
    have hye17 := s17 _ _ hye16
    -- how many fall at once
    have idn : insideL s' hi' first = if first = 0 then hi' - s' + 1 else 0 := rfl
    refine ⟨fun σ H'' => σ = slS t r b s lo more bk hi x ye [some (.int first), some (.int (hi - lo + 1)), some (.ref yd'), some (.int (insideL s' hi' first)), none, none, none, none] ∧ H'' = H17, ?_, ?_⟩
    · refine ⟨_, rfl, rfl, _, rfl, iteVD (fun e1 => ?_) (fun e1 => ?_)⟩
      · rw [idn, if_pos e1]
        cases bk with
        | true =>
          have he : hi' - s' = s - lo := q10
          rw [he]
          exact ⟨_, rfl, true, rfl, iteT ⟨_, rfl, _, rfl, _, _, rfl, rfl, _, _, rfl, rfl, rfl, rfl⟩⟩
        | false =>
          have he : hi' - s' = hi - s := q10
          rw [he]
          exact ⟨_, rfl, false, rfl, iteF ⟨_, rfl, _, rfl, _, _, rfl, rfl, _, _, rfl, rfl, rfl, rfl⟩⟩
      · rw [idn, if_neg e1]
        exact ⟨rfl, rfl⟩
    rintro σ H'' ⟨rfl, rfl⟩
    -- the draw
    refine ⟨_, rfl, _, _, rfl, rfl, ⟨by decide, by decide, by decide⟩, t, Lg, n + 8, _, rfl, T17, by omega, by decide, ⟨by decide, by decide⟩, fun H18 k k18 T18 n0 n1 => ?_⟩
    have n1 : k < 10 ^ 6 := n1
    have kk18 := kk17.trans k18
    have clk18 := clk17.keep T17 k18
    have hye18 := T17.tup k18 hye17
    have qe18 : SqT K H18 ye [.int (b * lo + more), .int (b * hi + more)] := .inl (.inl hye18)
    obtain ⟨d1, d2, d3⟩ := du k n0
    have ib : 0 ≤ insideL s' hi' first ∧ insideL s' hi' first ≤ r := by
      rw [idn]
      split
      · rename_i z
        have := hz0 z
        omega
      · omega
    have db := dueL_bd (r := r) (lo := lo') (hi := hi') (first := first) (inside := insideL s' hi' first) (n := k) hr0 (by omega) q4 (by omega) fb.1 fb.2 ib.1 ib.2 n0 (by omega)
    have ddef : dueL r lo' hi' first (insideL s' hi' first) k = if k < insideL s' hi' first then k else (if first > 0 then first else insideL s' hi' first + (r - (hi - lo + 1))) + (k - insideL s' hi' first) / (hi - lo + 1) * r + (k - insideL s' hi' first) % (hi - lo + 1) := by
      unfold dueL
      rw [show hi' - lo' = hi - lo from q6]
    generalize insideL s' hi' first = ins at *
    generalize dueL r lo' hi' first ins k = due at *
    -- spot
    refine ⟨fun σ H'' => σ = slS t r b s lo more bk hi x ye [some (.int first), some (.int (hi - lo + 1)), some (.ref yd'), some (.int ins), some (.int k), some (.int (if k < ins then k else k - ins)), none, none] ∧ H'' = H18, ?_, ?_⟩
    · refine ⟨_, rfl, _, rfl, _, _, rfl, rfl, _, rfl, iteD (fun e1 => ?_) (fun e1 => ?_)⟩
      · rw [if_pos e1]
        exact ⟨_, rfl, rfl, rfl⟩
      · rw [if_neg e1]
        exact ⟨_, rfl, _, rfl, _, _, rfl, rfl, rfl, rfl⟩
    rintro σ H18 ⟨rfl, rfl⟩
    -- begins
    refine ⟨fun σ H'' => ∃ bg : Int, σ = slS t r b s lo more bk hi x ye [some (.int first), some (.int (hi - lo + 1)), some (.ref yd'), some (.int ins), some (.int k), some (.int (if k < ins then k else k - ins)), some (.int bg), none] ∧ H'' = H18 ∧ (¬ k < ins → bg = ins + if first = 0 then r - (hi - lo + 1) else first), ?_, ?_⟩
    · refine ⟨_, rfl, _, rfl, _, _, rfl, rfl, _, rfl, iteD (fun e1 => ?_) (fun e1 => ?_)⟩
      · exact ⟨_, rfl, rfl, fun z => absurd e1 z⟩
      · refine ⟨_, rfl, _, rfl, rfl, _, rfl, iteVD (fun e2 => ?_) (fun e2 => ?_)⟩
        · exact ⟨_, rfl, _, rfl, _, _, rfl, rfl, _, _, rfl, rfl, _, rfl, rfl, fun _ => by rw [if_pos e2]⟩
        · exact ⟨_, rfl, _, _, rfl, rfl, _, rfl, rfl, fun _ => by rw [if_neg e2]⟩
    rintro σ H18 ⟨bg, rfl, rfl, hbg⟩
    refine ⟨fun σ H'' => ∃ bg : Int, σ = slS t r b s lo more bk hi x ye [some (.int first), some (.int (hi - lo + 1)), some (.ref yd'), some (.int ins), some (.int k), some (.int (if k < ins then k else k - ins)), some (.int bg), none] ∧ H'' = H18 ∧ (¬ k < ins → bg = if first > 0 then first else ins + (r - (hi - lo + 1))), ?_, ?_⟩
    · refine ⟨_, rfl, _, rfl, _, _, rfl, rfl, _, rfl, iteD (fun e1 => ?_) (fun e1 => ?_)⟩
      · refine ⟨_, rfl, _, _, rfl, rfl, _, rfl, iteD (fun e2 => ?_) (fun e2 => ?_)⟩
        · exact ⟨_, rfl, _, rfl, rfl, fun _ => by rw [if_pos e2]⟩
        · refine ⟨_, rfl, rfl, fun z => ?_⟩
          have e2 : ¬ first > 0 := e2
          have f0 : first = 0 := by omega
          have := hbg z
          rw [if_pos f0] at this
          rw [if_neg e2]
          exact this
      · refine iteF ⟨_, rfl, rfl, fun z => absurd (show ins ≤ k by omega) e1⟩
    rintro σ H18 ⟨bg', rfl, rfl, hbg'⟩
    clear hbg
    -- due
    refine ⟨fun σ H'' => ∃ y15 y16 : Option V, σ = slS t r b s lo more bk hi x ye [some (.int first), some (.int (hi - lo + 1)), some (.int due), some (.int ins), some (.int k), y15, y16, none] ∧ H'' = H18, ?_, ?_⟩
    · refine ⟨_, rfl, _, rfl, _, _, rfl, rfl, _, rfl, iteD (fun e1 => ?_) (fun e1 => ?_)⟩
      · have e1 : k < ins := e1
        have hd : due = k := by rw [ddef, if_pos e1]
        rw [hd]
        exact ⟨_, rfl, _, _, rfl, rfl⟩
      · have e1 : ¬ k < ins := e1
        have hd : due = bg' + (k - ins) / (hi - lo + 1) * r + (k - ins) % (hi - lo + 1) := by rw [ddef, if_neg e1, hbg' e1]
        rw [hd, if_neg e1]
        have x0 := Int.ediv_nonneg (show 0 ≤ k - ins by omega) (show 0 ≤ hi - lo + 1 by omega)
        have x1 := Int.ediv_le_self (a := k - ins) (hi - lo + 1) (by omega)
        exact ⟨_, rfl, _, rfl, _, rfl, _, _, rfl, rfl, divB (by omega) ⟨by omega, by omega⟩, _, rfl, _, _, rfl, rfl, mulB ⟨by omega, by omega⟩ br, _, _, rfl, rfl, _, rfl, .inl ⟨_, rfl, _, rfl, _, _, rfl, rfl, by omega, _, _, rfl, rfl, _, _, rfl, rfl⟩⟩
    rintro σ H18 ⟨y15, y16, rfl, rfl⟩
    clear ddef hbg'
    -- the n-th
    refine ⟨_, rfl, _, rfl, ye, _, 0, _, rfl, rfl, qe18, rfl, _, rfl, ye, _, 1, _, rfl, rfl, qe18, rfl, _, rfl, x, _, _, _, _, _, k, due, rfl, clk18, ck, lo0, lohi, hi1, n0, by omega, d1, d2, d3, fun H19 s19 => ?_⟩
    refine ⟨_, rfl, rfl, _, rfl, iteNeF rfl ?_⟩
    have hye19 := s19 _ _ hye18
    have qe19 : SqT K H19 ye [.int (b * lo + more), .int (b * hi + more)] := .inl (.inl hye19)
    refine ⟨_, rfl, _, rfl, ye, _, 0, _, rfl, rfl, qe19, rfl, _, rfl, ye, _, 1, _, rfl, rfl, qe19, rfl, _, rfl, x, _, _, _, _, _, due, rfl, clk18.same s19, ck, lo0, lohi, hi1, d1, db, fun H20 s20 => ?_⟩
    refine ⟨_, rfl, rfl, _, rfl, iteNeF d3 ?_⟩
    have ss20 := s19.trans s20
    have kk20 := kk18.trans (.same ss20)
    have clk20 := clk18.same ss20
    have T20 := T18.same ss20
    -- forth, by one: the first two that share a piece
    refine ⟨fun σ H'' => σ = slS t r b s lo more bk hi x ye [some (.int first), some (.int (hi - lo + 1)), some (.int due), some (.int ins), some (.int k), y15, y16, none] ∧ Same H20 H'', ?_, ?_⟩
    · refine ⟨_, rfl, rfl, _, rfl, iteVD (fun e1 => ?_) (fun e1 => iteF ⟨rfl, Same.refl _⟩)⟩
      cases bk with
      | true => exact ⟨_, rfl, true, rfl, iteF ⟨rfl, Same.refl _⟩⟩
      | false =>
        have he : e = 1 := S.ee
        subst he
        refine ⟨_, rfl, false, rfl, iteT ?_⟩
        refine ⟨_, rfl, x, _, _, _, rfl, clk20, ck, pb, fun H21 o1 s21 f1 => ?_⟩
        obtain rfl := slow_same_fwd e1 m0 m1 r2 s0 s1 f1
        refine ⟨_, rfl, x, _, _, _, rfl, clk20.same s21, by omega, by show 2 ≤ sizeLine; decide, fun y1 n1 => ?_⟩
        have bi : Bd (if s < r - 1 then 0 else 1) := by split <;> exact ⟨by omega, by omega⟩
        refine ⟨_, .list [.int (if s < r - 1 then 0 else 1), .none], rfl, .lst (.inl (.inl upd_same)) (.cons (.int _) (.cons .non .nil)), (sm_lst (sm_two (sm_int bi) sm_none) (by simp)).rp (by omega) (by omega), ?_⟩
        have fin : ∀ (H22 : Hp) (z : Int), z = (if s < r - 1 then 0 else 1) → Same H20 H22 → (∀ y2, H22 y2 = none → Same H20 (upd H22 y2 (.lst [.int z, .non]))) := fun H22 z _ s22 y2 n2 => s22.trans (same_upd n2)
        refine ⟨_, rfl, _, rfl, _, _, rfl, rfl, _, _, rfl, rfl, _, rfl, iteD (fun e3 => ?_) (fun e3 => ?_)⟩
        · have e3 : s < r - 1 := e3
          rw [if_pos e3]
          refine .inl ⟨_, rfl, by show 2 ≤ sizeLine; decide, fun y2 n2 => ⟨_, .list [.int 0, .none], rfl, .lst (.inl (.inl upd_same)) (.cons (.int _) (.cons .non .nil)), (sm_lst (sm_two (sm_int ⟨by omega, by omega⟩) sm_none) (by simp)).rp (by omega) (by omega), rfl, _, rfl, iteSame ⟨rfl, ?_⟩⟩⟩
          exact s21.trans ((stepS (Same.refl H21) n1 n2).trans (same_upd n2))
        · have e3 : ¬ s < r - 1 := e3
          rw [if_neg e3]
          refine .inl ⟨_, rfl, by show 2 ≤ sizeLine; decide, fun y2 n2 => ⟨_, .list [.int 1, .none], rfl, .lst (.inl (.inl upd_same)) (.cons (.int _) (.cons .non .nil)), (sm_lst (sm_two (sm_int ⟨by omega, by omega⟩) sm_none) (by simp)).rp (by omega) (by omega), rfl, _, rfl, iteSame ⟨rfl, ?_⟩⟩⟩
          exact s21.trans ((stepS (Same.refl H21) n1 n2).trans (same_upd n2))
    rintro σ H21 ⟨rfl, s21⟩
    -- back, by one
    refine ⟨fun σ H'' => σ = slS t r b s lo more bk hi x ye [some (.int first), some (.int (hi - lo + 1)), some (.int due), some (.int ins), some (.int k), y15, y16, none] ∧ Same H20 H'', ?_, ?_⟩
    · refine ⟨_, rfl, rfl, _, rfl, iteVD (fun e1 => ?_) (fun e1 => iteF ⟨rfl, s21⟩)⟩
      cases bk with
      | false => exact ⟨_, rfl, false, rfl, iteF ⟨rfl, s21⟩⟩
      | true =>
        have he : e = r - 1 := S.ee
        subst he
        refine ⟨_, rfl, true, rfl, iteT ?_⟩
        refine ⟨_, rfl, _, _, rfl, rfl, _, rfl, iteD (fun e2 => ?_) (fun e2 => iteF ⟨rfl, s21⟩)⟩
        have e2 : r > 2 := e2
        refine ⟨_, rfl, x, _, _, _, rfl, clk20.same s21, ck, pb, fun H22 o1 s22 f1 => ?_⟩
        obtain rfl := slow_same_back e1 m0 m1 e2 s0 s1 f1
        have bs : Bd s := ⟨by omega, by omega⟩
        exact ⟨_, .int s, rfl, .int _, (sm_int bs).rp (by omega) (by omega), _, rfl, _, .int s, rfl, .int _, (sm_int bs).rp (by omega) (by omega), rfl, _, rfl, iteSame ⟨rfl, s21.trans s22⟩⟩
    rintro σ H22 ⟨rfl, s22⟩
    have kk22 := kk20.trans (.same s22)
    have clk22 := clk20.same s22
    have T22 := T20.same s22
    -- how often two share a piece
    refine ⟨_, rfl, _, _, rfl, rfl, ⟨by decide, by decide, by decide⟩, t, Lg, n + 9, _, rfl, T22, by omega, by decide, ⟨by decide, by decide⟩, fun H23 many k23 T23 y0 y1 => ?_⟩
    have y1 : many < 10 ^ 15 := y1
    have clk23 := clk22.keep T22 k23
    refine ⟨_, rfl, _, rfl, x, _, _, _, many, rfl, clk23, ck, pb, y0, by omega, fun H24 s24 => ?_⟩
    have em : ((many.toNat : Nat) : Int) = many := by omega
    have hsame := cnt_same (c := b * s + more) (show 0 < b * e by omega) pb many.toNat
    rw [em] at hsame
    rw [hsame]
    obtain ⟨dx, hx⟩ := clk23.same s24
    have bpr : Bd (b * r) := ⟨by omega, by omega⟩
    refine ⟨_, rfl, _, rfl, _, rfl, x, C, dx, _, _, rfl, hx, T.cl, T.nP, lk_p, _, _, rfl, rfl, mulB ⟨by omega, by omega⟩ ⟨by omega, by omega⟩, _, rfl, x, C, dx, _, _, rfl, hx, T.cl, T.nS, lk_s, _, _, rfl, rfl, _, rfl, x, C, dx, _, _, rfl, hx, T.cl, T.nR, lk_r, _, _, rfl, rfl, divB (by omega) bpr, ?_⟩
    refine ⟨_, rfl, x, C, dx, _, _, rfl, hx, T.cl, T.nS, lk_s, _, rfl, x, C, dx, _, _, rfl, hx, T.cl, T.nR, lk_r, _, _, rfl, rfl, divB (by omega) bpr, _, _, rfl, rfl, _, _, rfl, rfl, rfl, ?_⟩
    show Q (.bl (decide (V.int (many - ((many * (b * e) + (b * s + more)) / (b * r) - (b * s + more) / (b * r))) = V.int (many - ((many * (b * e) + (b * s + more)) / (b * r) - (b * s + more) / (b * r)))))) H24
    rw [decide_eq_true rfl]
    exact q H24 (kk22.trans (k23.trans (.same s24))) ((T23.same s24).mono (by omega))
end
end Ck

namespace Ck
open PySem PySem.Spec PyProof.Rows L2
section
variable {P : Program} {w : World} {K : PySem.W.Frag} {mg : Str → Option Value} {base : Heap} {C : Addr}
abbrev s_law : Stmt := topS 55
abbrev N_law : List Str := ["script", "tape", "turn", "n"]
theorem sc_law : FnScope N_law ["script"] (defScope s_law) := ⟨rfl, rfl, rfl, by decide +kernel, rfl, by decide +kernel, by decide +kernel⟩
def sp_law (K : PySem.W.Frag) : Sp := fun vs H Q _ => ∃ (a : Addr) (ns : List Int), vs = [.ref a] ∧ SqL K H a (ns.map V.int) ∧ ns.length ≤ 63 ∧ ∀ H', Q (.bl true) H'
theorem first_610 : FirstIn 610 987 0 1 1 (some 610) := by
  refine ⟨by decide, by decide, fun m a b z => ?_⟩
  unfold InR at z
  omega
theorem ok_law {f : Addr} {fd : FuncData} (F : Fun K "law" "law" s_law f fd) (T : Txt K mg C) (B : Bn mg) (D_law_begun : DefOk P w K mg base 1 "_law_begun" ["script"] (sp_begun K)) (M_Clock : MkOk P w K mg base C 3 "Clock" ["self", "pace", "rate", "shift"] (sp_init C))
    (D_first_in : DefOk P w K mg base 4 "first_in" ["clock", "low", "high"] (sp_first_at C)) (D_law_spiral_right : DefG P w K mg base 6 "_law_spiral_right" ["tape"] sp_right) (D_law_slow_right : DefG P w K mg base 6 "_law_slow_right" ["tape"] sp_right) (D_law_mirror_right : DefG P w K mg base 6 "_law_mirror_right" ["tape"] sp_right) :
    FnG P w K mg base 7 f fd ["script"] (sp_law K) := by
  refine fun_okG F sc_law (fun vs H Q E h => ?_) (fun cdv A outer s H vs Q E hG hr h => ?_)
  · obtain ⟨a, ns, rfl, _⟩ := h
    rfl
  · obtain ⟨a, ns, rfl, hS, hlen, q⟩ := h
    refine ⟨_, (pss_cons (ps_set (i := 1) sc_law.nd rfl (.inl rfl) (pcl D_law_begun hr (pa_cons (pv 0) pa_nil)))
      (pss_cons (ps_for PassesOwn.never rfl (pi_range1 (by rfl) B.range (pa_cons (pe_op op_add pe_int (pe_callB (call_min2 rfl) (by rfl) B.min bo_min (pa_cons (pe_callB call_len_seq (by rfl) B.len bo_len (pa_cons (pv 0) pa_nil)) (pa_cons pe_int pa_nil)))) pa_nil)) (pg_name (i := 2) sc_law.nd rfl (.inl rfl)) (pss_one (ps_if (PW.pt (pw_or (pt_not (pt_val (pcG D_law_spiral_right hG hr (pa_cons (pv 1) pa_nil)))) (pw_or (pt_not (pt_val (pcG D_law_slow_right hG hr (pa_cons (pv 1) pa_nil)))) (pw_or1 (pt_not (pt_val (pcG D_law_mirror_right hG hr (pa_cons (pv 1) pa_nil)))))))) (pss_one (ps_ret pe_bl)) pss_nil)))
      (pss_one (ps_ret (pe_cmpR op_eq (pe_callB (call_repr hr.units hG) (by rfl) B.repr bo_repr (pa_cons (pcl D_first_in hr (pa_cons (pmk M_Clock hr (pa_cons pe_int (pa_cons pe_int (pa_cons pe_int pa_nil)))) (pa_cons pe_int (pa_cons pe_int pa_nil)))) pa_nil)) (pe_callB (call_repr hr.units hG) (by rfl) B.repr bo_repr (pa_cons (pe_ix ix_list (pe_lc (own := [("n", 3)]) (g := (gName 3)) rfl sc_law.nd (pi_range1 (by rfl) B.range (pa_cons pe_int pa_nil)) (blkOk_by (own := [("n", 3)]) (N := N_law) (sc := defScope s_law) (by decide +kernel)) (fun _ _ _ _ _ => pg_name (i := 3) sc_law.nd rfl (Or.inl rfl)) (fun _ _ _ _ _ => (pts_one (pt_cmpR op_eq (pe_op op_mod (pe_callTy call_int1 (by rfl) B.int bo_int (pa_cons (pe_op op_mulW pe_int (pv 3)) pa_nil)) pe_int) pe_int (nomark _)))) (fun _ _ _ _ _ => (pv 3))) pe_int (fun _ _ => rfl)) pa_nil)) (nomark _)))))), ?_⟩
    refine ⟨_, rfl, a, ns, rfl, hS, hlen, fun H1 t Lg s1 nt nL T1 => ?_⟩
    have hS1 : SqL K H1 a (ns.map V.int) := Same.seq s1 hS
    refine ⟨_, rfl, a, _, rfl, .inl hS1, _, _, rfl, _, _, rfl, rfl, ?_⟩
    obtain ⟨m, hm⟩ : ∃ m : Nat, ((m : Nat) : Int) = 2 + (if (6 : Int) < ((ns.map V.int).length : Int) then 6 else ((ns.map V.int).length : Int)) := ⟨(2 + (if (6 : Int) < ((ns.map V.int).length : Int) then 6 else ((ns.map V.int).length : Int))).toNat, by split <;> omega⟩
    have m8 : m ≤ 8 := by
      split at hm <;> omega
    refine ⟨(m : Int), congrArg (fun z => [V.int z]) hm.symm, by omega, by omega, ?_⟩
    refine for_range (lo := 0) (n := (m : Int).toNat) (fun i σ H' => ∃ y2 : Option V, σ = [some (.ref a), some (.ref t), y2, none] ∧ Tape H' t Lg (300 * i)) ⟨none, rfl, T1⟩ ?_ ?_
    · rintro i σ H' hi ⟨y2, rfl, T2⟩
      refine ⟨_, rfl, t, Lg, 300 * i, rfl, T2, by omega, fun H3 k3 T3 => ⟨true, rfl, iteF ?_⟩⟩
      refine ⟨_, rfl, t, Lg, 300 * i + 100, rfl, T3, by omega, fun H4 k4 T4 => ⟨true, rfl, iteF ?_⟩⟩
      refine ⟨_, rfl, t, Lg, 300 * i + 200, rfl, T4, by omega, fun H5 k5 T5 => ⟨true, rfl, iteF ?_⟩⟩
      exact ⟨_, rfl, T5.mono (by omega)⟩
    · rintro σ H2 ⟨y2, rfl, T2⟩
      -- a spiral known by hand
      refine fun x dx nx ndx hne => ⟨x, dx, 610, 987, 0, rfl, upd_same, by decide, by decide, by decide, by decide, by decide, by decide, fun H3 ks clk => ⟨rfl, ?_⟩⟩
      refine ⟨x, 610, 987, 0, 1, 1, rfl, clk, ⟨by decide, by decide, by decide, by decide, by decide, by decide⟩, by decide, by decide, by decide, fun H4 o s4 f4 => ?_⟩
      obtain rfl := firstIn_uniq f4 first_610
      have b610 : Bd 610 := ⟨by decide, by decide⟩
      refine ⟨_, .int 610, rfl, .int _, (sm_int b610).rp (by omega) (by omega), ?_⟩
      refine ⟨987, rfl, by decide, by decide, fun D nD => ?_⟩
      refine lc_range (lo := 0) (n := (987 : Int).toNat) (fun i Hc => Hc D = some (.lst ((if i ≤ 610 then [] else [(610 : Int)]).map V.int))) upd_same ?_ ?_
      · rintro i Hc hi hD
        have hi : i < 987 := hi
        refine ⟨rfl, ?_⟩
        refine ⟨_, rfl, _, _, rfl, rfl, mulB b610 ⟨by omega, by omega⟩, .inl ⟨_, rfl, _, _, rfl, rfl, (by show (0 : Int) < 987; decide), rfl, _, rfl, iteVD (fun e => ?_) (fun e => ?_)⟩⟩
        · have hi6 : i = 610 := by omega
          subst hi6
          refine ⟨_, rfl, _, hD, by show 0 < sizeLine; decide, ?_⟩
          rw [upd_same]
          rfl
        · have : i ≠ 610 := by omega
          rw [hD]
          by_cases z : i ≤ 610
          · rw [if_pos z, if_pos (by omega)]
          · rw [if_neg z, if_neg (by omega)]
      · rintro Hc hD
        have hD : Hc D = some (.lst [.int 610]) := hD
        refine ⟨D, _, 0, _, rfl, rfl, .inl (.inl hD), rfl, ?_⟩
        refine ⟨_, .int 610, rfl, .int _, (sm_int b610).rp (by omega) (by omega), rfl, ?_⟩
        show Q (.bl (decide (V.str (PyData.int 610).shown = V.str (PyData.int 610).shown))) Hc
        rw [decide_eq_true rfl]
        exact q Hc
end
end Ck

namespace Ck
open PySem PySem.Spec PyProof.Rows L2
/-! ### the law's own call, for defs that know that no repr is under way -/
section
variable {P : Program} {w : World} {K : PySem.W.Frag} {mg mb : Str → Option Value} {k : Nat} {fa a : Addr} {fd : FuncData} {x : Str} {sp : Sp} {s1 : Shared} {its : List Value} {ns : List Int}
/-- a picture of the heap in which nothing stands but, perhaps, the script -/
structure Pic (P : Program) (w : World) (K : PySem.W.Frag) (s1 : Shared) (a : Addr) (ns : List Int) (H : Hp) : Prop where
  at_ : ∀ b u, H b = some u → b = a ∧ ∃ o, u = .frz o (.lst (ns.map V.int))
  out : ∀ u, H a = some u → K.lookup a = none
  ok : HOk P w H s1.heap
  seq : SqL K H a (ns.map V.int)
theorem Pic.call {H : Hp} (pic : Pic P w K s1 a ns H) (KX : K.In s1.heap) (hns : s1.heap.Ns mainGlobals mg) (hb : s1.heap.Ns builtinsNs mb) (hbb : ∀ x : Str, x ≠ "__name__" → mb x = bootBuiltins x) (hlim : s1.heap.NoLimit) (hg : s1.gens = #[])
    (ha : s1.heap.get? a = some { cls := .type "list", data := .seq its.toArray }) (hr : Room k callerA)
    (F : ∀ base : Heap, K.In base → base.Ns mainGlobals mg → FnG P w K mg base k fa fd [x] sp) (hbind : ∀ (s : Shared) (u : Value), BindsTo s fd ⟨[u], []⟩ [(x, u)])
    (hsp : sp [.ref a] H (fun v _ => v = .bl true) E0) :
    codeAny (model P w) callerA (.call (.ref fa) ⟨[.ref a], []⟩) (fun r s' => r = .ok (.ret (.bool true)) ∧ OldK s1.heap s'.heap ∧ s'.os = s1.os ∧ AllBare s'.gens) s1 := by
  -- what is not the script is seen as before
  have see : ∀ {b : Addr} {o : Obj}, s1.heap.get? b = some o → b ≠ a ∨ H b = none → (hidT s1.heap H).get? b = some o := fun {b o} e h => hidT_get e (by
    rcases h with h | h
    · cases q : H b with
      | none => rfl
      | some u => exact absurd (pic.at_ b u q).1 h
    · exact h)
  have names : ∀ {b : Addr} {m : Str → Option Value}, s1.heap.Ns b m → (hidT s1.heap H).Ns b m := fun {b m} ⟨o, es, ep, e, d, r⟩ => ⟨o, es, ep, see e (.inl fun z => by
    rw [z, ha] at e
    obtain rfl := Option.some.inj e
    exact absurd (show Data.seq its.toArray _ = Data.dict es ep from d) (by intro z; cases z)), d, r⟩
  have kin : K.In (hidT s1.heap H) := fun b o e => see (KX b o e) (by
    by_cases h : H b = none
    · exact .inr h
    · left
      intro z
      subst z
      cases q : H b with
      | none => exact h q
      | some u => rw [pic.out u q] at e; cases e)
  have env : Env0 P w K mg (hidT s1.heap H) callerA [] s1 H :=
    { frames := rfl
      mod := ⟨kin, names hns, ⟨mb, names hb, hbb⟩, let ⟨mc, e1, e2⟩ := hlim; ⟨mc, names e1, e2⟩⟩
      bs := fun b o e => of_hidT e
      bsz := Nat.le_of_eq (hidT_size _ _)
      funs := trivial
      frf := fun b hb => absurd hb List.not_mem_nil
      hok := pic.ok
      bare := .of_eq hg }
  refine codeAny_mono ((F _ kin (names hns)).run callerA [] s1 H ⟨[.ref a], []⟩ [.ref a] [.ref a] _ _ rfl hr env (hbind s1 (.ref a)) (.cons rfl .nil) hsp) fun r s' h => ?_
  match r, h with
  | .ok (.ret u), ⟨v, H', os, bare, un, ok', rv, (q : v = .bl true)⟩ =>
    subst q
    obtain rfl : u = Value.bool true := rv
    refine ⟨rfl, OldK.of_keep fun b o e => ?_, os, bare⟩
    by_cases h : H b = none
    · exact un.keep b o e h List.not_mem_nil List.not_mem_nil
    · cases q : H b with
      | none => exact absurd q h
      | some u =>
        obtain ⟨rfl, o2, rfl⟩ := pic.at_ b u q
        have e1 := (pic.ok b _ q).1
        have e2 := (ok' b _ (un.frzs b o2 _ q)).1
        rw [e] at e1
        obtain rfl := Option.some.inj e1
        exact e2
  | .error e, h => exact (show False from h).elim
theorem vals_of : ∀ {vs : List Value} {ns : List Int}, IntsAre vs ns → Vals (ns.map V.int) vs
  | _, _, .nil => .nil
  | _, _, .cons n t h => .cons ⟨t, rfl⟩ (vals_of h)
/-- there is such a picture -/
theorem pic_ex (KX : K.In s1.heap) (ha : s1.heap.get? a = some { cls := .type "list", data := .seq its.toArray }) (hi : IntsAre its ns) (hl : ns.length ≤ sizeLine) : ∃ H, Pic P w K s1 a ns H := by
  have rv := vals_of hi
  by_cases hk : K.lookup a = none
  · let o : Obj := { cls := .type "list", data := .seq its.toArray }
    have off : ∀ b u, (if b = a then some (HO.frz o (.lst (ns.map V.int))) else none) = some u → b = a ∧ u = .frz o (.lst (ns.map V.int)) := fun b u h => by
      by_cases z : b = a
      · rw [if_pos z] at h
        exact ⟨z, (Option.some.inj h).symm⟩
      · rw [if_neg z] at h
        cases h
    refine ⟨fun b => if b = a then some (.frz o (.lst (ns.map V.int))) else none, fun b u h => ?_, fun _ _ => hk, fun b u h => ?_, .inl (.inr ⟨o, if_pos rfl⟩)⟩
    · obtain ⟨h1, h2⟩ := off b u h
      exact ⟨h1, o, h2⟩
    · obtain ⟨rfl, rfl⟩ := off b u h
      exact ⟨ha, by rw [List.length_map]; exact hl, its, _, rv, ha⟩
  · cases q : K.lookup a with
    | none => exact absurd q hk
    | some o =>
      have e := KX a o q
      rw [ha] at e
      obtain rfl := Option.some.inj e
      refine ⟨fun _ => none, (fun b u h => nomatch h), (fun u h => nomatch h), (fun b u h => nomatch h), .inr ⟨_, its.toArray, _, q, rfl, rfl, rfl, ?_, by simpa using rv⟩⟩
      rw [List.size_toArray, hi.length]
      exact hl
end
/-- what the head of a row leaves, from the law's promise -/
theorem walk_G {l : PySem.W.OpenLaw} {n k : Nat} {q : Program} {loose : List Str} {XP : (Str → Option Value) → Heap → Prop} {YP : World → Heap → Prop} {d : DefRec} {K : Params → PySem.W.Frag} {sp : PySem.W.Frag → Sp} {x : Str}
    (hn : l.most = some n) (hn2 : n ≤ sizeLine) (hdf : d.params.defaults = []) (hr : Room k callerA)
    (hY : ∀ (w : World) (h : Heap), YP w h → (K w.params).In h)
    (F : ∀ (w : World) (mg : Str → Option Value) (fa : Addr) (h : Heap), (K w.params).In h → h.Ns mainGlobals mg → mg d.name = some (.ref fa) →
      ∃ fd : FuncData, (∀ (s : Shared) (u : Value), BindsTo s fd ⟨[u], []⟩ [(x, u)]) ∧
        ∀ base : Heap, (K w.params).In base → base.Ns mainGlobals mg → FnG l.prog w (K w.params) mg base k fa fd [x] (sp (K w.params)))
    (hsp : ∀ (K : PySem.W.Frag) (H : Hp) (a : Addr) (ns : List Int), ns.length ≤ n → SqL K H a (ns.map V.int) → sp K [.ref a] H (fun v _ => v = .bl true) E0) :
    PySem.W.WalkO q loose XP YP l.row.toRowW d [] (fun f vs => PySem.call f vs) := by
  refine Att.attach_call hn hdf fun w s0 s1 mg mb fa o pm cd doc a its ns G Y ho hd hcd hmg hobj hints hlen hg => ?_
  have KX := hY w _ Y
  obtain ⟨fd, hb, hF⟩ := F w mg fa _ KX G.T.g hmg
  obtain ⟨H, pic⟩ := pic_ex (P := l.prog) (w := w) KX hobj hints (Nat.le_trans hlen hn2)
  exact pic.call KX G.T.g G.T.b G.T.builtins G.T.nolimit hg hobj hr hF hb (hsp _ H a ns hlen pic.seq)
end Ck

namespace Ck
open PySem PySem.Spec PyProof.Rows L2
/-! ### what the top has written -/
def DefK (K : PySem.W.Frag) (x : Str) (st : Stmt) : Prop := ∃ f fd, PySem.W.nsIn K mainGlobals x = some (some (.ref f)) ∧ L2.Fun K x x st f fd
def MetK (K : PySem.W.Frag) (C : Addr) (m qual : Str) (st : Stmt) : Prop := ∃ f fd, Meth K C m f ∧ L2.Fun K m qual st f fd
section
variable {K : PySem.W.Frag} {C : Addr} {x m qual : Str} {st : Stmt} {f : Addr} {oc kV dc pm cd ct : Value} {od an : Option Addr} {sl : Array (Option Value)}
theorem DefK.mk' (a : PySem.W.nsIn K mainGlobals x = some (some (.ref f))) (l : K.lookup f = some ⟨oc, od, .func (PySem.W.fnOf x x (defArgs st) (defBody st) (defScope st) .none kV dc pm an cd ct), sl⟩) (c : PySem.W.codeIn K cd x = true) (k : PySem.W.keepIn K (.ref f) = true) : DefK K x st := ⟨_, _, a, fun_mk l c k⟩
theorem MetK.mk' (a : PySem.W.findIn K (.ref C) m = some (some (.ref f))) (i : PySem.W.isFn K (.ref f) = true) (l : K.lookup f = some ⟨oc, od, .func (PySem.W.fnOf m qual (defArgs st) (defBody st) (defScope st) .none kV dc pm an cd ct), sl⟩) (c : PySem.W.codeIn K cd qual = true) (k : PySem.W.keepIn K (.ref f) = true) : MetK K C m qual st := ⟨_, _, ⟨a, i, k⟩, fun_mk l c k⟩
end
/-- the parameters of a def take the arguments one by one -/
def Bd1 (st : Stmt) (x qual : Str) (ps : List Str) : Prop := ∀ (kV doc pm : Value) (an : Option Addr) (cdv ct : Value) (us : List Value), us.length = ps.length → bindArgs (PySem.W.fnOf x qual (defArgs st) (defBody st) (defScope st) .none kV doc pm an cdv ct) ⟨us, []⟩ = pure (ps.zip us)
section
variable {P : Program} {w : World} {K : PySem.W.Frag} {mg : Str → Option Value} {base h : Heap} {C : Addr} {x m qual : Str} {st : Stmt} {ps : List Str} {sp : Sp} {k : Nat}
theorem DefK.ok (D : DefK K x st) (X : K.In h) (G : h.Ns mainGlobals mg) (b : Bd1 st x x ps) (ok : ∀ f fd, L2.Fun K x x st f fd → FnOk P w K mg base CX0 k f fd ps sp) : DefOk P w K mg base k x ps sp := by
  obtain ⟨f, fd, a, F⟩ := D
  exact ⟨f, fd, ok f fd F, PySem.W.mg_of X G a, F.kp, F.binds b⟩
theorem DefK.okG (D : DefK K x st) (X : K.In h) (G : h.Ns mainGlobals mg) (b : Bd1 st x x ps) (ok : ∀ f fd, L2.Fun K x x st f fd → FnG P w K mg base k f fd ps sp) : DefG P w K mg base k x ps sp := by
  obtain ⟨f, fd, a, F⟩ := D
  exact ⟨f, fd, ok f fd F, PySem.W.mg_of X G a, F.kp, F.binds b⟩
theorem MetK.ok (D : MetK K C m qual st) (b : Bd1 st m qual ps) (ok : ∀ f fd, L2.Fun K m qual st f fd → FnOk P w K mg base CX0 k f fd ps sp) : MethOk P w K mg base C k m ps sp := by
  obtain ⟨f, fd, M, F⟩ := D
  exact ⟨f, fd, ok f fd F, M, F.binds b⟩
end
theorem all_mk {l : PySem.W.OpenLaw} {w : World} {K : PySem.W.Frag} {h : Heap} {mg : Str → Option Value} {fa C : Addr} {t0 t1 t2 : Tok} (X : K.In h) (G : h.Ns mainGlobals mg) (hfa : mg "law" = some (.ref fa))
    (aC : PySem.W.nsIn K mainGlobals "Clock" = some (some (.ref C)))
    (c0 : PySem.W.nsIn K mainGlobals "MOST" = some (some (.int 1000000000000 t0)))
    (c1 : PySem.W.nsIn K mainGlobals "MOST_MANY" = some (some (.int 1000000000000000000 t1)))
    (c2 : PySem.W.nsIn K mainGlobals "MOST_NTH" = some (some (.int 1000000000000000 t2)))
    (pg : PySem.W.plainGet K C Str.empty = true) (hd : PySem.W.hasDictIn K C = true) (po : PySem.W.plainOver K C = true) (sa : PySem.W.findIn K (.ref C) "__setattr__" = some (some (.builtin "object.__setattr__"))) (mk : PySem.W.makesIn K C = true) (kc : PySem.W.keepIn K (.ref C) = true)
    (n0 : PySem.W.findIn K (.ref C) "pace" = some none)
    (n1 : PySem.W.findIn K (.ref C) "rate" = some none)
    (n2 : PySem.W.findIn K (.ref C) "shift" = some none)
    (q1 : PySem.W.findIn K (.ref C) "__class__" = some (some (.builtin "object.__class__"))) (q2 : PySem.W.specialIn K (.builtin "object.__class__") "__get__" = some (some (.builtin "getset_descriptor.__get__"))) (q3 : PySem.W.takesIn K (.builtin "object.__class__") = some true) (q4 : PySem.W.mroIn K C (.type "object") = some true)
    (b0 : PySem.W.nsIn K mainGlobals "len" = some none)
    (b1 : PySem.W.nsIn K mainGlobals "abs" = some none)
    (b2 : PySem.W.nsIn K mainGlobals "min" = some none)
    (b3 : PySem.W.nsIn K mainGlobals "max" = some none)
    (b4 : PySem.W.nsIn K mainGlobals "sum" = some none)
    (b5 : PySem.W.nsIn K mainGlobals "all" = some none)
    (b6 : PySem.W.nsIn K mainGlobals "repr" = some none)
    (b7 : PySem.W.nsIn K mainGlobals "sorted" = some none)
    (b8 : PySem.W.nsIn K mainGlobals "isinstance" = some none)
    (b9 : PySem.W.nsIn K mainGlobals "int" = some none)
    (b10 : PySem.W.nsIn K mainGlobals "bool" = some none)
    (b11 : PySem.W.nsIn K mainGlobals "str" = some none)
    (b12 : PySem.W.nsIn K mainGlobals "tuple" = some none)
    (b13 : PySem.W.nsIn K mainGlobals "range" = some none)
    (b14 : PySem.W.nsIn K mainGlobals "reversed" = some none)
    (d_is_number : DefK K "is_number" s_is_number)
    (d_is_between : DefK K "is_between" s_is_between)
    (d_divisor : DefK K "divisor" s_divisor)
    (d_Clock___init__ : MetK K C "__init__" "Clock.__init__" s_Clock___init__)
    (d_Clock_rest_at : MetK K C "rest_at" "Clock.rest_at" s_Clock_rest_at)
    (d_Clock_common : MetK K C "common" "Clock.common" s_Clock_common)
    (d_need_clock : DefK K "need_clock" s_need_clock)
    (d_need_number : DefK K "need_number" s_need_number)
    (d_need_range : DefK K "need_range" s_need_range)
    (d_first_multiple : DefK K "first_multiple" s_first_multiple)
    (d_first_at : DefK K "first_at" s_first_at)
    (d_first_in : DefK K "first_in" s_first_in)
    (d_steps_to : DefK K "steps_to" s_steps_to)
    (d_nearest_of : DefK K "nearest_of" s_nearest_of)
    (d_paper_at : DefK K "paper_at" s_paper_at)
    (d_first_paper : DefK K "first_paper" s_first_paper)
    (d_is_pair_of : DefK K "is_pair_of" s_is_pair_of)
    (d_shows_first : DefK K "shows_first" s_shows_first)
    (d_is_first : DefK K "is_first" s_is_first)
    (d_floors : DefK K "floors" s_floors)
    (d_count_at : DefK K "count_at" s_count_at)
    (d_count_in : DefK K "count_in" s_count_in)
    (d_period_of : DefK K "period_of" s_period_of)
    (d_nth_in : DefK K "nth_in" s_nth_in)
    (d_ends_of : DefK K "ends_of" s_ends_of)
    (d_steps_within : DefK K "steps_within" s_steps_within)
    (d_paper_of : DefK K "paper_of" s_paper_of)
    (d_waits : DefK K "waits" s_waits)
    (d_first_same : DefK K "first_same" s_first_same)
    (d_first_gap : DefK K "first_gap" s_first_gap)
    (d_same_in : DefK K "same_in" s_same_in)
    (d_law_blend : DefK K "_law_blend" s__law_blend)
    (d_law_draw : DefK K "_law_draw" s__law_draw)
    (d_law_pick : DefK K "_law_pick" s__law_pick)
    (d_law_steps : DefK K "_law_steps" s__law_steps)
    (d_law_begun : DefK K "_law_begun" s__law_begun)
    (d_law_clock : DefK K "_law_clock" s__law_clock)
    (d_law_range : DefK K "_law_range" s__law_range)
    (d_law_spiral_right : DefK K "_law_spiral_right" s__law_spiral_right)
    (d_law_slow_right : DefK K "_law_slow_right" s__law_slow_right)
    (d_law_mirror_right : DefK K "_law_mirror_right" s__law_mirror_right)
    (d_law : DefK K "law" s_law)
    : ∃ fd : FuncData, (∀ (s : Shared) (v : Value), BindsTo s fd ⟨[v], []⟩ [("script", v)]) ∧ ∀ base : Heap, K.In base → base.Ns mainGlobals mg → FnG l.prog w K mg base 7 fa fd ["script"] (sp_law K) := by
  have T : Txt K mg C := ⟨⟨pg, hd, po, sa⟩, n0, n1, n2, PySem.W.mg_of X G aC, ⟨_, PySem.W.mg_of X G c0⟩, ⟨_, PySem.W.mg_of X G c1⟩, ⟨_, PySem.W.mg_of X G c2⟩, q1, q2, q3, q4, if_pos (beq_self_eq_true _)⟩
  have B : Bn mg := ⟨PySem.W.mg_none_of X G b0, PySem.W.mg_none_of X G b1, PySem.W.mg_none_of X G b2, PySem.W.mg_none_of X G b3, PySem.W.mg_none_of X G b4, PySem.W.mg_none_of X G b5, PySem.W.mg_none_of X G b6, PySem.W.mg_none_of X G b7, PySem.W.mg_none_of X G b8, PySem.W.mg_none_of X G b9, PySem.W.mg_none_of X G b10, PySem.W.mg_none_of X G b11, PySem.W.mg_none_of X G b12, PySem.W.mg_none_of X G b13, PySem.W.mg_none_of X G b14⟩
  obtain ⟨fl, fdl, al, Fl⟩ := d_law
  have el := hfa.symm.trans (PySem.W.mg_of X G al)
  cases el
  refine ⟨fdl, fun s v => ?_, fun base KX GX => ?_⟩
  · obtain ⟨oc, od, kV, doc, pm, an, cdv, ct, osl, rfl, lk, hcd⟩ := Fl.ex
    exact .of_eq rfl
  have D_is_number : DefOk l.prog w K mg base 1 "is_number" ["thing"] sp_is_number := d_is_number.ok X G (fun _ _ _ _ _ _ us hl => match us, hl with | [_], _ => rfl) (fun _ _ F => ok_is_number F B)
  have D_is_between : DefOk l.prog w K mg base 2 "is_between" ["thing", "low", "high"] sp_is_between := d_is_between.ok X G (fun _ _ _ _ _ _ us hl => match us, hl with | [_, _, _], _ => rfl) (fun _ _ F => ok_is_between F D_is_number)
  have D_divisor : DefOk l.prog w K mg base 1 "divisor" ["one", "other"] sp_divisor := d_divisor.ok X G (fun _ _ _ _ _ _ us hl => match us, hl with | [_, _], _ => rfl) (fun _ _ F => ok_divisor F B)
  have M_Clock : MkOk l.prog w K mg base C 3 "Clock" ["self", "pace", "rate", "shift"] (sp_init C) := by
    obtain ⟨f, fd, M, F⟩ := d_Clock___init__
    exact ⟨f, fd, ⟨mk, M.at_, M.fn, kc⟩, ok_init F T D_is_between, T.mg_Clock, F.binds (ps := ["self", "pace", "rate", "shift"]) (fun _ _ _ _ _ _ us hl => match us, hl with | [_, _, _, _], _ => rfl)⟩
  have D_rest_at : MethOk l.prog w K mg base C 1 "rest_at" ["self", "n"] (sp_rest C) := d_Clock_rest_at.ok (fun _ _ _ _ _ _ us hl => match us, hl with | [_, _], _ => rfl) (fun _ _ F => ok_rest F T)
  have D_common : MethOk l.prog w K mg base C 2 "common" ["self"] (sp_common C) := d_Clock_common.ok (fun _ _ _ _ _ _ us hl => match us, hl with | [_], _ => rfl) (fun _ _ F => ok_common F T D_divisor)
  have D_need_clock : DefOk l.prog w K mg base 1 "need_clock" ["clock"] (sp_need_clock C) := d_need_clock.ok X G (fun _ _ _ _ _ _ us hl => match us, hl with | [_], _ => rfl) (fun _ _ F => ok_need_clock F T B)
  have D_need_number : DefOk l.prog w K mg base 3 "need_number" ["thing", "most", "part"] sp_need_number := d_need_number.ok X G (fun _ _ _ _ _ _ us hl => match us, hl with | [_, _, _], _ => rfl) (fun _ _ F => ok_need_number F D_is_between)
  have D_need_range : DefOk l.prog w K mg base 3 "need_range" ["clock", "low", "high"] (sp_need_range C) := d_need_range.ok X G (fun _ _ _ _ _ _ us hl => match us, hl with | [_, _, _], _ => rfl) (fun _ _ F => ok_need_range F T D_need_clock D_is_between)
  have D_first_multiple : DefOk l.prog w K mg base 1 "first_multiple" ["pace", "rate", "low", "high"] sp_first_multiple := d_first_multiple.ok X G (fun _ _ _ _ _ _ us hl => match us, hl with | [_, _, _, _], _ => rfl) (fun _ _ F => ok_first_multiple F B)
  have D_first_at : DefOk l.prog w K mg base 2 "first_at" ["clock", "low", "high"] (sp_first_at C) := d_first_at.ok X G (fun _ _ _ _ _ _ us hl => match us, hl with | [_, _, _], _ => rfl) (fun _ _ F => ok_first_at F T D_rest_at D_first_multiple)
  have D_first_in : DefOk l.prog w K mg base 4 "first_in" ["clock", "low", "high"] (sp_first_at C) := d_first_in.ok X G (fun _ _ _ _ _ _ us hl => match us, hl with | [_, _, _], _ => rfl) (fun _ _ F => ok_first_in F D_need_range D_first_at)
  have D_steps_to : DefOk l.prog w K mg base 1 "steps_to" ["up", "down", "many"] sp_steps_to := d_steps_to.ok X G (fun _ _ _ _ _ _ us hl => match us, hl with | [_, _, _], _ => rfl) (fun _ _ F => ok_steps_to F B)
  have D_nearest_of : DefOk l.prog w K mg base 2 "nearest_of" ["clock", "n"] (sp_nearest_of C) := d_nearest_of.ok X G (fun _ _ _ _ _ _ us hl => match us, hl with | [_, _], _ => rfl) (fun _ _ F => ok_nearest_of F T D_steps_to)
  have D_paper_at : DefOk l.prog w K mg base 3 "paper_at" ["clock", "low", "high"] (sp_paper_at C) := d_paper_at.ok X G (fun _ _ _ _ _ _ us hl => match us, hl with | [_, _, _], _ => rfl) (fun _ _ F => ok_paper_at F T D_first_at D_common D_nearest_of)
  have D_first_paper : DefOk l.prog w K mg base 4 "first_paper" ["clock", "low", "high"] (sp_paper_at C) := d_first_paper.ok X G (fun _ _ _ _ _ _ us hl => match us, hl with | [_, _, _], _ => rfl) (fun _ _ F => ok_first_paper F D_need_range D_paper_at)
  have D_is_pair_of : DefOk l.prog w K mg base 1 "is_pair_of" ["clock", "k1", "d1", "k2", "d2"] (sp_is_pair_of C) := d_is_pair_of.ok X G (fun _ _ _ _ _ _ us hl => match us, hl with | [_, _, _, _, _], _ => rfl) (fun _ _ F => ok_is_pair_of F T)
  have D_shows_first : DefOk l.prog w K mg base 3 "shows_first" ["clock", "low", "high", "thing"] (sp_shows C) := d_shows_first.ok X G (fun _ _ _ _ _ _ us hl => match us, hl with | [_, _, _, _], _ => rfl) (fun _ _ F => ok_shows_first F T B D_is_between D_common D_rest_at D_is_pair_of)
  have D_is_first : DefOk l.prog w K mg base 4 "is_first" ["clock", "low", "high", "thing"] (sp_shows C) := d_is_first.ok X G (fun _ _ _ _ _ _ us hl => match us, hl with | [_, _, _, _], _ => rfl) (fun _ _ F => ok_is_first F D_need_range D_shows_first)
  have D_floors : DefOk l.prog w K mg base 1 "floors" ["many", "pace", "rate", "shift"] sp_floors := d_floors.ok X G (fun _ _ _ _ _ _ us hl => match us, hl with | [_, _, _, _], _ => rfl) (fun _ _ F => ok_floors F )
  have D_count_at : DefOk l.prog w K mg base 2 "count_at" ["clock", "low", "high", "many"] (sp_count C) := d_count_at.ok X G (fun _ _ _ _ _ _ us hl => match us, hl with | [_, _, _, _], _ => rfl) (fun _ _ F => ok_count_at F T D_floors)
  have D_count_in : DefOk l.prog w K mg base 4 "count_in" ["clock", "low", "high", "many"] (sp_count C) := d_count_in.ok X G (fun _ _ _ _ _ _ us hl => match us, hl with | [_, _, _, _], _ => rfl) (fun _ _ F => ok_count_in F T D_need_range D_need_number D_count_at)
  have D_period_of : DefOk l.prog w K mg base 3 "period_of" ["clock"] (sp_period C) := d_period_of.ok X G (fun _ _ _ _ _ _ us hl => match us, hl with | [_], _ => rfl) (fun _ _ F => ok_period_of F T D_common)
  have D_nth_in : DefOk l.prog w K mg base 4 "nth_in" ["clock", "low", "high", "n"] (sp_nth C) := d_nth_in.ok X G (fun _ _ _ _ _ _ us hl => match us, hl with | [_, _, _, _], _ => rfl) (fun _ _ F => ok_nth_in F T D_need_range D_need_number D_count_at D_period_of)
  have D_ends_of : DefOk l.prog w K mg base 3 "ends_of" ["clock", "low", "high"] (sp_ends C) := d_ends_of.ok X G (fun _ _ _ _ _ _ us hl => match us, hl with | [_, _, _], _ => rfl) (fun _ _ F => ok_ends_of F T D_common)
  have D_steps_within : DefOk l.prog w K mg base 2 "steps_within" ["clock", "reach"] (sp_within C) := d_steps_within.ok X G (fun _ _ _ _ _ _ us hl => match us, hl with | [_, _], _ => rfl) (fun _ _ F => ok_steps_within F T B D_steps_to)
  have D_paper_of : DefOk l.prog w K mg base 4 "paper_of" ["clock", "low", "high"] (sp_paper_of C) := d_paper_of.ok X G (fun _ _ _ _ _ _ us hl => match us, hl with | [_, _, _], _ => rfl) (fun _ _ F => ok_paper_of F T D_ends_of D_period_of D_steps_within)
  have D_waits : DefOk l.prog w K mg base 5 "waits" ["clock", "low", "high"] (sp_waits C) := d_waits.ok X G (fun _ _ _ _ _ _ us hl => match us, hl with | [_, _, _], _ => rfl) (fun _ _ F => ok_waits F T B D_need_range D_common D_ends_of D_paper_of)
  have D_first_same : DefOk l.prog w K mg base 3 "first_same" ["clock"] (sp_first_same C) := d_first_same.ok X G (fun _ _ _ _ _ _ us hl => match us, hl with | [_], _ => rfl) (fun _ _ F => ok_first_same F T D_need_clock D_first_at)
  have D_first_gap : DefOk l.prog w K mg base 3 "first_gap" ["clock"] (sp_first_gap C) := d_first_gap.ok X G (fun _ _ _ _ _ _ us hl => match us, hl with | [_], _ => rfl) (fun _ _ F => ok_first_gap F T B D_need_clock D_first_at)
  have D_same_in : DefOk l.prog w K mg base 4 "same_in" ["clock", "many"] (sp_same_in C) := d_same_in.ok X G (fun _ _ _ _ _ _ us hl => match us, hl with | [_, _], _ => rfl) (fun _ _ F => ok_same_in F T D_need_clock D_need_number D_count_at)
  have D_law_blend : DefOk l.prog w K mg base 1 "_law_blend" ["tape"] sp_blend := d_law_blend.ok X G (fun _ _ _ _ _ _ us hl => match us, hl with | [_], _ => rfl) (fun _ _ F => ok_blend F B)
  have D_law_draw : DefOk l.prog w K mg base 2 "_law_draw" ["tape", "size"] sp_draw := d_law_draw.ok X G (fun _ _ _ _ _ _ us hl => match us, hl with | [_, _], _ => rfl) (fun _ _ F => ok_draw F B D_law_blend)
  have D_law_pick : DefOk l.prog w K mg base 3 "_law_pick" ["tape", "several"] (sp_pick K) := d_law_pick.ok X G (fun _ _ _ _ _ _ us hl => match us, hl with | [_, _], _ => rfl) (fun _ _ F => ok_pick F B D_law_draw)
  have D_law_steps : DefOk l.prog w K mg base 1 "_law_steps" ["many"] sp_steps := d_law_steps.ok X G (fun _ _ _ _ _ _ us hl => match us, hl with | [_], _ => rfl) (fun _ _ F => ok_steps F B)
  have D_law_begun : DefOk l.prog w K mg base 1 "_law_begun" ["script"] (sp_begun K) := d_law_begun.ok X G (fun _ _ _ _ _ _ us hl => match us, hl with | [_], _ => rfl) (fun _ _ F => ok_begun F B)
  have D_law_clock : DefOk l.prog w K mg base 4 "_law_clock" ["tape", "most"] sp_lclock := d_law_clock.ok X G (fun _ _ _ _ _ _ us hl => match us, hl with | [_, _], _ => rfl) (fun _ _ F => ok_lclock F B D_law_draw D_law_pick)
  have D_law_range : DefOk l.prog w K mg base 4 "_law_range" ["tape", "rate"] sp_lrange := d_law_range.ok X G (fun _ _ _ _ _ _ us hl => match us, hl with | [_, _], _ => rfl) (fun _ _ F => ok_lrange F B D_law_draw D_law_pick)
  have D_law_spiral_right : DefG l.prog w K mg base 6 "_law_spiral_right" ["tape"] sp_right := d_law_spiral_right.okG X G (fun _ _ _ _ _ _ us hl => match us, hl with | [_], _ => rfl) (fun _ _ F => ok_spiral F T B D_law_draw D_law_steps M_Clock D_first_in D_nth_in D_is_first D_first_paper D_waits D_count_in)
  have D_law_slow_right : DefG l.prog w K mg base 6 "_law_slow_right" ["tape"] sp_right := d_law_slow_right.okG X G (fun _ _ _ _ _ _ us hl => match us, hl with | [_], _ => rfl) (fun _ _ F => ok_slow F T B D_law_draw D_law_pick M_Clock D_nth_in D_is_first D_first_paper D_first_in D_waits D_count_in D_first_same D_first_gap D_same_in)
  have D_law_mirror_right : DefG l.prog w K mg base 6 "_law_mirror_right" ["tape"] sp_right := d_law_mirror_right.okG X G (fun _ _ _ _ _ _ us hl => match us, hl with | [_], _ => rfl) (fun _ _ F => ok_mirror F T B D_law_draw D_law_pick D_law_clock D_law_range M_Clock D_first_in D_waits D_count_in)
  exact ok_law Fl T B D_law_begun M_Clock D_first_in D_law_spiral_right D_law_slow_right D_law_mirror_right
end Ck
open PySem PySem.W PyProof.Rows
set_option maxRecDepth 100000 in
set_option maxHeartbeats 0 in
theorem PySem.Challenge.cw_seenandheard_k80_whole_great_clocks_know_holds : PySem.Challenge.rw_seenandheard_k80_whole_great_clocks_know.Holds := by
  w_on; o_law; k_head; (case hw => w_witness2)
  k_fill
  refine Ck.walk_G (l := PySem.Challenge.rw_seenandheard_k80_whole_great_clocks_know) (n := 63) (k := 7) (x := "script") (sp := Ck.sp_law) rfl (by decide) rfl ⟨rfl, by decide, by decide⟩ (fun w h Y => PySem.W.kIn_of Y) ?F (fun _ _ a ns hl hS => ⟨a, ns, rfl, hS, hl, fun _ => rfl⟩)
  case F =>
    intro w mg fa h KX G hmg
    refine' Ck.all_mk KX G hmg ?aC ?c0 ?c1 ?c2 ?pg ?hd ?po ?sa ?mk ?kc ?n0 ?n1 ?n2 ?q1 ?q2 ?q3 ?q4 ?b0 ?b1 ?b2 ?b3 ?b4 ?b5 ?b6 ?b7 ?b8 ?b9 ?b10 ?b11 ?b12 ?b13 ?b14 ?d_is_number ?d_is_between ?d_divisor ?d_Clock___init__ ?d_Clock_rest_at ?d_Clock_common ?d_need_clock ?d_need_number ?d_need_range ?d_first_multiple ?d_first_at ?d_first_in ?d_steps_to ?d_nearest_of ?d_paper_at ?d_first_paper ?d_is_pair_of ?d_shows_first ?d_is_first ?d_floors ?d_count_at ?d_count_in ?d_period_of ?d_nth_in ?d_ends_of ?d_steps_within ?d_paper_of ?d_waits ?d_first_same ?d_first_gap ?d_same_in ?d_law_blend ?d_law_draw ?d_law_pick ?d_law_steps ?d_law_begun ?d_law_clock ?d_law_range ?d_law_spiral_right ?d_law_slow_right ?d_law_mirror_right ?d_law
    (case aC => k_is)
    (case c0 => k_is)
    (case c1 => k_is)
    (case c2 => k_is)
    (case pg => k_is)
    (case hd => k_is)
    (case po => k_is)
    (case sa => k_is)
    (case mk => k_is)
    (case kc => k_is)
    (case n0 => k_is)
    (case n1 => k_is)
    (case n2 => k_is)
    (case q1 => k_is)
    (case q2 => k_is)
    (case q3 => k_is)
    (case q4 => k_is)
    (case b0 => k_is)
    (case b1 => k_is)
    (case b2 => k_is)
    (case b3 => k_is)
    (case b4 => k_is)
    (case b5 => k_is)
    (case b6 => k_is)
    (case b7 => k_is)
    (case b8 => k_is)
    (case b9 => k_is)
    (case b10 => k_is)
    (case b11 => k_is)
    (case b12 => k_is)
    (case b13 => k_is)
    (case b14 => k_is)
    (case d_is_number => refine' Ck.DefK.mk' ?a ?l ?c ?k; (case a => k_is); (case l => k_is); (case c => k_is); (case k => k_is))
    (case d_is_between => refine' Ck.DefK.mk' ?a ?l ?c ?k; (case a => k_is); (case l => k_is); (case c => k_is); (case k => k_is))
    (case d_divisor => refine' Ck.DefK.mk' ?a ?l ?c ?k; (case a => k_is); (case l => k_is); (case c => k_is); (case k => k_is))
    (case d_Clock___init__ => refine' Ck.MetK.mk' ?a ?i ?l ?c ?k; (case a => k_is); (case i => k_is); (case l => k_is); (case c => k_is); (case k => k_is))
    (case d_Clock_rest_at => refine' Ck.MetK.mk' ?a ?i ?l ?c ?k; (case a => k_is); (case i => k_is); (case l => k_is); (case c => k_is); (case k => k_is))
    (case d_Clock_common => refine' Ck.MetK.mk' ?a ?i ?l ?c ?k; (case a => k_is); (case i => k_is); (case l => k_is); (case c => k_is); (case k => k_is))
    (case d_need_clock => refine' Ck.DefK.mk' ?a ?l ?c ?k; (case a => k_is); (case l => k_is); (case c => k_is); (case k => k_is))
    (case d_need_number => refine' Ck.DefK.mk' ?a ?l ?c ?k; (case a => k_is); (case l => k_is); (case c => k_is); (case k => k_is))
    (case d_need_range => refine' Ck.DefK.mk' ?a ?l ?c ?k; (case a => k_is); (case l => k_is); (case c => k_is); (case k => k_is))
    (case d_first_multiple => refine' Ck.DefK.mk' ?a ?l ?c ?k; (case a => k_is); (case l => k_is); (case c => k_is); (case k => k_is))
    (case d_first_at => refine' Ck.DefK.mk' ?a ?l ?c ?k; (case a => k_is); (case l => k_is); (case c => k_is); (case k => k_is))
    (case d_first_in => refine' Ck.DefK.mk' ?a ?l ?c ?k; (case a => k_is); (case l => k_is); (case c => k_is); (case k => k_is))
    (case d_steps_to => refine' Ck.DefK.mk' ?a ?l ?c ?k; (case a => k_is); (case l => k_is); (case c => k_is); (case k => k_is))
    (case d_nearest_of => refine' Ck.DefK.mk' ?a ?l ?c ?k; (case a => k_is); (case l => k_is); (case c => k_is); (case k => k_is))
    (case d_paper_at => refine' Ck.DefK.mk' ?a ?l ?c ?k; (case a => k_is); (case l => k_is); (case c => k_is); (case k => k_is))
    (case d_first_paper => refine' Ck.DefK.mk' ?a ?l ?c ?k; (case a => k_is); (case l => k_is); (case c => k_is); (case k => k_is))
    (case d_is_pair_of => refine' Ck.DefK.mk' ?a ?l ?c ?k; (case a => k_is); (case l => k_is); (case c => k_is); (case k => k_is))
    (case d_shows_first => refine' Ck.DefK.mk' ?a ?l ?c ?k; (case a => k_is); (case l => k_is); (case c => k_is); (case k => k_is))
    (case d_is_first => refine' Ck.DefK.mk' ?a ?l ?c ?k; (case a => k_is); (case l => k_is); (case c => k_is); (case k => k_is))
    (case d_floors => refine' Ck.DefK.mk' ?a ?l ?c ?k; (case a => k_is); (case l => k_is); (case c => k_is); (case k => k_is))
    (case d_count_at => refine' Ck.DefK.mk' ?a ?l ?c ?k; (case a => k_is); (case l => k_is); (case c => k_is); (case k => k_is))
    (case d_count_in => refine' Ck.DefK.mk' ?a ?l ?c ?k; (case a => k_is); (case l => k_is); (case c => k_is); (case k => k_is))
    (case d_period_of => refine' Ck.DefK.mk' ?a ?l ?c ?k; (case a => k_is); (case l => k_is); (case c => k_is); (case k => k_is))
    (case d_nth_in => refine' Ck.DefK.mk' ?a ?l ?c ?k; (case a => k_is); (case l => k_is); (case c => k_is); (case k => k_is))
    (case d_ends_of => refine' Ck.DefK.mk' ?a ?l ?c ?k; (case a => k_is); (case l => k_is); (case c => k_is); (case k => k_is))
    (case d_steps_within => refine' Ck.DefK.mk' ?a ?l ?c ?k; (case a => k_is); (case l => k_is); (case c => k_is); (case k => k_is))
    (case d_paper_of => refine' Ck.DefK.mk' ?a ?l ?c ?k; (case a => k_is); (case l => k_is); (case c => k_is); (case k => k_is))
    (case d_waits => refine' Ck.DefK.mk' ?a ?l ?c ?k; (case a => k_is); (case l => k_is); (case c => k_is); (case k => k_is))
    (case d_first_same => refine' Ck.DefK.mk' ?a ?l ?c ?k; (case a => k_is); (case l => k_is); (case c => k_is); (case k => k_is))
    (case d_first_gap => refine' Ck.DefK.mk' ?a ?l ?c ?k; (case a => k_is); (case l => k_is); (case c => k_is); (case k => k_is))
    (case d_same_in => refine' Ck.DefK.mk' ?a ?l ?c ?k; (case a => k_is); (case l => k_is); (case c => k_is); (case k => k_is))
    (case d_law_blend => refine' Ck.DefK.mk' ?a ?l ?c ?k; (case a => k_is); (case l => k_is); (case c => k_is); (case k => k_is))
    (case d_law_draw => refine' Ck.DefK.mk' ?a ?l ?c ?k; (case a => k_is); (case l => k_is); (case c => k_is); (case k => k_is))
    (case d_law_pick => refine' Ck.DefK.mk' ?a ?l ?c ?k; (case a => k_is); (case l => k_is); (case c => k_is); (case k => k_is))
    (case d_law_steps => refine' Ck.DefK.mk' ?a ?l ?c ?k; (case a => k_is); (case l => k_is); (case c => k_is); (case k => k_is))
    (case d_law_begun => refine' Ck.DefK.mk' ?a ?l ?c ?k; (case a => k_is); (case l => k_is); (case c => k_is); (case k => k_is))
    (case d_law_clock => refine' Ck.DefK.mk' ?a ?l ?c ?k; (case a => k_is); (case l => k_is); (case c => k_is); (case k => k_is))
    (case d_law_range => refine' Ck.DefK.mk' ?a ?l ?c ?k; (case a => k_is); (case l => k_is); (case c => k_is); (case k => k_is))
    (case d_law_spiral_right => refine' Ck.DefK.mk' ?a ?l ?c ?k; (case a => k_is); (case l => k_is); (case c => k_is); (case k => k_is))
    (case d_law_slow_right => refine' Ck.DefK.mk' ?a ?l ?c ?k; (case a => k_is); (case l => k_is); (case c => k_is); (case k => k_is))
    (case d_law_mirror_right => refine' Ck.DefK.mk' ?a ?l ?c ?k; (case a => k_is); (case l => k_is); (case c => k_is); (case k => k_is))
    (case d_law => refine' Ck.DefK.mk' ?a ?l ?c ?k; (case a => k_is); (case l => k_is); (case c => k_is); (case k => k_is))

