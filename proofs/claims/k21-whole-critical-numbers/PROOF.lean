import PyProof.Rows.All
import Wide.All
import OpenK.AllK
import Wide.FinOn
import KE.KStateDown
import Lean
import HandS.ForMost
import HandS.Exc
import HandS.Defaults
import HandS.Head0
import HandS.Head1
import HandS.Head2
import HandS.Head3
import HandS.HeadHook1
import HandS.HeadHook2
import HandS.HeadHook3
import HandS.HeadHook4
import PySem.Challenge.RW_actuarium_k21_whole_critical_numbers
import HandS.Gcd
import HandS.Wide
import HandS.Star
import HandS.Conv
import HandS.Style
import HandS.IsInst
import HandS.TupAny
import HandS.TupMul
import HandS.AnyAll
import HandS.More
import HandS.Iter
import PyProof.GenCompD
import HandS.HeadWalk
import HandS.EndTab
set_option Elab.async false
set_option linter.all false
set_option maxRecDepth 100000
set_option maxHeartbeats 0
namespace K21
open PySem PySem.Spec PyProof.Rows L2
/-! ### the text -/
def top (i : Nat) : Stmt := PySem.Challenge.pw_actuarium_k21_whole_critical_numbers.main.body.getD i (.Pass ⟨0, 0, 0, 0⟩)
abbrev s_ratio : Stmt := top 12
abbrev s_plus : Stmt := top 13
abbrev s_minus : Stmt := top 14
abbrev s_by : Stmt := top 15
abbrev s_over : Stmt := top 16
abbrev s_power : Stmt := top 17
abbrev s_is_ratio : Stmt := top 18
abbrev s_is_in : Stmt := top 23
abbrev s_need_rate : Stmt := top 24
abbrev s_need_payments : Stmt := top 25
abbrev s_need_time : Stmt := top 26
abbrev s_growth : Stmt := top 27
abbrev s_are_lives : Stmt := top 31
abbrev s_need_lives : Stmt := top 32
abbrev s_need_age : Stmt := top 33
abbrev s_need_premium : Stmt := top 38
abbrev s_need_policy : Stmt := top 39
abbrev s_entry : Stmt := top 40
abbrev s_span_of : Stmt := top 41
abbrev s_part_dying : Stmt := top 42
abbrev s_net_alive : Stmt := top 43
abbrev s_reserves_of : Stmt := top 44
abbrev s_changed : Stmt := top 45
abbrev s_fair_of : Stmt := top 46
abbrev s_fair_premium : Stmt := top 47
abbrev s_reserves : Stmt := top 48
abbrev s_critical : Stmt := top 50
abbrev s__law_taken : Stmt := top 52
abbrev s__law_pick : Stmt := top 53
abbrev s__law_alike : Stmt := top 54
abbrev s__law_ratio : Stmt := top 55
abbrev s__law_plus : Stmt := top 56
abbrev s__law_by : Stmt := top 57
abbrev s__law_rate : Stmt := top 59
abbrev s__law_lives : Stmt := top 61
abbrev s__law_policy : Stmt := top 62
abbrev s__law_span : Stmt := top 63
abbrev s__law_entry : Stmt := top 64
abbrev s__law_net : Stmt := top 65
abbrev s__law_step : Stmt := top 66
abbrev s__law_from : Stmt := top 67
abbrev s__law_below : Stmt := top 68
abbrev s_law : Stmt := top 69
/-- the def x of the text stands at f -/
abbrev FnP (K : PySem.W.Frag) (x : Str) (st : Stmt) (f : Addr) (fd : FuncData) : Prop := FunD K x x (defArgs st) (defBody st) (defScope st) [] [] f fd
end K21
namespace K21
/-! ### Lidstone, over sequences -/
/-- the reserves backwards: m years are left -/
def resv (n : Nat) (net q d : Nat → Rat) (v : Rat) : Nat → Rat
  | 0 => 0
  | m + 1 => net (n - (m + 1)) + v * (q (n - (m + 1)) * d (n - (m + 1)) + (1 - q (n - (m + 1))) * resv n net q d v m)
/-- the reserve at t -/
def res (n : Nat) (net q d : Nat → Rat) (v : Rat) (t : Nat) : Rat := resv n net q d v (n - t)
theorem res_end (n : Nat) (net q d : Nat → Rat) (v : Rat) : res n net q d v n = 0 := by
  unfold res; rw [Nat.sub_self]; rfl
theorem res_at {n : Nat} {net q d : Nat → Rat} {v : Rat} {t : Nat} (h : t < n) :
    res n net q d v t = net t + v * (q t * d t + (1 - q t) * res n net q d v (t + 1)) := by
  unfold res
  obtain ⟨m, hm⟩ : ∃ m, n - t = m + 1 := ⟨n - t - 1, by omega⟩
  have e1 : n - (t + 1) = m := by omega
  have e2 : n - (m + 1) = t := by omega
  rw [hm, e1]
  show net (n - (m + 1)) + v * (q (n - (m + 1)) * d (n - (m + 1)) + (1 - q (n - (m + 1))) * resv n net q d v m) = _
  rw [e2]
/-- a property from the end downwards -/
theorem down {n : Nat} {P : Nat → Prop} (h0 : P n) (hs : ∀ t, t < n → P (t + 1) → P t) : ∀ t, t ≤ n → P t := by
  intro t ht
  obtain ⟨m, hm⟩ : ∃ m, m = n - t := ⟨_, rfl⟩
  induction m generalizing t with
  | zero => have : t = n := by omega
            rw [this]; exact h0
  | succ m ih =>
    have h1 : t < n := by omega
    exact hs t h1 (ih (t + 1) (by omega) (by omega))
/-- linear in the premium -/
theorem res_linear {n : Nat} {a q d : Nat → Rat} {v p : Rat} {t : Nat} (ht : t ≤ n) :
    res n (fun k => a k - p) q d v t = res n (fun k => a k - 0) q d v t - p * res n (fun _ => 0 - (-1)) q (fun _ => 0) v t := by
  refine down (P := fun t => res n (fun k => a k - p) q d v t = res n (fun k => a k - 0) q d v t - p * res n (fun _ => 0 - (-1)) q (fun _ => 0) v t) ?_ (fun t h ih => ?_) t ht
  · simp only [res_end]; grind
  · simp only [res_at h]; rw [ih]; grind
/-- what is paid for a premium of 1 is positive -/
theorem unit_pos {n : Nat} {q : Nat → Rat} {v : Rat} (hv : 0 ≤ v) (hq : ∀ t, t < n → q t ≤ 1) : ∀ t, t < n → 1 ≤ res n (fun _ => 0 - (-1)) q (fun _ => 0) v t := by
  have base : ∀ t, t ≤ n → 0 ≤ res n (fun _ => 0 - (-1)) q (fun _ => 0) v t := by
    refine down ?_ (fun t h ih => ?_)
    · rw [res_end]; exact Rat.le_refl
    · rw [res_at h]
      have h1 : 0 ≤ (1 - q t) * res n (fun _ => 0 - (-1)) q (fun _ => 0) v (t + 1) := Rat.mul_nonneg (by have := hq t h; grind) ih
      have h2 : 0 ≤ v * (q t * 0 + (1 - q t) * res n (fun _ => 0 - (-1)) q (fun _ => 0) v (t + 1)) := Rat.mul_nonneg hv (by grind)
      grind
  intro t h
  rw [res_at h]
  have h1 : 0 ≤ (1 - q t) * res n (fun _ => 0 - (-1)) q (fun _ => 0) v (t + 1) := Rat.mul_nonneg (by have := hq t h; grind) (base (t + 1) (by omega))
  have h2 : 0 ≤ v * (q t * 0 + (1 - q t) * res n (fun _ => 0 - (-1)) q (fun _ => 0) v (t + 1)) := Rat.mul_nonneg hv (by grind)
  grind
/-- the fair premium -/
theorem fair_zero {n : Nat} {a q d : Nat → Rat} {v : Rat} (hn : 0 < n) (hv : 0 ≤ v) (hq : ∀ t, t < n → q t ≤ 1) :
    res n (fun k => a k - (res n (fun k => a k - 0) q d v 0 / res n (fun _ => 0 - (-1)) q (fun _ => 0) v 0)) q d v 0 = 0 := by
  rw [res_linear (Nat.zero_le n)]
  have h := unit_pos (v := v) hv hq 0 hn
  have h1 : res n (fun _ => 0 - (-1)) q (fun _ => 0) v 0 ≠ 0 := by intro e; rw [e] at h; revert h; decide
  rw [Rat.div_mul_cancel h1]
  grind
/-- Lidstone's numbers -/
def crit (net q q' d : Nat → Rat) (V : Nat → Rat) (di : Rat) (t : Nat) : Rat := (V t - net t) * di - (q' t - q t) * (d t - V (t + 1))
/-- what the difference does -/
theorem differ {n : Nat} {net net' q q' d : Nat → Rat} {i i' p p' : Rat} {a : Nat → Rat} {t : Nat} (ht : t < n) (hi : 1 + i ≠ 0) (hi' : 1 + i' ≠ 0)
    (hn : ∀ k, net k = a k - p) (hn' : ∀ k, net' k = a k - p') :
    (1 - q' t) * (res n net q d (1 + i)⁻¹ (t + 1) - res n net' q' d (1 + i')⁻¹ (t + 1))
      = (1 + i') * (res n net q d (1 + i)⁻¹ t - res n net' q' d (1 + i')⁻¹ t) + ((1 + i') * (p - p') - crit net q q' d (res n net q d (1 + i)⁻¹) (i' - i) t) := by
  have e1 := res_at (n := n) (net := net) (q := q) (d := d) (v := (1 + i)⁻¹) ht
  have e2 := res_at (n := n) (net := net') (q := q') (d := d) (v := (1 + i')⁻¹) ht
  have c1 : (1 + i) * (1 + i)⁻¹ = 1 := Rat.mul_inv_cancel _ hi
  have c2 : (1 + i') * (1 + i')⁻¹ = 1 := Rat.mul_inv_cancel _ hi'
  unfold crit
  rw [hn] at e1
  rw [hn'] at e2
  rw [hn]
  generalize res n net q d (1 + i)⁻¹ t = V0 at *
  generalize res n net q d (1 + i)⁻¹ (t + 1) = V1 at *
  generalize res n net' q' d (1 + i')⁻¹ t = W0 at *
  generalize res n net' q' d (1 + i')⁻¹ (t + 1) = W1 at *
  have f1 : (1 + i) * (V0 - (a t - p)) = q t * d t + (1 - q t) * V1 := by
    rw [e1]
    have : (1 + i) * (a t - p + (1 + i)⁻¹ * (q t * d t + (1 - q t) * V1) - (a t - p)) = ((1 + i) * (1 + i)⁻¹) * (q t * d t + (1 - q t) * V1) := by grind
    rw [this, c1]; grind
  have f2 : (1 + i') * (W0 - (a t - p')) = q' t * d t + (1 - q' t) * W1 := by
    rw [e2]
    have : (1 + i') * (a t - p' + (1 + i')⁻¹ * (q' t * d t + (1 - q' t) * W1) - (a t - p')) = ((1 + i') * (1 + i')⁻¹) * (q' t * d t + (1 - q' t) * W1) := by grind
    rw [this, c2]; grind
  clear e1 e2 c1 c2
  grind
/-- the sign of a difference: D 0 = 0, D n = 0, r t D (t+1) = g D t + h t, h never grows: D is nowhere negative -/
theorem no_neg {n : Nat} {D h r : Nat → Rat} {g : Rat} (hg : 0 < g) (h0 : D 0 = 0) (hn : D n = 0) (hr : ∀ t, t < n → 0 ≤ r t)
    (hst : ∀ t, t < n → r t * D (t + 1) = g * D t + h t) (hh : ∀ t, t + 1 < n → h (t + 1) ≤ h t) : ∀ t, t ≤ n → 0 ≤ D t := by
  -- once negative, with h negative a step before, always negative
  have step : ∀ t, t < n → 0 ≤ D t → D (t + 1) < 0 → h t ≤ 0 := by
    intro t ht h1 h2
    have e := hst t ht
    have h3 : 0 ≤ g * D t := Rat.mul_nonneg (Rat.le_of_lt hg) h1
    have h4 : 0 ≤ r t * (- D (t + 1)) := Rat.mul_nonneg (hr t ht) (by grind)
    grind
  have go : ∀ m t, t ≤ n → m = n - t → D t < 0 → h (t - 1) ≤ 0 → 0 < t → False := by
    intro m
    induction m with
    | zero =>
      intro t ht hm hD _ _
      have : t = n := by omega
      rw [this, hn] at hD
      exact absurd hD (by decide)
    | succ m ih =>
      intro t ht hm hD hh0 hpos
      have htn : t < n := by omega
      have e := hst t htn
      have h5 : h t ≤ 0 := by
        have z := hh (t - 1) (by omega)
        have : t - 1 + 1 = t := by omega
        rw [this] at z
        exact Rat.le_trans z hh0
      have h6 : g * D t < 0 := (Rat.mul_neg_iff_of_pos_left hg).mpr hD
      have h7 : r t * D (t + 1) < 0 := by grind
      have h8 : D (t + 1) < 0 := by
        refine Rat.not_le.mp fun z => ?_
        have := Rat.mul_nonneg (hr t htn) z
        grind
      exact ih (t + 1) (by omega) (by omega) h8 (by simpa using h5) (by omega)
  intro t ht
  induction t with
  | zero => rw [h0]; exact Rat.le_refl
  | succ t ih =>
    refine Rat.not_lt.mp fun z => ?_
    have h1 := ih (by omega)
    have h2 := step t (by omega) h1 z
    exact go (n - (t + 1)) (t + 1) ht rfl z (by simpa using h2) (by omega)
/-- Lidstone 1905 -/
theorem lidstone {n : Nat} {a q q' d : Nat → Rat} {i i' p p' : Rat} (hi : 0 < 1 + i) (hi' : 0 < 1 + i') (hq : ∀ t, t < n → q' t ≤ 1)
    (h0 : res n (fun k => a k - p) q d (1 + i)⁻¹ 0 = 0) (h0' : res n (fun k => a k - p') q' d (1 + i')⁻¹ 0 = 0) :
    ((∀ t, t + 1 < n → crit (fun k => a k - p) q q' d (res n (fun k => a k - p) q d (1 + i)⁻¹) (i' - i) t ≤ crit (fun k => a k - p) q q' d (res n (fun k => a k - p) q d (1 + i)⁻¹) (i' - i) (t + 1)) →
      ∀ t, t ≤ n → res n (fun k => a k - p') q' d (1 + i')⁻¹ t ≤ res n (fun k => a k - p) q d (1 + i)⁻¹ t) ∧
    ((∀ t, t + 1 < n → crit (fun k => a k - p) q q' d (res n (fun k => a k - p) q d (1 + i)⁻¹) (i' - i) (t + 1) ≤ crit (fun k => a k - p) q q' d (res n (fun k => a k - p) q d (1 + i)⁻¹) (i' - i) t) →
      ∀ t, t ≤ n → res n (fun k => a k - p) q d (1 + i)⁻¹ t ≤ res n (fun k => a k - p') q' d (1 + i')⁻¹ t) := by
  have ne : 1 + i ≠ 0 := fun e => by rw [e] at hi; exact absurd hi (by decide)
  have ne' : 1 + i' ≠ 0 := fun e => by rw [e] at hi'; exact absurd hi' (by decide)
  have key := fun t (ht : t < n) => differ (n := n) (q := q) (q' := q') (d := d) (a := a) (p := p) (p' := p') (net := fun k => a k - p) (net' := fun k => a k - p') ht ne ne' (fun _ => rfl) (fun _ => rfl)
  have en := res_end n (fun k => a k - p) q d (1 + i)⁻¹
  have en' := res_end n (fun k => a k - p') q' d (1 + i')⁻¹
  generalize res n (fun k => a k - p) q d (1 + i)⁻¹ = V at *
  generalize res n (fun k => a k - p') q' d (1 + i')⁻¹ = W at *
  generalize crit (fun k => a k - p) q q' d V (i' - i) = c at *
  constructor
  · intro hc t ht
    have z := no_neg (n := n) (D := fun t => V t - W t) (h := fun t => (1 + i') * (p - p') - c t) (r := fun t => 1 - q' t) (g := 1 + i') hi' (by show V 0 - W 0 = 0; rw [h0, h0']; grind) (by show V n - W n = 0; rw [en, en']; grind)
      (fun t ht => by have := hq t ht; show 0 ≤ 1 - q' t; grind) (fun t ht => key t ht) (fun t ht => by have := hc t ht; show (1 + i') * (p - p') - c (t + 1) ≤ (1 + i') * (p - p') - c t; grind) t ht
    have z' : 0 ≤ V t - W t := z
    grind
  · intro hc t ht
    have z := no_neg (n := n) (D := fun t => W t - V t) (h := fun t => c t - (1 + i') * (p - p')) (r := fun t => 1 - q' t) (g := 1 + i') hi' (by show W 0 - V 0 = 0; rw [h0, h0']; grind) (by show W n - V n = 0; rw [en, en']; grind)
      (fun t ht => by have := hq t ht; show 0 ≤ 1 - q' t; grind) (fun t ht => by
        have k := key t ht
        show (1 - q' t) * (W (t + 1) - V (t + 1)) = (1 + i') * (W t - V t) + (c t - (1 + i') * (p - p'))
        grind) (fun t ht => by have := hc t ht; show c (t + 1) - (1 + i') * (p - p') ≤ c t - (1 + i') * (p - p'); grind) t ht
    have z' : 0 ≤ W t - V t := z
    grind
/-! ### sizes -/
def Sz (n : Nat) (q : Rat) : Prop := q.num.natAbs < 2 ^ n ∧ q.den < 2 ^ n
theorem div_of {t b : Int} (hb : 0 < b) : (Rat.divInt t b).num = t / (Nat.gcd t.natAbs b.natAbs : Nat) ∧ ((Rat.divInt t b).den : Int) = b / (Nat.gcd t.natAbs b.natAbs : Nat) := by
  have e : Int.gcd b t = Nat.gcd t.natAbs b.natAbs := by unfold Int.gcd; exact Nat.gcd_comm _ _
  constructor
  · rw [Rat.num_divInt, Int.sign_eq_one_of_pos hb, Int.one_mul, e]
  · rw [Rat.den_divInt, if_neg (by omega), e]
    rw [Int.natCast_ediv]
    have : ((b.natAbs : Nat) : Int) = b := by omega
    rw [this]
theorem gcd_pos {t b : Int} (hb : 0 < b) : 0 < Nat.gcd t.natAbs b.natAbs := Nat.gcd_pos_of_pos_right _ (by omega)
theorem gcd_le {t b : Int} (hb : 0 < b) : Nat.gcd t.natAbs b.natAbs ≤ b.natAbs := Nat.gcd_le_right _ (by omega)
theorem sz_divInt {n : Nat} {t b : Int} (hb : 0 < b) (h1 : t.natAbs < 2 ^ n) (h2 : b.natAbs < 2 ^ n) : Sz n (Rat.divInt t b) := by
  obtain ⟨e1, e2⟩ := div_of (t := t) hb
  have g := gcd_pos (t := t) hb
  constructor
  · rw [e1]
    refine Nat.lt_of_le_of_lt ?_ h1
    exact Int.natAbs_ediv_le_natAbs _ _
  · have : (Rat.divInt t b).den ≤ b.natAbs := by
      have z : ((Rat.divInt t b).den : Int) ≤ b := by
        rw [e2]; exact Int.ediv_le_self _ (by omega)
      omega
    omega
theorem den_pos (q : Rat) : (0 : Int) < (q.den : Int) := by have := q.den_pos; omega
theorem add_as (a b : Rat) : a + b = Rat.divInt (a.num * b.den + b.num * a.den) (a.den * b.den) := by
  rw [Rat.add_def', ← Rat.divInt_ofNat]; simp
theorem sub_as (a b : Rat) : a - b = Rat.divInt (a.num * b.den - b.num * a.den) (a.den * b.den) := by
  rw [Rat.sub_def', ← Rat.divInt_ofNat]; simp
theorem mul_as (a b : Rat) : a * b = Rat.divInt (a.num * b.num) (a.den * b.den) := by
  rw [Rat.mul_def', ← Rat.divInt_ofNat]; simp
theorem lt_mul {a b : Nat} {n m : Nat} (h1 : a < 2 ^ n) (h2 : b < 2 ^ m) : a * b < 2 ^ (n + m) := by
  rw [Nat.pow_add]; exact Nat.mul_lt_mul'' h1 h2
theorem abs_mul {a b : Int} {n m : Nat} (h1 : a.natAbs < 2 ^ n) (h2 : b.natAbs < 2 ^ m) : (a * b).natAbs < 2 ^ (n + m) := by
  rw [Int.natAbs_mul]; exact lt_mul h1 h2
theorem abs_add {a b : Int} {n : Nat} (h1 : a.natAbs < 2 ^ n) (h2 : b.natAbs < 2 ^ n) : (a + b).natAbs < 2 ^ (n + 1) := by
  rw [Nat.pow_succ]; omega
theorem abs_sub {a b : Int} {n : Nat} (h1 : a.natAbs < 2 ^ n) (h2 : b.natAbs < 2 ^ n) : (a - b).natAbs < 2 ^ (n + 1) := by
  rw [Nat.pow_succ]; omega
theorem lt_more {a n m : Nat} (h : a < 2 ^ n) (k : n ≤ m) : a < 2 ^ m := Nat.lt_of_lt_of_le h (Nat.pow_le_pow_right (by decide) k)
theorem Sz.mono {n m : Nat} {q : Rat} (h : Sz n q) (k : n ≤ m) : Sz m q := ⟨lt_more h.1 k, lt_more h.2 k⟩
theorem of_den {q : Rat} {n : Nat} (h : q.den < 2 ^ n) : ((q.den : Int)).natAbs < 2 ^ n := by simpa using h
/-! ### a pair of ints that means a rational number -/
structure Means (n : Nat) (a b : Int) (q : Rat) : Prop where
  pos : 0 < b
  eq : q = Rat.divInt a b
  sa : a.natAbs < 2 ^ n
  sb : b.natAbs < 2 ^ n
theorem Means.of {n : Nat} {q : Rat} (h : Sz n q) : Means n q.num q.den q := ⟨den_pos q, (Rat.num_divInt_den q).symm, h.1, of_den h.2⟩
theorem Means.mono {n m : Nat} {a b : Int} {q : Rat} (h : Means n a b q) (k : n ≤ m) : Means m a b q := ⟨h.pos, h.eq, lt_more h.sa k, lt_more h.sb k⟩
theorem Means.int {n : Nat} {a : Int} (h : a.natAbs < 2 ^ n) (h0 : 0 < n) : Means n a 1 (a : Rat) :=
  ⟨by decide, by rw [Rat.divInt_eq_div]; grind, h, by show 1 < 2 ^ n; exact Nat.one_lt_two_pow (by omega)⟩
theorem Means.neg {n : Nat} {a b : Int} {q : Rat} (h : Means n a b q) : Means n (0 - a) b (-q) :=
  ⟨h.pos, by rw [h.eq, Rat.neg_divInt, Int.zero_sub], by have := h.sa; omega, h.sb⟩
section
variable {n m : Nat} {a b c d : Int} {x y : Rat}
theorem Means.add (h : Means n a b x) (k : Means m c d y) : Means (n + m + 1) (a * d + c * b) (b * d) (x + y) where
  pos := Int.mul_pos h.pos k.pos
  eq := by rw [h.eq, k.eq, Rat.divInt_add_divInt _ _ (by have := h.pos; omega) (by have := k.pos; omega)]
  sa := abs_add (abs_mul h.sa k.sb) (by rw [Nat.add_comm n m]; exact abs_mul k.sa h.sb)
  sb := lt_more (abs_mul h.sb k.sb) (Nat.le_succ _)
theorem Means.sub (h : Means n a b x) (k : Means m c d y) : Means (n + m + 1) (a * d - c * b) (b * d) (x - y) where
  pos := Int.mul_pos h.pos k.pos
  eq := by rw [h.eq, k.eq, Rat.divInt_sub_divInt _ _ (by have := h.pos; omega) (by have := k.pos; omega)]
  sa := abs_sub (abs_mul h.sa k.sb) (by rw [Nat.add_comm n m]; exact abs_mul k.sa h.sb)
  sb := lt_more (abs_mul h.sb k.sb) (Nat.le_succ _)
theorem Means.mul (h : Means n a b x) (k : Means m c d y) : Means (n + m) (a * c) (b * d) (x * y) where
  pos := Int.mul_pos h.pos k.pos
  eq := by rw [h.eq, k.eq, Rat.divInt_mul_divInt]
  sa := abs_mul h.sa k.sa
  sb := abs_mul h.sb k.sb
theorem Means.top_pos (k : Means m c d y) (hy : 0 < y) : 0 < c := by
  rw [k.eq, Rat.divInt_eq_div] at hy
  have hd : (0 : Rat) < (d : Rat) := Rat.intCast_pos.mpr k.pos
  have := (Rat.lt_div_iff hd).mp hy
  rw [Rat.zero_mul] at this
  exact Rat.intCast_pos.mp this
theorem Means.inv (k : Means m c d y) (hy : 0 < y) : Means m d c y⁻¹ where
  pos := k.top_pos hy
  eq := by
    have hc := k.top_pos hy
    have hd := k.pos
    rw [k.eq, Rat.divInt_eq_div, Rat.divInt_eq_div, Rat.div_def, Rat.div_def, Rat.inv_mul_rev, Rat.inv_inv]
  sa := k.sb
  sb := k.sa
theorem Means.div (h : Means n a b x) (k : Means m c d y) (hy : 0 < y) : Means (n + m) (a * d) (b * c) (x / y) := h.mul (k.inv hy)
theorem Means.lt (h : Means n a b x) (k : Means m c d y) : (a * d < c * b) ↔ x < y := by
  have hb : (0 : Rat) < (b : Rat) := Rat.intCast_pos.mpr h.pos
  have hd : (0 : Rat) < (d : Rat) := Rat.intCast_pos.mpr k.pos
  rw [h.eq, k.eq, Rat.divInt_eq_div, Rat.divInt_eq_div, Rat.div_lt_iff hb]
  have e : (c : Rat) / (d : Rat) * (b : Rat) = (c : Rat) * (b : Rat) / (d : Rat) := by rw [Rat.div_def, Rat.div_def]; grind
  rw [e, Rat.lt_div_iff hd, ← Rat.intCast_mul, ← Rat.intCast_mul, Rat.intCast_lt_intCast]
theorem Means.sz (h : Means n a b x) : Sz n x := by rw [h.eq]; exact sz_divInt h.pos h.sa h.sb
theorem Means.le {k : Nat} (h : Means n a b x) (hk : n ≤ k) : Means k a b x := h.mono hk
end
theorem Sz.add {n m : Nat} {a b : Rat} (h : Sz n a) (k : Sz m b) : Sz (n + m + 1) (a + b) := ((Means.of h).add (Means.of k)).sz
theorem Sz.sub {n m : Nat} {a b : Rat} (h : Sz n a) (k : Sz m b) : Sz (n + m + 1) (a - b) := ((Means.of h).sub (Means.of k)).sz
theorem Sz.mul {n m : Nat} {a b : Rat} (h : Sz n a) (k : Sz m b) : Sz (n + m) (a * b) := ((Means.of h).mul (Means.of k)).sz
theorem Sz.int {n : Nat} {a : Int} (h : a.natAbs < 2 ^ n) (h0 : 0 < n) : Sz n (a : Rat) := (Means.int h h0).sz
/-! ### the law's own reserves: the sum from the front -/
section
variable {L net d : Nat → Rat} {v : Rat}
def trA (L net : Nat → Rat) (v : Rat) (t k : Nat) : Rat := L k / L t * v ^ (k - t) * net k
def trB (L d : Nat → Rat) (v : Rat) (t k : Nat) : Rat := (L k - L (k + 1)) / L t * (d k * v ^ (k + 1 - t))
def psum (L net d : Nat → Rat) (v : Rat) (t : Nat) : Nat → Rat
  | 0 => 0
  | i + 1 => psum L net d v t i + trA L net v t (t + i) + trB L d v t (t + i)
def qOf (L : Nat → Rat) (t : Nat) : Rat := (L t - L (t + 1)) / L t
theorem term_on {t k : Nat} (ht : L t ≠ 0) (ht1 : L (t + 1) ≠ 0) (hk : t + 1 ≤ k) :
    trA L net v t k + trB L d v t k = (1 - qOf L t) * v * (trA L net v (t + 1) k + trB L d v (t + 1) k) := by
  have e1 : k - t = (k - (t + 1)) + 1 := by omega
  have e2 : k + 1 - t = (k + 1 - (t + 1)) + 1 := by omega
  unfold trA trB qOf
  rw [e1, e2, Rat.pow_succ, Rat.pow_succ]
  generalize v ^ (k - (t + 1)) = w1
  generalize v ^ (k + 1 - (t + 1)) = w2
  simp only [Rat.div_def]
  have c1 := Rat.mul_inv_cancel _ ht
  have c2 := Rat.mul_inv_cancel _ ht1
  generalize (L t)⁻¹ = a at *
  generalize (L (t + 1))⁻¹ = b at *
  grind
theorem term_at {t : Nat} (ht : L t ≠ 0) : trA L net v t t + trB L d v t t = net t + v * (qOf L t * d t) := by
  unfold trA trB qOf
  rw [Nat.sub_self, show t + 1 - t = 1 by omega]
  have p0 : v ^ (0 : Nat) = 1 := Rat.pow_zero v
  have p1 : v ^ (1 : Nat) = v := by rw [Rat.pow_succ, p0, Rat.one_mul]
  rw [p0, p1]
  simp only [Rat.div_def]
  have c1 := Rat.mul_inv_cancel _ ht
  generalize (L t)⁻¹ = a at *
  grind
theorem psum_front {t m n : Nat} (hp : ∀ k, k < n → L k ≠ 0) (h : t + (m + 1) ≤ n) :
    psum L net d v t (m + 1) = net t + v * (qOf L t * d t) + (1 - qOf L t) * v * psum L net d v (t + 1) m := by
  induction m with
  | zero =>
    show (0 + trA L net v t (t + 0) + trB L d v t (t + 0)) = _
    have e := term_at (L := L) (net := net) (d := d) (v := v) (hp t (by omega))
    show _ = net t + v * (qOf L t * d t) + (1 - qOf L t) * v * 0
    rw [Nat.add_zero]
    grind
  | succ m ih =>
    have i1 := ih (by omega)
    show psum L net d v t (m + 1) + trA L net v t (t + (m + 1)) + trB L d v t (t + (m + 1)) = _
    have e := term_on (L := L) (net := net) (d := d) (v := v) (t := t) (k := t + (m + 1)) (hp t (by omega)) (hp (t + 1) (by omega)) (by omega)
    show _ = net t + v * (qOf L t * d t) + (1 - qOf L t) * v * (psum L net d v (t + 1) m + trA L net v (t + 1) (t + 1 + m) + trB L d v (t + 1) (t + 1 + m))
    rw [show t + 1 + m = t + (m + 1) by omega, i1]
    generalize trA L net v t (t + (m + 1)) = x1 at *
    generalize trB L d v t (t + (m + 1)) = x2 at *
    generalize trA L net v (t + 1) (t + (m + 1)) = x3 at *
    generalize trB L d v (t + 1) (t + (m + 1)) = x4 at *
    grind
end
theorem psum_res {L net d : Nat → Rat} {v : Rat} {n : Nat} (hp : ∀ k, k < n → L k ≠ 0) : ∀ t, t ≤ n → psum L net d v t (n - t) = res n net (qOf L) d v t := by
  refine down ?_ (fun t h ih => ?_)
  · rw [Nat.sub_self, res_end]; rfl
  · obtain ⟨m, hm⟩ : ∃ m, n - t = m + 1 := ⟨n - t - 1, by omega⟩
    rw [hm, psum_front hp (by omega), res_at h]
    have e : n - (t + 1) = m := by omega
    rw [e] at ih
    rw [ih]; grind
end K21
set_option maxHeartbeats 4000000
namespace K21
open PySem PySem.Spec PyProof.Rows L2
/-! ### heaps that grow: all that is no table stays; a table may grow -/
structure Ext (H H' : Hp) : Prop where
  keep : ∀ a o, H a = some o → (∀ ps, o ≠ .tbl ps) → H' a = some o
  tab : ∀ a ps, H a = some (.tbl ps) → ∃ ps', H' a = some (.tbl ps') ∧ (TriplesOk ps.toList → TriplesOk ps'.toList)
theorem Ext.refl (H : Hp) : Ext H H := ⟨fun _ _ h _ => h, fun _ ps h => ⟨ps, h, id⟩⟩
theorem Ext.trans {H H1 H2 : Hp} (a : Ext H H1) (b : Ext H1 H2) : Ext H H2 :=
  ⟨fun x o h n => b.keep x o (a.keep x o h n) n, fun x ps h => by
    obtain ⟨p1, e1, t1⟩ := a.tab x ps h
    obtain ⟨p2, e2, t2⟩ := b.tab x p1 e1
    exact ⟨p2, e2, fun z => t2 (t1 z)⟩⟩
theorem Ext.of {H H' : Hp} (h : ∀ a o, H a = some o → H' a = some o) : Ext H H' := ⟨fun a o e _ => h a o e, fun a ps e => ⟨ps, h a _ e, id⟩⟩
theorem Ext.new {H : Hp} {p : Addr} {o : HO} (h : H p = none) : Ext H (upd H p o) := .of fun a u e => by
  rw [upd_ne (ne_of_none e h)]; exact e
/-- what H does not know may change -/
theorem Ext.mut {H H' : Hp} {p : Addr} {o : HO} (e : Ext H H') (h : H p = none) : Ext H (upd H' p o) :=
  ⟨fun a u ha n => by rw [upd_ne (ne_of_none ha h)]; exact e.keep a u ha n, fun a ps ha => by
    obtain ⟨p1, e1, t1⟩ := e.tab a ps ha
    exact ⟨p1, by rw [upd_ne (ne_of_none ha h)]; exact e1, t1⟩⟩
theorem Ext.fresh {H H' : Hp} {p : Addr} (e : Ext H H') (h : H' p = none) : H p = none := by
  cases q : H p with
  | none => rfl
  | some o =>
    by_cases n : ∀ ps, o ≠ .tbl ps
    · rw [e.keep p o q n] at h; cases h
    · exfalso
      refine n fun ps z => ?_
      subst z
      obtain ⟨p1, e1, _⟩ := e.tab p ps q
      rw [e1] at h; cases h
theorem Ext.t {K : PySem.W.Frag} {H H' : Hp} {a : Addr} {xs : List V} (e : Ext H H') (h : SqT K H a xs) : SqT K H' a xs := by
  rcases h with (h | ⟨o, h⟩) | h
  · exact .inl (.inl (e.keep _ _ h (fun ps z => by cases z)))
  · exact .inl (.inr ⟨o, e.keep _ _ h (fun ps z => by cases z)⟩)
  · exact .inr h
theorem Ext.l {K : PySem.W.Frag} {H H' : Hp} {a : Addr} {xs : List V} (e : Ext H H') (h : SqL K H a xs) : SqL K H' a xs := by
  rcases h with (h | ⟨o, h⟩) | h
  · exact .inl (.inl (e.keep _ _ h (fun ps z => by cases z)))
  · exact .inl (.inr ⟨o, e.keep _ _ h (fun ps z => by cases z)⟩)
  · exact .inr h
theorem Ext.lst {H H' : Hp} {a : Addr} {xs : List V} (e : Ext H H') (h : H a = some (.lst xs)) : H' a = some (.lst xs) := e.keep _ _ h (fun ps z => by cases z)
theorem Ext.tup {H H' : Hp} {a : Addr} {xs : List V} (e : Ext H H') (h : H a = some (.tup xs)) : H' a = some (.tup xs) := e.keep _ _ h (fun ps z => by cases z)
theorem Ext.tabG {H H' : Hp} {p : Addr} (e : Ext H H') (h : GxR.TabG H p) : GxR.TabG H' p := by
  obtain ⟨ps, h1, h2⟩ := h
  obtain ⟨p1, e1, t1⟩ := e.tab p ps h1
  exact ⟨p1, e1, t1 h2⟩
theorem Ext.tabbed {H H' : Hp} {p : Addr} (h0 : GxR.TabG H p) (h : GxR.Tabbed p H H') : Ext H H' := by
  obtain ⟨⟨ps, h1, h2⟩, h3⟩ := h
  obtain ⟨qs, q1, q2⟩ := h0
  refine ⟨fun a o e n => ?_, fun a ps' e => ?_⟩
  · by_cases z : a = p
    · subst z; rw [q1] at e; cases e; exact absurd rfl (n qs)
    · rw [h3 a z]; exact e
  · by_cases z : a = p
    · subst z; exact ⟨ps, h1, fun _ => h2⟩
    · exact ⟨ps', by rw [h3 a z]; exact e, id⟩
/-- a heap without the object at a -/
def cut (a : Addr) (H : Hp) : Hp := fun b => if b = a then none else H b
theorem cut_at {a : Addr} {H : Hp} : cut a H a = none := if_pos rfl
theorem cut_ne {a b : Addr} {H : Hp} (h : b ≠ a) : cut a H b = H b := if_neg h
theorem Ext.cut {H : Hp} (a : Addr) : Ext (cut a H) H := .of fun b o e => by
  by_cases z : b = a
  · subst z; rw [cut_at] at e; cases e
  · rw [cut_ne z] at e; exact e
theorem cut_t {K : PySem.W.Frag} {H : Hp} {a p : Addr} {xs ys : List V} (ha : H a = some (.lst ys)) (h : SqT K H p xs) : SqT K (K21.cut a H) p xs := by
  rcases h with (h | ⟨o, h⟩) | h
  · exact .inl (.inl (by rw [cut_ne (ne_of h ha (by intro z; cases z))]; exact h))
  · exact .inl (.inr ⟨o, by rw [cut_ne (ne_of h ha (by intro z; cases z))]; exact h⟩)
  · exact .inr h
/-! ### what evaluates to what -/
abbrev VP := V → Hp → Prop
def Mono (P : VP) : Prop := ∀ v H H', Ext H H' → P v H → P v H'
def is (v : V) : VP := fun x _ => x = v
theorem mono_is {v : V} : Mono (is v) := fun _ _ _ _ h => h
def Ev (te : TE) (σ : L2.St) (H : Hp) (P : VP) : Prop := ∀ H1, Ext H H1 → ∀ Q : VK, (∀ v H2, Ext H1 H2 → P v H2 → Q v H2) → te σ H1 Q
def EvT (tt : TT) (σ : L2.St) (H : Hp) (b : Bool) : Prop := ∀ H1, Ext H H1 → ∀ Q : Bool → Hp → Prop, (∀ H2, Ext H1 H2 → Q b H2) → tt σ H1 Q
def EvA (ta : TA) (σ : L2.St) (H : Hp) (P : List V → Hp → Prop) : Prop := ∀ H1, Ext H H1 → ∀ Q : List V → Hp → Prop, (∀ vs H2, Ext H1 H2 → P vs H2 → Q vs H2) → ta σ H1 Q
section
variable {K : PySem.W.Frag} {σ : L2.St} {H H' : Hp} {ta tb te tx : TE} {t u : TT} {P R : VP} {x y z v : V} {r : R2}
theorem Ev.mono (e : Ext H H') (h : Ev te σ H P) : Ev te σ H' P := fun H1 a Q q => h H1 (e.trans a) Q q
theorem EvT.mono {b : Bool} (e : Ext H H') (h : EvT t σ H b) : EvT t σ H' b := fun H1 a Q q => h H1 (e.trans a) Q q
theorem Ev.imp (h : Ev te σ H P) (k : ∀ v H', Ext H H' → P v H' → R v H') : Ev te σ H R := fun H1 a Q q => h H1 a Q fun v H2 e p => q v H2 e (k v H2 (a.trans e) p)
theorem ev_v {i : Nat} (h : σ[i]? = some (some v)) (hP : ∀ H', Ext H H' → P v H') : Ev (tVar i) σ H P := fun H1 e _ q => ⟨v, h, q v H1 (Ext.refl H1) (hP H1 e)⟩
theorem ev_i {i : Nat} (h : σ[i]? = some (some v)) : Ev (tVar i) σ H (is v) := ev_v h fun _ _ => rfl
theorem ev_c : Ev (tC v) σ H (is v) := fun H1 _ _ q => q v H1 (Ext.refl H1) rfl
theorem ev_cP (hP : ∀ H', Ext H H' → P v H') : Ev (tC v) σ H P := fun H1 e _ q => q v H1 (Ext.refl H1) (hP H1 e)
/-- a two-place operation -/
theorem ev_op {S : VP} (ha : Ev ta σ H P) (mP : Mono P) (hb : Ev tb σ H R) (hr : ∀ v w H1 (Q : VK), Ext H H1 → P v H1 → R w H1 → (∀ z H2, Ext H1 H2 → S z H2 → Q z H2) → r v w H1 Q) : Ev (tOp r ta tb) σ H S := fun H1 e Q q =>
  ha H1 e _ fun v H2 e2 p => hb H2 (e.trans e2) _ fun w H3 e3 p' => hr v w H3 Q ((e.trans e2).trans e3) (mP _ _ _ e3 p) p' fun z H4 e4 s => q z H4 ((e2.trans e3).trans e4) s
theorem ev_I0 {g : Int → Int → V} {i j : Int} (ha : Ev ta σ H (is (.int i))) (hb : Ev tb σ H (is (.int j))) : Ev (tOp (rI0 g) ta tb) σ H (is (g i j)) :=
  ev_op ha mono_is hb fun v w H1 Q _ hv hw q => ⟨i, j, hv, hw, q _ _ (Ext.refl _) rfl⟩
theorem ev_I {C : Int → Int → Prop} {g : Int → Int → V} {i j : Int} (ha : Ev ta σ H (is (.int i))) (hb : Ev tb σ H (is (.int j))) (hc : C i j) : Ev (tOp (rI C g) ta tb) σ H (is (g i j)) :=
  ev_op ha mono_is hb fun v w H1 Q _ hv hw q => ⟨i, j, hv, hw, hc, q _ _ (Ext.refl _) rfl⟩
theorem ev_to (h : Ev te σ H (is x)) (e : x = y) : Ev te σ H (is y) := by subst e; exact h
theorem ev_eq (ha : Ev ta σ H (is x)) (hb : Ev tb σ H (is y)) (h : scal x y = true) : Ev (tOp rEq ta tb) σ H (is (.bl (decide (x = y)))) :=
  ev_op ha mono_is hb fun v w H1 Q _ hv hw q => by
    have e1 : v = x := hv
    have e2 : w = y := hw
    subst e1 e2; exact ⟨h, q _ _ (Ext.refl _) rfl⟩
theorem ev_ne (ha : Ev ta σ H (is x)) (hb : Ev tb σ H (is y)) (h : scal x y = true) : Ev (tOp rNe ta tb) σ H (is (.bl (!decide (x = y)))) :=
  ev_op ha mono_is hb fun v w H1 Q _ hv hw q => by
    have e1 : v = x := hv
    have e2 : w = y := hw
    subst e1 e2; exact ⟨h, q _ _ (Ext.refl _) rfl⟩
/-- a tuple's item -/
theorem ev_ixT {xs : List V} {i : Int} (ha : Ev ta σ H (fun v H => ∃ p, v = .ref p ∧ SqT K H p xs)) (hb : Ev tb σ H (is (.int i))) (hi : atI xs i = some x) : Ev (tOp (rIxT K) ta tb) σ H (is x) :=
  ev_op ha (fun v H1 H2 e ⟨p, e1, h⟩ => ⟨p, e1, e.t h⟩) hb fun v w H1 Q _ ⟨p, hv, hp⟩ hw q => ⟨p, xs, i, x, hv, hw, hp, hi, q _ _ (Ext.refl _) rfl⟩
theorem ev_ixL {xs : List V} {i : Int} (ha : Ev ta σ H (fun v H => ∃ p, v = .ref p ∧ SqL K H p xs)) (hb : Ev tb σ H (is (.int i))) (hi : atI xs i = some x) : Ev (tOp (rIxL K) ta tb) σ H (is x) :=
  ev_op ha (fun v H1 H2 e ⟨p, e1, h⟩ => ⟨p, e1, e.l h⟩) hb fun v w H1 Q _ ⟨p, hv, hp⟩ hw q => ⟨p, xs, i, x, hv, hw, hp, hi, q _ _ (Ext.refl _) rfl⟩
theorem ev_un {i : Int} {g : Int → V} (ha : Ev ta σ H (is (.int i))) : Ev (tUn (rU g) ta) σ H (is (g i)) := fun H1 e Q q =>
  ha H1 e _ fun v H2 e2 p => ⟨i, p, q _ H2 e2 rfl⟩
/-! tests -/
theorem et_test {b : Bool} (h : Ev te σ H (is (.bl b))) : EvT (tTest te) σ H b := fun H1 e _ q => h H1 e _ fun v H2 e2 p => ⟨b, p, q H2 e2⟩
theorem et_B {b : Bool} (h : Ev te σ H (is (.bl b))) : EvT (tB te) σ H b := fun H1 e _ q => h H1 e _ fun v H2 e2 p => ⟨b, p, q H2 e2⟩
theorem et_and {a b : Bool} (h1 : EvT t σ H a) (h2 : a = true → EvT u σ H b) : EvT (tAnd t u) σ H (a && b) := fun H1 e Q q => h1 H1 e _ fun H2 e2 => by
  cases a with
  | true => exact iteT (h2 rfl H2 (e.trans e2) Q fun H3 e3 => q H3 (e2.trans e3))
  | false => exact iteF (q H2 e2)
theorem et_or {a b : Bool} (h1 : EvT t σ H a) (h2 : a = false → EvT u σ H b) : EvT (tOr t u) σ H (a || b) := fun H1 e Q q => h1 H1 e _ fun H2 e2 => by
  cases a with
  | true => exact iteT (q H2 e2)
  | false => exact iteF (h2 rfl H2 (e.trans e2) Q fun H3 e3 => q H3 (e2.trans e3))
theorem et_not {a : Bool} (h1 : EvT t σ H a) : EvT (tNot t) σ H (!a) := fun H1 e _ q => h1 H1 e _ fun H2 e2 => q H2 e2
theorem et_is {a b : Bool} (h : EvT t σ H a) (e : a = b) : EvT t σ H b := by rw [← e]; exact h
theorem ev_andV {a b : Bool} (h1 : Ev ta σ H (is (.bl a))) (h2 : a = true → Ev tb σ H (is (.bl b))) : Ev (tAndV ta tb) σ H (is (.bl (a && b))) := fun H1 e Q q => h1 H1 e _ fun v H2 e2 p => ⟨a, p, by
  cases a with
  | true => exact iteT (h2 rfl H2 (e.trans e2) Q fun w H3 e3 p3 => q w H3 (e2.trans e3) p3)
  | false => exact iteF (q _ H2 e2 rfl)⟩
theorem ev_orV {a b : Bool} (h1 : Ev ta σ H (is (.bl a))) (h2 : a = false → Ev tb σ H (is (.bl b))) : Ev (tOrV ta tb) σ H (is (.bl (a || b))) := fun H1 e Q q => h1 H1 e _ fun v H2 e2 p => ⟨a, p, by
  cases a with
  | true => exact iteT (q _ H2 e2 rfl)
  | false => exact iteF (h2 rfl H2 (e.trans e2) Q fun w H3 e3 p3 => q w H3 (e2.trans e3) p3)⟩
theorem ev_notV {a : Bool} (h1 : Ev ta σ H (is (.bl a))) : Ev (tNotV ta) σ H (is (.bl (!a))) := fun H1 e _ q => h1 H1 e _ fun v H2 e2 p => ⟨a, p, q _ H2 e2 rfl⟩
theorem ev_if {b : Bool} (h : EvT t σ H b) (h1 : b = true → Ev ta σ H P) (h2 : b = false → Ev tb σ H P) : Ev (tIf t ta tb) σ H P := fun H1 e Q q => h H1 e _ fun H2 e2 => by
  cases b with
  | true => exact iteT (h1 rfl H2 (e.trans e2) Q fun w H3 e3 p3 => q w H3 (e2.trans e3) p3)
  | false => exact iteF (h2 rfl H2 (e.trans e2) Q fun w H3 e3 p3 => q w H3 (e2.trans e3) p3)
/-! argument lists, displays -/
theorem ea_nil : EvA tNil σ H (fun vs _ => vs = []) := fun H1 _ _ q => q [] H1 (Ext.refl H1) rfl
theorem ea_cons {tr : TA} {S : List V → Hp → Prop} (h : Ev te σ H P) (mP : Mono P) (hr : EvA tr σ H S) : EvA (tCons te tr) σ H (fun vs H => ∃ v r, vs = v :: r ∧ P v H ∧ S r H) := fun H1 e _ q =>
  h H1 e _ fun v H2 e2 p => hr H2 (e.trans e2) _ fun vs H3 e3 s => q _ H3 (e2.trans e3) ⟨v, vs, rfl, mP _ _ _ e3 p, s⟩
theorem EvA.imp {ta : TA} {S S' : List V → Hp → Prop} (h : EvA ta σ H S) (k : ∀ v H', Ext H H' → S v H' → S' v H') : EvA ta σ H S' := fun H1 a Q q => h H1 a Q fun v H2 e p => q v H2 e (k v H2 (a.trans e) p)
theorem ea_1 (h : Ev te σ H P) (mP : Mono P) : EvA (tCons te tNil) σ H (fun vs H => ∃ v, vs = [v] ∧ P v H) :=
  (ea_cons h mP ea_nil).imp fun vs H' _ ⟨v, r, e, p, er⟩ => ⟨v, by rw [e, er], p⟩
theorem ea_2 {P1 P2 : VP} (h : Ev ta σ H P1) (m1 : Mono P1) (h2 : Ev tb σ H P2) (m2 : Mono P2) : EvA (tCons ta (tCons tb tNil)) σ H (fun vs H => ∃ v w, vs = [v, w] ∧ P1 v H ∧ P2 w H) :=
  (ea_cons h m1 (ea_1 h2 m2)).imp fun vs H' _ ⟨v, r, e, p, w, er, p2⟩ => ⟨v, w, by rw [e, er], p, p2⟩
theorem ea_3 {P1 P2 P3 : VP} {tc : TE} (h : Ev ta σ H P1) (m1 : Mono P1) (h2 : Ev tb σ H P2) (m2 : Mono P2) (h3 : Ev tc σ H P3) (m3 : Mono P3) : EvA (tCons ta (tCons tb (tCons tc tNil))) σ H (fun vs H => ∃ v w x, vs = [v, w, x] ∧ P1 v H ∧ P2 w H ∧ P3 x H) :=
  (ea_cons h m1 (ea_2 h2 m2 h3 m3)).imp fun vs H' _ ⟨v, r, e, p, w, x, er, p2⟩ => ⟨v, w, x, by rw [e, er], p, p2⟩
/-- a new tuple -/
theorem eu_tup {ta : TA} {S : List V → Hp → Prop} (h : EvA ta σ H S) (mS : ∀ vs H H', Ext H H' → S vs H → S vs H') (hl : ∀ vs H, S vs H → vs.length ≤ 100000) : Ev (tTup ta) σ H (fun v H => ∃ p vs, v = .ref p ∧ SqT K H p vs ∧ S vs H) := fun H1 e _ q =>
  h H1 e _ fun vs H2 e2 s => ⟨Nat.le_trans (hl vs H2 s) (by decide), fun p hp => q _ _ (e2.trans (Ext.new hp)) ⟨p, vs, rfl, SqT.of upd_same, mS _ _ _ (Ext.new hp) s⟩⟩
theorem eu_2 (ha : Ev ta σ H (is x)) (hb : Ev tb σ H (is y)) : Ev (tTup (tCons ta (tCons tb tNil))) σ H (fun v H => ∃ p, v = .ref p ∧ SqT K H p [x, y]) :=
  (eu_tup (K := K) (ea_2 ha mono_is hb mono_is) (fun vs H H' e h => h) (fun vs H ⟨v, w, h1, _⟩ => by rw [h1]; exact (by decide : 2 ≤ 100000))).imp fun v H' _ ⟨p, vs, h1, h2, v1, w1, h3, h4, h5⟩ => ⟨p, h1, by
    rw [h3, show v1 = x from h4, show w1 = y from h5] at h2; exact h2⟩
/-- a new list -/
def NewL (H : Hp) (S : List V → Hp → Prop) : VP := fun v H' => ∃ l vs, v = .ref l ∧ H l = none ∧ H' l = some (.lst vs) ∧ S vs H'
theorem mono_NewL {S : List V → Hp → Prop} (mS : ∀ vs H H', Ext H H' → S vs H → S vs H') : Mono (NewL H S) := fun v H1 H2 e ⟨l, vs, h1, h2, h3, h4⟩ => ⟨l, vs, h1, h2, e.lst h3, mS _ _ _ e h4⟩
theorem el_lst {ta : TA} {S : List V → Hp → Prop} (h : EvA ta σ H S) (mS : ∀ vs H H', Ext H H' → S vs H → S vs H') (hl : ∀ vs H, S vs H → vs.length ≤ 100000) : Ev (tLst ta) σ H (NewL H S) := fun H1 e _ q =>
  h H1 e _ fun vs H2 e2 s => ⟨Nat.le_trans (hl vs H2 s) (by decide), fun p hp => q _ _ (e2.trans (Ext.new hp)) ⟨p, vs, rfl, e.fresh (e2.fresh hp), upd_same, mS _ _ _ (Ext.new hp) s⟩⟩
theorem ev_call {ta : TA} {sp : Sp} {E : XK} {S : List V → Hp → Prop} (h : EvA ta σ H S) (k : ∀ vs H1 (Q : VK), Ext H H1 → S vs H1 → (∀ v H2, Ext H1 H2 → P v H2 → Q v H2) → sp vs H1 Q E) : Ev (tCall sp [] E ta) σ H P := fun H1 e Q q =>
  h H1 e _ fun vs H2 e2 s => by
    rw [List.append_nil]
    exact k vs H2 Q (e.trans e2) s fun v H3 e3 p => q v H3 (e2.trans e3) p
theorem ev_cb {ta : TA} {rc : List V → Hp → VK → Prop} {S : List V → Hp → Prop} (h : EvA ta σ H S) (k : ∀ vs H1 (Q : VK), Ext H H1 → S vs H1 → (∀ v H2, Ext H1 H2 → P v H2 → Q v H2) → rc vs H1 Q) : Ev (tCB rc ta) σ H P := fun H1 e Q q =>
  h H1 e _ fun vs H2 e2 s => k vs H2 Q (e.trans e2) s fun v H3 e3 p => q v H3 (e2.trans e3) p
theorem ev_gcd {i j : Int} (ha : Ev ta σ H (is (.int i))) (hb : Ev tb σ H (is (.int j))) : Ev (tCB rGcd (tCons ta (tCons tb tNil))) σ H (is (.int ((Nat.gcd i.natAbs j.natAbs : Nat) : Int))) :=
  ev_cb (ea_2 ha mono_is hb mono_is) fun vs H1 Q _ ⟨v, w, h1, h2, h3⟩ q => ⟨i, j, by rw [h1, show v = _ from h2, show w = _ from h3], q _ _ (Ext.refl _) rfl⟩
theorem ev_len {xs : List V} (ha : Ev ta σ H (fun v H => ∃ p, v = .ref p ∧ (SqL K H p xs ∨ SqT K H p xs))) : Ev (tCB (fun xs H Q => ∃ p ys, xs = [.ref p] ∧ (SqL K H p ys ∨ SqT K H p ys) ∧ Q (.int ys.length) H) (tCons ta tNil)) σ H (is (.int (xs.length : Int))) :=
  ev_cb (ea_1 ha (fun v H1 H2 e ⟨p, e1, h⟩ => ⟨p, e1, h.elim (fun h => .inl (e.l h)) fun h => .inr (e.t h)⟩)) fun vs H1 Q _ ⟨v, h1, p, h2, h3⟩ q => ⟨p, xs, by rw [h1, h2], h3, q _ _ (Ext.refl _) rfl⟩
theorem ev_abs {i : Int} (ha : Ev ta σ H (is (.int i))) : Ev (tCB (fun xs H Q => ∃ i, xs = [.int i] ∧ Q (.int (if i < 0 then -i else i)) H) (tCons ta tNil)) σ H (is (.int (if i < 0 then -i else i))) :=
  ev_cb (ea_1 ha mono_is) fun vs H1 Q _ ⟨v, h1, h2⟩ q => ⟨i, by rw [h1, show v = _ from h2], q _ _ (Ext.refl _) rfl⟩
theorem ev_int {i : Int} (ha : Ev ta σ H (is (.int i))) : Ev (tCB (fun xs H Q => (∃ i, xs = [.int i] ∧ Q (.int i) H) ∨ ∃ k, xs = [.bl k] ∧ Q (.int (if k then 1 else 0)) H) (tCons ta tNil)) σ H (is (.int i)) :=
  ev_cb (ea_1 ha mono_is) fun vs H1 Q _ ⟨v, h1, h2⟩ q => .inl ⟨i, by rw [h1, show v = _ from h2], q _ _ (Ext.refl _) rfl⟩
/-! ### statements -/
variable {D : Ends} {tu tw tz : TS}
theorem s_ret (h : Ev te σ H P) (k : ∀ v H1, Ext H H1 → P v H1 → D.rt v H1) : tRet te D σ H := h H (Ext.refl H) _ k
theorem s_asg {i : Nat} (h : Ev te σ H P) (k : ∀ v H1, Ext H H1 → P v H1 → D.nx (σ.set i (some v)) H1) : tAsg te (gName i) D σ H := h H (Ext.refl H) _ k
theorem q_asg {i : Nat} (h : Ev te σ H P) (k : ∀ v H1, Ext H H1 → P v H1 → tz D (σ.set i (some v)) H1) : tSeq (tAsg te (gName i)) tz D σ H := h H (Ext.refl H) _ k
theorem q_drop (h : Ev te σ H P) (k : ∀ v H1, Ext H H1 → P v H1 → tz D σ H1) : tSeq (tDrop te) tz D σ H := h H (Ext.refl H) _ k
theorem s_if {b : Bool} (h : EvT t σ H b) (h1 : b = true → ∀ H1, Ext H H1 → tu D σ H1) (h2 : b = false → ∀ H1, Ext H H1 → tw D σ H1) : tIfS t tu tw D σ H := h H (Ext.refl H) _ fun H1 e => by
  cases b with
  | true => exact iteT (h1 rfl H1 e)
  | false => exact iteF (h2 rfl H1 e)
/-- a guard that does not fire -/
theorem q_guard (h : EvT t σ H false) (k : ∀ H1, Ext H H1 → tz D σ H1) : tSeq (tIfS t tu tNext) tz D σ H := h H (Ext.refl H) _ fun H1 e => iteF (k H1 e)
theorem s_guard (h : EvT t σ H false) (k : ∀ H1, Ext H H1 → D.nx σ H1) : tIfS t tu tNext D σ H := h H (Ext.refl H) _ fun H1 e => iteF (k H1 e)
end
/-! ### ratios -/
/-- the pair at v means q -/
def PV (K : PySem.W.Frag) (n : Nat) (q : Rat) : VP := fun v H => ∃ p a b, v = .ref p ∧ SqT K H p [.int a, .int b] ∧ Means n a b q
/-- the ratio q, in lowest terms -/
def RV (K : PySem.W.Frag) (n : Nat) (q : Rat) : VP := fun v H => ∃ p, v = .ref p ∧ SqT K H p [.int q.num, .int (q.den : Int)] ∧ Sz n q
section
variable {K : PySem.W.Frag} {n m : Nat} {q : Rat} {v : V} {H H' : Hp}
theorem mono_PV : Mono (PV K n q) := fun _ _ _ e ⟨p, a, b, h1, h2, h3⟩ => ⟨p, a, b, h1, e.t h2, h3⟩
theorem mono_RV : Mono (RV K n q) := fun _ _ _ e ⟨p, h1, h2, h3⟩ => ⟨p, h1, e.t h2, h3⟩
theorem RV.pv (h : RV K n q v H) : PV K n q v H := let ⟨p, h1, h2, h3⟩ := h; ⟨p, _, _, h1, h2, Means.of h3⟩
theorem RV.le (h : RV K n q v H) (k : n ≤ m) : RV K m q v H := let ⟨p, h1, h2, h3⟩ := h; ⟨p, h1, h2, h3.mono k⟩
theorem PV.le (h : PV K n q v H) (k : n ≤ m) : PV K m q v H := let ⟨p, a, b, h1, h2, h3⟩ := h; ⟨p, a, b, h1, h2, h3.mono k⟩
theorem RV.ext (h : RV K n q v H) (e : Ext H H') : RV K n q v H' := mono_RV _ _ _ e h
theorem PV.ext (h : PV K n q v H) (e : Ext H H') : PV K n q v H' := mono_PV _ _ _ e h
end
/-! ### pairs stored, loops -/
section
variable {K : PySem.W.Frag} {σ : L2.St} {H H' : Hp} {ta tb te : TE} {tu tz : TS} {D : Ends}
theorem q_par {i j : Nat} {P R : VP} (ha : Ev ta σ H P) (m1 : Mono P) (hb : Ev tb σ H R) (m2 : Mono R) (k : ∀ v w H1, Ext H H1 → P v H1 → R w H1 → tz D ((σ.set i (some v)).set j (some w)) H1) : tSeq (tPar i j (tCons ta (tCons tb tNil))) tz D σ H :=
  ea_2 ha m1 hb m2 H (Ext.refl H) (fun vs H1 => ∃ v w, vs = [v, w] ∧ tz D ((σ.set i (some v)).set j (some w)) H1) fun vs H1 e ⟨v, w, h1, h2, h3⟩ => ⟨v, w, h1, k v w H1 e h2 h3⟩
theorem q_par3 {i j l : Nat} {tc : TE} {P1 P2 P3 : VP} (ha : Ev ta σ H P1) (m1 : Mono P1) (hb : Ev tb σ H P2) (m2 : Mono P2) (hc : Ev tc σ H P3) (m3 : Mono P3) (k : ∀ v w x H1, Ext H H1 → P1 v H1 → P2 w H1 → P3 x H1 → tz D (((σ.set i (some v)).set j (some w)).set l (some x)) H1) : tSeq (tPar3 i j l (tCons ta (tCons tb (tCons tc tNil)))) tz D σ H :=
  ea_3 ha m1 hb m2 hc m3 H (Ext.refl H) (fun vs H1 => ∃ v w x, vs = [v, w, x] ∧ tz D (((σ.set i (some v)).set j (some w)).set l (some x)) H1) fun vs H1 e ⟨v, w, x, h1, h2, h3, h4⟩ => ⟨v, w, x, h1, k v w x H1 e h2 h3 h4⟩
theorem q_forR1 {ta : TA} {j : Nat} {n : Nat} (h : EvA ta σ H (fun vs _ => vs = [.int (n : Int)])) (hn : n ≤ 100000) (Pv : Nat → L2.St → Hp → Prop) (h0 : ∀ H1, Ext H H1 → Pv 0 σ H1)
    (hs : ∀ (i : Nat) σ' H', i < n → Pv i σ' H' → tu { D with nx := Pv (i + 1), ct := Pv (i + 1), bk := tz D } (σ'.set j (some (.int (i : Int)))) H') (hd : ∀ σ' H', Pv n σ' H' → tz D σ' H') : tSeq (tFor (iRng1 ta) (gName j) tu) tz D σ H :=
  h H (Ext.refl H) _ fun vs H1 e hv => ⟨(n : Int), hv, by omega, by omega, by
    rw [show (n : Int).toNat = n by omega]
    exact for_range (lo := 0) (n := n) (D := { D with nx := tz D }) Pv (h0 H1 e) (fun i σ' H' hi p => by
      show tu _ (σ'.set j (some (.int (0 + (i : Int))))) H'
      rw [Int.zero_add]
      exact hs i σ' H' hi p) hd⟩
theorem q_forR2 {ta : TA} {j : Nat} {lo n : Nat} (h : EvA ta σ H (fun vs _ => vs = [.int (lo : Int), .int (n : Int)])) (hl : lo ≤ 100000) (hn : n ≤ 100000) (Pv : Nat → L2.St → Hp → Prop) (h0 : ∀ H1, Ext H H1 → Pv 0 σ H1)
    (hs : ∀ (i : Nat) σ' H', lo + i < n → Pv i σ' H' → tu { D with nx := Pv (i + 1), ct := Pv (i + 1), bk := tz D } (σ'.set j (some (.int ((lo + i : Nat) : Int)))) H') (hd : ∀ σ' H', Pv (n - lo) σ' H' → tz D σ' H') : tSeq (tFor (iRng2 ta) (gName j) tu) tz D σ H :=
  h H (Ext.refl H) _ fun vs H1 e hv => ⟨(lo : Int), (n : Int), hv, ⟨by omega, by omega, by omega, by omega⟩, by
    rw [show ((n : Int) - (lo : Int)).toNat = n - lo by omega]
    exact for_range (lo := (lo : Int)) (n := n - lo) (D := { D with nx := tz D }) Pv (h0 H1 e) (fun i σ' H' hi p => by
      show tu _ (σ'.set j (some (.int ((lo : Int) + (i : Int))))) H'
      rw [show (lo : Int) + (i : Int) = ((lo + i : Nat) : Int) by omega]
      exact hs i σ' H' (by omega) p) hd⟩
/-- for j in range(n - 1, -1, -1): the i-th turn has n - 1 - i -/
theorem q_forDown {ta : TA} {j : Nat} {n : Nat} (h : EvA ta σ H (fun vs _ => vs = [.int ((n : Int) - 1), .int (-1), .int (-1)])) (hn : n ≤ 100000) (Pv : Nat → L2.St → Hp → Prop) (h0 : ∀ H1, Ext H H1 → Pv 0 σ H1)
    (hs : ∀ (i : Nat) σ' H', i < n → Pv i σ' H' → tu { D with nx := Pv (i + 1), ct := Pv (i + 1), bk := tz D } (σ'.set j (some (.int ((n - (i + 1) : Nat) : Int)))) H') (hd : ∀ σ' H', Pv n σ' H' → tz D σ' H') : tSeq (tFor (iRng3 ta) (gName j) tu) tz D σ H :=
  h H (Ext.refl H) _ fun vs H1 e hv => ⟨(n : Int) - 1, -1, -1, n, hv, by
    have z := RgC.neg (i := (n : Int) - 1) (j := -1) (by omega) (by omega) (by omega) (by omega)
    rw [show ((n : Int) - 1 - (-1)).toNat = n by omega] at z
    exact z, for_rangeC (lo := (n : Int) - 1) (c := -1) (n := n) (D := { D with nx := tz D }) Pv (h0 H1 e) (fun i σ' H' hi p => by
      show tu _ (σ'.set j (some (.int ((n : Int) - 1 + (i : Int) * (-1))))) H'
      rw [show (n : Int) - 1 + (i : Int) * (-1) = ((n - (i + 1) : Nat) : Int) by omega]
      exact hs i σ' H' hi p) hd⟩
theorem q_while {t : TT} (W : Nat → L2.St → Hp → Prop) (m0 : Nat) (h0 : W m0 σ H)
    (hs : ∀ m σ' H', W m σ' H' → ∃ b, EvT t σ' H' b ∧ (b = true → ∀ H1, Ext H' H1 → tu { D with nx := fun σ2 H2 => ∃ m', m' < m ∧ W m' σ2 H2, ct := fun σ2 H2 => ∃ m', m' < m ∧ W m' σ2 H2, bk := tz D } σ' H1) ∧ (b = false → ∀ H1, Ext H' H1 → tz D σ' H1)) : tSeq (tWhile t tu) tz D σ H :=
  ⟨W, ⟨m0, h0⟩, fun m σ' H' w => by
    obtain ⟨b, h1, h2, h3⟩ := hs m σ' H' w
    refine h1 H' (Ext.refl H') _ fun H1 e => ?_
    cases b with
    | true => exact iteT ⟨_, fun _ _ h => h, h2 rfl H1 e⟩
    | false => exact iteF (h3 rfl H1 e)⟩
/-- l.append(e), l a tracked list -/
theorem q_app {P : VP} {l : Addr} {xs : List V} (ha : Ev ta σ H (is (.ref l))) (h : Ev te σ H P) (hl : ∀ H1, Ext H H1 → H1 l = some (.lst xs)) (hz : xs.length < 100000) (k : ∀ v H1, Ext H H1 → P v H1 → tz D σ (upd H1 l (.lst (xs ++ [v])))) :
    tSeq (tDrop (tBM K "list" rAppend ta (tCons te tNil))) tz D σ H :=
  ha H (Ext.refl H) _ fun v H1 e1 p1 => by
    obtain rfl : v = .ref l := p1
    refine ⟨Or.inl ⟨rfl, _, SqL.of (hl H1 e1)⟩, ?_⟩
    exact h H1 e1 _ fun w H2 e2 p2 => ⟨l, xs, w, rfl, rfl, hl H2 (e1.trans e2), Nat.lt_of_lt_of_le hz (by decide), k w H2 (e1.trans e2) p2⟩
theorem s_app {P : VP} {l : Addr} {xs : List V} (ha : Ev ta σ H (is (.ref l))) (h : Ev te σ H P) (hl : ∀ H1, Ext H H1 → H1 l = some (.lst xs)) (hz : xs.length < 100000) (k : ∀ v H1, Ext H H1 → P v H1 → D.nx σ (upd H1 l (.lst (xs ++ [v])))) :
    tDrop (tBM K "list" rAppend ta (tCons te tNil)) D σ H :=
  ha H (Ext.refl H) _ fun v H1 e1 p1 => by
    obtain rfl : v = .ref l := p1
    refine ⟨Or.inl ⟨rfl, _, SqL.of (hl H1 e1)⟩, ?_⟩
    exact h H1 e1 _ fun w H2 e2 p2 => ⟨l, xs, w, rfl, rfl, hl H2 (e1.trans e2), Nat.lt_of_lt_of_le hz (by decide), k w H2 (e1.trans e2) p2⟩
/-- l.insert(0, e) -/
theorem s_ins {P : VP} {l : Addr} {xs : List V} (ha : Ev ta σ H (is (.ref l))) (hi : Ev tb σ H (is (.int 0))) (h : Ev te σ H P) (hl : ∀ H1, Ext H H1 → H1 l = some (.lst xs)) (hz : xs.length < 100000) (k : ∀ v H1, Ext H H1 → P v H1 → D.nx σ (upd H1 l (.lst (v :: xs)))) :
    tDrop (tBM K "list" (fun x vs H Q => ∃ (l : Addr) (xs : List V) (i : Int) (y : V), x = .ref l ∧ vs = [.int i, y] ∧ H l = some (.lst xs) ∧ xs.length < sizeLine ∧ 0 ≤ i ∧ i < 2 ^ 63 ∧ Q .non (upd H l (.lst (xs.take i.toNat ++ [y] ++ xs.drop i.toNat)))) ta (tCons tb (tCons te tNil))) D σ H :=
  ha H (Ext.refl H) _ fun v H1 e1 p1 => by
    obtain rfl : v = .ref l := p1
    refine ⟨Or.inl ⟨rfl, _, SqL.of (hl H1 e1)⟩, ?_⟩
    refine hi H1 e1 _ fun i H2 e2 p2 => ?_
    obtain rfl : i = .int 0 := p2
    exact h H2 (e1.trans e2) _ fun w H3 e3 p3 => ⟨l, xs, 0, w, rfl, rfl, hl H3 ((e1.trans e2).trans e3), Nat.lt_of_lt_of_le hz (by decide), by decide, by decide, k w H3 ((e1.trans e2).trans e3) p3⟩
end
/-! ### a def that is called by its name -/
structure Callee (P : Program) (w : World) (K : PySem.W.Frag) (mg : Str → Option Value) (base : Heap) (x : Str) (k : Nat) (ps : List Str) (sp : Sp) : Prop where
  ex : ∃ (f : Addr) (fd : FuncData), FnOk P w K mg base CX0 k f fd ps sp ∧ mg x = some (.ref f) ∧ PySem.W.keepIn K (.ref f) = true ∧ Binds K fd ps []
theorem pc {X : Cx} {x : Str} {k j : Nat} {ps : List Str} {sp : Sp} {e : Expr} {es : List Expr} {t : TA} {p pos : Pos} (C : Callee X.prog X.w X.K X.mg X.base x k ps sp) (hr : Room j X.A) (hkj : k ≤ j) (ha : PA X (e :: es) t) (hg : Gl X x := by rfl)
    (hdb : (x == ("__debug__" : Str)) = false := by decide) (he : starEach (e :: es) X.env = (false, eval e X.env) :: starEach es X.env := by rfl) (hpl : (backTo pos (starEach es X.env)).any (·.1) = false := by rfl) :
    PE X (.Call (.Name x p) (e :: es) [] pos) (tCall sp [] E0 t) := by
  obtain ⟨f, fd, F, hm, hk, hb⟩ := C.ex
  exact pe_call F (hr.mono hkj) hg hm hk hb .nil pass0 ha hdb he hpl
end K21
set_option maxHeartbeats 4000000
namespace K21
open PySem PySem.Spec PyProof.Rows L2
/-! ### a tuple of one item, times 0 or 1 -/
theorem tuple_mul1 (l : Addr) (items : Array Value) (n : Nat) (dd : Option Addr) (sl : Array (Option Value)) (u : Tok) :
    Meets (Builtin.«tuple.__mul__» ⟨[.ref l, .int 1 u], []⟩) (fun _ R s => s.heap.get? l = some { cls := .type "tuple", dict := dd, data := .seq items n, slots := sl } ∧ R (.ok (.ret (Value.ref l))) s) :=
  .of_wp fun prog w A R s h => by
    obtain ⟨hp, g, d, tk, os⟩ := s
    obtain ⟨hl, h⟩ := h
    have f1 := AutoSeq1.idx_int
    have c1 : (items.isEmpty || (1 : Int) == 1) = true := by rw [show ((1 : Int) == 1) = true from rfl, Bool.or_true]
    wp_walk using wpAny_loadPart' hl
    exact ⟨_, rfl, h⟩
theorem tuple_mul0 (l : Addr) (items : Array Value) (n : Nat) (dd : Option Addr) (sl : Array (Option Value)) (u : Tok) (c1 : items.isEmpty = false) :
    Meets (Builtin.«tuple.__mul__» ⟨[.ref l, .int 0 u], []⟩) (fun _ R s => s.heap.get? l = some { cls := .type "tuple", dict := dd, data := .seq items n, slots := sl } ∧
      R (.ok (.ret (Value.ref s.heap.objs.size))) { s with heap := s.heap.push { cls := Value.type "tuple", data := Data.seq #[] }, toks := s.toks }) :=
  .of_wp fun prog w A R s h => by
    obtain ⟨hp, g, d, tk, os⟩ := s
    obtain ⟨hl, h⟩ := h
    have f1 := AutoSeq1.idx_int
    wp_walk using wpAny_loadPart' hl
    exact ⟨_, rfl, h⟩
def rRepN (K : PySem.W.Frag) : R2 := fun x y H Q => ∃ l k xs, x = .ref l ∧ y = .int k ∧ SqT K H l xs ∧ xs ≠ [] ∧ 0 ≤ k ∧ k ≤ 1000 ∧ xs.length ≤ 1000 ∧ (k = 0 → ∀ p, H p = none → Q (.ref p) (upd H p (.tup []))) ∧ (k = 1 → Q (.ref l) H) ∧
  (2 ≤ k → ∀ p, H p = none → Q (.ref p) (upd H p (.tup (List.replicate k.toNat xs).flatten)))
theorem op_repN {X : Cx} : OpR X (binaryOp .Mult) (rRepN X.K) := by
  intro pins s σ H x y v u Q I rx ry h
  obtain ⟨l, k, xs, rfl, rfl, hT, hne, h0, h2, hz, q0, q1, q2⟩ := h
  by_cases hk2 : 2 ≤ k
  · exact op_repT pins s σ H _ _ v u Q I rx ry ⟨l, k, xs, rfl, rfl, hT, hne, hk2, h2, hz, q2 hk2⟩
  cases rx
  obtain ⟨t, rfl⟩ := ry
  obtain ⟨its, r, ⟨⟨cls, dd, data, sl⟩, ho, hc, n, hd⟩, hs⟩ := I.tuple hT
  simp only at hc hd
  subst hc hd
  have hle : its.length = xs.length := r.length.symm
  have hn : its ≠ [] := fun e => hne (by
    rw [e] at hle
    exact List.eq_nil_of_length_eq_zero hle.symm)
  have hi : its.toArray.isEmpty = false := by
    cases its with
    | nil => exact absurd rfl hn
    | cons a b => rfl
  rcases (show k = 0 ∨ k = 1 by omega) with rfl | rfl
  · refine wpAny_binaryOp_repeat_ref (T := "tuple") (U := "int") (by decide) ⟨_, ho, rfl⟩ (fun s' => typeIs_int s' 0 t) noFill_tuple_mul F.fills_int_mul F.slot_int_rmul repeat_tuple F.slot_int_index.lookup
      (call_meets F.slot_int_rmul (typeIs_int s 0 t) F.entry_int_rmul (F.args_int_rmul_2 _ _) (int_rmul_tuple 0 t l its.toArray n dd sl)
        ⟨ho, rfl, ⟨_, ho, rfl⟩, call_meets F.slot_tuple_mul ⟨_, ho, rfl⟩ F.entry_tuple_mul (F.args_tuple_mul_2 _ _) (tuple_mul0 l its.toArray n dd sl t hi) ⟨ho, ?_⟩⟩)
    refine ⟨.ref s.heap.objs.size, _, I.laid (t' := s.toks) (o := .tup []) (fun b ob q => Heap.get?_push_of_some _ q) (Nat.le_refl _) ?_, rfl, q0 rfl _ (I.hok.fresh (Nat.le_refl _))⟩
    exact ⟨by decide, [], .nil, IsTup.new _ _⟩
  · refine wpAny_binaryOp_repeat_ref (T := "tuple") (U := "int") (by decide) ⟨_, ho, rfl⟩ (fun s' => typeIs_int s' 1 t) noFill_tuple_mul F.fills_int_mul F.slot_int_rmul repeat_tuple F.slot_int_index.lookup
      (call_meets F.slot_int_rmul (typeIs_int s 1 t) F.entry_int_rmul (F.args_int_rmul_2 _ _) (int_rmul_tuple 1 t l its.toArray n dd sl)
        ⟨ho, rfl, ⟨_, ho, rfl⟩, call_meets F.slot_tuple_mul ⟨_, ho, rfl⟩ F.entry_tuple_mul (F.args_tuple_mul_2 _ _) (tuple_mul1 l its.toArray n dd sl t) ⟨ho, ?_⟩⟩)
    exact ⟨.ref l, H, I, rfl, q1 rfl⟩
/-- int * bool -/
theorem op_mul_ib {X : Cx} : OpR X (binaryOp .Mult) (fun x y H Q => ∃ i k, x = .int i ∧ y = .bl k ∧ Q (.int (if k = true then i else 0)) H) := by
  intro pins s σ H x y v u Q I rx ry h
  obtain ⟨i, k, rfl, rfl, q⟩ := h
  obtain ⟨t, rfl⟩ := rx
  cases ry
  refine PySem.IntBool.mul_int_bool ⟨.int (i * if k = true then (1 : Int) else 0), H, I.tok _, ⟨_, rfl⟩, ?_⟩
  cases k with
  | true => rw [if_pos rfl] at q ⊢; rw [Int.mul_one]; exact q
  | false => rw [if_neg Bool.false_ne_true] at q ⊢; rw [Int.mul_zero]; exact q
end K21
set_option maxHeartbeats 4000000
namespace K21
open PySem PySem.Spec PyProof.Rows L2
section
variable {prog : Program} {w : World} {A : Around} {E : Value → Shared → Prop} {s : Shared} {l : Addr}
theorem max_intTup {xs : Array (Int × Tok)} {Q : Value → Shared → Prop} (hh : A.handled = none) (hl : s.heap.IsTuple l (intItems xs)) (hne : 0 < xs.size)
    (h : ∀ v h' tk, (intItems xs)[argBest (fun i j => decide (numAt xs i > numAt xs j)) (xs.size - 1)]? = some v → (∀ b o, s.heap.get? b = some o → h'.get? b = some o) → Q v { s with heap := h', toks := tk }) :
    wpAny (model prog w) A (call (.builtin "max") [.ref l]) Q E s := by
  have hlt : l < s.heap.objs.size := by obtain ⟨_, e, _⟩ := hl; exact Heap.lt_size e
  refine call_max_walk (wpAny_pyIter_tuple hl ?_)
  refine ⟨_, [_, l], [_], _, _, _, _, rfl, Walks.tuple (A := A.in1) hh _ l (Nat.ne_of_lt hlt) (intItems xs), ⟨⟨_, Heap.get?_push_size _ rfl, rfl, rfl⟩, hl.push _⟩, fun b hb => ?_, by simpa [intItems] using hne, CmpOf.ints_gt (numAt xs) (fun _ _ => intItems_at), fun v h' tk hP hk => ?_⟩
  · show b < (s.heap.push _).objs.size
    rw [Heap.size_push]
    rcases List.mem_cons.mp hb with rfl | hb
    · exact Nat.lt_succ_self _
    · rcases List.mem_cons.mp hb with rfl | hb
      · exact Nat.lt_succ_of_lt hlt
      · cases hb
  · exact h v h' tk (by simpa [intItems] using hP) fun d o e => hk d o (fun hm => by
      have h1 := Heap.lt_size e
      rw [List.mem_singleton.mp hm] at h1
      exact Nat.lt_irrefl _ h1) (Heap.get?_push_of_some _ e)
theorem max_rawT {its : List Value} {ns : List Int} {Q : Value → Shared → Prop} (hh : A.handled = none) (hl : s.heap.IsTuple l its.toArray) (hi : IntsAre its ns) (hne : 0 < ns.length)
    (h : ∀ h' tk M t', (∀ b o, s.heap.get? b = some o → h'.get? b = some o) → M ∈ ns → (∀ a, a ∈ ns → a ≤ M) → Q (.int M t') { s with heap := h', toks := tk }) : wpAny (model prog w) A (call (.builtin "max") [.ref l]) Q E s := by
  obtain ⟨xs, e⟩ := hi.allInts.items
  have hn : numsOf (intItems xs).toList = ns := by rw [← e]; exact hi.numsOf
  rw [nums_intItems] at hn
  subst hn
  rw [e] at hl
  have hsz : 0 < xs.size := by simpa using hne
  refine max_intTup hh hl hsz fun v h' tk hv hk => ?_
  obtain ⟨t, rfl⟩ := intItems_at hv
  obtain ⟨h1, h2⟩ := argBest_gt (numAt xs) (xs.size - 1)
  refine h h' tk _ t hk ?_ fun a ha => ?_
  · rw [numAt_eq]; exact PySem.getD_mem (by rw [List.length_map, Array.length_toList]; omega)
  · obtain ⟨j, hj, rfl⟩ := mem_getD ha
    rw [List.length_map, Array.length_toList] at hj
    rw [← numAt_eq]; exact h2 j (by omega)
end
/-- max of a tuple of whole numbers -/
def rMaxT (K : PySem.W.Frag) : List V → Hp → VK → Prop := fun vs H Q => ∃ (a : Addr) (ns : List Int), vs = [V.ref a] ∧ SqT K H a (ns.map V.int) ∧ 0 < ns.length ∧ ∀ m, m ∈ ns → (∀ y, y ∈ ns → y ≤ m) → Q (.int m) H
theorem cr_maxT {X : Cx} (hc : X.calm = true) : CallR X (.builtin "max") (rMaxT X.K) := by
  intro pins s σ H vs us Q I r h
  obtain ⟨a, ns, rfl, hs, hne, q⟩ := h
  obtain ⟨its, rv, hl, _⟩ := I.tuple hs
  rw [Vals.ref1 r]
  exact max_rawT (I.ok.hd hc) hl rv.ints hne fun h' tk m t' hk h1 h2 => ⟨.int _, H, I.kept hk, ⟨_, rfl⟩, q m h1 h2⟩
end K21
set_option maxHeartbeats 4000000
namespace K21
open PySem PySem.Spec PyProof.Rows L2
/-- what the top says of the module's and built-in names -/
structure Txt (mg : Str → Option Value) : Prop where
  gcd : mg "gcd" = some (.builtin "math.gcd")
  isinstance : mg "isinstance" = none
  int : mg "int" = none
  bool : mg "bool" = none
  len : mg "len" = none
  all : mg "all" = none
  any : mg "any" = none
  abs : mg "abs" = none
  range : mg "range" = none
  tuple : mg "tuple" = none
  list : mg "list" = none
  str : mg "str" = none
  max : mg "max" = none
  min : mg "min" = none
def N_ratio : List Str := ["top", "bottom", "common"]
theorem sc_ratio : FnScope ["top", "bottom", "common"] ["top", "bottom"] (defScope s_ratio) := ⟨rfl, rfl, rfl, by decide +kernel, rfl, by decide +kernel, by decide +kernel⟩
def N_plus : List Str := ["one", "other"]
theorem sc_plus : FnScope ["one", "other"] ["one", "other"] (defScope s_plus) := ⟨rfl, rfl, rfl, by decide +kernel, rfl, by decide +kernel, by decide +kernel⟩
def N_minus : List Str := ["one", "other"]
theorem sc_minus : FnScope ["one", "other"] ["one", "other"] (defScope s_minus) := ⟨rfl, rfl, rfl, by decide +kernel, rfl, by decide +kernel, by decide +kernel⟩
def N_by : List Str := ["one", "other"]
theorem sc_by : FnScope ["one", "other"] ["one", "other"] (defScope s_by) := ⟨rfl, rfl, rfl, by decide +kernel, rfl, by decide +kernel, by decide +kernel⟩
def N_over : List Str := ["one", "other"]
theorem sc_over : FnScope ["one", "other"] ["one", "other"] (defScope s_over) := ⟨rfl, rfl, rfl, by decide +kernel, rfl, by decide +kernel, by decide +kernel⟩
def N_growth : List Str := ["rate"]
theorem sc_growth : FnScope ["rate"] ["rate"] (defScope s_growth) := ⟨rfl, rfl, rfl, by decide +kernel, rfl, by decide +kernel, by decide +kernel⟩
section
variable {P : Program} {w : World} {K : PySem.W.Frag} {mg : Str → Option Value} {base : Heap} {f : Addr} {fd : FuncData}
/-! ### ratio(top, bottom), bottom positive -/
def sp_ratio (K : PySem.W.Frag) : Sp := fun vs H Q _ => ∃ (a b : Int) (n : Nat) (q : Rat), vs = [.int a, .int b] ∧ Means n a b q ∧ n ≤ 8000 ∧ ∀ v H', Ext H H' → RV K n q v H' → Q v H'
theorem ok_ratio (F : FnP K "ratio" s_ratio f fd) (T : Txt mg) : FnOk P w K mg base CX0 1 f fd ["top", "bottom"] (sp_ratio K) := by
  refine F.ok sc_ratio (fun vs H Q E h => ?_) (fun cdv A outer s H vs Q E hr h => ?_)
  · obtain ⟨a, b, n, q, rfl, _⟩ := h; rfl
  · obtain ⟨a, b, n, q, rfl, M, hn, k⟩ := h
    refine ⟨_, PSs.nox (pss_cons (ps_set (i := 2) sc_ratio.nd rfl (Or.inl rfl) (pe_ifExp (pt_cmpR op_gt (pv 1) pe_int (nomark _)) (pe_callBfun cr_gcd (by rfl) T.gcd (pa_cons (pv 0) (pa_cons (pv 1) pa_nil))) (pe_op op_sub pe_int (pe_callBfun cr_gcd (by rfl) T.gcd (pa_cons (pv 0) (pa_cons (pv 1) pa_nil))))))
      (pss_one (ps_ret (pe_tup (pa_cons (pe_op op_fdivW (pv 0) (pv 2)) (pa_cons (pe_op op_fdivW (pv 1) (pv 2)) pa_nil)))))), ?_⟩
    have hb := M.pos
    have g := gcd_pos (t := a) hb
    have gle := gcd_le (t := a) hb
    have hd : CDivW a ((Nat.gcd a.natAbs b.natAbs : Nat) : Int) := wide_div (b := n + 1) (by omega) (by have := M.sb; rw [Nat.pow_succ]; omega) (by omega) (by omega)
    have hd2 : CDivW b ((Nat.gcd a.natAbs b.natAbs : Nat) : Int) := wide_div (b := n + 1) (by omega) (by have := M.sb; rw [Nat.pow_succ]; omega) (by omega) (by omega)
    have tb : EvT (tTest (tOp (rI0 fun i j => .bl (decide (j < i))) (tVar 1) (tC (.int 0)))) (start N_ratio [.int a, .int b]) H true := et_is (et_test (ev_I0 (ev_i rfl) ev_c)) (decide_eq_true hb)
    refine q_asg (ev_if tb (fun _ => ev_gcd (ev_i rfl) (ev_i rfl)) (fun h => nomatch h)) fun v H1 e1 hv => ?_
    obtain rfl : v = .int ((Nat.gcd a.natAbs b.natAbs : Nat) : Int) := hv
    refine s_ret (eu_2 (K := K) (ev_I (ev_i rfl) (ev_i rfl) hd) (ev_I (ev_i rfl) (ev_i rfl) hd2)) fun v H2 e2 hv => ?_
    obtain ⟨p, rfl, hp⟩ := hv
    obtain ⟨d1, d2⟩ := div_of (t := a) hb
    rw [← d1, ← d2, ← M.eq] at hp
    exact k _ _ (e1.trans e2) ⟨p, rfl, hp, M.sz⟩
/-- it returns a ratio -/
theorem ev_ratio {σ : L2.St} {H : Hp} {ta tb : TE} {a b : Int} {n : Nat} {q : Rat} (ha : Ev ta σ H (is (.int a))) (hb : Ev tb σ H (is (.int b))) (M : Means n a b q) (hn : n ≤ 8000) : Ev (tCall (sp_ratio K) [] E0 (tCons ta (tCons tb tNil))) σ H (RV K n q) :=
  ev_call (ea_2 ha mono_is hb mono_is) fun vs H1 Q _ ⟨v, w, h1, h2, h3⟩ q' => by
    obtain rfl : v = _ := h2
    obtain rfl : w = _ := h3
    exact ⟨a, b, n, q, h1, M, hn, q'⟩
/-- a pair's parts -/
theorem ev_top {σ : L2.St} {H : Hp} {ta : TE} {a b : Int} (h : Ev ta σ H (fun v H => ∃ p, v = .ref p ∧ SqT K H p [.int a, .int b])) : Ev (tOp (rIxT K) ta (tC (.int 0))) σ H (is (.int a)) := ev_ixT h ev_c rfl
theorem ev_bot {σ : L2.St} {H : Hp} {ta : TE} {a b : Int} (h : Ev ta σ H (fun v H => ∃ p, v = .ref p ∧ SqT K H p [.int a, .int b])) : Ev (tOp (rIxT K) ta (tC (.int 1))) σ H (is (.int b)) := ev_ixT h ev_c rfl
/-- a name that holds a tuple -/
theorem ev_t {σ : L2.St} {H : Hp} {i : Nat} {p : Addr} {xs : List V} (hp : SqT K H p xs) (h : σ[i]? = some (some (.ref p))) : Ev (tVar i) σ H (fun v H => ∃ p, v = .ref p ∧ SqT K H p xs) := ev_v h fun H' e => ⟨p, rfl, e.t hp⟩
/-! ### plus, minus, by, over -/
def sp_plus (K : PySem.W.Frag) : Sp := fun vs H Q _ => ∃ (x y : V) (n m : Nat) (a b : Rat), vs = [x, y] ∧ PV K n a x H ∧ PV K m b y H ∧ n + m ≤ 7000 ∧ ∀ v H', Ext H H' → RV K (n + m + 1) (a + b) v H' → Q v H'
def sp_minus (K : PySem.W.Frag) : Sp := fun vs H Q _ => ∃ (x y : V) (n m : Nat) (a b : Rat), vs = [x, y] ∧ PV K n a x H ∧ PV K m b y H ∧ n + m ≤ 7000 ∧ ∀ v H', Ext H H' → RV K (n + m + 1) (a - b) v H' → Q v H'
def sp_by (K : PySem.W.Frag) : Sp := fun vs H Q _ => ∃ (x y : V) (n m : Nat) (a b : Rat), vs = [x, y] ∧ PV K n a x H ∧ PV K m b y H ∧ n + m ≤ 7000 ∧ ∀ v H', Ext H H' → RV K (n + m) (a * b) v H' → Q v H'
def sp_over (K : PySem.W.Frag) : Sp := fun vs H Q _ => ∃ (x y : V) (n m : Nat) (a b : Rat), vs = [x, y] ∧ PV K n a x H ∧ PV K m b y H ∧ 0 < b ∧ n + m ≤ 7000 ∧ ∀ v H', Ext H H' → RV K (n + m) (a / b) v H' → Q v H'
theorem mulok {a b : Int} {n m : Nat} (h1 : a.natAbs < 2 ^ n) (h2 : b.natAbs < 2 ^ m) (h : n + m ≤ 7000) : CMulW a b :=
  wide_mul (a := n + 1) (b := m + 1) (by rw [Nat.pow_succ]; omega) (by rw [Nat.pow_succ]; omega) (by omega) (by omega) (by omega)
structure Ratio1 (P : Program) (w : World) (K : PySem.W.Frag) (mg : Str → Option Value) (base : Heap) : Prop where
  ratio : Callee P w K mg base "ratio" 1 ["top", "bottom"] (sp_ratio K)
theorem ok_plus (F : FnP K "plus" s_plus f fd) (C : Ratio1 P w K mg base) : FnOk P w K mg base CX0 2 f fd ["one", "other"] (sp_plus K) := by
  refine F.ok sc_plus (fun vs H Q E h => ?_) (fun cdv A outer s H vs Q E hr h => ?_)
  · obtain ⟨x, y, n, m, a, b, rfl, _⟩ := h; rfl
  · obtain ⟨x, y, n, m, a, b, rfl, ⟨p, a1, b1, rfl, hp, M1⟩, ⟨r, a2, b2, rfl, hr2, M2⟩, hn, k⟩ := h
    refine ⟨_, PSs.nox (pss_one (ps_ret (pc C.ratio hr (by decide) (pa_cons (pe_op op_add (pe_op op_mulW (pe_ix ix_tup (pv 0) pe_int (fun _ _ => rfl)) (pe_ix ix_tup (pv 1) pe_int (fun _ _ => rfl))) (pe_op op_mulW (pe_ix ix_tup (pv 1) pe_int (fun _ _ => rfl)) (pe_ix ix_tup (pv 0) pe_int (fun _ _ => rfl)))) (pa_cons (pe_op op_mulW (pe_ix ix_tup (pv 0) pe_int (fun _ _ => rfl)) (pe_ix ix_tup (pv 1) pe_int (fun _ _ => rfl))) pa_nil))))), ?_⟩
    exact s_ret (ev_ratio (ev_I0 (ev_I (ev_top (ev_t hp rfl)) (ev_bot (ev_t hr2 rfl)) (mulok M1.sa M2.sb hn)) (ev_I (ev_top (ev_t hr2 rfl)) (ev_bot (ev_t hp rfl)) (mulok M2.sa M1.sb (by omega))))
      (ev_I (ev_bot (ev_t hp rfl)) (ev_bot (ev_t hr2 rfl)) (mulok M1.sb M2.sb hn)) (M1.add M2) (by omega)) k
theorem ok_minus (F : FnP K "minus" s_minus f fd) (C : Ratio1 P w K mg base) : FnOk P w K mg base CX0 2 f fd ["one", "other"] (sp_minus K) := by
  refine F.ok sc_minus (fun vs H Q E h => ?_) (fun cdv A outer s H vs Q E hr h => ?_)
  · obtain ⟨x, y, n, m, a, b, rfl, _⟩ := h; rfl
  · obtain ⟨x, y, n, m, a, b, rfl, ⟨p, a1, b1, rfl, hp, M1⟩, ⟨r, a2, b2, rfl, hr2, M2⟩, hn, k⟩ := h
    refine ⟨_, PSs.nox (pss_one (ps_ret (pc C.ratio hr (by decide) (pa_cons (pe_op op_sub (pe_op op_mulW (pe_ix ix_tup (pv 0) pe_int (fun _ _ => rfl)) (pe_ix ix_tup (pv 1) pe_int (fun _ _ => rfl))) (pe_op op_mulW (pe_ix ix_tup (pv 1) pe_int (fun _ _ => rfl)) (pe_ix ix_tup (pv 0) pe_int (fun _ _ => rfl)))) (pa_cons (pe_op op_mulW (pe_ix ix_tup (pv 0) pe_int (fun _ _ => rfl)) (pe_ix ix_tup (pv 1) pe_int (fun _ _ => rfl))) pa_nil))))), ?_⟩
    exact s_ret (ev_ratio (ev_I0 (ev_I (ev_top (ev_t hp rfl)) (ev_bot (ev_t hr2 rfl)) (mulok M1.sa M2.sb hn)) (ev_I (ev_top (ev_t hr2 rfl)) (ev_bot (ev_t hp rfl)) (mulok M2.sa M1.sb (by omega))))
      (ev_I (ev_bot (ev_t hp rfl)) (ev_bot (ev_t hr2 rfl)) (mulok M1.sb M2.sb hn)) (M1.sub M2) (by omega)) k
theorem ok_by (F : FnP K "by" s_by f fd) (C : Ratio1 P w K mg base) : FnOk P w K mg base CX0 2 f fd ["one", "other"] (sp_by K) := by
  refine F.ok sc_by (fun vs H Q E h => ?_) (fun cdv A outer s H vs Q E hr h => ?_)
  · obtain ⟨x, y, n, m, a, b, rfl, _⟩ := h; rfl
  · obtain ⟨x, y, n, m, a, b, rfl, ⟨p, a1, b1, rfl, hp, M1⟩, ⟨r, a2, b2, rfl, hr2, M2⟩, hn, k⟩ := h
    refine ⟨_, PSs.nox (pss_one (ps_ret (pc C.ratio hr (by decide) (pa_cons (pe_op op_mulW (pe_ix ix_tup (pv 0) pe_int (fun _ _ => rfl)) (pe_ix ix_tup (pv 1) pe_int (fun _ _ => rfl))) (pa_cons (pe_op op_mulW (pe_ix ix_tup (pv 0) pe_int (fun _ _ => rfl)) (pe_ix ix_tup (pv 1) pe_int (fun _ _ => rfl))) pa_nil))))), ?_⟩
    exact s_ret (ev_ratio (ev_I (ev_top (ev_t hp rfl)) (ev_top (ev_t hr2 rfl)) (mulok M1.sa M2.sa hn)) (ev_I (ev_bot (ev_t hp rfl)) (ev_bot (ev_t hr2 rfl)) (mulok M1.sb M2.sb hn)) (M1.mul M2) (by omega)) k
theorem ok_over (F : FnP K "over" s_over f fd) (C : Ratio1 P w K mg base) : FnOk P w K mg base CX0 2 f fd ["one", "other"] (sp_over K) := by
  refine F.ok sc_over (fun vs H Q E h => ?_) (fun cdv A outer s H vs Q E hr h => ?_)
  · obtain ⟨x, y, n, m, a, b, rfl, _⟩ := h; rfl
  · obtain ⟨x, y, n, m, a, b, rfl, ⟨p, a1, b1, rfl, hp, M1⟩, ⟨r, a2, b2, rfl, hr2, M2⟩, hb, hn, k⟩ := h
    refine ⟨_, PSs.nox (pss_one (ps_ret (pc C.ratio hr (by decide) (pa_cons (pe_op op_mulW (pe_ix ix_tup (pv 0) pe_int (fun _ _ => rfl)) (pe_ix ix_tup (pv 1) pe_int (fun _ _ => rfl))) (pa_cons (pe_op op_mulW (pe_ix ix_tup (pv 0) pe_int (fun _ _ => rfl)) (pe_ix ix_tup (pv 1) pe_int (fun _ _ => rfl))) pa_nil))))), ?_⟩
    exact s_ret (ev_ratio (ev_I (ev_top (ev_t hp rfl)) (ev_bot (ev_t hr2 rfl)) (mulok M1.sa M2.sb hn)) (ev_I (ev_bot (ev_t hp rfl)) (ev_top (ev_t hr2 rfl)) (mulok M1.sb M2.sa hn)) (M1.div M2 hb) (by omega)) k
section
variable {σ : L2.St} {H : Hp} {ta tb : TE} {n m : Nat} {a b : Rat}
theorem ev_plus (ha : Ev ta σ H (PV K n a)) (hb : Ev tb σ H (PV K m b)) (h : n + m ≤ 7000) : Ev (tCall (sp_plus K) [] E0 (tCons ta (tCons tb tNil))) σ H (RV K (n + m + 1) (a + b)) :=
  ev_call (ea_2 ha mono_PV hb mono_PV) fun vs H1 Q _ ⟨v, w, h1, h2, h3⟩ q' => ⟨v, w, n, m, a, b, h1, h2, h3, h, q'⟩
theorem ev_minus (ha : Ev ta σ H (PV K n a)) (hb : Ev tb σ H (PV K m b)) (h : n + m ≤ 7000) : Ev (tCall (sp_minus K) [] E0 (tCons ta (tCons tb tNil))) σ H (RV K (n + m + 1) (a - b)) :=
  ev_call (ea_2 ha mono_PV hb mono_PV) fun vs H1 Q _ ⟨v, w, h1, h2, h3⟩ q' => ⟨v, w, n, m, a, b, h1, h2, h3, h, q'⟩
theorem ev_by (ha : Ev ta σ H (PV K n a)) (hb : Ev tb σ H (PV K m b)) (h : n + m ≤ 7000) : Ev (tCall (sp_by K) [] E0 (tCons ta (tCons tb tNil))) σ H (RV K (n + m) (a * b)) :=
  ev_call (ea_2 ha mono_PV hb mono_PV) fun vs H1 Q _ ⟨v, w, h1, h2, h3⟩ q' => ⟨v, w, n, m, a, b, h1, h2, h3, h, q'⟩
theorem ev_over (ha : Ev ta σ H (PV K n a)) (hb : Ev tb σ H (PV K m b)) (h0 : 0 < b) (h : n + m ≤ 7000) : Ev (tCall (sp_over K) [] E0 (tCons ta (tCons tb tNil))) σ H (RV K (n + m) (a / b)) :=
  ev_call (ea_2 ha mono_PV hb mono_PV) fun vs H1 Q _ ⟨v, w, h1, h2, h3⟩ q' => ⟨v, w, n, m, a, b, h1, h2, h3, h0, h, q'⟩
theorem Ev.pv (h : Ev ta σ H (RV K n a)) : Ev ta σ H (PV K n a) := h.imp fun _ _ _ h => h.pv
theorem Ev.le (h : Ev ta σ H (RV K n a)) (k : n ≤ m) : Ev ta σ H (RV K m a) := h.imp fun _ _ _ h => h.le k
theorem Ev.to (h : Ev ta σ H (RV K n a)) (e : a = b) : Ev ta σ H (RV K n b) := by subst e; exact h
/-- a name that holds a ratio -/
theorem ev_r {i : Nat} {v : V} (hv : RV K n a v H) (h : σ[i]? = some (some v)) : Ev (tVar i) σ H (RV K n a) := ev_v h fun H' e => hv.ext e
theorem ev_p {i : Nat} {v : V} (hv : PV K n a v H) (h : σ[i]? = some (some v)) : Ev (tVar i) σ H (PV K n a) := ev_v h fun H' e => hv.ext e
/-- a written pair -/
theorem ev_pair {x y : Int} {q : Rat} (ha : Ev ta σ H (is (.int x))) (hb : Ev tb σ H (is (.int y))) (M : Means n x y q) : Ev (tTup (tCons ta (tCons tb tNil))) σ H (PV K n q) :=
  (eu_2 (K := K) ha hb).imp fun v H' _ ⟨p, h1, h2⟩ => ⟨p, x, y, h1, h2, M⟩
end
end
end K21
set_option maxHeartbeats 4000000
namespace K21
open PySem PySem.Spec PyProof.Rows L2
/-! ### a policy -/
structure Pol where
  L : List Int
  age : Nat
  i : Rat
  al : List Int
  de : List Int
  p : Rat
  yr : Nat
/-- an entry of payments, 0 beyond them -/
def entI (xs : List Int) (t : Nat) : Int := (xs[t]?).getD 0
def ent (xs : List Int) (t : Nat) : Rat := (entI xs t : Int)
def Pol.n (c : Pol) : Nat := c.L.length - 1 - c.age
def Pol.lf (c : Pol) (t : Nat) : Rat := (entI c.L (c.age + t) : Int)
def Pol.net (c : Pol) (t : Nat) : Rat := ent c.al t - (if t < c.yr then c.p else 0)
def Pol.v (c : Pol) : Rat := (1 + c.i)⁻¹
def Pol.res (c : Pol) (t : Nat) : Rat := K21.res c.n c.net (qOf c.lf) (ent c.de) c.v t
structure Pays (xs : List Int) : Prop where
  len : xs.length ≤ 40
  sz : ∀ x ∈ xs, -1000000 ≤ x ∧ x ≤ 1000000
structure Pol.Ok (c : Pol) : Prop where
  len : 2 ≤ c.L.length ∧ c.L.length ≤ 8
  age : c.age + 2 ≤ c.L.length
  sz : ∀ x ∈ c.L, 0 ≤ x ∧ x ≤ 1000000
  down : ∀ k, k + 1 < c.L.length → entI c.L (k + 1) ≤ entI c.L k
  last : entI c.L (c.L.length - 1) = 0
  pos : ∀ k, k + 1 < c.L.length → 0 < entI c.L k
  rate : c.i.num.natAbs ≤ 1000 ∧ c.i.den ≤ 1000
  gr : 0 < 1 + c.i
  al : Pays c.al
  de : Pays c.de
  yr : c.yr ≤ 40
theorem entI_sz {xs : List Int} (h : Pays xs) (t : Nat) : (entI xs t).natAbs < 2 ^ 20 := by
  unfold entI
  cases e : xs[t]? with
  | none => decide
  | some x =>
    have := h.sz x (List.mem_of_getElem? e)
    show x.natAbs < 2 ^ 20
    have : (2 : Nat) ^ 20 = 1048576 := by decide
    omega
theorem Pol.Ok.lsz {c : Pol} (h : c.Ok) (t : Nat) : 0 ≤ entI c.L t ∧ entI c.L t ≤ 1000000 := by
  unfold entI
  cases e : c.L[t]? with
  | none => decide
  | some x => exact h.sz x (List.mem_of_getElem? e)
theorem Pol.Ok.lpos {c : Pol} (h : c.Ok) {t : Nat} (ht : t < c.n) : 0 < entI c.L (c.age + t) := h.pos _ (by unfold Pol.n at ht; omega)
theorem Pol.Ok.lf_ne {c : Pol} (h : c.Ok) (t : Nat) (ht : t < c.n) : c.lf t ≠ 0 := by
  have z : 0 < c.lf t := Rat.intCast_pos.mpr (h.lpos ht)
  intro e; rw [e] at z; exact absurd z (by decide)
theorem Pol.Ok.n_pos {c : Pol} (h : c.Ok) : 0 < c.n := by unfold Pol.n; have := h.age; omega
theorem Pol.Ok.n_le {c : Pol} (h : c.Ok) : c.n ≤ 7 := by unfold Pol.n; have := h.len; omega
/-- what stands where a policy is -/
structure PolV (K : PySem.W.Frag) (c : Pol) (v : V) (H : Hp) : Prop where
  ex : ∃ (p pl pr pa pd : Addr) (vp : V), v = .ref p ∧ SqT K H p [.ref pl, .int (c.age : Int), .ref pr, .ref pa, .ref pd, vp, .int (c.yr : Int)] ∧ SqT K H pl (c.L.map V.int) ∧ RV K 10 c.i (.ref pr) H ∧
    SqT K H pa (c.al.map V.int) ∧ SqT K H pd (c.de.map V.int) ∧ RV K 20 c.p vp H
theorem mono_PolV {K : PySem.W.Frag} {c : Pol} : Mono (PolV K c) := fun _ _ _ e ⟨p, pl, pr, pa, pd, vp, h1, h2, h3, h4, h5, h6, h7⟩ => ⟨p, pl, pr, pa, pd, vp, h1, e.t h2, e.t h3, h4.ext e, e.t h5, e.t h6, h7.ext e⟩
theorem PolV.ext {K : PySem.W.Frag} {c : Pol} {v : V} {H H' : Hp} (h : PolV K c v H) (e : Ext H H') : PolV K c v H' := mono_PolV _ _ _ e h
def N_power : List Str := ["one", "times", "found", "base", "turn"]
theorem sc_power : FnScope ["one", "times", "found", "base", "turn"] ["one", "times"] (defScope s_power) := ⟨rfl, rfl, rfl, by decide +kernel, rfl, by decide +kernel, by decide +kernel⟩
def N_entry : List Str := ["payments", "time"]
theorem sc_entry : FnScope ["payments", "time"] ["payments", "time"] (defScope s_entry) := ⟨rfl, rfl, rfl, by decide +kernel, rfl, by decide +kernel, by decide +kernel⟩
def N_span_of : List Str := ["policy"]
theorem sc_span_of : FnScope ["policy"] ["policy"] (defScope s_span_of) := ⟨rfl, rfl, rfl, by decide +kernel, rfl, by decide +kernel, by decide +kernel⟩
def N_part_dying : List Str := ["policy", "time", "lives", "age"]
theorem sc_part_dying : FnScope ["policy", "time", "lives", "age"] ["policy", "time"] (defScope s_part_dying) := ⟨rfl, rfl, rfl, by decide +kernel, rfl, by decide +kernel, by decide +kernel⟩
def N_net_alive : List Str := ["policy", "time", "paid"]
theorem sc_net_alive : FnScope ["policy", "time", "paid"] ["policy", "time"] (defScope s_net_alive) := ⟨rfl, rfl, rfl, by decide +kernel, rfl, by decide +kernel, by decide +kernel⟩
def N_reserves_of : List Str := ["policy", "found", "step", "time", "dying", "later"]
theorem sc_reserves_of : FnScope ["policy", "found", "step", "time", "dying", "later"] ["policy"] (defScope s_reserves_of) := ⟨rfl, rfl, rfl, by decide +kernel, rfl, by decide +kernel, by decide +kernel⟩
def N_changed : List Str := ["policy", "alive", "dead", "premium"]
theorem sc_changed : FnScope ["policy", "alive", "dead", "premium"] ["policy", "alive", "dead", "premium"] (defScope s_changed) := ⟨rfl, rfl, rfl, by decide +kernel, rfl, by decide +kernel, by decide +kernel⟩
def N_fair_of : List Str := ["policy", "paid", "unit"]
theorem sc_fair_of : FnScope ["policy", "paid", "unit"] ["policy"] (defScope s_fair_of) := ⟨rfl, rfl, rfl, by decide +kernel, rfl, by decide +kernel, by decide +kernel⟩
section
variable {P : Program} {w : World} {K : PySem.W.Frag} {mg : Str → Option Value} {base : Heap} {f : Addr} {fd : FuncData}
structure Ratio2 (P : Program) (w : World) (K : PySem.W.Frag) (mg : Str → Option Value) (base : Heap) : Prop extends Ratio1 P w K mg base where
  plus : Callee P w K mg base "plus" 2 ["one", "other"] (sp_plus K)
  minus : Callee P w K mg base "minus" 2 ["one", "other"] (sp_minus K)
  by_ : Callee P w K mg base "by" 2 ["one", "other"] (sp_by K)
  over : Callee P w K mg base "over" 2 ["one", "other"] (sp_over K)
/-! ### growth(rate), power(one, -1) -/
def sp_growth (K : PySem.W.Frag) : Sp := fun vs H Q _ => ∃ (x : V) (n : Nat) (a : Rat), vs = [x] ∧ RV K n a x H ∧ n ≤ 7000 ∧ ∀ v H', Ext H H' → RV K (n + 1) (1 + a) v H' → Q v H'
theorem grow_means {n : Nat} {a : Rat} (h : Sz n a) : Means (n + 1) (a.num + a.den) a.den (1 + a) where
  pos := den_pos a
  eq := by
    have M := (Means.int (n := 1) (a := 1) (by decide) (by decide)).add (Means.of h)
    have e := M.eq
    have e1 : ((1 : Int) : Rat) = 1 := rfl
    rw [e1] at e
    rw [e]
    congr 1 <;> omega
  sa := abs_add h.1 (of_den h.2)
  sb := lt_more (of_den h.2) (Nat.le_succ _)
theorem ok_growth (F : FnP K "growth" s_growth f fd) (C : Ratio1 P w K mg base) : FnOk P w K mg base CX0 2 f fd ["rate"] (sp_growth K) := by
  refine F.ok sc_growth (fun vs H Q E h => ?_) (fun cdv A outer s H vs Q E hr h => ?_)
  · obtain ⟨x, n, a, rfl, _⟩ := h; rfl
  · obtain ⟨x, n, a, rfl, ⟨p, rfl, hp, hs⟩, hn, k⟩ := h
    refine ⟨_, PSs.nox (pss_one (ps_ret (pc C.ratio hr (by decide) (pa_cons (pe_op op_add (pe_ix ix_tup (pv 0) pe_int (fun _ _ => rfl)) (pe_ix ix_tup (pv 0) pe_int (fun _ _ => rfl))) (pa_cons (pe_ix ix_tup (pv 0) pe_int (fun _ _ => rfl)) pa_nil))))), ?_⟩
    exact s_ret (ev_ratio (ev_I0 (ev_top (ev_t hp rfl)) (ev_bot (ev_t hp rfl))) (ev_bot (ev_t hp rfl)) (grow_means hs) (by omega)) k
theorem ev_growth {σ : L2.St} {H : Hp} {ta : TE} {n : Nat} {a : Rat} (ha : Ev ta σ H (RV K n a)) (h : n ≤ 7000) : Ev (tCall (sp_growth K) [] E0 (tCons ta tNil)) σ H (RV K (n + 1) (1 + a)) :=
  ev_call (ea_1 ha mono_RV) fun vs H1 Q _ ⟨v, h1, h2⟩ q' => ⟨v, n, a, h1, h2, h, q'⟩
/-- only the first power back is asked -/
def sp_power (K : PySem.W.Frag) : Sp := fun vs H Q _ => ∃ (x : V) (n : Nat) (a : Rat), vs = [x, .int (-1)] ∧ RV K n a x H ∧ 0 < a ∧ n ≤ 3000 ∧ ∀ v H', Ext H H' → RV K (n + 1) a⁻¹ v H' → Q v H'
theorem ok_power (F : FnP K "power" s_power f fd) (T : Txt mg) (C : Ratio2 P w K mg base) : FnOk P w K mg base CX0 3 f fd ["one", "times"] (sp_power K) := by
  refine F.ok sc_power (fun vs H Q E h => ?_) (fun cdv A outer s H vs Q E hr h => ?_)
  · obtain ⟨x, n, a, rfl, _⟩ := h; rfl
  · obtain ⟨x, n, a, rfl, ⟨p, rfl, hp, hs⟩, ha, hn, k⟩ := h
    refine ⟨_, PSs.nox (pss_cons (ps_par (i := 2) (j := 3) (by rfl) sc_power.nd rfl rfl (by decide) rfl rfl (pa_cons (pe_tup (pa_cons pe_int (pa_cons pe_int pa_nil))) (pa_cons (pe_ifExp (pt_cmpR op_ge (pv 1) pe_int (nomark _)) (pv 0) (pc C.ratio hr (by decide) (pa_cons (pe_ix ix_tup (pv 0) pe_int (fun _ _ => rfl)) (pa_cons (pe_ix ix_tup (pv 0) pe_int (fun _ _ => rfl)) pa_nil)))) pa_nil)) (by rfl))
      (pss_cons (ps_for PassesOwn.never rfl (pi_range1 (by rfl) T.range (pa_cons (pe_callB call_abs (by rfl) T.abs (by decide +kernel) (pa_cons (pv 1) pa_nil)) pa_nil)) (pg_name (i := 4) sc_power.nd rfl (Or.inl rfl))
      (pss_one (ps_set (i := 2) sc_power.nd rfl (Or.inl rfl) (pc C.by_ hr (by decide) (pa_cons (pv 2) (pa_cons (pv 3) pa_nil))))))
      (pss_one (ps_ret (pv 2))))), ?_⟩
    have M := (Means.of hs).inv ha
    have t1 : EvT (tTest (tOp (rI0 fun i j => .bl (decide (j ≤ i))) (tVar 1) (tC (.int 0)))) (start N_power [.ref p, .int (-1)]) H false := et_is (et_test (ev_I0 (ev_i rfl) ev_c)) rfl
    refine q_par (ev_pair (K := K) ev_c ev_c (Means.int (n := 1) (a := 1) (by decide) (by decide))) mono_PV (ev_if t1 (fun h => nomatch h) (fun _ => ev_ratio (ev_bot (ev_t hp rfl)) (ev_top (ev_t hp rfl)) M (by omega))) mono_RV fun v w H1 e1 hv hw => ?_
    refine q_forR1 (n := 1) (ea_1 (ev_abs (ev_i rfl)) mono_is |>.imp fun vs H' _ ⟨v, h1, h2⟩ => by rw [h1, show v = _ from h2]; rfl) (by decide)
      (fun i σ' H' => Ext H H' ∧ ∃ g u, σ' = [some (.ref p), some (.int (-1)), some g, some w, u] ∧ RV K n a⁻¹ w H' ∧ (i = 0 → PV K 1 1 g H') ∧ (i = 1 → RV K (1 + n) (1 * a⁻¹) g H'))
      (fun H2 e2 => ⟨e1.trans e2, v, none, rfl, hw.ext e2, fun _ => hv.ext e2, fun z => absurd z (by decide)⟩) ?_ ?_
    · rintro i σ' H' hi ⟨eH, g, u, rfl, hw', hg, _⟩
      have i0 : i = 0 := by omega
      subst i0
      refine s_asg (ev_by (ev_p (hg rfl) rfl) (ev_r hw' rfl).pv (by omega)) fun x H2 e2 hx => ?_
      exact ⟨eH.trans e2, x, _, rfl, hw'.ext e2, fun z => absurd z (by decide), fun _ => hx⟩
    · rintro σ' H' ⟨eH, g, u, rfl, hw', _, hg⟩
      have hg' := hg rfl
      rw [Rat.one_mul] at hg'
      exact s_ret (ev_r hg' rfl) fun x H2 e2 hx => k x H2 (eH.trans e2) (hx.le (by omega))
theorem ev_power {σ : L2.St} {H : Hp} {ta tb : TE} {n : Nat} {a : Rat} (ha : Ev ta σ H (RV K n a)) (hb : Ev tb σ H (is (.int (-1)))) (h0 : 0 < a) (h : n ≤ 3000) : Ev (tCall (sp_power K) [] E0 (tCons ta (tCons tb tNil))) σ H (RV K (n + 1) a⁻¹) :=
  ev_call (ea_2 ha mono_RV hb mono_is) fun vs H1 Q _ ⟨v, w, h1, h2, h3⟩ q' => ⟨v, n, a, by rw [h1, show w = _ from h3], h2, h0, h, q'⟩
end
end K21
set_option maxHeartbeats 4000000
namespace K21
open PySem PySem.Spec PyProof.Rows L2
theorem getI {xs : List Int} {t : Nat} (h : t < xs.length) : xs[t]? = some (entI xs t) := by
  unfold entI; rw [List.getElem?_eq_getElem h]; rfl
theorem getV {xs : List Int} {t : Nat} (h : t < xs.length) : (xs.map V.int)[t]? = some (.int (entI xs t)) := by
  rw [List.getElem?_map, getI h]; rfl
theorem atV {xs : List Int} {t : Nat} (h : t < xs.length) : atI (xs.map V.int) (t : Int) = some (.int (entI xs t)) := atI_nat (getV h)
theorem sqT_upd {K : PySem.W.Frag} {H : Hp} {l p : Addr} {xs ys : List V} {o : HO} (hl : H l = some (.lst xs)) (h : SqT K H p ys) : SqT K (upd H l o) p ys := by
  rcases h with (h | ⟨u, h⟩) | h
  · exact .inl (.inl (by rw [upd_ne (ne_of h hl (by intro z; cases z))]; exact h))
  · exact .inl (.inr ⟨u, by rw [upd_ne (ne_of h hl (by intro z; cases z))]; exact h⟩)
  · exact .inr h
theorem RV.upd {K : PySem.W.Frag} {H : Hp} {l : Addr} {xs : List V} {o : HO} {n : Nat} {q : Rat} {v : V} (hl : H l = some (.lst xs)) (h : RV K n q v H) : RV K n q v (upd H l o) :=
  let ⟨p, h1, h2, h3⟩ := h; ⟨p, h1, sqT_upd hl h2, h3⟩
section
variable {P : Program} {w : World} {K : PySem.W.Frag} {mg : Str → Option Value} {base : Heap} {f : Addr} {fd : FuncData}
section
variable {σ : L2.St} {H : Hp} {ta tb te : TE}
/-- a written pair of ints is a ratio, where it is one in lowest terms -/
theorem ev_lit {a b : Int} {n : Nat} {q : Rat} (ha : Ev ta σ H (is (.int a))) (hb : Ev tb σ H (is (.int b))) (e1 : q.num = a) (e2 : (q.den : Int) = b) (hs : Sz n q) : Ev (tTup (tCons ta (tCons tb tNil))) σ H (RV K n q) :=
  (eu_2 (K := K) ha hb).imp fun v H' _ ⟨p, h1, h2⟩ => ⟨p, h1, by rw [e1, e2]; exact h2, hs⟩
theorem ev_neg1 {i : Int} : Ev (tUn (rU fun i => .int (-i)) (tC (.int i))) σ H (is (.int (-i))) := ev_un ev_c
/-- a policy's parts -/
theorem ev_pol {i : Nat} {c : Pol} {v : V} (hv : PolV K c v H) (h : σ[i]? = some (some v)) : Ev (tVar i) σ H (PolV K c) := ev_v h fun H' e => hv.ext e
theorem pol_part {c : Pol} {j : Int} {Pj : VP} (ha : Ev ta σ H (PolV K c)) (hb : Ev tb σ H (is (.int j))) (mP : Mono Pj)
    (hj : ∀ (p pl pr pa pd : Addr) (vp : V) (H' : Hp), SqT K H' p [.ref pl, .int (c.age : Int), .ref pr, .ref pa, .ref pd, vp, .int (c.yr : Int)] → SqT K H' pl (c.L.map V.int) → RV K 10 c.i (.ref pr) H' → SqT K H' pa (c.al.map V.int) → SqT K H' pd (c.de.map V.int) → RV K 20 c.p vp H' →
      ∃ x, atI [.ref pl, .int (c.age : Int), .ref pr, .ref pa, .ref pd, vp, .int (c.yr : Int)] j = some x ∧ Pj x H') : Ev (tOp (rIxT K) ta tb) σ H Pj :=
  ev_op ha mono_PolV hb fun v w H1 Q _ ⟨p, pl, pr, pa, pd, vp, h1, h2, h3, h4, h5, h6, h7⟩ hw q => by
    obtain ⟨x, hx, hp⟩ := hj p pl pr pa pd vp H1 h2 h3 h4 h5 h6 h7
    exact ⟨p, _, j, x, h1, hw, h2, hx, q _ _ (Ext.refl _) hp⟩
def TV (K : PySem.W.Frag) (xs : List Int) : VP := fun v H => ∃ p, v = .ref p ∧ SqT K H p (xs.map V.int)
theorem mono_TV {xs : List Int} : Mono (TV K xs) := fun _ _ _ e ⟨p, h1, h2⟩ => ⟨p, h1, e.t h2⟩
theorem pol_L {c : Pol} (ha : Ev ta σ H (PolV K c)) : Ev (tOp (rIxT K) ta (tC (.int 0))) σ H (TV K c.L) := pol_part ha ev_c mono_TV fun p pl pr pa pd vp H' h2 h3 h4 h5 h6 h7 => ⟨_, rfl, pl, rfl, h3⟩
theorem pol_age {c : Pol} (ha : Ev ta σ H (PolV K c)) : Ev (tOp (rIxT K) ta (tC (.int 1))) σ H (is (.int (c.age : Int))) := pol_part ha ev_c mono_is fun p pl pr pa pd vp H' h2 h3 h4 h5 h6 h7 => ⟨_, rfl, rfl⟩
theorem pol_rate {c : Pol} (ha : Ev ta σ H (PolV K c)) : Ev (tOp (rIxT K) ta (tC (.int 2))) σ H (RV K 10 c.i) := pol_part ha ev_c mono_RV fun p pl pr pa pd vp H' h2 h3 h4 h5 h6 h7 => ⟨_, rfl, h4⟩
theorem pol_al {c : Pol} (ha : Ev ta σ H (PolV K c)) : Ev (tOp (rIxT K) ta (tC (.int 3))) σ H (TV K c.al) := pol_part ha ev_c mono_TV fun p pl pr pa pd vp H' h2 h3 h4 h5 h6 h7 => ⟨_, rfl, pa, rfl, h5⟩
theorem pol_de {c : Pol} (ha : Ev ta σ H (PolV K c)) : Ev (tOp (rIxT K) ta (tC (.int 4))) σ H (TV K c.de) := pol_part ha ev_c mono_TV fun p pl pr pa pd vp H' h2 h3 h4 h5 h6 h7 => ⟨_, rfl, pd, rfl, h6⟩
theorem pol_p {c : Pol} (ha : Ev ta σ H (PolV K c)) : Ev (tOp (rIxT K) ta (tC (.int 5))) σ H (RV K 20 c.p) := pol_part ha ev_c mono_RV fun p pl pr pa pd vp H' h2 h3 h4 h5 h6 h7 => ⟨_, rfl, h7⟩
theorem pol_yr {c : Pol} (ha : Ev ta σ H (PolV K c)) : Ev (tOp (rIxT K) ta (tC (.int 6))) σ H (is (.int (c.yr : Int))) := pol_part ha ev_c mono_is fun p pl pr pa pd vp H' h2 h3 h4 h5 h6 h7 => ⟨_, rfl, rfl⟩
theorem ev_tv {i : Nat} {xs : List Int} {v : V} (hv : TV K xs v H) (h : σ[i]? = some (some v)) : Ev (tVar i) σ H (TV K xs) := ev_v h fun H' e => mono_TV _ _ _ e hv
theorem ev_lenT {xs : List Int} (ha : Ev ta σ H (TV K xs)) : Ev (tCB (fun xs H Q => ∃ p ys, xs = [.ref p] ∧ (SqL K H p ys ∨ SqT K H p ys) ∧ Q (.int ys.length) H) (tCons ta tNil)) σ H (is (.int (xs.length : Int))) :=
  ev_to (ev_len (K := K) (ha.imp fun v H' _ ⟨p, h1, h2⟩ => ⟨p, h1, .inr h2⟩)) (by rw [List.length_map])
theorem ev_atT {xs : List Int} {t : Nat} (ha : Ev ta σ H (TV K xs)) (hb : Ev tb σ H (is (.int (t : Int)))) (ht : t < xs.length) : Ev (tOp (rIxT K) ta tb) σ H (is (.int (entI xs t))) := ev_ixT ha hb (atV ht)
end
/-! ### entry(payments, time), span_of(policy) -/
def sp_entry (K : PySem.W.Frag) : Sp := fun vs H Q _ => ∃ (x : V) (t : Nat) (xs : List Int), vs = [x, .int (t : Int)] ∧ TV K xs x H ∧ Pays xs ∧ ∀ v H', Ext H H' → RV K 20 (ent xs t) v H' → Q v H'
theorem ok_entry (F : FnP K "entry" s_entry f fd) (T : Txt mg) : FnOk P w K mg base CX0 1 f fd ["payments", "time"] (sp_entry K) := by
  refine F.ok sc_entry (fun vs H Q E h => ?_) (fun cdv A outer s H vs Q E hr h => ?_)
  · obtain ⟨x, t, xs, rfl, _⟩ := h; rfl
  · obtain ⟨x, t, xs, rfl, hx, hs, k⟩ := h
    refine ⟨_, PSs.nox (pss_one (ps_ret (pe_ifExp (pt_cmpR op_lt (pv 1) (pe_callB call_len_seq (by rfl) T.len PySem.boot_len (pa_cons (pv 0) pa_nil)) (nomark _)) (pe_tup (pa_cons (pe_ix ix_tup (pv 0) (pv 1) (fun _ _ => rfl)) (pa_cons pe_int pa_nil))) (pe_tup (pa_cons pe_int (pa_cons pe_int pa_nil)))))), ?_⟩
    have t1 : EvT (tTest (tOp (rI0 fun i j => .bl (decide (i < j))) (tVar 1) (tCB (fun xs H Q => ∃ p ys, xs = [.ref p] ∧ (SqL K H p ys ∨ SqT K H p ys) ∧ Q (.int ys.length) H) (tCons (tVar 0) tNil)))) (start N_entry [x, .int (t : Int)]) H (decide ((t : Int) < (xs.length : Int))) := et_test (ev_I0 (ev_i rfl) (ev_lenT (ev_tv hx rfl)))
    have sz : Sz 20 (ent xs t) := Sz.int (entI_sz hs t) (by decide)
    refine s_ret (ev_if t1 (fun h => ?_) (fun h => ?_)) k
    · exact ev_lit (ev_atT (ev_tv hx rfl) (ev_i rfl) (by have := of_decide_eq_true h; omega)) ev_c rfl rfl sz
    · have e : entI xs t = 0 := by
        have := of_decide_eq_false h
        unfold entI; rw [List.getElem?_eq_none (by omega)]; rfl
      exact ev_lit ev_c ev_c (by show entI xs t = 0; exact e) rfl sz
theorem ev_entry {σ : L2.St} {H : Hp} {ta tb : TE} {xs : List Int} {t : Nat} (ha : Ev ta σ H (TV K xs)) (hb : Ev tb σ H (is (.int (t : Int)))) (hs : Pays xs) : Ev (tCall (sp_entry K) [] E0 (tCons ta (tCons tb tNil))) σ H (RV K 20 (ent xs t)) :=
  ev_call (ea_2 ha mono_TV hb mono_is) fun vs H1 Q _ ⟨v, w, h1, h2, h3⟩ q' => ⟨v, t, xs, by rw [h1, show w = _ from h3], h2, hs, q'⟩
def sp_span_of (K : PySem.W.Frag) : Sp := fun vs H Q _ => ∃ (x : V) (c : Pol), vs = [x] ∧ PolV K c x H ∧ c.Ok ∧ ∀ v H', Ext H H' → is (.int (c.n : Int)) v H' → Q v H'
theorem ok_span_of (F : FnP K "span_of" s_span_of f fd) (T : Txt mg) : FnOk P w K mg base CX0 1 f fd ["policy"] (sp_span_of K) := by
  refine F.ok sc_span_of (fun vs H Q E h => ?_) (fun cdv A outer s H vs Q E hr h => ?_)
  · obtain ⟨x, c, rfl, _⟩ := h; rfl
  · obtain ⟨x, c, rfl, hx, ok, k⟩ := h
    refine ⟨_, PSs.nox (pss_one (ps_ret (pe_op op_sub (pe_op op_sub (pe_callB call_len_seq (by rfl) T.len PySem.boot_len (pa_cons (pe_ix ix_tup (pv 0) pe_int (fun _ _ => rfl)) pa_nil)) pe_int) (pe_ix ix_tup (pv 0) pe_int (fun _ _ => rfl))))), ?_⟩
    exact s_ret (ev_to (ev_I0 (ev_I0 (ev_lenT (pol_L (ev_pol hx rfl))) ev_c) (pol_age (ev_pol hx rfl))) (by unfold Pol.n; have := ok.age; congr 1; omega)) k
theorem ev_span_of {σ : L2.St} {H : Hp} {ta : TE} {c : Pol} (ha : Ev ta σ H (PolV K c)) (ok : c.Ok) : Ev (tCall (sp_span_of K) [] E0 (tCons ta tNil)) σ H (is (.int (c.n : Int))) :=
  ev_call (ea_1 ha mono_PolV) fun vs H1 Q _ ⟨v, h1, h2⟩ q' => ⟨v, c, h1, h2, ok, q'⟩
structure Ratio3 (P : Program) (w : World) (K : PySem.W.Frag) (mg : Str → Option Value) (base : Heap) : Prop extends Ratio2 P w K mg base where
  entry : Callee P w K mg base "entry" 1 ["payments", "time"] (sp_entry K)
/-! ### part_dying(policy, time), net_alive(policy, time) -/
theorem q_means {a b : Int} (ha : 0 ≤ a ∧ a ≤ 1000000) (hb : 0 < b ∧ b ≤ 1000000) : Means 20 (b - a) b (((b : Int) : Rat) - ((a : Int) : Rat) |> (· / ((b : Int) : Rat))) where
  pos := hb.1
  eq := by rw [Rat.divInt_eq_div, Rat.intCast_sub]
  sa := by have : (2 : Nat) ^ 20 = 1048576 := by decide
           omega
  sb := by have : (2 : Nat) ^ 20 = 1048576 := by decide
           omega
def sp_part_dying (K : PySem.W.Frag) : Sp := fun vs H Q _ => ∃ (x : V) (t : Nat) (c : Pol), vs = [x, .int (t : Int)] ∧ PolV K c x H ∧ c.Ok ∧ t < c.n ∧ ∀ v H', Ext H H' → RV K 20 (qOf c.lf t) v H' → Q v H'
theorem ok_part_dying (F : FnP K "part_dying" s_part_dying f fd) (C : Ratio1 P w K mg base) : FnOk P w K mg base CX0 2 f fd ["policy", "time"] (sp_part_dying K) := by
  refine F.ok sc_part_dying (fun vs H Q E h => ?_) (fun cdv A outer s H vs Q E hr h => ?_)
  · obtain ⟨x, t, c, rfl, _⟩ := h; rfl
  · obtain ⟨x, t, c, rfl, hx, ok, ht, k⟩ := h
    refine ⟨_, PSs.nox (pss_cons (ps_par (i := 2) (j := 3) (by rfl) sc_part_dying.nd rfl rfl (by decide) rfl rfl (pa_cons (pe_ix ix_tup (pv 0) pe_int (fun _ _ => rfl)) (pa_cons (pe_op op_add (pe_ix ix_tup (pv 0) pe_int (fun _ _ => rfl)) (pv 1)) pa_nil)) (by rfl))
      (pss_one (ps_ret (pc C.ratio hr (by decide) (pa_cons (pe_op op_sub (pe_ix ix_tup (pv 2) (pv 3) (fun _ _ => rfl)) (pe_ix ix_tup (pv 2) (pe_op op_add (pv 3) pe_int) (fun _ _ => rfl))) (pa_cons (pe_ix ix_tup (pv 2) (pv 3) (fun _ _ => rfl)) pa_nil)))))), ?_⟩
    refine q_par (pol_L (ev_pol hx rfl)) mono_TV (ev_to (ev_I0 (pol_age (ev_pol hx rfl)) (ev_i rfl)) (y := .int ((c.age + t : Nat) : Int)) (by congr 1)) mono_is fun v w H1 e1 hv hw => ?_
    obtain rfl : w = _ := hw
    have hn : t < c.L.length - 1 - c.age := ht
    have l1 : c.age + t < c.L.length := by omega
    have l2 : c.age + t + 1 < c.L.length := by omega
    have ha := ev_atT (tb := tVar 3) (ev_tv (i := 2) (σ := (List.set (List.set (start N_part_dying [x, .int (t : Int)]) 2 (some v)) 3 (some (.int ((c.age + t : Nat) : Int))))) hv rfl) (ev_i rfl) l1
    refine s_ret (ev_ratio (ev_I0 ha (ev_atT (t := c.age + t + 1) (ev_tv hv rfl) (ev_to (ev_I0 (ev_i rfl) ev_c) (by congr 1)) l2)) ha (q_means (ok.lsz _) ⟨ok.lpos ht, (ok.lsz _).2⟩) (by decide)) fun v2 H2 e2 h2 => k _ _ (e1.trans e2) h2
theorem ev_part_dying {σ : L2.St} {H : Hp} {ta tb : TE} {c : Pol} {t : Nat} (ha : Ev ta σ H (PolV K c)) (hb : Ev tb σ H (is (.int (t : Int)))) (ok : c.Ok) (ht : t < c.n) : Ev (tCall (sp_part_dying K) [] E0 (tCons ta (tCons tb tNil))) σ H (RV K 20 (qOf c.lf t)) :=
  ev_call (ea_2 ha mono_PolV hb mono_is) fun vs H1 Q _ ⟨v, w, h1, h2, h3⟩ q' => ⟨v, t, c, by rw [h1, show w = _ from h3], h2, ok, ht, q'⟩
def sp_net_alive (K : PySem.W.Frag) : Sp := fun vs H Q _ => ∃ (x : V) (t : Nat) (c : Pol), vs = [x, .int (t : Int)] ∧ PolV K c x H ∧ c.Ok ∧ ∀ v H', Ext H H' → RV K 41 (c.net t) v H' → Q v H'
theorem ok_net_alive (F : FnP K "net_alive" s_net_alive f fd) (T : Txt mg) (C : Ratio3 P w K mg base) : FnOk P w K mg base CX0 3 f fd ["policy", "time"] (sp_net_alive K) := by
  refine F.ok sc_net_alive (fun vs H Q E h => ?_) (fun cdv A outer s H vs Q E hr h => ?_)
  · obtain ⟨x, t, c, rfl, _⟩ := h; rfl
  · obtain ⟨x, t, c, rfl, hx, ok, k⟩ := h
    refine ⟨_, PSs.nox (pss_cons (ps_set (i := 2) sc_net_alive.nd rfl (Or.inl rfl) (pe_ifExp (pt_cmpR op_lt (pv 1) (pe_ix ix_tup (pv 0) pe_int (fun _ _ => rfl)) (nomark _)) (pe_ix ix_tup (pv 0) pe_int (fun _ _ => rfl)) (pe_tup (pa_cons pe_int (pa_cons pe_int pa_nil)))))
      (pss_one (ps_ret (pc C.minus hr (by decide) (pa_cons (pc C.entry hr (by decide) (pa_cons (pe_ix ix_tup (pv 0) pe_int (fun _ _ => rfl)) (pa_cons (pv 1) pa_nil))) (pa_cons (pv 2) pa_nil)))))), ?_⟩
    refine q_asg (P := RV K 20 (if t < c.yr then c.p else 0)) (ev_if (et_test (ev_I0 (ev_i rfl) (pol_yr (ev_pol hx rfl)))) (fun h => ?_) (fun h => ?_)) fun v H1 e1 hv => ?_
    · have : t < c.yr := by have := of_decide_eq_true h; omega
      rw [if_pos this]; exact pol_p (ev_pol hx rfl)
    · have : ¬ t < c.yr := by have := of_decide_eq_false h; omega
      rw [if_neg this]; exact ev_lit ev_c ev_c rfl rfl (by constructor <;> decide)
    · exact s_ret (ev_minus (ev_entry (pol_al (ev_pol (hx.ext e1) rfl)) (ev_i rfl) ok.al).pv (ev_r hv rfl).pv (by decide)) fun v2 H2 e2 h2 => k _ _ (e1.trans e2) h2
theorem ev_net_alive {σ : L2.St} {H : Hp} {ta tb : TE} {c : Pol} {t : Nat} (ha : Ev ta σ H (PolV K c)) (hb : Ev tb σ H (is (.int (t : Int)))) (ok : c.Ok) : Ev (tCall (sp_net_alive K) [] E0 (tCons ta (tCons tb tNil))) σ H (RV K 41 (c.net t)) :=
  ev_call (ea_2 ha mono_PolV hb mono_is) fun vs H1 Q _ ⟨v, w, h1, h2, h3⟩ q' => ⟨v, t, c, by rw [h1, show w = _ from h3], h2, ok, q'⟩
structure Ratio4 (P : Program) (w : World) (K : PySem.W.Frag) (mg : Str → Option Value) (base : Heap) : Prop extends Ratio3 P w K mg base where
  growth : Callee P w K mg base "growth" 2 ["rate"] (sp_growth K)
  power : Callee P w K mg base "power" 3 ["one", "times"] (sp_power K)
  span_of : Callee P w K mg base "span_of" 1 ["policy"] (sp_span_of K)
  part_dying : Callee P w K mg base "part_dying" 2 ["policy", "time"] (sp_part_dying K)
  net_alive : Callee P w K mg base "net_alive" 3 ["policy", "time"] (sp_net_alive K)
/-! ### reserves_of(policy) -/
/-- the sizes of the reserves with m years left -/
def Bd (m : Nat) : Nat := 120 * m + 1
/-- the reserves at all times from t on, and 0 behind them -/
def ResL (K : PySem.W.Frag) (c : Pol) (t : Nat) (xs : List V) (H : Hp) : Prop := xs.length + t = c.n + 1 ∧ ∀ j x, xs[j]? = some x → RV K (Bd (c.n - (t + j))) (c.res (t + j)) x H
theorem ResL.ext {c : Pol} {t : Nat} {xs : List V} {H H' : Hp} (h : ResL K c t xs H) (e : Ext H H') : ResL K c t xs H' := ⟨h.1, fun j x hj => (h.2 j x hj).ext e⟩
theorem ResL.upd {c : Pol} {t : Nat} {xs ys : List V} {H : Hp} {l : Addr} {o : HO} (hl : H l = some (.lst ys)) (h : ResL K c t xs H) : ResL K c t xs (upd H l o) := ⟨h.1, fun j x hj => (h.2 j x hj).upd hl⟩
def sp_reserves_of (K : PySem.W.Frag) : Sp := fun vs H Q _ => ∃ (x : V) (c : Pol), vs = [x] ∧ PolV K c x H ∧ c.Ok ∧ ∀ l xs H', Ext H H' → H l = none → H' l = some (.lst xs) → ResL K c 0 xs H' → Q (.ref l) H'
theorem ok_reserves_of (F : FnP K "reserves_of" s_reserves_of f fd) (T : Txt mg) (C : Ratio4 P w K mg base) : FnOk P w K mg base CX0 4 f fd ["policy"] (sp_reserves_of K) := by
  refine F.ok sc_reserves_of (fun vs H Q E h => ?_) (fun cdv A outer s H vs Q E hr h => ?_)
  · obtain ⟨x, c, rfl, _⟩ := h; rfl
  · obtain ⟨x, c, rfl, hx, ok, k⟩ := h
    refine ⟨_, PSs.nox (pss_cons (ps_par (i := 1) (j := 2) (by rfl) sc_reserves_of.nd rfl rfl (by decide) rfl rfl (pa_cons (pe_lst (pa_cons (pe_tup (pa_cons pe_int (pa_cons pe_int pa_nil))) pa_nil)) (pa_cons (pc C.power hr (by decide) (pa_cons (pc C.growth hr (by decide) (pa_cons (pe_ix ix_tup (pv 0) pe_int (fun _ _ => rfl)) pa_nil)) (pa_cons (pe_un un_neg pe_int) pa_nil))) pa_nil)) (by rfl))
      (pss_cons (ps_for PassesOwn.never rfl (pi_range3 (by rfl) T.range (pa_cons (pe_op op_sub (pc C.span_of hr (by decide) (pa_cons (pv 0) pa_nil)) pe_int) (pa_cons (pe_un un_neg pe_int) (pa_cons (pe_un un_neg pe_int) pa_nil)))) (pg_name (i := 3) sc_reserves_of.nd rfl (Or.inl rfl))
      (pss_cons (ps_set (i := 4) sc_reserves_of.nd rfl (Or.inl rfl) (pc C.part_dying hr (by decide) (pa_cons (pv 0) (pa_cons (pv 3) pa_nil))))
      (pss_cons (ps_set (i := 5) sc_reserves_of.nd rfl (Or.inl rfl) (pc C.plus hr (by decide) (pa_cons (pc C.by_ hr (by decide) (pa_cons (pv 4) (pa_cons (pc C.entry hr (by decide) (pa_cons (pe_ix ix_tup (pv 0) pe_int (fun _ _ => rfl)) (pa_cons (pv 3) pa_nil))) pa_nil))) (pa_cons (pc C.by_ hr (by decide) (pa_cons (pc C.minus hr (by decide) (pa_cons (pe_tup (pa_cons pe_int (pa_cons pe_int pa_nil))) (pa_cons (pv 4) pa_nil))) (pa_cons (pe_ix ix_list (pv 1) pe_int (fun _ _ => rfl)) pa_nil))) pa_nil))))
      (pss_one (ps_expr (pe_bm PySem.F.plainAttrs_list PySem.F.slot_list_insert PySem.F.type_list_insert mt_insert (pv 1) (pa_cons pe_int (pa_cons (pc C.plus hr (by decide) (pa_cons (pc C.net_alive hr (by decide) (pa_cons (pv 0) (pa_cons (pv 3) pa_nil))) (pa_cons (pc C.by_ hr (by decide) (pa_cons (pv 2) (pa_cons (pv 5) pa_nil))) pa_nil))) pa_nil))))))))
      (pss_one (ps_ret (pv 1))))), ?_⟩
    have gr := ok.gr
    have n1 := ok.n_le
    -- found, step
    refine q_par (el_lst (S := fun vs H => ∃ y, vs = [y] ∧ RV K 1 0 y H) (ea_1 (ev_lit ev_c ev_c rfl rfl (by constructor <;> decide)) mono_RV) (fun vs H H' e ⟨y, h1, h2⟩ => ⟨y, h1, h2.ext e⟩) (fun vs H ⟨y, h1, _⟩ => by rw [h1]; exact (by decide : 1 ≤ 100000))) (mono_NewL fun vs H H' e ⟨y, h1, h2⟩ => ⟨y, h1, h2.ext e⟩)
      (ev_power (ev_growth (pol_rate (ev_pol hx rfl)) (by decide)) ev_neg1 gr (by decide)) mono_RV fun v st H2 e12 hv hst => ?_
    obtain ⟨l, ys, rfl, hfree, hlst, y, rfl, hy⟩ := hv
    -- the loop
    refine q_forDown (n := c.n) ?_ (by omega) (fun i σ' H' => ∃ xs u1 u2 u3, σ' = [some x, some (.ref l), some st, u1, u2, u3] ∧ Ext H H' ∧ H' l = some (.lst xs) ∧ ResL K c (c.n - i) xs H' ∧ RV K 12 c.v st H') ?_ ?_ ?_
    · refine (ea_3 (ev_I0 (ev_span_of (ev_pol (hx.ext e12) rfl) ok) ev_c) mono_is ev_neg1 mono_is ev_neg1 mono_is).imp fun vs H' _ ⟨a, b, d, h1, h2, h3, h4⟩ => ?_
      rw [h1, show a = _ from h2, show b = _ from h3, show d = _ from h4]
    · intro H3 e3
      refine ⟨[y], none, none, none, rfl, e12.trans e3, e3.lst hlst, ⟨?_, fun j z hj => ?_⟩, hst.ext e3⟩
      · show 1 + (c.n - 0) = c.n + 1; omega
      · cases j with
        | zero =>
          cases hj
          have : c.res (c.n - 0 + 0) = 0 := res_end _ _ _ _ _
          rw [this]
          exact (hy.ext e3).le (by unfold Bd; omega)
        | succ j => cases hj
    · rintro i σ' H' hi ⟨xs, u1, u2, u3, rfl, eH, hll, hr1, hst'⟩
      have ht : c.n - (i + 1) < c.n := by omega
      have e4 : c.n - (i + 1) + 1 = c.n - i := by omega
      refine q_asg (ev_part_dying (ev_pol (hx.ext eH) rfl) (ev_i rfl) ok ht) fun dy H3 e3 hdy => ?_
      -- later
      have h0 : ∃ z, xs[0]? = some z := by
        have := hr1.1
        exact ⟨xs[0]'(by omega), List.getElem?_eq_getElem (by omega)⟩
      obtain ⟨z, hz⟩ := h0
      have hz' := hr1.2 0 z hz
      rw [Nat.add_zero] at hz'
      have hz2 : RV K (Bd i) (c.res (c.n - i)) z H' := by have := hz'; rw [show c.n - (c.n - i) = i by omega] at this; exact this
      have pol3 := hx.ext (eH.trans e3)
      have tz : ∀ {σ : L2.St} {H4 : Hp}, Ext H' H4 → σ[1]? = some (some (.ref l)) → Ev (tOp (rIxL K) (tVar 1) (tC (.int 0))) σ H4 (RV K (Bd i) (c.res (c.n - i))) := fun {σ H4} e5 hσ =>
        (ev_ixL (K := K) (xs := xs) (x := z) (i := 0) (ev_v hσ fun H5 e6 => ⟨l, rfl, SqL.of ((e5.trans e6).lst hll)⟩) ev_c (atI_nat (j := 0) hz)).imp fun v H5 e6 hv => by rw [show v = z from hv]; exact hz2.ext (e5.trans e6)
      refine q_asg (ev_plus (ev_by (ev_r hdy rfl).pv (ev_entry (pol_de (ev_pol pol3 rfl)) (ev_i rfl) ok.de).pv (by decide)).pv (ev_by (ev_minus (ev_pair (K := K) ev_c ev_c (Means.int (n := 1) (a := 1) (by decide) (by decide))) (ev_r hdy rfl).pv (by decide)).pv (tz e3 rfl).pv (by unfold Bd; omega)).pv (by unfold Bd; omega)) fun la H4 e4' hla => ?_
      -- found.insert(0, ..)
      have e34 := e3.trans e4'
      have l6 : xs.length ≤ 100 := by have := hr1.1; omega
      refine s_ins (l := l) (xs := xs) (ev_i rfl) ev_c (ev_plus (ev_net_alive (ev_pol (hx.ext (eH.trans e34)) rfl) (ev_i rfl) ok).pv (ev_by (ev_r (hst'.ext e34) rfl).pv (ev_r hla rfl).pv (by unfold Bd; omega)).pv (by unfold Bd; omega)) (fun H5 e5 => (e34.trans e5).lst hll) (by omega) fun b H6 e6 h3 => ?_
      have h6 : H6 l = some (.lst xs) := (e34.trans e6).lst hll
      refine ⟨b :: xs, some (.int ((c.n - (i + 1) : Nat) : Int)), some dy, some la, rfl, (eH.trans (e34.trans e6)).mut hfree, ?_, ⟨?_, fun j u hj => ?_⟩, (hst'.ext (e34.trans e6)).upd h6⟩
      · rw [upd_same]
      · have := hr1.1
        rw [List.length_cons]; omega
      · cases j with
        | zero =>
          cases hj
          have e9 : c.res (c.n - (i + 1) + 0) = c.net (c.n - (i + 1)) + c.v * (qOf c.lf (c.n - (i + 1)) * ent c.de (c.n - (i + 1)) + (1 - qOf c.lf (c.n - (i + 1))) * c.res (c.n - i)) := by
            have := res_at (n := c.n) (net := c.net) (q := qOf c.lf) (d := ent c.de) (v := c.v) ht
            rw [e4] at this; exact this
          rw [e9]
          exact (h3.upd h6).le (by unfold Bd; omega)
        | succ j =>
          have h7 := hr1.2 j u hj
          rw [show c.n - i + j = c.n - (i + 1) + (j + 1) by omega] at h7
          exact (h7.ext (e34.trans e6)).upd h6
    · rintro σ' H' ⟨xs, u1, u2, u3, rfl, eH, hll, hr1, hst'⟩
      rw [Nat.sub_self] at hr1
      have hrt : Ev (tVar 1) _ H' (is (.ref l)) := ev_i (σ := [some x, some (.ref l), some st, u1, u2, u3]) rfl
      exact s_ret hrt fun v H2 e2 hv => by
        obtain rfl : v = .ref l := hv
        exact k l xs H2 (eH.trans e2) hfree (e2.lst hll) (hr1.ext e2)
end
end K21
set_option maxHeartbeats 4000000
namespace K21
open PySem PySem.Spec PyProof.Rows L2
/-! ### the fair premium in numbers -/
theorem resv_congr {n : Nat} {net net' q q' d d' : Nat → Rat} {v : Rat} (hn : ∀ t, t < n → net t = net' t) (hq : ∀ t, t < n → q t = q' t) (hd : ∀ t, t < n → d t = d' t) : ∀ m, m ≤ n → resv n net q d v m = resv n net' q' d' v m := by
  intro m
  induction m with
  | zero => intro _; rfl
  | succ m ih =>
    intro h
    have t : n - (m + 1) < n := by omega
    show net _ + v * (q _ * d _ + (1 - q _) * resv n net q d v m) = net' _ + v * (q' _ * d' _ + (1 - q' _) * resv n net' q' d' v m)
    rw [hn _ t, hq _ t, hd _ t, ih (by omega)]
theorem res_congr {n : Nat} {net net' q q' d d' : Nat → Rat} {v : Rat} (hn : ∀ t, t < n → net t = net' t) (hq : ∀ t, t < n → q t = q' t) (hd : ∀ t, t < n → d t = d' t) (t : Nat) : res n net q d v t = res n net' q' d' v t := resv_congr hn hq hd (n - t) (Nat.sub_le _ _)
def Pol.c0 (c : Pol) : Pol := { c with p := 0 }
def Pol.c1 (c : Pol) : Pol := { c with al := [], de := [], p := -1 }
def Pol.fair (c : Pol) : Rat := c.c0.res 0 / c.c1.res 0
def Pol.fairly (c : Pol) : Pol := { c with p := c.fair }
theorem Pays.nil : Pays [] := ⟨by decide, fun x h => absurd h (by simp)⟩
theorem Pol.Ok.c0 {c : Pol} (h : c.Ok) : c.c0.Ok := ⟨h.len, h.age, h.sz, h.down, h.last, h.pos, h.rate, h.gr, h.al, h.de, h.yr⟩
theorem Pol.Ok.c1 {c : Pol} (h : c.Ok) : c.c1.Ok := ⟨h.len, h.age, h.sz, h.down, h.last, h.pos, h.rate, h.gr, Pays.nil, Pays.nil, h.yr⟩
theorem Pol.Ok.fairly {c : Pol} (h : c.Ok) : c.fairly.Ok := ⟨h.len, h.age, h.sz, h.down, h.last, h.pos, h.rate, h.gr, h.al, h.de, h.yr⟩
theorem ent_nil (t : Nat) : ent [] t = 0 := rfl
theorem Pol.Ok.v_pos {c : Pol} (h : c.Ok) : 0 ≤ c.v := Rat.le_of_lt (Rat.inv_pos.mpr h.gr)
theorem Pol.Ok.lf_nn {c : Pol} (h : c.Ok) (t : Nat) : 0 ≤ c.lf t := Rat.intCast_nonneg.mpr (h.lsz _).1
theorem Pol.Ok.lf_pos {c : Pol} (h : c.Ok) {t : Nat} (ht : t < c.n) : 0 < c.lf t := Rat.intCast_pos.mpr (h.lpos ht)
theorem Pol.Ok.q_le {c : Pol} (h : c.Ok) (t : Nat) (ht : t < c.n) : qOf c.lf t ≤ 1 := by
  have h1 := h.lf_pos ht
  have h2 := h.lf_nn (t + 1)
  unfold qOf
  refine Rat.not_lt.mp fun z => ?_
  have := (Rat.lt_div_iff h1).mp z
  grind
theorem Pol.c1_res {c : Pol} (hy : c.n ≤ c.yr) (t : Nat) : c.c1.res t = K21.res c.n (fun _ => 0 - (-1)) (qOf c.lf) (fun _ => 0) c.v t := by
  show K21.res c.n c.c1.net (qOf c.lf) (ent []) c.v t = _
  refine res_congr (fun t ht => ?_) (fun _ _ => rfl) (fun _ _ => rfl) t
  show ent [] t - (if t < c.yr then (-1 : Rat) else 0) = 0 - (-1)
  rw [if_pos (by omega)]; rfl
theorem Pol.p_res {c : Pol} (p : Rat) (hy : c.n ≤ c.yr) (t : Nat) : ({ c with p := p } : Pol).res t = K21.res c.n (fun k => ent c.al k - p) (qOf c.lf) (ent c.de) c.v t := by
  show K21.res c.n ({ c with p := p } : Pol).net (qOf c.lf) (ent c.de) c.v t = _
  refine res_congr (fun t ht => ?_) (fun _ _ => rfl) (fun _ _ => rfl) t
  show ent c.al t - (if t < c.yr then p else 0) = ent c.al t - p
  rw [if_pos (by omega)]
theorem Pol.Ok.unit_pos {c : Pol} (h : c.Ok) (hy : c.n ≤ c.yr) : 0 < c.c1.res 0 := by
  rw [Pol.c1_res hy]
  have := K21.unit_pos (v := c.v) h.v_pos h.q_le 0 h.n_pos
  grind
theorem Pol.Ok.fair_zero {c : Pol} (h : c.Ok) (hy : c.n ≤ c.yr) : c.fairly.res 0 = 0 := by
  have e : c.fairly.res 0 = _ := Pol.p_res (c := c) c.fair hy 0
  rw [e]
  have e0 : c.c0.res 0 = _ := Pol.p_res (c := c) 0 hy 0
  unfold Pol.fair
  rw [e0, Pol.c1_res hy]
  exact K21.fair_zero h.n_pos h.v_pos h.q_le
section
variable {P : Program} {w : World} {K : PySem.W.Frag} {mg : Str → Option Value} {base : Heap} {f : Addr} {fd : FuncData}
section
variable {σ : L2.St} {H : Hp} {ta tb te : TE} {tl th : TO}
def EvO (to : TO) (σ : L2.St) (H : Hp) (o : Option Int) : Prop := ∀ H1, Ext H H1 → ∀ Q : Option Int → Hp → Prop, (∀ H2, Ext H1 H2 → Q o H2) → to σ H1 Q
theorem eo_none : EvO tNoPart σ H none := fun H1 _ _ q => q H1 (Ext.refl H1)
theorem eo_some {i : Int} (h : Ev te σ H (is (.int i))) : EvO (tPart te) σ H (some i) := fun H1 e _ q => h H1 e _ fun v H2 e2 p => ⟨i, p, q H2 e2⟩
theorem ev_slT {xs : List V} {lo hi : Option Int} (ha : Ev te σ H (fun v H => ∃ p, v = .ref p ∧ SqT K H p xs)) (hl : EvO tl σ H lo) (hu : EvO th σ H hi) : Ev (tSl (rSlA K) te tl th) σ H (fun v H => ∃ p, v = .ref p ∧ SqT K H p (cutV xs lo hi)) := fun H1 e Q q =>
  ha H1 e _ fun v H2 e2 ⟨p, h1, h2⟩ => hl H2 (e.trans e2) _ fun H3 e3 => hu H3 ((e.trans e2).trans e3) _ fun H4 e4 => by
    have h4 := (e3.trans e4).t h2
    refine ⟨p, xs, h1, h4, fun z => q _ _ ((e2.trans e3).trans e4) ⟨p, rfl, ?_⟩, fun z r hr => q _ _ (((e2.trans e3).trans e4).trans (Ext.new hr)) ⟨r, rfl, SqT.of upd_same⟩⟩
    have : cutV xs lo hi = xs := by
      unfold cutV
      rw [z.1, z.2, List.drop_zero, Nat.sub_zero, List.take_length]
    rw [this]; exact h4
theorem ea_star {tr : TA} {xs : List V} {S : List V → Hp → Prop} (h : Ev te σ H (fun v H => ∃ p, v = .ref p ∧ SqT K H p xs)) (hr : EvA tr σ H S) : EvA (StX.tStar K te tr) σ H (fun vs H => ∃ r, vs = xs ++ r ∧ S r H) := fun H1 e _ q =>
  h H1 e _ fun v H2 e2 ⟨p, h1, h2⟩ => ⟨p, xs, h1, .inl h2, hr H2 (e.trans e2) _ fun vs H3 e3 s => q _ H3 (e2.trans e3) ⟨vs, rfl, s⟩⟩
theorem ev_reserves_of {c : Pol} (ha : Ev ta σ H (PolV K c)) (ok : c.Ok) : Ev (tCall (sp_reserves_of K) [] E0 (tCons ta tNil)) σ H (NewL H (ResL K c 0)) := fun H1 e Q q =>
  ha H1 e _ fun x H2 e2 hx => by
    show sp_reserves_of K ([x] ++ []) H2 Q E0
    exact ⟨x, c, rfl, hx, ok, fun l xs H3 e3 hf hl hr => q _ _ (e2.trans e3) ⟨l, xs, rfl, e.fresh (e2.fresh hf), hl, hr⟩⟩
theorem ev_res0 {c : Pol} (ha : Ev ta σ H (PolV K c)) (ok : c.Ok) : Ev (tOp (rIxL K) (tCall (sp_reserves_of K) [] E0 (tCons ta tNil)) (tC (.int 0))) σ H (RV K (Bd c.n) (c.res 0)) := fun H1 e Q q =>
  ev_reserves_of ha ok H1 e _ fun v H2 e2 ⟨l, xs, h1, _, h3, h4⟩ => by
    have hx : ∃ x, xs[0]? = some x := by have := h4.1; exact ⟨xs[0]'(by omega), List.getElem?_eq_getElem (by omega)⟩
    obtain ⟨x, hx⟩ := hx
    have := h4.2 0 x hx
    rw [Nat.add_zero, Nat.sub_zero] at this
    exact ⟨l, xs, 0, x, h1, rfl, SqL.of h3, atI_nat (j := 0) hx, q _ _ e2 this⟩
end
/-! ### changed(policy, alive, dead, premium) -/
def sp_changed (K : PySem.W.Frag) : Sp := fun vs H Q _ => ∃ (x y z u : V) (c : Pol) (al de : List Int) (p : Rat), vs = [x, y, z, u] ∧ PolV K c x H ∧ TV K al y H ∧ TV K de z H ∧ RV K 20 p u H ∧
  ∀ v H', Ext H H' → PolV K { c with al := al, de := de, p := p } v H' → Q v H'
theorem ok_changed (F : FnP K "changed" s_changed f fd) : FnOk P w K mg base CX0 1 f fd ["policy", "alive", "dead", "premium"] (sp_changed K) := by
  refine F.ok sc_changed (fun vs H Q E h => ?_) (fun cdv A outer s H vs Q E hr h => ?_)
  · obtain ⟨x, y, z, u, c, al, de, p, rfl, _⟩ := h; rfl
  · obtain ⟨x, y, z, u, c, al, de, p, rfl, ⟨a, pl, pr, pa, pd, vp, rfl, h2, h3, h4, h5, h6, h7⟩, ⟨ya, rfl, hy⟩, ⟨za, rfl, hz⟩, hu, k⟩ := h
    refine ⟨_, PSs.nox (pss_one (ps_ret (pe_tup (StX.pa_star (pe_slice sl_tupA (pv 0) po_none (po_some pe_int)) (pa_cons (pv 1) (pa_cons (pv 2) (pa_cons (pv 3) (pa_cons (pe_ix ix_tup (pv 0) pe_int (fun _ _ => rfl)) pa_nil)))))))), ?_⟩
    refine s_ret (eu_tup (K := K) (ea_star (ev_slT (ev_t h2 rfl) eo_none (eo_some ev_c)) (ea_cons (ev_i rfl) mono_is (ea_cons (ev_i rfl) mono_is (ea_cons (ev_i rfl) mono_is (ea_cons (ev_ixT (ev_t h2 rfl) ev_c rfl) mono_is ea_nil))))) (fun vs H H' e h => h) (fun vs H h => ?_)) fun v H1 e1 hv => ?_
    · obtain ⟨r, rfl, v1, r1, rfl, _, v2, r2, rfl, _, v3, r3, rfl, _, v4, r4, rfl, _, rfl⟩ := h
      rw [List.length_append]; have := cutV_length [V.ref pl, .int (c.age : Int), .ref pr, .ref pa, .ref pd, vp, .int (c.yr : Int)] none (some 3)
      simp only [List.length_cons, List.length_nil] at this ⊢; omega
    · obtain ⟨b, vs, rfl, hb, r, rfl, v1, r1, rfl, e1', v2, r2, rfl, e2', v3, r3, rfl, e3', v4, r4, rfl, e4', rfl⟩ := hv
      obtain rfl : v1 = _ := e1'
      obtain rfl : v2 = _ := e2'
      obtain rfl : v3 = _ := e3'
      obtain rfl : v4 = _ := e4'
      exact k _ _ e1 ⟨b, pl, pr, ya, za, _, rfl, hb, e1.t h3, h4.ext e1, e1.t hy, e1.t hz, hu.ext e1⟩
theorem ev_changed {σ : L2.St} {H : Hp} {ta tb tc td : TE} {c : Pol} {al de : List Int} {p : Rat} (ha : Ev ta σ H (PolV K c)) (hb : Ev tb σ H (TV K al)) (hc : Ev tc σ H (TV K de)) (hd : Ev td σ H (RV K 20 p)) :
    Ev (tCall (sp_changed K) [] E0 (tCons ta (tCons tb (tCons tc (tCons td tNil))))) σ H (PolV K { c with al := al, de := de, p := p }) :=
  ev_call (ea_cons ha mono_PolV (ea_cons hb mono_TV (ea_cons hc mono_TV (ea_cons hd mono_RV ea_nil)))) fun vs H1 Q _ ⟨x, r1, e1, h1, y, r2, e2, h2, z, r3, e3, h3, u, r4, e4, h4, e5⟩ q' =>
    ⟨x, y, z, u, c, al, de, p, by rw [e1, e2, e3, e4, e5], h1, h2, h3, h4, q'⟩
/-! ### fair_of(policy) -/
structure Ratio5 (P : Program) (w : World) (K : PySem.W.Frag) (mg : Str → Option Value) (base : Heap) : Prop extends Ratio4 P w K mg base where
  reserves_of : Callee P w K mg base "reserves_of" 4 ["policy"] (sp_reserves_of K)
  changed : Callee P w K mg base "changed" 1 ["policy", "alive", "dead", "premium"] (sp_changed K)
def sp_fair_of (K : PySem.W.Frag) : Sp := fun vs H Q _ => ∃ (x : V) (c : Pol), vs = [x] ∧ PolV K c x H ∧ c.Ok ∧ c.n ≤ c.yr ∧ ∀ v H', Ext H H' → RV K (Bd c.n + Bd c.n) c.fair v H' → Q v H'
theorem ok_fair_of (F : FnP K "fair_of" s_fair_of f fd) (C : Ratio5 P w K mg base) : FnOk P w K mg base CX0 5 f fd ["policy"] (sp_fair_of K) := by
  refine F.ok sc_fair_of (fun vs H Q E h => ?_) (fun cdv A outer s H vs Q E hr h => ?_)
  · obtain ⟨x, c, rfl, _⟩ := h; rfl
  · obtain ⟨x, c, rfl, hx, ok, hy, k⟩ := h
    refine ⟨_, PSs.nox (pss_cons (ps_if (pt_cmpR op_eq (pe_ix ix_tup (pv 0) pe_int (fun _ _ => rfl)) pe_int (nomark _)) pss_never pss_nil)
      (pss_cons (ps_set (i := 1) sc_fair_of.nd rfl (Or.inl rfl) (pe_ix ix_list (pc C.reserves_of hr (by decide) (pa_cons (pc C.changed hr (by decide) (pa_cons (pv 0) (pa_cons (pe_ix ix_tup (pv 0) pe_int (fun _ _ => rfl)) (pa_cons (pe_ix ix_tup (pv 0) pe_int (fun _ _ => rfl)) (pa_cons (pe_tup (pa_cons pe_int (pa_cons pe_int pa_nil))) pa_nil))))) pa_nil)) pe_int (fun _ _ => rfl)))
      (pss_cons (ps_set (i := 2) sc_fair_of.nd rfl (Or.inl rfl) (pe_ix ix_list (pc C.reserves_of hr (by decide) (pa_cons (pc C.changed hr (by decide) (pa_cons (pv 0) (pa_cons (pe_tup pa_nil) (pa_cons (pe_tup pa_nil) (pa_cons (pe_tup (pa_cons (pe_un un_neg pe_int) (pa_cons pe_int pa_nil))) pa_nil))))) pa_nil)) pe_int (fun _ _ => rfl)))
      (pss_one (ps_ret (pc C.over hr (by decide) (pa_cons (pv 1) (pa_cons (pv 2) pa_nil)))))))), ?_⟩
    have np := ok.n_pos
    have nl := ok.n_le
    refine q_guard (et_is (et_test (ev_eq (pol_yr (ev_pol hx rfl)) ev_c rfl)) (decide_eq_false fun e => ?_)) fun H1 e1 => ?_
    · have := V.int.inj e; omega
    · refine q_asg (ev_res0 (c := c.c0) (ev_changed (ev_pol (hx.ext e1) rfl) (pol_al (ev_pol (hx.ext e1) rfl)) (pol_de (ev_pol (hx.ext e1) rfl)) (ev_lit ev_c ev_c rfl rfl (by constructor <;> decide))) ok.c0) fun u H2 e2 hu => ?_
      have e02 := e1.trans e2
      refine q_asg (ev_res0 (c := c.c1) (ev_changed (al := []) (de := []) (p := -1) (ev_pol (hx.ext e02) rfl) ((eu_tup (K := K) ea_nil (fun _ _ _ _ h => h) (fun vs H h => by rw [h]; decide)).imp fun v H' _ ⟨p, vs, h1, h2, h3⟩ => ⟨p, h1, by rw [h3] at h2; exact h2⟩)
        ((eu_tup (K := K) ea_nil (fun _ _ _ _ h => h) (fun vs H h => by rw [h]; decide)).imp fun v H' _ ⟨p, vs, h1, h2, h3⟩ => ⟨p, h1, by rw [h3] at h2; exact h2⟩) (ev_lit ev_neg1 ev_c rfl rfl (by constructor <;> decide))) ok.c1) fun un H3 e3 hun => ?_
      have b7 : Bd c.n ≤ 841 := by unfold Bd; omega
      exact s_ret (ev_over (ev_r (hu.ext e3) rfl).pv (ev_r hun rfl).pv (ok.unit_pos hy) (by show Bd c.n + Bd c.n ≤ 7000; omega)) fun v H4 e4 hv => k v H4 (e02.trans (e3.trans e4)) hv
end
end K21
set_option maxHeartbeats 4000000
namespace K21
open PySem PySem.Spec PyProof.Rows L2
/-! ### any(.. for x in ..), all(.. for x in ..) over anything that is walked -/
/-- where an element is evaluated -/
structure EnIn (base : Heap) (scope : Scope) (cenv : Env) (s2 : Shared) : Prop where
  sc : cenv.scope = scope
  gl : cenv.globals = mainGlobals
  bi : cenv.builtins = builtinsNs
  bk : ∀ b o, base.get? b = some o → s2.heap.get? b = some o
structure ElIn (X : Cx) (scope : Scope) (A' : Around) (cenv : Env) (s2 : Shared) : Prop extends EnIn X.base scope cenv s2 where
  hd : A'.handled = none
  dp : A'.depth ≤ X.A.depth + 1
  cl : cenv.cells = cloFrom X.env.cells scope.names []
/-- the element's value at each turn, and nothing else happens -/
def EltG (X : Cx) (P : Addr) (s1 : Shared) (scope : Scope) (x : Str) (elt : Expr) (n : Nat) (Pf : Nat → Value → Prop) (pb : Nat → Bool) : Prop :=
  ∀ (cenv : Env) (A' : Around) (E' : Value → Shared → Prop) (i : Nat) (v : Value) (s2 : Shared) (m2 : Str → Option Value), ElIn X scope A' cenv s2 → i < n → Pf i v → (∀ b o, b ≠ P → s1.heap.get? b = some o → s2.heap.get? b = some o) →
    s2.heap.Ns cenv.locals m2 → m2 x = some v → wpAny (model X.prog X.w) A' (eval elt cenv) (fun y s3 => y = .bool (pb i) ∧ Keeps s2 s3) E' s2
/-- the walk tells the bound of its turn -/
theorem walks_lt {prog : Program} {w : World} {A : Around} {I : Addr} {fp wr : List Addr} {n : Nat} {Pf : Nat → Value → Prop} {St : Nat → Heap → Prop} (W : Walks prog w A I fp wr n Pf St) :
    Walks prog w A I fp wr n (fun i v => i < n ∧ Pf i v) St :=
  { sub := W.sub, frame := W.frame, done := W.done, self := W.self
    item := fun i s Q E hi st hQ => W.item i s Q E hi st fun v h' tk hv hst hk => hQ v h' tk ⟨hi, hv⟩ hst hk }
/-- the generator g, made, ready to be walked in the state s5 -/
def RdyG (X : Cx) (pins : List (Addr × Obj)) (σ : L2.St) (H1 : Hp) (P : Addr) (n : Nat) (pb : Nat → Bool) (g : Addr) (s5 : Shared) : Prop :=
  ∃ (fp wr : List Addr) (G : Array GenState → Array GenState → Prop) (F : Nat → Value → Prop) (St : Nat → Shared → Prop),
    WalksS X.prog X.w X.A.in1 g fp wr G n F St ∧ St 0 s5 ∧ TruthOf X.prog X.w X.A.in1 F pb ∧ ∀ s', Moved wr G s5 s' → ∃ H2, GxR.Tabbed P H1 H2 ∧ Inv X pins σ H2 s'
/-- an iterator just laid -/
def Src (X : Cx) (pins : List (Addr × Obj)) (σ : L2.St) (P : Addr) (scope : Scope) (x : Str) (elt : Expr) (Q' : Value → Shared → Prop) (xv : Value) (s1 : Shared) : Prop :=
  ∃ (H1 : Hp) (o : Obj) (n : Nat) (Pf : Nat → Value → Prop) (St : Nat → Heap → Prop) (fpx : List Addr) (pb : Nat → Bool),
    Inv X pins σ H1 s1 ∧ GxR.TabG H1 P ∧
    (∀ (Q : Value → Shared → Prop) (E : Value → Shared → Prop), Q (.ref s1.heap.objs.size) { s1 with heap := s1.heap.push o } → wpAny (model X.prog X.w) X.A (pyIter xv) Q E s1) ∧
    (∀ A' : Around, A'.handled = none → Walks X.prog X.w A' s1.heap.objs.size fpx [s1.heap.objs.size] n Pf St) ∧
    St 0 (s1.heap.push o) ∧ (∀ b ∈ fpx, b < s1.heap.objs.size + 1 ∧ b ≠ P) ∧ EltG X P s1 scope x elt n Pf pb ∧
    ∀ g s5, RdyG X pins σ H1 P n pb g s5 → Q' (.ref g) s5
section
variable {X : Cx} {pins : List (Addr × Obj)} {σ : L2.St} {H : Hp} {s : Shared}
theorem gen_go {c P : Addr} {elt iter : Expr} {x : Str} {px gpos : Pos} {scope : Scope} {k : Nat} {Q' : Value → Shared → Prop} (hr : Room k X.A) (TB : GxR.TabB X.base X.mg c P) (hcode : X.env.code = .ref c)
    (S : GxR.GenS X.env scope x) (hs : ∀ v, genFold iter X.env v = pure v) (hsrc : wpAny (model X.prog X.w) X.A (eval iter X.env) (Src X pins σ P scope x elt Q') X.xe s) :
    wpAny (model X.prog X.w) X.A (eval (.GeneratorExp elt [⟨.Name x px, iter, [], 0⟩] scope gpos) X.env) Q' X.xe s := by
  refine wpAny_GeneratorExp_walksQD hr.hd S.co (closure_ok S.free) S.cell S.dot S.loc S.kind (Nat.lt_of_le_of_lt (Nat.le_refl _) hr.depth) ?_ hs
  refine thn hsrc fun xv s1 hsx => ?_
  obtain ⟨H1, o, n, Pf, St, fpx, pb, I1, ⟨ps, hP, ht⟩, hit, W, hst, hfp, hel, hQ⟩ := hsx
  refine hit _ _ ?_
  have hPs : s1.heap.get? P = some { cls := .none, data := .fields ps } := I1.hok P _ hP
  have hPlt : P < s1.heap.objs.size := Heap.lt_size hPs
  have hP2 := Heap.get?_push_of_some o hPs
  have cd : PySem.W.CodeHd (s1.heap.push o) c P := TB.code.keeps fun b u e => Heap.get?_push_of_some _ (I1.bk b u e)
  have lim2 := I1.nolimit.push o
  have sz2 : (s1.heap.push o).objs.size = s1.heap.objs.size + 1 := Heap.size_push ..
  -- behind the code object
  have cont : ∀ (code : Value) (h3 : Heap) (tk : Nat) (ps' : Array Value), Heap.ExtBut P (s1.heap.push o) h3 → (s1.heap.push o).objs.size ≤ h3.objs.size → h3.get? P = some { cls := .none, data := .fields ps' } → (∃ more, ps' = ps ++ more) → TriplesOk ps'.toList →
      wpAny (model X.prog X.w) X.A (builtinsFor X.env.globals X.env.builtins) (fun bi s4 =>
        ∃ Ia fp wr n0 Pg Sg pz F, Value.ref s1.heap.objs.size = .ref Ia ∧ (∀ A' : Around, A'.handled = none → Walks X.prog X.w A' Ia fp wr n0 Pg Sg) ∧ Sg 0 s4.heap ∧ (∀ b ∈ fp, b < s4.heap.objs.size) ∧ s4.heap.NoLimit ∧ cStatics ∉ wr ∧
          (∀ href : Heap, (∀ b u, s4.heap.get? b = some u → href.get? b = some u) →
            QuietGenD X.prog X.w (genEnv scope (cloFrom X.env.cells scope.names []) s4.heap.objs.size code bi X.env) x [] elt (List.range s4.heap.objs.size) wr Pg pz F href (X.A.depth + 1) (X.A.units + 8)) ∧
          (∀ a h5 tk5 gs, gs.bare = true → s4.heap.objs.size < a → h5.objs.size = a + 1 → (∀ b u, s4.heap.get? b = some u → h5.get? b = some u) →
            WalksS X.prog X.w X.A.in4 a (a :: s4.heap.objs.size :: List.range s4.heap.objs.size) (s4.heap.objs.size :: wr) (GenOnlyQ s4.gens.size) (passing pz n0 0).length
              (fun j y => ∃ i, (passing pz n0 0)[j]? = some i ∧ F i y) (GenAt X.prog X.w X.A.in4 a s4.gens.size s4.heap.objs.size (List.range s4.heap.objs.size) wr pz n0 F) →
            GenAt X.prog X.w X.A.in4 a s4.gens.size s4.heap.objs.size (List.range s4.heap.objs.size) wr pz n0 F 0 { s4 with gens := s4.gens.push gs, toks := tk5, heap := h5 } →
            Q' (.ref a) { s4 with gens := s4.gens.push gs, toks := tk5, heap := h5 })) X.xe { s1 with heap := h3, toks := tk } := by
    intro code h3 tk ps' hx hsz hP3 hmore ht3
    obtain ⟨bm, ob, e1, e2, e3, e4, e5, e6, e7, e8⟩ := TB.bm
    have hcP : cStatics ≠ P := fun e => by
      obtain ⟨_, ⟨o', es, ep, ho, hd, _⟩, _⟩ := I1.nolimit
      rw [e, hPs] at ho; cases ho; cases hd
    have hcl : cStatics < s1.heap.objs.size := let ⟨_, hns, _⟩ := I1.nolimit; hns.lt
    have keep3 : ∀ b u, b ≠ P → s1.heap.get? b = some u → h3.get? b = some u := fun b u hb e => hx b u hb (Heap.get?_push_of_some _ e)
    refine wpAny_builtinsFor (m := X.mg) (by rw [I1.ok.glob]; exact ((I1.mod.glob.keeps I1.bk).push o).extBut hx TB.gP) e1 e2 (keep3 _ _ e4 (I1.bk _ _ e5)) e6 e7 e8 ?_
    rw [sz2] at hsz
    have oldlt : ∀ {b : Addr} {u : Obj}, s1.heap.get? b = some u → b < h3.objs.size := fun e => Nat.lt_of_lt_of_le (Nat.lt_succ_of_lt (Heap.lt_size e)) hsz
    refine ⟨s1.heap.objs.size, fpx, [s1.heap.objs.size], n, (fun i v => i < n ∧ Pf i v), St, (fun _ => true), (fun i y => y = .bool (pb i)), rfl, fun A' hA => walks_lt (W A' hA), ?_, ?_, lim2.extBut hx hcP, ?_, ?_, ?_⟩
    · exact (W X.A hr.hd).frame _ _ _ hst fun b hb u e => hx b u (hfp b hb).2 e
    · intro b hb
      exact Nat.lt_of_lt_of_le (hfp b hb).1 hsz
    · intro z
      rcases List.mem_cons.mp z with z | z
      · exact Nat.ne_of_lt hcl z
      · cases z
    · intro href hhref
      refine ⟨fun A' E' i v s2 m2 hA _ _ hPv hn hm hk => ?_, fun A' E' i v s2 m2 hA hdp _ hPv hp hn hm hk => ?_⟩
      · simp only [List.forIn_nil]
        exact wpAny_pure ⟨rfl, GxR.keeps_refl _⟩
      · have old : ∀ b u, b ≠ P → s1.heap.get? b = some u → s2.heap.get? b = some u := fun b u hb e =>
          hk b (List.mem_range.mpr (oldlt e)) (fun z => by rcases List.mem_cons.mp z with z | z; exact absurd (Heap.lt_size e) (by rw [z]; exact Nat.lt_irrefl _); cases z) u (hhref b u (keep3 b u hb e))
        have bk2 : ∀ b u, X.base.get? b = some u → s2.heap.get? b = some u := fun b u e => old b u (fun z => by
          have := (I1.bs b u e).2
          rw [z, hP] at this; cases this) (I1.bk b u e)
        exact hel _ A' E' i v s2 m2 ⟨⟨rfl, I1.ok.glob, rfl, bk2⟩, hA, hdp, rfl⟩ hPv.1 hPv.2 old hn hm
    · intro g h5 tk5 gs hgb hag hsz5 hk5 W5 hat
      simp only [GxR.passing_true, List.length_range] at W5
      refine hQ g _ ⟨_, _, _, _, _, W5.in4_1, hat, ?_, fun s' hm => ?_⟩
      · intro j y sj Qj Ej hy hQj
        obtain ⟨i, hij, rfl⟩ := hy
        obtain ⟨hj, ej⟩ := List.getElem?_eq_some_iff.mp hij
        rw [List.getElem_range] at ej
        subst ej
        exact wpAny_truthy_bool hQj
      · obtain ⟨more, em⟩ := hmore
        have nwr : ∀ b u, s1.heap.get? b = some u → b ∉ h3.objs.size :: [s1.heap.objs.size] := fun b u hb hm2 => by
          have hl := Heap.lt_size hb
          have hl2 := oldlt hb
          rcases List.mem_cons.mp hm2 with z | z
          · rw [z] at hl2; exact Nat.lt_irrefl _ hl2
          · rcases List.mem_cons.mp z with z | z
            · rw [z] at hl; exact Nat.lt_irrefl _ hl
            · cases z
        have J := GxR.inv_tab (more := more) (h' := s'.heap) (g' := s'.gens) (d' := s'.drawn) (t' := s'.toks) I1 hP (fun b u hb e => hm.heap b u (nwr b u e) (hk5 b u (keep3 b u hb e)))
          (by rw [← em]; exact hm.heap P _ (nwr P _ hPs) (hk5 P _ hP3)) (AllBare.movedS (I1.bare.push hgb) hm)
        rw [GxR.sh_eta s1 s' hm.os] at J
        exact ⟨upd H1 P (.tbl (ps ++ more)), ⟨⟨ps ++ more, upd_same, by rw [← em]; exact ht3⟩, fun b hb => upd_ne hb⟩, J⟩
  refine ⟨lim2, ?_⟩
  cases hf : codeAmong gpos ps.toList with
  | none =>
    refine wpAny_genexprCodeX hcode (cd.code hP2 ht) (cd.tab hP2) hf fun c' h' tk hx hge hlt hco' _ htab' _ => ?_
    obtain ⟨o1, vs, f1, tf, fl, tg, inF, tx, tt, op, _, _, _, _, _, _, _, _, _, htr, _⟩ := hco'
    exact cont _ h' tk _ hx (Nat.le_trans hge (Nat.le_of_lt hlt)) htab'.2 ⟨_, rfl⟩ htr
  | some cv =>
    refine wpAny_genexprCode_hit hcode (cd.code hP2 ht) hf ?_
    exact cont cv (s1.heap.push o) s1.toks ps (Heap.ExtBut.refl _ _) (Nat.le_refl _) hP2 ⟨#[], by simp⟩ ht
end
end K21
set_option maxHeartbeats 4000000
namespace K21
open PySem PySem.Spec PyProof.Rows L2
/-! ### the elements, on the machine itself -/
def Kp (y : Value) (s2 : Shared) : Value → Shared → Prop := fun v s3 => v = y ∧ Keeps s2 s3
theorem keeps_trans {s s1 s2 : Shared} (a : Keeps s s1) (b : Keeps s1 s2) : Keeps s s2 := by
  obtain ⟨h1, t1, rfl, k1⟩ := a
  obtain ⟨h2, t2, rfl, k2⟩ := b
  exact ⟨h2, t2, rfl, fun c o e => k2 c o (k1 c o e)⟩
theorem ns_keeps {s2 s3 : Shared} {L : Addr} {m : Str → Option Value} (h : s2.heap.Ns L m) (k : Keeps s2 s3) : s3.heap.Ns L m := by
  obtain ⟨h', t, rfl, kk⟩ := k
  exact h.at fun o e => kk _ o e
theorem EnIn.at {base : Heap} {scope : Scope} {cenv : Env} {s2 s3 : Shared} (C : EnIn base scope cenv s2) (k : Keeps s2 s3) : EnIn base scope cenv s3 :=
  ⟨C.sc, C.gl, C.bi, fun b o e => by obtain ⟨h', t, rfl, kk⟩ := k; exact kk b o (C.bk b o e)⟩
section
variable {P : Program} {w : World} {K : PySem.W.Frag} {mg : Str → Option Value} {base : Heap} {scope : Scope} {A' : Around} {cenv : Env} {s2 : Shared} {E' : Value → Shared → Prop} {Q : Value → Shared → Prop} {m2 : Str → Option Value} {x : Str} {pos : Pos}
theorem el_loc (C : EnIn base scope cenv s2) (hk : scope.kind = .function) (hl : scope.names.lookup x = some .local) {v : Value} (hn : s2.heap.Ns cenv.locals m2) (hm : m2 x = some v) (h : Q v s2) (hd : (x == ("__debug__" : Str)) = false := by decide) :
    wpAny (model P w) A' (eval (.Name x pos) cenv) Q E' s2 :=
  wpAny_Name (wpAny_loadName_local (by rw [C.sc]; exact hk) (show cenv.scope.names.lookup x = some .local by rw [C.sc]; exact hl) hn hm h) hd
theorem el_glob (M : Mod K mg base) (C : EnIn base scope cenv s2) (hk : scope.kind = .function) (hl : scope.names.lookup x = some .globalImplicit) {u : Value} (hm : mg x = some u) (h : Q u s2) (hd : (x == ("__debug__" : Str)) = false := by decide) :
    wpAny (model P w) A' (eval (.Name x pos) cenv) Q E' s2 :=
  Calls.Name_function_global (by rw [C.sc]; exact hk) (show cenv.scope.names.lookup x = some .globalImplicit by rw [C.sc]; exact hl) (Calls.loadGlobal_global (by rw [C.gl]; exact M.glob.keeps C.bk) hm h) hd
theorem el_blt (M : Mod K mg base) (C : EnIn base scope cenv s2) (hk : scope.kind = .function) (hl : scope.names.lookup x = some .globalImplicit) {u : Value} (hm : mg x = none) (hv : bootBuiltins x = some u) (h : Q u s2) (hn : x ≠ "__name__" := by decide) (hd : (x == ("__debug__" : Str)) = false := by decide) :
    wpAny (model P w) A' (eval (.Name x pos) cenv) Q E' s2 := by
  obtain ⟨mb, h1, h2⟩ := M.blt
  exact Calls.Name_function_global (by rw [C.sc]; exact hk) (show cenv.scope.names.lookup x = some .globalImplicit by rw [C.sc]; exact hl) (Calls.loadGlobal_builtin (by rw [C.gl]; exact M.glob.keeps C.bk) hm (by rw [C.bi]; exact h1.keeps C.bk) ((h2 x hn).trans hv) h) hd
/-- isinstance(x, T) of an int -/
theorem el_isi (M : Mod K mg base) (C : EnIn base scope cenv s2) (hk : scope.kind = .function) (hl : scope.names.lookup x = some .local) {T : Str} {Tn : String} {b : Bool} (hi : scope.names.lookup ("isinstance" : Str) = some .globalImplicit) (hT : scope.names.lookup T = some .globalImplicit)
    (mi : mg "isinstance" = none) (mT : mg T = none) (bT : bootBuiltins T = some (.type Tn)) (e : kitB "int" Tn = some b) {z : Int} {t : Tok} {p1 p2 p3 : Pos} (hn : s2.heap.Ns cenv.locals m2) (hm : m2 x = some (.int z t)) (h : ∀ tk, Q (.bool b) { s2 with toks := tk })
    (hd : (x == ("__debug__" : Str)) = false := by decide) (hTn : T ≠ "__name__" := by decide) (hTd : (T == ("__debug__" : Str)) = false := by decide) :
    wpAny (model P w) A' (eval (.Call (.Name "isinstance" p1) [.Name x p2, .Name T p3] [] pos) cenv) Q E' s2 := by
  refine wpAny_Call_Name_kw (el_blt (u := .builtin "isinstance") M C hk hi mi (by decide +kernel) ?_)
  refine PyProof.Rows.callWith_builtin1 ?_ (by rfl) (by rfl)
  refine Calls.spliced_cons (el_loc C hk hl hn hm ?_ hd)
  refine Calls.spliced_cons (el_blt M C hk hT mT bT ?_ hTn hTd)
  refine Calls.spliced_nil ?_
  exact PySem.W.kia_one PySem.W.kitx_int (M.kin.keeps C.bk) True.intro (kit_ty e) (fun z => nomatch z) h
/-! is_in(value, least, most) -/
theorem raw_is_in {f : Addr} {fd : FuncData} {A : Around} {s : Shared} {v lo hi : Int} {t1 t2 t3 : Tok} (M : Mod K mg base) (F : FnP K "is_in" s_is_in f fd) (T : Txt mg) (bk : ∀ b o, base.get? b = some o → s.heap.get? b = some o) (hd : A.depth < recursionLimit) :
    codeAny (model P w) A (.call (.ref f) ⟨[.int v t1, .int lo t2, .int hi t3], []⟩) (fun r s' => r = .ok (.ret (.bool (decide (lo ≤ v) && decide (v ≤ hi)))) ∧ Keeps s s') s := by
  obtain ⟨oc, od, dV, kV, doc, pm, an, cdv, ct, osl, rfl, lk, hcd, hD, _⟩ := F.ex
  rcases hD with ⟨_, rfl⟩ | ⟨e, _⟩
  · refine Att.call_fn (binds := [("value", .int v t1), ("least", .int lo t2), ("most", .int hi t3)]) (M.kin.keeps bk) (M.nolimit.keeps bk) lk hcd hd (.of_eq rfl) (by first | rfl | with_unfolding_all rfl) (fun s1 IC => ?_) rfl rfl rfl
    obtain ⟨h1, tk1, rfl⟩ := IC.toInCall.same
    have hn := IC.toInCall.ns
    have k0 : Keeps s { s with heap := h1, toks := tk1 } := ⟨h1, tk1, rfl, IC.toInCall.keep⟩
    have C : EnIn base (defScope s_is_in) (envOfC "is_in" (defScope s_is_in) s.heap.objs.size f cdv) { s with heap := h1, toks := tk1 } := ⟨rfl, rfl, rfl, fun b o e => IC.toInCall.keep b o (bk b o e)⟩
    refine wpAny_execs_cons (wpAny_Return_some ?_)
    refine BoolOp_and (el_isi (x := "value") (z := v) (t := t1) (b := true) (Tn := "int") M C rfl rfl rfl rfl T.isinstance T.int (by decide +kernel) (by decide +kernel) hn rfl fun tk => ?_)
    refine wpAny_truthy_bool ?_
    rw [if_pos rfl]
    have k1 := GxR.keeps_tok { s with heap := h1, toks := tk1 } tk
    have C1 := C.at k1
    have n1 := ns_keeps hn k1
    refine BoolOp_and (UnaryOp_ (el_isi (x := "value") (z := v) (t := t1) (b := false) (Tn := "bool") M C1 rfl rfl rfl rfl T.isinstance T.bool (by decide +kernel) (by decide +kernel) n1 rfl fun tk2 => ?_))
    refine PyProof.Rows.not_of (wpAny_truthy_bool (wpAny_truthy_bool ?_))
    rw [if_pos (show (!false) = true from rfl)]
    have k2 := keeps_trans k1 (GxR.keeps_tok _ tk2)
    have C2 := C.at k2
    have n2 := ns_keeps hn k2
    refine BoolOp_one (Compare_chain (el_loc (x := "least") C2 rfl rfl n2 (v := .int lo t2) rfl (chain_link (el_loc (x := "value") C2 rfl rfl n2 (v := .int v t1) rfl (le_int (wpAny_truthy_bool ?_))))))
    by_cases hlo : lo ≤ v
    · rw [if_pos (decide_eq_true hlo)]
      refine chain_last (el_loc (x := "most") C2 rfl rfl n2 (v := .int hi t3) rfl (le_int ?_))
      exact ⟨by rw [decide_eq_true hlo, Bool.true_and], keeps_trans k0 k2⟩
    · rw [if_neg (by rw [decide_eq_false hlo]; exact Bool.false_ne_true)]
      exact ⟨by rw [decide_eq_false hlo, Bool.false_and], keeps_trans k0 k2⟩
  · exact absurd rfl e
end
section
variable {X : Cx} {scope : Scope} {x : Str}
/-- an element over whole numbers -/
def EltI (X : Cx) (scope : Scope) (x : Str) (elt : Expr) (pr : Int → Bool) : Prop :=
  ∀ (cenv : Env) (A' : Around) (E' : Value → Shared → Prop) (z : Int) (t : Tok) (s2 : Shared) (m2 : Str → Option Value), ElIn X scope A' cenv s2 → s2.heap.Ns cenv.locals m2 → m2 x = some (.int z t) →
    wpAny (model X.prog X.w) A' (eval elt cenv) (fun y s3 => y = .bool (pr z) ∧ Keeps s2 s3) E' s2
/-- isinstance(x, int) and not isinstance(x, bool) -/
theorem elt_int (M : Mod X.K X.mg X.base) (T : Txt X.mg) (hk : scope.kind = .function) (hl : scope.names.lookup x = some .local) (hi : scope.names.lookup ("isinstance" : Str) = some .globalImplicit) (h1 : scope.names.lookup ("int" : Str) = some .globalImplicit) (h2 : scope.names.lookup ("bool" : Str) = some .globalImplicit)
    {p1 p2 p3 p4 p5 p6 p7 p8 p9 p10 : Pos} (hd : (x == ("__debug__" : Str)) = false := by decide) :
    EltI X scope x (.BoolOp .And [.Call (.Name "isinstance" p1) [.Name x p2, .Name "int" p3] [] p4, .UnaryOp .Not (.Call (.Name "isinstance" p5) [.Name x p6, .Name "bool" p7] [] p8) p9] p10) (fun _ => true) := by
  intro cenv A' E' z t s2 m2 C hn hm
  refine BoolOp_and (el_isi (b := true) (Tn := "int") M C.toEnIn hk hl hi h1 T.isinstance T.int (by decide +kernel) (by decide +kernel) hn hm (fun tk => ?_) hd)
  refine wpAny_truthy_bool ?_
  rw [if_pos rfl]
  have k1 : Keeps s2 { s2 with toks := tk } := GxR.keeps_tok s2 tk
  refine BoolOp_one (UnaryOp_ (el_isi (b := false) (Tn := "bool") M (C.toEnIn.at k1) hk hl hi h2 T.isinstance T.bool (by decide +kernel) (by decide +kernel) (ns_keeps hn k1) hm (fun tk2 => ?_) hd))
  refine PyProof.Rows.not_of (wpAny_truthy_bool ?_)
  exact ⟨rfl, keeps_trans k1 (GxR.keeps_tok _ tk2)⟩
/-- a bound of is_in, written -/
def BndI (X : Cx) (scope : Scope) (e : Expr) (k : Int) : Prop :=
  ∀ (cenv : Env) (A' : Around) (E' : Value → Shared → Prop) (s2 : Shared) (Q : Value → Shared → Prop), EnIn X.base scope cenv s2 → (∀ t tk, Q (.int k t) { s2 with toks := tk }) → wpAny (model X.prog X.w) A' (eval e cenv) Q E' s2
theorem bnd_c {k : Int} {j : Nat} {p : Pos} : BndI X scope (.Constant (.int k) j p) k := fun cenv A' E' s2 Q _ h => wpAny_Constant_int (h _ _)
theorem bnd_g {k : Int} {y : Str} {p : Pos} (M : Mod X.K X.mg X.base) (hk : scope.kind = .function) (hl : scope.names.lookup y = some .globalImplicit) (hm : ∃ t, X.mg y = some (.int k t)) (hd : (y == ("__debug__" : Str)) = false := by decide) : BndI X scope (.Name y p) k := fun cenv A' E' s2 Q C h => by
  obtain ⟨t, hm⟩ := hm
  exact el_glob M C hk hl hm (h t s2.toks) hd
theorem bnd_sub {a b : Expr} {i k : Int} {p : Pos} (ha : BndI X scope a i) (hb : BndI X scope b k) : BndI X scope (.BinOp a .Sub b p) (i - k) := fun cenv A' E' s2 Q C h =>
  wpAny_BinOp (ha cenv A' E' s2 _ C fun t1 k1 => hb cenv A' E' _ _ (C.at (GxR.keeps_tok _ k1)) fun t2 k2 => sub_int (h _ _))
/-- is_in(x, e1, e2) -/
theorem elt_isin {f : Addr} {fd : FuncData} {e1 e2 : Expr} {lo hi : Int} {p1 p2 pos : Pos} (M : Mod X.K X.mg X.base) (T : Txt X.mg) (F : FnP X.K "is_in" s_is_in f fd) (hm : X.mg "is_in" = some (.ref f)) (hr : X.A.depth + 1 < recursionLimit) (hk : scope.kind = .function) (hl : scope.names.lookup x = some .local)
    (hi' : scope.names.lookup ("is_in" : Str) = some .globalImplicit) (b1 : BndI X scope e1 lo) (b2 : BndI X scope e2 hi)
    (n1 : ∀ env, starEach [.Name x p2, e1, e2] env = (false, eval (.Name x p2) env) :: starEach [e1, e2] env := by intro _; rfl) (n2 : ∀ env, backTo pos (starEach [e1, e2] env) = [(false, eval e1 env), (false, eval e2 env)] := by intro _; rfl)
    (hd : (x == ("__debug__" : Str)) = false := by decide) :
    EltI X scope x (.Call (.Name "is_in" p1) [.Name x p2, e1, e2] [] pos) (fun z => decide (lo ≤ z) && decide (z ≤ hi)) := by
  intro cenv A' E' z t s2 m2 C hn hm2
  refine wpAny_Call_Name_kw (el_glob M C.toEnIn hk hi' hm ?_)
  refine PySem.W.callWith_K (h₀ := X.base) M.kin F.kp ?_ (n1 _) (by rw [n2]; rfl)
  rw [n1]
  show wpAny _ _ (spliced ((false, eval (.Name x p2) cenv) :: backTo pos (starEach [e1, e2] cenv))) _ _ _
  rw [n2]
  refine Calls.spliced_cons (el_loc C.toEnIn hk hl hn hm2 ?_ hd)
  refine Calls.spliced_cons (b1 cenv A' E' s2 _ C.toEnIn fun t1 k1 => ?_)
  have kk1 := GxR.keeps_tok s2 k1
  refine Calls.spliced_cons (b2 cenv A' E' _ _ (C.toEnIn.at kk1) fun t2 k2 => ?_)
  have kk2 := keeps_trans kk1 (GxR.keeps_tok _ k2)
  have C2 := C.toEnIn.at kk2
  refine Calls.spliced_nil ⟨M.kin.keeps C2.bk, ?_⟩
  have hdp : A'.depth < recursionLimit := Nat.lt_of_le_of_lt C.dp hr
  refine wpAny_call (codeAny_mono (raw_is_in M F T C2.bk hdp) fun r s' hq => ?_)
  obtain ⟨rfl, k3⟩ := hq
  exact ⟨rfl, keeps_trans kk2 k3⟩
end
end K21
set_option maxHeartbeats 4000000
namespace K21
open PySem PySem.Spec PyProof.Rows L2
def atB (pr : Int → Bool) (l : List Int) (j : Nat) : Bool := match l[j]? with
  | some z => pr z
  | none => false
theorem atB_some {pr : Int → Bool} {l : List Int} {j : Nat} {z : Int} (h : l[j]? = some z) : atB pr l j = pr z := by unfold atB; rw [h]
theorem range_all (l : List Int) (pr : Int → Bool) : (List.range l.length).all (atB pr l) = l.all pr := by
  rw [Bool.eq_iff_iff, List.all_eq_true, List.all_eq_true]
  refine ⟨fun h z hz => ?_, fun h j hj => ?_⟩
  · obtain ⟨j, hj, e⟩ := List.getElem_of_mem hz
    have q := h j (List.mem_range.mpr hj)
    rw [atB_some (List.getElem?_eq_getElem hj), e] at q
    exact q
  · have hj' := List.mem_range.mp hj
    rw [atB_some (List.getElem?_eq_getElem hj')]
    exact h _ (List.getElem_mem hj')
/-- what is tracked as a tuple, or stands in the module, is not the table -/
theorem sq_ne {X : Cx} {pins : List (Addr × Obj)} {σ : L2.St} {H : Hp} {s : Shared} {a P : Addr} {xs : List V} (I : Inv X pins σ H s) (h : SqT X.K H a xs) (hP : GxR.TabG H P) : a ≠ P := by
  obtain ⟨ps, hP, _⟩ := hP
  rcases h with (h | ⟨o, h⟩) | ⟨o, _, _, hk, _⟩
  · exact ne_of h hP (by intro z; cases z)
  · exact ne_of h hP (by intro z; cases z)
  · intro z
    have := (I.bs a o (I.ok.mod.kin a o hk)).2
    rw [z, hP] at this; cases this
def tAllI (K : PySem.W.Frag) (P : Addr) (pr : Int → Bool) (te : TE) : TE := fun σ H Q => te σ H fun v H1 => ∃ (a : Addr) (ns : List Int), v = .ref a ∧ SqT K H1 a (ns.map V.int) ∧ GxR.TabG H1 P ∧ ∀ H2, GxR.Tabbed P H1 H2 → Q (.bl (ns.all pr)) H2
section
variable {X : Cx} {c P : Addr} {elt iter : Expr} {x : Str} {px p pos gpos : Pos} {scope : Scope} {te : TE} {k : Nat}
theorem pe_allI {pr : Int → Bool} (hr : Room k X.A) (T : Txt X.mg) (TB : GxR.TabB X.base X.mg c P) (hcode : X.env.code = .ref c) (S : GxR.GenS X.env scope x) (hi : PE X iter te) (hel : Mod X.K X.mg X.base → EltI X scope x elt pr)
    (hg : Gl X "all" := by rfl) (hs : ∀ v, genFold iter X.env v = pure v := by intro _; rfl)
    (he : starEach [.GeneratorExp elt [⟨.Name x px, iter, [], 0⟩] scope gpos] X.env = (false, eval (.GeneratorExp elt [⟨.Name x px, iter, [], 0⟩] scope gpos) X.env) :: starEach [] X.env := by rfl) :
    PE X (.Call (.Name "all" p) [.GeneratorExp elt [⟨.Name x px, iter, [], 0⟩] scope gpos] [] pos) (tAllI X.K P pr te) := by
  refine ⟨fun pins s σ H Q I h => ?_⟩
  refine wpAny_Call_Name_kw (ld_blt (u := .builtin "all") I hg T.all (by decide +kernel) ?_)
  refine PyProof.Rows.callWith_builtin1 ?_ he (by rfl)
  rw [he]
  show wpAny _ _ (spliced ((false, eval (.GeneratorExp elt [⟨.Name x px, iter, [], 0⟩] scope gpos) X.env) :: backTo pos (starEach [] X.env))) _ _ s
  refine Calls.spliced_cons (gen_go (pins := pins) (σ := σ) hr TB hcode S hs (thn (hi.run pins s σ H _ I h) fun xv s1 ⟨v, H1, I1, r1, q1⟩ => ?_))
  obtain ⟨a, ns, rfl, hS, hT, hQ⟩ := q1
  obtain rfl : xv = Value.ref a := r1
  obtain ⟨its, rv, pl, hz⟩ := I1.tuple hS
  have hlen : its.toArray.size = ns.length := by rw [List.size_toArray, ← rv.length, List.length_map]
  have hne := sq_ne I1 hS hT
  have hlt : a < s1.heap.objs.size := pl.lt
  have hPlt : P < s1.heap.objs.size := by obtain ⟨ps, hP, _⟩ := hT; exact Heap.lt_size (I1.hok P _ hP)
  refine ⟨H1, { cls := .type "tuple_iterator", data := .fields #[.ref a, .int 0 0] }, its.toArray.size, (fun i v => its.toArray[i]? = some v), (fun i h => h.IsTupleIter s1.heap.objs.size a i ∧ h.IsTuple a its.toArray), [s1.heap.objs.size, a], atB pr ns, I1, hT, fun Q E hq => ?_, fun A' hA => Walks.tuple hA _ _ (Nat.ne_of_lt hlt) _, ?_, fun b hb => ?_, ?_, ?_⟩
  · exact wpAny_pyIter_tuple (show s1.heap.IsTuple a its.toArray from pl) hq
  · exact ⟨⟨_, Heap.get?_push_size _ rfl, rfl, rfl⟩, pl.keeps fun b u e => Heap.get?_push_of_some _ e⟩
  · rcases List.mem_cons.mp hb with z | z
    · rw [z]; exact ⟨Nat.lt_succ_self _, Nat.ne_of_gt hPlt⟩
    · rcases List.mem_cons.mp z with z | z
      · rw [z]; exact ⟨Nat.lt_succ_of_lt hlt, hne⟩
      · cases z
  · intro cenv A' E' i v s2 m2 C hi2 hv old hn hm
    rw [hlen] at hi2
    have hnv : (ns.map V.int)[i]? = some (.int ns[i]) := by rw [List.getElem?_map, List.getElem?_eq_getElem hi2]; rfl
    obtain ⟨u, hu, ru⟩ := rv.get hnv
    have : u = v := by
      have h2 : its[i]? = some v := by simpa using hv
      rw [hu] at h2; exact Option.some.inj h2
    subst this
    obtain ⟨t, rfl⟩ := ru
    rw [atB_some (List.getElem?_eq_getElem hi2)]
    exact hel I1.mod cenv A' E' _ t s2 m2 C hn hm
  · intro g s5 hG
    obtain ⟨fp, wr, G, F, St, W, hst, htr, hI⟩ := hG
    refine Calls.spliced_nil ?_
    refine call_all_walkS (W.self 0 _ _ _ hst ⟨g, fp, wr, G, _, F, St, _, rfl, W, hst, htr, fun s' hmv => ?_⟩)
    obtain ⟨H2, hT2, J⟩ := hI s' hmv
    refine ⟨.bl _, H2, J, rfl, ?_⟩
    rw [hlen, range_all]
    exact hQ H2 hT2
/-! ### any(lives[k] < lives[k + 1] for k in range(..)) -/
def dropsAt (l : List Int) (k : Nat) : Bool := decide (entI l k < entI l (k + 1))
/-- a captured tuple's item -/
theorem el_ixF {s2 : Shared} {A' : Around} {cenv : Env} {E' : Value → Shared → Prop} {y : Str} {cc a : Addr} {its : List Value} {e : Expr} {j : Nat} {z : Int} {tz : Tok} {p1 pos : Pos} {Q : Value → Shared → Prop} (C : EnIn X.base scope cenv s2) (hk : scope.kind = .function)
    (hl : scope.names.lookup y = some .free) (hc : cenv.cells.lookup y = some cc) (hcell : s2.heap.IsCell cc (some (.ref a))) (pl : IsTup s2.heap a its.toArray) (hz : its.length ≤ sizeLine) (hj : its[j]? = some (.int z tz))
    (he : ∀ Q' : Value → Shared → Prop, (∀ t tk, Q' (.int (j : Int) t) { s2 with toks := tk }) → wpAny (model X.prog X.w) A' (eval e cenv) Q' E' s2) (hs : PlainIx e) (h : ∀ tk, Q (.int z tz) { s2 with toks := tk })
    (hd : (y == ("__debug__" : Str)) = false := by decide) (hcd : (y == ("__classdict__" : Str)) = false := by decide) :
    wpAny (model X.prog X.w) A' (eval (.Subscript (.Name y p1) e pos) cenv) Q E' s2 := by
  refine Subscript_ (wpAny_Name (wpAny_loadName_free (by rw [C.sc]; exact hk) (show cenv.scope.names.lookup y = some .free by rw [C.sc]; exact hl) hc hcell ?_ hcd) hd)
  refine he _ fun t tk => ?_
  have hjl : j < its.length := (List.getElem?_eq_some_iff.mp hj).1
  have l63 := line63
  have pl2 : IsTup ({ s2 with toks := tk } : Shared).heap a its.toArray := pl
  exact subscriptTail_builtinR (x := .int z tz) pl2.typeIs slot_tuple_getitem.lookup
    (getItem_tuple (j := j) (Q := fun r s' => r = .int z tz ∧ Q r s') pl2 (by omega) (by omega) (by rw [List.size_toArray]; exact seqIndex_of (by omega) (by omega)) (by simpa using hj) ⟨rfl, h tk⟩) (hs _ _)
def tAnyD (K : PySem.W.Frag) (P : Addr) (i : Nat) (te : TE) : TE := fun σ H Q => te σ H fun v H1 => ∃ n, v = .int n ∧ (0 : Int) = 0 ∧ ∃ (a : Addr) (ns : List Int), n = (ns.length : Int) - 1 ∧ 1 ≤ ns.length ∧ ns.length ≤ 1000 ∧ σ[i]? = some (some (.ref a)) ∧ SqT K H1 a (ns.map V.int) ∧ GxR.TabG H1 P ∧ ∀ H2, GxR.Tabbed P H1 H2 → Q (.bl ((List.range (ns.length - 1)).any (dropsAt ns))) H2
theorem pe_anyD {y : Str} {i : Nat} {e0 : Expr} {p1 p2 p3 p4 p5 p6 p7 p8 p9 p10 pp : Pos} {j1 : Nat} (hr : Room k X.A) (T : Txt X.mg) (TB : GxR.TabB X.base X.mg c P) (hcode : X.env.code = .ref c) (S : GxR.GenS X.env scope x) (hi : PE X e0 te)
    (hN : X.N[i]? = some y) (hc1 : X.env.kindOf y = some .cell) (hl : scope.names.lookup y = some .free) (hx : scope.names.lookup x = some .local) (hcl : (cloFrom X.env.cells scope.names []).lookup y = X.env.cells.lookup y) (hyd : (y == ("__debug__" : Str)) = false) (hyc : (y == ("__classdict__" : Str)) = false) (hxd : (x == ("__debug__" : Str)) = false)
    (hg : Gl X "any" := by rfl) (hgr : Gl X "range" := by rfl) (hs : ∀ v, genFold (.Call (.Name "range" p1) [e0] [] p2) X.env v = pure v := by intro _; rfl) (na : starEach [e0] X.env = (false, eval e0 X.env) :: starEach [] X.env := by rfl)
    (he : starEach [.GeneratorExp (.Compare (.Subscript (.Name y p3) (.Name x p4) p5) [.Lt] [.Subscript (.Name y p6) (.BinOp (.Name x p7) .Add (.Constant (.int 1) j1 p8) p9) p10] pos) [⟨.Name x px, .Call (.Name "range" p1) [e0] [] p2, [], 0⟩] scope gpos] X.env
      = (false, eval (.GeneratorExp (.Compare (.Subscript (.Name y p3) (.Name x p4) p5) [.Lt] [.Subscript (.Name y p6) (.BinOp (.Name x p7) .Add (.Constant (.int 1) j1 p8) p9) p10] pos) [⟨.Name x px, .Call (.Name "range" p1) [e0] [] p2, [], 0⟩] scope gpos) X.env) :: starEach [] X.env := by rfl) :
    PE X (.Call (.Name "any" p) [.GeneratorExp (.Compare (.Subscript (.Name y p3) (.Name x p4) p5) [.Lt] [.Subscript (.Name y p6) (.BinOp (.Name x p7) .Add (.Constant (.int 1) j1 p8) p9) p10] pos) [⟨.Name x px, .Call (.Name "range" p1) [e0] [] p2, [], 0⟩] scope gpos] [] pp) (tAnyD X.K P i te) := by
  refine ⟨fun pins s σ H Q I h => ?_⟩
  refine wpAny_Call_Name_kw (ld_blt (u := .builtin "any") I hg T.any (by decide +kernel) ?_)
  refine PyProof.Rows.callWith_builtin1 ?_ he (by rfl)
  rw [he]
  show wpAny _ _ (spliced ((false, eval (.GeneratorExp (.Compare (.Subscript (.Name y p3) (.Name x p4) p5) [.Lt] [.Subscript (.Name y p6) (.BinOp (.Name x p7) .Add (.Constant (.int 1) j1 p8) p9) p10] pos) [⟨.Name x px, .Call (.Name "range" p1) [e0] [] p2, [], 0⟩] scope gpos) X.env) :: backTo pp (starEach [] X.env))) _ _ s
  have hRg := prg_1 (p := p1) (pos := p2) hgr T.range hi na
  refine Calls.spliced_cons (gen_go (pins := pins) (σ := σ) hr TB hcode S hs (thn (hRg pins s σ H (fun lo up H1 => lo = 0 ∧ ∃ (a : Addr) (ns : List Int), up = (ns.length : Int) - 1 ∧ 1 ≤ ns.length ∧ ns.length ≤ 1000 ∧ σ[i]? = some (some (.ref a)) ∧ SqT X.K H1 a (ns.map V.int) ∧ GxR.TabG H1 P ∧ ∀ H2, GxR.Tabbed P H1 H2 → Q (.bl ((List.range (ns.length - 1)).any (dropsAt ns))) H2) I h) fun xv s1 hx1 => ?_))
  obtain ⟨r, lo, up, tl, tu, tv, H1, rfl, hrg, I1, rfl, a, ns, rfl, hn1, hn2, hσ, hS, hT, hQ⟩ := hx1
  obtain ⟨its, rv, pl, hz⟩ := I1.tuple hS
  have hlen : its.length = ns.length := by rw [← rv.length, List.length_map]
  have hne := sq_ne I1 hS hT
  have hPlt : P < s1.heap.objs.size := by obtain ⟨ps, hP, _⟩ := hT; exact Heap.lt_size (I1.hok P _ hP)
  -- the captured name's cell
  obtain ⟨m, hm0, hl0⟩ := I1.loc
  obtain ⟨u, ru, lk⟩ := hl0 i y (.ref a) hN hσ (.inr (.inl hc1))
  obtain rfl : u = Value.ref a := ru
  have lk2 : ∃ cc, X.env.cells.lookup y = some cc ∧ s1.heap.IsCell cc (some (.ref a)) := by
    rcases lk with ⟨k1, _⟩ | ⟨_, cc, h1, h2⟩
    · rw [hc1] at k1; cases k1
    · exact ⟨cc, h1, h2⟩
  obtain ⟨cc, hcc, hcell⟩ := lk2
  have hccP : cc ≠ P := fun z => by
    obtain ⟨ps, hP, _⟩ := hT
    have := I1.freeC y cc hcc
    rw [z, hP] at this; cases this
  have szR : Builtin.Range.rangeSize 0 ((ns.length : Int) - 1) 1 = ((ns.length - 1 : Nat) : Int) := by rw [rangeSize_one]; split <;> omega
  refine ⟨H1, { cls := .type "range_iterator", data := .fields #[rawInt 0, rawInt (Builtin.Range.rangeSize 0 ((ns.length : Int) - 1) 1), rawInt 1] }, ns.length - 1, (fun i v => ∃ t, v = .int (0 + i * 1) t), (fun i h => IsRangeIter h s1.heap.objs.size (0 + (i : Nat) * 1) (((ns.length - 1 : Nat) : Int) - (i : Nat)) 1), [s1.heap.objs.size], dropsAt ns, I1, hT, fun Q E hq => ?_, fun A' hA => Walks.range hA _ 0 1 _, ?_, fun b hb => ?_, ?_, ?_⟩
  · exact wpAny_pyIter_range hrg (small_one (by omega) (by omega) (by omega) (by omega)) hq
  · have e1 : (0 : Int) + ((0 : Nat) : Int) * 1 = 0 := by simp
    have e2 : ((ns.length - 1 : Nat) : Int) - ((0 : Nat) : Int) = Builtin.Range.rangeSize 0 ((ns.length : Int) - 1) 1 := by rw [szR]; simp
    show IsRangeIter _ _ ((0 : Int) + ((0 : Nat) : Int) * 1) (((ns.length - 1 : Nat) : Int) - ((0 : Nat) : Int)) 1
    rw [e1, e2]
    exact Heap.get?_push_size _ rfl
  · rcases List.mem_cons.mp hb with z | z
    · rw [z]; exact ⟨Nat.lt_succ_self _, Nat.ne_of_gt hPlt⟩
    · cases z
  · intro cenv A' E' j v s2 m2 C hj hv old hn hm
    obtain ⟨t, rfl⟩ := hv
    have ej : (0 : Int) + (j : Int) * 1 = (j : Int) := by omega
    rw [ej] at hm
    have C0 := C.toEnIn
    have hkd := S.kind
    have hc2 : cenv.cells.lookup y = some cc := by rw [C.cl, hcl, hcc]
    have cell2 : s2.heap.IsCell cc (some (.ref a)) := by
      obtain ⟨o, ho, hd⟩ := hcell
      exact ⟨o, old cc o hccP ho, hd⟩
    have pl2 : IsTup s2.heap a its.toArray := by
      obtain ⟨o, ho, r⟩ := pl
      exact ⟨o, old a o hne ho, r⟩
    have item : ∀ {q : Nat}, q < ns.length → ∃ tz, its[q]? = some (.int (entI ns q) tz) := fun {q} hq => by
      obtain ⟨u, hu, ru⟩ := rv.get (getV hq)
      obtain ⟨tz, rfl⟩ := ru
      exact ⟨tz, hu⟩
    obtain ⟨tz1, g1⟩ := item (show j < ns.length by omega)
    obtain ⟨tz2, g2⟩ := item (show j + 1 < ns.length by omega)
    refine wpAny_Compare1 ?_
    refine el_ixF (j := j) C0 hkd hl hc2 cell2 pl2 (by rw [hlen]; exact Nat.le_trans hn2 (by decide)) g1 (fun Q' hq => el_loc C0 hkd hx hn hm (hq t s2.toks) hxd) (fun _ _ => rfl) (fun tk => ?_) hyd hyc
    have kk := GxR.keeps_tok s2 tk
    have C1 := C0.at kk
    refine el_ixF (j := j + 1) C1 hkd hl hc2 cell2 pl2 (by rw [hlen]; exact Nat.le_trans hn2 (by decide)) g2 (fun Q' hq => wpAny_BinOp (el_loc C1 hkd hx (ns_keeps hn kk) hm (wpAny_Constant_int (add_int ?_)) hxd)) (fun _ _ => rfl) (fun tk2 => ?_) hyd hyc
    · exact hq _ _
    · exact lt_int ⟨rfl, keeps_trans kk (GxR.keeps_tok _ tk2)⟩
  · intro g s5 hG
    obtain ⟨fp, wr, G, F, St, W, hst, htr, hI⟩ := hG
    refine Calls.spliced_nil ?_
    refine call_any_walkS (W.self 0 _ _ _ hst ⟨g, fp, wr, G, _, F, St, _, rfl, W, hst, htr, fun s' hmv => ?_⟩)
    obtain ⟨H2, hT2, J⟩ := hI s' hmv
    exact ⟨.bl _, H2, J, rfl, hQ H2 hT2⟩
end
end K21
set_option maxHeartbeats 4000000
namespace K21
open PySem PySem.Spec PyProof.Rows L2
/-- the written numbers of the top -/
structure Nums (mg : Str → Option Value) : Prop where
  MOST_PAYMENTS : ∃ t, mg "MOST_PAYMENTS" = some (.int 40 t)
  MOST_PAYMENT : ∃ t, mg "MOST_PAYMENT" = some (.int 1000000 t)
  MOST_RATE : ∃ t, mg "MOST_RATE" = some (.int 1000 t)
  MOST_AGES : ∃ t, mg "MOST_AGES" = some (.int 40 t)
  MOST_LIVES : ∃ t, mg "MOST_LIVES" = some (.int 1000000 t)
  MOST_PREMIUM : ∃ t, mg "MOST_PREMIUM" = some (.int 1000000 t)
  MOST_PARTS : ∃ t, mg "MOST_PARTS" = some (.int 7 t)
  MOST_PAID : ∃ t, mg "MOST_PAID" = some (.int 40 t)
def N_is_ratio : List Str := ["value"]
theorem sc_is_ratio : FnScope ["value"] ["value"] (defScope s_is_ratio) := ⟨rfl, rfl, rfl, by decide +kernel, rfl, by decide +kernel, by decide +kernel⟩
def N_is_in : List Str := ["value", "least", "most"]
theorem sc_is_in : FnScope ["value", "least", "most"] ["value", "least", "most"] (defScope s_is_in) := ⟨rfl, rfl, rfl, by decide +kernel, rfl, by decide +kernel, by decide +kernel⟩
def N_need_rate : List Str := ["rate"]
theorem sc_need_rate : FnScope ["rate"] ["rate"] (defScope s_need_rate) := ⟨rfl, rfl, rfl, by decide +kernel, rfl, by decide +kernel, by decide +kernel⟩
def N_need_payments : List Str := ["payments"]
theorem sc_need_payments : FnScope ["payments"] ["payments"] (defScope s_need_payments) := ⟨rfl, rfl, rfl, by decide +kernel, rfl, by decide +kernel, by decide +kernel⟩
def N_need_time : List Str := ["time", "least", "most"]
theorem sc_need_time : FnScope ["time", "least", "most"] ["time", "least", "most"] (defScope s_need_time) := ⟨rfl, rfl, rfl, by decide +kernel, rfl, by decide +kernel, by decide +kernel⟩
def N_are_lives : List Str := ["lives"]
theorem sc_are_lives : FnScope ["lives"] ["lives"] (defScope s_are_lives) := ⟨rfl, rfl, rfl, by decide +kernel, rfl, by decide +kernel, by decide +kernel⟩
def N_need_lives : List Str := ["lives"]
theorem sc_need_lives : FnScope ["lives"] ["lives"] (defScope s_need_lives) := ⟨rfl, rfl, rfl, by decide +kernel, rfl, by decide +kernel, by decide +kernel⟩
def N_need_age : List Str := ["lives", "age"]
theorem sc_need_age : FnScope ["lives", "age"] ["lives", "age"] (defScope s_need_age) := ⟨rfl, rfl, rfl, by decide +kernel, rfl, by decide +kernel, by decide +kernel⟩
def N_need_premium : List Str := ["premium"]
theorem sc_need_premium : FnScope ["premium"] ["premium"] (defScope s_need_premium) := ⟨rfl, rfl, rfl, by decide +kernel, rfl, by decide +kernel, by decide +kernel⟩
def N_need_policy : List Str := ["policy"]
theorem sc_need_policy : FnScope ["policy"] ["policy"] (defScope s_need_policy) := ⟨rfl, rfl, rfl, by decide +kernel, rfl, by decide +kernel, by decide +kernel⟩
section
variable {P : Program} {w : World} {K : PySem.W.Frag} {mg : Str → Option Value} {base : Heap} {f : Addr} {fd : FuncData}
theorem pe_num {X : Cx} {x : Str} {i : Int} {pos : Pos} (hg : Gl X x) (h : ∃ t, X.mg x = some (.int i t)) (hd : (x == ("__debug__" : Str)) = false := by decide) : PE X (.Name x pos) (tC (.int i)) := by
  obtain ⟨t, h⟩ := h
  exact pe_glob hg h ⟨t, rfl⟩ hd
theorem room1 {A : Around} {k : Nat} (hr : Room k A) : A.depth + 1 < recursionLimit := by have := hr.dp; omega
/-- a def whose code object is known -/
theorem okC {x : Str} {st : Stmt} {f c : Addr} {fd : FuncData} {N ps : List Str} {k : Nat} {sp : Sp} (F : FnP K x st f fd) (hc : fd.code = .ref c) (S : FnScope N ps (defScope st)) (len : ∀ vs H Q E, sp vs H Q E → vs.length = ps.length)
    (hb : ∀ (A : Around) (outer : List Env) (s : Shared) (H : Hp) (vs : List V) (Q : VK) (E : XK), Room k (A.deeper (envOfC x (defScope st) s.heap.objs.size f (.ref c))) → sp vs H Q E →
      ∃ t, PSs (cxOf CX0 P w K mg base N x (defScope st) f (.ref c) A outer s H E).nox (defBody st) t ∧ t { nx := fun _ H' => Q .non H', rt := Q } (start N vs) H) : FnOk P w K mg base CX0 (k + 1) f fd ps sp := by
  obtain ⟨oc, od, dV, kV, doc, pm, an, cdv, ct, osl, rfl, lk, hcd, _, _⟩ := F.ex
  obtain rfl : cdv = .ref c := hc
  refine fn_of lk hcd S len fun A outer s H vs Q E hr hsp => ?_
  obtain ⟨t, h, q⟩ := hb A outer s H vs Q E hr hsp
  exact ⟨t, h.nox, q⟩
section
variable {σ : L2.St} {H : Hp} {ta tb te : TE} {Pa : Addr}
theorem ty_sq {a : Addr} {xs : List V} (h : SqT K H a xs) : TyX K H (.ref a) (.type "tuple") := by
  rcases h with (h | ⟨o, h⟩) | ⟨o, _, _, hk, hc, _⟩
  · exact .base (.tup h)
  · exact .fTuple h
  · exact .kTuple hk hc
theorem ev_isiT {xs : List V} (ha : Ev ta σ H (fun v H => ∃ p, v = .ref p ∧ SqT K H p xs)) (hb : Ev tb σ H (is (.ty "tuple"))) : Ev (tCB (rIsi K) (tCons ta (tCons tb tNil))) σ H (is (.bl true)) :=
  ev_cb (ea_2 ha (fun v H H' e ⟨p, h1, h2⟩ => ⟨p, h1, e.t h2⟩) hb mono_is) fun vs H1 Q _ ⟨v, c, h1, ⟨p, h2, h3⟩, h4⟩ q => ⟨.ref p, .ty "tuple", .type "tuple", .type "tuple", true, by rw [h1, h2, show c = _ from h4], .ty "tuple", ty_sq h3, kit_ty (by decide +kernel), q _ _ (Ext.refl _) rfl⟩
theorem ev_isiI {i : Int} {T : String} {b : Bool} (ha : Ev ta σ H (is (.int i))) (hb : Ev tb σ H (is (.ty T))) (e : kitB "int" T = some b) : Ev (tCB (rIsi K) (tCons ta (tCons tb tNil))) σ H (is (.bl b)) :=
  ev_cb (ea_2 ha mono_is hb mono_is) fun vs H1 Q _ ⟨v, c, h1, h2, h4⟩ q => ⟨.int i, .ty T, .type "int", .type T, b, by rw [h1, show v = _ from h2, show c = _ from h4], .ty T, .base (.int i), kit_ty e, q _ _ (Ext.refl _) rfl⟩
/-- all over a tuple of whole numbers -/
theorem ev_all {pr : Int → Bool} {ns : List Int} (ha : Ev te σ H (TV K ns)) (hT : GxR.TabG H Pa) : Ev (tAllI K Pa pr te) σ H (is (.bl (ns.all pr))) := fun H1 e Q q =>
  ha H1 e _ fun v H2 e2 ⟨a, h1, h2⟩ => ⟨a, ns, h1, h2, (e.trans e2).tabG hT, fun H3 h3 => q _ _ (e2.trans (Ext.tabbed ((e.trans e2).tabG hT) h3)) rfl⟩
/-- a ratio as a tuple of whole numbers -/
theorem ev_rtv {i : Nat} {n : Nat} {q : Rat} {v : V} (hv : RV K n q v H) (h : σ[i]? = some (some v)) : Ev (tVar i) σ H (TV K [q.num, (q.den : Int)]) := ev_v h fun H' e => by
  obtain ⟨p, h1, h2, _⟩ := hv; exact ⟨p, h1, e.t h2⟩
theorem ev_chain {x y z : Int} {r r' : Int → Int → Bool} {tc : TE} (ha : Ev ta σ H (is (.int x))) (hb : Ev tb σ H (is (.int y))) (hc : Ev tc σ H (is (.int z))) :
    Ev (tChain (rI0 fun i j => .bl (r i j)) (rI0 fun i j => .bl (r' i j)) ta tb tc) σ H (is (.bl (r x y && r' y z))) := fun H1 e Q q =>
  ha H1 e _ fun v H2 e2 p2 => hb H2 (e.trans e2) _ fun w H3 e3 p3 => ⟨x, y, p2, p3, r x y, rfl, by
    cases hxy : r x y with
    | true =>
      refine iteT (hc H3 ((e.trans e2).trans e3) _ fun u H4 e4 p4 => ⟨y, z, p3, p4, ?_⟩)
      exact q _ H4 ((e2.trans e3).trans e4) (by rw [hxy, Bool.true_and]; rfl)
    | false => exact iteF (q _ H3 (e2.trans e3) (by rw [hxy, Bool.false_and]; rfl))⟩
end
/-! ### is_in -/
def sp_is_in : Sp := fun vs H Q _ => ∃ (v lo hi : Int), vs = [.int v, .int lo, .int hi] ∧ ∀ u H', Ext H H' → is (.bl (decide (lo ≤ v) && decide (v ≤ hi))) u H' → Q u H'
theorem ok_is_in (F : FnP K "is_in" s_is_in f fd) (T : Txt mg) : FnOk P w K mg base CX0 1 f fd ["value", "least", "most"] sp_is_in := by
  refine F.ok sc_is_in (fun vs H Q E h => ?_) (fun cdv A outer s H vs Q E hr h => ?_)
  · obtain ⟨v, lo, hi, rfl, _⟩ := h; rfl
  · obtain ⟨v, lo, hi, rfl, k⟩ := h
    refine ⟨_, PSs.nox (pss_one (ps_ret (pe_and (pe_callB call_isi (by rfl) T.isinstance (by decide +kernel) (pa_cons (pv 0) (pa_cons (pe_bltn (v := .ty "int") (by rfl) T.int (by decide +kernel) rfl) pa_nil))) (pe_and (pe_not (pe_callB call_isi (by rfl) T.isinstance (by decide +kernel) (pa_cons (pv 0) (pa_cons (pe_bltn (v := .ty "bool") (by rfl) T.bool (by decide +kernel) rfl) pa_nil)))) (pe_one (pe_chain op_le op_le (pv 1) (pv 0) (pv 2))))))), ?_⟩
    refine s_ret (ev_to (ev_andV (a := true) (ev_isiI (ev_i rfl) ev_c (by decide +kernel)) fun _ => ev_andV (a := true) (ev_notV (a := false) (ev_isiI (ev_i rfl) ev_c (by decide +kernel))) fun _ => ev_chain (ev_i rfl) (ev_i rfl) (ev_i rfl)) ?_) k
    rw [Bool.true_and, Bool.true_and]
theorem ev_isin {σ : L2.St} {H : Hp} {ta tb tc : TE} {v lo hi : Int} (ha : Ev ta σ H (is (.int v))) (hb : Ev tb σ H (is (.int lo))) (hc : Ev tc σ H (is (.int hi))) (h1 : lo ≤ v) (h2 : v ≤ hi) : Ev (tCall sp_is_in [] E0 (tCons ta (tCons tb (tCons tc tNil)))) σ H (is (.bl true)) :=
  ev_call (ea_3 ha mono_is hb mono_is hc mono_is) fun vs H1 Q _ ⟨a, b, c, e, p1, p2, p3⟩ q => ⟨v, lo, hi, by rw [e, show a = _ from p1, show b = _ from p2, show c = _ from p3], fun u H' eH hu => q u H' eH (by rw [show u = _ from hu, decide_eq_true h1, decide_eq_true h2]; rfl)⟩
/-! ### is_ratio, need_rate, need_premium -/
def sp_is_ratio (K : PySem.W.Frag) (Pa : Addr) : Sp := fun vs H Q _ => ∃ (x : V) (n : Nat) (q : Rat), vs = [x] ∧ RV K n q x H ∧ GxR.TabG H Pa ∧ ∀ v H', Ext H H' → is (.bl true) v H' → Q v H'
theorem ok_is_ratio {c Pa : Addr} (F : FnP K "is_ratio" s_is_ratio f fd) (hc : fd.code = .ref c) (TB : GxR.TabB base mg c Pa) (T : Txt mg) : FnOk P w K mg base CX0 2 f fd ["value"] (sp_is_ratio K Pa) := by
  refine okC F hc sc_is_ratio (fun vs H Q E h => ?_) (fun A outer s H vs Q E hr h => ?_)
  · obtain ⟨x, n, q, rfl, _⟩ := h; rfl
  · obtain ⟨x, n, q, rfl, hx, hT, k⟩ := h
    have hcode : (envOfC "is_ratio" (defScope s_is_ratio) s.heap.objs.size f (.ref c)).code = .ref c := rfl
    refine ⟨_, PSs.nox (pss_cons (ps_if (PW.pt (pw_or (pt_not (pt_val (pe_callB call_isi (by rfl) T.isinstance (by decide +kernel) (pa_cons (pv 0) (pa_cons (pe_bltn (v := .ty "tuple") (by rfl) T.tuple (by decide +kernel) rfl) pa_nil))))) (pw_or1 (pt_cmpR op_ne (pe_callB call_len_seq (by rfl) T.len PySem.boot_len (pa_cons (pv 0) pa_nil)) pe_int (nomark _))))) (pss_one (ps_ret pe_bl)) pss_nil)
      (pss_cons (ps_if (pt_not (pt_val (pe_allI hr T TB hcode (by exact ⟨rfl, rfl, by decide +kernel, rfl, rfl, fun y hy e => absurd e ((by decide +kernel : ∀ y ∈ _, y.2 ≠ NameKind.free) y hy)⟩) (pv 0) (fun M => elt_int M T rfl rfl rfl rfl rfl)))) (pss_one (ps_ret pe_bl)) pss_nil)
      (pss_one (ps_ret (pe_and (pe_cmpR op_gt (pe_ix ix_tup (pv 0) pe_int (fun _ _ => rfl)) pe_int (nomark _)) (pe_one (pe_cmpR op_eq (pe_callBfun cr_gcd (by rfl) T.gcd (pa_cons (pe_ix ix_tup (pv 0) pe_int (fun _ _ => rfl)) (pa_cons (pe_ix ix_tup (pv 0) pe_int (fun _ _ => rfl)) pa_nil))) pe_int (nomark _)))))))), ?_⟩
    refine q_guard (et_is (et_or (a := false) (et_not (a := true) (et_B (ev_isiT (ev_rtv hx rfl) ev_c))) fun _ => et_test (ev_ne (ev_lenT (ev_rtv hx rfl)) ev_c rfl)) rfl) fun H1 e1 => ?_
    refine q_guard (et_is (et_not (et_B (ev_all (ev_rtv (hx.ext e1) rfl) (e1.tabG hT)))) (by rw [List.all_eq_true.mpr (fun _ _ => rfl)]; rfl)) fun H2 e2 => ?_
    have hx2 := hx.ext (e1.trans e2)
    have g1 : Nat.gcd q.num.natAbs ((q.den : Int)).natAbs = 1 := by rw [Int.natAbs_natCast]; exact q.reduced
    refine s_ret (ev_to (ev_andV (a := true) (ev_to (ev_I0 (ev_bot (ev_rtv hx2 rfl)) ev_c) (by rw [decide_eq_true (den_pos q)])) fun _ => ev_eq (ev_gcd (ev_top (ev_rtv hx2 rfl)) (ev_bot (ev_rtv hx2 rfl))) ev_c rfl) (by rw [g1]; rfl)) fun v H3 e3 hv => k v H3 ((e1.trans e2).trans e3) hv
theorem ev_isratio {Pa : Addr} {σ : L2.St} {H : Hp} {ta : TE} {n : Nat} {q : Rat} (ha : Ev ta σ H (RV K n q)) (hT : GxR.TabG H Pa) : Ev (tCall (sp_is_ratio K Pa) [] E0 (tCons ta tNil)) σ H (is (.bl true)) :=
  ev_call (ea_1 ha mono_RV) fun vs H1 Q e ⟨v, h1, h2⟩ q' => ⟨v, n, q, h1, h2, e.tabG hT, q'⟩
structure Need1 (P : Program) (w : World) (K : PySem.W.Frag) (mg : Str → Option Value) (base : Heap) (Pr : Addr) : Prop where
  is_ratio : Callee P w K mg base "is_ratio" 2 ["value"] (sp_is_ratio K Pr)
  is_in : Callee P w K mg base "is_in" 1 ["value", "least", "most"] sp_is_in
def sp_need_rate (K : PySem.W.Frag) (Pr : Addr) : Sp := fun vs H Q _ => ∃ (x : V) (n : Nat) (q : Rat), vs = [x] ∧ RV K n q x H ∧ GxR.TabG H Pr ∧ q.num.natAbs ≤ 1000 ∧ q.den ≤ 1000 ∧ 0 < 1 + q ∧ ∀ v H', Ext H H' → Q v H'
theorem rate_pos {q : Rat} (h : 0 < 1 + q) : 0 - (q.den : Int) < q.num := by
  have M : Means (max q.num.natAbs q.den + 1) q.num q.den q := Means.of ⟨Nat.lt_of_lt_of_le (Nat.lt_of_le_of_lt (Nat.le_max_left _ _) (Nat.lt_succ_self _)) (Nat.le_of_lt Nat.lt_two_pow_self), Nat.lt_of_lt_of_le (Nat.lt_of_le_of_lt (Nat.le_max_right _ _) (Nat.lt_succ_self _)) (Nat.le_of_lt Nat.lt_two_pow_self)⟩
  have g := (grow_means M.sz).top_pos h
  omega
theorem ok_need_rate {Pr : Addr} (F : FnP K "need_rate" s_need_rate f fd) (T : Txt mg) (N : Nums mg) (C : Need1 P w K mg base Pr) : FnOk P w K mg base CX0 3 f fd ["rate"] (sp_need_rate K Pr) := by
  refine F.ok sc_need_rate (fun vs H Q E h => ?_) (fun cdv A outer s H vs Q E hr h => ?_)
  · obtain ⟨x, n, q, rfl, _⟩ := h; rfl
  · obtain ⟨x, n, q, rfl, hx, hT, h1, h2, h3, k⟩ := h
    refine ⟨_, PSs.nox (pss_one (ps_if (PW.pt (pw_or (pt_not (pt_val (pc C.is_ratio hr (by decide) (pa_cons (pv 0) pa_nil)))) (pw_or (pt_cmpR op_gt (pe_callB call_abs (by rfl) T.abs (by decide +kernel) (pa_cons (pe_ix ix_tup (pv 0) pe_int (fun _ _ => rfl)) pa_nil)) (pe_num (by rfl) N.MOST_RATE) (nomark _)) (pw_or (pt_cmpR op_gt (pe_ix ix_tup (pv 0) pe_int (fun _ _ => rfl)) (pe_num (by rfl) N.MOST_RATE) (nomark _)) (pw_or1 (pt_cmpR op_le (pe_ix ix_tup (pv 0) pe_int (fun _ _ => rfl)) (pe_op op_sub pe_int (pe_ix ix_tup (pv 0) pe_int (fun _ _ => rfl))) (nomark _))))))) pss_never pss_nil)), ?_⟩
    have hp := rate_pos h3
    refine s_guard (et_is (et_or (a := false) (et_not (a := true) (et_B (ev_isratio (ev_r hx rfl) hT))) fun _ => et_or (a := false) (et_is (et_test (ev_I0 (ev_abs (ev_top (ev_rtv hx rfl))) ev_c)) (decide_eq_false (by split <;> omega))) fun _ =>
      et_or (a := false) (et_is (et_test (ev_I0 (ev_bot (ev_rtv hx rfl)) ev_c)) (decide_eq_false (by omega))) fun _ => et_is (et_test (ev_I0 (ev_top (ev_rtv hx rfl)) (ev_I0 ev_c (ev_bot (ev_rtv hx rfl))))) (decide_eq_false (by omega))) rfl) fun H1 e1 => k _ _ e1
def sp_need_premium (K : PySem.W.Frag) (Pr : Addr) : Sp := fun vs H Q _ => ∃ (x : V) (n : Nat) (q : Rat), vs = [x] ∧ RV K n q x H ∧ GxR.TabG H Pr ∧ n ≤ 1000 ∧ q.num.natAbs ≤ 1000000 ∧ q.den ≤ 1000000 ∧ ∀ v H', Ext H H' → Q v H'
theorem ok_need_premium {Pr : Addr} (F : FnP K "need_premium" s_need_premium f fd) (T : Txt mg) (N : Nums mg) (C : Need1 P w K mg base Pr) : FnOk P w K mg base CX0 3 f fd ["premium"] (sp_need_premium K Pr) := by
  refine F.ok sc_need_premium (fun vs H Q E h => ?_) (fun cdv A outer s H vs Q E hr h => ?_)
  · obtain ⟨x, n, q, rfl, _⟩ := h; rfl
  · obtain ⟨x, n, q, rfl, hx, hT, hn, h1, h2, k⟩ := h
    refine ⟨_, PSs.nox (pss_one (ps_if (PW.pt (pw_or (pt_not (pt_val (pc C.is_ratio hr (by decide) (pa_cons (pv 0) pa_nil)))) (pw_or (pt_cmpR op_gt (pe_ix ix_tup (pv 0) pe_int (fun _ _ => rfl)) (pe_num (by rfl) N.MOST_PREMIUM) (nomark _)) (pw_or1 (pt_cmpR op_gt (pe_callB call_abs (by rfl) T.abs (by decide +kernel) (pa_cons (pe_ix ix_tup (pv 0) pe_int (fun _ _ => rfl)) pa_nil)) (pe_op op_mulW (pe_num (by rfl) N.MOST_PREMIUM) (pe_ix ix_tup (pv 0) pe_int (fun _ _ => rfl))) (nomark _)))))) pss_never pss_nil)), ?_⟩
    have dp := den_pos q
    have hs : Sz n q := let ⟨_, _, _, h⟩ := hx; h
    refine s_guard (et_is (et_or (a := false) (et_not (a := true) (et_B (ev_isratio (ev_r hx rfl) hT))) fun _ => et_or (a := false) (et_is (et_test (ev_I0 (ev_bot (ev_rtv hx rfl)) ev_c)) (decide_eq_false (by omega))) fun _ =>
      et_is (et_test (ev_I0 (ev_abs (ev_top (ev_rtv hx rfl))) (ev_I ev_c (ev_bot (ev_rtv hx rfl)) (mulok (n := 20) (m := n) (by decide) (of_den hs.2) (by omega))))) (decide_eq_false (by split <;> omega))) rfl) fun H1 e1 => k _ _ e1
/-! ### need_time, need_payments -/
def sp_need_time : Sp := fun vs H Q _ => ∃ (v lo hi : Int), vs = [.int v, .int lo, .int hi] ∧ lo ≤ v ∧ v ≤ hi ∧ ∀ u H', Ext H H' → Q u H'
theorem ok_need_time {Pr : Addr} (F : FnP K "need_time" s_need_time f fd) (C : Need1 P w K mg base Pr) : FnOk P w K mg base CX0 2 f fd ["time", "least", "most"] sp_need_time := by
  refine F.ok sc_need_time (fun vs H Q E h => ?_) (fun cdv A outer s H vs Q E hr h => ?_)
  · obtain ⟨v, lo, hi, rfl, _⟩ := h; rfl
  · obtain ⟨v, lo, hi, rfl, h1, h2, k⟩ := h
    refine ⟨_, PSs.nox (pss_one (ps_if (pt_not (pt_val (pc C.is_in hr (by decide) (pa_cons (pv 0) (pa_cons (pv 1) (pa_cons (pv 2) pa_nil)))))) pss_never pss_nil)), ?_⟩
    exact s_guard (et_is (et_not (a := true) (et_B (ev_isin (ev_i rfl) (ev_i rfl) (ev_i rfl) h1 h2))) rfl) fun H1 e1 => k _ _ e1
def sp_need_payments (K : PySem.W.Frag) (Pp : Addr) : Sp := fun vs H Q _ => ∃ (x : V) (xs : List Int), vs = [x] ∧ TV K xs x H ∧ Pays xs ∧ GxR.TabG H Pp ∧ ∀ u H', Ext H H' → Q u H'
theorem ok_need_payments {c Pp fi : Addr} {fdi : FuncData} (F : FnP K "need_payments" s_need_payments f fd) (hc : fd.code = .ref c) (TB : GxR.TabB base mg c Pp) (T : Txt mg) (N : Nums mg) (FI : FnP K "is_in" s_is_in fi fdi) (gI : mg "is_in" = some (.ref fi)) : FnOk P w K mg base CX0 2 f fd ["payments"] (sp_need_payments K Pp) := by
  refine okC F hc sc_need_payments (fun vs H Q E h => ?_) (fun A outer s H vs Q E hr h => ?_)
  · obtain ⟨x, xs, rfl, _⟩ := h; rfl
  · obtain ⟨x, xs, rfl, hx, hs, hT, k⟩ := h
    have hcode : (envOfC "need_payments" (defScope s_need_payments) s.heap.objs.size f (.ref c)).code = .ref c := rfl
    refine ⟨_, PSs.nox (pss_cons (ps_if (PW.pt (pw_or (pt_not (pt_val (pe_callB call_isi (by rfl) T.isinstance (by decide +kernel) (pa_cons (pv 0) (pa_cons (pe_bltn (v := .ty "tuple") (by rfl) T.tuple (by decide +kernel) rfl) pa_nil))))) (pw_or1 (pt_cmpR op_gt (pe_callB call_len_seq (by rfl) T.len PySem.boot_len (pa_cons (pv 0) pa_nil)) (pe_num (by rfl) N.MOST_PAYMENTS) (nomark _))))) pss_never pss_nil)
      (pss_one (ps_if (pt_not (pt_val (pe_allI hr T TB hcode (by exact ⟨rfl, rfl, by decide +kernel, rfl, rfl, fun y hy e => absurd e ((by decide +kernel : ∀ y ∈ _, y.2 ≠ NameKind.free) y hy)⟩) (pv 0) (fun M => elt_isin M T FI gI (room1 hr) rfl rfl rfl (bnd_sub bnd_c (bnd_g M rfl rfl N.MOST_PAYMENT)) (bnd_g M rfl rfl N.MOST_PAYMENT))))) pss_never pss_nil))), ?_⟩
    refine q_guard (et_is (et_or (a := false) (et_not (a := true) (et_B (ev_isiT (ev_tv hx rfl) ev_c))) fun _ => et_is (et_test (ev_I0 (ev_lenT (ev_tv hx rfl)) ev_c)) (decide_eq_false (by have := hs.len; omega))) rfl) fun H1 e1 => ?_
    refine s_guard (et_is (et_not (et_B (ev_all (ev_tv (mono_TV _ _ _ e1 hx) rfl) (e1.tabG hT)))) ?_) fun H2 e2 => k _ _ (e1.trans e2)
    rw [List.all_eq_true.mpr (fun z hz => by have := hs.sz z hz; rw [decide_eq_true (show (0 : Int) - 1000000 ≤ z by omega), decide_eq_true this.2]; rfl)]; rfl
/-! ### are_lives, need_lives, need_age -/
structure LivesOk (L : List Int) : Prop where
  len : 2 ≤ L.length ∧ L.length ≤ 40
  sz : ∀ x ∈ L, 0 ≤ x ∧ x ≤ 1000000
  down : ∀ k, k + 1 < L.length → entI L (k + 1) ≤ entI L k
  last : entI L (L.length - 1) = 0
  pos : 0 < entI L (L.length - 2)
theorem Pol.Ok.lives {c : Pol} (h : c.Ok) : LivesOk c.L := ⟨⟨h.len.1, by have := h.len.2; omega⟩, h.sz, h.down, h.last, h.pos _ (by have := h.len.1; omega)⟩
theorem atV_neg {xs : List Int} {k : Nat} (h1 : 1 ≤ k) (h2 : k ≤ xs.length) : atI (xs.map V.int) (-(k : Int)) = some (.int (entI xs (xs.length - k))) := by
  unfold atI ixN
  rw [List.length_map, if_neg (by omega), if_pos (by omega)]
  show (xs.map V.int)[(-(k : Int) + (xs.length : Int)).toNat]? = _
  rw [show (-(k : Int) + (xs.length : Int)).toNat = xs.length - k by omega]
  exact getV (by omega)
def sp_are_lives (K : PySem.W.Frag) (Pl : Addr) : Sp := fun vs H Q _ => ∃ (x : V) (L : List Int), vs = [x] ∧ TV K L x H ∧ LivesOk L ∧ GxR.TabG H Pl ∧ ∀ u H', Ext H H' → is (.bl true) u H' → Q u H'
theorem ok_are_lives {c Pl fi : Addr} {fdi : FuncData} (F : FnP K "are_lives" s_are_lives f fd) (hc : fd.code = .ref c) (TB : GxR.TabB base mg c Pl) (T : Txt mg) (N : Nums mg) (FI : FnP K "is_in" s_is_in fi fdi) (gI : mg "is_in" = some (.ref fi)) : FnOk P w K mg base CX0 2 f fd ["lives"] (sp_are_lives K Pl) := by
  refine okC F hc sc_are_lives (fun vs H Q E h => ?_) (fun A outer s H vs Q E hr h => ?_)
  · obtain ⟨x, L, rfl, _⟩ := h; rfl
  · obtain ⟨x, L, rfl, hx, hL, hT, k⟩ := h
    have hcode : (envOfC "are_lives" (defScope s_are_lives) s.heap.objs.size f (.ref c)).code = .ref c := rfl
    have l1 := hL.len
    refine ⟨_, PSs.nox (pss_cons (ps_if (PW.pt (pw_or (pt_not (pt_val (pe_callB call_isi (by rfl) T.isinstance (by decide +kernel) (pa_cons (pv 0) (pa_cons (pe_bltn (v := .ty "tuple") (by rfl) T.tuple (by decide +kernel) rfl) pa_nil))))) (pw_or1 (pt_not (pt_chain op_le op_le pe_int (pe_callB call_len_seq (by rfl) T.len PySem.boot_len (pa_cons (pv 0) pa_nil)) (pe_num (by rfl) N.MOST_AGES)))))) (pss_one (ps_ret pe_bl)) pss_nil)
      (pss_cons (ps_if (pt_not (pt_val (pe_allI hr T TB hcode (by exact ⟨rfl, rfl, by decide +kernel, rfl, rfl, fun y hy e => absurd e ((by decide +kernel : ∀ y ∈ _, y.2 ≠ NameKind.free) y hy)⟩) (pv 0) (fun M => elt_isin M T FI gI (room1 hr) rfl rfl rfl bnd_c (bnd_g M rfl rfl N.MOST_LIVES))))) (pss_one (ps_ret pe_bl)) pss_nil)
      (pss_one (ps_ret (pe_and (pe_not (pe_anyD (y := "lives") (x := "k") (i := 0) hr T TB hcode (by exact ⟨rfl, rfl, by decide +kernel, rfl, rfl, fun y hy e => ⟨s.heap.objs.size + 1, by rcases List.mem_cons.mp hy with z | z; (subst z; cases e); rcases List.mem_cons.mp z with z | z; (subst z; cases e); rcases List.mem_cons.mp z with z | z; (subst z; rfl); (first | exact absurd z (by simp) | (rcases List.mem_cons.mp z with z | z; (subst z; cases e); exact absurd z (by simp)))⟩⟩) (pe_op op_sub (pe_callB call_len_seq (by rfl) T.len PySem.boot_len (pa_cons (pv 0) pa_nil)) pe_int) rfl rfl rfl rfl rfl (by decide) (by decide) (by decide))) (pe_and (pe_cmpR op_eq (pe_ix ix_tup (pv 0) (pe_un un_neg pe_int) (fun _ _ => rfl)) pe_int (nomark _)) (pe_one (pe_cmpR op_gt (pe_ix ix_tup (pv 0) (pe_un un_neg pe_int) (fun _ _ => rfl)) pe_int (nomark _))))))))), ?_⟩
    refine q_guard (et_is (et_or (a := false) (et_not (a := true) (et_B (ev_isiT (ev_tv hx rfl) ev_c))) fun _ => et_not (a := true) (et_is (et_test (ev_chain ev_c (ev_lenT (ev_tv hx rfl)) ev_c)) (by rw [decide_eq_true (by omega), decide_eq_true (by omega)]; rfl))) rfl) fun H1 e1 => ?_
    refine q_guard (et_is (et_not (et_B (ev_all (ev_tv (mono_TV _ _ _ e1 hx) rfl) (e1.tabG hT)))) ?_) fun H2 e2 => ?_
    · rw [List.all_eq_true.mpr (fun z hz => by have := hL.sz z hz; rw [decide_eq_true this.1, decide_eq_true this.2]; rfl)]; rfl
    · have e12 := e1.trans e2
      obtain ⟨a, rfl, ha⟩ := mono_TV _ _ _ e12 hx
      have hT2 := e12.tabG hT
      have nod : (List.range (L.length - 1)).any (dropsAt L) = false := by
        rw [List.any_eq_false]
        intro j hj
        have := hL.down j (by have := List.mem_range.mp hj; omega)
        unfold dropsAt
        rw [decide_eq_false (by omega)]; exact Bool.false_ne_true
      refine s_ret (ev_to (ev_andV (a := true) (b := true) (ev_notV (a := false) ?_) fun _ => ?_) rfl) fun v H3 e3 hv => k v H3 (e12.trans e3) hv
      · intro H3 e3 Q' q
        refine (ev_I0 (g := fun i j => .int (i - j)) (ev_lenT (K := K) (xs := L) (ev_tv (v := .ref a) ⟨a, rfl, ha⟩ rfl)) ev_c) H3 e3 _ fun v H4 e4 hv => ?_
        obtain rfl : v = _ := hv
        refine ⟨_, rfl, rfl, a, L, rfl, by omega, by omega, rfl, (e3.trans e4).t ha, (e3.trans e4).tabG hT2, fun H5 h5 => ?_⟩
        rw [nod]
        exact q _ _ (e4.trans (Ext.tabbed ((e3.trans e4).tabG hT2) h5)) rfl
      · refine ev_to (ev_andV (a := true) (b := true) (ev_to (ev_eq (ev_ixT (K := K) (ev_t ha rfl) ev_neg1 (atV_neg (k := 1) (by omega) (by omega))) ev_c rfl) (by rw [hL.last]; rfl)) fun _ => ev_to (ev_I0 (ev_ixT (K := K) (ev_t ha rfl) ev_neg1 (atV_neg (k := 2) (by omega) (by omega))) ev_c) (by rw [decide_eq_true hL.pos])) rfl
def sp_need_lives (K : PySem.W.Frag) (Pl : Addr) : Sp := fun vs H Q _ => ∃ (x : V) (L : List Int), vs = [x] ∧ TV K L x H ∧ LivesOk L ∧ GxR.TabG H Pl ∧ ∀ u H', Ext H H' → Q u H'
structure Need2 (P : Program) (w : World) (K : PySem.W.Frag) (mg : Str → Option Value) (base : Heap) (Pr Pp Pl : Addr) : Prop extends Need1 P w K mg base Pr where
  are_lives : Callee P w K mg base "are_lives" 2 ["lives"] (sp_are_lives K Pl)
theorem ok_need_lives {Pr Pp Pl : Addr} (F : FnP K "need_lives" s_need_lives f fd) (C : Need2 P w K mg base Pr Pp Pl) : FnOk P w K mg base CX0 3 f fd ["lives"] (sp_need_lives K Pl) := by
  refine F.ok sc_need_lives (fun vs H Q E h => ?_) (fun cdv A outer s H vs Q E hr h => ?_)
  · obtain ⟨x, L, rfl, _⟩ := h; rfl
  · obtain ⟨x, L, rfl, hx, hL, hT, k⟩ := h
    refine ⟨_, PSs.nox (pss_one (ps_if (pt_not (pt_val (pc C.are_lives hr (by decide) (pa_cons (pv 0) pa_nil)))) pss_never pss_nil)), ?_⟩
    have he : Ev (tCall (sp_are_lives K Pl) [] E0 (tCons (tVar 0) tNil)) (start N_need_lives [x]) H (is (.bl true)) := ev_call (ea_1 (ev_tv hx rfl) mono_TV) fun vs H1 Q' e ⟨v, h1, h2⟩ q' => ⟨v, L, h1, h2, hL, e.tabG hT, q'⟩
    exact s_guard (et_is (et_not (a := true) (et_B he)) rfl) fun H1 e1 => k _ _ e1
def sp_need_age (K : PySem.W.Frag) : Sp := fun vs H Q _ => ∃ (x : V) (L : List Int) (a : Nat), vs = [x, .int (a : Int)] ∧ TV K L x H ∧ a + 2 ≤ L.length ∧ ∀ u H', Ext H H' → Q u H'
theorem ok_need_age {Pr : Addr} (F : FnP K "need_age" s_need_age f fd) (T : Txt mg) (C : Need1 P w K mg base Pr) : FnOk P w K mg base CX0 2 f fd ["lives", "age"] (sp_need_age K) := by
  refine F.ok sc_need_age (fun vs H Q E h => ?_) (fun cdv A outer s H vs Q E hr h => ?_)
  · obtain ⟨x, L, a, rfl, _⟩ := h; rfl
  · obtain ⟨x, L, a, rfl, hx, ha, k⟩ := h
    refine ⟨_, PSs.nox (pss_one (ps_if (pt_not (pt_val (pc C.is_in hr (by decide) (pa_cons (pv 1) (pa_cons pe_int (pa_cons (pe_op op_sub (pe_callB call_len_seq (by rfl) T.len PySem.boot_len (pa_cons (pv 0) pa_nil)) pe_int) pa_nil)))))) pss_never pss_nil)), ?_⟩
    exact s_guard (et_is (et_not (a := true) (et_B (ev_isin (ev_i rfl) ev_c (ev_I0 (ev_lenT (ev_tv hx rfl)) ev_c) (by omega) (by omega)))) rfl) fun H1 e1 => k _ _ e1
/-! ### need_policy -/
structure Tabs3 (Pr Pp Pl : Addr) (H : Hp) : Prop where
  r : GxR.TabG H Pr
  p : GxR.TabG H Pp
  l : GxR.TabG H Pl
theorem Tabs3.ext {Pr Pp Pl : Addr} {H H' : Hp} (h : Tabs3 Pr Pp Pl H) (e : Ext H H') : Tabs3 Pr Pp Pl H' := ⟨e.tabG h.r, e.tabG h.p, e.tabG h.l⟩
structure Need3 (P : Program) (w : World) (K : PySem.W.Frag) (mg : Str → Option Value) (base : Heap) (Pr Pp Pl : Addr) : Prop extends Need2 P w K mg base Pr Pp Pl where
  need_rate : Callee P w K mg base "need_rate" 3 ["rate"] (sp_need_rate K Pr)
  need_premium : Callee P w K mg base "need_premium" 3 ["premium"] (sp_need_premium K Pr)
  need_time : Callee P w K mg base "need_time" 2 ["time", "least", "most"] sp_need_time
  need_payments : Callee P w K mg base "need_payments" 2 ["payments"] (sp_need_payments K Pp)
  need_lives : Callee P w K mg base "need_lives" 3 ["lives"] (sp_need_lives K Pl)
  need_age : Callee P w K mg base "need_age" 2 ["lives", "age"] (sp_need_age K)
def PremOk (q : Rat) : Prop := q.num.natAbs ≤ 1000000 ∧ q.den ≤ 1000000
def sp_need_policy (K : PySem.W.Frag) (Pr Pp Pl : Addr) : Sp := fun vs H Q _ => ∃ (x : V) (c : Pol), vs = [x] ∧ PolV K c x H ∧ c.Ok ∧ PremOk c.p ∧ Tabs3 Pr Pp Pl H ∧ ∀ u H', Ext H H' → Q u H'
theorem ok_need_policy {Pr Pp Pl : Addr} (F : FnP K "need_policy" s_need_policy f fd) (T : Txt mg) (N : Nums mg) (C : Need3 P w K mg base Pr Pp Pl) : FnOk P w K mg base CX0 4 f fd ["policy"] (sp_need_policy K Pr Pp Pl) := by
  refine F.ok sc_need_policy (fun vs H Q E h => ?_) (fun cdv A outer s H vs Q E hr h => ?_)
  · obtain ⟨x, c, rfl, _⟩ := h; rfl
  · obtain ⟨x, c, rfl, hx, ok, hp, hT, k⟩ := h
    refine ⟨_, PSs.nox (pss_cons (ps_if (PW.pt (pw_or (pt_not (pt_val (pe_callB call_isi (by rfl) T.isinstance (by decide +kernel) (pa_cons (pv 0) (pa_cons (pe_bltn (v := .ty "tuple") (by rfl) T.tuple (by decide +kernel) rfl) pa_nil))))) (pw_or1 (pt_cmpR op_ne (pe_callB call_len_seq (by rfl) T.len PySem.boot_len (pa_cons (pv 0) pa_nil)) (pe_num (by rfl) N.MOST_PARTS) (nomark _))))) pss_never pss_nil)
      (pss_cons (ps_expr (pc C.need_lives hr (by decide) (pa_cons (pe_ix ix_tup (pv 0) pe_int (fun _ _ => rfl)) pa_nil)))
      (pss_cons (ps_expr (pc C.need_age hr (by decide) (pa_cons (pe_ix ix_tup (pv 0) pe_int (fun _ _ => rfl)) (pa_cons (pe_ix ix_tup (pv 0) pe_int (fun _ _ => rfl)) pa_nil))))
      (pss_cons (ps_expr (pc C.need_rate hr (by decide) (pa_cons (pe_ix ix_tup (pv 0) pe_int (fun _ _ => rfl)) pa_nil)))
      (pss_cons (ps_expr (pc C.need_payments hr (by decide) (pa_cons (pe_ix ix_tup (pv 0) pe_int (fun _ _ => rfl)) pa_nil)))
      (pss_cons (ps_expr (pc C.need_payments hr (by decide) (pa_cons (pe_ix ix_tup (pv 0) pe_int (fun _ _ => rfl)) pa_nil)))
      (pss_cons (ps_expr (pc C.need_premium hr (by decide) (pa_cons (pe_ix ix_tup (pv 0) pe_int (fun _ _ => rfl)) pa_nil)))
      (pss_one (ps_expr (pc C.need_time hr (by decide) (pa_cons (pe_ix ix_tup (pv 0) pe_int (fun _ _ => rfl)) (pa_cons pe_int (pa_cons (pe_num (by rfl) N.MOST_PAID) pa_nil))))))))))))), ?_⟩
    have hsq : Ev (tVar 0) (start N_need_policy [x]) H (fun v H => ∃ p, v = .ref p ∧ ∃ xs, xs.length = 7 ∧ SqT K H p xs) := ev_v rfl fun H' e => by
      obtain ⟨p, pl, pr, pa, pd, vp, h1, h2, _⟩ := hx.ex
      exact ⟨p, h1, _, rfl, e.t h2⟩
    obtain ⟨p, pl, pr, pa, pd, vp, h1, h2, _⟩ := hx.ex
    have pol : ∀ {H' : Hp}, Ext H H' → Ev (tVar 0) (start N_need_policy [x]) H' (PolV K c) := fun e => ev_pol (hx.ext e) rfl
    refine q_guard (et_is (et_or (a := false) (et_not (a := true) (et_B (ev_isiT (ev_t h2 (by rw [h1]; rfl)) ev_c))) fun _ => et_test (ev_ne (ev_len (K := K) (ev_v (v := x) rfl fun H' e => ⟨p, h1, .inr (e.t h2)⟩)) ev_c rfl)) rfl) fun H1 e1 => ?_
    refine q_drop (P := fun _ _ => True) (ev_call (ea_1 (pol_L (pol e1)) mono_TV) fun vs H2 Q' e ⟨v, g1, g2⟩ q' => ⟨v, c.L, g1, g2, ok.lives, (e1.trans e).tabG hT.l, fun u H' eH => q' u H' eH trivial⟩) fun _ H2 e2 _ => ?_
    have e2 := e1.trans e2
    refine q_drop (P := fun _ _ => True) (ev_call (ea_2 (pol_L (pol e2)) mono_TV (pol_age (pol e2)) mono_is) fun vs H3 Q' e ⟨v, u, g1, g2, g3⟩ q' => ⟨v, c.L, c.age, by rw [g1, show u = _ from g3], g2, ok.age, fun u H' eH => q' u H' eH trivial⟩) fun _ H3 e3 _ => ?_
    have e3 := e2.trans e3
    refine q_drop (P := fun _ _ => True) (ev_call (ea_1 (pol_rate (pol e3)) mono_RV) fun vs H4 Q' e ⟨v, g1, g2⟩ q' => ⟨v, 10, c.i, g1, g2, (e3.trans e).tabG hT.r, ok.rate.1, ok.rate.2, ok.gr, fun u H' eH => q' u H' eH trivial⟩) fun _ H4 e4 _ => ?_
    have e4 := e3.trans e4
    refine q_drop (P := fun _ _ => True) (ev_call (ea_1 (pol_al (pol e4)) mono_TV) fun vs H5 Q' e ⟨v, g1, g2⟩ q' => ⟨v, c.al, g1, g2, ok.al, (e4.trans e).tabG hT.p, fun u H' eH => q' u H' eH trivial⟩) fun _ H5 e5 _ => ?_
    have e5 := e4.trans e5
    refine q_drop (P := fun _ _ => True) (ev_call (ea_1 (pol_de (pol e5)) mono_TV) fun vs H6 Q' e ⟨v, g1, g2⟩ q' => ⟨v, c.de, g1, g2, ok.de, (e5.trans e).tabG hT.p, fun u H' eH => q' u H' eH trivial⟩) fun _ H6 e6 _ => ?_
    have e6 := e5.trans e6
    refine q_drop (P := fun _ _ => True) (ev_call (ea_1 (pol_p (pol e6)) mono_RV) fun vs H7 Q' e ⟨v, g1, g2⟩ q' => ⟨v, 20, c.p, g1, g2, (e6.trans e).tabG hT.r, by decide, hp.1, hp.2, fun u H' eH => q' u H' eH trivial⟩) fun _ H7 e7 _ => ?_
    have e7 := e6.trans e7
    have last : Ev (tCall sp_need_time [] E0 (tCons (tOp (rIxT K) (tVar 0) (tC (.int 6))) (tCons (tC (.int 0)) (tCons (tC (.int 40)) tNil)))) (start N_need_policy [x]) H7 (fun _ _ => True) :=
      ev_call (ea_3 (pol_yr (pol e7)) mono_is ev_c mono_is ev_c mono_is) fun vs H8 Q' e ⟨v, u, y, g1, g2, g3, g4⟩ q' => ⟨c.yr, 0, 40, by rw [g1, show v = _ from g2, show u = _ from g3, show y = _ from g4], by omega, by have := ok.yr; omega, fun u H' eH => q' u H' eH trivial⟩
    exact last H7 (Ext.refl H7) _ fun _ H8 e8 _ => k _ _ (e7.trans e8)
end
end K21
set_option maxHeartbeats 4000000
namespace K21
open PySem PySem.Spec PyProof.Rows L2
theorem PolV.upd {K : PySem.W.Frag} {c : Pol} {v : V} {H : Hp} {l : Addr} {xs : List V} {o : HO} (hl : H l = some (.lst xs)) (h : PolV K c v H) : PolV K c v (upd H l o) := by
  obtain ⟨p, pl, pr, pa, pd, vp, h1, h2, h3, h4, h5, h6, h7⟩ := h
  exact ⟨p, pl, pr, pa, pd, vp, h1, sqT_upd hl h2, sqT_upd hl h3, h4.upd hl, sqT_upd hl h5, sqT_upd hl h6, h7.upd hl⟩
/-- ratios in a row, the sizes below n -/
def RowR (K : PySem.W.Frag) (n m : Nat) (g : Nat → Rat) (xs : List V) (H : Hp) : Prop := xs.length = m ∧ ∀ j x, xs[j]? = some x → RV K n (g j) x H
theorem RowR.ext {K : PySem.W.Frag} {n m : Nat} {g : Nat → Rat} {xs : List V} {H H' : Hp} (h : RowR K n m g xs H) (e : Ext H H') : RowR K n m g xs H' := ⟨h.1, fun j x hj => (h.2 j x hj).ext e⟩
theorem RowR.upd {K : PySem.W.Frag} {n m : Nat} {g : Nat → Rat} {xs ys : List V} {H : Hp} {l : Addr} {o : HO} (hl : H l = some (.lst ys)) (h : RowR K n m g xs H) : RowR K n m g xs (upd H l o) := ⟨h.1, fun j x hj => (h.2 j x hj).upd hl⟩
theorem RowR.snoc {K : PySem.W.Frag} {n m : Nat} {g : Nat → Rat} {xs : List V} {v : V} {H : Hp} (h : RowR K n m g xs H) (hv : RV K n (g m) v H) : RowR K n (m + 1) g (xs ++ [v]) H := by
  refine ⟨by rw [List.length_append, h.1]; rfl, fun j x hj => ?_⟩
  by_cases hlt : j < xs.length
  · rw [List.getElem?_append_left hlt] at hj; exact h.2 j x hj
  · rw [List.getElem?_append_right (by omega)] at hj
    have : j - xs.length = 0 := by
      cases e : j - xs.length with
      | zero => rfl
      | succ k => rw [e] at hj; cases hj
    rw [this] at hj
    cases hj
    have : j = m := by have := h.1; omega
    subst this; exact hv
def Pol.second (c : Pol) (Lb : List Int) (i2 : Rat) : Pol := { c with L := Lb, i := i2 }
def Pol.crit (c : Pol) (Lb : List Int) (i2 : Rat) (t : Nat) : Rat := K21.crit c.net (qOf c.lf) (qOf (c.second Lb i2).lf) (ent c.de) c.res (i2 - c.i) t
def N_fair_premium : List Str := ["policy"]
theorem sc_fair_premium : FnScope ["policy"] ["policy"] (defScope s_fair_premium) := ⟨rfl, rfl, rfl, by decide +kernel, rfl, by decide +kernel, by decide +kernel⟩
def N_reserves : List Str := ["policy"]
theorem sc_reserves : FnScope ["policy"] ["policy"] (defScope s_reserves) := ⟨rfl, rfl, rfl, by decide +kernel, rfl, by decide +kernel, by decide +kernel⟩
def N_critical : List Str := ["policy", "lives", "rate", "other", "some", "found", "time", "gained", "more"]
theorem sc_critical : FnScope ["policy", "lives", "rate", "other", "some", "found", "time", "gained", "more"] ["policy", "lives", "rate"] (defScope s_critical) := ⟨rfl, rfl, rfl, by decide +kernel, rfl, by decide +kernel, by decide +kernel⟩
section
variable {P : Program} {w : World} {K : PySem.W.Frag} {mg : Str → Option Value} {base : Heap} {f : Addr} {fd : FuncData} {Pr Pp Pl : Addr}
structure Prog1 (P : Program) (w : World) (K : PySem.W.Frag) (mg : Str → Option Value) (base : Heap) (Pr Pp Pl : Addr) : Prop extends Ratio5 P w K mg base, Need3 P w K mg base Pr Pp Pl where
  fair_of : Callee P w K mg base "fair_of" 5 ["policy"] (sp_fair_of K)
  need_policy : Callee P w K mg base "need_policy" 4 ["policy"] (sp_need_policy K Pr Pp Pl)
theorem ev_needpol {σ : L2.St} {H : Hp} {ta : TE} {c : Pol} (ha : Ev ta σ H (PolV K c)) (ok : c.Ok) (hp : PremOk c.p) (hT : Tabs3 Pr Pp Pl H) : Ev (tCall (sp_need_policy K Pr Pp Pl) [] E0 (tCons ta tNil)) σ H (fun _ _ => True) :=
  ev_call (ea_1 ha mono_PolV) fun vs H1 Q e ⟨v, h1, h2⟩ q' => ⟨v, c, h1, h2, ok, hp, hT.ext e, fun u H' eH => q' u H' eH trivial⟩
/-! ### fair_premium(policy), reserves(policy) -/
def sp_fair_premium (K : PySem.W.Frag) (Pr Pp Pl : Addr) : Sp := fun vs H Q _ => ∃ (x : V) (c : Pol), vs = [x] ∧ PolV K c x H ∧ c.Ok ∧ c.n ≤ c.yr ∧ PremOk c.p ∧ Tabs3 Pr Pp Pl H ∧ ∀ v H', Ext H H' → RV K (Bd c.n + Bd c.n) c.fair v H' → Q v H'
theorem ok_fair_premium (F : FnP K "fair_premium" s_fair_premium f fd) (C : Prog1 P w K mg base Pr Pp Pl) : FnOk P w K mg base CX0 6 f fd ["policy"] (sp_fair_premium K Pr Pp Pl) := by
  refine F.ok sc_fair_premium (fun vs H Q E h => ?_) (fun cdv A outer s H vs Q E hr h => ?_)
  · obtain ⟨x, c, rfl, _⟩ := h; rfl
  · obtain ⟨x, c, rfl, hx, ok, hy, hp, hT, k⟩ := h
    refine ⟨_, PSs.nox (pss_cons (ps_expr (pc C.need_policy hr (by decide) (pa_cons (pv 0) pa_nil)))
      (pss_one (ps_ret (pc C.fair_of hr (by decide) (pa_cons (pv 0) pa_nil))))), ?_⟩
    refine q_drop (ev_needpol (ev_pol hx rfl) ok hp hT) fun _ H1 e1 _ => ?_
    exact s_ret (P := RV K (Bd c.n + Bd c.n) c.fair) (ev_call (ea_1 (ev_pol (hx.ext e1) rfl) mono_PolV) fun vs H1 Q _ ⟨v, h1, h2⟩ q' => ⟨v, c, h1, h2, ok, hy, q'⟩) fun v H2 e2 hv => k v H2 (e1.trans e2) hv
theorem ev_fairp {σ : L2.St} {H : Hp} {ta : TE} {c : Pol} (ha : Ev ta σ H (PolV K c)) (ok : c.Ok) (hy : c.n ≤ c.yr) (hp : PremOk c.p) (hT : Tabs3 Pr Pp Pl H) : Ev (tCall (sp_fair_premium K Pr Pp Pl) [] E0 (tCons ta tNil)) σ H (RV K (Bd c.n + Bd c.n) c.fair) :=
  ev_call (ea_1 ha mono_PolV) fun vs H1 Q e ⟨v, h1, h2⟩ q' => ⟨v, c, h1, h2, ok, hy, hp, hT.ext e, q'⟩
/-- a tuple of ratios -/
def RowT (K : PySem.W.Frag) (n m : Nat) (g : Nat → Rat) : VP := fun v H => ∃ p xs, v = .ref p ∧ SqT K H p xs ∧ RowR K n m g xs H
theorem mono_RowT {n m : Nat} {g : Nat → Rat} : Mono (RowT K n m g) := fun _ _ _ e ⟨p, xs, h1, h2, h3⟩ => ⟨p, xs, h1, e.t h2, h3.ext e⟩
def sp_reserves (K : PySem.W.Frag) (Pr Pp Pl : Addr) : Sp := fun vs H Q _ => ∃ (x : V) (c : Pol), vs = [x] ∧ PolV K c x H ∧ c.Ok ∧ PremOk c.p ∧ Tabs3 Pr Pp Pl H ∧ ∀ v H', Ext H H' → RowT K 1000 c.n c.res v H' → Q v H'
theorem ok_reserves (F : FnP K "reserves" s_reserves f fd) (T : Txt mg) (C : Prog1 P w K mg base Pr Pp Pl) : FnOk P w K mg base CX0 5 f fd ["policy"] (sp_reserves K Pr Pp Pl) := by
  refine F.ok sc_reserves (fun vs H Q E h => ?_) (fun cdv A outer s H vs Q E hr h => ?_)
  · obtain ⟨x, c, rfl, _⟩ := h; rfl
  · obtain ⟨x, c, rfl, hx, ok, hp, hT, k⟩ := h
    refine ⟨_, PSs.nox (pss_cons (ps_expr (pc C.need_policy hr (by decide) (pa_cons (pv 0) pa_nil)))
      (pss_one (ps_ret (pe_callTy call_tuple_of (by rfl) T.tuple (by decide +kernel) (pa_cons (pe_slice sl_list (pc C.reserves_of hr (by decide) (pa_cons (pv 0) pa_nil)) po_none (po_some (pe_un un_neg pe_int))) pa_nil))))), ?_⟩
    refine q_drop (ev_needpol (ev_pol hx rfl) ok hp hT) fun _ H1 e1 _ => ?_
    refine ev_reserves_of (ev_pol (hx.ext e1) rfl) ok H1 (Ext.refl H1) _ fun v H2 e2 ⟨l, xs, h1, _, h3, h4⟩ => ?_
    refine ⟨1, rfl, -1, rfl, ?_⟩
    refine ⟨l, xs, h1, SqL.of h3, fun p hp => ?_⟩
    have e3 := Ext.new (o := .lst (cutV xs none (some (-1)))) hp
    refine ⟨p, _, rfl, .inl ⟨SqL.of upd_same, fun q hq => ?_⟩⟩
    have e4 := Ext.new (o := .tup (cutV xs none (some (-1)))) hq
    refine k _ _ (((e1.trans e2).trans e3).trans e4) ⟨q, _, rfl, SqT.of upd_same, ?_⟩
    have hcut : cutV xs none (some (-1)) = xs.take (xs.length - 1) := by
      unfold cutV
      rw [HT.sIx_none]
      show (xs.drop 0).take ((if (-1 : Int) < 0 then ((-1 : Int) + (xs.length : Int)).toNat else min (-1 : Int).toNat xs.length) - 0) = _
      rw [if_pos (by decide), List.drop_zero, show ((-1 : Int) + (xs.length : Int)).toNat - 0 = xs.length - 1 by omega]
    have n7 := ok.n_le
    refine RowR.ext ?_ (e3.trans e4)
    rw [hcut]
    refine ⟨?_, fun j y hj => ?_⟩
    · rw [List.length_take]; have := h4.1; omega
    · rw [List.getElem?_take] at hj
      split at hj
      · have := h4.2 j y hj
        rw [Nat.zero_add] at this
        exact this.le (by unfold Bd; omega)
      · cases hj
theorem ev_reserves {σ : L2.St} {H : Hp} {ta : TE} {c : Pol} (ha : Ev ta σ H (PolV K c)) (ok : c.Ok) (hp : PremOk c.p) (hT : Tabs3 Pr Pp Pl H) : Ev (tCall (sp_reserves K Pr Pp Pl) [] E0 (tCons ta tNil)) σ H (RowT K 1000 c.n c.res) :=
  ev_call (ea_1 ha mono_PolV) fun vs H1 Q e ⟨v, h1, h2⟩ q' => ⟨v, c, h1, h2, ok, hp, hT.ext e, q'⟩
/-! ### critical(policy, lives, rate) -/
def sp_critical (K : PySem.W.Frag) (Pr Pp Pl : Addr) : Sp := fun vs H Q _ => ∃ (x y z : V) (c : Pol) (Lb : List Int) (i2 : Rat), vs = [x, y, z] ∧ PolV K c x H ∧ TV K Lb y H ∧ RV K 10 i2 z H ∧ c.Ok ∧ (c.second Lb i2).Ok ∧ Lb.length = c.L.length ∧ PremOk c.p ∧ Tabs3 Pr Pp Pl H ∧
  ∀ v H', Ext H H' → RowT K 3000 c.n (c.crit Lb i2) v H' → Q v H'
theorem ok_critical (F : FnP K "critical" s_critical f fd) (T : Txt mg) (C : Prog1 P w K mg base Pr Pp Pl) : FnOk P w K mg base CX0 5 f fd ["policy", "lives", "rate"] (sp_critical K Pr Pp Pl) := by
  refine F.ok sc_critical (fun vs H Q E h => ?_) (fun cdv A outer s H vs Q E hr h => ?_)
  · obtain ⟨x, y, z, c, Lb, i2, rfl, _⟩ := h; rfl
  · obtain ⟨x, y, z, c, Lb, i2, rfl, hx, hy, hz, ok, ok2, hlen, hp, hT, k⟩ := h
    refine ⟨_, PSs.nox (pss_cons (ps_expr (pc C.need_policy hr (by decide) (pa_cons (pv 0) pa_nil)))
      (pss_cons (ps_expr (pc C.need_lives hr (by decide) (pa_cons (pv 1) pa_nil)))
      (pss_cons (ps_if (pt_cmpR op_ne (pe_callB call_len_seq (by rfl) T.len PySem.boot_len (pa_cons (pv 1) pa_nil)) (pe_callB call_len_seq (by rfl) T.len PySem.boot_len (pa_cons (pe_ix ix_tup (pv 0) pe_int (fun _ _ => rfl)) pa_nil)) (nomark _)) pss_never pss_nil)
      (pss_cons (ps_expr (pc C.need_rate hr (by decide) (pa_cons (pv 2) pa_nil)))
      (pss_cons (ps_set (i := 3) sc_critical.nd rfl (Or.inl rfl) (pe_tup (pa_cons (pv 1) (pa_cons (pe_ix ix_tup (pv 0) pe_int (fun _ _ => rfl)) (pa_cons (pv 2) (StX.pa_star (pe_slice sl_tupA (pv 0) (po_some pe_int) po_none) pa_nil))))))
      (pss_cons (ps_par (i := 4) (j := 5) (by rfl) sc_critical.nd rfl rfl (by decide) rfl rfl (pa_cons (pc C.reserves_of hr (by decide) (pa_cons (pv 0) pa_nil)) (pa_cons (pe_lst pa_nil) pa_nil)) (by rfl))
      (pss_cons (ps_for PassesOwn.never rfl (pi_range1 (by rfl) T.range (pa_cons (pc C.span_of hr (by decide) (pa_cons (pv 0) pa_nil)) pa_nil)) (pg_name (i := 6) sc_critical.nd rfl (Or.inl rfl))
      (pss_cons (ps_set (i := 7) sc_critical.nd rfl (Or.inl rfl) (pc C.by_ hr (by decide) (pa_cons (pc C.minus hr (by decide) (pa_cons (pe_ix ix_list (pv 4) (pv 6) (fun _ _ => rfl)) (pa_cons (pc C.net_alive hr (by decide) (pa_cons (pv 0) (pa_cons (pv 6) pa_nil))) pa_nil))) (pa_cons (pc C.minus hr (by decide) (pa_cons (pv 2) (pa_cons (pe_ix ix_tup (pv 0) pe_int (fun _ _ => rfl)) pa_nil))) pa_nil))))
      (pss_cons (ps_set (i := 8) sc_critical.nd rfl (Or.inl rfl) (pc C.minus hr (by decide) (pa_cons (pc C.part_dying hr (by decide) (pa_cons (pv 3) (pa_cons (pv 6) pa_nil))) (pa_cons (pc C.part_dying hr (by decide) (pa_cons (pv 0) (pa_cons (pv 6) pa_nil))) pa_nil))))
      (pss_one (ps_expr (pe_bm PySem.F.plainAttrs_list PySem.F.slot_list_append PySem.F.type_list_append mt_append (pv 5) (pa_cons (pc C.minus hr (by decide) (pa_cons (pv 7) (pa_cons (pc C.by_ hr (by decide) (pa_cons (pv 8) (pa_cons (pc C.minus hr (by decide) (pa_cons (pc C.entry hr (by decide) (pa_cons (pe_ix ix_tup (pv 0) pe_int (fun _ _ => rfl)) (pa_cons (pv 6) pa_nil))) (pa_cons (pe_ix ix_list (pv 4) (pe_op op_add (pv 6) pe_int) (fun _ _ => rfl)) pa_nil))) pa_nil))) pa_nil))) pa_nil)))))))
      (pss_one (ps_ret (pe_callTy call_tuple_of (by rfl) T.tuple (by decide +kernel) (pa_cons (pv 5) pa_nil))))))))))), ?_⟩
    refine q_drop (ev_needpol (ev_pol hx rfl) ok hp hT) fun _ H1 e1 _ => ?_
    refine q_drop (P := fun _ _ => True) (ev_call (ea_1 (ev_tv (mono_TV _ _ _ e1 hy) rfl) mono_TV) fun vs H2 Q' e ⟨v, g1, g2⟩ q' => ⟨v, Lb, g1, g2, ok2.lives, (e1.trans e).tabG hT.l, fun u H' eH => q' u H' eH trivial⟩) fun _ H2 e2 _ => ?_
    have e2 := e1.trans e2
    refine q_guard (et_is (et_test (ev_ne (ev_lenT (ev_tv (mono_TV _ _ _ e2 hy) rfl)) (ev_lenT (pol_L (ev_pol (hx.ext e2) rfl))) rfl)) (by rw [hlen, decide_eq_true rfl]; rfl)) fun H3 e3 => ?_
    have e3 := e2.trans e3
    refine q_drop (P := fun _ _ => True) (ev_call (ea_1 (ev_r (hz.ext e3) rfl) mono_RV) fun vs H4 Q' e ⟨v, g1, g2⟩ q' => ⟨v, 10, i2, g1, g2, (e3.trans e).tabG hT.r, ok2.rate.1, ok2.rate.2, ok2.gr, fun u H' eH => q' u H' eH trivial⟩) fun _ H4 e4 _ => ?_
    have e4 := e3.trans e4
    -- other
    refine q_asg (P := PolV K (c.second Lb i2)) ?_ fun oth H5 e5 hoth => ?_
    · have hx4 := hx.ext e4
      obtain ⟨a, pl, pr, pa, pd, vp, rfl, h2, h3, h4, h5, h6, h7⟩ := hx4
      obtain ⟨ya, rfl, hya⟩ := mono_TV _ _ _ e4 hy
      obtain ⟨za, rfl, hz4, hzs⟩ := hz.ext e4
      refine (eu_tup (K := K) (ea_cons (ev_i rfl) mono_is (ea_cons (ev_ixT (ev_t h2 rfl) ev_c rfl) mono_is (ea_cons (ev_i rfl) mono_is (ea_star (ev_slT (ev_t h2 rfl) (eo_some ev_c) eo_none) ea_nil)))) (fun vs H H' e h => h) (fun vs H h => ?_)).imp fun v H5 e5 hv => ?_
      · obtain ⟨v1, r1, rfl, _, v2, r2, rfl, _, v3, r3, rfl, _, r4, rfl, rfl⟩ := h
        have := cutV_length [V.ref pl, .int (c.age : Int), .ref pr, .ref pa, .ref pd, vp, .int (c.yr : Int)] (some 3) none
        simp only [List.length_cons, List.length_nil, List.length_append] at this ⊢; omega
      · obtain ⟨b, vs, rfl, hb, v1, r1, rfl, g1, v2, r2, rfl, g2, v3, r3, rfl, g3, r4, rfl, rfl⟩ := hv
        obtain rfl : v1 = _ := g1
        obtain rfl : v2 = _ := g2
        obtain rfl : v3 = _ := g3
        exact ⟨b, ya, za, pa, pd, vp, rfl, hb, e5.t hya, ⟨za, rfl, e5.t hz4, hzs⟩, e5.t h5, e5.t h6, h7.ext e5⟩
    have e5 := e4.trans e5
    -- some, found
    refine q_par (ev_reserves_of (ev_pol (hx.ext e5) rfl) ok) (mono_NewL fun vs H H' e h => h.ext e) (el_lst (S := fun vs _ => vs = []) ea_nil (fun vs H H' e h => h) (fun vs H h => by rw [h]; decide)) (mono_NewL fun vs H H' e h => h) fun so fo H6 e6 ⟨ls, rs, hso, hlsf, hls, hrs⟩ ⟨l, xs0, hfo, hlf, hl0, hxs0⟩ => ?_
    subst hso hfo hxs0
    have n7 := ok.n_le
    have hne : ls ≠ l := ne_of hls hl0 (by intro z; injection z with z; have := hrs.1; rw [z] at this; simp at this)
    have e6' := e5.trans e6
    have hlH : H l = none := e5.fresh hlf
    have cnt : (c.second Lb i2).n = c.n := by show Lb.length - 1 - c.age = _; rw [hlen]; rfl
    refine q_forR1 (n := c.n) ((ea_1 (ev_span_of (ev_pol (hx.ext e6') rfl) ok) mono_is).imp fun vs H' _ ⟨v, h1, h2⟩ => by rw [h1, show v = _ from h2]) (by omega)
      (fun i σ' H' => ∃ xs u1 u2 u3, σ' = [some x, some y, some z, some oth, some (.ref ls), some (.ref l), u1, u2, u3] ∧ Ext H H' ∧ H' l = some (.lst xs) ∧ H' ls = some (.lst rs) ∧ RowR K 3000 i (c.crit Lb i2) xs H' ∧ ResL K c 0 rs H' ∧ PolV K (c.second Lb i2) oth H')
      (fun H7 e7 => ⟨[], none, none, none, rfl, e6'.trans e7, e7.lst hl0, e7.lst hls, ⟨rfl, fun j u hj => by cases hj⟩, hrs.ext e7, hoth.ext (e6.trans e7)⟩) ?_ ?_
    · rintro i σ' H' hi ⟨xs, u1, u2, u3, rfl, eH, hll, hls', hrow, hrs', hoth'⟩
      have it : ∀ {t : Nat}, t ≤ c.n → ∃ u, rs[t]? = some u := fun {t} ht => ⟨rs[t]'(by have := hrs.1; omega), List.getElem?_eq_getElem _⟩
      obtain ⟨r0, hr0⟩ := it (Nat.le_of_lt hi)
      obtain ⟨r1, hr1⟩ := it (show i + 1 ≤ c.n from hi)
      have R0 := (hrs'.2 i r0 hr0).le (m := 1000) (by unfold Bd; omega)
      have R1 := (hrs'.2 (i + 1) r1 hr1).le (m := 1000) (by unfold Bd; omega)
      rw [Nat.zero_add] at R0 R1
      have sm : ∀ {σ : L2.St} {H4 : Hp} {tb : TE} {t : Nat} {u : V}, Ext H' H4 → σ[4]? = some (some (.ref ls)) → Ev tb σ H4 (is (.int (t : Int))) → rs[t]? = some u → RV K 1000 (c.res t) u H' → Ev (tOp (rIxL K) (tVar 4) tb) σ H4 (RV K 1000 (c.res t)) := fun {σ H4 tb t u} e5 hσ hb hu hR =>
        (ev_ixL (K := K) (xs := rs) (x := u) (i := (t : Int)) (ev_v hσ fun H5 e6 => ⟨ls, rfl, SqL.of ((e5.trans e6).lst hls')⟩) hb (atI_nat hu)).imp fun v H5 e6 hv => by rw [show v = u from hv]; exact hR.ext (e5.trans e6)
      refine q_asg (ev_by (ev_minus (sm (Ext.refl _) rfl (ev_i rfl) hr0 R0).pv (ev_net_alive (ev_pol (hx.ext eH) rfl) (ev_i rfl) ok).pv (by decide)).pv (ev_minus (ev_r (hz.ext eH) rfl).pv (pol_rate (ev_pol (hx.ext eH) rfl)).pv (by decide)).pv (by decide)) fun ga H7 e7 hga => ?_
      refine q_asg (ev_minus (ev_part_dying (ev_pol (hoth'.ext e7) rfl) (ev_i rfl) ok2 (by rw [cnt]; exact hi)).pv (ev_part_dying (ev_pol (hx.ext (eH.trans e7)) rfl) (ev_i rfl) ok hi).pv (by decide)) fun mo H8 e8 hmo => ?_
      have e78 := e7.trans e8
      have hxl : xs.length = i := hrow.1
      refine s_app (l := l) (xs := xs) (ev_i rfl) (ev_minus (ev_r (hga.ext e8) rfl).pv (ev_by (ev_r hmo rfl).pv (ev_minus (ev_entry (pol_de (ev_pol (hx.ext (eH.trans e78)) rfl)) (ev_i rfl) ok.de).pv (sm e78 rfl (ev_to (ev_I0 (ev_i rfl) ev_c) (y := .int ((i + 1 : Nat) : Int)) rfl) hr1 R1).pv (by decide)).pv (by decide)).pv (by decide)) (fun H9 e9 => (e78.trans e9).lst hll) (by omega) fun b H9 e9 hb => ?_
      have e89 := e78.trans e9
      have h9 : H9 l = some (.lst xs) := e89.lst hll
      refine ⟨xs ++ [b], _, _, _, rfl, (eH.trans e89).mut hlH, upd_same, by rw [upd_ne hne]; exact e89.lst hls', ?_, (hrs'.ext e89).upd h9, (hoth'.ext e89).upd h9⟩
      exact RowR.upd h9 ((hrow.ext e89).snoc (hb.le (by decide)))
    · rintro σ' H' ⟨xs, u1, u2, u3, rfl, eH, hll, hls', hrow, hrs', hoth'⟩
      refine ⟨.ref l, rfl, l, xs, rfl, .inl ⟨SqL.of hll, fun q hq => ?_⟩⟩
      have e9 := Ext.new (o := .tup xs) hq
      exact k _ _ (eH.trans e9) ⟨q, xs, rfl, SqT.of upd_same, hrow.ext e9⟩
theorem ev_critical {σ : L2.St} {H : Hp} {ta tb tc : TE} {c : Pol} {Lb : List Int} {i2 : Rat} (ha : Ev ta σ H (PolV K c)) (hb : Ev tb σ H (TV K Lb)) (hc : Ev tc σ H (RV K 10 i2)) (ok : c.Ok) (ok2 : (c.second Lb i2).Ok) (hlen : Lb.length = c.L.length) (hp : PremOk c.p) (hT : Tabs3 Pr Pp Pl H) :
    Ev (tCall (sp_critical K Pr Pp Pl) [] E0 (tCons ta (tCons tb (tCons tc tNil)))) σ H (RowT K 3000 c.n (c.crit Lb i2)) :=
  ev_call (ea_3 ha mono_PolV hb mono_TV hc mono_RV) fun vs H1 Q e ⟨x, y, z, h1, h2, h3, h4⟩ q' => ⟨x, y, z, c, Lb, i2, h1, h2, h3, h4, ok, ok2, hlen, hp, hT.ext e, q'⟩
end
end K21
set_option maxHeartbeats 4000000
namespace K21
open PySem PySem.Spec PyProof.Rows L2
def N__law_ratio : List Str := ["_law_top", "_law_bottom", "_law_one", "_law_other"]
theorem sc__law_ratio : FnScope ["_law_top", "_law_bottom", "_law_one", "_law_other"] ["_law_top", "_law_bottom"] (defScope s__law_ratio) := ⟨rfl, rfl, rfl, by decide +kernel, rfl, by decide +kernel, by decide +kernel⟩
def N__law_plus : List Str := ["_law_one", "_law_other"]
theorem sc__law_plus : FnScope ["_law_one", "_law_other"] ["_law_one", "_law_other"] (defScope s__law_plus) := ⟨rfl, rfl, rfl, by decide +kernel, rfl, by decide +kernel, by decide +kernel⟩
def N__law_by : List Str := ["_law_one", "_law_other"]
theorem sc__law_by : FnScope ["_law_one", "_law_other"] ["_law_one", "_law_other"] (defScope s__law_by) := ⟨rfl, rfl, rfl, by decide +kernel, rfl, by decide +kernel, by decide +kernel⟩
def N__law_span : List Str := ["_law_policy_here"]
theorem sc__law_span : FnScope ["_law_policy_here"] ["_law_policy_here"] (defScope s__law_span) := ⟨rfl, rfl, rfl, by decide +kernel, rfl, by decide +kernel, by decide +kernel⟩
def N__law_entry : List Str := ["_law_payments", "_law_time"]
theorem sc__law_entry : FnScope ["_law_payments", "_law_time"] ["_law_payments", "_law_time"] (defScope s__law_entry) := ⟨rfl, rfl, rfl, by decide +kernel, rfl, by decide +kernel, by decide +kernel⟩
def N__law_net : List Str := ["_law_policy_here", "_law_time", "_law_premium"]
theorem sc__law_net : FnScope ["_law_policy_here", "_law_time", "_law_premium"] ["_law_policy_here", "_law_time"] (defScope s__law_net) := ⟨rfl, rfl, rfl, by decide +kernel, rfl, by decide +kernel, by decide +kernel⟩
def N__law_step : List Str := ["_law_rate_here", "_law_years", "_law_found", "_law_turn"]
theorem sc__law_step : FnScope ["_law_rate_here", "_law_years", "_law_found", "_law_turn"] ["_law_rate_here", "_law_years"] (defScope s__law_step) := ⟨rfl, rfl, rfl, by decide +kernel, rfl, by decide +kernel, by decide +kernel⟩
def N__law_from : List Str := ["_law_policy_here", "_law_time", "_law_lives_here", "_law_age", "_law_found", "_law_k", "_law_lived", "_law_died", "_law_paid"]
theorem sc__law_from : FnScope ["_law_policy_here", "_law_time", "_law_lives_here", "_law_age", "_law_found", "_law_k", "_law_lived", "_law_died", "_law_paid"] ["_law_policy_here", "_law_time"] (defScope s__law_from) := ⟨rfl, rfl, rfl, by decide +kernel, rfl, by decide +kernel, by decide +kernel⟩
def N__law_below : List Str := ["_law_one", "_law_other"]
theorem sc__law_below : FnScope ["_law_one", "_law_other"] ["_law_one", "_law_other"] (defScope s__law_below) := ⟨rfl, rfl, rfl, by decide +kernel, rfl, by decide +kernel, by decide +kernel⟩
section
variable {P : Program} {w : World} {K : PySem.W.Frag} {mg : Str → Option Value} {base : Heap} {f : Addr} {fd : FuncData}
/-! ### the law's own ratios -/
theorem ok_l_ratio (F : FnP K "_law_ratio" s__law_ratio f fd) (T : Txt mg) : FnOk P w K mg base CX0 1 f fd ["_law_top", "_law_bottom"] (sp_ratio K) := by
  refine F.ok sc__law_ratio (fun vs H Q E h => ?_) (fun cdv A outer s H vs Q E hr h => ?_)
  · obtain ⟨a, b, n, q, rfl, _⟩ := h; rfl
  · obtain ⟨a, b, n, q, rfl, M, hn, k⟩ := h
    refine ⟨_, PSs.nox (pss_cons (ps_par (i := 2) (j := 3) (by rfl) sc__law_ratio.nd rfl rfl (by decide) rfl rfl (pa_cons (pe_callB call_abs (by rfl) T.abs (by decide +kernel) (pa_cons (pv 0) pa_nil)) (pa_cons (pe_callB call_abs (by rfl) T.abs (by decide +kernel) (pa_cons (pv 1) pa_nil)) pa_nil)) (by rfl))
      (pss_cons (ps_while PassesOwn.never (pt_cmpR op_ne (pv 3) pe_int (nomark _))
      (pss_one (ps_par (i := 2) (j := 3) (by rfl) sc__law_ratio.nd rfl rfl (by decide) rfl rfl (pa_cons (pv 3) (pa_cons (pe_op op_modN (pe_callTy call_int1 (by rfl) T.int (by decide +kernel) (pa_cons (pv 2) pa_nil)) (pv 3)) pa_nil)) (by rfl))))
      (pss_one (ps_ret (pe_ifExp (pt_cmpR op_gt (pv 1) pe_int (nomark _)) (pe_tup (pa_cons (pe_op op_fdivW (pv 0) (pv 2)) (pa_cons (pe_op op_fdivW (pv 1) (pv 2)) pa_nil))) (pe_tup (pa_cons (pe_op op_sub pe_int (pe_op op_fdivW (pv 0) (pv 2))) (pa_cons (pe_op op_sub pe_int (pe_op op_fdivW (pv 1) (pv 2))) pa_nil)))))))), ?_⟩
    have hb := M.pos
    have g := gcd_pos (t := a) hb
    have gle := gcd_le (t := a) hb
    have hd : CDivW a ((Nat.gcd a.natAbs b.natAbs : Nat) : Int) := wide_div (b := n + 1) (by omega) (by have := M.sb; rw [Nat.pow_succ]; omega) (by omega) (by omega)
    have hd2 : CDivW b ((Nat.gcd a.natAbs b.natAbs : Nat) : Int) := wide_div (b := n + 1) (by omega) (by have := M.sb; rw [Nat.pow_succ]; omega) (by omega) (by omega)
    have ab : ∀ z : Int, (if z < 0 then -z else z) = (z.natAbs : Int) := fun z => by split <;> omega
    refine q_par (ev_to (ev_abs (ev_i rfl)) (y := .int (a.natAbs : Int)) (by rw [ab])) mono_is (ev_to (ev_abs (ev_i rfl)) (y := .int (b.natAbs : Int)) (by rw [ab])) mono_is fun u v H1 e1 hu hv => ?_
    obtain rfl : u = _ := hu
    obtain rfl : v = _ := hv
    refine q_while (fun m σ' H' => ∃ x y : Nat, σ' = [some (.int a), some (.int b), some (.int (x : Int)), some (.int (y : Int))] ∧ Nat.gcd x y = Nat.gcd a.natAbs b.natAbs ∧ y = m ∧ Ext H H') b.natAbs ⟨a.natAbs, b.natAbs, rfl, rfl, rfl, e1⟩ fun m σ' H' hW => ?_
    obtain ⟨x, y, rfl, hg, rfl, eH⟩ := hW
    refine ⟨_, et_test (ev_ne (ev_i rfl) ev_c rfl), fun hy H2 e2 => ?_, fun hy H2 e2 => ?_⟩
    · have y0 : y ≠ 0 := fun z => by
        subst z
        exact absurd hy (by decide)
      have ei : Ev (tVar 2) [some (.int a), some (.int b), some (.int (x : Int)), some (.int (y : Int))] H2 (is (.int (x : Int))) := ev_i rfl
      have ey : Ev (tVar 3) [some (.int a), some (.int b), some (.int (x : Int)), some (.int (y : Int))] H2 (is (.int (y : Int))) := ev_i rfl
      refine (ea_2 ey mono_is (ev_to (ev_I (ev_int ei) ey (by omega)) (y := .int ((x % y : Nat) : Int)) (by rw [Int.fmod_eq_emod_of_nonneg _ (by omega)]; rfl)) mono_is) H2 (Ext.refl H2) _ fun vs H3 e3 ⟨u, v, h1, h2, h3⟩ => ?_
      obtain rfl : u = _ := h2
      obtain rfl : v = _ := h3
      refine ⟨_, _, h1, x % y, Nat.mod_lt _ (by omega), y, x % y, rfl, ?_, rfl, (eH.trans e2).trans e3⟩
      rw [← hg, Nat.gcd_comm y, ← Nat.gcd_rec, Nat.gcd_comm]
    · have y0 : y = 0 := by
        have h1 : decide (V.int (y : Int) = V.int 0) = true := by simpa using hy
        have := V.int.inj (of_decide_eq_true h1)
        omega
      subst y0
      rw [Nat.gcd_zero_right] at hg
      subst hg
      refine s_ret (ev_if (b := true) (et_is (et_test (ev_I0 (ev_i rfl) ev_c)) (decide_eq_true hb)) (fun _ => eu_2 (K := K) (ev_I (ev_i rfl) (ev_i rfl) hd) (ev_I (ev_i rfl) (ev_i rfl) hd2)) (fun h => nomatch h)) fun v H3 e3 hv => ?_
      obtain ⟨p, rfl, hp⟩ := hv
      obtain ⟨d1, d2⟩ := div_of (t := a) hb
      rw [← d1, ← d2, ← M.eq] at hp
      exact k _ _ ((eH.trans e2).trans e3) ⟨p, rfl, hp, M.sz⟩
structure Law1 (P : Program) (w : World) (K : PySem.W.Frag) (mg : Str → Option Value) (base : Heap) : Prop where
  _law_ratio : Callee P w K mg base "_law_ratio" 1 ["_law_top", "_law_bottom"] (sp_ratio K)
theorem ok_l_plus (F : FnP K "_law_plus" s__law_plus f fd) (C : Law1 P w K mg base) : FnOk P w K mg base CX0 2 f fd ["_law_one", "_law_other"] (sp_plus K) := by
  refine F.ok sc__law_plus (fun vs H Q E h => ?_) (fun cdv A outer s H vs Q E hr h => ?_)
  · obtain ⟨x, y, n, m, a, b, rfl, _⟩ := h; rfl
  · obtain ⟨x, y, n, m, a, b, rfl, ⟨p, a1, b1, rfl, hp, M1⟩, ⟨r, a2, b2, rfl, hr2, M2⟩, hn, k⟩ := h
    refine ⟨_, PSs.nox (pss_one (ps_ret (pc C._law_ratio hr (by decide) (pa_cons (pe_op op_add (pe_op op_mulW (pe_ix (r := rIxT K) ix_tup (pv 0) pe_int (fun _ _ => rfl)) (pe_ix (r := rIxT K) ix_tup (pv 1) pe_int (fun _ _ => rfl))) (pe_op op_mulW (pe_ix (r := rIxT K) ix_tup (pv 1) pe_int (fun _ _ => rfl)) (pe_ix (r := rIxT K) ix_tup (pv 0) pe_int (fun _ _ => rfl)))) (pa_cons (pe_op op_mulW (pe_ix (r := rIxT K) ix_tup (pv 0) pe_int (fun _ _ => rfl)) (pe_ix (r := rIxT K) ix_tup (pv 1) pe_int (fun _ _ => rfl))) pa_nil))))), ?_⟩
    exact s_ret (ev_ratio (ev_I0 (ev_I (ev_top (ev_t hp rfl)) (ev_bot (ev_t hr2 rfl)) (mulok M1.sa M2.sb hn)) (ev_I (ev_top (ev_t hr2 rfl)) (ev_bot (ev_t hp rfl)) (mulok M2.sa M1.sb (by omega))))
      (ev_I (ev_bot (ev_t hp rfl)) (ev_bot (ev_t hr2 rfl)) (mulok M1.sb M2.sb hn)) (M1.add M2) (by omega)) k
theorem ok_l_by (F : FnP K "_law_by" s__law_by f fd) (C : Law1 P w K mg base) : FnOk P w K mg base CX0 2 f fd ["_law_one", "_law_other"] (sp_by K) := by
  refine F.ok sc__law_by (fun vs H Q E h => ?_) (fun cdv A outer s H vs Q E hr h => ?_)
  · obtain ⟨x, y, n, m, a, b, rfl, _⟩ := h; rfl
  · obtain ⟨x, y, n, m, a, b, rfl, ⟨p, a1, b1, rfl, hp, M1⟩, ⟨r, a2, b2, rfl, hr2, M2⟩, hn, k⟩ := h
    refine ⟨_, PSs.nox (pss_one (ps_ret (pc C._law_ratio hr (by decide) (pa_cons (pe_op op_mulW (pe_ix (r := rIxT K) ix_tup (pv 0) pe_int (fun _ _ => rfl)) (pe_ix (r := rIxT K) ix_tup (pv 1) pe_int (fun _ _ => rfl))) (pa_cons (pe_op op_mulW (pe_ix (r := rIxT K) ix_tup (pv 0) pe_int (fun _ _ => rfl)) (pe_ix (r := rIxT K) ix_tup (pv 1) pe_int (fun _ _ => rfl))) pa_nil))))), ?_⟩
    exact s_ret (ev_ratio (ev_I (ev_top (ev_t hp rfl)) (ev_top (ev_t hr2 rfl)) (mulok M1.sa M2.sa hn)) (ev_I (ev_bot (ev_t hp rfl)) (ev_bot (ev_t hr2 rfl)) (mulok M1.sb M2.sb hn)) (M1.mul M2) (by omega)) k
/-! ### below -/
def sp_below (K : PySem.W.Frag) : Sp := fun vs H Q _ => ∃ (x y : V) (n m : Nat) (a b : Rat), vs = [x, y] ∧ PV K n a x H ∧ PV K m b y H ∧ n + m ≤ 14000 ∧ ∀ v H', Ext H H' → is (.bl (decide (a < b))) v H' → Q v H'
theorem mulok2 {a b : Int} {n m : Nat} (h1 : a.natAbs < 2 ^ n) (h2 : b.natAbs < 2 ^ m) (h : n + m ≤ 14000) : CMulW a b :=
  wide_mul (a := n + 1) (b := m + 1) (by rw [Nat.pow_succ]; omega) (by rw [Nat.pow_succ]; omega) (by omega) (by omega) (by omega)
theorem ok_l_below (F : FnP K "_law_below" s__law_below f fd) : FnOk P w K mg base CX0 1 f fd ["_law_one", "_law_other"] (sp_below K) := by
  refine F.ok sc__law_below (fun vs H Q E h => ?_) (fun cdv A outer s H vs Q E hr h => ?_)
  · obtain ⟨x, y, n, m, a, b, rfl, _⟩ := h; rfl
  · obtain ⟨x, y, n, m, a, b, rfl, ⟨p, a1, b1, rfl, hp, M1⟩, ⟨r, a2, b2, rfl, hr2, M2⟩, hn, k⟩ := h
    refine ⟨_, PSs.nox (pss_one (ps_ret (pe_cmpR op_lt (pe_op op_mulW (pe_ix (r := rIxT K) ix_tup (pv 0) pe_int (fun _ _ => rfl)) (pe_ix (r := rIxT K) ix_tup (pv 1) pe_int (fun _ _ => rfl))) (pe_op op_mulW (pe_ix (r := rIxT K) ix_tup (pv 1) pe_int (fun _ _ => rfl)) (pe_ix (r := rIxT K) ix_tup (pv 0) pe_int (fun _ _ => rfl))) (nomark _)))), ?_⟩
    exact s_ret (ev_to (ev_I0 (ev_I (ev_top (ev_t hp rfl)) (ev_bot (ev_t hr2 rfl)) (mulok2 M1.sa M2.sb hn)) (ev_I (ev_top (ev_t hr2 rfl)) (ev_bot (ev_t hp rfl)) (mulok2 M2.sa M1.sb (by omega)))) (by rw [decide_eq_decide.mpr (M1.lt M2)])) k
theorem ev_below {σ : L2.St} {H : Hp} {ta tb : TE} {n m : Nat} {a b : Rat} (ha : Ev ta σ H (PV K n a)) (hb : Ev tb σ H (PV K m b)) (h : n + m ≤ 14000) : Ev (tCall (sp_below K) [] E0 (tCons ta (tCons tb tNil))) σ H (is (.bl (decide (a < b)))) :=
  ev_call (ea_2 ha mono_PV hb mono_PV) fun vs H1 Q _ ⟨v, w, h1, h2, h3⟩ q' => ⟨v, w, n, m, a, b, h1, h2, h3, h, q'⟩
/-! ### span, entry, net, step -/
theorem ok_l_span (F : FnP K "_law_span" s__law_span f fd) (T : Txt mg) : FnOk P w K mg base CX0 1 f fd ["_law_policy_here"] (sp_span_of K) := by
  refine F.ok sc__law_span (fun vs H Q E h => ?_) (fun cdv A outer s H vs Q E hr h => ?_)
  · obtain ⟨x, c, rfl, _⟩ := h; rfl
  · obtain ⟨x, c, rfl, hx, ok, k⟩ := h
    refine ⟨_, PSs.nox (pss_one (ps_ret (pe_op op_sub (pe_op op_sub (pe_callB call_len_seq (by rfl) T.len PySem.boot_len (pa_cons (pe_ix (r := rIxT K) ix_tup (pv 0) pe_int (fun _ _ => rfl)) pa_nil)) pe_int) (pe_ix (r := rIxT K) ix_tup (pv 0) pe_int (fun _ _ => rfl))))), ?_⟩
    exact s_ret (ev_to (ev_I0 (ev_I0 (ev_lenT (pol_L (ev_pol hx rfl))) ev_c) (pol_age (ev_pol hx rfl))) (by unfold Pol.n; have := ok.age; congr 1; omega)) k
def sp_l_entry (K : PySem.W.Frag) : Sp := fun vs H Q _ => ∃ (x : V) (t : Nat) (xs : List Int), vs = [x, .int (t : Int)] ∧ TV K xs x H ∧ ∀ v H', Ext H H' → is (.int (entI xs t)) v H' → Q v H'
theorem ok_l_entry (F : FnP K "_law_entry" s__law_entry f fd) (T : Txt mg) : FnOk P w K mg base CX0 1 f fd ["_law_payments", "_law_time"] (sp_l_entry K) := by
  refine F.ok sc__law_entry (fun vs H Q E h => ?_) (fun cdv A outer s H vs Q E hr h => ?_)
  · obtain ⟨x, t, xs, rfl, _⟩ := h; rfl
  · obtain ⟨x, t, xs, rfl, hx, k⟩ := h
    refine ⟨_, PSs.nox (pss_one (ps_ret (pe_ifExp (pt_cmpR op_lt (pv 1) (pe_callB call_len_seq (by rfl) T.len PySem.boot_len (pa_cons (pv 0) pa_nil)) (nomark _)) (pe_ix (r := rIxT K) ix_tup (pv 0) (pv 1) (fun _ _ => rfl)) pe_int))), ?_⟩
    refine s_ret (ev_if (et_test (ev_I0 (ev_i rfl) (ev_lenT (ev_tv hx rfl)))) (fun h => ?_) (fun h => ?_)) k
    · exact ev_atT (ev_tv hx rfl) (ev_i rfl) (by have := of_decide_eq_true h; omega)
    · have e : entI xs t = 0 := by
        have := of_decide_eq_false h
        unfold entI; rw [List.getElem?_eq_none (by omega)]; rfl
      rw [e]; exact ev_c
theorem ev_lentry {σ : L2.St} {H : Hp} {ta tb : TE} {xs : List Int} {t : Nat} (ha : Ev ta σ H (TV K xs)) (hb : Ev tb σ H (is (.int (t : Int)))) : Ev (tCall (sp_l_entry K) [] E0 (tCons ta (tCons tb tNil))) σ H (is (.int (entI xs t))) :=
  ev_call (ea_2 ha mono_TV hb mono_is) fun vs H1 Q _ ⟨v, w, h1, h2, h3⟩ q' => ⟨v, t, xs, by rw [h1, show w = _ from h3], h2, q'⟩
structure Law2 (P : Program) (w : World) (K : PySem.W.Frag) (mg : Str → Option Value) (base : Heap) : Prop extends Law1 P w K mg base where
  _law_plus : Callee P w K mg base "_law_plus" 2 ["_law_one", "_law_other"] (sp_plus K)
  _law_by : Callee P w K mg base "_law_by" 2 ["_law_one", "_law_other"] (sp_by K)
  _law_below : Callee P w K mg base "_law_below" 1 ["_law_one", "_law_other"] (sp_below K)
  _law_span : Callee P w K mg base "_law_span" 1 ["_law_policy_here"] (sp_span_of K)
  _law_entry : Callee P w K mg base "_law_entry" 1 ["_law_payments", "_law_time"] (sp_l_entry K)
/-- an entry as a ratio -/
theorem ev_entp {σ : L2.St} {H : Hp} {ta tb : TE} {xs : List Int} {t : Nat} (ha : Ev ta σ H (TV K xs)) (hb : Ev tb σ H (is (.int (t : Int)))) (hs : Pays xs) : Ev (tTup (tCons (tCall (sp_l_entry K) [] E0 (tCons ta (tCons tb tNil))) (tCons (tC (.int 1)) tNil))) σ H (PV K 20 (ent xs t)) :=
  ev_pair (ev_lentry ha hb) ev_c (Means.int (entI_sz hs t) (by decide))
/-- (0 - x[0], x[1]) -/
theorem ev_negp {σ : L2.St} {H : Hp} {ta : TE} {n : Nat} {q : Rat} {i : Nat} {v : V} (hv : RV K n q v H) (h : σ[i]? = some (some v)) : Ev (tTup (tCons (tOp (rI0 fun i j => .int (i - j)) (tC (.int 0)) (tOp (rIxT K) (tVar i) (tC (.int 0)))) (tCons (tOp (rIxT K) (tVar i) (tC (.int 1))) tNil))) σ H (PV K n (-q)) := by
  obtain ⟨p, rfl, hp, hs⟩ := hv
  exact ev_pair (ev_I0 ev_c (ev_top (ev_t hp h))) (ev_bot (ev_t hp h)) (Means.of hs).neg
theorem ok_l_net (F : FnP K "_law_net" s__law_net f fd) (C : Law2 P w K mg base) : FnOk P w K mg base CX0 3 f fd ["_law_policy_here", "_law_time"] (sp_net_alive K) := by
  refine F.ok sc__law_net (fun vs H Q E h => ?_) (fun cdv A outer s H vs Q E hr h => ?_)
  · obtain ⟨x, t, c, rfl, _⟩ := h; rfl
  · obtain ⟨x, t, c, rfl, hx, ok, k⟩ := h
    refine ⟨_, PSs.nox (pss_cons (ps_set (i := 2) sc__law_net.nd rfl (Or.inl rfl) (pe_ifExp (pt_cmpR op_lt (pv 1) (pe_ix (r := rIxT K) ix_tup (pv 0) pe_int (fun _ _ => rfl)) (nomark _)) (pe_ix (r := rIxT K) ix_tup (pv 0) pe_int (fun _ _ => rfl)) (pe_tup (pa_cons pe_int (pa_cons pe_int pa_nil)))))
      (pss_one (ps_ret (pc C._law_plus hr (by decide) (pa_cons (pe_tup (pa_cons (pc C._law_entry hr (by decide) (pa_cons (pe_ix (r := rIxT K) ix_tup (pv 0) pe_int (fun _ _ => rfl)) (pa_cons (pv 1) pa_nil))) (pa_cons pe_int pa_nil))) (pa_cons (pe_tup (pa_cons (pe_op op_sub pe_int (pe_ix (r := rIxT K) ix_tup (pv 2) pe_int (fun _ _ => rfl))) (pa_cons (pe_ix (r := rIxT K) ix_tup (pv 2) pe_int (fun _ _ => rfl)) pa_nil))) pa_nil)))))), ?_⟩
    refine q_asg (P := RV K 20 (if t < c.yr then c.p else 0)) (ev_if (et_test (ev_I0 (ev_i rfl) (pol_yr (ev_pol hx rfl)))) (fun h => ?_) (fun h => ?_)) fun v H1 e1 hv => ?_
    · have : t < c.yr := by have := of_decide_eq_true h; omega
      rw [if_pos this]; exact pol_p (ev_pol hx rfl)
    · have : ¬ t < c.yr := by have := of_decide_eq_false h; omega
      rw [if_neg this]; exact ev_lit ev_c ev_c rfl rfl (by constructor <;> decide)
    · exact s_ret ((ev_plus (ev_entp (pol_al (ev_pol (hx.ext e1) rfl)) (ev_i rfl) ok.al) (ev_negp (ta := tVar 0) hv rfl) (by decide)).to (by unfold Pol.net; rw [Rat.sub_eq_add_neg])) fun v2 H2 e2 h2 => k _ _ (e1.trans e2) h2
def sp_step (K : PySem.W.Frag) : Sp := fun vs H Q _ => ∃ (x : V) (m : Nat) (i : Rat), vs = [x, .int (m : Int)] ∧ RV K 10 i x H ∧ 0 < 1 + i ∧ m ≤ 10 ∧ ∀ v H', Ext H H' → RV K 120 ((1 + i)⁻¹ ^ m) v H' → Q v H'
theorem ok_l_step (F : FnP K "_law_step" s__law_step f fd) (T : Txt mg) (C : Law2 P w K mg base) : FnOk P w K mg base CX0 3 f fd ["_law_rate_here", "_law_years"] (sp_step K) := by
  refine F.ok sc__law_step (fun vs H Q E h => ?_) (fun cdv A outer s H vs Q E hr h => ?_)
  · obtain ⟨x, m, i, rfl, _⟩ := h; rfl
  · obtain ⟨x, m, i, rfl, ⟨p, rfl, hp, hs⟩, hi, hm, k⟩ := h
    refine ⟨_, PSs.nox (pss_cons (ps_set (i := 2) sc__law_step.nd rfl (Or.inl rfl) (pe_tup (pa_cons pe_int (pa_cons pe_int pa_nil))))
      (pss_cons (ps_for PassesOwn.never rfl (pi_range1 (by rfl) T.range (pa_cons (pv 1) pa_nil)) (pg_name (i := 3) sc__law_step.nd rfl (Or.inl rfl))
      (pss_one (ps_set (i := 2) sc__law_step.nd rfl (Or.inl rfl) (pc C._law_by hr (by decide) (pa_cons (pv 2) (pa_cons (pe_tup (pa_cons (pe_ix (r := rIxT K) ix_tup (pv 0) pe_int (fun _ _ => rfl)) (pa_cons (pe_op op_add (pe_ix (r := rIxT K) ix_tup (pv 0) pe_int (fun _ _ => rfl)) (pe_ix (r := rIxT K) ix_tup (pv 0) pe_int (fun _ _ => rfl))) pa_nil))) pa_nil))))))
      (pss_one (ps_ret (pv 2))))), ?_⟩
    have M := (grow_means hs).inv hi
    refine q_asg (ev_lit (K := K) (q := 1) (n := 1) ev_c ev_c rfl rfl (by constructor <;> decide)) fun v H1 e1 hv => ?_
    refine q_forR1 (n := m) ((ea_1 (ev_i rfl) mono_is).imp fun vs H' _ ⟨v, h1, h2⟩ => by rw [h1, show v = _ from h2]) (by omega)
      (fun j σ' H' => ∃ g u, σ' = [some (.ref p), some (.int (m : Int)), some g, u] ∧ Ext H H' ∧ RV K (1 + 11 * j) ((1 + i)⁻¹ ^ j) g H') (fun H2 e2 => ⟨v, none, rfl, e1.trans e2, by rw [Rat.pow_zero]; exact hv.ext e2⟩) ?_ ?_
    · rintro j σ' H' hj ⟨g, u, rfl, eH, hg⟩
      refine s_asg (ev_by (ev_r hg rfl).pv (ev_pair (K := K) (ev_bot (ev_t (eH.t hp) rfl)) (ev_I0 (ev_top (ev_t (eH.t hp) rfl)) (ev_bot (ev_t (eH.t hp) rfl))) M) (by omega)) fun x H2 e2 hx => ?_
      refine ⟨x, _, rfl, eH.trans e2, ?_⟩
      rw [Rat.pow_succ]; exact hx.le (by omega)
    · rintro σ' H' ⟨g, u, rfl, eH, hg⟩
      exact s_ret (ev_r hg rfl) fun x H2 e2 hx => k x H2 (eH.trans e2) (hx.le (by omega))
theorem ev_step {σ : L2.St} {H : Hp} {ta tb : TE} {m : Nat} {i : Rat} (ha : Ev ta σ H (RV K 10 i)) (hb : Ev tb σ H (is (.int (m : Int)))) (hi : 0 < 1 + i) (hm : m ≤ 10) : Ev (tCall (sp_step K) [] E0 (tCons ta (tCons tb tNil))) σ H (RV K 120 ((1 + i)⁻¹ ^ m)) :=
  ev_call (ea_2 ha mono_RV hb mono_is) fun vs H1 Q _ ⟨v, w, h1, h2, h3⟩ q' => ⟨v, m, i, by rw [h1, show w = _ from h3], h2, hi, hm, q'⟩
/-! ### the reserve from the front -/
structure Law3 (P : Program) (w : World) (K : PySem.W.Frag) (mg : Str → Option Value) (base : Heap) : Prop extends Law2 P w K mg base where
  _law_net : Callee P w K mg base "_law_net" 3 ["_law_policy_here", "_law_time"] (sp_net_alive K)
  _law_step : Callee P w K mg base "_law_step" 3 ["_law_rate_here", "_law_years"] (sp_step K)
theorem p20 : (2 : Nat) ^ 20 = 1048576 := by decide
theorem lk_means {a b : Int} (ha : 0 ≤ a ∧ a ≤ 1000000) (hb : 0 < b ∧ b ≤ 1000000) : Means 20 a b (((a : Int) : Rat) / ((b : Int) : Rat)) :=
  ⟨hb.1, by rw [Rat.divInt_eq_div], by rw [p20]; omega, by rw [p20]; omega⟩
theorem ld_means {a c b : Int} (ha : 0 ≤ a ∧ a ≤ 1000000) (hc : 0 ≤ c ∧ c ≤ 1000000) (hb : 0 < b ∧ b ≤ 1000000) : Means 20 (a - c) b ((((a : Int) : Rat) - ((c : Int) : Rat)) / ((b : Int) : Rat)) :=
  ⟨hb.1, by rw [Rat.divInt_eq_div, Rat.intCast_sub], by rw [p20]; omega, by rw [p20]; omega⟩
def sp_from (K : PySem.W.Frag) : Sp := fun vs H Q _ => ∃ (x : V) (t : Nat) (c : Pol), vs = [x, .int (t : Int)] ∧ PolV K c x H ∧ c.Ok ∧ t ≤ c.n ∧ ∀ v H', Ext H H' → RV K 2500 (c.res t) v H' → Q v H'
theorem ok_l_from (F : FnP K "_law_from" s__law_from f fd) (T : Txt mg) (C : Law3 P w K mg base) : FnOk P w K mg base CX0 4 f fd ["_law_policy_here", "_law_time"] (sp_from K) := by
  refine F.ok sc__law_from (fun vs H Q E h => ?_) (fun cdv A outer s H vs Q E hr h => ?_)
  · obtain ⟨x, t, c, rfl, _⟩ := h; rfl
  · obtain ⟨x, t, c, rfl, hx, ok, ht, k⟩ := h
    refine ⟨_, PSs.nox (pss_cons (ps_par3 (i := 2) (j := 3) (l := 4) (by rfl) sc__law_from.nd rfl rfl rfl (by decide) (by decide) (by decide) rfl rfl rfl (pa_cons (pe_ix (r := rIxT K) ix_tup (pv 0) pe_int (fun _ _ => rfl)) (pa_cons (pe_ix (r := rIxT K) ix_tup (pv 0) pe_int (fun _ _ => rfl)) (pa_cons (pe_tup (pa_cons pe_int (pa_cons pe_int pa_nil))) pa_nil))) (by rfl))
      (pss_cons (ps_for PassesOwn.never rfl (pi_range2 (by rfl) T.range (pa_cons (pv 1) (pa_cons (pc C._law_span hr (by decide) (pa_cons (pv 0) pa_nil)) pa_nil))) (pg_name (i := 5) sc__law_from.nd rfl (Or.inl rfl))
      (pss_cons (ps_set (i := 6) sc__law_from.nd rfl (Or.inl rfl) (pc C._law_ratio hr (by decide) (pa_cons (pe_ix (r := rIxT K) ix_tup (pv 2) (pe_op op_add (pv 3) (pv 5)) (fun _ _ => rfl)) (pa_cons (pe_ix (r := rIxT K) ix_tup (pv 2) (pe_op op_add (pv 3) (pv 1)) (fun _ _ => rfl)) pa_nil))))
      (pss_cons (ps_set (i := 7) sc__law_from.nd rfl (Or.inl rfl) (pc C._law_ratio hr (by decide) (pa_cons (pe_op op_sub (pe_ix (r := rIxT K) ix_tup (pv 2) (pe_op op_add (pv 3) (pv 5)) (fun _ _ => rfl)) (pe_ix (r := rIxT K) ix_tup (pv 2) (pe_op op_add (pe_op op_add (pv 3) (pv 5)) pe_int) (fun _ _ => rfl))) (pa_cons (pe_ix (r := rIxT K) ix_tup (pv 2) (pe_op op_add (pv 3) (pv 1)) (fun _ _ => rfl)) pa_nil))))
      (pss_cons (ps_set (i := 4) sc__law_from.nd rfl (Or.inl rfl) (pc C._law_plus hr (by decide) (pa_cons (pv 4) (pa_cons (pc C._law_by hr (by decide) (pa_cons (pc C._law_by hr (by decide) (pa_cons (pv 6) (pa_cons (pc C._law_step hr (by decide) (pa_cons (pe_ix (r := rIxT K) ix_tup (pv 0) pe_int (fun _ _ => rfl)) (pa_cons (pe_op op_sub (pv 5) (pv 1)) pa_nil))) pa_nil))) (pa_cons (pc C._law_net hr (by decide) (pa_cons (pv 0) (pa_cons (pv 5) pa_nil))) pa_nil))) pa_nil))))
      (pss_cons (ps_set (i := 8) sc__law_from.nd rfl (Or.inl rfl) (pc C._law_by hr (by decide) (pa_cons (pe_tup (pa_cons (pc C._law_entry hr (by decide) (pa_cons (pe_ix (r := rIxT K) ix_tup (pv 0) pe_int (fun _ _ => rfl)) (pa_cons (pv 5) pa_nil))) (pa_cons pe_int pa_nil))) (pa_cons (pc C._law_step hr (by decide) (pa_cons (pe_ix (r := rIxT K) ix_tup (pv 0) pe_int (fun _ _ => rfl)) (pa_cons (pe_op op_sub (pe_op op_add (pv 5) pe_int) (pv 1)) pa_nil))) pa_nil))))
      (pss_one (ps_set (i := 4) sc__law_from.nd rfl (Or.inl rfl) (pc C._law_plus hr (by decide) (pa_cons (pv 4) (pa_cons (pc C._law_by hr (by decide) (pa_cons (pv 7) (pa_cons (pv 8) pa_nil))) pa_nil))))))))))
      (pss_one (ps_ret (pv 4))))), ?_⟩
    have n7 := ok.n_le
    refine q_par3 (pol_L (ev_pol hx rfl)) mono_TV (pol_age (ev_pol hx rfl)) mono_is (ev_lit (K := K) (q := 0) (n := 1) ev_c ev_c rfl rfl (by constructor <;> decide)) mono_RV fun pl ag g0 H1 e1 hpl hag hg0 => ?_
    obtain rfl : ag = _ := hag
    refine q_forR2 (lo := t) (n := c.n) ((ea_2 (ev_i rfl) mono_is (ev_span_of (ev_pol (hx.ext e1) rfl) ok) mono_is).imp fun vs H' _ ⟨u, v, h1, h2, h3⟩ => by rw [h1, show u = _ from h2, show v = _ from h3]) (by omega) (by omega)
      (fun j σ' H' => ∃ g u1 u2 u3 u4, σ' = [some x, some (.int (t : Int)), some pl, some (.int (c.age : Int)), some g, u1, u2, u3, u4] ∧ Ext H H' ∧ TV K c.L pl H' ∧ RV K (1 + 350 * j) (psum c.lf c.net (ent c.de) c.v t j) g H')
      (fun H2 e2 => ⟨g0, none, none, none, none, rfl, e1.trans e2, mono_TV _ _ _ e2 hpl, hg0.ext e2⟩) ?_ ?_
    · rintro j σ' H' hj ⟨g, u1, u2, u3, u4, rfl, eH, hpl', hg⟩
      have hl1 : c.age + (t + j) + 1 < c.L.length := by unfold Pol.n at hj; omega
      have hl0 : c.age + t < c.L.length := by omega
      have tpos : t < c.n := by omega
      have pt : ∀ {σ : L2.St} {H4 : Hp}, Ext H' H4 → σ[2]? = some (some pl) → σ[3]? = some (some (.int (c.age : Int))) → σ[1]? = some (some (.int (t : Int))) → Ev (tOp (rIxT K) (tVar 2) (tOp (rI0 fun i j => .int (i + j)) (tVar 3) (tVar 1))) σ H4 (is (.int (entI c.L (c.age + t)))) := fun {σ H4} e5 h2 h3 h1 =>
        ev_atT (ev_tv (mono_TV _ _ _ e5 hpl') h2) (ev_to (ev_I0 (ev_i h3) (ev_i h1)) rfl) hl0
      have pk : ∀ {σ : L2.St} {H4 : Hp}, Ext H' H4 → σ[2]? = some (some pl) → σ[3]? = some (some (.int (c.age : Int))) → σ[5]? = some (some (.int ((t + j : Nat) : Int))) → Ev (tOp (rIxT K) (tVar 2) (tOp (rI0 fun i j => .int (i + j)) (tVar 3) (tVar 5))) σ H4 (is (.int (entI c.L (c.age + (t + j))))) := fun {σ H4} e5 h2 h3 h1 =>
        ev_atT (ev_tv (mono_TV _ _ _ e5 hpl') h2) (ev_to (ev_I0 (ev_i h3) (ev_i h1)) rfl) (by omega)
      have pk1 : ∀ {σ : L2.St} {H4 : Hp}, Ext H' H4 → σ[2]? = some (some pl) → σ[3]? = some (some (.int (c.age : Int))) → σ[5]? = some (some (.int ((t + j : Nat) : Int))) → Ev (tOp (rIxT K) (tVar 2) (tOp (rI0 fun i j => .int (i + j)) (tOp (rI0 fun i j => .int (i + j)) (tVar 3) (tVar 5)) (tC (.int 1)))) σ H4 (is (.int (entI c.L (c.age + (t + j) + 1)))) := fun {σ H4} e5 h2 h3 h1 =>
        ev_atT (ev_tv (mono_TV _ _ _ e5 hpl') h2) (ev_to (ev_I0 (ev_I0 (ev_i h3) (ev_i h1)) ev_c) rfl) hl1
      have bt : 0 < entI c.L (c.age + t) ∧ entI c.L (c.age + t) ≤ 1000000 := ⟨ok.lpos tpos, (ok.lsz _).2⟩
      refine q_asg (ev_ratio (pk (Ext.refl _) rfl rfl rfl) (pt (Ext.refl _) rfl rfl rfl) (lk_means (ok.lsz _) bt) (by decide)) fun li H2 e2 hli => ?_
      refine q_asg (ev_ratio (ev_I0 (pk e2 rfl rfl rfl) (pk1 e2 rfl rfl rfl)) (pt e2 rfl rfl rfl) (ld_means (ok.lsz _) (ok.lsz _) bt) (by decide)) fun di H3 e3 hdi => ?_
      have e23 := e2.trans e3
      have px : ∀ {H4 : Hp}, Ext H' H4 → PolV K c x H4 := fun e => hx.ext (eH.trans e)
      refine q_asg (ev_plus (ev_r (hg.ext e23) rfl).pv (ev_by (ev_by (ev_r (hli.ext e3) rfl).pv (ev_step (m := j) (pol_rate (ev_pol (px e23) rfl)) (ev_to (ev_I0 (ev_i rfl) (ev_i rfl)) (by congr 1; omega)) ok.gr (by omega)).pv (by decide)).pv (ev_net_alive (t := t + j) (ev_pol (px e23) rfl) (ev_i rfl) ok).pv (by decide)).pv (by omega)) fun g1 H4 e4 hg1 => ?_
      have e24 := e23.trans e4
      refine q_asg (ev_by (ev_entp (t := t + j) (pol_de (ev_pol (px e24) rfl)) (ev_i rfl) ok.de) (ev_step (m := j + 1) (pol_rate (ev_pol (px e24) rfl)) (ev_to (ev_I0 (ev_I0 (ev_i rfl) ev_c) (ev_i rfl)) (by congr 1; omega)) ok.gr (by omega)).pv (by decide)) fun pd H5 e5 hpd => ?_
      have e25 := e24.trans e5
      refine s_asg (ev_plus (ev_r (hg1.ext e5) rfl).pv (ev_by (ev_r (hdi.ext (e4.trans e5)) rfl).pv (ev_r hpd rfl).pv (by decide)).pv (by omega)) fun g2 H6 e6 hg2 => ?_
      refine ⟨g2, _, _, _, _, rfl, eH.trans (e25.trans e6), mono_TV _ _ _ (e25.trans e6) hpl', ?_⟩
      have eA : trA c.lf c.net c.v t (t + j) = c.lf (t + j) / c.lf t * (1 + c.i)⁻¹ ^ j * c.net (t + j) := by unfold trA Pol.v; rw [show t + j - t = j by omega]
      have eB : trB c.lf (ent c.de) c.v t (t + j) = (c.lf (t + j) - c.lf (t + j + 1)) / c.lf t * (ent c.de (t + j) * (1 + c.i)⁻¹ ^ (j + 1)) := by unfold trB Pol.v; rw [show t + j + 1 - t = j + 1 by omega]
      show RV K _ (psum c.lf c.net (ent c.de) c.v t j + trA c.lf c.net c.v t (t + j) + trB c.lf (ent c.de) c.v t (t + j)) g2 H6
      rw [eA, eB]
      exact hg2.le (by omega)
    · rintro σ' H' ⟨g, u1, u2, u3, u4, rfl, eH, hpl', hg⟩
      have e := psum_res (L := c.lf) (net := c.net) (d := ent c.de) (v := c.v) ok.lf_ne t ht
      rw [e] at hg
      exact s_ret (ev_r hg rfl) fun x H2 e2 hx => k x H2 (eH.trans e2) (hx.le (by omega))
theorem ev_from {σ : L2.St} {H : Hp} {ta tb : TE} {c : Pol} {t : Nat} (ha : Ev ta σ H (PolV K c)) (hb : Ev tb σ H (is (.int (t : Int)))) (ok : c.Ok) (ht : t ≤ c.n) : Ev (tCall (sp_from K) [] E0 (tCons ta (tCons tb tNil))) σ H (RV K 2500 (c.res t)) :=
  ev_call (ea_2 ha mono_PolV hb mono_is) fun vs H1 Q _ ⟨v, w, h1, h2, h3⟩ q' => ⟨v, t, c, by rw [h1, show w = _ from h3], h2, ok, ht, q'⟩
end
end K21
set_option maxHeartbeats 4000000
namespace K21
open PySem PySem.Spec PyProof.Rows L2
def N__law_alike : List Str := ["_law_found", "_law_due", "_law_k"]
theorem sc__law_alike : FnScope ["_law_found", "_law_due", "_law_k"] ["_law_found", "_law_due"] (defScope s__law_alike) := ⟨rfl, rfl, rfl, by decide +kernel, rfl, by decide +kernel, by decide +kernel⟩
/-! ### comprehensions over a range -/
def picked (lo m : Nat) (b : Nat → Bool) : List V := ((List.range m).filter b).map fun k => V.int ((lo + k : Nat) : Int)
theorem picked_succ {lo m : Nat} {b : Nat → Bool} : picked lo (m + 1) b = if b m = true then picked lo m b ++ [.int ((lo + m : Nat) : Int)] else picked lo m b := by
  unfold picked
  rw [List.range_succ, List.filter_append, List.map_append]
  by_cases h : b m = true
  · rw [if_pos h, List.filter_cons, if_pos h]; rfl
  · rw [if_neg h, List.filter_cons, if_neg h]
    show _ ++ [] = _
    rw [List.append_nil]
theorem picked_len (lo m : Nat) (b : Nat → Bool) : (picked lo m b).length ≤ m := by
  unfold picked
  rw [List.length_map]
  have := List.length_filter_le b (List.range m)
  rwa [List.length_range] at this
theorem picked_none {lo m : Nat} {b : Nat → Bool} (h : ∀ k, k < m → b k = false) : picked lo m b = [] := by
  unfold picked
  rw [List.filter_eq_nil_iff.mpr fun k hk => by rw [h k (List.mem_range.mp hk)]; exact Bool.false_ne_true]; rfl
theorem picked_some {lo m : Nat} {b : Nat → Bool} (h : picked lo m b = []) : ∀ k, k < m → b k = false := by
  intro k hk
  unfold picked at h
  have h2 := List.filter_eq_nil_iff.mp (List.map_eq_nil_iff.mp h) k (List.mem_range.mpr hk)
  cases e : b k with
  | false => rfl
  | true => exact absurd e h2
section
variable {K : PySem.W.Frag} {σ : L2.St} {H : Hp} {ta : TA} {te : TE} {tt : TT} {vs : List Nat} {j : Nat}
/-- [k for k in range(lo, hi) if t] -/
theorem pick_core {lo m : Nat} {b : Nat → Bool} {H1 : Hp} {D : Addr} {Qd : Hp → Prop} (hD : H1 D = none) (hm : m ≤ 40000) (hw : ∀ x, wipe ((wipe σ vs).set j (some x)) vs = wipe σ vs)
    (hj : ∀ x, ((wipe σ vs).set j (some x))[j]? = some (some x)) (ht : ∀ (i : Nat) H2, i < m → Ext H1 H2 → EvT tt ((wipe σ vs).set j (some (.int ((lo + i : Nat) : Int)))) H2 (b i)) (hd : ∀ H2, Ext H1 H2 → H2 D = some (.lst (picked lo m b)) → Qd H2) :
    ∃ W : Nat → Nat → Hp → Prop, (∃ k, W 0 k (upd H1 D (.lst []))) ∧ ∀ i k H, W i k H →
      ((Itr (lo : Int) m).stop i H ∧ Qd H) ∨ ((Itr (lo : Int) m).go i H ∧ ∃ Nx : Hp → Prop, (∀ H', Nx H' → ∃ k', k' < k ∧ W (i + 1) k' H') ∧ ∀ x H', (Itr (lo : Int) m).yld i H x H' → gName j x (wipe σ vs) H' fun σ2 H2 => wipe σ2 vs = wipe σ vs ∧ tt σ2 H2 fun b H3 =>
        if b = true then tVar j σ2 H3 fun y H4 => ∃ acc, H4 D = some (.lst acc) ∧ acc.length < sizeLine ∧ Nx (upd H4 D (.lst (acc ++ [y]))) else Nx H3) := by
  refine lc_range (lo := (lo : Int)) (n := m) (fun i H' => Ext H1 H' ∧ H' D = some (.lst (picked lo i b))) ⟨Ext.new hD, upd_same⟩ (fun i H' hi hp => ?_) (fun H' hp => hd H' hp.1 hp.2)
  obtain ⟨p1, p2⟩ := hp
  show wipe ((wipe σ vs).set j (some (.int ((lo : Int) + (i : Int))))) vs = wipe σ vs ∧ _
  rw [show (lo : Int) + (i : Int) = ((lo + i : Nat) : Int) by omega]
  refine ⟨hw _, ht i H' hi p1 H' (Ext.refl H') _ fun H3 e3 => ?_⟩
  have d3 := e3.lst p2
  cases hb : b i with
  | true =>
    refine iteT ⟨_, hj _, picked lo i b, d3, ?_, (p1.trans e3).mut hD, ?_⟩
    · have := picked_len lo i b
      exact Nat.lt_of_le_of_lt (show (picked lo i b).length ≤ 40000 by omega) (by decide)
    · rw [upd_same, picked_succ, if_pos hb]
  | false => exact iteF ⟨p1.trans e3, by rw [picked_succ, if_neg (by rw [hb]; exact Bool.false_ne_true)]; exact d3⟩
theorem ev_pick1 {m : Nat} {b : Nat → Bool} (h : EvA ta σ H (fun xs _ => xs = [.int (m : Int)])) (hm : m ≤ 40000) (hw : ∀ x, wipe ((wipe σ vs).set j (some x)) vs = wipe σ vs) (hj : ∀ x, ((wipe σ vs).set j (some x))[j]? = some (some x))
    (ht : ∀ (i : Nat) H2, i < m → Ext H H2 → EvT tt ((wipe σ vs).set j (some (.int (i : Int)))) H2 (b i)) : Ev (tLc (iRng1 ta) (gName j) tt (tVar j) vs) σ H (NewL H fun xs _ => xs = picked 0 m b) := fun H1 e1 Q q =>
  h H1 e1 _ fun xs H2 e2 hx => ⟨(m : Int), hx, by omega, by omega, fun D hD => by
    rw [show ((m : Int)).toNat = m by omega]
    exact pick_core (lo := 0) hD hm hw hj (fun i H3 hi e3 => by rw [Nat.zero_add]; exact ht i H3 hi ((e1.trans e2).trans e3)) fun H3 e3 h3 => q _ _ (e2.trans e3) ⟨D, _, rfl, (e1.trans e2).fresh hD, h3, rfl⟩⟩
theorem ev_pick2 {lo hi : Nat} {b : Nat → Bool} (h : EvA ta σ H (fun xs _ => xs = [.int (lo : Int), .int (hi : Int)])) (h1 : lo ≤ 40000) (hm : hi ≤ 40000) (hw : ∀ x, wipe ((wipe σ vs).set j (some x)) vs = wipe σ vs) (hj : ∀ x, ((wipe σ vs).set j (some x))[j]? = some (some x))
    (ht : ∀ (i : Nat) H2, lo + i < hi → Ext H H2 → EvT tt ((wipe σ vs).set j (some (.int ((lo + i : Nat) : Int)))) H2 (b i)) : Ev (tLc (iRng2 ta) (gName j) tt (tVar j) vs) σ H (NewL H fun xs _ => xs = picked lo (hi - lo) b) := fun H1 e1 Q q =>
  h H1 e1 _ fun xs H2 e2 hx => ⟨(lo : Int), (hi : Int), hx, ⟨by omega, by omega, by omega, by omega⟩, fun D hD => by
    rw [show ((hi : Int) - (lo : Int)).toNat = hi - lo by omega]
    exact pick_core (lo := lo) hD (by omega) hw hj (fun i H3 hi e3 => ht i H3 (by omega) ((e1.trans e2).trans e3)) fun H3 e3 h3 => q _ _ (e2.trans e3) ⟨D, _, rfl, (e1.trans e2).fresh hD, h3, rfl⟩⟩
/-- [e for k in range(m)], ratios -/
theorem ev_mapR {m n : Nat} {g : Nat → Rat} (h : EvA ta σ H (fun xs _ => xs = [.int (m : Int)])) (hm : m ≤ 40000) (hw : ∀ x, wipe ((wipe σ vs).set j (some x)) vs = wipe σ vs)
    (he : ∀ (i : Nat) H2, i < m → Ext H H2 → Ev te ((wipe σ vs).set j (some (.int (i : Int)))) H2 (RV K n (g i))) : Ev (tLc (iRng1 ta) (gName j) tYes te vs) σ H (NewL H fun xs H' => RowR K n m g xs H') := fun H1 e1 Q q =>
  h H1 e1 _ fun xs H2 e2 hx => ⟨(m : Int), hx, by omega, by omega, fun D hD => by
    rw [show ((m : Int)).toNat = m by omega]
    refine lc_range (lo := 0) (n := m) (fun i H' => Ext H2 H' ∧ ∃ xs, H' D = some (.lst xs) ∧ RowR K n i g xs H') ⟨Ext.new hD, [], upd_same, rfl, fun j u hj => by cases hj⟩ (fun i H' hi hp => ?_) (fun H' ⟨p1, xs, p2, p3⟩ => q _ _ (e2.trans p1) ⟨D, xs, rfl, (e1.trans e2).fresh hD, p2, p3⟩)
    obtain ⟨p1, xs, p2, p3⟩ := hp
    show wipe ((wipe σ vs).set j (some (.int ((0 : Int) + (i : Int))))) vs = wipe σ vs ∧ _
    rw [Int.zero_add]
    refine ⟨hw _, ?_⟩
    simp only [tYes, ↓reduceIte]
    refine he i H' hi ((e1.trans e2).trans p1) H' (Ext.refl H') _ fun y H4 e4 hy => ?_
    have d4 := e4.lst p2
    exact ⟨xs, d4, Nat.lt_of_le_of_lt (show xs.length ≤ 40000 by have := p3.1; omega) (by decide), (p1.trans e4).mut hD, _, upd_same, RowR.upd d4 ((p3.ext e4).snoc hy)⟩⟩
end
/-! ### lists of whole numbers compared -/
theorem dp_ints {K : PySem.W.Frag} {H : Hp} : ∀ ns : List Int, DpAll K H (ns.map V.int) (ns.map PyData.int)
  | [] => .nil
  | n :: r => .cons (.int n) (dp_ints r)
theorem lay_ints : ∀ ns : List Int, PyData.canLayAll0 (ns.map PyData.int) = true ∧ PyData.depthAll (ns.map PyData.int) = 0
  | [] => ⟨rfl, rfl⟩
  | n :: r => by
    obtain ⟨h1, h2⟩ := lay_ints r
    constructor
    · show (PyData.canLay0 (PyData.int n) && PyData.canLayAll0 (r.map PyData.int)) = true
      rw [h1]; rfl
    · show max (PyData.depth (PyData.int n)) (PyData.depthAll (r.map PyData.int)) = 0
      rw [h2]; rfl
theorem shaped_ints (ns : List Int) : SeqAt.shaped (.list (ns.map PyData.int)) = true := by
  obtain ⟨h1, h2⟩ := lay_ints ns
  have a : PyData.canLay0 (.list (ns.map PyData.int)) = true := by rw [PyData.canLay0]; exact h1
  have b : PyData.depth (.list (ns.map PyData.int)) = 1 := by rw [PyData.depth, h2]
  unfold SeqAt.shaped
  rw [a, b]; rfl
theorem eqv_nil (ns : List Int) : PyData.eqv (.list (ns.map PyData.int)) (.list []) = decide (ns = []) := by
  rw [PyData.eqv]
  cases ns with
  | nil => rfl
  | cons n r => rfl
theorem picked_map {lo m : Nat} {b : Nat → Bool} : picked lo m b = (((List.range m).filter b).map fun k => (((lo + k : Nat)) : Int)).map V.int := by
  unfold picked; rw [List.map_map]; rfl
section
variable {K : PySem.W.Frag} {σ : L2.St} {H : Hp} {ta tb : TE}
/-- xs == [] -/
theorem ev_isnil {ns : List Int} (ha : Ev ta σ H (NewL H fun xs _ => xs = ns.map V.int)) (hb : Ev tb σ H (NewL H fun xs _ => xs = [])) : Ev (tOp (rEqD K) ta tb) σ H (is (.bl (decide (ns = [])))) :=
  ev_op ha (mono_NewL fun _ _ _ _ h => h) hb fun v w H1 Q _ ⟨l, xs, h1, _, h3, h4⟩ ⟨l2, ys, g1, _, g3, g4⟩ q => ⟨.list (ns.map PyData.int), .list [], by
    rw [h1]; subst h4; exact .lst (SqL.of h3) (dp_ints ns), by rw [g1]; subst g4; exact .lst (SqL.of g3) .nil, shaped_ints ns, by decide +kernel, by rw [eqv_nil]; exact q _ _ (Ext.refl _) rfl⟩
theorem ev_notnil {ns : List Int} (ha : Ev ta σ H (NewL H fun xs _ => xs = ns.map V.int)) (hb : Ev tb σ H (NewL H fun xs _ => xs = [])) : Ev (tOp (rNeD K) ta tb) σ H (is (.bl (!decide (ns = [])))) :=
  ev_op ha (mono_NewL fun _ _ _ _ h => h) hb fun v w H1 Q _ ⟨l, xs, h1, _, h3, h4⟩ ⟨l2, ys, g1, _, g3, g4⟩ q => ⟨.list (ns.map PyData.int), .list [], by
    rw [h1]; subst h4; exact .lst (SqL.of h3) (dp_ints ns), by rw [g1]; subst g4; exact .lst (SqL.of g3) .nil, shaped_ints ns, by decide +kernel, by rw [eqv_nil]; exact q _ _ (Ext.refl _) rfl⟩
theorem ev_nilL : Ev (tLst tNil) σ H (NewL H fun xs _ => xs = []) := el_lst (S := fun vs _ => vs = []) ea_nil (fun vs H H' e h => h) (fun vs H h => by rw [h]; decide)
/-- a new tuple, seen -/
theorem eu_tupD {ta : TA} {S : List V → Hp → Prop} (h : EvA ta σ H S) (mS : ∀ vs H H', Ext H H' → S vs H → S vs H') (hl : ∀ vs H, S vs H → vs.length ≤ 100000) : Ev (tTup ta) σ H (fun v H => ∃ p vs, v = .ref p ∧ H p = some (.tup vs) ∧ S vs H) := fun H1 e _ q =>
  h H1 e _ fun vs H2 e2 s => ⟨Nat.le_trans (hl vs H2 s) (by decide), fun p hp => q _ _ (e2.trans (Ext.new hp)) ⟨p, vs, rfl, upd_same, mS _ _ _ (Ext.new hp) s⟩⟩
/-- isinstance(x, (tuple, list)) -/
theorem ev_isi2 {te : TE} {b : Bool} {Px : VP} {T : String} (ha : Ev te σ H Px) (mT : Mono Px) (hx : ∀ v H, Px v H → TyX K H v (.type T)) (e : PySem.W.kitAny K (.type T) [.type "tuple", .type "list"] = some b) :
    Ev (tCB (rIsiT K) (tCons te (tCons (tTup (tCons (tC (.ty "tuple")) (tCons (tC (.ty "list")) tNil))) tNil))) σ H (is (.bl b)) :=
  ev_cb (ea_2 ha mT (eu_tupD (ea_2 ev_c mono_is ev_c mono_is) (fun vs H H' _ h => h) (fun vs H ⟨v, w, h, _⟩ => by rw [h]; exact (by decide : 2 ≤ 100000)))
    (fun v H H' e ⟨p, vs, h1, h2, h3⟩ => ⟨p, vs, h1, e.tup h2, h3⟩)) fun vs H1 Q _ ⟨v, w, h1, h3, p, us, h4, h5, u, z, h6, h7, h8⟩ q => by
    obtain rfl : u = _ := h7
    obtain rfl : z = _ := h8
    subst h1 h4 h6
    exact ⟨_, p, [.ty "tuple", .ty "list"], .type T, [.type "tuple", .type "list"], b, rfl, h5, .cons (.ty _) (.cons (.ty _) .nil), hx _ _ h3, e, q _ _ (Ext.refl _) rfl⟩
end
/-! ### alike -/
theorem pe_never {X : Cx} {e : Expr} : PE X e (fun _ _ _ => False) := ⟨fun _ _ _ _ _ _ h => h.elim⟩
section
variable {P : Program} {w : World} {K : PySem.W.Frag} {mg : Str → Option Value} {base : Heap} {f : Addr} {fd : FuncData}
abbrev VP2 := V → V → Hp → Prop
def spA (E : VP2) : Sp := fun vs H Q _ => ∃ x y, vs = [x, y] ∧ E x y H ∧ ∀ v H', Ext H H' → is (.bl true) v H' → Q v H'
def A0 : VP2 := fun x y _ => ∃ i : Int, x = .int i ∧ y = .int i
def AT (K : PySem.W.Frag) (E : VP2) : VP2 := fun x y H => ∃ a b xs ys, x = .ref a ∧ y = .ref b ∧ SqT K H a xs ∧ SqT K H b ys ∧ xs.length = ys.length ∧ xs.length ≤ 40000 ∧ ∀ (j : Nat) u v, xs[j]? = some u → ys[j]? = some v → E u v H
theorem ty_int {H : Hp} {i : Int} : TyX K H (.int i) (.type "int") := .base (.int i)
section
variable {σ : L2.St} {H : Hp} {ta tb te : TE}
theorem ev_isi1 {Px : VP} {T U : String} {b : Bool} {tc : TE} (ha : Ev ta σ H Px) (mT : Mono Px) (hx : ∀ v H, Px v H → TyX K H v (.type T)) (hb : Ev tc σ H (is (.ty U))) (e : kitB T U = some b) : Ev (tCB (rIsi K) (tCons ta (tCons tc tNil))) σ H (is (.bl b)) :=
  ev_cb (ea_2 ha mT hb mono_is) fun vs H1 Q _ ⟨v, c, h1, h3, h4⟩ q => ⟨v, .ty U, .type T, .type U, b, by rw [h1, show c = _ from h4], .ty U, hx _ _ h3, kit_ty e, q _ _ (Ext.refl _) rfl⟩
theorem isI {i : Int} : ∀ v H, is (.int i) v H → TyX K H v (.type "int") := fun v H h => by rw [show v = _ from h]; exact ty_int
def RT (K : PySem.W.Frag) (p : Addr) (xs : List V) : VP := fun v H => v = .ref p ∧ SqT K H p xs
theorem mono_RT {p : Addr} {xs : List V} : Mono (RT K p xs) := fun _ _ _ e h => ⟨h.1, e.t h.2⟩
theorem isT {p : Addr} {xs : List V} : ∀ v H, RT K p xs v H → TyX K H v (.type "tuple") := fun v H h => by rw [h.1]; exact ty_sq h.2
theorem ev_isN {x : V} (ha : Ev te σ H (is x)) : Ev (tOp (fun x y H Q => y = .non ∧ Q (.bl (decide (x = .non))) H) te (tC .non)) σ H (is (.bl (decide (x = .non)))) :=
  ev_op ha mono_is ev_c fun v w H1 Q _ hv hw q => ⟨hw, by rw [show v = _ from hv]; exact q _ _ (Ext.refl _) rfl⟩
end
theorem kitI : PySem.W.kitAny K (.type "int") [.type "tuple", .type "list"] = some false :=
  kitAny_cons (show PySem.W.kitOne K (.type "int") (.type "tuple") = some false from kit_ty (by decide +kernel)) (fun _ => kitAny_cons (show PySem.W.kitOne K (.type "int") (.type "list") = some false from kit_ty (by decide +kernel)) (fun _ => kitAny_nil) nofun) nofun
theorem kitT : PySem.W.kitAny K (.type "tuple") [.type "tuple", .type "list"] = some true :=
  kitAny_cons (show PySem.W.kitOne K (.type "tuple") (.type "tuple") = some true from kit_ty (by decide +kernel)) nofun (fun _ => rfl)
theorem ok_al0 (F : FnP K "_law_alike" s__law_alike f fd) (T : Txt mg) (C : Callee P w K mg base "_law_alike" 0 ["_law_found", "_law_due"] (spA fun _ _ _ => False)) : FnOk P w K mg base CX0 1 f fd ["_law_found", "_law_due"] (spA A0) := by
  refine F.ok sc__law_alike (fun vs H Q E h => ?_) (fun cdv A outer s H vs Q E hr h => ?_)
  · obtain ⟨x, y, rfl, _⟩ := h; rfl
  · obtain ⟨x, y, rfl, ⟨i, rfl, rfl⟩, k⟩ := h
    refine ⟨_, PSs.nox (pss_cons (ps_if (pt_val (pe_callB call_isiT (by rfl) T.isinstance (by decide +kernel) (pa_cons (pv 1) (pa_cons (pe_tup (pa_cons (pe_bltn (v := .ty "tuple") (by rfl) T.tuple (by decide +kernel) rfl) (pa_cons (pe_bltn (v := .ty "list") (by rfl) T.list (by decide +kernel) rfl) pa_nil))) pa_nil)))) (pss_cons (ps_if (PW.pt (pw_or (pt_not (pt_val (pe_callB call_isiT (by rfl) T.isinstance (by decide +kernel) (pa_cons (pv 0) (pa_cons (pe_tup (pa_cons (pe_bltn (v := .ty "tuple") (by rfl) T.tuple (by decide +kernel) rfl) (pa_cons (pe_bltn (v := .ty "list") (by rfl) T.list (by decide +kernel) rfl) pa_nil))) pa_nil))))) (pw_or1 (pt_cmpR op_ne (pe_callB call_isi (by rfl) T.isinstance (by decide +kernel) (pa_cons (pv 0) (pa_cons (pe_bltn (v := .ty "list") (by rfl) T.list (by decide +kernel) rfl) pa_nil))) (pe_callB call_isi (by rfl) T.isinstance (by decide +kernel) (pa_cons (pv 1) (pa_cons (pe_bltn (v := .ty "list") (by rfl) T.list (by decide +kernel) rfl) pa_nil))) (nomark _))))) (pss_one (ps_ret pe_bl)) pss_nil)
      (pss_cons (ps_if (pt_cmpR op_ne (pe_callB call_len_seq (by rfl) T.len PySem.boot_len (pa_cons (pv 0) pa_nil)) (pe_callB call_len_seq (by rfl) T.len PySem.boot_len (pa_cons (pv 1) pa_nil)) (nomark _)) (pss_one (ps_ret pe_bl)) pss_nil)
      (pss_one (ps_ret (pe_cmpR (op_eqD hr.units) (pe_lc (own := [("_law_k", 2)]) (g := gName 2) (by rfl) sc__law_alike.nd (pi_range1 (by rfl) T.range (pa_cons (pe_callB call_len_seq (by rfl) T.len PySem.boot_len (pa_cons (pv 1) pa_nil)) pa_nil)) (blkOk_by (own := [("_law_k", 2)]) (N := N__law_alike) (sc := defScope s__law_alike) (by decide +kernel)) (fun _ _ _ _ _ => pg_name (i := 2) sc__law_alike.nd rfl (Or.inl rfl)) (fun _ _ _ _ _ => (pts_one (pt_not (pt_val (pc C hr (Nat.le_refl _) (pa_cons (pe_ix (r := rIxT K) ix_tup (pv 0) (pv 2) (fun _ _ => rfl)) (pa_cons (pe_ix (r := rIxT K) ix_tup (pv 1) (pv 2) (fun _ _ => rfl)) pa_nil))))))) (fun _ _ _ _ _ => (pv 2))) (pe_lst pa_nil) (nomark _)))))) pss_nil)
      (pss_cons (ps_if (PW.pt (pw_or (pt_cmpR op_isN (pv 1) pe_non (nomark _)) (pw_or1 (pt_val (pe_callB call_isi (by rfl) T.isinstance (by decide +kernel) (pa_cons (pv 1) (pa_cons (pe_bltn (v := .ty "str") (by rfl) T.str (by decide +kernel) rfl) pa_nil))))))) (pss_one (ps_ret (pe_never))) pss_nil)
      (pss_one (ps_ret (pe_and (pe_callB call_isi (by rfl) T.isinstance (by decide +kernel) (pa_cons (pv 0) (pa_cons (pe_bltn (v := .ty "int") (by rfl) T.int (by decide +kernel) rfl) pa_nil))) (pe_and (pe_cmpR op_eq (pe_callB call_isi (by rfl) T.isinstance (by decide +kernel) (pa_cons (pv 0) (pa_cons (pe_bltn (v := .ty "bool") (by rfl) T.bool (by decide +kernel) rfl) pa_nil))) (pe_callB call_isi (by rfl) T.isinstance (by decide +kernel) (pa_cons (pv 1) (pa_cons (pe_bltn (v := .ty "bool") (by rfl) T.bool (by decide +kernel) rfl) pa_nil))) (nomark _)) (pe_one (pe_cmpR op_eq (pv 0) (pv 1) (nomark _))))))))), ?_⟩
    have e0 : ∀ {H' : Hp}, Ev (tVar 0) (start N__law_alike [.int i, .int i]) H' (is (.int i)) := ev_i rfl
    have e1 : ∀ {H' : Hp}, Ev (tVar 1) (start N__law_alike [.int i, .int i]) H' (is (.int i)) := ev_i rfl
    refine q_guard (et_B (ev_isi2 e1 mono_is isI kitI)) fun H1 x1 => ?_
    refine q_guard (et_is (et_or (a := false) (et_test (ev_isN e1)) fun _ => et_B (ev_isi1 (b := false) e1 mono_is isI ev_c (by decide +kernel))) rfl) fun H2 x2 => ?_
    refine s_ret (ev_to (ev_andV (a := true) (ev_isiI e0 ev_c (by decide +kernel)) fun _ => ev_andV (a := true) (ev_eq (ev_isiI (b := false) e0 ev_c (by decide +kernel)) (ev_isiI (b := false) e1 ev_c (by decide +kernel)) rfl) fun _ => ev_to (ev_eq e0 e1 rfl) (by rw [decide_eq_true rfl])) rfl) fun v H3 x3 hv => k v H3 ((x1.trans x2).trans x3) hv
theorem ok_alT {E0' : VP2} {m : Nat} (F : FnP K "_law_alike" s__law_alike f fd) (T : Txt mg) (mE : ∀ u v H H', Ext H H' → E0' u v H → E0' u v H') (C : Callee P w K mg base "_law_alike" m ["_law_found", "_law_due"] (spA E0')) : FnOk P w K mg base CX0 (m + 1) f fd ["_law_found", "_law_due"] (spA (AT K E0')) := by
  refine F.ok sc__law_alike (fun vs H Q E h => ?_) (fun cdv A outer s H vs Q E hr h => ?_)
  · obtain ⟨x, y, rfl, _⟩ := h; rfl
  · obtain ⟨x, y, rfl, ⟨a, b, xs, ys, rfl, rfl, ha, hb, hl, hz, he⟩, k⟩ := h
    refine ⟨_, PSs.nox (pss_cons (ps_if (pt_val (pe_callB call_isiT (by rfl) T.isinstance (by decide +kernel) (pa_cons (pv 1) (pa_cons (pe_tup (pa_cons (pe_bltn (v := .ty "tuple") (by rfl) T.tuple (by decide +kernel) rfl) (pa_cons (pe_bltn (v := .ty "list") (by rfl) T.list (by decide +kernel) rfl) pa_nil))) pa_nil)))) (pss_cons (ps_if (PW.pt (pw_or (pt_not (pt_val (pe_callB call_isiT (by rfl) T.isinstance (by decide +kernel) (pa_cons (pv 0) (pa_cons (pe_tup (pa_cons (pe_bltn (v := .ty "tuple") (by rfl) T.tuple (by decide +kernel) rfl) (pa_cons (pe_bltn (v := .ty "list") (by rfl) T.list (by decide +kernel) rfl) pa_nil))) pa_nil))))) (pw_or1 (pt_cmpR op_ne (pe_callB call_isi (by rfl) T.isinstance (by decide +kernel) (pa_cons (pv 0) (pa_cons (pe_bltn (v := .ty "list") (by rfl) T.list (by decide +kernel) rfl) pa_nil))) (pe_callB call_isi (by rfl) T.isinstance (by decide +kernel) (pa_cons (pv 1) (pa_cons (pe_bltn (v := .ty "list") (by rfl) T.list (by decide +kernel) rfl) pa_nil))) (nomark _))))) (pss_one (ps_ret pe_bl)) pss_nil)
      (pss_cons (ps_if (pt_cmpR op_ne (pe_callB call_len_seq (by rfl) T.len PySem.boot_len (pa_cons (pv 0) pa_nil)) (pe_callB call_len_seq (by rfl) T.len PySem.boot_len (pa_cons (pv 1) pa_nil)) (nomark _)) (pss_one (ps_ret pe_bl)) pss_nil)
      (pss_one (ps_ret (pe_cmpR (op_eqD hr.units) (pe_lc (own := [("_law_k", 2)]) (g := gName 2) (by rfl) sc__law_alike.nd (pi_range1 (by rfl) T.range (pa_cons (pe_callB call_len_seq (by rfl) T.len PySem.boot_len (pa_cons (pv 1) pa_nil)) pa_nil)) (blkOk_by (own := [("_law_k", 2)]) (N := N__law_alike) (sc := defScope s__law_alike) (by decide +kernel)) (fun _ _ _ _ _ => pg_name (i := 2) sc__law_alike.nd rfl (Or.inl rfl)) (fun _ _ _ _ _ => (pts_one (pt_not (pt_val (pc C hr (Nat.le_refl _) (pa_cons (pe_ix (r := rIxT K) ix_tup (pv 0) (pv 2) (fun _ _ => rfl)) (pa_cons (pe_ix (r := rIxT K) ix_tup (pv 1) (pv 2) (fun _ _ => rfl)) pa_nil))))))) (fun _ _ _ _ _ => (pv 2))) (pe_lst pa_nil) (nomark _)))))) pss_nil)
      (pss_cons (ps_if (PW.pt (pw_or (pt_cmpR op_isN (pv 1) pe_non (nomark _)) (pw_or1 (pt_val (pe_callB call_isi (by rfl) T.isinstance (by decide +kernel) (pa_cons (pv 1) (pa_cons (pe_bltn (v := .ty "str") (by rfl) T.str (by decide +kernel) rfl) pa_nil))))))) (pss_one (ps_ret (pe_never))) pss_nil)
      (pss_one (ps_ret (pe_and (pe_callB call_isi (by rfl) T.isinstance (by decide +kernel) (pa_cons (pv 0) (pa_cons (pe_bltn (v := .ty "int") (by rfl) T.int (by decide +kernel) rfl) pa_nil))) (pe_and (pe_cmpR op_eq (pe_callB call_isi (by rfl) T.isinstance (by decide +kernel) (pa_cons (pv 0) (pa_cons (pe_bltn (v := .ty "bool") (by rfl) T.bool (by decide +kernel) rfl) pa_nil))) (pe_callB call_isi (by rfl) T.isinstance (by decide +kernel) (pa_cons (pv 1) (pa_cons (pe_bltn (v := .ty "bool") (by rfl) T.bool (by decide +kernel) rfl) pa_nil))) (nomark _)) (pe_one (pe_cmpR op_eq (pv 0) (pv 1) (nomark _))))))))), ?_⟩
    have e0 : ∀ {H' : Hp} {σ : L2.St}, Ext H H' → σ[0]? = some (some (.ref a)) → Ev (tVar 0) σ H' (RT K a xs) := fun x h => ev_v h fun H2 x2 => ⟨rfl, (x.trans x2).t ha⟩
    have e1 : ∀ {H' : Hp} {σ : L2.St}, Ext H H' → σ[1]? = some (some (.ref b)) → Ev (tVar 1) σ H' (RT K b ys) := fun x h => ev_v h fun H2 x2 => ⟨rfl, (x.trans x2).t hb⟩
    have l0 : ∀ {te : TE} {σ : L2.St} {H' : Hp} {p : Addr} {zs : List V}, Ev te σ H' (RT K p zs) → Ev (tCB (fun xs H Q => ∃ p ys, xs = [.ref p] ∧ (SqL K H p ys ∨ SqT K H p ys) ∧ Q (.int ys.length) H) (tCons te tNil)) σ H' (is (.int (zs.length : Int))) := fun h => ev_len (K := K) (h.imp fun v H' _ h => ⟨_, h.1, .inr h.2⟩)
    refine s_if (b := true) (et_B (ev_isi2 (e1 (Ext.refl _) rfl) mono_RT isT kitT)) (fun _ H1 x1 => ?_) (fun h => nomatch h)
    refine q_guard (et_is (et_or (a := false) (et_not (a := true) (et_B (ev_isi2 (e0 x1 rfl) mono_RT isT kitT))) fun _ => et_test (ev_ne (ev_isi1 (b := false) (e0 x1 rfl) mono_RT isT ev_c (by decide +kernel)) (ev_isi1 (b := false) (e1 x1 rfl) mono_RT isT ev_c (by decide +kernel)) rfl)) rfl) fun H2 x2 => ?_
    have x12 := x1.trans x2
    refine q_guard (et_is (et_test (ev_ne (l0 (e0 x12 rfl)) (l0 (e1 x12 rfl)) rfl)) (by rw [hl, decide_eq_true rfl]; rfl)) fun H3 x3 => ?_
    have x13 := x12.trans x3
    refine s_ret (ev_to (ev_isnil (ns := []) ((ev_pick1 (m := ys.length) (b := fun _ => false) ((ea_1 (l0 (e1 x13 rfl)) mono_is).imp fun vs H' _ ⟨v, h1, h2⟩ => by rw [h1, show v = _ from h2]) (by omega) (fun _ => rfl) (fun _ => rfl) fun i H4 hi x4 => ?_).imp fun v H' _ ⟨l, zs, h1, h2, h3, h4⟩ => ⟨l, zs, h1, h2, h3, by rw [h4]; exact picked_none fun _ _ => rfl⟩) ev_nilL) rfl) fun v H4 x4 hv => k v H4 (x13.trans x4) hv
    have x14 := x13.trans x4
    obtain ⟨u, hu⟩ : ∃ u, xs[i]? = some u := ⟨_, List.getElem?_eq_getElem (by omega)⟩
    obtain ⟨v, hv⟩ : ∃ v, ys[i]? = some v := ⟨_, List.getElem?_eq_getElem hi⟩
    have h := he i u v hu hv
    refine et_not (a := true) (et_test (ev_call (ea_2 (ev_ixT ((e0 x14 rfl).imp fun v H' _ h => ⟨_, h.1, h.2⟩) (ev_i rfl) (atI_nat hu)) mono_is (ev_ixT ((e1 x14 rfl).imp fun v H' _ h => ⟨_, h.1, h.2⟩) (ev_i rfl) (atI_nat hv)) mono_is) fun vs H5 Q x5 ⟨p, r, h1, h2, h3⟩ q => ⟨u, v, by rw [h1, show p = _ from h2, show r = _ from h3], mE _ _ _ _ (x14.trans x5) h, q⟩))
end
end K21
set_option maxHeartbeats 4000000
namespace K21
open PySem PySem.Spec PyProof.Rows L2
def N__law_taken : List Str := ["_law_row", "_law_many", "_law_found", "_law_cell"]
theorem sc__law_taken : FnScope ["_law_row", "_law_many", "_law_found", "_law_cell"] ["_law_row", "_law_many"] (defScope s__law_taken) := ⟨rfl, rfl, rfl, by decide +kernel, rfl, by decide +kernel, by decide +kernel⟩
def N__law_pick : List Str := ["_law_row", "_law_things"]
theorem sc__law_pick : FnScope ["_law_row", "_law_things"] ["_law_row", "_law_things"] (defScope s__law_pick) := ⟨rfl, rfl, rfl, by decide +kernel, rfl, by decide +kernel, by decide +kernel⟩
def N__law_rate : List Str := ["_law_row"]
theorem sc__law_rate : FnScope ["_law_row"] ["_law_row"] (defScope s__law_rate) := ⟨rfl, rfl, rfl, by decide +kernel, rfl, by decide +kernel, by decide +kernel⟩
def N__law_lives : List Str := ["_law_row", "_law_most", "_law_found", "_law_here", "_law_k"]
theorem sc__law_lives : FnScope ["_law_row", "_law_most", "_law_found", "_law_here", "_law_k"] ["_law_row", "_law_most"] (defScope s__law_lives) := ⟨rfl, rfl, rfl, by decide +kernel, rfl, by decide +kernel, by decide +kernel⟩
/-! ### the row that the draws change -/
def RowOk (K : PySem.W.Frag) (r sc : Addr) (H : Hp) : Prop := ∃ (ns : List Int) (i m x : Int), H r = some (.lst [.ref sc, .int i, .int m, .int x]) ∧ SqL K (cut r H) sc (ns.map V.int) ∧ 0 ≤ i ∧ 0 ≤ m ∧ m < 2147483648 ∧ ns.length ≤ 100000
theorem sqL_ne {K : PySem.W.Frag} {H : Hp} {l p : Addr} {ys : List V} {o : HO} (hl : p ≠ l) (h : SqL K H p ys) : SqL K (upd H l o) p ys := by
  rcases h with (h | ⟨u, h⟩) | h
  · exact .inl (.inl (by rw [upd_ne hl]; exact h))
  · exact .inl (.inr ⟨u, by rw [upd_ne hl]; exact h⟩)
  · exact .inr h
theorem Ext.cut2 {H H' : Hp} {r : Addr} (e : Ext H H') : Ext (K21.cut r H) (K21.cut r H') := by
  refine ⟨fun a o h n => ?_, fun a ps h => ?_⟩
  · by_cases z : a = r
    · subst z; rw [cut_at] at h; cases h
    · rw [cut_ne z] at h ⊢; exact e.keep a o h n
  · by_cases z : a = r
    · subst z; rw [cut_at] at h; cases h
    · rw [cut_ne z] at h ⊢; exact e.tab a ps h
theorem cut_upd {H : Hp} {r : Addr} {o : HO} : cut r (upd H r o) = cut r H := by
  funext b
  by_cases z : b = r
  · subst z; rw [cut_at, cut_at]
  · rw [cut_ne z, cut_ne z, upd_ne z]
theorem RowOk.ext {K : PySem.W.Frag} {r sc : Addr} {H H' : Hp} (h : RowOk K r sc H) (e : Ext H H') : RowOk K r sc H' := by
  obtain ⟨ns, i, m, x, h1, h2, h3⟩ := h
  exact ⟨ns, i, m, x, e.lst h1, e.cut2.l h2, h3⟩
theorem RowOk.set {K : PySem.W.Frag} {r sc : Addr} {H : Hp} {ns : List Int} {i m x : Int} (h2 : SqL K (cut r H) sc (ns.map V.int)) (h4 : 0 ≤ i) (h5 : 0 ≤ m) (h6 : m < 2147483648) (h7 : ns.length ≤ 100000) : RowOk K r sc (upd H r (.lst [.ref sc, .int i, .int m, .int x])) :=
  ⟨ns, i, m, x, upd_same, by rw [cut_upd]; exact h2, h4, h5, h6, h7⟩
/-- a def that draws from the row -/
def spM (K : PySem.W.Frag) (A : List V → Hp → Prop) (P : List V → VP) : Sp := fun vs H Q _ => ∃ r sc us, vs = .ref r :: us ∧ RowOk K r sc H ∧ A us (cut r H) ∧ ∀ v H', Ext (cut r H) (cut r H') → RowOk K r sc H' → P us v (cut r H') → Q v H'
section
variable {K : PySem.W.Frag} {σ : L2.St} {H : Hp} {te : TE} {t : TT} {tu tz : TS} {D : Ends} {P : VP}
theorem q_store {l : Addr} {xs : List V} {c : Int} {i j : Nat} (h : Ev te σ H P) (hl : ∀ H1, Ext H H1 → H1 l = some (.lst xs)) (hi : ixN xs.length c = some j) (hσ : σ[i]? = some (some (.ref l))) (k : ∀ v H1, Ext H H1 → P v H1 → tz D σ (upd H1 l (.lst (xs.set j v)))) :
    tSeq (tAsg te (gSub (tVar i) (tC (.int c)) rSetL)) tz D σ H := h H (Ext.refl H) _ fun v H1 e p => ⟨_, hσ, l, xs, c, j, rfl, rfl, hl H1 e, hi, k v H1 e p⟩
theorem s_store {l : Addr} {xs : List V} {c : Int} {i j : Nat} (h : Ev te σ H P) (hl : ∀ H1, Ext H H1 → H1 l = some (.lst xs)) (hi : ixN xs.length c = some j) (hσ : σ[i]? = some (some (.ref l))) (k : ∀ v H1, Ext H H1 → P v H1 → D.nx σ (upd H1 l (.lst (xs.set j v)))) :
    tAsg te (gSub (tVar i) (tC (.int c)) rSetL) D σ H := h H (Ext.refl H) _ fun v H1 e p => ⟨_, hσ, l, xs, c, j, rfl, rfl, hl H1 e, hi, k v H1 e p⟩
theorem q_if {b : Bool} (h : EvT t σ H b) (h1 : b = true → ∀ H1, Ext H H1 → tu { D with nx := tz D } σ H1) (h2 : b = false → ∀ H1, Ext H H1 → tz D σ H1) : tSeq (tIfS t tu tNext) tz D σ H := h H (Ext.refl H) _ fun H1 e => by
  cases b with
  | true => exact iteT (h1 rfl H1 e)
  | false => exact iteF (h2 rfl H1 e)
theorem ev_row {i : Nat} {l : Addr} {xs : List V} {c : Int} {x : V} (hl : H l = some (.lst xs)) (hσ : σ[i]? = some (some (.ref l))) (hi : atI xs c = some x) : Ev (tOp (rIxL K) (tVar i) (tC (.int c))) σ H (is x) :=
  ev_ixL (K := K) (xs := xs) (ev_v hσ fun H' e => ⟨l, rfl, SqL.of (e.lst hl)⟩) ev_c hi
end
section
variable {P : Program} {w : World} {K : PySem.W.Frag} {mg : Str → Option Value} {base : Heap} {f : Addr} {fd : FuncData}
def Ataken : List V → Hp → Prop := fun us _ => ∃ m : Int, us = [.int m] ∧ 1 ≤ m ∧ m ≤ 1100000
def Ptaken : List V → VP := fun us v _ => ∃ m z : Int, us = [.int m] ∧ v = .int z ∧ 0 ≤ z ∧ z < m
theorem fmod_ok {a m : Int} (h : 1 ≤ m) : 0 ≤ a.fmod m ∧ a.fmod m < m := by
  rw [Int.fmod_eq_emod_of_nonneg a (by omega)]
  exact ⟨Int.emod_nonneg a (by omega), Int.emod_lt_of_pos a (by omega)⟩
theorem ok_taken (F : FnP K "_law_taken" s__law_taken f fd) (T : Txt mg) : FnOk P w K mg base CX0 1 f fd ["_law_row", "_law_many"] (spM K Ataken Ptaken) := by
  refine F.ok sc__law_taken (fun vs H Q E h => ?_) (fun cdv A outer s H vs Q E hr h => ?_)
  · obtain ⟨r, sc, us, rfl, _, ⟨m, rfl, _⟩, _⟩ := h; rfl
  · obtain ⟨r, sc, us, rfl, ⟨ns, i, mm, x, hl, hsc', hi, hm0, hm1, hz⟩, ⟨m, rfl, h1, h2⟩, k⟩ := h
    refine ⟨_, PSs.nox (pss_cons (ps_if (pt_cmpR op_gt (pe_ix (r := rIxL K) ix_list (pv 0) pe_int (fun _ _ => rfl)) pe_int (nomark _)) (pss_cons (ps_set (i := 2) sc__law_taken.nd rfl (Or.inl rfl) (pe_op op_modN (pe_callTy call_int1 (by rfl) T.int (by decide +kernel) (pa_cons (pe_ix (r := rIxL K) ix_list (pv 0) pe_int (fun _ _ => rfl)) pa_nil)) (pv 1)))
      (pss_cons (ps_asg (pe_op op_fdivN (pe_ix (r := rIxL K) ix_list (pv 0) pe_int (fun _ _ => rfl)) (pv 1)) (pg_sub (pv 0) pe_int set_list))
      (pss_one (ps_ret (pv 2))))) pss_nil)
      (pss_cons (ps_asg (pe_op op_add (pe_ix (r := rIxL K) ix_list (pv 0) pe_int (fun _ _ => rfl)) pe_int) (pg_sub (pv 0) pe_int set_list))
      (pss_cons (ps_if (pt_cmpR op_gt (pe_ix (r := rIxL K) ix_list (pv 0) pe_int (fun _ _ => rfl)) (pe_callB call_len_seq (by rfl) T.len PySem.boot_len (pa_cons (pe_ix (r := rIxL K) ix_list (pv 0) pe_int (fun _ _ => rfl)) pa_nil)) (nomark _)) (pss_cons (ps_asg (pe_op op_modN (pe_callTy call_int1 (by rfl) T.int (by decide +kernel) (pa_cons (pe_op op_add (pe_op op_mulW (pe_ix (r := rIxL K) ix_list (pv 0) pe_int (fun _ _ => rfl)) pe_int) pe_int) pa_nil)) pe_int) (pg_sub (pv 0) pe_int set_list))
      (pss_one (ps_ret (pe_op op_modN (pe_callTy call_int1 (by rfl) T.int (by decide +kernel) (pa_cons (pe_op op_fdivN (pe_ix (r := rIxL K) ix_list (pv 0) pe_int (fun _ _ => rfl)) pe_int) pa_nil)) (pv 1))))) pss_nil)
      (pss_cons (ps_set (i := 3) sc__law_taken.nd rfl (Or.inl rfl) (pe_ix (r := rIxL K) ix_list (pe_ix (r := rIxL K) ix_list (pv 0) pe_int (fun _ _ => rfl)) (pe_op op_sub (pe_ix (r := rIxL K) ix_list (pv 0) pe_int (fun _ _ => rfl)) pe_int) (fun _ _ => rfl)))
      (pss_cons (ps_asg (pe_op op_modN (pe_callTy call_int1 (by rfl) T.int (by decide +kernel) (pa_cons (pe_op op_add (pe_op op_add (pe_op op_mulW (pe_ix (r := rIxL K) ix_list (pv 0) pe_int (fun _ _ => rfl)) pe_int) (pv 3)) pe_int) pa_nil)) pe_int) (pg_sub (pv 0) pe_int set_list))
      (pss_cons (ps_if (pt_cmpR op_ge (pv 3) (pe_op op_pow pe_int pe_int) (nomark _)) (pss_one (ps_asg (pe_op op_fdivN (pv 3) (pv 1)) (pg_sub (pv 0) pe_int set_list))) pss_nil)
      (pss_one (ps_ret (pe_op op_modN (pe_callTy call_int1 (by rfl) T.int (by decide +kernel) (pa_cons (pv 3) pa_nil)) (pv 1)))))))))), ?_⟩
    have hsc := (Ext.cut r).l hsc'
    have dv : CDivN x m := ⟨by omega, by omega⟩
    have fin : ∀ {te : TE} {σ : L2.St} {H1 H' : Hp} {a : Int} {D : Ends}, D.rt = Q → Ext (cut r H) (cut r H1) → RowOk K r sc H1 → Ev te σ H1 (is (.int (a.fmod m))) → tRet te D σ H1 := fun {te σ H1 H' a D} hD e ro h => by
      refine s_ret h fun v H2 e2 hv => ?_
      rw [hD]
      exact k v H2 (e.trans e2.cut2) (ro.ext e2) ⟨m, a.fmod m, rfl, hv, fmod_ok h1⟩
    refine q_if (et_test (ev_I0 (ev_row hl rfl rfl) ev_c)) (fun _ H1 e1 => ?_) (fun _ H1 e1 => ?_)
    · refine q_asg (ev_I (ev_int (ev_row (e1.lst hl) rfl rfl)) (ev_i rfl) (by show m ≠ 0; omega)) fun v H2 e2 hv => ?_
      have e12 := e1.trans e2
      refine q_store (ev_I (ev_row (e12.lst hl) rfl rfl) (ev_i rfl) dv) (fun H3 e3 => (e12.trans e3).lst hl) rfl rfl fun u H3 e3 hu => ?_
      obtain rfl : v = _ := hv
      obtain rfl : u = _ := hu
      exact fin (H' := H) rfl (by rw [cut_upd]; exact (e12.trans e3).cut2) (RowOk.set ((e12.trans e3).cut2.l hsc') hi hm0 hm1 hz) (ev_i rfl)
    · refine q_store (ev_I0 (ev_row (e1.lst hl) rfl rfl) ev_c) (fun H3 e3 => (e1.trans e3).lst hl) rfl rfl fun u H2 e2 hu => ?_
      obtain rfl : u = _ := hu
      have e12 := e1.trans e2
      have hl2 : (upd H2 r (.lst [.ref sc, .int (i + 1), .int mm, .int x])) r = some (.lst [.ref sc, .int (i + 1), .int mm, .int x]) := upd_same
      have hs2' : SqL K (cut r (upd H2 r (.lst [.ref sc, .int (i + 1), .int mm, .int x]))) sc (ns.map V.int) := by rw [cut_upd]; exact e12.cut2.l hsc'
      have c2 : Ext (cut r H) (cut r (upd H2 r (.lst [.ref sc, .int (i + 1), .int mm, .int x]))) := by rw [cut_upd]; exact e12.cut2
      change tSeq _ _ _ _ (upd H2 r (.lst [.ref sc, .int (i + 1), .int mm, .int x]))
      generalize (upd H2 r (.lst [.ref sc, .int (i + 1), .int mm, .int x])) = G at hl2 hs2' c2 ⊢
      have hs2 := (Ext.cut r).l hs2'
      have mul : CMulW mm 48271 := wide_mul (a := 31) (b := 16) (by omega) (by decide) (by decide) (by decide) (by decide)
      have md : ∀ a : Int, 0 ≤ a.fmod 2147483647 ∧ a.fmod 2147483647 < 2147483648 := fun a => by have := fmod_ok (a := a) (m := 2147483647) (by decide); omega
      have hlen : ∀ {σ : L2.St} {H' : Hp}, Ext G H' → σ[0]? = some (some (.ref r)) → Ev (tCB (fun xs H Q => ∃ p ys, xs = [.ref p] ∧ (SqL K H p ys ∨ SqT K H p ys) ∧ Q (.int ys.length) H) (tCons (tOp (rIxL K) (tVar 0) (tC (.int 0))) tNil)) σ H' (is (.int ((ns.map V.int).length : Int))) := fun e h =>
        ev_cb (ea_1 (ev_row (e.lst hl2) h rfl) mono_is) fun vs H1 Q e1 ⟨v, h1, h2⟩ q => ⟨sc, _, by rw [h1, show v = _ from h2], .inl ((e.trans e1).l hs2), q _ _ (Ext.refl _) rfl⟩
      refine q_if (et_test (ev_I0 (ev_row hl2 rfl rfl) (hlen (Ext.refl _) rfl))) (fun hb H3 e3 => ?_) (fun hb H3 e3 => ?_)
      · refine q_store (ev_I (ev_int (ev_I0 (ev_I (ev_row (e3.lst hl2) rfl rfl) ev_c mul) ev_c)) ev_c (by decide)) (fun H4 e4 => (e3.trans e4).lst hl2) rfl rfl fun u H4 e4 hu => ?_
        obtain rfl : u = _ := hu
        refine fin (H' := H) rfl (by rw [cut_upd]; exact c2.trans (e3.trans e4).cut2) (RowOk.set ((e3.trans e4).cut2.l hs2') (by omega) (md _).1 (md _).2 hz) (ev_I (ev_int (ev_I (ev_row upd_same rfl rfl) ev_c ⟨by decide, by decide⟩)) (ev_i rfl) (by show m ≠ 0; omega))
      · have hb1 : i + 1 ≤ (ns.length : Int) := by
          have := of_decide_eq_false hb
          rw [List.length_map] at this; omega
        obtain ⟨c, hc⟩ : ∃ c, ns[i.toNat]? = some c := ⟨_, List.getElem?_eq_getElem (by omega)⟩
        have hat : atI (ns.map V.int) (i + 1 - 1) = some (.int c) := by
          rw [show i + 1 - 1 = (i.toNat : Int) by omega]
          exact atI_nat (by rw [List.getElem?_map, hc]; rfl)
        refine q_asg (ev_ixL (K := K) ((ev_row (e3.lst hl2) rfl rfl).imp fun v H' e hv => ⟨sc, hv, (e3.trans e).l hs2⟩) (ev_I0 (ev_row (e3.lst hl2) rfl rfl) ev_c) hat) fun v H4 e4 hv => ?_
        obtain rfl : v = _ := hv
        have e34 := e3.trans e4
        refine q_store (ev_I (ev_int (ev_I0 (ev_I0 (ev_I (ev_row (e34.lst hl2) rfl rfl) ev_c mul) (ev_i rfl)) ev_c)) ev_c (by decide)) (fun H5 e5 => (e34.trans e5).lst hl2) rfl rfl fun u H5 e5 hu => ?_
        obtain rfl : u = _ := hu
        have e35 := e34.trans e5
        have hl3 : ∀ o : HO, (upd H5 r o) r = some o := fun o => upd_same
        refine q_if (et_test (ev_I0 (ev_i rfl) (ev_I ev_c ev_c ⟨by decide, by decide, by decide⟩))) (fun hb H6 e6 => ?_) (fun hb H6 e6 => ?_)
        · refine s_store (ev_I (ev_i rfl) (ev_i rfl) ⟨by omega, by omega⟩) (fun H7 e7 => (e6.trans e7).lst upd_same) rfl rfl fun u H7 e7 hu => ?_
          obtain rfl : u = _ := hu
          have e67 := (e6.trans e7)
          have z := e67.cut2 (r := r)
          rw [cut_upd] at z
          refine fin (H' := H) (a := c) rfl ?_ ?_ (ev_I (C := fun _ j => j ≠ 0) (g := fun i j => .int (i.fmod j)) (i := c) (j := m) (ev_int (ev_i rfl)) (ev_i rfl) (by show m ≠ 0; omega))
          · rw [cut_upd]; exact (c2.trans e35.cut2).trans z
          · exact RowOk.set (z.l (e35.cut2.l hs2')) (by omega) (md _).1 (md _).2 hz
        · have z := e6.cut2 (r := r)
          rw [cut_upd] at z
          exact fin (H' := H) rfl ((c2.trans e35.cut2).trans z) ((RowOk.set (e35.cut2.l hs2') (by omega) (md _).1 (md _).2 hz).ext e6) (ev_I (ev_int (ev_i rfl)) (ev_i rfl) (by show m ≠ 0; omega))
end
end K21
set_option maxHeartbeats 4000000
namespace K21
open PySem PySem.Spec PyProof.Rows L2
/-! ### what evaluates to what, while the row changes -/
def EvM (K : PySem.W.Frag) (te : TE) (σ : L2.St) (C : Hp) (r sc : Addr) (P : VP) : Prop := ∀ H1, Ext C (cut r H1) → RowOk K r sc H1 → ∀ Q : VK, (∀ v H2, Ext (cut r H1) (cut r H2) → RowOk K r sc H2 → P v (cut r H2) → Q v H2) → te σ H1 Q
def EvAM (K : PySem.W.Frag) (ta : TA) (σ : L2.St) (C : Hp) (r sc : Addr) (S : List V → Hp → Prop) : Prop := ∀ H1, Ext C (cut r H1) → RowOk K r sc H1 → ∀ Q : List V → Hp → Prop, (∀ v H2, Ext (cut r H1) (cut r H2) → RowOk K r sc H2 → S v (cut r H2) → Q v H2) → ta σ H1 Q
def Cuts (K : PySem.W.Frag) (P : VP) : Prop := ∀ v H r sc, RowOk K r sc H → P v H → P v (cut r H)
theorem RowOk.none {K : PySem.W.Frag} {r sc p : Addr} {H : Hp} (h : RowOk K r sc H) (hp : H p = none) : p ≠ r := fun z => by
  obtain ⟨_, _, _, _, h1, _⟩ := h
  subst z; rw [hp] at h1; cases h1
/-- the row stands, and all else that was known -/
theorem RowOk.back {K : PySem.W.Frag} {r sc : Addr} {H0 H1 H' : Hp} (h0 : RowOk K r sc H0) (e : Ext (cut r H0) (cut r H')) (h1 : RowOk K r sc H1) (hr : H' r = H1 r) : RowOk K r sc H' := by
  obtain ⟨ns, _, _, _, _, s, _, _, _, l⟩ := h0
  obtain ⟨_, i, m, x, g, _, a, b, c, _⟩ := h1
  exact ⟨ns, i, m, x, by rw [hr]; exact g, e.l s, a, b, c, l⟩
theorem cut_new {H : Hp} {r p : Addr} {o : HO} (h : p ≠ r) : cut r (upd H p o) p = some o := by rw [cut_ne h, upd_same]
theorem cuts_is {K : PySem.W.Frag} {v : V} : Cuts K (is v) := fun _ _ _ _ _ h => h
theorem cut_t2 {K : PySem.W.Frag} {H : Hp} {r sc p : Addr} {xs : List V} (ro : RowOk K r sc H) (h : SqT K H p xs) : SqT K (cut r H) p xs := by
  obtain ⟨_, _, _, _, h1, _⟩ := ro
  exact cut_t h1 h
theorem cuts_TV {K : PySem.W.Frag} {xs : List Int} : Cuts K (TV K xs) := fun v H r sc ro ⟨p, h1, h2⟩ => ⟨p, h1, cut_t2 ro h2⟩
theorem cuts_RV {K : PySem.W.Frag} {n : Nat} {q : Rat} : Cuts K (RV K n q) := fun v H r sc ro ⟨p, h1, h2, h3⟩ => ⟨p, h1, cut_t2 ro h2, h3⟩
theorem cuts_Pol {K : PySem.W.Frag} {c : Pol} : Cuts K (PolV K c) := fun v H r sc ro ⟨p, pl, pr, pa, pd, vp, h1, h2, h3, h4, h5, h6, h7⟩ =>
  ⟨p, pl, pr, pa, pd, vp, h1, cut_t2 ro h2, cut_t2 ro h3, cuts_RV _ _ _ _ ro h4, cut_t2 ro h5, cut_t2 ro h6, cuts_RV _ _ _ _ ro h7⟩
/-- a whole number with p -/
def IntP (p : Int → Prop) : VP := fun v _ => ∃ z, v = .int z ∧ p z
theorem mono_IntP {p : Int → Prop} : Mono (IntP p) := fun _ _ _ _ h => h
/-- n values, each with M -/
def AllP (M : VP) (n : Nat) (vs : List V) (H : Hp) : Prop := vs.length = n ∧ ∀ x ∈ vs, M x H
section
variable {K : PySem.W.Frag} {σ : L2.St} {H C : Hp} {r sc : Addr} {ta tb te : TE} {t : TT} {P R M : VP}
theorem em_ev (h : Ev te σ C P) (hc : Cuts K P) : EvM K te σ C r sc P := fun H1 e ro Q q => h H1 (e.trans (Ext.cut r)) Q fun v H2 e2 p => q v H2 e2.cut2 (ro.ext e2) (hc v H2 r sc (ro.ext e2) p)
theorem EvM.imp (h : EvM K te σ C r sc P) (k : ∀ v H', Ext C H' → P v H' → R v H') : EvM K te σ C r sc R := fun H1 e ro Q q => h H1 e ro Q fun v H2 e2 ro2 p => q v H2 e2 ro2 (k v _ (e.trans e2) p)
theorem EvAM.imp {ta : TA} {S S' : List V → Hp → Prop} (h : EvAM K ta σ C r sc S) (k : ∀ v H', Ext C H' → S v H' → S' v H') : EvAM K ta σ C r sc S' := fun H1 e ro Q q => h H1 e ro Q fun v H2 e2 ro2 p => q v H2 e2 ro2 (k v _ (e.trans e2) p)
theorem em_is {i : Int} (h : EvM K te σ C r sc (is (.int i))) : EvM K te σ C r sc (IntP (· = i)) := h.imp fun v H' _ p => ⟨i, p, rfl⟩
theorem em_i {i : Int} {p : Int → Prop} (h : Ev te σ C (is (.int i))) (hp : p i) : EvM K te σ C r sc (IntP p) := (em_ev h cuts_is).imp fun v H' _ q => ⟨i, q, hp⟩
theorem em_c {i : Int} {p : Int → Prop} (hp : p i) : EvM K (tC (.int i)) σ C r sc (IntP p) := em_i ev_c hp
theorem EvM.intp {p q : Int → Prop} (h : EvM K te σ C r sc (IntP p)) (k : ∀ z, p z → q z) : EvM K te σ C r sc (IntP q) := h.imp fun v H' _ ⟨z, e, hz⟩ => ⟨z, e, k z hz⟩
theorem em_op {r2 : R2} (ha : EvM K ta σ C r sc P) (mP : Mono P) (hb : EvM K tb σ C r sc R) (hr : ∀ v w H1 (Q : VK), Ext C (cut r H1) → RowOk K r sc H1 → P v (cut r H1) → R w (cut r H1) → (∀ z H2, Ext (cut r H1) (cut r H2) → RowOk K r sc H2 → M z (cut r H2) → Q z H2) → r2 v w H1 Q) : EvM K (tOp r2 ta tb) σ C r sc M := fun H1 e ro Q q =>
  ha H1 e ro _ fun v H2 e2 ro2 p => hb H2 (e.trans e2) ro2 _ fun w H3 e3 ro3 p' => hr v w H3 Q ((e.trans e2).trans e3) ro3 (mP _ _ _ e3 p) p' fun z H4 e4 ro4 s => q z H4 ((e2.trans e3).trans e4) ro4 s
theorem em_I0 {g : Int → Int → Int} {p q s : Int → Prop} (ha : EvM K ta σ C r sc (IntP p)) (hb : EvM K tb σ C r sc (IntP q)) (hg : ∀ i j, p i → q j → s (g i j)) : EvM K (tOp (rI0 fun i j => .int (g i j)) ta tb) σ C r sc (IntP s) :=
  em_op ha mono_IntP hb fun v w H1 Q _ ro ⟨i, h1, h2⟩ ⟨j, h3, h4⟩ k => ⟨i, j, h1, h3, k _ _ (Ext.refl _) ro ⟨_, rfl, hg i j h2 h4⟩⟩
theorem eam_nil : EvAM K tNil σ C r sc (fun vs _ => vs = []) := fun H1 _ ro _ q => q [] H1 (Ext.refl _) ro rfl
theorem eam_cons {tr : TA} {S : List V → Hp → Prop} (h : EvM K te σ C r sc P) (mP : Mono P) (hr : EvAM K tr σ C r sc S) : EvAM K (tCons te tr) σ C r sc (fun vs H => ∃ v rs, vs = v :: rs ∧ P v H ∧ S rs H) := fun H1 e ro _ q =>
  h H1 e ro _ fun v H2 e2 ro2 p => hr H2 (e.trans e2) ro2 _ fun vs H3 e3 ro3 s => q _ H3 (e2.trans e3) ro3 ⟨v, vs, rfl, mP _ _ _ e3 p, s⟩
theorem eam_1 (h : EvM K te σ C r sc P) (mP : Mono P) : EvAM K (tCons te tNil) σ C r sc (fun vs H => ∃ v, vs = [v] ∧ P v H) := (eam_cons h mP eam_nil).imp fun vs H' _ ⟨v, rs, e, p, er⟩ => ⟨v, by rw [e, er], p⟩
theorem eam_2 (h : EvM K ta σ C r sc P) (mP : Mono P) (h2 : EvM K tb σ C r sc R) (mR : Mono R) : EvAM K (tCons ta (tCons tb tNil)) σ C r sc (fun vs H => ∃ v w, vs = [v, w] ∧ P v H ∧ R w H) := (eam_cons h mP (eam_1 h2 mR)).imp fun vs H' _ ⟨v, rs, e, p, w, er, p2⟩ => ⟨v, w, by rw [e, er], p, p2⟩
theorem all_nil : EvAM K tNil σ C r sc (AllP M 0) := eam_nil.imp fun vs H' _ h => ⟨by rw [h]; rfl, fun x hx => by rw [h] at hx; cases hx⟩
theorem all_cons {tr : TA} {n : Nat} (mM : Mono M) (h : EvM K te σ C r sc M) (hr : EvAM K tr σ C r sc (AllP M n)) : EvAM K (tCons te tr) σ C r sc (AllP M (n + 1)) := (eam_cons h mM hr).imp fun vs H' _ ⟨v, rs, e, p, l, a⟩ => ⟨by rw [e, List.length_cons, l], fun x hx => by
  rw [e] at hx
  rcases List.mem_cons.mp hx with rfl | hx
  · exact p
  · exact a x hx⟩
theorem em_call {ta : TA} {i : Nat} {A : List V → Hp → Prop} {Pc : List V → VP} (hσ : σ[i]? = some (some (.ref r))) (h : EvAM K ta σ C r sc A) : EvM K (tCall (spM K A Pc) [] E0 (tCons (tVar i) ta)) σ C r sc (fun v C' => ∃ us, Pc us v C') := fun H1 e ro Q q =>
  ⟨.ref r, hσ, h H1 e ro _ fun us H2 e2 ro2 a => by
    show spM K A Pc ((.ref r :: us) ++ []) H2 Q E0
    rw [List.append_nil]
    exact ⟨r, sc, us, rfl, ro2, a, fun v H3 e3 ro3 p => q v H3 (e2.trans e3) ro3 ⟨us, p⟩⟩⟩
theorem em_taken {m : Int} {i : Nat} (hσ : σ[i]? = some (some (.ref r))) (hb : Ev tb σ C (is (.int m))) (h1 : 1 ≤ m) (h2 : m ≤ 1100000) : EvM K (tCall (spM K Ataken Ptaken) [] E0 (tCons (tVar i) (tCons tb tNil))) σ C r sc (IntP fun z => 0 ≤ z ∧ z < m) := fun H1 e ro Q q =>
  ⟨.ref r, hσ, hb H1 (e.trans (Ext.cut r)) _ fun w H2 e2 hw => by
    obtain rfl : w = _ := hw
    show spM K Ataken Ptaken ([.ref r, .int m] ++ []) H2 Q E0
    rw [List.append_nil]
    refine ⟨r, sc, [.int m], rfl, ro.ext e2, ⟨m, rfl, h1, h2⟩, fun v H3 e3 ro3 ⟨m', z, u1, u2, u3, u4⟩ => q v H3 (e2.cut2.trans e3) ro3 ⟨z, u2, u3, ?_⟩⟩
    cases u1; exact u4⟩
theorem em_lst {ta : TA} {S : List V → Hp → Prop} (h : EvAM K ta σ C r sc S) (mS : ∀ vs H H', Ext H H' → S vs H → S vs H') (hl : ∀ vs H, S vs H → vs.length ≤ 100000) : EvM K (tLst ta) σ C r sc (fun v C' => ∃ l vs, v = .ref l ∧ C' l = some (.lst vs) ∧ S vs C') := fun H1 e ro Q q =>
  h H1 e ro _ fun vs H2 e2 ro2 s => ⟨Nat.le_trans (hl vs _ s) (by decide), fun p hp => q _ _ (e2.trans (Ext.new hp).cut2) (ro2.ext (Ext.new hp)) ⟨p, vs, rfl, cut_new (ro2.none hp), mS _ _ _ (Ext.new hp).cut2 s⟩⟩
theorem em_tup {ta : TA} {S : List V → Hp → Prop} (h : EvAM K ta σ C r sc S) (mS : ∀ vs H H', Ext H H' → S vs H → S vs H') (hl : ∀ vs H, S vs H → vs.length ≤ 100000) : EvM K (tTup ta) σ C r sc (fun v C' => ∃ p vs, v = .ref p ∧ SqT K C' p vs ∧ S vs C') := fun H1 e ro Q q =>
  h H1 e ro _ fun vs H2 e2 ro2 s => ⟨Nat.le_trans (hl vs _ s) (by decide), fun p hp => q _ _ (e2.trans (Ext.new hp).cut2) (ro2.ext (Ext.new hp)) ⟨p, vs, rfl, SqT.of (cut_new (ro2.none hp)), mS _ _ _ (Ext.new hp).cut2 s⟩⟩
theorem em_max {p q s : Int → Prop} (ha : EvM K ta σ C r sc (IntP p)) (hb : EvM K tb σ C r sc (IntP q)) (hg : ∀ i j, p i → q j → s (if j > i then j else i)) : EvM K (tCB (fun xs H Q => ∃ i j, xs = [.int i, .int j] ∧ Q (.int (if j > i then j else i)) H) (tCons ta (tCons tb tNil))) σ C r sc (IntP s) := fun H1 e ro Q k =>
  eam_2 ha mono_IntP hb mono_IntP H1 e ro _ fun vs H2 e2 ro2 ⟨v, w, h1, ⟨i, h2, h3⟩, j, h4, h5⟩ => ⟨i, j, by rw [h1, h2, h4], k _ _ e2 ro2 ⟨_, rfl, hg i j h3 h5⟩⟩
theorem em_if (h : ∀ H1, Ext C (cut r H1) → RowOk K r sc H1 → ∀ Q : Bool → Hp → Prop, (∀ b H2, Ext (cut r H1) (cut r H2) → RowOk K r sc H2 → Q b H2) → t σ H1 Q) (h1 : EvM K ta σ C r sc P) (h2 : EvM K tb σ C r sc P) : EvM K (tIf t ta tb) σ C r sc P := fun H1 e ro Q q =>
  h H1 e ro _ fun b H2 e2 ro2 => by
    cases b with
    | true => exact iteT (h1 H2 (e.trans e2) ro2 Q fun w H3 e3 ro3 p => q w H3 (e2.trans e3) ro3 p)
    | false => exact iteF (h2 H2 (e.trans e2) ro2 Q fun w H3 e3 ro3 p => q w H3 (e2.trans e3) ro3 p)
theorem etm_I {g : Int → Int → Bool} {p q : Int → Prop} (ha : EvM K ta σ C r sc (IntP p)) (hb : EvM K tb σ C r sc (IntP q)) : ∀ H1, Ext C (cut r H1) → RowOk K r sc H1 → ∀ Q : Bool → Hp → Prop, (∀ b H2, Ext (cut r H1) (cut r H2) → RowOk K r sc H2 → Q b H2) → tTest (tOp (rI0 fun i j => .bl (g i j)) ta tb) σ H1 Q := fun H1 e ro Q k =>
  ha H1 e ro _ fun v H2 e2 ro2 ⟨i, h1, _⟩ => hb H2 (e.trans e2) ro2 _ fun w H3 e3 ro3 ⟨j, h2, _⟩ => ⟨i, j, h1, h2, g i j, rfl, k _ _ (e2.trans e3) ro3⟩
/-! statements -/
variable {D : Ends} {tu tz : TS}
theorem sm_ret (ro : RowOk K r sc H) (h : EvM K te σ (cut r H) r sc P) (k : ∀ v H1, Ext (cut r H) (cut r H1) → RowOk K r sc H1 → P v (cut r H1) → D.rt v H1) : tRet te D σ H := h H (Ext.refl _) ro _ k
theorem sm_asg {i : Nat} (ro : RowOk K r sc H) (h : EvM K te σ (cut r H) r sc P) (k : ∀ v H1, Ext (cut r H) (cut r H1) → RowOk K r sc H1 → P v (cut r H1) → D.nx (σ.set i (some v)) H1) : tAsg te (gName i) D σ H := h H (Ext.refl _) ro _ k
theorem qm_asg {i : Nat} (ro : RowOk K r sc H) (h : EvM K te σ (cut r H) r sc P) (k : ∀ v H1, Ext (cut r H) (cut r H1) → RowOk K r sc H1 → P v (cut r H1) → tz D (σ.set i (some v)) H1) : tSeq (tAsg te (gName i)) tz D σ H := h H (Ext.refl _) ro _ k
theorem qm_par {i j : Nat} (ro : RowOk K r sc H) (ha : EvM K ta σ (cut r H) r sc P) (m1 : Mono P) (hb : EvM K tb σ (cut r H) r sc R) (m2 : Mono R) (k : ∀ v w H1, Ext (cut r H) (cut r H1) → RowOk K r sc H1 → P v (cut r H1) → R w (cut r H1) → tz D ((σ.set i (some v)).set j (some w)) H1) : tSeq (tPar i j (tCons ta (tCons tb tNil))) tz D σ H :=
  eam_2 ha m1 hb m2 H (Ext.refl _) ro (fun vs H1 => ∃ v w, vs = [v, w] ∧ tz D ((σ.set i (some v)).set j (some w)) H1) fun vs H1 e ro1 ⟨v, w, h1, h2, h3⟩ => ⟨v, w, h1, k v w H1 e ro1 h2 h3⟩
theorem qm_forR1 {ta : TA} {j N : Nat} (ro : RowOk K r sc H) (h : EvAM K ta σ (cut r H) r sc (fun vs _ => ∃ n : Nat, vs = [.int (n : Int)] ∧ 1 ≤ n ∧ n ≤ N)) (hN : N ≤ 100000)
    (k : ∀ (n : Nat) H1, Ext (cut r H) (cut r H1) → RowOk K r sc H1 → 1 ≤ n → n ≤ N → ∃ Pv : Nat → L2.St → Hp → Prop, Pv 0 σ H1 ∧ (∀ (i : Nat) σ' H', i < n → Pv i σ' H' → tu { D with nx := Pv (i + 1), ct := Pv (i + 1), bk := tz D } (σ'.set j (some (.int (i : Int)))) H') ∧ ∀ σ' H', Pv n σ' H' → tz D σ' H') : tSeq (tFor (iRng1 ta) (gName j) tu) tz D σ H :=
  h H (Ext.refl _) ro _ fun vs H1 e ro1 ⟨n, hv, hn1, hn2⟩ => ⟨(n : Int), hv, by omega, by omega, by
    rw [show (n : Int).toNat = n by omega]
    obtain ⟨Pv, h0, hs, hd⟩ := k n H1 e ro1 hn1 hn2
    exact for_range (lo := 0) (n := n) (D := { D with nx := tz D }) Pv h0 (fun i σ' H' hi p => by
      show tu _ (σ'.set j (some (.int (0 + (i : Int))))) H'
      rw [Int.zero_add]
      exact hs i σ' H' hi p) hd⟩
end
end K21
set_option maxHeartbeats 4000000
namespace K21
open PySem PySem.Spec PyProof.Rows L2
section
variable {P : Program} {w : World} {K : PySem.W.Frag} {mg : Str → Option Value} {base : Heap} {f : Addr} {fd : FuncData}
/-! ### pick -/
def Apick : List V → Hp → Prop := fun us C => ∃ l xs, us = [.ref l] ∧ C l = some (.lst xs) ∧ 1 ≤ xs.length ∧ xs.length ≤ 1000
def Ppick : List V → VP := fun us v C => ∃ l xs, ∃ j : Nat, us = [.ref l] ∧ C l = some (.lst xs) ∧ xs[j]? = some v
structure LawM1 (P : Program) (w : World) (K : PySem.W.Frag) (mg : Str → Option Value) (base : Heap) : Prop where
  _law_taken : Callee P w K mg base "_law_taken" 1 ["_law_row", "_law_many"] (spM K Ataken Ptaken)
theorem ok_pick (F : FnP K "_law_pick" s__law_pick f fd) (T : Txt mg) (C : LawM1 P w K mg base) : FnOk P w K mg base CX0 2 f fd ["_law_row", "_law_things"] (spM K Apick Ppick) := by
  refine F.ok sc__law_pick (fun vs H Q E h => ?_) (fun cdv A outer s H vs Q E hr h => ?_)
  · obtain ⟨r, sc, us, rfl, _, ⟨l, xs, rfl, _⟩, _⟩ := h; rfl
  · obtain ⟨r, sc, us, rfl, ro, ⟨l, xs, rfl, hl, h1, h2⟩, k⟩ := h
    refine ⟨_, PSs.nox (pss_one (ps_ret (pe_ix (r := rIxL K) ix_list (pv 1) (pc C._law_taken hr (by decide) (pa_cons (pv 0) (pa_cons (pe_callB call_len_seq (by rfl) T.len PySem.boot_len (pa_cons (pv 1) pa_nil)) pa_nil))) (fun _ _ => rfl)))), ?_⟩
    have hl0 : H l = some (.lst xs) := (Ext.cut r).lst hl
    refine sm_ret (P := fun v C => ∃ j : Nat, xs[j]? = some v ∧ C l = some (.lst xs)) ro ?_ fun v H1 e ro1 ⟨j, h3, h4⟩ => k v H1 e ro1 ⟨l, xs, j, rfl, h4, h3⟩
    refine em_op (P := is (.ref l)) (R := IntP fun z => 0 ≤ z ∧ z < (xs.length : Int)) (em_ev (ev_i rfl) cuts_is) mono_is (em_taken rfl (ev_len (K := K) (ev_v rfl fun H' e => ⟨l, rfl, .inl (SqL.of (e.lst hl))⟩)) (by omega) (by omega)) fun v w H1 Q e ro1 hv ⟨z, hz, h3, h4⟩ q => ?_
    obtain ⟨u, hu⟩ : ∃ u, xs[z.toNat]? = some u := ⟨_, List.getElem?_eq_getElem (by omega)⟩
    have hl1 := (Ext.cut r).lst (e.lst hl)
    refine ⟨l, xs, z, u, hv, hz, SqL.of hl1, ?_, q _ _ (Ext.refl _) ro1 ⟨z.toNat, hu, e.lst hl⟩⟩
    rw [show z = (z.toNat : Int) by omega]
    exact atI_nat hu
structure LawM2 (P : Program) (w : World) (K : PySem.W.Frag) (mg : Str → Option Value) (base : Heap) : Prop extends LawM1 P w K mg base where
  _law_pick : Callee P w K mg base "_law_pick" 2 ["_law_row", "_law_things"] (spM K Apick Ppick)
theorem em_pick {σ : L2.St} {C : Hp} {r sc : Addr} {ta : TA} {i n : Nat} {M : VP} (hσ : σ[i]? = some (some (.ref r))) (mM : Mono M) (h : EvAM K ta σ C r sc (AllP M n)) (h1 : 1 ≤ n) (h2 : n ≤ 1000) : EvM K (tCall (spM K Apick Ppick) [] E0 (tCons (tVar i) (tCons (tLst ta) tNil))) σ C r sc M := fun H1 e ro Q q =>
  ⟨.ref r, hσ, em_lst h (fun vs H H' e ⟨a, b⟩ => ⟨a, fun x hx => mM _ _ _ e (b x hx)⟩) (fun vs H ⟨a, _⟩ => by omega) H1 e ro _ fun v H2 e2 ro2 ⟨l, vs, hv, hl, hn, ha⟩ => by
    subst hv
    show spM K Apick Ppick ([.ref r, .ref l] ++ []) H2 Q E0
    refine ⟨r, sc, [.ref l], rfl, ro2, ⟨l, vs, rfl, hl, by omega, by omega⟩, fun v H3 e3 ro3 ⟨l', xs, j, u1, u2, u3⟩ => q v H3 (e2.trans e3) ro3 ?_⟩
    cases u1
    rw [e3.lst hl] at u2
    cases u2
    exact mM _ _ _ e3 (ha v (List.mem_of_getElem? u3))⟩
/-! ### a rate -/
def RateV (K : PySem.W.Frag) : VP := fun v C => ∃ q, RV K 10 q v C ∧ q.num.natAbs ≤ 1000 ∧ q.den ≤ 1000 ∧ 0 < 1 + q
theorem mono_RateV : Mono (RateV K) := fun v H H' e ⟨q, h, a⟩ => ⟨q, h.ext e, a⟩
theorem em_rate {σ : L2.St} {C : Hp} {r sc : Addr} {ta tb : TE} {a b : Int} (q : Rat) (ha : Ev ta σ C (is (.int a))) (hb : Ev tb σ C (is (.int b))) (e1 : q.num = a) (e2 : (q.den : Int) = b) (hs : Sz 10 q) (h1 : q.num.natAbs ≤ 1000) (h2 : q.den ≤ 1000) (h3 : 0 < 1 + q) : EvM K (tTup (tCons ta (tCons tb tNil))) σ C r sc (RateV K) :=
  (em_ev (ev_lit (K := K) ha hb e1 e2 hs) cuts_RV).imp fun v H' _ h => ⟨q, h, h1, h2, h3⟩
theorem ok_l_rate (F : FnP K "_law_rate" s__law_rate f fd) (C : LawM2 P w K mg base) : FnOk P w K mg base CX0 3 f fd ["_law_row"] (spM K (fun us _ => us = []) (fun _ => RateV K)) := by
  refine F.ok sc__law_rate (fun vs H Q E h => ?_) (fun cdv A outer s H vs Q E hr h => ?_)
  · obtain ⟨r, sc, us, rfl, _, rfl, _⟩ := h; rfl
  · obtain ⟨r, sc, us, rfl, ro, rfl, k⟩ := h
    refine ⟨_, PSs.nox (pss_one (ps_ret (pc C._law_pick hr (by decide) (pa_cons (pv 0) (pa_cons (pe_lst (pa_cons (pe_tup (pa_cons pe_int (pa_cons pe_int pa_nil))) (pa_cons (pe_tup (pa_cons pe_int (pa_cons pe_int pa_nil))) (pa_cons (pe_tup (pa_cons pe_int (pa_cons pe_int pa_nil))) (pa_cons (pe_tup (pa_cons pe_int (pa_cons pe_int pa_nil))) (pa_cons (pe_tup (pa_cons pe_int (pa_cons pe_int pa_nil))) (pa_cons (pe_tup (pa_cons (pe_un un_neg pe_int) (pa_cons pe_int pa_nil))) (pa_cons (pe_tup (pa_cons (pe_un un_neg pe_int) (pa_cons pe_int pa_nil))) (pa_cons (pe_tup (pa_cons pe_int (pa_cons pe_int pa_nil))) (pa_cons (pe_tup (pa_cons pe_int (pa_cons pe_int pa_nil))) (pa_cons (pe_tup (pa_cons pe_int (pa_cons pe_int pa_nil))) pa_nil))))))))))) pa_nil))))), ?_⟩
    refine sm_ret ro (em_pick (n := 10) rfl mono_RateV ?_ (by decide) (by decide)) k
    have c : ∀ (q : Rat) {a b : Int} {σ : L2.St} {C : Hp} {r sc : Addr}, q.num = a → (q.den : Int) = b → Sz 10 q → q.num.natAbs ≤ 1000 → q.den ≤ 1000 → 0 < 1 + q → EvM K (tTup (tCons (tC (.int a)) (tCons (tC (.int b)) tNil))) σ C r sc (RateV K) := fun q => em_rate q ev_c ev_c
    refine all_cons mono_RateV (c 0 (by rfl) (by rfl) (by constructor <;> decide +kernel) (by decide +kernel) (by decide +kernel) (by decide +kernel)) ?_
    refine all_cons mono_RateV (c ⟨1, 10, by decide, by decide⟩ (by rfl) (by rfl) (by constructor <;> decide +kernel) (by decide +kernel) (by decide +kernel) (by decide +kernel)) ?_
    refine all_cons mono_RateV (c ⟨1, 20, by decide, by decide⟩ (by rfl) (by rfl) (by constructor <;> decide +kernel) (by decide +kernel) (by decide +kernel) (by decide +kernel)) ?_
    refine all_cons mono_RateV (c ⟨1, 2, by decide, by decide⟩ (by rfl) (by rfl) (by constructor <;> decide +kernel) (by decide +kernel) (by decide +kernel) (by decide +kernel)) ?_
    refine all_cons mono_RateV (c 1 (by rfl) (by rfl) (by constructor <;> decide +kernel) (by decide +kernel) (by decide +kernel) (by decide +kernel)) ?_
    refine all_cons mono_RateV (em_rate ⟨-1, 2, by decide, by decide⟩ (ev_un ev_c) ev_c (by rfl) (by rfl) (by constructor <;> decide +kernel) (by decide +kernel) (by decide +kernel) (by decide +kernel)) ?_
    refine all_cons mono_RateV (em_rate ⟨-1, 10, by decide, by decide⟩ (ev_un ev_c) ev_c (by rfl) (by rfl) (by constructor <;> decide +kernel) (by decide +kernel) (by decide +kernel) (by decide +kernel)) ?_
    refine all_cons mono_RateV (c 3 (by rfl) (by rfl) (by constructor <;> decide +kernel) (by decide +kernel) (by decide +kernel) (by decide +kernel)) ?_
    refine all_cons mono_RateV (c ⟨1, 3, by decide, by decide⟩ (by rfl) (by rfl) (by constructor <;> decide +kernel) (by decide +kernel) (by decide +kernel) (by decide +kernel)) ?_
    exact all_cons mono_RateV (c ⟨7, 100, by decide, by decide⟩ (by rfl) (by rfl) (by constructor <;> decide +kernel) (by decide +kernel) (by decide +kernel) (by decide +kernel)) all_nil
end
end K21
set_option maxHeartbeats 4000000
namespace K21
open PySem PySem.Spec PyProof.Rows L2
def TT' (K : PySem.W.Frag) (xs : List V) : VP := fun v H => ∃ p, v = .ref p ∧ SqT K H p xs
theorem mono_TT {K : PySem.W.Frag} {xs : List V} : Mono (TT' K xs) := fun _ _ _ e ⟨p, h1, h2⟩ => ⟨p, h1, e.t h2⟩
theorem cuts_TT {K : PySem.W.Frag} {xs : List V} : Cuts K (TT' K xs) := fun v H r sc ro ⟨p, h1, h2⟩ => ⟨p, h1, cut_t2 ro h2⟩
section
variable {K : PySem.W.Frag} {σ : L2.St} {H C : Hp} {r sc : Addr} {ta tb te : TE} {xs ys : List V}
theorem ev_tupL (h : Ev te σ H (fun v H' => ∃ l, v = .ref l ∧ SqL K H' l xs)) : Ev (tCB (fun xs H Q => ∃ p ys, xs = [.ref p] ∧ ((SqL K H p ys ∧ ∀ l, H l = none → Q (.ref l) (upd H l (.tup ys))) ∨ (SqT K H p ys ∧ Q (.ref p) H))) (tCons te tNil)) σ H (TT' K xs) :=
  ev_cb (ea_1 h (fun v H H' e ⟨l, h1, h2⟩ => ⟨l, h1, e.l h2⟩)) fun vs H1 Q _ ⟨v, h1, l, h2, h3⟩ q => ⟨l, xs, by rw [h1, h2], .inl ⟨h3, fun p hp => q _ _ (Ext.new hp) ⟨p, rfl, SqT.of upd_same⟩⟩⟩
theorem ev_catA (ha : Ev ta σ H (TT' K xs)) (hb : Ev tb σ H (TT' K ys)) (hl : xs.length + ys.length ≤ 100000) : Ev (tOp (rCatA K) ta tb) σ H (TT' K (xs ++ ys)) :=
  ev_op ha mono_TT hb fun v w H1 Q _ ⟨a, h1, h2⟩ ⟨b, h3, h4⟩ q => ⟨a, b, xs, ys, h1, h3, h2, h4, Nat.le_trans hl (by decide), fun e => q _ _ (Ext.refl _) ⟨b, rfl, by rw [e]; exact h4⟩, fun _ e => q _ _ (Ext.refl _) ⟨a, rfl, by rw [e, List.append_nil]; exact h2⟩,
    fun _ _ p hp => q _ _ (Ext.new hp) ⟨p, rfl, SqT.of upd_same⟩⟩
theorem ev_tup1 {x : V} (h : Ev te σ H (is x)) : Ev (tTup (tCons te tNil)) σ H (TT' K [x]) :=
  (eu_tup (K := K) (ea_1 h mono_is) (fun vs H H' e h => h) (fun vs H ⟨v, h, _⟩ => by rw [h]; exact (by decide : 1 ≤ 100000))).imp fun v H' _ ⟨p, vs, h1, h2, u, h3, h4⟩ => ⟨p, h1, by rw [h3, show u = _ from h4] at h2; exact h2⟩
theorem em_nil : EvM K (tLst tNil) σ C r sc (fun v C' => ∃ l, v = .ref l ∧ C l = none ∧ C' l = some (.lst [])) := fun H1 e ro Q q =>
  ⟨by decide, fun p hp => q _ _ (Ext.new hp).cut2 (ro.ext (Ext.new hp)) ⟨p, rfl, e.fresh (by rw [cut_ne (ro.none hp)]; exact hp), cut_new (ro.none hp)⟩⟩
theorem cut_upd_ne {H : Hp} {r l : Addr} {o : HO} (h : l ≠ r) : cut r (upd H l o) = upd (cut r H) l o := by
  funext b
  by_cases z : b = l
  · subst z; rw [cut_ne h, upd_same, upd_same]
  · rw [upd_ne z]
    by_cases y : b = r
    · subst y; rw [cut_at, cut_at]
    · rw [cut_ne y, cut_ne y, upd_ne z]
end
/-! ### lives -/
structure LivesP (xs : List Int) : Prop where
  len : 2 ≤ xs.length ∧ xs.length ≤ 8
  sz : ∀ x ∈ xs, 0 ≤ x ∧ x ≤ 1000000
  down : ∀ k, k + 1 < xs.length → entI xs (k + 1) ≤ entI xs k
  last : entI xs (xs.length - 1) = 0
  pos : ∀ k, k + 1 < xs.length → 0 < entI xs k
structure DownP (ys : List Int) (here : Int) : Prop where
  sz : ∀ x ∈ ys, 1 ≤ x ∧ x ≤ 1000000
  down : ∀ k, k + 1 < ys.length → entI ys (k + 1) ≤ entI ys k
  low : ∀ k, k < ys.length → here ≤ entI ys k
  h : 1 ≤ here ∧ here ≤ 1000000
theorem entI_app {xs ys : List Int} {k : Nat} (h : k < xs.length) : entI (xs ++ ys) k = entI xs k := by
  unfold entI; rw [List.getElem?_append_left h]
theorem entI_end {xs : List Int} {x : Int} : entI (xs ++ [x]) xs.length = x := by
  unfold entI; rw [List.getElem?_append_right (Nat.le_refl _), Nat.sub_self]; rfl
theorem entI_mem {xs : List Int} {k : Nat} (h : k < xs.length) : entI xs k ∈ xs := List.mem_of_getElem? (getI h)
theorem DownP.snoc {ys : List Int} {a b : Int} (h : DownP ys a) (h1 : 1 ≤ b) (h2 : b ≤ a) : DownP (ys ++ [a]) b where
  sz x hx := by
    rcases List.mem_append.mp hx with hx | hx
    · exact h.sz x hx
    · rw [List.mem_singleton.mp hx]; exact h.h
  down k hk := by
    rw [List.length_append] at hk
    have hk : k + 1 < ys.length + 1 := hk
    by_cases z : k + 1 < ys.length
    · rw [entI_app z, entI_app (by omega)]; exact h.down k z
    · have e : k + 1 = ys.length := by omega
      rw [e, entI_end, entI_app (by omega)]
      exact h.low k (by omega)
  low k hk := by
    rw [List.length_append] at hk
    have hk : k < ys.length + 1 := hk
    by_cases z : k < ys.length
    · rw [entI_app z]; have := h.low k z; omega
    · have e : k = ys.length := by omega
      rw [e, entI_end]; exact h2
  h := ⟨h1, by have := h.h.2; omega⟩
theorem DownP.lives {ys : List Int} {a : Int} (h : DownP ys a) (h1 : 1 ≤ ys.length) (h2 : ys.length ≤ 7) : LivesP (ys ++ [0]) := by
  have l : (ys ++ [(0 : Int)]).length = ys.length + 1 := by rw [List.length_append]; rfl
  have e : ∀ k, k < ys.length → 1 ≤ entI ys k := fun k hk => (h.sz _ (entI_mem hk)).1
  refine ⟨by omega, fun x hx => ?_, fun k hk => ?_, ?_, fun k hk => ?_⟩
  · rcases List.mem_append.mp hx with hx | hx
    · have := h.sz x hx; omega
    · rw [List.mem_singleton.mp hx]; decide
  · rw [l] at hk
    rw [entI_app (show k < ys.length by omega)]
    by_cases z : k + 1 < ys.length
    · rw [entI_app z]; exact h.down k z
    · rw [show k + 1 = ys.length by omega, entI_end]; have := e k (by omega); omega
  · rw [l, Nat.add_sub_cancel, entI_end]
  · rw [l] at hk
    rw [entI_app (show k < ys.length by omega)]
    have := e k (by omega); omega
section
variable {P : Program} {w : World} {K : PySem.W.Frag} {mg : Str → Option Value} {base : Heap} {f : Addr} {fd : FuncData}
def LivesV (K : PySem.W.Frag) : VP := fun v C => ∃ xs, TV K xs v C ∧ LivesP xs
theorem ok_l_lives (F : FnP K "_law_lives" s__law_lives f fd) (T : Txt mg) (C : LawM2 P w K mg base) : FnOk P w K mg base CX0 3 f fd ["_law_row", "_law_most"] (spM K (fun us _ => us = [.int 6]) (fun _ => LivesV K)) := by
  refine F.ok sc__law_lives (fun vs H Q E h => ?_) (fun cdv A outer s H vs Q E hr h => ?_)
  · obtain ⟨r, sc, us, rfl, _, rfl, _⟩ := h; rfl
  · obtain ⟨r, sc, us, rfl, ro, rfl, k⟩ := h
    refine ⟨_, PSs.nox (pss_cons (ps_par (i := 2) (j := 3) (by rfl) sc__law_lives.nd rfl rfl (by decide) rfl rfl (pa_cons (pe_lst pa_nil) (pa_cons (pc C._law_pick hr (by decide) (pa_cons (pv 0) (pa_cons (pe_lst (pa_cons pe_int (pa_cons pe_int (pa_cons pe_int (pa_cons pe_int (pa_cons pe_int (pa_cons pe_int pa_nil))))))) pa_nil))) pa_nil)) (by rfl))
      (pss_cons (ps_for PassesOwn.never rfl (pi_range1 (by rfl) T.range (pa_cons (pe_op op_add pe_int (pc C._law_taken hr (by decide) (pa_cons (pv 0) (pa_cons (pv 1) pa_nil)))) pa_nil)) (pg_name (i := 4) sc__law_lives.nd rfl (Or.inl rfl))
      (pss_cons (ps_expr (pe_bm PySem.F.plainAttrs_list PySem.F.slot_list_append PySem.F.type_list_append mt_append (pv 2) (pa_cons (pv 3) pa_nil)))
      (pss_one (ps_set (i := 3) sc__law_lives.nd rfl (Or.inl rfl) (pe_ifExp (pt_cmpR op_gt (pc C._law_taken hr (by decide) (pa_cons (pv 0) (pa_cons pe_int pa_nil))) pe_int (nomark _)) (pe_callB (call_max2 rfl) (by rfl) T.max (by decide +kernel) (pa_cons pe_int (pa_cons (pe_op op_sub (pv 3) (pc C._law_taken hr (by decide) (pa_cons (pv 0) (pa_cons (pe_op op_add (pv 3) pe_int) pa_nil)))) pa_nil))) (pv 3))))))
      (pss_one (ps_ret (pe_op op_catA (pe_callTy call_tuple_of (by rfl) T.tuple (by decide +kernel) (pa_cons (pv 2) pa_nil)) (pe_tup (pa_cons pe_int pa_nil))))))), ?_⟩
    refine qm_par ro em_nil (fun v H H' e ⟨l, h1, h2, h3⟩ => ⟨l, h1, h2, e.lst h3⟩) (em_pick (n := 6) (M := IntP fun z => 1 ≤ z ∧ z ≤ 1000000) rfl mono_IntP
      (all_cons mono_IntP (em_c (by decide)) (all_cons mono_IntP (em_c (by decide)) (all_cons mono_IntP (em_c (by decide)) (all_cons mono_IntP (em_c (by decide)) (all_cons mono_IntP (em_c (by decide)) (all_cons mono_IntP (em_c (by decide)) all_nil)))))) (by decide) (by decide)) mono_IntP fun v u H1 e1 ro1 ⟨l, h1, h2, h3⟩ ⟨z, h4, h5⟩ => ?_
    subst h1 h4
    have hlr : l ≠ r := fun e => by subst e; rw [cut_at] at h3; cases h3
    refine qm_forR1 (N := 6) ro1 ((eam_1 (em_I0 (s := fun z => 1 ≤ z ∧ z ≤ 6) (em_c (p := (· = 1)) rfl) (em_taken rfl (ev_i rfl) (by decide) (by decide)) (fun i j hi hj => by omega)) mono_IntP).imp fun vs H' _ ⟨v, h1, z, h2, h3, h4⟩ => ⟨z.toNat, by rw [h1, h2]; congr 2; omega, by omega, by omega⟩) (by decide) fun n H2 e2 ro2 hn1 hn2 => ?_
    refine ⟨fun i σ' H' => ∃ (ys : List Int) (here : Int) (u : Option V), σ' = [some (.ref r), some (.int 6), some (.ref l), some (.int here), u] ∧ Ext (cut r H) (cut r H') ∧ RowOk K r sc H' ∧ H' l = some (.lst (ys.map V.int)) ∧ ys.length = i ∧ DownP ys here, ?_, ?_, ?_⟩
    · exact ⟨[], z, none, rfl, e1.trans e2, ro2, (Ext.cut r).lst (e2.lst h3), rfl, ⟨(fun x hx => by cases hx), (fun k hk => by cases hk), (fun k hk => by cases hk), h5⟩⟩
    · rintro i σ' H' hi ⟨ys, here, u, rfl, eH, roH, hl, hlen, dn⟩
      refine q_app (P := is (.int here)) (l := l) (xs := ys.map V.int) (ev_i rfl) (ev_i rfl) (fun H3 e3 => e3.lst hl) (by rw [List.length_map]; omega) fun v H3 e3 hv => ?_
      obtain rfl : v = _ := hv
      have eH3 := eH.trans e3.cut2
      have e4 : Ext (cut r H) (cut r (upd H3 l (.lst (ys.map V.int ++ [.int here])))) := by rw [cut_upd_ne hlr]; exact eH3.mut h2
      have ro4 : RowOk K r sc (upd H3 l (.lst (ys.map V.int ++ [.int here]))) := ro.back e4 (roH.ext e3) (upd_ne (Ne.symm hlr))
      have hl4 : (upd H3 l (.lst (ys.map V.int ++ [.int here]))) l = some (.lst ((ys ++ [here]).map V.int)) := by rw [upd_same, List.map_append]; rfl
      generalize (upd H3 l (.lst (ys.map V.int ++ [.int here]))) = G at e4 ro4 hl4 ⊢
      have dh := dn.h
      refine sm_asg (P := IntP fun z => 1 ≤ z ∧ z ≤ here) ro4 (em_if (etm_I (em_taken rfl ev_c (by decide) (by decide)) (em_c (p := fun _ => True) trivial)) ?_ (em_i (ev_i rfl) (by omega))) fun v H5 e5 ro5 ⟨b, hb, hb1, hb2⟩ => ?_
      · exact em_max (em_c (p := (· = 1)) rfl) (em_I0 (s := fun z => z ≤ here) (em_i (p := (· = here)) (ev_i rfl) rfl) (em_taken (m := here + 1) rfl (ev_I0 (ev_i rfl) ev_c) (by omega) (by omega)) (fun i j hi hj => by omega)) (fun i j hi hj => by split <;> omega)
      · subst hb
        exact ⟨ys ++ [here], b, _, rfl, e4.trans e5, ro5, (Ext.cut r).lst (e5.lst (by rw [cut_ne hlr]; exact hl4)), by rw [List.length_append, hlen]; rfl, dn.snoc hb1 hb2⟩
    · rintro σ' H' ⟨ys, here, u, rfl, eH, roH, hl, hlen, dn⟩
      refine s_ret (ev_catA (xs := ys.map V.int) (ev_tupL (ev_v rfl fun H3 e3 => ⟨l, rfl, SqL.of (e3.lst hl)⟩)) (ev_tup1 ev_c) (by rw [List.length_map]; show ys.length + 1 ≤ _; omega)) fun v H3 e3 hv => ?_
      refine k v H3 (eH.trans e3.cut2) (roH.ext e3) ⟨ys ++ [0], ?_, dn.lives (by omega) (by omega)⟩
      refine cuts_TV _ _ _ _ (roH.ext e3) ?_
      obtain ⟨p, h1, h2⟩ := hv
      exact ⟨p, h1, by rw [List.map_append]; exact h2⟩
end
end K21
set_option maxHeartbeats 4000000
namespace K21
open PySem PySem.Spec PyProof.Rows L2
def N__law_policy : List Str := ["_law_row", "_law_lives_here", "_law_age", "_law_span_here", "_law_rate_here", "_law_way", "_law_years", "_law_alive", "_law_dead", "_law_premium", "_law_k"]
theorem sc__law_policy : FnScope ["_law_row", "_law_lives_here", "_law_age", "_law_span_here", "_law_rate_here", "_law_way", "_law_years", "_law_alive", "_law_dead", "_law_premium", "_law_k"] ["_law_row"] (defScope s__law_policy) := ⟨rfl, rfl, rfl, by decide +kernel, rfl, by decide +kernel, by decide +kernel⟩
structure PayP (ns : List Int) : Prop where
  len : ns.length ≤ 8
  sz : ∀ z ∈ ns, -1000000 ≤ z ∧ z ≤ 1000000
theorem PayP.pays {ns : List Int} (h : PayP ns) : Pays ns := ⟨by have := h.len; omega, h.sz⟩
def PaysV (K : PySem.W.Frag) : VP := fun v C => ∃ ns, TV K ns v C ∧ PayP ns
theorem mono_PaysV {K : PySem.W.Frag} : Mono (PaysV K) := fun v H H' e ⟨ns, h, a⟩ => ⟨ns, mono_TV _ _ _ e h, a⟩
theorem mono_LivesV {K : PySem.W.Frag} : Mono (LivesV K) := fun v H H' e ⟨ns, h, a⟩ => ⟨ns, mono_TV _ _ _ e h, a⟩
section
variable {K : PySem.W.Frag} {σ : L2.St} {H C : Hp} {r sc : Addr} {ta tb te : TE} {t : TT} {tu tz : TS} {D : Ends} {vs : List Nat} {j : Nat}
theorem q_ifJ {b : Bool} (J : L2.St → Hp → Prop) (h : EvT t σ H b) (h1 : b = true → ∀ (X : L2.St → Hp → Prop), (∀ σ' H', J σ' H' → X σ' H') → ∀ H1, Ext H H1 → tu { D with nx := X } σ H1) (h0 : ∀ H1, Ext H H1 → J σ H1) (hd : ∀ σ' H', J σ' H' → tz D σ' H') :
    tSeq (tIfS t tu tNext) tz D σ H := h H (Ext.refl H) _ fun H1 e => by
  cases b with
  | true => exact iteT (h1 rfl _ hd H1 e)
  | false => exact iteF (hd _ _ (h0 H1 e))
/-- whole numbers drawn into a list -/
def IntsL (p : Int → Prop) (N : Nat) : VP := fun v C' => ∃ (l : Addr) (ns : List Int), v = .ref l ∧ C' l = some (.lst (ns.map V.int)) ∧ ns.length ≤ N ∧ ∀ z ∈ ns, p z
theorem em_map {ta : TA} {p : Int → Prop} {N : Nat} (h : EvAM K ta σ C r sc (fun vs _ => ∃ n : Nat, vs = [.int (n : Int)] ∧ n ≤ N)) (hN : N ≤ 40000) (hw : ∀ x, wipe ((wipe σ vs).set j (some x)) vs = wipe σ vs)
    (he : ∀ (i : Nat), EvM K te ((wipe σ vs).set j (some (.int (i : Int)))) C r sc (IntP p)) : EvM K (tLc (iRng1 ta) (gName j) tYes te vs) σ C r sc (IntsL p N) := fun H1 e ro Q q =>
  h H1 e ro _ fun xs H2 e2 ro2 ⟨n, hx, hn⟩ => ⟨(n : Int), hx, by omega, by omega, fun D hD => by
    have hDr := ro2.none hD
    rw [show ((n : Int)).toNat = n by omega]
    refine lc_range (lo := 0) (n := n) (fun i H' => Ext (cut r H2) (cut r H') ∧ RowOk K r sc H' ∧ ∃ ns : List Int, H' D = some (.lst (ns.map V.int)) ∧ ns.length = i ∧ ∀ z ∈ ns, p z) ⟨(Ext.new hD).cut2, ro2.ext (Ext.new hD), [], upd_same, rfl, fun z hz => by cases hz⟩ (fun i H' hi hp => ?_)
      (fun H' ⟨p1, ro', ns, p2, p3, p4⟩ => q _ _ (e2.trans p1) ro' ⟨D, ns, rfl, by rw [cut_ne hDr]; exact p2, by omega, p4⟩)
    obtain ⟨p1, ro', ns, p2, p3, p4⟩ := hp
    show wipe ((wipe σ vs).set j (some (.int ((0 : Int) + (i : Int))))) vs = wipe σ vs ∧ _
    rw [Int.zero_add]
    refine ⟨hw _, ?_⟩
    simp only [tYes, ↓reduceIte]
    refine he i H' ((e.trans e2).trans p1) ro' _ fun y H4 e4 ro4 ⟨z, hy, hz⟩ => ?_
    have d4 : H4 D = some (.lst (ns.map V.int)) := (Ext.cut r).lst (e4.lst (by rw [cut_ne hDr]; exact p2))
    have e5 : Ext (cut r H2) (cut r (upd H4 D (.lst (ns.map V.int ++ [y])))) := by rw [cut_upd_ne hDr]; exact (p1.trans e4).mut (by rw [cut_ne hDr]; exact hD)
    exact ⟨ns.map V.int, d4, Nat.lt_of_le_of_lt (show (ns.map V.int).length ≤ 40000 by rw [List.length_map]; omega) (by decide), e5, ro2.back e5 ro4 (upd_ne (Ne.symm hDr)), ns ++ [z], by rw [upd_same, hy, List.map_append]; rfl, by rw [List.length_append, p3]; rfl, fun x hx => by
      rcases List.mem_append.mp hx with hx | hx
      · exact p4 x hx
      · rw [List.mem_singleton.mp hx]; exact hz⟩⟩
theorem em_tupI {p : Int → Prop} {N : Nat} (h : EvM K te σ C r sc (IntsL p N)) : EvM K (tCB (fun xs H Q => ∃ p ys, xs = [.ref p] ∧ ((SqL K H p ys ∧ ∀ l, H l = none → Q (.ref l) (upd H l (.tup ys))) ∨ (SqT K H p ys ∧ Q (.ref p) H))) (tCons te tNil)) σ C r sc (fun v C' => ∃ ns, TV K ns v C' ∧ ns.length ≤ N ∧ ∀ z ∈ ns, p z) := fun H1 e ro Q q =>
  h H1 e ro _ fun v H2 e2 ro2 ⟨l, ns, h1, h2, h3, h4⟩ => ⟨l, ns.map V.int, by rw [h1], .inl ⟨SqL.of ((Ext.cut r).lst h2), fun p hp => q _ _ (e2.trans (Ext.new hp).cut2) (ro2.ext (Ext.new hp)) ⟨ns, ⟨p, rfl, SqT.of (cut_new (ro2.none hp))⟩, h3, h4⟩⟩⟩
theorem em_payI {p : Int → Prop} {N : Nat} (h : EvM K te σ C r sc (IntsL p N)) (hN : N ≤ 8) (hp : ∀ z, p z → -1000000 ≤ z ∧ z ≤ 1000000) : EvM K (tCB (fun xs H Q => ∃ p ys, xs = [.ref p] ∧ ((SqL K H p ys ∧ ∀ l, H l = none → Q (.ref l) (upd H l (.tup ys))) ∨ (SqT K H p ys ∧ Q (.ref p) H))) (tCons te tNil)) σ C r sc (PaysV K) :=
  (em_tupI h).imp fun v H' _ ⟨ns, h1, h2, h3⟩ => ⟨ns, h1, by omega, fun z hz => hp z (h3 z hz)⟩
/-- (0,) * k -/
theorem em_zeros {N : Int} (hb : EvM K tb σ C r sc (IntP fun z => 0 ≤ z ∧ z ≤ N)) (hN : N ≤ 1000) : EvM K (tOp (rRepN K) (tTup (tCons (tC (.int 0)) tNil)) tb) σ C r sc (fun v C' => ∃ ns, TV K ns v C' ∧ ns.length ≤ N.toNat ∧ ∀ z ∈ ns, z = 0) :=
  em_op (em_ev (ev_tup1 (K := K) (x := .int 0) ev_c) cuts_TT) mono_TT hb fun v w H1 Q _ ro ⟨p, h1, h2⟩ ⟨k, h3, h4, h5⟩ q => ⟨p, k, [.int 0], h1, h3, (Ext.cut r).t h2, (by simp), h4, by omega, (by decide),
    fun e l hl => q _ _ (Ext.new hl).cut2 (ro.ext (Ext.new hl)) ⟨[], ⟨l, rfl, SqT.of (cut_new (ro.none hl))⟩, Nat.zero_le _, fun z hz => by cases hz⟩,
    fun e => q _ _ (Ext.refl _) ro ⟨[0], ⟨p, rfl, h2⟩, (by show 1 ≤ N.toNat; omega), fun z hz => List.mem_singleton.mp hz⟩,
    fun e l hl => q _ _ (Ext.new hl).cut2 (ro.ext (Ext.new hl)) ⟨List.replicate k.toNat 0, ⟨l, rfl, SqT.of (by
      rw [cut_new (ro.none hl), List.map_replicate]
      congr 2
      have : ∀ n : Nat, (List.replicate n [V.int 0]).flatten = List.replicate n (V.int 0) := fun n => by
        induction n with
        | zero => rfl
        | succ n ih => rw [List.replicate_succ, List.flatten_cons, ih, List.replicate_succ]; rfl
      exact this _)⟩, (by rw [List.length_replicate]; omega), fun z hz => (List.mem_replicate.mp hz).2⟩⟩
theorem em_cat {P1 P2 : List Int → Prop} (ha : EvM K ta σ C r sc (fun v C' => ∃ ns, TV K ns v C' ∧ P1 ns)) (hb : EvM K tb σ C r sc (fun v C' => ∃ ns, TV K ns v C' ∧ P2 ns)) (hl : ∀ a b, P1 a → P2 b → a.length + b.length ≤ 100000) :
    EvM K (tOp (rCatA K) ta tb) σ C r sc (fun v C' => ∃ a b, TV K (a ++ b) v C' ∧ P1 a ∧ P2 b) :=
  em_op ha (fun v H H' e ⟨ns, h, a⟩ => ⟨ns, mono_TV _ _ _ e h, a⟩) hb fun v w H1 Q _ ro ⟨xs, ⟨a, h1, h2⟩, pa⟩ ⟨ys, ⟨b, h3, h4⟩, pb⟩ q =>
    ⟨a, b, xs.map V.int, ys.map V.int, h1, h3, (Ext.cut r).t h2, (Ext.cut r).t h4, Nat.le_trans (by rw [List.length_map, List.length_map]; exact hl _ _ pa pb) (by decide),
      fun e => q _ _ (Ext.refl _) ro ⟨xs, ys, ⟨b, rfl, by rw [List.map_append, e]; exact h4⟩, pa, pb⟩, fun _ e => q _ _ (Ext.refl _) ro ⟨xs, ys, ⟨a, rfl, by rw [List.map_append, e, List.append_nil]; exact h2⟩, pa, pb⟩,
      fun _ _ p hp => q _ _ (Ext.new hp).cut2 (ro.ext (Ext.new hp)) ⟨xs, ys, ⟨p, rfl, SqT.of (by rw [cut_new (ro.none hp), List.map_append])⟩, pa, pb⟩⟩
theorem em_tup1 {p : Int → Prop} (h : EvM K te σ C r sc (IntP p)) : EvM K (tTup (tCons te tNil)) σ C r sc (fun v C' => ∃ ns, TV K ns v C' ∧ ∃ z, ns = [z] ∧ p z) :=
  (em_tup (eam_1 h mono_IntP) (fun vs H H' e h => h) (fun vs H ⟨v, h, _⟩ => by rw [h]; exact (by decide : 1 ≤ 100000))).imp fun v H' _ ⟨p, vs, h1, h2, u, h3, z, h4, h5⟩ => ⟨[z], ⟨p, h1, by rw [h3, h4] at h2; exact h2⟩, z, rfl, h5⟩
theorem em_ratio {p q : Int → Prop} {n : Nat} (ha : EvM K ta σ C r sc (IntP p)) (hb : EvM K tb σ C r sc (IntP q)) (hm : ∀ a b, p a → q b → Means n a b (((a : Int) : Rat) / ((b : Int) : Rat))) (hn : n ≤ 8000) : EvM K (tCall (sp_ratio K) [] E0 (tCons ta (tCons tb tNil))) σ C r sc (fun v C' => ∃ q, RV K n q v C') := fun H1 e ro Q k =>
  eam_2 ha mono_IntP hb mono_IntP H1 e ro _ fun vs H2 e2 ro2 ⟨v, w, h1, ⟨a, h2, h3⟩, b, h4, h5⟩ => by
    subst h1 h2 h4
    show sp_ratio K ([.int a, .int b] ++ []) H2 Q E0
    exact ⟨a, b, n, _, rfl, hm a b h3 h5, hn, fun v H3 e3 hv => k v H3 (e2.trans e3.cut2) (ro2.ext e3) ⟨_, cuts_RV _ _ _ _ (ro2.ext e3) hv⟩⟩
theorem q_unp2 {i j : Nat} {P R : VP} (ha : Ev ta σ H P) (m1 : Mono P) (hb : Ev tb σ H R) (m2 : Mono R) (k : ∀ v w H1, Ext H H1 → P v H1 → R w H1 → tz D ((σ.set i (some v)).set j (some w)) H1) :
    tSeq (tAsg (tTup (tCons ta (tCons tb tNil))) (gTup K 2 (gCons (gName i) (gCons (gName j) gNil)))) tz D σ H :=
  ea_2 ha m1 hb m2 H (Ext.refl H) (fun vs H1 => vs.length ≤ sizeLine ∧ ∀ p, H1 p = none → gTup K 2 (gCons (gName i) (gCons (gName j) gNil)) (.ref p) σ (upd H1 p (.tup vs)) (tz D)) fun vs H1 e ⟨v, w, h1, h2, h3⟩ => by
    subst h1
    exact ⟨by show 2 ≤ sizeLine; decide, fun p hp => ⟨p, [v, w], rfl, SqT.of upd_same, rfl, v, [w], rfl, w, [], rfl, rfl, k v w _ (e.trans (Ext.new hp)) (m1 _ _ _ (Ext.new hp) h2) (m2 _ _ _ (Ext.new hp) h3)⟩⟩
theorem ev_nilT : Ev (tTup tNil) σ H (TV K []) := (eu_tup (K := K) (S := fun vs _ => vs = []) ea_nil (fun vs H H' e h => h) (fun vs H h => by rw [h]; exact (by decide : 0 ≤ 100000))).imp fun v H' _ ⟨p, vs, h1, h2, h3⟩ => ⟨p, h1, by rw [h3] at h2; exact h2⟩
theorem et_in2 {z a b : Int} (ha : Ev te σ H (is (.int z))) : EvT (tTest (tOp (rIn K false) te (tLst (tCons (tC (.int a)) (tCons (tC (.int b)) tNil))))) σ H (inV (.int z) [.int a, .int b]) :=
  et_test (ev_op ha mono_is (el_lst (ea_2 (ev_c (v := .int a)) mono_is (ev_c (v := .int b)) mono_is) (fun vs H H' e h => h) (fun vs H ⟨v, w, h, _⟩ => by rw [h]; exact (by decide : 2 ≤ 100000))) fun v w H1 Q _ hv ⟨l, vs, h1, _, h2, x, y, h3, h4, h5⟩ q => by
    rw [show x = _ from h4, show y = _ from h5] at h3
    subst h3
    exact ⟨l, _, h1, .inl (SqL.of h2), by rw [show v = _ from hv]; rfl, rfl, by rw [show v = _ from hv]; exact q _ _ (Ext.refl _) rfl⟩)
end
section
variable {P : Program} {w : World} {K : PySem.W.Frag} {mg : Str → Option Value} {base : Heap} {f : Addr} {fd : FuncData}
structure LawM3 (P : Program) (w : World) (K : PySem.W.Frag) (mg : Str → Option Value) (base : Heap) : Prop extends LawM2 P w K mg base, Law1 P w K mg base where
  _law_rate : Callee P w K mg base "_law_rate" 3 ["_law_row"] (spM K (fun us _ => us = []) (fun _ => RateV K))
  _law_lives : Callee P w K mg base "_law_lives" 3 ["_law_row", "_law_most"] (spM K (fun us _ => us = [.int 6]) (fun _ => LivesV K))
theorem em_rateC {σ : L2.St} {C : Hp} {r sc : Addr} {i : Nat} (hσ : σ[i]? = some (some (.ref r))) : EvM K (tCall (spM K (fun us _ => us = []) (fun _ => RateV K)) [] E0 (tCons (tVar i) tNil)) σ C r sc (RateV K) := (em_call hσ eam_nil).imp fun v H' _ ⟨us, h⟩ => h
/-- a policy that was drawn -/
def DrawnV (K : PySem.W.Frag) : VP := fun v C => ∃ c, PolV K c v C ∧ c.Ok
theorem ok_l_policy (F : FnP K "_law_policy" s__law_policy f fd) (T : Txt mg) (C : LawM3 P w K mg base) : FnOk P w K mg base CX0 4 f fd ["_law_row"] (spM K (fun us _ => us = []) (fun _ => DrawnV K)) := by
  refine F.ok sc__law_policy (fun vs H Q E h => ?_) (fun cdv A outer s H vs Q E hr h => ?_)
  · obtain ⟨r, sc, us, rfl, _, rfl, _⟩ := h; rfl
  · obtain ⟨r, sc, us, rfl, ro, rfl, k⟩ := h
    refine ⟨_, PSs.nox (pss_cons (ps_set (i := 1) sc__law_policy.nd rfl (Or.inl rfl) (pc C._law_lives hr (by decide) (pa_cons (pv 0) (pa_cons pe_int pa_nil))))
      (pss_cons (ps_set (i := 2) sc__law_policy.nd rfl (Or.inl rfl) (pc C._law_taken hr (by decide) (pa_cons (pv 0) (pa_cons (pe_op op_sub (pe_callB call_len_seq (by rfl) T.len PySem.boot_len (pa_cons (pv 1) pa_nil)) pe_int) pa_nil))))
      (pss_cons (ps_par (i := 3) (j := 4) (by rfl) sc__law_policy.nd rfl rfl (by decide) rfl rfl (pa_cons (pe_op op_sub (pe_op op_sub (pe_callB call_len_seq (by rfl) T.len PySem.boot_len (pa_cons (pv 1) pa_nil)) pe_int) (pv 2)) (pa_cons (pc C._law_rate hr (by decide) (pa_cons (pv 0) pa_nil)) pa_nil)) (by rfl))
      (pss_cons (ps_par (i := 5) (j := 6) (by rfl) sc__law_policy.nd rfl rfl (by decide) rfl rfl (pa_cons (pc C._law_taken hr (by decide) (pa_cons (pv 0) (pa_cons pe_int pa_nil))) (pa_cons (pc C._law_pick hr (by decide) (pa_cons (pv 0) (pa_cons (pe_lst (pa_cons pe_int (pa_cons pe_int (pa_cons (pv 3) (pa_cons (pv 3) (pa_cons (pe_callB (call_max2 rfl) (by rfl) T.max (by decide +kernel) (pa_cons pe_int (pa_cons (pe_op op_sub (pv 3) pe_int) pa_nil))) (pa_cons (pe_op op_add pe_int (pc C._law_taken hr (by decide) (pa_cons (pv 0) (pa_cons pe_int pa_nil)))) pa_nil))))))) pa_nil))) pa_nil)) (by rfl))
      (pss_cons (ps_asg (pe_tup (pa_cons (pe_tup pa_nil) (pa_cons (pe_tup pa_nil) pa_nil))) (pg_tup (by rfl) (pgs_cons (pg_name (i := 7) sc__law_policy.nd rfl (Or.inl rfl)) (pgs_cons (pg_name (i := 8) sc__law_policy.nd rfl (Or.inl rfl)) pgs_nil))))
      (pss_cons (ps_if (pt_cmpR op_in_seq (pv 5) (pe_lst (pa_cons pe_int (pa_cons pe_int pa_nil))) (by rfl)) (pss_one (ps_set (i := 8) sc__law_policy.nd rfl (Or.inl rfl) (pe_callTy call_tuple_of (by rfl) T.tuple (by decide +kernel) (pa_cons (pe_lc (own := [("_law_k", 10)]) (g := gName 10) (by rfl) sc__law_policy.nd (pi_range1 (by rfl) T.range (pa_cons (pv 3) pa_nil)) (blkOk_by (own := [("_law_k", 10)]) (N := N__law_policy) (sc := defScope s__law_policy) (by decide +kernel)) (fun _ _ _ _ _ => pg_name (i := 10) sc__law_policy.nd rfl (Or.inl rfl)) (fun _ _ _ _ _ => pts_nil) (fun _ _ _ _ _ => (pc C._law_pick hr (by decide) (pa_cons (pv 0) (pa_cons (pe_lst (pa_cons pe_int (pa_cons pe_int (pa_cons pe_int (pa_cons pe_int pa_nil))))) pa_nil))))) pa_nil)))) pss_nil)
      (pss_cons (ps_if (pt_cmpR op_in_seq (pv 5) (pe_lst (pa_cons pe_int (pa_cons pe_int pa_nil))) (by rfl)) (pss_one (ps_set (i := 7) sc__law_policy.nd rfl (Or.inl rfl) (pe_op op_catA (pe_op op_repN (pe_tup (pa_cons pe_int pa_nil)) (pc C._law_taken hr (by decide) (pa_cons (pv 0) (pa_cons (pe_op op_add (pv 3) pe_int) pa_nil)))) (pe_tup (pa_cons (pc C._law_pick hr (by decide) (pa_cons (pv 0) (pa_cons (pe_lst (pa_cons pe_int (pa_cons pe_int pa_nil))) pa_nil))) pa_nil))))) pss_nil)
      (pss_cons (ps_if (pt_cmpR op_eq (pv 5) pe_int (nomark _)) (pss_cons (ps_set (i := 7) sc__law_policy.nd rfl (Or.inl rfl) (pe_callTy call_tuple_of (by rfl) T.tuple (by decide +kernel) (pa_cons (pe_lc (own := [("_law_k", 10)]) (g := gName 10) (by rfl) sc__law_policy.nd (pi_range1 (by rfl) T.range (pa_cons (pc C._law_taken hr (by decide) (pa_cons (pv 0) (pa_cons pe_int pa_nil))) pa_nil)) (blkOk_by (own := [("_law_k", 10)]) (N := N__law_policy) (sc := defScope s__law_policy) (by decide +kernel)) (fun _ _ _ _ _ => pg_name (i := 10) sc__law_policy.nd rfl (Or.inl rfl)) (fun _ _ _ _ _ => pts_nil) (fun _ _ _ _ _ => (pc C._law_pick hr (by decide) (pa_cons (pv 0) (pa_cons (pe_lst (pa_cons pe_int (pa_cons pe_int (pa_cons (pe_un un_neg pe_int) (pa_cons pe_int pa_nil))))) pa_nil))))) pa_nil)))
      (pss_one (ps_set (i := 8) sc__law_policy.nd rfl (Or.inl rfl) (pe_callTy call_tuple_of (by rfl) T.tuple (by decide +kernel) (pa_cons (pe_lc (own := [("_law_k", 10)]) (g := gName 10) (by rfl) sc__law_policy.nd (pi_range1 (by rfl) T.range (pa_cons (pc C._law_taken hr (by decide) (pa_cons (pv 0) (pa_cons pe_int pa_nil))) pa_nil)) (blkOk_by (own := [("_law_k", 10)]) (N := N__law_policy) (sc := defScope s__law_policy) (by decide +kernel)) (fun _ _ _ _ _ => pg_name (i := 10) sc__law_policy.nd rfl (Or.inl rfl)) (fun _ _ _ _ _ => pts_nil) (fun _ _ _ _ _ => (pe_op op_sub (pc C._law_taken hr (by decide) (pa_cons (pv 0) (pa_cons pe_int pa_nil))) pe_int))) pa_nil))))) pss_nil)
      (pss_cons (ps_set (i := 9) sc__law_policy.nd rfl (Or.inl rfl) (pc C._law_ratio hr (by decide) (pa_cons (pc C._law_pick hr (by decide) (pa_cons (pv 0) (pa_cons (pe_lst (pa_cons pe_int (pa_cons pe_int (pa_cons pe_int (pa_cons pe_int (pa_cons (pe_op op_sub (pc C._law_taken hr (by decide) (pa_cons (pv 0) (pa_cons pe_int pa_nil))) pe_int) pa_nil)))))) pa_nil))) (pa_cons (pe_op op_add pe_int (pc C._law_taken hr (by decide) (pa_cons (pv 0) (pa_cons pe_int pa_nil)))) pa_nil))))
      (pss_one (ps_ret (pe_tup (pa_cons (pv 1) (pa_cons (pv 2) (pa_cons (pv 4) (pa_cons (pv 7) (pa_cons (pv 8) (pa_cons (pv 9) (pa_cons (pv 6) pa_nil))))))))))))))))))), ?_⟩
    refine qm_asg (P := LivesV K) ro ((em_call rfl ((eam_1 (em_ev (ev_c (v := .int 6)) cuts_is) mono_is).imp fun vs H' _ ⟨v, h1, h2⟩ => by rw [h1, show v = _ from h2])).imp fun v H' _ ⟨us, h⟩ => h) fun lv H1 e1 ro1 ⟨xs, hxs, lp⟩ => ?_
    have l1 := lp.len
    refine qm_asg ro1 (em_taken (m := (xs.length : Int) - 1) rfl (ev_I0 (ev_lenT (ev_tv hxs rfl)) ev_c) (by omega) (by omega)) fun av H2 e2 ro2 ⟨z, hz, z0, z1⟩ => ?_
    subst hz
    obtain ⟨a, rfl⟩ : ∃ a : Nat, z = (a : Int) := ⟨z.toNat, by omega⟩
    have hxs2 := mono_TV _ _ _ e2 hxs
    refine qm_par ro2 (em_ev (ev_I0 (ev_I0 (ev_lenT (ev_tv hxs2 rfl)) ev_c) (ev_i rfl)) cuts_is) mono_is (em_rateC rfl) mono_RateV fun sv rv H3 e3 ro3 hs ⟨q, hq, q1, q2, q3⟩ => ?_
    obtain rfl : sv = _ := hs
    obtain ⟨n, hn⟩ : ∃ n : Nat, (xs.length : Int) - 1 - (a : Int) = (n : Int) := ⟨xs.length - 1 - a, by omega⟩
    rw [hn]
    refine qm_par (P := IntP fun z => 0 ≤ z ∧ z < 4) (R := IntP fun z => 0 ≤ z ∧ z ≤ 8) ro3 (em_taken rfl ev_c (by decide) (by decide)) mono_IntP (em_pick (n := 6) rfl mono_IntP
      (all_cons mono_IntP (em_c (by decide)) (all_cons mono_IntP (em_c (by decide)) (all_cons mono_IntP (em_i (ev_i rfl) (by omega)) (all_cons mono_IntP (em_i (ev_i rfl) (by omega)) (all_cons mono_IntP
        (em_max (em_c (p := (· = 0)) rfl) (em_I0 (s := fun z => z ≤ 8) (em_i (p := (· = (n : Int))) (ev_i rfl) rfl) (em_c (p := (· = 1)) rfl) (fun i j hi hj => by omega)) (fun i j hi hj => by split <;> omega))
        (all_cons mono_IntP (em_I0 (em_c (p := (· = 1)) rfl) (em_taken rfl ev_c (by decide) (by decide)) (fun i j hi hj => by omega)) all_nil)))))) (by decide) (by decide)) mono_IntP fun wv yv H4 e4 ro4 ⟨way, hw, w0, w1⟩ ⟨yr, hy, y0, y1⟩ => ?_
    subst hw hy
    have hxs4 := mono_TV _ _ _ (e3.trans e4) hxs2
    have hq4 := hq.ext e4
    refine q_unp2 (K := K) (P := TV K []) (R := TV K []) ev_nilT mono_TV ev_nilT mono_TV fun va0 vd0 H5 e5 ha0 hd0 => ?_
    have E5 := (((e1.trans e2).trans e3).trans e4).trans e5.cut2
    have ro5 := ro4.ext e5
    have hxs5 := mono_TV _ _ _ e5.cut2 hxs4
    have hq5 := hq4.ext (e5.cut2 (r := r))
    have pnil : PayP [] := ⟨Nat.zero_le _, fun z hz => by cases hz⟩
    have hJ : ∃ va vd, ((((((((((start N__law_policy [.ref r]).set 1 (some lv)).set 2 (some (.int (a : Int)))).set 3 (some (.int (n : Int)))).set 4 (some rv)).set 5 (some (.int way))).set 6 (some (.int yr))).set 7 (some va0)).set 8 (some vd0))) = [some (.ref r), some lv, some (.int (a : Int)), some (.int (n : Int)), some rv, some (.int way), some (.int yr), some va, some vd, none, none] ∧ Ext (cut r H5) (cut r H5) ∧ RowOk K r sc H5 ∧ PaysV K va (cut r H5) ∧ PaysV K vd (cut r H5) :=
      ⟨va0, vd0, rfl, Ext.refl _, ro5, ⟨[], cuts_TV _ _ _ _ ro5 ha0, pnil⟩, [], cuts_TV _ _ _ _ ro5 hd0, pnil⟩
    let J : L2.St → Hp → Prop := fun σ' H' => ∃ va vd, σ' = [some (.ref r), some lv, some (.int (a : Int)), some (.int (n : Int)), some rv, some (.int way), some (.int yr), some va, some vd, none, none] ∧ Ext (cut r H5) (cut r H') ∧ RowOk K r sc H' ∧ PaysV K va (cut r H') ∧ PaysV K vd (cut r H')
    have jx : ∀ {σ' : L2.St} {H' H'' : Hp}, Ext H' H'' → J σ' H' → J σ' H'' := fun e ⟨va, vd, h1, h2, h3, h4, h5⟩ => ⟨va, vd, h1, h2.trans e.cut2, h3.ext e, mono_PaysV _ _ _ e.cut2 h4, mono_PaysV _ _ _ e.cut2 h5⟩
    have step : ∀ σ' H', J σ' H' → σ'[5]? = some (some (.int way)) := fun σ' H' ⟨va, vd, h1, _⟩ => by rw [h1]; rfl
    have jj := hJ
    refine q_ifJ J (et_in2 (ev_i rfl)) (fun _ X hX H6 e6 => ?_) (fun H6 e6 => jx e6 hJ) ?_
    · refine sm_asg (ro5.ext e6) (em_payI (p := fun z => 0 ≤ z ∧ z ≤ 1000) (em_map (N := 8) ((eam_1 (em_i (p := (· = (n : Int))) (ev_i rfl) rfl) mono_IntP).imp fun vs H' _ ⟨v, h1, z, h2, h3⟩ => ⟨n, by rw [h1, h2, h3], by omega⟩) (by decide) (fun _ => rfl) fun i =>
        em_pick (n := 4) rfl mono_IntP (all_cons mono_IntP (em_c (by decide)) (all_cons mono_IntP (em_c (by decide)) (all_cons mono_IntP (em_c (by decide)) (all_cons mono_IntP (em_c (by decide)) all_nil)))) (by decide) (by decide)) (by decide) (fun z h => by omega)) fun v H7 e7 ro7 hv => ?_
      exact hX _ _ ⟨va0, v, rfl, e6.cut2.trans e7, ro7, ⟨[], mono_TV _ _ _ (e6.cut2.trans e7) (cuts_TV _ _ _ _ ro5 ha0), pnil⟩, hv⟩
    rintro σ1 G1 ⟨va1, vd1, rfl, g1, k1, pa1, pd1⟩
    refine q_ifJ J (et_in2 (ev_i rfl)) (fun _ X hX H6 e6 => ?_) (fun H6 e6 => jx e6 ⟨va1, vd1, rfl, g1, k1, pa1, pd1⟩) ?_
    · refine sm_asg (k1.ext e6) ((em_cat (em_zeros (N := 7) ((em_taken (m := (n : Int) + 1) rfl (ev_I0 (ev_i rfl) ev_c) (by omega) (by omega)).intp fun z h => by omega) (by decide)) (em_tup1 (p := fun z => 0 ≤ z ∧ z ≤ 1000) (em_pick (n := 2) rfl mono_IntP (all_cons mono_IntP (em_c (by decide)) (all_cons mono_IntP (em_c (by decide)) all_nil)) (by decide) (by decide))) ?_)) fun v H7 e7 ro7 hv => ?_
      · rintro x y ⟨h1, _⟩ ⟨z, rfl, _⟩
        have h1 : x.length ≤ 7 := h1
        show x.length + 1 ≤ _; omega
      · obtain ⟨x, y, hv, ⟨h1, h2⟩, z, rfl, h3⟩ := hv
        have h1 : x.length ≤ 7 := h1
        refine hX _ _ ⟨v, vd1, rfl, (g1.trans e6.cut2).trans e7, ro7, ⟨x ++ [z], hv, ⟨by rw [List.length_append]; show x.length + 1 ≤ 8; omega, fun u hu => ?_⟩⟩, mono_PaysV _ _ _ (e6.cut2.trans e7) pd1⟩
        rcases List.mem_append.mp hu with hu | hu
        · rw [h2 u hu]; decide
        · rw [List.mem_singleton.mp hu]; omega
    rintro σ2 G2 ⟨va2, vd2, rfl, g2, k2, pa2, pd2⟩
    refine q_ifJ J (et_test (ev_eq (ev_i rfl) ev_c rfl)) (fun _ X hX H6 e6 => ?_) (fun H6 e6 => jx e6 ⟨va2, vd2, rfl, g2, k2, pa2, pd2⟩) ?_
    · refine qm_asg (k2.ext e6) (em_payI (p := fun z => -3 ≤ z ∧ z ≤ 1000) (em_map (N := 8) ((eam_1 (em_taken rfl ev_c (by decide) (by decide)) mono_IntP).imp fun vs H' _ ⟨v, h1, z, h2, h3⟩ => ⟨z.toNat, by rw [h1, h2]; congr 2; omega, by omega⟩) (by decide) (fun _ => rfl) fun i =>
        em_pick (n := 4) rfl mono_IntP (all_cons mono_IntP (em_c (by decide)) (all_cons mono_IntP (em_c (by decide)) (all_cons mono_IntP (em_i (ev_un ev_c) (by decide)) (all_cons mono_IntP (em_c (by decide)) all_nil)))) (by decide) (by decide)) (by decide) (fun z h => by omega)) fun v H7 e7 ro7 hv => ?_
      refine sm_asg ro7 (em_payI (p := fun z => -50 ≤ z ∧ z ≤ 1000) (em_map (N := 8) ((eam_1 (em_taken rfl ev_c (by decide) (by decide)) mono_IntP).imp fun vs H' _ ⟨v, h1, z, h2, h3⟩ => ⟨z.toNat, by rw [h1, h2]; congr 2; omega, by omega⟩) (by decide) (fun _ => rfl) fun i =>
        em_I0 (em_taken rfl ev_c (by decide) (by decide)) (em_c (p := (· = 50)) rfl) (fun i j hi hj => by omega)) (by decide) (fun z h => by omega)) fun u H8 e8 ro8 hu => ?_
      exact hX _ _ ⟨v, u, rfl, (g2.trans e6.cut2).trans (e7.trans e8), ro8, mono_PaysV _ _ _ e8 hv, hu⟩
    rintro σ3 G3 ⟨va, vd, rfl, g3, k3, pa3, pd3⟩
    refine qm_asg k3 (em_ratio (n := 20) (p := fun z => -20 ≤ z ∧ z ≤ 100) (q := fun z => 1 ≤ z ∧ z ≤ 4) (em_pick (n := 5) rfl mono_IntP (all_cons mono_IntP (em_c (by decide)) (all_cons mono_IntP (em_c (by decide)) (all_cons mono_IntP (em_c (by decide)) (all_cons mono_IntP (em_c (by decide))
      (all_cons mono_IntP (em_I0 (em_taken rfl ev_c (by decide) (by decide)) (em_c (p := (· = 20)) rfl) (fun i j hi hj => by omega)) all_nil))))) (by decide) (by decide))
      (em_I0 (em_c (p := (· = 1)) rfl) (em_taken rfl ev_c (by decide) (by decide)) (fun i j hi hj => by omega)) (fun x y hx hy => ⟨by omega, by rw [Rat.divInt_eq_div], by rw [p20]; omega, by rw [p20]; omega⟩) (by decide)) fun pv H7 e7 k7 ⟨pq, hpq⟩ => ?_
    obtain ⟨als, ⟨pa, rfl, hpa⟩, pp1⟩ := mono_PaysV _ _ _ e7 pa3
    obtain ⟨des, ⟨pd, rfl, hpd⟩, pp2⟩ := mono_PaysV _ _ _ e7 pd3
    obtain ⟨pl, rfl, hpl⟩ := mono_TV _ _ _ (g3.trans e7) hxs5
    obtain ⟨pr, rfl, hpr, hsr⟩ := hq5.ext (g3.trans e7)
    refine ⟨_, rfl, _, rfl, _, rfl, _, rfl, _, rfl, _, rfl, _, rfl, by show 7 ≤ sizeLine; decide, fun p hp => ?_⟩
    have e8 := Ext.new (o := .tup [.ref pl, .int (a : Int), .ref pr, .ref pa, .ref pd, pv, .int yr]) hp
    have E8 := (g3.trans e7).trans (e8.cut2 (r := r))
    refine k _ _ (E5.trans E8) (k7.ext e8) ⟨⟨xs, a, q, als, des, pq, yr.toNat⟩, ?_, ?_⟩
    · refine ⟨p, pl, pr, pa, pd, pv, rfl, SqT.of ?_, e8.cut2.t hpl, ⟨pr, rfl, e8.cut2.t hpr, hsr⟩, e8.cut2.t hpa, e8.cut2.t hpd, hpq.ext e8.cut2⟩
      rw [cut_new (k7.none hp)]
      show _ = some (HO.tup [.ref pl, .int (a : Int), .ref pr, .ref pa, .ref pd, pv, .int ((yr.toNat : Nat) : Int)])
      rw [show ((yr.toNat : Nat) : Int) = yr by omega]
    · exact ⟨lp.len, by show a + 2 ≤ xs.length; omega, lp.sz, lp.down, lp.last, lp.pos, ⟨q1, q2⟩, q3, pp1.pays, pp2.pays, by show yr.toNat ≤ 40; omega⟩
end
end K21
set_option maxHeartbeats 4000000
namespace K21
open PySem PySem.Spec PyProof.Rows L2
/-! ### the second table, in plain numbers -/
def More (x y : Int) : Prop := ∃ t : Int, 0 ≤ t ∧ t < 3 ∧ y = x + (if 0 < x then t else 0)
theorem second_lives {xs ms zs : List Int} (h : LivesP xs) (hm : ms.length = xs.length) (hr : ∀ k, k < xs.length → More (entI xs k) (entI ms k)) (hz : zs.length = ms.length)
    (hs : ∀ k, k < ms.length → ∃ m, m ∈ ms.drop k ∧ (∀ y ∈ ms.drop k, y ≤ m) ∧ entI zs k = if m < 1000000 then m else 1000000) : LivesP zs := by
  have hl := h.len
  have ge : ∀ k, k < xs.length → entI xs k ≤ entI ms k := fun k hk => by
    obtain ⟨t, h1, h2, h3⟩ := hr k hk
    rw [h3]; split <;> omega
  have lo : ∀ k, k + 1 < xs.length → 1 ≤ entI ms k := fun k hk => by have := ge k (by omega); have := h.pos k hk; omega
  have nn : ∀ k, k < ms.length → 0 ≤ entI ms k := fun k hk => by have := ge k (by omega); have := (h.sz _ (entI_mem (xs := xs) (k := k) (by omega))).1; omega
  have last : entI ms (ms.length - 1) = 0 := by
    obtain ⟨t, h1, h2, h3⟩ := hr (ms.length - 1) (by omega)
    have := h.last
    rw [← hm] at this
    rw [this] at h3
    rw [h3, if_neg (by decide)]; rfl
  have mem : ∀ k j, k ≤ j → j < ms.length → entI ms j ∈ ms.drop k := fun k j h1 h2 => by
    have e : (ms.drop k)[j - k]? = some (entI ms j) := by rw [List.getElem?_drop, show k + (j - k) = j by omega]; exact getI h2
    exact List.mem_of_getElem? e
  have of_mem : ∀ k m, m ∈ ms.drop k → ∃ j, k ≤ j ∧ j < ms.length ∧ m = entI ms j := fun k m hm' => by
    obtain ⟨j, hj⟩ := List.mem_iff_getElem?.mp hm'
    rw [List.getElem?_drop] at hj
    have hlt : k + j < ms.length := (List.getElem?_eq_some_iff.mp hj).1
    rw [getI hlt] at hj
    exact ⟨k + j, by omega, hlt, (Option.some.inj hj).symm⟩
  have bnd : ∀ k, k < ms.length → 0 ≤ entI zs k ∧ entI zs k ≤ 1000000 := fun k hk => by
    obtain ⟨m, h1, h2, h3⟩ := hs k hk
    have := h2 _ (mem k k (Nat.le_refl _) hk)
    have := nn k hk
    rw [h3]; split <;> omega
  refine ⟨by omega, fun x hx => ?_, fun k hk => ?_, ?_, fun k hk => ?_⟩
  · obtain ⟨j, hj⟩ := List.mem_iff_getElem?.mp hx
    have hlt : j < zs.length := (List.getElem?_eq_some_iff.mp hj).1
    rw [getI hlt] at hj
    rw [← Option.some.inj hj]
    exact bnd j (by omega)
  · obtain ⟨m, h1, h2, h3⟩ := hs k (by omega)
    obtain ⟨m', h1', h2', h3'⟩ := hs (k + 1) (by omega)
    obtain ⟨j, j1, j2, rfl⟩ := of_mem _ _ h1'
    have := h2 _ (mem k j (by omega) j2)
    rw [h3, h3']; split <;> split <;> omega
  · obtain ⟨m, h1, h2, h3⟩ := hs (ms.length - 1) (by omega)
    obtain ⟨j, j1, j2, rfl⟩ := of_mem _ _ h1
    rw [hz, h3, show j = ms.length - 1 by omega, last]; rfl
  · obtain ⟨m, h1, h2, h3⟩ := hs k (by omega)
    have := h2 _ (mem k k (Nat.le_refl _) (by omega))
    have := lo k (by omega)
    rw [h3]; split <;> omega
/-! ### the second table, drawn -/
section
variable {K : PySem.W.Frag} {σ : L2.St} {H C : Hp} {r sc : Addr} {ta tb te tl : TE} {t : TT} {tu tz : TS} {D : Ends} {vs : List Nat} {j : Nat}
/-- a test that is not known -/
theorem qm_ifJ (J : L2.St → Hp → Prop) (ro : RowOk K r sc H) (h : ∀ H1, Ext (cut r H) (cut r H1) → RowOk K r sc H1 → ∀ Q : Bool → Hp → Prop, (∀ b H2, Ext (cut r H1) (cut r H2) → RowOk K r sc H2 → Q b H2) → t σ H1 Q)
    (h1 : ∀ (X : L2.St → Hp → Prop), (∀ σ' H', J σ' H' → X σ' H') → ∀ H1, Ext (cut r H) (cut r H1) → RowOk K r sc H1 → tu { D with nx := X } σ H1) (h0 : ∀ H1, Ext (cut r H) (cut r H1) → RowOk K r sc H1 → J σ H1) (hd : ∀ σ' H', J σ' H' → tz D σ' H') :
    tSeq (tIfS t tu tNext) tz D σ H := h H (Ext.refl _) ro _ fun b H1 e ro1 => by
  cases b with
  | true => exact iteT (h1 _ hd H1 e ro1)
  | false => exact iteF (hd _ _ (h0 H1 e ro1))
theorem em_mulb {g : Int → Int → Bool} {a b : Int} {p s : Int → Prop} {t1 : TE} (h : EvM K t1 σ C r sc (IntP p)) (ha : Ev ta σ C (is (.int a))) (hb : Ev tb σ C (is (.int b))) (hg : ∀ i, p i → s (if g a b = true then i else 0)) :
    EvM K (tOp (fun x y H Q => ∃ i k, x = .int i ∧ y = .bl k ∧ Q (.int (if k = true then i else 0)) H) t1 (tOp (rI0 fun i j => .bl (g i j)) ta tb)) σ C r sc (IntP s) :=
  em_op h mono_IntP (em_ev (ev_I0 (g := fun i j => .bl (g i j)) ha hb) cuts_is) fun v w H1 Q _ ro ⟨i, h1, h2⟩ hw q => ⟨i, g a b, h1, hw, q _ _ (Ext.refl _) ro ⟨_, rfl, hg i h2⟩⟩
/-- [e for x in a tuple of whole numbers] -/
theorem em_mapT {ns : List Int} {R : Int → Int → Prop} (h : Ev tl σ C (TV K ns)) (hN : ns.length ≤ 40000) (hw : ∀ x, wipe ((wipe σ vs).set j (some x)) vs = wipe σ vs)
    (he : ∀ z : Int, EvM K te ((wipe σ vs).set j (some (.int z))) C r sc (IntP (R z))) : EvM K (tLc (iTup K tl) (gName j) tYes te vs) σ C r sc (fun v C' => ∃ (l : Addr) (ms : List Int), v = .ref l ∧ C' l = some (.lst (ms.map V.int)) ∧ ms.length = ns.length ∧ ∀ k, k < ns.length → R (entI ns k) (entI ms k)) := fun H1 e ro Q q =>
  h H1 (e.trans (Ext.cut r)) _ fun v H2 e2 ⟨a, hv, ha⟩ => ⟨a, hv, ⟨_, ha⟩, fun D hD => by
    have ro2 := ro.ext e2
    have hDr := ro2.none hD
    refine lc_tup (K := K) (a := a) (xs := ns.map V.int) (fun i H' => Ext (cut r H2) (cut r H') ∧ RowOk K r sc H' ∧ ∃ ms : List Int, H' D = some (.lst (ms.map V.int)) ∧ ms.length = i ∧ ∀ k, k < i → R (entI ns k) (entI ms k)) ⟨(Ext.new hD).cut2, ro2.ext (Ext.new hD), [], upd_same, rfl, fun k hk => by cases hk⟩
      (fun i H' _ hp => (Ext.cut r).t (hp.1.t (cut_t2 ro2 ha))) (fun i x H' hx hp => ?_)
      (fun H' ⟨p1, ro', ms, p2, p3, p4⟩ => q _ _ (e2.cut2.trans p1) ro' ⟨D, ms, rfl, by rw [cut_ne hDr]; exact p2, by rw [p3, List.length_map], fun k hk => p4 k (by rw [List.length_map]; exact hk)⟩)
    obtain ⟨p1, ro', ms, p2, p3, p4⟩ := hp
    have hi : i < ns.length := by
      have := (List.getElem?_eq_some_iff.mp hx).1
      rwa [List.length_map] at this
    rw [getV hi] at hx
    obtain rfl := Option.some.inj hx
    show wipe ((wipe σ vs).set j (some (.int (entI ns i)))) vs = wipe σ vs ∧ _
    refine ⟨hw _, ?_⟩
    simp only [tYes, ↓reduceIte]
    refine he (entI ns i) H' ((e.trans e2.cut2).trans p1) ro' _ fun y H4 e4 ro4 ⟨z, hy, hz⟩ => ?_
    have d4 : H4 D = some (.lst (ms.map V.int)) := (Ext.cut r).lst (e4.lst (by rw [cut_ne hDr]; exact p2))
    have e5 : Ext (cut r H2) (cut r (upd H4 D (.lst (ms.map V.int ++ [y])))) := by rw [cut_upd_ne hDr]; exact (p1.trans e4).mut (by rw [cut_ne hDr]; exact hD)
    refine ⟨ms.map V.int, d4, Nat.lt_of_le_of_lt (show (ms.map V.int).length ≤ 40000 by rw [List.length_map]; omega) (by decide), e5, ro2.back e5 ro4 (upd_ne (Ne.symm hDr)), ms ++ [z], by rw [upd_same, hy, List.map_append]; rfl, by rw [List.length_append, p3]; rfl, fun k hk => ?_⟩
    by_cases hki : k < i
    · rw [entI_app (by omega)]; exact p4 k hki
    · rw [show k = i by omega]
      have := entI_end (xs := ms) (x := z)
      rw [p3] at this; rw [this]; exact hz⟩
theorem em_tupM {S : List Int → Prop} (h : EvM K te σ C r sc (fun v C' => ∃ (l : Addr) (ms : List Int), v = .ref l ∧ C' l = some (.lst (ms.map V.int)) ∧ S ms)) : EvM K (tCB (fun xs H Q => ∃ p ys, xs = [.ref p] ∧ ((SqL K H p ys ∧ ∀ l, H l = none → Q (.ref l) (upd H l (.tup ys))) ∨ (SqT K H p ys ∧ Q (.ref p) H))) (tCons te tNil)) σ C r sc (fun v C' => ∃ ms, TV K ms v C' ∧ S ms) := fun H1 e ro Q q =>
  h H1 e ro _ fun v H2 e2 ro2 ⟨l, ms, h1, h2, h3⟩ => ⟨l, ms.map V.int, by rw [h1], .inl ⟨SqL.of ((Ext.cut r).lst h2), fun p hp => q _ _ (e2.trans (Ext.new hp).cut2) (ro2.ext (Ext.new hp)) ⟨ms, ⟨p, rfl, SqT.of (cut_new (ro2.none hp))⟩, h3⟩⟩⟩
theorem cutV_from {xs : List V} {k : Nat} (hk : k < xs.length) : cutV xs (some (k : Int)) none = xs.drop k := by
  unfold cutV
  rw [HT.sIx_none]
  show (xs.drop (if (k : Int) < 0 then ((k : Int) + (xs.length : Int)).toNat else min (k : Int).toNat xs.length)).take (xs.length - (if (k : Int) < 0 then ((k : Int) + (xs.length : Int)).toNat else min (k : Int).toNat xs.length)) = _
  rw [if_neg (by omega), show min (k : Int).toNat xs.length = k by omega]
  exact List.take_of_length_le (by rw [List.length_drop]; exact Nat.le_refl _)
/-- max(t[k:]) -/
theorem ev_maxS {ms : List Int} {i : Nat} {k : Nat} {v : V} (hσ : σ[i]? = some (some v)) (hv : TV K ms v H) (hk : k < ms.length) (hb : Ev tb σ H (is (.int (k : Int)))) :
    Ev (tCB (rMaxT K) (tCons (tSl (rSlA K) (tVar i) (tPart tb) tNoPart) tNil)) σ H (fun v _ => ∃ m, v = .int m ∧ m ∈ ms.drop k ∧ ∀ y ∈ ms.drop k, y ≤ m) :=
  ev_cb (ea_1 (ev_slT (ev_v (P := fun v H => ∃ p, v = .ref p ∧ SqT K H p (ms.map V.int)) hσ fun H' e => mono_TV _ _ _ e hv) (eo_some hb) eo_none) (fun v H H' e ⟨p, h1, h2⟩ => ⟨p, h1, e.t h2⟩)) fun vs H1 Q _ ⟨v, h1, p, h2, h3⟩ q => ⟨p, ms.drop k, by rw [h1, h2], by rw [cutV_from (by rw [List.length_map]; exact hk), ← List.map_drop] at h3; exact h3, by rw [List.length_drop]; omega, fun m h4 h5 => q _ _ (Ext.refl _) ⟨m, rfl, h4, h5⟩⟩
/-- [e for k in range(n)], whole numbers -/
theorem ev_mapI {ta : TA} {m : Nat} {p : Nat → Int → Prop} (h : EvA ta σ H (fun xs _ => xs = [.int (m : Int)])) (hm : m ≤ 40000) (hw : ∀ x, wipe ((wipe σ vs).set j (some x)) vs = wipe σ vs)
    (he : ∀ (i : Nat) H2, i < m → Ext H H2 → Ev te ((wipe σ vs).set j (some (.int (i : Int)))) H2 (fun v _ => ∃ z, v = .int z ∧ p i z)) : Ev (tLc (iRng1 ta) (gName j) tYes te vs) σ H (NewL H fun xs H' => ∃ zs : List Int, xs = zs.map V.int ∧ zs.length = m ∧ ∀ k, k < m → p k (entI zs k)) := fun H1 e1 Q q =>
  h H1 e1 _ fun xs H2 e2 hx => ⟨(m : Int), hx, by omega, by omega, fun D hD => by
    rw [show ((m : Int)).toNat = m by omega]
    refine lc_range (lo := 0) (n := m) (fun i H' => Ext H2 H' ∧ ∃ zs : List Int, H' D = some (.lst (zs.map V.int)) ∧ zs.length = i ∧ ∀ k, k < i → p k (entI zs k)) ⟨Ext.new hD, [], upd_same, rfl, fun k hk => by cases hk⟩ (fun i H' hi hp => ?_) (fun H' ⟨p1, zs, p2, p3, p4⟩ => q _ _ (e2.trans p1) ⟨D, _, rfl, (e1.trans e2).fresh hD, p2, zs, rfl, p3, p4⟩)
    obtain ⟨p1, zs, p2, p3, p4⟩ := hp
    show wipe ((wipe σ vs).set j (some (.int ((0 : Int) + (i : Int))))) vs = wipe σ vs ∧ _
    rw [Int.zero_add]
    refine ⟨hw _, ?_⟩
    simp only [tYes, ↓reduceIte]
    refine he i H' hi ((e1.trans e2).trans p1) H' (Ext.refl H') _ fun y H4 e4 ⟨z, hy, hz⟩ => ?_
    refine ⟨zs.map V.int, e4.lst p2, Nat.lt_of_le_of_lt (show (zs.map V.int).length ≤ 40000 by rw [List.length_map]; omega) (by decide), (p1.trans e4).mut hD, zs ++ [z], by rw [upd_same, hy, List.map_append]; rfl, by rw [List.length_append, p3]; rfl, fun k hk => ?_⟩
    by_cases hki : k < i
    · rw [entI_app (by omega)]; exact p4 k hki
    · rw [show k = i by omega]
      have := entI_end (xs := zs) (x := z)
      rw [p3] at this; rw [this]; exact hz⟩
end
end K21
set_option maxHeartbeats 4000000
namespace K21
open PySem PySem.Spec PyProof.Rows L2
/-! ### Lidstone, of policies -/
theorem Pol.res_eq (c : Pol) (hy : c.n ≤ c.yr) : c.res = fun t => K21.res c.n (fun k => ent c.al k - c.p) (qOf c.lf) (ent c.de) (1 + c.i)⁻¹ t := funext fun t => Pol.p_res (c := c) c.p hy t
theorem law_math {c d : Pol} (hc : c.Ok) (hd : d.Ok) (hn : d.n = c.n) (hag : d.age = c.age) (hal : d.al = c.al) (hde : d.de = c.de) (hyc : c.n ≤ c.yr) (hyd : d.n ≤ d.yr) (h0 : c.res 0 = 0) (h0' : d.res 0 = 0) :
    ((∀ t, t + 1 < c.n → c.crit d.L d.i t ≤ c.crit d.L d.i (t + 1)) → ∀ t, t ≤ c.n → d.res t ≤ c.res t) ∧ ((∀ t, t + 1 < c.n → c.crit d.L d.i (t + 1) ≤ c.crit d.L d.i t) → ∀ t, t ≤ c.n → c.res t ≤ d.res t) := by
  have e1 := c.res_eq hyc
  have e2 := d.res_eq hyd
  rw [hn, hal, hde] at e2
  rw [e1] at h0
  rw [e2] at h0'
  have L := lidstone (n := c.n) (a := ent c.al) (q := qOf c.lf) (q' := qOf d.lf) (d := ent c.de) (i := c.i) (i' := d.i) (p := c.p) (p' := d.p) hc.gr hd.gr (fun t ht => hd.q_le t (by rw [hn]; exact ht)) h0 h0'
  have ec : ∀ t, t < c.n → c.crit d.L d.i t = K21.crit (fun k => ent c.al k - c.p) (qOf c.lf) (qOf d.lf) (ent c.de) (K21.res c.n (fun k => ent c.al k - c.p) (qOf c.lf) (ent c.de) (1 + c.i)⁻¹) (d.i - c.i) t := fun t ht => by
    unfold Pol.crit
    rw [e1]
    have e3 : (c.second d.L d.i).lf = d.lf := by
      funext k
      show ((entI d.L (c.age + k) : Int) : Rat) = ((entI d.L (d.age + k) : Int) : Rat)
      rw [hag]
    rw [e3]
    unfold K21.crit
    have e4 : c.net t = ent c.al t - c.p := by
      unfold Pol.net; rw [if_pos (by omega)]
    rw [e4]
  constructor
  · intro h t ht
    have := L.1 (fun t ht => by rw [← ec t (by omega), ← ec (t + 1) ht]; exact h t ht) t ht
    rw [e1, e2]; exact this
  · intro h t ht
    have := L.2 (fun t ht => by rw [← ec t (by omega), ← ec (t + 1) ht]; exact h t ht) t ht
    rw [e1, e2]; exact this
/-! ### policies laid anew -/
def PolW (K : PySem.W.Frag) (n : Nat) (c : Pol) : VP := fun v H => ∃ p pl pr pa pd vp, v = .ref p ∧ SqT K H p [.ref pl, .int (c.age : Int), .ref pr, .ref pa, .ref pd, vp, .int (c.yr : Int)] ∧ SqT K H pl (c.L.map V.int) ∧ RV K 10 c.i (.ref pr) H ∧ SqT K H pa (c.al.map V.int) ∧ SqT K H pd (c.de.map V.int) ∧ RV K n c.p vp H
theorem mono_PolW {K : PySem.W.Frag} {n : Nat} {c : Pol} : Mono (PolW K n c) := fun v H H' e ⟨p, pl, pr, pa, pd, vp, h1, h2, h3, h4, h5, h6, h7⟩ => ⟨p, pl, pr, pa, pd, vp, h1, e.t h2, e.t h3, h4.ext e, e.t h5, e.t h6, h7.ext e⟩
section
variable {K : PySem.W.Frag} {σ : L2.St} {H C : Hp} {r sc : Addr} {ta tb te tl tp ty : TE} {t : TT} {tu tz : TS} {D : Ends} {vs : List Nat} {j : Nat}
theorem ev_slE {P R : VP} {lo hi : Option Int} {tl th : TO} (ha : Ev te σ H P) (hl : EvO tl σ H lo) (hu : EvO th σ H hi) (mP : Mono P) (k : ∀ v H1, P v H1 → ∃ p xs, v = .ref p ∧ SqT K H1 p xs ∧ ∀ p' H2, Ext H1 H2 → SqT K H2 p' (cutV xs lo hi) → R (.ref p') H2) : Ev (tSl (rSlA K) te tl th) σ H R := fun H1 e Q q =>
  ha H1 e _ fun v H2 e2 pv => hl H2 (e.trans e2) _ fun H3 e3 => hu H3 ((e.trans e2).trans e3) _ fun H4 e4 => by
    obtain ⟨p, xs, h1, h4, k2⟩ := k v H4 (mP _ _ _ (e3.trans e4) pv)
    refine ⟨p, xs, h1, h4, fun z => q _ _ ((e2.trans e3).trans e4) (k2 p H4 (Ext.refl _) ?_), fun z r hr => q _ _ (((e2.trans e3).trans e4).trans (Ext.new hr)) (k2 r _ (Ext.new hr) (SqT.of upd_same))⟩
    have : cutV xs lo hi = xs := by
      unfold cutV
      rw [z.1, z.2, List.drop_zero, Nat.sub_zero, List.take_length]
    rw [this]; exact h4
def L5 (K : PySem.W.Frag) (c : Pol) : VP := fun v H => ∃ p pl pr pa pd, v = .ref p ∧ SqT K H p [.ref pl, .int (c.age : Int), .ref pr, .ref pa, .ref pd] ∧ SqT K H pl (c.L.map V.int) ∧ RV K 10 c.i (.ref pr) H ∧ SqT K H pa (c.al.map V.int) ∧ SqT K H pd (c.de.map V.int)
theorem mono_L5 {c : Pol} : Mono (L5 K c) := fun v H H' e ⟨p, pl, pr, pa, pd, h1, h2, h3, h4, h5, h6⟩ => ⟨p, pl, pr, pa, pd, h1, e.t h2, e.t h3, h4.ext e, e.t h5, e.t h6⟩
def R2' (K : PySem.W.Frag) (n : Nat) (p : Rat) (yr : Nat) : VP := fun v H => ∃ a u, v = .ref a ∧ SqT K H a [u, .int (yr : Int)] ∧ RV K n p u H
theorem mono_R2 {n yr : Nat} {p : Rat} : Mono (R2' K n p yr) := fun v H H' e ⟨a, u, h1, h2, h3⟩ => ⟨a, u, h1, e.t h2, h3.ext e⟩
theorem ev_R2 {n yr : Nat} {p : Rat} (hp : Ev tp σ H (RV K n p)) (hy : Ev ty σ H (is (.int (yr : Int)))) : Ev (tTup (tCons tp (tCons ty tNil))) σ H (R2' K n p yr) :=
  (eu_tup (K := K) (ea_2 hp mono_RV hy mono_is) (fun vs H H' e ⟨v, w, h1, h2, h3⟩ => ⟨v, w, h1, h2.ext e, h3⟩) (fun vs H ⟨v, w, h, _⟩ => by rw [h]; exact (by decide : 2 ≤ 100000))).imp fun v H' _ ⟨a, vs, h1, h2, u, w, h3, h4, h5⟩ => ⟨a, u, h1, by rw [h3, show w = _ from h5] at h2; exact h2, h4⟩
theorem ev_L5 {n : Nat} {c : Pol} (ha : Ev te σ H (PolW K n c)) : Ev (tSl (rSlA K) te tNoPart (tPart (tC (.int 5)))) σ H (L5 K c) :=
  ev_slE ha eo_none (eo_some ev_c) mono_PolW fun v H1 ⟨p, pl, pr, pa, pd, vp, h1, h2, h3, h4, h5, h6, h7⟩ => ⟨p, _, h1, h2, fun p' H2 e h => ⟨p', pl, pr, pa, pd, rfl, h, e.t h3, h4.ext e, e.t h5, e.t h6⟩⟩
theorem ev_join {m yr : Nat} {c : Pol} {p : Rat} (ha : Ev ta σ H (L5 K c)) (hb : Ev tb σ H (R2' K m p yr)) : Ev (tOp (rCatA K) ta tb) σ H (PolW K m { c with p := p, yr := yr }) :=
  ev_op ha mono_L5 hb fun v w H1 Q _ ⟨a, pl, pr, pa, pd, h1, h2, h3, h4, h5, h6⟩ ⟨b, u, g1, g2, g3⟩ q => ⟨a, b, _, _, h1, g1, h2, g2, by show 5 + 2 ≤ sizeLine; decide, nofun, (fun _ z => nomatch z), fun _ _ l hl => by
    have e := Ext.new (o := .tup [.ref pl, .int (c.age : Int), .ref pr, .ref pa, .ref pd, u, .int (yr : Int)]) hl
    exact q _ _ e ⟨l, pl, pr, pa, pd, u, rfl, SqT.of upd_same, e.t h3, h4.ext e, e.t h5, e.t h6, g3.ext e⟩⟩
/-- (lives, policy[1], rate) + first[3:5] -/
theorem ev_second {n : Nat} {c : Pol} {Lb : List Int} {i2 : Rat} (hl : Ev tl σ H (TV K Lb)) (hag : Ev ta σ H (is (.int (c.age : Int)))) (hr : Ev tb σ H (RV K 10 i2)) (hf : Ev te σ H (PolW K n c)) :
    Ev (tOp (rCatA K) (tTup (tCons tl (tCons ta (tCons tb tNil)))) (tSl (rSlA K) te (tPart (tC (.int 3))) (tPart (tC (.int 5))))) σ H (L5 K { c with L := Lb, i := i2 }) := by
  refine ev_op (P := fun v H => ∃ a pl pr, v = .ref a ∧ SqT K H a [.ref pl, .int (c.age : Int), .ref pr] ∧ SqT K H pl (Lb.map V.int) ∧ RV K 10 i2 (.ref pr) H) (R := fun v H => ∃ b pa pd, v = .ref b ∧ SqT K H b [.ref pa, .ref pd] ∧ SqT K H pa (c.al.map V.int) ∧ SqT K H pd (c.de.map V.int)) ?_ ?_ ?_ ?_
  · refine (eu_tup (K := K) (ea_3 hl mono_TV hag mono_is hr mono_RV) (fun vs H H' e ⟨v, w, x, h1, h2, h3, h4⟩ => ⟨v, w, x, h1, mono_TV _ _ _ e h2, h3, h4.ext e⟩) (fun vs H ⟨v, w, x, h, _⟩ => by rw [h]; exact (by decide : 3 ≤ 100000))).imp fun v H' _ ⟨a, vs, h1, h2, u, w, x, h3, ⟨pl, h4, h5⟩, h6, h7⟩ => ?_
    obtain ⟨pr, h8, h9⟩ := id h7
    subst h3 h4 h8
    obtain rfl : w = _ := h6
    exact ⟨a, pl, pr, h1, h2, h5, h7⟩
  · exact fun v H H' e ⟨a, pl, pr, h1, h2, h3, h4⟩ => ⟨a, pl, pr, h1, e.t h2, e.t h3, h4.ext e⟩
  · exact ev_slE hf (eo_some ev_c) (eo_some ev_c) mono_PolW fun v H1 ⟨p, pl, pr, pa, pd, vp, h1, h2, h3, h4, h5, h6, h7⟩ => ⟨p, _, h1, h2, fun p' H2 e h => ⟨p', pa, pd, rfl, h, e.t h5, e.t h6⟩⟩
  · exact fun v w H1 Q _ ⟨a, pl, pr, h1, h2, h3, h4⟩ ⟨b, pa, pd, g1, g2, g3, g4⟩ q => ⟨a, b, _, _, h1, g1, h2, g2, by show 3 + 2 ≤ sizeLine; decide, nofun, (fun _ z => nomatch z), fun _ _ l hl => by
      have e := Ext.new (o := .tup [.ref pl, .int (c.age : Int), .ref pr, .ref pa, .ref pd]) hl
      exact q _ _ e ⟨l, pl, pr, pa, pd, rfl, SqT.of upd_same, e.t h3, h4.ext e, e.t g3, e.t g4⟩⟩
theorem ev_polw {i n : Nat} {c : Pol} {v : V} (hv : PolW K n c v H) (h : σ[i]? = some (some v)) : Ev (tVar i) σ H (PolW K n c) := ev_v h fun H' e => mono_PolW _ _ _ e hv
theorem polw_p {n : Nat} {c : Pol} (ha : Ev ta σ H (PolW K n c)) : Ev (tOp (rIxT K) ta (tC (.int 5))) σ H (RV K n c.p) :=
  ev_op ha mono_PolW ev_c fun v w H1 Q _ ⟨p, pl, pr, pa, pd, vp, h1, h2, h3, h4, h5, h6, h7⟩ hw q => ⟨p, _, 5, vp, h1, hw, h2, rfl, q _ _ (Ext.refl _) h7⟩
theorem ev_rt {n : Nat} {q : Rat} (ha : Ev te σ H (RV K n q)) : Ev te σ H (fun v H => ∃ p, v = .ref p ∧ SqT K H p [.int q.num, .int (q.den : Int)]) := ha.imp fun v H' _ ⟨p, h1, h2, _⟩ => ⟨p, h1, h2⟩
/-- (0 - x[0], x[1]) -/
theorem ev_neg2 {n : Nat} {q : Rat} (ha : Ev te σ H (RV K n q)) (hs : Sz n q) : Ev (tTup (tCons (tOp (rI0 fun i j => .int (i - j)) (tC (.int 0)) (tOp (rIxT K) te (tC (.int 0)))) (tCons (tOp (rIxT K) te (tC (.int 1))) tNil))) σ H (PV K n (-q)) :=
  ev_pair (ev_I0 ev_c (ev_top (ev_rt ha))) (ev_bot (ev_rt ha)) (Means.of hs).neg
/-! ### the premiums' sizes -/
def EvTP (tt : TT) (σ : L2.St) (H : Hp) (Pb : Bool → Prop) : Prop := ∀ H1, Ext H H1 → ∀ Q : Bool → Hp → Prop, (∀ b H2, Ext H1 H2 → Pb b → Q b H2) → tt σ H1 Q
theorem q_ifU {Pb : Bool → Prop} (h : EvTP t σ H Pb) (h1 : ∀ H1, Ext H H1 → tu { D with nx := tz D } σ H1) (h0 : Pb false → ∀ H1, Ext H H1 → tz D σ H1) : tSeq (tIfS t tu tNext) tz D σ H := h H (Ext.refl _) _ fun b H1 e pb => by
  cases b with
  | true => exact iteT (h1 H1 e)
  | false => exact iteF (h0 pb H1 e)
/-- [e for x in [a, b]] -/
theorem ev_lc2 {i1 i2 : Nat} {v1 v2 : V} {x1 x2 : Int} (h1 : σ[i1]? = some (some v1)) (h2 : σ[i2]? = some (some v2)) (hw : ∀ x, wipe ((wipe σ vs).set j (some x)) vs = wipe σ vs)
    (e1 : ∀ H2, Ext H H2 → Ev te ((wipe σ vs).set j (some v1)) H2 (is (.int x1))) (e2 : ∀ H2, Ext H H2 → Ev te ((wipe σ vs).set j (some v2)) H2 (is (.int x2))) :
    Ev (tLc (iList K (tLst (tCons (tVar i1) (tCons (tVar i2) tNil)))) (gName j) tYes te vs) σ H (NewL H fun xs _ => xs = [.int x1, .int x2]) := fun H1 g1 Q q => by
  refine ⟨v1, h1, v2, h2, by show 2 ≤ sizeLine; decide, fun a ha => ⟨a, rfl, ⟨_, SqL.of upd_same⟩, fun D hD => ?_⟩⟩
  have g2 := Ext.new (o := .lst [v1, v2]) ha
  refine lc_list (K := K) (a := a) (xs := [v1, v2]) (fun i H' => Ext (upd H1 a (.lst [v1, v2])) H' ∧ H' D = some (.lst ([V.int x1, V.int x2].take i))) ⟨Ext.new hD, upd_same⟩ (fun i H' _ hp => SqL.of (hp.1.lst upd_same)) (fun i x H' hx hp => ?_)
    (fun H' hp => q _ _ (g2.trans hp.1) ⟨D, _, rfl, (g1.trans g2).fresh hD, hp.2, rfl⟩)
  obtain ⟨p1, p2⟩ := hp
  show wipe ((wipe σ vs).set j (some x)) vs = wipe σ vs ∧ _
  refine ⟨hw _, ?_⟩
  simp only [tYes, ↓reduceIte]
  match i, hx with
  | 0, hx =>
    obtain rfl := Option.some.inj hx
    refine e1 H' ((g1.trans g2).trans p1) H' (Ext.refl _) _ fun y H4 e4 hy => ⟨_, e4.lst p2, by show 0 < sizeLine; decide, (p1.trans e4).mut hD, ?_⟩
    rw [upd_same, show y = _ from hy]; rfl
  | 1, hx =>
    obtain rfl := Option.some.inj hx
    refine e2 H' ((g1.trans g2).trans p1) H' (Ext.refl _) _ fun y H4 e4 hy => ⟨_, e4.lst p2, by show 1 < sizeLine; decide, (p1.trans e4).mut hD, ?_⟩
    rw [upd_same, show y = _ from hy]; rfl
/-- xs + ys, lists -/
theorem ev_catL {S1 S2 : List V → Hp → Prop} (ha : Ev ta σ H (NewL H S1)) (m1 : ∀ vs H H', Ext H H' → S1 vs H → S1 vs H') (hb : Ev tb σ H (NewL H S2)) (m2 : ∀ vs H H', Ext H H' → S2 vs H → S2 vs H') (hl : ∀ a b H, S1 a H → S2 b H → a.length + b.length ≤ 100000) :
    Ev (tOp rCat ta tb) σ H (NewL H fun xs H' => ∃ a b, xs = a ++ b ∧ S1 a H' ∧ S2 b H') :=
  ev_op ha (mono_NewL m1) hb fun v w H1 Q e ⟨l, xs, h1, _, h3, h4⟩ ⟨b, ys, g1, _, g3, g4⟩ q => ⟨l, b, xs, ys, h1, g1, h3, g3, Nat.le_trans (hl _ _ _ h4 g4) (by decide), fun p hp => q _ _ (Ext.new hp) ⟨p, _, rfl, e.fresh hp, upd_same, xs, ys, rfl, m1 _ _ _ (Ext.new hp) h4, m2 _ _ _ (Ext.new hp) g4⟩⟩
theorem ev_maxL {ns : List Int} (ha : Ev te σ H (NewL H fun xs _ => xs = ns.map V.int)) (hn : 0 < ns.length) : Ev (tCB (rMax K) (tCons te tNil)) σ H (fun v _ => ∃ m, v = .int m ∧ m ∈ ns ∧ ∀ y ∈ ns, y ≤ m) :=
  ev_cb (ea_1 ha (mono_NewL fun _ _ _ _ h => h)) fun vs H1 Q _ ⟨v, h1, l, xs, h2, _, h3, h4⟩ q => ⟨l, ns, by rw [h1, h2], by rw [h4] at h3; exact SqL.of h3, hn, fun m a b => q _ _ (Ext.refl _) ⟨m, rfl, a, b⟩⟩
theorem et_big {ns : List Int} (ha : Ev te σ H (fun v _ => ∃ m, v = .int m ∧ m ∈ ns ∧ ∀ y ∈ ns, y ≤ m)) : EvTP (tTest (tOp (rI0 fun i j => .bl (decide (i > j))) te (tC (.int 1000000)))) σ H (fun b => b = false → ∀ y ∈ ns, y ≤ 1000000) := fun H1 e Q q =>
  ha H1 e _ fun v H2 e2 ⟨m, h1, _, h3⟩ => ⟨m, 1000000, h1, rfl, _, rfl, q _ _ e2 fun hb y hy => by
    have := h3 y hy
    have := of_decide_eq_false hb
    omega⟩
theorem etm_eq {p : Int → Prop} {b : Int} (ha : EvM K te σ C r sc (IntP p)) : ∀ H1, Ext C (cut r H1) → RowOk K r sc H1 → ∀ Q : Bool → Hp → Prop, (∀ b H2, Ext (cut r H1) (cut r H2) → RowOk K r sc H2 → Q b H2) → tTest (tOp rEq te (tC (.int b))) σ H1 Q := fun H1 e ro Q k =>
  ha H1 e ro _ fun v H2 e2 ro2 ⟨i, h1, _⟩ => by
    subst h1
    exact ⟨rfl, _, rfl, k _ _ e2 ro2⟩
theorem ev_tupLE {S : List Int → Prop} (h : Ev te σ H (NewL H fun xs _ => ∃ zs : List Int, xs = zs.map V.int ∧ S zs)) : Ev (tCB (fun xs H Q => ∃ p ys, xs = [.ref p] ∧ ((SqL K H p ys ∧ ∀ l, H l = none → Q (.ref l) (upd H l (.tup ys))) ∨ (SqT K H p ys ∧ Q (.ref p) H))) (tCons te tNil)) σ H (fun v H' => ∃ zs, TV K zs v H' ∧ S zs) :=
  ev_cb (ea_1 h (mono_NewL fun _ _ _ _ h => h)) fun vs H1 Q _ ⟨v, h1, l, xs, h2, _, h3, zs, h4, h5⟩ q => ⟨l, xs, by rw [h1, h2], .inl ⟨SqL.of h3, fun p hp => q _ _ (Ext.new hp) ⟨zs, ⟨p, rfl, by rw [← h4]; exact SqT.of upd_same⟩, h5⟩⟩⟩
theorem ev_tupR {n m : Nat} {g : Nat → Rat} (h : Ev te σ H (fun v H' => ∃ l xs, v = .ref l ∧ H' l = some (.lst xs) ∧ RowR K n m g xs H')) : Ev (tCB (fun xs H Q => ∃ p ys, xs = [.ref p] ∧ ((SqL K H p ys ∧ ∀ l, H l = none → Q (.ref l) (upd H l (.tup ys))) ∨ (SqT K H p ys ∧ Q (.ref p) H))) (tCons te tNil)) σ H (RowT K n m g) :=
  ev_cb (ea_1 h (fun v H H' e ⟨l, xs, h1, h2, h3⟩ => ⟨l, xs, h1, e.lst h2, h3.ext e⟩)) fun vs H1 Q _ ⟨v, h1, l, xs, h2, h3, h4⟩ q => ⟨l, xs, by rw [h1, h2], .inl ⟨SqL.of h3, fun p hp => q _ _ (Ext.new hp) ⟨p, xs, rfl, SqT.of upd_same, h4.ext (Ext.new hp)⟩⟩⟩
theorem ev_min2 {p s : Int → Prop} (ha : Ev ta σ H (fun v _ => ∃ z, v = .int z ∧ p z)) {i : Int} (hg : ∀ j, p j → s (if j < i then j else i)) : Ev (tCB (fun xs H Q => ∃ i j, xs = [.int i, .int j] ∧ Q (.int (if j < i then j else i)) H) (tCons (tC (.int i)) (tCons ta tNil))) σ H (fun v _ => ∃ z, v = .int z ∧ s z) :=
  ev_cb (ea_2 (ev_c (v := .int i)) mono_is ha (fun _ _ _ _ h => h)) fun vs H1 Q _ ⟨v, w, h1, h2, j, h3, h4⟩ q => ⟨i, j, by rw [h1, show v = _ from h2, h3], q _ _ (Ext.refl _) ⟨_, rfl, hg j h4⟩⟩
/-- rows alike -/
theorem ev_alike {n1 n2 m : Nat} {g : Nat → Rat} (ha : Ev ta σ H (RowT K n1 m g)) (hb : Ev tb σ H (RowT K n2 m g)) (hm : m ≤ 40000) : Ev (tCall (spA (AT K (AT K A0))) [] E0 (tCons ta (tCons tb tNil))) σ H (is (.bl true)) :=
  ev_call (ea_2 ha mono_RowT hb mono_RowT) fun vs H1 Q _ ⟨v, w, h1, ⟨p, xs, h2, h3, h4⟩, r, ys, g2, g3, g4⟩ q => ⟨v, w, h1, ⟨p, r, xs, ys, h2, g2, h3, g3, by rw [h4.1, g4.1], by rw [h4.1]; exact hm, fun j u z hu hz => by
    obtain ⟨a, a1, a2, _⟩ := h4.2 j u hu
    obtain ⟨b, b1, b2, _⟩ := g4.2 j z hz
    refine ⟨a, b, _, _, a1, b1, a2, b2, rfl, (by show 2 ≤ 40000; decide), fun i x y hx hy => ?_⟩
    rw [hx] at hy
    obtain rfl := Option.some.inj hy
    match i, hx with
    | 0, hx => exact ⟨_, (Option.some.inj hx).symm, (Option.some.inj hx).symm⟩
    | 1, hx => exact ⟨_, (Option.some.inj hx).symm, (Option.some.inj hx).symm⟩⟩, q⟩
/-- lists of whole numbers against [] -/
def LI (ns : List Int) : VP := fun v H => ∃ l, v = .ref l ∧ H l = some (.lst (ns.map V.int))
theorem mono_LI {ns : List Int} : Mono (LI ns) := fun _ _ _ e ⟨l, h1, h2⟩ => ⟨l, h1, e.lst h2⟩
theorem ev_eqnil {ns : List Int} (ha : Ev ta σ H (LI ns)) (hb : Ev tb σ H (NewL H fun xs _ => xs = [])) : Ev (tOp (rEqD K) ta tb) σ H (is (.bl (decide (ns = [])))) :=
  ev_op ha mono_LI hb fun v w H1 Q _ ⟨l, h1, h3⟩ ⟨l2, ys, g1, _, g3, g4⟩ q => ⟨.list (ns.map PyData.int), .list [], by
    rw [h1]; exact .lst (SqL.of h3) (dp_ints ns), by rw [g1]; subst g4; exact .lst (SqL.of g3) .nil, shaped_ints ns, by decide +kernel, by rw [eqv_nil]; exact q _ _ (Ext.refl _) rfl⟩
theorem ev_nenil {ns : List Int} (ha : Ev ta σ H (LI ns)) (hb : Ev tb σ H (NewL H fun xs _ => xs = [])) : Ev (tOp (rNeD K) ta tb) σ H (is (.bl (!decide (ns = [])))) :=
  ev_op ha mono_LI hb fun v w H1 Q _ ⟨l, h1, h3⟩ ⟨l2, ys, g1, _, g3, g4⟩ q => ⟨.list (ns.map PyData.int), .list [], by
    rw [h1]; exact .lst (SqL.of h3) (dp_ints ns), by rw [g1]; subst g4; exact .lst (SqL.of g3) .nil, shaped_ints ns, by decide +kernel, by rw [eqv_nil]; exact q _ _ (Ext.refl _) rfl⟩
def pickI (lo m : Nat) (b : Nat → Bool) : List Int := ((List.range m).filter b).map fun k => (((lo + k : Nat)) : Int)
theorem newL_LI {lo m : Nat} {b : Nat → Bool} {v : V} {H' : Hp} (h : NewL H (fun xs _ => xs = picked lo m b) v H') : LI (pickI lo m b) v H' := by
  obtain ⟨l, xs, h1, _, h3, h4⟩ := h
  exact ⟨l, h1, by rw [h3, h4]; unfold picked pickI; rw [List.map_map]; rfl⟩
theorem pickI_none {lo m : Nat} {b : Nat → Bool} (h : ∀ k, k < m → b k = false) : pickI lo m b = [] := by
  unfold pickI
  rw [List.filter_eq_nil_iff.mpr fun k hk => by rw [h k (List.mem_range.mp hk)]; exact Bool.false_ne_true]; rfl
theorem pickI_some {lo m : Nat} {b : Nat → Bool} (h : pickI lo m b = []) : ∀ k, k < m → b k = false := by
  intro k hk
  have h2 := List.filter_eq_nil_iff.mp (List.map_eq_nil_iff.mp h) k (List.mem_range.mpr hk)
  cases e : b k with
  | false => rfl
  | true => exact absurd e h2
end
end K21
set_option maxHeartbeats 4000000
namespace K21
open PySem PySem.Spec PyProof.Rows L2
def N_law : List Str := ["_law_script", "_law_row", "_law_policy_here", "_law_rate_here", "_law_span_here", "_law_lives_here", "_law_first", "_law_second", "_law_time", "_law_some", "_law_due", "_law_net_here", "_law_old", "_law_new", "_law_gained", "_law_more", "_law_risk", "_law_lost", "_law_falls", "_law_rises", "_law_here", "_law_k", "_law_one"]
theorem sc_law : FnScope ["_law_script", "_law_row", "_law_policy_here", "_law_rate_here", "_law_span_here", "_law_lives_here", "_law_first", "_law_second", "_law_time", "_law_some", "_law_due", "_law_net_here", "_law_old", "_law_new", "_law_gained", "_law_more", "_law_risk", "_law_lost", "_law_falls", "_law_rises", "_law_here", "_law_k", "_law_one"] ["_law_script"] (defScope s_law) := ⟨rfl, rfl, rfl, by decide +kernel, rfl, by decide +kernel, by decide +kernel⟩
section
variable {P : Program} {w : World} {K : PySem.W.Frag} {mg : Str → Option Value} {base : Heap} {f : Addr} {fd : FuncData} {Pr Pp Pl : Addr}
structure LawAll (P : Program) (w : World) (K : PySem.W.Frag) (mg : Str → Option Value) (base : Heap) (Pr Pp Pl : Addr) : Prop extends LawM3 P w K mg base, Law3 P w K mg base where
  fair_premium : Callee P w K mg base "fair_premium" 6 ["policy"] (sp_fair_premium K Pr Pp Pl)
  reserves : Callee P w K mg base "reserves" 5 ["policy"] (sp_reserves K Pr Pp Pl)
  critical : Callee P w K mg base "critical" 5 ["policy", "lives", "rate"] (sp_critical K Pr Pp Pl)
  _law_from : Callee P w K mg base "_law_from" 4 ["_law_policy_here", "_law_time"] (sp_from K)
  _law_policy : Callee P w K mg base "_law_policy" 4 ["_law_row"] (spM K (fun us _ => us = []) (fun _ => DrawnV K))
  _law_alike : Callee P w K mg base "_law_alike" 3 ["_law_found", "_law_due"] (spA (AT K (AT K A0)))
theorem mono_DrawnV : Mono (DrawnV K) := fun v H H' e ⟨c, h, o⟩ => ⟨c, h.ext e, o⟩
theorem Ext.toCut {H H1 : Hp} {r : Addr} (e : Ext H H1) (h : H r = none) : Ext H (K21.cut r H1) :=
  ⟨fun b o hb n => by rw [cut_ne (ne_of_none hb h)]; exact e.keep b o hb n, fun b ps hb => by rw [cut_ne (ne_of_none hb h)]; exact e.tab b ps hb⟩
theorem Pol.Ok.livesP {c : Pol} (h : c.Ok) : LivesP c.L := ⟨h.len, h.sz, h.down, h.last, h.pos⟩
/-- both policies of the law, without premium -/
def Pol.laid (c : Pol) : Pol := { c with p := 0, yr := c.n }
def Pol.other (c : Pol) (Lb : List Int) (i2 : Rat) : Pol := { c with L := Lb, i := i2, p := 0, yr := c.n }
theorem Pol.Ok.laid {c : Pol} (h : c.Ok) : c.laid.Ok := ⟨h.len, h.age, h.sz, h.down, h.last, h.pos, h.rate, h.gr, h.al, h.de, by have := h.n_le; show c.n ≤ 40; omega⟩
theorem Pol.Ok.other {c : Pol} {Lb : List Int} {i2 : Rat} (h : c.Ok) (l : LivesP Lb) (e : Lb.length = c.L.length) (hr : i2.num.natAbs ≤ 1000 ∧ i2.den ≤ 1000) (hg : 0 < 1 + i2) : (c.other Lb i2).Ok :=
  ⟨l.len, by show c.age + 2 ≤ Lb.length; rw [e]; exact h.age, l.sz, l.down, l.last, l.pos, hr, hg, h.al, h.de, by have := h.n_le; show c.n ≤ 40; omega⟩
theorem PolV.toW {c : Pol} {v : V} {H : Hp} (h : PolV K c v H) : PolW K 20 c v H := h.ex
theorem PolW.toV {c : Pol} {v : V} {H : Hp} (h : PolW K 20 c v H) : PolV K c v H := ⟨h⟩
theorem PolW.small {n : Nat} {c : Pol} {v : V} {H : Hp} (h : PolW K n c v H) (hp : PremOk c.p) : PolV K c v H := by
  obtain ⟨p, pl, pr, pa, pd, vp, h1, h2, h3, h4, h5, h6, b, h7, h8, _⟩ := h
  exact ⟨p, pl, pr, pa, pd, vp, h1, h2, h3, h4, h5, h6, b, h7, h8, by have := hp.1; rw [p20]; omega, by have := hp.2; rw [p20]; omega⟩
theorem prem0 : PremOk 0 := ⟨by decide, by decide⟩
theorem cuts_TE {S : List Int → Prop} : Cuts K (fun v H => ∃ zs, TV K zs v H ∧ S zs) := fun v H r sc ro ⟨zs, h, s⟩ => ⟨zs, cuts_TV _ _ _ _ ro h, s⟩
def sp_law (K : PySem.W.Frag) (Pr Pp Pl : Addr) : Sp := fun vs H Q _ => ∃ (a : Addr) (ns : List Int), vs = [.ref a] ∧ SqL K H a (ns.map V.int) ∧ ns.length ≤ 100000 ∧ Tabs3 Pr Pp Pl H ∧ ∀ v H', is (.bl true) v H' → Q v H'
theorem ok_law (F : FnP K "law" s_law f fd) (T : Txt mg) (C : LawAll P w K mg base Pr Pp Pl) : FnOk P w K mg base CX0 7 f fd ["_law_script"] (sp_law K Pr Pp Pl) := by
  refine F.ok sc_law (fun vs H Q E h => ?_) (fun cdv A outer s H vs Q E hr h => ?_)
  · obtain ⟨a, ns, rfl, _⟩ := h; rfl
  · obtain ⟨a, ns, rfl, hsc, hz, hT, k⟩ := h
    refine ⟨_, PSs.nox (pss_cons (ps_set (i := 1) sc_law.nd rfl (Or.inr rfl) (pe_lst (pa_cons (pv 0) (pa_cons pe_int (pa_cons pe_int (pa_cons pe_int pa_nil))))))
      (pss_cons (ps_par (i := 2) (j := 3) (by rfl) sc_law.nd rfl rfl (by decide) rfl rfl (pa_cons (pc C._law_policy hr (by decide) (pa_cons (pv 1) pa_nil)) (pa_cons (pc C._law_rate hr (by decide) (pa_cons (pv 1) pa_nil)) pa_nil)) (by rfl))
      (pss_cons (ps_set (i := 4) sc_law.nd rfl (Or.inl rfl) (pc C._law_span hr (by decide) (pa_cons (pv 2) pa_nil)))
      (pss_cons (ps_set (i := 5) sc_law.nd rfl (Or.inr rfl) (pe_ix (r := rIxT K) ix_tup (pv 2) pe_int (fun _ _ => rfl)))
      (pss_cons (ps_if (pt_cmpR op_eq (pc C._law_taken hr (by decide) (pa_cons (pv 1) (pa_cons pe_int pa_nil))) pe_int (nomark _)) (pss_cons (ps_set (i := 5) sc_law.nd rfl (Or.inr rfl) (pe_callTy call_tuple_of (by rfl) T.tuple (by decide +kernel) (pa_cons (pe_lc (own := [("_law_one", 22)]) (g := gName 22) (by rfl) sc_law.nd (pi_tup (pe_ix (r := rIxT K) ix_tup (pv 2) pe_int (fun _ _ => rfl))) (blkOk_by (own := [("_law_one", 22)]) (N := N_law) (sc := defScope s_law) (by decide +kernel)) (fun _ _ _ _ _ => pg_name (i := 22) sc_law.nd rfl (Or.inl rfl)) (fun _ _ _ _ _ => pts_nil) (fun _ _ _ _ _ => (pe_op op_add (pv 22) (pe_op op_mul_ib (pc C._law_taken hr (by decide) (pa_cons (pv 1) (pa_cons pe_int pa_nil))) (pe_cmpR op_gt (pv 22) pe_int (nomark _)))))) pa_nil)))
      (pss_one (ps_set (i := 5) sc_law.nd rfl (Or.inr rfl) (pe_callTy call_tuple_of (by rfl) T.tuple (by decide +kernel) (pa_cons (pe_lc (own := [("_law_k", 21)]) (g := gName 21) (by rfl) sc_law.nd (pi_range1 (by rfl) T.range (pa_cons (pe_callB call_len_seq (by rfl) T.len PySem.boot_len (pa_cons (pv 5) pa_nil)) pa_nil)) (blkOk_by (own := [("_law_k", 21)]) (N := N_law) (sc := defScope s_law) (by decide +kernel)) (fun _ _ _ _ _ => pg_name (i := 21) sc_law.nd rfl (Or.inl rfl)) (fun _ _ _ _ _ => pts_nil) (fun _ _ _ _ _ => (pe_callB (call_min2 rfl) (by rfl) T.min (by decide +kernel) (pa_cons pe_int (pa_cons (pe_callB (r := rMaxT K) (cr_maxT rfl) (by rfl) T.max (by decide +kernel) (pa_cons (pe_slice (r := rSlA K) sl_tupA (pv 5) (po_some (pv 21)) po_none) pa_nil)) pa_nil))))) pa_nil))))) pss_nil)
      (pss_cons (ps_set (i := 6) sc_law.nd rfl (Or.inr rfl) (pe_op op_catA (pe_slice sl_tupA (pv 2) po_none (po_some pe_int)) (pe_tup (pa_cons (pe_tup (pa_cons pe_int (pa_cons pe_int pa_nil))) (pa_cons (pv 4) pa_nil)))))
      (pss_cons (ps_set (i := 6) sc_law.nd rfl (Or.inr rfl) (pe_op op_catA (pe_slice sl_tupA (pv 6) po_none (po_some pe_int)) (pe_tup (pa_cons (pc C.fair_premium hr (by decide) (pa_cons (pv 6) pa_nil)) (pa_cons (pv 4) pa_nil)))))
      (pss_cons (ps_set (i := 7) sc_law.nd rfl (Or.inl rfl) (pe_op op_catA (pe_op op_catA (pe_tup (pa_cons (pv 5) (pa_cons (pe_ix (r := rIxT K) ix_tup (pv 2) pe_int (fun _ _ => rfl)) (pa_cons (pv 3) pa_nil)))) (pe_slice sl_tupA (pv 6) (po_some pe_int) (po_some pe_int))) (pe_tup (pa_cons (pe_tup (pa_cons pe_int (pa_cons pe_int pa_nil))) (pa_cons (pv 4) pa_nil)))))
      (pss_cons (ps_set (i := 7) sc_law.nd rfl (Or.inl rfl) (pe_op op_catA (pe_slice sl_tupA (pv 7) po_none (po_some pe_int)) (pe_tup (pa_cons (pc C.fair_premium hr (by decide) (pa_cons (pv 7) pa_nil)) (pa_cons (pv 4) pa_nil)))))
      (pss_cons (ps_if (pt_cmpR op_gt (pe_callB (cr_max rfl) (by rfl) T.max (by decide +kernel) (pa_cons (pe_op op_cat (pe_lc (own := [("_law_one", 22)]) (g := gName 22) (by rfl) sc_law.nd (pi_list (pe_lst (pa_cons (pv 6) (pa_cons (pv 7) pa_nil)))) (blkOk_by (own := [("_law_one", 22)]) (N := N_law) (sc := defScope s_law) (by decide +kernel)) (fun _ _ _ _ _ => pg_name (i := 22) sc_law.nd rfl (Or.inl rfl)) (fun _ _ _ _ _ => pts_nil) (fun _ _ _ _ _ => (pe_callB call_abs (by rfl) T.abs (by decide +kernel) (pa_cons (pe_ix (r := rIxT K) ix_tup (pe_ix (r := rIxT K) ix_tup (pv 22) pe_int (fun _ _ => rfl)) pe_int (fun _ _ => rfl)) pa_nil)))) (pe_lc (own := [("_law_one", 22)]) (g := gName 22) (by rfl) sc_law.nd (pi_list (pe_lst (pa_cons (pv 6) (pa_cons (pv 7) pa_nil)))) (blkOk_by (own := [("_law_one", 22)]) (N := N_law) (sc := defScope s_law) (by decide +kernel)) (fun _ _ _ _ _ => pg_name (i := 22) sc_law.nd rfl (Or.inl rfl)) (fun _ _ _ _ _ => pts_nil) (fun _ _ _ _ _ => (pe_ix (r := rIxT K) ix_tup (pe_ix (r := rIxT K) ix_tup (pv 22) pe_int (fun _ _ => rfl)) pe_int (fun _ _ => rfl))))) pa_nil)) pe_int (nomark _)) (pss_one (ps_ret pe_bl)) pss_nil)
      (pss_cons (ps_asg (pe_tup (pa_cons (pe_op op_cat (pe_lc (own := [("_law_time", 8)]) (g := gName 8) (by rfl) sc_law.nd (pi_range1 (by rfl) T.range (pa_cons (pv 4) pa_nil)) (blkOk_by (own := [("_law_time", 8)]) (N := N_law) (sc := defScope s_law) (by decide +kernel)) (fun _ _ _ _ _ => pg_name (i := 8) sc_law.nd rfl (Or.inl rfl)) (fun _ _ _ _ _ => pts_nil) (fun _ _ _ _ _ => (pc C._law_from hr (by decide) (pa_cons (pv 6) (pa_cons (pv 8) pa_nil))))) (pe_lst (pa_cons (pe_tup (pa_cons pe_int (pa_cons pe_int pa_nil))) pa_nil))) (pa_cons (pe_lst pa_nil) pa_nil))) (pg_tup (by rfl) (pgs_cons (pg_name (i := 9) sc_law.nd rfl (Or.inr rfl)) (pgs_cons (pg_name (i := 10) sc_law.nd rfl (Or.inr rfl)) pgs_nil))))
      (pss_cons (ps_for PassesOwn.never rfl (pi_range1 (by rfl) T.range (pa_cons (pv 4) pa_nil)) (pg_name (i := 8) sc_law.nd rfl (Or.inl rfl))
      (pss_cons (ps_par3 (i := 11) (j := 12) (l := 13) (by rfl) sc_law.nd rfl rfl rfl (by decide) (by decide) (by decide) rfl rfl rfl (pa_cons (pc C._law_net hr (by decide) (pa_cons (pv 6) (pa_cons (pv 8) pa_nil))) (pa_cons (pe_ix (r := rIxT K) ix_tup (pe_ix (r := rIxT K) ix_tup (pv 2) pe_int (fun _ _ => rfl)) (pe_op op_add (pe_ix (r := rIxT K) ix_tup (pv 2) pe_int (fun _ _ => rfl)) (pv 8)) (fun _ _ => rfl)) (pa_cons (pe_ix (r := rIxT K) ix_tup (pv 5) (pe_op op_add (pe_ix (r := rIxT K) ix_tup (pv 2) pe_int (fun _ _ => rfl)) (pv 8)) (fun _ _ => rfl)) pa_nil))) (by rfl))
      (pss_cons (ps_set (i := 14) sc_law.nd rfl (Or.inl rfl) (pc C._law_plus hr (by decide) (pa_cons (pv 3) (pa_cons (pe_tup (pa_cons (pe_op op_sub pe_int (pe_ix (r := rIxT K) ix_tup (pe_ix (r := rIxT K) ix_tup (pv 2) pe_int (fun _ _ => rfl)) pe_int (fun _ _ => rfl))) (pa_cons (pe_ix (r := rIxT K) ix_tup (pe_ix (r := rIxT K) ix_tup (pv 2) pe_int (fun _ _ => rfl)) pe_int (fun _ _ => rfl)) pa_nil))) pa_nil))))
      (pss_cons (ps_set (i := 14) sc_law.nd rfl (Or.inl rfl) (pc C._law_by hr (by decide) (pa_cons (pc C._law_plus hr (by decide) (pa_cons (pe_ix (r := rIxL K) ix_list (pv 9) (pv 8) (fun _ _ => rfl)) (pa_cons (pe_tup (pa_cons (pe_op op_sub pe_int (pe_ix (r := rIxT K) ix_tup (pv 11) pe_int (fun _ _ => rfl))) (pa_cons (pe_ix (r := rIxT K) ix_tup (pv 11) pe_int (fun _ _ => rfl)) pa_nil))) pa_nil))) (pa_cons (pv 14) pa_nil))))
      (pss_cons (ps_set (i := 15) sc_law.nd rfl (Or.inl rfl) (pc C._law_plus hr (by decide) (pa_cons (pc C._law_ratio hr (by decide) (pa_cons (pe_op op_sub (pv 13) (pe_ix (r := rIxT K) ix_tup (pv 5) (pe_op op_add (pe_op op_add (pe_ix (r := rIxT K) ix_tup (pv 2) pe_int (fun _ _ => rfl)) (pv 8)) pe_int) (fun _ _ => rfl))) (pa_cons (pv 13) pa_nil))) (pa_cons (pc C._law_ratio hr (by decide) (pa_cons (pe_op op_sub (pe_ix (r := rIxT K) ix_tup (pe_ix (r := rIxT K) ix_tup (pv 2) pe_int (fun _ _ => rfl)) (pe_op op_add (pe_op op_add (pe_ix (r := rIxT K) ix_tup (pv 2) pe_int (fun _ _ => rfl)) (pv 8)) pe_int) (fun _ _ => rfl)) (pv 12)) (pa_cons (pv 12) pa_nil))) pa_nil))))
      (pss_cons (ps_set (i := 16) sc_law.nd rfl (Or.inl rfl) (pc C._law_plus hr (by decide) (pa_cons (pe_tup (pa_cons (pc C._law_entry hr (by decide) (pa_cons (pe_ix (r := rIxT K) ix_tup (pv 6) pe_int (fun _ _ => rfl)) (pa_cons (pv 8) pa_nil))) (pa_cons pe_int pa_nil))) (pa_cons (pe_tup (pa_cons (pe_op op_sub pe_int (pe_ix (r := rIxT K) ix_tup (pe_ix (r := rIxL K) ix_list (pv 9) (pe_op op_add (pv 8) pe_int) (fun _ _ => rfl)) pe_int (fun _ _ => rfl))) (pa_cons (pe_ix (r := rIxT K) ix_tup (pe_ix (r := rIxL K) ix_list (pv 9) (pe_op op_add (pv 8) pe_int) (fun _ _ => rfl)) pe_int (fun _ _ => rfl)) pa_nil))) pa_nil))))
      (pss_cons (ps_set (i := 17) sc_law.nd rfl (Or.inl rfl) (pc C._law_by hr (by decide) (pa_cons (pv 15) (pa_cons (pv 16) pa_nil))))
      (pss_one (ps_expr (pe_bm PySem.F.plainAttrs_list PySem.F.slot_list_append PySem.F.type_list_append mt_append (pv 10) (pa_cons (pc C._law_plus hr (by decide) (pa_cons (pv 14) (pa_cons (pe_tup (pa_cons (pe_op op_sub pe_int (pe_ix (r := rIxT K) ix_tup (pv 17) pe_int (fun _ _ => rfl))) (pa_cons (pe_ix (r := rIxT K) ix_tup (pv 17) pe_int (fun _ _ => rfl)) pa_nil))) pa_nil))) pa_nil)))))))))))
      (pss_cons (ps_if (pt_not (pt_val (pc C._law_alike hr (by decide) (pa_cons (pc C.critical hr (by decide) (pa_cons (pv 6) (pa_cons (pv 5) (pa_cons (pv 3) pa_nil)))) (pa_cons (pe_callTy call_tuple_of (by rfl) T.tuple (by decide +kernel) (pa_cons (pv 10) pa_nil)) pa_nil))))) (pss_one (ps_ret pe_bl)) pss_nil)
      (pss_cons (ps_setLc (i := 18) (own := [("_law_k", 21)]) (g := gName 21) (by rfl) sc_law.nd rfl rfl (sw_true rfl rfl rfl (by decide +kernel)) (pi_range2 (by rfl) T.range (pa_cons pe_int (pa_cons (pv 4) pa_nil))) (blkOk_by (own := [("_law_k", 21)]) (N := N_law) (sc := defScope s_law) (by decide +kernel)) (fun _ _ _ _ _ => pg_name (i := 21) sc_law.nd rfl (Or.inl rfl)) (fun _ _ _ _ _ => (pts_one (pt_val (pc C._law_below hr (by decide) (pa_cons (pe_ix (r := rIxL K) ix_list (pv 10) (pv 21) (fun _ _ => rfl)) (pa_cons (pe_ix (r := rIxL K) ix_list (pv 10) (pe_op op_sub (pv 21) pe_int) (fun _ _ => rfl)) pa_nil)))))) (fun _ _ _ _ _ => (pv 21)))
      (pss_cons (ps_setLc (i := 19) (own := [("_law_k", 21)]) (g := gName 21) (by rfl) sc_law.nd rfl rfl (sw_true rfl rfl rfl (by decide +kernel)) (pi_range2 (by rfl) T.range (pa_cons pe_int (pa_cons (pv 4) pa_nil))) (blkOk_by (own := [("_law_k", 21)]) (N := N_law) (sc := defScope s_law) (by decide +kernel)) (fun _ _ _ _ _ => pg_name (i := 21) sc_law.nd rfl (Or.inl rfl)) (fun _ _ _ _ _ => (pts_one (pt_val (pc C._law_below hr (by decide) (pa_cons (pe_ix (r := rIxL K) ix_list (pv 10) (pe_op op_sub (pv 21) pe_int) (fun _ _ => rfl)) (pa_cons (pe_ix (r := rIxL K) ix_list (pv 10) (pv 21) (fun _ _ => rfl)) pa_nil)))))) (fun _ _ _ _ _ => (pv 21)))
      (pss_cons (ps_set (i := 20) sc_law.nd rfl (Or.inr rfl) (pc C.reserves hr (by decide) (pa_cons (pv 7) pa_nil)))
      (pss_cons (ps_if (PW.pt (pw_and (pt_cmpR (op_eqD hr.units) (pv 18) (pe_lst pa_nil) (nomark _)) (pw_and1 (pt_cmpR (op_neD hr.units) (pe_lc (own := [("_law_k", 21)]) (g := gName 21) (by rfl) sc_law.nd (pi_range1 (by rfl) T.range (pa_cons (pv 4) pa_nil)) (blkOk_by (own := [("_law_k", 21)]) (N := N_law) (sc := defScope s_law) (by decide +kernel)) (fun _ _ _ _ _ => pg_name (i := 21) sc_law.nd rfl (Or.inl rfl)) (fun _ _ _ _ _ => (pts_one (pt_val (pc C._law_below hr (by decide) (pa_cons (pe_ix (r := rIxL K) ix_list (pv 9) (pv 21) (fun _ _ => rfl)) (pa_cons (pe_ix (r := rIxT K) ix_tup (pv 20) (pv 21) (fun _ _ => rfl)) pa_nil)))))) (fun _ _ _ _ _ => (pv 21))) (pe_lst pa_nil) (nomark _))))) (pss_one (ps_ret pe_bl)) pss_nil)
      (pss_one (ps_ret (pe_or (pe_cmpR (op_neD hr.units) (pv 19) (pe_lst pa_nil) (nomark _)) (pe_one (pe_cmpR (op_eqD hr.units) (pe_lc (own := [("_law_k", 21)]) (g := gName 21) (by rfl) sc_law.nd (pi_range1 (by rfl) T.range (pa_cons (pv 4) pa_nil)) (blkOk_by (own := [("_law_k", 21)]) (N := N_law) (sc := defScope s_law) (by decide +kernel)) (fun _ _ _ _ _ => pg_name (i := 21) sc_law.nd rfl (Or.inl rfl)) (fun _ _ _ _ _ => (pts_one (pt_val (pc C._law_below hr (by decide) (pa_cons (pe_ix (r := rIxT K) ix_tup (pv 20) (pv 21) (fun _ _ => rfl)) (pa_cons (pe_ix (r := rIxL K) ix_list (pv 9) (pv 21) (fun _ _ => rfl)) pa_nil)))))) (fun _ _ _ _ _ => (pv 21))) (pe_lst pa_nil) (nomark _))))))))))))))))))))))), ?_⟩
    have a1 : EvA (tCons (tVar 0) (tCons (tC (.int 0)) (tCons (tC (.int 3421)) (tCons (tC (.int 0)) tNil)))) (start N_law [.ref a]) H (fun vs _ => vs = [.ref a, .int 0, .int 3421, .int 0]) :=
      (ea_cons (ev_i rfl) mono_is (ea_cons ev_c mono_is (ea_cons ev_c mono_is (ea_cons ev_c mono_is ea_nil)))).imp fun vs H' _ ⟨v1, r1, e1, h1, v2, r2, e2, h2, v3, r3, e3, h3, v4, r4, e4, h4, e5⟩ => by
        rw [e1, e2, e3, e4, e5, show v1 = _ from h1, show v2 = _ from h2, show v3 = _ from h3, show v4 = _ from h4]
    refine q_asg (el_lst a1 (fun vs H H' e h => h) (fun vs H h => by rw [h]; exact (by decide : 4 ≤ 100000))) fun v H1 e1 ⟨r, vs, h1, hr0, hr1, h2⟩ => ?_
    subst h1 h2
    have c1 : Ext H (cut r H1) := Ext.toCut e1 hr0
    have ro1 : RowOk K r a H1 := ⟨ns, 0, 3421, 0, hr1, c1.l hsc, by decide, by decide, by decide, hz⟩
    refine qm_par (P := DrawnV K) (R := RateV K) ro1 ((em_call rfl eam_nil).imp fun v H' _ ⟨us, h⟩ => h) mono_DrawnV (em_rateC rfl) mono_RateV fun pv rv H2 e2 ro2 ⟨c0, hc0, ok0⟩ ⟨q2, hq2, z1, z2, z3⟩ => ?_
    refine qm_asg ro2 (em_ev (ev_span_of (ev_pol hc0 rfl) ok0) cuts_is) fun sv H3 e3 ro3 hs => ?_
    obtain rfl : sv = _ := hs
    have hc3 := hc0.ext e3
    refine qm_asg ro3 (em_ev (pol_L (ev_pol hc3 rfl)) cuts_TV) fun lv H4 e4 ro4 hlv => ?_
    have hc4 := hc3.ext e4
    have lp0 := ok0.livesP
    have n7 := ok0.n_le
    have l8 := ok0.len
    let J : L2.St → Hp → Prop := fun σ' H' => ∃ (Lb : List Int) (vl : V), σ' = [some (.ref a), some (.ref r), some pv, some rv, some (.int (c0.n : Int)), some vl, none, none, none, none, none, none, none, none, none, none, none, none, none, none, none, none, none] ∧ Ext (cut r H4) (cut r H') ∧ RowOk K r a H' ∧ TV K Lb vl (cut r H') ∧ LivesP Lb ∧ Lb.length = c0.L.length
    refine qm_ifJ J ro4 (etm_eq (em_taken (m := 2) rfl ev_c (by decide) (by decide))) (fun X hX H5 e5 ro5 => ?_) (fun H5 e5 ro5 => ⟨c0.L, lv, rfl, e5, ro5, mono_TV _ _ _ e5 hlv, lp0, rfl⟩) ?_
    · refine qm_asg ro5 (em_tupM (S := fun ms => ms.length = c0.L.length ∧ ∀ k, k < c0.L.length → More (entI c0.L k) (entI ms k)) (em_mapT (R := More) (pol_L (ev_pol (hc4.ext e5) rfl)) (by omega) (fun _ => rfl) fun z => em_I0 (p := (· = z)) (q := fun y => ∃ t : Int, 0 ≤ t ∧ t < 3 ∧ y = if 0 < z then t else 0) (em_i (ev_i rfl) rfl)
        (em_mulb (em_taken rfl ev_c (by decide) (by decide)) (ev_i rfl) ev_c (fun i hi => ⟨i, hi.1, hi.2, ?_⟩)) (fun i j hi ⟨t, t1, t2, t3⟩ => ⟨t, t1, t2, by rw [hi, t3]⟩))) fun v H6 e6 ro6 ⟨ms, hms, m1, m2⟩ => ?_
      · by_cases hz0 : 0 < z
        · rw [if_pos hz0, if_pos (decide_eq_true hz0)]
        · rw [if_neg hz0, if_neg (by rw [decide_eq_false hz0]; exact Bool.false_ne_true)]
      refine sm_asg ro6 (em_ev (ev_tupLE (S := fun zs => zs.length = ms.length ∧ ∀ k, k < ms.length → ∃ m, m ∈ ms.drop k ∧ (∀ y ∈ ms.drop k, y ≤ m) ∧ entI zs k = if m < 1000000 then m else 1000000)
        (ev_mapI (m := ms.length) (p := fun k z => ∃ m, m ∈ ms.drop k ∧ (∀ y ∈ ms.drop k, y ≤ m) ∧ z = if m < 1000000 then m else 1000000) ((ea_1 (ev_lenT (ev_tv hms rfl)) mono_is).imp fun vs H' _ ⟨v, h1, h2⟩ => by rw [h1, show v = _ from h2]) (by omega) (fun _ => rfl)
          fun i G hi x => ev_min2 (p := fun m => m ∈ ms.drop i ∧ ∀ y ∈ ms.drop i, y ≤ m) (ev_maxS rfl (mono_TV _ _ _ x hms) hi (ev_i rfl)) (fun j hj => ⟨j, hj.1, hj.2, rfl⟩))) cuts_TE) fun v H7 e7 ro7 ⟨zs, hzs, w1, w2⟩ => ?_
      exact hX _ _ ⟨zs, v, rfl, (e5.trans e6).trans e7, ro7, hzs, second_lives lp0 m1 m2 w1 w2, by rw [w1, m1]⟩
    rintro σ5 G ⟨Lb, vl, rfl, e5, ro5, hvl, lpb, hlen⟩
    have eG : Ext (cut r H4) G := e5.trans (Ext.cut r)
    have hc := hc4.ext eG
    have hq := hq2.ext ((e3.trans e4).trans eG)
    have hl := mono_TV _ _ _ (Ext.cut r) hvl
    have hT0 := hT.ext (c1.trans (e2.trans (e3.trans (e4.trans eG))))
    clear hvl ro5 e5 hc4 hc3 hc0 hq2 hlv ro4 ro3 ro2 ro1 lp0
    have ok1 := ok0.laid
    have okF := ok1.fairly
    have okd := ok0.other (i2 := q2) lpb hlen ⟨z1, z2⟩ z3
    have okS := okd.fairly
    have nd : (c0.other Lb q2).n = c0.n := by show Lb.length - 1 - c0.age = _; rw [hlen]; rfl
    have s0 : Sz 20 (0 : Rat) := by constructor <;> decide
    refine q_asg (P := PolW K 20 c0.laid) (ev_join (yr := c0.n) (ev_L5 (ev_polw hc.toW rfl)) (ev_R2 (ev_lit ev_c ev_c rfl rfl s0) (ev_i rfl))) fun f1 G1 g1 hf1 => ?_
    refine q_asg (P := PolW K 2000 c0.laid.fairly) (ev_join (c := c0.laid) (yr := c0.n) (ev_L5 (ev_polw hf1 rfl)) (ev_R2 ((ev_fairp (ev_pol hf1.toV rfl) ok1 (Nat.le_refl _) prem0 (hT0.ext g1)).imp fun v H' _ h => h.le (by show Bd c0.n + Bd c0.n ≤ 2000; unfold Bd; omega)) (ev_i rfl))) fun f2 G2 g2 hf2 => ?_
    have g12 := g1.trans g2
    refine q_asg (P := PolW K 20 (c0.other Lb q2)) (ev_join (c := { c0.laid.fairly with L := Lb, i := q2 }) (yr := c0.n) (ev_second (ev_tv (mono_TV _ _ _ g12 hl) rfl) (ev_to (pol_age (c := c0) (ev_pol (hc.ext g12) rfl)) rfl) (ev_r (hq.ext g12) rfl) (ev_polw hf2 rfl)) (ev_R2 (ev_lit ev_c ev_c rfl rfl s0) (ev_i rfl))) fun s1 G3 g3 hs1 => ?_
    have g13 := g12.trans g3
    refine q_asg (P := PolW K 2000 (c0.other Lb q2).fairly) (ev_join (c := c0.other Lb q2) (yr := c0.n) (ev_L5 (ev_polw hs1 rfl)) (ev_R2 ((ev_fairp (ev_pol hs1.toV rfl) okd (by rw [nd]; exact Nat.le_refl _) prem0 (hT0.ext g13)).imp fun v H' _ h => h.le (by rw [nd]; unfold Bd; omega)) (ev_i rfl))) fun s2 G4 g4 hs2 => ?_
    have g14 := g13.trans g4
    have hf4 := mono_PolW _ _ _ (g3.trans g4) hf2
    clear hf2 hs1 hf1
    -- the premiums' sizes
    have ab : ∀ q : Rat, (if q.num < 0 then -q.num else q.num) ≤ 1000000 → q.num.natAbs ≤ 1000000 := fun q h => by split at h <;> omega
    refine q_ifU (et_big (ev_maxL (ns := [(if c0.laid.fairly.p.num < 0 then -c0.laid.fairly.p.num else c0.laid.fairly.p.num), (if (c0.other Lb q2).fairly.p.num < 0 then -(c0.other Lb q2).fairly.p.num else (c0.other Lb q2).fairly.p.num), (c0.laid.fairly.p.den : Int), ((c0.other Lb q2).fairly.p.den : Int)])
      ((ev_catL (ev_lc2 rfl rfl (fun _ => rfl) (fun H2 x => ev_abs (ev_top (ev_rt (polw_p (ev_polw (mono_PolW _ _ _ x hf4) rfl))))) (fun H2 x => ev_abs (ev_top (ev_rt (polw_p (ev_polw (mono_PolW _ _ _ x hs2) rfl)))))) (fun _ _ _ _ h => h)
        (ev_lc2 rfl rfl (fun _ => rfl) (fun H2 x => ev_bot (ev_rt (polw_p (ev_polw (mono_PolW _ _ _ x hf4) rfl)))) (fun H2 x => ev_bot (ev_rt (polw_p (ev_polw (mono_PolW _ _ _ x hs2) rfl))))) (fun _ _ _ _ h => h) (fun x y _ h1 h2 => by rw [h1, h2]; exact (by decide : 2 + 2 ≤ 100000))).imp
        fun v H' _ ⟨l, xs, h1, h2, h3, x, y, h4, h5, h6⟩ => ⟨l, xs, h1, h2, h3, by rw [h4, h5, h6]; rfl⟩) (by show 0 < 4; decide))) (fun H1 e => s_ret ev_c fun v H' _ hv => k v H' hv) (fun hb G5 g5 => ?_)
    have hb' := hb rfl
    have P1 : PremOk c0.laid.fairly.p := ⟨ab _ (hb' _ (by simp)), by have := hb' (c0.laid.fairly.p.den : Int) (by simp); omega⟩
    have P2 : PremOk (c0.other Lb q2).fairly.p := ⟨ab _ (hb' _ (by simp)), by have := hb' ((c0.other Lb q2).fairly.p.den : Int) (by simp); omega⟩
    have g15 := g14.trans g5
    have hF := PolW.small (mono_PolW _ _ _ g5 hf4) P1
    have hS := PolW.small (mono_PolW _ _ _ g5 hs2) P2
    have hP := hc.ext g15
    have hR := hq.ext g15
    have hL := mono_TV _ _ _ g15 hl
    have hT5 := hT0.ext g15
    clear hb' hb hf4 hs2 hc hq hl hT0 g15 g14 g13 g12 ab
    have zero := Pol.Ok.fair_zero ok1 (Nat.le_refl _)
    have zero' := Pol.Ok.fair_zero okd (by rw [nd]; exact Nat.le_refl _)
    have math := law_math okF okS nd rfl rfl rfl (Nat.le_refl _) (by show (c0.other Lb q2).n ≤ c0.n; rw [nd]; exact Nat.le_refl _) zero zero'
    have nF : c0.laid.fairly.n = c0.n := rfl
    have rend : c0.laid.fairly.res c0.n = 0 := res_end _ _ _ _ _
    have okC : (c0.laid.fairly.second Lb q2).Ok := ⟨okS.len, okS.age, okS.sz, okS.down, okS.last, okS.pos, okS.rate, okS.gr, okS.al, okS.de, okF.yr⟩
    have cr : ∀ t, c0.laid.fairly.crit (c0.other Lb q2).fairly.L (c0.other Lb q2).fairly.i t = c0.laid.fairly.crit Lb q2 t := fun _ => rfl
    -- the reserves
    have s0' : Sz 2500 (0 : Rat) := s0.mono (by decide)
    refine q_unp2 (K := K) (P := fun v H' => ∃ ls rs, v = .ref ls ∧ H' ls = some (.lst rs) ∧ RowR K 2500 (c0.n + 1) c0.laid.fairly.res rs H') (R := NewL G5 (fun xs _ => xs = []))
      ((ev_catL (S1 := fun xs H' => RowR K 2500 c0.n c0.laid.fairly.res xs H') (S2 := fun xs H' => ∃ v, xs = [v] ∧ RV K 2500 0 v H') (ev_mapR (m := c0.n) ((ea_1 (ev_i rfl) mono_is).imp fun vs H' _ ⟨v, h1, h2⟩ => by rw [h1, show v = _ from h2]) (by omega) (fun _ => rfl)
        fun i H2 hi x => ev_from (ev_pol (hF.ext x) rfl) (ev_i rfl) okF (Nat.le_of_lt hi)) (fun vs H H' e h => h.ext e)
        (el_lst (ea_1 (ev_lit ev_c ev_c rfl rfl s0') mono_RV) (fun vs H H' e ⟨v, h1, h2⟩ => ⟨v, h1, h2.ext e⟩) (fun vs H ⟨v, h, _⟩ => by rw [h]; exact (by decide : 1 ≤ 100000))) (fun vs H H' e ⟨v, h1, h2⟩ => ⟨v, h1, h2.ext e⟩) (fun x y _ h1 ⟨v, h2, _⟩ => by rw [h1.1, h2]; show c0.n + 1 ≤ _; omega)).imp
        fun v H' _ ⟨l, xs, h1, h2, h3, x, y, h4, h5, u, h6, h7⟩ => ⟨l, xs, h1, h3, by rw [h4, h6]; exact h5.snoc (by rw [rend]; exact h7)⟩)
      (fun v H H' e ⟨l, xs, h1, h2, h3⟩ => ⟨l, xs, h1, e.lst h2, h3.ext e⟩) ev_nilL (mono_NewL fun _ _ _ _ h => h) fun sv dv G6 g6 ⟨ls, rs, h1, hls, hrs⟩ ⟨l, xs0, h2, hlf, hl0, h3⟩ => ?_
    subst h1 h2 h3
    have hne : ls ≠ l := ne_of hls hl0 (by intro z; injection z with z; have := hrs.1; rw [z] at this; simp at this)
    refine q_forR1 (n := c0.n) ((ea_1 (ev_i rfl) mono_is).imp fun vs H' _ ⟨v, h1, h2⟩ => by rw [h1, show v = _ from h2]) (by omega)
      (fun i σ' H' => ∃ (xs : List V) (u8 u11 u12 u13 u14 u15 u16 u17 : Option V), σ' = [some (.ref a), some (.ref r), some pv, some rv, some (.int (c0.n : Int)), some vl, some f2, some s2, u8, some (.ref ls), some (.ref l), u11, u12, u13, u14, u15, u16, u17, none, none, none, none, none] ∧
        Ext G5 H' ∧ H' l = some (.lst xs) ∧ H' ls = some (.lst rs) ∧ RowR K 5400 i (c0.laid.fairly.crit Lb q2) xs H' ∧ RowR K 2500 (c0.n + 1) c0.laid.fairly.res rs H')
      (fun H7 e7 => ⟨[], none, none, none, none, none, none, none, none, rfl, g6.trans e7, e7.lst hl0, e7.lst hls, ⟨rfl, fun j u hj => by cases hj⟩, hrs.ext e7⟩) ?_ ?_
    · rintro i σ' H' hi ⟨xs, u8, u11, u12, u13, u14, u15, u16, u17, rfl, eH, hll, hls', hrow, hrs'⟩
      have it : ∀ {t : Nat}, t ≤ c0.n → ∃ u, rs[t]? = some u := fun {t} ht => ⟨rs[t]'(by have := hrs.1; omega), List.getElem?_eq_getElem _⟩
      obtain ⟨r0, hr0'⟩ := it (Nat.le_of_lt hi)
      obtain ⟨r1, hr1'⟩ := it (show i + 1 ≤ c0.n from hi)
      have R0 := hrs'.2 i r0 hr0'
      have R1 := hrs'.2 (i + 1) r1 hr1'
      have Z1 : Sz 2500 (c0.laid.fairly.res (i + 1)) := by obtain ⟨_, _, _, z⟩ := R1; exact z
      have ZI : Sz 10 c0.i := by obtain ⟨_, _, _, _, _, _, _, _, _, ⟨_, _, _, z⟩, _⟩ := hP; exact z
      have sm : ∀ {σ : L2.St} {H4 : Hp} {tb : TE} {t : Nat} {u : V}, Ext H' H4 → σ[9]? = some (some (.ref ls)) → Ev tb σ H4 (is (.int (t : Int))) → rs[t]? = some u → RV K 2500 (c0.laid.fairly.res t) u H' → Ev (tOp (rIxL K) (tVar 9) tb) σ H4 (RV K 2500 (c0.laid.fairly.res t)) := fun {σ H4 tb t u} e5 hσ hb hu hR =>
        (ev_ixL (K := K) (xs := rs) (x := u) (i := (t : Int)) (ev_v hσ fun H5 e6 => ⟨ls, rfl, SqL.of ((e5.trans e6).lst hls')⟩) hb (atI_nat hu)).imp fun v H5 e6 hv => by rw [show v = u from hv]; exact hR.ext (e5.trans e6)
      have hn1 : c0.age + i + 1 < c0.L.length := by unfold Pol.n at hi; omega
      have bo : 0 < entI c0.L (c0.age + i) ∧ entI c0.L (c0.age + i) ≤ 1000000 := ⟨ok0.lpos hi, (ok0.lsz _).2⟩
      have bn : 0 < entI Lb (c0.age + i) ∧ entI Lb (c0.age + i) ≤ 1000000 := ⟨okd.lpos (t := i) (by rw [nd]; exact hi), (okd.lsz _).2⟩
      have lv0 : ∀ {σ : L2.St} {H4 : Hp} {tb : TE} {t : Nat}, Ext H' H4 → σ[5]? = some (some vl) → Ev tb σ H4 (is (.int (t : Int))) → t < Lb.length → Ev (tOp (rIxT K) (tVar 5) tb) σ H4 (is (.int (entI Lb t))) := fun e h hb ht => ev_atT (ev_tv (mono_TV _ _ _ (eH.trans e) hL) h) hb ht
      have po0 : ∀ {σ : L2.St} {H4 : Hp} {tb : TE} {t : Nat}, Ext H' H4 → σ[2]? = some (some pv) → Ev tb σ H4 (is (.int (t : Int))) → t < c0.L.length → Ev (tOp (rIxT K) (tOp (rIxT K) (tVar 2) (tC (.int 0))) tb) σ H4 (is (.int (entI c0.L t))) := fun e h hb ht => ev_atT (pol_L (ev_pol (hP.ext (eH.trans e)) h)) hb ht
      have ag : ∀ {σ : L2.St} {H4 : Hp}, Ext H' H4 → σ[2]? = some (some pv) → σ[8]? = some (some (.int (i : Int))) → Ev (tOp (rI0 fun i j => .int (i + j)) (tOp (rIxT K) (tVar 2) (tC (.int 1))) (tVar 8)) σ H4 (is (.int ((c0.age + i : Nat) : Int))) := fun e h h8 => ev_to (ev_I0 (pol_age (ev_pol (hP.ext (eH.trans e)) h)) (ev_i h8)) rfl
      have ag1 : ∀ {σ : L2.St} {H4 : Hp}, Ext H' H4 → σ[2]? = some (some pv) → σ[8]? = some (some (.int (i : Int))) → Ev (tOp (rI0 fun i j => .int (i + j)) (tOp (rI0 fun i j => .int (i + j)) (tOp (rIxT K) (tVar 2) (tC (.int 1))) (tVar 8)) (tC (.int 1))) σ H4 (is (.int ((c0.age + i + 1 : Nat) : Int))) := fun e h h8 => ev_to (ev_I0 (ag e h h8) ev_c) rfl
      refine q_par3 (ev_net_alive (ev_pol (hF.ext eH) rfl) (ev_i rfl) okF) mono_RV (po0 (Ext.refl _) rfl (ag (Ext.refl _) rfl rfl) (by omega)) mono_is (lv0 (Ext.refl _) rfl (ag (Ext.refl _) rfl rfl) (by rw [hlen]; omega)) mono_is fun nv ov wv H7 e7 hnv hov hwv => ?_
      obtain rfl : ov = _ := hov
      obtain rfl : wv = _ := hwv
      have ZN : Sz 41 (c0.laid.fairly.net i) := by obtain ⟨_, _, _, z⟩ := hnv; exact z
      refine q_asg (ev_plus (ev_r (hR.ext (eH.trans e7)) rfl).pv (ev_neg2 (pol_rate (ev_pol (hP.ext (eH.trans e7)) rfl)) ZI) (by decide)) fun ga H8 e8 hga => ?_
      have e78 := e7.trans e8
      refine q_asg (ev_by (ev_plus (sm e78 rfl (ev_i rfl) hr0' R0).pv (ev_neg2 (ev_r (hnv.ext e8) rfl) ZN) (by decide)).pv (ev_r hga rfl).pv (by decide)) fun gb H9 e9 hgb => ?_
      have e79 := e78.trans e9
      refine q_asg (ev_plus (ev_ratio (ev_I0 (ev_i rfl) (lv0 e79 rfl (ag1 e79 rfl rfl) (by rw [hlen]; omega))) (ev_i rfl) (ld_means (okd.lsz _) (okd.lsz _) bn) (by decide)).pv (ev_ratio (ev_I0 (po0 e79 rfl (ag1 e79 rfl rfl) hn1) (ev_i rfl)) (ev_i rfl) (ld_means (ok0.lsz _) (ok0.lsz _) bo) (by decide)).pv (by decide)) fun mo H10 e10 hmo => ?_
      have e710 := e79.trans e10
      refine q_asg (ev_plus (ev_entp (t := i) (pol_de (ev_pol (hF.ext (eH.trans e710)) rfl)) (ev_i rfl) okF.de) (ev_neg2 (sm e710 rfl (ev_to (ev_I0 (ev_i rfl) ev_c) (y := .int ((i + 1 : Nat) : Int)) rfl) hr1' R1) Z1) (by decide)) fun ri H11 e11 hri => ?_
      have e711 := e710.trans e11
      refine q_asg (ev_by (ev_r (hmo.ext e11) rfl).pv (ev_r hri rfl).pv (by decide)) fun lo H12 e12 hlo => ?_
      have e712 := e711.trans e12
      have ZL := (show RV K _ _ _ _ from hlo)
      obtain ⟨_, _, _, ZLo⟩ := ZL
      have hxl : xs.length = i := hrow.1
      refine s_app (l := l) (xs := xs) (ev_i rfl) (ev_plus (ev_r (hgb.ext ((e10.trans e11).trans e12)) rfl).pv (ev_neg2 (ev_r hlo rfl) ZLo) (by decide)) (fun H13 e13 => (e712.trans e13).lst hll) (by omega) fun b H13 e13 hb => ?_
      have e713 := e712.trans e13
      have h13 : H13 l = some (.lst xs) := e713.lst hll
      refine ⟨xs ++ [b], _, _, _, _, _, _, _, _, rfl, (eH.trans e713).mut hlf, upd_same, by rw [upd_ne hne]; exact e713.lst hls', ?_, RowR.upd h13 (hrs'.ext e713)⟩
      refine RowR.upd h13 ((hrow.ext e713).snoc ?_)
      have ev : c0.laid.fairly.crit Lb q2 i = (c0.laid.fairly.res i + -(c0.laid.fairly.net i)) * (q2 + -c0.i) + -(((((entI Lb (c0.age + i) : Int) : Rat) - ((entI Lb (c0.age + i + 1) : Int) : Rat)) / ((entI Lb (c0.age + i) : Int) : Rat) + (((entI c0.L (c0.age + i + 1) : Int) : Rat) - ((entI c0.L (c0.age + i) : Int) : Rat)) / ((entI c0.L (c0.age + i) : Int) : Rat)) * (ent c0.de i + -(c0.laid.fairly.res (i + 1)))) := by
        show (c0.laid.fairly.res i - c0.laid.fairly.net i) * (q2 - c0.i) - ((((entI Lb (c0.age + i) : Int) : Rat) - ((entI Lb (c0.age + (i + 1)) : Int) : Rat)) / ((entI Lb (c0.age + i) : Int) : Rat) - (((entI c0.L (c0.age + i) : Int) : Rat) - ((entI c0.L (c0.age + (i + 1)) : Int) : Rat)) / ((entI c0.L (c0.age + i) : Int) : Rat)) * (ent c0.de i - c0.laid.fairly.res (i + 1)) = _
        rw [show c0.age + (i + 1) = c0.age + i + 1 by omega, Rat.div_def, Rat.div_def, Rat.div_def]
        grind
      rw [ev]
      exact hb.le (by decide)
    · rintro σ' H' ⟨xs, u8, u11, u12, u13, u14, u15, u16, u17, rfl, eH, hll, hls', hrow, hrs'⟩
      have hF' := hF.ext eH
      have hT' := hT5.ext eH
      refine q_guard (et_is (et_not (a := true) (et_B (ev_alike (n1 := 3000) (n2 := 5400) (m := c0.n) (g := c0.laid.fairly.crit Lb q2) (ev_critical (c := c0.laid.fairly) (ev_pol hF' rfl) (ev_tv (mono_TV _ _ _ eH hL) rfl) (ev_r (hR.ext eH) rfl) okF okC hlen P1 hT') (ev_tupR (ev_v rfl fun H7 e7 => ⟨l, xs, rfl, e7.lst hll, hrow.ext e7⟩)) (by omega)))) rfl) fun H7 e7 => ?_
      have dm : ∀ {σ : L2.St} {H4 : Hp} {tb : TE} {t : Nat}, Ext H' H4 → σ[10]? = some (some (.ref l)) → t < c0.n → Ev tb σ H4 (is (.int (t : Int))) → Ev (tOp (rIxL K) (tVar 10) tb) σ H4 (RV K 5400 (c0.laid.fairly.crit Lb q2 t)) := fun {σ H4 tb t} e5 hσ ht hb => by
        obtain ⟨u, hu⟩ : ∃ u, xs[t]? = some u := ⟨xs[t]'(by have := hrow.1; omega), List.getElem?_eq_getElem _⟩
        exact (ev_ixL (K := K) (xs := xs) (x := u) (i := (t : Int)) (ev_v hσ fun H5 e6 => ⟨l, rfl, SqL.of ((e5.trans e6).lst hll)⟩) hb (atI_nat hu)).imp fun v H5 e6 hv => by rw [show v = u from hv]; exact (hrow.2 t u hu).ext (e5.trans e6)
      have sm : ∀ {σ : L2.St} {H4 : Hp} {tb : TE} {t : Nat}, Ext H' H4 → σ[9]? = some (some (.ref ls)) → t ≤ c0.n → Ev tb σ H4 (is (.int (t : Int))) → Ev (tOp (rIxL K) (tVar 9) tb) σ H4 (RV K 2500 (c0.laid.fairly.res t)) := fun {σ H4 tb t} e5 hσ ht hb => by
        obtain ⟨u, hu⟩ : ∃ u, rs[t]? = some u := ⟨rs[t]'(by have := hrs'.1; omega), List.getElem?_eq_getElem _⟩
        exact (ev_ixL (K := K) (xs := rs) (x := u) (i := (t : Int)) (ev_v hσ fun H5 e6 => ⟨ls, rfl, SqL.of ((e5.trans e6).lst hls')⟩) hb (atI_nat hu)).imp fun v H5 e6 hv => by rw [show v = u from hv]; exact (hrs'.2 t u hu).ext (e5.trans e6)
      have rg : ∀ {σ : L2.St} {H4 : Hp}, σ[4]? = some (some (.int (c0.n : Int))) → EvA (tCons (tC (.int 1)) (tCons (tVar 4) tNil)) σ H4 (fun xs _ => xs = [.int ((1 : Nat) : Int), .int (c0.n : Int)]) := fun h => (ea_2 ev_c mono_is (ev_i h) mono_is).imp fun vs H' _ ⟨v, w, h1, h2, h3⟩ => by rw [h1, show v = _ from h2, show w = _ from h3]; rfl
      have r1 : ∀ {σ : L2.St} {H4 : Hp}, σ[4]? = some (some (.int (c0.n : Int))) → EvA (tCons (tVar 4) tNil) σ H4 (fun xs _ => xs = [.int (c0.n : Int)]) := fun h => (ea_1 (ev_i h) mono_is).imp fun vs H' _ ⟨v, h1, h2⟩ => by rw [h1, show v = _ from h2]
      refine q_asg (ev_pick2 (lo := 1) (hi := c0.n) (b := fun i => decide (c0.laid.fairly.crit Lb q2 (1 + i) < c0.laid.fairly.crit Lb q2 i)) (rg rfl) (by decide) (by omega) (fun _ => rfl) (fun _ => rfl) fun i H8 hi x => et_test (ev_below (dm (e7.trans x) rfl hi (ev_i rfl)).pv (dm (t := i) (e7.trans x) rfl (by omega) (ev_to (ev_I0 (ev_i rfl) ev_c) (by congr 1; omega))).pv (by decide))) fun fv H8 e8 hfv => ?_
      have hfl := newL_LI hfv
      have e78 := e7.trans e8
      refine q_asg (ev_pick2 (lo := 1) (hi := c0.n) (b := fun i => decide (c0.laid.fairly.crit Lb q2 i < c0.laid.fairly.crit Lb q2 (1 + i))) (rg rfl) (by decide) (by omega) (fun _ => rfl) (fun _ => rfl) fun i H9 hi x => et_test (ev_below (dm (t := i) (e78.trans x) rfl (by omega) (ev_to (ev_I0 (ev_i rfl) ev_c) (by congr 1; omega))).pv (dm (e78.trans x) rfl hi (ev_i rfl)).pv (by decide))) fun gv H9 e9 hgv => ?_
      have hgl := newL_LI hgv
      have e79 := e78.trans e9
      refine q_asg (ev_reserves (ev_pol (hS.ext (eH.trans e79)) rfl) okS P2 (hT'.ext e79)) fun hv H10 e10 hhv => ?_
      obtain ⟨ph, ys, rfl, hph, hrow2⟩ := hhv
      have e710 := e79.trans e10
      have hm : ∀ {σ : L2.St} {H4 : Hp} {tb : TE} {t : Nat}, Ext H10 H4 → σ[20]? = some (some (.ref ph)) → t < c0.n → Ev tb σ H4 (is (.int (t : Int))) → Ev (tOp (rIxT K) (tVar 20) tb) σ H4 (RV K 1000 ((c0.other Lb q2).fairly.res t)) := fun {σ H4 tb t} e5 hσ ht hb => by
        obtain ⟨u, hu⟩ : ∃ u, ys[t]? = some u := ⟨ys[t]'(by have := hrow2.1; have : (c0.other Lb q2).fairly.n = c0.n := nd; omega), List.getElem?_eq_getElem _⟩
        exact (ev_ixT (K := K) (xs := ys) (x := u) (i := (t : Int)) (ev_v hσ fun H5 e6 => ⟨ph, rfl, (e5.trans e6).t hph⟩) hb (atI_nat hu)).imp fun v H5 e6 hv => by rw [show v = u from hv]; exact (hrow2.2 t u hu).ext (e5.trans e6)
      have fl : ∀ {σ : L2.St} {H4 : Hp}, Ext H10 H4 → σ[18]? = some (some fv) → Ev (tVar 18) σ H4 (LI (pickI 1 (c0.n - 1) fun i => decide (c0.laid.fairly.crit Lb q2 (1 + i) < c0.laid.fairly.crit Lb q2 i))) := fun e h => ev_v h fun H' x => mono_LI _ _ _ (((e9.trans e10).trans e).trans x) hfl
      have gl : ∀ {σ : L2.St} {H4 : Hp}, Ext H10 H4 → σ[19]? = some (some gv) → Ev (tVar 19) σ H4 (LI (pickI 1 (c0.n - 1) fun i => decide (c0.laid.fairly.crit Lb q2 i < c0.laid.fairly.crit Lb q2 (1 + i)))) := fun e h => ev_v h fun H' x => mono_LI _ _ _ ((e10.trans e).trans x) hgl
      refine q_guard (et_is (et_and (et_test (ev_eqnil (fl (Ext.refl _) rfl) ev_nilL)) fun _ => et_test (ev_nenil (ns := pickI 0 c0.n fun i => decide (c0.laid.fairly.res i < (c0.other Lb q2).fairly.res i)) ((ev_pick1 (m := c0.n) (b := fun i => decide (c0.laid.fairly.res i < (c0.other Lb q2).fairly.res i)) (r1 rfl) (by omega) (fun _ => rfl) (fun _ => rfl)
        fun i H11 hi x => et_test (ev_below (sm (e710.trans x) rfl (Nat.le_of_lt hi) (ev_i rfl)).pv (hm x rfl hi (ev_i rfl)).pv (by decide))).imp fun v H' _ h => newL_LI h) ev_nilL)) ?_) fun H11 e11 => ?_
      · by_cases hz1 : (pickI 1 (c0.n - 1) fun i => decide (c0.laid.fairly.crit Lb q2 (1 + i) < c0.laid.fairly.crit Lb q2 i)) = []
        · have hno := pickI_some hz1
          rw [pickI_none (lo := 0) (m := c0.n) (b := fun i => decide (c0.laid.fairly.res i < (c0.other Lb q2).fairly.res i)) fun k hk => decide_eq_false (Rat.not_lt.mpr (math.1 (fun t ht => Rat.not_lt.mp (of_decide_eq_false (by have := hno t (by have : t + 1 < c0.n := ht; omega); rw [Nat.add_comm] at this; exact this))) k (Nat.le_of_lt hk)))]
          rw [decide_eq_true rfl]; exact Bool.and_false _
        · rw [decide_eq_false hz1]; rfl
      · refine s_ret (ev_to (ev_orV (ev_nenil (gl e11 rfl) ev_nilL) fun _ => ev_eqnil (ns := pickI 0 c0.n fun i => decide ((c0.other Lb q2).fairly.res i < c0.laid.fairly.res i)) ((ev_pick1 (m := c0.n) (b := fun i => decide ((c0.other Lb q2).fairly.res i < c0.laid.fairly.res i)) (r1 rfl) (by omega) (fun _ => rfl) (fun _ => rfl)
          fun i H12 hi x => et_test (ev_below (hm (e11.trans x) rfl hi (ev_i rfl)).pv (sm ((e710.trans e11).trans x) rfl (Nat.le_of_lt hi) (ev_i rfl)).pv (by decide))).imp fun v H' _ h => newL_LI h) ev_nilL) ?_) fun v H' _ hv => k v H' hv
        by_cases hz1 : (pickI 1 (c0.n - 1) fun i => decide (c0.laid.fairly.crit Lb q2 i < c0.laid.fairly.crit Lb q2 (1 + i))) = []
        · have hno := pickI_some hz1
          rw [pickI_none (lo := 0) (m := c0.n) (b := fun i => decide ((c0.other Lb q2).fairly.res i < c0.laid.fairly.res i)) fun k hk => decide_eq_false (Rat.not_lt.mpr (math.2 (fun t ht => Rat.not_lt.mp (of_decide_eq_false (by have := hno t (by have : t + 1 < c0.n := ht; omega); rw [Nat.add_comm] at this; exact this))) k (Nat.le_of_lt hk)))]
          rw [decide_eq_true rfl]; congr 1; exact Bool.or_true _
        · rw [decide_eq_false hz1]; rfl
end
end K21
set_option maxHeartbeats 0
namespace K21
open PySem PySem.Spec PyProof.Rows L2
/-! ### the head: facts by names, the run -/
def d_ratio : He.DefD := ⟨("ratio", none), "ratio", "ratio", defArgs s_ratio, defBody s_ratio, defScope s_ratio, [], []⟩
def d_plus : He.DefD := ⟨("plus", none), "plus", "plus", defArgs s_plus, defBody s_plus, defScope s_plus, [], []⟩
def d_minus : He.DefD := ⟨("minus", none), "minus", "minus", defArgs s_minus, defBody s_minus, defScope s_minus, [], []⟩
def d_by : He.DefD := ⟨("by", none), "by", "by", defArgs s_by, defBody s_by, defScope s_by, [], []⟩
def d_over : He.DefD := ⟨("over", none), "over", "over", defArgs s_over, defBody s_over, defScope s_over, [], []⟩
def d_power : He.DefD := ⟨("power", none), "power", "power", defArgs s_power, defBody s_power, defScope s_power, [], []⟩
def d_is_ratio : He.DefD := ⟨("is_ratio", none), "is_ratio", "is_ratio", defArgs s_is_ratio, defBody s_is_ratio, defScope s_is_ratio, [], []⟩
def d_is_in : He.DefD := ⟨("is_in", none), "is_in", "is_in", defArgs s_is_in, defBody s_is_in, defScope s_is_in, [], []⟩
def d_need_rate : He.DefD := ⟨("need_rate", none), "need_rate", "need_rate", defArgs s_need_rate, defBody s_need_rate, defScope s_need_rate, [], []⟩
def d_need_payments : He.DefD := ⟨("need_payments", none), "need_payments", "need_payments", defArgs s_need_payments, defBody s_need_payments, defScope s_need_payments, [], []⟩
def d_need_time : He.DefD := ⟨("need_time", none), "need_time", "need_time", defArgs s_need_time, defBody s_need_time, defScope s_need_time, [], []⟩
def d_growth : He.DefD := ⟨("growth", none), "growth", "growth", defArgs s_growth, defBody s_growth, defScope s_growth, [], []⟩
def d_are_lives : He.DefD := ⟨("are_lives", none), "are_lives", "are_lives", defArgs s_are_lives, defBody s_are_lives, defScope s_are_lives, [], []⟩
def d_need_lives : He.DefD := ⟨("need_lives", none), "need_lives", "need_lives", defArgs s_need_lives, defBody s_need_lives, defScope s_need_lives, [], []⟩
def d_need_age : He.DefD := ⟨("need_age", none), "need_age", "need_age", defArgs s_need_age, defBody s_need_age, defScope s_need_age, [], []⟩
def d_need_premium : He.DefD := ⟨("need_premium", none), "need_premium", "need_premium", defArgs s_need_premium, defBody s_need_premium, defScope s_need_premium, [], []⟩
def d_need_policy : He.DefD := ⟨("need_policy", none), "need_policy", "need_policy", defArgs s_need_policy, defBody s_need_policy, defScope s_need_policy, [], []⟩
def d_entry : He.DefD := ⟨("entry", none), "entry", "entry", defArgs s_entry, defBody s_entry, defScope s_entry, [], []⟩
def d_span_of : He.DefD := ⟨("span_of", none), "span_of", "span_of", defArgs s_span_of, defBody s_span_of, defScope s_span_of, [], []⟩
def d_part_dying : He.DefD := ⟨("part_dying", none), "part_dying", "part_dying", defArgs s_part_dying, defBody s_part_dying, defScope s_part_dying, [], []⟩
def d_net_alive : He.DefD := ⟨("net_alive", none), "net_alive", "net_alive", defArgs s_net_alive, defBody s_net_alive, defScope s_net_alive, [], []⟩
def d_reserves_of : He.DefD := ⟨("reserves_of", none), "reserves_of", "reserves_of", defArgs s_reserves_of, defBody s_reserves_of, defScope s_reserves_of, [], []⟩
def d_changed : He.DefD := ⟨("changed", none), "changed", "changed", defArgs s_changed, defBody s_changed, defScope s_changed, [], []⟩
def d_fair_of : He.DefD := ⟨("fair_of", none), "fair_of", "fair_of", defArgs s_fair_of, defBody s_fair_of, defScope s_fair_of, [], []⟩
def d_fair_premium : He.DefD := ⟨("fair_premium", none), "fair_premium", "fair_premium", defArgs s_fair_premium, defBody s_fair_premium, defScope s_fair_premium, [], []⟩
def d_reserves : He.DefD := ⟨("reserves", none), "reserves", "reserves", defArgs s_reserves, defBody s_reserves, defScope s_reserves, [], []⟩
def d_critical : He.DefD := ⟨("critical", none), "critical", "critical", defArgs s_critical, defBody s_critical, defScope s_critical, [], []⟩
def d__law_taken : He.DefD := ⟨("_law_taken", none), "_law_taken", "_law_taken", defArgs s__law_taken, defBody s__law_taken, defScope s__law_taken, [], []⟩
def d__law_pick : He.DefD := ⟨("_law_pick", none), "_law_pick", "_law_pick", defArgs s__law_pick, defBody s__law_pick, defScope s__law_pick, [], []⟩
def d__law_alike : He.DefD := ⟨("_law_alike", none), "_law_alike", "_law_alike", defArgs s__law_alike, defBody s__law_alike, defScope s__law_alike, [], []⟩
def d__law_ratio : He.DefD := ⟨("_law_ratio", none), "_law_ratio", "_law_ratio", defArgs s__law_ratio, defBody s__law_ratio, defScope s__law_ratio, [], []⟩
def d__law_plus : He.DefD := ⟨("_law_plus", none), "_law_plus", "_law_plus", defArgs s__law_plus, defBody s__law_plus, defScope s__law_plus, [], []⟩
def d__law_by : He.DefD := ⟨("_law_by", none), "_law_by", "_law_by", defArgs s__law_by, defBody s__law_by, defScope s__law_by, [], []⟩
def d__law_rate : He.DefD := ⟨("_law_rate", none), "_law_rate", "_law_rate", defArgs s__law_rate, defBody s__law_rate, defScope s__law_rate, [], []⟩
def d__law_lives : He.DefD := ⟨("_law_lives", none), "_law_lives", "_law_lives", defArgs s__law_lives, defBody s__law_lives, defScope s__law_lives, [], []⟩
def d__law_policy : He.DefD := ⟨("_law_policy", none), "_law_policy", "_law_policy", defArgs s__law_policy, defBody s__law_policy, defScope s__law_policy, [], []⟩
def d__law_span : He.DefD := ⟨("_law_span", none), "_law_span", "_law_span", defArgs s__law_span, defBody s__law_span, defScope s__law_span, [], []⟩
def d__law_entry : He.DefD := ⟨("_law_entry", none), "_law_entry", "_law_entry", defArgs s__law_entry, defBody s__law_entry, defScope s__law_entry, [], []⟩
def d__law_net : He.DefD := ⟨("_law_net", none), "_law_net", "_law_net", defArgs s__law_net, defBody s__law_net, defScope s__law_net, [], []⟩
def d__law_step : He.DefD := ⟨("_law_step", none), "_law_step", "_law_step", defArgs s__law_step, defBody s__law_step, defScope s__law_step, [], []⟩
def d__law_from : He.DefD := ⟨("_law_from", none), "_law_from", "_law_from", defArgs s__law_from, defBody s__law_from, defScope s__law_from, [], []⟩
def d__law_below : He.DefD := ⟨("_law_below", none), "_law_below", "_law_below", defArgs s__law_below, defBody s__law_below, defScope s__law_below, [], []⟩
def d_law : He.DefD := ⟨("law", none), "law", "law", defArgs s_law, defBody s_law, defScope s_law, [], []⟩
def fnA : List He.DefD := [d_ratio, d_plus, d_minus, d_by, d_over, d_power, d_is_ratio, d_is_in, d_need_rate, d_need_payments, d_need_time, d_growth, d_are_lives, d_need_lives, d_need_age, d_need_premium, d_need_policy, d_entry, d_span_of, d_part_dying, d_net_alive, d_reserves_of, d_changed, d_fair_of, d_fair_premium]
def fnB : List He.DefD := [d_reserves, d_critical, d__law_taken, d__law_pick, d__law_alike, d__law_ratio, d__law_plus, d__law_by, d__law_rate, d__law_lives, d__law_policy, d__law_span, d__law_entry, d__law_net, d__law_step, d__law_from, d__law_below, d_law]
def fn : List He.DefD := fnA ++ fnB
def faA : List He.Fa := [.glo "ratio", .glo "plus", .glo "minus", .glo "by", .glo "over", .glo "power", .glo "is_ratio", .glo "is_in", .glo "need_rate", .glo "need_payments", .glo "need_time", .glo "growth", .glo "are_lives", .glo "need_lives", .glo "need_age", .glo "need_premium", .glo "need_policy", .glo "entry", .glo "span_of", .glo "part_dying", .glo "net_alive", .glo "reserves_of", .glo "changed", .glo "fair_of", .glo "fair_premium"]
def faB : List He.Fa := [.glo "reserves", .glo "critical", .glo "_law_taken", .glo "_law_pick", .glo "_law_alike", .glo "_law_ratio", .glo "_law_plus", .glo "_law_by", .glo "_law_rate", .glo "_law_lives", .glo "_law_policy", .glo "_law_span", .glo "_law_entry", .glo "_law_net", .glo "_law_step", .glo "_law_from", .glo "_law_below", .glo "law"]
def faC : List He.Fa := [.free "isinstance", .free "int", .free "bool", .free "len", .free "all", .free "any", .free "abs", .free "range", .free "tuple", .free "list", .free "str", .free "max", .free "min", .int "MOST_PAYMENTS" 40, .int "MOST_PAYMENT" 1000000, .int "MOST_RATE" 1000, .int "MOST_AGES" 40, .int "MOST_LIVES" 1000000, .int "MOST_PREMIUM" 1000000, .int "MOST_PARTS" 7, .int "MOST_PAID" 40]
def fa : List He.Fa := faA ++ (faB ++ faC)
def tf : List He.Defn := [("is_ratio", none), ("need_payments", none), ("are_lives", none)]
def ex (K : PySem.W.Frag) : Bool := He.eqO (PySem.W.nsIn K mainGlobals "gcd") (some (some (.builtin "math.gcd")))
def looseA : List PySem.Str := [("LifeError" : PySem.Str), ("BadRate" : PySem.Str), ("BadPayments" : PySem.Str), ("BadTime" : PySem.Str), ("BadLives" : PySem.Str), ("BadAge" : PySem.Str), ("BadPolicy" : PySem.Str), ("BadPremium" : PySem.Str), ("NoPremium" : PySem.Str), ("ratio" : PySem.Str), ("plus" : PySem.Str), ("minus" : PySem.Str), ("by" : PySem.Str), ("over" : PySem.Str), ("power" : PySem.Str), ("is_ratio" : PySem.Str), ("MOST_PAYMENTS" : PySem.Str), ("MOST_PAYMENT" : PySem.Str), ("MOST_RATE" : PySem.Str), ("is_in" : PySem.Str), ("need_rate" : PySem.Str), ("need_payments" : PySem.Str), ("need_time" : PySem.Str), ("growth" : PySem.Str), ("MOST_AGES" : PySem.Str), ("MOST_LIVES" : PySem.Str), ("are_lives" : PySem.Str), ("need_lives" : PySem.Str), ("need_age" : PySem.Str), ("MOST_PREMIUM" : PySem.Str), ("MOST_PARTS" : PySem.Str), ("MOST_PAID" : PySem.Str), ("need_premium" : PySem.Str), ("need_policy" : PySem.Str), ("entry" : PySem.Str)]
def looseB : List PySem.Str := [("span_of" : PySem.Str), ("part_dying" : PySem.Str), ("net_alive" : PySem.Str), ("reserves_of" : PySem.Str), ("changed" : PySem.Str), ("fair_of" : PySem.Str), ("fair_premium" : PySem.Str), ("reserves" : PySem.Str), ("critical" : PySem.Str), ("_law_taken" : PySem.Str), ("_law_pick" : PySem.Str), ("_law_alike" : PySem.Str), ("_law_ratio" : PySem.Str), ("_law_plus" : PySem.Str), ("_law_by" : PySem.Str), ("_law_sum" : PySem.Str), ("_law_rate" : PySem.Str), ("_law_values" : PySem.Str), ("_law_lives" : PySem.Str), ("_law_policy" : PySem.Str), ("_law_span" : PySem.Str), ("_law_entry" : PySem.Str), ("_law_net" : PySem.Str), ("_law_step" : PySem.Str), ("_law_from" : PySem.Str), ("_law_below" : PySem.Str)]
def loose : List PySem.Str := looseA ++ looseB
abbrev R : PySem.W.OpenRow := PySem.W.OpenLaw.row PySem.Challenge.rw_actuarium_k21_whole_critical_numbers
abbrev qv : Program := PySem.W.view R.prog [0, 69]
abbrev hk : PySem.W.Hook := He.hookX 4 fa fn [] tf ex
def ob (s : PySem.W.SharedT) : He.AlX := He.obsX 4 fa fn [] tf ex (HandSHeadRun.getT s)
theorem ob_eq (s : PySem.W.SharedT) : ob s = hk.obs s.abs := He.obsX_eq (HandSHeadRun.getT_eq s)
theorem run (w : World) : HandSHeadRun.RunEqI R qv hk ob 6000 loose w := by
  unfold HandSHeadRun.RunEqI
  kernel_rfl
end K21
set_option maxHeartbeats 4000000
namespace K21
open PySem PySem.Spec PyProof.Rows L2
abbrev PQ : Program := (PySem.Challenge.rw_actuarium_k21_whole_critical_numbers).prog
theorem code_of {K : PySem.W.Frag} {x : Str} {st : Stmt} {f : Addr} {fd : FuncData} {p : Str × Option Str} (F : FnP K x st f fd) (hf : He.fAd K p = f) : fd.code = .ref (He.cT K p).1 := by
  obtain ⟨oc, od, dV, kV, doc, pm, an, cdv, ct, osl, rfl, lk, hcd, _, _⟩ := F.ex
  obtain ⟨c, rfl⟩ := He.codeIn_ref hcd
  show Value.ref c = .ref (He.codeOf K p)
  rw [He.codeOf_eq (p := p) (by rw [hf]; exact lk) rfl]
theorem fa_at {K : PySem.W.Frag} (D : He.SaysD fa fn K) {f : He.Fa} (h : f ∈ fa) : f.ok K = true := D.facts h
theorem never {P : Program} {w : World} {K : PySem.W.Frag} {mg : Str → Option Value} {base : Heap} {x : Str} {f : Addr} {fd : FuncData} {ps : List Str} (g : mg x = some (.ref f)) (k : PySem.W.keepIn K (.ref f) = true) (b : Binds K fd ps []) : Callee P w K mg base x 0 ps (spA fun _ _ _ => False) :=
  ⟨f, fd, ⟨fun _ _ _ _ ⟨_, _, _, h, _⟩ => h.elim, fun _ _ _ _ _ _ _ _ _ _ _ _ _ ⟨_, _, _, h, _⟩ => h.elim⟩, g, k, b⟩
theorem a0_mono : ∀ u v H H', Ext H H' → A0 u v H → A0 u v H' := fun _ _ _ _ _ h => h
theorem aT_mono {K : PySem.W.Frag} {E : VP2} (mE : ∀ u v H H', Ext H H' → E u v H → E u v H') : ∀ u v H H', Ext H H' → AT K E u v H → AT K E u v H' := fun _ _ _ _ e ⟨a, b, xs, ys, h1, h2, h3, h4, h5, h6, h7⟩ => ⟨a, b, xs, ys, h1, h2, e.t h3, e.t h4, h5, h6, fun j u v hu hv => mE _ _ _ _ e (h7 j u v hu hv)⟩
section
variable {P : Program} {w : World} {K : PySem.W.Frag} {mg : Str → Option Value} {base h : Heap}
theorem txt_of (X : K.In h) (G : h.Ns mainGlobals mg) (D : He.SaysD fa fn K) (m : ex K = true) : Txt mg where
  gcd := PySem.W.mg_of X G (He.eqO_ok m)
  isinstance := He.free_ok X G (D.fact 43 (f := .free "isinstance") rfl)
  int := He.free_ok X G (D.fact 44 (f := .free "int") rfl)
  bool := He.free_ok X G (D.fact 45 (f := .free "bool") rfl)
  len := He.free_ok X G (D.fact 46 (f := .free "len") rfl)
  all := He.free_ok X G (D.fact 47 (f := .free "all") rfl)
  any := He.free_ok X G (D.fact 48 (f := .free "any") rfl)
  abs := He.free_ok X G (D.fact 49 (f := .free "abs") rfl)
  range := He.free_ok X G (D.fact 50 (f := .free "range") rfl)
  tuple := He.free_ok X G (D.fact 51 (f := .free "tuple") rfl)
  list := He.free_ok X G (D.fact 52 (f := .free "list") rfl)
  str := He.free_ok X G (D.fact 53 (f := .free "str") rfl)
  max := He.free_ok X G (D.fact 54 (f := .free "max") rfl)
  min := He.free_ok X G (D.fact 55 (f := .free "min") rfl)
theorem nums_of (X : K.In h) (G : h.Ns mainGlobals mg) (D : He.SaysD fa fn K) : Nums mg where
  MOST_PAYMENTS := He.int_ok X G (D.fact 56 (f := .int "MOST_PAYMENTS" 40) rfl)
  MOST_PAYMENT := He.int_ok X G (D.fact 57 (f := .int "MOST_PAYMENT" 1000000) rfl)
  MOST_RATE := He.int_ok X G (D.fact 58 (f := .int "MOST_RATE" 1000) rfl)
  MOST_AGES := He.int_ok X G (D.fact 59 (f := .int "MOST_AGES" 40) rfl)
  MOST_LIVES := He.int_ok X G (D.fact 60 (f := .int "MOST_LIVES" 1000000) rfl)
  MOST_PREMIUM := He.int_ok X G (D.fact 61 (f := .int "MOST_PREMIUM" 1000000) rfl)
  MOST_PARTS := He.int_ok X G (D.fact 62 (f := .int "MOST_PARTS" 7) rfl)
  MOST_PAID := He.int_ok X G (D.fact 63 (f := .int "MOST_PAID" 40) rfl)
structure Def (K : PySem.W.Frag) (mg : Str → Option Value) (x : Str) (st : Stmt) (ps : List Str) (f : Addr) (fd : FuncData) : Prop where
  F : FnP K x st f fd
  g : mg x = some (.ref f)
  b : Binds K fd ps []
theorem Def.call {x : Str} {st : Stmt} {ps : List Str} {f : Addr} {fd : FuncData} {k : Nat} {sp : Sp} (d : Def K mg x st ps f fd) (ok : FnOk P w K mg base CX0 k f fd ps sp) : Callee P w K mg base x k ps sp := ⟨f, fd, ok, d.g, d.F.kp, d.b⟩
theorem def_ratio (X : K.In h) (G : h.Ns mainGlobals mg) (D : He.SaysD fa fn K) : ∃ fd, Def K mg "ratio" s_ratio ["top", "bottom"] (He.ga K "ratio") fd := by
  obtain ⟨fd, F⟩ := D.def_ 0 (d := d_ratio) rfl
  exact ⟨fd, F, He.glo_ok X G (D.fact 0 (f := .glo "ratio") rfl), FunD.bindsN F fun _ _ _ _ _ _ us hl => match us, hl with | [_, _], _ => rfl⟩
theorem def_plus (X : K.In h) (G : h.Ns mainGlobals mg) (D : He.SaysD fa fn K) : ∃ fd, Def K mg "plus" s_plus ["one", "other"] (He.ga K "plus") fd := by
  obtain ⟨fd, F⟩ := D.def_ 1 (d := d_plus) rfl
  exact ⟨fd, F, He.glo_ok X G (D.fact 1 (f := .glo "plus") rfl), FunD.bindsN F fun _ _ _ _ _ _ us hl => match us, hl with | [_, _], _ => rfl⟩
theorem def_minus (X : K.In h) (G : h.Ns mainGlobals mg) (D : He.SaysD fa fn K) : ∃ fd, Def K mg "minus" s_minus ["one", "other"] (He.ga K "minus") fd := by
  obtain ⟨fd, F⟩ := D.def_ 2 (d := d_minus) rfl
  exact ⟨fd, F, He.glo_ok X G (D.fact 2 (f := .glo "minus") rfl), FunD.bindsN F fun _ _ _ _ _ _ us hl => match us, hl with | [_, _], _ => rfl⟩
theorem def_by (X : K.In h) (G : h.Ns mainGlobals mg) (D : He.SaysD fa fn K) : ∃ fd, Def K mg "by" s_by ["one", "other"] (He.ga K "by") fd := by
  obtain ⟨fd, F⟩ := D.def_ 3 (d := d_by) rfl
  exact ⟨fd, F, He.glo_ok X G (D.fact 3 (f := .glo "by") rfl), FunD.bindsN F fun _ _ _ _ _ _ us hl => match us, hl with | [_, _], _ => rfl⟩
theorem def_over (X : K.In h) (G : h.Ns mainGlobals mg) (D : He.SaysD fa fn K) : ∃ fd, Def K mg "over" s_over ["one", "other"] (He.ga K "over") fd := by
  obtain ⟨fd, F⟩ := D.def_ 4 (d := d_over) rfl
  exact ⟨fd, F, He.glo_ok X G (D.fact 4 (f := .glo "over") rfl), FunD.bindsN F fun _ _ _ _ _ _ us hl => match us, hl with | [_, _], _ => rfl⟩
theorem def_power (X : K.In h) (G : h.Ns mainGlobals mg) (D : He.SaysD fa fn K) : ∃ fd, Def K mg "power" s_power ["one", "times"] (He.ga K "power") fd := by
  obtain ⟨fd, F⟩ := D.def_ 5 (d := d_power) rfl
  exact ⟨fd, F, He.glo_ok X G (D.fact 5 (f := .glo "power") rfl), FunD.bindsN F fun _ _ _ _ _ _ us hl => match us, hl with | [_, _], _ => rfl⟩
theorem def_is_ratio (X : K.In h) (G : h.Ns mainGlobals mg) (D : He.SaysD fa fn K) : ∃ fd, Def K mg "is_ratio" s_is_ratio ["value"] (He.ga K "is_ratio") fd := by
  obtain ⟨fd, F⟩ := D.def_ 6 (d := d_is_ratio) rfl
  exact ⟨fd, F, He.glo_ok X G (D.fact 6 (f := .glo "is_ratio") rfl), FunD.bindsN F fun _ _ _ _ _ _ us hl => match us, hl with | [_], _ => rfl⟩
theorem def_is_in (X : K.In h) (G : h.Ns mainGlobals mg) (D : He.SaysD fa fn K) : ∃ fd, Def K mg "is_in" s_is_in ["value", "least", "most"] (He.ga K "is_in") fd := by
  obtain ⟨fd, F⟩ := D.def_ 7 (d := d_is_in) rfl
  exact ⟨fd, F, He.glo_ok X G (D.fact 7 (f := .glo "is_in") rfl), FunD.bindsN F fun _ _ _ _ _ _ us hl => match us, hl with | [_, _, _], _ => rfl⟩
theorem def_need_rate (X : K.In h) (G : h.Ns mainGlobals mg) (D : He.SaysD fa fn K) : ∃ fd, Def K mg "need_rate" s_need_rate ["rate"] (He.ga K "need_rate") fd := by
  obtain ⟨fd, F⟩ := D.def_ 8 (d := d_need_rate) rfl
  exact ⟨fd, F, He.glo_ok X G (D.fact 8 (f := .glo "need_rate") rfl), FunD.bindsN F fun _ _ _ _ _ _ us hl => match us, hl with | [_], _ => rfl⟩
theorem def_need_payments (X : K.In h) (G : h.Ns mainGlobals mg) (D : He.SaysD fa fn K) : ∃ fd, Def K mg "need_payments" s_need_payments ["payments"] (He.ga K "need_payments") fd := by
  obtain ⟨fd, F⟩ := D.def_ 9 (d := d_need_payments) rfl
  exact ⟨fd, F, He.glo_ok X G (D.fact 9 (f := .glo "need_payments") rfl), FunD.bindsN F fun _ _ _ _ _ _ us hl => match us, hl with | [_], _ => rfl⟩
theorem def_need_time (X : K.In h) (G : h.Ns mainGlobals mg) (D : He.SaysD fa fn K) : ∃ fd, Def K mg "need_time" s_need_time ["time", "least", "most"] (He.ga K "need_time") fd := by
  obtain ⟨fd, F⟩ := D.def_ 10 (d := d_need_time) rfl
  exact ⟨fd, F, He.glo_ok X G (D.fact 10 (f := .glo "need_time") rfl), FunD.bindsN F fun _ _ _ _ _ _ us hl => match us, hl with | [_, _, _], _ => rfl⟩
theorem def_growth (X : K.In h) (G : h.Ns mainGlobals mg) (D : He.SaysD fa fn K) : ∃ fd, Def K mg "growth" s_growth ["rate"] (He.ga K "growth") fd := by
  obtain ⟨fd, F⟩ := D.def_ 11 (d := d_growth) rfl
  exact ⟨fd, F, He.glo_ok X G (D.fact 11 (f := .glo "growth") rfl), FunD.bindsN F fun _ _ _ _ _ _ us hl => match us, hl with | [_], _ => rfl⟩
theorem def_are_lives (X : K.In h) (G : h.Ns mainGlobals mg) (D : He.SaysD fa fn K) : ∃ fd, Def K mg "are_lives" s_are_lives ["lives"] (He.ga K "are_lives") fd := by
  obtain ⟨fd, F⟩ := D.def_ 12 (d := d_are_lives) rfl
  exact ⟨fd, F, He.glo_ok X G (D.fact 12 (f := .glo "are_lives") rfl), FunD.bindsN F fun _ _ _ _ _ _ us hl => match us, hl with | [_], _ => rfl⟩
theorem def_need_lives (X : K.In h) (G : h.Ns mainGlobals mg) (D : He.SaysD fa fn K) : ∃ fd, Def K mg "need_lives" s_need_lives ["lives"] (He.ga K "need_lives") fd := by
  obtain ⟨fd, F⟩ := D.def_ 13 (d := d_need_lives) rfl
  exact ⟨fd, F, He.glo_ok X G (D.fact 13 (f := .glo "need_lives") rfl), FunD.bindsN F fun _ _ _ _ _ _ us hl => match us, hl with | [_], _ => rfl⟩
theorem def_need_age (X : K.In h) (G : h.Ns mainGlobals mg) (D : He.SaysD fa fn K) : ∃ fd, Def K mg "need_age" s_need_age ["lives", "age"] (He.ga K "need_age") fd := by
  obtain ⟨fd, F⟩ := D.def_ 14 (d := d_need_age) rfl
  exact ⟨fd, F, He.glo_ok X G (D.fact 14 (f := .glo "need_age") rfl), FunD.bindsN F fun _ _ _ _ _ _ us hl => match us, hl with | [_, _], _ => rfl⟩
theorem def_need_premium (X : K.In h) (G : h.Ns mainGlobals mg) (D : He.SaysD fa fn K) : ∃ fd, Def K mg "need_premium" s_need_premium ["premium"] (He.ga K "need_premium") fd := by
  obtain ⟨fd, F⟩ := D.def_ 15 (d := d_need_premium) rfl
  exact ⟨fd, F, He.glo_ok X G (D.fact 15 (f := .glo "need_premium") rfl), FunD.bindsN F fun _ _ _ _ _ _ us hl => match us, hl with | [_], _ => rfl⟩
theorem def_need_policy (X : K.In h) (G : h.Ns mainGlobals mg) (D : He.SaysD fa fn K) : ∃ fd, Def K mg "need_policy" s_need_policy ["policy"] (He.ga K "need_policy") fd := by
  obtain ⟨fd, F⟩ := D.def_ 16 (d := d_need_policy) rfl
  exact ⟨fd, F, He.glo_ok X G (D.fact 16 (f := .glo "need_policy") rfl), FunD.bindsN F fun _ _ _ _ _ _ us hl => match us, hl with | [_], _ => rfl⟩
theorem def_entry (X : K.In h) (G : h.Ns mainGlobals mg) (D : He.SaysD fa fn K) : ∃ fd, Def K mg "entry" s_entry ["payments", "time"] (He.ga K "entry") fd := by
  obtain ⟨fd, F⟩ := D.def_ 17 (d := d_entry) rfl
  exact ⟨fd, F, He.glo_ok X G (D.fact 17 (f := .glo "entry") rfl), FunD.bindsN F fun _ _ _ _ _ _ us hl => match us, hl with | [_, _], _ => rfl⟩
theorem def_span_of (X : K.In h) (G : h.Ns mainGlobals mg) (D : He.SaysD fa fn K) : ∃ fd, Def K mg "span_of" s_span_of ["policy"] (He.ga K "span_of") fd := by
  obtain ⟨fd, F⟩ := D.def_ 18 (d := d_span_of) rfl
  exact ⟨fd, F, He.glo_ok X G (D.fact 18 (f := .glo "span_of") rfl), FunD.bindsN F fun _ _ _ _ _ _ us hl => match us, hl with | [_], _ => rfl⟩
theorem def_part_dying (X : K.In h) (G : h.Ns mainGlobals mg) (D : He.SaysD fa fn K) : ∃ fd, Def K mg "part_dying" s_part_dying ["policy", "time"] (He.ga K "part_dying") fd := by
  obtain ⟨fd, F⟩ := D.def_ 19 (d := d_part_dying) rfl
  exact ⟨fd, F, He.glo_ok X G (D.fact 19 (f := .glo "part_dying") rfl), FunD.bindsN F fun _ _ _ _ _ _ us hl => match us, hl with | [_, _], _ => rfl⟩
theorem def_net_alive (X : K.In h) (G : h.Ns mainGlobals mg) (D : He.SaysD fa fn K) : ∃ fd, Def K mg "net_alive" s_net_alive ["policy", "time"] (He.ga K "net_alive") fd := by
  obtain ⟨fd, F⟩ := D.def_ 20 (d := d_net_alive) rfl
  exact ⟨fd, F, He.glo_ok X G (D.fact 20 (f := .glo "net_alive") rfl), FunD.bindsN F fun _ _ _ _ _ _ us hl => match us, hl with | [_, _], _ => rfl⟩
theorem def_reserves_of (X : K.In h) (G : h.Ns mainGlobals mg) (D : He.SaysD fa fn K) : ∃ fd, Def K mg "reserves_of" s_reserves_of ["policy"] (He.ga K "reserves_of") fd := by
  obtain ⟨fd, F⟩ := D.def_ 21 (d := d_reserves_of) rfl
  exact ⟨fd, F, He.glo_ok X G (D.fact 21 (f := .glo "reserves_of") rfl), FunD.bindsN F fun _ _ _ _ _ _ us hl => match us, hl with | [_], _ => rfl⟩
theorem def_changed (X : K.In h) (G : h.Ns mainGlobals mg) (D : He.SaysD fa fn K) : ∃ fd, Def K mg "changed" s_changed ["policy", "alive", "dead", "premium"] (He.ga K "changed") fd := by
  obtain ⟨fd, F⟩ := D.def_ 22 (d := d_changed) rfl
  exact ⟨fd, F, He.glo_ok X G (D.fact 22 (f := .glo "changed") rfl), FunD.bindsN F fun _ _ _ _ _ _ us hl => match us, hl with | [_, _, _, _], _ => rfl⟩
theorem def_fair_of (X : K.In h) (G : h.Ns mainGlobals mg) (D : He.SaysD fa fn K) : ∃ fd, Def K mg "fair_of" s_fair_of ["policy"] (He.ga K "fair_of") fd := by
  obtain ⟨fd, F⟩ := D.def_ 23 (d := d_fair_of) rfl
  exact ⟨fd, F, He.glo_ok X G (D.fact 23 (f := .glo "fair_of") rfl), FunD.bindsN F fun _ _ _ _ _ _ us hl => match us, hl with | [_], _ => rfl⟩
theorem def_fair_premium (X : K.In h) (G : h.Ns mainGlobals mg) (D : He.SaysD fa fn K) : ∃ fd, Def K mg "fair_premium" s_fair_premium ["policy"] (He.ga K "fair_premium") fd := by
  obtain ⟨fd, F⟩ := D.def_ 24 (d := d_fair_premium) rfl
  exact ⟨fd, F, He.glo_ok X G (D.fact 24 (f := .glo "fair_premium") rfl), FunD.bindsN F fun _ _ _ _ _ _ us hl => match us, hl with | [_], _ => rfl⟩
theorem def_reserves (X : K.In h) (G : h.Ns mainGlobals mg) (D : He.SaysD fa fn K) : ∃ fd, Def K mg "reserves" s_reserves ["policy"] (He.ga K "reserves") fd := by
  obtain ⟨fd, F⟩ := D.def_ 25 (d := d_reserves) rfl
  exact ⟨fd, F, He.glo_ok X G (D.fact 25 (f := .glo "reserves") rfl), FunD.bindsN F fun _ _ _ _ _ _ us hl => match us, hl with | [_], _ => rfl⟩
theorem def_critical (X : K.In h) (G : h.Ns mainGlobals mg) (D : He.SaysD fa fn K) : ∃ fd, Def K mg "critical" s_critical ["policy", "lives", "rate"] (He.ga K "critical") fd := by
  obtain ⟨fd, F⟩ := D.def_ 26 (d := d_critical) rfl
  exact ⟨fd, F, He.glo_ok X G (D.fact 26 (f := .glo "critical") rfl), FunD.bindsN F fun _ _ _ _ _ _ us hl => match us, hl with | [_, _, _], _ => rfl⟩
theorem def__law_taken (X : K.In h) (G : h.Ns mainGlobals mg) (D : He.SaysD fa fn K) : ∃ fd, Def K mg "_law_taken" s__law_taken ["_law_row", "_law_many"] (He.ga K "_law_taken") fd := by
  obtain ⟨fd, F⟩ := D.def_ 27 (d := d__law_taken) rfl
  exact ⟨fd, F, He.glo_ok X G (D.fact 27 (f := .glo "_law_taken") rfl), FunD.bindsN F fun _ _ _ _ _ _ us hl => match us, hl with | [_, _], _ => rfl⟩
theorem def__law_pick (X : K.In h) (G : h.Ns mainGlobals mg) (D : He.SaysD fa fn K) : ∃ fd, Def K mg "_law_pick" s__law_pick ["_law_row", "_law_things"] (He.ga K "_law_pick") fd := by
  obtain ⟨fd, F⟩ := D.def_ 28 (d := d__law_pick) rfl
  exact ⟨fd, F, He.glo_ok X G (D.fact 28 (f := .glo "_law_pick") rfl), FunD.bindsN F fun _ _ _ _ _ _ us hl => match us, hl with | [_, _], _ => rfl⟩
theorem def__law_alike (X : K.In h) (G : h.Ns mainGlobals mg) (D : He.SaysD fa fn K) : ∃ fd, Def K mg "_law_alike" s__law_alike ["_law_found", "_law_due"] (He.ga K "_law_alike") fd := by
  obtain ⟨fd, F⟩ := D.def_ 29 (d := d__law_alike) rfl
  exact ⟨fd, F, He.glo_ok X G (D.fact 29 (f := .glo "_law_alike") rfl), FunD.bindsN F fun _ _ _ _ _ _ us hl => match us, hl with | [_, _], _ => rfl⟩
theorem def__law_ratio (X : K.In h) (G : h.Ns mainGlobals mg) (D : He.SaysD fa fn K) : ∃ fd, Def K mg "_law_ratio" s__law_ratio ["_law_top", "_law_bottom"] (He.ga K "_law_ratio") fd := by
  obtain ⟨fd, F⟩ := D.def_ 30 (d := d__law_ratio) rfl
  exact ⟨fd, F, He.glo_ok X G (D.fact 30 (f := .glo "_law_ratio") rfl), FunD.bindsN F fun _ _ _ _ _ _ us hl => match us, hl with | [_, _], _ => rfl⟩
theorem def__law_plus (X : K.In h) (G : h.Ns mainGlobals mg) (D : He.SaysD fa fn K) : ∃ fd, Def K mg "_law_plus" s__law_plus ["_law_one", "_law_other"] (He.ga K "_law_plus") fd := by
  obtain ⟨fd, F⟩ := D.def_ 31 (d := d__law_plus) rfl
  exact ⟨fd, F, He.glo_ok X G (D.fact 31 (f := .glo "_law_plus") rfl), FunD.bindsN F fun _ _ _ _ _ _ us hl => match us, hl with | [_, _], _ => rfl⟩
theorem def__law_by (X : K.In h) (G : h.Ns mainGlobals mg) (D : He.SaysD fa fn K) : ∃ fd, Def K mg "_law_by" s__law_by ["_law_one", "_law_other"] (He.ga K "_law_by") fd := by
  obtain ⟨fd, F⟩ := D.def_ 32 (d := d__law_by) rfl
  exact ⟨fd, F, He.glo_ok X G (D.fact 32 (f := .glo "_law_by") rfl), FunD.bindsN F fun _ _ _ _ _ _ us hl => match us, hl with | [_, _], _ => rfl⟩
theorem def__law_rate (X : K.In h) (G : h.Ns mainGlobals mg) (D : He.SaysD fa fn K) : ∃ fd, Def K mg "_law_rate" s__law_rate ["_law_row"] (He.ga K "_law_rate") fd := by
  obtain ⟨fd, F⟩ := D.def_ 33 (d := d__law_rate) rfl
  exact ⟨fd, F, He.glo_ok X G (D.fact 33 (f := .glo "_law_rate") rfl), FunD.bindsN F fun _ _ _ _ _ _ us hl => match us, hl with | [_], _ => rfl⟩
theorem def__law_lives (X : K.In h) (G : h.Ns mainGlobals mg) (D : He.SaysD fa fn K) : ∃ fd, Def K mg "_law_lives" s__law_lives ["_law_row", "_law_most"] (He.ga K "_law_lives") fd := by
  obtain ⟨fd, F⟩ := D.def_ 34 (d := d__law_lives) rfl
  exact ⟨fd, F, He.glo_ok X G (D.fact 34 (f := .glo "_law_lives") rfl), FunD.bindsN F fun _ _ _ _ _ _ us hl => match us, hl with | [_, _], _ => rfl⟩
theorem def__law_policy (X : K.In h) (G : h.Ns mainGlobals mg) (D : He.SaysD fa fn K) : ∃ fd, Def K mg "_law_policy" s__law_policy ["_law_row"] (He.ga K "_law_policy") fd := by
  obtain ⟨fd, F⟩ := D.def_ 35 (d := d__law_policy) rfl
  exact ⟨fd, F, He.glo_ok X G (D.fact 35 (f := .glo "_law_policy") rfl), FunD.bindsN F fun _ _ _ _ _ _ us hl => match us, hl with | [_], _ => rfl⟩
theorem def__law_span (X : K.In h) (G : h.Ns mainGlobals mg) (D : He.SaysD fa fn K) : ∃ fd, Def K mg "_law_span" s__law_span ["_law_policy_here"] (He.ga K "_law_span") fd := by
  obtain ⟨fd, F⟩ := D.def_ 36 (d := d__law_span) rfl
  exact ⟨fd, F, He.glo_ok X G (D.fact 36 (f := .glo "_law_span") rfl), FunD.bindsN F fun _ _ _ _ _ _ us hl => match us, hl with | [_], _ => rfl⟩
theorem def__law_entry (X : K.In h) (G : h.Ns mainGlobals mg) (D : He.SaysD fa fn K) : ∃ fd, Def K mg "_law_entry" s__law_entry ["_law_payments", "_law_time"] (He.ga K "_law_entry") fd := by
  obtain ⟨fd, F⟩ := D.def_ 37 (d := d__law_entry) rfl
  exact ⟨fd, F, He.glo_ok X G (D.fact 37 (f := .glo "_law_entry") rfl), FunD.bindsN F fun _ _ _ _ _ _ us hl => match us, hl with | [_, _], _ => rfl⟩
theorem def__law_net (X : K.In h) (G : h.Ns mainGlobals mg) (D : He.SaysD fa fn K) : ∃ fd, Def K mg "_law_net" s__law_net ["_law_policy_here", "_law_time"] (He.ga K "_law_net") fd := by
  obtain ⟨fd, F⟩ := D.def_ 38 (d := d__law_net) rfl
  exact ⟨fd, F, He.glo_ok X G (D.fact 38 (f := .glo "_law_net") rfl), FunD.bindsN F fun _ _ _ _ _ _ us hl => match us, hl with | [_, _], _ => rfl⟩
theorem def__law_step (X : K.In h) (G : h.Ns mainGlobals mg) (D : He.SaysD fa fn K) : ∃ fd, Def K mg "_law_step" s__law_step ["_law_rate_here", "_law_years"] (He.ga K "_law_step") fd := by
  obtain ⟨fd, F⟩ := D.def_ 39 (d := d__law_step) rfl
  exact ⟨fd, F, He.glo_ok X G (D.fact 39 (f := .glo "_law_step") rfl), FunD.bindsN F fun _ _ _ _ _ _ us hl => match us, hl with | [_, _], _ => rfl⟩
theorem def__law_from (X : K.In h) (G : h.Ns mainGlobals mg) (D : He.SaysD fa fn K) : ∃ fd, Def K mg "_law_from" s__law_from ["_law_policy_here", "_law_time"] (He.ga K "_law_from") fd := by
  obtain ⟨fd, F⟩ := D.def_ 40 (d := d__law_from) rfl
  exact ⟨fd, F, He.glo_ok X G (D.fact 40 (f := .glo "_law_from") rfl), FunD.bindsN F fun _ _ _ _ _ _ us hl => match us, hl with | [_, _], _ => rfl⟩
theorem def__law_below (X : K.In h) (G : h.Ns mainGlobals mg) (D : He.SaysD fa fn K) : ∃ fd, Def K mg "_law_below" s__law_below ["_law_one", "_law_other"] (He.ga K "_law_below") fd := by
  obtain ⟨fd, F⟩ := D.def_ 41 (d := d__law_below) rfl
  exact ⟨fd, F, He.glo_ok X G (D.fact 41 (f := .glo "_law_below") rfl), FunD.bindsN F fun _ _ _ _ _ _ us hl => match us, hl with | [_, _], _ => rfl⟩
theorem def_law (X : K.In h) (G : h.Ns mainGlobals mg) (D : He.SaysD fa fn K) : ∃ fd, Def K mg "law" s_law ["_law_script"] (He.ga K "law") fd := by
  obtain ⟨fd, F⟩ := D.def_ 42 (d := d_law) rfl
  exact ⟨fd, F, He.glo_ok X G (D.fact 42 (f := .glo "law") rfl), FunD.bindsN F fun _ _ _ _ _ _ us hl => match us, hl with | [_], _ => rfl⟩
end
theorem law_at {w : World} {K : PySem.W.Frag} {mg : Str → Option Value} {f : Addr} {h : Heap} (X : K.In h) (c : He.SaysX fa fn [] tf ex w h K) (G : h.Ns mainGlobals mg) (hmg : mg "law" = some (.ref f)) :
    LamX.LawAtS PySem.Challenge.rw_actuarium_k21_whole_critical_numbers w K CX0 7 63 "_law_script" mg f h := by
  have D : He.SaysD fa fn K := c.t.d
  have T := txt_of X G D c.more
  have N := nums_of X G D
  obtain ⟨fd_ratio, D_ratio⟩ := def_ratio X G D
  obtain ⟨fd_plus, D_plus⟩ := def_plus X G D
  obtain ⟨fd_minus, D_minus⟩ := def_minus X G D
  obtain ⟨fd_by, D_by⟩ := def_by X G D
  obtain ⟨fd_over, D_over⟩ := def_over X G D
  obtain ⟨fd_power, D_power⟩ := def_power X G D
  obtain ⟨fd_is_ratio, D_is_ratio⟩ := def_is_ratio X G D
  obtain ⟨fd_is_in, D_is_in⟩ := def_is_in X G D
  obtain ⟨fd_need_rate, D_need_rate⟩ := def_need_rate X G D
  obtain ⟨fd_need_payments, D_need_payments⟩ := def_need_payments X G D
  obtain ⟨fd_need_time, D_need_time⟩ := def_need_time X G D
  obtain ⟨fd_growth, D_growth⟩ := def_growth X G D
  obtain ⟨fd_are_lives, D_are_lives⟩ := def_are_lives X G D
  obtain ⟨fd_need_lives, D_need_lives⟩ := def_need_lives X G D
  obtain ⟨fd_need_age, D_need_age⟩ := def_need_age X G D
  obtain ⟨fd_need_premium, D_need_premium⟩ := def_need_premium X G D
  obtain ⟨fd_need_policy, D_need_policy⟩ := def_need_policy X G D
  obtain ⟨fd_entry, D_entry⟩ := def_entry X G D
  obtain ⟨fd_span_of, D_span_of⟩ := def_span_of X G D
  obtain ⟨fd_part_dying, D_part_dying⟩ := def_part_dying X G D
  obtain ⟨fd_net_alive, D_net_alive⟩ := def_net_alive X G D
  obtain ⟨fd_reserves_of, D_reserves_of⟩ := def_reserves_of X G D
  obtain ⟨fd_changed, D_changed⟩ := def_changed X G D
  obtain ⟨fd_fair_of, D_fair_of⟩ := def_fair_of X G D
  obtain ⟨fd_fair_premium, D_fair_premium⟩ := def_fair_premium X G D
  obtain ⟨fd_reserves, D_reserves⟩ := def_reserves X G D
  obtain ⟨fd_critical, D_critical⟩ := def_critical X G D
  obtain ⟨fd__law_taken, D__law_taken⟩ := def__law_taken X G D
  obtain ⟨fd__law_pick, D__law_pick⟩ := def__law_pick X G D
  obtain ⟨fd__law_alike, D__law_alike⟩ := def__law_alike X G D
  obtain ⟨fd__law_ratio, D__law_ratio⟩ := def__law_ratio X G D
  obtain ⟨fd__law_plus, D__law_plus⟩ := def__law_plus X G D
  obtain ⟨fd__law_by, D__law_by⟩ := def__law_by X G D
  obtain ⟨fd__law_rate, D__law_rate⟩ := def__law_rate X G D
  obtain ⟨fd__law_lives, D__law_lives⟩ := def__law_lives X G D
  obtain ⟨fd__law_policy, D__law_policy⟩ := def__law_policy X G D
  obtain ⟨fd__law_span, D__law_span⟩ := def__law_span X G D
  obtain ⟨fd__law_entry, D__law_entry⟩ := def__law_entry X G D
  obtain ⟨fd__law_net, D__law_net⟩ := def__law_net X G D
  obtain ⟨fd__law_step, D__law_step⟩ := def__law_step X G D
  obtain ⟨fd__law_from, D__law_from⟩ := def__law_from X G D
  obtain ⟨fd__law_below, D__law_below⟩ := def__law_below X G D
  obtain ⟨fd_law, D_law⟩ := def_law X G D
  have eL := hmg.symm.trans D_law.g
  cases eL
  have m1 : (("is_ratio", none) : He.Defn) ∈ tf := by simp [tf]
  have m2 : (("need_payments", none) : He.Defn) ∈ tf := by simp [tf]
  have m3 : (("are_lives", none) : He.Defn) ∈ tf := by simp [tf]
  refine ⟨fd_law, tf.map (He.cT K), sp_law K (He.cT K ("is_ratio", none)).2 (He.cT K ("need_payments", none)).2 (He.cT K ("are_lives", none)).2, fun p hp => ?_, fun p hp => ?_, fun p hp => ?_, fun s u => ?_, fun H a ns hl _ hH hS => ?_, fun base KB GB hB => ?_⟩
  · obtain ⟨q, hq, rfl⟩ := List.mem_map.mp hp; exact c.empty q hq
  · obtain ⟨q, hq, rfl⟩ := List.mem_map.mp hp; exact c.out q hq
  · obtain ⟨q, hq, rfl⟩ := List.mem_map.mp hp; exact PySem.W.codeHd_of_K X (c.hd q hq)
  · exact (FunD.bindsA (ps := ["_law_script"]) D_law.F fun _ _ _ _ _ _ us hl => match us, hl with | [_], _ => rfl) s [u] rfl
  · have tb : ∀ p : He.Defn, p ∈ tf → GxR.TabG H (He.cT K p).2 := fun p hp => ⟨#[], hH _ (List.mem_map.mpr ⟨p, hp, rfl⟩), by simp [TriplesOk]⟩
    exact ⟨a, ns, rfl, hS, Nat.le_trans hl (by decide), ⟨tb _ m1, tb _ m2, tb _ m3⟩, fun v H' hv => hv⟩
  · have TB : ∀ p : He.Defn, p ∈ tf → GxR.TabB base mg (He.cT K p).1 (He.cT K p).2 := fun p hp => let t := hB _ (List.mem_map.mpr ⟨p, hp, rfl⟩); ⟨t.code, t.bm, t.gP⟩
    have R1 : Ratio1 PQ w K mg base := ⟨D_ratio.call (ok_ratio D_ratio.F T)⟩
    have R2 : Ratio2 PQ w K mg base := ⟨R1, D_plus.call (ok_plus D_plus.F R1), D_minus.call (ok_minus D_minus.F R1), D_by.call (ok_by D_by.F R1), D_over.call (ok_over D_over.F R1)⟩
    have R3 : Ratio3 PQ w K mg base := ⟨R2, D_entry.call (ok_entry D_entry.F T)⟩
    have R4 : Ratio4 PQ w K mg base := ⟨R3, D_growth.call (ok_growth D_growth.F R1), D_power.call (ok_power D_power.F T R2), D_span_of.call (ok_span_of D_span_of.F T), D_part_dying.call (ok_part_dying D_part_dying.F R1), D_net_alive.call (ok_net_alive D_net_alive.F T R3)⟩
    have R5 : Ratio5 PQ w K mg base := ⟨R4, D_reserves_of.call (ok_reserves_of D_reserves_of.F T R4), D_changed.call (ok_changed D_changed.F)⟩
    have N1 : Need1 PQ w K mg base _ := ⟨D_is_ratio.call (ok_is_ratio D_is_ratio.F (code_of D_is_ratio.F rfl) (TB _ m1) T), D_is_in.call (ok_is_in D_is_in.F T)⟩
    have N2 : Need2 PQ w K mg base _ (He.cT K ("need_payments", none)).2 _ := ⟨N1, D_are_lives.call (ok_are_lives D_are_lives.F (code_of D_are_lives.F rfl) (TB _ m3) T N D_is_in.F D_is_in.g)⟩
    have N3 : Need3 PQ w K mg base _ _ _ := ⟨N2, D_need_rate.call (ok_need_rate D_need_rate.F T N N1), D_need_premium.call (ok_need_premium D_need_premium.F T N N1), D_need_time.call (ok_need_time D_need_time.F N1), D_need_payments.call (ok_need_payments D_need_payments.F (code_of D_need_payments.F rfl) (TB _ m2) T N D_is_in.F D_is_in.g), D_need_lives.call (ok_need_lives D_need_lives.F N2), D_need_age.call (ok_need_age D_need_age.F T N1)⟩
    have Q1 : Prog1 PQ w K mg base _ _ _ := ⟨R5, N3, D_fair_of.call (ok_fair_of D_fair_of.F R5), D_need_policy.call (ok_need_policy D_need_policy.F T N N3)⟩
    have L1 : Law1 PQ w K mg base := ⟨D__law_ratio.call (ok_l_ratio D__law_ratio.F T)⟩
    have L2a : Law2 PQ w K mg base := ⟨L1, D__law_plus.call (ok_l_plus D__law_plus.F L1), D__law_by.call (ok_l_by D__law_by.F L1), D__law_below.call (ok_l_below D__law_below.F), D__law_span.call (ok_l_span D__law_span.F T), D__law_entry.call (ok_l_entry D__law_entry.F T)⟩
    have L3 : Law3 PQ w K mg base := ⟨L2a, D__law_net.call (ok_l_net D__law_net.F L2a), D__law_step.call (ok_l_step D__law_step.F T L2a)⟩
    have M1 : LawM1 PQ w K mg base := ⟨D__law_taken.call (ok_taken D__law_taken.F T)⟩
    have M2 : LawM2 PQ w K mg base := ⟨M1, D__law_pick.call (ok_pick D__law_pick.F T M1)⟩
    have M3 : LawM3 PQ w K mg base := { toLawM2 := M2, _law_ratio := L1._law_ratio, _law_rate := D__law_rate.call (ok_l_rate D__law_rate.F M2), _law_lives := D__law_lives.call (ok_l_lives D__law_lives.F T M2) }
    have A0' : Callee PQ w K mg base "_law_alike" 1 ["_law_found", "_law_due"] (spA A0) := D__law_alike.call (ok_al0 D__law_alike.F T (never D__law_alike.g D__law_alike.F.kp D__law_alike.b))
    have A1' : Callee PQ w K mg base "_law_alike" 2 ["_law_found", "_law_due"] (spA (AT K A0)) := D__law_alike.call (ok_alT D__law_alike.F T a0_mono A0')
    have A2' : Callee PQ w K mg base "_law_alike" 3 ["_law_found", "_law_due"] (spA (AT K (AT K A0))) := D__law_alike.call (ok_alT D__law_alike.F T (aT_mono a0_mono) A1')
    have LA : LawAll PQ w K mg base _ _ _ := { toLawM3 := M3, _law_plus := L2a._law_plus, _law_by := L2a._law_by, _law_below := L2a._law_below, _law_span := L2a._law_span, _law_entry := L2a._law_entry, _law_net := L3._law_net, _law_step := L3._law_step, fair_premium := D_fair_premium.call (ok_fair_premium D_fair_premium.F Q1), reserves := D_reserves.call (ok_reserves D_reserves.F T Q1), critical := D_critical.call (ok_critical D_critical.F T Q1), _law_from := D__law_from.call (ok_l_from D__law_from.F T L3), _law_policy := D__law_policy.call (ok_l_policy D__law_policy.F T M3), _law_alike := A2' }
    exact ok_law D_law.F T LA
end K21
set_option maxHeartbeats 0
open PySem PySem.W PySem.Calls PyProof.Rows
theorem PySem.Challenge.cw_actuarium_k21_whole_critical_numbers_holds : PySem.Challenge.rw_actuarium_k21_whole_critical_numbers.Holds := by
  w_on; o_law
  refine HandSHeadRun.head_imp (r := K21.R) (q := K21.qv) (H := K21.hk) (ob := K21.ob) (M := 6000) (loose := K21.loose) (d := HandSHeadRun.topDef K21.R.prog 69) (kwd := []) K21.ob_eq K21.run
    (by kernel_rfl) (by kernel_rfl) (by kernel_rfl) (by rfl) (by first | assumption | decide +kernel) (by decide +kernel) ⟨rfl, rfl, rfl, rfl, rfl, by decide +kernel⟩ ?hw ?hc
  case hw => w_witness2
  case hc =>
    refine LamX.walk_ofTsE (l := PySem.Challenge.rw_actuarium_k21_whole_critical_numbers) (n := 63) (k := 7) (x := "_law_script") (CX := fun _ => L2.CX0) rfl (by decide) (by kernel_rfl) ⟨rfl, by decide, by decide⟩ ?F (fun _ _ _ _ _ z => z)
    intro w mg fa h Y G hmg0
    obtain ⟨K, KX, c⟩ := Y
    have hmg : mg ("law" : PySem.Str) = some (.ref fa) := by
      have e : (HandSHeadRun.topDef K21.R.prog 69).name = ("law" : PySem.Str) := by kernel_rfl
      rw [← e]
      exact hmg0
    exact ⟨K, KX, K21.law_at KX c G hmg⟩
