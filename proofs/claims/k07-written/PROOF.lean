import PyProof.Rows.All
import Wide.All
import OpenK.AllK
import Wide.FinOn
import HandS.ForMost
import HandS.ForExc
import HandS.Evl
import HandS.IsInst
import HandS.Wide
import HandS.Style
import HandS.Steps
import HandS.ExcCtx
import HandS.HotCalls
import HandS.ExcIs
import HandS.CallLocal
import HandS.SuiteRaise
import HandS.WordsExc
import HandS.Conv
import HandS.Codes
import HandS.Text
import HandS.StrMore
import HandS.Strs
import HandS.SortRule
import HandS.SortInts
import HandS.More
import PySem.Challenge.RW_wheelrow_k07_written
set_option Elab.async false
set_option linter.all false
set_option maxRecDepth 100000
set_option maxHeartbeats 4000000
namespace Wl
/-- the part that goes into both -/
def pt (a b : Int) : Int := (Int.gcd a b : Int)
theorem pt_step (a b : Int) : pt b (a % b) = pt a b := by
  unfold pt
  have h : a % b = a - (a / b) * b := by
    have := Int.emod_add_mul_ediv a b
    rw [Int.mul_comm (a / b) b]; omega
  rw [h, Int.gcd_sub_mul_right_right, Int.gcd_comm]
theorem pt_zero (a : Int) (h : 0 ≤ a) : pt a 0 = a := by
  unfold pt
  rw [Int.gcd_zero_right]
  omega
theorem pt_abs (a b : Int) : pt (if a < 0 then -a else a) (if b < 0 then -b else b) = pt a b := by
  unfold pt
  split <;> split <;> simp
theorem pt_nn (a b : Int) : 0 ≤ pt a b := Int.natCast_nonneg _
theorem pt_dvd_l (a b : Int) : pt a b ∣ a := Int.gcd_dvd_left ..
theorem pt_dvd_r (a b : Int) : pt a b ∣ b := Int.gcd_dvd_right ..
theorem dvd_pt {a b c : Int} (h1 : c ∣ a) (h2 : c ∣ b) : c ∣ pt a b := Int.dvd_coe_gcd h1 h2
theorem pt_pos_r (a : Int) {b : Int} (h : 0 < b) : 0 < pt a b := by
  have h1 := pt_nn a b
  have h2 := pt_dvd_r a b
  have : pt a b ≠ 0 := by
    intro e
    rw [e] at h2
    have := Int.zero_dvd.mp h2
    omega
  omega
theorem pt_le_r (a : Int) {b : Int} (h : 0 < b) : pt a b ≤ b := Int.le_of_dvd h (pt_dvd_r a b)
theorem fmod_eq (a b : Int) : a.fmod b = a - a.fdiv b * b := by
  rw [Int.fmod_def, Int.mul_comm]
theorem pt_stepF (a b : Int) : pt b (a - a.fdiv b * b) = pt a b := by
  unfold pt
  rw [Int.gcd_sub_mul_right_right, Int.gcd_comm]
/-- the state of shares_of: here = (a, x, y), there = (b, u, v) -/
structure Sh (one other a x y b u v : Int) : Prop where
  ha : a = x * one + y * other
  hb : b = u * one + v * other
  hg : pt a b = pt one other
  hs : (a = one ∧ x = 1 ∧ y = 0 ∧ b = other ∧ u = 0 ∧ v = 1) ∨
    (a.natAbs ≤ other.natAbs ∧ b.natAbs < a.natAbs ∧ ((0 ≤ a ∧ 0 ≤ b) ∨ (a ≤ 0 ∧ b ≤ 0)) ∧ x.natAbs ≤ other.natAbs ∧ x.natAbs * b.natAbs + u.natAbs * a.natAbs ≤ other.natAbs)
theorem Sh.start (one other : Int) : Sh one other one 1 0 other 0 1 := ⟨by omega, by omega, rfl, .inl ⟨rfl, rfl, rfl, rfl, rfl, rfl⟩⟩
theorem mod_lt {a b : Int} (hb : b ≠ 0) : (a - a.fdiv b * b).natAbs < b.natAbs ∧ ((0 ≤ b ∧ 0 ≤ a - a.fdiv b * b) ∨ (b ≤ 0 ∧ a - a.fdiv b * b ≤ 0)) := by
  rw [← fmod_eq]
  by_cases h : 0 < b
  · have h1 := Int.fmod_lt_of_pos a h
    have h2 := Int.fmod_nonneg_of_pos a h
    omega
  · have hn : 0 < -b := by omega
    have h1 := Int.fmod_lt_of_pos (-a) hn
    have h2 := Int.fmod_nonneg_of_pos (-a) hn
    rw [Int.neg_fmod_neg] at h1 h2
    omega
theorem div_abs {a b : Int} (hb : b ≠ 0) (s : (0 ≤ a ∧ 0 ≤ b) ∨ (a ≤ 0 ∧ b ≤ 0)) : (a - a.fdiv b * b).natAbs + (a.fdiv b).natAbs * b.natAbs = a.natAbs := by
  have ⟨h1, h2⟩ := mod_lt (a := a) hb
  have hq : 0 ≤ a.fdiv b := by
    rcases s with ⟨p, q⟩ | ⟨p, q⟩
    · exact Int.fdiv_nonneg p q
    · rw [← Int.neg_fdiv_neg]
      exact Int.fdiv_nonneg (by omega) (by omega)
  generalize hr : a - a.fdiv b * b = r at *
  generalize a.fdiv b = q at *
  have e : q.natAbs * b.natAbs = (q * b).natAbs := (Int.natAbs_mul q b).symm
  rw [e]
  have hs : (0 ≤ b → 0 ≤ q * b) ∧ (b ≤ 0 → q * b ≤ 0) := ⟨fun z => Int.mul_nonneg hq z, fun z => Int.mul_nonpos_of_nonneg_of_nonpos hq z⟩
  generalize q * b = m at *
  omega
theorem Sh.step {one other a x y b u v : Int} (h : Sh one other a x y b u v) (hb : b ≠ 0) :
    Sh one other b u v (a - a.fdiv b * b) (x - a.fdiv b * u) (y - a.fdiv b * v) ∧ (a - a.fdiv b * b).natAbs < b.natAbs := by
  have ⟨h1, h2⟩ := mod_lt (a := a) hb
  refine ⟨⟨h.hb, ?_, ?_, .inr ⟨?_, h1, h2, ?_, ?_⟩⟩, h1⟩
  · have e1 := h.ha
    have e2 := h.hb
    generalize a.fdiv b = q
    subst e1 e2
    grind
  · rw [pt_stepF, h.hg]
  · rcases h.hs with ⟨_, _, _, e, _, _⟩ | ⟨e1, e2, _⟩
    · rw [e]; omega
    · omega
  · rcases h.hs with ⟨_, _, _, e, e5, _⟩ | ⟨e1, e2, e3, e4, e5⟩
    · rw [e5]; simp
    · have : u.natAbs * 1 ≤ u.natAbs * a.natAbs := Nat.mul_le_mul_left _ (by omega)
      omega
  · rcases h.hs with ⟨_, ex, _, e, eu, _⟩ | ⟨e1, e2, e3, e4, e5⟩
    · rw [eu, ex, e]; simp
    · have e := div_abs hb e3
      have e6 : (x - a.fdiv b * u).natAbs ≤ x.natAbs + (a.fdiv b).natAbs * u.natAbs := by
        rw [← Int.natAbs_mul]
        omega
      have e7 : (x - a.fdiv b * u).natAbs * b.natAbs ≤ (x.natAbs + (a.fdiv b).natAbs * u.natAbs) * b.natAbs := Nat.mul_le_mul_right _ e6
      generalize (a - a.fdiv b * b).natAbs = R at *
      generalize (a.fdiv b).natAbs = Qn at *
      generalize (x - a.fdiv b * u).natAbs = Y at *
      have e8 : u.natAbs * a.natAbs = u.natAbs * R + u.natAbs * (Qn * b.natAbs) := by rw [← Nat.mul_add, e]
      have e9 : (x.natAbs + Qn * u.natAbs) * b.natAbs = x.natAbs * b.natAbs + u.natAbs * (Qn * b.natAbs) := by
        rw [Nat.add_mul, Nat.mul_comm Qn u.natAbs, Nat.mul_assoc]
      omega
/-- what shares_of tells -/
structure Shares (one other g x y : Int) : Prop where
  eq : g = pt one other
  lin : g = x * one + y * other
  sm : x.natAbs ≤ other.natAbs + 1
theorem Sh.done {one other a x y u v : Int} (h : Sh one other a x y 0 u v) : (¬ a < 0 → Shares one other a x y) ∧ (a < 0 → Shares one other (-a) (-x) (-y)) := by
  have e := h.hg
  have hx : x.natAbs ≤ other.natAbs + 1 := by
    rcases h.hs with ⟨_, ex, _⟩ | ⟨_, _, _, z, _⟩
    · rw [ex]; simp
    · omega
  have ha := h.ha
  refine ⟨fun p => ⟨?_, ha, hx⟩, fun p => ⟨?_, ?_, ?_⟩⟩
  · rw [← e, pt_zero a (by omega)]
  · rw [← e]
    unfold pt
    rw [Int.gcd_zero_right]
    omega
  · rw [ha]; grind
  · omega
end Wl
namespace Wl
/-! ### back -/
def barsF (g n t : Int) : Bool := decide (1 < g) && (decide (n % g = 0) && decide (t % g = 0))
def backF (r n t : Int) : Bool := (decide (0 ≤ r) && decide (r < t)) && decide ((r * n - 1) % t = 0)
def backD (r n t : Int) : Bool := (decide (0 ≤ r) && decide (r < t)) && decide (r * n % t = 1 % t)
theorem backD_eq (r n t : Int) : backD r n t = backF r n t := by
  unfold backD backF
  rw [decide_eq_decide.mpr (Int.emod_eq_emod_iff_emod_sub_eq_zero (m := r * n) (n := t) (k := 1))]
def BarOk (g n t : Int) : Prop := 1 < g ∧ g ∣ n ∧ g ∣ t
def BackOk (r n t : Int) : Prop := 0 ≤ r ∧ r < t ∧ t ∣ r * n - 1
theorem Shares.bar {n t g x y : Int} (s : Shares n t g x y) (h : 1 < g) : BarOk g n t := by
  rw [s.eq] at h ⊢
  exact ⟨h, pt_dvd_l n t, pt_dvd_r n t⟩
theorem Shares.back {n t g x y : Int} (s : Shares n t g x y) (h : g ≤ 1) (ht : 1 ≤ t) : BackOk (x % t) n t := by
  have h1 := pt_pos_r n (b := t) (by omega)
  have hg : g = 1 := by have := s.eq; omega
  refine ⟨Int.emod_nonneg _ (by omega), Int.emod_lt_of_pos _ (by omega), ?_⟩
  have hl := s.lin
  rw [hg] at hl
  have e : x % t = x - t * (x / t) := Int.emod_def x t
  refine ⟨-(x / t) * n - y, ?_⟩
  rw [e]
  grind
theorem BarOk.F {g n t : Int} (h : BarOk g n t) : barsF g n t = true := by
  unfold barsF
  rw [decide_eq_true h.1, decide_eq_true (Int.emod_eq_zero_of_dvd h.2.1), decide_eq_true (Int.emod_eq_zero_of_dvd h.2.2)]
  rfl
theorem BarOk.far {g n t : Int} (h : BarOk g n t) (c : Int) : BarOk g (n + c * t) t := ⟨h.1, Int.dvd_add h.2.1 (Int.dvd_mul_of_dvd_right h.2.2), h.2.2⟩
theorem BackOk.F {r n t : Int} (h : BackOk r n t) : backF r n t = true := by
  unfold backF
  rw [decide_eq_true h.1, decide_eq_true h.2.1, decide_eq_true (Int.emod_eq_zero_of_dvd h.2.2)]
  rfl
theorem BackOk.far {r n t : Int} (h : BackOk r n t) (c : Int) : BackOk r (n + c * t) t := by
  refine ⟨h.1, h.2.1, ?_⟩
  obtain ⟨k, hk⟩ := h.2.2
  exact ⟨k + r * c, by rw [Int.mul_add]; grind⟩
end Wl
namespace Wl
/-! ### common parts -/
def dot : List Int → List Int → Int
  | n :: ns, t :: ts => n * t + dot ns ts
  | _, _ => 0
theorem dot_snoc : ∀ {ns ts : List Int} (n t : Int), ns.length = ts.length → dot (ns ++ [n]) (ts ++ [t]) = dot ns ts + n * t
  | [], [], n, t, _ => by simp [dot]
  | a :: ns, b :: ts, n, t, h => by
    have ih := dot_snoc (ns := ns) (ts := ts) n t (by simpa using h)
    simp only [List.cons_append, dot, ih]
    omega
  | [], _ :: _, _, _, h => by simp at h
  | _ :: _, [], _, _, h => by simp at h
theorem dot_mul : ∀ (ns ts : List Int) (x : Int), dot ns (ts.map (· * x)) = dot ns ts * x
  | [], _, x => by simp [dot]
  | _ :: _, [], x => by simp [dot]
  | a :: ns, b :: ts, x => by
    simp only [List.map_cons, dot, dot_mul ns ts x, Int.add_mul, Int.mul_assoc]
theorem dot_range : ∀ {ns ts : List Int}, ns.length = ts.length → ((List.range ns.length).map fun k => ns.getD k 0 * ts.getD k 0).sum = dot ns ts
  | [], [], _ => rfl
  | a :: ns, b :: ts, h => by
    have ih := dot_range (ns := ns) (ts := ts) (by simpa using h)
    rw [List.length_cons, List.range_succ_eq_map, List.map_cons, List.map_map, List.sum_cons]
    simp only [dot, ← ih]
    rfl
  | [], _ :: _, h => by simp at h
  | _ :: _, [], h => by simp at h
/-- a common part p of ns, and how often each makes it -/
structure CommonOk (p : Int) (ts ns : List Int) : Prop where
  nn : 0 ≤ p
  len : ts.length = ns.length
  sum : dot ns ts = p
  dvd : ∀ n ∈ ns, p ∣ n
def dueC (p : Int) (ts ns : List Int) : Bool := !(decide (p < 0) || !decide (ts.length = ns.length)) && (decide (dot ns ts = p) && ns.all fun n => if p = 0 then decide (n = 0) else decide (n % p = 0))
theorem CommonOk.due {p : Int} {ts ns : List Int} (h : CommonOk p ts ns) : dueC p ts ns = true := by
  have h1 : ¬ p < 0 := by have := h.nn; omega
  unfold dueC
  rw [decide_eq_false h1, decide_eq_true h.len, decide_eq_true h.sum]
  simp only [Bool.not_true, Bool.or_self, Bool.not_false, Bool.true_and, List.all_eq_true]
  intro n hn
  have hd := h.dvd n hn
  split
  · rename_i e
    rw [e] at hd
    exact decide_eq_true (Int.zero_dvd.mp hd)
  · exact decide_eq_true (Int.emod_eq_zero_of_dvd hd)
theorem CommonOk.nil : CommonOk 0 [] [] := ⟨Int.le_refl _, rfl, rfl, fun _ h => nomatch h⟩
theorem CommonOk.more {p n g x y : Int} {ts ns : List Int} (h : CommonOk p ts ns) (s : Shares p n g x y) : CommonOk g (ts.map (· * x) ++ [y]) (ns ++ [n]) := by
  refine ⟨by rw [s.eq]; exact pt_nn _ _, by simp [h.len], ?_, fun m hm => ?_⟩
  · rw [dot_snoc _ _ (by simp [h.len]), dot_mul, h.sum, s.lin, Int.mul_comm p x, Int.mul_comm n y]
  · rcases List.mem_append.mp hm with hm | hm
    · rw [s.eq]
      exact Int.dvd_trans (pt_dvd_l p n) (h.dvd m hm)
    · rw [List.mem_singleton.mp hm, s.eq]
      exact pt_dvd_r p n
theorem CommonOk.same {p n g x y : Int} {ts ns : List Int} (h : CommonOk p ts ns) (s : Shares p n g x y) (e : g = p) : CommonOk p (ts ++ [0]) (ns ++ [n]) := by
  refine ⟨h.nn, by simp [h.len], ?_, fun m hm => ?_⟩
  · rw [dot_snoc _ _ h.len.symm, h.sum]
    omega
  · rcases List.mem_append.mp hm with hm | hm
    · exact h.dvd m hm
    · rw [List.mem_singleton.mp hm, ← e, s.eq]
      exact pt_dvd_r p n
theorem pt_le {p n b : Int} (h0 : 0 ≤ p) (hp : p ≤ b) (hn : n.natAbs ≤ b.natAbs) (hb : 0 ≤ b) : pt p n ≤ b := by
  by_cases e : n = 0
  · rw [e, pt_zero p h0]
    exact hp
  · have h := pt_dvd_r p n
    have h2 : pt p n ∣ (n.natAbs : Int) := Int.dvd_natAbs.mpr h
    have := Int.le_of_dvd (by omega) h2
    omega
theorem CommonOk.far {p : Int} {ts ns : List Int} (h : CommonOk p ts ns) : dueC p (ts ++ [0]) ns = false := by
  unfold dueC
  have : ¬ (ts ++ [0]).length = ns.length := by
    rw [List.length_append, h.len]
    simp
  rw [decide_eq_false this]
  simp
end Wl
namespace Wl
/-! ### told: numbers by their rests -/
theorem bez : ∀ (k : Nat) (a b : Int), b.natAbs ≤ k → ∃ x y, pt a b = x * a + y * b
  | 0, a, b, h => by
    have e : b = 0 := by omega
    subst e
    unfold pt
    rw [Int.gcd_zero_right]
    by_cases h : 0 ≤ a
    · exact ⟨1, 0, by omega⟩
    · exact ⟨-1, 0, by omega⟩
  | k + 1, a, b, h => by
    by_cases e : b = 0
    · exact bez k a b (by omega)
    · have h1 := Int.emod_lt a e
      have h0 := Int.emod_nonneg a e
      obtain ⟨x, y, hxy⟩ := bez k b (a % b) (by omega)
      have hm := Int.emod_add_mul_ediv a b
      refine ⟨y, x - a / b * y, ?_⟩
      rw [← pt_step, hxy]
      have e2 : a % b = a - b * (a / b) := by omega
      rw [e2]
      generalize a / b = q
      grind
/-- what the common parts of t with a and with b go into, that of t with w goes into: w the least into which a and b go -/
theorem pt_two {a b t m w : Int} (ha : pt a t ∣ m) (hb : pt b t ∣ m) (hd : pt a b ≠ 0) (hw : w = a / pt a b * b) : pt w t ∣ m := by
  obtain ⟨x1, y1, e1⟩ := bez _ a t (Nat.le_refl _)
  obtain ⟨x2, y2, e2⟩ := bez _ b t (Nat.le_refl _)
  obtain ⟨α, β, e3⟩ := bez _ a b (Nat.le_refl _)
  obtain ⟨k1, h1⟩ := ha
  obtain ⟨k2, h2⟩ := hb
  obtain ⟨a', ea⟩ := pt_dvd_l a b
  obtain ⟨b', eb⟩ := pt_dvd_r a b
  have hq : a / pt a b = a' := by
    conv => lhs; lhs; rw [ea]
    exact Int.mul_ediv_cancel_left a' hd
  rw [hq] at hw
  generalize hdd : pt a b = d at *
  -- m = a u + t v = b u2 + t v2
  have m1 : m = a * (x1 * k1) + t * (y1 * k1) := by rw [h1, e1]; grind
  have m2 : m = b * (x2 * k2) + t * (y2 * k2) := by rw [h2, e2]; grind
  have one : α * a' + β * b' = 1 := by
    have : d * (α * a' + β * b') = d * 1 := by
      have e4 : d = α * (d * a') + β * (d * b') := by rw [← ea, ← eb]; exact e3
      have e5 : d * (α * a' + β * b') = α * (d * a') + β * (d * b') := by grind
      omega
    exact Int.eq_of_mul_eq_mul_left hd this
  have fin : m = w * (α * (x2 * k2) + β * (x1 * k1)) + t * (α * a' * (y2 * k2) + β * b' * (y1 * k1)) := by
    have s1 : m = (α * a' + β * b') * m := by rw [one, Int.one_mul]
    have s2 : (α * a' + β * b') * m = α * a' * m + β * b' * m := by grind
    have s3 : α * a' * m = α * a' * (b * (x2 * k2) + t * (y2 * k2)) := by rw [← m2]
    have s4 : β * b' * m = β * b' * (a * (x1 * k1) + t * (y1 * k1)) := by rw [← m1]
    have hab : a' * b = b' * a := by
      have : a' * (d * b') = b' * (d * a') := by grind
      rw [ea, eb]; exact this
    have hw2 : w = b' * a := by rw [hw, hab]
    rw [s2, s3, s4] at s1
    rw [s1]
    have t1 : α * a' * (b * (x2 * k2) + t * (y2 * k2)) = α * (a' * b) * (x2 * k2) + t * (α * a' * (y2 * k2)) := by grind
    have t2 : β * b' * (a * (x1 * k1) + t * (y1 * k1)) = β * (b' * a) * (x1 * k1) + t * (β * b' * (y1 * k1)) := by grind
    rw [t1, t2, hab, ← hw2]
    grind
  rw [fin]
  exact Int.dvd_add (Int.dvd_mul_of_dvd_left (pt_dvd_l w t)) (Int.dvd_mul_of_dvd_left (pt_dvd_r w t))
/-- a rest by a round -/
def RstOk (p : Int × Int) : Prop := 0 ≤ p.1 ∧ p.1 < p.2 ∧ p.2 ≤ 1000000
/-- the least number into which all rounds go -/
def lcmOf (rs : List (Int × Int)) : Int := rs.foldl (fun w p => w / pt w p.2 * p.2) 1
theorem lcmOf_snoc (rs : List (Int × Int)) (p : Int × Int) : lcmOf (rs ++ [p]) = lcmOf rs / pt (lcmOf rs) p.2 * p.2 := by
  unfold lcmOf
  rw [List.foldl_append]
  rfl
theorem lcm_step {w t : Int} (hw : 0 < w) (ht : 0 < t) : 0 < w / pt w t * t ∧ w ∣ w / pt w t * t ∧ t ∣ w / pt w t * t ∧ w * t / pt w t = w / pt w t * t ∧ w / pt w t * t = w * (t / pt w t) := by
  have hp := pt_pos_r w ht
  obtain ⟨w', ew⟩ := pt_dvd_l w t
  obtain ⟨t', et⟩ := pt_dvd_r w t
  have h1 : w / pt w t = w' := by
    conv => lhs; lhs; rw [ew]
    exact Int.mul_ediv_cancel_left w' (by omega)
  have h2 : t / pt w t = t' := by
    conv => lhs; lhs; rw [et]
    exact Int.mul_ediv_cancel_left t' (by omega)
  have hw' : 0 < w' := by
    have : 0 < pt w t * w' := by rw [← ew]; exact hw
    exact Int.pos_of_mul_pos_right this (by omega)
  rw [h1, h2]
  generalize pt w t = g at *
  have e3 : w' * t = w * t' := by rw [ew, et]; grind
  refine ⟨Int.mul_pos hw' ht, ⟨t', e3⟩, ⟨w', Int.mul_comm _ _⟩, ?_, e3⟩
  have : w * t = g * (w' * t) := by rw [ew]; grind
  rw [this]
  exact Int.mul_ediv_cancel_left _ (by omega)
/-- all rests hold of n, by the round w -/
structure ToldOk (rs : List (Int × Int)) (n w : Int) : Prop where
  w0 : w = lcmOf rs
  pos : 0 < w
  n0 : 0 ≤ n
  n1 : n < w
  dw : ∀ p ∈ rs, p.2 ∣ w
  lv : ∀ p ∈ rs, p.2 ∣ n - p.1
theorem ToldOk.nil : ToldOk [] 0 1 := ⟨rfl, by decide, by decide, by decide, fun _ h => (nomatch h), fun _ h => (nomatch h)⟩
/-- the common part of w with t goes into what those of the rounds with t go into -/
theorem lcm_part (t m : Int) : ∀ (rs : List (Int × Int)) (w : Int), (∀ p ∈ rs, RstOk p) → 0 < w → pt w t ∣ m → (∀ p ∈ rs, pt p.2 t ∣ m) → pt (rs.foldl (fun w p => w / pt w p.2 * p.2) w) t ∣ m
  | [], w, _, _, h, _ => h
  | p :: rs, w, ho, hw, h, hr => by
    have hp := ho p List.mem_cons_self
    have hp2 : 0 < p.2 := by have := hp.1; have := hp.2.1; omega
    refine lcm_part t m rs _ (fun q hq => ho q (List.mem_cons_of_mem _ hq)) (lcm_step hw hp2).1 ?_ fun q hq => hr q (List.mem_cons_of_mem _ hq)
    exact pt_two h (hr p List.mem_cons_self) (by have := pt_pos_r w hp2; omega) rfl
theorem pt_one (t : Int) : pt 1 t = 1 := by
  unfold pt
  rw [Int.gcd_eq_natAbs_gcd_natAbs]
  simp
/-- where the rest does not fit, one of the rests ahead clashes -/
theorem told_clash {rs : List (Int × Int)} {n w r t : Int} (h : ToldOk rs n w) (ho : ∀ p ∈ rs, RstOk p) (hc : ¬ (r - n) % pt w t = 0) : ∃ p ∈ rs, ¬ (p.1 - r) % pt p.2 t = 0 := by
  refine Classical.byContradiction fun hn => hc ?_
  have hall : ∀ p ∈ rs, pt p.2 t ∣ r - n := fun p hp => by
    have h1 : (p.1 - r) % pt p.2 t = 0 := Classical.byContradiction fun z => hn ⟨p, hp, z⟩
    have h2 : pt p.2 t ∣ p.1 - r := Int.dvd_of_emod_eq_zero h1
    have h3 : pt p.2 t ∣ n - p.1 := Int.dvd_trans (pt_dvd_l p.2 t) (h.lv p hp)
    have h4 := Int.dvd_neg.mpr (Int.dvd_add h2 h3)
    have e : -(p.1 - r + (n - p.1)) = r - n := by omega
    rwa [e] at h4
  have h1 := lcm_part t (r - n) rs 1 ho (by decide) (by rw [pt_one]; exact Int.one_dvd _) hall
  rw [h.w0]
  exact Int.emod_eq_zero_of_dvd h1
/-- the next rest taken in -/
theorem ToldOk.more {rs : List (Int × Int)} {n w r t g x y : Int} (h : ToldOk rs n w) (hr : RstOk (r, t)) (s : Shares w t g x y) (hf : (r - n) % g = 0) :
    ToldOk (rs ++ [(r, t)]) ((n + w * ((r - n) / g * x % (t / g))) % (w / g * t)) (w / g * t) := by
  have ht : 0 < t := by have := hr.1; have := hr.2.1; dsimp only at *; omega
  have hg : g = pt w t := s.eq
  obtain ⟨p0, p1, p2, _, p4⟩ := lcm_step h.pos ht
  rw [← hg] at p0 p1 p2 p4
  have hgp : 0 < g := by rw [hg]; exact pt_pos_r w ht
  have key : ∀ m : Int, m ∣ w / g * t → ∀ z, m ∣ z - (n + w * ((r - n) / g * x % (t / g))) → m ∣ z - (n + w * ((r - n) / g * x % (t / g))) % (w / g * t) := fun m hm z hz => by
    have e := Int.emod_def (n + w * ((r - n) / g * x % (t / g))) (w / g * t)
    have e2 : z - (n + w * ((r - n) / g * x % (t / g))) % (w / g * t) = z - (n + w * ((r - n) / g * x % (t / g))) + (w / g * t) * ((n + w * ((r - n) / g * x % (t / g))) / (w / g * t)) := by omega
    rw [e2]
    exact Int.dvd_add hz (Int.dvd_mul_of_dvd_left hm)
  refine ⟨by rw [lcmOf_snoc, ← h.w0, hg], p0, Int.emod_nonneg _ (by omega), Int.emod_lt_of_pos _ p0, fun p hp => ?_, fun p hp => ?_⟩
  · rcases List.mem_append.mp hp with hp | hp
    · exact Int.dvd_trans (h.dw p hp) p1
    · rw [List.mem_singleton.mp hp]
      exact p2
  · have fl : ∀ m z : Int, m ∣ w / g * t → m ∣ z - (n + w * ((r - n) / g * x % (t / g))) → m ∣ (n + w * ((r - n) / g * x % (t / g))) % (w / g * t) - z := fun m z h1 h2 => by
      have := Int.dvd_neg.mpr (key m h1 z h2)
      have e : -(z - (n + w * ((r - n) / g * x % (t / g))) % (w / g * t)) = (n + w * ((r - n) / g * x % (t / g))) % (w / g * t) - z := by omega
      rwa [e] at this
    rcases List.mem_append.mp hp with hp | hp
    · refine fl _ _ (Int.dvd_trans (h.dw p hp) p1) ?_
      have h1 := h.lv p hp
      have h2 : p.2 ∣ w * ((r - n) / g * x % (t / g)) := Int.dvd_mul_of_dvd_left (h.dw p hp)
      have h3 := Int.dvd_neg.mpr (Int.dvd_add h1 h2)
      have e : -(n - p.1 + w * ((r - n) / g * x % (t / g))) = p.1 - (n + w * ((r - n) / g * x % (t / g))) := by omega
      rwa [e] at h3
    · rw [List.mem_singleton.mp hp]
      refine fl _ _ p2 ?_
      show t ∣ r - (n + w * ((r - n) / g * x % (t / g)))
      obtain ⟨q, hq⟩ := Int.dvd_of_emod_eq_zero hf
      have e1 : (r - n) / g = q := by rw [hq]; exact Int.mul_ediv_cancel_left q (by omega)
      rw [e1]
      have e2 : q * x % (t / g) = q * x - (t / g) * (q * x / (t / g)) := Int.emod_def _ _
      rw [e2]
      have hl := s.lin
      generalize q * x / (t / g) = c
      have e3 : w * (q * x - t / g * c) = q * (x * w) - w * (t / g) * c := by grind
      have e4 : x * w = g - y * t := by omega
      rw [e3, e4, ← p4]
      have e5 : r - (n + (q * (g - y * t) - w / g * t * c)) = (r - n - g * q) + t * (q * y + w / g * c) := by grind
      rw [e5, hq]
      have e6 : g * q - g * q + t * (q * y + w / g * c) = t * (q * y + w / g * c) := by omega
      rw [e6]
      exact Int.dvd_mul_right _ _
def numF (n t : Int) (rs : List (Int × Int)) : Bool := !(!decide (t = lcmOf rs) || !(decide (0 ≤ n) && decide (n < t))) && rs.all fun p => decide (n % p.2 = p.1)
theorem ToldOk.F {rs : List (Int × Int)} {n w : Int} (h : ToldOk rs n w) (ho : ∀ p ∈ rs, RstOk p) : numF n w rs = true := by
  unfold numF
  rw [decide_eq_true h.w0, decide_eq_true h.n0, decide_eq_true h.n1]
  simp only [Bool.and_self, Bool.not_true, Bool.or_self, Bool.not_false, Bool.true_and, List.all_eq_true, decide_eq_true_eq]
  intro p hp
  obtain ⟨k, hk⟩ := h.lv p hp
  have h1 := ho p hp
  have e : n = p.1 + p.2 * k := by omega
  rw [e, Int.add_mul_emod_self_left]
  exact Int.emod_eq_of_lt h1.1 h1.2.1
def clashF (i j : Int) (rs : List (Int × Int)) : Bool := (decide (0 ≤ i) && (decide (i < j) && decide (j < rs.length))) && !decide (((rs.getD i.toNat (0, 1)).1 - (rs.getD j.toNat (0, 1)).1) % pt (rs.getD i.toNat (0, 1)).2 (rs.getD j.toNat (0, 1)).2 = 0)
/-- the first place that clashes with the last one -/
structure ClashOk (i : Nat) (j : Nat) (rs : List (Int × Int)) : Prop where
  lt : i < j
  le : j < rs.length
  ne : ¬ ((rs.getD i (0, 1)).1 - (rs.getD j (0, 1)).1) % pt (rs.getD i (0, 1)).2 (rs.getD j (0, 1)).2 = 0
theorem ClashOk.F {i j : Nat} {rs : List (Int × Int)} (h : ClashOk i j rs) : clashF (i : Int) (j : Int) rs = true := by
  have h1 := h.lt
  have h2 := h.le
  unfold clashF
  rw [decide_eq_true (show (0 : Int) ≤ i by omega), decide_eq_true (show (i : Int) < j by omega), decide_eq_true (show (j : Int) < rs.length by omega), Int.toNat_natCast, Int.toNat_natCast, decide_eq_false h.ne]
  rfl
end Wl
namespace Wl
open PySem PySem.Spec PyProof.Rows L2 Evl
/-! ### a def that keeps a promise -/
/-- a promise by data: Pre of the arguments, Post of the heap ahead, the value, the heap behind -/
def spX {α : Type} (Pre : α → List V → Hp → Prop) (Post : α → Hp → V → Hp → Prop) : Sp := fun vs H Q _ => ∃ d, Pre d vs H ∧ ∀ v H', Ex H H' → Post d H v H' → Q v H'
structure Ok (P : Program) (w : World) (K : PySem.W.Frag) (mg : Str → Option Value) (base : Heap) (k : Nat) (f : Addr) (fd : FuncData) (ps : List Str) (sp : Sp) : Prop where
  (ok : FnOk P w K mg base CX0 k f fd ps sp) (bi : Binds K fd ps []) (kp : PySem.W.keepIn K (.ref f) = true)
abbrev Okk (P : Program) (w : World) (K : PySem.W.Frag) (mg : Str → Option Value) (base : Heap) (k : Nat) (f : Addr) (ps : List Str) (sp : Sp) : Prop := ∃ fd, Ok P w K mg base k f fd ps sp
/-- its body walked, wherever it is called: nothing is let out -/
abbrev BodyIn (P : Program) (w : World) (K : PySem.W.Frag) (mg : Str → Option Value) (base : Heap) (N : List Str) (qual : Str) (st : Stmt) (f : Addr) (k : Nat) (sp : Sp) : Prop :=
  ∀ (cd : Value) (B : Around) (out : List Env) (s : Shared) (H : Hp) (vs : List V) (Q : VK) (E : XK), Room k (B.deeper (envOfC qual (defScope st) s.heap.objs.size f cd)) → sp vs H Q E →
    ∃ t, PSs (cxOf CX0 P w K mg base N qual (defScope st) f cd B out s H E).nox (defBody st) t ∧ t { nx := fun _ H' => Q .non H', rt := Q } (start N vs) H
theorem okk {P : Program} {w : World} {K : PySem.W.Frag} {mg : Str → Option Value} {base : Heap} {x qual : Str} {st : Stmt} {f : Addr} {N ps : List Str} {k : Nat} {sp : Sp}
    (F : ∃ fd, Fun K x qual st f fd ∧ Binds K fd ps []) (S : FnScope N ps (defScope st)) (len : ∀ vs H Q E, sp vs H Q E → vs.length = ps.length) (body : BodyIn P w K mg base N qual st f k sp) : Okk P w K mg base (k + 1) f ps sp :=
  match F with
  | ⟨fd, F, b⟩ => ⟨fd, F.ok S len body, b, F.kp⟩

/-! ### what evaluates to what, with facts of the heap behind -/
def EvR (te : TE) (σ : L2.St) (H : Hp) (R : V → Hp → Prop) : Prop := ∀ H1, Ex H H1 → ∀ Q : VK, (∀ v H2, Ex H1 H2 → R v H2 → Q v H2) → te σ H1 Q
def EvAR (ta : TA) (σ : L2.St) (H : Hp) (R : List V → Hp → Prop) : Prop := ∀ H1, Ex H H1 → ∀ Q : List V → Hp → Prop, (∀ v H2, Ex H1 H2 → R v H2 → Q v H2) → ta σ H1 Q
section
variable {K : PySem.W.Frag} {σ : L2.St} {H H' : Hp} {ta tb tc te tx : TE} {t u : TT} {x y z v : V} {r r' : R2} {R R' S : V → Hp → Prop} {D : Ends} {tu tw tz : TS} {g : TG}
theorem EvR.mono (e : Ex H H') (h : EvR te σ H R) : EvR te σ H' R := fun H1 a Q q => h H1 (e.trans a) Q q
theorem EvR.imp (h : EvR te σ H R) (hi : ∀ v H2, Ex H H2 → R v H2 → R' v H2) : EvR te σ H R' := fun H1 a Q q => h H1 a Q fun v H2 e p => q v H2 e (hi v H2 (a.trans e) p)
theorem evr (h : Ev te σ H v) : EvR te σ H (fun x _ => x = v) := fun H1 a Q q => h H1 a Q fun H2 e => q v H2 e rfl
theorem EvR.ev (h : EvR te σ H R) (hi : ∀ x H2, Ex H H2 → R x H2 → x = v) : Ev te σ H v := fun H1 a Q q => h H1 a Q fun x H2 e p => by rw [hi x H2 (a.trans e) p]; exact q H2 e
theorem elr {xs : List V} (h : EvL te σ H xs) : EvR te σ H (fun v H2 => ∃ p, v = .ref p ∧ H p = none ∧ H2 p = some (.lst xs)) := fun H1 a Q q => h H1 a Q fun p H2 hp e h2 => q _ H2 e ⟨p, rfl, fresh_back a hp, h2⟩
theorem eur {xs : List V} (h : EvU te σ H xs) : EvR te σ H (fun v H2 => ∃ p, v = .ref p ∧ H p = none ∧ H2 p = some (.tup xs)) := fun H1 a Q q => h H1 a Q fun p H2 hp e h2 => q _ H2 e ⟨p, rfl, fresh_back a hp, h2⟩
/-- x, then whatever needs it -/
theorem er_op {Ra : V → Hp → Prop} {Rb : V → V → Hp → Prop} (ha : EvR ta σ H Ra) (hb : ∀ x H1, Ex H H1 → Ra x H1 → EvR tb σ H1 (Rb x))
    (hr : ∀ x y H1 H2, Ex H H1 → Ra x H1 → Ex H1 H2 → Rb x y H2 → ∀ Q : VK, (∀ v H3, Ex H2 H3 → R v H3 → Q v H3) → r x y H2 Q) : EvR (tOp r ta tb) σ H R := fun H1 e Q q =>
  ha H1 e _ fun x H2 e2 p => hb x H2 (e.trans e2) p H2 (Ex.refl _) _ fun y H3 e3 p3 => hr x y H2 H3 (e.trans e2) p e3 p3 Q fun v H4 e4 p4 => q v H4 ((e2.trans e3).trans e4) p4
/-- the first operand's value by facts, the second plain -/
theorem ev_opR {Ra : V → Hp → Prop} (ha : EvR ta σ H Ra) (hb : Ev tb σ H y) (hr : ∀ x H1, Ex H H1 → Ra x H1 → RV r x y H1 z) : Ev (tOp r ta tb) σ H z := fun H1 e Q q =>
  ha H1 e _ fun x H2 e2 p => hb H2 (e.trans e2) _ fun H3 e3 => hr x H2 (e.trans e2) p H3 e3 Q fun H4 e4 => q H4 ((e2.trans e3).trans e4)
/-- the second by facts -/
theorem ev_opR2 {Rb : V → Hp → Prop} (ha : Ev ta σ H x) (hb : EvR tb σ H Rb) (hr : ∀ y H1, Ex H H1 → Rb y H1 → RV r x y H1 z) : Ev (tOp r ta tb) σ H z := fun H1 e Q q =>
  ha H1 e _ fun H2 e2 => hb H2 (e.trans e2) _ fun y H3 e3 p => hr y H3 ((e.trans e2).trans e3) p H3 (Ex.refl _) Q fun H4 e4 => q H4 ((e2.trans e3).trans e4)
/-- both by facts -/
theorem ev_opRR {Ra Rb : V → Hp → Prop} (ha : EvR ta σ H Ra) (hb : EvR tb σ H Rb) (hr : ∀ x y H1 H2, Ex H H1 → Ra x H1 → Ex H1 H2 → Rb y H2 → RV r x y H2 z) : Ev (tOp r ta tb) σ H z := fun H1 e Q q =>
  ha H1 e _ fun x H2 e2 p => hb H2 (e.trans e2) _ fun y H3 e3 p3 => hr x y H2 H3 (e.trans e2) p e3 p3 H3 (Ex.refl _) Q fun H4 e4 => q H4 ((e2.trans e3).trans e4)
/-- a new list by two plain values (xs + ys, ..) -/
theorem er_opR {Ra Rb : V → Hp → Prop} (ha : EvR ta σ H Ra) (hb : EvR tb σ H Rb) (hr : ∀ x y H1 H2, Ex H H1 → Ra x H1 → Ex H1 H2 → Rb y H2 → ∀ Q : VK, (∀ v H3, Ex H2 H3 → R v H3 → Q v H3) → r x y H2 Q) : EvR (tOp r ta tb) σ H R :=
  er_op ha (fun _ _ e _ => hb.mono e) hr
theorem ev_chain {a b : Bool} (ha : Ev ta σ H x) (hb : Ev tb σ H y) (h1 : RV r x y H (.bl a)) (hc : a = true → Ev tc σ H z) (h2 : a = true → RV r' y z H (.bl b)) : Ev (tChain r r' ta tb tc) σ H (.bl (a && b)) := fun H1 e Q q =>
  ha H1 e _ fun H2 e2 => hb H2 (e.trans e2) _ fun H3 e3 => h1 H3 ((e.trans e2).trans e3) _ fun H4 e4 => ⟨a, rfl, by
    cases a with
    | false => exact q H4 ((e2.trans e3).trans e4)
    | true => exact hc rfl H4 (((e.trans e2).trans e3).trans e4) _ fun H5 e5 => h2 rfl H5 ((((e.trans e2).trans e3).trans e4).trans e5) Q fun H6 e6 => q H6 ((((e2.trans e3).trans e4).trans e5).trans e6)⟩
/-- fields -/
theorem ev_fld {a C dx : Addr} {fs : List (Str × V)} {f : Str} (ha : Ev ta σ H (.ref a)) (ho : H a = some (.ins C dx fs)) (c : Cls K C) (n : NoAttr K C f) (hl : fs.lookup f = some v) : Ev (tFld K ta f) σ H v := fun H1 e Q q =>
  ha H1 e _ fun H2 e2 => ⟨a, C, dx, fs, v, rfl, (e.trans e2) a _ ho, c, n, hl, q H2 e2⟩
theorem ev_fldR {C : Addr} {f : Str} (ha : EvR ta σ H R) (h : ∀ x H1, Ex H H1 → R x H1 → ∃ a dx fs, x = .ref a ∧ H1 a = some (.ins C dx fs) ∧ fs.lookup f = some v) (c : Cls K C) (n : NoAttr K C f) : Ev (tFld K ta f) σ H v := fun H1 e Q q =>
  ha H1 e _ fun x H2 e2 p => by
    obtain ⟨a, dx, fs, hx, ho, hl⟩ := h x H2 (e.trans e2) p
    exact ⟨a, C, dx, fs, v, hx, ho, c, n, hl, q H2 e2⟩
/-- arguments -/
theorem ear {vs : List V} {ta : TA} (h : EvA ta σ H vs) : EvAR ta σ H (fun x _ => x = vs) := fun H1 a Q q => h H1 a Q fun H2 e => q vs H2 e rfl
theorem ear_nil : EvAR tNil σ H (fun x _ => x = []) := ear ea_nil
theorem ear_cons {tr : TA} {T : List V → Hp → Prop} (h : EvR te σ H R) (hr : ∀ x H1, Ex H H1 → R x H1 → EvAR tr σ H1 (fun vs H2 => T (x :: vs) H2)) : EvAR (tCons te tr) σ H T := fun H1 e Q q =>
  h H1 e _ fun x H2 e2 p => hr x H2 (e.trans e2) p H2 (Ex.refl _) _ fun vs H3 e3 p3 => q _ H3 (e2.trans e3) p3
/-- one argument by facts -/
theorem ear_one (h : EvR te σ H R) : EvAR (tCons te tNil) σ H (fun vs H2 => ∃ x, vs = [x] ∧ R x H2) := fun H1 e Q q => h H1 e _ fun x H2 e2 p => q [x] H2 e2 ⟨x, rfl, p⟩
/-! built-ins -/
theorem er_cb {rr : List V → Hp → VK → Prop} {ta : TA} {T : List V → Hp → Prop} (h : EvAR ta σ H T) (hr : ∀ vs H1, Ex H H1 → T vs H1 → ∀ Q : VK, (∀ v H2, Ex H1 H2 → R v H2 → Q v H2) → rr vs H1 Q) : EvR (tCB rr ta) σ H R := fun H1 e Q q =>
  h H1 e _ fun vs H2 e2 p => hr vs H2 (e.trans e2) p Q fun v H3 e3 p3 => q v H3 (e2.trans e3) p3
theorem ev_cbR {rr : List V → Hp → VK → Prop} {ta : TA} {T : List V → Hp → Prop} (h : EvAR ta σ H T) (hr : ∀ vs H1, Ex H H1 → T vs H1 → ∀ Q : VK, Q z H1 → rr vs H1 Q) : Ev (tCB rr ta) σ H z := fun H1 e Q q =>
  h H1 e _ fun vs H2 e2 p => hr vs H2 (e.trans e2) p Q (q H2 e2)
theorem rc_abs {i : Int} : RC (fun xs H Q => ∃ i, xs = [V.int i] ∧ Q (.int (if i < 0 then -i else i)) H) [.int i] H (.int (if i < 0 then -i else i)) := fun H1 _ _ q => ⟨i, rfl, q H1 (Ex.refl H1)⟩
theorem rc_len {p : Addr} {xs : List V} (h : SqL K H p xs) : RC (fun xs H Q => ∃ p ys, xs = [V.ref p] ∧ (SqL K H p ys ∨ SqT K H p ys) ∧ Q (.int ys.length) H) [.ref p] H (.int (xs.length : Int)) := fun H1 e _ q => ⟨p, xs, rfl, .inl (ex_l e h), q H1 (Ex.refl H1)⟩
theorem rc_sum {p : Addr} {ns : List Int} (h : SqL K H p (ns.map V.int)) : RC (rSum K) [.ref p] H (.int ns.sum) := fun H1 e _ q => ⟨p, ns, rfl, ex_l e h, q H1 (Ex.refl H1)⟩
theorem ev_sumL {ns : List Int} {xs : List V} (h : EvL te σ H xs) (hx : xs = ns.map V.int) : Ev (tCB (rSum K) (tCons te tNil)) σ H (.int ns.sum) := fun H1 e Q q =>
  h H1 e _ fun p H2 _ e2 h2 => ⟨p, ns, rfl, by rw [← hx]; exact sq_of h2, q H2 e2⟩
theorem ev_allL {bs : List Bool} {xs : List V} (h : EvL te σ H xs) (hx : xs = bs.map V.bl) : Ev (tCB (rAll K) (tCons te tNil)) σ H (.bl (bs.all id)) := fun H1 e Q q =>
  h H1 e _ fun p H2 _ e2 h2 => ⟨p, bs, rfl, by rw [← hx]; exact sq_of h2, q H2 e2⟩
theorem ev_anyL {bs : List Bool} {xs : List V} (h : EvL te σ H xs) (hx : xs = bs.map V.bl) : Ev (tCB (rAny K) (tCons te tNil)) σ H (.bl (bs.any id)) := fun H1 e Q q =>
  h H1 e _ fun p H2 _ e2 h2 => ⟨p, bs, rfl, by rw [← hx]; exact sq_of h2, q H2 e2⟩
theorem ev_any {bs : List Bool} {p : Addr} (h : Ev te σ H (.ref p)) (hx : SqL K H p (bs.map V.bl)) : Ev (tCB (rAny K) (tCons te tNil)) σ H (.bl (bs.any id)) := fun H1 e Q q =>
  h H1 e _ fun H2 e2 => ⟨p, bs, rfl, ex_l (e.trans e2) hx, q H2 e2⟩
abbrev rTupOf (K : PySem.W.Frag) : List V → Hp → VK → Prop := fun xs H Q => ∃ p ys, xs = [.ref p] ∧ ((SqL K H p ys ∧ ∀ l, H l = none → Q (.ref l) (upd H l (.tup ys))) ∨ (SqT K H p ys ∧ Q (.ref p) H))
theorem eu_tupL {xs : List V} (h : EvL te σ H xs) : EvU (tCB (rTupOf K) (tCons te tNil)) σ H xs := fun H1 e Q q =>
  h H1 e _ fun p H2 _ e2 h2 => ⟨p, xs, rfl, .inl ⟨sq_of h2, fun l hl => q l _ (fresh_back e2 hl) (e2.trans (Ex.new hl)) upd_same⟩⟩
/-! isinstance -/
theorem tyx_up {tt : Value} (e : Ex H H') (h : TyX K H x tt) : TyX K H' x tt := by
  cases h with
  | base b =>
    refine .base ?_
    cases b with
    | non => exact .non
    | bl y => exact .bl y
    | int i => exact .int i
    | str y => exact .str y
    | flt y => exact .flt y
    | lst ea => exact .lst (e _ _ ea)
    | frz ea => exact .frz (e _ _ ea)
    | tup ea => exact .tup (e _ _ ea)
    | dK ea => exact .dK (e _ _ ea)
    | dT ea => exact .dT (e _ _ ea)
    | ins ea cl ha hn htk hm => exact .ins (e _ _ ea) cl ha hn htk hm
  | byt y => exact .byt y
  | set ea => exact .set (e _ _ ea)
  | kList ea c => exact .kList ea c
  | kTuple ea c => exact .kTuple ea c
  | kDict ea c => exact .kDict ea c
  | fTuple ea => exact .fTuple (e _ _ ea)
  | fDict ea => exact .fDict (e _ _ ea)
theorem ev_isi {c : V} {u tt : Value} {b : Bool} (ha : Ev ta σ H x) (hb : Ev tb σ H c) (hc : ClsV c u) (ht : TyX K H x tt) (hk : PySem.W.kitOne K tt u = some b) : Ev (tCB (rIsi K) (tCons ta (tCons tb tNil))) σ H (.bl b) := fun H1 e Q q =>
  ha H1 e _ fun H2 e2 => hb H2 (e.trans e2) _ fun H3 e3 => ⟨x, c, tt, u, b, rfl, hc, tyx_up ((e.trans e2).trans e3) ht, hk, q H3 (e2.trans e3)⟩
theorem ev_isiR {c : V} {u tt : Value} {b : Bool} (ha : EvR ta σ H R) (ht : ∀ x H1, Ex H H1 → R x H1 → TyX K H1 x tt) (hb : Ev tb σ H c) (hc : ClsV c u) (hk : PySem.W.kitOne K tt u = some b) : Ev (tCB (rIsi K) (tCons ta (tCons tb tNil))) σ H (.bl b) := fun H1 e Q q =>
  ha H1 e _ fun x H2 e2 p => hb H2 (e.trans e2) _ fun H3 e3 => ⟨x, c, tt, u, b, rfl, hc, tyx_up e3 (ht x H2 (e.trans e2) p), hk, q H3 (e2.trans e3)⟩
/-- what isinstance asks of a class of one's own -/
structure IsC (K : PySem.W.Frag) (C : Addr) : Prop where
  (cl : Cls K C) (ha : PySem.W.findIn K (.ref C) "__class__" = some (some (.builtin "object.__class__"))) (hm : PySem.W.mroIn K C (.type "object") = some true)
structure IsG (K : PySem.W.Frag) : Prop where
  (hn : PySem.W.specialIn K (.builtin "object.__class__") "__get__" = some (some (.builtin "getset_descriptor.__get__"))) (htk : PySem.W.takesIn K (.builtin "object.__class__") = some true)
theorem tyx_ins {a C dx : Addr} {fs : List (Str × V)} (ho : H a = some (.ins C dx fs)) (c : IsC K C) (g : IsG K) : TyX K H (.ref a) (.ref C) := .base (.ins ho c.cl c.ha g.hn g.htk c.hm)
/-! calls of defs -/
theorem er_callS {sp : Sp} {dvs : List V} {E : XK} {ta : TA} {T : List V → Hp → Prop} (h : EvAR ta σ H T) (hs : ∀ vs H1, Ex H H1 → T vs H1 → ∀ Q : VK, (∀ v H2, Ex H1 H2 → R v H2 → Q v H2) → sp (vs ++ dvs) H1 Q E) : EvR (tCall sp dvs E ta) σ H R := fun H1 e Q q =>
  h H1 e _ fun vs H2 e2 p => hs vs H2 (e.trans e2) p Q fun v H3 e3 p3 => q v H3 (e2.trans e3) p3
theorem er_call {α : Type} {Pre : α → List V → Hp → Prop} {Post : α → Hp → V → Hp → Prop} {E : XK} {ta : TA} {vs : List V} (d : α) (h : EvA ta σ H vs) (hm : ∀ H1, Ex H H1 → Pre d vs H1) (hp : ∀ H1 v H2, Ex H H1 → Ex H1 H2 → Post d H1 v H2 → R v H2) :
    EvR (tCall (spX Pre Post) [] E ta) σ H R := fun H1 e Q q =>
  h H1 e _ fun H2 e2 => ⟨d, by rw [List.append_nil]; exact hm H2 (e.trans e2), fun v H3 e3 p3 => q v H3 (e2.trans e3) (hp H2 v H3 (e.trans e2) e3 p3)⟩
theorem ev_call0 {α : Type} {Pre : α → List V → Hp → Prop} {Post : α → Hp → V → Hp → Prop} {E : XK} {ta : TA} {vs : List V} (d : α) (h : EvA ta σ H vs) (hm : ∀ H1, Ex H H1 → Pre d vs H1) (hp : ∀ H1 v H2, Post d H1 v H2 → v = z) :
    Ev (tCall (spX Pre Post) [] E ta) σ H z := (er_call (R := fun x _ => x = z) d h hm fun H1 v H2 _ _ p => hp H1 v H2 p).ev fun _ _ _ p => p
theorem er_meth {α : Type} {Pre : α → List V → Hp → Prop} {Post : α → Hp → V → Hp → Prop} {E : XK} {tm : TA} {vs : List V} {a C dx : Addr} {fs : List (Str × V)} {m : Str} (d : α) (ha : Ev ta σ H (.ref a)) (ho : H a = some (.ins C dx fs)) (hl : fs.lookup m = none) (h : EvA tm σ H vs)
    (hm : ∀ H1, Ex H H1 → Pre d (.ref a :: vs) H1) (hp : ∀ H1 v H2, Ex H H1 → Ex H1 H2 → Post d H1 v H2 → R v H2) : EvR (tMeth C m (spX Pre Post) [] E ta tm) σ H R := fun H1 e Q q =>
  ha H1 e _ fun H2 e2 => ⟨a, dx, fs, rfl, (e.trans e2) a _ ho, hl, h H2 (e.trans e2) _ fun H3 e3 => ⟨d, by rw [List.append_nil]; exact hm H3 ((e.trans e2).trans e3), fun v H4 e4 p4 => q v H4 ((e2.trans e3).trans e4) (hp H3 v H4 ((e.trans e2).trans e3) e4 p4)⟩⟩
theorem ev_meth {α : Type} {Pre : α → List V → Hp → Prop} {Post : α → Hp → V → Hp → Prop} {E : XK} {tm : TA} {vs : List V} {a C dx : Addr} {fs : List (Str × V)} {m : Str} (d : α) (ha : Ev ta σ H (.ref a)) (ho : H a = some (.ins C dx fs)) (hl : fs.lookup m = none) (h : EvA tm σ H vs)
    (hm : ∀ H1, Ex H H1 → Pre d (.ref a :: vs) H1) (hp : ∀ H1 v H2, Post d H1 v H2 → v = z) : Ev (tMeth C m (spX Pre Post) [] E ta tm) σ H z := (er_meth (R := fun x _ => x = z) d ha ho hl h hm fun H1 v H2 _ _ p => hp H1 v H2 p).ev fun _ _ _ p => p
/-- C(..): __init__ leaves an instance with fields fs, of the arguments -/
def spI (C : Addr) (Pre : List V → Hp → Prop) (Post : List V → Hp → Hp → List (Str × V) → Prop) : Sp := fun vs H Q _ => ∃ x dx us, vs = .ref x :: us ∧ H x = some (.ins C dx []) ∧ Pre us H ∧
  ∀ H' fs, (∀ b o, b ≠ x → H b = some o → H' b = some o) → H' x = some (.ins C dx fs) → Post us H H' fs → Q .non H'
theorem er_make {C : Addr} {Pre : List V → Hp → Prop} {Post : List V → Hp → Hp → List (Str × V) → Prop} {E : XK} {ta : TA} {T : List V → Hp → Prop} (h : EvAR ta σ H T)
    (hm : ∀ us H1 H2, Ex H H1 → T us H1 → Ex H1 H2 → Pre us H2) (hR : ∀ us H1 H2 H3 fs x dx, Ex H H1 → T us H1 → Ex H1 H2 → Ex H1 H3 → H1 x = none → H3 x = some (.ins C dx fs) → Post us H2 H3 fs → R (.ref x) H3) :
    EvR (tMake C (spI C Pre Post) [] E ta) σ H R := fun H1 e Q q =>
  h H1 e _ fun us H2 e2 p x dx hx hd hn => by
    have eA : Ex H2 (upd (upd H2 dx (.own x)) x (.ins C dx [])) := (Ex.new hd).mut hx
    refine ⟨x, dx, us, by rw [List.append_nil], upd_same, hm us H2 _ (e.trans e2) p eA, fun H' fs hk hi hp => ⟨rfl, ?_⟩⟩
    have e3 : Ex H2 H' := fun b o hb => hk b o (fun z => by rw [z, hx] at hb; cases hb) (eA b o hb)
    exact q _ _ (e2.trans e3) (hR us H2 _ H' fs x dx (e.trans e2) p eA e3 hx hi hp)
/-! ### statements -/
theorem s_asgR {i : Nat} (h : EvR te σ H R) (k : ∀ v H1, Ex H H1 → R v H1 → D.nx (σ.set i (some v)) H1) : tAsg te (gName i) D σ H := h H (Ex.refl H) _ fun v H1 e p => k v H1 e p
theorem q_asgR {i : Nat} (h : EvR te σ H R) (k : ∀ v H1, Ex H H1 → R v H1 → tz D (σ.set i (some v)) H1) : tSeq (tAsg te (gName i)) tz D σ H := s_asgR (D := { D with nx := tz D }) h k
theorem s_retR (h : EvR te σ H R) (k : ∀ v H1, Ex H H1 → R v H1 → D.rt v H1) : tRet te D σ H := h H (Ex.refl H) _ k
theorem s_asgG (h : EvR te σ H R) (k : ∀ v H1, Ex H H1 → R v H1 → g v σ H1 D.nx) : tAsg te g D σ H := h H (Ex.refl H) _ fun v H1 e p => k v H1 e p
theorem q_asgG (h : EvR te σ H R) (k : ∀ v H1, Ex H H1 → R v H1 → g v σ H1 (tz D)) : tSeq (tAsg te g) tz D σ H := s_asgG (D := { D with nx := tz D }) h k
theorem s_dropR (h : EvR te σ H R) (k : ∀ v H1, Ex H H1 → R v H1 → D.nx σ H1) : tDrop te D σ H := h H (Ex.refl H) _ k
theorem q_dropR (h : EvR te σ H R) (k : ∀ v H1, Ex H H1 → R v H1 → tz D σ H1) : tSeq (tDrop te) tz D σ H := s_dropR (D := { D with nx := tz D }) h k
theorem s_par {i j : Nat} {ta : TA} {vs : List V} {v w : V} (h : EvA ta σ H vs) (hv : vs = [v, w]) (k : ∀ H1, Ex H H1 → D.nx ((σ.set i (some v)).set j (some w)) H1) : tPar i j ta D σ H := h H (Ex.refl H) _ fun H1 e => ⟨v, w, hv, k H1 e⟩
theorem q_par {i j : Nat} {ta : TA} {vs : List V} {v w : V} (h : EvA ta σ H vs) (hv : vs = [v, w]) (k : ∀ H1, Ex H H1 → tz D ((σ.set i (some v)).set j (some w)) H1) : tSeq (tPar i j ta) tz D σ H := s_par (D := { D with nx := tz D }) h hv k
/-- a, b, .. = a tuple -/
theorem g_tup2 {i j : Nat} {a : Addr} {p q : V} {Q : L2.St → Hp → Prop} (h : SqT K H a [p, q]) (k : Q ((σ.set i (some p)).set j (some q)) H) : gTup K 2 (gCons (gName i) (gCons (gName j) gNil)) (.ref a) σ H Q := ⟨a, [p, q], rfl, h, rfl, p, [q], rfl, q, [], rfl, rfl, k⟩
theorem g_tup3 {i j l : Nat} {a : Addr} {p q s : V} {Q : L2.St → Hp → Prop} (h : SqT K H a [p, q, s]) (k : Q (((σ.set i (some p)).set j (some q)).set l (some s)) H) : gTup K 3 (gCons (gName i) (gCons (gName j) (gCons (gName l) gNil))) (.ref a) σ H Q := ⟨a, [p, q, s], rfl, h, rfl, p, [q, s], rfl, q, [s], rfl, s, [], rfl, rfl, k⟩
theorem seq_i (h : tu { D with nx := tz D } σ H) : tSeq tu tz D σ H := h
theorem s_next (h : D.nx σ H) : tNext D σ H := h
end
/-! ### pieces -/
theorem vint_inj {i j : Int} : (V.int i = V.int j) ↔ i = j := ⟨fun h => V.int.inj h, fun h => by rw [h]⟩
theorem vbl_inj {i j : Bool} : (V.bl i = V.bl j) ↔ i = j := ⟨fun h => V.bl.inj h, fun h => by rw [h]⟩
theorem given_all {n : Nat} {v : Nat → V} : given n (fun _ => true) v = (List.range n).map v := by
  unfold given
  rw [List.filter_eq_self.mpr (fun _ _ => rfl)]
end Wl
namespace Wl
open PySem PySem.Spec PyProof.Rows L2 Evl
theorem ev_self {te : TE} {σ : L2.St} {H : Hp} {v : V} (h : Ev te σ H v) : Ev te σ H v := h
theorem et_self {t : TT} {σ : L2.St} {H : Hp} {b : Bool} (h : EvT t σ H b) : EvT t σ H b := h
theorem eb_i {b c : Bool} {P : Prop} (h : b = c → P) : b = c → P := h
end Wl
namespace Wl
open PySem PySem.Spec PyProof.Rows L2 Evl
/-! ### comprehensions -/
/-- what a made item tells leans on no list -/
def Stb (R : Nat → V → Hp → Prop) : Prop := ∀ j y H1 H2, R j y H1 → (∀ b o, H1 b = some o → (∀ zs, o ≠ .lst zs) → H2 b = some o) → R j y H2
theorem stb_val {v : Nat → V} : Stb (fun j y _ => y = v j) := fun _ _ _ _ h _ => h
theorem stb_tup {v : Nat → List V} : Stb (fun j y H => ∃ t, y = .ref t ∧ H t = some (.tup (v j))) := fun j y H1 H2 ⟨t, e, h⟩ k => ⟨t, e, k t _ h fun zs z => nomatch z⟩
def Lw (H : Hp) (R : Nat → V → Hp → Prop) (Dl : Addr) (i : Nat) (H' : Hp) : Prop := H Dl = none ∧ Ex H H' ∧ ∃ ys, H' Dl = some (.lst ys) ∧ ys.length = i ∧ ∀ j y, ys[j]? = some y → R j y H'
section
variable {K : PySem.W.Frag} {σ : L2.St} {H H' : Hp} {ta tb tc te tx : TE} {t u : TT} {x y z v : V} {D : Ends} {tu tw tz : TS} {g : TG}
theorem et_yes : EvT tYes σ H true := fun H1 _ _ q => q H1 (Ex.refl H1)
theorem lw_turn {R : Nat → V → Hp → Prop} {Dl : Addr} {i : Nat} {σ2 : L2.St} (p : Lw H R Dl i H') (hi : i < 50000) (hst : Stb R) (he : EvR te σ2 H (R i)) :
    te σ2 H' fun y H4 => ∃ acc, H4 Dl = some (.lst acc) ∧ acc.length < sizeLine ∧ Lw H R Dl (i + 1) (upd H4 Dl (.lst (acc ++ [y]))) := by
  obtain ⟨p1, p2, ys, p3, p4, p5⟩ := p
  refine he H' p2 _ fun y H4 e4 py => ⟨ys, e4 Dl _ p3, sz_lt (by omega), p1, Ex.mut (p2.trans e4) p1, ys ++ [y], upd_same, by simp [p4], fun j z hz => ?_⟩
  have keep : ∀ b o, H4 b = some o → (∀ zs, o ≠ .lst zs) → upd H4 Dl (.lst (ys ++ [y])) b = some o := fun b o hb hn => by
    rw [upd_ne (fun e => ?_)]
    · exact hb
    · subst e
      rw [e4 _ _ p3] at hb
      exact hn ys (Option.some.inj hb).symm
  by_cases hj : j < ys.length
  · rw [List.getElem?_append_left hj] at hz
    exact hst j z H4 _ (hst j z H' H4 (p5 j z hz) fun b o hb _ => e4 b o hb) keep
  · rw [List.getElem?_append_right (by omega)] at hz
    have hj2 : j - ys.length = 0 := by
      have := (List.getElem?_eq_some_iff.mp hz).1
      simp at this
      omega
    rw [hj2] at hz
    have e : y = z := Option.some.inj hz
    have ej : j = i := by omega
    subst e ej
    exact hst _ y H4 _ py keep
abbrev LcR (n : Nat) (R : Nat → V → Hp → Prop) (H : Hp) : V → Hp → Prop := fun v H2 => ∃ D ys, v = .ref D ∧ H D = none ∧ H2 D = some (.lst ys) ∧ ys.length = n ∧ ∀ j y, ys[j]? = some y → R j y H2
/-- over a list, its target any -/
theorem er_lcL {a : Addr} {xs : List V} {tl : TE} {vs : List Nat} (R : Nat → V → Hp → Prop) (hst : Stb R) (h : Ev tl σ H (.ref a)) (hx : SqL K H a xs) (hz : xs.length ≤ 40000)
    (hg : ∀ i x, xs[i]? = some x → ∃ σ2, wipe σ2 vs = wipe σ vs ∧ EvR te σ2 H (R i) ∧ ∀ H', Ex H H' → ∀ Q : L2.St → Hp → Prop, Q σ2 H' → g x (wipe σ vs) H' Q) :
    EvR (tLc (iList K tl) g tYes te vs) σ H (LcR xs.length R H) := fun H0 e Q q => h H0 e _ fun H1 e1 => ⟨a, rfl, ⟨xs, ex_l (e.trans e1) hx⟩, fun Dl hD =>
  lc_list (xs := xs) (Lw H1 R Dl) ⟨hD, Ex.new hD, [], upd_same, rfl, fun j y hy => by simp at hy⟩ (fun i H' _ p => ex_l ((e.trans e1).trans p.2.1) hx) (fun i x H' hi p => by
    obtain ⟨σ2, hw, he, hq⟩ := hg i x hi
    refine hq H' ((e.trans e1).trans p.2.1) _ ⟨hw, ?_⟩
    exact lw_turn p (by have := (List.getElem?_eq_some_iff.mp hi).1; omega) hst (he.mono (e.trans e1))) (fun H' p => by
    obtain ⟨p1, p2, ys, p3, p4, p5⟩ := p
    exact q _ H' (e1.trans p2) ⟨Dl, ys, rfl, fresh_back (e.trans e1) p1, p3, p4, p5⟩)⟩
/-- over a new list -/
theorem er_lcNL {xs : List V} {tl : TE} {vs : List Nat} (S : V → Hp → Prop) (R : Nat → V → Hp → Prop) (hst : Stb R) (h : EvR tl σ H S) (hS : ∀ v H1, Ex H H1 → S v H1 → ∃ a, v = .ref a ∧ SqL K H1 a xs) (hz : xs.length ≤ 40000)
    (hg : ∀ v H1, Ex H H1 → S v H1 → ∀ i x, xs[i]? = some x → ∃ σ2, wipe σ2 vs = wipe σ vs ∧ EvR te σ2 H1 (R i) ∧ ∀ H', Ex H1 H' → ∀ Q : L2.St → Hp → Prop, Q σ2 H' → g x (wipe σ vs) H' Q) :
    EvR (tLc (iList K tl) g tYes te vs) σ H (LcR xs.length R H) := fun H0 e Q q => h H0 e _ fun v H1 e1 hv => by
  obtain ⟨a, rfl, hx⟩ := hS v H1 (e.trans e1) hv
  refine ⟨a, rfl, ⟨xs, hx⟩, fun Dl hD =>
    lc_list (xs := xs) (Lw H1 R Dl) ⟨hD, Ex.new hD, [], upd_same, rfl, fun j y hy => by simp at hy⟩ (fun i H' _ p => ex_l p.2.1 hx) (fun i x H' hi p => ?_) (fun H' p => ?_)⟩
  · obtain ⟨σ2, hw, he, hq⟩ := hg _ H1 (e.trans e1) hv i x hi
    refine hq H' p.2.1 _ ⟨hw, ?_⟩
    exact lw_turn p (by have := (List.getElem?_eq_some_iff.mp hi).1; omega) hst he
  · obtain ⟨p1, p2, ys, p3, p4, p5⟩ := p
    exact q _ H' (e1.trans p2) ⟨Dl, ys, rfl, fresh_back (e.trans e1) p1, p3, p4, p5⟩
/-- over a tuple -/
theorem er_lcT {a : Addr} {xs : List V} {tl : TE} {vs : List Nat} (R : Nat → V → Hp → Prop) (hst : Stb R) (h : Ev tl σ H (.ref a)) (hx : SqT K H a xs) (hz : xs.length ≤ 40000)
    (hg : ∀ i x, xs[i]? = some x → ∃ σ2, wipe σ2 vs = wipe σ vs ∧ EvR te σ2 H (R i) ∧ ∀ H', Ex H H' → ∀ Q : L2.St → Hp → Prop, Q σ2 H' → g x (wipe σ vs) H' Q) :
    EvR (tLc (iTup K tl) g tYes te vs) σ H (LcR xs.length R H) := fun H0 e Q q => h H0 e _ fun H1 e1 => ⟨a, rfl, ⟨xs, ex_t (e.trans e1) hx⟩, fun Dl hD =>
  lc_tup (xs := xs) (Lw H1 R Dl) ⟨hD, Ex.new hD, [], upd_same, rfl, fun j y hy => by simp at hy⟩ (fun i H' _ p => ex_t ((e.trans e1).trans p.2.1) hx) (fun i x H' hi p => by
    obtain ⟨σ2, hw, he, hq⟩ := hg i x hi
    refine hq H' ((e.trans e1).trans p.2.1) _ ⟨hw, ?_⟩
    exact lw_turn p (by have := (List.getElem?_eq_some_iff.mp hi).1; omega) hst (he.mono (e.trans e1))) (fun H' p => by
    obtain ⟨p1, p2, ys, p3, p4, p5⟩ := p
    exact q _ H' (e1.trans p2) ⟨Dl, ys, rfl, fresh_back (e.trans e1) p1, p3, p4, p5⟩)⟩
/-- over range(n) -/
theorem er_lcR {ta : TA} {n : Nat} {j : Nat} {vs : List Nat} (R : Nat → V → Hp → Prop) (hst : Stb R) (h : EvA ta σ H [.int (n : Int)]) (hz : n ≤ 40000) (hw : ∀ x, wipe ((wipe σ vs).set j (some x)) vs = wipe σ vs)
    (hg : ∀ i, i < n → EvR te ((wipe σ vs).set j (some (.int (i : Int)))) H (R i)) :
    EvR (tLc (iRng1 ta) (gName j) tYes te vs) σ H (LcR n R H) := fun H0 e Q q => h H0 e _ fun H1 e1 => ⟨n, rfl, by omega, by omega, fun Dl hD => by
  have en : ((n : Int)).toNat = n := by omega
  rw [en]
  refine lc_range (lo := 0) (n := n) (Lw H1 R Dl) ⟨hD, Ex.new hD, [], upd_same, rfl, fun j y hy => by simp at hy⟩ (fun i H' hi p => ?_) (fun H' p => ?_)
  · have e0 : (0 : Int) + (i : Int) = (i : Int) := Int.zero_add _
    rw [e0]
    refine ⟨hw _, ?_⟩
    exact lw_turn p (by omega) hst ((hg i hi).mono (e.trans e1))
  · obtain ⟨p1, p2, ys, p3, p4, p5⟩ := p
    exact q _ H' (e1.trans p2) ⟨Dl, ys, rfl, fresh_back (e.trans e1) p1, p3, p4, p5⟩⟩
/-- the made list, its items known -/
theorem lc_is {n : Nat} {f : Nat → V} {ys : List V} (hl : ys.length = n) (h : ∀ j y, ys[j]? = some y → y = f j) : ys = (List.range n).map f := by
  apply List.ext_getElem?
  intro i
  cases e : ys[i]? with
  | none =>
    have := List.getElem?_eq_none_iff.mp e
    exact (List.getElem?_eq_none_iff.mpr (by rw [List.length_map, List.length_range]; omega)).symm
  | some y =>
    have hi := (List.getElem?_eq_some_iff.mp e).1
    rw [List.getElem?_map, List.getElem?_range (by omega), h i y e]
    rfl
/-- the list's items known -/
theorem LcR.sq {n : Nat} {f : Nat → V} {v : V} {H1 : Hp} (h : LcR n (fun j y _ => y = f j) H v H1) : ∃ a, v = .ref a ∧ SqL K H1 a ((List.range n).map f) := by
  obtain ⟨D, ys, rfl, _, h3, h4, h5⟩ := h
  rw [lc_is h4 h5] at h3
  exact ⟨D, rfl, sq_of h3⟩
theorem ev_sumR {S : V → Hp → Prop} {ns : List Int} (h : EvR te σ H S) (hS : ∀ v H1, Ex H H1 → S v H1 → ∃ a, v = .ref a ∧ SqL K H1 a (ns.map V.int)) : Ev (tCB (rSum K) (tCons te tNil)) σ H (.int ns.sum) := fun H1 e Q q =>
  h H1 e _ fun x H2 e2 p => by
    obtain ⟨a, rfl, hx⟩ := hS x H2 (e.trans e2) p
    exact ⟨a, ns, rfl, hx, q H2 e2⟩
theorem ev_allR {S : V → Hp → Prop} {bs : List Bool} (h : EvR te σ H S) (hS : ∀ v H1, Ex H H1 → S v H1 → ∃ a, v = .ref a ∧ SqL K H1 a (bs.map V.bl)) : Ev (tCB (rAll K) (tCons te tNil)) σ H (.bl (bs.all id)) := fun H1 e Q q =>
  h H1 e _ fun x H2 e2 p => by
    obtain ⟨a, rfl, hx⟩ := hS x H2 (e.trans e2) p
    exact ⟨a, bs, rfl, hx, q H2 e2⟩
theorem ev_anyR {S : V → Hp → Prop} {bs : List Bool} (h : EvR te σ H S) (hS : ∀ v H1, Ex H H1 → S v H1 → ∃ a, v = .ref a ∧ SqL K H1 a (bs.map V.bl)) : Ev (tCB (rAny K) (tCons te tNil)) σ H (.bl (bs.any id)) := fun H1 e Q q =>
  h H1 e _ fun x H2 e2 p => by
    obtain ⟨a, rfl, hx⟩ := hS x H2 (e.trans e2) p
    exact ⟨a, bs, rfl, hx, q H2 e2⟩
/-- tuple(a list) -/
theorem er_tupR {S : V → Hp → Prop} {xs : List V} (h : EvR te σ H S) (hS : ∀ v H1, Ex H H1 → S v H1 → ∃ a, v = .ref a ∧ SqL K H1 a xs) : EvR (tCB (rTupOf K) (tCons te tNil)) σ H (fun v H2 => ∃ p, v = .ref p ∧ H p = none ∧ H2 p = some (.tup xs)) := fun H1 e Q q =>
  h H1 e _ fun x H2 e2 p => by
    obtain ⟨a, rfl, hx⟩ := hS x H2 (e.trans e2) p
    exact ⟨a, xs, rfl, .inl ⟨hx, fun l hl => q _ _ (e2.trans (Ex.new hl)) ⟨l, rfl, fresh_back (e.trans e2) hl, upd_same⟩⟩⟩
/-- list(a list) -/
theorem er_listL {a : Addr} {xs : List V} (h : Ev te σ H (.ref a)) (hx : SqL K H a xs) : EvR (tCB (fun xs H Q => ∃ p ys, xs = [V.ref p] ∧ (SqL K H p ys ∨ SqT K H p ys) ∧ ∀ l, H l = none → Q (.ref l) (upd H l (.lst ys))) (tCons te tNil)) σ H (fun v H2 => ∃ p, v = .ref p ∧ H p = none ∧ H2 p = some (.lst xs)) := fun H1 e Q q =>
  h H1 e _ fun H2 e2 => ⟨a, xs, rfl, .inl (ex_l (e.trans e2) hx), fun l hl => q _ _ (e2.trans (Ex.new hl)) ⟨l, rfl, fresh_back (e.trans e2) hl, upd_same⟩⟩
/-- (a, b, ..) of anything -/
theorem er_tup {ta : TA} {T : List V → Hp → Prop} (h : EvAR ta σ H T) (hl : ∀ vs H1, T vs H1 → vs.length ≤ 100000) : EvR (tTup ta) σ H (fun v H2 => ∃ p vs H1, v = .ref p ∧ H p = none ∧ Ex H1 H2 ∧ T vs H1 ∧ H2 p = some (.tup vs)) := fun H1 e Q q =>
  h H1 e _ fun vs H2 e2 p => ⟨sz_of (hl vs H2 p), fun l hl => q _ _ (e2.trans (Ex.new hl)) ⟨l, vs, H2, rfl, fresh_back (e.trans e2) hl, Ex.new hl, p, upd_same⟩⟩
theorem er_lst {ta : TA} {T : List V → Hp → Prop} (h : EvAR ta σ H T) (hl : ∀ vs H1, T vs H1 → vs.length ≤ 100000) : EvR (tLst ta) σ H (fun v H2 => ∃ p vs H1, v = .ref p ∧ H p = none ∧ Ex H1 H2 ∧ T vs H1 ∧ H2 p = some (.lst vs)) := fun H1 e Q q =>
  h H1 e _ fun vs H2 e2 p => ⟨sz_of (hl vs H2 p), fun l hl => q _ _ (e2.trans (Ex.new hl)) ⟨l, vs, H2, rfl, fresh_back (e.trans e2) hl, Ex.new hl, p, upd_same⟩⟩
end
end Wl
namespace Wl
open PySem PySem.Spec PyProof.Rows L2 Evl
theorem EvAR.imp {ta : TA} {σ : L2.St} {H : Hp} {R R' : List V → Hp → Prop} (h : EvAR ta σ H R) (hi : ∀ v H2, Ex H H2 → R v H2 → R' v H2) : EvAR ta σ H R' := fun H1 a Q q => h H1 a Q fun v H2 e p => q v H2 e (hi v H2 (a.trans e) p)
end Wl
namespace Wl
open PySem PySem.Spec PyProof.Rows L2 Evl
/-! ### rules with K named (within a comprehension K is hidden in the context) -/
section
variable {X : Cx} (K : PySem.W.Frag)
theorem ix_tupK (h : X.K = K := by rfl) : IxR X (rIxT K) := by subst h; exact ix_tup
theorem ix_listK (h : X.K = K := by rfl) : IxR X (rIxL K) := by subst h; exact ix_list
abbrev rLenQ (K : PySem.W.Frag) : List V → Hp → VK → Prop := fun xs H Q => ∃ p ys, xs = [.ref p] ∧ (SqL K H p ys ∨ SqT K H p ys) ∧ Q (.int ys.length) H
abbrev rListQ (K : PySem.W.Frag) : List V → Hp → VK → Prop := fun xs H Q => ∃ p ys, xs = [.ref p] ∧ (SqL K H p ys ∨ SqT K H p ys) ∧ ∀ l, H l = none → Q (.ref l) (upd H l (.lst ys))
theorem len_seqK (h : X.K = K := by rfl) : CallR X (.builtin "len") (rLenQ K) := by subst h; exact call_len_seq
theorem allK (hc : X.calm = true) (h : X.K = K := by rfl) : CallR X (.builtin "all") (rAll K) := by subst h; exact cr_all hc
theorem anyK (hc : X.calm = true) (h : X.K = K := by rfl) : CallR X (.builtin "any") (rAny K) := by subst h; exact cr_any hc
theorem sumK (hc : X.calm = true) (h : X.K = K := by rfl) : CallR X (.builtin "sum") (rSum K) := by subst h; exact cr_sum hc
theorem isiK (h : X.K = K := by rfl) : CallR X (.builtin "isinstance") (rIsi K) := by subst h; exact call_isi
theorem list_ofK (h : X.K = K := by rfl) : CallR X (.type "list") (rListQ K) := by subst h; exact call_list_of
theorem tuple_ofK (h : X.K = K := by rfl) : CallR X (.type "tuple") (rTupOf K) := by subst h; exact call_tuple_of
theorem eqDK (hu : X.A.units + 64 < cLine) (h : X.K = K := by rfl) : OpR X (compareOp .Eq) (rEqD K) := by subst h; exact op_eqD hu
theorem neDK (hu : X.A.units + 64 < cLine) (h : X.K = K := by rfl) : OpR X (compareOp .NotEq) (rNeD K) := by subst h; exact op_neD hu
theorem pe_fldK {e : Expr} {f : Str} {pos : Pos} {ta : TE} (he : PE X e ta) (hb : attributeBase e f X.env (eval e X.env) = eval e X.env) (h : X.K = K := by rfl) : PE X (.Attribute e f pos) (tFld K ta f) := by subst h; exact pe_fld he hb
theorem pg_tupK {es : List Expr} {k : Nat} {pos : Pos} {t : TGs} {n : Nat} (hc : X.calm = true) (ht : PGs X es t)
    (hn : (assignEach es X.env).length = n := by rfl) (hst : (assignEach es X.env).findIdx? (·.1) = none := by rfl) (h : X.K = K := by rfl) : PG X (.Tuple es k pos) (gTup K n t) := by subst h; exact pg_tup hc ht hn hst
theorem pi_listK {tg l : Expr} {tl : TE} (hl : PE X l tl) (h : X.K = K := by rfl) : PI X tg l (iList K tl) := by subst h; exact pi_list hl
theorem pi_tupK {tg l : Expr} {tl : TE} (hl : PE X l tl) (h : X.K = K := by rfl) : PI X tg l (iTup K tl) := by subst h; exact pi_tup hl
end
end Wl
namespace Wl
open PySem PySem.Spec PyProof.Rows L2 Evl
section
variable {K : PySem.W.Frag} {σ : L2.St} {H H' : Hp} {te : TE}
/-- the target a name -/
theorem er_lcLn {a : Addr} {xs : List V} {tl : TE} {vs : List Nat} {j : Nat} (R : Nat → V → Hp → Prop) (hst : Stb R) (h : Ev tl σ H (.ref a)) (hx : SqL K H a xs) (hz : xs.length ≤ 40000) (hw : ∀ x, wipe ((wipe σ vs).set j (some x)) vs = wipe σ vs)
    (hg : ∀ i x, xs[i]? = some x → EvR te ((wipe σ vs).set j (some x)) H (R i)) : EvR (tLc (iList K tl) (gName j) tYes te vs) σ H (LcR xs.length R H) :=
  er_lcL R hst h hx hz fun i x hi => ⟨_, hw x, hg i x hi, fun _ _ _ q => q⟩
theorem er_lcTn {a : Addr} {xs : List V} {tl : TE} {vs : List Nat} {j : Nat} (R : Nat → V → Hp → Prop) (hst : Stb R) (h : Ev tl σ H (.ref a)) (hx : SqT K H a xs) (hz : xs.length ≤ 40000) (hw : ∀ x, wipe ((wipe σ vs).set j (some x)) vs = wipe σ vs)
    (hg : ∀ i x, xs[i]? = some x → EvR te ((wipe σ vs).set j (some x)) H (R i)) : EvR (tLc (iTup K tl) (gName j) tYes te vs) σ H (LcR xs.length R H) :=
  er_lcT R hst h hx hz fun i x hi => ⟨_, hw x, hg i x hi, fun _ _ _ q => q⟩
/-- the target a pair of names, the items pairs -/
theorem er_lcLp {a : Addr} {xs : List V} {tl : TE} {vs : List Nat} {j l : Nat} (R : Nat → V → Hp → Prop) (hst : Stb R) (h : Ev tl σ H (.ref a)) (hx : SqL K H a xs) (hz : xs.length ≤ 40000) (hw : ∀ x y, wipe (((wipe σ vs).set j (some x)).set l (some y)) vs = wipe σ vs)
    (hg : ∀ i x, xs[i]? = some x → ∃ t p q, x = .ref t ∧ SqT K H t [p, q] ∧ EvR te (((wipe σ vs).set j (some p)).set l (some q)) H (R i)) : EvR (tLc (iList K tl) (gTup K 2 (gCons (gName j) (gCons (gName l) gNil))) tYes te vs) σ H (LcR xs.length R H) :=
  er_lcL R hst h hx hz fun i x hi => by
    obtain ⟨t, p, q, rfl, ht, he⟩ := hg i x hi
    exact ⟨_, hw p q, he, fun _ e _ k => g_tup2 (ex_t e ht) k⟩
end
end Wl
namespace Wl
open PySem PySem.Spec PyProof.Rows L2 Evl
section
variable {K : PySem.W.Frag} {σ : L2.St} {H H' : Hp} {te ti : TE} {ta : TA}
theorem dec_vint {i j : Int} : decide (V.int i = V.int j) = decide (i = j) := decide_eq_decide.mpr vint_inj
theorem dec_vbl {i j : Bool} : decide (V.bl i = V.bl j) = decide (i = j) := decide_eq_decide.mpr vbl_inj
theorem rv_eqI {i j : Int} : RV rEq (.int i) (.int j) H (.bl (decide (i = j))) := fun H1 _ _ q => ⟨rfl, by rw [dec_vint]; exact q H1 (Ex.refl H1)⟩
theorem rv_neI {i j : Int} : RV rNe (.int i) (.int j) H (.bl (!decide (i = j))) := fun H1 _ _ q => ⟨rfl, by rw [dec_vint]; exact q H1 (Ex.refl H1)⟩
theorem rv_eqB {i j : Bool} : RV rEq (.bl i) (.bl j) H (.bl (decide (i = j))) := fun H1 _ _ q => ⟨rfl, by rw [dec_vbl]; exact q H1 (Ex.refl H1)⟩
theorem rv_neB {i j : Bool} : RV rNe (.bl i) (.bl j) H (.bl (!decide (i = j))) := fun H1 _ _ q => ⟨rfl, by rw [dec_vbl]; exact q H1 (Ex.refl H1)⟩
theorem rv_isB {i j : Bool} : RV rIsB (.bl i) (.bl j) H (.bl (decide (i = j))) := fun H1 _ _ q => ⟨i, j, rfl, rfl, q H1 (Ex.refl H1)⟩
theorem rv_notB {i j : Bool} : RV rNotB (.bl i) (.bl j) H (.bl (!decide (i = j))) := fun H1 _ _ q => ⟨i, j, rfl, rfl, q H1 (Ex.refl H1)⟩
theorem atI_map {l : List Int} {i : Int} (h0 : 0 ≤ i) (h1 : i < l.length) : atI (l.map V.int) i = some (.int (l.getD i.toNat 0)) := by
  refine at_of (j := i.toNat) (by omega) ?_
  rw [List.getElem?_map, List.getD_eq_getElem?_getD, List.getElem?_eq_getElem (by omega)]
  rfl
/-- an item of a written tuple of ints -/
theorem ev_pick {l : List Int} {i : Int} {vs : List V} (h : EvA ta σ H vs) (hi : Ev ti σ H (.int i)) (hv : vs = l.map V.int) (h0 : 0 ≤ i) (h1 : i < l.length) (hl : l.length ≤ 100000) : Ev (tOp (rIxT K) (tTup ta) ti) σ H (.int (l.getD i.toNat 0)) :=
  ev_opR (eur (eu_tup h (by rw [hv, List.length_map]; exact hl))) hi fun x H1 e ⟨p, hx, _, hp⟩ => by
    subst hx
    rw [hv] at hp
    exact rv_ixT (st_of hp) (atI_map h0 h1)
theorem getD_all {l : List Int} {i : Nat} {a b : Int} (h : (l.all fun x => decide (a ≤ x) && decide (x ≤ b)) = true) (hi : i < l.length) : a ≤ l.getD i 0 ∧ l.getD i 0 ≤ b := by
  rw [List.getD_eq_getElem?_getD, List.getElem?_eq_getElem hi]
  have := List.all_eq_true.mp h _ (List.getElem_mem hi)
  simp only [Bool.and_eq_true, decide_eq_true_eq] at this
  exact this
theorem ev_lenL {p : Addr} {xs : List V} (ha : Ev te σ H (.ref p)) (h : SqL K H p xs) : Ev (tCB (rLenQ K) (tCons te tNil)) σ H (.int (xs.length : Int)) := fun H1 e Q q =>
  ha H1 e _ fun H2 e2 => ⟨p, xs, rfl, .inl (ex_l (e.trans e2) h), q H2 e2⟩
end
end Wl
namespace Wl
open PySem PySem.Spec PyProof.Rows L2 Evl
theorem lk0 {f g : Str} {x : V} (h : (g == f) = false := by decide +kernel) : List.lookup g [(f, x)] = none := by simp [List.lookup, h]
theorem lk00 {f f2 g : Str} {x x2 : V} (h : (g == f) = false := by decide +kernel) (h2 : (g == f2) = false := by decide +kernel) : List.lookup g [(f, x), (f2, x2)] = none := by simp [List.lookup, h, h2]
theorem lk21 {f f2 : Str} {x x2 : V} : List.lookup f [(f, x), (f2, x2)] = some x := by simp [List.lookup]
theorem lk22 {f f2 : Str} {x x2 : V} (h : (f2 == f) = false := by decide +kernel) : List.lookup f2 [(f, x), (f2, x2)] = some x2 := by simp [List.lookup, h]
section
variable {K : PySem.W.Frag} {σ : L2.St} {H H' : Hp} {te ti : TE} {ta : TA} {D : Ends} {tu tz : TS} {g : TG}
/-- over a new tuple, the target a name -/
theorem s_forTR {xs : List V} {tl : TE} {j : Nat} (h : EvR tl σ H (fun v H1 => ∃ a, v = .ref a ∧ SqT K H1 a xs)) (Pv : Addr → Nat → L2.St → Hp → Prop) (h0 : ∀ a H1, Ex H H1 → SqT K H1 a xs → Pv a 0 σ H1) (hl : ∀ a i σ' H', i ≤ xs.length → Pv a i σ' H' → SqT K H' a xs)
    (hs : ∀ a i x σ' H', xs[i]? = some x → Pv a i σ' H' → tu { D with nx := Pv a (i + 1), ct := Pv a (i + 1), bk := D.nx } (σ'.set j (some x)) H') (hd : ∀ a σ' H', Pv a xs.length σ' H' → D.nx σ' H') : tFor (iTup K tl) (gName j) tu D σ H :=
  h H (Ex.refl H) _ fun v H1 e ⟨a, hv, hx⟩ => ⟨a, hv, ⟨xs, hx⟩, for_tup (Pv a) (h0 a H1 e hx) (hl a) (hs a) (hd a)⟩
theorem q_forTR {xs : List V} {tl : TE} {j : Nat} (h : EvR tl σ H (fun v H1 => ∃ a, v = .ref a ∧ SqT K H1 a xs)) (Pv : Addr → Nat → L2.St → Hp → Prop) (h0 : ∀ a H1, Ex H H1 → SqT K H1 a xs → Pv a 0 σ H1) (hl : ∀ a i σ' H', i ≤ xs.length → Pv a i σ' H' → SqT K H' a xs)
    (hs : ∀ a i x σ' H', xs[i]? = some x → Pv a i σ' H' → tu { D with nx := Pv a (i + 1), ct := Pv a (i + 1), bk := tz D } (σ'.set j (some x)) H') (hd : ∀ a σ' H', Pv a xs.length σ' H' → tz D σ' H') : tSeq (tFor (iTup K tl) (gName j) tu) tz D σ H :=
  s_forTR (D := { D with nx := tz D }) h Pv h0 hl hs hd
theorem ert_tup {vs : List V} (h : EvA ta σ H vs) (hl : vs.length ≤ 100000) : EvR (tTup ta) σ H (fun v H1 => ∃ a, v = .ref a ∧ SqT K H1 a vs) := (eur (eu_tup h hl)).imp fun _ _ _ ⟨p, e, _, hp⟩ => ⟨p, e, st_of hp⟩
theorem rv_pow {i j : Int} (h : CPow i j) : RV (rI CPow fun i j => .int (i ^ j.toNat)) (.int i) (.int j) H (.int (i ^ j.toNat)) := rv_I h
theorem atI_ints {l : List Int} {i : Nat} (h : i < l.length) : atI (l.map V.int) (i : Int) = some (.int (l.getD i 0)) := by
  refine atI_nat ?_
  rw [List.getElem?_map, List.getD_eq_getElem?_getD, List.getElem?_eq_getElem h]
  rfl
theorem getD_mem {l : List Int} {i : Nat} (h : i < l.length) : l.getD i 0 ∈ l := by
  rw [List.getD_eq_getElem?_getD, List.getElem?_eq_getElem h]
  exact List.getElem_mem h
end
end Wl
namespace Wl
open PySem PySem.Spec PyProof.Rows L2 Evl
/-! ### lists: made, cut, joined, walked, compared -/
abbrev NewL (xs : List V) (H : Hp) : V → Hp → Prop := fun v H2 => ∃ p, v = .ref p ∧ H p = none ∧ H2 p = some (.lst xs)
abbrev LstAt (xs : List V) : V → Hp → Prop := fun v H2 => ∃ p, v = .ref p ∧ H2 p = some (.lst xs)
theorem LstAt.up {xs : List V} {v : V} {H H' : Hp} (e : Ex H H') (h : LstAt xs v H) : LstAt xs v H' := by
  obtain ⟨p, r, h⟩ := h
  exact ⟨p, r, e _ _ h⟩
abbrev iv (ns : List Int) : List V := ns.map V.int
section
variable {K : PySem.W.Frag} {σ : L2.St} {H H' : Hp} {ta tb tc te tl : TE} {x y z v : V} {D : Ends} {tu tz : TS} {g : TG}
theorem er_new {ta : TA} {xs : List V} (h : EvA ta σ H xs) (hl : xs.length ≤ 100000) : EvR (tLst ta) σ H (NewL xs H) := elr (el_lst h hl)
theorem er_cat {xs ys : List V} (ha : EvR ta σ H (LstAt xs)) (hb : EvR tb σ H (LstAt ys)) (hl : xs.length + ys.length ≤ 100000) : EvR (tOp rCat ta tb) σ H (NewL (xs ++ ys) H) := fun H1 e Q q =>
  ha H1 e _ fun x H2 e2 ⟨p, hx, hp⟩ => hb H2 (e.trans e2) _ fun y H3 e3 ⟨r, hy, hr⟩ => ⟨p, r, xs, ys, hx, hy, e3 _ _ hp, hr, sz_of hl, fun l hn => q _ _ ((e2.trans e3).trans (Ex.new hn)) ⟨l, rfl, fresh_back ((e.trans e2).trans e3) hn, upd_same⟩⟩
theorem er_rev {xs : List V} {a : Addr} (h : Ev ta σ H (.ref a)) (hx : SqL K H a xs) : EvR (tRevL K ta) σ H (NewL xs.reverse H) := fun H1 e Q q =>
  h H1 e _ fun H2 e2 => ⟨a, xs, rfl, ex_l (e.trans e2) hx, fun l hn => q _ _ (e2.trans (Ex.new hn)) ⟨l, rfl, fresh_back (e.trans e2) hn, upd_same⟩⟩
theorem er_sl {xs : List V} {a : Addr} {t1 t2 : TO} {lo hi : Option Int} (h : Ev ta σ H (.ref a)) (h1 : EvO t1 σ H lo) (h2 : EvO t2 σ H hi) (hx : SqL K H a xs) : EvR (tSl (rSlL K) ta t1 t2) σ H (NewL (cutV xs lo hi) H) := elr (el_sl h h1 h2 hx)
theorem er_list {a : Addr} {xs : List V} (h : Ev te σ H (.ref a)) (hx : SqL K H a xs) : EvR (tCB (rListQ K) (tCons te tNil)) σ H (NewL xs H) := er_listL h hx
theorem cut_from1 (xs : List V) : cutV xs (some 1) none = xs.drop 1 := by
  unfold cutV
  rw [show HT.sIx xs.length 0 (some 1) = min 1 xs.length from HT.sIx_nat xs.length 0 1, HT.sIx_none]
  cases xs with
  | nil => rfl
  | cons x r =>
    rw [show min 1 (x :: r).length = 1 by
      rw [List.length_cons]
      omega]
    show (List.take ((x :: r).length - 1) r) = r
    rw [List.length_cons, Nat.add_sub_cancel]
    exact List.take_length
/-- [F n for n in ns] -/
theorem range_items {α β : Type} (f : α → β) (d : α) (l : List α) : (List.range l.length).map (fun j => f (l.getD j d)) = l.map f := by
  apply List.ext_getElem?
  intro i
  by_cases h : i < l.length
  · have e : l.getD i d = l[i] := by rw [List.getD_eq_getElem?_getD, List.getElem?_eq_getElem h]; rfl
    rw [List.getElem?_map, List.getElem?_range h, List.getElem?_map, List.getElem?_eq_getElem h]
    show some (f (l.getD i d)) = some (f l[i])
    rw [e]
  · rw [List.getElem?_eq_none (by simpa using h), List.getElem?_eq_none (by simpa using h)]
theorem LcR.new {n : Nat} {f : Nat → V} {v : V} {H1 : Hp} (h : LcR n (fun j y _ => y = f j) H v H1) : NewL ((List.range n).map f) H v H1 := by
  obtain ⟨D, ys, rfl, h2, h3, h4, h5⟩ := h
  rw [lc_is h4 h5] at h3
  exact ⟨D, rfl, h2, h3⟩
theorem er_lcI {a : Addr} {ns : List Int} {vs : List Nat} {j : Nat} (F : Int → V) (h : Ev tl σ H (.ref a)) (hx : SqL K H a (iv ns)) (hz : ns.length ≤ 40000) (hw : ∀ x, wipe ((wipe σ vs).set j (some x)) vs = wipe σ vs)
    (hg : ∀ n, n ∈ ns → Ev te ((wipe σ vs).set j (some (.int n))) H (F n)) : EvR (tLc (iList K tl) (gName j) tYes te vs) σ H (NewL (ns.map F) H) :=
  (er_lcLn (fun i y _ => y = F (ns.getD i 0)) stb_val h hx (by rw [List.length_map]; exact hz) hw fun i x hi => by
    rw [List.getElem?_map] at hi
    cases e : ns[i]? with
    | none => rw [e] at hi; cases hi
    | some n =>
      rw [e] at hi
      cases hi
      have hd : ns.getD i 0 = n := by rw [List.getD_eq_getElem?_getD, e]; rfl
      rw [hd]
      exact evr (hg n (List.mem_of_getElem? e))).imp fun v H2 _ p => by
    have q := LcR.new p
    rw [List.length_map, range_items F 0 ns] at q
    exact q
/-- [F k for k in range(n)] -/
theorem er_lcRI {ta : TA} {n : Nat} {vs : List Nat} {j : Nat} (F : Nat → V) (h : EvA ta σ H [.int (n : Int)]) (hz : n ≤ 40000) (hw : ∀ x, wipe ((wipe σ vs).set j (some x)) vs = wipe σ vs)
    (hg : ∀ i, i < n → Ev te ((wipe σ vs).set j (some (.int (i : Int)))) H (F i)) : EvR (tLc (iRng1 ta) (gName j) tYes te vs) σ H (NewL ((List.range n).map F) H) :=
  (er_lcR (fun i y _ => y = F i) stb_val h hz hw fun i hi => evr (hg i hi)).imp fun v H2 _ p => LcR.new p
/-- [.. for x, y in zip(xs, ys)] -/
theorem er_lcZ {ta : TA} {a b : Addr} {xs ys : List V} {vs : List Nat} {j l : Nat} (F : Nat → V) (h : EvA ta σ H [.ref a, .ref b]) (hx : SqL K H a xs) (hy : SqL K H b ys) (hxy : xs.length = ys.length) (hz : xs.length ≤ 40000) (hw : ∀ x y, wipe (((wipe σ vs).set j (some x)).set l (some y)) vs = wipe σ vs)
    (hg : ∀ i x y, xs[i]? = some x → ys[i]? = some y → Ev te (((wipe σ vs).set j (some x)).set l (some y)) H (F i)) :
    EvR (tLc (iZip K ta) (gTup K 2 (gCons (gName j) (gCons (gName l) gNil))) tYes te vs) σ H (NewL ((List.range xs.length).map F) H) := fun H0 e Q q => h H0 e _ fun H1 e1 => ⟨a, b, xs, ys, rfl, ex_l (e.trans e1) hx, ex_l (e.trans e1) hy, fun Dl hD => by
  refine ⟨fun i m H' => m = xs.length - i ∧ i ≤ xs.length ∧ Lw H1 (fun i y _ => y = F i) Dl i H', ⟨_, rfl, Nat.zero_le _, hD, Ex.new hD, [], upd_same, rfl, fun j y hy => by simp at hy⟩, ?_⟩
  rintro i m H' ⟨rfl, hi, p⟩
  have qx := ex_l ((e.trans e1).trans p.2.1) hx
  have qy := ex_l ((e.trans e1).trans p.2.1) hy
  by_cases hlt : i < xs.length
  · have hlt2 : i < ys.length := by omega
    have ex : xs[i]? = some xs[i] := List.getElem?_eq_getElem hlt
    have ey : ys[i]? = some ys[i] := List.getElem?_eq_getElem hlt2
    refine .inr ⟨⟨xs, ys, _, _, qx, qy, ex, ey⟩, Lw H1 (fun i y _ => y = F i) Dl (i + 1), fun H2 p2 => ⟨xs.length - (i + 1), by omega, rfl, hlt, p2⟩, fun v H2 hyld => ?_⟩
    obtain ⟨T, x', y', rfl, hT, rfl, f1, f2⟩ := hyld
    have e1' : x' = xs[i] := Option.some.inj ((f1 _ qx).symm.trans ex)
    have e2' : y' = ys[i] := Option.some.inj ((f2 _ qy).symm.trans ey)
    subst e1' e2'
    refine g_tup2 (st_of upd_same) ⟨hw _ _, ?_⟩
    have p' : Lw H1 (fun i y _ => y = F i) Dl i (upd H' T (.tup [xs[i], ys[i]])) := by
      obtain ⟨p1, p2, zs, p3, p4, p5⟩ := p
      exact ⟨p1, p2.trans (Ex.new hT), zs, by rw [upd_ne (ne_of_none p3 hT)]; exact p3, p4, p5⟩
    exact lw_turn p' (by omega) stb_val ((evr (hg i _ _ ex ey)).mono (e.trans e1))
  · have ei : i = xs.length := by omega
    subst ei
    obtain ⟨p1, p2, zs, p3, p4, p5⟩ := p
    rw [lc_is p4 p5] at p3
    exact .inl ⟨⟨xs, ys, qx, qy, .inl (Nat.le_refl _)⟩, q _ H' (e1.trans p2) ⟨Dl, rfl, fresh_back (e.trans e1) p1, p3⟩⟩⟩
theorem ev_sumN {ns : List Int} {H0 : Hp} (h : EvR te σ H (NewL (iv ns) H0)) : Ev (tCB (rSum K) (tCons te tNil)) σ H (.int ns.sum) := ev_sumR h fun v H1 _ ⟨p, e, _, hp⟩ => ⟨p, e, sq_of hp⟩
theorem ev_allN {bs : List Bool} {H0 : Hp} (h : EvR te σ H (NewL (bs.map V.bl) H0)) : Ev (tCB (rAll K) (tCons te tNil)) σ H (.bl (bs.all id)) := ev_allR h fun v H1 _ ⟨p, e, _, hp⟩ => ⟨p, e, sq_of hp⟩
theorem ev_anyN {bs : List Bool} {H0 : Hp} (h : EvR te σ H (NewL (bs.map V.bl) H0)) : Ev (tCB (rAny K) (tCons te tNil)) σ H (.bl (bs.any id)) := ev_anyR h fun v H1 _ ⟨p, e, _, hp⟩ => ⟨p, e, sq_of hp⟩
/-- for x in (a, b, ..) of anything -/
theorem s_forTU {j : Nat} {R : V → Hp → Prop} (h : EvR tl σ H R) (k : ∀ v H1, Ex H H1 → R v H1 → ∃ a xs, v = .ref a ∧ SqT K H1 a xs ∧ ∃ Pv : Nat → L2.St → Hp → Prop, Pv 0 σ H1 ∧ (∀ i σ' H', i ≤ xs.length → Pv i σ' H' → SqT K H' a xs) ∧
    (∀ i x σ' H', xs[i]? = some x → Pv i σ' H' → tu { D with nx := Pv (i + 1), ct := Pv (i + 1), bk := D.nx } (σ'.set j (some x)) H') ∧ (∀ σ' H', Pv xs.length σ' H' → D.nx σ' H')) : tFor (iTup K tl) (gName j) tu D σ H :=
  h H (Ex.refl H) _ fun v H1 e p => by
    obtain ⟨a, xs, hv, hx, Pv, h0, hl, hs, hd⟩ := k v H1 e p
    exact ⟨a, hv, ⟨xs, hx⟩, for_tup Pv h0 hl hs hd⟩
theorem q_forTU {j : Nat} {R : V → Hp → Prop} (h : EvR tl σ H R) (k : ∀ v H1, Ex H H1 → R v H1 → ∃ a xs, v = .ref a ∧ SqT K H1 a xs ∧ ∃ Pv : Nat → L2.St → Hp → Prop, Pv 0 σ H1 ∧ (∀ i σ' H', i ≤ xs.length → Pv i σ' H' → SqT K H' a xs) ∧
    (∀ i x σ' H', xs[i]? = some x → Pv i σ' H' → tu { D with nx := Pv (i + 1), ct := Pv (i + 1), bk := tz D } (σ'.set j (some x)) H') ∧ (∀ σ' H', Pv xs.length σ' H' → tz D σ' H')) : tSeq (tFor (iTup K tl) (gName j) tu) tz D σ H :=
  s_forTU (D := { D with nx := tz D }) h k
/-! equality of data -/
mutual
theorem dp_up (e : Ex H H') : ∀ (d : PyData) (v : V), Dp K H v d → Dp K H' v d
  | .none, _, h => by cases h; exact .non
  | .bool b, _, h => by cases h; exact .bl b
  | .int i, _, h => by cases h; exact .int i
  | .str x, _, h => by cases h; exact .str x
  | .list ds, _, h => by
    cases h with
    | lst hs ha => exact .lst (ex_l e hs) (dpa_up e ds _ ha)
  | .tuple ds, _, h => by
    cases h with
    | tup hs ha => exact .tup (ex_t e hs) (dpa_up e ds _ ha)
  | .dict _, _, h => by cases h
theorem dpa_up (e : Ex H H') : ∀ (ds : List PyData) (vs : List V), DpAll K H vs ds → DpAll K H' vs ds
  | [], _, h => by cases h; exact .nil
  | d :: ds, _, h => by
    cases h with
    | cons h1 h2 => exact .cons (dp_up e d _ h1) (dpa_up e ds _ h2)
end
def dInts (ns : List Int) : PyData := .list (ns.map .int)
theorem dpa_ints : ∀ ns : List Int, DpAll K H (iv ns) (ns.map .int)
  | [] => .nil
  | n :: r => .cons (.int n) (dpa_ints r)
theorem dp_ints {a : Addr} {ns : List Int} (h : SqL K H a (iv ns)) : Dp K H (.ref a) (dInts ns) := .lst h (dpa_ints ns)
theorem sh_all : ∀ ds : List PyData, (∀ d ∈ ds, d.canLay0 = true) → PyData.canLayAll0 ds = true
  | [], _ => rfl
  | d :: ds, h => by
    show (d.canLay0 && PyData.canLayAll0 ds) = true
    rw [h d List.mem_cons_self, sh_all ds fun x hx => h x (List.mem_cons_of_mem _ hx)]
    rfl
theorem sh_dep {n : Nat} : ∀ ds : List PyData, (∀ d ∈ ds, PyData.depth d ≤ n) → PyData.depthAll ds ≤ n
  | [], _ => Nat.zero_le _
  | d :: ds, h => by
    show max (PyData.depth d) (PyData.depthAll ds) ≤ n
    have h1 := h d List.mem_cons_self
    have h2 := sh_dep ds fun x hx => h x (List.mem_cons_of_mem _ hx)
    omega
theorem sh_ints (ns : List Int) : SeqAt.shaped (dInts ns) = true := by
  unfold SeqAt.shaped dInts
  rw [Bool.and_eq_true, decide_eq_true_eq]
  refine ⟨sh_all _ fun d hd => ?_, ?_⟩
  · obtain ⟨i, _, rfl⟩ := List.mem_map.mp hd
    rfl
  · have := sh_dep (n := 1) (ns.map .int) fun d hd => by
      obtain ⟨i, _, rfl⟩ := List.mem_map.mp hd
      show PyData.depth (.int i) ≤ 1
      simp [PyData.depth]
    show PyData.depthAll (ns.map .int) + 1 ≤ 64
    omega
theorem can_of {d : PyData} (h : SeqAt.shaped d = true) : d.canLay0 = true := (Bool.and_eq_true_iff.mp h).1
theorem rv_neD {d e : PyData} {b : Bool} (hd : Dp K H x d) (he : Dp K H y e) (sd : SeqAt.shaped d = true) (se : SeqAt.shaped e = true) (hb : (!PyData.eqv d e) = b) : RV (rNeD K) x y H (.bl b) := fun H1 e1 Q q => ⟨d, e, dp_up e1 _ _ hd, dp_up e1 _ _ he, sd, se, by rw [hb]; exact q H1 (Ex.refl _)⟩
theorem rv_eqD {d e : PyData} {b : Bool} (hd : Dp K H x d) (he : Dp K H y e) (sd : SeqAt.shaped d = true) (se : SeqAt.shaped e = true) (hb : PyData.eqv d e = b) : RV (rEqD K) x y H (.bl b) := fun H1 e1 Q q => ⟨d, e, dp_up e1 _ _ hd, dp_up e1 _ _ he, sd, se, by rw [hb]; exact q H1 (Ex.refl _)⟩
theorem rv_neSame {d : PyData} (hd : Dp K H x d) (he : Dp K H y d) (sd : SeqAt.shaped d = true) : RV (rNeD K) x y H (.bl false) := rv_neD hd he sd sd (by rw [SeqAt.eqv_refl d (can_of sd)]; rfl)
theorem rv_eqSame {d : PyData} (hd : Dp K H x d) (he : Dp K H y d) (sd : SeqAt.shaped d = true) : RV (rEqD K) x y H (.bl true) := rv_eqD hd he sd sd (SeqAt.eqv_refl d (can_of sd))
end
section
variable {X : Cx} (K : PySem.W.Frag)
theorem pe_revLK {e : Expr} {te : TE} {k : Nat} {p1 p2 p3 pos : Pos} (he : PE X e te) (h : X.K = K := by rfl) : PE X (.Subscript e (.Slice none none (some (.UnaryOp .USub (.Constant (.int 1) k p1) p2)) p3) pos) (tRevL K te) := by subst h; exact pe_revL he
theorem sl_listK (h : X.K = K := by rfl) : SlR X (rSlL K) := by subst h; exact sl_list
theorem pi_zipK {e e2 : Expr} {ta : TA} {p pos tpos : Pos} {elts : List Expr} {kk : Nat} (hg : Gl X "zip") (hm : X.mg "zip" = none) (ha : PA X [e, e2] ta) (h : X.K = K := by rfl)
    (hs : starEach [e, e2] X.env = (false, eval e X.env) :: starEach [e2] X.env := by rfl) (hpl : (backTo pos (starEach [e2] X.env)).any (·.1) = false := by rfl) :
    PI X (.Tuple elts kk tpos) (.Call (.Name "zip" p) [e, e2] [] pos) (iZip K ta) := by subst h; exact pi_zip hg hm ha hs hpl
end
end Wl
namespace Wl
open PySem PySem.Spec PyProof.Rows L2 Evl
section
variable {K : PySem.W.Frag} {σ : L2.St} {H H' : Hp} {ta tb tc te tl : TE} {t : TT} {x y z v : V} {D : Ends} {tu tw tz : TS} {g : TG}
/-- a, b = x, y, told by facts -/
theorem q_parR {i j : Nat} {ta : TA} {R : List V → Hp → Prop} (h : EvAR ta σ H R) (hv : ∀ vs H1, R vs H1 → ∃ v w, vs = [v, w]) (k : ∀ v w H1, Ex H H1 → R [v, w] H1 → tz D ((σ.set i (some v)).set j (some w)) H1) : tSeq (tPar i j ta) tz D σ H :=
  h H (Ex.refl H) _ fun vs H1 e p => by
    obtain ⟨v, w, rfl⟩ := hv vs H1 p
    exact ⟨v, w, rfl, k v w H1 e p⟩
/-- a test of which nothing is known -/
def EvQ (t : TT) (σ : L2.St) (H : Hp) : Prop := ∀ H1, Ex H H1 → ∀ Q : Bool → Hp → Prop, (∀ b H2, Ex H1 H2 → Q b H2) → t σ H1 Q
theorem er_test {r : R2} {R : V → Hp → Prop} (ha : EvR ta σ H R) (hb : Ev tb σ H y) (hr : ∀ x H1, Ex H H1 → R x H1 → ∀ Q : VK, (∀ b, Q (.bl b) H1) → r x y H1 Q) (hR : ∀ x H1 H2, Ex H1 H2 → R x H1 → R x H2 := by intros; assumption) : EvQ (tTest (tOp r ta tb)) σ H := fun H1 e Q q =>
  ha H1 e _ fun x H2 e2 p => hb H2 (e.trans e2) _ fun H3 e3 => hr x H3 ((e.trans e2).trans e3) (hR x H2 H3 e3 p) _ fun b => ⟨b, rfl, q b H3 (e2.trans e3)⟩
theorem q_if_R (h : EvQ t σ H) (h1 : ∀ H1, Ex H H1 → tu { D with nx := tz D } σ H1) (h2 : ∀ H1, Ex H H1 → tw { D with nx := tz D } σ H1) : tSeq (tIfS t tu tw) tz D σ H := h H (Ex.refl H) _ fun b H1 e => by
  cases b with
  | true => exact h1 H1 e
  | false => exact h2 H1 e
end
end Wl
namespace Wl
open PySem PySem.Spec PyProof.Rows L2 Evl
section
variable {X : Cx} (K : PySem.W.Frag)
theorem inK (h : X.K = K := by rfl) : OpR X (compareOp .In) (rIn K false) := by subst h; exact op_in_seq
theorem notinK (h : X.K = K := by rfl) : OpR X (compareOp .NotIn) (rIn K true) := by subst h; exact op_notIn_seq
end
end Wl
namespace Wl
open PySem
theorem iv_append (a b : List Int) : iv (a ++ b) = iv a ++ iv b := List.map_append
theorem iv_map {α : Type} (f : α → Int) (l : List α) : iv (l.map f) = l.map (fun n => L2.V.int (f n)) := List.map_map
theorem iv_len (l : List Int) : (iv l).length = l.length := List.length_map ..
end Wl
namespace Wl
open PySem PySem.Spec PyProof.Rows L2 Evl
section
variable {K : PySem.W.Frag} {σ : L2.St} {H H' : Hp} {ta tb tc te tl : TE} {t : TT} {x y z v : V} {D : Ends} {tu tw tz : TS} {g : TG}
/-- a call whose one argument is told by facts -/
theorem er_call1 {α : Type} {Pre : α → List V → Hp → Prop} {Post : α → Hp → V → Hp → Prop} {E : XK} {R S : V → Hp → Prop} (h : EvR te σ H R) (hd : ∀ x H1, Ex H H1 → R x H1 → ∃ d, Pre d [x] H1 ∧ ∀ v H2, Ex H1 H2 → Post d H1 v H2 → S v H2) : EvR (tCall (spX Pre Post) [] E (tCons te tNil)) σ H S := fun H1 e Q q =>
  h H1 e _ fun x H2 e2 p => by
    obtain ⟨d, h1, h2⟩ := hd x H2 (e.trans e2) p
    exact ⟨d, h1, fun v H3 e3 p3 => q v H3 (e2.trans e3) (h2 v H3 e3 p3)⟩
theorem ev_call1 {α : Type} {Pre : α → List V → Hp → Prop} {Post : α → Hp → V → Hp → Prop} {E : XK} {R : V → Hp → Prop} (h : EvR te σ H R) (hd : ∀ x H1, Ex H H1 → R x H1 → ∃ d, Pre d [x] H1 ∧ ∀ v H2, Ex H1 H2 → Post d H1 v H2 → v = z) : Ev (tCall (spX Pre Post) [] E (tCons te tNil)) σ H z :=
  (er_call1 (S := fun v _ => v = z) h hd).ev fun _ _ _ p => p
/-- an object's list, grown: told at a word of one's own -/
theorem q_appF {l : Addr} {xs : List V} (hl : H l = some (.lst xs)) (ha : Ev ta σ H (.ref l)) (h : Ev te σ H v) (hz : xs.length < 100000) (k : ∀ H1, Ex H H1 → tz D σ (upd H1 l (.lst (xs ++ [v])))) :
    tSeq (tDrop (tBM K "list" rAppend ta (tCons te tNil))) tz D σ H := q_app hl ha h hz k
theorem iv_get {ns : List Int} {i : Nat} {x : V} (h : (iv ns)[i]? = some x) : i < ns.length ∧ x = .int (ns.getD i 0) := by
  rw [List.getElem?_map] at h
  cases e : ns[i]? with
  | none => rw [e] at h; cases h
  | some n =>
    rw [e] at h
    refine ⟨(List.getElem?_eq_some_iff.mp e).1, ?_⟩
    rw [List.getD_eq_getElem?_getD, e]
    exact (Option.some.inj h).symm
end
end Wl
namespace Wl
open PySem
theorem iv_reverse (l : List Int) : (iv l).reverse = iv l.reverse := List.map_reverse.symm
theorem iv_drop (n : Nat) (l : List Int) : (iv l).drop n = iv (l.drop n) := List.map_drop.symm
theorem iv_take (n : Nat) (l : List Int) : (iv l).take n = iv (l.take n) := List.map_take.symm
end Wl
namespace Wl
open PySem PySem.Spec PyProof.Rows L2 Evl
/-- one of two readings -/
def tAlt (t u : TE) : TE := fun σ H Q => t σ H Q ∨ u σ H Q
theorem pe_alt {X : Cx} {e : Expr} {t u : TE} (h1 : PE X e t) (h2 : PE X e u) : PE X e (tAlt t u) := ⟨fun pins s σ H Q I h => h.elim (h1.run pins s σ H Q I) (h2.run pins s σ H Q I)⟩
section
variable {K : PySem.W.Frag} {σ : L2.St} {H H' : Hp} {ta tb tc te tl : TE} {t : TT} {x y z v : V} {D : Ends} {tu tw tz : TS} {g : TG} {R : V → Hp → Prop}
theorem ev_altL (h : Ev ta σ H v) : Ev (tAlt ta tb) σ H v := fun H1 e Q q => .inl (h H1 e Q q)
theorem ev_altR (h : Ev tb σ H v) : Ev (tAlt ta tb) σ H v := fun H1 e Q q => .inr (h H1 e Q q)
theorem er_if {b : Bool} (h : EvT t σ H b) (h1 : b = true → EvR ta σ H R) (h2 : b = false → EvR tb σ H R) : EvR (tIf t ta tb) σ H R := fun H1 e Q q => h H1 e _ fun H2 e2 => by
  cases b with
  | true => exact h1 rfl H2 (e.trans e2) Q fun v H3 e3 p => q v H3 (e2.trans e3) p
  | false => exact h2 rfl H2 (e.trans e2) Q fun v H3 e3 p => q v H3 (e2.trans e3) p
/-- for x in a new list -/
theorem s_forLU {j : Nat} (h : EvR tl σ H R) (k : ∀ v H1, Ex H H1 → R v H1 → ∃ a xs, v = .ref a ∧ SqL K H1 a xs ∧ ∃ Pv : Nat → L2.St → Hp → Prop, Pv 0 σ H1 ∧ (∀ i σ' H', i ≤ xs.length → Pv i σ' H' → SqL K H' a xs) ∧
    (∀ i x σ' H', xs[i]? = some x → Pv i σ' H' → tu { D with nx := Pv (i + 1), ct := Pv (i + 1), bk := D.nx } (σ'.set j (some x)) H') ∧ (∀ σ' H', Pv xs.length σ' H' → D.nx σ' H')) : tFor (iList K tl) (gName j) tu D σ H :=
  h H (Ex.refl H) _ fun v H1 e p => by
    obtain ⟨a, xs, hv, hx, Pv, h0, hl, hs, hd⟩ := k v H1 e p
    exact ⟨a, hv, ⟨xs, hx⟩, for_list Pv h0 hl hs hd⟩
theorem q_forLU {j : Nat} (h : EvR tl σ H R) (k : ∀ v H1, Ex H H1 → R v H1 → ∃ a xs, v = .ref a ∧ SqL K H1 a xs ∧ ∃ Pv : Nat → L2.St → Hp → Prop, Pv 0 σ H1 ∧ (∀ i σ' H', i ≤ xs.length → Pv i σ' H' → SqL K H' a xs) ∧
    (∀ i x σ' H', xs[i]? = some x → Pv i σ' H' → tu { D with nx := Pv (i + 1), ct := Pv (i + 1), bk := tz D } (σ'.set j (some x)) H') ∧ (∀ σ' H', Pv xs.length σ' H' → tz D σ' H')) : tSeq (tFor (iList K tl) (gName j) tu) tz D σ H :=
  s_forLU (D := { D with nx := tz D }) h k
end
/-! xs[lo:hi:st] of a list, all three parts told -/
def pickV {α : Type} (xs : List α) (lo hi st : Option Int) : List α := (sliceRange (sliceBounds lo hi st xs.length).1 (sliceBounds lo hi st xs.length).2.1 (sliceBounds lo hi st xs.length).2.2).filterMap (xs[·]?)
theorem pickV_map {α β : Type} (f : α → β) (xs : List α) (lo hi st : Option Int) : pickV (xs.map f) lo hi st = (pickV xs lo hi st).map f := by
  unfold pickV
  rw [List.length_map, List.map_filterMap]
  exact congrArg (fun g => List.filterMap g _) (funext fun i => List.getElem?_map)
theorem vals_fm {xs : List V} {its : List Value} (r : Vals xs its) : ∀ l : List Nat, Vals (l.filterMap (xs[·]?)) (l.filterMap (its[·]?))
  | [] => .nil
  | i :: l => by
    have ih := vals_fm r l
    cases e : xs[i]? with
    | none =>
      rw [List.filterMap_cons_none (by exact e), List.filterMap_cons_none (by exact r.none_of e)]
      exact ih
    | some x =>
      obtain ⟨u, h1, h2⟩ := r.get e
      rw [List.filterMap_cons_some (by exact e), List.filterMap_cons_some (by exact h1)]
      exact .cons h2 ih
theorem vals_pick {xs : List V} {its : List Value} (r : Vals xs its) (lo hi st : Option Int) : Vals (pickV xs lo hi st) (slicePick its.toArray lo hi st).toList := by
  have z := vals_fm r (sliceRange (sliceBounds lo hi st xs.length).1 (sliceBounds lo hi st xs.length).2.1 (sliceBounds lo hi st xs.length).2.2)
  rw [r.length] at z
  simpa only [pickV, slicePick, r.length, List.size_toArray, List.getElem?_toArray] using z
/-- the reading: the list, then the parts in their order -/
def tSl3 (K : PySem.W.Frag) (te : TE) (t1 t2 t3 : TO) : TE := fun σ H Q => te σ H fun x H1 => t1 σ H1 fun lo H2 => t2 σ H2 fun hi H3 => t3 σ H3 fun st H4 =>
  ∃ a xs, x = .ref a ∧ SqL K H4 a xs ∧ st ≠ some 0 ∧ ∀ p, H4 p = none → Q (.ref p) (upd H4 p (.lst (pickV xs lo hi st)))
theorem pe_sl3 {X : Cx} (K : PySem.W.Frag) {e : Expr} {e1 e2 e3 : Option Expr} {te : TE} {t1 t2 t3 : TO} {p3 pos : Pos} (he : PE X e te) (h1 : PO X e1 t1) (h2 : PO X e2 t2) (h3 : PO X e3 t3) (hK : X.K = K := by rfl)
    (plain : ∀ u v, subscripted (.Slice e1 e2 e3 p3) false u v = operate [u, v] (getItem u v) := by intro u v; with_unfolding_all rfl) : PE X (.Subscript e (.Slice e1 e2 e3 p3) pos) (tSl3 K te t1 t2 t3) := by
  subst hK
  constructor
  intro pins s σ H Q I h
  refine Subscript_ (thn (he.run pins s σ H _ I h) ?_)
  rintro v s1 ⟨x, H1, I1, rx, h⟩
  refine wpAny_Slice (thn (h1.run pins s1 σ H1 _ I1 h) ?_)
  rintro vl s2 ⟨lo, H2, I2, pl, h⟩
  refine thn (h2.run pins s2 σ H2 _ I2 h) ?_
  rintro vu s3 ⟨hi, H3, I3, pu, h⟩
  refine thn (h3.run pins s3 σ H3 _ I3 h) ?_
  rintro vs s4 ⟨st, H4, I4, ps, a, xs, rfl, list, nz, q⟩
  cases rx
  have J : Inv X pins σ H4 { s4 with heap := s4.heap.push { cls := .type "slice", data := .fields #[vl, vu, vs] } } := I4.kept (t' := s4.toks) fun b o z => Heap.get?_push_of_some _ z
  rcases J.list list with ⟨its, vals, cells, small⟩
  have picked := vals_pick vals lo hi st
  have fits : (pickV xs lo hi st).length ≤ xs.length := by
    rw [picked.length, Array.length_toList, vals.length]
    exact slicePick_size_le its.toArray lo hi st
  refine tail_any cells.isList.typeIs PySem.slot_list_getitem.lookup (wpAny_getItem_list_slice cells.isList (Heap.IsSliceOf.new _ vl vu vs) pl pu ps nz ?_ (by rw [List.size_toArray, ← vals.length]; exact small)) (plain _ _)
  exact ⟨.ref _, _, J.laid (t' := s4.toks) (o := .lst (pickV xs lo hi st)) (fun b o z => Heap.get?_push_of_some _ z) (Nat.le_refl _) ⟨Nat.le_trans fits small, _, 0, picked, Heap.get?_push_size _ rfl⟩, rfl, q _ (J.hok.fresh (Nat.le_refl _))⟩
def stepP {α : Type} (xs : List α) : List α := pickV xs none none (some 2)
theorem stepP_iv (ns : List Int) : stepP (iv ns) = iv (stepP ns) := pickV_map V.int ns _ _ _
def tStepL (K : PySem.W.Frag) (te : TE) : TE := tSl3 K te tNoPart tNoPart (tPart (tC (.int 2)))
theorem pe_stepLK {X : Cx} (K : PySem.W.Frag) {e : Expr} {te : TE} {k : Nat} {p1 p3 pos : Pos} (he : PE X e te) (hK : X.K = K := by rfl) : PE X (.Subscript e (.Slice none none (some (.Constant (.int 2) k p1)) p3) pos) (tStepL K te) := pe_sl3 K he po_none po_none (po_some pe_int) hK
theorem er_step {K : PySem.W.Frag} {σ : L2.St} {H : Hp} {ta : TE} {xs : List V} {a : Addr} (h : Ev ta σ H (.ref a)) (hx : SqL K H a xs) : EvR (tStepL K ta) σ H (NewL (stepP xs) H) := fun H1 e Q q =>
  h H1 e _ fun H2 e2 => ⟨2, rfl, a, xs, rfl, ex_l (e.trans e2) hx, by decide, fun l hn => q _ _ (e2.trans (Ex.new hn)) ⟨l, rfl, fresh_back (e.trans e2) hn, upd_same⟩⟩
end Wl
namespace Wl
open PySem L2
theorem cut_last (xs : List V) : cutV xs none (some (-1)) = xs.dropLast := by
  unfold cutV
  rw [HT.sIx_none, List.drop_zero]
  rw [show HT.sIx xs.length xs.length (some (-1)) = ((-1 : Int) + (xs.length : Int)).toNat from rfl, List.dropLast_eq_take]
  congr 1
  omega
theorem iv_dropLast (l : List Int) : (iv l).dropLast = iv l.dropLast := by
  rw [List.dropLast_eq_take, List.dropLast_eq_take, iv_len, iv_take]
end Wl
namespace Wl
open PySem PySem.Spec PyProof.Rows L2 Evl
/-- [F n for n in a new list] -/
theorem er_lcNI {K : PySem.W.Frag} {σ : L2.St} {H : Hp} {tl te : TE} {ns : List Int} {vs : List Nat} {j : Nat} {S : V → Hp → Prop} (F : Int → V) (h : EvR tl σ H S) (hS : ∀ v H1, Ex H H1 → S v H1 → ∃ a, v = .ref a ∧ SqL K H1 a (iv ns)) (hz : ns.length ≤ 40000) (hw : ∀ x, wipe ((wipe σ vs).set j (some x)) vs = wipe σ vs)
    (hg : ∀ H1, Ex H H1 → ∀ n, n ∈ ns → Ev te ((wipe σ vs).set j (some (.int n))) H1 (F n)) : EvR (tLc (iList K tl) (gName j) tYes te vs) σ H (NewL (ns.map F) H) :=
  (er_lcNL S (fun i y _ => y = F (ns.getD i 0)) stb_val h hS (by rw [iv_len]; exact hz) fun v H1 e hv i x hi => by
    obtain ⟨hi', rfl⟩ := iv_get hi
    exact ⟨_, hw _, evr (hg H1 e _ (getD_mem hi')), fun _ _ _ q => q⟩).imp fun v H2 _ p => by
    have q := LcR.new p
    rw [iv_len, range_items F 0 ns] at q
    exact q
end Wl
namespace Wl
open PySem PySem.Spec PyProof.Rows L2 Evl
section
variable {K : PySem.W.Frag} {σ : L2.St} {H H' : Hp} {ta te ti : TE} {D : Ends} {tz : TS} {R : V → Hp → Prop}
/-- xs.append of what is told by facts -/
theorem q_appR {l : Addr} {xs : List V} (hl : H l = some (.lst xs)) (ha : Ev ta σ H (.ref l)) (h : EvR te σ H R) (hz : xs.length < 100000) (k : ∀ v H1, Ex H H1 → R v H1 → tz D σ (upd H1 l (.lst (xs ++ [v])))) :
    tSeq (tDrop (tBM K "list" rAppend ta (tCons te tNil))) tz D σ H := ha H (Ex.refl H) _ fun H1 e1 =>
  ⟨Or.inl ⟨rfl, xs, sq_of (e1 l _ hl)⟩, h H1 e1 _ fun v H2 e2 p => ⟨l, xs, v, rfl, rfl, e2 l _ (e1 l _ hl), sz_lt hz, k v H2 (e1.trans e2) p⟩⟩
theorem ev_pickR {l : List Int} {ta : TA} {vs : List V} (h : EvA ta σ H vs) (hi : EvR ti σ H (fun v _ => ∃ i : Int, v = .int i ∧ 0 ≤ i ∧ i < l.length)) (hv : vs = l.map V.int) (hl : l.length ≤ 100000) : EvR (tOp (rIxT K) (tTup ta) ti) σ H (fun v _ => ∃ i : Int, 0 ≤ i ∧ i < l.length ∧ v = .int (l.getD i.toNat 0)) :=
  er_op (eur (eu_tup h (by rw [hv, List.length_map]; exact hl))) (fun x H1 e _ => hi.mono e) (fun x y H1 H2 e ⟨p, hx, _, hp⟩ e2 ⟨i, hy, h0, h1⟩ Q q => by
    subst hx hy
    rw [hv] at hp
    exact rv_ixT (st_of (e2 _ _ hp)) (atI_map h0 h1) H2 (Ex.refl _) Q fun H3 e3 => q _ H3 e3 ⟨i, h0, h1, rfl⟩)
end
end Wl
namespace Wl
open PySem PySem.Spec PyProof.Rows L2 Evl
/-! ### a < b < c < d: chains of any length, operand by operand -/
/-- what stands behind an operand whose value is x -/
def PCh (X : Cx) (ops : List CmpOp) (es : List Expr) (t : V → TE) : Prop :=
  ∀ pins s σ H x v Q pos, Inv X pins σ H s → RelV x v → t x σ H Q → wpAny (model X.prog X.w) X.A (compareChain pos v ops (evalEach es X.env)) (EP X pins σ Q) X.xe s
/-- .. where a test is asked for -/
def PTh (X : Cx) (ops : List CmpOp) (es : List Expr) (t : V → TE) : Prop :=
  ∀ pins s σ H x v Q pos, Inv X pins σ H s → RelV x v → tTest (t x) σ H Q → wpAny (model X.prog X.w) X.A (testChain pos v ops (evalEach es X.env)) (TP X pins σ Q) X.xe s
def tLast (r : R2) (tb : TE) (x : V) : TE := fun σ H Q => tb σ H fun y H1 => r x y H1 Q
def tMore (r : R2) (tb : TE) (t : V → TE) (x : V) : TE := fun σ H Q => tb σ H fun y H1 => r x y H1 fun z H2 => ∃ k, z = .bl k ∧ (if k = true then t y σ H2 Q else Q (.bl false) H2)
def tChain3 (r r' r2 : R2) (ta tb tc td : TE) : TE := fun σ H Q => ta σ H fun x H1 => tMore r tb (tMore r' tc (tLast r2 td)) x σ H1 Q
section
variable {X : Cx} {a b c d e' : Expr} {es : List Expr} {ta tb tc td : TE} {t : V → TE} {pos : Pos} {op op' op2 : CmpOp} {ops : List CmpOp} {r r' r2 : R2}
theorem pch_last (ho : OpR X (compareOp op) r) (hb : PE X b tb) : PCh X [op] [b] (tLast r tb) := fun pins s σ H x v Q _ I rx q => by
  refine chain_last (thn (hb.run pins s σ H _ I q) ?_)
  rintro u s1 ⟨y, H1, J, ry, q⟩
  exact ho pins s1 σ H1 x y v u Q J rx ry q
theorem pth_last (ho : OpR X (compareOp op) r) (hb : PE X b tb) : PTh X [op] [b] (tLast r tb) := fun pins s σ H x v Q _ I rx q => by
  refine test_last (thn (hb.run pins s σ H _ I q) ?_)
  rintro u s1 ⟨y, H1, J, ry, q⟩
  refine thn (ho pins s1 σ H1 x y v u _ J rx ry q) ?_
  rintro _ s2 ⟨z, H2, J2, rz, k, rfl, q⟩
  cases rz
  exact wpAny_truthy_bool ⟨H2, J2, q⟩
theorem pch_more (ho : OpR X (compareOp op) r) (hb : PE X b tb) (rest : PCh X (op' :: ops) (e' :: es) t) : PCh X (op :: op' :: ops) (b :: e' :: es) (tMore r tb t) := fun pins s σ H x v Q pos I rx q => by
  refine chain_link (thn (hb.run pins s σ H _ I q) ?_)
  rintro u s1 ⟨y, H1, J, ry, q⟩
  refine thn (ho pins s1 σ H1 x y v u _ J rx ry q) ?_
  rintro _ s2 ⟨z, H2, J2, rz, k, rfl, q⟩
  cases rz
  cases k with
  | false => exact wpAny_truthy_bool (ite_ff ⟨.bl false, H2, J2, rfl, q⟩)
  | true => exact wpAny_truthy_bool (ite_tt (rest pins s2 σ H2 y u Q pos J2 ry q))
theorem pth_more (ho : OpR X (compareOp op) r) (hb : PE X b tb) (rest : PTh X (op' :: ops) (e' :: es) t) : PTh X (op :: op' :: ops) (b :: e' :: es) (tMore r tb t) := fun pins s σ H x v Q pos I rx q => by
  refine test_link (thn (hb.run pins s σ H _ I q) ?_)
  rintro u s1 ⟨y, H1, J, ry, q⟩
  refine thn (ho pins s1 σ H1 x y v u _ J rx ry q) ?_
  rintro _ s2 ⟨z, H2, J2, rz, k, rfl, q⟩
  cases rz
  cases k with
  | false =>
    obtain ⟨_, same, q⟩ : ∃ k, V.bl false = .bl k ∧ Q k H2 := q
    cases same
    exact wpAny_truthy_bool (ite_ff ⟨H2, J2, q⟩)
  | true => exact wpAny_truthy_bool (ite_tt (rest pins s2 σ H2 y u Q pos J2 ry q))
theorem pe_chain3 (ho : OpR X (compareOp op) r) (ho' : OpR X (compareOp op') r') (ho2 : OpR X (compareOp op2) r2) (ha : PE X a ta) (hb : PE X b tb) (hc : PE X c tc) (hd : PE X d td)
    (hm : lastMarks [op, op', op2] [b, c, d] = false := by with_unfolding_all rfl) : PE X (.Compare a [op, op', op2] [b, c, d] pos) (tChain3 r r' r2 ta tb tc td) :=
  ⟨fun pins s σ H Q I h => Compare_chain (thn (ha.run pins s σ H _ I h) fun v s1 ⟨x, H1, J, rx, q⟩ => pch_more ho hb (pch_more ho' hc (pch_last ho2 hd)) pins s1 σ H1 x v Q _ J rx q) hm⟩
theorem pt_chain3 (ho : OpR X (compareOp op) r) (ho' : OpR X (compareOp op') r') (ho2 : OpR X (compareOp op2) r2) (ha : PE X a ta) (hb : PE X b tb) (hc : PE X c tc) (hd : PE X d td)
    (hm : lastMarks [op, op', op2] [b, c, d] = false := by with_unfolding_all rfl) : PT X (.Compare a [op, op', op2] [b, c, d] pos) (tTest (tChain3 r r' r2 ta tb tc td)) :=
  ⟨fun pins s σ H Q I h => isTrue_chain (thn (ha.run pins s σ H _ I h) fun v s1 ⟨x, H1, J, rx, q⟩ => pth_more ho hb (pth_more ho' hc (pth_last ho2 hd)) pins s1 σ H1 x v Q _ J rx q) hm⟩
end
theorem ev_chain3 {σ : L2.St} {H : Hp} {r r' r2 : R2} {ta tb tc td : TE} {x y z u : V} {a b c : Bool} (ha : Ev ta σ H x) (hb : Ev tb σ H y) (h1 : RV r x y H (.bl a)) (hc : a = true → Ev tc σ H z) (h2 : a = true → RV r' y z H (.bl b)) (hd : a = true → b = true → Ev td σ H u) (h3 : a = true → b = true → RV r2 z u H (.bl c)) :
    Ev (tChain3 r r' r2 ta tb tc td) σ H (.bl (a && (b && c))) := fun H1 e Q q =>
  ha H1 e _ fun H2 e2 => hb H2 (e.trans e2) _ fun H3 e3 => h1 H3 ((e.trans e2).trans e3) _ fun H4 e4 => ⟨a, rfl, by
    cases a with
    | false => exact q H4 ((e2.trans e3).trans e4)
    | true => exact hc rfl H4 (((e.trans e2).trans e3).trans e4) _ fun H5 e5 => h2 rfl H5 ((((e.trans e2).trans e3).trans e4).trans e5) _ fun H6 e6 => ⟨b, rfl, by
        have e26 := (((e2.trans e3).trans e4).trans e5).trans e6
        cases b with
        | false => exact q H6 e26
        | true => exact hd rfl rfl H6 (e.trans e26) _ fun H7 e7 => h3 rfl rfl H7 (e.trans (e26.trans e7)) Q fun H8 e8 => q H8 (e26.trans (e7.trans e8))⟩⟩
end Wl
namespace Wl
open PySem PySem.Spec PyProof.Rows L2 Evl
/-! ### lists of pairs -/
def PairAt (H : Hp) (x : V) (p : Int × Int) : Prop := ∃ t, x = .ref t ∧ H t = some (.tup [.int p.1, .int p.2])
/-- the items are pairs: rs -/
def RsL (H : Hp) : List V → List (Int × Int) → Prop
  | [], [] => True
  | x :: xs, p :: rs => PairAt H x p ∧ RsL H xs rs
  | _, _ => False
theorem PairAt.up {H H' : Hp} {x : V} {p : Int × Int} (e : Ex H H') (h : PairAt H x p) : PairAt H' x p := by
  obtain ⟨t, r, h⟩ := h
  exact ⟨t, r, e _ _ h⟩
theorem RsL.up {H H' : Hp} (e : Ex H H') : ∀ {xs : List V} {rs : List (Int × Int)}, RsL H xs rs → RsL H' xs rs
  | [], [], h => h
  | _ :: _, _ :: _, h => ⟨h.1.up e, RsL.up e h.2⟩
  | [], _ :: _, h => h
  | _ :: _, [], h => h
/-- a list's change leaves the pairs -/
theorem RsL.mut {H : Hp} {l : Addr} {ys : List V} (zs : List V) (hl : H l = some (.lst ys)) : ∀ {xs : List V} {rs : List (Int × Int)}, RsL H xs rs → RsL (upd H l (.lst zs)) xs rs
  | [], [], h => h
  | _ :: _, _ :: _, ⟨⟨t, e, h⟩, h2⟩ => ⟨⟨t, e, by rw [upd_ne (ne_of h hl (by intro z; cases z))]; exact h⟩, RsL.mut zs hl h2⟩
  | [], _ :: _, h => h
  | _ :: _, [], h => h
theorem RsL.len {H : Hp} : ∀ {xs : List V} {rs : List (Int × Int)}, RsL H xs rs → xs.length = rs.length
  | [], [], _ => rfl
  | _ :: _, _ :: _, h => congrArg (· + 1) (RsL.len h.2)
  | [], _ :: _, h => h.elim
  | _ :: _, [], h => h.elim
theorem RsL.get {H : Hp} : ∀ {xs : List V} {rs : List (Int × Int)} {i : Nat} {x : V}, RsL H xs rs → xs[i]? = some x → i < rs.length ∧ PairAt H x (rs.getD i (0, 1))
  | [], [], _, _, _, e => by simp at e
  | _ :: _, _ :: _, 0, _, h, e => by
    cases e
    exact ⟨Nat.zero_lt_succ _, h.1⟩
  | _ :: xs, p :: rs, i + 1, x, h, e => by
    have := RsL.get (xs := xs) (rs := rs) (i := i) (x := x) h.2 e
    exact ⟨Nat.succ_lt_succ this.1, by simpa using this.2⟩
  | [], _ :: _, _, _, h, _ => h.elim
  | _ :: _, [], _, _, h, _ => h.elim
theorem RsL.at {H : Hp} {xs : List V} {rs : List (Int × Int)} {i : Nat} (h : RsL H xs rs) (hi : i < rs.length) : ∃ t, xs[i]? = some (.ref t) ∧ H t = some (.tup [.int (rs.getD i (0, 1)).1, .int (rs.getD i (0, 1)).2]) := by
  have hx : i < xs.length := by rw [h.len]; exact hi
  have e := List.getElem?_eq_getElem hx
  obtain ⟨t, et, ht⟩ := (h.get e).2
  exact ⟨t, by rw [e, et], ht⟩
theorem RsL.append {H : Hp} : ∀ {xs ys : List V} {rs ss : List (Int × Int)}, RsL H xs rs → RsL H ys ss → RsL H (xs ++ ys) (rs ++ ss)
  | [], _, [], _, _, h => h
  | _ :: _, _, _ :: _, _, h, k => ⟨h.1, RsL.append h.2 k⟩
  | [], _, _ :: _, _, h, _ => h.elim
  | _ :: _, _, [], _, h, _ => h.elim
theorem RsL.rev {H : Hp} : ∀ {xs : List V} {rs : List (Int × Int)}, RsL H xs rs → RsL H xs.reverse rs.reverse
  | [], [], h => h
  | x :: xs, p :: rs, h => by
    rw [List.reverse_cons, List.reverse_cons]
    exact RsL.append (RsL.rev h.2) ⟨h.1, trivial⟩
  | [], _ :: _, h => h.elim
  | _ :: _, [], h => h.elim
theorem RsL.drop1 {H : Hp} : ∀ {xs : List V} {rs : List (Int × Int)}, RsL H xs rs → RsL H (xs.drop 1) (rs.drop 1)
  | [], [], h => h
  | _ :: _, _ :: _, h => h.2
  | [], _ :: _, h => h.elim
  | _ :: _, [], h => h.elim
theorem RsL.set {H : Hp} {y : V} {q : Int × Int} (hy : PairAt H y q) : ∀ {xs : List V} {rs : List (Int × Int)} (i : Nat), RsL H xs rs → RsL H (xs.set i y) (rs.set i q)
  | [], [], _, h => h
  | _ :: _, _ :: _, 0, h => ⟨hy, h.2⟩
  | _ :: _, _ :: _, i + 1, h => ⟨h.1, RsL.set hy i h.2⟩
  | [], _ :: _, _, h => h.elim
  | _ :: _, [], _, h => h.elim
theorem rsl_of {H : Hp} : ∀ {xs : List V} {rs : List (Int × Int)}, xs.length = rs.length → (∀ i x, xs[i]? = some x → PairAt H x (rs.getD i (0, 1))) → RsL H xs rs
  | [], [], _, _ => trivial
  | x :: xs, p :: rs, hl, h => ⟨h 0 x rfl, rsl_of (by simpa using hl) fun i y hy => by simpa using h (i + 1) y hy⟩
  | [], _ :: _, hl, _ => by simp at hl
  | _ :: _, [], hl, _ => by simp at hl
/-- a list of pairs at an address -/
def RsAt (H : Hp) (v : V) (rs : List (Int × Int)) : Prop := ∃ a xs, v = .ref a ∧ H a = some (.lst xs) ∧ RsL H xs rs
theorem RsAt.up {H H' : Hp} {v : V} {rs : List (Int × Int)} (e : Ex H H') (h : RsAt H v rs) : RsAt H' v rs := by
  obtain ⟨a, xs, r, h1, h2⟩ := h
  exact ⟨a, xs, r, e _ _ h1, h2.up e⟩
/-! equality -/
def dRs (rs : List (Int × Int)) : PyData := .list (rs.map fun p => .tuple [.int p.1, .int p.2])
theorem dpa_rs {K : PySem.W.Frag} {H : Hp} : ∀ {xs : List V} {rs : List (Int × Int)}, RsL H xs rs → DpAll K H xs (rs.map fun p => .tuple [.int p.1, .int p.2])
  | [], [], _ => .nil
  | _ :: _, _ :: _, ⟨⟨t, e, ht⟩, h2⟩ => by
    subst e
    exact .cons (.tup (st_of ht) (.cons (.int _) (.cons (.int _) .nil))) (dpa_rs h2)
  | [], _ :: _, h => h.elim
  | _ :: _, [], h => h.elim
theorem dp_rs {K : PySem.W.Frag} {H : Hp} {a : Addr} {xs : List V} {rs : List (Int × Int)} (h : H a = some (.lst xs)) (hr : RsL H xs rs) : Dp K H (.ref a) (dRs rs) := .lst (sq_of h) (dpa_rs hr)
theorem sh_rs (rs : List (Int × Int)) : SeqAt.shaped (dRs rs) = true := by
  unfold SeqAt.shaped dRs
  rw [Bool.and_eq_true, decide_eq_true_eq]
  refine ⟨sh_all _ fun d hd => ?_, ?_⟩
  · obtain ⟨i, _, rfl⟩ := List.mem_map.mp hd
    rfl
  · have := sh_dep (n := 2) (rs.map fun p => PyData.tuple [.int p.1, .int p.2]) fun d hd => by
      obtain ⟨i, _, rfl⟩ := List.mem_map.mp hd
      show PyData.depth (.tuple [.int i.1, .int i.2]) ≤ 2
      simp [PyData.depth, PyData.depthAll]
    show PyData.depthAll _ + 1 ≤ 64
    omega
theorem kit_tt {K : PySem.W.Frag} : PySem.W.kitOne K (.type "tuple") (.type "tuple") = some true := kit_ty (by decide +kernel)
section
variable {K : PySem.W.Frag} {σ : L2.St} {H H' : Hp} {ta tb tc te tl : TE} {D : Ends} {tu tz : TS}
/-- [.. for x, y in pairs] -/
theorem er_lcRs {a : Addr} {xs : List V} {rs : List (Int × Int)} {vs : List Nat} {j l : Nat} (R : Nat → V → Hp → Prop) (hst : Stb R) (h : Ev tl σ H (.ref a)) (hx : H a = some (.lst xs)) (hr : RsL H xs rs) (hz : rs.length ≤ 40000) (hw : ∀ x y, wipe (((wipe σ vs).set j (some x)).set l (some y)) vs = wipe σ vs)
    (hg : ∀ i, i < rs.length → EvR te (((wipe σ vs).set j (some (.int (rs.getD i (0, 1)).1))).set l (some (.int (rs.getD i (0, 1)).2))) H (R i)) :
    EvR (tLc (iList K tl) (gTup K 2 (gCons (gName j) (gCons (gName l) gNil))) tYes te vs) σ H (LcR rs.length R H) := by
  rw [← hr.len]
  exact er_lcLp R hst h (sq_of hx) (by rw [hr.len]; exact hz) hw fun i x hi => by
    obtain ⟨h1, t, e, ht⟩ := hr.get hi
    exact ⟨t, _, _, e, st_of ht, hg i h1⟩
theorem er_lcRsV {a : Addr} {xs : List V} {rs : List (Int × Int)} {vs : List Nat} {j l : Nat} (F : Int × Int → V) (h : Ev tl σ H (.ref a)) (hx : H a = some (.lst xs)) (hr : RsL H xs rs) (hz : rs.length ≤ 40000) (hw : ∀ x y, wipe (((wipe σ vs).set j (some x)).set l (some y)) vs = wipe σ vs)
    (hg : ∀ p, p ∈ rs → Ev te (((wipe σ vs).set j (some (.int p.1))).set l (some (.int p.2))) H (F p)) :
    EvR (tLc (iList K tl) (gTup K 2 (gCons (gName j) (gCons (gName l) gNil))) tYes te vs) σ H (NewL (rs.map F) H) :=
  (er_lcRs (fun i y _ => y = F (rs.getD i (0, 1))) stb_val h hx hr hz hw fun i hi => evr (hg _ (by
    rw [List.getD_eq_getElem?_getD, List.getElem?_eq_getElem hi]
    exact List.getElem_mem hi))).imp fun v H2 _ p => by
    have q := LcR.new p
    rw [range_items F (0, 1) rs] at q
    exact q
/-- for x, y in pairs -/
theorem q_forRs {a : Addr} {xs : List V} {rs : List (Int × Int)} {j l : Nat} (h : Ev tl σ H (.ref a)) (hx : H a = some (.lst xs)) (hr : RsL H xs rs) (Pv : Nat → L2.St → Hp → Prop) (h0 : ∀ H1, Ex H H1 → Pv 0 σ H1) (hl : ∀ i σ' H', Pv i σ' H' → Ex H H')
    (hs : ∀ i σ' H', i < rs.length → Pv i σ' H' → tu { D with nx := Pv (i + 1), ct := Pv (i + 1), bk := tz D } ((σ'.set j (some (.int (rs.getD i (0, 1)).1))).set l (some (.int (rs.getD i (0, 1)).2))) H') (hd : ∀ σ' H', Pv rs.length σ' H' → tz D σ' H') :
    tSeq (tFor (iList K tl) (gTup K 2 (gCons (gName j) (gCons (gName l) gNil))) tu) tz D σ H :=
  q_forL h (sq_of hx) Pv h0 (fun i σ' H' _ p => sq_of (hl i σ' H' p _ _ hx)) (fun i x σ' H' hi p => by
    obtain ⟨h1, t, e, ht⟩ := hr.get hi
    subst e
    exact g_tup2 (st_of (hl i σ' H' p _ _ ht)) (hs i σ' H' h1 p)) (by rw [hr.len]; exact hd)
/-- rs[i] as a pair, rs[i][k] -/
theorem ev_rs {a : Addr} {xs : List V} {rs : List (Int × Int)} {i : Nat} (h : Ev ta σ H (.ref a)) (hi : Ev tb σ H (.int (i : Int))) (hx : H a = some (.lst xs)) (hr : RsL H xs rs) (hl : i < rs.length) : ∃ t, Ev (tOp (rIxL K) ta tb) σ H (.ref t) ∧ H t = some (.tup [.int (rs.getD i (0, 1)).1, .int (rs.getD i (0, 1)).2]) := by
  obtain ⟨t, e, ht⟩ := hr.at hl
  exact ⟨t, ev_op h hi (rv_ixL (sq_of hx) (atI_nat e)), ht⟩
theorem ev_p0 {t : Addr} {x y : V} (h : Ev ta σ H (.ref t)) (ht : H t = some (.tup [x, y])) : Ev (tOp (rIxT K) ta (tC (.int 0))) σ H x := ev_op h ev_c (rv_ixT (st_of ht) rfl)
theorem ev_p1 {t : Addr} {x y : V} (h : Ev ta σ H (.ref t)) (ht : H t = some (.tup [x, y])) : Ev (tOp (rIxT K) ta (tC (.int 1))) σ H y := ev_op h ev_c (rv_ixT (st_of ht) rfl)
/-- [.. for k, x in enumerate(xs)] -/
theorem er_lcE {ta : TA} {a : Addr} {xs : List V} {vs : List Nat} {j l : Nat} (F : Nat → V) (h : EvA ta σ H [.ref a]) (hx : SqL K H a xs) (hz : xs.length ≤ 40000) (hw : ∀ x y, wipe (((wipe σ vs).set j (some x)).set l (some y)) vs = wipe σ vs)
    (hg : ∀ (i : Nat) x, xs[i]? = some x → Ev te (((wipe σ vs).set j (some (.int (i : Int)))).set l (some x)) H (F i)) :
    EvR (tLc (iEnum K ta) (gTup K 2 (gCons (gName j) (gCons (gName l) gNil))) tYes te vs) σ H (NewL ((List.range xs.length).map F) H) := fun H0 e Q q => h H0 e _ fun H1 e1 => ⟨a, xs, rfl, ex_l (e.trans e1) hx, fun Dl hD => by
  refine ⟨fun i m H' => m = xs.length - i ∧ i ≤ xs.length ∧ Lw H1 (fun i y _ => y = F i) Dl i H', ⟨_, rfl, Nat.zero_le _, hD, Ex.new hD, [], upd_same, rfl, fun j y hy => by simp at hy⟩, ?_⟩
  rintro i m H' ⟨rfl, hi, p⟩
  have qx := ex_l ((e.trans e1).trans p.2.1) hx
  by_cases hlt : i < xs.length
  · have ex : xs[i]? = some xs[i] := List.getElem?_eq_getElem hlt
    refine .inr ⟨⟨xs, _, qx, ex⟩, Lw H1 (fun i y _ => y = F i) Dl (i + 1), fun H2 p2 => ⟨xs.length - (i + 1), by omega, rfl, hlt, p2⟩, fun v H2 hyld => ?_⟩
    obtain ⟨T, x', rfl, hT, rfl, f1⟩ := hyld
    have e1' : x' = xs[i] := Option.some.inj ((f1 _ qx).symm.trans ex)
    subst e1'
    refine g_tup2 (st_of upd_same) ⟨hw _ _, ?_⟩
    have p' : Lw H1 (fun i y _ => y = F i) Dl i (upd H' T (.tup [.int (i : Nat), xs[i]])) := by
      obtain ⟨p1, p2, zs, p3, p4, p5⟩ := p
      exact ⟨p1, p2.trans (Ex.new hT), zs, by rw [upd_ne (ne_of_none p3 hT)]; exact p3, p4, p5⟩
    exact lw_turn p' (by omega) stb_val ((evr (hg i _ ex)).mono (e.trans e1))
  · have ei : i = xs.length := by omega
    subst ei
    obtain ⟨p1, p2, zs, p3, p4, p5⟩ := p
    rw [lc_is p4 p5] at p3
    exact .inl ⟨⟨xs, qx, Nat.le_refl _⟩, q _ H' (e1.trans p2) ⟨Dl, rfl, fresh_back (e.trans e1) p1, p3⟩⟩⟩
/-- for k, x in enumerate(xs) -/
theorem q_forE {ta : TA} {a : Addr} {xs : List V} {j l : Nat} (h : EvA ta σ H [.ref a]) (hx : SqL K H a xs) (Pv : Nat → L2.St → Hp → Prop) (h0 : ∀ H1, Ex H H1 → Pv 0 σ H1) (hl : ∀ i σ' H', Pv i σ' H' → Ex H H') (hst : ∀ i σ' H' T o, Pv i σ' H' → H' T = none → Pv i σ' (upd H' T o))
    (hs : ∀ (i : Nat) x σ' H', xs[i]? = some x → Pv i σ' H' → tu { D with nx := Pv (i + 1), ct := Pv (i + 1), bk := tz D } ((σ'.set j (some (.int (i : Int)))).set l (some x)) H') (hd : ∀ σ' H', Pv xs.length σ' H' → tz D σ' H') :
    tSeq (tFor (iEnum K ta) (gTup K 2 (gCons (gName j) (gCons (gName l) gNil))) tu) tz D σ H := h H (Ex.refl H) _ fun H1 e1 => ⟨a, xs, rfl, ex_l e1 hx, by
  refine ⟨fun i m σ' H' => m = xs.length - i ∧ i ≤ xs.length ∧ Pv i σ' H', ⟨_, rfl, Nat.zero_le _, h0 H1 e1⟩, ?_⟩
  rintro i m σ' H' ⟨rfl, hi, p⟩
  have qx := ex_l (hl i σ' H' p) hx
  by_cases hlt : i < xs.length
  · have ex : xs[i]? = some xs[i] := List.getElem?_eq_getElem hlt
    refine .inr ⟨⟨xs, _, qx, ex⟩, Pv (i + 1), fun σ2 H2 p2 => ⟨xs.length - (i + 1), by omega, rfl, hlt, p2⟩, fun v H2 hyld => ?_⟩
    obtain ⟨T, x', rfl, hT, rfl, f1⟩ := hyld
    have e1' : x' = xs[i] := Option.some.inj ((f1 _ qx).symm.trans ex)
    subst e1'
    exact g_tup2 (st_of upd_same) (hs i _ σ' _ ex (hst i σ' H' T _ p hT))
  · have ei : i = xs.length := by omega
    subst ei
    exact .inl ⟨⟨xs, qx, Nat.le_refl _⟩, hd σ' H' p⟩⟩
end
end Wl
namespace Wl
open PySem PySem.Spec PyProof.Rows L2 Evl
section
variable {K : PySem.W.Frag} {σ : L2.St} {H H' : Hp} {ta tb tc te tl ti : TE} {t u : TT} {D : Ends} {tu tw tz : TS} {g : TG} {R S : V → Hp → Prop}
/-- a comprehension over what is told by facts -/
theorem er_lcB {ty : TT} {vs : List Nat} (h : EvR tl σ H S) (k : ∀ v H1, Ex H H1 → S v H1 → EvR (tLc (iList K (tC v)) g ty te vs) σ H1 R) : EvR (tLc (iList K tl) g ty te vs) σ H R := fun H0 e Q q =>
  h H0 e _ fun v H1 e1 hv => k v H1 (e.trans e1) hv H1 (Ex.refl _) Q fun v2 H2 e2 p => q v2 H2 (e1.trans e2) p
/-- an if of which one side is known to tell something -/
theorem q_ifW {φ : Prop} (h : ∀ H1, Ex H H1 → ∀ Q : Bool → Hp → Prop, (∀ b H2, Ex H1 H2 → (b = true → φ) → Q b H2) → t σ H1 Q) (h1 : φ → ∀ H1, Ex H H1 → tu { D with nx := tz D } σ H1) (h2 : ∀ H1, Ex H H1 → tw { D with nx := tz D } σ H1) : tSeq (tIfS t tu tw) tz D σ H := h H (Ex.refl H) _ fun b H1 e p => by
  cases b with
  | true => exact h1 (p rfl) H1 e
  | false => exact h2 H1 e
theorem ew_and {b : Bool} (h1 : EvT t σ H b) (h2 : b = true → EvQ u σ H) : ∀ H1, Ex H H1 → ∀ Q : Bool → Hp → Prop, (∀ c H2, Ex H1 H2 → (c = true → b = true) → Q c H2) → tAnd t u σ H1 Q := fun H1 e Q q => h1 H1 e _ fun H2 e2 => by
  cases b with
  | false => exact q false H2 e2 fun z => nomatch z
  | true => exact h2 rfl H2 (e.trans e2) Q fun c H3 e3 => q c H3 (e2.trans e3) fun _ => rfl
/-- arguments that all hold one thing -/
def AllH (n : Nat) (R : V → Hp → Prop) : List V → Hp → Prop := fun vs H => vs.length = n ∧ ∀ x ∈ vs, R x H
def UpH (R : V → Hp → Prop) : Prop := ∀ x H H', Ex H H' → R x H → R x H'
theorem ear_all0 : EvAR tNil σ H (AllH 0 R) := ear_nil.imp fun vs _ _ h => by subst h; exact ⟨rfl, fun _ h => nomatch h⟩
theorem ear_all1 {n : Nat} {tr : TA} (up : UpH R) (h : EvR te σ H R) (hr : EvAR tr σ H (AllH n R)) : EvAR (tCons te tr) σ H (AllH (n + 1) R) := ear_cons h fun x H1 e p => (show EvAR tr σ H1 (AllH n R) from fun H2 e2 => hr H2 (e.trans e2)).imp fun vs H2 e2 ⟨h1, h2⟩ => ⟨by rw [List.length_cons, h1], fun y hy => by
  rcases List.mem_cons.mp hy with rfl | hy
  · exact up _ _ _ e2 p
  · exact h2 y hy⟩
/-- for x in (a, b, ..), of which all hold one thing -/
theorem s_forAll {n j : Nat} {ta : TA} (up : UpH R) (h : EvAR ta σ H (AllH n R)) (hn : n ≤ 100000) (k : ∀ H1, Ex H H1 → ∃ Pv : L2.St → Hp → Prop, Pv σ H1 ∧ (∀ σ' H', Pv σ' H' → Ex H1 H') ∧
    (∀ x σ' H', Pv σ' H' → R x H' → tu { D with nx := Pv, ct := Pv, bk := D.nx } (σ'.set j (some x)) H') ∧ (∀ σ' H', Pv σ' H' → D.nx σ' H')) : tFor (iTup K (tTup ta)) (gName j) tu D σ H :=
  s_forTU (er_tup h (fun vs H1 p => by rw [p.1]; exact hn)) fun v H1 e ⟨p, vs, H2, hv, _, e2, hp, h1⟩ => by
    obtain ⟨Pv, h0, hl, hs, hd⟩ := k H1 e
    exact ⟨p, vs, hv, st_of h1, fun _ => Pv, h0, fun _ σ' H' _ q => st_of (hl σ' H' q _ _ h1), fun i x σ' H' hx q => hs x σ' H' q (up _ _ _ (e2.trans (hl σ' H' q)) (hp.2 x (List.mem_of_getElem? hx))), hd⟩
theorem q_forAll {n j : Nat} {ta : TA} (up : UpH R) (h : EvAR ta σ H (AllH n R)) (hn : n ≤ 100000) (k : ∀ H1, Ex H H1 → ∃ Pv : L2.St → Hp → Prop, Pv σ H1 ∧ (∀ σ' H', Pv σ' H' → Ex H1 H') ∧
    (∀ x σ' H', Pv σ' H' → R x H' → tu { D with nx := Pv, ct := Pv, bk := tz D } (σ'.set j (some x)) H') ∧ (∀ σ' H', Pv σ' H' → tz D σ' H')) : tSeq (tFor (iTup K (tTup ta)) (gName j) tu) tz D σ H :=
  s_forAll (D := { D with nx := tz D }) up h hn k
/-- xs[i] = e, of what is told by facts -/
theorem s_setLR {l : Addr} {xs : List V} {j : Nat} (hl : H l = some (.lst xs)) (h : EvR te σ H R) (ho : Ev ta σ H (.ref l)) (hi : Ev tb σ H (.int (j : Int))) (hj : j < xs.length) (k : ∀ v H1, Ex H H1 → (∃ H0, Ex H0 H1 ∧ R v H0) → D.nx σ (upd H1 l (.lst (xs.set j v)))) :
    tAsg te (gSub ta tb rSetL) D σ H := h H (Ex.refl H) _ fun v H1 e1 p => ho H1 e1 _ fun H2 e2 => hi H2 (e1.trans e2) _ fun H3 e3 =>
  ⟨l, xs, (j : Int), j, rfl, rfl, ((e1.trans e2).trans e3) l _ hl, ixN_nat hj, k v H3 ((e1.trans e2).trans e3) ⟨H1, e2.trans e3, p⟩⟩
/-! rests joined, cut -/
theorem er_rsCat {rs ss : List (Int × Int)} (ha : EvR ta σ H (fun v H => RsAt H v rs)) (hb : EvR tb σ H (fun v H => RsAt H v ss)) (hl : rs.length + ss.length ≤ 100000) : EvR (tOp rCat ta tb) σ H (fun v H => RsAt H v (rs ++ ss)) := fun H1 e Q q =>
  ha H1 e _ fun x H2 e2 ⟨p, xs, hx, hp, h1⟩ => hb H2 (e.trans e2) _ fun y H3 e3 ⟨r, ys, hy, hr, h2⟩ => ⟨p, r, xs, ys, hx, hy, e3 _ _ hp, hr, sz_of (by rw [h1.len, h2.len]; exact hl), fun l hn => q _ _ ((e2.trans e3).trans (Ex.new hn)) ⟨l, _, rfl, upd_same, ((h1.up e3).append h2).up (Ex.new hn)⟩⟩
theorem er_rsRev {rs : List (Int × Int)} {v : V} (h : Ev ta σ H v) (hr : RsAt H v rs) : EvR (tRevL K ta) σ H (fun v H => RsAt H v rs.reverse) := by
  obtain ⟨a, xs, rfl, h1, h2⟩ := hr
  exact (er_rev h (sq_of h1)).imp fun v H2 e ⟨p, hv, _, hp⟩ => ⟨p, _, hv, hp, (h2.up e).rev⟩
theorem er_rsDrop {rs : List (Int × Int)} {v : V} (h : Ev ta σ H v) (hr : RsAt H v rs) : EvR (tSl (rSlL K) ta (tPart (tC (.int 1))) tNoPart) σ H (fun v H => RsAt H v (rs.drop 1)) := by
  obtain ⟨a, xs, rfl, h1, h2⟩ := hr
  exact (er_sl h (eo_some ev_c) eo_none (sq_of h1)).imp fun v H2 e ⟨p, hv, _, hp⟩ => ⟨p, _, hv, hp, by rw [cut_from1]; exact (h2.up e).drop1⟩
theorem set_same {α : Type} : ∀ {l : List α} {i : Nat} {x : α}, l[i]? = some x → l.set i x = l
  | [], _, _, h => by simp at h
  | _ :: _, 0, _, h => by cases h; rfl
  | a :: l, i + 1, x, h => congrArg (a :: ·) (set_same (l := l) (i := i) (x := x) (by simpa using h))
/-- if due: due = e -/
theorem q_due {b r : Bool} {i : Nat} (hσ : σ[i]? = some (some (.bl b))) (h : b = true → ∀ H1, Ex H H1 → Ev te σ H1 (.bl r)) (k : ∀ H1, Ex H H1 → tz D (σ.set i (some (.bl (b && r)))) H1) : tSeq (tIfS (tB (tVar i)) (tAsg te (gName i)) tNext) tz D σ H :=
  q_when (b := b) (et_B (ev_var hσ)) (fun hb H1 e => s_asg (h hb H1 e) fun H2 e2 => by
    have := k H2 (e.trans e2)
    rw [hb] at this
    exact this) fun hb H1 e => by
    have := k H1 e
    rw [hb, Bool.false_and, set_same (by rw [hσ, hb])] at this
    exact this
/-- an if whose two ways meet in one word -/
theorem q_join {φ : Bool → Prop} (Pv : L2.St → Hp → Prop) (h : ∀ H1, Ex H H1 → ∀ Q : Bool → Hp → Prop, (∀ b H2, Ex H1 H2 → φ b → Q b H2) → t σ H1 Q) (h1 : φ true → ∀ H1, Ex H H1 → ∀ D : Ends, (∀ σ' H', Pv σ' H' → D.nx σ' H') → tu D σ H1) (h2 : φ false → ∀ H1, Ex H H1 → Pv σ H1) (k : ∀ σ' H', Pv σ' H' → tz D σ' H') : tSeq (tIfS t tu tNext) tz D σ H := h H (Ex.refl H) _ fun b H1 e p => by
  cases b with
  | true => exact h1 p H1 e { D with nx := tz D } k
  | false => exact k _ _ (h2 p H1 e)
theorem et_phi {b : Bool} (h : EvT t σ H b) : ∀ H1, Ex H H1 → ∀ Q : Bool → Hp → Prop, (∀ c H2, Ex H1 H2 → c = b → Q c H2) → t σ H1 Q := fun H1 e Q q => h H1 e Q fun H2 e2 => q b H2 e2 rfl
/-- a method of what is told by facts -/
theorem ev_methB {C : Addr} {m : Str} {sp : Sp} {E : XK} {tm : TA} {z : V} (ha : EvR ta σ H R) (k : ∀ v H1, Ex H H1 → R v H1 → Ev (tMeth C m sp [] E (tC v) tm) σ H1 z) : Ev (tMeth C m sp [] E ta tm) σ H z := fun H1 e Q q =>
  ha H1 e _ fun v H2 e2 p => k v H2 (e.trans e2) p H2 (Ex.refl _) Q fun H3 e3 => q H3 (e2.trans e3)
/-- for over what is told by facts -/
theorem s_forB (h : EvR tl σ H S) (k : ∀ v H1, Ex H H1 → S v H1 → tFor (iList K (tC v)) g tu D σ H1) : tFor (iList K tl) g tu D σ H := h H (Ex.refl H) _ fun v H1 e p => k v H1 e p
/-- for x, y in [(..), (..)] -/
def PairX (x : V) (H : Hp) : Prop := ∃ p, PairAt H x p
theorem upPair : UpH PairX := fun _ _ _ e ⟨p, h⟩ => ⟨p, h.up e⟩
theorem q_forAllP {n j l : Nat} {ta : TA} (h : EvAR ta σ H (AllH n PairX)) (hn : n ≤ 100000) (k : ∀ H1, Ex H H1 → ∃ Pv : L2.St → Hp → Prop, Pv σ H1 ∧ (∀ σ' H', Pv σ' H' → Ex H1 H') ∧
    (∀ (p : Int × Int) σ' H', Pv σ' H' → tu { D with nx := Pv, ct := Pv, bk := tz D } ((σ'.set j (some (.int p.1))).set l (some (.int p.2))) H') ∧ (∀ σ' H', Pv σ' H' → tz D σ' H')) : tSeq (tFor (iList K (tLst ta)) (gTup K 2 (gCons (gName j) (gCons (gName l) gNil))) tu) tz D σ H :=
  s_forB (D := { D with nx := tz D }) (er_lst h (fun vs H1 p => by rw [p.1]; exact hn)) fun v H1 e ⟨p, vs, H2, hv, _, e2, hp, h1⟩ => by
    obtain ⟨Pv, h0, hl, hs, hd⟩ := k H1 e
    subst hv
    exact ⟨p, rfl, ⟨vs, sq_of h1⟩, for_list (xs := vs) (fun _ => Pv) h0 (fun _ σ' H' _ q => sq_of (hl σ' H' q _ _ h1)) (fun i x σ' H' hx q => by
      obtain ⟨pp, t, hx2, ht⟩ := upPair _ _ _ (e2.trans (hl σ' H' q)) (hp.2 x (List.mem_of_getElem? hx))
      subst hx2
      exact g_tup2 (st_of ht) (hs pp σ' H' q)) hd⟩
theorem all_int {φ : Int → Prop} : ∀ {ys : List V}, (∀ y ∈ ys, ∃ z : Int, y = .int z ∧ φ z) → ∃ ns : List Int, ys = iv ns ∧ ∀ z ∈ ns, φ z
  | [], _ => ⟨[], rfl, fun _ h => nomatch h⟩
  | y :: ys, h => by
    obtain ⟨z, rfl, hz⟩ := h y List.mem_cons_self
    obtain ⟨ns, rfl, hn⟩ := all_int (ys := ys) fun y hy => h y (List.mem_cons_of_mem _ hy)
    exact ⟨z :: ns, rfl, fun x hx => by
      rcases List.mem_cons.mp hx with rfl | hx
      · exact hz
      · exact hn x hx⟩
theorem iv_cut (ts : List Int) (lo hi : Option Int) : ∃ us, cutV (iv ts) lo hi = iv us ∧ us.length ≤ ts.length := by
  unfold cutV
  rw [iv_drop, iv_take]
  exact ⟨_, rfl, by rw [List.length_take, List.length_drop]; omega⟩
def IntX (x : V) (_ : Hp) : Prop := ∃ i : Int, x = .int i
theorem upInt : UpH IntX := fun _ _ _ _ h => h
theorem er_int {i : Int} (h : Ev te σ H (.int i)) : EvR te σ H IntX := (evr h).imp fun _ _ _ h => ⟨i, h⟩
end
end Wl
namespace Wl
open PySem PySem.Spec PyProof.Rows L2 Evl
/-! ### defs that raise -/
section
variable {C : CXT} {P : Program} {w : World} {K : PySem.W.Frag} {mg : Str → Option Value} {base : Heap}
/-- a def that lets out errors of the kind C -/
structure OkC (C : CXT) (P : Program) (w : World) (K : PySem.W.Frag) (mg : Str → Option Value) (base : Heap) (k : Nat) (f : Addr) (fd : FuncData) (ps : List Str) (sp : Sp) : Prop where
  (ok : FnOk P w K mg base C k f fd ps sp) (bi : Binds K fd ps []) (kp : PySem.W.keepIn K (.ref f) = true)
abbrev OkkC (C : CXT) (P : Program) (w : World) (K : PySem.W.Frag) (mg : Str → Option Value) (base : Heap) (k : Nat) (f : Addr) (ps : List Str) (sp : Sp) : Prop := ∃ fd, OkC C P w K mg base k f fd ps sp
theorem OkC.mono {j k : Nat} {f : Addr} {fd : FuncData} {ps : List Str} {sp : Sp} (h : OkC C P w K mg base j f fd ps sp) (hk : j ≤ k) : OkC C P w K mg base k f fd ps sp := ⟨h.ok.mono hk, h.bi, h.kp⟩
/-- its body walked, wherever it is called -/
abbrev BodyOf (C : CXT) (P : Program) (w : World) (K : PySem.W.Frag) (mg : Str → Option Value) (base : Heap) (N : List Str) (qual : Str) (st : Stmt) (f : Addr) (k : Nat) (sp : Sp) : Prop :=
  ∀ (cd : Value) (B : Around) (out : List Env) (s : Shared) (H : Hp) (vs : List V) (Q : VK) (E : XK), Room k (B.deeper (envOfC qual (defScope st) s.heap.objs.size f cd)) → sp vs H Q E →
    ∃ t, PSs (cxOf C P w K mg base N qual (defScope st) f cd B out s H E) (defBody st) t ∧ t { nx := fun _ H' => Q .non H', rt := Q } (start N vs) H
theorem okkc {x qual : Str} {st : Stmt} {f : Addr} {N ps : List Str} {k : Nat} {sp : Sp} (F : ∃ fd, Fun K x qual st f fd ∧ Binds K fd ps []) (S : FnScope N ps (defScope st)) (len : ∀ vs H Q E, sp vs H Q E → vs.length = ps.length)
    (body : BodyOf C P w K mg base N qual st f k sp) : OkkC C P w K mg base (k + 1) f ps sp :=
  match F with
  | ⟨_, ⟨⟨_, _, _, _, _, _, _, _, _, rfl, look, code⟩, keep⟩, b⟩ => ⟨_, fn_of look code S len (body _), b, keep⟩
/-- errors behind which nothing stands -/
abbrev OkX (P : Program) (w : World) (K : PySem.W.Frag) (mg : Str → Option Value) (base : Heap) (k : Nat) (f : Addr) (fd : FuncData) (ps : List Str) (sp : Sp) : Prop := OkC (L2N.CX P w) P w K mg base k f fd ps sp
abbrev OkkX (P : Program) (w : World) (K : PySem.W.Frag) (mg : Str → Option Value) (base : Heap) (k : Nat) (f : Addr) (ps : List Str) (sp : Sp) : Prop := OkkC (L2N.CX P w) P w K mg base k f ps sp
theorem okkx {x qual : Str} {st : Stmt} {f : Addr} {N ps : List Str} {k : Nat} {sp : Sp} (F : ∃ fd, Fun K x qual st f fd ∧ Binds K fd ps []) (S : FnScope N ps (defScope st)) (len : ∀ vs H Q E, sp vs H Q E → vs.length = ps.length)
    (body : BodyOf (L2N.CX P w) P w K mg base N qual st f k sp) : OkkX P w K mg base (k + 1) f ps sp := okkc F S len body
theorem passX0 {X : Cx} : Passes (L2N.CX X.prog X.w) X E0 := fun _ _ _ _ _ _ _ ⟨_, _, _, _, _, _, _, _, _, _, _, _, no⟩ => no.elim
theorem passE {X : Cx} {E : XK} {E₁ : Value → Shared → Prop} (hs : X.stack = X.env :: X.outer) (hf : X.env.frame = some X.env.locals) (hex : X.ex = [])
    (hx : X.xe = fun e s' => wpAny (model X.prog X.w) X.A (leaving X.env e) (fun _ s'' => L2N.CX X.prog X.w X.outer X.H_0 X.s_0 E e s'') E₁ s') : Passes (L2N.CX X.prog X.w) X E := L2N.passes_call (L2N.takes_of hs hf hex hx) fun _ _ _ _ h => h
theorem takes0N {X : Cx} : L2N.Takes X (fun _ _ _ _ => False) := fun _ _ ⟨_, _, _, _, _, _, _, _, _, _, _, _, _, _, _, _, no⟩ => no.elim
/-- raises an error of the class C -/
def spZ {α : Type} (Pre : α → List V → Hp → Prop) (C : Addr) : Sp := fun vs H _ E => ∃ d, Pre d vs H ∧ ∀ H', Ex H H' → E (.ref C) none H'
def spO (s1 s2 : Sp) : Sp := fun vs H Q E => s1 vs H Q E ∨ s2 vs H Q E
/-- never comes to a value -/
def Rz (te : TE) (σ : L2.St) (H : Hp) : Prop := ∀ H1, Ex H H1 → ∀ Q : VK, te σ H1 Q
section
variable {σ : L2.St} {H H' : Hp} {ta tb te : TE} {tl : TA} {t : TT} {D : Ends} {tz : TS} {vs : List V} {sp : Sp} {E : XK}
theorem rz_call (h : EvA tl σ H vs) (k : ∀ H1, Ex H H1 → ∀ Q, sp vs H1 Q E) : Rz (tCall sp [] E tl) σ H := fun H1 e Q => h H1 e _ fun H2 e2 => by
  show sp (vs ++ []) H2 Q E
  rw [List.append_nil]
  exact k H2 (e.trans e2) Q
theorem rz_if {b : Bool} (h : EvT t σ H b) (h1 : b = true → Rz ta σ H) (h2 : b = false → Rz tb σ H) : Rz (tIf t ta tb) σ H := fun H1 e Q => h H1 e _ fun H2 e2 => by
  cases b with
  | true => exact h1 rfl H2 (e.trans e2) Q
  | false => exact h2 rfl H2 (e.trans e2) Q
theorem q_dropX (h : Rz te σ H) : tSeq (tDrop te) tz D σ H := h H (Ex.refl H) _
theorem s_retX (h : Rz te σ H) : tRet te D σ H := h H (Ex.refl H) _
end
/-! ### a def called in an except suite with the error -/
/-- nothing is let out -/
abbrev CXn : CXT := fun _ _ _ _ _ _ => False
/-- p's object, an error of the class D behind which nothing stands, is handled -/
def Held1 (A : Around) (D : Addr) (p : Addr × Obj) : Prop := L2H.Hot1 A p ∧ Zc (.ref D) none p.2
structure FnP (P : Program) (w : World) (K : PySem.W.Frag) (mg : Str → Option Value) (base : Heap) (k : Nat) (f : Addr) (fd : FuncData) (ps : List Str) (D : Addr) (sp : Addr → Sp) : Prop where
  len : ∀ a vs H Q E, sp a vs H Q E → vs.length = ps.length
  run : ∀ {A outer s H args us vs Q E p}, L2H.RoomH k A → Held1 A D p → L2H.PinOk outer H s p → Env0 P w K mg base A outer s H → BindsTo s fd args (ps.zip us) → Vals vs us → sp p.1 vs H Q E → codeAny (model P w) A (.call (.ref f) args) (CR CXn outer P w H s Q E) s
/-- a body's ends are a call's ends -/
theorem cr_of {C : CXT} {P : Program} {w : World} {K : PySem.W.Frag} {mg : Str → Option Value} {base : Heap} {N : List Str} {qual : Str} {scope : Scope} {f : Addr} {cd : Value} {A : Around} {outer : List Env} {s s' : Shared} {H : Hp} {Q : VK} {E : XK} {p : Addr × Obj} {fl : Flow}
    (h : SP (L2H.cxH C P w K mg base N qual scope f cd A outer s H E p) [] { nx := fun _ H' => Q .non H', rt := Q } fl s') : CR C outer P w H s Q E (.ok (.ret (match (generalizing := false) fl with | .ret v => v | _ => .none))) s' :=
  match fl, h with
  | .ret _, ⟨v, _, H', J, r, q⟩ => ⟨v, H', J.os, J.bare, J.base, J.hok, r, q⟩
  | .next, ⟨_, H', J, q⟩ => ⟨.non, H', J.os, J.bare, J.base, J.hok, rfl, q⟩
  | .brk, ⟨_, _, _, no⟩ => no.elim
  | .cont, ⟨_, _, _, no⟩ => no.elim
theorem fn_ofP {k : Nat} {f : Addr} {x qual : Str} {st : Stmt} {fd : FuncData} {N ps : List Str} {D : Addr} {sp : Addr → Sp} (F : Fun K x qual st f fd) (S : FnScope N ps (defScope st)) (len : ∀ a vs H Q E, sp a vs H Q E → vs.length = ps.length)
    (body : ∀ (cd : Value) (A : Around) (outer : List Env) (s : Shared) (H : Hp) (vs : List V) (Q : VK) (E : XK) (p : Addr × Obj), Held1 A D p → sp p.1 vs H Q E →
      ∃ t, PSs (L2H.cxH CXn P w K mg base N qual (defScope st) f cd A outer s H E p) (defBody st) t ∧ t { nx := fun _ H' => Q .non H', rt := Q } (L2.start N vs) H) : FnP P w K mg base (k + 1) f fd ps D sp := by
  rcases F.ex with ⟨_, _, _, _, _, _, cd, _, _, rfl, look, code⟩
  refine ⟨len, ?_⟩
  intro A outer s H args us vs Q E p room held pin here bound vals wish
  have low : ∀ b o, base.get? b = some o → s.heap.get? b = some o := fun b o h => (here.bs b o h).1
  have inK := here.mod.kin.keeps low
  refine codeAny_call_function room.depth (inK _ _ look) rfl S.co S.gen rfl (PySem.W.codeRec_of inK code) (bound _ _ _ _ (wpAny_newFunctionEnv_cells S.kind (fun y hy => ?_) fun env made s1 entered => ?_))
  · exact (S.par y.1 (List.of_mem_zip hy).1).imp id fun c => ⟨c, PySem.W.cellsFrom_some _ _ _ (.inl c)⟩
  · cases made
    rcases body cd A outer s H vs Q E p held wish with ⟨t, walk, q⟩
    have J := L2H.inv_startH (CX := CXn) (E := E) (mg := mg) S pin here (len _ _ _ _ _ wish) vals entered
    exact ⟨(here.mod.nolimit.keeps low).keeps entered.toInCall.keep, codeAny_func (wpAny_mono (walk.run [] s1 _ H _ J q) (fun _ _ => cr_of) fun _ _ z => z)⟩
end
/-- f(error), within the suite that caught it -/
def tCallP (P : Program) (w : World) (K : PySem.W.Frag) (mg : Str → Option Value) (base : Heap) (k : Nat) (f : Addr) (cls : Value) (d : Option Addr) (a : Addr) (t : TA) : TE := fun σ H Q => ∃ D fd ps sp, cls = .ref D ∧ d = none ∧ FnP P w K mg base k f fd ps D sp ∧ Binds K fd ps [] ∧ t σ H fun vs H1 => sp a vs H1 Q (fun _ _ _ => False)
section
variable {X : Cx} {k i : Nat} {f a : Addr} {oe : Obj} {cls : Value} {d : Option Addr} {x : Str} {p pos q : Pos} {e : Expr} {es : List Expr} {t : TA}
/-- arguments bound: no defaults -/
theorem bound_of {pins : List (Addr × Obj)} {σ : L2.St} {H : Hp} {s : Shared} {fd : FuncData} {ps : List Str} {us : List Value} (I : Inv X pins σ H s) (b : Binds X.K fd ps []) (l : us.length = ps.length) : BindsTo s fd ⟨us, []⟩ (ps.zip us) := by
  have z := b s us I.kIn
  rw [List.append_nil] at z
  exact z l
/-- a pinned object, as a callee wants it -/
theorem pin_ok {pins : List (Addr × Obj)} {σ : L2.St} {H : Hp} {s : Shared} {r : Addr × Obj} (I : Inv X pins σ H s) (hr : r ∈ X.pn) : L2H.PinOk X.stack H s r :=
  match I.pin r (List.mem_append_left _ hr) with
  | ⟨here, free, nl, nf, nc⟩ => ⟨here, free, fun hm => (List.mem_cons.mp (I.stkSub _ hm)).elim nl nf, nc⟩
/-- what a call that lets nothing out leaves -/
theorem ret_of {pins : List (Addr × Obj)} {σ : L2.St} {H : Hp} {s s' : Shared} {Q : VK} {E : XK} {r : Result} (I : Inv X pins σ H s) (h : CR CXn X.stack X.prog X.w H s Q E r s') : ∃ u, r = .ok (.ret u) ∧ EP X pins σ Q u s' :=
  match r, h with
  | .ok (.ret u), z => ⟨u, rfl, I.after z⟩
theorem pe_callP (hr : L2H.RoomH k X.A) (hot : L2H.Hot1 X.A (a, oe)) (hp : (a, oe) ∈ X.pn) (hz : Zc cls d oe) (hg : Gl X x) (hm : X.mg x = some (.ref f)) (hk : PySem.W.keepIn X.K (.ref f) = true) (ha : PA X (e :: es) t) (hdb : (x == ("__debug__" : Str)) = false := by decide)
    (he : starEach (e :: es) X.env = (false, eval e X.env) :: starEach es X.env := by rfl) (hpl : (backTo pos (starEach es X.env)).any (·.1) = false := by rfl) : PE X (.Call (.Name x q) (e :: es) [] pos) (tCallP X.prog X.w X.K X.mg X.base k f cls d a t) := by
  constructor
  rintro pins s σ H Q I ⟨D, fd, ps, sp, rfl, rfl, F, b, args⟩
  refine wpAny_Call_Name_kw (ld_glob I hg hm (PySem.W.callWith_K (h₀ := X.base) I.ok.mod.kin hk (thn (ha.run pos pins s σ H _ I args) ?_) he hpl) hdb)
  rintro us s1 ⟨vs, H1, J, vals, wish⟩
  have call := F.run hr ⟨hot, hz⟩ (pin_ok J hp) J.env0 (bound_of J b (vals.length.symm.trans (F.len _ _ _ _ _ wish))) vals wish
  refine ⟨J.kIn, wpAny_call (codeAny_mono call fun r s' z => ?_)⟩
  rcases ret_of J z with ⟨u, rfl, done_⟩
  exact done_
/-- what holds in the suite's context holds wherever its error is handled and pinned -/
theorem callR_suite {g : Value} {rd : List V → Hp → VK → Prop} (hh : X.A.handled = some (.ref a)) (hp : (a, oe) ∈ X.pn) (h : CallR (X.suite a ((a, oe) :: X.pn)) g rd) : CallR X g rd := by
  intro pins s σ H vs us Q I r q
  have S : Inv (X.suite a ((a, oe) :: X.pn)) pins σ H s := ⟨I.ok.suite _ _, I.os, I.bare, I.base, I.loc, I.cell, I.free, I.freeC, fun b hb => I.pin b ((List.mem_cons.mp hb).elim (fun z => List.mem_append_left _ (z ▸ hp)) id), I.hok, I.len⟩
  have same : X.A.mark (some (.ref a)) = X.A := by
    generalize X.A = B at hh
    cases B
    cases hh
    rfl
  have z := h pins s σ H vs us Q S r q
  rw [show (X.suite a ((a, oe) :: X.pn)).A = X.A from same] at z
  exact wpAny_mono z (fun u s' ⟨v, H', J, w⟩ => ⟨v, H', ⟨I.ok, J.os, J.bare, J.base, J.loc, J.cell, J.free, J.freeC, fun b hb => J.pin b (List.mem_cons_of_mem _ hb), J.hok, J.len⟩, w⟩) fun _ _ no => no.elim
theorem call_isP {D : Addr} (K : PySem.W.Frag) (hh : X.A.handled = some (.ref a)) (hp : (a, oe) ∈ X.pn) (C : ExcC X.K D) (hz : Zc (.ref D) none oe) (hf : ∃ vs, oe.data = .fields vs) (hK : X.K = K := by rfl) : CallR X (.builtin "isinstance") (rIsE K D a) := by
  subst hK
  exact callR_suite hh hp (call_isE C hz hf)
/-- a call of what a slot holds, in a try -/
def tCallLX (P : Program) (w : World) (K : PySem.W.Frag) (mg : Str → Option Value) (base : Heap) (k i : Nat) (W : WX) (t : TA) : TE := fun σ H Q => ∃ f fd ps sp, σ[i]? = some (some (.ref f)) ∧ OkX P w K mg base k f fd ps sp ∧ t σ H fun vs H1 => sp vs H1 Q (WE W σ)
theorem pe_callLX {W : WX} (tk : L2N.Takes X W) (hr : Room k X.A) (hN : X.N[i]? = some x) (hv : Vis X.env.scope x) (ha : PA X (e :: es) t)
    (hd : (x == ("__debug__" : Str)) = false ∧ (x == ("__classdict__" : Str)) = false := by decide)
    (he : starEach (e :: es) X.env = (false, eval e X.env) :: starEach es X.env := by rfl) (hpl : (backTo pos (starEach es X.env)).any (·.1) = false := by rfl) : PE X (.Call (.Name x p) (e :: es) [] pos) (tCallLX X.prog X.w X.K X.mg X.base k i W t) := by
  constructor
  rintro pins s σ H Q I ⟨f, fd, ps, sp, slot, G, args⟩
  have name := (pe_var (pos := p) hN hv hd.1 hd.2).run pins s σ H (fun v H1 => v = .ref f ∧ H1 = H) I ⟨.ref f, slot, rfl, rfl⟩
  refine wpAny_Call_Name_kw (thn name ?_)
  rintro u s1 ⟨_, _, J, r, rfl, rfl⟩
  obtain rfl : u = .ref f := r
  exact PySem.W.callWith_K (h₀ := X.base) I.ok.mod.kin G.kp (thn (ha.run pos pins s1 σ _ _ J args) fun us s2 ⟨vs, H2, J2, vals, wish⟩ => ⟨J2.kIn, run_fnS G.ok hr G.bi (L2N.passAt tk σ) J2 vals wish⟩) he hpl
end
end Wl
namespace Wl
open PySem SX TL
/-! ### texts of figures -/
def isDig (c : Nat) : Bool := decide (48 ≤ c) && decide (c ≤ 57)
theorem takeWhile_len {α : Type} (p : α → Bool) : ∀ l : List α, (l.takeWhile p).length ≤ l.length
  | [] => Nat.le_refl _
  | a :: l => by
    rw [List.takeWhile_cons]
    split
    · exact Nat.succ_le_succ (takeWhile_len p l)
    · exact Nat.zero_le _
theorem all_of_takeWhile {α : Type} (p : α → Bool) : ∀ l : List α, (l.takeWhile p).length = l.length → l.all p = true
  | [], _ => rfl
  | a :: l, h => by
    rw [List.takeWhile_cons] at h
    split at h
    · rename_i hp
      rw [List.all_cons, hp, all_of_takeWhile p l (Nat.succ.inj h)]
      rfl
    · exact absurd h (by simp)
theorem takeWhile_of_all {α : Type} (p : α → Bool) : ∀ l : List α, l.all p = true → l.takeWhile p = l
  | [], _ => rfl
  | a :: l, h => by
    rw [List.all_cons, Bool.and_eq_true] at h
    rw [List.takeWhile_cons, if_pos h.1, takeWhile_of_all p l h.2]
theorem drop_takeWhile_all {α : Type} (p : α → Bool) : ∀ l : List α, (l.drop (l.takeWhile p).length).all p = true → l.all p = true
  | [], _ => rfl
  | a :: l, h => by
    rw [List.takeWhile_cons] at h
    split at h
    · rename_i hp
      rw [List.all_cons, hp, drop_takeWhile_all p l h]
      rfl
    · exact h
/-- nothing is left of a text stripped of signs: all of them are such -/
theorem strip_nil_iff (x y : Str) : (Txt.stripChars x y = ⟨#[]⟩) ↔ x.cps.toList.all y.cps.contains = true := by
  have e : Txt.stripChars x y = W.stripped y.cps.contains true true x := W.stripBy_eq _ _ _ _
  rw [e]
  generalize hp : y.cps.contains = p
  have hl : x.cps.toList.length = x.length := Array.length_toList
  have h1 := takeWhile_len p x.cps.toList
  generalize hlo : (x.cps.toList.takeWhile p).length = lo at h1
  have h2 := takeWhile_len p (x.cps.toList.drop lo).reverse
  rw [List.length_reverse, List.length_drop] at h2
  have key : tl (W.stripped p true true x) = (x.cps.toList.drop lo).take (x.length - ((x.cps.toList.drop lo).reverse.takeWhile p).length - lo) := by
    unfold W.stripped
    simp only [if_true]
    rw [hlo]
    exact tl_strSub _ _ _
  have em : (W.stripped p true true x = ⟨#[]⟩) ↔ tl (W.stripped p true true x) = [] := ⟨fun h => by rw [h], fun h => ext_tl h⟩
  rw [em, key, List.take_eq_nil_iff]
  constructor
  · rintro (h | h)
    · have h3 := all_of_takeWhile p (x.cps.toList.drop lo).reverse (by rw [List.length_reverse, List.length_drop]; omega)
      rw [List.all_reverse] at h3
      exact drop_takeWhile_all p _ (by rw [hlo]; exact h3)
    · rw [List.drop_eq_nil_iff] at h
      refine all_of_takeWhile p _ ?_
      rw [hlo]
      omega
  · intro h
    right
    rw [List.drop_eq_nil_iff]
    have := takeWhile_of_all p _ h
    rw [← hlo, this]
    exact Nat.le_refl _
/-- a text that writes a number: one to seven figures, no nought ahead -/
def numOk (a : List Nat) : Bool := (decide (1 ≤ a.length) && decide (a.length ≤ 7)) && (a.all isDig && !(decide (a.head? = some 48) && !decide (a = [48])))
theorem digits_snoc (a : List Nat) (c : Nat) : NumText.digitsVal (a ++ [c]) = NumText.digitsVal a * 10 + (c - 48) := by
  unfold NumText.digitsVal
  rw [List.foldl_append]
  rfl
theorem snoc_ind {α : Type} {P : List α → Prop} (h0 : P []) (h1 : ∀ a c, P a → P (a ++ [c])) (l : List α) : P l := by
  have : ∀ n (l : List α), l.length = n → P l := fun n => by
    induction n with
    | zero => intro l h; rw [List.eq_nil_of_length_eq_zero h]; exact h0
    | succ n ih =>
      intro l h
      have hne : l ≠ [] := fun z => by rw [z] at h; cases h
      rw [← List.dropLast_concat_getLast hne]
      exact h1 _ _ (ih _ (by rw [List.length_dropLast, h]; rfl))
  exact this _ l rfl
theorem digits_pos : ∀ (l : List Nat), l.all isDig = true → l ≠ [] → l.head? ≠ some 48 → 1 ≤ NumText.digitsVal l := by
  intro l
  induction l using snoc_ind with
  | h0 => exact fun _ h => absurd rfl h
  | h1 a c ih =>
    intro hd _ hh
    rw [digits_snoc]
    rw [List.all_append, Bool.and_eq_true] at hd
    by_cases ha : a = []
    · subst ha
      have hc := hd.2
      simp only [List.all_cons, List.all_nil, Bool.and_true, isDig, Bool.and_eq_true, decide_eq_true_eq] at hc
      have : c ≠ 48 := fun z => hh (by rw [z]; rfl)
      omega
    · have := ih hd.1 ha (fun z => hh (by
        cases a with
        | nil => exact absurd rfl ha
        | cons x a => exact z))
      omega
theorem numL_canon : ∀ (l : List Nat), l.all isDig = true → l ≠ [] → (l.head? ≠ some 48 ∨ l = [48]) → numL (NumText.digitsVal l) = l := by
  intro l
  induction l using snoc_ind with
  | h0 => exact fun _ h => absurd rfl h
  | h1 a c ih =>
    intro hd _ hh
    rw [digits_snoc]
    rw [List.all_append, Bool.and_eq_true] at hd
    have hc := hd.2
    simp only [List.all_cons, List.all_nil, Bool.and_true, isDig, Bool.and_eq_true, decide_eq_true_eq] at hc
    by_cases ha : a = []
    · subst ha
      show numL (0 * 10 + (c - 48)) = [c]
      rw [Nat.zero_mul, Nat.zero_add, numL_lt (by omega)]
      congr 1
      omega
    · have hah : a.head? ≠ some 48 := fun z => by
        rcases hh with h | h
        · exact h (by
            cases a with
            | nil => exact absurd rfl ha
            | cons x a => exact z)
        · have := congrArg List.length h
          rw [List.length_append] at this
          cases a with
          | nil => exact ha rfl
          | cons x a => simp at this
      have hp := digits_pos a hd.1 ha hah
      rw [numL_step (by omega), show (NumText.digitsVal a * 10 + (c - 48)) / 10 = NumText.digitsVal a by omega, show (NumText.digitsVal a * 10 + (c - 48)) % 10 = c - 48 by omega, ih hd.1 ha (.inl hah)]
      congr 2
      omega
theorem numOk_canon {a : List Nat} (h : numOk a = true) : numL (NumText.digitsVal a) = a := by
  unfold numOk at h
  simp only [Bool.and_eq_true, decide_eq_true_eq, Bool.not_eq_true', Bool.and_eq_false_iff, decide_eq_false_iff_not, Bool.not_eq_false'] at h
  obtain ⟨⟨h1, h2⟩, h3, h4⟩ := h
  refine numL_canon a h3 (fun z => by rw [z] at h1; simp at h1) ?_
  rcases h4 with h4 | h4
  · exact .inl h4
  · exact .inr (by simpa using h4)
/-! ### parts and joins -/
theorem par_inv (c : Nat) : ∀ (l acc p q : List Nat), par [c] acc l = some (p, q) → acc ++ l = p ++ (c :: q)
  | [], acc, p, q, h => by cases h
  | d :: l, acc, p, q, h => by
    by_cases hd : d = c
    · subst hd
      rw [par_hit (by simp [pre])] at h
      cases h
      rfl
    · rw [par_miss (by simp [pre, hd])] at h
      have := par_inv c l _ p q h
      rw [← this, List.append_assoc]
      rfl
theorem spl_ne (c : Nat) : ∀ (l acc : List Nat), spl [c] 0 acc l ≠ []
  | [], acc => by rw [spl_nil]; exact List.cons_ne_nil _ _
  | d :: l, acc => by
    by_cases hd : d = c
    · subst hd
      rw [spl_hit (by simp [pre])]
      exact List.cons_ne_nil _ _
    · rw [spl_miss (by simp [pre, hd])]
      exact spl_ne c l _
theorem join_spl (c : Nat) : ∀ (l acc : List Nat), joinL [c] (spl [c] 0 acc l) = acc ++ l
  | [], acc => by
    rw [spl_nil]
    simp [joinL]
  | d :: l, acc => by
    by_cases hd : d = c
    · subst hd
      rw [spl_hit (by simp [pre])]
      have ih := join_spl d l []
      show joinL [d] (acc :: spl [d] 0 [] l) = _
      cases hs : spl [d] 0 [] l with
      | nil => exact absurd hs (spl_ne d l [])
      | cons x r =>
        rw [hs] at ih
        show acc ++ ([d] ++ joinL [d] (x :: r)) = _
        rw [ih]
        simp
    · rw [spl_miss (by simp [pre, hd]), join_spl c l _, List.append_assoc]
      rfl
def pw (w : List Nat) : List Nat × List Nat := match par [58] [] w with
  | some r => r
  | none => (w, [])
def wVal (a : List Nat) : Int := ((NumText.digitsVal a : Nat) : Int)
def wOk (w : List Nat) : Bool := (numOk (pw w).1 && numOk (pw w).2) && (decide (wVal (pw w).1 < wVal (pw w).2) && decide (wVal (pw w).2 < 1000001))
def wOf (w : List Nat) : Int × Int := (wVal (pw w).1, wVal (pw w).2)
def words (t : List Nat) : List (List Nat) := spl [32] 0 [] t
/-- what a text writes -/
def inF (t : List Nat) : Option (List (Int × Int)) := if t = [45] then some [] else if (words t).all wOk then some ((words t).map wOf) else none
def wrW (p : Int × Int) : List Nat := numL p.1.toNat ++ (58 :: numL p.2.toNat)
def wr (rs : List (Int × Int)) : List Nat := if rs = [] then [45] else joinL [32] (rs.map wrW)
theorem wr_of {w : List Nat} (h : wOk w = true) : wrW (wOf w) = w := by
  unfold wOk at h
  simp only [Bool.and_eq_true] at h
  obtain ⟨⟨h1, h2⟩, _⟩ := h
  unfold wrW wOf wVal
  dsimp only
  rw [Int.toNat_natCast, Int.toNat_natCast, numOk_canon h1, numOk_canon h2]
  unfold pw at *
  cases hp : par [58] [] w with
  | some r =>
    rw [hp] at h1 h2
    have := par_inv 58 w [] r.1 r.2 hp
    simpa using this.symm
  | none =>
    rw [hp] at h2
    exact absurd (show numOk [] = true from h2) (by decide)
theorem wr_in {t : List Nat} {rs : List (Int × Int)} (h : inF t = some rs) : wr rs = t := by
  unfold inF at h
  split at h
  · rename_i h45
    cases h
    rw [h45]
    rfl
  · split at h
    · rename_i hw
      cases h
      have hne : (words t).map wOf ≠ [] := fun z => spl_ne 32 t [] (List.map_eq_nil_iff.mp z)
      unfold wr
      rw [if_neg hne, List.map_map]
      have : (words t).map (wrW ∘ wOf) = words t := (List.map_congr_left fun w hm => wr_of (List.all_eq_true.mp hw w hm)).trans (List.map_id _)
      rw [this]
      exact (join_spl 32 t []).trans (List.nil_append _)
    · cases h
theorem in_ok {t : List Nat} {rs : List (Int × Int)} (h : inF t = some rs) : ∀ p ∈ rs, 0 ≤ p.1 ∧ p.1 < p.2 ∧ p.2 ≤ 1000000 := by
  unfold inF at h
  split at h
  · cases h
    intro p hp
    cases hp
  · split at h
    · rename_i hw
      cases h
      intro p hp
      obtain ⟨w, hm, rfl⟩ := List.mem_map.mp hp
      have := List.all_eq_true.mp hw w hm
      unfold wOk at this
      simp only [Bool.and_eq_true, decide_eq_true_eq] at this
      exact ⟨Int.natCast_nonneg _, this.2.1, by have := this.2.2; show wVal _ ≤ _; omega⟩
    · cases h
end Wl
namespace Wl
open PySem PySem.Spec PyProof.Rows L2
/-! ### any(..) in an except suite: the end of its walk raises while an error is handled -/
/-- what stands behind the error at o, one behind the other; behind the last one stands nothing -/
def Chn (h : Heap) : Addr → List Addr → Prop
  | o, [] => ∃ q vs, h.get? o = some q ∧ q.data = .fields vs ∧ vs[2]? = some .none
  | o, y :: r => (∃ q vs, h.get? o = some q ∧ q.data = .fields vs ∧ vs[2]? = some (.ref y)) ∧ Chn h y r
theorem Chn.there {h : Heap} : ∀ {r : List Addr} {o : Addr}, Chn h o r → ∃ q, h.get? o = some q
  | [], _, ⟨q, _, e, _⟩ => ⟨q, e⟩
  | _ :: _, _, ⟨⟨q, _, e, _⟩, _⟩ => ⟨q, e⟩
theorem Chn.all {h : Heap} : ∀ {r : List Addr} {o : Addr}, Chn h o r → ∀ b ∈ o :: r, ∃ q, h.get? b = some q
  | [], o, c, b, hb => List.mem_singleton.mp hb ▸ c.there
  | _ :: _, o, c, b, hb => (List.mem_cons.mp hb).elim (fun e => e ▸ c.there) fun m => c.2.all b m
theorem Chn.keep {h h' : Heap} : ∀ {r : List Addr} {o : Addr}, (∀ b ∈ o :: r, ∀ q, h.get? b = some q → h'.get? b = some q) → Chn h o r → Chn h' o r
  | [], o, k, ⟨q, vs, e, d, c⟩ => ⟨q, vs, k o List.mem_cons_self q e, d, c⟩
  | _ :: _, o, k, ⟨⟨q, vs, e, d, c⟩, t⟩ => ⟨⟨q, vs, k o List.mem_cons_self q e, d, c⟩, t.keep fun b hb => k b (List.mem_cons_of_mem _ hb)⟩
theorem unchain_plain : plainId "proto.unchain" = true := by decide +kernel
section
variable {prog : Program} {w : World} {A : Around} {E : Value → Shared → Prop} {s : Shared} {h : Heap}
theorem far_eq {a b : Addr} (n : a ≠ b) : (Value.ref a == Value.ref b) = false := beq_eq_false_iff_ne.mpr fun z => n (Value.ref.inj z)
/-- the walk along such a chain, for a new error e: nothing is cut; the slow one never passes the fast one -/
theorem chn_cut {e : Addr} {R : Result → Shared → Prop} (k : ∀ b q, h.get? b = some q → s.heap.get? b = some q) (new : h.get? e = none) (done_ : R (.ok (.ret .none)) s) (r : List Addr) :
    ∀ {r' : List Addr} {o l : Addr} {b : Bool}, r.length ≤ r'.length → Chn h o r → Chn h l r' → codeAny (model prog w) A (.builtin "proto.unchain" ⟨[.ref e, .ref o, .ref l, .bool b], []⟩) R s := by
  induction r with
  | nil =>
    rintro r' o l b _ ⟨q, vs, at_, d, c⟩ _
    refine codeAny_builtin HotX.entry_unchain (wpAny_bind (m := field (.ref o) 2) (wpAny_field (k _ _ at_) d c ?_))
    simp only [beq_self_eq_true, if_true]
    exact wpAny_pure done_
  | cons y r ih =>
    rintro (_ | ⟨z, r'⟩) o l b long ⟨⟨q, vs, at_, d, c⟩, tl⟩ slow
    · exact absurd long (Nat.not_succ_le_zero _)
    · obtain ⟨⟨ql, vl, atl, dl, cl⟩, tl'⟩ := slow
      have ye : (Value.ref y == Value.ref e) = false := far_eq fun z => by
        obtain ⟨_, t⟩ := tl.there
        rw [z, new] at t
        cases t
      refine codeAny_builtin HotX.entry_unchain (wpAny_bind (m := field (.ref o) 2) (wpAny_field (k _ _ at_) d c ?_))
      simp only [show (Value.ref y == Value.none) = false from rfl, ye, Bool.false_eq_true, if_false]
      split
      · exact wpAny_bind (wpAny_rule (wpAny_pure done_))
      · cases b with
        | false => exact wpAny_bind (wpAny_pure (wpAny_pure ⟨plainId_quiet unchain_plain _, ih (r' := z :: r') (Nat.le_of_succ_le long) tl ⟨⟨ql, vl, atl, dl, cl⟩, tl'⟩⟩))
        | true => exact wpAny_bind (wpAny_field (k _ _ atl) dl cl (wpAny_pure ⟨plainId_quiet unchain_plain _, ih (Nat.le_of_succ_le_succ long) tl tl'⟩))
/-- a new error raised where such a one is handled: it gets the handled one for its context -/
theorem raise_far {α : Type} {e x : Addr} {r : List Addr} {oe : Obj} {es : Array Value} {Q : α → Shared → Prop} (hh : A.handled = some (.ref x)) (c : Chn h x r) (k : ∀ b q, h.get? b = some q → s.heap.get? b = some q) (new : h.get? e = none)
    (he : s.heap.get? e = some oe) (de : oe.data = .fields es) (hi : 2 < es.size) (out : E (.ref e) { s with heap := s.heap.update e (Obj.mapFields (·.setIfInBounds 2 (.ref x))) }) : wpAny (model prog w) A (raiseNew (.ref e) : Sem α) Q E s := by
  have xe : (Value.ref x != Value.ref e) = true := bne_iff_ne.mpr fun z => by
    obtain ⟨_, t⟩ := c.there
    rw [Value.ref.inj z, new] at t
    cases t
  have walk : ∀ {P : Value → Shared → Prop}, P .none s → wpAny (model prog w) A (runValue (.builtin "proto.unchain" ⟨[.ref e, .ref x, .ref x, .bool false], []⟩)) P E s := fun p => wpAny_runValue (chn_cut k new p r (Nat.le_refl _) c c)
  simp only [raiseNew]
  refine wpAny_bind (wpAny_handled ?_)
  simp only [hh, xe, if_true]
  exact wpAny_bind (wpAny_holding (walk (wpAny_bind (HotX.chained he de hi (wpAny_throw out)))))
/-- a new StopIteration raised there -/
theorem stop_far {α : Type} {x : Addr} {r : List Addr} {Q : α → Shared → Prop} (hh : A.handled = some (.ref x)) (c : Chn s.heap x r)
    (out : ∀ h' e o, (∀ b q, s.heap.get? b = some q → h'.get? b = some q) → h'.get? e = some o → o.cls = .type "StopIteration" → E (.ref e) { s with heap := h' }) : wpAny (model prog w) A (newExc (.type "StopIteration") [] >>= raiseNew : Sem α) Q E s := by
  have beyond : ∀ (u : Obj) b q, s.heap.get? b = some q → (s.heap.push u).objs.size ≠ b := fun u b q z e => by
    have lt := Heap.lt_size z
    rw [← e, Heap.size_push] at lt
    exact absurd lt (Nat.not_lt.mpr (Nat.le_succ _))
  have up : ∀ (u v : Obj) b q, s.heap.get? b = some q → ((s.heap.push u).push v).get? b = some q := fun u v b q z => Heap.get?_push_of_some _ (Heap.get?_push_of_some _ z)
  simp only [newExc, newTuple]
  refine wpAny_bind (wpAny_bind (wpAny_newObj_type (wpAny_bind (m := firstArgMember _ _) (wpAny_of_eq (a := Value.none) (by simp only [firstArgMember]; rfl) (wpAny_newObj_type ?_ (by size_fits)))) (by size_fits)))
  refine raise_far hh c (up _ _) (Option.eq_none_iff_forall_ne_some.mpr fun q z => beyond _ _ q z rfl) (Heap.get?_push_size _ rfl) rfl (by simp; omega) (out _ _ _ (fun b q z => ?_) (Heap.get?_update_self _ (Heap.get?_push_size _ rfl) rfl) rfl)
  exact (Heap.get?_update_other _ _ (beyond _ b q z)).trans (up _ _ b q z)
/-- the end of a list's walk -/
theorem end_far {it l x : Addr} {r : List Addr} {i : Nat} {items : Array Value} {Q : Option Value → Shared → Prop} (hh : A.handled = some (.ref x)) (c : Chn s.heap x r) (off : it ∉ x :: r) (walk : s.heap.IsListIter it l i) (hl : s.heap.IsList l items) (past : items[i]? = none)
    (out : ∀ h', (∀ b q, b ≠ it → s.heap.get? b = some q → h'.get? b = some q) → Q none { s with heap := h' }) : wpAny (model prog w) A (pyNext (.ref it)) Q E s := by
  rcases id walk with ⟨o, at_, _, fields⟩
  rcases hl with ⟨ol, atl, _, tk, data⟩
  simp only [pyNext]
  refine wpAny_bind (wpAny_attempt (wpAny_callSpecial?_slot walk.typeIs slot_listiter_next (wpAny_call_entry slot_listiter_next walk.typeIs entry_listiter_next ?_ (args_listiter_next _))))
  refine wpAny_bind (m := field (.ref it) 0) (wpAny_field at_ fields (x := .ref l) rfl ?_)
  simp only [show (Value.ref l == Value.none) = false from rfl, Bool.false_eq_true, if_false]
  refine wpAny_bind (m := field (.ref it) 1) (wpAny_field at_ fields (x := .int i 0) rfl (wpAny_bind (m := seqItems? (.ref l)) (wpAny_seqItems atl data ?_)))
  simp only [Int.toNat_natCast, past]
  have c' := c.keep (h' := s.heap.update it (Obj.mapFields (·.setIfInBounds 0 .none))) fun b hb q z => (Heap.get?_update_other _ _ fun (e : it = b) => off (e ▸ hb)).trans z
  refine wpAny_bind (wpAny_rule (wpAny_bind (wpAny_setField at_ fields (by simp) (stop_far hh c' fun h' e o k here cls => ?_))))
  refine wpAny_bind (wpAny_isInstance (T := "StopIteration") (b := true) ⟨o, here, cls⟩ isSubtype_stop ?_)
  exact wpAny_pure (out h' fun b q ne z => k b q ((Heap.get?_update_other _ _ (Ne.symm ne)).trans z))
/-- a list's walk there, as any(..) wants it -/
theorem walks_far {l it x : Addr} {r : List Addr} {items : Array Value} (hh : A.handled = some (.ref x)) (ne : l ≠ it) (off : it ∉ x :: r) :
    Walks prog w A it (it :: l :: x :: r) [it] items.size (fun i v => items[i]? = some v) (fun i h => h.IsListIter it l i ∧ h.IsList l items ∧ Chn h x r) where
  sub b hb := List.mem_singleton.mp hb ▸ List.mem_cons_self
  frame i h h' st k := ⟨st.1.at (k it List.mem_cons_self), st.2.1.at (k l (List.mem_cons_of_mem _ List.mem_cons_self)), st.2.2.keep fun b hb => k b (List.mem_cons_of_mem _ (List.mem_cons_of_mem _ hb))⟩
  item i s Q E lt st next := wpAny_pyNext_list_item st.1 st.2.1 (Array.getElem?_eq_getElem lt) fun h' walk same =>
    next _ h' s.toks (Array.getElem?_eq_getElem lt) ⟨walk, st.2.1.extBut same.extBut ne, st.2.2.keep fun b hb q z => same.extBut b q (fun e => off (e ▸ hb)) z⟩ fun b q nb z => same.extBut b q (fun e => nb (e ▸ List.mem_cons_self)) z
  done s Q E st fin := end_far hh st.2.2 off st.1 st.2.1 (Array.getElem?_eq_none (Nat.le_refl _)) fun h' k => fin h' s.toks fun b q nb z => k b q (fun e => nb (e ▸ List.mem_cons_self)) z
  self _ _ _ _ st q := wpAny_pyIter_listiter st.1 q
end
/-- such an error is handled in the context -/
def Hotk (X : Cx) : Prop := ∃ p ∈ X.pn, X.A.handled = some (.ref p.1) ∧ ∃ vs : Array Value, p.2.data = .fields vs ∧ (vs[2]? = some .none ∨ ∃ q ∈ X.pn, vs[2]? = some (.ref q.1) ∧ ∃ ws : Array Value, q.2.data = .fields ws ∧ ws[2]? = some .none)
theorem Hotk.chn {X : Cx} {pins : List (Addr × Obj)} {σ : L2.St} {H : Hp} {s : Shared} (k : Hotk X) (I : Inv X pins σ H s) : ∃ x r, X.A.handled = some (.ref x) ∧ Chn s.heap x r := by
  have at_ : ∀ p ∈ X.pn, s.heap.get? p.1 = some p.2 := fun p hp => (I.pin p (List.mem_append_left _ hp)).1
  rcases k with ⟨p, hp, hh, vs, d, last | ⟨q, hq, nxt, ws, dq, last⟩⟩
  · exact ⟨p.1, [], hh, p.2, vs, at_ p hp, d, last⟩
  · exact ⟨p.1, [q.1], hh, ⟨p.2, vs, at_ p hp, d, nxt⟩, q.2, ws, at_ q hq, dq, last⟩
theorem anyHK {X : Cx} (K : PySem.W.Frag) (hk : Hotk X) (h : X.K = K := by rfl) : CallR X (.builtin "any") (rAny K) := by
  subst h
  rintro pins s σ H _ us Q I vals ⟨a, bs, rfl, list, q⟩
  rcases I.list list with ⟨its, rel, cells, _⟩
  rcases hk.chn I with ⟨x, r, hh, chn⟩
  obtain rfl := Vals.ref1 vals
  have old : ∀ b, s.heap.objs.size ≤ b → ∀ o, s.heap.get? b ≠ some o := fun b le o z => absurd (Heap.lt_size z) (Nat.not_lt.mpr le)
  refine call_any_walk (iter_any cells.isList fun s₂ e st ne => ?_)
  cases e
  have up : ∀ b o, s.heap.get? b = some o → (s.heap.push { cls := .type "list_iterator", data := .fields #[.ref a, .int 0 0] }).get? b = some o := fun b o z => Heap.get?_push_of_some _ z
  refine ⟨_, _, _, _, _, _, _, rfl, walks_far (A := X.A.in1) (items := its.toArray) hh ne fun m => (chn.all _ m).elim (old _ (Nat.le_refl _)), ⟨st.1, st.2, chn.keep fun b _ => up b⟩, truth_bools rel.bls, fun h' tk k => ⟨.bl _, H, I.kept fun b o z => k b o (fun m => old b (Nat.le_of_eq (List.mem_singleton.mp m).symm) o z) (up b o z), ?_, q⟩⟩
  exact congrArg Value.bool (by rw [← L2.any_range, rel.bls, List.size_toArray, List.length_map])
end Wl
namespace Wl
open PySem PySem.Spec PyProof.Rows L2 Evl
/-- isinstance(e, c) in the suite; its class is told in the reading -/
def rIsQ (K : PySem.W.Frag) (a : Addr) (cls : Value) (d : Option Addr) : List V → Hp → VK → Prop := fun xs H Q => ∃ (D : Addr) (c : V) (cv : Value) (b : Bool), cls = .ref D ∧ d = none ∧ ExcC K D ∧ xs = [.ref a, c] ∧ (∀ u, RelV c u → u = cv) ∧ PySem.W.kitOne K (.ref D) cv = some b ∧ Q (.bl b) H
theorem call_isQ {X : Cx} {a : Addr} {oe : Obj} {cls : Value} {d : Option Addr} {pn : List (Addr × Obj)} (K : PySem.W.Frag) (hz : Zc cls d oe) (hf : ∃ vs, oe.data = .fields vs) (hK : X.K = K := by rfl) : CallR (X.suite a ((a, oe) :: pn)) (.builtin "isinstance") (rIsQ K a cls d) := by
  subst hK
  rintro pins s σ H xs us Q I vals ⟨D, c, cv, b, rfl, rfl, C, q⟩
  exact call_isE C hz hf pins s σ H xs us Q I vals ⟨c, cv, b, q⟩
section
variable {K : PySem.W.Frag} {σ : L2.St} {H : Hp} {ta tb : TE} {a D : Addr} {c : V} {cv : Value} {b : Bool}
theorem ev_isQ (C : ExcC K D) (h : Ev ta σ H (.ref a)) (h2 : Ev tb σ H c) (hc : ∀ u, RelV c u → u = cv) (hk : PySem.W.kitOne K (.ref D) cv = some b) : Ev (tCB (rIsQ K a (.ref D) none) (tCons ta (tCons tb tNil))) σ H (.bl b) := fun H1 e Q q =>
  h H1 e _ fun H2 e2 => h2 H2 (e.trans e2) _ fun H3 e3 => ⟨D, c, cv, b, rfl, rfl, C, rfl, hc, hk, q H3 (e2.trans e3)⟩
theorem rv_ref {C : Addr} : ∀ u, RelV (.ref C) u → u = .ref C := fun _ h => h
theorem rv_ty {n : String} : ∀ u, RelV (.ty n) u → u = .type n := fun _ h => h
end
theorem hotk_n {X : Cx} {a : Addr} {oe : Obj} {cls : Value} {d : Option Addr} {pn : List (Addr × Obj)} (hz : L2N.Zn cls d oe) (hf : ∃ vs, oe.data = .fields vs) : Hotk (X.suite a ((a, oe) :: pn)) := by
  obtain ⟨vs, hd⟩ := hf
  exact ⟨(a, oe), List.mem_cons_self, rfl, vs, hd, .inl (hz.2.2 vs hd)⟩
end Wl
namespace Wl
open PySem PySem.Spec PyProof.Rows L2
/-! ### errors raised in an except suite: what stands behind them is kept in sight -/
/-- what stands behind an error: the third field of its record -/
def bck (o : Obj) : Option Value :=
  match o.data with
  | .fields vs => vs[2]?
  | _ => some .none
theorem bck_rec {o : Obj} {vs : Array Value} (h : o.data = .fields vs) : bck o = vs[2]? := by
  unfold bck
  rw [h]
theorem bck_keep (o : Obj) (v : Value) : bck (o.mapFields (·.setIfInBounds 1 v)) = bck o := by
  rcases o with ⟨_, _, dt, _⟩
  cases dt with
  | fields ws =>
    show (ws.setIfInBounds 1 v)[2]? = ws[2]?
    simp [Array.getElem?_setIfInBounds]
  | _ => rfl
/-- an error in the ground, of which H knows nothing, and behind which nothing stands -/
structure Lone (G : Heap) (H : Hp) (y : Addr) (q : Obj) : Prop where
  here : G.get? y = some q
  last : ∃ ws, q.data = .fields ws ∧ ws[2]? = some .none
  free : H y = none
def Back (G : Heap) (H : Hp) (b : Option Value) : Prop := b = some .none ∨ ∃ y q, b = some (.ref y) ∧ Lone G H y q
def Zk (G : Heap) (H : Hp) (cls : Value) (d : Option Addr) : Obj → Prop := fun o => Zc cls d o ∧ Back G H (bck o)
section
variable {G N : Heap} {H : Hp} {cls : Value} {d : Option Addr} {o : Obj}
theorem zk_steady : PySem.PXN.Steady1 (Zk G H cls d) := fun o v h => ⟨L2.Zc.steady o _ h.1, by rw [bck_keep]; exact h.2⟩
theorem zn_zk (h : L2N.Zn cls d o) : Zk G H cls d o := by
  refine ⟨h.zc, .inl ?_⟩
  unfold bck
  split
  · rename_i vs e
    exact h.2.2 vs e
  · rfl
theorem Zk.grow (g : ∀ b o, G.get? b = some o → N.get? b = some o) (h : Zk G H cls d o) : Zk N H cls d o :=
  ⟨h.1, h.2.imp id fun ⟨y, q, e, l⟩ => ⟨y, q, e, g y q l.here, l.last, l.free⟩⟩
end
theorem sky_imp {B h : Heap} {l : List Env} {a L : Addr} {Z Z' : Obj → Prop} (z : ∀ o, Z o → Z' o) (x : Sky B l a Z L h) : Sky B l a Z' L h := by
  rcases x with ⟨h1, h2, h3, oe, vs, h4, h5, h6⟩ | h | h
  · exact .inl ⟨h1, h2, h3, oe, vs, h4, z _ h5, h6⟩
  · exact .inr (.inl (L2H.flyingZ_imp z h))
  · exact .inr (.inr ⟨h.1, h.2.1, h.2.2.1, L2H.tracedZ_imp z h.2.2.2⟩)
/-- an error at a in the air of X, over the ground G; sI: the state without it -/
structure Air (X : Cx) (a : Addr) (G : Heap) (sI s' : Shared) (ps : List (Addr × Obj)) (σ : L2.St) (H : Hp) (cls : Value) (d : Option Addr) : Prop where
  inv : Inv X ps σ H sI
  below : ∀ b o, sI.heap.get? b = some o → b ∉ frs X.stack → G.get? b = some o
  up : sI.heap.UpToSlots s'.heap
  sky : Sky G X.stack a (Zk G H cls d) X.env.locals s'.heap
  free : H a = none
  os : s'.os = sI.os
  bare : AllBare s'.gens
def XEk (X : Cx) (W : WX) (u : Value) (s' : Shared) : Prop := ∃ a G sI ps σ H cls d, u = .ref a ∧ Air X a G sI s' ps σ H cls d ∧ W cls d σ H
def Tk (X : Cx) (W : WX) : Prop := ∀ u s', XEk X W u s' → X.xe u s'
/-- .. behind a call -/
structure Out (P : Program) (w : World) (outer : List Env) (H₀ : Hp) (s : Shared) (a : Addr) (G : Heap) (H : Hp) (cls : Value) (d : Option Addr) (s' : Shared) : Prop where
  fly : HandSPX.FlyingZ G outer a (Zk G H cls d) s'.heap
  hok : HOk P w H G
  ub : UB (frs outer) H₀ H s.heap G s'.heap
  free : H a = none
  os : s'.os = s.os
  bare : AllBare s'.gens
def CXk (P : Program) (w : World) (outer : List Env) (H₀ : Hp) (s : Shared) (E : XK) (u : Value) (s' : Shared) : Prop := ∃ a G H cls d, u = .ref a ∧ Out P w outer H₀ s a G H cls d s' ∧ E cls d H
theorem no_both {α : Type} {o : Option α} {x : α} (h1 : o = none) (h2 : o = some x) : False := by
  rw [h1] at h2
  cases h2
/-- a record is no frame -/
theorem no_frame {G h : Heap} {l : List Env} {y : Addr} {o : Obj} {vs : Array Value} (ff : h.FunFrames G l) (e : h.get? y = some o) (hd : o.data = .fields vs) : y ∉ frs l := fun hm =>
  match ff.mem hm with
  | ⟨_, _, e', no⟩ => no vs (by rw [← Option.some.inj (e.symm.trans e')]; exact hd)
section
variable {X : Cx} {W : WX} {pins ps : List (Addr × Obj)} {σ : L2.St} {H : Hp} {sI s s' : Shared} {G : Heap} {E : XK} {a : Addr} {cls : Value} {d : Option Addr}
theorem Tk.n (t : Tk X W) : L2N.Takes X W := fun u s' ⟨a, G, sI, ps, σ, H, cls, d, e, I, nb, up, sky, na, os, ag, w⟩ => t u s' ⟨a, G, sI, ps, σ, H, cls, d, e, ⟨I, nb, up, sky_imp (fun _ => zn_zk) sky, na, os, ag⟩, w⟩
theorem CXk.of_n {P : Program} {w : World} {outer : List Env} {u : Value} (c : L2N.CX P w outer H s E u s') : CXk P w outer H s E u s' :=
  match c with
  | ⟨a, G, H', cls, d, e, fl, hok, ub, na, os, ag, q⟩ => ⟨a, G, H', cls, d, e, ⟨L2H.flyingZ_imp (fun _ => zn_zk) fl, hok, ub, na, os, ag⟩, q⟩
/-- what a call lets out is in our air: the state without it is the heap without the error and its traceback -/
theorem XEk.of_call (I : Inv X pins σ H s) (hW : ∀ cls d H', E cls d H' → W cls d σ H') {u : Value} (c : CXk X.prog X.w X.stack H s E u s') : XEk X W u s' := by
  rcases c with ⟨e, G, H', cls, d, rfl, ⟨⟨inside, noE, ff, oE, fE, T, oT, fT, atE, zE, dE, e1, noT, TE, atT, dT, t3⟩, tracked, ub, free, os, bare⟩, q⟩
  have away : ∀ b, b ∈ frs X.stack → b ≠ e ∧ b ≠ T := fun b hb => ⟨fun z => no_frame ff atE dE (z ▸ hb), fun z => no_frame ff atT dT (z ▸ hb)⟩
  have plain : ∀ b o, G.get? b = some o → b ≠ e ∧ b ≠ T := fun b o h =>
    ⟨fun z => no_both noE (z ▸ h), fun z => no_both noT (z ▸ h)⟩
  have rest : ∀ b o, s'.heap.get? b = some o → b ≠ e ∧ b ≠ T → (PySem.W.hideAll s'.heap [e, T]).get? b = some o := fun b o h n => PySem.W.hideAll_get _ h fun hm => by
    rcases List.mem_cons.mp hm with z | z
    · exact n.1 z
    · exact n.2 (List.mem_singleton.mp z)
  have low : ∀ b o, (PySem.W.hideAll s'.heap [e, T]).get? b = some o → b ∉ frs X.stack → (PySem.W.hideAll s'.heap (e :: T :: frs X.stack)).get? b = some o := fun b o h hb => PySem.W.hideAll_get _ (PySem.W.of_hideAll _ h) fun hm => by
    have gone : b ∈ [e, T] → False := fun z => no_both (PySem.W.hideAll_none (h := s'.heap) [e, T] z) h
    rcases List.mem_cons.mp hm with z | z
    · exact gone (z ▸ List.mem_cons_self)
    · rcases List.mem_cons.mp z with z | z
      · exact gone (z ▸ List.mem_cons_of_mem _ List.mem_cons_self)
      · exact hb z
  have deep : ∀ b o, G.get? b = some o → (PySem.W.hideAll s'.heap (e :: T :: frs X.stack)).get? b = some o := fun b o h =>
    low b o (rest b o (inside b o h) (plain b o h)) fun hm => no_both (ff.mem hm).1 h
  refine ⟨e, PySem.W.hideAll s'.heap (e :: T :: frs X.stack), { s with heap := PySem.W.hideAll s'.heap [e, T], gens := s'.gens, drawn := s'.drawn, toks := s'.toks }, pins, σ, H', cls, d, rfl,
    { inv := I.call (ch := []) ?_ (tracked.kept fun b o h => rest b o (inside b o h) (plain b o h)) bare (fun _ z => absurd z List.not_mem_nil), below := low, up := .of_keeps fun _ _ => PySem.W.of_hideAll _, sky := .inr (.inl ?_), free := free, os := os, bare := bare }, hW _ _ _ q⟩
  · exact {
      keep := fun b o h n hb _ => let g := ub.keep b o h n hb; rest b o (inside b o g) (plain b o g)
      slot := fun b o h _ hb _ => (ub.slot b o h hb).imp fun _ g => rest b _ g (away b hb)
      free := fun b o h n _ => ub.free b o h n
      there := fun b o h _ => (Classical.em (b ∈ frs X.stack)).elim (fun hb => (ub.slot b o h hb).elim fun _ g => ⟨_, rest b _ g (away b hb)⟩) fun hb => (ub.there b o h hb).imp fun o' g => rest b o' (inside b o' g) (plain b o' g)
      tups := ub.tups
      frzs := ub.frzs
      tbls := ub.tbls }
  · exact ⟨fun _ _ => PySem.W.of_hideAll _, PySem.W.hideAll_none _ List.mem_cons_self, funFrames_none ff fun L hL => PySem.W.hideAll_none _ (List.mem_cons_of_mem _ (List.mem_cons_of_mem _ hL)),
      oE, fE, T, oT, fT, atE, zE.grow deep, dE, e1, PySem.W.hideAll_none _ (List.mem_cons_of_mem _ List.mem_cons_self), TE, atT, dT, t3⟩
/-- what stood at the entry is no frame of ours -/
theorem not_ours (I : Inv X ps σ H s) {b : Addr} {o : Obj} (h : X.s_0.heap.get? b = some o) (hb : b ∉ X.fs) : b ∉ frs X.stack := fun hm =>
  (List.mem_cons.mp (I.stkSub b hm)).elim (fun z => absurd (Nat.lt_of_lt_of_le (Heap.lt_size h) I.ok.above) (by rw [z]; exact Nat.lt_irrefl _)) hb
theorem Air.out (x : Air X a G sI s' ps σ H cls d) (hex : X.ex = []) {h' : Heap} (fl : HandSPX.FlyingZ G X.outer a (Zk G H cls d) h') (up : s'.heap.UpToSlots h') : Out X.prog X.w X.outer X.H_0 X.s_0 a G H cls d { s' with heap := h' } := by
  have none_ : ∀ b, b ∉ X.ex := fun b => hex ▸ List.not_mem_nil
  have u := x.inv.base
  exact {
    fly := fl, hok := x.inv.inGround x.below, free := x.free, os := x.os.trans x.inv.os, bare := x.bare
    ub := {
      keep := fun b o h n hb => x.below b o (u.keep b o h n hb (none_ b)) (not_ours x.inv h hb)
      slot := fun b o h hb => by
        rcases x.inv.ok.funs.mem hb with ⟨_, o₂, h₂, no⟩
        obtain rfl := Option.some.inj (h.symm.trans h₂)
        rcases u.slot b o h (x.inv.ok.frf b hb) hb (none_ b) with ⟨_, q⟩
        exact ((x.up.trans up) b _ q no).imp fun _ r => r
      free := fun b o h n => u.free b o h n (none_ b)
      there := fun b o h hb => (u.there b o h (none_ b)).imp fun o' q => x.below b o' q (not_ours x.inv h hb)
      tups := u.tups
      frzs := u.frzs
      tbls := u.tbls } }
/-- it leaves the def -/
theorem XEk.leave (hs : X.stack = X.env :: X.outer) (hf : X.env.frame = some X.env.locals) (hex : X.ex = []) {E₁ : Value → Shared → Prop} (hW : ∀ cls d σ H, W cls d σ H → E cls d H) {u : Value} (x : XEk X W u s') :
    wpAny (model X.prog X.w) X.A (leaving X.env u) (fun _ s'' => CXk X.prog X.w X.outer X.H_0 X.s_0 E u s'') E₁ s' := by
  rcases x with ⟨a, G, sI, ps, σ, H, cls, d, rfl, x, q⟩
  have done_ : ∀ h', HandSPX.FlyingZ G X.outer a (Zk G H cls d) h' → s'.heap.UpToSlots h' → CXk X.prog X.w X.outer X.H_0 X.s_0 E (.ref a) { s' with heap := h' } := fun h' fl up => ⟨a, G, H, cls, d, rfl, x.out hex fl up, hW _ _ _ _ q⟩
  have fr := x.inv.ok.frames
  have sky := x.sky
  rw [hs] at fr sky
  exact match sky with
  | .inl ⟨h1, h2, h3, _, _, h4, h5, h6, h7⟩ => PySem.PXN.leaving_firstZ zk_steady fr h3 hf h4 h1 h2 h6 h7 h5 done_
  | .inr (.inl fl) => PySem.PXN.leaves_onZ zk_steady fr hf fl done_
  | .inr (.inr hl) => HandSPX.leaves_heldZ hf hl done_
theorem tk_of (hs : X.stack = X.env :: X.outer) (hf : X.env.frame = some X.env.locals) (hex : X.ex = []) {E₁ : Value → Shared → Prop}
    (hx : X.xe = fun e s' => wpAny (model X.prog X.w) X.A (leaving X.env e) (fun _ s'' => CXk X.prog X.w X.outer X.H_0 X.s_0 E e s'') E₁ s') : Tk X (fun cls d _ H => E cls d H) := fun u s' x => by
  rw [hx]
  exact x.leave (W := fun cls d _ H => E cls d H) hs hf hex fun _ _ _ _ h => h
theorem passK (tk : Tk X W) (σ : L2.St) : PassesAt (CXk X.prog X.w) X σ (WE W σ) := fun _ _ _ e s' I c => tk e s' (XEk.of_call I (fun _ _ _ h => h) c)
/-- a def that lets out errors of the plain kind, called where more is taken -/
theorem passNK {E : XK} (tk : Tk X (fun cls d _ H => E cls d H)) : Passes (L2N.CX X.prog X.w) X E := fun _ σ _ _ e s' I c => tk e s' (XEk.of_call (W := fun cls d _ H => E cls d H) I (fun _ _ _ h => h) (CXk.of_n c))
/-- a new error, behind which the pinned one at x is put -/
theorem Air.put {x : Addr} {ox oe : Obj} {ws vs : Array Value} {s1 : Shared} (I : Inv X ps σ H sI) (hp : (x, ox) ∈ X.pn) (hx : ox.data = .fields ws) (lx : ws[2]? = some .none) (k : ∀ b o, sI.heap.get? b = some o → s1.heap.get? b = some o)
    (new : sI.heap.get? a = none) (here : s1.heap.get? a = some oe) (z : Zc cls d oe) (hd : oe.data = .fields vs) (h1 : vs[1]? = some .none) (h2 : 2 < vs.size) (na : H a = none) (os : s1.os = sI.os) (bare : AllBare s1.gens) :
    Air X a (PySem.W.hideAll sI.heap (frs X.stack)) sI { s1 with heap := s1.heap.update a (Obj.mapFields (·.setIfInBounds 2 (.ref x))) } ps σ H cls d := by
  have stay : ∀ b o, sI.heap.get? b = some o → (s1.heap.update a (Obj.mapFields (·.setIfInBounds 2 (.ref x)))).get? b = some o := fun b o h =>
    (Heap.get?_update_other _ _ fun z => no_both new (z ▸ h)).trans (k b o h)
  have hd' := Obj.data_mapFields hd (·.setIfInBounds 2 (.ref x))
  have pin := I.pin (x, ox) (List.mem_append_left _ hp)
  have zc := L2.Zc.steady oe (·.setIfInBounds 2 (.ref x)) z
  refine ⟨I, fun _ _ h hb => PySem.W.hideAll_get _ h hb, .of_keeps stay, .inl ⟨fun b o h => stay b o (PySem.W.of_hideAll _ h), ?_, ?_, _, _, Heap.get?_update_self _ here (Obj.isFreed_of_fields hd'), ⟨zc, .inr ⟨x, ox, ?_, ?_, ⟨ws, hx, lx⟩, pin.2.1⟩⟩, hd', ?_⟩, na, os, bare⟩
  · exact Option.eq_none_iff_forall_ne_some.mpr fun o h => no_both new (PySem.W.of_hideAll _ h)
  · exact .of_keeps (fun b o h _ => ⟨o, stay b o h, rfl⟩) (funFrames_none I.stack fun _ => PySem.W.hideAll_none _)
  · rw [bck_rec hd']
    simp [Array.getElem?_setIfInBounds, h2]
  · exact PySem.W.hideAll_get _ pin.1 fun hm => (List.mem_cons.mp (I.stkSub _ hm)).elim pin.2.2.1 pin.2.2.2.1
  · rw [← h1]
    simp [Array.getElem?_setIfInBounds]
/-- raise in an except suite -/
theorem ps_raiseK {e : Expr} {t : L2.St → Hp → XK → Prop} {pos : Pos} (hc : L2H.HotC X) (tk : Tk X W) (he : L2N.PMk X e t) : PS X (.Raise (some e) none pos) (fun _ σ H => t σ H fun cls d H' => W cls d σ H') := by
  rcases hc with ⟨⟨x, ox⟩, ⟨hh, ws, hx, lx⟩, hp⟩
  constructor
  intro pins s σ H D I h
  change wpAny _ _ (standAt pos >>= fun _ => raiseStmt X.env (some (eval e X.env >>= fun v => standAt pos >>= fun _ => pure v)) none) _ _ _
  refine wpAny_bind (wpAny_standAt (HotX.raise_made_hot (x1 := x) (wpAny_bind (wpAny_mono (he pins s σ H _ I h) ?_ fun _ _ z => z))))
  rintro _ s1 ⟨a, oe, vs, sI, H', cls, d, rfl, J, k, new, here, z, hd, h1, na, os, bare, may, q⟩
  have pin := J.pin (x, ox) (List.mem_append_left _ hp)
  have apart : x ≠ a := fun z => no_both new (z ▸ pin.1)
  have wide : 2 < vs.size := (Array.getElem?_eq_some_iff.mp (z.2.2 vs hd)).1
  have looks := may (model X.prog X.w) s1.heap (J.kIn.keeps k)
  exact wpAny_bind (wpAny_standAt (wpAny_pure ⟨a, oe, vs, cls, rfl, here, z.1, hd, h1, wide, apart, ⟨hh, ox, ws, k _ _ pin.1, hx, lx⟩, looks.1, looks.2,
    tk _ _ ⟨a, _, sI, pins, σ, H', cls, d, rfl, .put J hp hx lx k new here z.zc hd h1 wide na os bare, q⟩⟩))
theorem suite_tk {a : Addr} {pn : List (Addr × Obj)} (ok : X.Ok) (hpn : X.pn = []) (tk : Tk X W) : Tk (L2H.suiteX X a pn) W := fun u s' ⟨b, G, sI, _, σ, H, cls, d, e, x, q⟩ =>
  tk u s' ⟨b, G, sI, [], σ, H, cls, d, e, ⟨⟨ok, x.inv.os, x.inv.bare, x.inv.base, x.inv.loc, x.inv.cell, x.inv.free, x.inv.freeC, fun p hp => absurd hp (by rw [hpn]; exact List.not_mem_nil), x.inv.hok, x.inv.len⟩, x.below, x.up, x.sky, x.free, x.os, x.bare⟩, q⟩
end
/-! ### a try whose clause names each error of the body, and whose suite is told what stands behind the error -/
/-- a flow's ends, from a context to another -/
theorem sp_map {Y Z : Cx} {p p' : List (Addr × Obj)} {D : Ends} {f : Flow} {s s' : Shared} (k : ∀ {σ H}, Inv Y p σ H s → Inv Z p' σ H s') (h : SP Y p D f s) : SP Z p' D f s' :=
  match f, h with
  | .next, ⟨σ, H, I, q⟩ => ⟨σ, H, k I, q⟩
  | .brk, ⟨σ, H, I, q⟩ => ⟨σ, H, k I, q⟩
  | .cont, ⟨σ, H, I, q⟩ => ⟨σ, H, k I, q⟩
  | .ret _, ⟨v, σ, H, I, q⟩ => ⟨v, σ, H, k I, q⟩
section
variable {X : Cx} {x n : Str} {c : Value} {i : Nat} {body suite : List Stmt} {b₀ : Stmt} {np pos pos' : Pos} {tb : WX → TS} {ts : Addr → Value → Option Addr → TS} {W : WX} {pins ps pm : List (Addr × Obj)} {σ : L2.St} {H : Hp} {s sI s' : Shared} {D : Ends} {a : Addr} {G : Heap} {cls : Value} {d : Option Addr} {xe : Value → Shared → Prop}
theorem ps_try_onlyK (hs : X.stack = X.env :: X.outer) (hf : X.env.frame = some X.env.locals) (hpn : X.pn = []) (hc : Names X x c) (hpa : ∀ hd : Option Value, PassesOwnAt (model X.prog X.w) (X.A.mark hd) X.A X.env X.xe) (tk : Tk X W)
    (hb : ∀ (W' : WX) (pn : List (Addr × Obj)) (xe : Value → Shared → Prop), L2N.Takes (X.tr pn xe) W' → PSs (X.tr pn xe) body (tb W'))
    (hsu : ∀ (a : Addr) (oe : Obj) (cls : Value) (d : Option Addr) (pn : List (Addr × Obj)), Tk (L2H.suiteX X a ((a, oe) :: pn)) W → L2H.HotC (L2H.suiteX X a ((a, oe) :: pn)) → PSs (L2H.suiteX X a ((a, oe) :: pn)) (b₀ :: suite) (ts a cls d)) :
    PS X (.Try body [.ExceptHandler (some (.Name x np)) none (b₀ :: suite) pos'] [] [] pos) (fun D σ H => tb (wOnly X.K c ts (fun _ _ _ _ => False) D) D σ H) :=
  ⟨fun pins s σ H D I h => (L2H.ps_try_onlyX hs hf hc hpa L2.takes0 (fun W pn xe t1 _ _ => hb W pn xe t1) fun a oe cls d pn _ _ _ hot => hsu a oe cls d pn (suite_tk I.ok hpn tk) hot).run pins s σ H D I h⟩
/-- the error has landed: its object and what stands behind it are pinned -/
theorem Air.caught (x : Air (X.tr (X.pn ++ pins) xe) a G sI s' ps σ H cls d) (ok : X.Ok) (hf : X.env.frame = some X.env.locals) {h : Heap} (fl : HandSPX.FlyingZ G (X.env :: X.outer) a (Zk G H cls d) h) (up : s'.heap.UpToSlots h) :
    ∃ oe vs pm, h.get? a = some oe ∧ Zc cls d oe ∧ oe.data = .fields vs ∧ Inv (X.suite a ((a, oe) :: (X.pn ++ (pins ++ pm)))) [] σ H { s' with heap := h } ∧ Hotk (X.suite a ((a, oe) :: (X.pn ++ (pins ++ pm)))) := by
  rcases fl with ⟨inside, _, ff, oe, vs, _, _, _, he, ⟨z, bk⟩, hd, _⟩
  have J : Inv X pins σ H { s' with heap := h } := (x.inv.ofTry ok).landed x.below inside (x.up.trans up) x.os x.bare
  have all_ : frs (X.env :: X.outer) = X.env.locals :: X.fs := by simp [frs, Cx.fs, hf]
  have out : ∀ {y : Addr} {o : Obj} {ws : Array Value}, h.get? y = some o → o.data = .fields ws → y ≠ X.env.locals ∧ y ∉ X.fs := fun {y o ws} e r => by
    have no := no_frame ff e r
    rw [all_] at no
    exact ⟨fun z => no (z ▸ List.mem_cons_self), fun z => no (List.mem_cons_of_mem _ z)⟩
  rw [bck_rec hd] at bk
  rcases bk with bk | ⟨y, q, bk, one⟩
  · refine ⟨oe, vs, [], he, z, hd, ?_, ⟨(a, oe), List.mem_cons_self, rfl, vs, hd, .inl bk⟩⟩
    rw [List.append_nil]
    exact J.suite he hd x.free (out he hd).1 (out he hd).2
  · rcases one.last with ⟨ws, r, last⟩
    have hy := inside y q one.here
    have J' : Inv X (pins ++ [(y, q)]) σ H { s' with heap := h } := J.pins_of fun p hp => by
      rcases List.mem_append.mp hp with old | new
      · exact J.pin p (List.mem_append_right _ old)
      · obtain rfl := List.mem_singleton.mp new
        exact ⟨hy, one.free, (out hy r).1, (out hy r).2, fun v e => nomatch (r.symm.trans e)⟩
    exact ⟨oe, vs, [(y, q)], he, z, hd, J'.suite he hd x.free (out he hd).1 (out he hd).2, ⟨(a, oe), List.mem_cons_self, rfl, vs, hd, .inr ⟨(y, q), List.mem_cons_of_mem _ (List.mem_append_right _ (List.mem_append_right _ List.mem_cons_self)), bk, ws, r, last⟩⟩⟩
/-- the clause's class, looked up in the suite's context -/
theorem names_found (hc : Names X x c) {pn : List (Addr × Obj)} (S : Inv (X.suite a pn) ps σ H s) {Q E : Value → Shared → Prop} (q : Q c s) : wpAny (model X.prog X.w) (X.A.mark (some (.ref a))) (eval (.Name x np) X.env) Q E s :=
  match hc with
  | ⟨g, nd, .inl m⟩ => ld_glob S g m q nd
  | ⟨g, nd, .inr ⟨m, b, nn⟩⟩ => ld_blt S g m b q nn nd
/-- behind the suite its name goes -/
theorem gone_sp {oe : Obj} (ok : X.Ok) (hN : X.N.Nodup) (hi : X.N[i]? = some n) (hln : X.env.kindOf n = some .local) {f : Flow}
    (h : SP (X.suite a ((a, oe) :: (X.pn ++ (pins ++ pm)))) [] { nx := fun σ' H' => D.nx (σ'.set i none) H', rt := D.rt, bk := fun σ' H' => D.bk (σ'.set i none) H', ct := fun σ' H' => D.ct (σ'.set i none) H' } f s) :
    wpAny (model X.prog X.w) X.A (do bindName X.env n .none; unbindBehindTheSuite X.env n pos') (fun _ s7 => SP X pins D f s7) X.xe s := by
  have go : ∀ {σ : L2.St} {H : Hp} {Q : Shared → Prop}, Inv (X.suite a ((a, oe) :: (X.pn ++ (pins ++ pm)))) [] σ H s → (∀ s7, Inv X pins (σ.set i none) H s7 → Q s7) →
      wpAny (model X.prog X.w) X.A (do bindName X.env n .none; unbindBehindTheSuite X.env n pos') (fun _ s7 => Q s7) X.xe s := fun S k => gone_ok (S.unsuite ok).unpinned hN hi hln k
  exact match f, h with
  | .next, ⟨_, _, S, q⟩ => go S fun _ J => ⟨_, _, J, q⟩
  | .brk, ⟨_, _, S, q⟩ => go S fun _ J => ⟨_, _, J, q⟩
  | .cont, ⟨_, _, S, q⟩ => go S fun _ J => ⟨_, _, J, q⟩
  | .ret _, ⟨_, _, _, S, r, q⟩ => go S fun _ J => ⟨_, _, _, J, r, q⟩
/-- except x as n, of a body all of whose errors the clause names -/
theorem ps_try_asK (hs : X.stack = X.env :: X.outer) (hf : X.env.frame = some X.env.locals) (hN : X.N.Nodup) (hi : X.N[i]? = some n) (hln : X.env.kindOf n = some .local) (hc : Names X x c)
    (hb : ∀ (W : WX) (pn : List (Addr × Obj)) (xe : Value → Shared → Prop), Tk (X.tr pn xe) W → PSs (X.tr pn xe) body (tb W))
    (hsu : ∀ (a : Addr) (oe : Obj) (cls : Value) (d : Option Addr) (pn : List (Addr × Obj)), Zc cls d oe → (∃ vs, oe.data = .fields vs) → Hotk (X.suite a ((a, oe) :: pn)) → PSs (X.suite a ((a, oe) :: pn)) (b₀ :: suite) (ts a cls d)) :
    PS X (.Try body [.ExceptHandler (some (.Name x np)) (some n) (b₀ :: suite) pos'] [] [] pos) (fun D σ H => tb (wAs X.K c i ts (fun _ _ _ _ => False) D) D σ H) := by
  constructor
  intro pins s σ H D I h
  have ok := I.ok
  have fr : X.A.frames = some (X.env :: X.outer) := hs ▸ ok.frames
  refine wpAny_Try_except (wpAny_mono ((hb (wAs X.K c i ts (fun _ _ _ _ => False) D) (X.pn ++ pins) _ ?land).run [] s σ H D (I.toTry _) h) (fun f s1 z => ?ends) fun _ _ z => z)
  case ends =>
    have z : SP X pins D f s1 := sp_map (fun J => J.ofTry ok) z
    cases f with
    | next => exact wpAny_execs_nil z
    | _ => exact z
  case land =>
    rintro _ s' ⟨a, G, sI, ps, σ', H', cls, d, rfl, x, b, named, yes, no⟩
    have sky := x.sky
    rw [show (X.tr (X.pn ++ pins) _).stack = X.env :: X.outer from hs] at sky
    refine (L2N.Sky.land zk_steady fr hf sky fun h3 fl3 up3 => ?_ : wpAny (model X.prog X.w) X.A (noteFrame (.ref a) X.env) _ _ _)
    rcases x.caught ok hf fl3 up3 with ⟨o3, _, _, e3, z3, _, S3, _⟩
    have kind : PySem.W.Looks (model X.prog X.w) h3 (typeOf (.ref a)) cls := fun _ _ _ _ k q => wpAny_typeOf_ref (k _ _ e3) (z3.1.symm ▸ q)
    cases b with
    | false => exact (no rfl).elim
    | true =>
      refine wpAny_handleBy_cons (codeAny_handlers_test (names_found hc S3 ((PySem.W.exm_one (M := model X.prog X.w) S3.kIn kind named).here ?_))) (fun z => nomatch z)
      refine codeAny_handlers_suite_as (HandSPX.lands_againZ fl3 fun h4 fl4 up4 => ?_)
      rcases x.caught ok hf fl4 (up3.trans up4) with ⟨o4, v4, pm, _, z4, d4, S4, hot⟩
      refine store_ok (X := X.suite a ((a, o4) :: (X.pn ++ (pins ++ pm)))) (v := .ref a) S4 hN hi (.inl hln) rfl (fun s5 S5 => ?_) (.inr hln)
      exact wpAny_mono ((hsu a o4 cls d _ z4 ⟨v4, d4⟩ hot).run [] s5 _ H' _ S5 (yes rfl a x.free)) (fun _ _ z => gone_sp ok hN hi hln z) fun _ _ z => z.elim
end
theorem passK0 {X : Cx} : Passes (CXk X.prog X.w) X E0 := fun _ _ _ _ _ _ _ ⟨_, _, _, _, _, _, _, z⟩ => z.elim
section
variable {P : Program} {w : World} {K : PySem.W.Frag} {mg : Str → Option Value} {base : Heap}
/-- a def that lets such errors out -/
abbrev OkkK (P : Program) (w : World) (K : PySem.W.Frag) (mg : Str → Option Value) (base : Heap) (k : Nat) (f : Addr) (ps : List Str) (sp : Sp) : Prop := OkkC (CXk P w) P w K mg base k f ps sp
theorem okkk {x qual : Str} {st : Stmt} {f : Addr} {N ps : List Str} {k : Nat} {sp : Sp} (F : ∃ fd, Fun K x qual st f fd ∧ Binds K fd ps []) (S : FnScope N ps (defScope st)) (len : ∀ vs H Q E, sp vs H Q E → vs.length = ps.length)
    (body : BodyOf (CXk P w) P w K mg base N qual st f k sp) : OkkK P w K mg base (k + 1) f ps sp := okkc F S len body
end
end Wl
namespace Wl
open PySem PySem.Spec PyProof.Rows L2 Evl
local macro_rules | `(tactic| walk_at "e1") => `(tactic| with_reducible (apply et_self; assumption))
local macro_rules | `(tactic| walk_at "e1") => `(tactic| with_reducible (apply ev_self; assumption))
local macro_rules | `(tactic| walk_at "e1") => `(tactic| with_reducible refine (fun (hbb : (_ : Bool) = _) => ?_))
local macro_rules | `(tactic| walk_at "e1") => `(tactic| with_reducible apply ev_if)
local macro_rules | `(tactic| walk_at "e1") => `(tactic| with_reducible apply ev_notV)
local macro_rules | `(tactic| walk_at "e1") => `(tactic| with_reducible apply ev_orV)
local macro_rules | `(tactic| walk_at "e1") => `(tactic| with_reducible apply ev_andV)
local macro_rules | `(tactic| walk_at "e1") => `(tactic| with_reducible apply ev_chain)
local macro_rules | `(tactic| walk_at "e1") => `(tactic| with_reducible apply et_not)
local macro_rules | `(tactic| walk_at "e1") => `(tactic| with_reducible apply et_or)
local macro_rules | `(tactic| walk_at "e1") => `(tactic| with_reducible apply et_and)
local macro_rules | `(tactic| walk_at "e1") => `(tactic| with_reducible apply et_B)
local macro_rules | `(tactic| walk_at "e1") => `(tactic| with_reducible apply et_test)
local macro_rules | `(tactic| walk_at "e1") => `(tactic| with_reducible apply rv_ixT)
local macro_rules | `(tactic| walk_at "e1") => `(tactic| with_reducible apply rv_ixL)
local macro_rules | `(tactic| walk_at "e1") => `(tactic| with_reducible apply rv_I)
local macro_rules | `(tactic| walk_at "e1") => `(tactic| ((with_reducible apply rv_ne); exact rfl))
local macro_rules | `(tactic| walk_at "e1") => `(tactic| ((with_reducible apply rv_eq); exact rfl))
local macro_rules | `(tactic| walk_at "e1") => `(tactic| with_reducible exact rv_I0)
local macro_rules | `(tactic| walk_at "e1") => `(tactic| with_reducible exact ru_neg)
local macro_rules | `(tactic| walk_at "e1") => `(tactic| with_reducible apply ev_un)
local macro_rules | `(tactic| walk_at "e1") => `(tactic| with_reducible apply ea_cons)
local macro_rules | `(tactic| walk_at "e1") => `(tactic| with_reducible exact ea_nil)
local macro_rules | `(tactic| walk_at "e1") => `(tactic| with_reducible apply ev_op)
local macro_rules | `(tactic| walk_at "e1") => `(tactic| ((with_reducible apply ev_var); exact rfl))
local macro_rules | `(tactic| walk_at "e1") => `(tactic| with_reducible exact ev_c)
local macro_rules | `(tactic| walk_at "sq") => `(tactic| first | with_reducible assumption | exact st_of (by assumption) | exact sq_of (by assumption) | exact st_of ((by assumption : Ex _ _) _ _ (by assumption)) | exact sq_of ((by assumption : Ex _ _) _ _ (by assumption)) | exact ex_t (by assumption) (by assumption) | exact ex_l (by assumption) (by assumption))
local macro_rules | `(tactic| walk_at "e1") => `(tactic| ((with_reducible apply rv_ixL) <;> first | walk_at "sq" | exact rfl))
local macro_rules | `(tactic| walk_at "e1") => `(tactic| ((with_reducible apply rv_ixT) <;> first | walk_at "sq" | exact rfl))
local macro_rules | `(tactic| walk_at "sz") => `(tactic| exact Nat.le_of_ble_eq_true rfl)
local macro_rules | `(tactic| walk_at "e1") => `(tactic| with_reducible exact rv_neB)
local macro_rules | `(tactic| walk_at "e1") => `(tactic| with_reducible exact rv_eqB)
local macro_rules | `(tactic| walk_at "e1") => `(tactic| with_reducible exact rv_neI)
local macro_rules | `(tactic| walk_at "e1") => `(tactic| with_reducible exact rv_eqI)
local macro_rules | `(tactic| walk_at "ev") => `(tactic| (repeat' walk_at "e1"))
def topS (i : Nat) : Stmt := PySem.Challenge.pw_wheelrow_k07_written.main.body.getD i (.Pass ⟨0, 0, 0, 0⟩)
abbrev s_is_whole : Stmt := topS 10
abbrev s_is_turn : Stmt := topS 11
abbrev s_is_rest : Stmt := topS 12
abbrev s_check_rests : Stmt := topS 13
abbrev s_written : Stmt := topS 16
abbrev s_number_in : Stmt := topS 17
abbrev s_read : Stmt := topS 18
abbrev s_l_cell_at : Stmt := topS 20
abbrev s_l_draw : Stmt := topS 21
abbrev s_l_turns : Stmt := topS 22
abbrev s_l_rests : Stmt := topS 23
abbrev s_l_number : Stmt := topS 27
abbrev s_l_in : Stmt := topS 28
abbrev s_l_refused : Stmt := topS 29
abbrev s_l_right : Stmt := topS 30
abbrev s_l_few : Stmt := topS 31
abbrev s_law : Stmt := topS 32
theorem sc_is_whole : FnScope ["thing"] ["thing"] (defScope s_is_whole) := ⟨rfl, rfl, rfl, by decide +kernel, rfl, by decide +kernel, by decide +kernel⟩
theorem sc_is_turn : FnScope ["thing"] ["thing"] (defScope s_is_turn) := ⟨rfl, rfl, rfl, by decide +kernel, rfl, by decide +kernel, by decide +kernel⟩
theorem sc_is_rest : FnScope ["pair"] ["pair"] (defScope s_is_rest) := ⟨rfl, rfl, rfl, by decide +kernel, rfl, by decide +kernel, by decide +kernel⟩
theorem sc_check_rests : FnScope ["rests", "pair"] ["rests"] (defScope s_check_rests) := ⟨rfl, rfl, rfl, by decide +kernel, rfl, by decide +kernel, by decide +kernel⟩
theorem sc_written : FnScope ["rests", "rest", "turn"] ["rests"] (defScope s_written) := ⟨rfl, rfl, rfl, by decide +kernel, rfl, by decide +kernel, by decide +kernel⟩
theorem sc_number_in : FnScope ["word"] ["word"] (defScope s_number_in) := ⟨rfl, rfl, rfl, by decide +kernel, rfl, by decide +kernel, by decide +kernel⟩
theorem sc_read : FnScope ["text", "rests", "word", "rest", "sign", "turn"] ["text"] (defScope s_read) := ⟨rfl, rfl, rfl, by decide +kernel, rfl, by decide +kernel, by decide +kernel⟩
theorem sc_l_cell_at : FnScope ["_law_script", "_law_k"] ["_law_script", "_law_k"] (defScope s_l_cell_at) := ⟨rfl, rfl, rfl, by decide +kernel, rfl, by decide +kernel, by decide +kernel⟩
theorem sc_l_draw : FnScope ["_law_cell", "_law_k", "_law_many", "_law_primes"] ["_law_cell", "_law_k", "_law_many"] (defScope s_l_draw) := ⟨rfl, rfl, rfl, by decide +kernel, rfl, by decide +kernel, by decide +kernel⟩
theorem sc_l_turns : FnScope ["_law_script", "_law_kind", "_law_found", "_law_k", "_law_turn"] ["_law_script"] (defScope s_l_turns) := ⟨rfl, rfl, rfl, by decide +kernel, rfl, by decide +kernel, by decide +kernel⟩
theorem sc_l_rests : FnScope ["_law_script", "_law_far", "_law_found", "_law_at", "_law_turn", "_law_k", "_law_cell"] ["_law_script"] (defScope s_l_rests) := ⟨rfl, rfl, rfl, by decide +kernel, rfl, by decide +kernel, by decide +kernel⟩
theorem sc_l_number : FnScope ["_law_text"] ["_law_text"] (defScope s_l_number) := ⟨rfl, rfl, rfl, by decide +kernel, rfl, by decide +kernel, by decide +kernel⟩
theorem sc_l_in : FnScope ["_law_text", "_law_found", "_law_word", "_law_rest", "_law_sign", "_law_turn"] ["_law_text"] (defScope s_l_in) := ⟨rfl, rfl, rfl, by decide +kernel, rfl, by decide +kernel, by decide +kernel⟩
theorem sc_l_refused : FnScope ["_law_text", "error", "_law_others"] ["_law_text"] (defScope s_l_refused) := ⟨rfl, rfl, rfl, by decide +kernel, rfl, by decide +kernel, by decide +kernel⟩
theorem sc_l_right : FnScope ["_law_text", "_law_due", "_law_found"] ["_law_text"] (defScope s_l_right) := ⟨rfl, rfl, rfl, by decide +kernel, rfl, by decide +kernel, by decide +kernel⟩
theorem sc_l_few : FnScope ["_law_some"] [] (defScope s_l_few) := ⟨rfl, rfl, rfl, by decide +kernel, rfl, by decide +kernel, by decide +kernel⟩
theorem sc_law : FnScope ["_law_script", "_law_rests_here", "_law_text", "_law_handed", "_law_cell", "_law_k", "_law_at", "_law_sign", "_law_thing", "_law_rest", "_law_turn", "_law_other"] ["_law_script"] (defScope s_law) := ⟨rfl, rfl, rfl, by decide +kernel, rfl, by decide +kernel, by decide +kernel⟩
structure Ad where
  a_is_whole : Addr
  a_is_turn : Addr
  a_is_rest : Addr
  a_check_rests : Addr
  a_written : Addr
  a_number_in : Addr
  a_read : Addr
  a_l_cell_at : Addr
  a_l_draw : Addr
  a_l_turns : Addr
  a_l_rests : Addr
  a_l_number : Addr
  a_l_in : Addr
  a_l_refused : Addr
  a_l_right : Addr
  a_l_few : Addr
  a_law : Addr
  c_RestError : Addr
  c_BadRests : Addr
  c_BadNumbers : Addr
  c_BadRound : Addr
  c_BadRest : Addr
  c_BadCount : Addr
  c_BadText : Addr
structure Txt (K : PySem.W.Frag) (mg : Str → Option Value) (A : Ad) : Prop where
  F_is_whole : ∃ fd, Fun K "is_whole" "is_whole" s_is_whole A.a_is_whole fd ∧ Binds K fd ["thing"] []
  g_is_whole : mg "is_whole" = some (.ref A.a_is_whole)
  F_is_turn : ∃ fd, Fun K "is_turn" "is_turn" s_is_turn A.a_is_turn fd ∧ Binds K fd ["thing"] []
  g_is_turn : mg "is_turn" = some (.ref A.a_is_turn)
  F_is_rest : ∃ fd, Fun K "is_rest" "is_rest" s_is_rest A.a_is_rest fd ∧ Binds K fd ["pair"] []
  g_is_rest : mg "is_rest" = some (.ref A.a_is_rest)
  F_check_rests : ∃ fd, Fun K "check_rests" "check_rests" s_check_rests A.a_check_rests fd ∧ Binds K fd ["rests"] []
  g_check_rests : mg "check_rests" = some (.ref A.a_check_rests)
  F_written : ∃ fd, Fun K "written" "written" s_written A.a_written fd ∧ Binds K fd ["rests"] []
  g_written : mg "written" = some (.ref A.a_written)
  F_number_in : ∃ fd, Fun K "number_in" "number_in" s_number_in A.a_number_in fd ∧ Binds K fd ["word"] []
  g_number_in : mg "number_in" = some (.ref A.a_number_in)
  F_read : ∃ fd, Fun K "read" "read" s_read A.a_read fd ∧ Binds K fd ["text"] []
  g_read : mg "read" = some (.ref A.a_read)
  F_l_cell_at : ∃ fd, Fun K "_law_cell_at" "_law_cell_at" s_l_cell_at A.a_l_cell_at fd ∧ Binds K fd ["_law_script", "_law_k"] []
  g_l_cell_at : mg "_law_cell_at" = some (.ref A.a_l_cell_at)
  F_l_draw : ∃ fd, Fun K "_law_draw" "_law_draw" s_l_draw A.a_l_draw fd ∧ Binds K fd ["_law_cell", "_law_k", "_law_many"] []
  g_l_draw : mg "_law_draw" = some (.ref A.a_l_draw)
  F_l_turns : ∃ fd, Fun K "_law_turns" "_law_turns" s_l_turns A.a_l_turns fd ∧ Binds K fd ["_law_script"] []
  g_l_turns : mg "_law_turns" = some (.ref A.a_l_turns)
  F_l_rests : ∃ fd, Fun K "_law_rests" "_law_rests" s_l_rests A.a_l_rests fd ∧ Binds K fd ["_law_script"] []
  g_l_rests : mg "_law_rests" = some (.ref A.a_l_rests)
  F_l_number : ∃ fd, Fun K "_law_number" "_law_number" s_l_number A.a_l_number fd ∧ Binds K fd ["_law_text"] []
  g_l_number : mg "_law_number" = some (.ref A.a_l_number)
  F_l_in : ∃ fd, Fun K "_law_in" "_law_in" s_l_in A.a_l_in fd ∧ Binds K fd ["_law_text"] []
  g_l_in : mg "_law_in" = some (.ref A.a_l_in)
  F_l_refused : ∃ fd, Fun K "_law_refused" "_law_refused" s_l_refused A.a_l_refused fd ∧ Binds K fd ["_law_text"] []
  g_l_refused : mg "_law_refused" = some (.ref A.a_l_refused)
  F_l_right : ∃ fd, Fun K "_law_right" "_law_right" s_l_right A.a_l_right fd ∧ Binds K fd ["_law_text"] []
  g_l_right : mg "_law_right" = some (.ref A.a_l_right)
  F_l_few : ∃ fd, Fun K "_law_few" "_law_few" s_l_few A.a_l_few fd ∧ Binds K fd [] []
  g_l_few : mg "_law_few" = some (.ref A.a_l_few)
  F_law : ∃ fd, Fun K "law" "law" s_law A.a_law fd ∧ Binds K fd ["_law_script"] []
  g_law : mg "law" = some (.ref A.a_law)
  z_isinstance : mg "isinstance" = none
  z_int : mg "int" = none
  z_bool : mg "bool" = none
  z_tuple : mg "tuple" = none
  z_len : mg "len" = none
  z_list : mg "list" = none
  z_all : mg "all" = none
  z_str : mg "str" = none
  z_range : mg "range" = none
  z_sum : mg "sum" = none
  z_enumerate : mg "enumerate" = none
  z_abs : mg "abs" = none
  z_any : mg "any" = none
  z_ValueError : mg "ValueError" = none
  k_GREATEST : ∃ t, mg "GREATEST" = some (.int 1000000 t)
  k_FIGURES : ∃ t, mg "FIGURES" = some (.str "0123456789" t)
  g_RestError : mg "RestError" = some (.ref A.c_RestError)
  sb_RestError : PySem.W.subIn K (.ref A.c_RestError) (.type "BaseException") = some true
  ty_RestError : PySem.W.typeIn K (.ref A.c_RestError) = some (.type "type")
  g_BadRests : mg "BadRests" = some (.ref A.c_BadRests)
  ex_BadRests : PySem.W.excIn K A.c_BadRests [.type "ValueError", .type "Exception", .type "BaseException", .type "object"] "ValueError.__new__" = true
  ke_BadRests : PySem.W.keepIn K (.ref A.c_BadRests) = true
  em_BadRests_RestError : PySem.W.exmOne K (.ref A.c_BadRests) (.ref A.c_RestError) = some true
  em_BadRests_BadRests : PySem.W.exmOne K (.ref A.c_BadRests) (.ref A.c_BadRests) = some true
  xc_BadRests : ExcC K A.c_BadRests
  kq_BadRests_BadRests : PySem.W.kitOne K (.ref A.c_BadRests) (.ref A.c_BadRests) = some true
  kq_BadRests_BadNumbers : PySem.W.kitOne K (.ref A.c_BadRests) (.ref A.c_BadNumbers) = some false
  kq_BadRests_BadRound : PySem.W.kitOne K (.ref A.c_BadRests) (.ref A.c_BadRound) = some false
  kq_BadRests_BadRest : PySem.W.kitOne K (.ref A.c_BadRests) (.ref A.c_BadRest) = some false
  kq_BadRests_BadCount : PySem.W.kitOne K (.ref A.c_BadRests) (.ref A.c_BadCount) = some false
  kq_BadRests_BadText : PySem.W.kitOne K (.ref A.c_BadRests) (.ref A.c_BadText) = some false
  kq_BadRests_ValueError : PySem.W.kitOne K (.ref A.c_BadRests) (.type "ValueError") = some true
  sb_BadRests : PySem.W.subIn K (.ref A.c_BadRests) (.type "BaseException") = some true
  ty_BadRests : PySem.W.typeIn K (.ref A.c_BadRests) = some (.type "type")
  g_BadNumbers : mg "BadNumbers" = some (.ref A.c_BadNumbers)
  g_BadRound : mg "BadRound" = some (.ref A.c_BadRound)
  g_BadRest : mg "BadRest" = some (.ref A.c_BadRest)
  g_BadCount : mg "BadCount" = some (.ref A.c_BadCount)
  g_BadText : mg "BadText" = some (.ref A.c_BadText)
  ex_BadText : PySem.W.excIn K A.c_BadText [.type "ValueError", .type "Exception", .type "BaseException", .type "object"] "ValueError.__new__" = true
  ke_BadText : PySem.W.keepIn K (.ref A.c_BadText) = true
  em_BadText_RestError : PySem.W.exmOne K (.ref A.c_BadText) (.ref A.c_RestError) = some true
  em_BadText_BadRests : PySem.W.exmOne K (.ref A.c_BadText) (.ref A.c_BadRests) = some false
  xc_BadText : ExcC K A.c_BadText
  kq_BadText_BadRests : PySem.W.kitOne K (.ref A.c_BadText) (.ref A.c_BadRests) = some false
  kq_BadText_BadNumbers : PySem.W.kitOne K (.ref A.c_BadText) (.ref A.c_BadNumbers) = some false
  kq_BadText_BadRound : PySem.W.kitOne K (.ref A.c_BadText) (.ref A.c_BadRound) = some false
  kq_BadText_BadRest : PySem.W.kitOne K (.ref A.c_BadText) (.ref A.c_BadRest) = some false
  kq_BadText_BadCount : PySem.W.kitOne K (.ref A.c_BadText) (.ref A.c_BadCount) = some false
  kq_BadText_BadText : PySem.W.kitOne K (.ref A.c_BadText) (.ref A.c_BadText) = some true
  kq_BadText_ValueError : PySem.W.kitOne K (.ref A.c_BadText) (.type "ValueError") = some true
  sb_BadText : PySem.W.subIn K (.ref A.c_BadText) (.type "BaseException") = some true
  ty_BadText : PySem.W.typeIn K (.ref A.c_BadText) = some (.type "type")
/-! ### is_whole, is_number, is_turn, check_turn -/
abbrev bt : List String := ["NoneType", "bool", "int", "str", "list", "tuple", "dict"]
theorem kit_int {K : PySem.W.Frag} {n : String} (h : n ∈ bt) : PySem.W.kitOne K (.type n) (.type "int") = some (n == "int" || n == "bool") := by
  simp only [List.mem_cons, List.not_mem_nil, or_false] at h
  rcases h with h | h | h | h | h | h | h <;> subst h <;> exact kit_ty (by decide +kernel)
theorem kit_bool {K : PySem.W.Frag} {n : String} (h : n ∈ bt) : PySem.W.kitOne K (.type n) (.type "bool") = some (n == "bool") := by
  simp only [List.mem_cons, List.not_mem_nil, or_false] at h
  rcases h with h | h | h | h | h | h | h <;> subst h <;> exact kit_ty (by decide +kernel)
/-- whether it is an int -/
def isI : V → Bool
  | .int _ => true
  | _ => false
theorem isI_ty {K : PySem.W.Frag} {H : Hp} {x : V} {n : String} (h : TyX K H x (.type n)) : isI x = (n == "int") := by
  generalize ht : Value.type n = t at h
  cases h with
  | base b => cases b <;> first | (cases ht; rfl) | cases ht
  | _ => first | (cases ht; rfl) | cases ht
/-- whether it is a number within the bounds, a round -/
def isNum : V → Bool
  | .int i => decide (-1000000 ≤ i) && decide (i ≤ 1000000)
  | _ => false
def isTurn : V → Bool
  | .int i => decide (1 ≤ i) && decide (i ≤ 1000000)
  | _ => false
/-- a plain thing of a known type -/
def PlainV (K : PySem.W.Frag) (H : Hp) (x : V) : Prop := ∃ n, TyX K H x (.type n) ∧ n ∈ bt
theorem PlainV.up {K : PySem.W.Frag} {H H' : Hp} {x : V} (e : Ex H H') (h : PlainV K H x) : PlainV K H' x := by
  obtain ⟨n, h, m⟩ := h
  exact ⟨n, tyx_up e h, m⟩
theorem plain_int {K : PySem.W.Frag} {H : Hp} {i : Int} : PlainV K H (.int i) := ⟨"int", .base (.int i), by decide⟩
def sp_is_whole (K : PySem.W.Frag) : Sp := spX (fun (d : V) vs H => vs = [d] ∧ PlainV K H d) (fun d _ v _ => v = .bl (isI d))
def sp_is_number (K : PySem.W.Frag) : Sp := spX (fun (d : V) vs H => vs = [d] ∧ PlainV K H d) (fun d _ v _ => v = .bl (isNum d))
def sp_is_turn (K : PySem.W.Frag) : Sp := spX (fun (d : V) vs H => vs = [d] ∧ PlainV K H d) (fun d _ v _ => v = .bl (isTurn d))
section
variable {P : Program} {w : World} {K : PySem.W.Frag} {mg : Str → Option Value} {base : Heap} {A : Ad}
theorem ok_is_whole (T : Txt K mg A) : Okk P w K mg base 1 A.a_is_whole ["thing"] (sp_is_whole K) := by
  refine okk T.F_is_whole sc_is_whole (fun vs H Q E h => ?_) (fun cdv Ar outer s H vs Q E hr h => ?_)
  · obtain ⟨d, ⟨rfl, _⟩, _⟩ := h
    rfl
  · obtain ⟨d, ⟨rfl, n, ht, hn⟩, k⟩ := h
    refine ⟨_, (pss_one (ps_ret (pe_and (pe_callB call_isi (by rfl) T.z_isinstance (by decide +kernel) (pa_cons (pv 0) (pa_cons (pe_bltn (v := .ty "int") (by rfl) T.z_int (by decide +kernel) rfl) pa_nil))) (pe_one (pe_not (pe_callB call_isi (by rfl) T.z_isinstance (by decide +kernel) (pa_cons (pv 0) (pa_cons (pe_bltn (v := .ty "bool") (by rfl) T.z_bool (by decide +kernel) rfl) pa_nil)))))))), ?_⟩
    refine s_ret (ev_andV (ev_isi (ev_var rfl) ev_c (.ty _) ht (kit_int hn)) (fun _ => ev_notV (ev_isi (ev_var rfl) ev_c (.ty _) ht (kit_bool hn)))) fun H1 e1 => k _ _ e1 ?_
    show V.bl _ = V.bl (isI d)
    rw [isI_ty ht]
    simp only [List.mem_cons, List.not_mem_nil, or_false] at hn
    rcases hn with h | h | h | h | h | h | h <;> subst h <;> decide +kernel
theorem ok_is_turn (T : Txt K mg A) : Okk P w K mg base 2 A.a_is_turn ["thing"] (sp_is_turn K) := by
  obtain ⟨_, G_is_whole, b_is_whole, k_is_whole⟩ := ok_is_whole (P := P) (w := w) (base := base) T
  obtain ⟨_, kG⟩ := T.k_GREATEST
  refine okk T.F_is_turn sc_is_turn (fun vs H Q E h => ?_) (fun cdv Ar outer s H vs Q E hr h => ?_)
  · obtain ⟨d, ⟨rfl, _⟩, _⟩ := h
    rfl
  · obtain ⟨d, ⟨rfl, hp⟩, k⟩ := h
    have hr_is_whole : Room 1 _ := hr.mono (by decide)
    refine ⟨_, (pss_one (ps_ret (pe_and (pe_call G_is_whole hr_is_whole (by rfl) T.g_is_whole k_is_whole b_is_whole .nil pass0 (pa_cons (pv 0) pa_nil)) (pe_one (pe_chain op_le op_le pe_int (pv 0) (pe_glob (v := .int 1000000) (by rfl) kG ⟨_, rfl⟩)))))), ?_⟩
    refine s_ret (v := .bl (isTurn d)) ?_ fun H1 e1 => k _ _ e1 rfl
    have h1 : Ev (tCall (sp_is_whole K) [] E0 (tCons (tVar 0) tNil)) [some d] H (.bl (isI d)) := ev_call0 d (by walk_at "ev") (fun H1 e => ⟨rfl, hp.up e⟩) fun _ _ _ p => p
    cases d with
    | int i => exact ev_is (ev_andV h1 fun _ => by walk_at "ev") rfl
    | _ => exact ev_andV (b := false) h1 fun z => nomatch z
/-- a round is let through -/
def sp_check_turn (K : PySem.W.Frag) : Sp := spX (fun (d : Int) vs _ => vs = [.int d] ∧ 1 ≤ d ∧ d ≤ 1000000) (fun _ _ v _ => v = .non)
end
/-! ### lists as a type; all -/
theorem kit_ll {K : PySem.W.Frag} : PySem.W.kitOne K (.type "list") (.type "list") = some true := kit_ty (by decide +kernel)
theorem all_true {α : Type} {l : List α} {f : α → Bool} (h : ∀ x ∈ l, f x = true) : (l.map f).all id = true := by
  rw [List.all_map]
  exact List.all_eq_true.mpr h
theorem map_bl {α : Type} {l : List α} {f : α → Bool} : l.map (fun n => V.bl (f n)) = (l.map f).map V.bl := by
  rw [List.map_map]
  rfl
/-! ### part_of, _law_part, round_of -/
def sp_part_of (_ : PySem.W.Frag) : Sp := spX (fun (d : Int × Int) vs _ => vs = [.int d.1, .int d.2]) (fun d _ v _ => v = .int (pt d.1 d.2))
section
variable {P : Program} {w : World} {K : PySem.W.Frag} {mg : Str → Option Value} {base : Heap} {A : Ad}
theorem part_body {D : Ends} {H : Hp} {a b : Int} (k : ∀ H', Ex H H' → D.rt (.int (pt a b)) H') :
    tSeq (tPar 0 1 (tCons (tCB (fun xs H Q => ∃ i, xs = [V.int i] ∧ Q (.int (if i < 0 then -i else i)) H) (tCons (tVar 0) tNil)) (tCons (tCB (fun xs H Q => ∃ i, xs = [V.int i] ∧ Q (.int (if i < 0 then -i else i)) H) (tCons (tVar 1) tNil)) tNil)))
      (tSeq (tWhile (tTest (tOp (rI0 fun i j => .bl (decide (j < i))) (tVar 1) (tC (.int 0)))) (tPar 0 1 (tCons (tVar 1) (tCons (tOp (rI (fun _ j => 0 < j) fun i j => .int (i % j)) (tVar 0) (tVar 1)) tNil)))) (tRet (tVar 0))) D [some (.int a), some (.int b)] H := by
  refine q_par (v := .int (if a < 0 then -a else a)) (w := .int (if b < 0 then -b else b)) (ea_cons (ev_cb (ea_cons (ev_var rfl) ea_nil) rc_abs) (ea_cons (ev_cb (ea_cons (ev_var rfl) ea_nil) rc_abs) ea_nil)) rfl fun H1 e1 => ?_
  refine q_while (fun m σ H' => ∃ x y : Int, m = y.toNat ∧ σ = [some (.int x), some (.int y)] ∧ Ex H H' ∧ 0 ≤ x ∧ 0 ≤ y ∧ pt x y = pt a b) _
    ⟨_, _, rfl, rfl, e1, by split <;> omega, by split <;> omega, pt_abs a b⟩ ?_
  rintro m σ H2 ⟨x, y, rfl, rfl, e2, hx, hy, hg⟩
  refine ⟨decide (0 < y), et_test (ev_op (ev_var rfl) ev_c rv_I0), fun hb H3 e3 => ?_, fun hb H3 e3 => ?_⟩
  · have hy0 : 0 < y := of_decide_eq_true hb
    refine ⟨_, fun _ _ n => n, ?_⟩
    refine s_par (v := .int y) (w := .int (x % y)) (ea_cons (ev_var rfl) (ea_cons (ev_op (ev_var rfl) (ev_var rfl) (rv_I hy0)) ea_nil)) rfl fun H4 e4 => ?_
    have h1 := Int.emod_lt_of_pos x hy0
    have h0 := Int.emod_nonneg x (b := y) (by omega)
    exact ⟨(x % y).toNat, by omega, y, x % y, rfl, rfl, e2.trans (e3.trans e4), hy, h0, by rw [pt_step]; exact hg⟩
  · have hy0 : y = 0 := by
      have := of_decide_eq_false hb
      omega
    subst hy0
    refine s_ret (ev_var rfl) fun H4 e4 => ?_
    rw [pt_zero x hx] at hg
    rw [hg]
    exact k _ (e2.trans (e3.trans e4))
def sp_l_part (_ : PySem.W.Frag) : Sp := spX (fun (d : Int × Int) vs _ => vs = [.int d.1, .int d.2]) (fun d _ v _ => v = .int (pt d.1 d.2))
theorem ev_part {σ : L2.St} {H : Hp} {ta tb : TE} {a b : Int} {E : XK} (h : Ev ta σ H (.int a)) (h2 : Ev tb σ H (.int b)) : Ev (tCall (sp_part_of K) [] E (tCons ta (tCons tb tNil))) σ H (.int (pt a b)) :=
  ev_call0 (a, b) (ea_cons h (ea_cons h2 ea_nil)) (fun H1 e => rfl) fun _ _ _ p => p
theorem ev_lpart {σ : L2.St} {H : Hp} {ta tb : TE} {a b : Int} {E : XK} (h : Ev ta σ H (.int a)) (h2 : Ev tb σ H (.int b)) : Ev (tCall (sp_l_part K) [] E (tCons ta (tCons tb tNil))) σ H (.int (pt a b)) :=
  ev_call0 (a, b) (ea_cons h (ea_cons h2 ea_nil)) (fun H1 e => rfl) fun _ _ _ p => p
/-- pairs that are rests -/
def Rsts (H : Hp) (v : V) (rs : List (Int × Int)) : Prop := RsAt H v rs ∧ rs.length ≤ 10000 ∧ ∀ p ∈ rs, RstOk p
theorem Rsts.up {H H' : Hp} {v : V} {rs : List (Int × Int)} (e : Ex H H') (h : Rsts H v rs) : Rsts H' v rs := ⟨h.1.up e, h.2⟩
theorem rst_at {rs : List (Int × Int)} (ho : ∀ p ∈ rs, RstOk p) {i : Nat} (hi : i < rs.length) : RstOk (rs.getD i (0, 1)) := by
  rw [List.getD_eq_getElem?_getD, List.getElem?_eq_getElem hi]
  exact ho _ (List.getElem_mem hi)
theorem take_snoc {rs : List (Int × Int)} {i : Nat} (hi : i < rs.length) : rs.take (i + 1) = rs.take i ++ [rs.getD i (0, 1)] := by
  rw [List.take_add_one, List.getElem?_eq_getElem hi, List.getD_eq_getElem?_getD, List.getElem?_eq_getElem hi]
  rfl
theorem lcm_pos : ∀ (rs : List (Int × Int)) (w : Int), (∀ p ∈ rs, RstOk p) → 0 < w → 0 < rs.foldl (fun w p => w / pt w p.2 * p.2) w
  | [], w, _, h => h
  | p :: rs, w, ho, h => lcm_pos rs _ (fun q hq => ho q (List.mem_cons_of_mem _ hq)) (lcm_step h (by
      have h := ho p List.mem_cons_self
      have := h.1
      have := h.2.1
      omega)).1
theorem lcmOf_pos {rs : List (Int × Int)} (ho : ∀ p ∈ rs, RstOk p) : 0 < lcmOf rs := lcm_pos rs 1 ho (by decide)
def sp_round_of (_ : PySem.W.Frag) : Sp := spX (fun (d : V × List (Int × Int)) vs H => vs = [d.1] ∧ Rsts H d.1 d.2) (fun d _ v _ => v = .int (lcmOf d.2))
end
/-! ### numbers by their texts -/
abbrev stx (a : List Nat) : V := .str (SX.S a)
abbrev figs : List Nat := [48, 49, 50, 51, 52, 53, 54, 55, 56, 57]
theorem figs_is : ("0123456789" : Str) = SX.S figs := by decide +kernel
theorem empty_is : ("" : Str) = SX.S [] := by decide +kernel
theorem nought_is : ("0" : Str) = SX.S [48] := by decide +kernel
theorem sz_str {n : Nat} (h : n ≤ 100000) : n ≤ sizeLine := sz_of h
theorem dec_stx {a b : List Nat} : decide (stx a = stx b) = decide (a = b) := decide_eq_decide.mpr ⟨fun h => SX.S_inj (V.str.inj h), fun h => by rw [h]⟩
section
variable {K : PySem.W.Frag} {H : Hp} {σ : L2.St} {ta te : TE} {a b : List Nat}
theorem rv_eqT : RV rEq (stx a) (stx b) H (.bl (decide (a = b))) := fun H1 _ _ q => ⟨rfl, by rw [dec_stx]; exact q H1 (Ex.refl H1)⟩
theorem rv_neT : RV rNe (stx a) (stx b) H (.bl (!decide (a = b))) := fun H1 _ _ q => ⟨rfl, by rw [dec_stx]; exact q H1 (Ex.refl H1)⟩
theorem rc_lenT (h : a.length ≤ 100000) : RC (fun xs H Q => ∃ z, xs = [V.str z] ∧ z.length ≤ sizeLine ∧ Q (.int z.length) H) [stx a] H (.int (a.length : Int)) := fun H1 _ _ q => ⟨SX.S a, rfl, sz_of (by rw [SX.S_len]; exact h), by rw [SX.S_len]; exact q H1 (Ex.refl H1)⟩
theorem rv_ixT0 {c : Nat} {r : List Nat} (h : (c :: r).length ≤ 100000) : RV rIxS (stx (c :: r)) (.int 0) H (stx [c]) := fun H1 _ _ q => ⟨SX.S (c :: r), 0, c, rfl, rfl, sz_of (by rw [SX.S_len]; exact h), show atI (c :: r) ((0 : Nat) : Int) = some c from atI_nat rfl, q H1 (Ex.refl H1)⟩
theorem strip_S : (Txt.stripChars (SX.S a) (SX.S figs) = SX.S []) ↔ a.all isDig = true := by
  refine (strip_nil_iff (SX.S a) (SX.S figs)).trans ?_
  have : ∀ c : Nat, (SX.S figs).cps.contains c = isDig c := fun c => by
    show (figs.toArray).contains c = isDig c
    rw [List.contains_toArray]
    by_cases h : 48 ≤ c ∧ c ≤ 57
    · have : c = 48 ∨ c = 49 ∨ c = 50 ∨ c = 51 ∨ c = 52 ∨ c = 53 ∨ c = 54 ∨ c = 55 ∨ c = 56 ∨ c = 57 := by omega
      rcases this with h | h | h | h | h | h | h | h | h | h <;> subst h <;> decide
    · have h1 : isDig c = false := by
        simp only [isDig, Bool.and_eq_false_iff, decide_eq_false_iff_not]
        omega
      rw [h1]
      simp [figs]
      omega
  show a.all (SX.S figs).cps.contains = true ↔ _
  rw [show (SX.S figs).cps.contains = isDig from funext this]
end
section
variable {K : PySem.W.Frag} {H : Hp} {σ : L2.St} {ta te : TE} {a : List Nat} {c d e : Str}
abbrev rStrip : V → List V → Hp → VK → Prop := fun x xs H Q => ∃ a b, x = .str a ∧ xs = [.str b] ∧ a.length ≤ sizeLine ∧ Q (.str (Txt.stripChars a b)) H
theorem et_strip (h : Ev ta σ H (stx a)) (hl : a.length ≤ 100000) (hc : c = SX.S figs) (hd : d = SX.S []) : EvT (tTest (tOp rNe (tBM K "str" rStrip ta (tCons (tC (.str c)) tNil)) (tC (.str d)))) σ H (!a.all isDig) := by
  subst hc hd
  refine et_test (ev_op (x := .str (Txt.stripChars (SX.S a) (SX.S figs))) (fun H1 e Q q => h H1 e _ fun H2 e2 => ⟨rfl, ⟨SX.S a, SX.S figs, rfl, rfl, sz_of (by rw [SX.S_len]; exact hl), q H2 e2⟩⟩) ev_c fun H1 _ Q q => ⟨rfl, ?_⟩)
  have : decide (V.str (Txt.stripChars (SX.S a) (SX.S figs)) = V.str (SX.S [])) = a.all isDig := by
    cases hb : a.all isDig with
    | true => exact decide_eq_true (congrArg V.str (strip_S.mpr hb))
    | false =>
      refine decide_eq_false fun z => ?_
      have := strip_S.mp (V.str.inj z)
      rw [hb] at this
      cases this
  rw [this]
  exact q H1 (Ex.refl _)
/-- word[0] == "0" and word != "0" -/
theorem et_lead (h : ∀ H1, Ex H H1 → Ev ta σ H1 (stx a)) (hl : a.length ≤ 100000) (hn : 1 ≤ a.length) (hc : c = SX.S [48]) (hd : d = SX.S [48]) : EvT (tAnd (tTest (tOp rEq (tOp rIxS ta (tC (.int 0))) (tC (.str c)))) (tTest (tOp rNe ta (tC (.str d))))) σ H (decide (a.head? = some 48) && !decide (a = [48])) := by
  subst hc hd
  cases a with
  | nil => exact absurd hn (by decide)
  | cons x r =>
    refine et_is (et_and (et_test (ev_op (ev_op (h _ (Ex.refl _)) ev_c (rv_ixT0 hl)) ev_c rv_eqT)) fun _ => et_test (ev_op (h _ (Ex.refl _)) ev_c rv_neT)) ?_
    congr 1
    exact decide_eq_decide.mpr ⟨fun z => by cases z; rfl, fun z => by cases z; rfl⟩
end
def sp_l_number (_ : PySem.W.Frag) : Sp := spX (fun (d : List Nat) vs _ => vs = [stx d] ∧ d.length ≤ 100000) (fun d _ v _ => v = if numOk d then .int (wVal d) else .non)
theorem et_eqS {H : Hp} {σ : L2.St} {ta : TE} {a b : List Nat} {c : Str} (h : Ev ta σ H (stx a)) (hc : c = SX.S b) : EvT (tTest (tOp rEq ta (tC (.str c)))) σ H (decide (a = b)) := by
  subst hc
  exact et_test (ev_op h ev_c rv_eqT)
theorem int_of {a : List Nat} (h : numOk a = true) : intText? (SX.S a) = some (wVal a) := by
  unfold numOk at h
  simp only [Bool.and_eq_true, decide_eq_true_eq] at h
  exact SX.int_S h.2.1 (fun z => by rw [z] at h; simp at h) (by omega)
theorem numOk_len {a : List Nat} (h : numOk a = true) : a.length ≤ 7 := by
  unfold numOk at h
  simp only [Bool.and_eq_true, decide_eq_true_eq] at h
  exact h.1.2
theorem rc_int {H : Hp} {a : List Nat} (h : numOk a = true) : RC (fun xs H Q => ∃ a n, xs = [V.str a] ∧ PySem.intText? a = some n ∧ a.length ≤ 640 ∧ Q (.int n) H) [stx a] H (.int (wVal a)) := fun H1 _ _ q => ⟨SX.S a, wVal a, rfl, int_of h, by rw [SX.S_len]; have := numOk_len h; omega, q H1 (Ex.refl H1)⟩
section
variable {P : Program} {w : World} {K : PySem.W.Frag} {mg : Str → Option Value} {base : Heap} {A : Ad}
theorem ok_l_number (T : Txt K mg A) : Okk P w K mg base 1 A.a_l_number ["_law_text"] (sp_l_number K) := by
  refine okk T.F_l_number sc_l_number (fun vs H Q E h => ?_) (fun cdv Ar outer s H vs Q E hr h => ?_)
  · obtain ⟨d, ⟨rfl, _⟩, _⟩ := h
    rfl
  · obtain ⟨a, ⟨rfl, hl⟩, k⟩ := h
    refine ⟨_, (pss_cons (ps_if (PW.pt (pw_or (pt_cmpR op_eq (pv 0) pe_str (nomark _)) (pw_or (pt_cmpR op_gt (pe_callB call_len_str (by rfl) T.z_len (by decide +kernel) (pa_cons (pv 0) pa_nil)) pe_int (nomark _)) (pw_or (pt_cmpR op_ne (pe_bm PySem.F.plainAttrs_str PySem.F.slot_str_strip PySem.F.type_str_strip mt_stripChars (pv 0) (pa_cons pe_str pa_nil)) pe_str (nomark _)) (pw_or1 (PW.pt (pw_and (pt_cmpR op_eq (pe_ix ix_str (pv 0) pe_int (fun _ _ => rfl)) pe_str (nomark _)) (pw_and1 (pt_cmpR op_ne (pv 0) pe_str (nomark _)))))))))) (pss_one (ps_ret pe_non)) pss_nil)
      (pss_one (ps_ret (pe_callTy call_int_str (by rfl) T.z_int (by decide +kernel) (pa_cons (pv 0) pa_nil))))), ?_⟩
    refine q_when (b := !numOk a) ?_ (fun hb H1 e1 => ?_) fun hb H1 e1 => ?_
    · refine et_is (et_or (et_eqS (b := []) (ev_var rfl) empty_is) fun h1 => et_or (et_test (ev_op (ev_cb (ea_cons (ev_var rfl) ea_nil) (rc_lenT hl)) ev_c rv_I0)) fun h2 => et_or (et_strip (ev_var rfl) hl figs_is empty_is) fun h3 => et_lead (fun H1 e => ev_var rfl) hl ?_ nought_is nought_is) ?_
      · have h1 := of_decide_eq_false h1
        cases a with
        | nil => exact absurd rfl h1
        | cons x r => exact Nat.succ_le_succ (Nat.zero_le _)
      · unfold numOk
        have e1 : decide (1 ≤ a.length) = !decide (a = []) := by
          rw [← decide_not]
          exact decide_eq_decide.mpr (by cases a <;> simp)
        have e2 : decide (a.length ≤ 7) = !decide ((7 : Int) < (a.length : Int)) := by
          rw [← decide_not]
          exact decide_eq_decide.mpr (by omega)
        rw [e1, e2]
        cases decide (a = []) <;> cases decide ((7 : Int) < (a.length : Int)) <;> cases a.all isDig <;> simp
    · have hn : numOk a = false := by rw [Bool.not_eq_true'] at hb; exact hb
      exact s_ret ev_c fun H2 e2 => k _ _ (e1.trans e2) (by show V.non = if numOk a = true then _ else _; rw [hn]; rfl)
    · have hn : numOk a = true := by rw [Bool.not_eq_false'] at hb; exact hb
      exact s_ret (ev_cb (ea_cons (ev_var rfl) ea_nil) (rc_int hn)) fun H2 e2 => k _ _ (e1.trans e2) (by show V.int _ = if numOk a = true then _ else _; rw [hn]; rfl)
end
def spx_number_in (A : Ad) : Sp := spO (spX (fun (d : List Nat) vs _ => vs = [stx d] ∧ d.length ≤ 100000 ∧ numOk d = true) (fun d _ v _ => v = .int (wVal d))) (spZ (fun (d : List Nat) vs _ => vs = [stx d] ∧ d.length ≤ 100000 ∧ numOk d = false) A.c_BadText)
section
variable {P : Program} {w : World} {K : PySem.W.Frag} {mg : Str → Option Value} {base : Heap} {A : Ad}
theorem et_num {H : Hp} {σ : L2.St} {a : List Nat} {c d e f : Str} (hσ : σ[0]? = some (some (stx a))) (hl : a.length ≤ 100000) (hc : c = SX.S figs) (hd : d = SX.S []) (he : e = SX.S [48]) (hf : f = SX.S [48]) :
    EvT (tOr (tNot (tTest (tChain (rI0 fun i j => .bl (decide (i ≤ j))) (rI0 fun i j => .bl (decide (i ≤ j))) (tC (.int 1)) (tCB (fun xs H Q => ∃ z, xs = [V.str z] ∧ z.length ≤ sizeLine ∧ Q (.int z.length) H) (tCons (tVar 0) tNil)) (tC (.int 7))))) (tOr (tTest (tOp rNe (tBM K "str" rStrip (tVar 0) (tCons (tC (.str c)) tNil)) (tC (.str d)))) (tAnd (tTest (tOp rEq (tOp rIxS (tVar 0) (tC (.int 0))) (tC (.str e)))) (tTest (tOp rNe (tVar 0) (tC (.str f))))))) σ H (!numOk a) := by
  have hlen : Ev (tCB (fun xs H Q => ∃ z, xs = [V.str z] ∧ z.length ≤ sizeLine ∧ Q (.int z.length) H) (tCons (tVar 0) tNil)) σ H (.int (a.length : Int)) := ev_cb (ea_cons (ev_var hσ) ea_nil) (rc_lenT hl)
  refine et_is (et_or (et_not (et_test (ev_chain (a := decide ((1 : Int) ≤ (a.length : Int))) (b := decide ((a.length : Int) ≤ 7)) ev_c hlen rv_I0 (fun _ => ev_c) fun _ => rv_I0))) fun h2 => et_or (et_strip (ev_var hσ) hl hc hd) fun h3 => et_lead (fun H1 e => ev_var hσ) hl ?_ he hf) ?_
  · rw [Bool.not_eq_false', Bool.and_eq_true, decide_eq_true_eq] at h2
    omega
  · unfold numOk
    have e1 : decide (1 ≤ a.length) = decide ((1 : Int) ≤ (a.length : Int)) := decide_eq_decide.mpr (by omega)
    have e2 : decide (a.length ≤ 7) = decide ((a.length : Int) ≤ 7) := decide_eq_decide.mpr (by omega)
    rw [e1, e2]
    cases decide ((1 : Int) ≤ (a.length : Int)) <;> cases decide ((a.length : Int) ≤ 7) <;> cases a.all isDig <;> simp
theorem okx_number_in (T : Txt K mg A) : OkkX P w K mg base 1 A.a_number_in ["word"] (spx_number_in A) := by
  obtain ⟨_, k_FIGURES⟩ := T.k_FIGURES
  refine okkx T.F_number_in sc_number_in (fun vs H Q E h => ?_) (fun cdv Ar outer s H vs Q E hr h => ?_)
  · rcases h with ⟨d, ⟨rfl, _⟩, _⟩ | ⟨d, ⟨rfl, _⟩, _⟩ <;> rfl
  · rcases h with ⟨a, ⟨rfl, hl, hn⟩, k⟩ | ⟨a, ⟨rfl, hl, hn⟩, k⟩
    · refine ⟨_, (pss_cons (ps_if (PW.pt (pw_or (pt_not (pt_chain op_le op_le pe_int (pe_callB call_len_str (by rfl) T.z_len (by decide +kernel) (pa_cons (pv 0) pa_nil)) pe_int)) (pw_or (pt_cmpR op_ne (pe_bm PySem.F.plainAttrs_str PySem.F.slot_str_strip PySem.F.type_str_strip mt_stripChars (pv 0) (pa_cons (pe_glob (v := .str "0123456789") (by rfl) k_FIGURES ⟨_, rfl⟩) pa_nil)) pe_str (nomark _)) (pw_or1 (PW.pt (pw_and (pt_cmpR op_eq (pe_ix ix_str (pv 0) pe_int (fun _ _ => rfl)) pe_str (nomark _)) (pw_and1 (pt_cmpR op_ne (pv 0) pe_str (nomark _))))))))) (pss_one (L2N.ps_raise rfl (L2N.takes_of rfl rfl rfl rfl) (L2N.pmk_own PySem.F.excBase_ValueError T.ex_BadText T.g_BadText T.ke_BadText (raises_own T.sb_BadText T.ty_BadText) (by rfl)))) pss_nil)
      (pss_one (ps_ret (pe_callTy call_int_str (by rfl) T.z_int (by decide +kernel) (pa_cons (pv 0) pa_nil))))), ?_⟩
      refine q_when (b := false) (et_is (et_num rfl hl figs_is empty_is nought_is nought_is) (by rw [hn]; rfl)) (fun z => nomatch z) fun _ H1 e1 => ?_
      exact s_ret (ev_cb (ea_cons (ev_var rfl) ea_nil) (rc_int hn)) fun H2 e2 => k _ _ (e1.trans e2) rfl
    · refine ⟨_, (pss_cons (ps_if (PW.pt (pw_or (pt_not (pt_chain op_le op_le pe_int (pe_callB call_len_str (by rfl) T.z_len (by decide +kernel) (pa_cons (pv 0) pa_nil)) pe_int)) (pw_or (pt_cmpR op_ne (pe_bm PySem.F.plainAttrs_str PySem.F.slot_str_strip PySem.F.type_str_strip mt_stripChars (pv 0) (pa_cons (pe_glob (v := .str "0123456789") (by rfl) k_FIGURES ⟨_, rfl⟩) pa_nil)) pe_str (nomark _)) (pw_or1 (PW.pt (pw_and (pt_cmpR op_eq (pe_ix ix_str (pv 0) pe_int (fun _ _ => rfl)) pe_str (nomark _)) (pw_and1 (pt_cmpR op_ne (pv 0) pe_str (nomark _))))))))) (pss_one (L2N.ps_raise rfl (L2N.takes_of rfl rfl rfl rfl) (L2N.pmk_own PySem.F.excBase_ValueError T.ex_BadText T.g_BadText T.ke_BadText (raises_own T.sb_BadText T.ty_BadText) (by rfl)))) pss_nil)
      (pss_one (ps_ret (pe_callTy call_int_str (by rfl) T.z_int (by decide +kernel) (pa_cons (pv 0) pa_nil))))), ?_⟩
      exact q_when (b := true) (et_is (et_num rfl hl figs_is empty_is nought_is nought_is) (by rw [hn]; rfl)) (fun _ H1 e1 => k _ e1) fun z => nomatch z
end
/-! ### a cell of the script, a draw, rounds -/
/-- a script at a: ns -/
def Scr (K : PySem.W.Frag) (H : Hp) (v : V) (ns : List Int) : Prop := ∃ a, v = .ref a ∧ SqL K H a (ns.map V.int) ∧ ns.length ≤ 63
theorem Scr.up {K : PySem.W.Frag} {H H' : Hp} {v : V} {ns : List Int} (e : Ex H H') (h : Scr K H v ns) : Scr K H' v ns := by
  obtain ⟨a, r, h, l⟩ := h
  exact ⟨a, r, ex_l e h, l⟩
def sp_l_cell_at (K : PySem.W.Frag) : Sp := spX (fun (d : V × List Int × Nat) vs H => vs = [d.1, .int d.2.2] ∧ Scr K H d.1 d.2.1) (fun d _ v _ => v = .int (d.2.1.getD d.2.2 0))
def sp_l_draw (_ : PySem.W.Frag) : Sp := spX (fun (d : Int × Int × Int) vs _ => vs = [.int d.1, .int d.2.1, .int d.2.2] ∧ 0 ≤ d.2.1 ∧ 0 < d.2.2) (fun d _ v _ => ∃ r, v = .int r ∧ 0 ≤ r ∧ r < d.2.2)
section
variable {P : Program} {w : World} {K : PySem.W.Frag} {mg : Str → Option Value} {base : Heap} {A : Ad}
theorem ok_l_cell_at (T : Txt K mg A) : Okk P w K mg base 1 A.a_l_cell_at ["_law_script", "_law_k"] (sp_l_cell_at K) := by
  refine okk T.F_l_cell_at sc_l_cell_at (fun vs H Q E h => ?_) (fun cdv Ar outer s H vs Q E hr h => ?_)
  · obtain ⟨d, ⟨rfl, _⟩, _⟩ := h
    rfl
  · obtain ⟨⟨_, ns, j⟩, ⟨rfl, a, rfl, hS, hl⟩, k⟩ := h
    refine ⟨_, (pss_cons (ps_if (pt_cmpR op_lt (pv 1) (pe_callB (len_seqK K) (by rfl) T.z_len (by decide +kernel) (pa_cons (pv 0) pa_nil)) (nomark _)) (pss_one (ps_ret (pe_ix (ix_listK K) (pv 0) (pv 1) (fun _ _ => rfl)))) pss_nil)
      (pss_one (ps_ret pe_int))), ?_⟩
    have e0 : ((ns.map V.int).length : Int) = (ns.length : Int) := by rw [List.length_map]
    refine q_when (b := decide ((j : Int) < (ns.length : Int))) ?_ (fun hb H1 e1 => ?_) (fun hb H1 e1 => ?_)
    · rw [← e0]
      exact et_test (ev_op (ev_var rfl) (ev_lenL (ev_var rfl) hS) rv_I0)
    · have hj : j < ns.length := by
        have := of_decide_eq_true hb
        omega
      refine s_ret (v := .int (ns.getD j 0)) (ev_op (ev_var rfl) (ev_var rfl) (rv_ixL (ex_l e1 hS) ?_)) fun H2 e2 => k _ _ (e1.trans e2) rfl
      refine atI_nat ?_
      rw [List.getElem?_map, List.getD_eq_getElem?_getD, List.getElem?_eq_getElem hj]
      rfl
    · have hj : ¬ j < ns.length := fun z => by
        have := of_decide_eq_false hb
        omega
      refine s_ret (v := .int (ns.getD j 0)) ?_ fun H2 e2 => k _ _ (e1.trans e2) rfl
      rw [List.getD_eq_getElem?_getD, List.getElem?_eq_none (by omega)]
      exact ev_c
abbrev prms : List Int := [1000003, 1000033, 1000037, 1000039, 1000081, 1000099, 1000117, 1000121, 1000133, 1000151, 1000159, 1000171, 1000183, 1000187, 1000193, 1000199]
theorem ok_l_draw (T : Txt K mg A) : Okk P w K mg base 1 A.a_l_draw ["_law_cell", "_law_k", "_law_many"] (sp_l_draw K) := by
  refine okk T.F_l_draw sc_l_draw (fun vs H Q E h => ?_) (fun cdv Ar outer s H vs Q E hr h => ?_)
  · obtain ⟨d, ⟨rfl, _⟩, _⟩ := h
    rfl
  · obtain ⟨⟨c, j, m⟩, ⟨rfl, hj, hm⟩, k⟩ := h
    refine ⟨_, (pss_cons (ps_set (i := 3) sc_l_draw.nd rfl (.inl rfl) (pe_tup (pa_cons pe_int (pa_cons pe_int (pa_cons pe_int (pa_cons pe_int (pa_cons pe_int (pa_cons pe_int (pa_cons pe_int (pa_cons pe_int (pa_cons pe_int (pa_cons pe_int (pa_cons pe_int (pa_cons pe_int (pa_cons pe_int (pa_cons pe_int (pa_cons pe_int (pa_cons pe_int pa_nil))))))))))))))))))
      (pss_one (ps_ret (pe_op op_mod (pe_op op_mod (pe_op op_add (pe_op op_mul (pv 0) pe_int) (pe_op op_mul (pv 1) pe_int)) (pe_ix (ix_tupK K) (pv 3) (pe_op op_mod (pv 1) pe_int) (fun _ _ => rfl))) (pv 2))))), ?_⟩
    refine q_asgU (eu_tup (by walk_at "ev") (by walk_at "sz")) fun p H1 hp e1 h1 => ?_
    have k0 : 0 ≤ j % 16 := Int.emod_nonneg _ (by decide)
    have k1 : j % 16 < 16 := Int.emod_lt_of_pos _ (by decide)
    have hg := getD_all (l := prms) (i := (j % 16).toNat) (a := 1) (b := 2000000) (by decide) (by show (j % 16).toNat < 16; omega)
    have hg1 : 0 < prms.getD (j % 16).toNat 0 := by
      have := hg.1
      omega
    refine s_ret (v := .int ((c * 48271 + j * 69621) % prms.getD (j % 16).toNat 0 % m)) ?_ fun H2 e2 => k _ _ (e1.trans e2) ⟨_, rfl, Int.emod_nonneg _ (Int.ne_of_gt hm), Int.emod_lt_of_pos _ hm⟩
    refine ev_op (ev_op (ev_op (ev_op (ev_var rfl) ev_c (rv_I (.inr (by decide)))) (ev_op (ev_var rfl) ev_c (rv_I (.inr (by decide)))) rv_I0) (ev_op (ev_var rfl) (ev_op (ev_var rfl) ev_c (rv_I (by decide))) (rv_ixT (st_of (show H1 p = some (.tup (prms.map V.int)) from h1)) (atI_map (l := prms) k0 (by show j % 16 < 16; exact k1)))) (rv_I hg1)) (ev_var rfl) (rv_I hm)
theorem ev_cell {σ : L2.St} {H : Hp} {ta tb : TE} {v : V} {ns : List Int} {j : Nat} {E : XK} (h : Ev ta σ H v) (hj : Ev tb σ H (.int (j : Int))) (hS : Scr K H v ns) : Ev (tCall (sp_l_cell_at K) [] E (tCons ta (tCons tb tNil))) σ H (.int (ns.getD j 0)) :=
  ev_call0 (v, ns, j) (ea_cons h (ea_cons hj ea_nil)) (fun H1 e => ⟨rfl, hS.up e⟩) fun _ _ _ p => p
theorem er_draw {σ : L2.St} {H : Hp} {ta tb tc : TE} {c k m : Int} {E : XK} (h : Ev ta σ H (.int c)) (h2 : Ev tb σ H (.int k)) (h3 : Ev tc σ H (.int m)) (hk : 0 ≤ k) (hm : 0 < m) : EvR (tCall (sp_l_draw K) [] E (tCons ta (tCons tb (tCons tc tNil)))) σ H (fun v _ => ∃ r, v = .int r ∧ 0 ≤ r ∧ r < m) :=
  er_call (c, k, m) (ea_cons h (ea_cons h2 (ea_cons h3 ea_nil))) (fun H1 e => ⟨rfl, hk, hm⟩) fun _ _ _ _ _ p => p
end
/-! ### rounds -/
/-- a new list of n rounds -/
def TurnsAt (n : Nat) (H : Hp) (v : V) (H' : Hp) : Prop := ∃ (p : Addr) (ts : List Int), v = .ref p ∧ H p = none ∧ H' p = some (.lst (ts.map V.int)) ∧ ts.length = n ∧ ∀ t ∈ ts, 1 ≤ t ∧ t ≤ 1000000
def sp_l_turns (K : PySem.W.Frag) : Sp := spX (fun (d : V × List Int) vs H => vs = [d.1] ∧ Scr K H d.1 d.2) (fun d H v H' => TurnsAt d.2.length H v H')
section
variable {P : Program} {w : World} {K : PySem.W.Frag} {mg : Str → Option Value} {base : Heap} {A : Ad}
theorem ok_l_turns (T : Txt K mg A) : Okk P w K mg base 2 A.a_l_turns ["_law_script"] (sp_l_turns K) := by
  obtain ⟨_, G_l_cell_at, b_l_cell_at, k_l_cell_at⟩ := ok_l_cell_at (P := P) (w := w) (base := base) T
  obtain ⟨_, G_l_draw, b_l_draw, k_l_draw⟩ := ok_l_draw (P := P) (w := w) (base := base) T
  refine okk T.F_l_turns sc_l_turns (fun vs H Q E h => ?_) (fun cdv Ar outer s H vs Q E hr h => ?_)
  · obtain ⟨d, ⟨rfl, _⟩, _⟩ := h
    rfl
  · obtain ⟨⟨_, ns⟩, ⟨rfl, a, rfl, hS, hl⟩, k⟩ := h
    have hr_l_cell_at : Room 1 _ := hr.mono (by decide)
    have hr_l_draw : Room 1 _ := hr.mono (by decide)
    refine ⟨_, (pss_cons (ps_set (i := 1) sc_l_turns.nd rfl (.inl rfl) (pe_call G_l_draw hr_l_draw (by rfl) T.g_l_draw k_l_draw b_l_draw .nil pass0 (pa_cons (pe_call G_l_cell_at hr_l_cell_at (by rfl) T.g_l_cell_at k_l_cell_at b_l_cell_at .nil pass0 (pa_cons (pv 0) (pa_cons pe_int pa_nil))) (pa_cons pe_int (pa_cons pe_int pa_nil)))))
      (pss_cons (ps_set (i := 2) sc_l_turns.nd rfl (.inl rfl) (pe_lst pa_nil))
      (pss_cons (ps_for PassesOwn.never rfl (pi_range1 (by rfl) T.z_range (pa_cons (pe_callB (len_seqK K) (by rfl) T.z_len (by decide +kernel) (pa_cons (pv 0) pa_nil)) pa_nil)) (pg_name (i := 3) sc_l_turns.nd rfl (Or.inl rfl)) (pss_cons (ps_set (i := 4) sc_l_turns.nd rfl (.inl rfl) (pe_op op_add pe_int (pe_call G_l_draw hr_l_draw (by rfl) T.g_l_draw k_l_draw b_l_draw .nil pass0 (pa_cons (pe_ix (ix_listK K) (pv 0) (pv 3) (fun _ _ => rfl)) (pa_cons (pe_op op_add (pe_op op_mod (pv 3) pe_int) pe_int) (pa_cons (pe_ix (ix_tupK K) (pe_tup (pa_cons pe_int (pa_cons pe_int (pa_cons pe_int (pa_cons pe_int pa_nil))))) (pv 1) (fun _ _ => rfl)) pa_nil))))))
      (pss_cons (ps_if (pt_cmpR op_eq (pv 1) pe_int (nomark _)) (pss_one (ps_set (i := 4) sc_l_turns.nd rfl (.inl rfl) (pe_ix (ix_tupK K) (pe_tup (pa_cons pe_int (pa_cons pe_int (pa_cons pe_int (pa_cons pe_int (pa_cons pe_int (pa_cons pe_int (pa_cons pe_int (pa_cons pe_int (pa_cons pe_int (pa_cons pe_int (pa_cons pe_int (pa_cons pe_int (pa_cons pe_int (pa_cons pe_int (pa_cons pe_int pa_nil)))))))))))))))) (pe_op op_mod (pv 4) pe_int) (fun _ _ => rfl)))) pss_nil)
      (pss_one (ps_expr (pe_bm PySem.F.plainAttrs_list PySem.F.slot_list_append PySem.F.type_list_append mt_append (pv 2) (pa_cons (pv 4) pa_nil)))))))
      (pss_one (ps_ret (pv 2)))))), ?_⟩
    dsimp only at hS hl
    have hsc : Scr K H (.ref a) ns := ⟨a, rfl, hS, hl⟩
    have e0 : ((ns.map V.int).length : Int) = (ns.length : Int) := by rw [List.length_map]
    refine q_asgR (er_draw (ev_cell (j := 0) (ev_var rfl) ev_c hsc) ev_c ev_c (by decide) (by decide)) fun v1 H1 e1 h1 => ?_
    obtain ⟨kind, rfl, k0, k1⟩ := h1
    refine q_asgL (xs := []) (el_lst ea_nil (by decide)) fun p H2 hp e2 h2 => ?_
    have hS2 := ex_l (e1.trans e2) hS
    refine q_forR1 (n := (ns.length : Int)) (ea_cons (by rw [← e0]; exact ev_lenL (ev_var rfl) hS2) ea_nil) (by omega) (fun i σ' H' => ∃ s3 s4 : Option V, ∃ ts : List Int, σ' = [some (.ref a), some (.int kind), some (.ref p), s3, s4] ∧ Ex H1 H' ∧ H' p = some (.lst (ts.map V.int)) ∧ ts.length = i ∧ ∀ t ∈ ts, 1 ≤ t ∧ t ≤ 1000000)
      (fun H3 e3 => ⟨_, _, [], rfl, e2.trans e3, e3 _ _ h2, rfl, fun t ht => nomatch ht⟩) (fun i σ' H' hi hP => ?_) (fun σ' H' hP => ?_)
    · obtain ⟨s3, s4, ts, rfl, e3, hp3, hlen, hts⟩ := hP
      have hi' : i < ns.length := by omega
      have hS3 : SqL K H' a (ns.map V.int) := ex_l (e1.trans e3) hS
      have hgm := getD_all (l := [12, 200, 1000000, 30]) (i := kind.toNat) (a := 1) (b := 1000000) (by decide) (by show kind.toNat < 4; omega)
      refine q_asgR (R := fun v _ => ∃ t, v = .int t ∧ 1 ≤ t ∧ t ≤ 1000000) (er_op (evr ev_c) (fun x H4 e4 hx => er_draw (c := ns.getD i 0) (k := (i : Int) % 5 + 1) (m := ([12, 200, 1000000, 30] : List Int).getD kind.toNat 0)
        (ev_op (ev_var rfl) (ev_var rfl) (rv_ixL (ex_l e4 hS3) ?_)) (ev_op (ev_op (ev_var rfl) ev_c (rv_I (by decide))) ev_c rv_I0) (ev_pick (l := [12, 200, 1000000, 30]) (by walk_at "ev") (ev_var rfl) (by rfl) k0 (by show kind < 4; exact k1) (by walk_at "sz")) (by omega) (by omega)) ?_) fun v4 H4 e4 h4 => ?_
      · refine atI_nat ?_
        rw [List.getElem?_map, List.getD_eq_getElem?_getD, List.getElem?_eq_getElem hi']
        rfl
      · rintro x y H4 H5 e4 rfl e5 ⟨r, rfl, r0, r1⟩ Q q
        exact ⟨1, r, rfl, rfl, q _ _ (Ex.refl _) ⟨_, rfl, by omega, by omega⟩⟩
      · obtain ⟨t, rfl, t0, t1⟩ := h4
        have fin : ∀ H5 t, Ex H' H5 → 1 ≤ t → t ≤ 1000000 → tDrop (tBM K "list" rAppend (tVar 2) (tCons (tVar 4) tNil)) { nx := fun σ' H' => ∃ s3 s4 : Option V, ∃ ts : List Int, σ' = [some (.ref a), some (.int kind), some (.ref p), s3, s4] ∧ Ex H1 H' ∧ H' p = some (.lst (ts.map V.int)) ∧ ts.length = i + 1 ∧ ∀ t ∈ ts, 1 ≤ t ∧ t ≤ 1000000, rt := Q, bk := fun σ' H' => tRet (tVar 2) { nx := fun _ H' => Q .non H', rt := Q } σ' H', ct := fun σ' H' => ∃ s3 s4 : Option V, ∃ ts : List Int, σ' = [some (.ref a), some (.int kind), some (.ref p), s3, s4] ∧ Ex H1 H' ∧ H' p = some (.lst (ts.map V.int)) ∧ ts.length = i + 1 ∧ ∀ t ∈ ts, 1 ≤ t ∧ t ≤ 1000000 } [some (.ref a), some (.int kind), some (.ref p), some (.int (i : Int)), some (.int t)] H5 := fun H5 t e5 a0 a1 =>
          s_app (e5 _ _ hp3) (ev_var rfl) (ev_var rfl) (by rw [List.length_map]; omega) fun H6 e6 => ⟨_, _, ts ++ [t], rfl, Ex.mut ((e3.trans e5).trans e6) hp, by rw [upd_same, List.map_append]; rfl, by simp [hlen], fun z hz => by
            rcases List.mem_append.mp hz with h | h
            · exact hts z h
            · rw [List.mem_singleton.mp h]
              exact ⟨a0, a1⟩⟩
        refine q_when (et_test (ev_op (ev_var rfl) ev_c rv_eqI)) (fun hb H5 e5 => ?_) (fun hb H5 e5 => ?_)
        · have g0 : 0 ≤ t % 15 := Int.emod_nonneg _ (by decide)
          have g1 : t % 15 < 15 := Int.emod_lt_of_pos _ (by decide)
          have hgm2 := getD_all (l := [1, 2, 4, 8, 3, 9, 27, 6, 12, 18, 36, 5, 10, 20, 60]) (i := (t % 15).toNat) (a := 1) (b := 1000000) (by decide) (by show (t % 15).toNat < 15; omega)
          refine s_asg (ev_pick (l := [1, 2, 4, 8, 3, 9, 27, 6, 12, 18, 36, 5, 10, 20, 60]) (by walk_at "ev") (ev_op (ev_var rfl) ev_c (rv_I (by decide))) (by rfl) g0 (by show t % 15 < 15; exact g1) (by walk_at "sz")) fun H6 e6 => ?_
          exact fin H6 _ ((e4.trans e5).trans e6) hgm2.1 hgm2.2
        · exact fin H5 _ (e4.trans e5) t0 t1
    · obtain ⟨s3, s4, ts, rfl, e3, hp3, hlen, hts⟩ := hP
      refine s_ret (ev_var rfl) fun H3 e4 => k _ _ ((e1.trans e3).trans e4) ⟨p, ts, rfl, fresh_back e1 hp, e4 _ _ hp3, by show ts.length = ns.length; omega, hts⟩
end
/-! ### rests of the script -/
def sp_l_rests (K : PySem.W.Frag) : Sp := spX (fun (d : V × List Int) vs H => vs = [d.1] ∧ Scr K H d.1 d.2) (fun d H v H' => ∃ (a : Addr) (xs : List V) (rs : List (Int × Int)), v = .ref a ∧ H a = none ∧ H' a = some (.lst xs) ∧ RsL H' xs rs ∧ rs.length = d.2.length ∧ ∀ p ∈ rs, RstOk p)
section
variable {P : Program} {w : World} {K : PySem.W.Frag} {mg : Str → Option Value} {base : Heap} {A : Ad}
theorem rst_set {rs : List (Int × Int)} {q : Int × Int} {i : Nat} (h : ∀ p ∈ rs, RstOk p) (hq : RstOk q) : ∀ p ∈ rs.set i q, RstOk p := fun p hp => by
  rcases List.mem_or_eq_of_mem_set hp with h1 | h1
  · exact h p h1
  · rw [h1]
    exact hq
theorem ok_l_rests (T : Txt K mg A) : Okk P w K mg base 3 A.a_l_rests ["_law_script"] (sp_l_rests K) := by
  obtain ⟨_, G_l_cell_at, b_l_cell_at, k_l_cell_at⟩ := ok_l_cell_at (P := P) (w := w) (base := base) T
  obtain ⟨_, G_l_draw, b_l_draw, k_l_draw⟩ := ok_l_draw (P := P) (w := w) (base := base) T
  obtain ⟨_, G_l_turns, b_l_turns, k_l_turns⟩ := ok_l_turns (P := P) (w := w) (base := base) T
  refine okk T.F_l_rests sc_l_rests (fun vs H Q E h => ?_) (fun cdv Ar outer s H vs Q E hr h => ?_)
  · obtain ⟨d, ⟨rfl, _⟩, _⟩ := h
    rfl
  · obtain ⟨⟨_, ns⟩, ⟨rfl, a, rfl, hS, hl⟩, k⟩ := h
    dsimp only at hS hl
    have hr_l_cell_at : Room 1 _ := hr.mono (by decide)
    have hr_l_draw : Room 1 _ := hr.mono (by decide)
    have hr_l_turns : Room 2 _ := hr.mono (by decide)
    refine ⟨_, (pss_cons (ps_set (i := 1) sc_l_rests.nd rfl (.inr rfl) (pe_callB (sumK K rfl) (by rfl) T.z_sum (by decide +kernel) (pa_cons (pe_lc (own := [("_law_k", 5), ("_law_cell", 6)]) rfl sc_l_rests.nd (pi_enum (by rfl) T.z_enumerate (pa_cons (pv 0) pa_nil)) (blkOk_by (N := ["_law_script", "_law_far", "_law_found", "_law_at", "_law_turn", "_law_k", "_law_cell"]) (sc := defScope s_l_rests) (by decide +kernel)) (fun _ _ _ _ _ => (pg_tupK (n := 2) K rfl (pgs_cons (pg_name (i := 5) sc_l_rests.nd rfl (Or.inl rfl)) (pgs_cons (pg_name (i := 6) sc_l_rests.nd rfl (Or.inl rfl)) pgs_nil)))) (fun _ _ _ _ _ => pts_nil) (fun _ _ _ _ _ => (pe_op op_mul (pe_op op_mod (pe_callB call_abs (by rfl) T.z_abs (by decide +kernel) (pa_cons (pv 6) pa_nil)) (pe_op op_pow pe_int pe_int)) (pe_op op_add (pv 5) pe_int)))) pa_nil)))
      (pss_cons (ps_setLc (i := 2) (own := [("_law_turn", 4)]) rfl sc_l_rests.nd rfl rfl (sw_true rfl rfl rfl (by decide +kernel)) (pi_listK K (pe_call G_l_turns hr_l_turns (by rfl) T.g_l_turns k_l_turns b_l_turns .nil pass0 (pa_cons (pv 0) pa_nil))) (blkOk_by (N := ["_law_script", "_law_far", "_law_found", "_law_at", "_law_turn", "_law_k", "_law_cell"]) (sc := defScope s_l_rests) (by decide +kernel)) (fun _ _ _ _ _ => (pg_name (i := 4) sc_l_rests.nd rfl (Or.inl rfl))) (fun _ _ _ _ _ => pts_nil) (fun _ _ _ _ _ => (pe_tup (pa_cons (pe_op op_mod (pv 1) (pv 4)) (pa_cons (pv 4) pa_nil)))))
      (pss_cons (ps_if (PW.pt (pw_and (pt_cmpR (neDK K hr.units) (pv 2) (pe_lst pa_nil) (nomark _)) (pw_and1 (pt_cmpR op_eq (pe_call G_l_draw hr_l_draw (by rfl) T.g_l_draw k_l_draw b_l_draw .nil pass0 (pa_cons (pe_call G_l_cell_at hr_l_cell_at (by rfl) T.g_l_cell_at k_l_cell_at b_l_cell_at .nil pass0 (pa_cons (pv 0) (pa_cons pe_int pa_nil))) (pa_cons pe_int (pa_cons pe_int pa_nil)))) pe_int (nomark _))))) (pss_cons (ps_set (i := 3) sc_l_rests.nd rfl (.inl rfl) (pe_call G_l_draw hr_l_draw (by rfl) T.g_l_draw k_l_draw b_l_draw .nil pass0 (pa_cons (pe_call G_l_cell_at hr_l_cell_at (by rfl) T.g_l_cell_at k_l_cell_at b_l_cell_at .nil pass0 (pa_cons (pv 0) (pa_cons pe_int pa_nil))) (pa_cons pe_int (pa_cons (pe_callB (len_seqK K) (by rfl) T.z_len (by decide +kernel) (pa_cons (pv 2) pa_nil)) pa_nil)))))
      (pss_one (ps_asg (pe_tup (pa_cons (pe_op op_mod (pe_op op_add (pe_ix (ix_tupK K) (pe_ix (ix_listK K) (pv 2) (pv 3) (fun _ _ => rfl)) pe_int (fun _ _ => rfl)) (pe_call G_l_draw hr_l_draw (by rfl) T.g_l_draw k_l_draw b_l_draw .nil pass0 (pa_cons (pe_call G_l_cell_at hr_l_cell_at (by rfl) T.g_l_cell_at k_l_cell_at b_l_cell_at .nil pass0 (pa_cons (pv 0) (pa_cons pe_int pa_nil))) (pa_cons pe_int (pa_cons pe_int pa_nil))))) (pe_ix (ix_tupK K) (pe_ix (ix_listK K) (pv 2) (pv 3) (fun _ _ => rfl)) pe_int (fun _ _ => rfl))) (pa_cons (pe_ix (ix_tupK K) (pe_ix (ix_listK K) (pv 2) (pv 3) (fun _ _ => rfl)) pe_int (fun _ _ => rfl)) pa_nil))) (pg_sub (pv 2) (pv 3) set_list)))) pss_nil)
      (pss_one (ps_ret (pv 2)))))), ?_⟩
    have hsc : Scr K H (.ref a) ns := ⟨a, rfl, hS, hl⟩
    have hp9 : (10 : Int) ^ (9 : Int).toNat = 1000000000 := by decide
    refine q_asg (v := .int ((List.range ns.length).map fun i => (if ns.getD i 0 < 0 then -(ns.getD i 0) else ns.getD i 0) % 10 ^ (9 : Int).toNat * ((i : Int) + 1)).sum) (ev_sumN (H0 := H) ?_) fun H1 e1 => ?_
    · rw [iv_map, ← iv_len ns]
      refine er_lcE (fun i => .int ((if ns.getD i 0 < 0 then -(ns.getD i 0) else ns.getD i 0) % 10 ^ (9 : Int).toNat * ((i : Int) + 1))) (ea_cons (ev_var rfl) ea_nil) hS (by rw [iv_len]; omega) (fun _ _ => rfl) fun i x hx => ?_
      obtain ⟨hi, rfl⟩ := iv_get hx
      exact ev_op (ev_op (ev_cb (ea_cons (ev_var rfl) ea_nil) rc_abs) (ev_op ev_c ev_c (rv_pow ⟨by decide, by decide, by decide⟩)) (rv_I (by decide))) (ev_op (ev_var rfl) ev_c rv_I0) (rv_I (.inr (by omega)))
    generalize ((List.range ns.length).map fun i => (if ns.getD i 0 < 0 then -(ns.getD i 0) else ns.getD i 0) % 10 ^ (9 : Int).toNat * ((i : Int) + 1)).sum = far
    refine q_asgR (R := fun v H2 => ∃ (l : Addr) (xs : List V) (rs : List (Int × Int)), v = .ref l ∧ H1 l = none ∧ H2 l = some (.lst xs) ∧ RsL H2 xs rs ∧ rs.length = ns.length ∧ ∀ p ∈ rs, RstOk p) (er_lcB (er_call (R := TurnsAt ns.length H1) (V.ref a, ns) (ea_cons (ev_var rfl) ea_nil) (fun H2 e2 => ⟨rfl, hsc.up (e1.trans e2)⟩) fun H2 v H3 e2 _ ⟨p, ts, hv, hn, h⟩ => ⟨p, ts, hv, fresh_back e2 hn, h⟩) fun v H2 e2 ⟨p, ts, hv, hn, hp, hlen, ht⟩ => ?_) fun v H2 e2 h2 => ?_
    · subst hv
      refine (er_lcLn (fun j y H => PairAt H y (far % ts.getD j 0, ts.getD j 0)) (fun j y H1 H2 ⟨t, e, h⟩ kk => ⟨t, e, kk t _ h fun zs z => nomatch z⟩) ev_c (sq_of hp) (by rw [List.length_map]; omega) (fun _ => rfl) fun i x hi => ?_).imp fun v H3 e3 ⟨Dl, ys, hv, hn, hD, hlen2, hys⟩ => ⟨Dl, ys, ts.map fun t => (far % t, t), hv, fresh_back e2 hn, hD, rsl_of (by rw [hlen2, List.length_map, List.length_map]) fun i x hi => ?_, by rw [List.length_map, hlen], fun q hq => ?_⟩
      · obtain ⟨hi', rfl⟩ := iv_get hi
        have hti := ht _ (getD_mem hi')
        exact (eur (eu_tup (ea_cons (ev_op (ev_var rfl) (ev_var rfl) (rv_I (by show 0 < ts.getD i 0; omega))) (ea_cons (ev_var rfl) ea_nil)) (by walk_at "sz"))).imp fun v H2 _ ⟨t, hv, _, h⟩ => ⟨t, hv, h⟩
      · have hlt := (List.getElem?_eq_some_iff.mp hi).1
        rw [hlen2, List.length_map] at hlt
        have this : PairAt H3 x (far % ts.getD i 0, ts.getD i 0) := hys i x hi
        rw [List.getD_eq_getElem?_getD, List.getElem?_map, List.getElem?_eq_getElem hlt]
        rw [List.getD_eq_getElem?_getD, List.getElem?_eq_getElem hlt] at this
        exact this
      · obtain ⟨t, h, rfl⟩ := List.mem_map.mp hq
        have := ht t h
        exact ⟨Int.emod_nonneg _ (by show t ≠ 0; omega), Int.emod_lt_of_pos _ (by show 0 < t; omega), this.2⟩
    obtain ⟨l, xs, rs, rfl, hln, hxs, hrs, hlen, ho⟩ := h2
    have e12 := e1.trans e2
    have hxl := hrs.len
    have drw : ∀ σ H' (j : Nat) (kk m : Int) te tj, σ[0]? = some (some (.ref a)) → Ex H H' → Ev tj σ H' (.int (j : Int)) → Ev te σ H' (.int m) → 0 ≤ kk → 0 < m → EvR (tCall (sp_l_draw K) [] E0 (tCons (tCall (sp_l_cell_at K) [] E0 (tCons (tVar 0) (tCons tj tNil))) (tCons (tC (.int kk)) (tCons te tNil)))) σ H' (fun v _ => ∃ r, v = .int r ∧ 0 ≤ r ∧ r < m) :=
      fun σ H' j kk m te tj hσ e hj hm h0 h1 => er_draw (ev_cell (ev_var hσ) hj (hsc.up e)) ev_c hm h0 h1
    refine q_ifW (φ := (decide (rs.length ≠ 0)) = true) (ew_and (b := decide (rs.length ≠ 0)) (et_test (ev_opR2 (ev_var rfl) (er_new (xs := []) ea_nil (by decide)) fun y H3 e3 ⟨q, hy, _, hq⟩ => ?_)) fun _ => er_test (drw _ _ 1 7 2 _ _ rfl e12 ev_c ev_c (by decide) (by decide)) ev_c fun x H3 _ hx Q q => ?_) (fun hb H3 e3 => ?_) fun H3 e3 => ?_
    · subst hy
      refine rv_neD (dp_rs (e3 _ _ hxs) (hrs.up e3)) (dp_ints (ns := []) (sq_of hq)) (sh_rs rs) (sh_ints []) ?_
      cases rs with
      | nil => rfl
      | cons p rs => rfl
    · obtain ⟨r, rfl, _⟩ := hx
      exact ⟨rfl, q _⟩
    · have hlr : rs.length ≠ 0 := of_decide_eq_true hb
      refine q_asgR (drw _ _ 2 1 (xs.length : Int) _ _ rfl (e12.trans e3) ev_c (ev_lenL (ev_var rfl) (sq_of (e3 _ _ hxs))) (by decide) (by omega)) fun v H4 e4 ⟨at_, hv, a0, a1⟩ => ?_
      subst hv
      have e34 := e3.trans e4
      have ea : at_ = (at_.toNat : Int) := by omega
      generalize at_.toNat = i at ea
      subst ea
      have hi : i < rs.length := by omega
      obtain ⟨t, x1, ht⟩ := hrs.at hi
      have hok := rst_at ho hi
      generalize rs.getD i (0, 1) = p at ht hok
      obtain ⟨r, tn⟩ := p
      obtain ⟨r0, r1, t1⟩ := id hok
      dsimp only at ht r0 r1 t1
      have hit : ∀ H5, Ex H4 H5 → Ev (tOp (rIxL K) (tVar 2) (tVar 3)) [some (.ref a), some (.int far), some (.ref l), some (.int (i : Int)), none, none, none] H5 (.ref t) := fun H5 e5 => ev_op (ev_var rfl) (ev_var rfl) (rv_ixL (sq_of ((e34.trans e5) _ _ hxs)) (atI_nat x1))
      have ht4 := e34 _ _ ht
      refine s_setLR (j := i) (R := fun v H => ∃ z : Int, PairAt H v (z, tn) ∧ RstOk (z, tn)) (e34 _ _ hxs) ((er_tup (T := fun vs _ => ∃ z : Int, vs = [.int z, .int tn] ∧ RstOk (z, tn)) (ear_cons (er_op (R := fun v _ => ∃ z : Int, v = .int z ∧ RstOk (z, tn)) (er_op (R := fun v _ => ∃ z : Int, v = .int z) (evr (ev_p0 (hit _ (Ex.refl _)) ht4)) (fun x H5 e5 _ => drw _ _ 3 2 7 _ _ rfl (e12.trans (e34.trans e5)) ev_c ev_c (by decide) (by decide)) ?_) (fun x H5 e5 _ => evr (ev_p1 (hit _ e5) (e5 _ _ ht4))) ?_) fun x H5 e5 hx => ?_) fun vs H5 h => ?_).imp fun v H5 _ ⟨q, vs, H6, hv, _, _, ⟨z, hvs, hz⟩, hq⟩ => ⟨z, ⟨q, hv, by rw [hq, hvs]⟩, hz⟩) (ev_var rfl) (ev_var rfl) (by rw [hxl]; exact hi) fun v H5 e5 h5 => ?_
      · rintro x y H5 H6 e5 rfl e6 ⟨d, rfl, d0, d1⟩ Q q
        exact ⟨r, d, rfl, rfl, q _ _ (Ex.refl _) ⟨_, rfl⟩⟩
      · rintro x y H5 H6 e5 ⟨z, rfl⟩ e6 rfl Q q
        exact ⟨z, tn, rfl, rfl, by show 0 < tn; omega, q _ _ (Ex.refl _) ⟨_, rfl, Int.emod_nonneg _ (by show tn ≠ 0; omega), Int.emod_lt_of_pos _ (by show 0 < tn; omega), t1⟩⟩
      · obtain ⟨z, rfl, hz⟩ := hx
        exact (ear (ea_cons (ev_p1 (hit _ e5) (e5 _ _ ht4)) ea_nil)).imp fun vs H6 _ hv => ⟨z, by rw [hv], hz⟩
      · obtain ⟨z, rfl, _⟩ := h
        show 2 ≤ 100000
        decide
      · obtain ⟨H0, e0, z, hz, hzo⟩ := h5
        obtain ⟨q, rfl, hq⟩ := hz.up e0
        have e35 := e34.trans e5
        have hl5 := e35 _ _ hxs
        have hqn : q ≠ l := ne_of hq hl5 (by intro z; cases z)
        refine s_ret (ev_var rfl) fun H6 e6 => k _ _ ?_ ⟨l, _, rs.set i (z, tn), rfl, fresh_back e1 hln, e6 _ _ upd_same, (((hrs.up e35).mut _ hl5).set ⟨q, rfl, ?_⟩ i).up e6, by rw [List.length_set, hlen], rst_set ho hzo⟩
        · exact (e1.trans (Ex.mut (e2.trans e35) hln)).trans e6
        · rw [upd_ne hqn]
          exact hq
    · show (fun σ' H' => _) _ _
      exact s_ret (ev_var rfl) fun H4 e4 => k _ _ (e12.trans (e3.trans e4)) ⟨l, xs, rs, rfl, fresh_back e1 hln, (e3.trans e4) _ _ hxs, hrs.up (e3.trans e4), hlen, ho⟩
end
/-! ### what is refused -/
theorem kit_list {K : PySem.W.Frag} {n : String} (h : n ∈ bt) : PySem.W.kitOne K (.type n) (.type "list") = some (n == "list") := by
  simp only [List.mem_cons, List.not_mem_nil, or_false] at h
  rcases h with h | h | h | h | h | h | h <;> subst h <;> exact kit_ty (by decide +kernel)
theorem kit_tuple {K : PySem.W.Frag} {n : String} (h : n ∈ bt) : PySem.W.kitOne K (.type n) (.type "tuple") = some (n == "tuple") := by
  simp only [List.mem_cons, List.not_mem_nil, or_false] at h
  rcases h with h | h | h | h | h | h | h <;> subst h <;> exact kit_ty (by decide +kernel)
/-- a plain thing of another type than n -/
def NotTy (K : PySem.W.Frag) (H : Hp) (v : V) (n : String) : Prop := ∃ m, TyX K H v (.type m) ∧ m ∈ bt ∧ (m == n) = false
theorem NotTy.up {K : PySem.W.Frag} {H H' : Hp} {v : V} {n : String} (e : Ex H H') (h : NotTy K H v n) : NotTy K H' v n := by
  obtain ⟨m, h1, h2⟩ := h
  exact ⟨m, tyx_up e h1, h2⟩
/-- no list, or one of which some do not hold f -/
def BadL (K : PySem.W.Frag) (f : V → Bool) (v : V) (H : Hp) : Prop := NotTy K H v "list" ∨ ∃ a xs, v = .ref a ∧ H a = some (.lst xs) ∧ xs.length ≤ 10000 ∧ (∀ x ∈ xs, PlainV K H x) ∧ xs.all f = false
theorem upBadL {K : PySem.W.Frag} {f : V → Bool} : UpH (BadL K f) := fun v H H' e h => by
  rcases h with h | ⟨a, xs, h1, h2, h3, h4, h5⟩
  · exact .inl (h.up e)
  · exact .inr ⟨a, xs, h1, e _ _ h2, h3, fun x hx => (h4 x hx).up e, h5⟩
/-- a pair that is a rest, or not -/
def restF : V → V → Bool
  | .int r, .int t => (decide (1 ≤ t) && decide (t ≤ 1000000)) && (decide (0 ≤ r) && decide (r < t))
  | _, _ => false
def RestB (K : PySem.W.Frag) (H : Hp) (x : V) (b : Bool) : Prop := (NotTy K H x "tuple" ∧ b = false) ∨ (∃ t xs, x = .ref t ∧ H t = some (.tup xs) ∧ xs.length ≠ 2 ∧ b = false) ∨ ∃ t p q, x = .ref t ∧ H t = some (.tup [p, q]) ∧ PlainV K H p ∧ PlainV K H q ∧ b = restF p q
theorem RestB.up {K : PySem.W.Frag} {H H' : Hp} {x : V} {b : Bool} (e : Ex H H') (h : RestB K H x b) : RestB K H' x b := by
  rcases h with ⟨h1, h2⟩ | ⟨t, xs, h1, h2, h3⟩ | ⟨t, p, q, h1, h2, h3, h4, h5⟩
  · exact .inl ⟨h1.up e, h2⟩
  · exact .inr (.inl ⟨t, xs, h1, e _ _ h2, h3⟩)
  · exact .inr (.inr ⟨t, p, q, h1, e _ _ h2, h3.up e, h4.up e, h5⟩)
def RBs (K : PySem.W.Frag) (H : Hp) : List V → List Bool → Prop
  | [], [] => True
  | x :: xs, b :: bs => RestB K H x b ∧ RBs K H xs bs
  | _, _ => False
section
variable {K : PySem.W.Frag} {H H' : Hp}
theorem RBs.up (e : Ex H H') : ∀ {xs : List V} {bs : List Bool}, RBs K H xs bs → RBs K H' xs bs
  | [], [], h => h
  | _ :: _, _ :: _, h => ⟨h.1.up e, RBs.up e h.2⟩
  | [], _ :: _, h => h
  | _ :: _, [], h => h
theorem RBs.len : ∀ {xs : List V} {bs : List Bool}, RBs K H xs bs → xs.length = bs.length
  | [], [], _ => rfl
  | _ :: _, _ :: _, h => congrArg (· + 1) (RBs.len h.2)
  | [], _ :: _, h => h.elim
  | _ :: _, [], h => h.elim
theorem RBs.get : ∀ {xs : List V} {bs : List Bool} {i : Nat} {x : V}, RBs K H xs bs → xs[i]? = some x → RestB K H x (bs.getD i false)
  | [], [], _, _, _, e => by simp at e
  | _ :: _, _ :: _, 0, _, h, e => by
    cases e
    exact h.1
  | _ :: xs, b :: bs, i + 1, x, h, e => by
    have := RBs.get (xs := xs) (bs := bs) (i := i) (x := x) h.2 e
    simpa using this
  | [], _ :: _, _, _, h, _ => h.elim
  | _ :: _, [], _, _, h, _ => h.elim
theorem RBs.append : ∀ {xs ys : List V} {bs cs : List Bool}, RBs K H xs bs → RBs K H ys cs → RBs K H (xs ++ ys) (bs ++ cs)
  | [], _, [], _, _, h => h
  | _ :: _, _, _ :: _, _, h, k => ⟨h.1, RBs.append h.2 k⟩
  | [], _, _ :: _, _, h, _ => h.elim
  | _ :: _, _, [], _, h, _ => h.elim
theorem restF_ok {p : Int × Int} (h : RstOk p) : restF (.int p.1) (.int p.2) = true := by
  obtain ⟨h0, h1, h2⟩ := h
  simp only [restF, decide_eq_true h0, decide_eq_true h1, decide_eq_true h2, decide_eq_true (show 1 ≤ p.2 by omega), Bool.and_self]
theorem rbs_of : ∀ {xs : List V} {rs : List (Int × Int)}, RsL H xs rs → (∀ p ∈ rs, RstOk p) → RBs K H xs (rs.map fun _ => true)
  | [], [], _, _ => trivial
  | _ :: _, p :: _, h, ho => ⟨.inr (.inr ⟨h.1.choose, _, _, h.1.choose_spec.1, h.1.choose_spec.2, plain_int, plain_int, (restF_ok (ho p List.mem_cons_self)).symm⟩), rbs_of h.2 fun q hq => ho q (List.mem_cons_of_mem _ hq)⟩
  | [], _ :: _, h, _ => h.elim
  | _ :: _, [], h, _ => h.elim
end
def BadRs (K : PySem.W.Frag) (v : V) (H : Hp) : Prop := NotTy K H v "list" ∨ ∃ a xs bs, v = .ref a ∧ H a = some (.lst xs) ∧ xs.length ≤ 10000 ∧ RBs K H xs bs ∧ bs.all id = false
theorem upBadRs {K : PySem.W.Frag} : UpH (BadRs K) := fun v H H' e h => by
  rcases h with h | ⟨a, xs, bs, h1, h2, h3, h4, h5⟩
  · exact .inl (h.up e)
  · exact .inr ⟨a, xs, bs, h1, e _ _ h2, h3, h4.up e, h5⟩
def Bad1 (K : PySem.W.Frag) (f : V → Bool) (v : V) (H : Hp) : Prop := PlainV K H v ∧ f v = false
theorem upBad1 {K : PySem.W.Frag} {f : V → Bool} : UpH (Bad1 K f) := fun v H H' e h => ⟨h.1.up e, h.2⟩
def inR (t : Int) : V → Bool
  | .int r => decide (0 ≤ r) && decide (r < t)
  | _ => false
abbrev spF (K : PySem.W.Frag) (f : V → Bool) : Sp := spX (fun (d : V) vs H => vs = [d] ∧ PlainV K H d) (fun d _ v _ => v = .bl (f d))
section
variable {K : PySem.W.Frag} {H : Hp} {σ : L2.St} {i j : Nat} {v : V}
theorem ev_allF {f : V → Bool} {a : Addr} {xs : List V} (hv : σ[i]? = some (some (.ref a))) (ha : H a = some (.lst xs)) (hl : xs.length ≤ 10000) (hp : ∀ x ∈ xs, PlainV K H x) (hw : ∀ x, wipe ((wipe σ [j]).set j (some x)) [j] = wipe σ [j]) (hj : ∀ x, ((wipe σ [j]).set j (some x))[j]? = some (some x)) :
    Ev (tCB (rAll K) (tCons (tLc (iList K (tVar i)) (gName j) tYes (tCall (spF K f) [] E0 (tCons (tVar j) tNil)) [j]) tNil)) σ H (.bl (xs.all f)) := by
  refine ev_is (ev_allR (bs := (List.range xs.length).map fun k => f (xs.getD k .non)) (er_lcLn (fun k y _ => y = .bl (f (xs.getD k .non))) stb_val (ev_var hv) (sq_of ha) (by omega) hw fun k x hk => ?_) fun v H1 _ h => ?_) ?_
  · have hx : xs.getD k .non = x := by rw [List.getD_eq_getElem?_getD, hk]; rfl
    rw [hx]
    exact evr (ev_call0 x (ea_cons (ev_var (hj x)) ea_nil) (fun H1 e => ⟨rfl, (hp x (List.mem_of_getElem? hk)).up e⟩) fun _ _ _ p => p)
  · have h2 := LcR.sq (K := K) h
    rw [List.map_map]
    exact h2
  · rw [range_items f .non xs, List.all_map]
    rfl
theorem et_badL {f : V → Bool} (hv : σ[i]? = some (some v)) (hB : BadL K f v H) (hw : ∀ x, wipe ((wipe σ [j]).set j (some x)) [j] = wipe σ [j]) (hj : ∀ x, ((wipe σ [j]).set j (some x))[j]? = some (some x)) :
    EvT (tOr (tNot (tB (tCB (rIsi K) (tCons (tVar i) (tCons (tC (.ty "list")) tNil))))) (tNot (tB (tCB (rAll K) (tCons (tLc (iList K (tVar i)) (gName j) tYes (tCall (spF K f) [] E0 (tCons (tVar j) tNil)) [j]) tNil))))) σ H true := by
  rcases hB with ⟨m, h1, h2, h3⟩ | ⟨a, xs, rfl, ha, hl, hp, hf⟩
  · exact et_is (et_or (et_not (et_B (ev_isi (b := false) (ev_var hv) ev_c (.ty _) h1 (by rw [kit_list h2, h3])))) (b := true) fun z => nomatch z) rfl
  · exact et_is (et_or (et_not (et_B (ev_isi (ev_var hv) ev_c (.ty _) (.base (.lst ha)) kit_ll))) fun _ => et_not (et_B (ev_is (ev_allF hv ha hl hp hw hj) (by rw [hf])))) rfl
theorem et_okL {f : V → Bool} {a : Addr} {xs : List V} (hv : σ[i]? = some (some (.ref a))) (ha : H a = some (.lst xs)) (hl : xs.length ≤ 10000) (hp : ∀ x ∈ xs, PlainV K H x) (hf : xs.all f = true) (hw : ∀ x, wipe ((wipe σ [j]).set j (some x)) [j] = wipe σ [j]) (hj : ∀ x, ((wipe σ [j]).set j (some x))[j]? = some (some x)) :
    EvT (tOr (tNot (tB (tCB (rIsi K) (tCons (tVar i) (tCons (tC (.ty "list")) tNil))))) (tNot (tB (tCB (rAll K) (tCons (tLc (iList K (tVar i)) (gName j) tYes (tCall (spF K f) [] E0 (tCons (tVar j) tNil)) [j]) tNil))))) σ H false :=
  et_is (et_or (et_not (et_B (ev_isi (ev_var hv) ev_c (.ty _) (.base (.lst ha)) kit_ll))) fun _ => et_not (et_B (ev_is (ev_allF hv ha hl hp hw hj) (by rw [hf])))) rfl
end
/-! ### rests refused or not; rests written -/
theorem upBads {K : PySem.W.Frag} {H H' : Hp} {xs : List V} {bs : List Bool} (e : Ex H H') (h : RBs K H xs bs) : RBs K H' xs bs := h.up e
def rOk (p : Int × Int) : Bool := restF (.int p.1) (.int p.2)
theorem rOk_iff {p : Int × Int} : rOk p = true ↔ RstOk p := by
  unfold rOk restF RstOk
  simp only [Bool.and_eq_true, decide_eq_true_eq]
  omega
theorem rbs_any {K : PySem.W.Frag} {H : Hp} : ∀ {xs : List V} {rs : List (Int × Int)}, RsL H xs rs → RBs K H xs (rs.map rOk)
  | [], [], _ => trivial
  | _ :: _, p :: _, h => ⟨.inr (.inr ⟨h.1.choose, _, _, h.1.choose_spec.1, h.1.choose_spec.2, plain_int, plain_int, rfl⟩), rbs_any h.2⟩
  | [], _ :: _, h => h.elim
  | _ :: _, [], h => h.elim
def spx_is_rest (K : PySem.W.Frag) : Sp := spX (fun (d : V × Bool) vs H => vs = [d.1] ∧ RestB K H d.1 d.2) (fun d _ v _ => v = .bl d.2)
/-- a list of pairs of numbers -/
def spx_check_rests (_ : PySem.W.Frag) (A : Ad) : Sp := spO (spX (fun (d : V × List (Int × Int)) vs H => vs = [d.1] ∧ RsAt H d.1 d.2 ∧ d.2.length ≤ 10000 ∧ d.2.all rOk = true) (fun _ _ v _ => v = .non)) (spZ (fun (d : V × List (Int × Int)) vs H => vs = [d.1] ∧ RsAt H d.1 d.2 ∧ d.2.length ≤ 10000 ∧ d.2.all rOk = false) A.c_BadRests)
section
variable {K : PySem.W.Frag} {H : Hp} {σ : L2.St} {ta tb te : TE} {a b : List Nat}
theorem rv_addT (h : a.length + b.length ≤ 100000) : RV (fun x y H Q => ∃ i j, x = V.str i ∧ y = V.str j ∧ i.length + j.length ≤ sizeLine ∧ Q (.str (i ++ j)) H) (stx a) (stx b) H (stx (a ++ b)) := fun H1 _ _ q => ⟨SX.S a, SX.S b, rfl, rfl, sz_of (by rw [SX.S_len, SX.S_len]; exact h), by rw [SX.S_cat]; exact q H1 (Ex.refl H1)⟩
theorem rc_strI {i : Int} (h0 : 0 ≤ i) (h1 : i ≤ 1000000) : RC (fun xs H Q => ∃ i, xs = [V.int i] ∧ i.natAbs.log2 < 1920 ∧ Q (.str (toString i)) H) [.int i] H (stx (TL.numL i.toNat)) := fun H1 _ _ q => by
  refine ⟨i, rfl, ?_, ?_⟩
  · by_cases hz : i.natAbs = 0
    · rw [hz]
      decide
    · refine (Nat.log2_lt hz).mpr (Nat.lt_of_lt_of_le (m := 2 ^ 20) ?_ (Nat.pow_le_pow_right (by decide) (by decide)))
      have : (2 : Nat) ^ 20 = 1048576 := by decide
      omega
  · have e : (toString i : String) = toString ((i.toNat : Nat) : Int) := by rw [Int.toNat_of_nonneg h0]
    rw [e]
    have := q H1 (Ex.refl H1)
    unfold stx at this
    rw [← SX.num_S] at this
    exact this
theorem ev_cs {c : Str} (h : c = SX.S a) : Ev (tC (.str c)) σ H (stx a) := by
  subst h
  exact ev_c
theorem colon_is : (":" : Str) = SX.S [58] := by decide +kernel
theorem blank_is : (" " : Str) = SX.S [32] := by decide +kernel
theorem dash_is : ("-" : Str) = SX.S [45] := by decide +kernel
theorem numL7 {i : Int} (h1 : i ≤ 1000000) : (TL.numL i.toNat).length ≤ 7 := TL.numL_len (by decide) (by omega)
theorem wrW_len {p : Int × Int} (h : RstOk p) : (wrW p).length ≤ 15 := by
  unfold wrW
  rw [List.length_append, List.length_cons]
  have h1 := numL7 (i := p.1) (by have := h.2; omega)
  have h2 := numL7 (i := p.2) h.2.2
  omega
theorem joinL_len : ∀ (l : List (List Nat)), (TL.joinL [32] l).length ≤ (l.map (·.length)).sum + l.length
  | [] => by simp [TL.joinL]
  | [p] => by simp [TL.joinL]
  | p :: q :: r => by
    show (p ++ ([32] ++ TL.joinL [32] (q :: r))).length ≤ _
    have := joinL_len (q :: r)
    simp only [List.length_append, List.map_cons, List.sum_cons, List.length_cons, List.length_nil] at this ⊢
    omega
theorem sum15 {rs : List (Int × Int)} (h : ∀ p ∈ rs, RstOk p) : ((rs.map wrW).map (·.length)).sum ≤ 15 * rs.length := by
  induction rs with
  | nil => simp
  | cons p r ih =>
    have h1 := wrW_len (h p List.mem_cons_self)
    have h2 := ih fun q hq => h q (List.mem_cons_of_mem _ hq)
    simp only [List.map_cons, List.sum_cons, List.length_cons]
    omega
theorem wr_len {rs : List (Int × Int)} (h : ∀ p ∈ rs, RstOk p) : (wr rs).length ≤ 16 * rs.length + 1 := by
  unfold wr
  split
  · show 1 ≤ _
    omega
  · have h1 := joinL_len (rs.map wrW)
    have h2 := sum15 h
    rw [List.length_map] at h1
    omega
/-- str(rest) + ":" + str(turn) -/
theorem ev_word {P Q : TA} {c : Str} {p : Int × Int} (hp : RstOk p) (h1 : EvA P σ H [.int p.1]) (h2 : EvA Q σ H [.int p.2]) (hc : c = SX.S [58]) :
    Ev (tOp (fun x y H Q => ∃ i j, x = V.str i ∧ y = V.str j ∧ i.length + j.length ≤ sizeLine ∧ Q (.str (i ++ j)) H) (tOp (fun x y H Q => ∃ i j, x = V.str i ∧ y = V.str j ∧ i.length + j.length ≤ sizeLine ∧ Q (.str (i ++ j)) H) (tCB (fun xs H Q => ∃ i, xs = [V.int i] ∧ i.natAbs.log2 < 1920 ∧ Q (.str (toString i)) H) P) (tC (.str c))) (tCB (fun xs H Q => ∃ i, xs = [V.int i] ∧ i.natAbs.log2 < 1920 ∧ Q (.str (toString i)) H) Q)) σ H (stx (wrW p)) := by
  have l1 := numL7 (i := p.1) (by have := hp.2; omega)
  have l2 := numL7 (i := p.2) hp.2.2
  refine ev_is (ev_op (ev_op (ev_cb h1 (rc_strI hp.1 (by have := hp.2; omega))) (ev_cs hc) (rv_addT (by rw [show ([58] : List Nat).length = 1 from rfl]; omega))) (ev_cb h2 (rc_strI (by have := hp.1; have := hp.2.1; omega) hp.2.2)) (rv_addT ?_)) ?_
  · rw [List.length_append, show ([58] : List Nat).length = 1 from rfl]
    omega
  · unfold wrW
    rw [List.append_assoc]
    rfl
abbrev rJoin (K : PySem.W.Frag) : V → List V → Hp → VK → Prop := fun x xs H Q => ∃ a p, ∃ ys : List Str, x = .str a ∧ xs = [.ref p] ∧ (SqL K H p (ys.map V.str) ∨ SqT K H p (ys.map V.str)) ∧ (ys.map (·.length)).sum + ys.length * a.length ≤ 16777216 ∧ Q (.str (Txt.join a ys)) H
/-- " ".join(of the words) -/
theorem ev_join {c : Str} {ws : List (List Nat)} {H0 : Hp} (hc : c = SX.S [32]) (h : EvR te σ H (NewL (ws.map stx) H0)) (hl : (ws.map (·.length)).sum + ws.length ≤ 1000000) : Ev (tM1 (rJoin K) (tC (.str c)) te) σ H (stx (TL.joinL [32] ws)) := fun H1 e Q q => by
  subst hc
  refine ⟨⟨_, rfl⟩, h H1 e _ fun v H2 e2 ⟨p, hv, _, hp⟩ => ⟨SX.S [32], p, ws.map SX.S, rfl, by rw [hv], .inl (sq_of (by rw [List.map_map]; exact hp)), ?_, ?_⟩⟩
  · rw [SX.lens, List.length_map, SX.S_len]
    show _ + ws.length * 1 ≤ _
    omega
  · rw [SX.join_S]
    exact q H2 e2
end
def sp_written (_ : PySem.W.Frag) : Sp := spX (fun (d : V × List (Int × Int)) vs H => vs = [d.1] ∧ RsAt H d.1 d.2 ∧ d.2.length ≤ 10000 ∧ ∀ p ∈ d.2, RstOk p) (fun d _ v _ => v = stx (wr d.2))
section
variable {P : Program} {w : World} {K : PySem.W.Frag} {mg : Str → Option Value} {base : Heap} {A : Ad}
theorem okx_is_rest (T : Txt K mg A) : Okk P w K mg base 3 A.a_is_rest ["pair"] (spx_is_rest K) := by
  obtain ⟨_, G_is_turn, b_is_turn, k_is_turn⟩ := ok_is_turn (P := P) (w := w) (base := base) T
  obtain ⟨_, G_is_whole, b_is_whole, k_is_whole⟩ := ok_is_whole (P := P) (w := w) (base := base) T
  refine okk T.F_is_rest sc_is_rest (fun vs H Q E h => ?_) (fun cdv Ar outer s H vs Q E hr h => ?_)
  · obtain ⟨d, ⟨rfl, _⟩, _⟩ := h
    rfl
  · obtain ⟨⟨x, b⟩, ⟨rfl, hx⟩, k⟩ := h
    dsimp only at hx
    have hr_is_turn : Room 2 _ := hr.mono (by decide)
    have hr_is_whole : Room 1 _ := hr.mono (by decide)
    refine ⟨_, (pss_cons (ps_if (PW.pt (pw_or (pt_not (pt_val (pe_callB (isiK K) (by rfl) T.z_isinstance (by decide +kernel) (pa_cons (pv 0) (pa_cons (pe_bltn (v := .ty "tuple") (by rfl) T.z_tuple (by decide +kernel) rfl) pa_nil))))) (pw_or1 (pt_cmpR op_ne (pe_callB (len_seqK K) (by rfl) T.z_len (by decide +kernel) (pa_cons (pv 0) pa_nil)) pe_int (nomark _))))) (pss_one (ps_ret pe_bl)) pss_nil)
      (pss_one (ps_ret (pe_and (pe_call G_is_turn hr_is_turn (by rfl) T.g_is_turn k_is_turn b_is_turn .nil pass0 (pa_cons (pe_ix (ix_tupK K) (pv 0) pe_int (fun _ _ => rfl)) pa_nil)) (pe_and (pe_call G_is_whole hr_is_whole (by rfl) T.g_is_whole k_is_whole b_is_whole .nil pass0 (pa_cons (pe_ix (ix_tupK K) (pv 0) pe_int (fun _ _ => rfl)) pa_nil)) (pe_one (pe_chain op_le op_lt pe_int (pe_ix (ix_tupK K) (pv 0) pe_int (fun _ _ => rfl)) (pe_ix (ix_tupK K) (pv 0) pe_int (fun _ _ => rfl))))))))), ?_⟩
    rcases hx with ⟨⟨m, h1, h2, h3⟩, rfl⟩ | ⟨t, xs, rfl, ht, hne, rfl⟩ | ⟨t, p, q, rfl, ht, hp, hq, rfl⟩
    · refine q_when (b := true) (et_is (et_or (b := true) (et_not (et_B (ev_isi (b := false) (ev_var rfl) ev_c (.ty _) h1 (by rw [kit_tuple h2, h3])))) fun z => nomatch z) rfl) (fun _ H1 e1 => ?_) fun z => nomatch z
      exact s_ret ev_c fun H2 e2 => k _ _ (e1.trans e2) rfl
    · refine q_when (b := true) (et_is (et_or (et_not (et_B (ev_isi (ev_var rfl) ev_c (.ty _) (.base (.tup ht)) kit_tt))) fun _ => et_test (ev_op (show Ev (tCB (rLenQ K) (tCons (tVar 0) tNil)) _ _ (.int (xs.length : Int)) from fun H1 e Q q => ⟨_, rfl, t, _, rfl, .inr (ex_t e (st_of ht)), q H1 (Ex.refl _)⟩) ev_c rv_neI)) ?_) (fun _ H1 e1 => ?_) fun z => nomatch z
      · rw [decide_eq_false (show ¬ (xs.length : Int) = 2 by omega)]
        rfl
      · exact s_ret ev_c fun H2 e2 => k _ _ (e1.trans e2) rfl
    · refine q_when (b := false) ?_ (fun z => nomatch z) fun _ H1 e1 => ?_
      · exact et_is (et_or (et_not (et_B (ev_isi (ev_var rfl) ev_c (.ty _) (.base (.tup ht)) kit_tt))) fun _ => et_test (ev_op (show Ev (tCB (rLenQ K) (tCons (tVar 0) tNil)) _ _ (.int 2) from fun H1 e Q q => ⟨_, rfl, t, _, rfl, .inr (ex_t e (st_of ht)), q H1 (Ex.refl _)⟩) ev_c rv_neI)) rfl
      · have ht1 := e1 _ _ ht
        have c1 : Ev (tCall (sp_is_turn K) [] E0 (tCons (tOp (rIxT K) (tVar 0) (tC (.int 1))) tNil)) [some (.ref t)] H1 (.bl (isTurn q)) := ev_call0 q (ea_cons (ev_p1 (ev_var rfl) ht1) ea_nil) (fun H1 e => ⟨rfl, hq.up (e1.trans e)⟩) fun _ _ _ p => p
        have c2 : Ev (tCall (sp_is_whole K) [] E0 (tCons (tOp (rIxT K) (tVar 0) (tC (.int 0))) tNil)) [some (.ref t)] H1 (.bl (isI p)) := ev_call0 p (ea_cons (ev_p0 (ev_var rfl) ht1) ea_nil) (fun H1 e => ⟨rfl, hp.up (e1.trans e)⟩) fun _ _ _ p => p
        refine s_ret (v := .bl (restF p q)) ?_ fun H2 e2 => k _ _ (e1.trans e2) rfl
        cases q with
        | int u =>
          cases p with
          | int r =>
            refine ev_is (ev_andV (b := decide (0 ≤ r) && decide (r < u)) c1 fun _ => ev_andV (a := true) c2 fun _ => ev_chain ev_c (ev_p0 (ev_var rfl) ht1) rv_I0 (fun _ => ev_p1 (ev_var rfl) ht1) fun _ => rv_I0) rfl
          | _ => exact ev_is (ev_andV (b := false) c1 fun _ => ev_andV (a := false) (b := false) c2 fun z => nomatch z) (congrArg V.bl (Bool.and_false _))
        | _ =>
          refine ev_is (ev_andV (a := false) (b := false) c1 fun z => nomatch z) ?_
          cases p <;> rfl
theorem okx_check_rests (T : Txt K mg A) : OkkX P w K mg base 4 A.a_check_rests ["rests"] (spx_check_rests K A) := by
  obtain ⟨_, G_is_rest, b_is_rest, k_is_rest⟩ := okx_is_rest (P := P) (w := w) (base := base) T
  refine okkx T.F_check_rests sc_check_rests (fun vs H Q E h => ?_) (fun cdv Ar outer s H vs Q E hr h => ?_)
  · rcases h with ⟨d, ⟨rfl, _⟩, _⟩ | ⟨d, ⟨rfl, _⟩, _⟩ <;> rfl
  · have hr_is_rest : Room 3 _ := hr.mono (by decide)
    have key : ∀ {a : Addr} {xs : List V} {rs : List (Int × Int)}, H a = some (.lst xs) → RsL H xs rs → rs.length ≤ 10000 → EvT (tOr (tNot (tB (tCB (rIsi K) (tCons (tVar 0) (tCons (tC (.ty "list")) tNil))))) (tNot (tB (tCB (rAll K) (tCons (tLc (iList K (tVar 0)) (gName 1) tYes (tCall (spx_is_rest K) [] E0 (tCons (tVar 1) tNil)) [1]) tNil))))) [some (.ref a), none] H (!rs.all rOk) := fun {a xs rs} ha hR hl => by
      have hB := rbs_any (K := K) hR
      have hxl := hR.len
      refine et_is (et_or (et_not (et_B (ev_isi (ev_var rfl) ev_c (.ty _) (.base (.lst ha)) kit_ll))) fun _ => et_not (et_B (ev_is (ev_allR (bs := (List.range xs.length).map fun k => (rs.map rOk).getD k false) (er_lcLn (fun k y _ => y = .bl ((rs.map rOk).getD k false)) stb_val (ev_var rfl) (sq_of ha) (by omega) (fun _ => rfl) fun i x hi => ?_) fun v H1 _ h => ?_) (w := .bl (rs.all rOk)) ?_))) (Bool.false_or _)
      · exact evr (ev_call0 (x, (rs.map rOk).getD i false) (ea_cons (ev_var rfl) ea_nil) (fun H1 e => ⟨rfl, (hB.get hi).up e⟩) fun _ _ _ p => p)
      · have h2 := LcR.sq (K := K) h
        rw [List.map_map]
        exact h2
      · rw [hB.len, show (List.range (rs.map rOk).length).map (fun k => (rs.map rOk).getD k false) = rs.map rOk from (range_items id false _).trans (List.map_id _), List.all_map]
        rfl
    rcases h with ⟨⟨v, rs⟩, ⟨rfl, ⟨a, xs, rfl, ha, hR⟩, hl, hok⟩, k⟩ | ⟨⟨v, rs⟩, ⟨rfl, ⟨a, xs, rfl, ha, hR⟩, hl, hok⟩, k⟩
    · refine ⟨_, (pss_one (ps_if (PW.pt (pw_or (pt_not (pt_val (pe_callB (isiK K) (by rfl) T.z_isinstance (by decide +kernel) (pa_cons (pv 0) (pa_cons (pe_bltn (v := .ty "list") (by rfl) T.z_list (by decide +kernel) rfl) pa_nil))))) (pw_or1 (pt_not (pt_val (pe_callB (allK K rfl) (by rfl) T.z_all (by decide +kernel) (pa_cons (pe_lc (own := [("pair", 1)]) rfl sc_check_rests.nd (pi_listK K (pv 0)) (blkOk_by (N := ["rests", "pair"]) (sc := defScope s_check_rests) (by decide +kernel)) (fun _ _ _ _ _ => (pg_name (i := 1) sc_check_rests.nd rfl (Or.inl rfl))) (fun _ _ _ _ _ => pts_nil) (fun _ _ _ _ _ => (pe_call G_is_rest hr_is_rest (by rfl) T.g_is_rest k_is_rest b_is_rest .nil pass0 (pa_cons (pv 1) pa_nil)))) pa_nil))))))) (pss_one (L2N.ps_raise rfl (L2N.takes_of rfl rfl rfl rfl) (L2N.pmk_own PySem.F.excBase_ValueError T.ex_BadRests T.g_BadRests T.ke_BadRests (raises_own T.sb_BadRests T.ty_BadRests) (by rfl)))) pss_nil)), ?_⟩
      exact s_when (b := false) (et_is (key ha hR hl) (by rw [hok]; rfl)) (fun z => nomatch z) fun _ H1 e1 => k _ _ e1 rfl
    · refine ⟨_, (pss_one (ps_if (PW.pt (pw_or (pt_not (pt_val (pe_callB (isiK K) (by rfl) T.z_isinstance (by decide +kernel) (pa_cons (pv 0) (pa_cons (pe_bltn (v := .ty "list") (by rfl) T.z_list (by decide +kernel) rfl) pa_nil))))) (pw_or1 (pt_not (pt_val (pe_callB (allK K rfl) (by rfl) T.z_all (by decide +kernel) (pa_cons (pe_lc (own := [("pair", 1)]) rfl sc_check_rests.nd (pi_listK K (pv 0)) (blkOk_by (N := ["rests", "pair"]) (sc := defScope s_check_rests) (by decide +kernel)) (fun _ _ _ _ _ => (pg_name (i := 1) sc_check_rests.nd rfl (Or.inl rfl))) (fun _ _ _ _ _ => pts_nil) (fun _ _ _ _ _ => (pe_call G_is_rest hr_is_rest (by rfl) T.g_is_rest k_is_rest b_is_rest .nil pass0 (pa_cons (pv 1) pa_nil)))) pa_nil))))))) (pss_one (L2N.ps_raise rfl (L2N.takes_of rfl rfl rfl rfl) (L2N.pmk_own PySem.F.excBase_ValueError T.ex_BadRests T.g_BadRests T.ke_BadRests (raises_own T.sb_BadRests T.ty_BadRests) (by rfl)))) pss_nil)), ?_⟩
      exact s_when (b := true) (et_is (key ha hR hl) (by rw [hok]; rfl)) (fun _ H1 e1 => k _ e1) fun z => nomatch z
theorem ok_written (T : Txt K mg A) : Okk P w K mg base 5 A.a_written ["rests"] (sp_written K) := by
  obtain ⟨_, G_check_rests, b_check_rests, k_check_rests⟩ := okx_check_rests (P := P) (w := w) (base := base) T
  refine okk T.F_written sc_written (fun vs H Q E h => ?_) (fun cdv Ar outer s H vs Q E hr h => ?_)
  · obtain ⟨d, ⟨rfl, _⟩, _⟩ := h
    rfl
  · have hr_check_rests : Room 4 _ := hr.mono (by decide)
    obtain ⟨⟨v, rs⟩, ⟨rfl, hv, hl, ho⟩, k⟩ := h
    dsimp only at hv hl ho
    refine ⟨_, (pss_cons (ps_expr (pe_call G_check_rests hr_check_rests (by rfl) T.g_check_rests k_check_rests b_check_rests .nil passX0 (pa_cons (pv 0) pa_nil)))
      (pss_cons (ps_if (pt_cmpR op_eq (pe_callB (len_seqK K) (by rfl) T.z_len (by decide +kernel) (pa_cons (pv 0) pa_nil)) pe_int (nomark _)) (pss_one (ps_ret pe_str)) pss_nil)
      (pss_one (ps_ret (pe_join pe_str (pe_lc (own := [("rest", 1), ("turn", 2)]) rfl sc_written.nd (pi_listK K (pv 0)) (blkOk_by (N := ["rests", "rest", "turn"]) (sc := defScope s_written) (by decide +kernel)) (fun _ _ _ _ _ => (pg_tupK (n := 2) K rfl (pgs_cons (pg_name (i := 1) sc_written.nd rfl (Or.inl rfl)) (pgs_cons (pg_name (i := 2) sc_written.nd rfl (Or.inl rfl)) pgs_nil)))) (fun _ _ _ _ _ => pts_nil) (fun _ _ _ _ _ => (pe_op op_add_str (pe_op op_add_str (pe_callTy call_str_int (by rfl) T.z_str (by decide +kernel) (pa_cons (pv 1) pa_nil)) pe_str) (pe_callTy call_str_int (by rfl) T.z_str (by decide +kernel) (pa_cons (pv 2) pa_nil)))))))))), ?_⟩
    refine q_drop (v := .non) (fun H1 e Q q => (ea_cons (ev_var rfl) ea_nil : EvA (tCons (tVar 0) tNil) [some v, none, none] H1 [v]) H1 (Ex.refl _) _ fun H2 e2 => .inl ⟨(v, rs), ⟨rfl, hv.up (e.trans e2), hl, List.all_eq_true.mpr fun p hp => rOk_iff.mpr (ho p hp)⟩, fun v H3 e3 hv => by rw [hv]; exact q H3 (e2.trans e3)⟩) fun H1 e1 => ?_
    obtain ⟨a, xs, rfl, ha, hR⟩ := hv.up e1
    have hxl := hR.len
    refine q_when (et_test (ev_op (ev_lenL (ev_var rfl) (sq_of ha)) ev_c rv_eqI)) (fun hb H2 e2 => ?_) fun hb H2 e2 => ?_
    · refine s_ret (ev_cs dash_is) fun H3 e3 => k _ _ (e1.trans (e2.trans e3)) ?_
      have hz : rs = [] := List.eq_nil_of_length_eq_zero (by have := of_decide_eq_true hb; omega)
      show stx [45] = stx (wr rs)
      rw [hz]
      rfl
    · have hz : rs ≠ [] := fun z => by
        have := of_decide_eq_false hb
        rw [z] at hxl
        rw [hxl] at this
        exact this rfl
      have h15 := sum15 ho
      refine s_ret (ev_join (ws := rs.map wrW) (H0 := H2) blank_is ?_ (by rw [List.length_map]; omega)) fun H3 e3 => k _ _ (e1.trans (e2.trans e3)) ?_
      · rw [List.map_map]
        exact er_lcRsV (fun p => stx (wrW p)) (ev_var rfl) (e2 _ _ ha) (hR.up e2) (by omega) (fun _ _ => rfl) fun p hp => ev_word (ho p hp) (ea_cons (ev_var rfl) ea_nil) (ea_cons (ev_var rfl) ea_nil) colon_is
      · show stx _ = stx (wr rs)
        unfold wr
        rw [if_neg hz]
end
/-! ### a text cut in words, a word in two; what a text writes, by the law -/
theorem spl_count (c : Nat) : ∀ l acc : List Nat, (TL.spl [c] 0 acc l).length ≤ l.length + 1
  | [], acc => by
    rw [TL.spl_nil]
    exact Nat.le_refl _
  | d :: l, acc => by
    by_cases hd : d = c
    · subst hd
      rw [TL.spl_hit (by simp [TL.pre])]
      exact Nat.succ_le_succ (spl_count d l [])
    · rw [TL.spl_miss (by simp [TL.pre, hd])]
      exact Nat.le_succ_of_le (spl_count c l _)
theorem spl_each (c : Nat) : ∀ l acc : List Nat, ∀ w ∈ TL.spl [c] 0 acc l, w.length ≤ acc.length + l.length
  | [], acc, w, h => by
    rw [TL.spl_nil, List.mem_singleton] at h
    rw [h]
    exact Nat.le_add_right _ _
  | d :: l, acc, w, h => by
    by_cases hd : d = c
    · subst hd
      rw [TL.spl_hit (by simp [TL.pre])] at h
      rcases List.mem_cons.mp h with h | h
      · rw [h]
        exact Nat.le_add_right _ _
      · have : w.length ≤ ([] : List Nat).length + l.length := spl_each d l [] w h
        rw [List.length_cons]
        simp only [List.length_nil] at this
        omega
    · rw [TL.spl_miss (by simp [TL.pre, hd])] at h
      have := spl_each c l _ w h
      rw [List.length_append] at this
      simp only [List.length_cons, List.length_nil] at this ⊢
      omega
theorem words_count (t : List Nat) : (words t).length ≤ t.length + 1 := spl_count 32 t []
theorem words_each {t w : List Nat} (h : w ∈ words t) : w.length ≤ t.length := by
  have := spl_each 32 t [] w h
  simpa using this
theorem pw_len (w : List Nat) : (pw w).1.length ≤ w.length ∧ (pw w).2.length ≤ w.length := by
  unfold pw
  cases hp : TL.par [58] [] w with
  | some r =>
    have := congrArg List.length (par_inv 58 w [] r.1 r.2 hp)
    simp only [List.nil_append, List.length_append, List.length_cons] at this
    show r.1.length ≤ _ ∧ r.2.length ≤ _
    omega
  | none => exact ⟨Nat.le_refl _, Nat.zero_le _⟩
abbrev rSplit : V → List V → Hp → VK → Prop := fun x xs H Q => ∃ a b, x = .str a ∧ xs = [.str b] ∧ (b.length == 0) = false ∧ a.length + 2 ≤ sizeLine ∧ rNewStrs (Txt.split a b) H Q
abbrev rPart : V → List V → Hp → VK → Prop := fun x xs H Q => ∃ a b, x = .str a ∧ xs = [.str b] ∧ (b.length == 0) = false ∧ a.length ≤ sizeLine ∧
  ∀ p, H p = none → Q (.ref p) (upd H p (.tup [.str (Txt.partition a b).1, .str (Txt.partition a b).2.1, .str (Txt.partition a b).2.2]))
section
variable {K : PySem.W.Frag} {H : Hp} {σ : L2.St} {ta te : TE} {a w : List Nat} {c : Str}
theorem er_split (h : Ev ta σ H (stx a)) (hc : c = SX.S [32]) (hl : a.length ≤ 90000) : EvR (tM1 rSplit ta (tC (.str c))) σ H (NewL ((words a).map stx) H) := fun H1 e Q q => by
  subst hc
  refine h H1 e _ fun H2 e2 => ⟨⟨_, rfl⟩, SX.S a, SX.S [32], rfl, rfl, rfl, ?_, fun p hp => ?_⟩
  · rw [SX.S_len]
    exact sz_of (by omega)
  · rw [SX.split_S (by decide) (by decide), List.map_map]
    exact q _ _ (e2.trans (Ex.new hp)) ⟨p, rfl, fresh_back (e.trans e2) hp, upd_same⟩
theorem er_part (h : Ev ta σ H (stx w)) (hc : c = SX.S [58]) (hl : w.length ≤ 90000) : EvR (tM1 rPart ta (tC (.str c))) σ H (fun v H2 => ∃ p m, v = .ref p ∧ SqT K H2 p [stx (pw w).1, m, stx (pw w).2]) := fun H1 e Q q => by
  subst hc
  refine h H1 e _ fun H2 e2 => ⟨⟨_, rfl⟩, SX.S w, SX.S [58], rfl, rfl, rfl, ?_, fun p hp => ?_⟩
  · rw [SX.S_len]
    exact sz_of (by omega)
  · refine q _ _ (e2.trans (Ex.new hp)) ⟨p, .str (Txt.partition (SX.S w) (SX.S [58])).2.1, rfl, ?_⟩
    have e : (Txt.partition (SX.S w) (SX.S [58])).1 = SX.S (pw w).1 ∧ (Txt.partition (SX.S w) (SX.S [58])).2.2 = SX.S (pw w).2 := by
      unfold pw
      cases hp : TL.par [58] [] w with
      | some r =>
        obtain ⟨r1, r2⟩ := r
        rw [SX.partition_some (by decide) hp]
        exact ⟨rfl, rfl⟩
      | none =>
        rw [SX.partition_none (by decide) hp]
        exact ⟨rfl, rfl⟩
    rw [e.1, e.2]
    exact st_of upd_same
theorem s_appR {D : Ends} {R : V → Hp → Prop} {l : Addr} {xs : List V} (hl : H l = some (.lst xs)) (ha : Ev ta σ H (.ref l)) (h : EvR te σ H R) (hz : xs.length < 100000) (k : ∀ v H1, Ex H H1 → R v H1 → D.nx σ (upd H1 l (.lst (xs ++ [v])))) :
    (tDrop (tBM K "list" rAppend ta (tCons te tNil))) D σ H := ha H (Ex.refl H) _ fun H1 e1 =>
  ⟨Or.inl ⟨rfl, xs, sq_of (e1 l _ hl)⟩, h H1 e1 _ fun v H2 e2 p => ⟨l, xs, v, rfl, rfl, e2 l _ (e1 l _ hl), sz_lt hz, k v H2 (e1.trans e2) p⟩⟩
end
/-- a new list of pairs -/
def NewRs (rs : List (Int × Int)) (H : Hp) (v : V) (H' : Hp) : Prop := ∃ a xs, v = .ref a ∧ H a = none ∧ H' a = some (.lst xs) ∧ RsL H' xs rs
def numV (a : List Nat) : V := if numOk a then .int (wVal a) else .non
/-- the words up to i are read -/
structure Rd (H : Hp) (t : List Nat) (q l : Addr) (i : Nat) (H' : Hp) : Prop where
  ex : Ex H H'
  ws : H' q = some (.lst ((words t).map stx))
  ls : ∃ xs, H' l = some (.lst xs) ∧ RsL H' xs (((words t).take i).map wOf)
  hl : H l = none
  ne : q ≠ l
theorem Rd.more {H H' : Hp} {t : List Nat} {q l : Addr} {i : Nat} {w : List Nat} (r : Rd H t q l i H') (hw : (words t)[i]? = some w) {xs : List V} {v : V} {H2 : Hp} (hx : H' l = some (.lst xs)) (hr : RsL H' xs (((words t).take i).map wOf)) (e : Ex H' H2) (hv : PairAt H2 v (wOf w)) : Rd H t q l (i + 1) (upd H2 l (.lst (xs ++ [v]))) := by
  have h2 := e _ _ hx
  refine ⟨Ex.mut (r.ex.trans e) r.hl, by rw [upd_ne r.ne]; exact e _ _ r.ws, ⟨_, upd_same, ?_⟩, r.hl, r.ne⟩
  have e1 : ((words t).take (i + 1)).map wOf = ((words t).take i).map wOf ++ [wOf w] := by
    rw [List.take_succ, hw, List.map_append]
    rfl
  rw [e1]
  exact ((hr.up e).mut _ h2).append (RsL.mut _ h2 (show RsL H2 [v] [wOf w] from ⟨hv, trivial⟩))
theorem take_all {t : List Nat} {i : Nat} {w : List Nat} {f : List Nat → Bool} (h : ((words t).take i).all f = true) (hw : (words t)[i]? = some w) (hf : f w = true) : ((words t).take (i + 1)).all f = true := by
  rw [List.take_succ, hw, List.all_append, h]
  show (true && (f w && true)) = true
  rw [hf]
  rfl
theorem not_all {t : List Nat} {i : Nat} {w : List Nat} {f : List Nat → Bool} (hw : (words t)[i]? = some w) (hf : f w = false) : (words t).all f = false := by
  cases h : (words t).all f with
  | false => rfl
  | true =>
    have := List.all_eq_true.mp h w (List.mem_of_getElem? hw)
    rw [hf] at this
    cases this
theorem get_word {t : List Nat} {i : Nat} {x : V} (h : ((words t).map stx)[i]? = some x) : ∃ w, (words t)[i]? = some w ∧ x = stx w ∧ w.length ≤ t.length := by
  rw [List.getElem?_map] at h
  cases e : (words t)[i]? with
  | none =>
    rw [e] at h
    cases h
  | some w =>
    rw [e] at h
    exact ⟨w, rfl, (Option.some.inj h).symm, words_each (List.mem_of_getElem? e)⟩
def sp_l_in (_ : PySem.W.Frag) : Sp := spX (fun (d : List Nat) vs _ => vs = [stx d] ∧ d.length ≤ 9000) (fun d H v H' => (inF d = none ∧ v = .non) ∨ ∃ rs, inF d = some rs ∧ NewRs rs H v H')
theorem inF_none {t : List Nat} (h : t ≠ [45]) (hw : (words t).all wOk = false) : inF t = none := by
  unfold inF
  rw [if_neg h, if_neg (by rw [hw]; exact Bool.false_ne_true)]
theorem inF_some {t : List Nat} (h : t ≠ [45]) (hw : (words t).all wOk = true) : inF t = some ((words t).map wOf) := by
  unfold inF
  rw [if_neg h, if_pos hw]
section
variable {P : Program} {w : World} {K : PySem.W.Frag} {mg : Str → Option Value} {base : Heap} {A : Ad}
theorem ok_l_in (T : Txt K mg A) : Okk P w K mg base 2 A.a_l_in ["_law_text"] (sp_l_in K) := by
  obtain ⟨_, G_l_number, b_l_number, k_l_number⟩ := ok_l_number (P := P) (w := w) (base := base) T
  refine okk T.F_l_in sc_l_in (fun vs H Q E h => ?_) (fun cdv Ar outer s H vs Q E hr h => ?_)
  · obtain ⟨d, ⟨rfl, _⟩, _⟩ := h
    rfl
  · obtain ⟨t, ⟨rfl, hl⟩, k⟩ := h
    have hr_l_number : Room 1 _ := hr.mono (by decide)
    refine ⟨_, (pss_cons (ps_if (pt_cmpR op_eq (pv 0) pe_str (nomark _)) (pss_one (ps_ret (pe_lst pa_nil))) pss_nil)
      (pss_cons (ps_set (i := 1) sc_l_in.nd rfl (.inl rfl) (pe_lst pa_nil))
      (pss_cons (ps_for PassesOwn.never rfl (pi_listK K (pe_split (pv 0) pe_str)) (pg_name (i := 2) sc_l_in.nd rfl (Or.inl rfl)) (pss_cons (ps_asg (pe_partition (pv 2) pe_str) (pg_tupK (n := 3) K rfl (pgs_cons (pg_name (i := 3) sc_l_in.nd rfl (Or.inl rfl)) (pgs_cons (pg_name (i := 4) sc_l_in.nd rfl (Or.inl rfl)) (pgs_cons (pg_name (i := 5) sc_l_in.nd rfl (Or.inl rfl)) pgs_nil)))))
      (pss_cons (ps_par (i := 3) (j := 5) rfl sc_l_in.nd rfl rfl (by decide) rfl rfl (pa_cons (pe_call G_l_number hr_l_number (by rfl) T.g_l_number k_l_number b_l_number .nil pass0 (pa_cons (pv 3) pa_nil)) (pa_cons (pe_call G_l_number hr_l_number (by rfl) T.g_l_number k_l_number b_l_number .nil pass0 (pa_cons (pv 5) pa_nil)) pa_nil)) (by rfl))
      (pss_cons (ps_if (PW.pt (pw_or (pt_cmpR op_isN (pv 3) pe_non (nomark _)) (pw_or (pt_cmpR op_isN (pv 5) pe_non (nomark _)) (pw_or1 (pt_not (pt_chain op_lt op_lt (pv 3) (pv 5) pe_int)))))) (pss_one (ps_ret pe_non)) pss_nil)
      (pss_one (ps_expr (pe_bm PySem.F.plainAttrs_list PySem.F.slot_list_append PySem.F.type_list_append mt_append (pv 1) (pa_cons (pe_tup (pa_cons (pv 3) (pa_cons (pv 5) pa_nil))) pa_nil))))))))
      (pss_one (ps_ret (pv 1)))))), ?_⟩
    refine q_when (et_eqS (b := [45]) (ev_var rfl) dash_is) (fun hb H1 e1 => ?_) fun hb H1 e1 => ?_
    · have hb := of_decide_eq_true hb
      refine s_retR (er_new (xs := []) ea_nil (by show 0 ≤ 100000; decide)) fun v H2 e2 ⟨p, hv, hn, hp⟩ => k _ _ (e1.trans e2) (.inr ⟨[], ?_, p, [], hv, fresh_back e1 hn, hp, trivial⟩)
      rw [hb]
      rfl
    have hb := of_decide_eq_false hb
    refine q_asgR (er_new (xs := []) ea_nil (by show 0 ≤ 100000; decide)) fun v2 H2 e2 ⟨l, hv2, hln, hl2⟩ => ?_
    subst hv2
    refine q_forLU (er_split (a := t) (ev_var rfl) blank_is (by omega)) fun v3 H3 e3 ⟨q, hv3, hqn, hq⟩ => ?_
    subst hv3
    have hwl := words_count t
    refine ⟨q, (words t).map stx, rfl, sq_of hq, fun i σ' H' => ∃ s2 s3 s4 s5 : Option V, σ' = [some (stx t), some (.ref l), s2, s3, s4, s5] ∧ Rd H t q l i H' ∧ ((words t).take i).all wOk = true,
      ⟨_, _, _, _, rfl, ⟨e1.trans (e2.trans e3), hq, ⟨[], e3 _ _ hl2, trivial⟩, fresh_back e1 hln, ne_of_none hl2 hqn |>.symm⟩, rfl⟩, fun i σ' H' _ ⟨_, _, _, _, _, r, _⟩ => sq_of r.ws, fun i x σ' H' hx hP => ?_, fun σ' H' hP => ?_⟩
    · obtain ⟨s2, s3, s4, s5, rfl, r, hok⟩ := hP
      obtain ⟨wd, hw, rfl, hwlen⟩ := get_word hx
      obtain ⟨p1, p2⟩ := pw_len wd
      refine q_asgG (er_part (K := K) (ev_var rfl) colon_is (by omega)) fun v4 H4 e4 ⟨p, m, hv4, hp⟩ => ?_
      subst hv4
      refine g_tup3 hp ?_
      have num : ∀ {σ : L2.St} {H5 : Hp} {te : TE} {x : List Nat}, Ev te σ H5 (stx x) → x.length ≤ 9000 → Ev (tCall (sp_l_number K) [] E0 (tCons te tNil)) σ H5 (numV x) := fun {σ H5 te x} h hx => ev_call0 x (ea_cons h ea_nil) (fun _ _ => ⟨rfl, by omega⟩) fun _ _ _ p => p
      refine q_par (ea_cons (num (ev_var rfl) (by omega)) (ea_cons (num (ev_var rfl) (by omega)) ea_nil)) rfl fun H5 e5 => ?_
      have tst : EvT (tOr (tTest (tOp (fun x y H Q => y = V.non ∧ Q (.bl (decide (x = .non))) H) (tVar 3) (tC .non))) (tOr (tTest (tOp (fun x y H Q => y = V.non ∧ Q (.bl (decide (x = .non))) H) (tVar 5) (tC .non))) (tNot (tTest (tChain (rI0 fun i j => .bl (decide (i < j))) (rI0 fun i j => .bl (decide (i < j))) (tVar 3) (tVar 5) (tC (.int 1000001)))))))
          [some (stx t), some (.ref l), some (stx wd), some (numV (pw wd).1), some m, some (numV (pw wd).2)] H5 (!wOk wd) := by
        have isN : ∀ {σ : L2.St} {te : TE} {x : List Nat}, Ev te σ H5 (numV x) → EvT (tTest (tOp (fun x y H Q => y = V.non ∧ Q (.bl (decide (x = .non))) H) te (tC .non))) σ H5 (!numOk x) := fun {σ te x} h => et_test (ev_op h ev_c fun H6 _ Q q => ⟨rfl, by
          have : decide (numV x = .non) = !numOk x := by
            unfold numV
            cases numOk x <;> rfl
          rw [this]
          exact q H6 (Ex.refl _)⟩)
        refine et_is (et_or (isN (ev_var rfl)) fun h1 => et_or (b := !(decide (wVal (pw wd).1 < wVal (pw wd).2) && decide (wVal (pw wd).2 < 1000001))) (isN (ev_var rfl)) fun h2 => et_not (et_test (ev_chain (x := .int (wVal (pw wd).1)) (y := .int (wVal (pw wd).2)) (ev_is (ev_var rfl) ?_) (ev_is (ev_var rfl) ?_) rv_I0 (fun _ => ev_c) fun _ => rv_I0))) ?_
        · rw [Bool.not_eq_false'] at h1
          unfold numV
          rw [if_pos h1]
        · rw [Bool.not_eq_false'] at h2
          unfold numV
          rw [if_pos h2]
        · unfold wOk
          generalize decide (wVal (pw wd).1 < wVal (pw wd).2) = x
          generalize decide (wVal (pw wd).2 < 1000001) = y
          generalize numOk (pw wd).1 = z
          generalize numOk (pw wd).2 = z'
          cases z <;> cases z' <;> cases x <;> cases y <;> rfl
      refine q_when (tst) (fun hb2 H6 e6 => ?_) fun hb2 H6 e6 => ?_
      · rw [Bool.not_eq_true'] at hb2
        exact s_ret ev_c fun H7 e7 => k _ _ (r.ex.trans (e4.trans (e5.trans (e6.trans e7)))) (.inl ⟨inF_none hb (not_all hw hb2), rfl⟩)
      · rw [Bool.not_eq_false'] at hb2
        have hn : numOk (pw wd).1 = true ∧ numOk (pw wd).2 = true := by
          unfold wOk at hb2
          simp only [Bool.and_eq_true] at hb2
          exact hb2.1
        obtain ⟨xs, hx1, hx2⟩ := r.ls
        have e46 := e4.trans (e5.trans e6)
        have hxl : xs.length ≤ 9001 := by
          rw [hx2.len, List.length_map, List.length_take]
          omega
        refine s_appR (R := fun v H => PairAt H v (wOf wd)) (e46 _ _ hx1) (ev_var rfl) ((eur (eu_tup (vs := [.int (wVal (pw wd).1), .int (wVal (pw wd).2)]) (ea_cons (ev_is (ev_var rfl) ?_) (ea_cons (ev_is (ev_var rfl) ?_) ea_nil)) (by show 2 ≤ 100000; decide))).imp fun v H7 _ ⟨p, hv, _, hp⟩ => ⟨p, hv, hp⟩) (by omega) fun v H7 e7 hv => ⟨_, _, _, _, rfl, r.more hw hx1 hx2 (e46.trans e7) hv, take_all hok hw hb2⟩
        · unfold numV
          rw [if_pos hn.1]
        · unfold numV
          rw [if_pos hn.2]
    · obtain ⟨s2, s3, s4, s5, rfl, r, hok⟩ := hP
      rw [List.length_map] at r hok
      obtain ⟨xs, hx1, hx2⟩ := r.ls
      rw [List.take_length] at hx2 hok
      exact s_ret (ev_var rfl) fun H7 e7 => k _ _ (r.ex.trans e7) (.inr ⟨_, inF_some hb hok, l, xs, rfl, r.hl, e7 _ _ hx1, hx2.up e7⟩)
end
/-! ### read -/
def spx_read (K : PySem.W.Frag) (A : Ad) : Sp := spO (spX (fun (d : List Nat × List (Int × Int)) vs _ => vs = [stx d.1] ∧ d.1.length ≤ 9000 ∧ inF d.1 = some d.2) (fun d H v H' => NewRs d.2 H v H'))
  (spO (spZ (fun (d : List Nat) vs _ => vs = [stx d] ∧ d.length ≤ 9000 ∧ inF d = none) A.c_BadText) (spZ (fun (d : V) vs H => vs = [d] ∧ NotTy K H d "str") A.c_BadText))
def nOk (w : List Nat) : Bool := numOk (pw w).1 && numOk (pw w).2
theorem wOk_rOk {w : List Nat} (h : nOk w = true) : rOk (wOf w) = wOk w := by
  unfold nOk at h
  unfold rOk restF wOf wOk
  rw [h, Bool.eq_iff_iff]
  dsimp only
  have h1 : 0 ≤ wVal (pw w).1 := Int.natCast_nonneg _
  have h2 : 0 ≤ wVal (pw w).2 := Int.natCast_nonneg _
  generalize wVal (pw w).1 = a at *
  generalize wVal (pw w).2 = b at *
  simp only [Bool.and_eq_true, decide_eq_true_eq, true_and]
  omega
theorem wOk_nOk {w : List Nat} (h : wOk w = true) : nOk w = true := by
  unfold wOk at h
  exact (Bool.and_eq_true_iff.mp h).1
theorem all_rOk {l : List (List Nat)} (h : l.all nOk = true) : (l.map wOf).all rOk = l.all wOk := by
  induction l with
  | nil => rfl
  | cons w l ih =>
    rw [List.all_cons, Bool.and_eq_true] at h
    rw [List.map_cons, List.all_cons, List.all_cons, wOk_rOk h.1, ih h.2]
theorem kit_ss {K : PySem.W.Frag} {n : String} (h : n ∈ bt) : PySem.W.kitOne K (.type n) (.type "str") = some (n == "str") := by
  simp only [List.mem_cons, List.not_mem_nil, or_false] at h
  rcases h with h | h | h | h | h | h | h <;> subst h <;> exact kit_ty (by decide +kernel)
section
variable {K : PySem.W.Frag} {σ : L2.St} {H : Hp} {ta te tf : TE} {tr : TA} {v : V} {D : Ends} {l : Addr} {xs : List V}
theorem s_appZ (hl : H l = some (.lst xs)) (ha : Ev ta σ H (.ref l)) (h : Rz te σ H) : (tDrop (tBM K "list" rAppend ta (tCons te tNil))) D σ H := ha H (Ex.refl H) _ fun H1 e1 => ⟨Or.inl ⟨rfl, xs, sq_of (e1 l _ hl)⟩, h H1 e1 _⟩
theorem s_dropS {sp : Sp} {E : L2.St → XK} {vs : List V} (h : EvA tr σ H vs) (k : ∀ H1, Ex H H1 → sp vs H1 (fun _ H2 => D.nx σ H2) (E σ)) : tDrop (tCallS sp E tr) D σ H := h H (Ex.refl _) _ fun H1 e1 => k H1 e1
theorem rz_tup1 (h : Rz te σ H) : Rz (tTup (tCons te tr)) σ H := fun H1 e Q => h H1 e _
theorem rz_tup2 (h1 : Ev te σ H v) (h : Rz tf σ H) : Rz (tTup (tCons te (tCons tf tr))) σ H := fun H1 e Q => h1 H1 e _ fun H2 e2 => h H2 (e.trans e2) _
end
section
variable {P : Program} {w : World} {K : PySem.W.Frag} {mg : Str → Option Value} {base : Heap} {A : Ad}
theorem okx_read (T : Txt K mg A) : OkkK P w K mg base 5 A.a_read ["text"] (spx_read K A) := by
  obtain ⟨_, G_check_rests, b_check_rests, k_check_rests⟩ := okx_check_rests (P := P) (w := w) (base := base) T
  obtain ⟨_, G_number_in, b_number_in, k_number_in⟩ := okx_number_in (P := P) (w := w) (base := base) T
  refine okkk T.F_read sc_read (fun vs H Q E h => ?_) (fun cdv Ar outer s H vs Q E hr h => ?_)
  · rcases h with ⟨d, ⟨rfl, _⟩, _⟩ | ⟨d, ⟨rfl, _⟩, _⟩ | ⟨d, ⟨rfl, _⟩, _⟩ <;> rfl
  · have hr_check_rests : Room 4 _ := hr.mono (by decide)
    have hr_number_in : Room 1 _ := hr.mono (by decide)
    refine ⟨_, (pss_cons (ps_if (pt_not (pt_val (pe_callB (isiK K) (by rfl) T.z_isinstance (by decide +kernel) (pa_cons (pv 0) (pa_cons (pe_bltn (v := .ty "str") (by rfl) T.z_str (by decide +kernel) rfl) pa_nil))))) (pss_one (L2N.ps_raise rfl (Tk.n (tk_of rfl rfl rfl rfl)) (L2N.pmk_own PySem.F.excBase_ValueError T.ex_BadText T.g_BadText T.ke_BadText (raises_own T.sb_BadText T.ty_BadText) (by rfl)))) pss_nil)
      (pss_cons (ps_if (pt_cmpR op_eq (pv 0) pe_str (nomark _)) (pss_one (ps_ret (pe_lst pa_nil))) pss_nil)
      (pss_cons (ps_set (i := 1) sc_read.nd rfl (.inl rfl) (pe_lst pa_nil))
      (pss_cons (ps_for (L2.passes_of rfl) rfl (pi_listK K (pe_split (pv 0) pe_str)) (pg_name (i := 2) sc_read.nd rfl (Or.inl rfl)) (pss_cons (ps_asg (pe_partition (pv 2) pe_str) (pg_tupK (n := 3) K rfl (pgs_cons (pg_name (i := 3) sc_read.nd rfl (Or.inl rfl)) (pgs_cons (pg_name (i := 4) sc_read.nd rfl (Or.inl rfl)) (pgs_cons (pg_name (i := 5) sc_read.nd rfl (Or.inl rfl)) pgs_nil)))))
      (pss_one (ps_expr (pe_bm PySem.F.plainAttrs_list PySem.F.slot_list_append PySem.F.type_list_append mt_append (pv 1) (pa_cons (pe_tup (pa_cons (pe_call G_number_in hr_number_in (by rfl) T.g_number_in k_number_in b_number_in .nil (passNK (tk_of rfl rfl rfl rfl)) (pa_cons (pv 3) pa_nil)) (pa_cons (pe_call G_number_in hr_number_in (by rfl) T.g_number_in k_number_in b_number_in .nil (passNK (tk_of rfl rfl rfl rfl)) (pa_cons (pv 5) pa_nil)) pa_nil))) pa_nil))))))
      (pss_cons (ps_try_onlyK (W := fun cls d _ H => E cls d H) (tb := fun W => tDrop (tCallS (spx_check_rests K A) (WE W) (tCons (tVar 1) tNil))) (ts := fun a cls d => (fun _ σ H => E (.ref A.c_BadText) none H)) rfl rfl rfl ⟨rfl, by decide, Or.inl T.g_BadRests⟩ (L2H.passesAt_of rfl) (tk_of rfl rfl rfl rfl) (fun W pn xe tk => pss_one (ps_expr (by exact (pe_callS G_check_rests hr_check_rests (by rfl) T.g_check_rests k_check_rests b_check_rests (fun σ => L2N.passAt tk σ) (pa_cons (pv 1) pa_nil))))) (fun a oe cls d pn tk hot => pss_one (by exact (ps_raiseK hot tk (L2N.pmk_own PySem.F.excBase_ValueError T.ex_BadText T.g_BadText T.ke_BadText (raises_own T.sb_BadText T.ty_BadText) (by rfl))))))
      (pss_one (ps_ret (pv 1)))))))), ?_⟩
    have main : (∃ t, vs = [stx t] ∧ t.length ≤ 9000 ∧ (∀ rs, inF t = some rs → ∀ v H', Ex H H' → NewRs rs H v H' → Q v H') ∧ (inF t = none → ∀ H', Ex H H' → E (.ref A.c_BadText) none H')) ∨ ∃ d, vs = [d] ∧ NotTy K H d "str" ∧ ∀ H', Ex H H' → E (.ref A.c_BadText) none H' := by
      rcases h with ⟨⟨t, rs⟩, ⟨h1, h2, h3⟩, k⟩ | ⟨t, ⟨h1, h2, h3⟩, k⟩ | ⟨d, ⟨h1, h2⟩, k⟩
      · exact .inl ⟨t, h1, h2, fun rs' (hh : inF t = some rs') => (by rw [h3] at hh; cases hh; exact k), fun (hh : inF t = none) => (by rw [h3] at hh; cases hh)⟩
      · exact .inl ⟨t, h1, h2, fun rs' (hh : inF t = some rs') => (by rw [h3] at hh; cases hh), fun _ => k⟩
      · exact .inr ⟨d, h1, h2, k⟩
    clear h
    rcases main with ⟨t, rfl, hl, kOk, kNo⟩ | ⟨d, rfl, ⟨m, h1, h2, h3⟩, k⟩
    · refine q_when (b := false) (et_is (et_not (et_B (ev_isi (b := true) (ev_var rfl) ev_c (.ty _) (.base (.str _)) (kit_ty (by decide +kernel))))) rfl) (fun z => nomatch z) fun _ H0 e0 => ?_
      refine q_when (et_eqS (b := [45]) (ev_var rfl) dash_is) (fun hb H1 e1 => ?_) fun hb H1 e1 => ?_
      · have hb := of_decide_eq_true hb
        refine s_retR (er_new (xs := []) ea_nil (by show 0 ≤ 100000; decide)) fun v H2 e2 ⟨p, hv, hn, hp⟩ => kOk [] ?_ _ _ (e0.trans (e1.trans e2)) ⟨p, [], hv, fresh_back (e0.trans e1) hn, hp, trivial⟩
        rw [hb]
        rfl
      have hb := of_decide_eq_false hb
      refine q_asgR (er_new (xs := []) ea_nil (by show 0 ≤ 100000; decide)) fun v2 H2 e2 ⟨l, hv2, hln, hl2⟩ => ?_
      subst hv2
      refine q_forLU (er_split (a := t) (ev_var rfl) blank_is (by omega)) fun v3 H3 e3 ⟨q, hv3, hqn, hq⟩ => ?_
      subst hv3
      have hwl := words_count t
      refine ⟨q, (words t).map stx, rfl, sq_of hq, fun i σ' H' => ∃ s2 s3 s4 s5 : Option V, σ' = [some (stx t), some (.ref l), s2, s3, s4, s5] ∧ Rd H t q l i H' ∧ ((words t).take i).all nOk = true,
        ⟨_, _, _, _, rfl, ⟨e0.trans (e1.trans (e2.trans e3)), hq, ⟨[], e3 _ _ hl2, trivial⟩, fresh_back (e0.trans e1) hln, ne_of_none hl2 hqn |>.symm⟩, rfl⟩, fun i σ' H' _ ⟨_, _, _, _, _, r, _⟩ => sq_of r.ws, fun i x σ' H' hx hP => ?_, fun σ' H' hP => ?_⟩
      · obtain ⟨s2, s3, s4, s5, rfl, r, hok⟩ := hP
        obtain ⟨wd, hw, rfl, hwlen⟩ := get_word hx
        obtain ⟨p1, p2⟩ := pw_len wd
        refine q_asgG (er_part (K := K) (ev_var rfl) colon_is (by omega)) fun v4 H4 e4 ⟨p, m, hv4, hp⟩ => ?_
        subst hv4
        refine g_tup3 hp ?_
        obtain ⟨xs, hx1, hx2⟩ := r.ls
        have hxl : xs.length ≤ 9001 := by
          rw [hx2.len, List.length_map, List.length_take]
          omega
        have good : ∀ {σ : L2.St} {H5 : Hp} {te : TE} {x : List Nat}, Ev te σ H5 (stx x) → x.length ≤ 9000 → numOk x = true → Ev (tCall (spx_number_in A) [] E (tCons te tNil)) σ H5 (.int (wVal x)) := fun {σ H5 te x} h hx hn H6 e6 Q' q => h H6 e6 _ fun H7 e7 =>
          .inl ⟨x, ⟨rfl, by omega, hn⟩, fun v H8 e8 hv => by rw [hv]; exact q H8 (e7.trans e8)⟩
        have bad : ∀ {σ : L2.St} {te : TE} {x : List Nat}, Ev te σ H4 (stx x) → x.length ≤ 9000 → numOk x = false → nOk wd = false → Rz (tCall (spx_number_in A) [] E (tCons te tNil)) σ H4 := fun {σ te x} h hx hn hnw H6 e6 Q' => h H6 e6 _ fun H7 e7 =>
          .inr ⟨x, ⟨rfl, by omega, hn⟩, fun H8 e8 => kNo (inF_none hb (not_all hw (by
            cases hwk : wOk wd with
            | false => rfl
            | true => rw [wOk_nOk hwk] at hnw; cases hnw))) _ (r.ex.trans (e4.trans (e6.trans (e7.trans e8))))⟩
        cases hn1 : numOk (pw wd).1 with
        | false => exact s_appZ (e4 _ _ hx1) (ev_var rfl) (rz_tup1 (bad (ev_var rfl) (by omega) hn1 (by unfold nOk; rw [hn1]; rfl)))
        | true =>
          cases hn2 : numOk (pw wd).2 with
          | false => exact s_appZ (e4 _ _ hx1) (ev_var rfl) (rz_tup2 (good (ev_var rfl) (by omega) hn1) (bad (ev_var rfl) (by omega) hn2 (by unfold nOk; rw [hn2, Bool.and_false])))
          | true =>
            exact s_appR (R := fun v H => PairAt H v (wOf wd)) (e4 _ _ hx1) (ev_var rfl) ((eur (eu_tup (vs := [.int (wVal (pw wd).1), .int (wVal (pw wd).2)]) (ea_cons (good (ev_var rfl) (by omega) hn1) (ea_cons (good (ev_var rfl) (by omega) hn2) ea_nil)) (by show 2 ≤ 100000; decide))).imp fun v H7 _ ⟨p, hv, _, hp⟩ => ⟨p, hv, hp⟩) (by omega) fun v H7 e7 hv =>
              ⟨_, _, _, _, rfl, r.more hw hx1 hx2 (e4.trans e7) hv, take_all hok hw (by unfold nOk; rw [hn1, hn2]; rfl)⟩
      · obtain ⟨s2, s3, s4, s5, rfl, r, hok⟩ := hP
        rw [List.length_map] at r hok
        obtain ⟨xs, hx1, hx2⟩ := r.ls
        rw [List.take_length] at hx2 hok
        have hall := all_rOk hok
        refine seq_i ?_
        refine s_dropS (ea_cons (ev_var rfl) ea_nil) fun H5 e5 => ?_
        have hRs : RsAt H5 (.ref l) ((words t).map wOf) := ⟨l, xs, rfl, e5 _ _ hx1, hx2.up e5⟩
        have hlen : ((words t).map wOf).length ≤ 10000 := by
          rw [List.length_map]
          omega
        cases hw : (words t).all wOk with
        | true =>
          exact .inl ⟨(.ref l, (words t).map wOf), ⟨rfl, hRs, hlen, by rw [hall, hw]⟩, fun v H6 e6 hv => s_ret (ev_var rfl) fun H7 e7 => kOk _ (inF_some hb hw) _ _ (r.ex.trans (e5.trans (e6.trans e7))) ⟨l, xs, rfl, r.hl, (e5.trans (e6.trans e7)) _ _ hx1, hx2.up (e5.trans (e6.trans e7))⟩⟩
        | false =>
          exact .inr ⟨(.ref l, (words t).map wOf), ⟨rfl, hRs, hlen, by rw [hall, hw]⟩, fun H6 e6 => ⟨true, T.em_BadRests_BadRests, fun _ a ha => kNo (inF_none hb hw) _ (r.ex.trans (e5.trans e6)), fun z => nomatch z⟩⟩
    · exact q_when (b := true) (et_is (et_not (et_B (ev_isi (b := false) (ev_var rfl) ev_c (.ty _) h1 (by rw [kit_ss h2, h3])))) rfl) (fun _ H1 e1 => k _ e1) fun z => nomatch z
end
/-! ### refused, as the law asks -/
def sp_l_refused (K : PySem.W.Frag) : Sp := spX (fun (d : V) vs H => vs = [d] ∧ ((∃ t, d = stx t ∧ t.length ≤ 9000 ∧ inF t = none) ∨ NotTy K H d "str")) (fun _ _ v _ => v = .bl true)
section
variable {P : Program} {w : World} {K : PySem.W.Frag} {mg : Str → Option Value} {base : Heap} {A : Ad}
theorem ok_l_refused (T : Txt K mg A) : Okk P w K mg base 6 A.a_l_refused ["_law_text"] (sp_l_refused K) := by
  obtain ⟨_, G_read, b_read, k_read⟩ := okx_read (P := P) (w := w) (base := base) T
  refine okk T.F_l_refused sc_l_refused (fun vs H Q E h => ?_) (fun cdv Ar outer s H vs Q E hr h => ?_)
  · obtain ⟨d, ⟨rfl, _⟩, _⟩ := h
    rfl
  · obtain ⟨v, ⟨rfl, hv⟩, k⟩ := h
    have hr_read : Room 5 _ := hr.mono (by decide)
    refine ⟨_, (pss_cons (ps_try_asK (i := 1) (tb := fun W => tDrop (tCallS (spx_read K A) (WE W) (tCons (tVar 0) tNil))) rfl rfl sc_l_refused.nd rfl rfl ⟨rfl, by decide, Or.inl T.g_RestError⟩ (fun W pn xe tk => pss_one (ps_expr (by exact (pe_callS G_read hr_read (by rfl) T.g_read k_read b_read (fun σ => passK tk σ) (pa_cons (pv 0) pa_nil))))) (fun a oe cls d pn hz hf hot => (pss_cons (ps_set (i := 2) sc_l_refused.nd rfl (.inl rfl) (pe_lst (pa_cons (pe_callB (call_isQ K hz hf) (by rfl) T.z_isinstance (by decide +kernel) (pa_cons (pv 1) (pa_cons (pe_glob (v := .ref A.c_BadCount) (by rfl) T.g_BadCount rfl) pa_nil))) (pa_cons (pe_callB (call_isQ K hz hf) (by rfl) T.z_isinstance (by decide +kernel) (pa_cons (pv 1) (pa_cons (pe_glob (v := .ref A.c_BadNumbers) (by rfl) T.g_BadNumbers rfl) pa_nil))) (pa_cons (pe_callB (call_isQ K hz hf) (by rfl) T.z_isinstance (by decide +kernel) (pa_cons (pv 1) (pa_cons (pe_glob (v := .ref A.c_BadRest) (by rfl) T.g_BadRest rfl) pa_nil))) pa_nil)))))
      (pss_cons (ps_set (i := 2) sc_l_refused.nd rfl (.inl rfl) (pe_op op_cat (pv 2) (pe_lst (pa_cons (pe_callB (call_isQ K hz hf) (by rfl) T.z_isinstance (by decide +kernel) (pa_cons (pv 1) (pa_cons (pe_glob (v := .ref A.c_BadRests) (by rfl) T.g_BadRests rfl) pa_nil))) (pa_cons (pe_callB (call_isQ K hz hf) (by rfl) T.z_isinstance (by decide +kernel) (pa_cons (pv 1) (pa_cons (pe_glob (v := .ref A.c_BadRound) (by rfl) T.g_BadRound rfl) pa_nil))) (pa_cons (pe_not (pe_callB (call_isQ K hz hf) (by rfl) T.z_isinstance (by decide +kernel) (pa_cons (pv 1) (pa_cons (pe_bltn (v := .ty "ValueError") (by rfl) T.z_ValueError (by decide +kernel) rfl) pa_nil)))) pa_nil))))))
      (pss_one (ps_ret (pe_and (pe_callB (call_isQ K hz hf) (by rfl) T.z_isinstance (by decide +kernel) (pa_cons (pv 1) (pa_cons (pe_glob (v := .ref A.c_BadText) (by rfl) T.g_BadText rfl) pa_nil))) (pe_one (pe_not (pe_callB (anyHK K hot) (by rfl) T.z_any (by decide +kernel) (pa_cons (pv 2) pa_nil)))))))))))
      (pss_one (ps_ret pe_bl))), ?_⟩
    refine s_dropS (ea_cons (ev_var rfl) ea_nil) fun H1 e1 => ?_
    have core : ∀ {E' : XK} {Q' : VK}, (∀ H2, Ex H1 H2 → E' (.ref A.c_BadText) none H2) → spx_read K A [v] H1 Q' E' := fun {E' Q'} kk => by
      rcases hv with ⟨t, rfl, hl, hn⟩ | hv
      · exact .inr (.inl ⟨t, ⟨rfl, hl, hn⟩, kk⟩)
      · exact .inr (.inr ⟨v, ⟨rfl, hv.up e1⟩, kk⟩)
    refine core fun H2 e2 => ⟨true, T.em_BadText_RestError, fun _ a ha => ?_, fun z => nomatch z⟩
    have C := T.xc_BadText
    refine q_asgR (σ := [some v, some (.ref a), none]) (er_new (xs := [V.bl false, V.bl false, V.bl false]) (ea_cons (ev_isQ C (ev_var rfl) ev_c rv_ref T.kq_BadText_BadCount) (ea_cons (ev_isQ C (ev_var rfl) ev_c rv_ref T.kq_BadText_BadNumbers) (ea_cons (ev_isQ C (ev_var rfl) ev_c rv_ref T.kq_BadText_BadRest) ea_nil))) (by walk_at "sz")) fun v3 H3 e3 ⟨p3, hv3, hn3, hp3⟩ => ?_
    subst hv3
    refine q_asgR (er_cat (xs := [V.bl false, V.bl false, V.bl false]) (ys := [V.bl false, V.bl false, V.bl false]) ((evr (v := .ref p3) (ev_var rfl)).imp fun v H4 e4 hv => ⟨p3, hv, e4 _ _ hp3⟩) ((er_new (ea_cons (ev_isQ C (ev_var rfl) ev_c rv_ref T.kq_BadText_BadRests) (ea_cons (ev_isQ C (ev_var rfl) ev_c rv_ref T.kq_BadText_BadRound) (ea_cons (ev_notV (a := true) (ev_isQ C (ev_var rfl) ev_c rv_ty T.kq_BadText_ValueError)) ea_nil))) (by walk_at "sz")).imp fun v H4 _ ⟨q, hv, _, hq⟩ => ⟨q, hv, hq⟩) (by walk_at "sz")) fun v4 H4 e4 ⟨p4, hv4, hn4, hp4⟩ => ?_
    subst hv4
    exact s_ret (v := .bl true) (ev_andV (a := true) (b := true) (ev_isQ C (ev_var rfl) ev_c rv_ref T.kq_BadText_BadText) fun _ => ev_notV (a := false) (ev_any (bs := [false, false, false, false, false, false]) (ev_var rfl) (sq_of hp4))) fun H5 e5 => k _ _ (e1.trans (e2.trans (e3.trans (e4.trans e5)))) rfl
end
/-! ### what the law asks of a text -/
theorem in_len {t : List Nat} {rs : List (Int × Int)} (h : inF t = some rs) : rs.length ≤ t.length + 1 := by
  unfold inF at h
  split at h
  · cases h
    exact Nat.zero_le _
  · split at h
    · cases h
      rw [List.length_map]
      exact words_count t
    · cases h
def sp_l_right (_ : PySem.W.Frag) : Sp := spX (fun (d : List Nat) vs _ => vs = [stx d] ∧ d.length ≤ 9000) (fun _ _ v _ => v = .bl true)
section
variable {P : Program} {w : World} {K : PySem.W.Frag} {mg : Str → Option Value} {base : Heap} {A : Ad}
theorem er_read {σ : L2.St} {H : Hp} {te : TE} {t : List Nat} {rs : List (Int × Int)} {E : XK} (h : Ev te σ H (stx t)) (hl : t.length ≤ 9000) (hi : inF t = some rs) : EvR (tCall (spx_read K A) [] E (tCons te tNil)) σ H (NewRs rs H) := fun H1 e Q q => h H1 e _ fun H2 e2 =>
  .inl ⟨(t, rs), ⟨rfl, hl, hi⟩, fun v H3 e3 ⟨a, xs, hv, hn, hx, hr⟩ => q v H3 (e2.trans e3) ⟨a, xs, hv, fresh_back (e.trans e2) hn, hx, hr⟩⟩
theorem ok_l_right (T : Txt K mg A) : Okk P w K mg base 7 A.a_l_right ["_law_text"] (sp_l_right K) := by
  obtain ⟨_, G_l_in, b_l_in, k_l_in⟩ := ok_l_in (P := P) (w := w) (base := base) T
  obtain ⟨_, G_l_refused, b_l_refused, k_l_refused⟩ := ok_l_refused (P := P) (w := w) (base := base) T
  obtain ⟨_, G_read, b_read, k_read⟩ := okx_read (P := P) (w := w) (base := base) T
  obtain ⟨_, G_written, b_written, k_written⟩ := ok_written (P := P) (w := w) (base := base) T
  refine okk T.F_l_right sc_l_right (fun vs H Q E h => ?_) (fun cdv Ar outer s H vs Q E hr h => ?_)
  · obtain ⟨d, ⟨rfl, _⟩, _⟩ := h
    rfl
  · obtain ⟨t, ⟨rfl, hl⟩, k⟩ := h
    have hr_l_in : Room 2 _ := hr.mono (by decide)
    have hr_l_refused : Room 6 _ := hr.mono (by decide)
    have hr_read : Room 5 _ := hr.mono (by decide)
    have hr_written : Room 5 _ := hr.mono (by decide)
    refine ⟨_, (pss_cons (ps_set (i := 1) sc_l_right.nd rfl (.inl rfl) (pe_call G_l_in hr_l_in (by rfl) T.g_l_in k_l_in b_l_in .nil pass0 (pa_cons (pv 0) pa_nil)))
      (pss_cons (ps_if (pt_cmpR op_isN (pv 1) pe_non (nomark _)) (pss_one (ps_ret (pe_call G_l_refused hr_l_refused (by rfl) T.g_l_refused k_l_refused b_l_refused .nil pass0 (pa_cons (pv 0) pa_nil)))) pss_nil)
      (pss_cons (ps_set (i := 2) sc_l_right.nd rfl (.inl rfl) (pe_call G_read hr_read (by rfl) T.g_read k_read b_read .nil passK0 (pa_cons (pv 0) pa_nil)))
      (pss_cons (ps_if (PW.pt (pw_or (pt_not (pt_val (pe_callB (isiK K) (by rfl) T.z_isinstance (by decide +kernel) (pa_cons (pv 2) (pa_cons (pe_bltn (v := .ty "list") (by rfl) T.z_list (by decide +kernel) rfl) pa_nil))))) (pw_or (pt_cmpR (neDK K hr.units) (pv 2) (pv 1) (nomark _)) (pw_or1 (pt_cmpR op_ne (pe_call G_written hr_written (by rfl) T.g_written k_written b_written .nil pass0 (pa_cons (pv 2) pa_nil)) (pv 0) (nomark _)))))) (pss_one (ps_ret pe_bl)) pss_nil)
      (pss_cons (ps_expr (pe_bm PySem.F.plainAttrs_list PySem.F.slot_list_append PySem.F.type_list_append mt_append (pv 2) (pa_cons (pe_tup (pa_cons pe_int (pa_cons pe_int pa_nil))) pa_nil)))
      (pss_one (ps_ret (pe_cmpR (eqDK K hr.units) (pe_call G_read hr_read (by rfl) T.g_read k_read b_read .nil passK0 (pa_cons (pv 0) pa_nil)) (pv 1) (nomark _))))))))), ?_⟩
    refine q_asgR (R := fun v H' => (inF t = none ∧ v = .non) ∨ ∃ rs, inF t = some rs ∧ NewRs rs H v H') (er_call t (ea_cons (ev_var rfl) ea_nil) (fun H1 e => ⟨rfl, hl⟩) fun H1 v H2 e e2 p => p.imp id fun ⟨rs, h, a, xs, hv, hn, hx, hr⟩ => ⟨rs, h, a, xs, hv, fresh_back e hn, hx, hr⟩) fun v H1 e1 p => ?_
    have isN : ∀ {σ : L2.St} {te : TE} {H : Hp} {x : V}, Ev te σ H x → EvT (tTest (tOp (fun x y H Q => y = V.non ∧ Q (.bl (decide (x = .non))) H) te (tC .non))) σ H (decide (x = .non)) := fun {σ te H x} h => et_test (ev_op h ev_c fun H6 _ Q q => ⟨rfl, q H6 (Ex.refl _)⟩)
    rcases p with ⟨hi, rfl⟩ | ⟨rs, hi, a, xs, rfl, _, hx, hR⟩
    · refine q_when (b := true) (et_is (isN (x := .non) (ev_var rfl)) (decide_eq_true rfl)) (fun _ H2 e2 => ?_) fun z => nomatch z
      exact s_ret (ev_call0 (z := .bl true) (stx t) (ea_cons (ev_var rfl) ea_nil) (fun H3 e3 => ⟨rfl, .inl ⟨t, rfl, hl, hi⟩⟩) fun _ _ _ p => p) fun H3 e3 => k _ _ (e1.trans (e2.trans e3)) rfl
    · refine q_when (b := false) (et_is (isN (x := .ref a) (ev_var rfl)) (decide_eq_false fun z => nomatch z)) (fun z => nomatch z) fun _ H2 e2 => ?_
      refine q_asgR (er_read (K := K) (A := A) (ev_var rfl) hl hi) fun v3 H3 e3 ⟨b, ys, hv3, hbn, hy, hR3⟩ => ?_
      subst hv3
      have ho := in_ok hi
      have hrl := in_len hi
      have hx3 := e3 _ _ (e2 _ _ hx)
      have hRx := hR.up (e2.trans e3)
      have hab : a ≠ b := ne_of_none (e2 _ _ hx) hbn
      refine q_when (b := false) ?_ (fun z => nomatch z) fun _ H4 e4 => ?_
      · refine et_is (et_or (et_not (et_B (ev_isi (ev_var rfl) ev_c (.ty _) (.base (.lst hy)) kit_ll))) fun _ => et_or (et_test (ev_op (ev_var rfl) (ev_var rfl) (rv_neSame (dp_rs hy hR3) (dp_rs hx3 hRx) (sh_rs rs)))) fun _ => et_test (ev_op (ev_call0 (z := stx (wr rs)) (.ref b, rs) (ea_cons (ev_var rfl) ea_nil) (fun H4 e4 => ⟨rfl, ⟨b, ys, rfl, e4 _ _ hy, hR3.up e4⟩, by show rs.length ≤ 10000; omega, ho⟩) fun _ _ _ p => p) (ev_var rfl) rv_neT)) ?_
        rw [wr_in hi, decide_eq_true rfl]
        rfl
      · have hyl := hR3.len
        refine q_appR (R := fun v H => PairAt H v (0, 1)) (e4 _ _ hy) (ev_var rfl) ((eur (eu_tup (vs := [.int 0, .int 1]) (ea_cons ev_c (ea_cons ev_c ea_nil)) (by show 2 ≤ 100000; decide))).imp fun v H5 _ ⟨p, hv, _, hp⟩ => ⟨p, hv, hp⟩) (by omega) fun v H5 e5 hv => ?_
        have e45 := e4.trans e5
        have hx5 : (upd H5 b (.lst (ys ++ [v]))) a = some (.lst xs) := by
          rw [upd_ne hab]
          exact e45 _ _ hx3
        have hR5 := (hRx.up e45).mut (ys ++ [v]) (e45 _ _ hy)
        refine s_ret (v := .bl true) (ev_opR (Ra := fun v H => ∃ c zs, v = .ref c ∧ H c = some (.lst zs) ∧ RsL H zs rs) ((er_read (K := K) (A := A) (ev_var rfl) hl hi).imp fun v H6 _ ⟨c, zs, h1, _, h2, h3⟩ => ⟨c, zs, h1, h2, h3⟩) (ev_var rfl) fun v6 H6 e6 ⟨c, zs, hv6, hc, hR6⟩ => ?_) fun H7 e7 => k _ _ ((Ex.mut (e1.trans (e2.trans (e3.trans e45))) (fresh_back (e1.trans e2) hbn)).trans e7) rfl
        subst hv6
        exact rv_eqSame (dp_rs hc hR6) (dp_rs (e6 _ _ hx5) (hR5.up e6)) (sh_rs rs)
end
/-! ### the other texts -/
abbrev rRepS : R2 := fun x y H Q => ∃ (c : Nat) (k : Int), x = .str ⟨#[c]⟩ ∧ y = .int k ∧ 2 ≤ k ∧ k ≤ 100000 ∧ Q (stx (List.replicate k.toNat c)) H
theorem fold_rep (c : Nat) : ∀ (n : Nat) (acc : Array Nat), (List.replicate n #[c]).foldl (· ++ ·) acc = acc ++ (List.replicate n c).toArray
  | 0, acc => by simp
  | n + 1, acc => by
    rw [List.replicate_succ, List.foldl_cons, fold_rep c n, List.replicate_succ, Array.append_assoc]
    congr 1
    apply Array.ext'
    simp
theorem op_rep_str {X : Cx} : OpR X (binaryOp .Mult) rRepS := by
  intro pins s σ H x y v u Q I rx ry h
  obtain ⟨c, k, rfl, rfl, h2, h3, q⟩ := h
  obtain ⟨t, rfl⟩ := rx
  obtain ⟨t', rfl⟩ := ry
  have hz : k.toNat ≤ sizeLine := sz_of (by omega)
  refine P.mul_str ?_ (fun _ _ => ?_) (fun _ _ => ?_) ?_
  · rw [decide_eq_false (by omega), decide_eq_false (by omega)]
    rfl
  · show ¬ ((1 : Int) > _)
    have : (1 : Int) ≤ (2 ^ 63 - 1) / k := (Int.le_ediv_iff_mul_le (by omega)).mpr (by omega)
    omega
  · have e : (Str.length ⟨#[c]⟩) * k.toNat = k.toNat := Nat.one_mul _
    rw [e]
    first
    | exact notLong hz
    | (unfold Builtin.Str.tooLong; exact decide_eq_false (by omega))
    | (simp [Builtin.Str.tooLong]; omega)
  · rw [if_neg (by omega), if_neg (show ¬ (k == 1 || Str.length ⟨#[c]⟩ == 0) = true by
      have : (k == 1) = false := beq_eq_false_iff_ne.mpr (by omega)
      rw [this]
      exact Bool.false_ne_true)]
    have e : ((List.replicate k.toNat #[c]).foldl (· ++ ·) #[]) = (List.replicate k.toNat c).toArray := by
      rw [fold_rep]
      simp
    show Made.post (Made.str ⟨(List.replicate k.toNat #[c]).foldl (· ++ ·) #[]⟩) _ _
    rw [e]
    exact ⟨by rw [SX.S_len, List.length_replicate]; exact hz, .str _, H, I.tok _, ⟨_, rfl⟩, q⟩
/-- a text of at most 9000 signs -/
def TxtX (v : V) (_ : Hp) : Prop := ∃ a : List Nat, v = stx a ∧ a.length ≤ 9000
theorem upTxt : UpH TxtX := fun _ _ _ _ h => h
/-- a list of n such -/
def TxtL (n : Nat) (v : V) (H : Hp) : Prop := ∃ p vs, v = .ref p ∧ H p = some (.lst vs) ∧ AllH n TxtX vs H
section
variable {K : PySem.W.Frag} {H : Hp} {σ : L2.St} {ta tb te : TE}
theorem tx_c {c : Str} (h : c.length ≤ 9000) : EvR (tC (.str c)) σ H TxtX := (evr ev_c).imp fun v H1 _ hv => ⟨c.cps.toList, hv.trans (congrArg V.str (SX.S_tl c).symm), h⟩
theorem tx_lst {tl : TA} {n : Nat} (h : EvAR tl σ H (AllH n TxtX)) (hn : n ≤ 100000) : EvR (tLst tl) σ H (TxtL n) := (er_lst h (fun vs H1 p => by rw [p.1]; exact hn)).imp fun v H2 _ ⟨p, vs, H1, hv, _, e, ⟨h1, h2⟩, hp⟩ => ⟨p, vs, hv, hp, h1, h2⟩
theorem tx_cat {m n : Nat} (ha : EvR ta σ H (TxtL m)) (hb : EvR tb σ H (TxtL n)) (hl : m + n ≤ 100000) : EvR (tOp rCat ta tb) σ H (TxtL (m + n)) := fun H1 e Q q =>
  ha H1 e _ fun x H2 e2 ⟨p, xs, hx, hp, h1, h2⟩ => hb H2 (e.trans e2) _ fun y H3 e3 ⟨r, ys, hy, hr, h3, h4⟩ => ⟨p, r, xs, ys, hx, hy, e3 _ _ hp, hr, sz_of (by rw [h1, h3]; exact hl), fun l hn => q _ _ ((e2.trans e3).trans (Ex.new hn)) ⟨l, _, rfl, upd_same, by rw [List.length_append, h1, h3], fun z hz => (List.mem_append.mp hz).elim (h2 z) (h4 z)⟩⟩
theorem tx_v {n i : Nat} {v : V} (h : σ[i]? = some (some v)) (hv : TxtL n v H) : EvR (tVar i) σ H (TxtL n) := (evr (ev_var h)).imp fun x H2 e hx => by
  obtain ⟨p, vs, h1, h2, h3⟩ := hv
  exact ⟨p, vs, by rw [hx, h1], e _ _ h2, h3.1, h3.2⟩
theorem tx_nines {c d : Str} (hc : c = SX.S [57]) (hd : d.length = 2) : EvR (tOp (fun x y H Q => ∃ i j, x = V.str i ∧ y = V.str j ∧ i.length + j.length ≤ sizeLine ∧ Q (.str (i ++ j)) H) (tOp rRepS (tC (.str c)) (tC (.int 4000))) (tC (.str d))) σ H TxtX := by
  subst hc
  have hl : (List.replicate (4000 : Int).toNat 57).length = 4000 := List.length_replicate
  have hd' : d.cps.toList.length = 2 := by rw [Array.length_toList]; exact hd
  refine (evr (ev_op (ev_op (z := stx (List.replicate (4000 : Int).toNat 57)) ev_c ev_c fun H1 _ Q q => ⟨57, 4000, rfl, rfl, by decide, by decide, q H1 (Ex.refl _)⟩) (ev_cs (SX.S_tl d).symm) (rv_addT (by rw [hl, hd']; decide)))).imp fun v H1 _ hv => ⟨_, hv, by rw [List.length_append, hl, hd']; decide⟩
theorem tx_nines2 {c d : Str} (hc : c = SX.S [57]) (hd : d.length = 2) : EvR (tOp (fun x y H Q => ∃ i j, x = V.str i ∧ y = V.str j ∧ i.length + j.length ≤ sizeLine ∧ Q (.str (i ++ j)) H) (tC (.str d)) (tOp rRepS (tC (.str c)) (tC (.int 4000)))) σ H TxtX := by
  subst hc
  have hl : (List.replicate (4000 : Int).toNat 57).length = 4000 := List.length_replicate
  have hd' : d.cps.toList.length = 2 := by rw [Array.length_toList]; exact hd
  refine (evr (ev_op (ev_cs (SX.S_tl d).symm) (ev_op (z := stx (List.replicate (4000 : Int).toNat 57)) ev_c ev_c fun H1 _ Q q => ⟨57, 4000, rfl, rfl, by decide, by decide, q H1 (Ex.refl _)⟩) (rv_addT (by rw [hl, hd']; decide)))).imp fun v H1 _ hv => ⟨_, hv, by rw [List.length_append, hl, hd']; decide⟩
end
def sp_l_few (_ : PySem.W.Frag) : Sp := spX (fun (_ : Unit) vs _ => vs = []) (fun _ _ v H' => TxtL 37 v H')
section
variable {P : Program} {w : World} {K : PySem.W.Frag} {mg : Str → Option Value} {base : Heap} {A : Ad}
theorem ok_l_few (T : Txt K mg A) : Okk P w K mg base 1 A.a_l_few [] (sp_l_few K) := by
  refine okk T.F_l_few sc_l_few (fun vs H Q E h => ?_) (fun cdv Ar outer s H vs Q E hr h => ?_)
  · obtain ⟨d, rfl, _⟩ := h
    rfl
  · obtain ⟨_, rfl, k⟩ := h
    refine ⟨_, (pss_cons (ps_set (i := 0) sc_l_few.nd rfl (.inl rfl) (pe_lst (pa_cons pe_str (pa_cons pe_str (pa_cons pe_str (pa_cons pe_str (pa_cons pe_str (pa_cons pe_str (pa_cons pe_str (pa_cons pe_str (pa_cons pe_str (pa_cons pe_str (pa_cons pe_str (pa_cons pe_str (pa_cons pe_str (pa_cons pe_str (pa_cons pe_str (pa_cons pe_str pa_nil))))))))))))))))))
      (pss_cons (ps_set (i := 0) sc_l_few.nd rfl (.inl rfl) (pe_op op_cat (pv 0) (pe_lst (pa_cons pe_str pa_nil))))
      (pss_cons (ps_set (i := 0) sc_l_few.nd rfl (.inl rfl) (pe_op op_cat (pv 0) (pe_lst (pa_cons pe_str (pa_cons pe_str (pa_cons pe_str (pa_cons pe_str (pa_cons pe_str (pa_cons pe_str (pa_cons pe_str (pa_cons pe_str pa_nil)))))))))))
      (pss_cons (ps_set (i := 0) sc_l_few.nd rfl (.inl rfl) (pe_op op_cat (pv 0) (pe_lst (pa_cons pe_str (pa_cons pe_str pa_nil)))))
      (pss_cons (ps_set (i := 0) sc_l_few.nd rfl (.inl rfl) (pe_op op_cat (pv 0) (pe_lst (pa_cons pe_str (pa_cons pe_str (pa_cons pe_str (pa_cons pe_str (pa_cons pe_str (pa_cons pe_str (pa_cons pe_str (pa_cons pe_str pa_nil)))))))))))
      (pss_one (ps_ret (pe_op op_cat (pv 0) (pe_lst (pa_cons (pe_op op_add_str (pe_op op_rep_str pe_str pe_int) pe_str) (pa_cons (pe_op op_add_str pe_str (pe_op op_rep_str pe_str pe_int)) pa_nil))))))))))), ?_⟩
    refine q_asgR (tx_lst (n := 16) (by repeat (first | exact ear_all0 | refine ear_all1 upTxt (tx_c (by decide +kernel)) ?_)) (by decide)) fun v1 H1 e1 h1 => ?_
    refine q_asgR (tx_cat (tx_v rfl h1) (tx_lst (n := 1) (by repeat (first | exact ear_all0 | refine ear_all1 upTxt (tx_c (by decide +kernel)) ?_)) (by decide)) (by decide)) fun v2 H2 e2 h2 => ?_
    refine q_asgR (tx_cat (tx_v rfl h2) (tx_lst (n := 8) (by repeat (first | exact ear_all0 | refine ear_all1 upTxt (tx_c (by decide +kernel)) ?_)) (by decide)) (by decide)) fun v3 H3 e3 h3 => ?_
    refine q_asgR (tx_cat (tx_v rfl h3) (tx_lst (n := 2) (by repeat (first | exact ear_all0 | refine ear_all1 upTxt (tx_c (by decide +kernel)) ?_)) (by decide)) (by decide)) fun v4 H4 e4 h4 => ?_
    refine q_asgR (tx_cat (tx_v rfl h4) (tx_lst (n := 8) (by repeat (first | exact ear_all0 | refine ear_all1 upTxt (tx_c (by decide +kernel)) ?_)) (by decide)) (by decide)) fun v5 H5 e5 h5 => ?_
    exact s_retR (tx_cat (tx_v rfl h5) (tx_lst (n := 2) (ear_all1 upTxt (tx_nines (by decide +kernel) (by decide +kernel)) (ear_all1 upTxt (tx_nines2 (by decide +kernel) (by decide +kernel)) ear_all0)) (by decide)) (by decide)) fun v6 H6 e6 h6 => k _ _ (e1.trans (e2.trans (e3.trans (e4.trans (e5.trans e6))))) h6
end
/-! ### the law -/
def sp_law (K : PySem.W.Frag) : Sp := fun vs H Q _ => ∃ v ns, vs = [v] ∧ Scr K H v ns ∧ ∀ H', Q (.bl true) H'
/-- a text of at most n signs -/
def TxtN (n : Nat) (v : V) (_ : Hp) : Prop := ∃ a : List Nat, v = stx a ∧ a.length ≤ n
/-- a part of a slice, any -/
def EvP (to : TO) (σ : L2.St) (H : Hp) : Prop := ∀ H1, Ex H H1 → ∀ Q : Option Int → Hp → Prop, (∀ o H2, Ex H1 H2 → Q o H2) → to σ H1 Q
section
variable {K : PySem.W.Frag} {H : Hp} {σ : L2.St} {ta tb te ti : TE} {t1 t2 : TO}
theorem ep_none : EvP tNoPart σ H := fun H1 _ Q q => q none H1 (Ex.refl _)
theorem ep_some {R : V → Hp → Prop} (h : EvR te σ H R) (hi : ∀ v H1, R v H1 → ∃ i : Int, v = .int i) : EvP (tPart te) σ H := fun H1 e Q q => h H1 e _ fun v H2 e2 p => by
  obtain ⟨i, hv⟩ := hi v H2 p
  exact ⟨i, hv, q _ H2 e2⟩
theorem tn_sl {a : List Nat} {n : Nat} (h : Ev ta σ H (stx a)) (ha : a.length ≤ n) (hn : n ≤ 100000) (h1 : EvP t1 σ H) (h2 : EvP t2 σ H) : EvR (tSl rSlS ta t1 t2) σ H (TxtN n) := fun H1 e Q q =>
  h H1 e _ fun H2 e2 => h1 H2 (e.trans e2) _ fun lo H3 e3 => h2 H3 ((e.trans e2).trans e3) _ fun hi H4 e4 => ⟨SX.S a, rfl, sz_of (by rw [SX.S_len]; omega), q _ H4 ((e2.trans e3).trans e4) ⟨(cutS (SX.S a) lo hi).cps.toList, congrArg V.str (SX.S_tl _).symm, by
    have := cutS_length (SX.S a) lo hi
    rw [SX.S_len] at this
    rw [Array.length_toList]
    exact Nat.le_trans this ha⟩⟩
theorem tn_cat {m n : Nat} (ha : EvR ta σ H (TxtN m)) (hb : ∀ H1, Ex H H1 → EvR tb σ H1 (TxtN n)) (hl : m + n ≤ 100000) : EvR (tOp (fun x y H Q => ∃ i j, x = V.str i ∧ y = V.str j ∧ i.length + j.length ≤ sizeLine ∧ Q (.str (i ++ j)) H) ta tb) σ H (TxtN (m + n)) :=
  er_op ha (fun x H1 e _ => hb H1 e) fun x y H1 H2 e ⟨a, hx, h1⟩ e2 ⟨b, hy, h2⟩ Q q => ⟨SX.S a, SX.S b, hx, hy, sz_of (by rw [SX.S_len, SX.S_len]; omega), by
    rw [SX.S_cat]
    exact q _ H2 (Ex.refl _) ⟨a ++ b, rfl, by rw [List.length_append]; omega⟩⟩
theorem tn_v {i n : Nat} {v : V} (h : σ[i]? = some (some v)) (hv : TxtN n v H) : EvR (tVar i) σ H (TxtN n) := (evr (ev_var h)).imp fun x _ _ hx => by rw [hx]; exact hv
/-- one sign of a text, at a drawn place -/
theorem tn_ix {c : Str} {n : Nat} (hc : c.length = n) (hn : n ≤ 100000) (hi : EvR ti σ H (fun v _ => ∃ r : Int, v = .int r ∧ 0 ≤ r ∧ r < (n : Int))) : EvR (tOp rIxS (tC (.str c)) ti) σ H (TxtN 1) :=
  er_op (Ra := fun v _ => v = .str c) (evr ev_c) (fun x H1 e _ => hi.mono e) fun x y H1 H2 e hx e2 ⟨r, hy, h0, h1⟩ Q q => by
    have hl : r.toNat < c.cps.toList.length := by
      rw [Array.length_toList]
      show r.toNat < c.length
      omega
    exact ⟨c, r, c.cps.toList[r.toNat], hx, hy, sz_of (by rw [hc]; exact hn), (show atI c.cps.toList r = some c.cps.toList[r.toNat] by
      have := atI_nat (List.getElem?_eq_getElem hl)
      rw [Int.toNat_of_nonneg h0] at this
      exact this), q _ H2 (Ex.refl _) ⟨[c.cps.toList[r.toNat]], rfl, Nat.le_refl _⟩⟩
/-- (x, y)[drawn] -/
theorem tn_pick {tl : TA} {n : Nat} {R : V → Hp → Prop} (up : UpH R) (h : EvAR tl σ H (AllH n R)) (hn : n ≤ 100000) (hi : EvR ti σ H (fun v _ => ∃ r : Int, v = .int r ∧ 0 ≤ r ∧ r < (n : Int))) : EvR (tOp (rIxT K) (tTup tl) ti) σ H R :=
  er_op (er_tup h (fun vs H1 p => by rw [p.1]; exact hn)) (fun x H1 e _ => hi.mono e) fun x y H1 H2 e ⟨p, vs, H0, hx, _, e0, ⟨hl, ha⟩, hp⟩ e2 ⟨r, hy, h0, h1⟩ Q q => by
    subst hx hy
    have hlt : r.toNat < vs.length := by omega
    exact rv_ixT (st_of (e2 _ _ hp)) (at_of (j := r.toNat) (by omega) (List.getElem?_eq_getElem hlt)) H2 (Ex.refl _) Q fun H3 e3 => q _ H3 e3 (up _ _ _ ((e0.trans e2).trans e3) (ha _ (List.getElem_mem hlt)))
/-- all([.. for x in a list all of whose items hold R]) -/
theorem ev_allX {tl : TE} {n j : Nat} {R : V → Hp → Prop} (up : UpH R) (h : EvR tl σ H (fun v H => ∃ p vs, v = .ref p ∧ H p = some (.lst vs) ∧ AllH n R vs H)) (hn : n ≤ 40000) (hw : ∀ x, wipe ((wipe σ [j]).set j (some x)) [j] = wipe σ [j])
    (hg : ∀ x H1, Ex H H1 → R x H1 → Ev te ((wipe σ [j]).set j (some x)) H1 (.bl true)) : Ev (tCB (rAll K) (tCons (tLc (iList K tl) (gName j) tYes te [j]) tNil)) σ H (.bl true) := by
  refine ev_is (ev_allR (bs := (List.range n).map fun _ => true) (er_lcB (R := fun v H2 => ∃ p, v = .ref p ∧ SqL K H2 p (((List.range n).map fun _ => true).map V.bl)) h fun v H1 e ⟨p, vs, hv, hp, hl, ha⟩ => ?_) fun v H1 _ h => h) (congrArg V.bl (all_true fun _ _ => rfl))
  subst hv
  refine (er_lcLn (fun k y _ => y = .bl true) stb_val ev_c (sq_of hp) (by omega) hw fun i x hi => evr (hg x H1 e (ha x (List.mem_of_getElem? hi)))).imp fun v H2 _ hq => ?_
  have h2 := LcR.sq (K := K) hq
  rw [List.map_map, ← hl]
  exact h2
end
section
variable {P : Program} {w : World} {K : PySem.W.Frag} {mg : Str → Option Value} {base : Heap} {A : Ad}
theorem ev_right {σ : L2.St} {H : Hp} {te : TE} {n : Nat} (h : EvR te σ H (TxtN n)) (hn : n ≤ 9000) : Ev (tCall (sp_l_right K) [] E0 (tCons te tNil)) σ H (.bl true) := ev_call1 h fun x H1 _ ⟨a, hx, ha⟩ => ⟨a, ⟨by rw [hx], by omega⟩, fun _ _ _ p => p⟩
theorem ok_law (T : Txt K mg A) {fd : FuncData} (F : Fun K "law" "law" s_law A.a_law fd) : FnOk P w K mg base CX0 8 A.a_law fd ["_law_script"] (sp_law K) := by
  obtain ⟨_, G_l_cell_at, b_l_cell_at, k_l_cell_at⟩ := ok_l_cell_at (P := P) (w := w) (base := base) T
  obtain ⟨_, G_l_draw, b_l_draw, k_l_draw⟩ := ok_l_draw (P := P) (w := w) (base := base) T
  obtain ⟨_, G_l_few, b_l_few, k_l_few⟩ := ok_l_few (P := P) (w := w) (base := base) T
  obtain ⟨_, G_l_refused, b_l_refused, k_l_refused⟩ := ok_l_refused (P := P) (w := w) (base := base) T
  obtain ⟨_, G_l_rests, b_l_rests, k_l_rests⟩ := ok_l_rests (P := P) (w := w) (base := base) T
  obtain ⟨_, G_l_right, b_l_right, k_l_right⟩ := ok_l_right (P := P) (w := w) (base := base) T
  obtain ⟨_, G_written, b_written, k_written⟩ := ok_written (P := P) (w := w) (base := base) T
  refine F.ok sc_law (fun vs H Q E h => ?_) (fun cdv Ar outer s H vs Q E hr h => ?_)
  · obtain ⟨_, _, rfl, _⟩ := h
    rfl
  · obtain ⟨_, ns, rfl, ⟨a, rfl, hS, hl⟩, k⟩ := h
    have hr_l_cell_at : Room 1 _ := hr.mono (by decide)
    have hr_l_draw : Room 1 _ := hr.mono (by decide)
    have hr_l_few : Room 1 _ := hr.mono (by decide)
    have hr_l_refused : Room 6 _ := hr.mono (by decide)
    have hr_l_rests : Room 3 _ := hr.mono (by decide)
    have hr_l_right : Room 7 _ := hr.mono (by decide)
    have hr_written : Room 5 _ := hr.mono (by decide)
    have hsc : Scr K H (.ref a) ns := ⟨a, rfl, hS, hl⟩
    refine ⟨_, (pss_cons (ps_set (i := 1) sc_law.nd rfl (.inl rfl) (pe_call G_l_rests hr_l_rests (by rfl) T.g_l_rests k_l_rests b_l_rests .nil pass0 (pa_cons (pv 0) pa_nil)))
      (pss_cons (ps_set (i := 2) sc_law.nd rfl (.inl rfl) (pe_ifExp (pt_cmpR (neDK K hr.units) (pv 1) (pe_lst pa_nil) (nomark _)) (pe_join pe_str (pe_lc (own := [("_law_rest", 9), ("_law_turn", 10)]) rfl sc_law.nd (pi_listK K (pv 1)) (blkOk_by (N := ["_law_script", "_law_rests_here", "_law_text", "_law_handed", "_law_cell", "_law_k", "_law_at", "_law_sign", "_law_thing", "_law_rest", "_law_turn", "_law_other"]) (sc := defScope s_law) (by decide +kernel)) (fun _ _ _ _ _ => (pg_tupK (n := 2) K rfl (pgs_cons (pg_name (i := 9) sc_law.nd rfl (Or.inl rfl)) (pgs_cons (pg_name (i := 10) sc_law.nd rfl (Or.inl rfl)) pgs_nil)))) (fun _ _ _ _ _ => pts_nil) (fun _ _ _ _ _ => (pe_op op_add_str (pe_op op_add_str (pe_callTy call_str_int (by rfl) T.z_str (by decide +kernel) (pa_cons (pv 9) pa_nil)) pe_str) (pe_callTy call_str_int (by rfl) T.z_str (by decide +kernel) (pa_cons (pv 10) pa_nil)))))) pe_str))
      (pss_cons (ps_set (i := 3) sc_law.nd rfl (.inl rfl) (pe_callTy (list_ofK K) (by rfl) T.z_list (by decide +kernel) (pa_cons (pv 1) pa_nil)))
      (pss_cons (ps_if (PW.pt (pw_or (pt_cmpR op_ne (pe_call G_written hr_written (by rfl) T.g_written k_written b_written .nil pass0 (pa_cons (pv 3) pa_nil)) (pv 2) (nomark _)) (pw_or (pt_cmpR (neDK K hr.units) (pv 3) (pv 1) (nomark _)) (pw_or1 (pt_not (pt_val (pe_call G_l_right hr_l_right (by rfl) T.g_l_right k_l_right b_l_right .nil pass0 (pa_cons (pv 2) pa_nil)))))))) (pss_one (ps_ret pe_bl)) pss_nil)
      (pss_cons (ps_set (i := 4) sc_law.nd rfl (.inl rfl) (pe_op op_add (pe_call G_l_cell_at hr_l_cell_at (by rfl) T.g_l_cell_at k_l_cell_at b_l_cell_at .nil pass0 (pa_cons (pv 0) (pa_cons pe_int pa_nil))) (pe_op op_mul pe_int (pe_call G_l_cell_at hr_l_cell_at (by rfl) T.g_l_cell_at k_l_cell_at b_l_cell_at .nil pass0 (pa_cons (pv 0) (pa_cons pe_int pa_nil))))))
      (pss_cons (ps_for PassesOwn.never rfl (pi_range1 (by rfl) T.z_range (pa_cons pe_int pa_nil)) (pg_name (i := 5) sc_law.nd rfl (Or.inl rfl)) (pss_cons (ps_set (i := 6) sc_law.nd rfl (.inl rfl) (pe_call G_l_draw hr_l_draw (by rfl) T.g_l_draw k_l_draw b_l_draw .nil pass0 (pa_cons (pe_op op_add (pv 4) (pv 5)) (pa_cons pe_int (pa_cons (pe_op op_add (pe_callB call_len_str (by rfl) T.z_len (by decide +kernel) (pa_cons (pv 2) pa_nil)) pe_int) pa_nil)))))
      (pss_cons (ps_set (i := 7) sc_law.nd rfl (.inl rfl) (pe_ix (ix_tupK K) (pe_tup (pa_cons pe_str (pa_cons (pe_ix ix_str pe_str (pe_call G_l_draw hr_l_draw (by rfl) T.g_l_draw k_l_draw b_l_draw .nil pass0 (pa_cons (pe_op op_add (pv 4) (pv 5)) (pa_cons pe_int (pa_cons pe_int pa_nil)))) (fun _ _ => rfl)) pa_nil))) (pe_call G_l_draw hr_l_draw (by rfl) T.g_l_draw k_l_draw b_l_draw .nil pass0 (pa_cons (pe_op op_add (pv 4) (pv 5)) (pa_cons pe_int (pa_cons pe_int pa_nil)))) (fun _ _ => rfl)))
      (pss_one (ps_if (pt_not (pt_val (pe_call G_l_right hr_l_right (by rfl) T.g_l_right k_l_right b_l_right .nil pass0 (pa_cons (pe_op op_add_str (pe_op op_add_str (pe_slice sl_str (pv 2) po_none (po_some (pv 6))) (pv 7)) (pe_slice sl_str (pv 2) (po_some (pe_op op_add (pv 6) (pe_call G_l_draw hr_l_draw (by rfl) T.g_l_draw k_l_draw b_l_draw .nil pass0 (pa_cons (pe_op op_add (pv 4) (pv 5)) (pa_cons pe_int (pa_cons pe_int pa_nil)))))) po_none)) pa_nil)))) (pss_one (ps_ret pe_bl)) pss_nil)))))
      (pss_cons (ps_if (pt_not (pt_val (pe_callB (allK K rfl) (by rfl) T.z_all (by decide +kernel) (pa_cons (pe_lc (own := [("_law_other", 11)]) rfl sc_law.nd (pi_listK K (pe_call0 G_l_few hr_l_few (by rfl) T.g_l_few k_l_few b_l_few .nil pass0)) (blkOk_by (N := ["_law_script", "_law_rests_here", "_law_text", "_law_handed", "_law_cell", "_law_k", "_law_at", "_law_sign", "_law_thing", "_law_rest", "_law_turn", "_law_other"]) (sc := defScope s_law) (by decide +kernel)) (fun _ _ _ _ _ => (pg_name (i := 11) sc_law.nd rfl (Or.inl rfl))) (fun _ _ _ _ _ => pts_nil) (fun _ _ _ _ _ => (pe_call G_l_right hr_l_right (by rfl) T.g_l_right k_l_right b_l_right .nil pass0 (pa_cons (pv 11) pa_nil)))) pa_nil)))) (pss_one (ps_ret pe_bl)) pss_nil)
      (pss_one (ps_ret (pe_callB (allK K rfl) (by rfl) T.z_all (by decide +kernel) (pa_cons (pe_lc (own := [("_law_thing", 8)]) rfl sc_law.nd (pi_listK K (pe_lst (pa_cons pe_non (pa_cons pe_int (pa_cons (pe_lst (pa_cons pe_str pa_nil)) (pa_cons pe_bl pa_nil)))))) (blkOk_by (N := ["_law_script", "_law_rests_here", "_law_text", "_law_handed", "_law_cell", "_law_k", "_law_at", "_law_sign", "_law_thing", "_law_rest", "_law_turn", "_law_other"]) (sc := defScope s_law) (by decide +kernel)) (fun _ _ _ _ _ => (pg_name (i := 8) sc_law.nd rfl (Or.inl rfl))) (fun _ _ _ _ _ => pts_nil) (fun _ _ _ _ _ => (pe_call G_l_refused hr_l_refused (by rfl) T.g_l_refused k_l_refused b_l_refused .nil pass0 (pa_cons (pv 8) pa_nil)))) pa_nil))))))))))), ?_⟩
    refine q_asgR (R := fun v H' => ∃ (l : Addr) (xs : List V) (rs : List (Int × Int)), v = .ref l ∧ H' l = some (.lst xs) ∧ RsL H' xs rs ∧ rs.length = ns.length ∧ ∀ p ∈ rs, RstOk p) (er_call (.ref a, ns) (ea_cons (ev_var rfl) ea_nil) (fun H1 e => ⟨rfl, hsc.up e⟩) fun H1 v H2 _ _ ⟨l, xs, rs, hv, _, hx, hR, hrl, ho⟩ => ⟨l, xs, rs, hv, hx, hR, hrl, ho⟩) fun v1 H1 e1 ⟨l, xs, rs, hv1, hx, hR, hrl, ho⟩ => ?_
    subst hv1
    have hlen : (wr rs).length ≤ 1009 := by
      have := wr_len ho
      omega
    have h15 := sum15 ho
    refine q_asg (v := stx (wr rs)) (ev_if (b := !decide (rs = [])) (et_test ?_) (fun hb => ?_) fun hb => ?_) fun H2 e2 => ?_
    · refine (er_op (Ra := fun v _ => v = .ref l) (Rb := fun _ v H => LstAt [] v H) (R := fun v _ => v = .bl (!decide (rs = []))) (evr (ev_var rfl)) (fun x H3 e3 _ => (er_new (xs := []) ea_nil (by show 0 ≤ 100000; decide)).imp fun v H4 _ ⟨p, hv, _, hp⟩ => ⟨p, hv, hp⟩) fun x y H3 H4 e3 hx3 e4 ⟨p, hy, hp⟩ Q q => ?_).ev fun _ _ _ p => p
      subst hx3 hy
      refine rv_neD (dp_rs ((e3.trans e4) _ _ hx) (hR.up (e3.trans e4))) (dp_rs (rs := []) hp trivial) (sh_rs rs) (sh_rs []) (b := !decide (rs = [])) ?_ H4 (Ex.refl _) Q fun H5 e5 => q _ H5 e5 rfl
      cases rs with
      | nil =>
        rw [SeqAt.eqv_refl (dRs []) (can_of (sh_rs []))]
        rfl
      | cons p r => rfl
    · have hz : rs ≠ [] := by
        rw [Bool.not_eq_true'] at hb
        exact of_decide_eq_false hb
      refine ev_is (ev_join (ws := rs.map wrW) (H0 := H1) blank_is ?_ (by rw [List.length_map]; omega)) ?_
      · rw [List.map_map]
        exact er_lcRsV (fun p => stx (wrW p)) (ev_var rfl) hx hR (by omega) (fun _ _ => rfl) fun p hp => ev_word (ho p hp) (ea_cons (ev_var rfl) ea_nil) (ea_cons (ev_var rfl) ea_nil) colon_is
      · show stx _ = stx (wr rs)
        unfold wr
        rw [if_neg hz]
    · rw [Bool.not_eq_false'] at hb
      have hz := of_decide_eq_true hb
      refine ev_is (ev_cs dash_is) ?_
      rw [hz]
      rfl
    have hx2 := e2 _ _ hx
    have hR2 := hR.up e2
    refine q_asgR (er_list (ev_var rfl) (sq_of hx2)) fun v3 H3 e3 ⟨h, hv3, hhn, hh⟩ => ?_
    subst hv3
    have hx3 := e3 _ _ hx2
    have hR3 := hR2.up e3
    refine q_when (b := false) ?_ (fun z => nomatch z) fun _ H4 e4 => ?_
    · refine et_is (et_or (a := false) (et_is (et_test (ev_op (ev_call0 (z := stx (wr rs)) (.ref h, rs) (ea_cons (ev_var rfl) ea_nil) (fun H4 e4 => ⟨rfl, ⟨h, xs, rfl, e4 _ _ hh, hR3.up e4⟩, by show rs.length ≤ 10000; omega, ho⟩) fun _ _ _ p => p) (ev_var rfl) rv_neT)) (by rw [decide_eq_true rfl]; rfl)) fun _ =>
        et_or (et_test (ev_op (ev_var rfl) (ev_var rfl) (rv_neSame (dp_rs hh hR3) (dp_rs hx3 hR3) (sh_rs rs)))) fun _ => et_not (et_B (ev_right (n := 1009) ((evr (v := stx (wr rs)) (ev_var rfl)).imp fun v H4 _ hv => ⟨wr rs, hv, hlen⟩) (by decide)))) rfl
    have hsc4 := hsc.up (e1.trans (e2.trans (e3.trans e4)))
    refine q_asg (v := .int (ns.getD 3 0 + 7 * ns.getD 0 0)) (ev_op (ev_cell (j := 3) (ev_var rfl) ev_c hsc4) (ev_op ev_c (ev_cell (j := 0) (ev_var rfl) ev_c hsc4) (rv_I (.inl (by decide)))) rv_I0) fun H5 e5 => ?_
    generalize ns.getD 3 0 + 7 * ns.getD 0 0 = cell
    refine q_forR1 (n := 2) (ea_cons ev_c ea_nil) (by decide) (fun i σ' H' => ∃ s5 s6 s7 : Option V, σ' = [some (.ref a), some (.ref l), some (stx (wr rs)), some (.ref h), some (.int cell), s5, s6, s7, none, none, none, none] ∧ Ex H5 H') (fun H6 e6 => ⟨_, _, _, rfl, e6⟩) (fun i σ' H' hi hP => ?_) fun σ' H' hP => ?_
    · obtain ⟨s5, s6, s7, rfl, e6⟩ := hP
      have hL : (((SX.S (wr rs)).length : Nat) : Int) = ((wr rs).length : Int) := by rw [SX.S_len]
      refine q_asgR (er_draw (K := K) (ev_op (ev_var rfl) (ev_var rfl) rv_I0) ev_c (ev_op (ev_cb (ea_cons (ev_var rfl) ea_nil) (rc_lenT (a := wr rs) (by omega))) ev_c rv_I0) (by decide) (by omega)) fun v6 H6 e7 ⟨at_, hv6, a0, a1⟩ => ?_
      subst hv6
      refine q_asgR (tn_pick (n := 2) (R := TxtN 1) (fun _ _ _ _ h => h) (ear_all1 (fun _ _ _ _ h => h) ((evr ev_c).imp fun v _ _ hv => ⟨[], by rw [hv]; exact congrArg V.str empty_is, Nat.zero_le _⟩) (ear_all1 (fun _ _ _ _ h => h) (tn_ix (n := 14) (by decide +kernel) (by decide) (er_draw (K := K) (ev_op (ev_var rfl) (ev_var rfl) rv_I0) ev_c ev_c (by decide) (by decide))) ear_all0)) (by decide) (er_draw (K := K) (ev_op (ev_var rfl) (ev_var rfl) rv_I0) ev_c ev_c (by decide) (by decide))) fun v7 H7 e8 h7 => ?_
      refine s_when (b := false) ?_ (fun z => nomatch z) fun _ H8 e9 => ⟨_, _, _, rfl, e6.trans (e7.trans (e8.trans e9))⟩
      refine et_is (et_not (et_B (ev_right (n := 1009 + 1 + 1009) (tn_cat (tn_cat (tn_sl (a := wr rs) (ev_var rfl) hlen (by decide) ep_none (ep_some (R := fun v _ => v = .int at_) (evr (ev_var rfl)) fun v _ hv => ⟨_, hv⟩)) (fun H8 _ => tn_v rfl h7) (by decide)) (fun H8 _ => tn_sl (a := wr rs) (ev_var rfl) hlen (by decide) (ep_some (R := fun v _ => ∃ i : Int, v = .int i) (er_op (Ra := fun v _ => v = .int at_) (Rb := fun _ v _ => ∃ r : Int, v = .int r ∧ 0 ≤ r ∧ r < 2) (evr (ev_var rfl)) (fun x H9 _ _ => er_draw (K := K) (ev_op (ev_var rfl) (ev_var rfl) rv_I0) ev_c ev_c (by decide) (by decide)) fun x y H9 H10 _ hx9 _ ⟨r, hy, _⟩ Q q => by
        rw [hx9, hy]
        exact (rv_I0 : RV (rI0 fun i j => .int (i + j)) _ _ _ _) H10 (Ex.refl _) Q fun H11 e11 => q _ H11 e11 ⟨_, rfl⟩) fun v _ hv => hv) ep_none) (by decide)) (by decide)))) rfl
    · obtain ⟨s5, s6, s7, rfl, e6⟩ := hP
      refine q_when (b := false) ?_ (fun z => nomatch z) fun _ H7 e7 => ?_
      · exact et_is (et_not (et_B (ev_allX (n := 37) (R := TxtX) upTxt (show EvR _ _ _ (TxtL 37) from fun H8 e8 Q q => ⟨(), rfl, fun v H9 e9 hv => q v H9 e9 hv⟩) (by decide) (fun _ => rfl) fun x H8 _ ⟨t, hx8, ht⟩ => ev_right (n := 9000) ((evr (v := x) (ev_var rfl)).imp fun v _ _ hv => ⟨t, by rw [hv, hx8], ht⟩) (by decide)))) rfl
      · have upN : UpH (fun v H => NotTy K H v "str") := fun _ _ _ e h => h.up e
        exact s_ret (v := .bl true) (ev_allX (n := 4) (R := fun v H => NotTy K H v "str") upN ((er_lst (T := AllH 4 fun v H => NotTy K H v "str") (ear_all1 upN ((evr ev_c).imp fun v H8 _ hv => by rw [hv]; exact ⟨"NoneType", .base .non, by decide, by decide⟩) (ear_all1 upN ((evr ev_c).imp fun v H8 _ hv => by rw [hv]; exact ⟨"int", .base (.int _), by decide, by decide⟩) (ear_all1 upN ((er_new (xs := [_]) (ea_cons ev_c ea_nil) (by show 1 ≤ 100000; decide)).imp fun v H8 _ ⟨p, hv, _, hp⟩ => by rw [hv]; exact ⟨"list", .base (.lst hp), by decide, by decide⟩) (ear_all1 upN ((evr ev_c).imp fun v H8 _ hv => by rw [hv]; exact ⟨"bool", .base (.bl _), by decide, by decide⟩) ear_all0)))) fun vs H8 p => by rw [p.1]; decide).imp fun v H8 _ ⟨p, vs, H0, hv, _, e0, ⟨h1, h2⟩, hp⟩ => ⟨p, vs, hv, hp, h1, fun x hx => (h2 x hx).up e0⟩) (by decide) (fun _ => rfl) fun x H8 _ hx8 => ev_call0 (z := .bl true) x (ea_cons (ev_var rfl) ea_nil) (fun H9 e9 => ⟨rfl, .inr (hx8.up e9)⟩) fun _ _ _ p => p) fun H8 _ => k _
end
theorem all_mk {l : PySem.W.OpenLaw} {w : World} {K : PySem.W.Frag} {h : Heap} {mg : Str → Option Value} {fa : Addr} {x_is_whole x_is_turn x_is_rest x_check_rests x_written x_number_in x_read x_l_cell_at x_l_draw x_l_turns x_l_rests x_l_number x_l_in x_l_refused x_l_right x_l_few x_law y_RestError y_BadRests y_BadNumbers y_BadRound y_BadRest y_BadCount y_BadText : Addr} (X : K.In h) (G : h.Ns mainGlobals mg) (hfa : mg "law" = some (.ref fa))
    {od0 an0 : Option Addr} {sl0 : Array (Option Value)} {oc0 kV0 dc0 pm0 cd0 ct0 : Value}
    {od1 an1 : Option Addr} {sl1 : Array (Option Value)} {oc1 kV1 dc1 pm1 cd1 ct1 : Value}
    {od2 an2 : Option Addr} {sl2 : Array (Option Value)} {oc2 kV2 dc2 pm2 cd2 ct2 : Value}
    {od3 an3 : Option Addr} {sl3 : Array (Option Value)} {oc3 kV3 dc3 pm3 cd3 ct3 : Value}
    {od4 an4 : Option Addr} {sl4 : Array (Option Value)} {oc4 kV4 dc4 pm4 cd4 ct4 : Value}
    {od5 an5 : Option Addr} {sl5 : Array (Option Value)} {oc5 kV5 dc5 pm5 cd5 ct5 : Value}
    {od6 an6 : Option Addr} {sl6 : Array (Option Value)} {oc6 kV6 dc6 pm6 cd6 ct6 : Value}
    {od7 an7 : Option Addr} {sl7 : Array (Option Value)} {oc7 kV7 dc7 pm7 cd7 ct7 : Value}
    {od8 an8 : Option Addr} {sl8 : Array (Option Value)} {oc8 kV8 dc8 pm8 cd8 ct8 : Value}
    {od9 an9 : Option Addr} {sl9 : Array (Option Value)} {oc9 kV9 dc9 pm9 cd9 ct9 : Value}
    {od10 an10 : Option Addr} {sl10 : Array (Option Value)} {oc10 kV10 dc10 pm10 cd10 ct10 : Value}
    {od11 an11 : Option Addr} {sl11 : Array (Option Value)} {oc11 kV11 dc11 pm11 cd11 ct11 : Value}
    {od12 an12 : Option Addr} {sl12 : Array (Option Value)} {oc12 kV12 dc12 pm12 cd12 ct12 : Value}
    {od13 an13 : Option Addr} {sl13 : Array (Option Value)} {oc13 kV13 dc13 pm13 cd13 ct13 : Value}
    {od14 an14 : Option Addr} {sl14 : Array (Option Value)} {oc14 kV14 dc14 pm14 cd14 ct14 : Value}
    {od15 an15 : Option Addr} {sl15 : Array (Option Value)} {oc15 kV15 dc15 pm15 cd15 ct15 : Value}
    {od16 an16 : Option Addr} {sl16 : Array (Option Value)} {oc16 kV16 dc16 pm16 cd16 ct16 : Value}
    {tk_GREATEST : Tok}
    {tk_FIGURES : Tok}
    (yRestError : PySem.W.nsIn K mainGlobals "RestError" = some (some (.ref y_RestError)))
    (yBadRests : PySem.W.nsIn K mainGlobals "BadRests" = some (some (.ref y_BadRests)))
    (yBadNumbers : PySem.W.nsIn K mainGlobals "BadNumbers" = some (some (.ref y_BadNumbers)))
    (yBadRound : PySem.W.nsIn K mainGlobals "BadRound" = some (some (.ref y_BadRound)))
    (yBadRest : PySem.W.nsIn K mainGlobals "BadRest" = some (some (.ref y_BadRest)))
    (yBadCount : PySem.W.nsIn K mainGlobals "BadCount" = some (some (.ref y_BadCount)))
    (yBadText : PySem.W.nsIn K mainGlobals "BadText" = some (some (.ref y_BadText)))
    (a0 : PySem.W.nsIn K mainGlobals "is_whole" = some (some (.ref x_is_whole)))
    (l0 : K.lookup x_is_whole = some ⟨oc0, od0, .func (PySem.W.fnOf "is_whole" "is_whole" (defArgs s_is_whole) (defBody s_is_whole) (defScope s_is_whole) .none kV0 dc0 pm0 an0 cd0 ct0), sl0⟩)
    (c0 : PySem.W.codeIn K cd0 "is_whole" = true)
    (k0 : PySem.W.keepIn K (.ref x_is_whole) = true)
    (a1 : PySem.W.nsIn K mainGlobals "is_turn" = some (some (.ref x_is_turn)))
    (l1 : K.lookup x_is_turn = some ⟨oc1, od1, .func (PySem.W.fnOf "is_turn" "is_turn" (defArgs s_is_turn) (defBody s_is_turn) (defScope s_is_turn) .none kV1 dc1 pm1 an1 cd1 ct1), sl1⟩)
    (c1 : PySem.W.codeIn K cd1 "is_turn" = true)
    (k1 : PySem.W.keepIn K (.ref x_is_turn) = true)
    (a2 : PySem.W.nsIn K mainGlobals "is_rest" = some (some (.ref x_is_rest)))
    (l2 : K.lookup x_is_rest = some ⟨oc2, od2, .func (PySem.W.fnOf "is_rest" "is_rest" (defArgs s_is_rest) (defBody s_is_rest) (defScope s_is_rest) .none kV2 dc2 pm2 an2 cd2 ct2), sl2⟩)
    (c2 : PySem.W.codeIn K cd2 "is_rest" = true)
    (k2 : PySem.W.keepIn K (.ref x_is_rest) = true)
    (a3 : PySem.W.nsIn K mainGlobals "check_rests" = some (some (.ref x_check_rests)))
    (l3 : K.lookup x_check_rests = some ⟨oc3, od3, .func (PySem.W.fnOf "check_rests" "check_rests" (defArgs s_check_rests) (defBody s_check_rests) (defScope s_check_rests) .none kV3 dc3 pm3 an3 cd3 ct3), sl3⟩)
    (c3 : PySem.W.codeIn K cd3 "check_rests" = true)
    (k3 : PySem.W.keepIn K (.ref x_check_rests) = true)
    (a4 : PySem.W.nsIn K mainGlobals "written" = some (some (.ref x_written)))
    (l4 : K.lookup x_written = some ⟨oc4, od4, .func (PySem.W.fnOf "written" "written" (defArgs s_written) (defBody s_written) (defScope s_written) .none kV4 dc4 pm4 an4 cd4 ct4), sl4⟩)
    (c4 : PySem.W.codeIn K cd4 "written" = true)
    (k4 : PySem.W.keepIn K (.ref x_written) = true)
    (a5 : PySem.W.nsIn K mainGlobals "number_in" = some (some (.ref x_number_in)))
    (l5 : K.lookup x_number_in = some ⟨oc5, od5, .func (PySem.W.fnOf "number_in" "number_in" (defArgs s_number_in) (defBody s_number_in) (defScope s_number_in) .none kV5 dc5 pm5 an5 cd5 ct5), sl5⟩)
    (c5 : PySem.W.codeIn K cd5 "number_in" = true)
    (k5 : PySem.W.keepIn K (.ref x_number_in) = true)
    (a6 : PySem.W.nsIn K mainGlobals "read" = some (some (.ref x_read)))
    (l6 : K.lookup x_read = some ⟨oc6, od6, .func (PySem.W.fnOf "read" "read" (defArgs s_read) (defBody s_read) (defScope s_read) .none kV6 dc6 pm6 an6 cd6 ct6), sl6⟩)
    (c6 : PySem.W.codeIn K cd6 "read" = true)
    (k6 : PySem.W.keepIn K (.ref x_read) = true)
    (a7 : PySem.W.nsIn K mainGlobals "_law_cell_at" = some (some (.ref x_l_cell_at)))
    (l7 : K.lookup x_l_cell_at = some ⟨oc7, od7, .func (PySem.W.fnOf "_law_cell_at" "_law_cell_at" (defArgs s_l_cell_at) (defBody s_l_cell_at) (defScope s_l_cell_at) .none kV7 dc7 pm7 an7 cd7 ct7), sl7⟩)
    (c7 : PySem.W.codeIn K cd7 "_law_cell_at" = true)
    (k7 : PySem.W.keepIn K (.ref x_l_cell_at) = true)
    (a8 : PySem.W.nsIn K mainGlobals "_law_draw" = some (some (.ref x_l_draw)))
    (l8 : K.lookup x_l_draw = some ⟨oc8, od8, .func (PySem.W.fnOf "_law_draw" "_law_draw" (defArgs s_l_draw) (defBody s_l_draw) (defScope s_l_draw) .none kV8 dc8 pm8 an8 cd8 ct8), sl8⟩)
    (c8 : PySem.W.codeIn K cd8 "_law_draw" = true)
    (k8 : PySem.W.keepIn K (.ref x_l_draw) = true)
    (a9 : PySem.W.nsIn K mainGlobals "_law_turns" = some (some (.ref x_l_turns)))
    (l9 : K.lookup x_l_turns = some ⟨oc9, od9, .func (PySem.W.fnOf "_law_turns" "_law_turns" (defArgs s_l_turns) (defBody s_l_turns) (defScope s_l_turns) .none kV9 dc9 pm9 an9 cd9 ct9), sl9⟩)
    (c9 : PySem.W.codeIn K cd9 "_law_turns" = true)
    (k9 : PySem.W.keepIn K (.ref x_l_turns) = true)
    (a10 : PySem.W.nsIn K mainGlobals "_law_rests" = some (some (.ref x_l_rests)))
    (l10 : K.lookup x_l_rests = some ⟨oc10, od10, .func (PySem.W.fnOf "_law_rests" "_law_rests" (defArgs s_l_rests) (defBody s_l_rests) (defScope s_l_rests) .none kV10 dc10 pm10 an10 cd10 ct10), sl10⟩)
    (c10 : PySem.W.codeIn K cd10 "_law_rests" = true)
    (k10 : PySem.W.keepIn K (.ref x_l_rests) = true)
    (a11 : PySem.W.nsIn K mainGlobals "_law_number" = some (some (.ref x_l_number)))
    (l11 : K.lookup x_l_number = some ⟨oc11, od11, .func (PySem.W.fnOf "_law_number" "_law_number" (defArgs s_l_number) (defBody s_l_number) (defScope s_l_number) .none kV11 dc11 pm11 an11 cd11 ct11), sl11⟩)
    (c11 : PySem.W.codeIn K cd11 "_law_number" = true)
    (k11 : PySem.W.keepIn K (.ref x_l_number) = true)
    (a12 : PySem.W.nsIn K mainGlobals "_law_in" = some (some (.ref x_l_in)))
    (l12 : K.lookup x_l_in = some ⟨oc12, od12, .func (PySem.W.fnOf "_law_in" "_law_in" (defArgs s_l_in) (defBody s_l_in) (defScope s_l_in) .none kV12 dc12 pm12 an12 cd12 ct12), sl12⟩)
    (c12 : PySem.W.codeIn K cd12 "_law_in" = true)
    (k12 : PySem.W.keepIn K (.ref x_l_in) = true)
    (a13 : PySem.W.nsIn K mainGlobals "_law_refused" = some (some (.ref x_l_refused)))
    (l13 : K.lookup x_l_refused = some ⟨oc13, od13, .func (PySem.W.fnOf "_law_refused" "_law_refused" (defArgs s_l_refused) (defBody s_l_refused) (defScope s_l_refused) .none kV13 dc13 pm13 an13 cd13 ct13), sl13⟩)
    (c13 : PySem.W.codeIn K cd13 "_law_refused" = true)
    (k13 : PySem.W.keepIn K (.ref x_l_refused) = true)
    (a14 : PySem.W.nsIn K mainGlobals "_law_right" = some (some (.ref x_l_right)))
    (l14 : K.lookup x_l_right = some ⟨oc14, od14, .func (PySem.W.fnOf "_law_right" "_law_right" (defArgs s_l_right) (defBody s_l_right) (defScope s_l_right) .none kV14 dc14 pm14 an14 cd14 ct14), sl14⟩)
    (c14 : PySem.W.codeIn K cd14 "_law_right" = true)
    (k14 : PySem.W.keepIn K (.ref x_l_right) = true)
    (a15 : PySem.W.nsIn K mainGlobals "_law_few" = some (some (.ref x_l_few)))
    (l15 : K.lookup x_l_few = some ⟨oc15, od15, .func (PySem.W.fnOf "_law_few" "_law_few" (defArgs s_l_few) (defBody s_l_few) (defScope s_l_few) .none kV15 dc15 pm15 an15 cd15 ct15), sl15⟩)
    (c15 : PySem.W.codeIn K cd15 "_law_few" = true)
    (k15 : PySem.W.keepIn K (.ref x_l_few) = true)
    (a16 : PySem.W.nsIn K mainGlobals "law" = some (some (.ref x_law)))
    (l16 : K.lookup x_law = some ⟨oc16, od16, .func (PySem.W.fnOf "law" "law" (defArgs s_law) (defBody s_law) (defScope s_law) .none kV16 dc16 pm16 an16 cd16 ct16), sl16⟩)
    (c16 : PySem.W.codeIn K cd16 "law" = true)
    (k16 : PySem.W.keepIn K (.ref x_law) = true)
    (z_isinstance : PySem.W.nsIn K mainGlobals "isinstance" = some none)
    (z_int : PySem.W.nsIn K mainGlobals "int" = some none)
    (z_bool : PySem.W.nsIn K mainGlobals "bool" = some none)
    (z_tuple : PySem.W.nsIn K mainGlobals "tuple" = some none)
    (z_len : PySem.W.nsIn K mainGlobals "len" = some none)
    (z_list : PySem.W.nsIn K mainGlobals "list" = some none)
    (z_all : PySem.W.nsIn K mainGlobals "all" = some none)
    (z_str : PySem.W.nsIn K mainGlobals "str" = some none)
    (z_range : PySem.W.nsIn K mainGlobals "range" = some none)
    (z_sum : PySem.W.nsIn K mainGlobals "sum" = some none)
    (z_enumerate : PySem.W.nsIn K mainGlobals "enumerate" = some none)
    (z_abs : PySem.W.nsIn K mainGlobals "abs" = some none)
    (z_any : PySem.W.nsIn K mainGlobals "any" = some none)
    (z_ValueError : PySem.W.nsIn K mainGlobals "ValueError" = some none)
    (v_GREATEST : PySem.W.nsIn K mainGlobals "GREATEST" = some (some (.int 1000000 tk_GREATEST)))
    (v_FIGURES : PySem.W.nsIn K mainGlobals "FIGURES" = some (some (.str "0123456789" tk_FIGURES)))
    (hn : PySem.W.specialIn K (.builtin "object.__class__") "__get__" = some (some (.builtin "getset_descriptor.__get__")))
    (htk : PySem.W.takesIn K (.builtin "object.__class__") = some true)
    (sb_RestError : PySem.W.subIn K (.ref y_RestError) (.type "BaseException") = some true)
    (ty_RestError : PySem.W.typeIn K (.ref y_RestError) = some (.type "type"))
    (hd_RestError : PySem.W.hasDictIn K y_RestError = true)
    (sb_BadRests : PySem.W.subIn K (.ref y_BadRests) (.type "BaseException") = some true)
    (ty_BadRests : PySem.W.typeIn K (.ref y_BadRests) = some (.type "type"))
    (hd_BadRests : PySem.W.hasDictIn K y_BadRests = true)
    (ex_BadRests : PySem.W.excIn K y_BadRests [.type "ValueError", .type "Exception", .type "BaseException", .type "object"] "ValueError.__new__" = true)
    (ke_BadRests : PySem.W.keepIn K (.ref y_BadRests) = true)
    (su_BadRests_RestError : PySem.W.subIn K (.ref y_BadRests) (.ref y_RestError) = some true)
    (su_BadRests_BadRests : PySem.W.subIn K (.ref y_BadRests) (.ref y_BadRests) = some true)
    (hg_BadRests : PySem.W.findIn K (.ref y_BadRests) "__getattribute__" = some (some (.builtin "BaseException.__getattribute__")))
    (hk_BadRests : PySem.W.findIn K (.ref y_BadRests) "__getattr__" = some none)
    (hx_BadRests : PySem.W.hasDictIn K y_BadRests = true)
    (ha_BadRests : PySem.W.findIn K (.ref y_BadRests) "__class__" = some (some (.builtin "object.__class__")))
    (hm_BadRests : PySem.W.mroIn K y_BadRests (.type "object") = some true)
    (kq_BadRests_BadRests : PySem.W.kitOne K (.ref y_BadRests) (.ref y_BadRests) = some true)
    (kq_BadRests_BadNumbers : PySem.W.kitOne K (.ref y_BadRests) (.ref y_BadNumbers) = some false)
    (kq_BadRests_BadRound : PySem.W.kitOne K (.ref y_BadRests) (.ref y_BadRound) = some false)
    (kq_BadRests_BadRest : PySem.W.kitOne K (.ref y_BadRests) (.ref y_BadRest) = some false)
    (kq_BadRests_BadCount : PySem.W.kitOne K (.ref y_BadRests) (.ref y_BadCount) = some false)
    (kq_BadRests_BadText : PySem.W.kitOne K (.ref y_BadRests) (.ref y_BadText) = some false)
    (kq_BadRests_ValueError : PySem.W.kitOne K (.ref y_BadRests) (.type "ValueError") = some true)
    (sb_BadText : PySem.W.subIn K (.ref y_BadText) (.type "BaseException") = some true)
    (ty_BadText : PySem.W.typeIn K (.ref y_BadText) = some (.type "type"))
    (ex_BadText : PySem.W.excIn K y_BadText [.type "ValueError", .type "Exception", .type "BaseException", .type "object"] "ValueError.__new__" = true)
    (ke_BadText : PySem.W.keepIn K (.ref y_BadText) = true)
    (su_BadText_RestError : PySem.W.subIn K (.ref y_BadText) (.ref y_RestError) = some true)
    (su_BadText_BadRests : PySem.W.subIn K (.ref y_BadText) (.ref y_BadRests) = some false)
    (hg_BadText : PySem.W.findIn K (.ref y_BadText) "__getattribute__" = some (some (.builtin "BaseException.__getattribute__")))
    (hk_BadText : PySem.W.findIn K (.ref y_BadText) "__getattr__" = some none)
    (hx_BadText : PySem.W.hasDictIn K y_BadText = true)
    (ha_BadText : PySem.W.findIn K (.ref y_BadText) "__class__" = some (some (.builtin "object.__class__")))
    (hm_BadText : PySem.W.mroIn K y_BadText (.type "object") = some true)
    (kq_BadText_BadRests : PySem.W.kitOne K (.ref y_BadText) (.ref y_BadRests) = some false)
    (kq_BadText_BadNumbers : PySem.W.kitOne K (.ref y_BadText) (.ref y_BadNumbers) = some false)
    (kq_BadText_BadRound : PySem.W.kitOne K (.ref y_BadText) (.ref y_BadRound) = some false)
    (kq_BadText_BadRest : PySem.W.kitOne K (.ref y_BadText) (.ref y_BadRest) = some false)
    (kq_BadText_BadCount : PySem.W.kitOne K (.ref y_BadText) (.ref y_BadCount) = some false)
    (kq_BadText_BadText : PySem.W.kitOne K (.ref y_BadText) (.ref y_BadText) = some true)
    (kq_BadText_ValueError : PySem.W.kitOne K (.ref y_BadText) (.type "ValueError") = some true) :
    ∃ fd : FuncData, (∀ (s : Shared) (v : Value), BindsTo s fd ⟨[v], []⟩ [("_law_script", v)]) ∧ ∀ base : Heap, K.In base → base.Ns mainGlobals mg → FnOk l.prog w K mg base CX0 8 fa fd ["_law_script"] (sp_law K) := by
  have e := hfa.symm.trans (PySem.W.mg_of X G a16)
  cases e
  have T : Txt K mg ⟨x_is_whole, x_is_turn, x_is_rest, x_check_rests, x_written, x_number_in, x_read, x_l_cell_at, x_l_draw, x_l_turns, x_l_rests, x_l_number, x_l_in, x_l_refused, x_l_right, x_l_few, fa, y_RestError, y_BadRests, y_BadNumbers, y_BadRound, y_BadRest, y_BadCount, y_BadText⟩ := {
    g_RestError := PySem.W.mg_of X G yRestError,
    g_BadRests := PySem.W.mg_of X G yBadRests,
    g_BadNumbers := PySem.W.mg_of X G yBadNumbers,
    g_BadRound := PySem.W.mg_of X G yBadRound,
    g_BadRest := PySem.W.mg_of X G yBadRest,
    g_BadCount := PySem.W.mg_of X G yBadCount,
    g_BadText := PySem.W.mg_of X G yBadText,
    F_is_whole := ⟨_, fun_mk (st := s_is_whole) l0 c0 k0, (fun_mk (st := s_is_whole) l0 c0 k0).binds fun _ _ _ _ _ _ us hl => match us, hl with | [_], _ => rfl⟩,
    g_is_whole := PySem.W.mg_of X G a0,
    F_is_turn := ⟨_, fun_mk (st := s_is_turn) l1 c1 k1, (fun_mk (st := s_is_turn) l1 c1 k1).binds fun _ _ _ _ _ _ us hl => match us, hl with | [_], _ => rfl⟩,
    g_is_turn := PySem.W.mg_of X G a1,
    F_is_rest := ⟨_, fun_mk (st := s_is_rest) l2 c2 k2, (fun_mk (st := s_is_rest) l2 c2 k2).binds fun _ _ _ _ _ _ us hl => match us, hl with | [_], _ => rfl⟩,
    g_is_rest := PySem.W.mg_of X G a2,
    F_check_rests := ⟨_, fun_mk (st := s_check_rests) l3 c3 k3, (fun_mk (st := s_check_rests) l3 c3 k3).binds fun _ _ _ _ _ _ us hl => match us, hl with | [_], _ => rfl⟩,
    g_check_rests := PySem.W.mg_of X G a3,
    F_written := ⟨_, fun_mk (st := s_written) l4 c4 k4, (fun_mk (st := s_written) l4 c4 k4).binds fun _ _ _ _ _ _ us hl => match us, hl with | [_], _ => rfl⟩,
    g_written := PySem.W.mg_of X G a4,
    F_number_in := ⟨_, fun_mk (st := s_number_in) l5 c5 k5, (fun_mk (st := s_number_in) l5 c5 k5).binds fun _ _ _ _ _ _ us hl => match us, hl with | [_], _ => rfl⟩,
    g_number_in := PySem.W.mg_of X G a5,
    F_read := ⟨_, fun_mk (st := s_read) l6 c6 k6, (fun_mk (st := s_read) l6 c6 k6).binds fun _ _ _ _ _ _ us hl => match us, hl with | [_], _ => rfl⟩,
    g_read := PySem.W.mg_of X G a6,
    F_l_cell_at := ⟨_, fun_mk (st := s_l_cell_at) l7 c7 k7, (fun_mk (st := s_l_cell_at) l7 c7 k7).binds fun _ _ _ _ _ _ us hl => match us, hl with | [_, _], _ => rfl⟩,
    g_l_cell_at := PySem.W.mg_of X G a7,
    F_l_draw := ⟨_, fun_mk (st := s_l_draw) l8 c8 k8, (fun_mk (st := s_l_draw) l8 c8 k8).binds fun _ _ _ _ _ _ us hl => match us, hl with | [_, _, _], _ => rfl⟩,
    g_l_draw := PySem.W.mg_of X G a8,
    F_l_turns := ⟨_, fun_mk (st := s_l_turns) l9 c9 k9, (fun_mk (st := s_l_turns) l9 c9 k9).binds fun _ _ _ _ _ _ us hl => match us, hl with | [_], _ => rfl⟩,
    g_l_turns := PySem.W.mg_of X G a9,
    F_l_rests := ⟨_, fun_mk (st := s_l_rests) l10 c10 k10, (fun_mk (st := s_l_rests) l10 c10 k10).binds fun _ _ _ _ _ _ us hl => match us, hl with | [_], _ => rfl⟩,
    g_l_rests := PySem.W.mg_of X G a10,
    F_l_number := ⟨_, fun_mk (st := s_l_number) l11 c11 k11, (fun_mk (st := s_l_number) l11 c11 k11).binds fun _ _ _ _ _ _ us hl => match us, hl with | [_], _ => rfl⟩,
    g_l_number := PySem.W.mg_of X G a11,
    F_l_in := ⟨_, fun_mk (st := s_l_in) l12 c12 k12, (fun_mk (st := s_l_in) l12 c12 k12).binds fun _ _ _ _ _ _ us hl => match us, hl with | [_], _ => rfl⟩,
    g_l_in := PySem.W.mg_of X G a12,
    F_l_refused := ⟨_, fun_mk (st := s_l_refused) l13 c13 k13, (fun_mk (st := s_l_refused) l13 c13 k13).binds fun _ _ _ _ _ _ us hl => match us, hl with | [_], _ => rfl⟩,
    g_l_refused := PySem.W.mg_of X G a13,
    F_l_right := ⟨_, fun_mk (st := s_l_right) l14 c14 k14, (fun_mk (st := s_l_right) l14 c14 k14).binds fun _ _ _ _ _ _ us hl => match us, hl with | [_], _ => rfl⟩,
    g_l_right := PySem.W.mg_of X G a14,
    F_l_few := ⟨_, fun_mk (st := s_l_few) l15 c15 k15, (fun_mk (st := s_l_few) l15 c15 k15).binds fun _ _ _ _ _ _ us hl => match us, hl with | [], _ => rfl⟩,
    g_l_few := PySem.W.mg_of X G a15,
    F_law := ⟨_, fun_mk (st := s_law) l16 c16 k16, (fun_mk (st := s_law) l16 c16 k16).binds fun _ _ _ _ _ _ us hl => match us, hl with | [_], _ => rfl⟩,
    g_law := PySem.W.mg_of X G a16,
    z_isinstance := PySem.W.mg_none_of X G z_isinstance,
    z_int := PySem.W.mg_none_of X G z_int,
    z_bool := PySem.W.mg_none_of X G z_bool,
    z_tuple := PySem.W.mg_none_of X G z_tuple,
    z_len := PySem.W.mg_none_of X G z_len,
    z_list := PySem.W.mg_none_of X G z_list,
    z_all := PySem.W.mg_none_of X G z_all,
    z_str := PySem.W.mg_none_of X G z_str,
    z_range := PySem.W.mg_none_of X G z_range,
    z_sum := PySem.W.mg_none_of X G z_sum,
    z_enumerate := PySem.W.mg_none_of X G z_enumerate,
    z_abs := PySem.W.mg_none_of X G z_abs,
    z_any := PySem.W.mg_none_of X G z_any,
    z_ValueError := PySem.W.mg_none_of X G z_ValueError,
    k_GREATEST := ⟨_, PySem.W.mg_of X G v_GREATEST⟩,
    k_FIGURES := ⟨_, PySem.W.mg_of X G v_FIGURES⟩,
    sb_RestError := sb_RestError,
    ty_RestError := ty_RestError,
    sb_BadRests := sb_BadRests,
    ty_BadRests := ty_BadRests,
    ex_BadRests := ex_BadRests,
    ke_BadRests := ke_BadRests,
    em_BadRests_RestError := PySem.W.exm_ref sb_RestError hd_RestError ty_RestError su_BadRests_RestError,
    em_BadRests_BadRests := PySem.W.exm_ref sb_BadRests hd_BadRests ty_BadRests su_BadRests_BadRests,
    xc_BadRests := ⟨hg_BadRests, hk_BadRests, sb_BadRests, hx_BadRests, ha_BadRests, hn, htk, hm_BadRests⟩,
    kq_BadRests_BadRests := kq_BadRests_BadRests,
    kq_BadRests_BadNumbers := kq_BadRests_BadNumbers,
    kq_BadRests_BadRound := kq_BadRests_BadRound,
    kq_BadRests_BadRest := kq_BadRests_BadRest,
    kq_BadRests_BadCount := kq_BadRests_BadCount,
    kq_BadRests_BadText := kq_BadRests_BadText,
    kq_BadRests_ValueError := kq_BadRests_ValueError,
    sb_BadText := sb_BadText,
    ty_BadText := ty_BadText,
    ex_BadText := ex_BadText,
    ke_BadText := ke_BadText,
    em_BadText_RestError := PySem.W.exm_ref sb_RestError hd_RestError ty_RestError su_BadText_RestError,
    em_BadText_BadRests := PySem.W.exm_ref sb_BadRests hd_BadRests ty_BadRests su_BadText_BadRests,
    xc_BadText := ⟨hg_BadText, hk_BadText, sb_BadText, hx_BadText, ha_BadText, hn, htk, hm_BadText⟩,
    kq_BadText_BadRests := kq_BadText_BadRests,
    kq_BadText_BadNumbers := kq_BadText_BadNumbers,
    kq_BadText_BadRound := kq_BadText_BadRound,
    kq_BadText_BadRest := kq_BadText_BadRest,
    kq_BadText_BadCount := kq_BadText_BadCount,
    kq_BadText_BadText := kq_BadText_BadText,
    kq_BadText_ValueError := kq_BadText_ValueError }
  refine ⟨PySem.W.fnOf "law" "law" (defArgs s_law) (defBody s_law) (defScope s_law) .none kV16 dc16 pm16 an16 cd16 ct16, fun s v => .of_eq rfl, fun base _ _ => ?_⟩
  exact ok_law T (fun_mk (st := s_law) l16 c16 k16)
end Wl
open PySem PySem.W PyProof.Rows in
set_option maxHeartbeats 0 in
theorem PySem.Challenge.cw_wheelrow_k07_written_holds : PySem.Challenge.rw_wheelrow_k07_written.Holds := by
  w_on; o_law; k_head; (case hw => w_witness2)
  k_fill
  refine L2.walk_of (l := PySem.Challenge.rw_wheelrow_k07_written) (n := 63) (k := 8) (x := "_law_script") (CX := fun _ => L2.CX0) (sp := fun w => Wl.sp_law _) rfl (by decide) rfl ⟨rfl, by decide, by decide⟩ (fun w h Y => PySem.W.kIn_of Y) ?F (fun _ _ a ns hl _ hS => ⟨_, ns, rfl, ⟨a, rfl, hS, hl⟩, fun _ => rfl⟩) (fun _ _ _ _ _ h => h)
  case F =>
    intro w mg fa h KX G hmg
    refine' Wl.all_mk KX G hmg ?yRestError ?yBadRests ?yBadNumbers ?yBadRound ?yBadRest ?yBadCount ?yBadText ?a0 ?l0 ?c0 ?k0 ?a1 ?l1 ?c1 ?k1 ?a2 ?l2 ?c2 ?k2 ?a3 ?l3 ?c3 ?k3 ?a4 ?l4 ?c4 ?k4 ?a5 ?l5 ?c5 ?k5 ?a6 ?l6 ?c6 ?k6 ?a7 ?l7 ?c7 ?k7 ?a8 ?l8 ?c8 ?k8 ?a9 ?l9 ?c9 ?k9 ?a10 ?l10 ?c10 ?k10 ?a11 ?l11 ?c11 ?k11 ?a12 ?l12 ?c12 ?k12 ?a13 ?l13 ?c13 ?k13 ?a14 ?l14 ?c14 ?k14 ?a15 ?l15 ?c15 ?k15 ?a16 ?l16 ?c16 ?k16 ?z_isinstance ?z_int ?z_bool ?z_tuple ?z_len ?z_list ?z_all ?z_str ?z_range ?z_sum ?z_enumerate ?z_abs ?z_any ?z_ValueError ?v_GREATEST ?v_FIGURES ?hn ?htk ?sb_RestError ?ty_RestError ?hd_RestError ?sb_BadRests ?ty_BadRests ?hd_BadRests ?ex_BadRests ?ke_BadRests ?su_BadRests_RestError ?su_BadRests_BadRests ?hg_BadRests ?hk_BadRests ?hx_BadRests ?ha_BadRests ?hm_BadRests ?kq_BadRests_BadRests ?kq_BadRests_BadNumbers ?kq_BadRests_BadRound ?kq_BadRests_BadRest ?kq_BadRests_BadCount ?kq_BadRests_BadText ?kq_BadRests_ValueError ?sb_BadText ?ty_BadText ?ex_BadText ?ke_BadText ?su_BadText_RestError ?su_BadText_BadRests ?hg_BadText ?hk_BadText ?hx_BadText ?ha_BadText ?hm_BadText ?kq_BadText_BadRests ?kq_BadText_BadNumbers ?kq_BadText_BadRound ?kq_BadText_BadRest ?kq_BadText_BadCount ?kq_BadText_BadText ?kq_BadText_ValueError
    (case yRestError => k_is)
    (case yBadRests => k_is)
    (case yBadNumbers => k_is)
    (case yBadRound => k_is)
    (case yBadRest => k_is)
    (case yBadCount => k_is)
    (case yBadText => k_is)
    (case a0 => k_is)
    (case l0 => k_is)
    (case c0 => k_is)
    (case k0 => k_is)
    (case a1 => k_is)
    (case l1 => k_is)
    (case c1 => k_is)
    (case k1 => k_is)
    (case a2 => k_is)
    (case l2 => k_is)
    (case c2 => k_is)
    (case k2 => k_is)
    (case a3 => k_is)
    (case l3 => k_is)
    (case c3 => k_is)
    (case k3 => k_is)
    (case a4 => k_is)
    (case l4 => k_is)
    (case c4 => k_is)
    (case k4 => k_is)
    (case a5 => k_is)
    (case l5 => k_is)
    (case c5 => k_is)
    (case k5 => k_is)
    (case a6 => k_is)
    (case l6 => k_is)
    (case c6 => k_is)
    (case k6 => k_is)
    (case a7 => k_is)
    (case l7 => k_is)
    (case c7 => k_is)
    (case k7 => k_is)
    (case a8 => k_is)
    (case l8 => k_is)
    (case c8 => k_is)
    (case k8 => k_is)
    (case a9 => k_is)
    (case l9 => k_is)
    (case c9 => k_is)
    (case k9 => k_is)
    (case a10 => k_is)
    (case l10 => k_is)
    (case c10 => k_is)
    (case k10 => k_is)
    (case a11 => k_is)
    (case l11 => k_is)
    (case c11 => k_is)
    (case k11 => k_is)
    (case a12 => k_is)
    (case l12 => k_is)
    (case c12 => k_is)
    (case k12 => k_is)
    (case a13 => k_is)
    (case l13 => k_is)
    (case c13 => k_is)
    (case k13 => k_is)
    (case a14 => k_is)
    (case l14 => k_is)
    (case c14 => k_is)
    (case k14 => k_is)
    (case a15 => k_is)
    (case l15 => k_is)
    (case c15 => k_is)
    (case k15 => k_is)
    (case a16 => k_is)
    (case l16 => k_is)
    (case c16 => k_is)
    (case k16 => k_is)
    (case z_isinstance => k_is)
    (case z_int => k_is)
    (case z_bool => k_is)
    (case z_tuple => k_is)
    (case z_len => k_is)
    (case z_list => k_is)
    (case z_all => k_is)
    (case z_str => k_is)
    (case z_range => k_is)
    (case z_sum => k_is)
    (case z_enumerate => k_is)
    (case z_abs => k_is)
    (case z_any => k_is)
    (case z_ValueError => k_is)
    (case v_GREATEST => k_is)
    (case v_FIGURES => k_is)
    (case hn => first | k_is | rfl)
    (case htk => first | k_is | rfl)
    (case sb_RestError => first | k_is | rfl)
    (case ty_RestError => k_is)
    (case hd_RestError => first | k_is | rfl)
    (case sb_BadRests => first | k_is | rfl)
    (case ty_BadRests => k_is)
    (case hd_BadRests => first | k_is | rfl)
    (case ex_BadRests => k_exc)
    (case ke_BadRests => k_is)
    (case su_BadRests_RestError => first | k_is | rfl)
    (case su_BadRests_BadRests => first | k_is | rfl)
    (case hg_BadRests => first | k_is | rfl)
    (case hk_BadRests => first | k_is | rfl)
    (case hx_BadRests => first | k_is | rfl)
    (case ha_BadRests => first | k_is | rfl)
    (case hm_BadRests => first | k_is | rfl)
    (case kq_BadRests_BadRests => first | k_is | rfl)
    (case kq_BadRests_BadNumbers => first | k_is | rfl)
    (case kq_BadRests_BadRound => first | k_is | rfl)
    (case kq_BadRests_BadRest => first | k_is | rfl)
    (case kq_BadRests_BadCount => first | k_is | rfl)
    (case kq_BadRests_BadText => first | k_is | rfl)
    (case kq_BadRests_ValueError => first | k_is | rfl)
    (case sb_BadText => first | k_is | rfl)
    (case ty_BadText => k_is)
    (case ex_BadText => k_exc)
    (case ke_BadText => k_is)
    (case su_BadText_RestError => first | k_is | rfl)
    (case su_BadText_BadRests => first | k_is | rfl)
    (case hg_BadText => first | k_is | rfl)
    (case hk_BadText => first | k_is | rfl)
    (case hx_BadText => first | k_is | rfl)
    (case ha_BadText => first | k_is | rfl)
    (case hm_BadText => first | k_is | rfl)
    (case kq_BadText_BadRests => first | k_is | rfl)
    (case kq_BadText_BadNumbers => first | k_is | rfl)
    (case kq_BadText_BadRound => first | k_is | rfl)
    (case kq_BadText_BadRest => first | k_is | rfl)
    (case kq_BadText_BadCount => first | k_is | rfl)
    (case kq_BadText_BadText => first | k_is | rfl)
    (case kq_BadText_ValueError => first | k_is | rfl)
