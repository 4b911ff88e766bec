import PyProof.Rows.All
import Wide.All
import OpenK.AllK
import Wide.FinOn
import HandS.ForMost
import HandS.ForExc
import HandS.Evl
import HandS.IsInst
import HandS.Wide
import HandS.Style
import HandS.Steps
import HandS.ExcCtx
import HandS.HotCalls
import HandS.ExcIs
import HandS.CallLocal
import HandS.SuiteRaise
import HandS.WordsExc
import HandS.Conv
import HandS.Codes
import HandS.Text
import HandS.StrMore
import HandS.Strs
import HandS.SortRule
import HandS.SortInts
import HandS.More
import PySem.Challenge.RW_wheelrow_k08_refused
set_option Elab.async false
set_option linter.all false
set_option maxRecDepth 100000
set_option maxHeartbeats 4000000
namespace Wl
/-- the part that goes into both -/
def pt (a b : Int) : Int := (Int.gcd a b : Int)
theorem pt_step (a b : Int) : pt b (a % b) = pt a b := by
  unfold pt
  have h : a % b = a - (a / b) * b := by
    have := Int.emod_add_mul_ediv a b
    rw [Int.mul_comm (a / b) b]; omega
  rw [h, Int.gcd_sub_mul_right_right, Int.gcd_comm]
theorem pt_zero (a : Int) (h : 0 ≤ a) : pt a 0 = a := by
  unfold pt
  rw [Int.gcd_zero_right]
  omega
theorem pt_abs (a b : Int) : pt (if a < 0 then -a else a) (if b < 0 then -b else b) = pt a b := by
  unfold pt
  split <;> split <;> simp
theorem pt_nn (a b : Int) : 0 ≤ pt a b := Int.natCast_nonneg _
theorem pt_dvd_l (a b : Int) : pt a b ∣ a := Int.gcd_dvd_left ..
theorem pt_dvd_r (a b : Int) : pt a b ∣ b := Int.gcd_dvd_right ..
theorem dvd_pt {a b c : Int} (h1 : c ∣ a) (h2 : c ∣ b) : c ∣ pt a b := Int.dvd_coe_gcd h1 h2
theorem pt_pos_r (a : Int) {b : Int} (h : 0 < b) : 0 < pt a b := by
  have h1 := pt_nn a b
  have h2 := pt_dvd_r a b
  have : pt a b ≠ 0 := by
    intro e
    rw [e] at h2
    have := Int.zero_dvd.mp h2
    omega
  omega
theorem pt_le_r (a : Int) {b : Int} (h : 0 < b) : pt a b ≤ b := Int.le_of_dvd h (pt_dvd_r a b)
theorem fmod_eq (a b : Int) : a.fmod b = a - a.fdiv b * b := by
  rw [Int.fmod_def, Int.mul_comm]
theorem pt_stepF (a b : Int) : pt b (a - a.fdiv b * b) = pt a b := by
  unfold pt
  rw [Int.gcd_sub_mul_right_right, Int.gcd_comm]
/-- the state of shares_of: here = (a, x, y), there = (b, u, v) -/
structure Sh (one other a x y b u v : Int) : Prop where
  ha : a = x * one + y * other
  hb : b = u * one + v * other
  hg : pt a b = pt one other
  hs : (a = one ∧ x = 1 ∧ y = 0 ∧ b = other ∧ u = 0 ∧ v = 1) ∨
    (a.natAbs ≤ other.natAbs ∧ b.natAbs < a.natAbs ∧ ((0 ≤ a ∧ 0 ≤ b) ∨ (a ≤ 0 ∧ b ≤ 0)) ∧ x.natAbs ≤ other.natAbs ∧ x.natAbs * b.natAbs + u.natAbs * a.natAbs ≤ other.natAbs)
theorem Sh.start (one other : Int) : Sh one other one 1 0 other 0 1 := ⟨by omega, by omega, rfl, .inl ⟨rfl, rfl, rfl, rfl, rfl, rfl⟩⟩
theorem mod_lt {a b : Int} (hb : b ≠ 0) : (a - a.fdiv b * b).natAbs < b.natAbs ∧ ((0 ≤ b ∧ 0 ≤ a - a.fdiv b * b) ∨ (b ≤ 0 ∧ a - a.fdiv b * b ≤ 0)) := by
  rw [← fmod_eq]
  by_cases h : 0 < b
  · have h1 := Int.fmod_lt_of_pos a h
    have h2 := Int.fmod_nonneg_of_pos a h
    omega
  · have hn : 0 < -b := by omega
    have h1 := Int.fmod_lt_of_pos (-a) hn
    have h2 := Int.fmod_nonneg_of_pos (-a) hn
    rw [Int.neg_fmod_neg] at h1 h2
    omega
theorem div_abs {a b : Int} (hb : b ≠ 0) (s : (0 ≤ a ∧ 0 ≤ b) ∨ (a ≤ 0 ∧ b ≤ 0)) : (a - a.fdiv b * b).natAbs + (a.fdiv b).natAbs * b.natAbs = a.natAbs := by
  have ⟨h1, h2⟩ := mod_lt (a := a) hb
  have hq : 0 ≤ a.fdiv b := by
    rcases s with ⟨p, q⟩ | ⟨p, q⟩
    · exact Int.fdiv_nonneg p q
    · rw [← Int.neg_fdiv_neg]
      exact Int.fdiv_nonneg (by omega) (by omega)
  generalize hr : a - a.fdiv b * b = r at *
  generalize a.fdiv b = q at *
  have e : q.natAbs * b.natAbs = (q * b).natAbs := (Int.natAbs_mul q b).symm
  rw [e]
  have hs : (0 ≤ b → 0 ≤ q * b) ∧ (b ≤ 0 → q * b ≤ 0) := ⟨fun z => Int.mul_nonneg hq z, fun z => Int.mul_nonpos_of_nonneg_of_nonpos hq z⟩
  generalize q * b = m at *
  omega
theorem Sh.step {one other a x y b u v : Int} (h : Sh one other a x y b u v) (hb : b ≠ 0) :
    Sh one other b u v (a - a.fdiv b * b) (x - a.fdiv b * u) (y - a.fdiv b * v) ∧ (a - a.fdiv b * b).natAbs < b.natAbs := by
  have ⟨h1, h2⟩ := mod_lt (a := a) hb
  refine ⟨⟨h.hb, ?_, ?_, .inr ⟨?_, h1, h2, ?_, ?_⟩⟩, h1⟩
  · have e1 := h.ha
    have e2 := h.hb
    generalize a.fdiv b = q
    subst e1 e2
    grind
  · rw [pt_stepF, h.hg]
  · rcases h.hs with ⟨_, _, _, e, _, _⟩ | ⟨e1, e2, _⟩
    · rw [e]; omega
    · omega
  · rcases h.hs with ⟨_, _, _, e, e5, _⟩ | ⟨e1, e2, e3, e4, e5⟩
    · rw [e5]; simp
    · have : u.natAbs * 1 ≤ u.natAbs * a.natAbs := Nat.mul_le_mul_left _ (by omega)
      omega
  · rcases h.hs with ⟨_, ex, _, e, eu, _⟩ | ⟨e1, e2, e3, e4, e5⟩
    · rw [eu, ex, e]; simp
    · have e := div_abs hb e3
      have e6 : (x - a.fdiv b * u).natAbs ≤ x.natAbs + (a.fdiv b).natAbs * u.natAbs := by
        rw [← Int.natAbs_mul]
        omega
      have e7 : (x - a.fdiv b * u).natAbs * b.natAbs ≤ (x.natAbs + (a.fdiv b).natAbs * u.natAbs) * b.natAbs := Nat.mul_le_mul_right _ e6
      generalize (a - a.fdiv b * b).natAbs = R at *
      generalize (a.fdiv b).natAbs = Qn at *
      generalize (x - a.fdiv b * u).natAbs = Y at *
      have e8 : u.natAbs * a.natAbs = u.natAbs * R + u.natAbs * (Qn * b.natAbs) := by rw [← Nat.mul_add, e]
      have e9 : (x.natAbs + Qn * u.natAbs) * b.natAbs = x.natAbs * b.natAbs + u.natAbs * (Qn * b.natAbs) := by
        rw [Nat.add_mul, Nat.mul_comm Qn u.natAbs, Nat.mul_assoc]
      omega
/-- what shares_of tells -/
structure Shares (one other g x y : Int) : Prop where
  eq : g = pt one other
  lin : g = x * one + y * other
  sm : x.natAbs ≤ other.natAbs + 1
theorem Sh.done {one other a x y u v : Int} (h : Sh one other a x y 0 u v) : (¬ a < 0 → Shares one other a x y) ∧ (a < 0 → Shares one other (-a) (-x) (-y)) := by
  have e := h.hg
  have hx : x.natAbs ≤ other.natAbs + 1 := by
    rcases h.hs with ⟨_, ex, _⟩ | ⟨_, _, _, z, _⟩
    · rw [ex]; simp
    · omega
  have ha := h.ha
  refine ⟨fun p => ⟨?_, ha, hx⟩, fun p => ⟨?_, ?_, ?_⟩⟩
  · rw [← e, pt_zero a (by omega)]
  · rw [← e]
    unfold pt
    rw [Int.gcd_zero_right]
    omega
  · rw [ha]; grind
  · omega
end Wl
namespace Wl
/-! ### back -/
def barsF (g n t : Int) : Bool := decide (1 < g) && (decide (n % g = 0) && decide (t % g = 0))
def backF (r n t : Int) : Bool := (decide (0 ≤ r) && decide (r < t)) && decide ((r * n - 1) % t = 0)
def backD (r n t : Int) : Bool := (decide (0 ≤ r) && decide (r < t)) && decide (r * n % t = 1 % t)
theorem backD_eq (r n t : Int) : backD r n t = backF r n t := by
  unfold backD backF
  rw [decide_eq_decide.mpr (Int.emod_eq_emod_iff_emod_sub_eq_zero (m := r * n) (n := t) (k := 1))]
def BarOk (g n t : Int) : Prop := 1 < g ∧ g ∣ n ∧ g ∣ t
def BackOk (r n t : Int) : Prop := 0 ≤ r ∧ r < t ∧ t ∣ r * n - 1
theorem Shares.bar {n t g x y : Int} (s : Shares n t g x y) (h : 1 < g) : BarOk g n t := by
  rw [s.eq] at h ⊢
  exact ⟨h, pt_dvd_l n t, pt_dvd_r n t⟩
theorem Shares.back {n t g x y : Int} (s : Shares n t g x y) (h : g ≤ 1) (ht : 1 ≤ t) : BackOk (x % t) n t := by
  have h1 := pt_pos_r n (b := t) (by omega)
  have hg : g = 1 := by have := s.eq; omega
  refine ⟨Int.emod_nonneg _ (by omega), Int.emod_lt_of_pos _ (by omega), ?_⟩
  have hl := s.lin
  rw [hg] at hl
  have e : x % t = x - t * (x / t) := Int.emod_def x t
  refine ⟨-(x / t) * n - y, ?_⟩
  rw [e]
  grind
theorem BarOk.F {g n t : Int} (h : BarOk g n t) : barsF g n t = true := by
  unfold barsF
  rw [decide_eq_true h.1, decide_eq_true (Int.emod_eq_zero_of_dvd h.2.1), decide_eq_true (Int.emod_eq_zero_of_dvd h.2.2)]
  rfl
theorem BarOk.far {g n t : Int} (h : BarOk g n t) (c : Int) : BarOk g (n + c * t) t := ⟨h.1, Int.dvd_add h.2.1 (Int.dvd_mul_of_dvd_right h.2.2), h.2.2⟩
theorem BackOk.F {r n t : Int} (h : BackOk r n t) : backF r n t = true := by
  unfold backF
  rw [decide_eq_true h.1, decide_eq_true h.2.1, decide_eq_true (Int.emod_eq_zero_of_dvd h.2.2)]
  rfl
theorem BackOk.far {r n t : Int} (h : BackOk r n t) (c : Int) : BackOk r (n + c * t) t := by
  refine ⟨h.1, h.2.1, ?_⟩
  obtain ⟨k, hk⟩ := h.2.2
  exact ⟨k + r * c, by rw [Int.mul_add]; grind⟩
end Wl
namespace Wl
/-! ### common parts -/
def dot : List Int → List Int → Int
  | n :: ns, t :: ts => n * t + dot ns ts
  | _, _ => 0
theorem dot_snoc : ∀ {ns ts : List Int} (n t : Int), ns.length = ts.length → dot (ns ++ [n]) (ts ++ [t]) = dot ns ts + n * t
  | [], [], n, t, _ => by simp [dot]
  | a :: ns, b :: ts, n, t, h => by
    have ih := dot_snoc (ns := ns) (ts := ts) n t (by simpa using h)
    simp only [List.cons_append, dot, ih]
    omega
  | [], _ :: _, _, _, h => by simp at h
  | _ :: _, [], _, _, h => by simp at h
theorem dot_mul : ∀ (ns ts : List Int) (x : Int), dot ns (ts.map (· * x)) = dot ns ts * x
  | [], _, x => by simp [dot]
  | _ :: _, [], x => by simp [dot]
  | a :: ns, b :: ts, x => by
    simp only [List.map_cons, dot, dot_mul ns ts x, Int.add_mul, Int.mul_assoc]
theorem dot_range : ∀ {ns ts : List Int}, ns.length = ts.length → ((List.range ns.length).map fun k => ns.getD k 0 * ts.getD k 0).sum = dot ns ts
  | [], [], _ => rfl
  | a :: ns, b :: ts, h => by
    have ih := dot_range (ns := ns) (ts := ts) (by simpa using h)
    rw [List.length_cons, List.range_succ_eq_map, List.map_cons, List.map_map, List.sum_cons]
    simp only [dot, ← ih]
    rfl
  | [], _ :: _, h => by simp at h
  | _ :: _, [], h => by simp at h
/-- a common part p of ns, and how often each makes it -/
structure CommonOk (p : Int) (ts ns : List Int) : Prop where
  nn : 0 ≤ p
  len : ts.length = ns.length
  sum : dot ns ts = p
  dvd : ∀ n ∈ ns, p ∣ n
def dueC (p : Int) (ts ns : List Int) : Bool := !(decide (p < 0) || !decide (ts.length = ns.length)) && (decide (dot ns ts = p) && ns.all fun n => if p = 0 then decide (n = 0) else decide (n % p = 0))
theorem CommonOk.due {p : Int} {ts ns : List Int} (h : CommonOk p ts ns) : dueC p ts ns = true := by
  have h1 : ¬ p < 0 := by have := h.nn; omega
  unfold dueC
  rw [decide_eq_false h1, decide_eq_true h.len, decide_eq_true h.sum]
  simp only [Bool.not_true, Bool.or_self, Bool.not_false, Bool.true_and, List.all_eq_true]
  intro n hn
  have hd := h.dvd n hn
  split
  · rename_i e
    rw [e] at hd
    exact decide_eq_true (Int.zero_dvd.mp hd)
  · exact decide_eq_true (Int.emod_eq_zero_of_dvd hd)
theorem CommonOk.nil : CommonOk 0 [] [] := ⟨Int.le_refl _, rfl, rfl, fun _ h => nomatch h⟩
theorem CommonOk.more {p n g x y : Int} {ts ns : List Int} (h : CommonOk p ts ns) (s : Shares p n g x y) : CommonOk g (ts.map (· * x) ++ [y]) (ns ++ [n]) := by
  refine ⟨by rw [s.eq]; exact pt_nn _ _, by simp [h.len], ?_, fun m hm => ?_⟩
  · rw [dot_snoc _ _ (by simp [h.len]), dot_mul, h.sum, s.lin, Int.mul_comm p x, Int.mul_comm n y]
  · rcases List.mem_append.mp hm with hm | hm
    · rw [s.eq]
      exact Int.dvd_trans (pt_dvd_l p n) (h.dvd m hm)
    · rw [List.mem_singleton.mp hm, s.eq]
      exact pt_dvd_r p n
theorem CommonOk.same {p n g x y : Int} {ts ns : List Int} (h : CommonOk p ts ns) (s : Shares p n g x y) (e : g = p) : CommonOk p (ts ++ [0]) (ns ++ [n]) := by
  refine ⟨h.nn, by simp [h.len], ?_, fun m hm => ?_⟩
  · rw [dot_snoc _ _ h.len.symm, h.sum]
    omega
  · rcases List.mem_append.mp hm with hm | hm
    · exact h.dvd m hm
    · rw [List.mem_singleton.mp hm, ← e, s.eq]
      exact pt_dvd_r p n
theorem pt_le {p n b : Int} (h0 : 0 ≤ p) (hp : p ≤ b) (hn : n.natAbs ≤ b.natAbs) (hb : 0 ≤ b) : pt p n ≤ b := by
  by_cases e : n = 0
  · rw [e, pt_zero p h0]
    exact hp
  · have h := pt_dvd_r p n
    have h2 : pt p n ∣ (n.natAbs : Int) := Int.dvd_natAbs.mpr h
    have := Int.le_of_dvd (by omega) h2
    omega
theorem CommonOk.far {p : Int} {ts ns : List Int} (h : CommonOk p ts ns) : dueC p (ts ++ [0]) ns = false := by
  unfold dueC
  have : ¬ (ts ++ [0]).length = ns.length := by
    rw [List.length_append, h.len]
    simp
  rw [decide_eq_false this]
  simp
end Wl
namespace Wl
/-! ### told: numbers by their rests -/
theorem bez : ∀ (k : Nat) (a b : Int), b.natAbs ≤ k → ∃ x y, pt a b = x * a + y * b
  | 0, a, b, h => by
    have e : b = 0 := by omega
    subst e
    unfold pt
    rw [Int.gcd_zero_right]
    by_cases h : 0 ≤ a
    · exact ⟨1, 0, by omega⟩
    · exact ⟨-1, 0, by omega⟩
  | k + 1, a, b, h => by
    by_cases e : b = 0
    · exact bez k a b (by omega)
    · have h1 := Int.emod_lt a e
      have h0 := Int.emod_nonneg a e
      obtain ⟨x, y, hxy⟩ := bez k b (a % b) (by omega)
      have hm := Int.emod_add_mul_ediv a b
      refine ⟨y, x - a / b * y, ?_⟩
      rw [← pt_step, hxy]
      have e2 : a % b = a - b * (a / b) := by omega
      rw [e2]
      generalize a / b = q
      grind
/-- what the common parts of t with a and with b go into, that of t with w goes into: w the least into which a and b go -/
theorem pt_two {a b t m w : Int} (ha : pt a t ∣ m) (hb : pt b t ∣ m) (hd : pt a b ≠ 0) (hw : w = a / pt a b * b) : pt w t ∣ m := by
  obtain ⟨x1, y1, e1⟩ := bez _ a t (Nat.le_refl _)
  obtain ⟨x2, y2, e2⟩ := bez _ b t (Nat.le_refl _)
  obtain ⟨α, β, e3⟩ := bez _ a b (Nat.le_refl _)
  obtain ⟨k1, h1⟩ := ha
  obtain ⟨k2, h2⟩ := hb
  obtain ⟨a', ea⟩ := pt_dvd_l a b
  obtain ⟨b', eb⟩ := pt_dvd_r a b
  have hq : a / pt a b = a' := by
    conv => lhs; lhs; rw [ea]
    exact Int.mul_ediv_cancel_left a' hd
  rw [hq] at hw
  generalize hdd : pt a b = d at *
  -- m = a u + t v = b u2 + t v2
  have m1 : m = a * (x1 * k1) + t * (y1 * k1) := by rw [h1, e1]; grind
  have m2 : m = b * (x2 * k2) + t * (y2 * k2) := by rw [h2, e2]; grind
  have one : α * a' + β * b' = 1 := by
    have : d * (α * a' + β * b') = d * 1 := by
      have e4 : d = α * (d * a') + β * (d * b') := by rw [← ea, ← eb]; exact e3
      have e5 : d * (α * a' + β * b') = α * (d * a') + β * (d * b') := by grind
      omega
    exact Int.eq_of_mul_eq_mul_left hd this
  have fin : m = w * (α * (x2 * k2) + β * (x1 * k1)) + t * (α * a' * (y2 * k2) + β * b' * (y1 * k1)) := by
    have s1 : m = (α * a' + β * b') * m := by rw [one, Int.one_mul]
    have s2 : (α * a' + β * b') * m = α * a' * m + β * b' * m := by grind
    have s3 : α * a' * m = α * a' * (b * (x2 * k2) + t * (y2 * k2)) := by rw [← m2]
    have s4 : β * b' * m = β * b' * (a * (x1 * k1) + t * (y1 * k1)) := by rw [← m1]
    have hab : a' * b = b' * a := by
      have : a' * (d * b') = b' * (d * a') := by grind
      rw [ea, eb]; exact this
    have hw2 : w = b' * a := by rw [hw, hab]
    rw [s2, s3, s4] at s1
    rw [s1]
    have t1 : α * a' * (b * (x2 * k2) + t * (y2 * k2)) = α * (a' * b) * (x2 * k2) + t * (α * a' * (y2 * k2)) := by grind
    have t2 : β * b' * (a * (x1 * k1) + t * (y1 * k1)) = β * (b' * a) * (x1 * k1) + t * (β * b' * (y1 * k1)) := by grind
    rw [t1, t2, hab, ← hw2]
    grind
  rw [fin]
  exact Int.dvd_add (Int.dvd_mul_of_dvd_left (pt_dvd_l w t)) (Int.dvd_mul_of_dvd_left (pt_dvd_r w t))
/-- a rest by a round -/
def RstOk (p : Int × Int) : Prop := 0 ≤ p.1 ∧ p.1 < p.2 ∧ p.2 ≤ 1000000
/-- the least number into which all rounds go -/
def lcmOf (rs : List (Int × Int)) : Int := rs.foldl (fun w p => w / pt w p.2 * p.2) 1
theorem lcmOf_snoc (rs : List (Int × Int)) (p : Int × Int) : lcmOf (rs ++ [p]) = lcmOf rs / pt (lcmOf rs) p.2 * p.2 := by
  unfold lcmOf
  rw [List.foldl_append]
  rfl
theorem lcm_step {w t : Int} (hw : 0 < w) (ht : 0 < t) : 0 < w / pt w t * t ∧ w ∣ w / pt w t * t ∧ t ∣ w / pt w t * t ∧ w * t / pt w t = w / pt w t * t ∧ w / pt w t * t = w * (t / pt w t) := by
  have hp := pt_pos_r w ht
  obtain ⟨w', ew⟩ := pt_dvd_l w t
  obtain ⟨t', et⟩ := pt_dvd_r w t
  have h1 : w / pt w t = w' := by
    conv => lhs; lhs; rw [ew]
    exact Int.mul_ediv_cancel_left w' (by omega)
  have h2 : t / pt w t = t' := by
    conv => lhs; lhs; rw [et]
    exact Int.mul_ediv_cancel_left t' (by omega)
  have hw' : 0 < w' := by
    have : 0 < pt w t * w' := by rw [← ew]; exact hw
    exact Int.pos_of_mul_pos_right this (by omega)
  rw [h1, h2]
  generalize pt w t = g at *
  have e3 : w' * t = w * t' := by rw [ew, et]; grind
  refine ⟨Int.mul_pos hw' ht, ⟨t', e3⟩, ⟨w', Int.mul_comm _ _⟩, ?_, e3⟩
  have : w * t = g * (w' * t) := by rw [ew]; grind
  rw [this]
  exact Int.mul_ediv_cancel_left _ (by omega)
/-- all rests hold of n, by the round w -/
structure ToldOk (rs : List (Int × Int)) (n w : Int) : Prop where
  w0 : w = lcmOf rs
  pos : 0 < w
  n0 : 0 ≤ n
  n1 : n < w
  dw : ∀ p ∈ rs, p.2 ∣ w
  lv : ∀ p ∈ rs, p.2 ∣ n - p.1
theorem ToldOk.nil : ToldOk [] 0 1 := ⟨rfl, by decide, by decide, by decide, fun _ h => (nomatch h), fun _ h => (nomatch h)⟩
/-- the common part of w with t goes into what those of the rounds with t go into -/
theorem lcm_part (t m : Int) : ∀ (rs : List (Int × Int)) (w : Int), (∀ p ∈ rs, RstOk p) → 0 < w → pt w t ∣ m → (∀ p ∈ rs, pt p.2 t ∣ m) → pt (rs.foldl (fun w p => w / pt w p.2 * p.2) w) t ∣ m
  | [], w, _, _, h, _ => h
  | p :: rs, w, ho, hw, h, hr => by
    have hp := ho p List.mem_cons_self
    have hp2 : 0 < p.2 := by have := hp.1; have := hp.2.1; omega
    refine lcm_part t m rs _ (fun q hq => ho q (List.mem_cons_of_mem _ hq)) (lcm_step hw hp2).1 ?_ fun q hq => hr q (List.mem_cons_of_mem _ hq)
    exact pt_two h (hr p List.mem_cons_self) (by have := pt_pos_r w hp2; omega) rfl
theorem pt_one (t : Int) : pt 1 t = 1 := by
  unfold pt
  rw [Int.gcd_eq_natAbs_gcd_natAbs]
  simp
/-- where the rest does not fit, one of the rests ahead clashes -/
theorem told_clash {rs : List (Int × Int)} {n w r t : Int} (h : ToldOk rs n w) (ho : ∀ p ∈ rs, RstOk p) (hc : ¬ (r - n) % pt w t = 0) : ∃ p ∈ rs, ¬ (p.1 - r) % pt p.2 t = 0 := by
  refine Classical.byContradiction fun hn => hc ?_
  have hall : ∀ p ∈ rs, pt p.2 t ∣ r - n := fun p hp => by
    have h1 : (p.1 - r) % pt p.2 t = 0 := Classical.byContradiction fun z => hn ⟨p, hp, z⟩
    have h2 : pt p.2 t ∣ p.1 - r := Int.dvd_of_emod_eq_zero h1
    have h3 : pt p.2 t ∣ n - p.1 := Int.dvd_trans (pt_dvd_l p.2 t) (h.lv p hp)
    have h4 := Int.dvd_neg.mpr (Int.dvd_add h2 h3)
    have e : -(p.1 - r + (n - p.1)) = r - n := by omega
    rwa [e] at h4
  have h1 := lcm_part t (r - n) rs 1 ho (by decide) (by rw [pt_one]; exact Int.one_dvd _) hall
  rw [h.w0]
  exact Int.emod_eq_zero_of_dvd h1
/-- the next rest taken in -/
theorem ToldOk.more {rs : List (Int × Int)} {n w r t g x y : Int} (h : ToldOk rs n w) (hr : RstOk (r, t)) (s : Shares w t g x y) (hf : (r - n) % g = 0) :
    ToldOk (rs ++ [(r, t)]) ((n + w * ((r - n) / g * x % (t / g))) % (w / g * t)) (w / g * t) := by
  have ht : 0 < t := by have := hr.1; have := hr.2.1; dsimp only at *; omega
  have hg : g = pt w t := s.eq
  obtain ⟨p0, p1, p2, _, p4⟩ := lcm_step h.pos ht
  rw [← hg] at p0 p1 p2 p4
  have hgp : 0 < g := by rw [hg]; exact pt_pos_r w ht
  have key : ∀ m : Int, m ∣ w / g * t → ∀ z, m ∣ z - (n + w * ((r - n) / g * x % (t / g))) → m ∣ z - (n + w * ((r - n) / g * x % (t / g))) % (w / g * t) := fun m hm z hz => by
    have e := Int.emod_def (n + w * ((r - n) / g * x % (t / g))) (w / g * t)
    have e2 : z - (n + w * ((r - n) / g * x % (t / g))) % (w / g * t) = z - (n + w * ((r - n) / g * x % (t / g))) + (w / g * t) * ((n + w * ((r - n) / g * x % (t / g))) / (w / g * t)) := by omega
    rw [e2]
    exact Int.dvd_add hz (Int.dvd_mul_of_dvd_left hm)
  refine ⟨by rw [lcmOf_snoc, ← h.w0, hg], p0, Int.emod_nonneg _ (by omega), Int.emod_lt_of_pos _ p0, fun p hp => ?_, fun p hp => ?_⟩
  · rcases List.mem_append.mp hp with hp | hp
    · exact Int.dvd_trans (h.dw p hp) p1
    · rw [List.mem_singleton.mp hp]
      exact p2
  · have fl : ∀ m z : Int, m ∣ w / g * t → m ∣ z - (n + w * ((r - n) / g * x % (t / g))) → m ∣ (n + w * ((r - n) / g * x % (t / g))) % (w / g * t) - z := fun m z h1 h2 => by
      have := Int.dvd_neg.mpr (key m h1 z h2)
      have e : -(z - (n + w * ((r - n) / g * x % (t / g))) % (w / g * t)) = (n + w * ((r - n) / g * x % (t / g))) % (w / g * t) - z := by omega
      rwa [e] at this
    rcases List.mem_append.mp hp with hp | hp
    · refine fl _ _ (Int.dvd_trans (h.dw p hp) p1) ?_
      have h1 := h.lv p hp
      have h2 : p.2 ∣ w * ((r - n) / g * x % (t / g)) := Int.dvd_mul_of_dvd_left (h.dw p hp)
      have h3 := Int.dvd_neg.mpr (Int.dvd_add h1 h2)
      have e : -(n - p.1 + w * ((r - n) / g * x % (t / g))) = p.1 - (n + w * ((r - n) / g * x % (t / g))) := by omega
      rwa [e] at h3
    · rw [List.mem_singleton.mp hp]
      refine fl _ _ p2 ?_
      show t ∣ r - (n + w * ((r - n) / g * x % (t / g)))
      obtain ⟨q, hq⟩ := Int.dvd_of_emod_eq_zero hf
      have e1 : (r - n) / g = q := by rw [hq]; exact Int.mul_ediv_cancel_left q (by omega)
      rw [e1]
      have e2 : q * x % (t / g) = q * x - (t / g) * (q * x / (t / g)) := Int.emod_def _ _
      rw [e2]
      have hl := s.lin
      generalize q * x / (t / g) = c
      have e3 : w * (q * x - t / g * c) = q * (x * w) - w * (t / g) * c := by grind
      have e4 : x * w = g - y * t := by omega
      rw [e3, e4, ← p4]
      have e5 : r - (n + (q * (g - y * t) - w / g * t * c)) = (r - n - g * q) + t * (q * y + w / g * c) := by grind
      rw [e5, hq]
      have e6 : g * q - g * q + t * (q * y + w / g * c) = t * (q * y + w / g * c) := by omega
      rw [e6]
      exact Int.dvd_mul_right _ _
def numF (n t : Int) (rs : List (Int × Int)) : Bool := !(!decide (t = lcmOf rs) || !(decide (0 ≤ n) && decide (n < t))) && rs.all fun p => decide (n % p.2 = p.1)
theorem ToldOk.F {rs : List (Int × Int)} {n w : Int} (h : ToldOk rs n w) (ho : ∀ p ∈ rs, RstOk p) : numF n w rs = true := by
  unfold numF
  rw [decide_eq_true h.w0, decide_eq_true h.n0, decide_eq_true h.n1]
  simp only [Bool.and_self, Bool.not_true, Bool.or_self, Bool.not_false, Bool.true_and, List.all_eq_true, decide_eq_true_eq]
  intro p hp
  obtain ⟨k, hk⟩ := h.lv p hp
  have h1 := ho p hp
  have e : n = p.1 + p.2 * k := by omega
  rw [e, Int.add_mul_emod_self_left]
  exact Int.emod_eq_of_lt h1.1 h1.2.1
def clashF (i j : Int) (rs : List (Int × Int)) : Bool := (decide (0 ≤ i) && (decide (i < j) && decide (j < rs.length))) && !decide (((rs.getD i.toNat (0, 1)).1 - (rs.getD j.toNat (0, 1)).1) % pt (rs.getD i.toNat (0, 1)).2 (rs.getD j.toNat (0, 1)).2 = 0)
/-- the first place that clashes with the last one -/
structure ClashOk (i : Nat) (j : Nat) (rs : List (Int × Int)) : Prop where
  lt : i < j
  le : j < rs.length
  ne : ¬ ((rs.getD i (0, 1)).1 - (rs.getD j (0, 1)).1) % pt (rs.getD i (0, 1)).2 (rs.getD j (0, 1)).2 = 0
theorem ClashOk.F {i j : Nat} {rs : List (Int × Int)} (h : ClashOk i j rs) : clashF (i : Int) (j : Int) rs = true := by
  have h1 := h.lt
  have h2 := h.le
  unfold clashF
  rw [decide_eq_true (show (0 : Int) ≤ i by omega), decide_eq_true (show (i : Int) < j by omega), decide_eq_true (show (j : Int) < rs.length by omega), Int.toNat_natCast, Int.toNat_natCast, decide_eq_false h.ne]
  rfl
end Wl
namespace Wl
open PySem PySem.Spec PyProof.Rows L2 Evl
/-! ### a def that keeps a promise -/
/-- a promise by data: Pre of the arguments, Post of the heap ahead, the value, the heap behind -/
def spX {α : Type} (Pre : α → List V → Hp → Prop) (Post : α → Hp → V → Hp → Prop) : Sp := fun vs H Q _ => ∃ d, Pre d vs H ∧ ∀ v H', Ex H H' → Post d H v H' → Q v H'
structure Ok (P : Program) (w : World) (K : PySem.W.Frag) (mg : Str → Option Value) (base : Heap) (k : Nat) (f : Addr) (fd : FuncData) (ps : List Str) (sp : Sp) : Prop where
  (ok : FnOk P w K mg base CX0 k f fd ps sp) (bi : Binds K fd ps []) (kp : PySem.W.keepIn K (.ref f) = true)
abbrev Okk (P : Program) (w : World) (K : PySem.W.Frag) (mg : Str → Option Value) (base : Heap) (k : Nat) (f : Addr) (ps : List Str) (sp : Sp) : Prop := ∃ fd, Ok P w K mg base k f fd ps sp
/-- its body walked, wherever it is called: nothing is let out -/
abbrev BodyIn (P : Program) (w : World) (K : PySem.W.Frag) (mg : Str → Option Value) (base : Heap) (N : List Str) (qual : Str) (st : Stmt) (f : Addr) (k : Nat) (sp : Sp) : Prop :=
  ∀ (cd : Value) (B : Around) (out : List Env) (s : Shared) (H : Hp) (vs : List V) (Q : VK) (E : XK), Room k (B.deeper (envOfC qual (defScope st) s.heap.objs.size f cd)) → sp vs H Q E →
    ∃ t, PSs (cxOf CX0 P w K mg base N qual (defScope st) f cd B out s H E).nox (defBody st) t ∧ t { nx := fun _ H' => Q .non H', rt := Q } (start N vs) H
theorem okk {P : Program} {w : World} {K : PySem.W.Frag} {mg : Str → Option Value} {base : Heap} {x qual : Str} {st : Stmt} {f : Addr} {N ps : List Str} {k : Nat} {sp : Sp}
    (F : ∃ fd, Fun K x qual st f fd ∧ Binds K fd ps []) (S : FnScope N ps (defScope st)) (len : ∀ vs H Q E, sp vs H Q E → vs.length = ps.length) (body : BodyIn P w K mg base N qual st f k sp) : Okk P w K mg base (k + 1) f ps sp :=
  match F with
  | ⟨fd, F, b⟩ => ⟨fd, F.ok S len body, b, F.kp⟩

/-! ### what evaluates to what, with facts of the heap behind -/
def EvR (te : TE) (σ : L2.St) (H : Hp) (R : V → Hp → Prop) : Prop := ∀ H1, Ex H H1 → ∀ Q : VK, (∀ v H2, Ex H1 H2 → R v H2 → Q v H2) → te σ H1 Q
def EvAR (ta : TA) (σ : L2.St) (H : Hp) (R : List V → Hp → Prop) : Prop := ∀ H1, Ex H H1 → ∀ Q : List V → Hp → Prop, (∀ v H2, Ex H1 H2 → R v H2 → Q v H2) → ta σ H1 Q
section
variable {K : PySem.W.Frag} {σ : L2.St} {H H' : Hp} {ta tb tc te tx : TE} {t u : TT} {x y z v : V} {r r' : R2} {R R' S : V → Hp → Prop} {D : Ends} {tu tw tz : TS} {g : TG}
theorem EvR.mono (e : Ex H H') (h : EvR te σ H R) : EvR te σ H' R := fun H1 a Q q => h H1 (e.trans a) Q q
theorem EvR.imp (h : EvR te σ H R) (hi : ∀ v H2, Ex H H2 → R v H2 → R' v H2) : EvR te σ H R' := fun H1 a Q q => h H1 a Q fun v H2 e p => q v H2 e (hi v H2 (a.trans e) p)
theorem evr (h : Ev te σ H v) : EvR te σ H (fun x _ => x = v) := fun H1 a Q q => h H1 a Q fun H2 e => q v H2 e rfl
theorem EvR.ev (h : EvR te σ H R) (hi : ∀ x H2, Ex H H2 → R x H2 → x = v) : Ev te σ H v := fun H1 a Q q => h H1 a Q fun x H2 e p => by rw [hi x H2 (a.trans e) p]; exact q H2 e
theorem elr {xs : List V} (h : EvL te σ H xs) : EvR te σ H (fun v H2 => ∃ p, v = .ref p ∧ H p = none ∧ H2 p = some (.lst xs)) := fun H1 a Q q => h H1 a Q fun p H2 hp e h2 => q _ H2 e ⟨p, rfl, fresh_back a hp, h2⟩
theorem eur {xs : List V} (h : EvU te σ H xs) : EvR te σ H (fun v H2 => ∃ p, v = .ref p ∧ H p = none ∧ H2 p = some (.tup xs)) := fun H1 a Q q => h H1 a Q fun p H2 hp e h2 => q _ H2 e ⟨p, rfl, fresh_back a hp, h2⟩
/-- x, then whatever needs it -/
theorem er_op {Ra : V → Hp → Prop} {Rb : V → V → Hp → Prop} (ha : EvR ta σ H Ra) (hb : ∀ x H1, Ex H H1 → Ra x H1 → EvR tb σ H1 (Rb x))
    (hr : ∀ x y H1 H2, Ex H H1 → Ra x H1 → Ex H1 H2 → Rb x y H2 → ∀ Q : VK, (∀ v H3, Ex H2 H3 → R v H3 → Q v H3) → r x y H2 Q) : EvR (tOp r ta tb) σ H R := fun H1 e Q q =>
  ha H1 e _ fun x H2 e2 p => hb x H2 (e.trans e2) p H2 (Ex.refl _) _ fun y H3 e3 p3 => hr x y H2 H3 (e.trans e2) p e3 p3 Q fun v H4 e4 p4 => q v H4 ((e2.trans e3).trans e4) p4
/-- the first operand's value by facts, the second plain -/
theorem ev_opR {Ra : V → Hp → Prop} (ha : EvR ta σ H Ra) (hb : Ev tb σ H y) (hr : ∀ x H1, Ex H H1 → Ra x H1 → RV r x y H1 z) : Ev (tOp r ta tb) σ H z := fun H1 e Q q =>
  ha H1 e _ fun x H2 e2 p => hb H2 (e.trans e2) _ fun H3 e3 => hr x H2 (e.trans e2) p H3 e3 Q fun H4 e4 => q H4 ((e2.trans e3).trans e4)
/-- the second by facts -/
theorem ev_opR2 {Rb : V → Hp → Prop} (ha : Ev ta σ H x) (hb : EvR tb σ H Rb) (hr : ∀ y H1, Ex H H1 → Rb y H1 → RV r x y H1 z) : Ev (tOp r ta tb) σ H z := fun H1 e Q q =>
  ha H1 e _ fun H2 e2 => hb H2 (e.trans e2) _ fun y H3 e3 p => hr y H3 ((e.trans e2).trans e3) p H3 (Ex.refl _) Q fun H4 e4 => q H4 ((e2.trans e3).trans e4)
/-- both by facts -/
theorem ev_opRR {Ra Rb : V → Hp → Prop} (ha : EvR ta σ H Ra) (hb : EvR tb σ H Rb) (hr : ∀ x y H1 H2, Ex H H1 → Ra x H1 → Ex H1 H2 → Rb y H2 → RV r x y H2 z) : Ev (tOp r ta tb) σ H z := fun H1 e Q q =>
  ha H1 e _ fun x H2 e2 p => hb H2 (e.trans e2) _ fun y H3 e3 p3 => hr x y H2 H3 (e.trans e2) p e3 p3 H3 (Ex.refl _) Q fun H4 e4 => q H4 ((e2.trans e3).trans e4)
/-- a new list by two plain values (xs + ys, ..) -/
theorem er_opR {Ra Rb : V → Hp → Prop} (ha : EvR ta σ H Ra) (hb : EvR tb σ H Rb) (hr : ∀ x y H1 H2, Ex H H1 → Ra x H1 → Ex H1 H2 → Rb y H2 → ∀ Q : VK, (∀ v H3, Ex H2 H3 → R v H3 → Q v H3) → r x y H2 Q) : EvR (tOp r ta tb) σ H R :=
  er_op ha (fun _ _ e _ => hb.mono e) hr
theorem ev_chain {a b : Bool} (ha : Ev ta σ H x) (hb : Ev tb σ H y) (h1 : RV r x y H (.bl a)) (hc : a = true → Ev tc σ H z) (h2 : a = true → RV r' y z H (.bl b)) : Ev (tChain r r' ta tb tc) σ H (.bl (a && b)) := fun H1 e Q q =>
  ha H1 e _ fun H2 e2 => hb H2 (e.trans e2) _ fun H3 e3 => h1 H3 ((e.trans e2).trans e3) _ fun H4 e4 => ⟨a, rfl, by
    cases a with
    | false => exact q H4 ((e2.trans e3).trans e4)
    | true => exact hc rfl H4 (((e.trans e2).trans e3).trans e4) _ fun H5 e5 => h2 rfl H5 ((((e.trans e2).trans e3).trans e4).trans e5) Q fun H6 e6 => q H6 ((((e2.trans e3).trans e4).trans e5).trans e6)⟩
/-- fields -/
theorem ev_fld {a C dx : Addr} {fs : List (Str × V)} {f : Str} (ha : Ev ta σ H (.ref a)) (ho : H a = some (.ins C dx fs)) (c : Cls K C) (n : NoAttr K C f) (hl : fs.lookup f = some v) : Ev (tFld K ta f) σ H v := fun H1 e Q q =>
  ha H1 e _ fun H2 e2 => ⟨a, C, dx, fs, v, rfl, (e.trans e2) a _ ho, c, n, hl, q H2 e2⟩
theorem ev_fldR {C : Addr} {f : Str} (ha : EvR ta σ H R) (h : ∀ x H1, Ex H H1 → R x H1 → ∃ a dx fs, x = .ref a ∧ H1 a = some (.ins C dx fs) ∧ fs.lookup f = some v) (c : Cls K C) (n : NoAttr K C f) : Ev (tFld K ta f) σ H v := fun H1 e Q q =>
  ha H1 e _ fun x H2 e2 p => by
    obtain ⟨a, dx, fs, hx, ho, hl⟩ := h x H2 (e.trans e2) p
    exact ⟨a, C, dx, fs, v, hx, ho, c, n, hl, q H2 e2⟩
/-- arguments -/
theorem ear {vs : List V} {ta : TA} (h : EvA ta σ H vs) : EvAR ta σ H (fun x _ => x = vs) := fun H1 a Q q => h H1 a Q fun H2 e => q vs H2 e rfl
theorem ear_nil : EvAR tNil σ H (fun x _ => x = []) := ear ea_nil
theorem ear_cons {tr : TA} {T : List V → Hp → Prop} (h : EvR te σ H R) (hr : ∀ x H1, Ex H H1 → R x H1 → EvAR tr σ H1 (fun vs H2 => T (x :: vs) H2)) : EvAR (tCons te tr) σ H T := fun H1 e Q q =>
  h H1 e _ fun x H2 e2 p => hr x H2 (e.trans e2) p H2 (Ex.refl _) _ fun vs H3 e3 p3 => q _ H3 (e2.trans e3) p3
/-- one argument by facts -/
theorem ear_one (h : EvR te σ H R) : EvAR (tCons te tNil) σ H (fun vs H2 => ∃ x, vs = [x] ∧ R x H2) := fun H1 e Q q => h H1 e _ fun x H2 e2 p => q [x] H2 e2 ⟨x, rfl, p⟩
/-! built-ins -/
theorem er_cb {rr : List V → Hp → VK → Prop} {ta : TA} {T : List V → Hp → Prop} (h : EvAR ta σ H T) (hr : ∀ vs H1, Ex H H1 → T vs H1 → ∀ Q : VK, (∀ v H2, Ex H1 H2 → R v H2 → Q v H2) → rr vs H1 Q) : EvR (tCB rr ta) σ H R := fun H1 e Q q =>
  h H1 e _ fun vs H2 e2 p => hr vs H2 (e.trans e2) p Q fun v H3 e3 p3 => q v H3 (e2.trans e3) p3
theorem ev_cbR {rr : List V → Hp → VK → Prop} {ta : TA} {T : List V → Hp → Prop} (h : EvAR ta σ H T) (hr : ∀ vs H1, Ex H H1 → T vs H1 → ∀ Q : VK, Q z H1 → rr vs H1 Q) : Ev (tCB rr ta) σ H z := fun H1 e Q q =>
  h H1 e _ fun vs H2 e2 p => hr vs H2 (e.trans e2) p Q (q H2 e2)
theorem rc_abs {i : Int} : RC (fun xs H Q => ∃ i, xs = [V.int i] ∧ Q (.int (if i < 0 then -i else i)) H) [.int i] H (.int (if i < 0 then -i else i)) := fun H1 _ _ q => ⟨i, rfl, q H1 (Ex.refl H1)⟩
theorem rc_len {p : Addr} {xs : List V} (h : SqL K H p xs) : RC (fun xs H Q => ∃ p ys, xs = [V.ref p] ∧ (SqL K H p ys ∨ SqT K H p ys) ∧ Q (.int ys.length) H) [.ref p] H (.int (xs.length : Int)) := fun H1 e _ q => ⟨p, xs, rfl, .inl (ex_l e h), q H1 (Ex.refl H1)⟩
theorem rc_sum {p : Addr} {ns : List Int} (h : SqL K H p (ns.map V.int)) : RC (rSum K) [.ref p] H (.int ns.sum) := fun H1 e _ q => ⟨p, ns, rfl, ex_l e h, q H1 (Ex.refl H1)⟩
theorem ev_sumL {ns : List Int} {xs : List V} (h : EvL te σ H xs) (hx : xs = ns.map V.int) : Ev (tCB (rSum K) (tCons te tNil)) σ H (.int ns.sum) := fun H1 e Q q =>
  h H1 e _ fun p H2 _ e2 h2 => ⟨p, ns, rfl, by rw [← hx]; exact sq_of h2, q H2 e2⟩
theorem ev_allL {bs : List Bool} {xs : List V} (h : EvL te σ H xs) (hx : xs = bs.map V.bl) : Ev (tCB (rAll K) (tCons te tNil)) σ H (.bl (bs.all id)) := fun H1 e Q q =>
  h H1 e _ fun p H2 _ e2 h2 => ⟨p, bs, rfl, by rw [← hx]; exact sq_of h2, q H2 e2⟩
theorem ev_anyL {bs : List Bool} {xs : List V} (h : EvL te σ H xs) (hx : xs = bs.map V.bl) : Ev (tCB (rAny K) (tCons te tNil)) σ H (.bl (bs.any id)) := fun H1 e Q q =>
  h H1 e _ fun p H2 _ e2 h2 => ⟨p, bs, rfl, by rw [← hx]; exact sq_of h2, q H2 e2⟩
theorem ev_any {bs : List Bool} {p : Addr} (h : Ev te σ H (.ref p)) (hx : SqL K H p (bs.map V.bl)) : Ev (tCB (rAny K) (tCons te tNil)) σ H (.bl (bs.any id)) := fun H1 e Q q =>
  h H1 e _ fun H2 e2 => ⟨p, bs, rfl, ex_l (e.trans e2) hx, q H2 e2⟩
abbrev rTupOf (K : PySem.W.Frag) : List V → Hp → VK → Prop := fun xs H Q => ∃ p ys, xs = [.ref p] ∧ ((SqL K H p ys ∧ ∀ l, H l = none → Q (.ref l) (upd H l (.tup ys))) ∨ (SqT K H p ys ∧ Q (.ref p) H))
theorem eu_tupL {xs : List V} (h : EvL te σ H xs) : EvU (tCB (rTupOf K) (tCons te tNil)) σ H xs := fun H1 e Q q =>
  h H1 e _ fun p H2 _ e2 h2 => ⟨p, xs, rfl, .inl ⟨sq_of h2, fun l hl => q l _ (fresh_back e2 hl) (e2.trans (Ex.new hl)) upd_same⟩⟩
/-! isinstance -/
theorem tyx_up {tt : Value} (e : Ex H H') (h : TyX K H x tt) : TyX K H' x tt := by
  cases h with
  | base b =>
    refine .base ?_
    cases b with
    | non => exact .non
    | bl y => exact .bl y
    | int i => exact .int i
    | str y => exact .str y
    | flt y => exact .flt y
    | lst ea => exact .lst (e _ _ ea)
    | frz ea => exact .frz (e _ _ ea)
    | tup ea => exact .tup (e _ _ ea)
    | dK ea => exact .dK (e _ _ ea)
    | dT ea => exact .dT (e _ _ ea)
    | ins ea cl ha hn htk hm => exact .ins (e _ _ ea) cl ha hn htk hm
  | byt y => exact .byt y
  | set ea => exact .set (e _ _ ea)
  | kList ea c => exact .kList ea c
  | kTuple ea c => exact .kTuple ea c
  | kDict ea c => exact .kDict ea c
  | fTuple ea => exact .fTuple (e _ _ ea)
  | fDict ea => exact .fDict (e _ _ ea)
theorem ev_isi {c : V} {u tt : Value} {b : Bool} (ha : Ev ta σ H x) (hb : Ev tb σ H c) (hc : ClsV c u) (ht : TyX K H x tt) (hk : PySem.W.kitOne K tt u = some b) : Ev (tCB (rIsi K) (tCons ta (tCons tb tNil))) σ H (.bl b) := fun H1 e Q q =>
  ha H1 e _ fun H2 e2 => hb H2 (e.trans e2) _ fun H3 e3 => ⟨x, c, tt, u, b, rfl, hc, tyx_up ((e.trans e2).trans e3) ht, hk, q H3 (e2.trans e3)⟩
theorem ev_isiR {c : V} {u tt : Value} {b : Bool} (ha : EvR ta σ H R) (ht : ∀ x H1, Ex H H1 → R x H1 → TyX K H1 x tt) (hb : Ev tb σ H c) (hc : ClsV c u) (hk : PySem.W.kitOne K tt u = some b) : Ev (tCB (rIsi K) (tCons ta (tCons tb tNil))) σ H (.bl b) := fun H1 e Q q =>
  ha H1 e _ fun x H2 e2 p => hb H2 (e.trans e2) _ fun H3 e3 => ⟨x, c, tt, u, b, rfl, hc, tyx_up e3 (ht x H2 (e.trans e2) p), hk, q H3 (e2.trans e3)⟩
/-- what isinstance asks of a class of one's own -/
structure IsC (K : PySem.W.Frag) (C : Addr) : Prop where
  (cl : Cls K C) (ha : PySem.W.findIn K (.ref C) "__class__" = some (some (.builtin "object.__class__"))) (hm : PySem.W.mroIn K C (.type "object") = some true)
structure IsG (K : PySem.W.Frag) : Prop where
  (hn : PySem.W.specialIn K (.builtin "object.__class__") "__get__" = some (some (.builtin "getset_descriptor.__get__"))) (htk : PySem.W.takesIn K (.builtin "object.__class__") = some true)
theorem tyx_ins {a C dx : Addr} {fs : List (Str × V)} (ho : H a = some (.ins C dx fs)) (c : IsC K C) (g : IsG K) : TyX K H (.ref a) (.ref C) := .base (.ins ho c.cl c.ha g.hn g.htk c.hm)
/-! calls of defs -/
theorem er_callS {sp : Sp} {dvs : List V} {E : XK} {ta : TA} {T : List V → Hp → Prop} (h : EvAR ta σ H T) (hs : ∀ vs H1, Ex H H1 → T vs H1 → ∀ Q : VK, (∀ v H2, Ex H1 H2 → R v H2 → Q v H2) → sp (vs ++ dvs) H1 Q E) : EvR (tCall sp dvs E ta) σ H R := fun H1 e Q q =>
  h H1 e _ fun vs H2 e2 p => hs vs H2 (e.trans e2) p Q fun v H3 e3 p3 => q v H3 (e2.trans e3) p3
theorem er_call {α : Type} {Pre : α → List V → Hp → Prop} {Post : α → Hp → V → Hp → Prop} {E : XK} {ta : TA} {vs : List V} (d : α) (h : EvA ta σ H vs) (hm : ∀ H1, Ex H H1 → Pre d vs H1) (hp : ∀ H1 v H2, Ex H H1 → Ex H1 H2 → Post d H1 v H2 → R v H2) :
    EvR (tCall (spX Pre Post) [] E ta) σ H R := fun H1 e Q q =>
  h H1 e _ fun H2 e2 => ⟨d, by rw [List.append_nil]; exact hm H2 (e.trans e2), fun v H3 e3 p3 => q v H3 (e2.trans e3) (hp H2 v H3 (e.trans e2) e3 p3)⟩
theorem ev_call0 {α : Type} {Pre : α → List V → Hp → Prop} {Post : α → Hp → V → Hp → Prop} {E : XK} {ta : TA} {vs : List V} (d : α) (h : EvA ta σ H vs) (hm : ∀ H1, Ex H H1 → Pre d vs H1) (hp : ∀ H1 v H2, Post d H1 v H2 → v = z) :
    Ev (tCall (spX Pre Post) [] E ta) σ H z := (er_call (R := fun x _ => x = z) d h hm fun H1 v H2 _ _ p => hp H1 v H2 p).ev fun _ _ _ p => p
theorem er_meth {α : Type} {Pre : α → List V → Hp → Prop} {Post : α → Hp → V → Hp → Prop} {E : XK} {tm : TA} {vs : List V} {a C dx : Addr} {fs : List (Str × V)} {m : Str} (d : α) (ha : Ev ta σ H (.ref a)) (ho : H a = some (.ins C dx fs)) (hl : fs.lookup m = none) (h : EvA tm σ H vs)
    (hm : ∀ H1, Ex H H1 → Pre d (.ref a :: vs) H1) (hp : ∀ H1 v H2, Ex H H1 → Ex H1 H2 → Post d H1 v H2 → R v H2) : EvR (tMeth C m (spX Pre Post) [] E ta tm) σ H R := fun H1 e Q q =>
  ha H1 e _ fun H2 e2 => ⟨a, dx, fs, rfl, (e.trans e2) a _ ho, hl, h H2 (e.trans e2) _ fun H3 e3 => ⟨d, by rw [List.append_nil]; exact hm H3 ((e.trans e2).trans e3), fun v H4 e4 p4 => q v H4 ((e2.trans e3).trans e4) (hp H3 v H4 ((e.trans e2).trans e3) e4 p4)⟩⟩
theorem ev_meth {α : Type} {Pre : α → List V → Hp → Prop} {Post : α → Hp → V → Hp → Prop} {E : XK} {tm : TA} {vs : List V} {a C dx : Addr} {fs : List (Str × V)} {m : Str} (d : α) (ha : Ev ta σ H (.ref a)) (ho : H a = some (.ins C dx fs)) (hl : fs.lookup m = none) (h : EvA tm σ H vs)
    (hm : ∀ H1, Ex H H1 → Pre d (.ref a :: vs) H1) (hp : ∀ H1 v H2, Post d H1 v H2 → v = z) : Ev (tMeth C m (spX Pre Post) [] E ta tm) σ H z := (er_meth (R := fun x _ => x = z) d ha ho hl h hm fun H1 v H2 _ _ p => hp H1 v H2 p).ev fun _ _ _ p => p
/-- C(..): __init__ leaves an instance with fields fs, of the arguments -/
def spI (C : Addr) (Pre : List V → Hp → Prop) (Post : List V → Hp → Hp → List (Str × V) → Prop) : Sp := fun vs H Q _ => ∃ x dx us, vs = .ref x :: us ∧ H x = some (.ins C dx []) ∧ Pre us H ∧
  ∀ H' fs, (∀ b o, b ≠ x → H b = some o → H' b = some o) → H' x = some (.ins C dx fs) → Post us H H' fs → Q .non H'
theorem er_make {C : Addr} {Pre : List V → Hp → Prop} {Post : List V → Hp → Hp → List (Str × V) → Prop} {E : XK} {ta : TA} {T : List V → Hp → Prop} (h : EvAR ta σ H T)
    (hm : ∀ us H1 H2, Ex H H1 → T us H1 → Ex H1 H2 → Pre us H2) (hR : ∀ us H1 H2 H3 fs x dx, Ex H H1 → T us H1 → Ex H1 H2 → Ex H1 H3 → H1 x = none → H3 x = some (.ins C dx fs) → Post us H2 H3 fs → R (.ref x) H3) :
    EvR (tMake C (spI C Pre Post) [] E ta) σ H R := fun H1 e Q q =>
  h H1 e _ fun us H2 e2 p x dx hx hd hn => by
    have eA : Ex H2 (upd (upd H2 dx (.own x)) x (.ins C dx [])) := (Ex.new hd).mut hx
    refine ⟨x, dx, us, by rw [List.append_nil], upd_same, hm us H2 _ (e.trans e2) p eA, fun H' fs hk hi hp => ⟨rfl, ?_⟩⟩
    have e3 : Ex H2 H' := fun b o hb => hk b o (fun z => by rw [z, hx] at hb; cases hb) (eA b o hb)
    exact q _ _ (e2.trans e3) (hR us H2 _ H' fs x dx (e.trans e2) p eA e3 hx hi hp)
/-! ### statements -/
theorem s_asgR {i : Nat} (h : EvR te σ H R) (k : ∀ v H1, Ex H H1 → R v H1 → D.nx (σ.set i (some v)) H1) : tAsg te (gName i) D σ H := h H (Ex.refl H) _ fun v H1 e p => k v H1 e p
theorem q_asgR {i : Nat} (h : EvR te σ H R) (k : ∀ v H1, Ex H H1 → R v H1 → tz D (σ.set i (some v)) H1) : tSeq (tAsg te (gName i)) tz D σ H := s_asgR (D := { D with nx := tz D }) h k
theorem s_retR (h : EvR te σ H R) (k : ∀ v H1, Ex H H1 → R v H1 → D.rt v H1) : tRet te D σ H := h H (Ex.refl H) _ k
theorem s_asgG (h : EvR te σ H R) (k : ∀ v H1, Ex H H1 → R v H1 → g v σ H1 D.nx) : tAsg te g D σ H := h H (Ex.refl H) _ fun v H1 e p => k v H1 e p
theorem q_asgG (h : EvR te σ H R) (k : ∀ v H1, Ex H H1 → R v H1 → g v σ H1 (tz D)) : tSeq (tAsg te g) tz D σ H := s_asgG (D := { D with nx := tz D }) h k
theorem s_dropR (h : EvR te σ H R) (k : ∀ v H1, Ex H H1 → R v H1 → D.nx σ H1) : tDrop te D σ H := h H (Ex.refl H) _ k
theorem q_dropR (h : EvR te σ H R) (k : ∀ v H1, Ex H H1 → R v H1 → tz D σ H1) : tSeq (tDrop te) tz D σ H := s_dropR (D := { D with nx := tz D }) h k
theorem s_par {i j : Nat} {ta : TA} {vs : List V} {v w : V} (h : EvA ta σ H vs) (hv : vs = [v, w]) (k : ∀ H1, Ex H H1 → D.nx ((σ.set i (some v)).set j (some w)) H1) : tPar i j ta D σ H := h H (Ex.refl H) _ fun H1 e => ⟨v, w, hv, k H1 e⟩
theorem q_par {i j : Nat} {ta : TA} {vs : List V} {v w : V} (h : EvA ta σ H vs) (hv : vs = [v, w]) (k : ∀ H1, Ex H H1 → tz D ((σ.set i (some v)).set j (some w)) H1) : tSeq (tPar i j ta) tz D σ H := s_par (D := { D with nx := tz D }) h hv k
/-- a, b, .. = a tuple -/
theorem g_tup2 {i j : Nat} {a : Addr} {p q : V} {Q : L2.St → Hp → Prop} (h : SqT K H a [p, q]) (k : Q ((σ.set i (some p)).set j (some q)) H) : gTup K 2 (gCons (gName i) (gCons (gName j) gNil)) (.ref a) σ H Q := ⟨a, [p, q], rfl, h, rfl, p, [q], rfl, q, [], rfl, rfl, k⟩
theorem g_tup3 {i j l : Nat} {a : Addr} {p q s : V} {Q : L2.St → Hp → Prop} (h : SqT K H a [p, q, s]) (k : Q (((σ.set i (some p)).set j (some q)).set l (some s)) H) : gTup K 3 (gCons (gName i) (gCons (gName j) (gCons (gName l) gNil))) (.ref a) σ H Q := ⟨a, [p, q, s], rfl, h, rfl, p, [q, s], rfl, q, [s], rfl, s, [], rfl, rfl, k⟩
theorem seq_i (h : tu { D with nx := tz D } σ H) : tSeq tu tz D σ H := h
theorem s_next (h : D.nx σ H) : tNext D σ H := h
end
/-! ### pieces -/
theorem vint_inj {i j : Int} : (V.int i = V.int j) ↔ i = j := ⟨fun h => V.int.inj h, fun h => by rw [h]⟩
theorem vbl_inj {i j : Bool} : (V.bl i = V.bl j) ↔ i = j := ⟨fun h => V.bl.inj h, fun h => by rw [h]⟩
theorem given_all {n : Nat} {v : Nat → V} : given n (fun _ => true) v = (List.range n).map v := by
  unfold given
  rw [List.filter_eq_self.mpr (fun _ _ => rfl)]
end Wl
namespace Wl
open PySem PySem.Spec PyProof.Rows L2 Evl
theorem ev_self {te : TE} {σ : L2.St} {H : Hp} {v : V} (h : Ev te σ H v) : Ev te σ H v := h
theorem et_self {t : TT} {σ : L2.St} {H : Hp} {b : Bool} (h : EvT t σ H b) : EvT t σ H b := h
theorem eb_i {b c : Bool} {P : Prop} (h : b = c → P) : b = c → P := h
end Wl
namespace Wl
open PySem PySem.Spec PyProof.Rows L2 Evl
/-! ### comprehensions -/
/-- what a made item tells leans on no list -/
def Stb (R : Nat → V → Hp → Prop) : Prop := ∀ j y H1 H2, R j y H1 → (∀ b o, H1 b = some o → (∀ zs, o ≠ .lst zs) → H2 b = some o) → R j y H2
theorem stb_val {v : Nat → V} : Stb (fun j y _ => y = v j) := fun _ _ _ _ h _ => h
theorem stb_tup {v : Nat → List V} : Stb (fun j y H => ∃ t, y = .ref t ∧ H t = some (.tup (v j))) := fun j y H1 H2 ⟨t, e, h⟩ k => ⟨t, e, k t _ h fun zs z => nomatch z⟩
def Lw (H : Hp) (R : Nat → V → Hp → Prop) (Dl : Addr) (i : Nat) (H' : Hp) : Prop := H Dl = none ∧ Ex H H' ∧ ∃ ys, H' Dl = some (.lst ys) ∧ ys.length = i ∧ ∀ j y, ys[j]? = some y → R j y H'
section
variable {K : PySem.W.Frag} {σ : L2.St} {H H' : Hp} {ta tb tc te tx : TE} {t u : TT} {x y z v : V} {D : Ends} {tu tw tz : TS} {g : TG}
theorem et_yes : EvT tYes σ H true := fun H1 _ _ q => q H1 (Ex.refl H1)
theorem lw_turn {R : Nat → V → Hp → Prop} {Dl : Addr} {i : Nat} {σ2 : L2.St} (p : Lw H R Dl i H') (hi : i < 50000) (hst : Stb R) (he : EvR te σ2 H (R i)) :
    te σ2 H' fun y H4 => ∃ acc, H4 Dl = some (.lst acc) ∧ acc.length < sizeLine ∧ Lw H R Dl (i + 1) (upd H4 Dl (.lst (acc ++ [y]))) := by
  obtain ⟨p1, p2, ys, p3, p4, p5⟩ := p
  refine he H' p2 _ fun y H4 e4 py => ⟨ys, e4 Dl _ p3, sz_lt (by omega), p1, Ex.mut (p2.trans e4) p1, ys ++ [y], upd_same, by simp [p4], fun j z hz => ?_⟩
  have keep : ∀ b o, H4 b = some o → (∀ zs, o ≠ .lst zs) → upd H4 Dl (.lst (ys ++ [y])) b = some o := fun b o hb hn => by
    rw [upd_ne (fun e => ?_)]
    · exact hb
    · subst e
      rw [e4 _ _ p3] at hb
      exact hn ys (Option.some.inj hb).symm
  by_cases hj : j < ys.length
  · rw [List.getElem?_append_left hj] at hz
    exact hst j z H4 _ (hst j z H' H4 (p5 j z hz) fun b o hb _ => e4 b o hb) keep
  · rw [List.getElem?_append_right (by omega)] at hz
    have hj2 : j - ys.length = 0 := by
      have := (List.getElem?_eq_some_iff.mp hz).1
      simp at this
      omega
    rw [hj2] at hz
    have e : y = z := Option.some.inj hz
    have ej : j = i := by omega
    subst e ej
    exact hst _ y H4 _ py keep
abbrev LcR (n : Nat) (R : Nat → V → Hp → Prop) (H : Hp) : V → Hp → Prop := fun v H2 => ∃ D ys, v = .ref D ∧ H D = none ∧ H2 D = some (.lst ys) ∧ ys.length = n ∧ ∀ j y, ys[j]? = some y → R j y H2
/-- over a list, its target any -/
theorem er_lcL {a : Addr} {xs : List V} {tl : TE} {vs : List Nat} (R : Nat → V → Hp → Prop) (hst : Stb R) (h : Ev tl σ H (.ref a)) (hx : SqL K H a xs) (hz : xs.length ≤ 40000)
    (hg : ∀ i x, xs[i]? = some x → ∃ σ2, wipe σ2 vs = wipe σ vs ∧ EvR te σ2 H (R i) ∧ ∀ H', Ex H H' → ∀ Q : L2.St → Hp → Prop, Q σ2 H' → g x (wipe σ vs) H' Q) :
    EvR (tLc (iList K tl) g tYes te vs) σ H (LcR xs.length R H) := fun H0 e Q q => h H0 e _ fun H1 e1 => ⟨a, rfl, ⟨xs, ex_l (e.trans e1) hx⟩, fun Dl hD =>
  lc_list (xs := xs) (Lw H1 R Dl) ⟨hD, Ex.new hD, [], upd_same, rfl, fun j y hy => by simp at hy⟩ (fun i H' _ p => ex_l ((e.trans e1).trans p.2.1) hx) (fun i x H' hi p => by
    obtain ⟨σ2, hw, he, hq⟩ := hg i x hi
    refine hq H' ((e.trans e1).trans p.2.1) _ ⟨hw, ?_⟩
    exact lw_turn p (by have := (List.getElem?_eq_some_iff.mp hi).1; omega) hst (he.mono (e.trans e1))) (fun H' p => by
    obtain ⟨p1, p2, ys, p3, p4, p5⟩ := p
    exact q _ H' (e1.trans p2) ⟨Dl, ys, rfl, fresh_back (e.trans e1) p1, p3, p4, p5⟩)⟩
/-- over a new list -/
theorem er_lcNL {xs : List V} {tl : TE} {vs : List Nat} (S : V → Hp → Prop) (R : Nat → V → Hp → Prop) (hst : Stb R) (h : EvR tl σ H S) (hS : ∀ v H1, Ex H H1 → S v H1 → ∃ a, v = .ref a ∧ SqL K H1 a xs) (hz : xs.length ≤ 40000)
    (hg : ∀ v H1, Ex H H1 → S v H1 → ∀ i x, xs[i]? = some x → ∃ σ2, wipe σ2 vs = wipe σ vs ∧ EvR te σ2 H1 (R i) ∧ ∀ H', Ex H1 H' → ∀ Q : L2.St → Hp → Prop, Q σ2 H' → g x (wipe σ vs) H' Q) :
    EvR (tLc (iList K tl) g tYes te vs) σ H (LcR xs.length R H) := fun H0 e Q q => h H0 e _ fun v H1 e1 hv => by
  obtain ⟨a, rfl, hx⟩ := hS v H1 (e.trans e1) hv
  refine ⟨a, rfl, ⟨xs, hx⟩, fun Dl hD =>
    lc_list (xs := xs) (Lw H1 R Dl) ⟨hD, Ex.new hD, [], upd_same, rfl, fun j y hy => by simp at hy⟩ (fun i H' _ p => ex_l p.2.1 hx) (fun i x H' hi p => ?_) (fun H' p => ?_)⟩
  · obtain ⟨σ2, hw, he, hq⟩ := hg _ H1 (e.trans e1) hv i x hi
    refine hq H' p.2.1 _ ⟨hw, ?_⟩
    exact lw_turn p (by have := (List.getElem?_eq_some_iff.mp hi).1; omega) hst he
  · obtain ⟨p1, p2, ys, p3, p4, p5⟩ := p
    exact q _ H' (e1.trans p2) ⟨Dl, ys, rfl, fresh_back (e.trans e1) p1, p3, p4, p5⟩
/-- over a tuple -/
theorem er_lcT {a : Addr} {xs : List V} {tl : TE} {vs : List Nat} (R : Nat → V → Hp → Prop) (hst : Stb R) (h : Ev tl σ H (.ref a)) (hx : SqT K H a xs) (hz : xs.length ≤ 40000)
    (hg : ∀ i x, xs[i]? = some x → ∃ σ2, wipe σ2 vs = wipe σ vs ∧ EvR te σ2 H (R i) ∧ ∀ H', Ex H H' → ∀ Q : L2.St → Hp → Prop, Q σ2 H' → g x (wipe σ vs) H' Q) :
    EvR (tLc (iTup K tl) g tYes te vs) σ H (LcR xs.length R H) := fun H0 e Q q => h H0 e _ fun H1 e1 => ⟨a, rfl, ⟨xs, ex_t (e.trans e1) hx⟩, fun Dl hD =>
  lc_tup (xs := xs) (Lw H1 R Dl) ⟨hD, Ex.new hD, [], upd_same, rfl, fun j y hy => by simp at hy⟩ (fun i H' _ p => ex_t ((e.trans e1).trans p.2.1) hx) (fun i x H' hi p => by
    obtain ⟨σ2, hw, he, hq⟩ := hg i x hi
    refine hq H' ((e.trans e1).trans p.2.1) _ ⟨hw, ?_⟩
    exact lw_turn p (by have := (List.getElem?_eq_some_iff.mp hi).1; omega) hst (he.mono (e.trans e1))) (fun H' p => by
    obtain ⟨p1, p2, ys, p3, p4, p5⟩ := p
    exact q _ H' (e1.trans p2) ⟨Dl, ys, rfl, fresh_back (e.trans e1) p1, p3, p4, p5⟩)⟩
/-- over range(n) -/
theorem er_lcR {ta : TA} {n : Nat} {j : Nat} {vs : List Nat} (R : Nat → V → Hp → Prop) (hst : Stb R) (h : EvA ta σ H [.int (n : Int)]) (hz : n ≤ 40000) (hw : ∀ x, wipe ((wipe σ vs).set j (some x)) vs = wipe σ vs)
    (hg : ∀ i, i < n → EvR te ((wipe σ vs).set j (some (.int (i : Int)))) H (R i)) :
    EvR (tLc (iRng1 ta) (gName j) tYes te vs) σ H (LcR n R H) := fun H0 e Q q => h H0 e _ fun H1 e1 => ⟨n, rfl, by omega, by omega, fun Dl hD => by
  have en : ((n : Int)).toNat = n := by omega
  rw [en]
  refine lc_range (lo := 0) (n := n) (Lw H1 R Dl) ⟨hD, Ex.new hD, [], upd_same, rfl, fun j y hy => by simp at hy⟩ (fun i H' hi p => ?_) (fun H' p => ?_)
  · have e0 : (0 : Int) + (i : Int) = (i : Int) := Int.zero_add _
    rw [e0]
    refine ⟨hw _, ?_⟩
    exact lw_turn p (by omega) hst ((hg i hi).mono (e.trans e1))
  · obtain ⟨p1, p2, ys, p3, p4, p5⟩ := p
    exact q _ H' (e1.trans p2) ⟨Dl, ys, rfl, fresh_back (e.trans e1) p1, p3, p4, p5⟩⟩
/-- the made list, its items known -/
theorem lc_is {n : Nat} {f : Nat → V} {ys : List V} (hl : ys.length = n) (h : ∀ j y, ys[j]? = some y → y = f j) : ys = (List.range n).map f := by
  apply List.ext_getElem?
  intro i
  cases e : ys[i]? with
  | none =>
    have := List.getElem?_eq_none_iff.mp e
    exact (List.getElem?_eq_none_iff.mpr (by rw [List.length_map, List.length_range]; omega)).symm
  | some y =>
    have hi := (List.getElem?_eq_some_iff.mp e).1
    rw [List.getElem?_map, List.getElem?_range (by omega), h i y e]
    rfl
/-- the list's items known -/
theorem LcR.sq {n : Nat} {f : Nat → V} {v : V} {H1 : Hp} (h : LcR n (fun j y _ => y = f j) H v H1) : ∃ a, v = .ref a ∧ SqL K H1 a ((List.range n).map f) := by
  obtain ⟨D, ys, rfl, _, h3, h4, h5⟩ := h
  rw [lc_is h4 h5] at h3
  exact ⟨D, rfl, sq_of h3⟩
theorem ev_sumR {S : V → Hp → Prop} {ns : List Int} (h : EvR te σ H S) (hS : ∀ v H1, Ex H H1 → S v H1 → ∃ a, v = .ref a ∧ SqL K H1 a (ns.map V.int)) : Ev (tCB (rSum K) (tCons te tNil)) σ H (.int ns.sum) := fun H1 e Q q =>
  h H1 e _ fun x H2 e2 p => by
    obtain ⟨a, rfl, hx⟩ := hS x H2 (e.trans e2) p
    exact ⟨a, ns, rfl, hx, q H2 e2⟩
theorem ev_allR {S : V → Hp → Prop} {bs : List Bool} (h : EvR te σ H S) (hS : ∀ v H1, Ex H H1 → S v H1 → ∃ a, v = .ref a ∧ SqL K H1 a (bs.map V.bl)) : Ev (tCB (rAll K) (tCons te tNil)) σ H (.bl (bs.all id)) := fun H1 e Q q =>
  h H1 e _ fun x H2 e2 p => by
    obtain ⟨a, rfl, hx⟩ := hS x H2 (e.trans e2) p
    exact ⟨a, bs, rfl, hx, q H2 e2⟩
theorem ev_anyR {S : V → Hp → Prop} {bs : List Bool} (h : EvR te σ H S) (hS : ∀ v H1, Ex H H1 → S v H1 → ∃ a, v = .ref a ∧ SqL K H1 a (bs.map V.bl)) : Ev (tCB (rAny K) (tCons te tNil)) σ H (.bl (bs.any id)) := fun H1 e Q q =>
  h H1 e _ fun x H2 e2 p => by
    obtain ⟨a, rfl, hx⟩ := hS x H2 (e.trans e2) p
    exact ⟨a, bs, rfl, hx, q H2 e2⟩
/-- tuple(a list) -/
theorem er_tupR {S : V → Hp → Prop} {xs : List V} (h : EvR te σ H S) (hS : ∀ v H1, Ex H H1 → S v H1 → ∃ a, v = .ref a ∧ SqL K H1 a xs) : EvR (tCB (rTupOf K) (tCons te tNil)) σ H (fun v H2 => ∃ p, v = .ref p ∧ H p = none ∧ H2 p = some (.tup xs)) := fun H1 e Q q =>
  h H1 e _ fun x H2 e2 p => by
    obtain ⟨a, rfl, hx⟩ := hS x H2 (e.trans e2) p
    exact ⟨a, xs, rfl, .inl ⟨hx, fun l hl => q _ _ (e2.trans (Ex.new hl)) ⟨l, rfl, fresh_back (e.trans e2) hl, upd_same⟩⟩⟩
/-- list(a list) -/
theorem er_listL {a : Addr} {xs : List V} (h : Ev te σ H (.ref a)) (hx : SqL K H a xs) : EvR (tCB (fun xs H Q => ∃ p ys, xs = [V.ref p] ∧ (SqL K H p ys ∨ SqT K H p ys) ∧ ∀ l, H l = none → Q (.ref l) (upd H l (.lst ys))) (tCons te tNil)) σ H (fun v H2 => ∃ p, v = .ref p ∧ H p = none ∧ H2 p = some (.lst xs)) := fun H1 e Q q =>
  h H1 e _ fun H2 e2 => ⟨a, xs, rfl, .inl (ex_l (e.trans e2) hx), fun l hl => q _ _ (e2.trans (Ex.new hl)) ⟨l, rfl, fresh_back (e.trans e2) hl, upd_same⟩⟩
/-- (a, b, ..) of anything -/
theorem er_tup {ta : TA} {T : List V → Hp → Prop} (h : EvAR ta σ H T) (hl : ∀ vs H1, T vs H1 → vs.length ≤ 100000) : EvR (tTup ta) σ H (fun v H2 => ∃ p vs H1, v = .ref p ∧ H p = none ∧ Ex H1 H2 ∧ T vs H1 ∧ H2 p = some (.tup vs)) := fun H1 e Q q =>
  h H1 e _ fun vs H2 e2 p => ⟨sz_of (hl vs H2 p), fun l hl => q _ _ (e2.trans (Ex.new hl)) ⟨l, vs, H2, rfl, fresh_back (e.trans e2) hl, Ex.new hl, p, upd_same⟩⟩
theorem er_lst {ta : TA} {T : List V → Hp → Prop} (h : EvAR ta σ H T) (hl : ∀ vs H1, T vs H1 → vs.length ≤ 100000) : EvR (tLst ta) σ H (fun v H2 => ∃ p vs H1, v = .ref p ∧ H p = none ∧ Ex H1 H2 ∧ T vs H1 ∧ H2 p = some (.lst vs)) := fun H1 e Q q =>
  h H1 e _ fun vs H2 e2 p => ⟨sz_of (hl vs H2 p), fun l hl => q _ _ (e2.trans (Ex.new hl)) ⟨l, vs, H2, rfl, fresh_back (e.trans e2) hl, Ex.new hl, p, upd_same⟩⟩
end
end Wl
namespace Wl
open PySem PySem.Spec PyProof.Rows L2 Evl
theorem EvAR.imp {ta : TA} {σ : L2.St} {H : Hp} {R R' : List V → Hp → Prop} (h : EvAR ta σ H R) (hi : ∀ v H2, Ex H H2 → R v H2 → R' v H2) : EvAR ta σ H R' := fun H1 a Q q => h H1 a Q fun v H2 e p => q v H2 e (hi v H2 (a.trans e) p)
end Wl
namespace Wl
open PySem PySem.Spec PyProof.Rows L2 Evl
/-! ### rules with K named (within a comprehension K is hidden in the context) -/
section
variable {X : Cx} (K : PySem.W.Frag)
theorem ix_tupK (h : X.K = K := by rfl) : IxR X (rIxT K) := by subst h; exact ix_tup
theorem ix_listK (h : X.K = K := by rfl) : IxR X (rIxL K) := by subst h; exact ix_list
abbrev rLenQ (K : PySem.W.Frag) : List V → Hp → VK → Prop := fun xs H Q => ∃ p ys, xs = [.ref p] ∧ (SqL K H p ys ∨ SqT K H p ys) ∧ Q (.int ys.length) H
abbrev rListQ (K : PySem.W.Frag) : List V → Hp → VK → Prop := fun xs H Q => ∃ p ys, xs = [.ref p] ∧ (SqL K H p ys ∨ SqT K H p ys) ∧ ∀ l, H l = none → Q (.ref l) (upd H l (.lst ys))
theorem len_seqK (h : X.K = K := by rfl) : CallR X (.builtin "len") (rLenQ K) := by subst h; exact call_len_seq
theorem allK (hc : X.calm = true) (h : X.K = K := by rfl) : CallR X (.builtin "all") (rAll K) := by subst h; exact cr_all hc
theorem anyK (hc : X.calm = true) (h : X.K = K := by rfl) : CallR X (.builtin "any") (rAny K) := by subst h; exact cr_any hc
theorem sumK (hc : X.calm = true) (h : X.K = K := by rfl) : CallR X (.builtin "sum") (rSum K) := by subst h; exact cr_sum hc
theorem isiK (h : X.K = K := by rfl) : CallR X (.builtin "isinstance") (rIsi K) := by subst h; exact call_isi
theorem list_ofK (h : X.K = K := by rfl) : CallR X (.type "list") (rListQ K) := by subst h; exact call_list_of
theorem tuple_ofK (h : X.K = K := by rfl) : CallR X (.type "tuple") (rTupOf K) := by subst h; exact call_tuple_of
theorem eqDK (hu : X.A.units + 64 < cLine) (h : X.K = K := by rfl) : OpR X (compareOp .Eq) (rEqD K) := by subst h; exact op_eqD hu
theorem neDK (hu : X.A.units + 64 < cLine) (h : X.K = K := by rfl) : OpR X (compareOp .NotEq) (rNeD K) := by subst h; exact op_neD hu
theorem pe_fldK {e : Expr} {f : Str} {pos : Pos} {ta : TE} (he : PE X e ta) (hb : attributeBase e f X.env (eval e X.env) = eval e X.env) (h : X.K = K := by rfl) : PE X (.Attribute e f pos) (tFld K ta f) := by subst h; exact pe_fld he hb
theorem pg_tupK {es : List Expr} {k : Nat} {pos : Pos} {t : TGs} {n : Nat} (hc : X.calm = true) (ht : PGs X es t)
    (hn : (assignEach es X.env).length = n := by rfl) (hst : (assignEach es X.env).findIdx? (·.1) = none := by rfl) (h : X.K = K := by rfl) : PG X (.Tuple es k pos) (gTup K n t) := by subst h; exact pg_tup hc ht hn hst
theorem pi_listK {tg l : Expr} {tl : TE} (hl : PE X l tl) (h : X.K = K := by rfl) : PI X tg l (iList K tl) := by subst h; exact pi_list hl
theorem pi_tupK {tg l : Expr} {tl : TE} (hl : PE X l tl) (h : X.K = K := by rfl) : PI X tg l (iTup K tl) := by subst h; exact pi_tup hl
end
end Wl
namespace Wl
open PySem PySem.Spec PyProof.Rows L2 Evl
section
variable {K : PySem.W.Frag} {σ : L2.St} {H H' : Hp} {te : TE}
/-- the target a name -/
theorem er_lcLn {a : Addr} {xs : List V} {tl : TE} {vs : List Nat} {j : Nat} (R : Nat → V → Hp → Prop) (hst : Stb R) (h : Ev tl σ H (.ref a)) (hx : SqL K H a xs) (hz : xs.length ≤ 40000) (hw : ∀ x, wipe ((wipe σ vs).set j (some x)) vs = wipe σ vs)
    (hg : ∀ i x, xs[i]? = some x → EvR te ((wipe σ vs).set j (some x)) H (R i)) : EvR (tLc (iList K tl) (gName j) tYes te vs) σ H (LcR xs.length R H) :=
  er_lcL R hst h hx hz fun i x hi => ⟨_, hw x, hg i x hi, fun _ _ _ q => q⟩
theorem er_lcTn {a : Addr} {xs : List V} {tl : TE} {vs : List Nat} {j : Nat} (R : Nat → V → Hp → Prop) (hst : Stb R) (h : Ev tl σ H (.ref a)) (hx : SqT K H a xs) (hz : xs.length ≤ 40000) (hw : ∀ x, wipe ((wipe σ vs).set j (some x)) vs = wipe σ vs)
    (hg : ∀ i x, xs[i]? = some x → EvR te ((wipe σ vs).set j (some x)) H (R i)) : EvR (tLc (iTup K tl) (gName j) tYes te vs) σ H (LcR xs.length R H) :=
  er_lcT R hst h hx hz fun i x hi => ⟨_, hw x, hg i x hi, fun _ _ _ q => q⟩
/-- the target a pair of names, the items pairs -/
theorem er_lcLp {a : Addr} {xs : List V} {tl : TE} {vs : List Nat} {j l : Nat} (R : Nat → V → Hp → Prop) (hst : Stb R) (h : Ev tl σ H (.ref a)) (hx : SqL K H a xs) (hz : xs.length ≤ 40000) (hw : ∀ x y, wipe (((wipe σ vs).set j (some x)).set l (some y)) vs = wipe σ vs)
    (hg : ∀ i x, xs[i]? = some x → ∃ t p q, x = .ref t ∧ SqT K H t [p, q] ∧ EvR te (((wipe σ vs).set j (some p)).set l (some q)) H (R i)) : EvR (tLc (iList K tl) (gTup K 2 (gCons (gName j) (gCons (gName l) gNil))) tYes te vs) σ H (LcR xs.length R H) :=
  er_lcL R hst h hx hz fun i x hi => by
    obtain ⟨t, p, q, rfl, ht, he⟩ := hg i x hi
    exact ⟨_, hw p q, he, fun _ e _ k => g_tup2 (ex_t e ht) k⟩
end
end Wl
namespace Wl
open PySem PySem.Spec PyProof.Rows L2 Evl
section
variable {K : PySem.W.Frag} {σ : L2.St} {H H' : Hp} {te ti : TE} {ta : TA}
theorem dec_vint {i j : Int} : decide (V.int i = V.int j) = decide (i = j) := decide_eq_decide.mpr vint_inj
theorem dec_vbl {i j : Bool} : decide (V.bl i = V.bl j) = decide (i = j) := decide_eq_decide.mpr vbl_inj
theorem rv_eqI {i j : Int} : RV rEq (.int i) (.int j) H (.bl (decide (i = j))) := fun H1 _ _ q => ⟨rfl, by rw [dec_vint]; exact q H1 (Ex.refl H1)⟩
theorem rv_neI {i j : Int} : RV rNe (.int i) (.int j) H (.bl (!decide (i = j))) := fun H1 _ _ q => ⟨rfl, by rw [dec_vint]; exact q H1 (Ex.refl H1)⟩
theorem rv_eqB {i j : Bool} : RV rEq (.bl i) (.bl j) H (.bl (decide (i = j))) := fun H1 _ _ q => ⟨rfl, by rw [dec_vbl]; exact q H1 (Ex.refl H1)⟩
theorem rv_neB {i j : Bool} : RV rNe (.bl i) (.bl j) H (.bl (!decide (i = j))) := fun H1 _ _ q => ⟨rfl, by rw [dec_vbl]; exact q H1 (Ex.refl H1)⟩
theorem rv_isB {i j : Bool} : RV rIsB (.bl i) (.bl j) H (.bl (decide (i = j))) := fun H1 _ _ q => ⟨i, j, rfl, rfl, q H1 (Ex.refl H1)⟩
theorem rv_notB {i j : Bool} : RV rNotB (.bl i) (.bl j) H (.bl (!decide (i = j))) := fun H1 _ _ q => ⟨i, j, rfl, rfl, q H1 (Ex.refl H1)⟩
theorem atI_map {l : List Int} {i : Int} (h0 : 0 ≤ i) (h1 : i < l.length) : atI (l.map V.int) i = some (.int (l.getD i.toNat 0)) := by
  refine at_of (j := i.toNat) (by omega) ?_
  rw [List.getElem?_map, List.getD_eq_getElem?_getD, List.getElem?_eq_getElem (by omega)]
  rfl
/-- an item of a written tuple of ints -/
theorem ev_pick {l : List Int} {i : Int} {vs : List V} (h : EvA ta σ H vs) (hi : Ev ti σ H (.int i)) (hv : vs = l.map V.int) (h0 : 0 ≤ i) (h1 : i < l.length) (hl : l.length ≤ 100000) : Ev (tOp (rIxT K) (tTup ta) ti) σ H (.int (l.getD i.toNat 0)) :=
  ev_opR (eur (eu_tup h (by rw [hv, List.length_map]; exact hl))) hi fun x H1 e ⟨p, hx, _, hp⟩ => by
    subst hx
    rw [hv] at hp
    exact rv_ixT (st_of hp) (atI_map h0 h1)
theorem getD_all {l : List Int} {i : Nat} {a b : Int} (h : (l.all fun x => decide (a ≤ x) && decide (x ≤ b)) = true) (hi : i < l.length) : a ≤ l.getD i 0 ∧ l.getD i 0 ≤ b := by
  rw [List.getD_eq_getElem?_getD, List.getElem?_eq_getElem hi]
  have := List.all_eq_true.mp h _ (List.getElem_mem hi)
  simp only [Bool.and_eq_true, decide_eq_true_eq] at this
  exact this
theorem ev_lenL {p : Addr} {xs : List V} (ha : Ev te σ H (.ref p)) (h : SqL K H p xs) : Ev (tCB (rLenQ K) (tCons te tNil)) σ H (.int (xs.length : Int)) := fun H1 e Q q =>
  ha H1 e _ fun H2 e2 => ⟨p, xs, rfl, .inl (ex_l (e.trans e2) h), q H2 e2⟩
end
end Wl
namespace Wl
open PySem PySem.Spec PyProof.Rows L2 Evl
theorem lk0 {f g : Str} {x : V} (h : (g == f) = false := by decide +kernel) : List.lookup g [(f, x)] = none := by simp [List.lookup, h]
theorem lk00 {f f2 g : Str} {x x2 : V} (h : (g == f) = false := by decide +kernel) (h2 : (g == f2) = false := by decide +kernel) : List.lookup g [(f, x), (f2, x2)] = none := by simp [List.lookup, h, h2]
theorem lk21 {f f2 : Str} {x x2 : V} : List.lookup f [(f, x), (f2, x2)] = some x := by simp [List.lookup]
theorem lk22 {f f2 : Str} {x x2 : V} (h : (f2 == f) = false := by decide +kernel) : List.lookup f2 [(f, x), (f2, x2)] = some x2 := by simp [List.lookup, h]
section
variable {K : PySem.W.Frag} {σ : L2.St} {H H' : Hp} {te ti : TE} {ta : TA} {D : Ends} {tu tz : TS} {g : TG}
/-- over a new tuple, the target a name -/
theorem s_forTR {xs : List V} {tl : TE} {j : Nat} (h : EvR tl σ H (fun v H1 => ∃ a, v = .ref a ∧ SqT K H1 a xs)) (Pv : Addr → Nat → L2.St → Hp → Prop) (h0 : ∀ a H1, Ex H H1 → SqT K H1 a xs → Pv a 0 σ H1) (hl : ∀ a i σ' H', i ≤ xs.length → Pv a i σ' H' → SqT K H' a xs)
    (hs : ∀ a i x σ' H', xs[i]? = some x → Pv a i σ' H' → tu { D with nx := Pv a (i + 1), ct := Pv a (i + 1), bk := D.nx } (σ'.set j (some x)) H') (hd : ∀ a σ' H', Pv a xs.length σ' H' → D.nx σ' H') : tFor (iTup K tl) (gName j) tu D σ H :=
  h H (Ex.refl H) _ fun v H1 e ⟨a, hv, hx⟩ => ⟨a, hv, ⟨xs, hx⟩, for_tup (Pv a) (h0 a H1 e hx) (hl a) (hs a) (hd a)⟩
theorem q_forTR {xs : List V} {tl : TE} {j : Nat} (h : EvR tl σ H (fun v H1 => ∃ a, v = .ref a ∧ SqT K H1 a xs)) (Pv : Addr → Nat → L2.St → Hp → Prop) (h0 : ∀ a H1, Ex H H1 → SqT K H1 a xs → Pv a 0 σ H1) (hl : ∀ a i σ' H', i ≤ xs.length → Pv a i σ' H' → SqT K H' a xs)
    (hs : ∀ a i x σ' H', xs[i]? = some x → Pv a i σ' H' → tu { D with nx := Pv a (i + 1), ct := Pv a (i + 1), bk := tz D } (σ'.set j (some x)) H') (hd : ∀ a σ' H', Pv a xs.length σ' H' → tz D σ' H') : tSeq (tFor (iTup K tl) (gName j) tu) tz D σ H :=
  s_forTR (D := { D with nx := tz D }) h Pv h0 hl hs hd
theorem ert_tup {vs : List V} (h : EvA ta σ H vs) (hl : vs.length ≤ 100000) : EvR (tTup ta) σ H (fun v H1 => ∃ a, v = .ref a ∧ SqT K H1 a vs) := (eur (eu_tup h hl)).imp fun _ _ _ ⟨p, e, _, hp⟩ => ⟨p, e, st_of hp⟩
theorem rv_pow {i j : Int} (h : CPow i j) : RV (rI CPow fun i j => .int (i ^ j.toNat)) (.int i) (.int j) H (.int (i ^ j.toNat)) := rv_I h
theorem atI_ints {l : List Int} {i : Nat} (h : i < l.length) : atI (l.map V.int) (i : Int) = some (.int (l.getD i 0)) := by
  refine atI_nat ?_
  rw [List.getElem?_map, List.getD_eq_getElem?_getD, List.getElem?_eq_getElem h]
  rfl
theorem getD_mem {l : List Int} {i : Nat} (h : i < l.length) : l.getD i 0 ∈ l := by
  rw [List.getD_eq_getElem?_getD, List.getElem?_eq_getElem h]
  exact List.getElem_mem h
end
end Wl
namespace Wl
open PySem PySem.Spec PyProof.Rows L2 Evl
/-! ### lists: made, cut, joined, walked, compared -/
abbrev NewL (xs : List V) (H : Hp) : V → Hp → Prop := fun v H2 => ∃ p, v = .ref p ∧ H p = none ∧ H2 p = some (.lst xs)
abbrev LstAt (xs : List V) : V → Hp → Prop := fun v H2 => ∃ p, v = .ref p ∧ H2 p = some (.lst xs)
theorem LstAt.up {xs : List V} {v : V} {H H' : Hp} (e : Ex H H') (h : LstAt xs v H) : LstAt xs v H' := by
  obtain ⟨p, r, h⟩ := h
  exact ⟨p, r, e _ _ h⟩
abbrev iv (ns : List Int) : List V := ns.map V.int
section
variable {K : PySem.W.Frag} {σ : L2.St} {H H' : Hp} {ta tb tc te tl : TE} {x y z v : V} {D : Ends} {tu tz : TS} {g : TG}
theorem er_new {ta : TA} {xs : List V} (h : EvA ta σ H xs) (hl : xs.length ≤ 100000) : EvR (tLst ta) σ H (NewL xs H) := elr (el_lst h hl)
theorem er_cat {xs ys : List V} (ha : EvR ta σ H (LstAt xs)) (hb : EvR tb σ H (LstAt ys)) (hl : xs.length + ys.length ≤ 100000) : EvR (tOp rCat ta tb) σ H (NewL (xs ++ ys) H) := fun H1 e Q q =>
  ha H1 e _ fun x H2 e2 ⟨p, hx, hp⟩ => hb H2 (e.trans e2) _ fun y H3 e3 ⟨r, hy, hr⟩ => ⟨p, r, xs, ys, hx, hy, e3 _ _ hp, hr, sz_of hl, fun l hn => q _ _ ((e2.trans e3).trans (Ex.new hn)) ⟨l, rfl, fresh_back ((e.trans e2).trans e3) hn, upd_same⟩⟩
theorem er_rev {xs : List V} {a : Addr} (h : Ev ta σ H (.ref a)) (hx : SqL K H a xs) : EvR (tRevL K ta) σ H (NewL xs.reverse H) := fun H1 e Q q =>
  h H1 e _ fun H2 e2 => ⟨a, xs, rfl, ex_l (e.trans e2) hx, fun l hn => q _ _ (e2.trans (Ex.new hn)) ⟨l, rfl, fresh_back (e.trans e2) hn, upd_same⟩⟩
theorem er_sl {xs : List V} {a : Addr} {t1 t2 : TO} {lo hi : Option Int} (h : Ev ta σ H (.ref a)) (h1 : EvO t1 σ H lo) (h2 : EvO t2 σ H hi) (hx : SqL K H a xs) : EvR (tSl (rSlL K) ta t1 t2) σ H (NewL (cutV xs lo hi) H) := elr (el_sl h h1 h2 hx)
theorem er_list {a : Addr} {xs : List V} (h : Ev te σ H (.ref a)) (hx : SqL K H a xs) : EvR (tCB (rListQ K) (tCons te tNil)) σ H (NewL xs H) := er_listL h hx
theorem cut_from1 (xs : List V) : cutV xs (some 1) none = xs.drop 1 := by
  unfold cutV
  rw [show HT.sIx xs.length 0 (some 1) = min 1 xs.length from HT.sIx_nat xs.length 0 1, HT.sIx_none]
  cases xs with
  | nil => rfl
  | cons x r =>
    rw [show min 1 (x :: r).length = 1 by
      rw [List.length_cons]
      omega]
    show (List.take ((x :: r).length - 1) r) = r
    rw [List.length_cons, Nat.add_sub_cancel]
    exact List.take_length
/-- [F n for n in ns] -/
theorem range_items {α β : Type} (f : α → β) (d : α) (l : List α) : (List.range l.length).map (fun j => f (l.getD j d)) = l.map f := by
  apply List.ext_getElem?
  intro i
  by_cases h : i < l.length
  · have e : l.getD i d = l[i] := by rw [List.getD_eq_getElem?_getD, List.getElem?_eq_getElem h]; rfl
    rw [List.getElem?_map, List.getElem?_range h, List.getElem?_map, List.getElem?_eq_getElem h]
    show some (f (l.getD i d)) = some (f l[i])
    rw [e]
  · rw [List.getElem?_eq_none (by simpa using h), List.getElem?_eq_none (by simpa using h)]
theorem LcR.new {n : Nat} {f : Nat → V} {v : V} {H1 : Hp} (h : LcR n (fun j y _ => y = f j) H v H1) : NewL ((List.range n).map f) H v H1 := by
  obtain ⟨D, ys, rfl, h2, h3, h4, h5⟩ := h
  rw [lc_is h4 h5] at h3
  exact ⟨D, rfl, h2, h3⟩
theorem er_lcI {a : Addr} {ns : List Int} {vs : List Nat} {j : Nat} (F : Int → V) (h : Ev tl σ H (.ref a)) (hx : SqL K H a (iv ns)) (hz : ns.length ≤ 40000) (hw : ∀ x, wipe ((wipe σ vs).set j (some x)) vs = wipe σ vs)
    (hg : ∀ n, n ∈ ns → Ev te ((wipe σ vs).set j (some (.int n))) H (F n)) : EvR (tLc (iList K tl) (gName j) tYes te vs) σ H (NewL (ns.map F) H) :=
  (er_lcLn (fun i y _ => y = F (ns.getD i 0)) stb_val h hx (by rw [List.length_map]; exact hz) hw fun i x hi => by
    rw [List.getElem?_map] at hi
    cases e : ns[i]? with
    | none => rw [e] at hi; cases hi
    | some n =>
      rw [e] at hi
      cases hi
      have hd : ns.getD i 0 = n := by rw [List.getD_eq_getElem?_getD, e]; rfl
      rw [hd]
      exact evr (hg n (List.mem_of_getElem? e))).imp fun v H2 _ p => by
    have q := LcR.new p
    rw [List.length_map, range_items F 0 ns] at q
    exact q
/-- [F k for k in range(n)] -/
theorem er_lcRI {ta : TA} {n : Nat} {vs : List Nat} {j : Nat} (F : Nat → V) (h : EvA ta σ H [.int (n : Int)]) (hz : n ≤ 40000) (hw : ∀ x, wipe ((wipe σ vs).set j (some x)) vs = wipe σ vs)
    (hg : ∀ i, i < n → Ev te ((wipe σ vs).set j (some (.int (i : Int)))) H (F i)) : EvR (tLc (iRng1 ta) (gName j) tYes te vs) σ H (NewL ((List.range n).map F) H) :=
  (er_lcR (fun i y _ => y = F i) stb_val h hz hw fun i hi => evr (hg i hi)).imp fun v H2 _ p => LcR.new p
/-- [.. for x, y in zip(xs, ys)] -/
theorem er_lcZ {ta : TA} {a b : Addr} {xs ys : List V} {vs : List Nat} {j l : Nat} (F : Nat → V) (h : EvA ta σ H [.ref a, .ref b]) (hx : SqL K H a xs) (hy : SqL K H b ys) (hxy : xs.length = ys.length) (hz : xs.length ≤ 40000) (hw : ∀ x y, wipe (((wipe σ vs).set j (some x)).set l (some y)) vs = wipe σ vs)
    (hg : ∀ i x y, xs[i]? = some x → ys[i]? = some y → Ev te (((wipe σ vs).set j (some x)).set l (some y)) H (F i)) :
    EvR (tLc (iZip K ta) (gTup K 2 (gCons (gName j) (gCons (gName l) gNil))) tYes te vs) σ H (NewL ((List.range xs.length).map F) H) := fun H0 e Q q => h H0 e _ fun H1 e1 => ⟨a, b, xs, ys, rfl, ex_l (e.trans e1) hx, ex_l (e.trans e1) hy, fun Dl hD => by
  refine ⟨fun i m H' => m = xs.length - i ∧ i ≤ xs.length ∧ Lw H1 (fun i y _ => y = F i) Dl i H', ⟨_, rfl, Nat.zero_le _, hD, Ex.new hD, [], upd_same, rfl, fun j y hy => by simp at hy⟩, ?_⟩
  rintro i m H' ⟨rfl, hi, p⟩
  have qx := ex_l ((e.trans e1).trans p.2.1) hx
  have qy := ex_l ((e.trans e1).trans p.2.1) hy
  by_cases hlt : i < xs.length
  · have hlt2 : i < ys.length := by omega
    have ex : xs[i]? = some xs[i] := List.getElem?_eq_getElem hlt
    have ey : ys[i]? = some ys[i] := List.getElem?_eq_getElem hlt2
    refine .inr ⟨⟨xs, ys, _, _, qx, qy, ex, ey⟩, Lw H1 (fun i y _ => y = F i) Dl (i + 1), fun H2 p2 => ⟨xs.length - (i + 1), by omega, rfl, hlt, p2⟩, fun v H2 hyld => ?_⟩
    obtain ⟨T, x', y', rfl, hT, rfl, f1, f2⟩ := hyld
    have e1' : x' = xs[i] := Option.some.inj ((f1 _ qx).symm.trans ex)
    have e2' : y' = ys[i] := Option.some.inj ((f2 _ qy).symm.trans ey)
    subst e1' e2'
    refine g_tup2 (st_of upd_same) ⟨hw _ _, ?_⟩
    have p' : Lw H1 (fun i y _ => y = F i) Dl i (upd H' T (.tup [xs[i], ys[i]])) := by
      obtain ⟨p1, p2, zs, p3, p4, p5⟩ := p
      exact ⟨p1, p2.trans (Ex.new hT), zs, by rw [upd_ne (ne_of_none p3 hT)]; exact p3, p4, p5⟩
    exact lw_turn p' (by omega) stb_val ((evr (hg i _ _ ex ey)).mono (e.trans e1))
  · have ei : i = xs.length := by omega
    subst ei
    obtain ⟨p1, p2, zs, p3, p4, p5⟩ := p
    rw [lc_is p4 p5] at p3
    exact .inl ⟨⟨xs, ys, qx, qy, .inl (Nat.le_refl _)⟩, q _ H' (e1.trans p2) ⟨Dl, rfl, fresh_back (e.trans e1) p1, p3⟩⟩⟩
theorem ev_sumN {ns : List Int} {H0 : Hp} (h : EvR te σ H (NewL (iv ns) H0)) : Ev (tCB (rSum K) (tCons te tNil)) σ H (.int ns.sum) := ev_sumR h fun v H1 _ ⟨p, e, _, hp⟩ => ⟨p, e, sq_of hp⟩
theorem ev_allN {bs : List Bool} {H0 : Hp} (h : EvR te σ H (NewL (bs.map V.bl) H0)) : Ev (tCB (rAll K) (tCons te tNil)) σ H (.bl (bs.all id)) := ev_allR h fun v H1 _ ⟨p, e, _, hp⟩ => ⟨p, e, sq_of hp⟩
theorem ev_anyN {bs : List Bool} {H0 : Hp} (h : EvR te σ H (NewL (bs.map V.bl) H0)) : Ev (tCB (rAny K) (tCons te tNil)) σ H (.bl (bs.any id)) := ev_anyR h fun v H1 _ ⟨p, e, _, hp⟩ => ⟨p, e, sq_of hp⟩
/-- for x in (a, b, ..) of anything -/
theorem s_forTU {j : Nat} {R : V → Hp → Prop} (h : EvR tl σ H R) (k : ∀ v H1, Ex H H1 → R v H1 → ∃ a xs, v = .ref a ∧ SqT K H1 a xs ∧ ∃ Pv : Nat → L2.St → Hp → Prop, Pv 0 σ H1 ∧ (∀ i σ' H', i ≤ xs.length → Pv i σ' H' → SqT K H' a xs) ∧
    (∀ i x σ' H', xs[i]? = some x → Pv i σ' H' → tu { D with nx := Pv (i + 1), ct := Pv (i + 1), bk := D.nx } (σ'.set j (some x)) H') ∧ (∀ σ' H', Pv xs.length σ' H' → D.nx σ' H')) : tFor (iTup K tl) (gName j) tu D σ H :=
  h H (Ex.refl H) _ fun v H1 e p => by
    obtain ⟨a, xs, hv, hx, Pv, h0, hl, hs, hd⟩ := k v H1 e p
    exact ⟨a, hv, ⟨xs, hx⟩, for_tup Pv h0 hl hs hd⟩
theorem q_forTU {j : Nat} {R : V → Hp → Prop} (h : EvR tl σ H R) (k : ∀ v H1, Ex H H1 → R v H1 → ∃ a xs, v = .ref a ∧ SqT K H1 a xs ∧ ∃ Pv : Nat → L2.St → Hp → Prop, Pv 0 σ H1 ∧ (∀ i σ' H', i ≤ xs.length → Pv i σ' H' → SqT K H' a xs) ∧
    (∀ i x σ' H', xs[i]? = some x → Pv i σ' H' → tu { D with nx := Pv (i + 1), ct := Pv (i + 1), bk := tz D } (σ'.set j (some x)) H') ∧ (∀ σ' H', Pv xs.length σ' H' → tz D σ' H')) : tSeq (tFor (iTup K tl) (gName j) tu) tz D σ H :=
  s_forTU (D := { D with nx := tz D }) h k
/-! equality of data -/
mutual
theorem dp_up (e : Ex H H') : ∀ (d : PyData) (v : V), Dp K H v d → Dp K H' v d
  | .none, _, h => by cases h; exact .non
  | .bool b, _, h => by cases h; exact .bl b
  | .int i, _, h => by cases h; exact .int i
  | .str x, _, h => by cases h; exact .str x
  | .list ds, _, h => by
    cases h with
    | lst hs ha => exact .lst (ex_l e hs) (dpa_up e ds _ ha)
  | .tuple ds, _, h => by
    cases h with
    | tup hs ha => exact .tup (ex_t e hs) (dpa_up e ds _ ha)
  | .dict _, _, h => by cases h
theorem dpa_up (e : Ex H H') : ∀ (ds : List PyData) (vs : List V), DpAll K H vs ds → DpAll K H' vs ds
  | [], _, h => by cases h; exact .nil
  | d :: ds, _, h => by
    cases h with
    | cons h1 h2 => exact .cons (dp_up e d _ h1) (dpa_up e ds _ h2)
end
def dInts (ns : List Int) : PyData := .list (ns.map .int)
theorem dpa_ints : ∀ ns : List Int, DpAll K H (iv ns) (ns.map .int)
  | [] => .nil
  | n :: r => .cons (.int n) (dpa_ints r)
theorem dp_ints {a : Addr} {ns : List Int} (h : SqL K H a (iv ns)) : Dp K H (.ref a) (dInts ns) := .lst h (dpa_ints ns)
theorem sh_all : ∀ ds : List PyData, (∀ d ∈ ds, d.canLay0 = true) → PyData.canLayAll0 ds = true
  | [], _ => rfl
  | d :: ds, h => by
    show (d.canLay0 && PyData.canLayAll0 ds) = true
    rw [h d List.mem_cons_self, sh_all ds fun x hx => h x (List.mem_cons_of_mem _ hx)]
    rfl
theorem sh_dep {n : Nat} : ∀ ds : List PyData, (∀ d ∈ ds, PyData.depth d ≤ n) → PyData.depthAll ds ≤ n
  | [], _ => Nat.zero_le _
  | d :: ds, h => by
    show max (PyData.depth d) (PyData.depthAll ds) ≤ n
    have h1 := h d List.mem_cons_self
    have h2 := sh_dep ds fun x hx => h x (List.mem_cons_of_mem _ hx)
    omega
theorem sh_ints (ns : List Int) : SeqAt.shaped (dInts ns) = true := by
  unfold SeqAt.shaped dInts
  rw [Bool.and_eq_true, decide_eq_true_eq]
  refine ⟨sh_all _ fun d hd => ?_, ?_⟩
  · obtain ⟨i, _, rfl⟩ := List.mem_map.mp hd
    rfl
  · have := sh_dep (n := 1) (ns.map .int) fun d hd => by
      obtain ⟨i, _, rfl⟩ := List.mem_map.mp hd
      show PyData.depth (.int i) ≤ 1
      simp [PyData.depth]
    show PyData.depthAll (ns.map .int) + 1 ≤ 64
    omega
theorem can_of {d : PyData} (h : SeqAt.shaped d = true) : d.canLay0 = true := (Bool.and_eq_true_iff.mp h).1
theorem rv_neD {d e : PyData} {b : Bool} (hd : Dp K H x d) (he : Dp K H y e) (sd : SeqAt.shaped d = true) (se : SeqAt.shaped e = true) (hb : (!PyData.eqv d e) = b) : RV (rNeD K) x y H (.bl b) := fun H1 e1 Q q => ⟨d, e, dp_up e1 _ _ hd, dp_up e1 _ _ he, sd, se, by rw [hb]; exact q H1 (Ex.refl _)⟩
theorem rv_eqD {d e : PyData} {b : Bool} (hd : Dp K H x d) (he : Dp K H y e) (sd : SeqAt.shaped d = true) (se : SeqAt.shaped e = true) (hb : PyData.eqv d e = b) : RV (rEqD K) x y H (.bl b) := fun H1 e1 Q q => ⟨d, e, dp_up e1 _ _ hd, dp_up e1 _ _ he, sd, se, by rw [hb]; exact q H1 (Ex.refl _)⟩
theorem rv_neSame {d : PyData} (hd : Dp K H x d) (he : Dp K H y d) (sd : SeqAt.shaped d = true) : RV (rNeD K) x y H (.bl false) := rv_neD hd he sd sd (by rw [SeqAt.eqv_refl d (can_of sd)]; rfl)
theorem rv_eqSame {d : PyData} (hd : Dp K H x d) (he : Dp K H y d) (sd : SeqAt.shaped d = true) : RV (rEqD K) x y H (.bl true) := rv_eqD hd he sd sd (SeqAt.eqv_refl d (can_of sd))
end
section
variable {X : Cx} (K : PySem.W.Frag)
theorem pe_revLK {e : Expr} {te : TE} {k : Nat} {p1 p2 p3 pos : Pos} (he : PE X e te) (h : X.K = K := by rfl) : PE X (.Subscript e (.Slice none none (some (.UnaryOp .USub (.Constant (.int 1) k p1) p2)) p3) pos) (tRevL K te) := by subst h; exact pe_revL he
theorem sl_listK (h : X.K = K := by rfl) : SlR X (rSlL K) := by subst h; exact sl_list
theorem pi_zipK {e e2 : Expr} {ta : TA} {p pos tpos : Pos} {elts : List Expr} {kk : Nat} (hg : Gl X "zip") (hm : X.mg "zip" = none) (ha : PA X [e, e2] ta) (h : X.K = K := by rfl)
    (hs : starEach [e, e2] X.env = (false, eval e X.env) :: starEach [e2] X.env := by rfl) (hpl : (backTo pos (starEach [e2] X.env)).any (·.1) = false := by rfl) :
    PI X (.Tuple elts kk tpos) (.Call (.Name "zip" p) [e, e2] [] pos) (iZip K ta) := by subst h; exact pi_zip hg hm ha hs hpl
end
end Wl
namespace Wl
open PySem PySem.Spec PyProof.Rows L2 Evl
section
variable {K : PySem.W.Frag} {σ : L2.St} {H H' : Hp} {ta tb tc te tl : TE} {t : TT} {x y z v : V} {D : Ends} {tu tw tz : TS} {g : TG}
/-- a, b = x, y, told by facts -/
theorem q_parR {i j : Nat} {ta : TA} {R : List V → Hp → Prop} (h : EvAR ta σ H R) (hv : ∀ vs H1, R vs H1 → ∃ v w, vs = [v, w]) (k : ∀ v w H1, Ex H H1 → R [v, w] H1 → tz D ((σ.set i (some v)).set j (some w)) H1) : tSeq (tPar i j ta) tz D σ H :=
  h H (Ex.refl H) _ fun vs H1 e p => by
    obtain ⟨v, w, rfl⟩ := hv vs H1 p
    exact ⟨v, w, rfl, k v w H1 e p⟩
/-- a test of which nothing is known -/
def EvQ (t : TT) (σ : L2.St) (H : Hp) : Prop := ∀ H1, Ex H H1 → ∀ Q : Bool → Hp → Prop, (∀ b H2, Ex H1 H2 → Q b H2) → t σ H1 Q
theorem er_test {r : R2} {R : V → Hp → Prop} (ha : EvR ta σ H R) (hb : Ev tb σ H y) (hr : ∀ x H1, Ex H H1 → R x H1 → ∀ Q : VK, (∀ b, Q (.bl b) H1) → r x y H1 Q) (hR : ∀ x H1 H2, Ex H1 H2 → R x H1 → R x H2 := by intros; assumption) : EvQ (tTest (tOp r ta tb)) σ H := fun H1 e Q q =>
  ha H1 e _ fun x H2 e2 p => hb H2 (e.trans e2) _ fun H3 e3 => hr x H3 ((e.trans e2).trans e3) (hR x H2 H3 e3 p) _ fun b => ⟨b, rfl, q b H3 (e2.trans e3)⟩
theorem q_if_R (h : EvQ t σ H) (h1 : ∀ H1, Ex H H1 → tu { D with nx := tz D } σ H1) (h2 : ∀ H1, Ex H H1 → tw { D with nx := tz D } σ H1) : tSeq (tIfS t tu tw) tz D σ H := h H (Ex.refl H) _ fun b H1 e => by
  cases b with
  | true => exact h1 H1 e
  | false => exact h2 H1 e
end
end Wl
namespace Wl
open PySem PySem.Spec PyProof.Rows L2 Evl
section
variable {X : Cx} (K : PySem.W.Frag)
theorem inK (h : X.K = K := by rfl) : OpR X (compareOp .In) (rIn K false) := by subst h; exact op_in_seq
theorem notinK (h : X.K = K := by rfl) : OpR X (compareOp .NotIn) (rIn K true) := by subst h; exact op_notIn_seq
end
end Wl
namespace Wl
open PySem
theorem iv_append (a b : List Int) : iv (a ++ b) = iv a ++ iv b := List.map_append
theorem iv_map {α : Type} (f : α → Int) (l : List α) : iv (l.map f) = l.map (fun n => L2.V.int (f n)) := List.map_map
theorem iv_len (l : List Int) : (iv l).length = l.length := List.length_map ..
end Wl
namespace Wl
open PySem PySem.Spec PyProof.Rows L2 Evl
section
variable {K : PySem.W.Frag} {σ : L2.St} {H H' : Hp} {ta tb tc te tl : TE} {t : TT} {x y z v : V} {D : Ends} {tu tw tz : TS} {g : TG}
/-- a call whose one argument is told by facts -/
theorem er_call1 {α : Type} {Pre : α → List V → Hp → Prop} {Post : α → Hp → V → Hp → Prop} {E : XK} {R S : V → Hp → Prop} (h : EvR te σ H R) (hd : ∀ x H1, Ex H H1 → R x H1 → ∃ d, Pre d [x] H1 ∧ ∀ v H2, Ex H1 H2 → Post d H1 v H2 → S v H2) : EvR (tCall (spX Pre Post) [] E (tCons te tNil)) σ H S := fun H1 e Q q =>
  h H1 e _ fun x H2 e2 p => by
    obtain ⟨d, h1, h2⟩ := hd x H2 (e.trans e2) p
    exact ⟨d, h1, fun v H3 e3 p3 => q v H3 (e2.trans e3) (h2 v H3 e3 p3)⟩
theorem ev_call1 {α : Type} {Pre : α → List V → Hp → Prop} {Post : α → Hp → V → Hp → Prop} {E : XK} {R : V → Hp → Prop} (h : EvR te σ H R) (hd : ∀ x H1, Ex H H1 → R x H1 → ∃ d, Pre d [x] H1 ∧ ∀ v H2, Ex H1 H2 → Post d H1 v H2 → v = z) : Ev (tCall (spX Pre Post) [] E (tCons te tNil)) σ H z :=
  (er_call1 (S := fun v _ => v = z) h hd).ev fun _ _ _ p => p
/-- an object's list, grown: told at a word of one's own -/
theorem q_appF {l : Addr} {xs : List V} (hl : H l = some (.lst xs)) (ha : Ev ta σ H (.ref l)) (h : Ev te σ H v) (hz : xs.length < 100000) (k : ∀ H1, Ex H H1 → tz D σ (upd H1 l (.lst (xs ++ [v])))) :
    tSeq (tDrop (tBM K "list" rAppend ta (tCons te tNil))) tz D σ H := q_app hl ha h hz k
theorem iv_get {ns : List Int} {i : Nat} {x : V} (h : (iv ns)[i]? = some x) : i < ns.length ∧ x = .int (ns.getD i 0) := by
  rw [List.getElem?_map] at h
  cases e : ns[i]? with
  | none => rw [e] at h; cases h
  | some n =>
    rw [e] at h
    refine ⟨(List.getElem?_eq_some_iff.mp e).1, ?_⟩
    rw [List.getD_eq_getElem?_getD, e]
    exact (Option.some.inj h).symm
end
end Wl
namespace Wl
open PySem
theorem iv_reverse (l : List Int) : (iv l).reverse = iv l.reverse := List.map_reverse.symm
theorem iv_drop (n : Nat) (l : List Int) : (iv l).drop n = iv (l.drop n) := List.map_drop.symm
theorem iv_take (n : Nat) (l : List Int) : (iv l).take n = iv (l.take n) := List.map_take.symm
end Wl
namespace Wl
open PySem PySem.Spec PyProof.Rows L2 Evl
/-- one of two readings -/
def tAlt (t u : TE) : TE := fun σ H Q => t σ H Q ∨ u σ H Q
theorem pe_alt {X : Cx} {e : Expr} {t u : TE} (h1 : PE X e t) (h2 : PE X e u) : PE X e (tAlt t u) := ⟨fun pins s σ H Q I h => h.elim (h1.run pins s σ H Q I) (h2.run pins s σ H Q I)⟩
section
variable {K : PySem.W.Frag} {σ : L2.St} {H H' : Hp} {ta tb tc te tl : TE} {t : TT} {x y z v : V} {D : Ends} {tu tw tz : TS} {g : TG} {R : V → Hp → Prop}
theorem ev_altL (h : Ev ta σ H v) : Ev (tAlt ta tb) σ H v := fun H1 e Q q => .inl (h H1 e Q q)
theorem ev_altR (h : Ev tb σ H v) : Ev (tAlt ta tb) σ H v := fun H1 e Q q => .inr (h H1 e Q q)
theorem er_if {b : Bool} (h : EvT t σ H b) (h1 : b = true → EvR ta σ H R) (h2 : b = false → EvR tb σ H R) : EvR (tIf t ta tb) σ H R := fun H1 e Q q => h H1 e _ fun H2 e2 => by
  cases b with
  | true => exact h1 rfl H2 (e.trans e2) Q fun v H3 e3 p => q v H3 (e2.trans e3) p
  | false => exact h2 rfl H2 (e.trans e2) Q fun v H3 e3 p => q v H3 (e2.trans e3) p
/-- for x in a new list -/
theorem s_forLU {j : Nat} (h : EvR tl σ H R) (k : ∀ v H1, Ex H H1 → R v H1 → ∃ a xs, v = .ref a ∧ SqL K H1 a xs ∧ ∃ Pv : Nat → L2.St → Hp → Prop, Pv 0 σ H1 ∧ (∀ i σ' H', i ≤ xs.length → Pv i σ' H' → SqL K H' a xs) ∧
    (∀ i x σ' H', xs[i]? = some x → Pv i σ' H' → tu { D with nx := Pv (i + 1), ct := Pv (i + 1), bk := D.nx } (σ'.set j (some x)) H') ∧ (∀ σ' H', Pv xs.length σ' H' → D.nx σ' H')) : tFor (iList K tl) (gName j) tu D σ H :=
  h H (Ex.refl H) _ fun v H1 e p => by
    obtain ⟨a, xs, hv, hx, Pv, h0, hl, hs, hd⟩ := k v H1 e p
    exact ⟨a, hv, ⟨xs, hx⟩, for_list Pv h0 hl hs hd⟩
theorem q_forLU {j : Nat} (h : EvR tl σ H R) (k : ∀ v H1, Ex H H1 → R v H1 → ∃ a xs, v = .ref a ∧ SqL K H1 a xs ∧ ∃ Pv : Nat → L2.St → Hp → Prop, Pv 0 σ H1 ∧ (∀ i σ' H', i ≤ xs.length → Pv i σ' H' → SqL K H' a xs) ∧
    (∀ i x σ' H', xs[i]? = some x → Pv i σ' H' → tu { D with nx := Pv (i + 1), ct := Pv (i + 1), bk := tz D } (σ'.set j (some x)) H') ∧ (∀ σ' H', Pv xs.length σ' H' → tz D σ' H')) : tSeq (tFor (iList K tl) (gName j) tu) tz D σ H :=
  s_forLU (D := { D with nx := tz D }) h k
end
/-! xs[lo:hi:st] of a list, all three parts told -/
def pickV {α : Type} (xs : List α) (lo hi st : Option Int) : List α := (sliceRange (sliceBounds lo hi st xs.length).1 (sliceBounds lo hi st xs.length).2.1 (sliceBounds lo hi st xs.length).2.2).filterMap (xs[·]?)
theorem pickV_map {α β : Type} (f : α → β) (xs : List α) (lo hi st : Option Int) : pickV (xs.map f) lo hi st = (pickV xs lo hi st).map f := by
  unfold pickV
  rw [List.length_map, List.map_filterMap]
  exact congrArg (fun g => List.filterMap g _) (funext fun i => List.getElem?_map)
theorem vals_fm {xs : List V} {its : List Value} (r : Vals xs its) : ∀ l : List Nat, Vals (l.filterMap (xs[·]?)) (l.filterMap (its[·]?))
  | [] => .nil
  | i :: l => by
    have ih := vals_fm r l
    cases e : xs[i]? with
    | none =>
      rw [List.filterMap_cons_none (by exact e), List.filterMap_cons_none (by exact r.none_of e)]
      exact ih
    | some x =>
      obtain ⟨u, h1, h2⟩ := r.get e
      rw [List.filterMap_cons_some (by exact e), List.filterMap_cons_some (by exact h1)]
      exact .cons h2 ih
theorem vals_pick {xs : List V} {its : List Value} (r : Vals xs its) (lo hi st : Option Int) : Vals (pickV xs lo hi st) (slicePick its.toArray lo hi st).toList := by
  have z := vals_fm r (sliceRange (sliceBounds lo hi st xs.length).1 (sliceBounds lo hi st xs.length).2.1 (sliceBounds lo hi st xs.length).2.2)
  rw [r.length] at z
  simpa only [pickV, slicePick, r.length, List.size_toArray, List.getElem?_toArray] using z
/-- the reading: the list, then the parts in their order -/
def tSl3 (K : PySem.W.Frag) (te : TE) (t1 t2 t3 : TO) : TE := fun σ H Q => te σ H fun x H1 => t1 σ H1 fun lo H2 => t2 σ H2 fun hi H3 => t3 σ H3 fun st H4 =>
  ∃ a xs, x = .ref a ∧ SqL K H4 a xs ∧ st ≠ some 0 ∧ ∀ p, H4 p = none → Q (.ref p) (upd H4 p (.lst (pickV xs lo hi st)))
theorem pe_sl3 {X : Cx} (K : PySem.W.Frag) {e : Expr} {e1 e2 e3 : Option Expr} {te : TE} {t1 t2 t3 : TO} {p3 pos : Pos} (he : PE X e te) (h1 : PO X e1 t1) (h2 : PO X e2 t2) (h3 : PO X e3 t3) (hK : X.K = K := by rfl)
    (plain : ∀ u v, subscripted (.Slice e1 e2 e3 p3) false u v = operate [u, v] (getItem u v) := by intro u v; with_unfolding_all rfl) : PE X (.Subscript e (.Slice e1 e2 e3 p3) pos) (tSl3 K te t1 t2 t3) := by
  subst hK
  constructor
  intro pins s σ H Q I h
  refine Subscript_ (thn (he.run pins s σ H _ I h) ?_)
  rintro v s1 ⟨x, H1, I1, rx, h⟩
  refine wpAny_Slice (thn (h1.run pins s1 σ H1 _ I1 h) ?_)
  rintro vl s2 ⟨lo, H2, I2, pl, h⟩
  refine thn (h2.run pins s2 σ H2 _ I2 h) ?_
  rintro vu s3 ⟨hi, H3, I3, pu, h⟩
  refine thn (h3.run pins s3 σ H3 _ I3 h) ?_
  rintro vs s4 ⟨st, H4, I4, ps, a, xs, rfl, list, nz, q⟩
  cases rx
  have J : Inv X pins σ H4 { s4 with heap := s4.heap.push { cls := .type "slice", data := .fields #[vl, vu, vs] } } := I4.kept (t' := s4.toks) fun b o z => Heap.get?_push_of_some _ z
  rcases J.list list with ⟨its, vals, cells, small⟩
  have picked := vals_pick vals lo hi st
  have fits : (pickV xs lo hi st).length ≤ xs.length := by
    rw [picked.length, Array.length_toList, vals.length]
    exact slicePick_size_le its.toArray lo hi st
  refine tail_any cells.isList.typeIs PySem.slot_list_getitem.lookup (wpAny_getItem_list_slice cells.isList (Heap.IsSliceOf.new _ vl vu vs) pl pu ps nz ?_ (by rw [List.size_toArray, ← vals.length]; exact small)) (plain _ _)
  exact ⟨.ref _, _, J.laid (t' := s4.toks) (o := .lst (pickV xs lo hi st)) (fun b o z => Heap.get?_push_of_some _ z) (Nat.le_refl _) ⟨Nat.le_trans fits small, _, 0, picked, Heap.get?_push_size _ rfl⟩, rfl, q _ (J.hok.fresh (Nat.le_refl _))⟩
def stepP {α : Type} (xs : List α) : List α := pickV xs none none (some 2)
theorem stepP_iv (ns : List Int) : stepP (iv ns) = iv (stepP ns) := pickV_map V.int ns _ _ _
def tStepL (K : PySem.W.Frag) (te : TE) : TE := tSl3 K te tNoPart tNoPart (tPart (tC (.int 2)))
theorem pe_stepLK {X : Cx} (K : PySem.W.Frag) {e : Expr} {te : TE} {k : Nat} {p1 p3 pos : Pos} (he : PE X e te) (hK : X.K = K := by rfl) : PE X (.Subscript e (.Slice none none (some (.Constant (.int 2) k p1)) p3) pos) (tStepL K te) := pe_sl3 K he po_none po_none (po_some pe_int) hK
theorem er_step {K : PySem.W.Frag} {σ : L2.St} {H : Hp} {ta : TE} {xs : List V} {a : Addr} (h : Ev ta σ H (.ref a)) (hx : SqL K H a xs) : EvR (tStepL K ta) σ H (NewL (stepP xs) H) := fun H1 e Q q =>
  h H1 e _ fun H2 e2 => ⟨2, rfl, a, xs, rfl, ex_l (e.trans e2) hx, by decide, fun l hn => q _ _ (e2.trans (Ex.new hn)) ⟨l, rfl, fresh_back (e.trans e2) hn, upd_same⟩⟩
end Wl
namespace Wl
open PySem L2
theorem cut_last (xs : List V) : cutV xs none (some (-1)) = xs.dropLast := by
  unfold cutV
  rw [HT.sIx_none, List.drop_zero]
  rw [show HT.sIx xs.length xs.length (some (-1)) = ((-1 : Int) + (xs.length : Int)).toNat from rfl, List.dropLast_eq_take]
  congr 1
  omega
theorem iv_dropLast (l : List Int) : (iv l).dropLast = iv l.dropLast := by
  rw [List.dropLast_eq_take, List.dropLast_eq_take, iv_len, iv_take]
end Wl
namespace Wl
open PySem PySem.Spec PyProof.Rows L2 Evl
/-- [F n for n in a new list] -/
theorem er_lcNI {K : PySem.W.Frag} {σ : L2.St} {H : Hp} {tl te : TE} {ns : List Int} {vs : List Nat} {j : Nat} {S : V → Hp → Prop} (F : Int → V) (h : EvR tl σ H S) (hS : ∀ v H1, Ex H H1 → S v H1 → ∃ a, v = .ref a ∧ SqL K H1 a (iv ns)) (hz : ns.length ≤ 40000) (hw : ∀ x, wipe ((wipe σ vs).set j (some x)) vs = wipe σ vs)
    (hg : ∀ H1, Ex H H1 → ∀ n, n ∈ ns → Ev te ((wipe σ vs).set j (some (.int n))) H1 (F n)) : EvR (tLc (iList K tl) (gName j) tYes te vs) σ H (NewL (ns.map F) H) :=
  (er_lcNL S (fun i y _ => y = F (ns.getD i 0)) stb_val h hS (by rw [iv_len]; exact hz) fun v H1 e hv i x hi => by
    obtain ⟨hi', rfl⟩ := iv_get hi
    exact ⟨_, hw _, evr (hg H1 e _ (getD_mem hi')), fun _ _ _ q => q⟩).imp fun v H2 _ p => by
    have q := LcR.new p
    rw [iv_len, range_items F 0 ns] at q
    exact q
end Wl
namespace Wl
open PySem PySem.Spec PyProof.Rows L2 Evl
section
variable {K : PySem.W.Frag} {σ : L2.St} {H H' : Hp} {ta te ti : TE} {D : Ends} {tz : TS} {R : V → Hp → Prop}
/-- xs.append of what is told by facts -/
theorem q_appR {l : Addr} {xs : List V} (hl : H l = some (.lst xs)) (ha : Ev ta σ H (.ref l)) (h : EvR te σ H R) (hz : xs.length < 100000) (k : ∀ v H1, Ex H H1 → R v H1 → tz D σ (upd H1 l (.lst (xs ++ [v])))) :
    tSeq (tDrop (tBM K "list" rAppend ta (tCons te tNil))) tz D σ H := ha H (Ex.refl H) _ fun H1 e1 =>
  ⟨Or.inl ⟨rfl, xs, sq_of (e1 l _ hl)⟩, h H1 e1 _ fun v H2 e2 p => ⟨l, xs, v, rfl, rfl, e2 l _ (e1 l _ hl), sz_lt hz, k v H2 (e1.trans e2) p⟩⟩
theorem ev_pickR {l : List Int} {ta : TA} {vs : List V} (h : EvA ta σ H vs) (hi : EvR ti σ H (fun v _ => ∃ i : Int, v = .int i ∧ 0 ≤ i ∧ i < l.length)) (hv : vs = l.map V.int) (hl : l.length ≤ 100000) : EvR (tOp (rIxT K) (tTup ta) ti) σ H (fun v _ => ∃ i : Int, 0 ≤ i ∧ i < l.length ∧ v = .int (l.getD i.toNat 0)) :=
  er_op (eur (eu_tup h (by rw [hv, List.length_map]; exact hl))) (fun x H1 e _ => hi.mono e) (fun x y H1 H2 e ⟨p, hx, _, hp⟩ e2 ⟨i, hy, h0, h1⟩ Q q => by
    subst hx hy
    rw [hv] at hp
    exact rv_ixT (st_of (e2 _ _ hp)) (atI_map h0 h1) H2 (Ex.refl _) Q fun H3 e3 => q _ H3 e3 ⟨i, h0, h1, rfl⟩)
end
end Wl
namespace Wl
open PySem PySem.Spec PyProof.Rows L2 Evl
/-! ### a < b < c < d: chains of any length, operand by operand -/
/-- what stands behind an operand whose value is x -/
def PCh (X : Cx) (ops : List CmpOp) (es : List Expr) (t : V → TE) : Prop :=
  ∀ pins s σ H x v Q pos, Inv X pins σ H s → RelV x v → t x σ H Q → wpAny (model X.prog X.w) X.A (compareChain pos v ops (evalEach es X.env)) (EP X pins σ Q) X.xe s
/-- .. where a test is asked for -/
def PTh (X : Cx) (ops : List CmpOp) (es : List Expr) (t : V → TE) : Prop :=
  ∀ pins s σ H x v Q pos, Inv X pins σ H s → RelV x v → tTest (t x) σ H Q → wpAny (model X.prog X.w) X.A (testChain pos v ops (evalEach es X.env)) (TP X pins σ Q) X.xe s
def tLast (r : R2) (tb : TE) (x : V) : TE := fun σ H Q => tb σ H fun y H1 => r x y H1 Q
def tMore (r : R2) (tb : TE) (t : V → TE) (x : V) : TE := fun σ H Q => tb σ H fun y H1 => r x y H1 fun z H2 => ∃ k, z = .bl k ∧ (if k = true then t y σ H2 Q else Q (.bl false) H2)
def tChain3 (r r' r2 : R2) (ta tb tc td : TE) : TE := fun σ H Q => ta σ H fun x H1 => tMore r tb (tMore r' tc (tLast r2 td)) x σ H1 Q
section
variable {X : Cx} {a b c d e' : Expr} {es : List Expr} {ta tb tc td : TE} {t : V → TE} {pos : Pos} {op op' op2 : CmpOp} {ops : List CmpOp} {r r' r2 : R2}
theorem pch_last (ho : OpR X (compareOp op) r) (hb : PE X b tb) : PCh X [op] [b] (tLast r tb) := fun pins s σ H x v Q _ I rx q => by
  refine chain_last (thn (hb.run pins s σ H _ I q) ?_)
  rintro u s1 ⟨y, H1, J, ry, q⟩
  exact ho pins s1 σ H1 x y v u Q J rx ry q
theorem pth_last (ho : OpR X (compareOp op) r) (hb : PE X b tb) : PTh X [op] [b] (tLast r tb) := fun pins s σ H x v Q _ I rx q => by
  refine test_last (thn (hb.run pins s σ H _ I q) ?_)
  rintro u s1 ⟨y, H1, J, ry, q⟩
  refine thn (ho pins s1 σ H1 x y v u _ J rx ry q) ?_
  rintro _ s2 ⟨z, H2, J2, rz, k, rfl, q⟩
  cases rz
  exact wpAny_truthy_bool ⟨H2, J2, q⟩
theorem pch_more (ho : OpR X (compareOp op) r) (hb : PE X b tb) (rest : PCh X (op' :: ops) (e' :: es) t) : PCh X (op :: op' :: ops) (b :: e' :: es) (tMore r tb t) := fun pins s σ H x v Q pos I rx q => by
  refine chain_link (thn (hb.run pins s σ H _ I q) ?_)
  rintro u s1 ⟨y, H1, J, ry, q⟩
  refine thn (ho pins s1 σ H1 x y v u _ J rx ry q) ?_
  rintro _ s2 ⟨z, H2, J2, rz, k, rfl, q⟩
  cases rz
  cases k with
  | false => exact wpAny_truthy_bool (ite_ff ⟨.bl false, H2, J2, rfl, q⟩)
  | true => exact wpAny_truthy_bool (ite_tt (rest pins s2 σ H2 y u Q pos J2 ry q))
theorem pth_more (ho : OpR X (compareOp op) r) (hb : PE X b tb) (rest : PTh X (op' :: ops) (e' :: es) t) : PTh X (op :: op' :: ops) (b :: e' :: es) (tMore r tb t) := fun pins s σ H x v Q pos I rx q => by
  refine test_link (thn (hb.run pins s σ H _ I q) ?_)
  rintro u s1 ⟨y, H1, J, ry, q⟩
  refine thn (ho pins s1 σ H1 x y v u _ J rx ry q) ?_
  rintro _ s2 ⟨z, H2, J2, rz, k, rfl, q⟩
  cases rz
  cases k with
  | false =>
    obtain ⟨_, same, q⟩ : ∃ k, V.bl false = .bl k ∧ Q k H2 := q
    cases same
    exact wpAny_truthy_bool (ite_ff ⟨H2, J2, q⟩)
  | true => exact wpAny_truthy_bool (ite_tt (rest pins s2 σ H2 y u Q pos J2 ry q))
theorem pe_chain3 (ho : OpR X (compareOp op) r) (ho' : OpR X (compareOp op') r') (ho2 : OpR X (compareOp op2) r2) (ha : PE X a ta) (hb : PE X b tb) (hc : PE X c tc) (hd : PE X d td)
    (hm : lastMarks [op, op', op2] [b, c, d] = false := by with_unfolding_all rfl) : PE X (.Compare a [op, op', op2] [b, c, d] pos) (tChain3 r r' r2 ta tb tc td) :=
  ⟨fun pins s σ H Q I h => Compare_chain (thn (ha.run pins s σ H _ I h) fun v s1 ⟨x, H1, J, rx, q⟩ => pch_more ho hb (pch_more ho' hc (pch_last ho2 hd)) pins s1 σ H1 x v Q _ J rx q) hm⟩
theorem pt_chain3 (ho : OpR X (compareOp op) r) (ho' : OpR X (compareOp op') r') (ho2 : OpR X (compareOp op2) r2) (ha : PE X a ta) (hb : PE X b tb) (hc : PE X c tc) (hd : PE X d td)
    (hm : lastMarks [op, op', op2] [b, c, d] = false := by with_unfolding_all rfl) : PT X (.Compare a [op, op', op2] [b, c, d] pos) (tTest (tChain3 r r' r2 ta tb tc td)) :=
  ⟨fun pins s σ H Q I h => isTrue_chain (thn (ha.run pins s σ H _ I h) fun v s1 ⟨x, H1, J, rx, q⟩ => pth_more ho hb (pth_more ho' hc (pth_last ho2 hd)) pins s1 σ H1 x v Q _ J rx q) hm⟩
end
theorem ev_chain3 {σ : L2.St} {H : Hp} {r r' r2 : R2} {ta tb tc td : TE} {x y z u : V} {a b c : Bool} (ha : Ev ta σ H x) (hb : Ev tb σ H y) (h1 : RV r x y H (.bl a)) (hc : a = true → Ev tc σ H z) (h2 : a = true → RV r' y z H (.bl b)) (hd : a = true → b = true → Ev td σ H u) (h3 : a = true → b = true → RV r2 z u H (.bl c)) :
    Ev (tChain3 r r' r2 ta tb tc td) σ H (.bl (a && (b && c))) := fun H1 e Q q =>
  ha H1 e _ fun H2 e2 => hb H2 (e.trans e2) _ fun H3 e3 => h1 H3 ((e.trans e2).trans e3) _ fun H4 e4 => ⟨a, rfl, by
    cases a with
    | false => exact q H4 ((e2.trans e3).trans e4)
    | true => exact hc rfl H4 (((e.trans e2).trans e3).trans e4) _ fun H5 e5 => h2 rfl H5 ((((e.trans e2).trans e3).trans e4).trans e5) _ fun H6 e6 => ⟨b, rfl, by
        have e26 := (((e2.trans e3).trans e4).trans e5).trans e6
        cases b with
        | false => exact q H6 e26
        | true => exact hd rfl rfl H6 (e.trans e26) _ fun H7 e7 => h3 rfl rfl H7 (e.trans (e26.trans e7)) Q fun H8 e8 => q H8 (e26.trans (e7.trans e8))⟩⟩
end Wl
namespace Wl
open PySem PySem.Spec PyProof.Rows L2 Evl
/-! ### lists of pairs -/
def PairAt (H : Hp) (x : V) (p : Int × Int) : Prop := ∃ t, x = .ref t ∧ H t = some (.tup [.int p.1, .int p.2])
/-- the items are pairs: rs -/
def RsL (H : Hp) : List V → List (Int × Int) → Prop
  | [], [] => True
  | x :: xs, p :: rs => PairAt H x p ∧ RsL H xs rs
  | _, _ => False
theorem PairAt.up {H H' : Hp} {x : V} {p : Int × Int} (e : Ex H H') (h : PairAt H x p) : PairAt H' x p := by
  obtain ⟨t, r, h⟩ := h
  exact ⟨t, r, e _ _ h⟩
theorem RsL.up {H H' : Hp} (e : Ex H H') : ∀ {xs : List V} {rs : List (Int × Int)}, RsL H xs rs → RsL H' xs rs
  | [], [], h => h
  | _ :: _, _ :: _, h => ⟨h.1.up e, RsL.up e h.2⟩
  | [], _ :: _, h => h
  | _ :: _, [], h => h
/-- a list's change leaves the pairs -/
theorem RsL.mut {H : Hp} {l : Addr} {ys : List V} (zs : List V) (hl : H l = some (.lst ys)) : ∀ {xs : List V} {rs : List (Int × Int)}, RsL H xs rs → RsL (upd H l (.lst zs)) xs rs
  | [], [], h => h
  | _ :: _, _ :: _, ⟨⟨t, e, h⟩, h2⟩ => ⟨⟨t, e, by rw [upd_ne (ne_of h hl (by intro z; cases z))]; exact h⟩, RsL.mut zs hl h2⟩
  | [], _ :: _, h => h
  | _ :: _, [], h => h
theorem RsL.len {H : Hp} : ∀ {xs : List V} {rs : List (Int × Int)}, RsL H xs rs → xs.length = rs.length
  | [], [], _ => rfl
  | _ :: _, _ :: _, h => congrArg (· + 1) (RsL.len h.2)
  | [], _ :: _, h => h.elim
  | _ :: _, [], h => h.elim
theorem RsL.get {H : Hp} : ∀ {xs : List V} {rs : List (Int × Int)} {i : Nat} {x : V}, RsL H xs rs → xs[i]? = some x → i < rs.length ∧ PairAt H x (rs.getD i (0, 1))
  | [], [], _, _, _, e => by simp at e
  | _ :: _, _ :: _, 0, _, h, e => by
    cases e
    exact ⟨Nat.zero_lt_succ _, h.1⟩
  | _ :: xs, p :: rs, i + 1, x, h, e => by
    have := RsL.get (xs := xs) (rs := rs) (i := i) (x := x) h.2 e
    exact ⟨Nat.succ_lt_succ this.1, by simpa using this.2⟩
  | [], _ :: _, _, _, h, _ => h.elim
  | _ :: _, [], _, _, h, _ => h.elim
theorem RsL.at {H : Hp} {xs : List V} {rs : List (Int × Int)} {i : Nat} (h : RsL H xs rs) (hi : i < rs.length) : ∃ t, xs[i]? = some (.ref t) ∧ H t = some (.tup [.int (rs.getD i (0, 1)).1, .int (rs.getD i (0, 1)).2]) := by
  have hx : i < xs.length := by rw [h.len]; exact hi
  have e := List.getElem?_eq_getElem hx
  obtain ⟨t, et, ht⟩ := (h.get e).2
  exact ⟨t, by rw [e, et], ht⟩
theorem RsL.append {H : Hp} : ∀ {xs ys : List V} {rs ss : List (Int × Int)}, RsL H xs rs → RsL H ys ss → RsL H (xs ++ ys) (rs ++ ss)
  | [], _, [], _, _, h => h
  | _ :: _, _, _ :: _, _, h, k => ⟨h.1, RsL.append h.2 k⟩
  | [], _, _ :: _, _, h, _ => h.elim
  | _ :: _, _, [], _, h, _ => h.elim
theorem RsL.rev {H : Hp} : ∀ {xs : List V} {rs : List (Int × Int)}, RsL H xs rs → RsL H xs.reverse rs.reverse
  | [], [], h => h
  | x :: xs, p :: rs, h => by
    rw [List.reverse_cons, List.reverse_cons]
    exact RsL.append (RsL.rev h.2) ⟨h.1, trivial⟩
  | [], _ :: _, h => h.elim
  | _ :: _, [], h => h.elim
theorem RsL.drop1 {H : Hp} : ∀ {xs : List V} {rs : List (Int × Int)}, RsL H xs rs → RsL H (xs.drop 1) (rs.drop 1)
  | [], [], h => h
  | _ :: _, _ :: _, h => h.2
  | [], _ :: _, h => h.elim
  | _ :: _, [], h => h.elim
theorem RsL.set {H : Hp} {y : V} {q : Int × Int} (hy : PairAt H y q) : ∀ {xs : List V} {rs : List (Int × Int)} (i : Nat), RsL H xs rs → RsL H (xs.set i y) (rs.set i q)
  | [], [], _, h => h
  | _ :: _, _ :: _, 0, h => ⟨hy, h.2⟩
  | _ :: _, _ :: _, i + 1, h => ⟨h.1, RsL.set hy i h.2⟩
  | [], _ :: _, _, h => h.elim
  | _ :: _, [], _, h => h.elim
theorem rsl_of {H : Hp} : ∀ {xs : List V} {rs : List (Int × Int)}, xs.length = rs.length → (∀ i x, xs[i]? = some x → PairAt H x (rs.getD i (0, 1))) → RsL H xs rs
  | [], [], _, _ => trivial
  | x :: xs, p :: rs, hl, h => ⟨h 0 x rfl, rsl_of (by simpa using hl) fun i y hy => by simpa using h (i + 1) y hy⟩
  | [], _ :: _, hl, _ => by simp at hl
  | _ :: _, [], hl, _ => by simp at hl
/-- a list of pairs at an address -/
def RsAt (H : Hp) (v : V) (rs : List (Int × Int)) : Prop := ∃ a xs, v = .ref a ∧ H a = some (.lst xs) ∧ RsL H xs rs
theorem RsAt.up {H H' : Hp} {v : V} {rs : List (Int × Int)} (e : Ex H H') (h : RsAt H v rs) : RsAt H' v rs := by
  obtain ⟨a, xs, r, h1, h2⟩ := h
  exact ⟨a, xs, r, e _ _ h1, h2.up e⟩
/-! equality -/
def dRs (rs : List (Int × Int)) : PyData := .list (rs.map fun p => .tuple [.int p.1, .int p.2])
theorem dpa_rs {K : PySem.W.Frag} {H : Hp} : ∀ {xs : List V} {rs : List (Int × Int)}, RsL H xs rs → DpAll K H xs (rs.map fun p => .tuple [.int p.1, .int p.2])
  | [], [], _ => .nil
  | _ :: _, _ :: _, ⟨⟨t, e, ht⟩, h2⟩ => by
    subst e
    exact .cons (.tup (st_of ht) (.cons (.int _) (.cons (.int _) .nil))) (dpa_rs h2)
  | [], _ :: _, h => h.elim
  | _ :: _, [], h => h.elim
theorem dp_rs {K : PySem.W.Frag} {H : Hp} {a : Addr} {xs : List V} {rs : List (Int × Int)} (h : H a = some (.lst xs)) (hr : RsL H xs rs) : Dp K H (.ref a) (dRs rs) := .lst (sq_of h) (dpa_rs hr)
theorem sh_rs (rs : List (Int × Int)) : SeqAt.shaped (dRs rs) = true := by
  unfold SeqAt.shaped dRs
  rw [Bool.and_eq_true, decide_eq_true_eq]
  refine ⟨sh_all _ fun d hd => ?_, ?_⟩
  · obtain ⟨i, _, rfl⟩ := List.mem_map.mp hd
    rfl
  · have := sh_dep (n := 2) (rs.map fun p => PyData.tuple [.int p.1, .int p.2]) fun d hd => by
      obtain ⟨i, _, rfl⟩ := List.mem_map.mp hd
      show PyData.depth (.tuple [.int i.1, .int i.2]) ≤ 2
      simp [PyData.depth, PyData.depthAll]
    show PyData.depthAll _ + 1 ≤ 64
    omega
theorem kit_tt {K : PySem.W.Frag} : PySem.W.kitOne K (.type "tuple") (.type "tuple") = some true := kit_ty (by decide +kernel)
section
variable {K : PySem.W.Frag} {σ : L2.St} {H H' : Hp} {ta tb tc te tl : TE} {D : Ends} {tu tz : TS}
/-- [.. for x, y in pairs] -/
theorem er_lcRs {a : Addr} {xs : List V} {rs : List (Int × Int)} {vs : List Nat} {j l : Nat} (R : Nat → V → Hp → Prop) (hst : Stb R) (h : Ev tl σ H (.ref a)) (hx : H a = some (.lst xs)) (hr : RsL H xs rs) (hz : rs.length ≤ 40000) (hw : ∀ x y, wipe (((wipe σ vs).set j (some x)).set l (some y)) vs = wipe σ vs)
    (hg : ∀ i, i < rs.length → EvR te (((wipe σ vs).set j (some (.int (rs.getD i (0, 1)).1))).set l (some (.int (rs.getD i (0, 1)).2))) H (R i)) :
    EvR (tLc (iList K tl) (gTup K 2 (gCons (gName j) (gCons (gName l) gNil))) tYes te vs) σ H (LcR rs.length R H) := by
  rw [← hr.len]
  exact er_lcLp R hst h (sq_of hx) (by rw [hr.len]; exact hz) hw fun i x hi => by
    obtain ⟨h1, t, e, ht⟩ := hr.get hi
    exact ⟨t, _, _, e, st_of ht, hg i h1⟩
theorem er_lcRsV {a : Addr} {xs : List V} {rs : List (Int × Int)} {vs : List Nat} {j l : Nat} (F : Int × Int → V) (h : Ev tl σ H (.ref a)) (hx : H a = some (.lst xs)) (hr : RsL H xs rs) (hz : rs.length ≤ 40000) (hw : ∀ x y, wipe (((wipe σ vs).set j (some x)).set l (some y)) vs = wipe σ vs)
    (hg : ∀ p, p ∈ rs → Ev te (((wipe σ vs).set j (some (.int p.1))).set l (some (.int p.2))) H (F p)) :
    EvR (tLc (iList K tl) (gTup K 2 (gCons (gName j) (gCons (gName l) gNil))) tYes te vs) σ H (NewL (rs.map F) H) :=
  (er_lcRs (fun i y _ => y = F (rs.getD i (0, 1))) stb_val h hx hr hz hw fun i hi => evr (hg _ (by
    rw [List.getD_eq_getElem?_getD, List.getElem?_eq_getElem hi]
    exact List.getElem_mem hi))).imp fun v H2 _ p => by
    have q := LcR.new p
    rw [range_items F (0, 1) rs] at q
    exact q
/-- for x, y in pairs -/
theorem q_forRs {a : Addr} {xs : List V} {rs : List (Int × Int)} {j l : Nat} (h : Ev tl σ H (.ref a)) (hx : H a = some (.lst xs)) (hr : RsL H xs rs) (Pv : Nat → L2.St → Hp → Prop) (h0 : ∀ H1, Ex H H1 → Pv 0 σ H1) (hl : ∀ i σ' H', Pv i σ' H' → Ex H H')
    (hs : ∀ i σ' H', i < rs.length → Pv i σ' H' → tu { D with nx := Pv (i + 1), ct := Pv (i + 1), bk := tz D } ((σ'.set j (some (.int (rs.getD i (0, 1)).1))).set l (some (.int (rs.getD i (0, 1)).2))) H') (hd : ∀ σ' H', Pv rs.length σ' H' → tz D σ' H') :
    tSeq (tFor (iList K tl) (gTup K 2 (gCons (gName j) (gCons (gName l) gNil))) tu) tz D σ H :=
  q_forL h (sq_of hx) Pv h0 (fun i σ' H' _ p => sq_of (hl i σ' H' p _ _ hx)) (fun i x σ' H' hi p => by
    obtain ⟨h1, t, e, ht⟩ := hr.get hi
    subst e
    exact g_tup2 (st_of (hl i σ' H' p _ _ ht)) (hs i σ' H' h1 p)) (by rw [hr.len]; exact hd)
/-- rs[i] as a pair, rs[i][k] -/
theorem ev_rs {a : Addr} {xs : List V} {rs : List (Int × Int)} {i : Nat} (h : Ev ta σ H (.ref a)) (hi : Ev tb σ H (.int (i : Int))) (hx : H a = some (.lst xs)) (hr : RsL H xs rs) (hl : i < rs.length) : ∃ t, Ev (tOp (rIxL K) ta tb) σ H (.ref t) ∧ H t = some (.tup [.int (rs.getD i (0, 1)).1, .int (rs.getD i (0, 1)).2]) := by
  obtain ⟨t, e, ht⟩ := hr.at hl
  exact ⟨t, ev_op h hi (rv_ixL (sq_of hx) (atI_nat e)), ht⟩
theorem ev_p0 {t : Addr} {x y : V} (h : Ev ta σ H (.ref t)) (ht : H t = some (.tup [x, y])) : Ev (tOp (rIxT K) ta (tC (.int 0))) σ H x := ev_op h ev_c (rv_ixT (st_of ht) rfl)
theorem ev_p1 {t : Addr} {x y : V} (h : Ev ta σ H (.ref t)) (ht : H t = some (.tup [x, y])) : Ev (tOp (rIxT K) ta (tC (.int 1))) σ H y := ev_op h ev_c (rv_ixT (st_of ht) rfl)
/-- [.. for k, x in enumerate(xs)] -/
theorem er_lcE {ta : TA} {a : Addr} {xs : List V} {vs : List Nat} {j l : Nat} (F : Nat → V) (h : EvA ta σ H [.ref a]) (hx : SqL K H a xs) (hz : xs.length ≤ 40000) (hw : ∀ x y, wipe (((wipe σ vs).set j (some x)).set l (some y)) vs = wipe σ vs)
    (hg : ∀ (i : Nat) x, xs[i]? = some x → Ev te (((wipe σ vs).set j (some (.int (i : Int)))).set l (some x)) H (F i)) :
    EvR (tLc (iEnum K ta) (gTup K 2 (gCons (gName j) (gCons (gName l) gNil))) tYes te vs) σ H (NewL ((List.range xs.length).map F) H) := fun H0 e Q q => h H0 e _ fun H1 e1 => ⟨a, xs, rfl, ex_l (e.trans e1) hx, fun Dl hD => by
  refine ⟨fun i m H' => m = xs.length - i ∧ i ≤ xs.length ∧ Lw H1 (fun i y _ => y = F i) Dl i H', ⟨_, rfl, Nat.zero_le _, hD, Ex.new hD, [], upd_same, rfl, fun j y hy => by simp at hy⟩, ?_⟩
  rintro i m H' ⟨rfl, hi, p⟩
  have qx := ex_l ((e.trans e1).trans p.2.1) hx
  by_cases hlt : i < xs.length
  · have ex : xs[i]? = some xs[i] := List.getElem?_eq_getElem hlt
    refine .inr ⟨⟨xs, _, qx, ex⟩, Lw H1 (fun i y _ => y = F i) Dl (i + 1), fun H2 p2 => ⟨xs.length - (i + 1), by omega, rfl, hlt, p2⟩, fun v H2 hyld => ?_⟩
    obtain ⟨T, x', rfl, hT, rfl, f1⟩ := hyld
    have e1' : x' = xs[i] := Option.some.inj ((f1 _ qx).symm.trans ex)
    subst e1'
    refine g_tup2 (st_of upd_same) ⟨hw _ _, ?_⟩
    have p' : Lw H1 (fun i y _ => y = F i) Dl i (upd H' T (.tup [.int (i : Nat), xs[i]])) := by
      obtain ⟨p1, p2, zs, p3, p4, p5⟩ := p
      exact ⟨p1, p2.trans (Ex.new hT), zs, by rw [upd_ne (ne_of_none p3 hT)]; exact p3, p4, p5⟩
    exact lw_turn p' (by omega) stb_val ((evr (hg i _ ex)).mono (e.trans e1))
  · have ei : i = xs.length := by omega
    subst ei
    obtain ⟨p1, p2, zs, p3, p4, p5⟩ := p
    rw [lc_is p4 p5] at p3
    exact .inl ⟨⟨xs, qx, Nat.le_refl _⟩, q _ H' (e1.trans p2) ⟨Dl, rfl, fresh_back (e.trans e1) p1, p3⟩⟩⟩
/-- for k, x in enumerate(xs) -/
theorem q_forE {ta : TA} {a : Addr} {xs : List V} {j l : Nat} (h : EvA ta σ H [.ref a]) (hx : SqL K H a xs) (Pv : Nat → L2.St → Hp → Prop) (h0 : ∀ H1, Ex H H1 → Pv 0 σ H1) (hl : ∀ i σ' H', Pv i σ' H' → Ex H H') (hst : ∀ i σ' H' T o, Pv i σ' H' → H' T = none → Pv i σ' (upd H' T o))
    (hs : ∀ (i : Nat) x σ' H', xs[i]? = some x → Pv i σ' H' → tu { D with nx := Pv (i + 1), ct := Pv (i + 1), bk := tz D } ((σ'.set j (some (.int (i : Int)))).set l (some x)) H') (hd : ∀ σ' H', Pv xs.length σ' H' → tz D σ' H') :
    tSeq (tFor (iEnum K ta) (gTup K 2 (gCons (gName j) (gCons (gName l) gNil))) tu) tz D σ H := h H (Ex.refl H) _ fun H1 e1 => ⟨a, xs, rfl, ex_l e1 hx, by
  refine ⟨fun i m σ' H' => m = xs.length - i ∧ i ≤ xs.length ∧ Pv i σ' H', ⟨_, rfl, Nat.zero_le _, h0 H1 e1⟩, ?_⟩
  rintro i m σ' H' ⟨rfl, hi, p⟩
  have qx := ex_l (hl i σ' H' p) hx
  by_cases hlt : i < xs.length
  · have ex : xs[i]? = some xs[i] := List.getElem?_eq_getElem hlt
    refine .inr ⟨⟨xs, _, qx, ex⟩, Pv (i + 1), fun σ2 H2 p2 => ⟨xs.length - (i + 1), by omega, rfl, hlt, p2⟩, fun v H2 hyld => ?_⟩
    obtain ⟨T, x', rfl, hT, rfl, f1⟩ := hyld
    have e1' : x' = xs[i] := Option.some.inj ((f1 _ qx).symm.trans ex)
    subst e1'
    exact g_tup2 (st_of upd_same) (hs i _ σ' _ ex (hst i σ' H' T _ p hT))
  · have ei : i = xs.length := by omega
    subst ei
    exact .inl ⟨⟨xs, qx, Nat.le_refl _⟩, hd σ' H' p⟩⟩
end
end Wl
namespace Wl
open PySem PySem.Spec PyProof.Rows L2 Evl
section
variable {K : PySem.W.Frag} {σ : L2.St} {H H' : Hp} {ta tb tc te tl ti : TE} {t u : TT} {D : Ends} {tu tw tz : TS} {g : TG} {R S : V → Hp → Prop}
/-- a comprehension over what is told by facts -/
theorem er_lcB {ty : TT} {vs : List Nat} (h : EvR tl σ H S) (k : ∀ v H1, Ex H H1 → S v H1 → EvR (tLc (iList K (tC v)) g ty te vs) σ H1 R) : EvR (tLc (iList K tl) g ty te vs) σ H R := fun H0 e Q q =>
  h H0 e _ fun v H1 e1 hv => k v H1 (e.trans e1) hv H1 (Ex.refl _) Q fun v2 H2 e2 p => q v2 H2 (e1.trans e2) p
/-- an if of which one side is known to tell something -/
theorem q_ifW {φ : Prop} (h : ∀ H1, Ex H H1 → ∀ Q : Bool → Hp → Prop, (∀ b H2, Ex H1 H2 → (b = true → φ) → Q b H2) → t σ H1 Q) (h1 : φ → ∀ H1, Ex H H1 → tu { D with nx := tz D } σ H1) (h2 : ∀ H1, Ex H H1 → tw { D with nx := tz D } σ H1) : tSeq (tIfS t tu tw) tz D σ H := h H (Ex.refl H) _ fun b H1 e p => by
  cases b with
  | true => exact h1 (p rfl) H1 e
  | false => exact h2 H1 e
theorem ew_and {b : Bool} (h1 : EvT t σ H b) (h2 : b = true → EvQ u σ H) : ∀ H1, Ex H H1 → ∀ Q : Bool → Hp → Prop, (∀ c H2, Ex H1 H2 → (c = true → b = true) → Q c H2) → tAnd t u σ H1 Q := fun H1 e Q q => h1 H1 e _ fun H2 e2 => by
  cases b with
  | false => exact q false H2 e2 fun z => nomatch z
  | true => exact h2 rfl H2 (e.trans e2) Q fun c H3 e3 => q c H3 (e2.trans e3) fun _ => rfl
/-- arguments that all hold one thing -/
def AllH (n : Nat) (R : V → Hp → Prop) : List V → Hp → Prop := fun vs H => vs.length = n ∧ ∀ x ∈ vs, R x H
def UpH (R : V → Hp → Prop) : Prop := ∀ x H H', Ex H H' → R x H → R x H'
theorem ear_all0 : EvAR tNil σ H (AllH 0 R) := ear_nil.imp fun vs _ _ h => by subst h; exact ⟨rfl, fun _ h => nomatch h⟩
theorem ear_all1 {n : Nat} {tr : TA} (up : UpH R) (h : EvR te σ H R) (hr : EvAR tr σ H (AllH n R)) : EvAR (tCons te tr) σ H (AllH (n + 1) R) := ear_cons h fun x H1 e p => (show EvAR tr σ H1 (AllH n R) from fun H2 e2 => hr H2 (e.trans e2)).imp fun vs H2 e2 ⟨h1, h2⟩ => ⟨by rw [List.length_cons, h1], fun y hy => by
  rcases List.mem_cons.mp hy with rfl | hy
  · exact up _ _ _ e2 p
  · exact h2 y hy⟩
/-- for x in (a, b, ..), of which all hold one thing -/
theorem s_forAll {n j : Nat} {ta : TA} (up : UpH R) (h : EvAR ta σ H (AllH n R)) (hn : n ≤ 100000) (k : ∀ H1, Ex H H1 → ∃ Pv : L2.St → Hp → Prop, Pv σ H1 ∧ (∀ σ' H', Pv σ' H' → Ex H1 H') ∧
    (∀ x σ' H', Pv σ' H' → R x H' → tu { D with nx := Pv, ct := Pv, bk := D.nx } (σ'.set j (some x)) H') ∧ (∀ σ' H', Pv σ' H' → D.nx σ' H')) : tFor (iTup K (tTup ta)) (gName j) tu D σ H :=
  s_forTU (er_tup h (fun vs H1 p => by rw [p.1]; exact hn)) fun v H1 e ⟨p, vs, H2, hv, _, e2, hp, h1⟩ => by
    obtain ⟨Pv, h0, hl, hs, hd⟩ := k H1 e
    exact ⟨p, vs, hv, st_of h1, fun _ => Pv, h0, fun _ σ' H' _ q => st_of (hl σ' H' q _ _ h1), fun i x σ' H' hx q => hs x σ' H' q (up _ _ _ (e2.trans (hl σ' H' q)) (hp.2 x (List.mem_of_getElem? hx))), hd⟩
theorem q_forAll {n j : Nat} {ta : TA} (up : UpH R) (h : EvAR ta σ H (AllH n R)) (hn : n ≤ 100000) (k : ∀ H1, Ex H H1 → ∃ Pv : L2.St → Hp → Prop, Pv σ H1 ∧ (∀ σ' H', Pv σ' H' → Ex H1 H') ∧
    (∀ x σ' H', Pv σ' H' → R x H' → tu { D with nx := Pv, ct := Pv, bk := tz D } (σ'.set j (some x)) H') ∧ (∀ σ' H', Pv σ' H' → tz D σ' H')) : tSeq (tFor (iTup K (tTup ta)) (gName j) tu) tz D σ H :=
  s_forAll (D := { D with nx := tz D }) up h hn k
/-- xs[i] = e, of what is told by facts -/
theorem s_setLR {l : Addr} {xs : List V} {j : Nat} (hl : H l = some (.lst xs)) (h : EvR te σ H R) (ho : Ev ta σ H (.ref l)) (hi : Ev tb σ H (.int (j : Int))) (hj : j < xs.length) (k : ∀ v H1, Ex H H1 → (∃ H0, Ex H0 H1 ∧ R v H0) → D.nx σ (upd H1 l (.lst (xs.set j v)))) :
    tAsg te (gSub ta tb rSetL) D σ H := h H (Ex.refl H) _ fun v H1 e1 p => ho H1 e1 _ fun H2 e2 => hi H2 (e1.trans e2) _ fun H3 e3 =>
  ⟨l, xs, (j : Int), j, rfl, rfl, ((e1.trans e2).trans e3) l _ hl, ixN_nat hj, k v H3 ((e1.trans e2).trans e3) ⟨H1, e2.trans e3, p⟩⟩
/-! rests joined, cut -/
theorem er_rsCat {rs ss : List (Int × Int)} (ha : EvR ta σ H (fun v H => RsAt H v rs)) (hb : EvR tb σ H (fun v H => RsAt H v ss)) (hl : rs.length + ss.length ≤ 100000) : EvR (tOp rCat ta tb) σ H (fun v H => RsAt H v (rs ++ ss)) := fun H1 e Q q =>
  ha H1 e _ fun x H2 e2 ⟨p, xs, hx, hp, h1⟩ => hb H2 (e.trans e2) _ fun y H3 e3 ⟨r, ys, hy, hr, h2⟩ => ⟨p, r, xs, ys, hx, hy, e3 _ _ hp, hr, sz_of (by rw [h1.len, h2.len]; exact hl), fun l hn => q _ _ ((e2.trans e3).trans (Ex.new hn)) ⟨l, _, rfl, upd_same, ((h1.up e3).append h2).up (Ex.new hn)⟩⟩
theorem er_rsRev {rs : List (Int × Int)} {v : V} (h : Ev ta σ H v) (hr : RsAt H v rs) : EvR (tRevL K ta) σ H (fun v H => RsAt H v rs.reverse) := by
  obtain ⟨a, xs, rfl, h1, h2⟩ := hr
  exact (er_rev h (sq_of h1)).imp fun v H2 e ⟨p, hv, _, hp⟩ => ⟨p, _, hv, hp, (h2.up e).rev⟩
theorem er_rsDrop {rs : List (Int × Int)} {v : V} (h : Ev ta σ H v) (hr : RsAt H v rs) : EvR (tSl (rSlL K) ta (tPart (tC (.int 1))) tNoPart) σ H (fun v H => RsAt H v (rs.drop 1)) := by
  obtain ⟨a, xs, rfl, h1, h2⟩ := hr
  exact (er_sl h (eo_some ev_c) eo_none (sq_of h1)).imp fun v H2 e ⟨p, hv, _, hp⟩ => ⟨p, _, hv, hp, by rw [cut_from1]; exact (h2.up e).drop1⟩
theorem set_same {α : Type} : ∀ {l : List α} {i : Nat} {x : α}, l[i]? = some x → l.set i x = l
  | [], _, _, h => by simp at h
  | _ :: _, 0, _, h => by cases h; rfl
  | a :: l, i + 1, x, h => congrArg (a :: ·) (set_same (l := l) (i := i) (x := x) (by simpa using h))
/-- if due: due = e -/
theorem q_due {b r : Bool} {i : Nat} (hσ : σ[i]? = some (some (.bl b))) (h : b = true → ∀ H1, Ex H H1 → Ev te σ H1 (.bl r)) (k : ∀ H1, Ex H H1 → tz D (σ.set i (some (.bl (b && r)))) H1) : tSeq (tIfS (tB (tVar i)) (tAsg te (gName i)) tNext) tz D σ H :=
  q_when (b := b) (et_B (ev_var hσ)) (fun hb H1 e => s_asg (h hb H1 e) fun H2 e2 => by
    have := k H2 (e.trans e2)
    rw [hb] at this
    exact this) fun hb H1 e => by
    have := k H1 e
    rw [hb, Bool.false_and, set_same (by rw [hσ, hb])] at this
    exact this
/-- an if whose two ways meet in one word -/
theorem q_join {φ : Bool → Prop} (Pv : L2.St → Hp → Prop) (h : ∀ H1, Ex H H1 → ∀ Q : Bool → Hp → Prop, (∀ b H2, Ex H1 H2 → φ b → Q b H2) → t σ H1 Q) (h1 : φ true → ∀ H1, Ex H H1 → ∀ D : Ends, (∀ σ' H', Pv σ' H' → D.nx σ' H') → tu D σ H1) (h2 : φ false → ∀ H1, Ex H H1 → Pv σ H1) (k : ∀ σ' H', Pv σ' H' → tz D σ' H') : tSeq (tIfS t tu tNext) tz D σ H := h H (Ex.refl H) _ fun b H1 e p => by
  cases b with
  | true => exact h1 p H1 e { D with nx := tz D } k
  | false => exact k _ _ (h2 p H1 e)
theorem et_phi {b : Bool} (h : EvT t σ H b) : ∀ H1, Ex H H1 → ∀ Q : Bool → Hp → Prop, (∀ c H2, Ex H1 H2 → c = b → Q c H2) → t σ H1 Q := fun H1 e Q q => h H1 e Q fun H2 e2 => q b H2 e2 rfl
/-- a method of what is told by facts -/
theorem ev_methB {C : Addr} {m : Str} {sp : Sp} {E : XK} {tm : TA} {z : V} (ha : EvR ta σ H R) (k : ∀ v H1, Ex H H1 → R v H1 → Ev (tMeth C m sp [] E (tC v) tm) σ H1 z) : Ev (tMeth C m sp [] E ta tm) σ H z := fun H1 e Q q =>
  ha H1 e _ fun v H2 e2 p => k v H2 (e.trans e2) p H2 (Ex.refl _) Q fun H3 e3 => q H3 (e2.trans e3)
/-- for over what is told by facts -/
theorem s_forB (h : EvR tl σ H S) (k : ∀ v H1, Ex H H1 → S v H1 → tFor (iList K (tC v)) g tu D σ H1) : tFor (iList K tl) g tu D σ H := h H (Ex.refl H) _ fun v H1 e p => k v H1 e p
/-- for x, y in [(..), (..)] -/
def PairX (x : V) (H : Hp) : Prop := ∃ p, PairAt H x p
theorem upPair : UpH PairX := fun _ _ _ e ⟨p, h⟩ => ⟨p, h.up e⟩
theorem q_forAllP {n j l : Nat} {ta : TA} (h : EvAR ta σ H (AllH n PairX)) (hn : n ≤ 100000) (k : ∀ H1, Ex H H1 → ∃ Pv : L2.St → Hp → Prop, Pv σ H1 ∧ (∀ σ' H', Pv σ' H' → Ex H1 H') ∧
    (∀ (p : Int × Int) σ' H', Pv σ' H' → tu { D with nx := Pv, ct := Pv, bk := tz D } ((σ'.set j (some (.int p.1))).set l (some (.int p.2))) H') ∧ (∀ σ' H', Pv σ' H' → tz D σ' H')) : tSeq (tFor (iList K (tLst ta)) (gTup K 2 (gCons (gName j) (gCons (gName l) gNil))) tu) tz D σ H :=
  s_forB (D := { D with nx := tz D }) (er_lst h (fun vs H1 p => by rw [p.1]; exact hn)) fun v H1 e ⟨p, vs, H2, hv, _, e2, hp, h1⟩ => by
    obtain ⟨Pv, h0, hl, hs, hd⟩ := k H1 e
    subst hv
    exact ⟨p, rfl, ⟨vs, sq_of h1⟩, for_list (xs := vs) (fun _ => Pv) h0 (fun _ σ' H' _ q => sq_of (hl σ' H' q _ _ h1)) (fun i x σ' H' hx q => by
      obtain ⟨pp, t, hx2, ht⟩ := upPair _ _ _ (e2.trans (hl σ' H' q)) (hp.2 x (List.mem_of_getElem? hx))
      subst hx2
      exact g_tup2 (st_of ht) (hs pp σ' H' q)) hd⟩
theorem all_int {φ : Int → Prop} : ∀ {ys : List V}, (∀ y ∈ ys, ∃ z : Int, y = .int z ∧ φ z) → ∃ ns : List Int, ys = iv ns ∧ ∀ z ∈ ns, φ z
  | [], _ => ⟨[], rfl, fun _ h => nomatch h⟩
  | y :: ys, h => by
    obtain ⟨z, rfl, hz⟩ := h y List.mem_cons_self
    obtain ⟨ns, rfl, hn⟩ := all_int (ys := ys) fun y hy => h y (List.mem_cons_of_mem _ hy)
    exact ⟨z :: ns, rfl, fun x hx => by
      rcases List.mem_cons.mp hx with rfl | hx
      · exact hz
      · exact hn x hx⟩
theorem iv_cut (ts : List Int) (lo hi : Option Int) : ∃ us, cutV (iv ts) lo hi = iv us ∧ us.length ≤ ts.length := by
  unfold cutV
  rw [iv_drop, iv_take]
  exact ⟨_, rfl, by rw [List.length_take, List.length_drop]; omega⟩
def IntX (x : V) (_ : Hp) : Prop := ∃ i : Int, x = .int i
theorem upInt : UpH IntX := fun _ _ _ _ h => h
theorem er_int {i : Int} (h : Ev te σ H (.int i)) : EvR te σ H IntX := (evr h).imp fun _ _ _ h => ⟨i, h⟩
end
end Wl
namespace Wl
open PySem PySem.Spec PyProof.Rows L2 Evl
/-! ### defs that raise -/
section
variable {C : CXT} {P : Program} {w : World} {K : PySem.W.Frag} {mg : Str → Option Value} {base : Heap}
/-- a def that lets out errors of the kind C -/
structure OkC (C : CXT) (P : Program) (w : World) (K : PySem.W.Frag) (mg : Str → Option Value) (base : Heap) (k : Nat) (f : Addr) (fd : FuncData) (ps : List Str) (sp : Sp) : Prop where
  (ok : FnOk P w K mg base C k f fd ps sp) (bi : Binds K fd ps []) (kp : PySem.W.keepIn K (.ref f) = true)
abbrev OkkC (C : CXT) (P : Program) (w : World) (K : PySem.W.Frag) (mg : Str → Option Value) (base : Heap) (k : Nat) (f : Addr) (ps : List Str) (sp : Sp) : Prop := ∃ fd, OkC C P w K mg base k f fd ps sp
theorem OkC.mono {j k : Nat} {f : Addr} {fd : FuncData} {ps : List Str} {sp : Sp} (h : OkC C P w K mg base j f fd ps sp) (hk : j ≤ k) : OkC C P w K mg base k f fd ps sp := ⟨h.ok.mono hk, h.bi, h.kp⟩
/-- its body walked, wherever it is called -/
abbrev BodyOf (C : CXT) (P : Program) (w : World) (K : PySem.W.Frag) (mg : Str → Option Value) (base : Heap) (N : List Str) (qual : Str) (st : Stmt) (f : Addr) (k : Nat) (sp : Sp) : Prop :=
  ∀ (cd : Value) (B : Around) (out : List Env) (s : Shared) (H : Hp) (vs : List V) (Q : VK) (E : XK), Room k (B.deeper (envOfC qual (defScope st) s.heap.objs.size f cd)) → sp vs H Q E →
    ∃ t, PSs (cxOf C P w K mg base N qual (defScope st) f cd B out s H E) (defBody st) t ∧ t { nx := fun _ H' => Q .non H', rt := Q } (start N vs) H
theorem okkc {x qual : Str} {st : Stmt} {f : Addr} {N ps : List Str} {k : Nat} {sp : Sp} (F : ∃ fd, Fun K x qual st f fd ∧ Binds K fd ps []) (S : FnScope N ps (defScope st)) (len : ∀ vs H Q E, sp vs H Q E → vs.length = ps.length)
    (body : BodyOf C P w K mg base N qual st f k sp) : OkkC C P w K mg base (k + 1) f ps sp :=
  match F with
  | ⟨_, ⟨⟨_, _, _, _, _, _, _, _, _, rfl, look, code⟩, keep⟩, b⟩ => ⟨_, fn_of look code S len (body _), b, keep⟩
/-- errors behind which nothing stands -/
abbrev OkX (P : Program) (w : World) (K : PySem.W.Frag) (mg : Str → Option Value) (base : Heap) (k : Nat) (f : Addr) (fd : FuncData) (ps : List Str) (sp : Sp) : Prop := OkC (L2N.CX P w) P w K mg base k f fd ps sp
abbrev OkkX (P : Program) (w : World) (K : PySem.W.Frag) (mg : Str → Option Value) (base : Heap) (k : Nat) (f : Addr) (ps : List Str) (sp : Sp) : Prop := OkkC (L2N.CX P w) P w K mg base k f ps sp
theorem okkx {x qual : Str} {st : Stmt} {f : Addr} {N ps : List Str} {k : Nat} {sp : Sp} (F : ∃ fd, Fun K x qual st f fd ∧ Binds K fd ps []) (S : FnScope N ps (defScope st)) (len : ∀ vs H Q E, sp vs H Q E → vs.length = ps.length)
    (body : BodyOf (L2N.CX P w) P w K mg base N qual st f k sp) : OkkX P w K mg base (k + 1) f ps sp := okkc F S len body
theorem passX0 {X : Cx} : Passes (L2N.CX X.prog X.w) X E0 := fun _ _ _ _ _ _ _ ⟨_, _, _, _, _, _, _, _, _, _, _, _, no⟩ => no.elim
theorem passE {X : Cx} {E : XK} {E₁ : Value → Shared → Prop} (hs : X.stack = X.env :: X.outer) (hf : X.env.frame = some X.env.locals) (hex : X.ex = [])
    (hx : X.xe = fun e s' => wpAny (model X.prog X.w) X.A (leaving X.env e) (fun _ s'' => L2N.CX X.prog X.w X.outer X.H_0 X.s_0 E e s'') E₁ s') : Passes (L2N.CX X.prog X.w) X E := L2N.passes_call (L2N.takes_of hs hf hex hx) fun _ _ _ _ h => h
theorem takes0N {X : Cx} : L2N.Takes X (fun _ _ _ _ => False) := fun _ _ ⟨_, _, _, _, _, _, _, _, _, _, _, _, _, _, _, _, no⟩ => no.elim
/-- raises an error of the class C -/
def spZ {α : Type} (Pre : α → List V → Hp → Prop) (C : Addr) : Sp := fun vs H _ E => ∃ d, Pre d vs H ∧ ∀ H', Ex H H' → E (.ref C) none H'
def spO (s1 s2 : Sp) : Sp := fun vs H Q E => s1 vs H Q E ∨ s2 vs H Q E
/-- never comes to a value -/
def Rz (te : TE) (σ : L2.St) (H : Hp) : Prop := ∀ H1, Ex H H1 → ∀ Q : VK, te σ H1 Q
section
variable {σ : L2.St} {H H' : Hp} {ta tb te : TE} {tl : TA} {t : TT} {D : Ends} {tz : TS} {vs : List V} {sp : Sp} {E : XK}
theorem rz_call (h : EvA tl σ H vs) (k : ∀ H1, Ex H H1 → ∀ Q, sp vs H1 Q E) : Rz (tCall sp [] E tl) σ H := fun H1 e Q => h H1 e _ fun H2 e2 => by
  show sp (vs ++ []) H2 Q E
  rw [List.append_nil]
  exact k H2 (e.trans e2) Q
theorem rz_if {b : Bool} (h : EvT t σ H b) (h1 : b = true → Rz ta σ H) (h2 : b = false → Rz tb σ H) : Rz (tIf t ta tb) σ H := fun H1 e Q => h H1 e _ fun H2 e2 => by
  cases b with
  | true => exact h1 rfl H2 (e.trans e2) Q
  | false => exact h2 rfl H2 (e.trans e2) Q
theorem q_dropX (h : Rz te σ H) : tSeq (tDrop te) tz D σ H := h H (Ex.refl H) _
theorem s_retX (h : Rz te σ H) : tRet te D σ H := h H (Ex.refl H) _
end
/-! ### a def called in an except suite with the error -/
/-- nothing is let out -/
abbrev CXn : CXT := fun _ _ _ _ _ _ => False
/-- p's object, an error of the class D behind which nothing stands, is handled -/
def Held1 (A : Around) (D : Addr) (p : Addr × Obj) : Prop := L2H.Hot1 A p ∧ Zc (.ref D) none p.2
structure FnP (P : Program) (w : World) (K : PySem.W.Frag) (mg : Str → Option Value) (base : Heap) (k : Nat) (f : Addr) (fd : FuncData) (ps : List Str) (D : Addr) (sp : Addr → Sp) : Prop where
  len : ∀ a vs H Q E, sp a vs H Q E → vs.length = ps.length
  run : ∀ {A outer s H args us vs Q E p}, L2H.RoomH k A → Held1 A D p → L2H.PinOk outer H s p → Env0 P w K mg base A outer s H → BindsTo s fd args (ps.zip us) → Vals vs us → sp p.1 vs H Q E → codeAny (model P w) A (.call (.ref f) args) (CR CXn outer P w H s Q E) s
/-- a body's ends are a call's ends -/
theorem cr_of {C : CXT} {P : Program} {w : World} {K : PySem.W.Frag} {mg : Str → Option Value} {base : Heap} {N : List Str} {qual : Str} {scope : Scope} {f : Addr} {cd : Value} {A : Around} {outer : List Env} {s s' : Shared} {H : Hp} {Q : VK} {E : XK} {p : Addr × Obj} {fl : Flow}
    (h : SP (L2H.cxH C P w K mg base N qual scope f cd A outer s H E p) [] { nx := fun _ H' => Q .non H', rt := Q } fl s') : CR C outer P w H s Q E (.ok (.ret (match (generalizing := false) fl with | .ret v => v | _ => .none))) s' :=
  match fl, h with
  | .ret _, ⟨v, _, H', J, r, q⟩ => ⟨v, H', J.os, J.bare, J.base, J.hok, r, q⟩
  | .next, ⟨_, H', J, q⟩ => ⟨.non, H', J.os, J.bare, J.base, J.hok, rfl, q⟩
  | .brk, ⟨_, _, _, no⟩ => no.elim
  | .cont, ⟨_, _, _, no⟩ => no.elim
theorem fn_ofP {k : Nat} {f : Addr} {x qual : Str} {st : Stmt} {fd : FuncData} {N ps : List Str} {D : Addr} {sp : Addr → Sp} (F : Fun K x qual st f fd) (S : FnScope N ps (defScope st)) (len : ∀ a vs H Q E, sp a vs H Q E → vs.length = ps.length)
    (body : ∀ (cd : Value) (A : Around) (outer : List Env) (s : Shared) (H : Hp) (vs : List V) (Q : VK) (E : XK) (p : Addr × Obj), Held1 A D p → sp p.1 vs H Q E →
      ∃ t, PSs (L2H.cxH CXn P w K mg base N qual (defScope st) f cd A outer s H E p) (defBody st) t ∧ t { nx := fun _ H' => Q .non H', rt := Q } (L2.start N vs) H) : FnP P w K mg base (k + 1) f fd ps D sp := by
  rcases F.ex with ⟨_, _, _, _, _, _, cd, _, _, rfl, look, code⟩
  refine ⟨len, ?_⟩
  intro A outer s H args us vs Q E p room held pin here bound vals wish
  have low : ∀ b o, base.get? b = some o → s.heap.get? b = some o := fun b o h => (here.bs b o h).1
  have inK := here.mod.kin.keeps low
  refine codeAny_call_function room.depth (inK _ _ look) rfl S.co S.gen rfl (PySem.W.codeRec_of inK code) (bound _ _ _ _ (wpAny_newFunctionEnv_cells S.kind (fun y hy => ?_) fun env made s1 entered => ?_))
  · exact (S.par y.1 (List.of_mem_zip hy).1).imp id fun c => ⟨c, PySem.W.cellsFrom_some _ _ _ (.inl c)⟩
  · cases made
    rcases body cd A outer s H vs Q E p held wish with ⟨t, walk, q⟩
    have J := L2H.inv_startH (CX := CXn) (E := E) (mg := mg) S pin here (len _ _ _ _ _ wish) vals entered
    exact ⟨(here.mod.nolimit.keeps low).keeps entered.toInCall.keep, codeAny_func (wpAny_mono (walk.run [] s1 _ H _ J q) (fun _ _ => cr_of) fun _ _ z => z)⟩
end
/-- f(error), within the suite that caught it -/
def tCallP (P : Program) (w : World) (K : PySem.W.Frag) (mg : Str → Option Value) (base : Heap) (k : Nat) (f : Addr) (cls : Value) (d : Option Addr) (a : Addr) (t : TA) : TE := fun σ H Q => ∃ D fd ps sp, cls = .ref D ∧ d = none ∧ FnP P w K mg base k f fd ps D sp ∧ Binds K fd ps [] ∧ t σ H fun vs H1 => sp a vs H1 Q (fun _ _ _ => False)
section
variable {X : Cx} {k i : Nat} {f a : Addr} {oe : Obj} {cls : Value} {d : Option Addr} {x : Str} {p pos q : Pos} {e : Expr} {es : List Expr} {t : TA}
/-- arguments bound: no defaults -/
theorem bound_of {pins : List (Addr × Obj)} {σ : L2.St} {H : Hp} {s : Shared} {fd : FuncData} {ps : List Str} {us : List Value} (I : Inv X pins σ H s) (b : Binds X.K fd ps []) (l : us.length = ps.length) : BindsTo s fd ⟨us, []⟩ (ps.zip us) := by
  have z := b s us I.kIn
  rw [List.append_nil] at z
  exact z l
/-- a pinned object, as a callee wants it -/
theorem pin_ok {pins : List (Addr × Obj)} {σ : L2.St} {H : Hp} {s : Shared} {r : Addr × Obj} (I : Inv X pins σ H s) (hr : r ∈ X.pn) : L2H.PinOk X.stack H s r :=
  match I.pin r (List.mem_append_left _ hr) with
  | ⟨here, free, nl, nf, nc⟩ => ⟨here, free, fun hm => (List.mem_cons.mp (I.stkSub _ hm)).elim nl nf, nc⟩
/-- what a call that lets nothing out leaves -/
theorem ret_of {pins : List (Addr × Obj)} {σ : L2.St} {H : Hp} {s s' : Shared} {Q : VK} {E : XK} {r : Result} (I : Inv X pins σ H s) (h : CR CXn X.stack X.prog X.w H s Q E r s') : ∃ u, r = .ok (.ret u) ∧ EP X pins σ Q u s' :=
  match r, h with
  | .ok (.ret u), z => ⟨u, rfl, I.after z⟩
theorem pe_callP (hr : L2H.RoomH k X.A) (hot : L2H.Hot1 X.A (a, oe)) (hp : (a, oe) ∈ X.pn) (hz : Zc cls d oe) (hg : Gl X x) (hm : X.mg x = some (.ref f)) (hk : PySem.W.keepIn X.K (.ref f) = true) (ha : PA X (e :: es) t) (hdb : (x == ("__debug__" : Str)) = false := by decide)
    (he : starEach (e :: es) X.env = (false, eval e X.env) :: starEach es X.env := by rfl) (hpl : (backTo pos (starEach es X.env)).any (·.1) = false := by rfl) : PE X (.Call (.Name x q) (e :: es) [] pos) (tCallP X.prog X.w X.K X.mg X.base k f cls d a t) := by
  constructor
  rintro pins s σ H Q I ⟨D, fd, ps, sp, rfl, rfl, F, b, args⟩
  refine wpAny_Call_Name_kw (ld_glob I hg hm (PySem.W.callWith_K (h₀ := X.base) I.ok.mod.kin hk (thn (ha.run pos pins s σ H _ I args) ?_) he hpl) hdb)
  rintro us s1 ⟨vs, H1, J, vals, wish⟩
  have call := F.run hr ⟨hot, hz⟩ (pin_ok J hp) J.env0 (bound_of J b (vals.length.symm.trans (F.len _ _ _ _ _ wish))) vals wish
  refine ⟨J.kIn, wpAny_call (codeAny_mono call fun r s' z => ?_)⟩
  rcases ret_of J z with ⟨u, rfl, done_⟩
  exact done_
/-- what holds in the suite's context holds wherever its error is handled and pinned -/
theorem callR_suite {g : Value} {rd : List V → Hp → VK → Prop} (hh : X.A.handled = some (.ref a)) (hp : (a, oe) ∈ X.pn) (h : CallR (X.suite a ((a, oe) :: X.pn)) g rd) : CallR X g rd := by
  intro pins s σ H vs us Q I r q
  have S : Inv (X.suite a ((a, oe) :: X.pn)) pins σ H s := ⟨I.ok.suite _ _, I.os, I.bare, I.base, I.loc, I.cell, I.free, I.freeC, fun b hb => I.pin b ((List.mem_cons.mp hb).elim (fun z => List.mem_append_left _ (z ▸ hp)) id), I.hok, I.len⟩
  have same : X.A.mark (some (.ref a)) = X.A := by
    generalize X.A = B at hh
    cases B
    cases hh
    rfl
  have z := h pins s σ H vs us Q S r q
  rw [show (X.suite a ((a, oe) :: X.pn)).A = X.A from same] at z
  exact wpAny_mono z (fun u s' ⟨v, H', J, w⟩ => ⟨v, H', ⟨I.ok, J.os, J.bare, J.base, J.loc, J.cell, J.free, J.freeC, fun b hb => J.pin b (List.mem_cons_of_mem _ hb), J.hok, J.len⟩, w⟩) fun _ _ no => no.elim
theorem call_isP {D : Addr} (K : PySem.W.Frag) (hh : X.A.handled = some (.ref a)) (hp : (a, oe) ∈ X.pn) (C : ExcC X.K D) (hz : Zc (.ref D) none oe) (hf : ∃ vs, oe.data = .fields vs) (hK : X.K = K := by rfl) : CallR X (.builtin "isinstance") (rIsE K D a) := by
  subst hK
  exact callR_suite hh hp (call_isE C hz hf)
/-- a call of what a slot holds, in a try -/
def tCallLX (P : Program) (w : World) (K : PySem.W.Frag) (mg : Str → Option Value) (base : Heap) (k i : Nat) (W : WX) (t : TA) : TE := fun σ H Q => ∃ f fd ps sp, σ[i]? = some (some (.ref f)) ∧ OkX P w K mg base k f fd ps sp ∧ t σ H fun vs H1 => sp vs H1 Q (WE W σ)
theorem pe_callLX {W : WX} (tk : L2N.Takes X W) (hr : Room k X.A) (hN : X.N[i]? = some x) (hv : Vis X.env.scope x) (ha : PA X (e :: es) t)
    (hd : (x == ("__debug__" : Str)) = false ∧ (x == ("__classdict__" : Str)) = false := by decide)
    (he : starEach (e :: es) X.env = (false, eval e X.env) :: starEach es X.env := by rfl) (hpl : (backTo pos (starEach es X.env)).any (·.1) = false := by rfl) : PE X (.Call (.Name x p) (e :: es) [] pos) (tCallLX X.prog X.w X.K X.mg X.base k i W t) := by
  constructor
  rintro pins s σ H Q I ⟨f, fd, ps, sp, slot, G, args⟩
  have name := (pe_var (pos := p) hN hv hd.1 hd.2).run pins s σ H (fun v H1 => v = .ref f ∧ H1 = H) I ⟨.ref f, slot, rfl, rfl⟩
  refine wpAny_Call_Name_kw (thn name ?_)
  rintro u s1 ⟨_, _, J, r, rfl, rfl⟩
  obtain rfl : u = .ref f := r
  exact PySem.W.callWith_K (h₀ := X.base) I.ok.mod.kin G.kp (thn (ha.run pos pins s1 σ _ _ J args) fun us s2 ⟨vs, H2, J2, vals, wish⟩ => ⟨J2.kIn, run_fnS G.ok hr G.bi (L2N.passAt tk σ) J2 vals wish⟩) he hpl
end
end Wl
namespace Wl
open PySem PySem.Spec PyProof.Rows L2 Evl
local macro_rules | `(tactic| walk_at "e1") => `(tactic| with_reducible (apply et_self; assumption))
local macro_rules | `(tactic| walk_at "e1") => `(tactic| with_reducible (apply ev_self; assumption))
local macro_rules | `(tactic| walk_at "e1") => `(tactic| with_reducible refine (fun (hbb : (_ : Bool) = _) => ?_))
local macro_rules | `(tactic| walk_at "e1") => `(tactic| with_reducible apply ev_if)
local macro_rules | `(tactic| walk_at "e1") => `(tactic| with_reducible apply ev_notV)
local macro_rules | `(tactic| walk_at "e1") => `(tactic| with_reducible apply ev_orV)
local macro_rules | `(tactic| walk_at "e1") => `(tactic| with_reducible apply ev_andV)
local macro_rules | `(tactic| walk_at "e1") => `(tactic| with_reducible apply ev_chain)
local macro_rules | `(tactic| walk_at "e1") => `(tactic| with_reducible apply et_not)
local macro_rules | `(tactic| walk_at "e1") => `(tactic| with_reducible apply et_or)
local macro_rules | `(tactic| walk_at "e1") => `(tactic| with_reducible apply et_and)
local macro_rules | `(tactic| walk_at "e1") => `(tactic| with_reducible apply et_B)
local macro_rules | `(tactic| walk_at "e1") => `(tactic| with_reducible apply et_test)
local macro_rules | `(tactic| walk_at "e1") => `(tactic| with_reducible apply rv_ixT)
local macro_rules | `(tactic| walk_at "e1") => `(tactic| with_reducible apply rv_ixL)
local macro_rules | `(tactic| walk_at "e1") => `(tactic| with_reducible apply rv_I)
local macro_rules | `(tactic| walk_at "e1") => `(tactic| ((with_reducible apply rv_ne); exact rfl))
local macro_rules | `(tactic| walk_at "e1") => `(tactic| ((with_reducible apply rv_eq); exact rfl))
local macro_rules | `(tactic| walk_at "e1") => `(tactic| with_reducible exact rv_I0)
local macro_rules | `(tactic| walk_at "e1") => `(tactic| with_reducible exact ru_neg)
local macro_rules | `(tactic| walk_at "e1") => `(tactic| with_reducible apply ev_un)
local macro_rules | `(tactic| walk_at "e1") => `(tactic| with_reducible apply ea_cons)
local macro_rules | `(tactic| walk_at "e1") => `(tactic| with_reducible exact ea_nil)
local macro_rules | `(tactic| walk_at "e1") => `(tactic| with_reducible apply ev_op)
local macro_rules | `(tactic| walk_at "e1") => `(tactic| ((with_reducible apply ev_var); exact rfl))
local macro_rules | `(tactic| walk_at "e1") => `(tactic| with_reducible exact ev_c)
local macro_rules | `(tactic| walk_at "sq") => `(tactic| first | with_reducible assumption | exact st_of (by assumption) | exact sq_of (by assumption) | exact st_of ((by assumption : Ex _ _) _ _ (by assumption)) | exact sq_of ((by assumption : Ex _ _) _ _ (by assumption)) | exact ex_t (by assumption) (by assumption) | exact ex_l (by assumption) (by assumption))
local macro_rules | `(tactic| walk_at "e1") => `(tactic| ((with_reducible apply rv_ixL) <;> first | walk_at "sq" | exact rfl))
local macro_rules | `(tactic| walk_at "e1") => `(tactic| ((with_reducible apply rv_ixT) <;> first | walk_at "sq" | exact rfl))
local macro_rules | `(tactic| walk_at "sz") => `(tactic| exact Nat.le_of_ble_eq_true rfl)
local macro_rules | `(tactic| walk_at "e1") => `(tactic| with_reducible exact rv_neB)
local macro_rules | `(tactic| walk_at "e1") => `(tactic| with_reducible exact rv_eqB)
local macro_rules | `(tactic| walk_at "e1") => `(tactic| with_reducible exact rv_neI)
local macro_rules | `(tactic| walk_at "e1") => `(tactic| with_reducible exact rv_eqI)
local macro_rules | `(tactic| walk_at "ev") => `(tactic| (repeat' walk_at "e1"))
def topS (i : Nat) : Stmt := PySem.Challenge.pw_wheelrow_k08_refused.main.body.getD i (.Pass ⟨0, 0, 0, 0⟩)
abbrev s_is_whole : Stmt := topS 11
abbrev s_is_number : Stmt := topS 12
abbrev s_is_turn : Stmt := topS 13
abbrev s_check_numbers : Stmt := topS 14
abbrev s_check_turn : Stmt := topS 15
abbrev s_is_rest : Stmt := topS 16
abbrev s_check_rests : Stmt := topS 17
abbrev s_common : Stmt := topS 30
abbrev s_come : Stmt := topS 31
abbrev s_back : Stmt := topS 32
abbrev s_told : Stmt := topS 35
abbrev s_left : Stmt := topS 36
abbrev s_stretch : Stmt := topS 38
abbrev s_chosen : Stmt := topS 42
abbrev s_written : Stmt := topS 44
abbrev s_l_cell_at : Stmt := topS 46
abbrev s_l_draw : Stmt := topS 47
abbrev s_l_turns : Stmt := topS 48
abbrev s_l_rests : Stmt := topS 49
abbrev s_l_kinds : Stmt := topS 53
abbrev s_l_with_rests : Stmt := topS 54
abbrev s_l_with_numbers : Stmt := topS 55
abbrev s_l_with_turn : Stmt := topS 56
abbrev s_l_with_rest : Stmt := topS 57
abbrev s_l_with_number : Stmt := topS 58
abbrev s_l_told : Stmt := topS 59
abbrev s_l_all : Stmt := topS 60
abbrev s_law : Stmt := topS 61
theorem sc_is_whole : FnScope ["thing"] ["thing"] (defScope s_is_whole) := ⟨rfl, rfl, rfl, by decide +kernel, rfl, by decide +kernel, by decide +kernel⟩
theorem sc_is_number : FnScope ["thing"] ["thing"] (defScope s_is_number) := ⟨rfl, rfl, rfl, by decide +kernel, rfl, by decide +kernel, by decide +kernel⟩
theorem sc_is_turn : FnScope ["thing"] ["thing"] (defScope s_is_turn) := ⟨rfl, rfl, rfl, by decide +kernel, rfl, by decide +kernel, by decide +kernel⟩
theorem sc_check_numbers : FnScope ["numbers", "number"] ["numbers"] (defScope s_check_numbers) := ⟨rfl, rfl, rfl, by decide +kernel, rfl, by decide +kernel, by decide +kernel⟩
theorem sc_check_turn : FnScope ["turn"] ["turn"] (defScope s_check_turn) := ⟨rfl, rfl, rfl, by decide +kernel, rfl, by decide +kernel, by decide +kernel⟩
theorem sc_is_rest : FnScope ["pair"] ["pair"] (defScope s_is_rest) := ⟨rfl, rfl, rfl, by decide +kernel, rfl, by decide +kernel, by decide +kernel⟩
theorem sc_check_rests : FnScope ["rests", "pair"] ["rests"] (defScope s_check_rests) := ⟨rfl, rfl, rfl, by decide +kernel, rfl, by decide +kernel, by decide +kernel⟩
theorem sc_common : FnScope ["numbers", "part", "times"] ["numbers"] (defScope s_common) := ⟨rfl, rfl, rfl, by decide +kernel, rfl, by decide +kernel, by decide +kernel⟩
theorem sc_come : FnScope ["numbers", "turn", "rest", "part", "times", "often", "number"] ["numbers", "turn", "rest"] (defScope s_come) := ⟨rfl, rfl, rfl, by decide +kernel, rfl, by decide +kernel, by decide +kernel⟩
theorem sc_back : FnScope ["number", "turn", "part", "mine", "theirs"] ["number", "turn"] (defScope s_back) := ⟨rfl, rfl, rfl, by decide +kernel, rfl, by decide +kernel, by decide +kernel⟩
theorem sc_told : FnScope ["rests", "number", "whole", "place", "pair", "rest", "turn", "part", "mine", "theirs"] ["rests"] (defScope s_told) := ⟨rfl, rfl, rfl, by decide +kernel, rfl, by decide +kernel, by decide +kernel⟩
theorem sc_left : FnScope ["number", "rounds", "turn"] ["number", "rounds"] (defScope s_left) := ⟨rfl, rfl, rfl, by decide +kernel, rfl, by decide +kernel, by decide +kernel⟩
theorem sc_stretch : FnScope ["numbers", "seen", "total", "place", "number"] ["numbers"] (defScope s_stretch) := ⟨rfl, rfl, rfl, by decide +kernel, rfl, by decide +kernel, by decide +kernel⟩
theorem sc_chosen : FnScope ["numbers", "many", "place", "number"] ["numbers"] (defScope s_chosen) := ⟨rfl, rfl, rfl, by decide +kernel, rfl, by decide +kernel, by decide +kernel⟩
theorem sc_written : FnScope ["rests", "rest", "turn"] ["rests"] (defScope s_written) := ⟨rfl, rfl, rfl, by decide +kernel, rfl, by decide +kernel, by decide +kernel⟩
theorem sc_l_cell_at : FnScope ["_law_script", "_law_k"] ["_law_script", "_law_k"] (defScope s_l_cell_at) := ⟨rfl, rfl, rfl, by decide +kernel, rfl, by decide +kernel, by decide +kernel⟩
theorem sc_l_draw : FnScope ["_law_cell", "_law_k", "_law_many", "_law_primes"] ["_law_cell", "_law_k", "_law_many"] (defScope s_l_draw) := ⟨rfl, rfl, rfl, by decide +kernel, rfl, by decide +kernel, by decide +kernel⟩
theorem sc_l_turns : FnScope ["_law_script", "_law_kind", "_law_found", "_law_k", "_law_turn"] ["_law_script"] (defScope s_l_turns) := ⟨rfl, rfl, rfl, by decide +kernel, rfl, by decide +kernel, by decide +kernel⟩
theorem sc_l_rests : FnScope ["_law_script", "_law_far", "_law_found", "_law_at", "_law_turn", "_law_k", "_law_cell"] ["_law_script"] (defScope s_l_rests) := ⟨rfl, rfl, rfl, by decide +kernel, rfl, by decide +kernel, by decide +kernel⟩
theorem sc_l_kinds : FnScope ["_law_error", "_law_found"] ["_law_error"] (defScope s_l_kinds) := ⟨rfl, rfl, rfl, by decide +kernel, rfl, by decide +kernel, by decide +kernel⟩
theorem sc_l_with_rests : FnScope ["_law_door", "_law_thing"] ["_law_door", "_law_thing"] (defScope s_l_with_rests) := ⟨rfl, rfl, rfl, by decide +kernel, rfl, by decide +kernel, by decide +kernel⟩
theorem sc_l_with_numbers : FnScope ["_law_door", "_law_thing"] ["_law_door", "_law_thing"] (defScope s_l_with_numbers) := ⟨rfl, rfl, rfl, by decide +kernel, rfl, by decide +kernel, by decide +kernel⟩
theorem sc_l_with_turn : FnScope ["_law_door", "_law_thing"] ["_law_door", "_law_thing"] (defScope s_l_with_turn) := ⟨rfl, rfl, rfl, by decide +kernel, rfl, by decide +kernel, by decide +kernel⟩
theorem sc_l_with_rest : FnScope ["_law_turn", "_law_thing"] ["_law_turn", "_law_thing"] (defScope s_l_with_rest) := ⟨rfl, rfl, rfl, by decide +kernel, rfl, by decide +kernel, by decide +kernel⟩
theorem sc_l_with_number : FnScope ["_law_door", "_law_thing"] ["_law_door", "_law_thing"] (defScope s_l_with_number) := ⟨rfl, rfl, rfl, by decide +kernel, rfl, by decide +kernel, by decide +kernel⟩
theorem sc_l_told : FnScope ["_law_ask", "_law_one", "_law_other", "_law_error"] ["_law_ask", "_law_one", "_law_other"] (defScope s_l_told) := ⟨rfl, rfl, rfl, by decide +kernel, rfl, by decide +kernel, by decide +kernel⟩
theorem sc_l_all : FnScope ["_law_ask", "_law_doors", "_law_things", "_law_due", "_law_door", "_law_thing"] ["_law_ask", "_law_doors", "_law_things", "_law_due"] (defScope s_l_all) := ⟨rfl, rfl, rfl, by decide +kernel, rfl, by decide +kernel, by decide +kernel⟩
theorem sc_law : FnScope ["_law_script", "_law_far", "_law_due", "_law_k", "_law_rests_here", "_law_numbers_here", "_law_many", "_law_kept", "_law_bad", "_law_at", "_law_rest", "_law_turn"] ["_law_script"] (defScope s_law) := ⟨rfl, rfl, rfl, by decide +kernel, rfl, by decide +kernel, by decide +kernel⟩
structure Ad where
  a_is_whole : Addr
  a_is_number : Addr
  a_is_turn : Addr
  a_check_numbers : Addr
  a_check_turn : Addr
  a_is_rest : Addr
  a_check_rests : Addr
  a_common : Addr
  a_come : Addr
  a_back : Addr
  a_told : Addr
  a_left : Addr
  a_stretch : Addr
  a_chosen : Addr
  a_written : Addr
  a_l_cell_at : Addr
  a_l_draw : Addr
  a_l_turns : Addr
  a_l_rests : Addr
  a_l_kinds : Addr
  a_l_with_rests : Addr
  a_l_with_numbers : Addr
  a_l_with_turn : Addr
  a_l_with_rest : Addr
  a_l_with_number : Addr
  a_l_told : Addr
  a_l_all : Addr
  a_law : Addr
  c_RestError : Addr
  c_BadRests : Addr
  c_BadNumbers : Addr
  c_BadRound : Addr
  c_BadRest : Addr
  c_BadCount : Addr
  c_BadText : Addr
  c_Answer : Addr
  c_Number : Addr
  c_Clash : Addr
  c_Common : Addr
  c_Times : Addr
  c_Bar : Addr
  c_Back : Addr
structure Txt (K : PySem.W.Frag) (mg : Str → Option Value) (A : Ad) : Prop where
  F_is_whole : ∃ fd, Fun K "is_whole" "is_whole" s_is_whole A.a_is_whole fd ∧ Binds K fd ["thing"] []
  g_is_whole : mg "is_whole" = some (.ref A.a_is_whole)
  F_is_number : ∃ fd, Fun K "is_number" "is_number" s_is_number A.a_is_number fd ∧ Binds K fd ["thing"] []
  g_is_number : mg "is_number" = some (.ref A.a_is_number)
  F_is_turn : ∃ fd, Fun K "is_turn" "is_turn" s_is_turn A.a_is_turn fd ∧ Binds K fd ["thing"] []
  g_is_turn : mg "is_turn" = some (.ref A.a_is_turn)
  F_check_numbers : ∃ fd, Fun K "check_numbers" "check_numbers" s_check_numbers A.a_check_numbers fd ∧ Binds K fd ["numbers"] []
  g_check_numbers : mg "check_numbers" = some (.ref A.a_check_numbers)
  F_check_turn : ∃ fd, Fun K "check_turn" "check_turn" s_check_turn A.a_check_turn fd ∧ Binds K fd ["turn"] []
  g_check_turn : mg "check_turn" = some (.ref A.a_check_turn)
  F_is_rest : ∃ fd, Fun K "is_rest" "is_rest" s_is_rest A.a_is_rest fd ∧ Binds K fd ["pair"] []
  g_is_rest : mg "is_rest" = some (.ref A.a_is_rest)
  F_check_rests : ∃ fd, Fun K "check_rests" "check_rests" s_check_rests A.a_check_rests fd ∧ Binds K fd ["rests"] []
  g_check_rests : mg "check_rests" = some (.ref A.a_check_rests)
  F_common : ∃ fd, Fun K "common" "common" s_common A.a_common fd ∧ Binds K fd ["numbers"] []
  g_common : mg "common" = some (.ref A.a_common)
  F_come : ∃ fd, Fun K "come" "come" s_come A.a_come fd ∧ Binds K fd ["numbers", "turn", "rest"] []
  g_come : mg "come" = some (.ref A.a_come)
  F_back : ∃ fd, Fun K "back" "back" s_back A.a_back fd ∧ Binds K fd ["number", "turn"] []
  g_back : mg "back" = some (.ref A.a_back)
  F_told : ∃ fd, Fun K "told" "told" s_told A.a_told fd ∧ Binds K fd ["rests"] []
  g_told : mg "told" = some (.ref A.a_told)
  F_left : ∃ fd, Fun K "left" "left" s_left A.a_left fd ∧ Binds K fd ["number", "rounds"] []
  g_left : mg "left" = some (.ref A.a_left)
  F_stretch : ∃ fd, Fun K "stretch" "stretch" s_stretch A.a_stretch fd ∧ Binds K fd ["numbers"] []
  g_stretch : mg "stretch" = some (.ref A.a_stretch)
  F_chosen : ∃ fd, Fun K "chosen" "chosen" s_chosen A.a_chosen fd ∧ Binds K fd ["numbers"] []
  g_chosen : mg "chosen" = some (.ref A.a_chosen)
  F_written : ∃ fd, Fun K "written" "written" s_written A.a_written fd ∧ Binds K fd ["rests"] []
  g_written : mg "written" = some (.ref A.a_written)
  F_l_cell_at : ∃ fd, Fun K "_law_cell_at" "_law_cell_at" s_l_cell_at A.a_l_cell_at fd ∧ Binds K fd ["_law_script", "_law_k"] []
  g_l_cell_at : mg "_law_cell_at" = some (.ref A.a_l_cell_at)
  F_l_draw : ∃ fd, Fun K "_law_draw" "_law_draw" s_l_draw A.a_l_draw fd ∧ Binds K fd ["_law_cell", "_law_k", "_law_many"] []
  g_l_draw : mg "_law_draw" = some (.ref A.a_l_draw)
  F_l_turns : ∃ fd, Fun K "_law_turns" "_law_turns" s_l_turns A.a_l_turns fd ∧ Binds K fd ["_law_script"] []
  g_l_turns : mg "_law_turns" = some (.ref A.a_l_turns)
  F_l_rests : ∃ fd, Fun K "_law_rests" "_law_rests" s_l_rests A.a_l_rests fd ∧ Binds K fd ["_law_script"] []
  g_l_rests : mg "_law_rests" = some (.ref A.a_l_rests)
  F_l_kinds : ∃ fd, Fun K "_law_kinds" "_law_kinds" s_l_kinds A.a_l_kinds fd ∧ Binds K fd ["_law_error"] []
  g_l_kinds : mg "_law_kinds" = some (.ref A.a_l_kinds)
  F_l_with_rests : ∃ fd, Fun K "_law_with_rests" "_law_with_rests" s_l_with_rests A.a_l_with_rests fd ∧ Binds K fd ["_law_door", "_law_thing"] []
  g_l_with_rests : mg "_law_with_rests" = some (.ref A.a_l_with_rests)
  F_l_with_numbers : ∃ fd, Fun K "_law_with_numbers" "_law_with_numbers" s_l_with_numbers A.a_l_with_numbers fd ∧ Binds K fd ["_law_door", "_law_thing"] []
  g_l_with_numbers : mg "_law_with_numbers" = some (.ref A.a_l_with_numbers)
  F_l_with_turn : ∃ fd, Fun K "_law_with_turn" "_law_with_turn" s_l_with_turn A.a_l_with_turn fd ∧ Binds K fd ["_law_door", "_law_thing"] []
  g_l_with_turn : mg "_law_with_turn" = some (.ref A.a_l_with_turn)
  F_l_with_rest : ∃ fd, Fun K "_law_with_rest" "_law_with_rest" s_l_with_rest A.a_l_with_rest fd ∧ Binds K fd ["_law_turn", "_law_thing"] []
  g_l_with_rest : mg "_law_with_rest" = some (.ref A.a_l_with_rest)
  F_l_with_number : ∃ fd, Fun K "_law_with_number" "_law_with_number" s_l_with_number A.a_l_with_number fd ∧ Binds K fd ["_law_door", "_law_thing"] []
  g_l_with_number : mg "_law_with_number" = some (.ref A.a_l_with_number)
  F_l_told : ∃ fd, Fun K "_law_told" "_law_told" s_l_told A.a_l_told fd ∧ Binds K fd ["_law_ask", "_law_one", "_law_other"] []
  g_l_told : mg "_law_told" = some (.ref A.a_l_told)
  F_l_all : ∃ fd, Fun K "_law_all" "_law_all" s_l_all A.a_l_all fd ∧ Binds K fd ["_law_ask", "_law_doors", "_law_things", "_law_due"] []
  g_l_all : mg "_law_all" = some (.ref A.a_l_all)
  F_law : ∃ fd, Fun K "law" "law" s_law A.a_law fd ∧ Binds K fd ["_law_script"] []
  g_law : mg "law" = some (.ref A.a_law)
  z_isinstance : mg "isinstance" = none
  z_int : mg "int" = none
  z_bool : mg "bool" = none
  z_list : mg "list" = none
  z_all : mg "all" = none
  z_tuple : mg "tuple" = none
  z_len : mg "len" = none
  z_enumerate : mg "enumerate" = none
  z_sorted : mg "sorted" = none
  z_str : mg "str" = none
  z_range : mg "range" = none
  z_sum : mg "sum" = none
  z_abs : mg "abs" = none
  z_ValueError : mg "ValueError" = none
  k_GREATEST : ∃ t, mg "GREATEST" = some (.int 1000000 t)
  g_RestError : mg "RestError" = some (.ref A.c_RestError)
  sb_RestError : PySem.W.subIn K (.ref A.c_RestError) (.type "BaseException") = some true
  ty_RestError : PySem.W.typeIn K (.ref A.c_RestError) = some (.type "type")
  g_BadRests : mg "BadRests" = some (.ref A.c_BadRests)
  ex_BadRests : PySem.W.excIn K A.c_BadRests [.type "ValueError", .type "Exception", .type "BaseException", .type "object"] "ValueError.__new__" = true
  ke_BadRests : PySem.W.keepIn K (.ref A.c_BadRests) = true
  em_BadRests_RestError : PySem.W.exmOne K (.ref A.c_BadRests) (.ref A.c_RestError) = some true
  xc_BadRests : ExcC K A.c_BadRests
  kq_BadRests_BadRests : PySem.W.kitOne K (.ref A.c_BadRests) (.ref A.c_BadRests) = some true
  kq_BadRests_BadNumbers : PySem.W.kitOne K (.ref A.c_BadRests) (.ref A.c_BadNumbers) = some false
  kq_BadRests_BadRound : PySem.W.kitOne K (.ref A.c_BadRests) (.ref A.c_BadRound) = some false
  kq_BadRests_BadRest : PySem.W.kitOne K (.ref A.c_BadRests) (.ref A.c_BadRest) = some false
  kq_BadRests_BadCount : PySem.W.kitOne K (.ref A.c_BadRests) (.ref A.c_BadCount) = some false
  kq_BadRests_BadText : PySem.W.kitOne K (.ref A.c_BadRests) (.ref A.c_BadText) = some false
  kq_BadRests_ValueError : PySem.W.kitOne K (.ref A.c_BadRests) (.type "ValueError") = some true
  sb_BadRests : PySem.W.subIn K (.ref A.c_BadRests) (.type "BaseException") = some true
  ty_BadRests : PySem.W.typeIn K (.ref A.c_BadRests) = some (.type "type")
  g_BadNumbers : mg "BadNumbers" = some (.ref A.c_BadNumbers)
  ex_BadNumbers : PySem.W.excIn K A.c_BadNumbers [.type "ValueError", .type "Exception", .type "BaseException", .type "object"] "ValueError.__new__" = true
  ke_BadNumbers : PySem.W.keepIn K (.ref A.c_BadNumbers) = true
  em_BadNumbers_RestError : PySem.W.exmOne K (.ref A.c_BadNumbers) (.ref A.c_RestError) = some true
  xc_BadNumbers : ExcC K A.c_BadNumbers
  kq_BadNumbers_BadRests : PySem.W.kitOne K (.ref A.c_BadNumbers) (.ref A.c_BadRests) = some false
  kq_BadNumbers_BadNumbers : PySem.W.kitOne K (.ref A.c_BadNumbers) (.ref A.c_BadNumbers) = some true
  kq_BadNumbers_BadRound : PySem.W.kitOne K (.ref A.c_BadNumbers) (.ref A.c_BadRound) = some false
  kq_BadNumbers_BadRest : PySem.W.kitOne K (.ref A.c_BadNumbers) (.ref A.c_BadRest) = some false
  kq_BadNumbers_BadCount : PySem.W.kitOne K (.ref A.c_BadNumbers) (.ref A.c_BadCount) = some false
  kq_BadNumbers_BadText : PySem.W.kitOne K (.ref A.c_BadNumbers) (.ref A.c_BadText) = some false
  kq_BadNumbers_ValueError : PySem.W.kitOne K (.ref A.c_BadNumbers) (.type "ValueError") = some true
  sb_BadNumbers : PySem.W.subIn K (.ref A.c_BadNumbers) (.type "BaseException") = some true
  ty_BadNumbers : PySem.W.typeIn K (.ref A.c_BadNumbers) = some (.type "type")
  g_BadRound : mg "BadRound" = some (.ref A.c_BadRound)
  ex_BadRound : PySem.W.excIn K A.c_BadRound [.type "ValueError", .type "Exception", .type "BaseException", .type "object"] "ValueError.__new__" = true
  ke_BadRound : PySem.W.keepIn K (.ref A.c_BadRound) = true
  em_BadRound_RestError : PySem.W.exmOne K (.ref A.c_BadRound) (.ref A.c_RestError) = some true
  xc_BadRound : ExcC K A.c_BadRound
  kq_BadRound_BadRests : PySem.W.kitOne K (.ref A.c_BadRound) (.ref A.c_BadRests) = some false
  kq_BadRound_BadNumbers : PySem.W.kitOne K (.ref A.c_BadRound) (.ref A.c_BadNumbers) = some false
  kq_BadRound_BadRound : PySem.W.kitOne K (.ref A.c_BadRound) (.ref A.c_BadRound) = some true
  kq_BadRound_BadRest : PySem.W.kitOne K (.ref A.c_BadRound) (.ref A.c_BadRest) = some false
  kq_BadRound_BadCount : PySem.W.kitOne K (.ref A.c_BadRound) (.ref A.c_BadCount) = some false
  kq_BadRound_BadText : PySem.W.kitOne K (.ref A.c_BadRound) (.ref A.c_BadText) = some false
  kq_BadRound_ValueError : PySem.W.kitOne K (.ref A.c_BadRound) (.type "ValueError") = some true
  sb_BadRound : PySem.W.subIn K (.ref A.c_BadRound) (.type "BaseException") = some true
  ty_BadRound : PySem.W.typeIn K (.ref A.c_BadRound) = some (.type "type")
  g_BadRest : mg "BadRest" = some (.ref A.c_BadRest)
  ex_BadRest : PySem.W.excIn K A.c_BadRest [.type "ValueError", .type "Exception", .type "BaseException", .type "object"] "ValueError.__new__" = true
  ke_BadRest : PySem.W.keepIn K (.ref A.c_BadRest) = true
  em_BadRest_RestError : PySem.W.exmOne K (.ref A.c_BadRest) (.ref A.c_RestError) = some true
  xc_BadRest : ExcC K A.c_BadRest
  kq_BadRest_BadRests : PySem.W.kitOne K (.ref A.c_BadRest) (.ref A.c_BadRests) = some false
  kq_BadRest_BadNumbers : PySem.W.kitOne K (.ref A.c_BadRest) (.ref A.c_BadNumbers) = some false
  kq_BadRest_BadRound : PySem.W.kitOne K (.ref A.c_BadRest) (.ref A.c_BadRound) = some false
  kq_BadRest_BadRest : PySem.W.kitOne K (.ref A.c_BadRest) (.ref A.c_BadRest) = some true
  kq_BadRest_BadCount : PySem.W.kitOne K (.ref A.c_BadRest) (.ref A.c_BadCount) = some false
  kq_BadRest_BadText : PySem.W.kitOne K (.ref A.c_BadRest) (.ref A.c_BadText) = some false
  kq_BadRest_ValueError : PySem.W.kitOne K (.ref A.c_BadRest) (.type "ValueError") = some true
  sb_BadRest : PySem.W.subIn K (.ref A.c_BadRest) (.type "BaseException") = some true
  ty_BadRest : PySem.W.typeIn K (.ref A.c_BadRest) = some (.type "type")
  g_BadCount : mg "BadCount" = some (.ref A.c_BadCount)
  g_BadText : mg "BadText" = some (.ref A.c_BadText)
  g_Answer : mg "Answer" = some (.ref A.c_Answer)
  cl_Answer : Cls K A.c_Answer
  i_Answer : IsC K A.c_Answer
  g_Number : mg "Number" = some (.ref A.c_Number)
  cl_Number : Cls K A.c_Number
  n_Number_number : NoAttr K A.c_Number "number"
  n_Number_turn : NoAttr K A.c_Number "turn"
  i_Number : IsC K A.c_Number
  g_Clash : mg "Clash" = some (.ref A.c_Clash)
  cl_Clash : Cls K A.c_Clash
  n_Clash_one : NoAttr K A.c_Clash "one"
  n_Clash_other : NoAttr K A.c_Clash "other"
  i_Clash : IsC K A.c_Clash
  g_Common : mg "Common" = some (.ref A.c_Common)
  cl_Common : Cls K A.c_Common
  n_Common_part : NoAttr K A.c_Common "part"
  n_Common_times : NoAttr K A.c_Common "times"
  i_Common : IsC K A.c_Common
  g_Times : mg "Times" = some (.ref A.c_Times)
  cl_Times : Cls K A.c_Times
  n_Times_times : NoAttr K A.c_Times "times"
  i_Times : IsC K A.c_Times
  g_Bar : mg "Bar" = some (.ref A.c_Bar)
  cl_Bar : Cls K A.c_Bar
  n_Bar_part : NoAttr K A.c_Bar "part"
  i_Bar : IsC K A.c_Bar
  g_Back : mg "Back" = some (.ref A.c_Back)
  cl_Back : Cls K A.c_Back
  n_Back_rest : NoAttr K A.c_Back "rest"
  i_Back : IsC K A.c_Back
  isg : IsG K
/-! ### is_whole, is_number, is_turn, check_turn -/
abbrev bt : List String := ["NoneType", "bool", "int", "str", "list", "tuple", "dict"]
theorem kit_int {K : PySem.W.Frag} {n : String} (h : n ∈ bt) : PySem.W.kitOne K (.type n) (.type "int") = some (n == "int" || n == "bool") := by
  simp only [List.mem_cons, List.not_mem_nil, or_false] at h
  rcases h with h | h | h | h | h | h | h <;> subst h <;> exact kit_ty (by decide +kernel)
theorem kit_bool {K : PySem.W.Frag} {n : String} (h : n ∈ bt) : PySem.W.kitOne K (.type n) (.type "bool") = some (n == "bool") := by
  simp only [List.mem_cons, List.not_mem_nil, or_false] at h
  rcases h with h | h | h | h | h | h | h <;> subst h <;> exact kit_ty (by decide +kernel)
/-- whether it is an int -/
def isI : V → Bool
  | .int _ => true
  | _ => false
theorem isI_ty {K : PySem.W.Frag} {H : Hp} {x : V} {n : String} (h : TyX K H x (.type n)) : isI x = (n == "int") := by
  generalize ht : Value.type n = t at h
  cases h with
  | base b => cases b <;> first | (cases ht; rfl) | cases ht
  | _ => first | (cases ht; rfl) | cases ht
/-- whether it is a number within the bounds, a round -/
def isNum : V → Bool
  | .int i => decide (-1000000 ≤ i) && decide (i ≤ 1000000)
  | _ => false
def isTurn : V → Bool
  | .int i => decide (1 ≤ i) && decide (i ≤ 1000000)
  | _ => false
/-- a plain thing of a known type -/
def PlainV (K : PySem.W.Frag) (H : Hp) (x : V) : Prop := ∃ n, TyX K H x (.type n) ∧ n ∈ bt
theorem PlainV.up {K : PySem.W.Frag} {H H' : Hp} {x : V} (e : Ex H H') (h : PlainV K H x) : PlainV K H' x := by
  obtain ⟨n, h, m⟩ := h
  exact ⟨n, tyx_up e h, m⟩
theorem plain_int {K : PySem.W.Frag} {H : Hp} {i : Int} : PlainV K H (.int i) := ⟨"int", .base (.int i), by decide⟩
def sp_is_whole (K : PySem.W.Frag) : Sp := spX (fun (d : V) vs H => vs = [d] ∧ PlainV K H d) (fun d _ v _ => v = .bl (isI d))
def sp_is_number (K : PySem.W.Frag) : Sp := spX (fun (d : V) vs H => vs = [d] ∧ PlainV K H d) (fun d _ v _ => v = .bl (isNum d))
def sp_is_turn (K : PySem.W.Frag) : Sp := spX (fun (d : V) vs H => vs = [d] ∧ PlainV K H d) (fun d _ v _ => v = .bl (isTurn d))
section
variable {P : Program} {w : World} {K : PySem.W.Frag} {mg : Str → Option Value} {base : Heap} {A : Ad}
theorem ok_is_whole (T : Txt K mg A) : Okk P w K mg base 1 A.a_is_whole ["thing"] (sp_is_whole K) := by
  refine okk T.F_is_whole sc_is_whole (fun vs H Q E h => ?_) (fun cdv Ar outer s H vs Q E hr h => ?_)
  · obtain ⟨d, ⟨rfl, _⟩, _⟩ := h
    rfl
  · obtain ⟨d, ⟨rfl, n, ht, hn⟩, k⟩ := h
    refine ⟨_, (pss_one (ps_ret (pe_and (pe_callB call_isi (by rfl) T.z_isinstance (by decide +kernel) (pa_cons (pv 0) (pa_cons (pe_bltn (v := .ty "int") (by rfl) T.z_int (by decide +kernel) rfl) pa_nil))) (pe_one (pe_not (pe_callB call_isi (by rfl) T.z_isinstance (by decide +kernel) (pa_cons (pv 0) (pa_cons (pe_bltn (v := .ty "bool") (by rfl) T.z_bool (by decide +kernel) rfl) pa_nil)))))))), ?_⟩
    refine s_ret (ev_andV (ev_isi (ev_var rfl) ev_c (.ty _) ht (kit_int hn)) (fun _ => ev_notV (ev_isi (ev_var rfl) ev_c (.ty _) ht (kit_bool hn)))) fun H1 e1 => k _ _ e1 ?_
    show V.bl _ = V.bl (isI d)
    rw [isI_ty ht]
    simp only [List.mem_cons, List.not_mem_nil, or_false] at hn
    rcases hn with h | h | h | h | h | h | h <;> subst h <;> decide +kernel
theorem ok_is_number (T : Txt K mg A) : Okk P w K mg base 2 A.a_is_number ["thing"] (sp_is_number K) := by
  obtain ⟨_, G_is_whole, b_is_whole, k_is_whole⟩ := ok_is_whole (P := P) (w := w) (base := base) T
  obtain ⟨_, kG⟩ := T.k_GREATEST
  refine okk T.F_is_number sc_is_number (fun vs H Q E h => ?_) (fun cdv Ar outer s H vs Q E hr h => ?_)
  · obtain ⟨d, ⟨rfl, _⟩, _⟩ := h
    rfl
  · obtain ⟨d, ⟨rfl, hp⟩, k⟩ := h
    have hr_is_whole : Room 1 _ := hr.mono (by decide)
    refine ⟨_, (pss_one (ps_ret (pe_and (pe_call G_is_whole hr_is_whole (by rfl) T.g_is_whole k_is_whole b_is_whole .nil pass0 (pa_cons (pv 0) pa_nil)) (pe_one (pe_chain op_le op_le (pe_un un_neg (pe_glob (v := .int 1000000) (by rfl) kG ⟨_, rfl⟩)) (pv 0) (pe_glob (v := .int 1000000) (by rfl) kG ⟨_, rfl⟩)))))), ?_⟩
    refine s_ret (v := .bl (isNum d)) ?_ fun H1 e1 => k _ _ e1 rfl
    have h1 : Ev (tCall (sp_is_whole K) [] E0 (tCons (tVar 0) tNil)) [some d] H (.bl (isI d)) := ev_call0 d (by walk_at "ev") (fun H1 e => ⟨rfl, hp.up e⟩) fun _ _ _ p => p
    cases d with
    | int i => exact ev_is (ev_andV h1 fun _ => by walk_at "ev") rfl
    | _ => exact ev_andV (b := false) h1 fun z => nomatch z
theorem ok_is_turn (T : Txt K mg A) : Okk P w K mg base 2 A.a_is_turn ["thing"] (sp_is_turn K) := by
  obtain ⟨_, G_is_whole, b_is_whole, k_is_whole⟩ := ok_is_whole (P := P) (w := w) (base := base) T
  obtain ⟨_, kG⟩ := T.k_GREATEST
  refine okk T.F_is_turn sc_is_turn (fun vs H Q E h => ?_) (fun cdv Ar outer s H vs Q E hr h => ?_)
  · obtain ⟨d, ⟨rfl, _⟩, _⟩ := h
    rfl
  · obtain ⟨d, ⟨rfl, hp⟩, k⟩ := h
    have hr_is_whole : Room 1 _ := hr.mono (by decide)
    refine ⟨_, (pss_one (ps_ret (pe_and (pe_call G_is_whole hr_is_whole (by rfl) T.g_is_whole k_is_whole b_is_whole .nil pass0 (pa_cons (pv 0) pa_nil)) (pe_one (pe_chain op_le op_le pe_int (pv 0) (pe_glob (v := .int 1000000) (by rfl) kG ⟨_, rfl⟩)))))), ?_⟩
    refine s_ret (v := .bl (isTurn d)) ?_ fun H1 e1 => k _ _ e1 rfl
    have h1 : Ev (tCall (sp_is_whole K) [] E0 (tCons (tVar 0) tNil)) [some d] H (.bl (isI d)) := ev_call0 d (by walk_at "ev") (fun H1 e => ⟨rfl, hp.up e⟩) fun _ _ _ p => p
    cases d with
    | int i => exact ev_is (ev_andV h1 fun _ => by walk_at "ev") rfl
    | _ => exact ev_andV (b := false) h1 fun z => nomatch z
/-- a round is let through -/
def sp_check_turn (K : PySem.W.Frag) : Sp := spX (fun (d : Int) vs _ => vs = [.int d] ∧ 1 ≤ d ∧ d ≤ 1000000) (fun _ _ v _ => v = .non)
end
/-! ### lists as a type; all -/
theorem kit_ll {K : PySem.W.Frag} : PySem.W.kitOne K (.type "list") (.type "list") = some true := kit_ty (by decide +kernel)
theorem all_true {α : Type} {l : List α} {f : α → Bool} (h : ∀ x ∈ l, f x = true) : (l.map f).all id = true := by
  rw [List.all_map]
  exact List.all_eq_true.mpr h
theorem map_bl {α : Type} {l : List α} {f : α → Bool} : l.map (fun n => V.bl (f n)) = (l.map f).map V.bl := by
  rw [List.map_map]
  rfl
/-! ### part_of, _law_part, round_of -/
def sp_part_of (_ : PySem.W.Frag) : Sp := spX (fun (d : Int × Int) vs _ => vs = [.int d.1, .int d.2]) (fun d _ v _ => v = .int (pt d.1 d.2))
section
variable {P : Program} {w : World} {K : PySem.W.Frag} {mg : Str → Option Value} {base : Heap} {A : Ad}
theorem part_body {D : Ends} {H : Hp} {a b : Int} (k : ∀ H', Ex H H' → D.rt (.int (pt a b)) H') :
    tSeq (tPar 0 1 (tCons (tCB (fun xs H Q => ∃ i, xs = [V.int i] ∧ Q (.int (if i < 0 then -i else i)) H) (tCons (tVar 0) tNil)) (tCons (tCB (fun xs H Q => ∃ i, xs = [V.int i] ∧ Q (.int (if i < 0 then -i else i)) H) (tCons (tVar 1) tNil)) tNil)))
      (tSeq (tWhile (tTest (tOp (rI0 fun i j => .bl (decide (j < i))) (tVar 1) (tC (.int 0)))) (tPar 0 1 (tCons (tVar 1) (tCons (tOp (rI (fun _ j => 0 < j) fun i j => .int (i % j)) (tVar 0) (tVar 1)) tNil)))) (tRet (tVar 0))) D [some (.int a), some (.int b)] H := by
  refine q_par (v := .int (if a < 0 then -a else a)) (w := .int (if b < 0 then -b else b)) (ea_cons (ev_cb (ea_cons (ev_var rfl) ea_nil) rc_abs) (ea_cons (ev_cb (ea_cons (ev_var rfl) ea_nil) rc_abs) ea_nil)) rfl fun H1 e1 => ?_
  refine q_while (fun m σ H' => ∃ x y : Int, m = y.toNat ∧ σ = [some (.int x), some (.int y)] ∧ Ex H H' ∧ 0 ≤ x ∧ 0 ≤ y ∧ pt x y = pt a b) _
    ⟨_, _, rfl, rfl, e1, by split <;> omega, by split <;> omega, pt_abs a b⟩ ?_
  rintro m σ H2 ⟨x, y, rfl, rfl, e2, hx, hy, hg⟩
  refine ⟨decide (0 < y), et_test (ev_op (ev_var rfl) ev_c rv_I0), fun hb H3 e3 => ?_, fun hb H3 e3 => ?_⟩
  · have hy0 : 0 < y := of_decide_eq_true hb
    refine ⟨_, fun _ _ n => n, ?_⟩
    refine s_par (v := .int y) (w := .int (x % y)) (ea_cons (ev_var rfl) (ea_cons (ev_op (ev_var rfl) (ev_var rfl) (rv_I hy0)) ea_nil)) rfl fun H4 e4 => ?_
    have h1 := Int.emod_lt_of_pos x hy0
    have h0 := Int.emod_nonneg x (b := y) (by omega)
    exact ⟨(x % y).toNat, by omega, y, x % y, rfl, rfl, e2.trans (e3.trans e4), hy, h0, by rw [pt_step]; exact hg⟩
  · have hy0 : y = 0 := by
      have := of_decide_eq_false hb
      omega
    subst hy0
    refine s_ret (ev_var rfl) fun H4 e4 => ?_
    rw [pt_zero x hx] at hg
    rw [hg]
    exact k _ (e2.trans (e3.trans e4))
def sp_l_part (_ : PySem.W.Frag) : Sp := spX (fun (d : Int × Int) vs _ => vs = [.int d.1, .int d.2]) (fun d _ v _ => v = .int (pt d.1 d.2))
theorem ev_part {σ : L2.St} {H : Hp} {ta tb : TE} {a b : Int} {E : XK} (h : Ev ta σ H (.int a)) (h2 : Ev tb σ H (.int b)) : Ev (tCall (sp_part_of K) [] E (tCons ta (tCons tb tNil))) σ H (.int (pt a b)) :=
  ev_call0 (a, b) (ea_cons h (ea_cons h2 ea_nil)) (fun H1 e => rfl) fun _ _ _ p => p
theorem ev_lpart {σ : L2.St} {H : Hp} {ta tb : TE} {a b : Int} {E : XK} (h : Ev ta σ H (.int a)) (h2 : Ev tb σ H (.int b)) : Ev (tCall (sp_l_part K) [] E (tCons ta (tCons tb tNil))) σ H (.int (pt a b)) :=
  ev_call0 (a, b) (ea_cons h (ea_cons h2 ea_nil)) (fun H1 e => rfl) fun _ _ _ p => p
/-- pairs that are rests -/
def Rsts (H : Hp) (v : V) (rs : List (Int × Int)) : Prop := RsAt H v rs ∧ rs.length ≤ 10000 ∧ ∀ p ∈ rs, RstOk p
theorem Rsts.up {H H' : Hp} {v : V} {rs : List (Int × Int)} (e : Ex H H') (h : Rsts H v rs) : Rsts H' v rs := ⟨h.1.up e, h.2⟩
theorem rst_at {rs : List (Int × Int)} (ho : ∀ p ∈ rs, RstOk p) {i : Nat} (hi : i < rs.length) : RstOk (rs.getD i (0, 1)) := by
  rw [List.getD_eq_getElem?_getD, List.getElem?_eq_getElem hi]
  exact ho _ (List.getElem_mem hi)
theorem take_snoc {rs : List (Int × Int)} {i : Nat} (hi : i < rs.length) : rs.take (i + 1) = rs.take i ++ [rs.getD i (0, 1)] := by
  rw [List.take_add_one, List.getElem?_eq_getElem hi, List.getD_eq_getElem?_getD, List.getElem?_eq_getElem hi]
  rfl
theorem lcm_pos : ∀ (rs : List (Int × Int)) (w : Int), (∀ p ∈ rs, RstOk p) → 0 < w → 0 < rs.foldl (fun w p => w / pt w p.2 * p.2) w
  | [], w, _, h => h
  | p :: rs, w, ho, h => lcm_pos rs _ (fun q hq => ho q (List.mem_cons_of_mem _ hq)) (lcm_step h (by
      have h := ho p List.mem_cons_self
      have := h.1
      have := h.2.1
      omega)).1
theorem lcmOf_pos {rs : List (Int × Int)} (ho : ∀ p ∈ rs, RstOk p) : 0 < lcmOf rs := lcm_pos rs 1 ho (by decide)
def sp_round_of (_ : PySem.W.Frag) : Sp := spX (fun (d : V × List (Int × Int)) vs H => vs = [d.1] ∧ Rsts H d.1 d.2) (fun d _ v _ => v = .int (lcmOf d.2))
end
/-! ### a cell of the script, a draw, rounds -/
/-- a script at a: ns -/
def Scr (K : PySem.W.Frag) (H : Hp) (v : V) (ns : List Int) : Prop := ∃ a, v = .ref a ∧ SqL K H a (ns.map V.int) ∧ ns.length ≤ 63
theorem Scr.up {K : PySem.W.Frag} {H H' : Hp} {v : V} {ns : List Int} (e : Ex H H') (h : Scr K H v ns) : Scr K H' v ns := by
  obtain ⟨a, r, h, l⟩ := h
  exact ⟨a, r, ex_l e h, l⟩
def sp_l_cell_at (K : PySem.W.Frag) : Sp := spX (fun (d : V × List Int × Nat) vs H => vs = [d.1, .int d.2.2] ∧ Scr K H d.1 d.2.1) (fun d _ v _ => v = .int (d.2.1.getD d.2.2 0))
def sp_l_draw (_ : PySem.W.Frag) : Sp := spX (fun (d : Int × Int × Int) vs _ => vs = [.int d.1, .int d.2.1, .int d.2.2] ∧ 0 ≤ d.2.1 ∧ 0 < d.2.2) (fun d _ v _ => ∃ r, v = .int r ∧ 0 ≤ r ∧ r < d.2.2)
section
variable {P : Program} {w : World} {K : PySem.W.Frag} {mg : Str → Option Value} {base : Heap} {A : Ad}
theorem ok_l_cell_at (T : Txt K mg A) : Okk P w K mg base 1 A.a_l_cell_at ["_law_script", "_law_k"] (sp_l_cell_at K) := by
  refine okk T.F_l_cell_at sc_l_cell_at (fun vs H Q E h => ?_) (fun cdv Ar outer s H vs Q E hr h => ?_)
  · obtain ⟨d, ⟨rfl, _⟩, _⟩ := h
    rfl
  · obtain ⟨⟨_, ns, j⟩, ⟨rfl, a, rfl, hS, hl⟩, k⟩ := h
    refine ⟨_, (pss_cons (ps_if (pt_cmpR op_lt (pv 1) (pe_callB (len_seqK K) (by rfl) T.z_len (by decide +kernel) (pa_cons (pv 0) pa_nil)) (nomark _)) (pss_one (ps_ret (pe_ix (ix_listK K) (pv 0) (pv 1) (fun _ _ => rfl)))) pss_nil)
      (pss_one (ps_ret pe_int))), ?_⟩
    have e0 : ((ns.map V.int).length : Int) = (ns.length : Int) := by rw [List.length_map]
    refine q_when (b := decide ((j : Int) < (ns.length : Int))) ?_ (fun hb H1 e1 => ?_) (fun hb H1 e1 => ?_)
    · rw [← e0]
      exact et_test (ev_op (ev_var rfl) (ev_lenL (ev_var rfl) hS) rv_I0)
    · have hj : j < ns.length := by
        have := of_decide_eq_true hb
        omega
      refine s_ret (v := .int (ns.getD j 0)) (ev_op (ev_var rfl) (ev_var rfl) (rv_ixL (ex_l e1 hS) ?_)) fun H2 e2 => k _ _ (e1.trans e2) rfl
      refine atI_nat ?_
      rw [List.getElem?_map, List.getD_eq_getElem?_getD, List.getElem?_eq_getElem hj]
      rfl
    · have hj : ¬ j < ns.length := fun z => by
        have := of_decide_eq_false hb
        omega
      refine s_ret (v := .int (ns.getD j 0)) ?_ fun H2 e2 => k _ _ (e1.trans e2) rfl
      rw [List.getD_eq_getElem?_getD, List.getElem?_eq_none (by omega)]
      exact ev_c
abbrev prms : List Int := [1000003, 1000033, 1000037, 1000039, 1000081, 1000099, 1000117, 1000121, 1000133, 1000151, 1000159, 1000171, 1000183, 1000187, 1000193, 1000199]
theorem ok_l_draw (T : Txt K mg A) : Okk P w K mg base 1 A.a_l_draw ["_law_cell", "_law_k", "_law_many"] (sp_l_draw K) := by
  refine okk T.F_l_draw sc_l_draw (fun vs H Q E h => ?_) (fun cdv Ar outer s H vs Q E hr h => ?_)
  · obtain ⟨d, ⟨rfl, _⟩, _⟩ := h
    rfl
  · obtain ⟨⟨c, j, m⟩, ⟨rfl, hj, hm⟩, k⟩ := h
    refine ⟨_, (pss_cons (ps_set (i := 3) sc_l_draw.nd rfl (.inl rfl) (pe_tup (pa_cons pe_int (pa_cons pe_int (pa_cons pe_int (pa_cons pe_int (pa_cons pe_int (pa_cons pe_int (pa_cons pe_int (pa_cons pe_int (pa_cons pe_int (pa_cons pe_int (pa_cons pe_int (pa_cons pe_int (pa_cons pe_int (pa_cons pe_int (pa_cons pe_int (pa_cons pe_int pa_nil))))))))))))))))))
      (pss_one (ps_ret (pe_op op_mod (pe_op op_mod (pe_op op_add (pe_op op_mul (pv 0) pe_int) (pe_op op_mul (pv 1) pe_int)) (pe_ix (ix_tupK K) (pv 3) (pe_op op_mod (pv 1) pe_int) (fun _ _ => rfl))) (pv 2))))), ?_⟩
    refine q_asgU (eu_tup (by walk_at "ev") (by walk_at "sz")) fun p H1 hp e1 h1 => ?_
    have k0 : 0 ≤ j % 16 := Int.emod_nonneg _ (by decide)
    have k1 : j % 16 < 16 := Int.emod_lt_of_pos _ (by decide)
    have hg := getD_all (l := prms) (i := (j % 16).toNat) (a := 1) (b := 2000000) (by decide) (by show (j % 16).toNat < 16; omega)
    have hg1 : 0 < prms.getD (j % 16).toNat 0 := by
      have := hg.1
      omega
    refine s_ret (v := .int ((c * 48271 + j * 69621) % prms.getD (j % 16).toNat 0 % m)) ?_ fun H2 e2 => k _ _ (e1.trans e2) ⟨_, rfl, Int.emod_nonneg _ (Int.ne_of_gt hm), Int.emod_lt_of_pos _ hm⟩
    refine ev_op (ev_op (ev_op (ev_op (ev_var rfl) ev_c (rv_I (.inr (by decide)))) (ev_op (ev_var rfl) ev_c (rv_I (.inr (by decide)))) rv_I0) (ev_op (ev_var rfl) (ev_op (ev_var rfl) ev_c (rv_I (by decide))) (rv_ixT (st_of (show H1 p = some (.tup (prms.map V.int)) from h1)) (atI_map (l := prms) k0 (by show j % 16 < 16; exact k1)))) (rv_I hg1)) (ev_var rfl) (rv_I hm)
theorem ev_cell {σ : L2.St} {H : Hp} {ta tb : TE} {v : V} {ns : List Int} {j : Nat} {E : XK} (h : Ev ta σ H v) (hj : Ev tb σ H (.int (j : Int))) (hS : Scr K H v ns) : Ev (tCall (sp_l_cell_at K) [] E (tCons ta (tCons tb tNil))) σ H (.int (ns.getD j 0)) :=
  ev_call0 (v, ns, j) (ea_cons h (ea_cons hj ea_nil)) (fun H1 e => ⟨rfl, hS.up e⟩) fun _ _ _ p => p
theorem er_draw {σ : L2.St} {H : Hp} {ta tb tc : TE} {c k m : Int} {E : XK} (h : Ev ta σ H (.int c)) (h2 : Ev tb σ H (.int k)) (h3 : Ev tc σ H (.int m)) (hk : 0 ≤ k) (hm : 0 < m) : EvR (tCall (sp_l_draw K) [] E (tCons ta (tCons tb (tCons tc tNil)))) σ H (fun v _ => ∃ r, v = .int r ∧ 0 ≤ r ∧ r < m) :=
  er_call (c, k, m) (ea_cons h (ea_cons h2 (ea_cons h3 ea_nil))) (fun H1 e => ⟨rfl, hk, hm⟩) fun _ _ _ _ _ p => p
end
/-! ### rounds -/
/-- a new list of n rounds -/
def TurnsAt (n : Nat) (H : Hp) (v : V) (H' : Hp) : Prop := ∃ (p : Addr) (ts : List Int), v = .ref p ∧ H p = none ∧ H' p = some (.lst (ts.map V.int)) ∧ ts.length = n ∧ ∀ t ∈ ts, 1 ≤ t ∧ t ≤ 1000000
def sp_l_turns (K : PySem.W.Frag) : Sp := spX (fun (d : V × List Int) vs H => vs = [d.1] ∧ Scr K H d.1 d.2) (fun d H v H' => TurnsAt d.2.length H v H')
section
variable {P : Program} {w : World} {K : PySem.W.Frag} {mg : Str → Option Value} {base : Heap} {A : Ad}
theorem ok_l_turns (T : Txt K mg A) : Okk P w K mg base 2 A.a_l_turns ["_law_script"] (sp_l_turns K) := by
  obtain ⟨_, G_l_cell_at, b_l_cell_at, k_l_cell_at⟩ := ok_l_cell_at (P := P) (w := w) (base := base) T
  obtain ⟨_, G_l_draw, b_l_draw, k_l_draw⟩ := ok_l_draw (P := P) (w := w) (base := base) T
  refine okk T.F_l_turns sc_l_turns (fun vs H Q E h => ?_) (fun cdv Ar outer s H vs Q E hr h => ?_)
  · obtain ⟨d, ⟨rfl, _⟩, _⟩ := h
    rfl
  · obtain ⟨⟨_, ns⟩, ⟨rfl, a, rfl, hS, hl⟩, k⟩ := h
    have hr_l_cell_at : Room 1 _ := hr.mono (by decide)
    have hr_l_draw : Room 1 _ := hr.mono (by decide)
    refine ⟨_, (pss_cons (ps_set (i := 1) sc_l_turns.nd rfl (.inl rfl) (pe_call G_l_draw hr_l_draw (by rfl) T.g_l_draw k_l_draw b_l_draw .nil pass0 (pa_cons (pe_call G_l_cell_at hr_l_cell_at (by rfl) T.g_l_cell_at k_l_cell_at b_l_cell_at .nil pass0 (pa_cons (pv 0) (pa_cons pe_int pa_nil))) (pa_cons pe_int (pa_cons pe_int pa_nil)))))
      (pss_cons (ps_set (i := 2) sc_l_turns.nd rfl (.inl rfl) (pe_lst pa_nil))
      (pss_cons (ps_for PassesOwn.never rfl (pi_range1 (by rfl) T.z_range (pa_cons (pe_callB (len_seqK K) (by rfl) T.z_len (by decide +kernel) (pa_cons (pv 0) pa_nil)) pa_nil)) (pg_name (i := 3) sc_l_turns.nd rfl (Or.inl rfl)) (pss_cons (ps_set (i := 4) sc_l_turns.nd rfl (.inl rfl) (pe_op op_add pe_int (pe_call G_l_draw hr_l_draw (by rfl) T.g_l_draw k_l_draw b_l_draw .nil pass0 (pa_cons (pe_ix (ix_listK K) (pv 0) (pv 3) (fun _ _ => rfl)) (pa_cons (pe_op op_add (pe_op op_mod (pv 3) pe_int) pe_int) (pa_cons (pe_ix (ix_tupK K) (pe_tup (pa_cons pe_int (pa_cons pe_int (pa_cons pe_int (pa_cons pe_int pa_nil))))) (pv 1) (fun _ _ => rfl)) pa_nil))))))
      (pss_cons (ps_if (pt_cmpR op_eq (pv 1) pe_int (nomark _)) (pss_one (ps_set (i := 4) sc_l_turns.nd rfl (.inl rfl) (pe_ix (ix_tupK K) (pe_tup (pa_cons pe_int (pa_cons pe_int (pa_cons pe_int (pa_cons pe_int (pa_cons pe_int (pa_cons pe_int (pa_cons pe_int (pa_cons pe_int (pa_cons pe_int (pa_cons pe_int (pa_cons pe_int (pa_cons pe_int (pa_cons pe_int (pa_cons pe_int (pa_cons pe_int pa_nil)))))))))))))))) (pe_op op_mod (pv 4) pe_int) (fun _ _ => rfl)))) pss_nil)
      (pss_one (ps_expr (pe_bm PySem.F.plainAttrs_list PySem.F.slot_list_append PySem.F.type_list_append mt_append (pv 2) (pa_cons (pv 4) pa_nil)))))))
      (pss_one (ps_ret (pv 2)))))), ?_⟩
    dsimp only at hS hl
    have hsc : Scr K H (.ref a) ns := ⟨a, rfl, hS, hl⟩
    have e0 : ((ns.map V.int).length : Int) = (ns.length : Int) := by rw [List.length_map]
    refine q_asgR (er_draw (ev_cell (j := 0) (ev_var rfl) ev_c hsc) ev_c ev_c (by decide) (by decide)) fun v1 H1 e1 h1 => ?_
    obtain ⟨kind, rfl, k0, k1⟩ := h1
    refine q_asgL (xs := []) (el_lst ea_nil (by decide)) fun p H2 hp e2 h2 => ?_
    have hS2 := ex_l (e1.trans e2) hS
    refine q_forR1 (n := (ns.length : Int)) (ea_cons (by rw [← e0]; exact ev_lenL (ev_var rfl) hS2) ea_nil) (by omega) (fun i σ' H' => ∃ s3 s4 : Option V, ∃ ts : List Int, σ' = [some (.ref a), some (.int kind), some (.ref p), s3, s4] ∧ Ex H1 H' ∧ H' p = some (.lst (ts.map V.int)) ∧ ts.length = i ∧ ∀ t ∈ ts, 1 ≤ t ∧ t ≤ 1000000)
      (fun H3 e3 => ⟨_, _, [], rfl, e2.trans e3, e3 _ _ h2, rfl, fun t ht => nomatch ht⟩) (fun i σ' H' hi hP => ?_) (fun σ' H' hP => ?_)
    · obtain ⟨s3, s4, ts, rfl, e3, hp3, hlen, hts⟩ := hP
      have hi' : i < ns.length := by omega
      have hS3 : SqL K H' a (ns.map V.int) := ex_l (e1.trans e3) hS
      have hgm := getD_all (l := [12, 200, 1000000, 30]) (i := kind.toNat) (a := 1) (b := 1000000) (by decide) (by show kind.toNat < 4; omega)
      refine q_asgR (R := fun v _ => ∃ t, v = .int t ∧ 1 ≤ t ∧ t ≤ 1000000) (er_op (evr ev_c) (fun x H4 e4 hx => er_draw (c := ns.getD i 0) (k := (i : Int) % 5 + 1) (m := ([12, 200, 1000000, 30] : List Int).getD kind.toNat 0)
        (ev_op (ev_var rfl) (ev_var rfl) (rv_ixL (ex_l e4 hS3) ?_)) (ev_op (ev_op (ev_var rfl) ev_c (rv_I (by decide))) ev_c rv_I0) (ev_pick (l := [12, 200, 1000000, 30]) (by walk_at "ev") (ev_var rfl) (by rfl) k0 (by show kind < 4; exact k1) (by walk_at "sz")) (by omega) (by omega)) ?_) fun v4 H4 e4 h4 => ?_
      · refine atI_nat ?_
        rw [List.getElem?_map, List.getD_eq_getElem?_getD, List.getElem?_eq_getElem hi']
        rfl
      · rintro x y H4 H5 e4 rfl e5 ⟨r, rfl, r0, r1⟩ Q q
        exact ⟨1, r, rfl, rfl, q _ _ (Ex.refl _) ⟨_, rfl, by omega, by omega⟩⟩
      · obtain ⟨t, rfl, t0, t1⟩ := h4
        have fin : ∀ H5 t, Ex H' H5 → 1 ≤ t → t ≤ 1000000 → tDrop (tBM K "list" rAppend (tVar 2) (tCons (tVar 4) tNil)) { nx := fun σ' H' => ∃ s3 s4 : Option V, ∃ ts : List Int, σ' = [some (.ref a), some (.int kind), some (.ref p), s3, s4] ∧ Ex H1 H' ∧ H' p = some (.lst (ts.map V.int)) ∧ ts.length = i + 1 ∧ ∀ t ∈ ts, 1 ≤ t ∧ t ≤ 1000000, rt := Q, bk := fun σ' H' => tRet (tVar 2) { nx := fun _ H' => Q .non H', rt := Q } σ' H', ct := fun σ' H' => ∃ s3 s4 : Option V, ∃ ts : List Int, σ' = [some (.ref a), some (.int kind), some (.ref p), s3, s4] ∧ Ex H1 H' ∧ H' p = some (.lst (ts.map V.int)) ∧ ts.length = i + 1 ∧ ∀ t ∈ ts, 1 ≤ t ∧ t ≤ 1000000 } [some (.ref a), some (.int kind), some (.ref p), some (.int (i : Int)), some (.int t)] H5 := fun H5 t e5 a0 a1 =>
          s_app (e5 _ _ hp3) (ev_var rfl) (ev_var rfl) (by rw [List.length_map]; omega) fun H6 e6 => ⟨_, _, ts ++ [t], rfl, Ex.mut ((e3.trans e5).trans e6) hp, by rw [upd_same, List.map_append]; rfl, by simp [hlen], fun z hz => by
            rcases List.mem_append.mp hz with h | h
            · exact hts z h
            · rw [List.mem_singleton.mp h]
              exact ⟨a0, a1⟩⟩
        refine q_when (et_test (ev_op (ev_var rfl) ev_c rv_eqI)) (fun hb H5 e5 => ?_) (fun hb H5 e5 => ?_)
        · have g0 : 0 ≤ t % 15 := Int.emod_nonneg _ (by decide)
          have g1 : t % 15 < 15 := Int.emod_lt_of_pos _ (by decide)
          have hgm2 := getD_all (l := [1, 2, 4, 8, 3, 9, 27, 6, 12, 18, 36, 5, 10, 20, 60]) (i := (t % 15).toNat) (a := 1) (b := 1000000) (by decide) (by show (t % 15).toNat < 15; omega)
          refine s_asg (ev_pick (l := [1, 2, 4, 8, 3, 9, 27, 6, 12, 18, 36, 5, 10, 20, 60]) (by walk_at "ev") (ev_op (ev_var rfl) ev_c (rv_I (by decide))) (by rfl) g0 (by show t % 15 < 15; exact g1) (by walk_at "sz")) fun H6 e6 => ?_
          exact fin H6 _ ((e4.trans e5).trans e6) hgm2.1 hgm2.2
        · exact fin H5 _ (e4.trans e5) t0 t1
    · obtain ⟨s3, s4, ts, rfl, e3, hp3, hlen, hts⟩ := hP
      refine s_ret (ev_var rfl) fun H3 e4 => k _ _ ((e1.trans e3).trans e4) ⟨p, ts, rfl, fresh_back e1 hp, e4 _ _ hp3, by show ts.length = ns.length; omega, hts⟩
end
/-! ### rests of the script -/
def sp_l_rests (K : PySem.W.Frag) : Sp := spX (fun (d : V × List Int) vs H => vs = [d.1] ∧ Scr K H d.1 d.2) (fun d H v H' => ∃ (a : Addr) (xs : List V) (rs : List (Int × Int)), v = .ref a ∧ H a = none ∧ H' a = some (.lst xs) ∧ RsL H' xs rs ∧ rs.length = d.2.length ∧ ∀ p ∈ rs, RstOk p)
section
variable {P : Program} {w : World} {K : PySem.W.Frag} {mg : Str → Option Value} {base : Heap} {A : Ad}
theorem rst_set {rs : List (Int × Int)} {q : Int × Int} {i : Nat} (h : ∀ p ∈ rs, RstOk p) (hq : RstOk q) : ∀ p ∈ rs.set i q, RstOk p := fun p hp => by
  rcases List.mem_or_eq_of_mem_set hp with h1 | h1
  · exact h p h1
  · rw [h1]
    exact hq
theorem ok_l_rests (T : Txt K mg A) : Okk P w K mg base 3 A.a_l_rests ["_law_script"] (sp_l_rests K) := by
  obtain ⟨_, G_l_cell_at, b_l_cell_at, k_l_cell_at⟩ := ok_l_cell_at (P := P) (w := w) (base := base) T
  obtain ⟨_, G_l_draw, b_l_draw, k_l_draw⟩ := ok_l_draw (P := P) (w := w) (base := base) T
  obtain ⟨_, G_l_turns, b_l_turns, k_l_turns⟩ := ok_l_turns (P := P) (w := w) (base := base) T
  refine okk T.F_l_rests sc_l_rests (fun vs H Q E h => ?_) (fun cdv Ar outer s H vs Q E hr h => ?_)
  · obtain ⟨d, ⟨rfl, _⟩, _⟩ := h
    rfl
  · obtain ⟨⟨_, ns⟩, ⟨rfl, a, rfl, hS, hl⟩, k⟩ := h
    dsimp only at hS hl
    have hr_l_cell_at : Room 1 _ := hr.mono (by decide)
    have hr_l_draw : Room 1 _ := hr.mono (by decide)
    have hr_l_turns : Room 2 _ := hr.mono (by decide)
    refine ⟨_, (pss_cons (ps_set (i := 1) sc_l_rests.nd rfl (.inr rfl) (pe_callB (sumK K rfl) (by rfl) T.z_sum (by decide +kernel) (pa_cons (pe_lc (own := [("_law_k", 5), ("_law_cell", 6)]) rfl sc_l_rests.nd (pi_enum (by rfl) T.z_enumerate (pa_cons (pv 0) pa_nil)) (blkOk_by (N := ["_law_script", "_law_far", "_law_found", "_law_at", "_law_turn", "_law_k", "_law_cell"]) (sc := defScope s_l_rests) (by decide +kernel)) (fun _ _ _ _ _ => (pg_tupK (n := 2) K rfl (pgs_cons (pg_name (i := 5) sc_l_rests.nd rfl (Or.inl rfl)) (pgs_cons (pg_name (i := 6) sc_l_rests.nd rfl (Or.inl rfl)) pgs_nil)))) (fun _ _ _ _ _ => pts_nil) (fun _ _ _ _ _ => (pe_op op_mul (pe_op op_mod (pe_callB call_abs (by rfl) T.z_abs (by decide +kernel) (pa_cons (pv 6) pa_nil)) (pe_op op_pow pe_int pe_int)) (pe_op op_add (pv 5) pe_int)))) pa_nil)))
      (pss_cons (ps_setLc (i := 2) (own := [("_law_turn", 4)]) rfl sc_l_rests.nd rfl rfl (sw_true rfl rfl rfl (by decide +kernel)) (pi_listK K (pe_call G_l_turns hr_l_turns (by rfl) T.g_l_turns k_l_turns b_l_turns .nil pass0 (pa_cons (pv 0) pa_nil))) (blkOk_by (N := ["_law_script", "_law_far", "_law_found", "_law_at", "_law_turn", "_law_k", "_law_cell"]) (sc := defScope s_l_rests) (by decide +kernel)) (fun _ _ _ _ _ => (pg_name (i := 4) sc_l_rests.nd rfl (Or.inl rfl))) (fun _ _ _ _ _ => pts_nil) (fun _ _ _ _ _ => (pe_tup (pa_cons (pe_op op_mod (pv 1) (pv 4)) (pa_cons (pv 4) pa_nil)))))
      (pss_cons (ps_if (PW.pt (pw_and (pt_cmpR (neDK K hr.units) (pv 2) (pe_lst pa_nil) (nomark _)) (pw_and1 (pt_cmpR op_eq (pe_call G_l_draw hr_l_draw (by rfl) T.g_l_draw k_l_draw b_l_draw .nil pass0 (pa_cons (pe_call G_l_cell_at hr_l_cell_at (by rfl) T.g_l_cell_at k_l_cell_at b_l_cell_at .nil pass0 (pa_cons (pv 0) (pa_cons pe_int pa_nil))) (pa_cons pe_int (pa_cons pe_int pa_nil)))) pe_int (nomark _))))) (pss_cons (ps_set (i := 3) sc_l_rests.nd rfl (.inl rfl) (pe_call G_l_draw hr_l_draw (by rfl) T.g_l_draw k_l_draw b_l_draw .nil pass0 (pa_cons (pe_call G_l_cell_at hr_l_cell_at (by rfl) T.g_l_cell_at k_l_cell_at b_l_cell_at .nil pass0 (pa_cons (pv 0) (pa_cons pe_int pa_nil))) (pa_cons pe_int (pa_cons (pe_callB (len_seqK K) (by rfl) T.z_len (by decide +kernel) (pa_cons (pv 2) pa_nil)) pa_nil)))))
      (pss_one (ps_asg (pe_tup (pa_cons (pe_op op_mod (pe_op op_add (pe_ix (ix_tupK K) (pe_ix (ix_listK K) (pv 2) (pv 3) (fun _ _ => rfl)) pe_int (fun _ _ => rfl)) (pe_call G_l_draw hr_l_draw (by rfl) T.g_l_draw k_l_draw b_l_draw .nil pass0 (pa_cons (pe_call G_l_cell_at hr_l_cell_at (by rfl) T.g_l_cell_at k_l_cell_at b_l_cell_at .nil pass0 (pa_cons (pv 0) (pa_cons pe_int pa_nil))) (pa_cons pe_int (pa_cons pe_int pa_nil))))) (pe_ix (ix_tupK K) (pe_ix (ix_listK K) (pv 2) (pv 3) (fun _ _ => rfl)) pe_int (fun _ _ => rfl))) (pa_cons (pe_ix (ix_tupK K) (pe_ix (ix_listK K) (pv 2) (pv 3) (fun _ _ => rfl)) pe_int (fun _ _ => rfl)) pa_nil))) (pg_sub (pv 2) (pv 3) set_list)))) pss_nil)
      (pss_one (ps_ret (pv 2)))))), ?_⟩
    have hsc : Scr K H (.ref a) ns := ⟨a, rfl, hS, hl⟩
    have hp9 : (10 : Int) ^ (9 : Int).toNat = 1000000000 := by decide
    refine q_asg (v := .int ((List.range ns.length).map fun i => (if ns.getD i 0 < 0 then -(ns.getD i 0) else ns.getD i 0) % 10 ^ (9 : Int).toNat * ((i : Int) + 1)).sum) (ev_sumN (H0 := H) ?_) fun H1 e1 => ?_
    · rw [iv_map, ← iv_len ns]
      refine er_lcE (fun i => .int ((if ns.getD i 0 < 0 then -(ns.getD i 0) else ns.getD i 0) % 10 ^ (9 : Int).toNat * ((i : Int) + 1))) (ea_cons (ev_var rfl) ea_nil) hS (by rw [iv_len]; omega) (fun _ _ => rfl) fun i x hx => ?_
      obtain ⟨hi, rfl⟩ := iv_get hx
      exact ev_op (ev_op (ev_cb (ea_cons (ev_var rfl) ea_nil) rc_abs) (ev_op ev_c ev_c (rv_pow ⟨by decide, by decide, by decide⟩)) (rv_I (by decide))) (ev_op (ev_var rfl) ev_c rv_I0) (rv_I (.inr (by omega)))
    generalize ((List.range ns.length).map fun i => (if ns.getD i 0 < 0 then -(ns.getD i 0) else ns.getD i 0) % 10 ^ (9 : Int).toNat * ((i : Int) + 1)).sum = far
    refine q_asgR (R := fun v H2 => ∃ (l : Addr) (xs : List V) (rs : List (Int × Int)), v = .ref l ∧ H1 l = none ∧ H2 l = some (.lst xs) ∧ RsL H2 xs rs ∧ rs.length = ns.length ∧ ∀ p ∈ rs, RstOk p) (er_lcB (er_call (R := TurnsAt ns.length H1) (V.ref a, ns) (ea_cons (ev_var rfl) ea_nil) (fun H2 e2 => ⟨rfl, hsc.up (e1.trans e2)⟩) fun H2 v H3 e2 _ ⟨p, ts, hv, hn, h⟩ => ⟨p, ts, hv, fresh_back e2 hn, h⟩) fun v H2 e2 ⟨p, ts, hv, hn, hp, hlen, ht⟩ => ?_) fun v H2 e2 h2 => ?_
    · subst hv
      refine (er_lcLn (fun j y H => PairAt H y (far % ts.getD j 0, ts.getD j 0)) (fun j y H1 H2 ⟨t, e, h⟩ kk => ⟨t, e, kk t _ h fun zs z => nomatch z⟩) ev_c (sq_of hp) (by rw [List.length_map]; omega) (fun _ => rfl) fun i x hi => ?_).imp fun v H3 e3 ⟨Dl, ys, hv, hn, hD, hlen2, hys⟩ => ⟨Dl, ys, ts.map fun t => (far % t, t), hv, fresh_back e2 hn, hD, rsl_of (by rw [hlen2, List.length_map, List.length_map]) fun i x hi => ?_, by rw [List.length_map, hlen], fun q hq => ?_⟩
      · obtain ⟨hi', rfl⟩ := iv_get hi
        have hti := ht _ (getD_mem hi')
        exact (eur (eu_tup (ea_cons (ev_op (ev_var rfl) (ev_var rfl) (rv_I (by show 0 < ts.getD i 0; omega))) (ea_cons (ev_var rfl) ea_nil)) (by walk_at "sz"))).imp fun v H2 _ ⟨t, hv, _, h⟩ => ⟨t, hv, h⟩
      · have hlt := (List.getElem?_eq_some_iff.mp hi).1
        rw [hlen2, List.length_map] at hlt
        have this : PairAt H3 x (far % ts.getD i 0, ts.getD i 0) := hys i x hi
        rw [List.getD_eq_getElem?_getD, List.getElem?_map, List.getElem?_eq_getElem hlt]
        rw [List.getD_eq_getElem?_getD, List.getElem?_eq_getElem hlt] at this
        exact this
      · obtain ⟨t, h, rfl⟩ := List.mem_map.mp hq
        have := ht t h
        exact ⟨Int.emod_nonneg _ (by show t ≠ 0; omega), Int.emod_lt_of_pos _ (by show 0 < t; omega), this.2⟩
    obtain ⟨l, xs, rs, rfl, hln, hxs, hrs, hlen, ho⟩ := h2
    have e12 := e1.trans e2
    have hxl := hrs.len
    have drw : ∀ σ H' (j : Nat) (kk m : Int) te tj, σ[0]? = some (some (.ref a)) → Ex H H' → Ev tj σ H' (.int (j : Int)) → Ev te σ H' (.int m) → 0 ≤ kk → 0 < m → EvR (tCall (sp_l_draw K) [] E0 (tCons (tCall (sp_l_cell_at K) [] E0 (tCons (tVar 0) (tCons tj tNil))) (tCons (tC (.int kk)) (tCons te tNil)))) σ H' (fun v _ => ∃ r, v = .int r ∧ 0 ≤ r ∧ r < m) :=
      fun σ H' j kk m te tj hσ e hj hm h0 h1 => er_draw (ev_cell (ev_var hσ) hj (hsc.up e)) ev_c hm h0 h1
    refine q_ifW (φ := (decide (rs.length ≠ 0)) = true) (ew_and (b := decide (rs.length ≠ 0)) (et_test (ev_opR2 (ev_var rfl) (er_new (xs := []) ea_nil (by decide)) fun y H3 e3 ⟨q, hy, _, hq⟩ => ?_)) fun _ => er_test (drw _ _ 1 7 2 _ _ rfl e12 ev_c ev_c (by decide) (by decide)) ev_c fun x H3 _ hx Q q => ?_) (fun hb H3 e3 => ?_) fun H3 e3 => ?_
    · subst hy
      refine rv_neD (dp_rs (e3 _ _ hxs) (hrs.up e3)) (dp_ints (ns := []) (sq_of hq)) (sh_rs rs) (sh_ints []) ?_
      cases rs with
      | nil => rfl
      | cons p rs => rfl
    · obtain ⟨r, rfl, _⟩ := hx
      exact ⟨rfl, q _⟩
    · have hlr : rs.length ≠ 0 := of_decide_eq_true hb
      refine q_asgR (drw _ _ 2 1 (xs.length : Int) _ _ rfl (e12.trans e3) ev_c (ev_lenL (ev_var rfl) (sq_of (e3 _ _ hxs))) (by decide) (by omega)) fun v H4 e4 ⟨at_, hv, a0, a1⟩ => ?_
      subst hv
      have e34 := e3.trans e4
      have ea : at_ = (at_.toNat : Int) := by omega
      generalize at_.toNat = i at ea
      subst ea
      have hi : i < rs.length := by omega
      obtain ⟨t, x1, ht⟩ := hrs.at hi
      have hok := rst_at ho hi
      generalize rs.getD i (0, 1) = p at ht hok
      obtain ⟨r, tn⟩ := p
      obtain ⟨r0, r1, t1⟩ := id hok
      dsimp only at ht r0 r1 t1
      have hit : ∀ H5, Ex H4 H5 → Ev (tOp (rIxL K) (tVar 2) (tVar 3)) [some (.ref a), some (.int far), some (.ref l), some (.int (i : Int)), none, none, none] H5 (.ref t) := fun H5 e5 => ev_op (ev_var rfl) (ev_var rfl) (rv_ixL (sq_of ((e34.trans e5) _ _ hxs)) (atI_nat x1))
      have ht4 := e34 _ _ ht
      refine s_setLR (j := i) (R := fun v H => ∃ z : Int, PairAt H v (z, tn) ∧ RstOk (z, tn)) (e34 _ _ hxs) ((er_tup (T := fun vs _ => ∃ z : Int, vs = [.int z, .int tn] ∧ RstOk (z, tn)) (ear_cons (er_op (R := fun v _ => ∃ z : Int, v = .int z ∧ RstOk (z, tn)) (er_op (R := fun v _ => ∃ z : Int, v = .int z) (evr (ev_p0 (hit _ (Ex.refl _)) ht4)) (fun x H5 e5 _ => drw _ _ 3 2 7 _ _ rfl (e12.trans (e34.trans e5)) ev_c ev_c (by decide) (by decide)) ?_) (fun x H5 e5 _ => evr (ev_p1 (hit _ e5) (e5 _ _ ht4))) ?_) fun x H5 e5 hx => ?_) fun vs H5 h => ?_).imp fun v H5 _ ⟨q, vs, H6, hv, _, _, ⟨z, hvs, hz⟩, hq⟩ => ⟨z, ⟨q, hv, by rw [hq, hvs]⟩, hz⟩) (ev_var rfl) (ev_var rfl) (by rw [hxl]; exact hi) fun v H5 e5 h5 => ?_
      · rintro x y H5 H6 e5 rfl e6 ⟨d, rfl, d0, d1⟩ Q q
        exact ⟨r, d, rfl, rfl, q _ _ (Ex.refl _) ⟨_, rfl⟩⟩
      · rintro x y H5 H6 e5 ⟨z, rfl⟩ e6 rfl Q q
        exact ⟨z, tn, rfl, rfl, by show 0 < tn; omega, q _ _ (Ex.refl _) ⟨_, rfl, Int.emod_nonneg _ (by show tn ≠ 0; omega), Int.emod_lt_of_pos _ (by show 0 < tn; omega), t1⟩⟩
      · obtain ⟨z, rfl, hz⟩ := hx
        exact (ear (ea_cons (ev_p1 (hit _ e5) (e5 _ _ ht4)) ea_nil)).imp fun vs H6 _ hv => ⟨z, by rw [hv], hz⟩
      · obtain ⟨z, rfl, _⟩ := h
        show 2 ≤ 100000
        decide
      · obtain ⟨H0, e0, z, hz, hzo⟩ := h5
        obtain ⟨q, rfl, hq⟩ := hz.up e0
        have e35 := e34.trans e5
        have hl5 := e35 _ _ hxs
        have hqn : q ≠ l := ne_of hq hl5 (by intro z; cases z)
        refine s_ret (ev_var rfl) fun H6 e6 => k _ _ ?_ ⟨l, _, rs.set i (z, tn), rfl, fresh_back e1 hln, e6 _ _ upd_same, (((hrs.up e35).mut _ hl5).set ⟨q, rfl, ?_⟩ i).up e6, by rw [List.length_set, hlen], rst_set ho hzo⟩
        · exact (e1.trans (Ex.mut (e2.trans e35) hln)).trans e6
        · rw [upd_ne hqn]
          exact hq
    · show (fun σ' H' => _) _ _
      exact s_ret (ev_var rfl) fun H4 e4 => k _ _ (e12.trans (e3.trans e4)) ⟨l, xs, rs, rfl, fresh_back e1 hln, (e3.trans e4) _ _ hxs, hrs.up (e3.trans e4), hlen, ho⟩
end
/-! ### what is refused -/
theorem kit_list {K : PySem.W.Frag} {n : String} (h : n ∈ bt) : PySem.W.kitOne K (.type n) (.type "list") = some (n == "list") := by
  simp only [List.mem_cons, List.not_mem_nil, or_false] at h
  rcases h with h | h | h | h | h | h | h <;> subst h <;> exact kit_ty (by decide +kernel)
theorem kit_tuple {K : PySem.W.Frag} {n : String} (h : n ∈ bt) : PySem.W.kitOne K (.type n) (.type "tuple") = some (n == "tuple") := by
  simp only [List.mem_cons, List.not_mem_nil, or_false] at h
  rcases h with h | h | h | h | h | h | h <;> subst h <;> exact kit_ty (by decide +kernel)
/-- a plain thing of another type than n -/
def NotTy (K : PySem.W.Frag) (H : Hp) (v : V) (n : String) : Prop := ∃ m, TyX K H v (.type m) ∧ m ∈ bt ∧ (m == n) = false
theorem NotTy.up {K : PySem.W.Frag} {H H' : Hp} {v : V} {n : String} (e : Ex H H') (h : NotTy K H v n) : NotTy K H' v n := by
  obtain ⟨m, h1, h2⟩ := h
  exact ⟨m, tyx_up e h1, h2⟩
/-- no list, or one of which some do not hold f -/
def BadL (K : PySem.W.Frag) (f : V → Bool) (v : V) (H : Hp) : Prop := NotTy K H v "list" ∨ ∃ a xs, v = .ref a ∧ H a = some (.lst xs) ∧ xs.length ≤ 10000 ∧ (∀ x ∈ xs, PlainV K H x) ∧ xs.all f = false
theorem upBadL {K : PySem.W.Frag} {f : V → Bool} : UpH (BadL K f) := fun v H H' e h => by
  rcases h with h | ⟨a, xs, h1, h2, h3, h4, h5⟩
  · exact .inl (h.up e)
  · exact .inr ⟨a, xs, h1, e _ _ h2, h3, fun x hx => (h4 x hx).up e, h5⟩
/-- a pair that is a rest, or not -/
def restF : V → V → Bool
  | .int r, .int t => (decide (1 ≤ t) && decide (t ≤ 1000000)) && (decide (0 ≤ r) && decide (r < t))
  | _, _ => false
def RestB (K : PySem.W.Frag) (H : Hp) (x : V) (b : Bool) : Prop := (NotTy K H x "tuple" ∧ b = false) ∨ (∃ t xs, x = .ref t ∧ H t = some (.tup xs) ∧ xs.length ≠ 2 ∧ b = false) ∨ ∃ t p q, x = .ref t ∧ H t = some (.tup [p, q]) ∧ PlainV K H p ∧ PlainV K H q ∧ b = restF p q
theorem RestB.up {K : PySem.W.Frag} {H H' : Hp} {x : V} {b : Bool} (e : Ex H H') (h : RestB K H x b) : RestB K H' x b := by
  rcases h with ⟨h1, h2⟩ | ⟨t, xs, h1, h2, h3⟩ | ⟨t, p, q, h1, h2, h3, h4, h5⟩
  · exact .inl ⟨h1.up e, h2⟩
  · exact .inr (.inl ⟨t, xs, h1, e _ _ h2, h3⟩)
  · exact .inr (.inr ⟨t, p, q, h1, e _ _ h2, h3.up e, h4.up e, h5⟩)
def RBs (K : PySem.W.Frag) (H : Hp) : List V → List Bool → Prop
  | [], [] => True
  | x :: xs, b :: bs => RestB K H x b ∧ RBs K H xs bs
  | _, _ => False
section
variable {K : PySem.W.Frag} {H H' : Hp}
theorem RBs.up (e : Ex H H') : ∀ {xs : List V} {bs : List Bool}, RBs K H xs bs → RBs K H' xs bs
  | [], [], h => h
  | _ :: _, _ :: _, h => ⟨h.1.up e, RBs.up e h.2⟩
  | [], _ :: _, h => h
  | _ :: _, [], h => h
theorem RBs.len : ∀ {xs : List V} {bs : List Bool}, RBs K H xs bs → xs.length = bs.length
  | [], [], _ => rfl
  | _ :: _, _ :: _, h => congrArg (· + 1) (RBs.len h.2)
  | [], _ :: _, h => h.elim
  | _ :: _, [], h => h.elim
theorem RBs.get : ∀ {xs : List V} {bs : List Bool} {i : Nat} {x : V}, RBs K H xs bs → xs[i]? = some x → RestB K H x (bs.getD i false)
  | [], [], _, _, _, e => by simp at e
  | _ :: _, _ :: _, 0, _, h, e => by
    cases e
    exact h.1
  | _ :: xs, b :: bs, i + 1, x, h, e => by
    have := RBs.get (xs := xs) (bs := bs) (i := i) (x := x) h.2 e
    simpa using this
  | [], _ :: _, _, _, h, _ => h.elim
  | _ :: _, [], _, _, h, _ => h.elim
theorem RBs.append : ∀ {xs ys : List V} {bs cs : List Bool}, RBs K H xs bs → RBs K H ys cs → RBs K H (xs ++ ys) (bs ++ cs)
  | [], _, [], _, _, h => h
  | _ :: _, _, _ :: _, _, h, k => ⟨h.1, RBs.append h.2 k⟩
  | [], _, _ :: _, _, h, _ => h.elim
  | _ :: _, _, [], _, h, _ => h.elim
theorem restF_ok {p : Int × Int} (h : RstOk p) : restF (.int p.1) (.int p.2) = true := by
  obtain ⟨h0, h1, h2⟩ := h
  simp only [restF, decide_eq_true h0, decide_eq_true h1, decide_eq_true h2, decide_eq_true (show 1 ≤ p.2 by omega), Bool.and_self]
theorem rbs_of : ∀ {xs : List V} {rs : List (Int × Int)}, RsL H xs rs → (∀ p ∈ rs, RstOk p) → RBs K H xs (rs.map fun _ => true)
  | [], [], _, _ => trivial
  | _ :: _, p :: _, h, ho => ⟨.inr (.inr ⟨h.1.choose, _, _, h.1.choose_spec.1, h.1.choose_spec.2, plain_int, plain_int, (restF_ok (ho p List.mem_cons_self)).symm⟩), rbs_of h.2 fun q hq => ho q (List.mem_cons_of_mem _ hq)⟩
  | [], _ :: _, h, _ => h.elim
  | _ :: _, [], h, _ => h.elim
end
def BadRs (K : PySem.W.Frag) (v : V) (H : Hp) : Prop := NotTy K H v "list" ∨ ∃ a xs bs, v = .ref a ∧ H a = some (.lst xs) ∧ xs.length ≤ 10000 ∧ RBs K H xs bs ∧ bs.all id = false
theorem upBadRs {K : PySem.W.Frag} : UpH (BadRs K) := fun v H H' e h => by
  rcases h with h | ⟨a, xs, bs, h1, h2, h3, h4, h5⟩
  · exact .inl (h.up e)
  · exact .inr ⟨a, xs, bs, h1, e _ _ h2, h3, h4.up e, h5⟩
def Bad1 (K : PySem.W.Frag) (f : V → Bool) (v : V) (H : Hp) : Prop := PlainV K H v ∧ f v = false
theorem upBad1 {K : PySem.W.Frag} {f : V → Bool} : UpH (Bad1 K f) := fun v H H' e h => ⟨h.1.up e, h.2⟩
def inR (t : Int) : V → Bool
  | .int r => decide (0 ≤ r) && decide (r < t)
  | _ => false
abbrev spF (K : PySem.W.Frag) (f : V → Bool) : Sp := spX (fun (d : V) vs H => vs = [d] ∧ PlainV K H d) (fun d _ v _ => v = .bl (f d))
section
variable {K : PySem.W.Frag} {H : Hp} {σ : L2.St} {i j : Nat} {v : V}
theorem ev_allF {f : V → Bool} {a : Addr} {xs : List V} (hv : σ[i]? = some (some (.ref a))) (ha : H a = some (.lst xs)) (hl : xs.length ≤ 10000) (hp : ∀ x ∈ xs, PlainV K H x) (hw : ∀ x, wipe ((wipe σ [j]).set j (some x)) [j] = wipe σ [j]) (hj : ∀ x, ((wipe σ [j]).set j (some x))[j]? = some (some x)) :
    Ev (tCB (rAll K) (tCons (tLc (iList K (tVar i)) (gName j) tYes (tCall (spF K f) [] E0 (tCons (tVar j) tNil)) [j]) tNil)) σ H (.bl (xs.all f)) := by
  refine ev_is (ev_allR (bs := (List.range xs.length).map fun k => f (xs.getD k .non)) (er_lcLn (fun k y _ => y = .bl (f (xs.getD k .non))) stb_val (ev_var hv) (sq_of ha) (by omega) hw fun k x hk => ?_) fun v H1 _ h => ?_) ?_
  · have hx : xs.getD k .non = x := by rw [List.getD_eq_getElem?_getD, hk]; rfl
    rw [hx]
    exact evr (ev_call0 x (ea_cons (ev_var (hj x)) ea_nil) (fun H1 e => ⟨rfl, (hp x (List.mem_of_getElem? hk)).up e⟩) fun _ _ _ p => p)
  · have h2 := LcR.sq (K := K) h
    rw [List.map_map]
    exact h2
  · rw [range_items f .non xs, List.all_map]
    rfl
theorem et_badL {f : V → Bool} (hv : σ[i]? = some (some v)) (hB : BadL K f v H) (hw : ∀ x, wipe ((wipe σ [j]).set j (some x)) [j] = wipe σ [j]) (hj : ∀ x, ((wipe σ [j]).set j (some x))[j]? = some (some x)) :
    EvT (tOr (tNot (tB (tCB (rIsi K) (tCons (tVar i) (tCons (tC (.ty "list")) tNil))))) (tNot (tB (tCB (rAll K) (tCons (tLc (iList K (tVar i)) (gName j) tYes (tCall (spF K f) [] E0 (tCons (tVar j) tNil)) [j]) tNil))))) σ H true := by
  rcases hB with ⟨m, h1, h2, h3⟩ | ⟨a, xs, rfl, ha, hl, hp, hf⟩
  · exact et_is (et_or (et_not (et_B (ev_isi (b := false) (ev_var hv) ev_c (.ty _) h1 (by rw [kit_list h2, h3])))) (b := true) fun z => nomatch z) rfl
  · exact et_is (et_or (et_not (et_B (ev_isi (ev_var hv) ev_c (.ty _) (.base (.lst ha)) kit_ll))) fun _ => et_not (et_B (ev_is (ev_allF hv ha hl hp hw hj) (by rw [hf])))) rfl
theorem et_okL {f : V → Bool} {a : Addr} {xs : List V} (hv : σ[i]? = some (some (.ref a))) (ha : H a = some (.lst xs)) (hl : xs.length ≤ 10000) (hp : ∀ x ∈ xs, PlainV K H x) (hf : xs.all f = true) (hw : ∀ x, wipe ((wipe σ [j]).set j (some x)) [j] = wipe σ [j]) (hj : ∀ x, ((wipe σ [j]).set j (some x))[j]? = some (some x)) :
    EvT (tOr (tNot (tB (tCB (rIsi K) (tCons (tVar i) (tCons (tC (.ty "list")) tNil))))) (tNot (tB (tCB (rAll K) (tCons (tLc (iList K (tVar i)) (gName j) tYes (tCall (spF K f) [] E0 (tCons (tVar j) tNil)) [j]) tNil))))) σ H false :=
  et_is (et_or (et_not (et_B (ev_isi (ev_var hv) ev_c (.ty _) (.base (.lst ha)) kit_ll))) fun _ => et_not (et_B (ev_is (ev_allF hv ha hl hp hw hj) (by rw [hf])))) rfl
end
/-! ### the doors -/
def Good1 (K : PySem.W.Frag) (f : V → Bool) (v : V) (H : Hp) : Prop := ∃ a xs, v = .ref a ∧ H a = some (.lst xs) ∧ xs.length ≤ 10000 ∧ (∀ x ∈ xs, PlainV K H x) ∧ xs.all f = true
theorem Good1.up {K : PySem.W.Frag} {f : V → Bool} {v : V} {H H' : Hp} (e : Ex H H') (h : Good1 K f v H) : Good1 K f v H' := by
  obtain ⟨a, xs, h1, h2, h3, h4, h5⟩ := h
  exact ⟨a, xs, h1, e _ _ h2, h3, fun x hx => (h4 x hx).up e, h5⟩
def spx_check_numbers (K : PySem.W.Frag) (A : Ad) : Sp := spO (spX (fun (d : V) vs H => vs = [d] ∧ Good1 K isNum d H) (fun _ _ v _ => v = .non)) (spZ (fun (d : V) vs H => vs = [d] ∧ BadL K isNum d H) A.c_BadNumbers)
def spx_check_turn (K : PySem.W.Frag) (A : Ad) : Sp := spO (spX (fun (d : V) vs H => vs = [d] ∧ PlainV K H d ∧ isTurn d = true) (fun _ _ v _ => v = .non)) (spZ (fun (d : V) vs H => vs = [d] ∧ Bad1 K isTurn d H) A.c_BadRound)
def spx_is_rest (K : PySem.W.Frag) : Sp := spX (fun (d : V × Bool) vs H => vs = [d.1] ∧ RestB K H d.1 d.2) (fun d _ v _ => v = .bl d.2)
def spx_rests (K : PySem.W.Frag) (A : Ad) : Sp := spZ (fun (d : V) vs H => vs = [d] ∧ BadRs K d H) A.c_BadRests
def spx_numbers (K : PySem.W.Frag) (A : Ad) : Sp := spZ (fun (d : V) vs H => vs = [d] ∧ BadL K isNum d H) A.c_BadNumbers
def spx_come (K : PySem.W.Frag) (A : Ad) : Sp := spO (spZ (fun (d : V × V × V) vs H => vs = [d.1, d.2.1, d.2.2] ∧ BadL K isNum d.1 H) A.c_BadNumbers) (spO (spZ (fun (d : V × V × V) vs H => vs = [d.1, d.2.1, d.2.2] ∧ Good1 K isNum d.1 H ∧ Bad1 K isTurn d.2.1 H) A.c_BadRound)
  (spZ (fun (d : V × Int × V) vs H => vs = [d.1, .int d.2.1, d.2.2] ∧ Good1 K isNum d.1 H ∧ 1 ≤ d.2.1 ∧ d.2.1 ≤ 1000000 ∧ Bad1 K (inR d.2.1) d.2.2 H) A.c_BadRest))
def spx_back (K : PySem.W.Frag) (A : Ad) : Sp := spO (spZ (fun (d : V × V) vs H => vs = [d.1, d.2] ∧ Bad1 K isNum d.1 H) A.c_BadNumbers) (spZ (fun (d : V × V) vs H => vs = [d.1, d.2] ∧ PlainV K H d.1 ∧ isNum d.1 = true ∧ Bad1 K isTurn d.2 H) A.c_BadRound)
def spx_left (K : PySem.W.Frag) (A : Ad) : Sp := spO (spX (fun (d : V × Int × List Int) vs H => vs = [.int d.2.1, d.1] ∧ LstAt (iv d.2.2) d.1 H ∧ d.2.2.length ≤ 10000 ∧ ∀ t ∈ d.2.2, 1 ≤ t ∧ t ≤ 1000000) (fun d _ v H' => RsAt H' v (d.2.2.map fun t => (d.2.1 % t, t))))
  (spO (spZ (fun (d : V × V) vs H => vs = [d.1, d.2] ∧ Bad1 K isI d.1 H) A.c_BadRests) (spZ (fun (d : Int × V) vs H => vs = [.int d.1, d.2] ∧ BadL K isTurn d.2 H) A.c_BadRests))
def spx_with_rests (K : PySem.W.Frag) (A : Ad) : Sp := spZ (fun (d : Int × V) vs H => vs = [.int d.1, d.2] ∧ (((d.1 = 0 ∨ d.1 = 1) ∧ BadRs K d.2 H) ∨ (d.1 = 2 ∧ BadL K isTurn d.2 H))) A.c_BadRests
def spx_with_numbers (K : PySem.W.Frag) (A : Ad) : Sp := spZ (fun (d : Int × V) vs H => vs = [.int d.1, d.2] ∧ BadL K isNum d.2 H) A.c_BadNumbers
def spx_with_turn (K : PySem.W.Frag) (A : Ad) : Sp := spZ (fun (d : Int × V) vs H => vs = [.int d.1, d.2] ∧ Bad1 K isTurn d.2 H) A.c_BadRound
def spx_with_rest (K : PySem.W.Frag) (A : Ad) : Sp := spZ (fun (d : Int × V) vs H => vs = [.int d.1, d.2] ∧ 1 ≤ d.1 ∧ d.1 ≤ 1000000 ∧ Bad1 K (inR d.1) d.2 H) A.c_BadRest
def spx_with_number (K : PySem.W.Frag) (A : Ad) : Sp := spO (spZ (fun (d : V) vs H => vs = [.int 0, d] ∧ Bad1 K isNum d H) A.c_BadNumbers) (spZ (fun (d : V) vs H => vs = [.int 1, d] ∧ Bad1 K isI d H) A.c_BadRests)
section
variable {P : Program} {w : World} {K : PySem.W.Frag} {mg : Str → Option Value} {base : Heap} {A : Ad}
theorem plain_non {H : Hp} : PlainV K H .non := ⟨"NoneType", .base .non, by decide⟩
theorem plain_bl {H : Hp} {b : Bool} : PlainV K H (.bl b) := ⟨"bool", .base (.bl b), by decide⟩
theorem plain_str {H : Hp} {x : Str} : PlainV K H (.str x) := ⟨"str", .base (.str x), by decide⟩
theorem good_num {σ : L2.St} {H : Hp} {te : TE} {i : Int} (h : Ev te σ H (.int i)) (h0 : -1000000 ≤ i) (h1 : i ≤ 1000000) : EvR (tLst (tCons te tNil)) σ H (Good1 K isNum) := (er_new (xs := [.int i]) (ea_cons h ea_nil) (by show 1 ≤ 100000; decide)).imp fun v H2 _ ⟨p, hv, _, hp⟩ => ⟨p, _, hv, hp, by show 1 ≤ 10000; decide, fun x hx => by
  rw [List.mem_singleton.mp hx]
  exact plain_int, by simp only [List.all_cons, List.all_nil, Bool.and_true, isNum, decide_eq_true h0, decide_eq_true h1, Bool.and_self]⟩
theorem okx_check_numbers (T : Txt K mg A) : OkkX P w K mg base 3 A.a_check_numbers ["numbers"] (spx_check_numbers K A) := by
  obtain ⟨_, G_is_number, b_is_number, k_is_number⟩ := ok_is_number (P := P) (w := w) (base := base) T
  refine okkx T.F_check_numbers sc_check_numbers (fun vs H Q E h => ?_) (fun cdv Ar outer s H vs Q E hr h => ?_)
  · rcases h with ⟨d, ⟨rfl, _⟩, _⟩ | ⟨d, ⟨rfl, _⟩, _⟩ <;> rfl
  · have hr_is_number : Room 2 _ := hr.mono (by decide)
    rcases h with ⟨d, ⟨rfl, a, xs, rfl, ha, hl, hp, hf⟩, k⟩ | ⟨d, ⟨rfl, hB⟩, k⟩
    · refine ⟨_, (pss_one (ps_if (PW.pt (pw_or (pt_not (pt_val (pe_callB (isiK K) (by rfl) T.z_isinstance (by decide +kernel) (pa_cons (pv 0) (pa_cons (pe_bltn (v := .ty "list") (by rfl) T.z_list (by decide +kernel) rfl) pa_nil))))) (pw_or1 (pt_not (pt_val (pe_callB (allK K rfl) (by rfl) T.z_all (by decide +kernel) (pa_cons (pe_lc (own := [("number", 1)]) rfl sc_check_numbers.nd (pi_listK K (pv 0)) (blkOk_by (N := ["numbers", "number"]) (sc := defScope s_check_numbers) (by decide +kernel)) (fun _ _ _ _ _ => (pg_name (i := 1) sc_check_numbers.nd rfl (Or.inl rfl))) (fun _ _ _ _ _ => pts_nil) (fun _ _ _ _ _ => (pe_call G_is_number hr_is_number (by rfl) T.g_is_number k_is_number b_is_number .nil pass0 (pa_cons (pv 1) pa_nil)))) pa_nil))))))) (pss_one (L2N.ps_raise rfl (L2N.takes_of rfl rfl rfl rfl) (L2N.pmk_own PySem.F.excBase_ValueError T.ex_BadNumbers T.g_BadNumbers T.ke_BadNumbers (raises_own T.sb_BadNumbers T.ty_BadNumbers) (by rfl)))) pss_nil)), ?_⟩
      exact s_when (b := false) (et_okL (f := isNum) rfl ha hl hp hf (fun _ => rfl) fun _ => rfl) (fun z => nomatch z) fun _ H1 e1 => k _ _ e1 rfl
    · refine ⟨_, (pss_one (ps_if (PW.pt (pw_or (pt_not (pt_val (pe_callB (isiK K) (by rfl) T.z_isinstance (by decide +kernel) (pa_cons (pv 0) (pa_cons (pe_bltn (v := .ty "list") (by rfl) T.z_list (by decide +kernel) rfl) pa_nil))))) (pw_or1 (pt_not (pt_val (pe_callB (allK K rfl) (by rfl) T.z_all (by decide +kernel) (pa_cons (pe_lc (own := [("number", 1)]) rfl sc_check_numbers.nd (pi_listK K (pv 0)) (blkOk_by (N := ["numbers", "number"]) (sc := defScope s_check_numbers) (by decide +kernel)) (fun _ _ _ _ _ => (pg_name (i := 1) sc_check_numbers.nd rfl (Or.inl rfl))) (fun _ _ _ _ _ => pts_nil) (fun _ _ _ _ _ => (pe_call G_is_number hr_is_number (by rfl) T.g_is_number k_is_number b_is_number .nil pass0 (pa_cons (pv 1) pa_nil)))) pa_nil))))))) (pss_one (L2N.ps_raise rfl (L2N.takes_of rfl rfl rfl rfl) (L2N.pmk_own PySem.F.excBase_ValueError T.ex_BadNumbers T.g_BadNumbers T.ke_BadNumbers (raises_own T.sb_BadNumbers T.ty_BadNumbers) (by rfl)))) pss_nil)), ?_⟩
      exact s_when (b := true) (et_badL (f := isNum) rfl hB (fun _ => rfl) fun _ => rfl) (fun _ H1 e1 => k _ e1) fun z => nomatch z
theorem okx_check_turn (T : Txt K mg A) : OkkX P w K mg base 3 A.a_check_turn ["turn"] (spx_check_turn K A) := by
  obtain ⟨_, G_is_turn, b_is_turn, k_is_turn⟩ := ok_is_turn (P := P) (w := w) (base := base) T
  refine okkx T.F_check_turn sc_check_turn (fun vs H Q E h => ?_) (fun cdv Ar outer s H vs Q E hr h => ?_)
  · rcases h with ⟨d, ⟨rfl, _⟩, _⟩ | ⟨d, ⟨rfl, _⟩, _⟩ <;> rfl
  · have hr_is_turn : Room 2 _ := hr.mono (by decide)
    rcases h with ⟨d, ⟨rfl, hp, hf⟩, k⟩ | ⟨d, ⟨rfl, hp, hf⟩, k⟩
    · refine ⟨_, (pss_one (ps_if (pt_not (pt_val (pe_call G_is_turn hr_is_turn (by rfl) T.g_is_turn k_is_turn b_is_turn .nil pass0 (pa_cons (pv 0) pa_nil)))) (pss_one (L2N.ps_raise rfl (L2N.takes_of rfl rfl rfl rfl) (L2N.pmk_own PySem.F.excBase_ValueError T.ex_BadRound T.g_BadRound T.ke_BadRound (raises_own T.sb_BadRound T.ty_BadRound) (by rfl)))) pss_nil)), ?_⟩
      exact s_when (b := false) (et_is (et_not (et_B (ev_call0 (z := .bl (isTurn d)) d (ea_cons (ev_var rfl) ea_nil) (fun H1 e => ⟨rfl, hp.up e⟩) fun _ _ _ p => p))) (by rw [hf]; rfl)) (fun z => nomatch z) fun _ H1 e1 => k _ _ e1 rfl
    · refine ⟨_, (pss_one (ps_if (pt_not (pt_val (pe_call G_is_turn hr_is_turn (by rfl) T.g_is_turn k_is_turn b_is_turn .nil pass0 (pa_cons (pv 0) pa_nil)))) (pss_one (L2N.ps_raise rfl (L2N.takes_of rfl rfl rfl rfl) (L2N.pmk_own PySem.F.excBase_ValueError T.ex_BadRound T.g_BadRound T.ke_BadRound (raises_own T.sb_BadRound T.ty_BadRound) (by rfl)))) pss_nil)), ?_⟩
      exact s_when (b := true) (et_is (et_not (et_B (ev_call0 (z := .bl (isTurn d)) d (ea_cons (ev_var rfl) ea_nil) (fun H1 e => ⟨rfl, hp.up e⟩) fun _ _ _ p => p))) (by rw [hf]; rfl)) (fun _ H1 e1 => k _ e1) fun z => nomatch z
theorem okx_is_rest (T : Txt K mg A) : Okk P w K mg base 3 A.a_is_rest ["pair"] (spx_is_rest K) := by
  obtain ⟨_, G_is_turn, b_is_turn, k_is_turn⟩ := ok_is_turn (P := P) (w := w) (base := base) T
  obtain ⟨_, G_is_whole, b_is_whole, k_is_whole⟩ := ok_is_whole (P := P) (w := w) (base := base) T
  refine okk T.F_is_rest sc_is_rest (fun vs H Q E h => ?_) (fun cdv Ar outer s H vs Q E hr h => ?_)
  · obtain ⟨d, ⟨rfl, _⟩, _⟩ := h
    rfl
  · obtain ⟨⟨x, b⟩, ⟨rfl, hx⟩, k⟩ := h
    dsimp only at hx
    have hr_is_turn : Room 2 _ := hr.mono (by decide)
    have hr_is_whole : Room 1 _ := hr.mono (by decide)
    refine ⟨_, (pss_cons (ps_if (PW.pt (pw_or (pt_not (pt_val (pe_callB (isiK K) (by rfl) T.z_isinstance (by decide +kernel) (pa_cons (pv 0) (pa_cons (pe_bltn (v := .ty "tuple") (by rfl) T.z_tuple (by decide +kernel) rfl) pa_nil))))) (pw_or1 (pt_cmpR op_ne (pe_callB (len_seqK K) (by rfl) T.z_len (by decide +kernel) (pa_cons (pv 0) pa_nil)) pe_int (nomark _))))) (pss_one (ps_ret pe_bl)) pss_nil)
      (pss_one (ps_ret (pe_and (pe_call G_is_turn hr_is_turn (by rfl) T.g_is_turn k_is_turn b_is_turn .nil pass0 (pa_cons (pe_ix (ix_tupK K) (pv 0) pe_int (fun _ _ => rfl)) pa_nil)) (pe_and (pe_call G_is_whole hr_is_whole (by rfl) T.g_is_whole k_is_whole b_is_whole .nil pass0 (pa_cons (pe_ix (ix_tupK K) (pv 0) pe_int (fun _ _ => rfl)) pa_nil)) (pe_one (pe_chain op_le op_lt pe_int (pe_ix (ix_tupK K) (pv 0) pe_int (fun _ _ => rfl)) (pe_ix (ix_tupK K) (pv 0) pe_int (fun _ _ => rfl))))))))), ?_⟩
    rcases hx with ⟨⟨m, h1, h2, h3⟩, rfl⟩ | ⟨t, xs, rfl, ht, hne, rfl⟩ | ⟨t, p, q, rfl, ht, hp, hq, rfl⟩
    · refine q_when (b := true) (et_is (et_or (b := true) (et_not (et_B (ev_isi (b := false) (ev_var rfl) ev_c (.ty _) h1 (by rw [kit_tuple h2, h3])))) fun z => nomatch z) rfl) (fun _ H1 e1 => ?_) fun z => nomatch z
      exact s_ret ev_c fun H2 e2 => k _ _ (e1.trans e2) rfl
    · refine q_when (b := true) (et_is (et_or (et_not (et_B (ev_isi (ev_var rfl) ev_c (.ty _) (.base (.tup ht)) kit_tt))) fun _ => et_test (ev_op (show Ev (tCB (rLenQ K) (tCons (tVar 0) tNil)) _ _ (.int (xs.length : Int)) from fun H1 e Q q => ⟨_, rfl, t, _, rfl, .inr (ex_t e (st_of ht)), q H1 (Ex.refl _)⟩) ev_c rv_neI)) ?_) (fun _ H1 e1 => ?_) fun z => nomatch z
      · rw [decide_eq_false (show ¬ (xs.length : Int) = 2 by omega)]
        rfl
      · exact s_ret ev_c fun H2 e2 => k _ _ (e1.trans e2) rfl
    · refine q_when (b := false) ?_ (fun z => nomatch z) fun _ H1 e1 => ?_
      · exact et_is (et_or (et_not (et_B (ev_isi (ev_var rfl) ev_c (.ty _) (.base (.tup ht)) kit_tt))) fun _ => et_test (ev_op (show Ev (tCB (rLenQ K) (tCons (tVar 0) tNil)) _ _ (.int 2) from fun H1 e Q q => ⟨_, rfl, t, _, rfl, .inr (ex_t e (st_of ht)), q H1 (Ex.refl _)⟩) ev_c rv_neI)) rfl
      · have ht1 := e1 _ _ ht
        have c1 : Ev (tCall (sp_is_turn K) [] E0 (tCons (tOp (rIxT K) (tVar 0) (tC (.int 1))) tNil)) [some (.ref t)] H1 (.bl (isTurn q)) := ev_call0 q (ea_cons (ev_p1 (ev_var rfl) ht1) ea_nil) (fun H1 e => ⟨rfl, hq.up (e1.trans e)⟩) fun _ _ _ p => p
        have c2 : Ev (tCall (sp_is_whole K) [] E0 (tCons (tOp (rIxT K) (tVar 0) (tC (.int 0))) tNil)) [some (.ref t)] H1 (.bl (isI p)) := ev_call0 p (ea_cons (ev_p0 (ev_var rfl) ht1) ea_nil) (fun H1 e => ⟨rfl, hp.up (e1.trans e)⟩) fun _ _ _ p => p
        refine s_ret (v := .bl (restF p q)) ?_ fun H2 e2 => k _ _ (e1.trans e2) rfl
        cases q with
        | int u =>
          cases p with
          | int r =>
            refine ev_is (ev_andV (b := decide (0 ≤ r) && decide (r < u)) c1 fun _ => ev_andV (a := true) c2 fun _ => ev_chain ev_c (ev_p0 (ev_var rfl) ht1) rv_I0 (fun _ => ev_p1 (ev_var rfl) ht1) fun _ => rv_I0) rfl
          | _ => exact ev_is (ev_andV (b := false) c1 fun _ => ev_andV (a := false) (b := false) c2 fun z => nomatch z) (congrArg V.bl (Bool.and_false _))
        | _ =>
          refine ev_is (ev_andV (a := false) (b := false) c1 fun z => nomatch z) ?_
          cases p <;> rfl
theorem okx_check_rests (T : Txt K mg A) : OkkX P w K mg base 4 A.a_check_rests ["rests"] (spx_rests K A) := by
  obtain ⟨_, G_is_rest, b_is_rest, k_is_rest⟩ := okx_is_rest (P := P) (w := w) (base := base) T
  refine okkx T.F_check_rests sc_check_rests (fun vs H Q E h => ?_) (fun cdv Ar outer s H vs Q E hr h => ?_)
  · obtain ⟨d, ⟨rfl, _⟩, _⟩ := h
    rfl
  · have hr_is_rest : Room 3 _ := hr.mono (by decide)
    obtain ⟨v, ⟨rfl, hB⟩, k⟩ := h
    refine ⟨_, (pss_one (ps_if (PW.pt (pw_or (pt_not (pt_val (pe_callB (isiK K) (by rfl) T.z_isinstance (by decide +kernel) (pa_cons (pv 0) (pa_cons (pe_bltn (v := .ty "list") (by rfl) T.z_list (by decide +kernel) rfl) pa_nil))))) (pw_or1 (pt_not (pt_val (pe_callB (allK K rfl) (by rfl) T.z_all (by decide +kernel) (pa_cons (pe_lc (own := [("pair", 1)]) rfl sc_check_rests.nd (pi_listK K (pv 0)) (blkOk_by (N := ["rests", "pair"]) (sc := defScope s_check_rests) (by decide +kernel)) (fun _ _ _ _ _ => (pg_name (i := 1) sc_check_rests.nd rfl (Or.inl rfl))) (fun _ _ _ _ _ => pts_nil) (fun _ _ _ _ _ => (pe_call G_is_rest hr_is_rest (by rfl) T.g_is_rest k_is_rest b_is_rest .nil pass0 (pa_cons (pv 1) pa_nil)))) pa_nil))))))) (pss_one (L2N.ps_raise rfl (L2N.takes_of rfl rfl rfl rfl) (L2N.pmk_own PySem.F.excBase_ValueError T.ex_BadRests T.g_BadRests T.ke_BadRests (raises_own T.sb_BadRests T.ty_BadRests) (by rfl)))) pss_nil)), ?_⟩
    refine s_when (b := true) ?_ (fun _ H1 e1 => k _ e1) fun z => nomatch z
    rcases hB with ⟨m, h1, h2, h3⟩ | ⟨a, xs, bs, rfl, ha, hl, hR, hf⟩
    · exact et_is (et_or (b := true) (et_not (et_B (ev_isi (b := false) (ev_var rfl) ev_c (.ty _) h1 (by rw [kit_list h2, h3])))) fun z => nomatch z) rfl
    · refine et_is (et_or (et_not (et_B (ev_isi (ev_var rfl) ev_c (.ty _) (.base (.lst ha)) kit_ll))) fun _ => et_not (et_B (ev_is (ev_allR (bs := (List.range xs.length).map fun k => bs.getD k false) (er_lcLn (fun k y _ => y = .bl (bs.getD k false)) stb_val (ev_var rfl) (sq_of ha) (by omega) (fun _ => rfl) fun i x hi => ?_) fun v H1 _ h => ?_) (w := .bl false) ?_))) rfl
      · exact evr (ev_call0 (x, bs.getD i false) (ea_cons (ev_var rfl) ea_nil) (fun H1 e => ⟨rfl, (hR.get hi).up e⟩) fun _ _ _ p => p)
      · have h2 := LcR.sq (K := K) h
        rw [List.map_map]
        exact h2
      · rw [hR.len, show (List.range bs.length).map (fun k => bs.getD k false) = bs from (range_items id false bs).trans (List.map_id bs), hf]
theorem okx_told (T : Txt K mg A) : OkkX P w K mg base 5 A.a_told ["rests"] (spx_rests K A) := by
  obtain ⟨_, G_check_rests, b_check_rests, k_check_rests⟩ := okx_check_rests (P := P) (w := w) (base := base) T
  refine okkx T.F_told sc_told (fun vs H Q E h => ?_) (fun cdv Ar outer s H vs Q E hr h => ?_)
  · obtain ⟨d, ⟨rfl, _⟩, _⟩ := h
    rfl
  · have hr_check_rests : Room 4 _ := hr.mono (by decide)
    obtain ⟨v, ⟨rfl, hB⟩, k⟩ := h
    refine ⟨_, (pss_cons (ps_expr (pe_call G_check_rests hr_check_rests (by rfl) T.g_check_rests k_check_rests b_check_rests .nil (passE rfl rfl rfl rfl) (pa_cons (pv 0) pa_nil)))
      pss_never), ?_⟩
    exact q_dropX (rz_call (ea_cons (ev_var rfl) ea_nil) fun H1 e Q => ⟨v, ⟨rfl, upBadRs _ _ _ e hB⟩, fun H' e' => k _ (e.trans e')⟩)
theorem okx_written (T : Txt K mg A) : OkkX P w K mg base 5 A.a_written ["rests"] (spx_rests K A) := by
  obtain ⟨_, G_check_rests, b_check_rests, k_check_rests⟩ := okx_check_rests (P := P) (w := w) (base := base) T
  refine okkx T.F_written sc_written (fun vs H Q E h => ?_) (fun cdv Ar outer s H vs Q E hr h => ?_)
  · obtain ⟨d, ⟨rfl, _⟩, _⟩ := h
    rfl
  · have hr_check_rests : Room 4 _ := hr.mono (by decide)
    obtain ⟨v, ⟨rfl, hB⟩, k⟩ := h
    refine ⟨_, (pss_cons (ps_expr (pe_call G_check_rests hr_check_rests (by rfl) T.g_check_rests k_check_rests b_check_rests .nil (passE rfl rfl rfl rfl) (pa_cons (pv 0) pa_nil)))
      pss_never), ?_⟩
    exact q_dropX (rz_call (ea_cons (ev_var rfl) ea_nil) fun H1 e Q => ⟨v, ⟨rfl, upBadRs _ _ _ e hB⟩, fun H' e' => k _ (e.trans e')⟩)
theorem okx_common (T : Txt K mg A) : OkkX P w K mg base 4 A.a_common ["numbers"] (spx_numbers K A) := by
  obtain ⟨_, G_check_numbers, b_check_numbers, k_check_numbers⟩ := okx_check_numbers (P := P) (w := w) (base := base) T
  refine okkx T.F_common sc_common (fun vs H Q E h => ?_) (fun cdv Ar outer s H vs Q E hr h => ?_)
  · obtain ⟨d, ⟨rfl, _⟩, _⟩ := h
    rfl
  · have hr_check_numbers : Room 3 _ := hr.mono (by decide)
    obtain ⟨v, ⟨rfl, hB⟩, k⟩ := h
    refine ⟨_, (pss_cons (ps_expr (pe_call G_check_numbers hr_check_numbers (by rfl) T.g_check_numbers k_check_numbers b_check_numbers .nil (passE rfl rfl rfl rfl) (pa_cons (pv 0) pa_nil)))
      pss_never), ?_⟩
    exact q_dropX (rz_call (ea_cons (ev_var rfl) ea_nil) fun H1 e Q => .inr ⟨v, ⟨rfl, upBadL _ _ _ e hB⟩, fun H' e' => k _ (e.trans e')⟩)
theorem okx_stretch (T : Txt K mg A) : OkkX P w K mg base 4 A.a_stretch ["numbers"] (spx_numbers K A) := by
  obtain ⟨_, G_check_numbers, b_check_numbers, k_check_numbers⟩ := okx_check_numbers (P := P) (w := w) (base := base) T
  refine okkx T.F_stretch sc_stretch (fun vs H Q E h => ?_) (fun cdv Ar outer s H vs Q E hr h => ?_)
  · obtain ⟨d, ⟨rfl, _⟩, _⟩ := h
    rfl
  · have hr_check_numbers : Room 3 _ := hr.mono (by decide)
    obtain ⟨v, ⟨rfl, hB⟩, k⟩ := h
    refine ⟨_, (pss_cons (ps_expr (pe_call G_check_numbers hr_check_numbers (by rfl) T.g_check_numbers k_check_numbers b_check_numbers .nil (passE rfl rfl rfl rfl) (pa_cons (pv 0) pa_nil)))
      pss_never), ?_⟩
    exact q_dropX (rz_call (ea_cons (ev_var rfl) ea_nil) fun H1 e Q => .inr ⟨v, ⟨rfl, upBadL _ _ _ e hB⟩, fun H' e' => k _ (e.trans e')⟩)
theorem okx_chosen (T : Txt K mg A) : OkkX P w K mg base 4 A.a_chosen ["numbers"] (spx_numbers K A) := by
  obtain ⟨_, G_check_numbers, b_check_numbers, k_check_numbers⟩ := okx_check_numbers (P := P) (w := w) (base := base) T
  refine okkx T.F_chosen sc_chosen (fun vs H Q E h => ?_) (fun cdv Ar outer s H vs Q E hr h => ?_)
  · obtain ⟨d, ⟨rfl, _⟩, _⟩ := h
    rfl
  · have hr_check_numbers : Room 3 _ := hr.mono (by decide)
    obtain ⟨v, ⟨rfl, hB⟩, k⟩ := h
    refine ⟨_, (pss_cons (ps_expr (pe_call G_check_numbers hr_check_numbers (by rfl) T.g_check_numbers k_check_numbers b_check_numbers .nil (passE rfl rfl rfl rfl) (pa_cons (pv 0) pa_nil)))
      pss_never), ?_⟩
    exact q_dropX (rz_call (ea_cons (ev_var rfl) ea_nil) fun H1 e Q => .inr ⟨v, ⟨rfl, upBadL _ _ _ e hB⟩, fun H' e' => k _ (e.trans e')⟩)
theorem okx_come (T : Txt K mg A) : OkkX P w K mg base 4 A.a_come ["numbers", "turn", "rest"] (spx_come K A) := by
  obtain ⟨_, G_check_numbers, b_check_numbers, k_check_numbers⟩ := okx_check_numbers (P := P) (w := w) (base := base) T
  obtain ⟨_, G_check_turn, b_check_turn, k_check_turn⟩ := okx_check_turn (P := P) (w := w) (base := base) T
  obtain ⟨_, G_is_whole, b_is_whole, k_is_whole⟩ := ok_is_whole (P := P) (w := w) (base := base) T
  refine okkx T.F_come sc_come (fun vs H Q E h => ?_) (fun cdv Ar outer s H vs Q E hr h => ?_)
  · rcases h with ⟨d, ⟨rfl, _⟩, _⟩ | ⟨d, ⟨rfl, _⟩, _⟩ | ⟨d, ⟨rfl, _⟩, _⟩ <;> rfl
  · have hr_check_numbers : Room 3 _ := hr.mono (by decide)
    have hr_check_turn : Room 3 _ := hr.mono (by decide)
    have hr_is_whole : Room 1 _ := hr.mono (by decide)
    rcases h with ⟨⟨x, y, z⟩, ⟨rfl, hB⟩, k⟩ | ⟨⟨x, y, z⟩, ⟨rfl, hG, hB⟩, k⟩ | ⟨⟨x, t, z⟩, ⟨rfl, hG, t0, t1, hB⟩, k⟩
    · refine ⟨_, (pss_cons (ps_expr (pe_call G_check_numbers hr_check_numbers (by rfl) T.g_check_numbers k_check_numbers b_check_numbers .nil (passE rfl rfl rfl rfl) (pa_cons (pv 0) pa_nil)))
      (pss_cons (ps_expr (pe_call G_check_turn hr_check_turn (by rfl) T.g_check_turn k_check_turn b_check_turn .nil (passE rfl rfl rfl rfl) (pa_cons (pv 1) pa_nil)))
      (pss_cons (ps_if (PW.pt (pw_or (pt_not (pt_val (pe_call G_is_whole hr_is_whole (by rfl) T.g_is_whole k_is_whole b_is_whole .nil pass0 (pa_cons (pv 2) pa_nil)))) (pw_or1 (pt_not (pt_chain op_le op_lt pe_int (pv 2) (pv 1)))))) (pss_one (L2N.ps_raise rfl (L2N.takes_of rfl rfl rfl rfl) (L2N.pmk_own PySem.F.excBase_ValueError T.ex_BadRest T.g_BadRest T.ke_BadRest (raises_own T.sb_BadRest T.ty_BadRest) (by rfl)))) pss_nil)
      pss_never))), ?_⟩
      exact q_dropX (rz_call (ea_cons (ev_var rfl) ea_nil) fun H1 e Q => .inr ⟨x, ⟨rfl, upBadL _ _ _ e hB⟩, fun H' e' => k _ (e.trans e')⟩)
    · refine ⟨_, (pss_cons (ps_expr (pe_call G_check_numbers hr_check_numbers (by rfl) T.g_check_numbers k_check_numbers b_check_numbers .nil (passE rfl rfl rfl rfl) (pa_cons (pv 0) pa_nil)))
      (pss_cons (ps_expr (pe_call G_check_turn hr_check_turn (by rfl) T.g_check_turn k_check_turn b_check_turn .nil (passE rfl rfl rfl rfl) (pa_cons (pv 1) pa_nil)))
      (pss_cons (ps_if (PW.pt (pw_or (pt_not (pt_val (pe_call G_is_whole hr_is_whole (by rfl) T.g_is_whole k_is_whole b_is_whole .nil pass0 (pa_cons (pv 2) pa_nil)))) (pw_or1 (pt_not (pt_chain op_le op_lt pe_int (pv 2) (pv 1)))))) (pss_one (L2N.ps_raise rfl (L2N.takes_of rfl rfl rfl rfl) (L2N.pmk_own PySem.F.excBase_ValueError T.ex_BadRest T.g_BadRest T.ke_BadRest (raises_own T.sb_BadRest T.ty_BadRest) (by rfl)))) pss_nil)
      pss_never))), ?_⟩
      refine q_drop (v := .non) (fun H1 e Q q => ?_) fun H1 e1 => ?_
      · exact (ea_cons (ev_var rfl) ea_nil : EvA (tCons (tVar 0) tNil) [some x, some y, some z, none, none, none, none] H [x]) H1 e _ fun H2 e2 => .inl ⟨x, ⟨rfl, hG.up (e.trans e2)⟩, fun v H3 e3 hv => by rw [hv]; exact q H3 (e2.trans e3)⟩
      · exact q_dropX (rz_call (ea_cons (ev_var rfl) ea_nil) fun H2 e Q => .inr ⟨y, ⟨rfl, upBad1 _ _ _ (e1.trans e) hB⟩, fun H' e' => k _ (e1.trans (e.trans e'))⟩)
    · refine ⟨_, (pss_cons (ps_expr (pe_call G_check_numbers hr_check_numbers (by rfl) T.g_check_numbers k_check_numbers b_check_numbers .nil (passE rfl rfl rfl rfl) (pa_cons (pv 0) pa_nil)))
      (pss_cons (ps_expr (pe_call G_check_turn hr_check_turn (by rfl) T.g_check_turn k_check_turn b_check_turn .nil (passE rfl rfl rfl rfl) (pa_cons (pv 1) pa_nil)))
      (pss_cons (ps_if (PW.pt (pw_or (pt_not (pt_val (pe_call G_is_whole hr_is_whole (by rfl) T.g_is_whole k_is_whole b_is_whole .nil pass0 (pa_cons (pv 2) pa_nil)))) (pw_or1 (pt_not (pt_chain op_le op_lt pe_int (pv 2) (pv 1)))))) (pss_one (L2N.ps_raise rfl (L2N.takes_of rfl rfl rfl rfl) (L2N.pmk_own PySem.F.excBase_ValueError T.ex_BadRest T.g_BadRest T.ke_BadRest (raises_own T.sb_BadRest T.ty_BadRest) (by rfl)))) pss_nil)
      pss_never))), ?_⟩
      refine q_drop (v := .non) (fun H1 e Q q => ?_) fun H1 e1 => ?_
      · exact (ea_cons (ev_var rfl) ea_nil : EvA (tCons (tVar 0) tNil) [some x, some (.int t), some z, none, none, none, none] H [x]) H1 e _ fun H2 e2 => .inl ⟨x, ⟨rfl, hG.up (e.trans e2)⟩, fun v H3 e3 hv => by rw [hv]; exact q H3 (e2.trans e3)⟩
      refine q_drop (v := .non) (fun H2 e Q q => ?_) fun H2 e2 => ?_
      · exact (ea_cons (ev_var rfl) ea_nil : EvA (tCons (tVar 1) tNil) [some x, some (.int t), some z, none, none, none, none] H1 [.int t]) H2 e _ fun H3 e3 => .inl ⟨.int t, ⟨rfl, plain_int, by simp only [isTurn, decide_eq_true t0, decide_eq_true t1, Bool.and_self]⟩, fun v H4 e4 hv => by rw [hv]; exact q H4 (e3.trans e4)⟩
      · have hz := hB.1.up (e1.trans e2)
        have hf := hB.2
        refine q_when (b := true) ?_ (fun _ H3 e3 => k _ (e1.trans (e2.trans e3))) fun z => nomatch z
        have c1 : Ev (tCall (sp_is_whole K) [] E0 (tCons (tVar 2) tNil)) [some x, some (.int t), some z, none, none, none, none] H2 (.bl (isI z)) := ev_call0 z (ea_cons (ev_var rfl) ea_nil) (fun H1 e => ⟨rfl, hz.up e⟩) fun _ _ _ p => p
        cases z with
        | int r =>
          refine et_is (et_or (et_not (et_B c1)) fun _ => et_not (et_test (ev_chain ev_c (ev_var rfl) rv_I0 (fun _ => ev_var rfl) fun _ => rv_I0))) ?_
          have hf' : (decide (0 ≤ r) && decide (r < t)) = false := hf
          rw [hf']
          rfl
        | _ => exact et_is (et_or (b := true) (et_not (et_B c1)) fun z => nomatch z) rfl
theorem okx_back (T : Txt K mg A) : OkkX P w K mg base 4 A.a_back ["number", "turn"] (spx_back K A) := by
  obtain ⟨_, G_check_turn, b_check_turn, k_check_turn⟩ := okx_check_turn (P := P) (w := w) (base := base) T
  obtain ⟨_, G_is_number, b_is_number, k_is_number⟩ := ok_is_number (P := P) (w := w) (base := base) T
  refine okkx T.F_back sc_back (fun vs H Q E h => ?_) (fun cdv Ar outer s H vs Q E hr h => ?_)
  · rcases h with ⟨d, ⟨rfl, _⟩, _⟩ | ⟨d, ⟨rfl, _⟩, _⟩ <;> rfl
  · have hr_check_turn : Room 3 _ := hr.mono (by decide)
    have hr_is_number : Room 2 _ := hr.mono (by decide)
    rcases h with ⟨⟨x, y⟩, ⟨rfl, hp, hf⟩, k⟩ | ⟨⟨x, y⟩, ⟨rfl, hp, hf, hB⟩, k⟩
    · refine ⟨_, (pss_cons (ps_if (pt_not (pt_val (pe_call G_is_number hr_is_number (by rfl) T.g_is_number k_is_number b_is_number .nil pass0 (pa_cons (pv 0) pa_nil)))) (pss_one (L2N.ps_raise rfl (L2N.takes_of rfl rfl rfl rfl) (L2N.pmk_own PySem.F.excBase_ValueError T.ex_BadNumbers T.g_BadNumbers T.ke_BadNumbers (raises_own T.sb_BadNumbers T.ty_BadNumbers) (by rfl)))) pss_nil)
      (pss_cons (ps_expr (pe_call G_check_turn hr_check_turn (by rfl) T.g_check_turn k_check_turn b_check_turn .nil (passE rfl rfl rfl rfl) (pa_cons (pv 1) pa_nil)))
      pss_never)), ?_⟩
      exact q_when (b := true) (et_is (et_not (et_B (ev_call0 (z := .bl (isNum x)) x (ea_cons (ev_var rfl) ea_nil) (fun H1 e => ⟨rfl, hp.up e⟩) fun _ _ _ p => p))) (by rw [show isNum x = false from hf]; rfl)) (fun _ H1 e1 => k _ e1) fun z => nomatch z
    · refine ⟨_, (pss_cons (ps_if (pt_not (pt_val (pe_call G_is_number hr_is_number (by rfl) T.g_is_number k_is_number b_is_number .nil pass0 (pa_cons (pv 0) pa_nil)))) (pss_one (L2N.ps_raise rfl (L2N.takes_of rfl rfl rfl rfl) (L2N.pmk_own PySem.F.excBase_ValueError T.ex_BadNumbers T.g_BadNumbers T.ke_BadNumbers (raises_own T.sb_BadNumbers T.ty_BadNumbers) (by rfl)))) pss_nil)
      (pss_cons (ps_expr (pe_call G_check_turn hr_check_turn (by rfl) T.g_check_turn k_check_turn b_check_turn .nil (passE rfl rfl rfl rfl) (pa_cons (pv 1) pa_nil)))
      pss_never)), ?_⟩
      refine q_when (b := false) (et_is (et_not (et_B (ev_call0 (z := .bl (isNum x)) x (ea_cons (ev_var rfl) ea_nil) (fun H1 e => ⟨rfl, hp.up e⟩) fun _ _ _ p => p))) (by rw [show isNum x = true from hf]; rfl)) (fun z => nomatch z) fun _ H1 e1 => ?_
      exact q_dropX (rz_call (ea_cons (ev_var rfl) ea_nil) fun H2 e Q => .inr ⟨y, ⟨rfl, upBad1 _ _ _ (e1.trans e) hB⟩, fun H' e' => k _ (e1.trans (e.trans e'))⟩)
theorem okx_left (T : Txt K mg A) : OkkX P w K mg base 3 A.a_left ["number", "rounds"] (spx_left K A) := by
  obtain ⟨_, G_is_turn, b_is_turn, k_is_turn⟩ := ok_is_turn (P := P) (w := w) (base := base) T
  obtain ⟨_, G_is_whole, b_is_whole, k_is_whole⟩ := ok_is_whole (P := P) (w := w) (base := base) T
  refine okkx T.F_left sc_left (fun vs H Q E h => ?_) (fun cdv Ar outer s H vs Q E hr h => ?_)
  · rcases h with ⟨d, ⟨rfl, _⟩, _⟩ | ⟨d, ⟨rfl, _⟩, _⟩ | ⟨d, ⟨rfl, _⟩, _⟩ <;> rfl
  · have hr_is_turn : Room 2 _ := hr.mono (by decide)
    have hr_is_whole : Room 1 _ := hr.mono (by decide)
    rcases h with ⟨⟨_, n, ts⟩, ⟨rfl, ⟨a, rfl, ha⟩, hl, ht⟩, k⟩ | ⟨⟨x, y⟩, ⟨rfl, hp, hf⟩, k⟩ | ⟨⟨n, y⟩, ⟨rfl, hB⟩, k⟩
    · dsimp only at ha hl ht
      have hpl : ∀ x ∈ iv ts, PlainV K H x := fun x hx => by
        obtain ⟨t, _, rfl⟩ := List.mem_map.mp hx
        exact plain_int
      have hal : (iv ts).all isTurn = true := by
        rw [List.all_map]
        refine List.all_eq_true.mpr fun t h => ?_
        show isTurn (.int t) = true
        simp only [isTurn, decide_eq_true (ht t h).1, decide_eq_true (ht t h).2, Bool.and_self]
      refine ⟨_, (pss_cons (ps_if (PW.pt (pw_or (pt_not (pt_val (pe_call G_is_whole hr_is_whole (by rfl) T.g_is_whole k_is_whole b_is_whole .nil pass0 (pa_cons (pv 0) pa_nil)))) (pw_or (pt_not (pt_val (pe_callB (isiK K) (by rfl) T.z_isinstance (by decide +kernel) (pa_cons (pv 1) (pa_cons (pe_bltn (v := .ty "list") (by rfl) T.z_list (by decide +kernel) rfl) pa_nil))))) (pw_or1 (pt_not (pt_val (pe_callB (allK K rfl) (by rfl) T.z_all (by decide +kernel) (pa_cons (pe_lc (own := [("turn", 2)]) rfl sc_left.nd (pi_listK K (pv 1)) (blkOk_by (N := ["number", "rounds", "turn"]) (sc := defScope s_left) (by decide +kernel)) (fun _ _ _ _ _ => (pg_name (i := 2) sc_left.nd rfl (Or.inl rfl))) (fun _ _ _ _ _ => pts_nil) (fun _ _ _ _ _ => (pe_call G_is_turn hr_is_turn (by rfl) T.g_is_turn k_is_turn b_is_turn .nil pass0 (pa_cons (pv 2) pa_nil)))) pa_nil)))))))) (pss_one (L2N.ps_raise rfl (L2N.takes_of rfl rfl rfl rfl) (L2N.pmk_own PySem.F.excBase_ValueError T.ex_BadRests T.g_BadRests T.ke_BadRests (raises_own T.sb_BadRests T.ty_BadRests) (by rfl)))) pss_nil)
      (pss_one (ps_ret (pe_lc (own := [("turn", 2)]) rfl sc_left.nd (pi_listK K (pv 1)) (blkOk_by (N := ["number", "rounds", "turn"]) (sc := defScope s_left) (by decide +kernel)) (fun _ _ _ _ _ => (pg_name (i := 2) sc_left.nd rfl (Or.inl rfl))) (fun _ _ _ _ _ => pts_nil) (fun _ _ _ _ _ => (pe_tup (pa_cons (pe_op op_mod (pv 0) (pv 2)) (pa_cons (pv 2) pa_nil)))))))), ?_⟩
      refine q_when (b := false) ?_ (fun z => nomatch z) fun _ H1 e1 => ?_
      · exact et_is (et_or (et_not (et_B (ev_call0 (z := .bl true) (V.int n) (ea_cons (ev_var rfl) ea_nil) (fun H1 e => ⟨rfl, plain_int⟩) fun _ _ _ p => p))) fun _ => et_okL (f := isTurn) rfl ha (by rw [iv_len]; exact hl) hpl hal (fun _ => rfl) fun _ => rfl) rfl
      · have ha1 := e1 _ _ ha
        refine s_retR (er_lcLn (fun j y H => PairAt H y (n % ts.getD j 0, ts.getD j 0)) (fun j y H1 H2 ⟨t, e, h⟩ kk => ⟨t, e, kk t _ h fun zs z => nomatch z⟩) (ev_var rfl) (sq_of ha1) (by rw [iv_len]; omega) (fun _ => rfl) fun i x hi => ?_) fun v H2 e2 ⟨Dl, ys, hv, _, hD, hlen, hys⟩ => k _ _ (e1.trans e2) ⟨Dl, ys, hv, hD, rsl_of (by rw [hlen, iv_len, List.length_map]) fun i x hi => ?_⟩
        · obtain ⟨hi', rfl⟩ := iv_get hi
          have hti := ht _ (getD_mem hi')
          exact (eur (eu_tup (ea_cons (ev_op (ev_var rfl) (ev_var rfl) (rv_I (by show 0 < ts.getD i 0; omega))) (ea_cons (ev_var rfl) ea_nil)) (by walk_at "sz"))).imp fun v H2 _ ⟨t, hv, _, h⟩ => ⟨t, hv, h⟩
        · have hlt := (List.getElem?_eq_some_iff.mp hi).1
          rw [hlen, iv_len] at hlt
          have this : PairAt H2 x (n % ts.getD i 0, ts.getD i 0) := hys i x hi
          rw [List.getD_eq_getElem?_getD, List.getElem?_map, List.getElem?_eq_getElem hlt]
          rw [List.getD_eq_getElem?_getD, List.getElem?_eq_getElem hlt] at this
          exact this
    · refine ⟨_, (pss_cons (ps_if (PW.pt (pw_or (pt_not (pt_val (pe_call G_is_whole hr_is_whole (by rfl) T.g_is_whole k_is_whole b_is_whole .nil pass0 (pa_cons (pv 0) pa_nil)))) (pw_or (pt_not (pt_val (pe_callB (isiK K) (by rfl) T.z_isinstance (by decide +kernel) (pa_cons (pv 1) (pa_cons (pe_bltn (v := .ty "list") (by rfl) T.z_list (by decide +kernel) rfl) pa_nil))))) (pw_or1 (pt_not (pt_val (pe_callB (allK K rfl) (by rfl) T.z_all (by decide +kernel) (pa_cons (pe_lc (own := [("turn", 2)]) rfl sc_left.nd (pi_listK K (pv 1)) (blkOk_by (N := ["number", "rounds", "turn"]) (sc := defScope s_left) (by decide +kernel)) (fun _ _ _ _ _ => (pg_name (i := 2) sc_left.nd rfl (Or.inl rfl))) (fun _ _ _ _ _ => pts_nil) (fun _ _ _ _ _ => (pe_call G_is_turn hr_is_turn (by rfl) T.g_is_turn k_is_turn b_is_turn .nil pass0 (pa_cons (pv 2) pa_nil)))) pa_nil)))))))) (pss_one (L2N.ps_raise rfl (L2N.takes_of rfl rfl rfl rfl) (L2N.pmk_own PySem.F.excBase_ValueError T.ex_BadRests T.g_BadRests T.ke_BadRests (raises_own T.sb_BadRests T.ty_BadRests) (by rfl)))) pss_nil)
      (pss_one (ps_ret (pe_lc (own := [("turn", 2)]) rfl sc_left.nd (pi_listK K (pv 1)) (blkOk_by (N := ["number", "rounds", "turn"]) (sc := defScope s_left) (by decide +kernel)) (fun _ _ _ _ _ => (pg_name (i := 2) sc_left.nd rfl (Or.inl rfl))) (fun _ _ _ _ _ => pts_nil) (fun _ _ _ _ _ => (pe_tup (pa_cons (pe_op op_mod (pv 0) (pv 2)) (pa_cons (pv 2) pa_nil)))))))), ?_⟩
      exact q_when (b := true) (et_is (et_or (b := true) (et_not (et_B (ev_call0 (z := .bl (isI x)) x (ea_cons (ev_var rfl) ea_nil) (fun H1 e => ⟨rfl, hp.up e⟩) fun _ _ _ p => p))) fun z => by rw [show isI x = false from hf] at z; exact nomatch z) (by rw [show isI x = false from hf]; rfl)) (fun _ H1 e1 => k _ e1) fun z => nomatch z
    · refine ⟨_, (pss_cons (ps_if (PW.pt (pw_or (pt_not (pt_val (pe_call G_is_whole hr_is_whole (by rfl) T.g_is_whole k_is_whole b_is_whole .nil pass0 (pa_cons (pv 0) pa_nil)))) (pw_or (pt_not (pt_val (pe_callB (isiK K) (by rfl) T.z_isinstance (by decide +kernel) (pa_cons (pv 1) (pa_cons (pe_bltn (v := .ty "list") (by rfl) T.z_list (by decide +kernel) rfl) pa_nil))))) (pw_or1 (pt_not (pt_val (pe_callB (allK K rfl) (by rfl) T.z_all (by decide +kernel) (pa_cons (pe_lc (own := [("turn", 2)]) rfl sc_left.nd (pi_listK K (pv 1)) (blkOk_by (N := ["number", "rounds", "turn"]) (sc := defScope s_left) (by decide +kernel)) (fun _ _ _ _ _ => (pg_name (i := 2) sc_left.nd rfl (Or.inl rfl))) (fun _ _ _ _ _ => pts_nil) (fun _ _ _ _ _ => (pe_call G_is_turn hr_is_turn (by rfl) T.g_is_turn k_is_turn b_is_turn .nil pass0 (pa_cons (pv 2) pa_nil)))) pa_nil)))))))) (pss_one (L2N.ps_raise rfl (L2N.takes_of rfl rfl rfl rfl) (L2N.pmk_own PySem.F.excBase_ValueError T.ex_BadRests T.g_BadRests T.ke_BadRests (raises_own T.sb_BadRests T.ty_BadRests) (by rfl)))) pss_nil)
      (pss_one (ps_ret (pe_lc (own := [("turn", 2)]) rfl sc_left.nd (pi_listK K (pv 1)) (blkOk_by (N := ["number", "rounds", "turn"]) (sc := defScope s_left) (by decide +kernel)) (fun _ _ _ _ _ => (pg_name (i := 2) sc_left.nd rfl (Or.inl rfl))) (fun _ _ _ _ _ => pts_nil) (fun _ _ _ _ _ => (pe_tup (pa_cons (pe_op op_mod (pv 0) (pv 2)) (pa_cons (pv 2) pa_nil)))))))), ?_⟩
      exact q_when (b := true) (et_is (et_or (et_not (et_B (ev_call0 (z := .bl true) (V.int n) (ea_cons (ev_var rfl) ea_nil) (fun H1 e => ⟨rfl, plain_int⟩) fun _ _ _ p => p))) fun _ => et_badL (f := isTurn) rfl hB (fun _ => rfl) fun _ => rfl) rfl) (fun _ H1 e1 => k _ e1) fun z => nomatch z
end
/-! ### asked at a door; the error's kinds -/
inductive EK where
  | r | n | d | s
  deriving DecidableEq
def ekC (A : Ad) : EK → Addr
  | .r => A.c_BadRests
  | .n => A.c_BadNumbers
  | .d => A.c_BadRound
  | .s => A.c_BadRest
def ekL (e : EK) : List Bool := [decide (e = .r), decide (e = .n), decide (e = .d), decide (e = .s), false, false, true]
def sp_l_kinds (e : EK) : Addr → Sp := fun a => spX (fun (_ : Unit) vs _ => vs = [.ref a]) (fun _ H v H' => NewL ((ekL e).map V.bl) H v H')
/-- at the def f: an error of the class C of these two -/
def Asks (P : Program) (w : World) (K : PySem.W.Frag) (mg : Str → Option Value) (base : Heap) (f C : Addr) (x y : V) (H : Hp) : Prop := ∃ fd ps sp, OkX P w K mg base 6 f fd ps sp ∧ ∀ H1, Ex H H1 → ∀ (Q : VK) (E : XK), (∀ H', Ex H1 H' → E (.ref C) none H') → sp [x, y] H1 Q E
def sp_l_told (P : Program) (w : World) (K : PySem.W.Frag) (mg : Str → Option Value) (base : Heap) (A : Ad) : Sp := spX (fun (x : Addr × V × V × EK) vs H => vs = [.ref x.1, x.2.1, x.2.2.1] ∧ Asks P w K mg base x.1 (ekC A x.2.2.2) x.2.1 x.2.2.1 H) (fun x H v H' => NewL ((ekL x.2.2.2).map V.bl) H v H')
structure AllD where
  f : Addr
  dv : V
  ds : List Int
  tv : V
  xs : List V
  uv : V
  e : EK
def sp_l_all (P : Program) (w : World) (K : PySem.W.Frag) (mg : Str → Option Value) (base : Heap) (A : Ad) : Sp := spX (fun (x : AllD) vs H => vs = [.ref x.f, x.dv, x.tv, x.uv] ∧ LstAt (iv x.ds) x.dv H ∧ LstAt x.xs x.tv H ∧ x.xs.length ≤ 10000 ∧ LstAt ((ekL x.e).map V.bl) x.uv H ∧ ∀ d ∈ x.ds, ∀ y ∈ x.xs, Asks P w K mg base x.f (ekC A x.e) (.int d) y H) (fun _ _ v _ => v = .bl true)
theorem dpa_bls {K : PySem.W.Frag} {H : Hp} : ∀ bs : List Bool, DpAll K H (bs.map V.bl) (bs.map .bool)
  | [] => .nil
  | b :: r => .cons (.bl b) (dpa_bls r)
theorem dp_bls {K : PySem.W.Frag} {H : Hp} {a : Addr} {bs : List Bool} (h : H a = some (.lst (bs.map V.bl))) : Dp K H (.ref a) (.list (bs.map .bool)) := .lst (sq_of h) (dpa_bls bs)
theorem sh_bls (e : EK) : SeqAt.shaped (.list ((ekL e).map .bool)) = true := by cases e <;> decide +kernel
theorem Asks.up {P : Program} {w : World} {K : PySem.W.Frag} {mg : Str → Option Value} {base : Heap} {f C : Addr} {x y : V} {H H' : Hp} (e : Ex H H') (h : Asks P w K mg base f C x y H) : Asks P w K mg base f C x y H' := by
  obtain ⟨fd, ps, sp, h1, h2⟩ := h
  exact ⟨fd, ps, sp, h1, fun H1 e1 => h2 H1 (e.trans e1)⟩
section
variable {P : Program} {w : World} {K : PySem.W.Frag} {mg : Str → Option Value} {base : Heap} {A : Ad}
theorem ev_isE {σ : L2.St} {H : Hp} {ta tb : TE} {a D : Addr} {c : V} {cv : Value} {b : Bool} (h : Ev ta σ H (.ref a)) (h2 : Ev tb σ H c) (hc : ∀ u, RelV c u → u = cv) (hk : PySem.W.kitOne K (.ref D) cv = some b) : Ev (tCB (rIsE K D a) (tCons ta (tCons tb tNil))) σ H (.bl b) := fun H1 e Q q =>
  h H1 e _ fun H2 e2 => h2 H2 (e.trans e2) _ fun H3 e3 => ⟨c, cv, b, rfl, hc, hk, q H3 (e2.trans e3)⟩
theorem rv_ref {C : Addr} : ∀ u, RelV (.ref C) u → u = .ref C := fun _ h => h
theorem rv_ty {n : String} : ∀ u, RelV (.ty n) u → u = .type n := fun _ h => h
theorem okp_l_kinds (T : Txt K mg A) (e : EK) : ∃ fd, FnP P w K mg base 1 A.a_l_kinds fd ["_law_error"] (ekC A e) (sp_l_kinds e) ∧ Binds K fd ["_law_error"] [] ∧ PySem.W.keepIn K (.ref A.a_l_kinds) = true := by
  obtain ⟨fd, F, b⟩ := T.F_l_kinds
  refine ⟨fd, fn_ofP F sc_l_kinds (fun a vs H Q E h => ?_) (fun cd Ar outer s H vs Q E p hot h => ?_), b, F.kp⟩
  · obtain ⟨_, rfl, _⟩ := h
    rfl
  · obtain ⟨_, rfl, k⟩ := h
    have C : ExcC K (ekC A e) := by cases e; exact T.xc_BadRests; exact T.xc_BadNumbers; exact T.xc_BadRound; exact T.xc_BadRest
    have hf : ∃ vs, p.2.data = .fields vs := hot.1.2.imp fun _ h => h.1
    have hp : (p.1, p.2) ∈ [p] := List.mem_singleton.mpr rfl
    refine ⟨_, (pss_cons (ps_set (i := 1) sc_l_kinds.nd rfl (.inl rfl) (pe_lst (pa_cons (pe_callB (call_isP K hot.1.1 hp C hot.2 hf) (by rfl) T.z_isinstance (by decide +kernel) (pa_cons (pv 0) (pa_cons (pe_glob (v := .ref A.c_BadRests) (by rfl) T.g_BadRests rfl) pa_nil))) (pa_cons (pe_callB (call_isP K hot.1.1 hp C hot.2 hf) (by rfl) T.z_isinstance (by decide +kernel) (pa_cons (pv 0) (pa_cons (pe_glob (v := .ref A.c_BadNumbers) (by rfl) T.g_BadNumbers rfl) pa_nil))) (pa_cons (pe_callB (call_isP K hot.1.1 hp C hot.2 hf) (by rfl) T.z_isinstance (by decide +kernel) (pa_cons (pv 0) (pa_cons (pe_glob (v := .ref A.c_BadRound) (by rfl) T.g_BadRound rfl) pa_nil))) pa_nil)))))
      (pss_cons (ps_set (i := 1) sc_l_kinds.nd rfl (.inl rfl) (pe_op op_cat (pv 1) (pe_lst (pa_cons (pe_callB (call_isP K hot.1.1 hp C hot.2 hf) (by rfl) T.z_isinstance (by decide +kernel) (pa_cons (pv 0) (pa_cons (pe_glob (v := .ref A.c_BadRest) (by rfl) T.g_BadRest rfl) pa_nil))) (pa_cons (pe_callB (call_isP K hot.1.1 hp C hot.2 hf) (by rfl) T.z_isinstance (by decide +kernel) (pa_cons (pv 0) (pa_cons (pe_glob (v := .ref A.c_BadCount) (by rfl) T.g_BadCount rfl) pa_nil))) (pa_cons (pe_callB (call_isP K hot.1.1 hp C hot.2 hf) (by rfl) T.z_isinstance (by decide +kernel) (pa_cons (pv 0) (pa_cons (pe_glob (v := .ref A.c_BadText) (by rfl) T.g_BadText rfl) pa_nil))) pa_nil))))))
      (pss_one (ps_ret (pe_op op_cat (pv 1) (pe_lst (pa_cons (pe_callB (call_isP K hot.1.1 hp C hot.2 hf) (by rfl) T.z_isinstance (by decide +kernel) (pa_cons (pv 0) (pa_cons (pe_bltn (v := .ty "ValueError") (by rfl) T.z_ValueError (by decide +kernel) rfl) pa_nil))) pa_nil))))))), ?_⟩
    have q1 : PySem.W.kitOne K (.ref (ekC A e)) (.ref A.c_BadRests) = some (decide (e = .r)) := by cases e; exact T.kq_BadRests_BadRests; exact T.kq_BadNumbers_BadRests; exact T.kq_BadRound_BadRests; exact T.kq_BadRest_BadRests
    have q2 : PySem.W.kitOne K (.ref (ekC A e)) (.ref A.c_BadNumbers) = some (decide (e = .n)) := by cases e; exact T.kq_BadRests_BadNumbers; exact T.kq_BadNumbers_BadNumbers; exact T.kq_BadRound_BadNumbers; exact T.kq_BadRest_BadNumbers
    have q3 : PySem.W.kitOne K (.ref (ekC A e)) (.ref A.c_BadRound) = some (decide (e = .d)) := by cases e; exact T.kq_BadRests_BadRound; exact T.kq_BadNumbers_BadRound; exact T.kq_BadRound_BadRound; exact T.kq_BadRest_BadRound
    have q4 : PySem.W.kitOne K (.ref (ekC A e)) (.ref A.c_BadRest) = some (decide (e = .s)) := by cases e; exact T.kq_BadRests_BadRest; exact T.kq_BadNumbers_BadRest; exact T.kq_BadRound_BadRest; exact T.kq_BadRest_BadRest
    have q5 : PySem.W.kitOne K (.ref (ekC A e)) (.ref A.c_BadCount) = some false := by cases e; exact T.kq_BadRests_BadCount; exact T.kq_BadNumbers_BadCount; exact T.kq_BadRound_BadCount; exact T.kq_BadRest_BadCount
    have q6 : PySem.W.kitOne K (.ref (ekC A e)) (.ref A.c_BadText) = some false := by cases e; exact T.kq_BadRests_BadText; exact T.kq_BadNumbers_BadText; exact T.kq_BadRound_BadText; exact T.kq_BadRest_BadText
    have q7 : PySem.W.kitOne K (.ref (ekC A e)) (.type "ValueError") = some true := by cases e; exact T.kq_BadRests_ValueError; exact T.kq_BadNumbers_ValueError; exact T.kq_BadRound_ValueError; exact T.kq_BadRest_ValueError
    refine q_asgR (er_new (xs := [V.bl (decide (e = .r)), V.bl (decide (e = .n)), V.bl (decide (e = .d))]) (ea_cons (ev_isE (ev_var rfl) ev_c rv_ref q1) (ea_cons (ev_isE (ev_var rfl) ev_c rv_ref q2) (ea_cons (ev_isE (ev_var rfl) ev_c rv_ref q3) ea_nil))) (by walk_at "sz")) fun v1 H1 e1 ⟨p1, hv1, hn1, hp1⟩ => ?_
    subst hv1
    refine q_asgR (er_cat (xs := [V.bl (decide (e = .r)), V.bl (decide (e = .n)), V.bl (decide (e = .d))]) (ys := [V.bl (decide (e = .s)), V.bl false, V.bl false]) ((evr (v := .ref p1) (ev_var rfl)).imp fun v H2 e2 hv => ⟨p1, hv, e2 _ _ hp1⟩) ((er_new (ea_cons (ev_isE (ev_var rfl) ev_c rv_ref q4) (ea_cons (ev_isE (ev_var rfl) ev_c rv_ref q5) (ea_cons (ev_isE (ev_var rfl) ev_c rv_ref q6) ea_nil))) (by walk_at "sz")).imp fun v H2 _ ⟨q, hv, _, hq⟩ => ⟨q, hv, hq⟩) (by walk_at "sz")) fun v2 H2 e2 ⟨p2, hv2, hn2, hp2⟩ => ?_
    subst hv2
    refine s_retR (er_cat (xs := [V.bl (decide (e = .r)), V.bl (decide (e = .n)), V.bl (decide (e = .d)), V.bl (decide (e = .s)), V.bl false, V.bl false]) (ys := [V.bl true]) ((evr (v := .ref p2) (ev_var rfl)).imp fun v H2 e2 hv => ⟨p2, hv, e2 _ _ hp2⟩) ((er_new (ea_cons (ev_isE (ev_var rfl) ev_c rv_ty q7) ea_nil) (by walk_at "sz")).imp fun v H2 _ ⟨q, hv, _, hq⟩ => ⟨q, hv, hq⟩) (by walk_at "sz")) fun v3 H3 e3 ⟨p3, hv3, hn3, hp3⟩ => k _ _ (e1.trans (e2.trans e3)) ⟨p3, hv3, fresh_back (e1.trans e2) hn3, hp3⟩
theorem okx_l_with_rests (T : Txt K mg A) : OkkX P w K mg base 6 A.a_l_with_rests ["_law_door", "_law_thing"] (spx_with_rests K A) := by
  obtain ⟨_, G_left, b_left, k_left⟩ := okx_left (P := P) (w := w) (base := base) T
  obtain ⟨_, G_told, b_told, k_told⟩ := okx_told (P := P) (w := w) (base := base) T
  obtain ⟨_, G_written, b_written, k_written⟩ := okx_written (P := P) (w := w) (base := base) T
  refine okkx T.F_l_with_rests sc_l_with_rests (fun vs H Q E h => ?_) (fun cdv Ar outer s H vs Q E hr h => ?_)
  · obtain ⟨d, ⟨rfl, _⟩, _⟩ := h
    rfl
  · have hr_left : Room 3 _ := hr.mono (by decide)
    have hr_told : Room 5 _ := hr.mono (by decide)
    have hr_written : Room 5 _ := hr.mono (by decide)
    obtain ⟨⟨d, v⟩, ⟨rfl, hB⟩, k⟩ := h
    refine ⟨_, (pss_one (ps_ret (pe_ifExp (pt_cmpR op_eq (pv 0) pe_int (nomark _)) (pe_call G_told hr_told (by rfl) T.g_told k_told b_told .nil (passE rfl rfl rfl rfl) (pa_cons (pv 1) pa_nil)) (pe_ifExp (pt_cmpR op_eq (pv 0) pe_int (nomark _)) (pe_call G_written hr_written (by rfl) T.g_written k_written b_written .nil (passE rfl rfl rfl rfl) (pa_cons (pv 1) pa_nil)) (pe_call G_left hr_left (by rfl) T.g_left k_left b_left .nil (passE rfl rfl rfl rfl) (pa_cons pe_int (pa_cons (pv 1) pa_nil))))))), ?_⟩
    refine s_retX (rz_if (et_test (ev_op (ev_var rfl) ev_c rv_eqI)) (fun h0 => rz_call (ea_cons (ev_var rfl) ea_nil) fun H1 e Q => ?_) fun h0 => rz_if (et_test (ev_op (ev_var rfl) ev_c rv_eqI)) (fun h1 => rz_call (ea_cons (ev_var rfl) ea_nil) fun H1 e Q => ?_) fun h1 => rz_call (ea_cons ev_c (ea_cons (ev_var rfl) ea_nil)) fun H1 e Q => ?_)
    · have h0 : d = 0 := of_decide_eq_true h0
      rcases hB with ⟨_, hB⟩ | ⟨h2, hB⟩
      · exact ⟨v, ⟨rfl, upBadRs _ _ _ e hB⟩, fun H' e' => k _ (e.trans e')⟩
      · have h2 : d = 2 := h2
        omega
    · have h1 : d = 1 := of_decide_eq_true h1
      rcases hB with ⟨_, hB⟩ | ⟨h2, hB⟩
      · exact ⟨v, ⟨rfl, upBadRs _ _ _ e hB⟩, fun H' e' => k _ (e.trans e')⟩
      · have h2 : d = 2 := h2
        omega
    · have h0 : ¬ d = 0 := of_decide_eq_false h0
      have h1 : ¬ d = 1 := of_decide_eq_false h1
      rcases hB with ⟨h2, hB⟩ | ⟨_, hB⟩
      · have h2 : d = 0 ∨ d = 1 := h2
        omega
      · exact .inr (.inr ⟨(5, v), ⟨rfl, upBadL _ _ _ e hB⟩, fun H' e' => k _ (e.trans e')⟩)
theorem okx_l_with_numbers (T : Txt K mg A) : OkkX P w K mg base 5 A.a_l_with_numbers ["_law_door", "_law_thing"] (spx_with_numbers K A) := by
  obtain ⟨_, G_chosen, b_chosen, k_chosen⟩ := okx_chosen (P := P) (w := w) (base := base) T
  obtain ⟨_, G_come, b_come, k_come⟩ := okx_come (P := P) (w := w) (base := base) T
  obtain ⟨_, G_common, b_common, k_common⟩ := okx_common (P := P) (w := w) (base := base) T
  obtain ⟨_, G_stretch, b_stretch, k_stretch⟩ := okx_stretch (P := P) (w := w) (base := base) T
  refine okkx T.F_l_with_numbers sc_l_with_numbers (fun vs H Q E h => ?_) (fun cdv Ar outer s H vs Q E hr h => ?_)
  · obtain ⟨d, ⟨rfl, _⟩, _⟩ := h
    rfl
  · have hr_chosen : Room 4 _ := hr.mono (by decide)
    have hr_come : Room 4 _ := hr.mono (by decide)
    have hr_common : Room 4 _ := hr.mono (by decide)
    have hr_stretch : Room 4 _ := hr.mono (by decide)
    obtain ⟨⟨d, v⟩, ⟨rfl, hB⟩, k⟩ := h
    refine ⟨_, (pss_cons (ps_if (pt_cmpR op_lt (pv 0) pe_int (nomark _)) (pss_one (ps_ret (pe_ifExp (pt_cmpR op_eq (pv 0) pe_int (nomark _)) (pe_call G_common hr_common (by rfl) T.g_common k_common b_common .nil (passE rfl rfl rfl rfl) (pa_cons (pv 1) pa_nil)) (pe_call G_come hr_come (by rfl) T.g_come k_come b_come .nil (passE rfl rfl rfl rfl) (pa_cons (pv 1) (pa_cons pe_non (pa_cons pe_non pa_nil))))))) pss_nil)
      (pss_one (ps_ret (pe_ifExp (pt_cmpR op_eq (pv 0) pe_int (nomark _)) (pe_call G_stretch hr_stretch (by rfl) T.g_stretch k_stretch b_stretch .nil (passE rfl rfl rfl rfl) (pa_cons (pv 1) pa_nil)) (pe_call G_chosen hr_chosen (by rfl) T.g_chosen k_chosen b_chosen .nil (passE rfl rfl rfl rfl) (pa_cons (pv 1) pa_nil)))))), ?_⟩
    refine q_when (et_test (ev_op (ev_var rfl) ev_c rv_I0)) (fun _ H1 e1 => s_retX (rz_if (et_test (ev_op (ev_var rfl) ev_c rv_eqI)) (fun _ => rz_call (ea_cons (ev_var rfl) ea_nil) fun H2 e Q => ?_) fun _ => rz_call (ea_cons (ev_var rfl) (ea_cons ev_c (ea_cons ev_c ea_nil))) fun H2 e Q => ?_)) fun _ H1 e1 =>
      s_retX (rz_if (et_test (ev_op (ev_var rfl) ev_c rv_eqI)) (fun _ => rz_call (ea_cons (ev_var rfl) ea_nil) fun H2 e Q => ?_) fun _ => rz_call (ea_cons (ev_var rfl) ea_nil) fun H2 e Q => ?_)
    · exact ⟨v, ⟨rfl, upBadL _ _ _ (e1.trans e) hB⟩, fun H' e' => k _ (e1.trans (e.trans e'))⟩
    · exact .inl ⟨(v, .non, .non), ⟨rfl, upBadL _ _ _ (e1.trans e) hB⟩, fun H' e' => k _ (e1.trans (e.trans e'))⟩
    · exact ⟨v, ⟨rfl, upBadL _ _ _ (e1.trans e) hB⟩, fun H' e' => k _ (e1.trans (e.trans e'))⟩
    · exact ⟨v, ⟨rfl, upBadL _ _ _ (e1.trans e) hB⟩, fun H' e' => k _ (e1.trans (e.trans e'))⟩
theorem rz_callR {σ : L2.St} {H : Hp} {tl : TA} {sp : Sp} {E : XK} {T : List V → Hp → Prop} (h : EvAR tl σ H T) (k : ∀ vs H1, Ex H H1 → T vs H1 → ∀ Q, sp vs H1 Q E) : Rz (tCall sp [] E tl) σ H := fun H1 e Q => h H1 e _ fun vs H2 e2 p => by
  show sp (vs ++ []) H2 Q E
  rw [List.append_nil]
  exact k vs H2 (e.trans e2) p Q
/-- a call whose first argument is told by facts, that never comes to a value -/
theorem rz_call1 {σ : L2.St} {H : Hp} {te : TE} {tl : TA} {vs : List V} {sp : Sp} {E : XK} {R : V → Hp → Prop} (h : EvR te σ H R) (h2 : EvA tl σ H vs) (k : ∀ v H1 H2, Ex H H1 → Ex H1 H2 → R v H1 → ∀ Q, sp (v :: vs) H2 Q E) : Rz (tCall sp [] E (tCons te tl)) σ H := fun H1 e Q => h H1 e _ fun v H2 e2 p => h2 H2 (e.trans e2) _ fun H3 e3 => by
  show sp ((v :: vs) ++ []) H3 Q E
  rw [List.append_nil]
  exact k v H2 H3 (e.trans e2) e3 p Q
theorem okx_l_with_turn (T : Txt K mg A) : OkkX P w K mg base 5 A.a_l_with_turn ["_law_door", "_law_thing"] (spx_with_turn K A) := by
  obtain ⟨_, G_back, b_back, k_back⟩ := okx_back (P := P) (w := w) (base := base) T
  obtain ⟨_, G_come, b_come, k_come⟩ := okx_come (P := P) (w := w) (base := base) T
  refine okkx T.F_l_with_turn sc_l_with_turn (fun vs H Q E h => ?_) (fun cdv Ar outer s H vs Q E hr h => ?_)
  · obtain ⟨d, ⟨rfl, _⟩, _⟩ := h
    rfl
  · have hr_back : Room 4 _ := hr.mono (by decide)
    have hr_come : Room 4 _ := hr.mono (by decide)
    obtain ⟨⟨d, v⟩, ⟨rfl, hB⟩, k⟩ := h
    refine ⟨_, (pss_one (ps_ret (pe_ifExp (pt_cmpR op_eq (pv 0) pe_int (nomark _)) (pe_call G_come hr_come (by rfl) T.g_come k_come b_come .nil (passE rfl rfl rfl rfl) (pa_cons (pe_lst (pa_cons pe_int pa_nil)) (pa_cons (pv 1) (pa_cons pe_non pa_nil)))) (pe_call G_back hr_back (by rfl) T.g_back k_back b_back .nil (passE rfl rfl rfl rfl) (pa_cons pe_int (pa_cons (pv 1) pa_nil)))))), ?_⟩
    refine s_retX (rz_if (et_test (ev_op (ev_var rfl) ev_c rv_eqI)) (fun _ => rz_call1 (good_num (K := K) ev_c (by decide) (by decide)) (ea_cons (ev_var rfl) (ea_cons ev_c ea_nil)) fun x H1 H2 e e2 hx Q => ?_) fun _ => rz_call (ea_cons ev_c (ea_cons (ev_var rfl) ea_nil)) fun H2 e Q => ?_)
    · exact .inr (.inl ⟨(x, v, .non), ⟨rfl, hx.up e2, upBad1 _ _ _ (e.trans e2) hB⟩, fun H' e' => k _ (e.trans (e2.trans e'))⟩)
    · exact .inr ⟨(.int 4, v), ⟨rfl, plain_int, rfl, upBad1 _ _ _ e hB⟩, fun H' e' => k _ (e.trans e')⟩
theorem okx_l_with_rest (T : Txt K mg A) : OkkX P w K mg base 5 A.a_l_with_rest ["_law_turn", "_law_thing"] (spx_with_rest K A) := by
  obtain ⟨_, G_come, b_come, k_come⟩ := okx_come (P := P) (w := w) (base := base) T
  refine okkx T.F_l_with_rest sc_l_with_rest (fun vs H Q E h => ?_) (fun cdv Ar outer s H vs Q E hr h => ?_)
  · obtain ⟨d, ⟨rfl, _⟩, _⟩ := h
    rfl
  · have hr_come : Room 4 _ := hr.mono (by decide)
    obtain ⟨⟨t, v⟩, ⟨rfl, t0, t1, hB⟩, k⟩ := h
    refine ⟨_, (pss_one (ps_ret (pe_call G_come hr_come (by rfl) T.g_come k_come b_come .nil (passE rfl rfl rfl rfl) (pa_cons (pe_lst (pa_cons pe_int pa_nil)) (pa_cons (pv 0) (pa_cons (pv 1) pa_nil)))))), ?_⟩
    refine s_retX (rz_call1 (good_num (K := K) ev_c (by decide) (by decide)) (ea_cons (ev_var rfl) (ea_cons (ev_var rfl) ea_nil)) fun x H1 H2 e e2 hx Q => ?_)
    exact .inr (.inr ⟨(x, t, v), ⟨rfl, hx.up e2, t0, t1, upBad1 _ _ _ (e.trans e2) hB⟩, fun H' e' => k _ (e.trans (e2.trans e'))⟩)
theorem okx_l_with_number (T : Txt K mg A) : OkkX P w K mg base 5 A.a_l_with_number ["_law_door", "_law_thing"] (spx_with_number K A) := by
  obtain ⟨_, G_back, b_back, k_back⟩ := okx_back (P := P) (w := w) (base := base) T
  obtain ⟨_, G_left, b_left, k_left⟩ := okx_left (P := P) (w := w) (base := base) T
  refine okkx T.F_l_with_number sc_l_with_number (fun vs H Q E h => ?_) (fun cdv Ar outer s H vs Q E hr h => ?_)
  · rcases h with ⟨d, ⟨rfl, _⟩, _⟩ | ⟨d, ⟨rfl, _⟩, _⟩ <;> rfl
  · have hr_back : Room 4 _ := hr.mono (by decide)
    have hr_left : Room 3 _ := hr.mono (by decide)
    rcases h with ⟨v, ⟨rfl, hB⟩, k⟩ | ⟨v, ⟨rfl, hB⟩, k⟩
    · refine ⟨_, (pss_one (ps_ret (pe_ifExp (pt_cmpR op_eq (pv 0) pe_int (nomark _)) (pe_call G_back hr_back (by rfl) T.g_back k_back b_back .nil (passE rfl rfl rfl rfl) (pa_cons (pv 1) (pa_cons pe_non pa_nil))) (pe_call G_left hr_left (by rfl) T.g_left k_left b_left .nil (passE rfl rfl rfl rfl) (pa_cons (pv 1) (pa_cons (pe_lst (pa_cons pe_int pa_nil)) pa_nil)))))), ?_⟩
      exact s_retX (rz_if (b := true) (et_is (et_test (ev_op (ev_var rfl) ev_c rv_eqI)) rfl) (fun _ => rz_call (ea_cons (ev_var rfl) (ea_cons ev_c ea_nil)) fun H1 e Q => .inl ⟨(v, .non), ⟨rfl, upBad1 _ _ _ e hB⟩, fun H' e' => k _ (e.trans e')⟩) fun z => nomatch z)
    · refine ⟨_, (pss_one (ps_ret (pe_ifExp (pt_cmpR op_eq (pv 0) pe_int (nomark _)) (pe_call G_back hr_back (by rfl) T.g_back k_back b_back .nil (passE rfl rfl rfl rfl) (pa_cons (pv 1) (pa_cons pe_non pa_nil))) (pe_call G_left hr_left (by rfl) T.g_left k_left b_left .nil (passE rfl rfl rfl rfl) (pa_cons (pv 1) (pa_cons (pe_lst (pa_cons pe_int pa_nil)) pa_nil)))))), ?_⟩
      refine s_retX (rz_if (b := false) (et_is (et_test (ev_op (ev_var rfl) ev_c rv_eqI)) rfl) (fun z => nomatch z) fun _ => rz_callR (T := fun vs _ => ∃ y, vs = [v, y]) (ear_cons (evr (v := v) (ev_var rfl)) fun x H2 e2 hx => (ear_one (er_new (xs := [.int 5]) (ea_cons ev_c ea_nil) (by decide))).imp fun vs H3 _ ⟨y, hvs, _⟩ => ⟨y, by rw [hx, hvs]⟩) fun vs H1 e ⟨y, hvs⟩ Q => ?_)
      subst hvs
      exact .inr (.inl ⟨(v, y), ⟨rfl, upBad1 _ _ _ e hB⟩, fun H' e' => k _ (e.trans e')⟩)
end
section
variable {P : Program} {w : World} {K : PySem.W.Frag} {mg : Str → Option Value} {base : Heap} {A : Ad}
theorem roomH_mark {j k : Nat} {B : Around} {v : Option Value} (hr : Room k B) (hj : j ≤ k) : L2H.RoomH j (B.mark v) := ⟨by have := hr.dp; show B.depth + 3 * j + 5 < _; omega, by have := hr.un; show B.units + 16 * j + 200 < _; omega⟩
theorem ok_l_told (T : Txt K mg A) : Okk P w K mg base 7 A.a_l_told ["_law_ask", "_law_one", "_law_other"] (sp_l_told P w K mg base A) := by
  refine okk T.F_l_told sc_l_told (fun vs H Q E h => ?_) (fun cdv Ar outer s H vs Q E hr h => ?_)
  · obtain ⟨d, ⟨rfl, _⟩, _⟩ := h
    rfl
  · obtain ⟨⟨f, x, y, e⟩, ⟨rfl, fd, ps, sp, ho, hs⟩, k⟩ := h
    obtain ⟨fdk, Fk, bk, kk⟩ := okp_l_kinds (P := P) (w := w) (mg := mg) (base := base) T e
    refine ⟨_, (pss_cons (L2N.ps_try_as (i := 3) (tb := fun W => tDrop (tCallLX P w K mg base 6 0 W (tCons (tVar 1) (tCons (tVar 2) tNil)))) (ts := fun a cls d => tRet (tCallP P w K mg base 1 A.a_l_kinds cls d a (tCons (tVar 3) tNil))) (Wout := fun _ _ _ _ => False) rfl rfl sc_l_told.nd rfl rfl ⟨rfl, by decide, Or.inl T.g_RestError⟩ takes0N
      (fun W pn xe tk _ => pss_one (ps_expr (by exact (pe_callLX tk hr rfl (.inl rfl) (pa_cons (pv 1) (pa_cons (pv 2) pa_nil))))))
      (fun a oe cls d pn hz hf => pss_one (ps_ret (by exact (pe_callP (oe := oe) (roomH_mark hr (by decide)) ⟨rfl, hf.imp fun vs hd => ⟨hd, hz.2.2 vs hd⟩⟩ List.mem_cons_self hz.zc (by rfl) T.g_l_kinds kk (pa_cons (pv 3) pa_nil))))))
      (pss_one (ps_ret (pe_lst pa_nil)))), ?_⟩
    have em : PySem.W.exmOne K (.ref (ekC A e)) (.ref A.c_RestError) = some true := by cases e; exact T.em_BadRests_RestError; exact T.em_BadNumbers_RestError; exact T.em_BadRound_RestError; exact T.em_BadRest_RestError
    refine ⟨f, fd, ps, sp, rfl, ho, ?_⟩
    refine (ea_cons (ev_var rfl) (ea_cons (ev_var rfl) ea_nil) : EvA (tCons (tVar 1) (tCons (tVar 2) tNil)) [some (.ref f), some x, some y, none] H [x, y]) H (Ex.refl _) _ fun H1 e1 => hs H1 e1 _ _ fun H2 e2 => ⟨true, em, fun _ a ha => ?_, fun z => nomatch z⟩
    refine s_retR (R := fun v H3 => NewL ((ekL e).map V.bl) H2 v H3) (σ := [some (.ref f), some x, some y, some (.ref a)]) (fun H3 e3 Q' q => ⟨ekC A e, fdk, _, _, rfl, rfl, Fk, bk, (ea_cons (ev_var rfl) ea_nil : EvA (tCons (tVar 3) tNil) [some (.ref f), some x, some y, some (.ref a)] H3 [.ref a]) H3 (Ex.refl _) _ fun H4 e4 => ⟨(), rfl, fun v H5 e5 ⟨p, hv, hn, hp⟩ => q v H5 (e4.trans e5) ⟨p, hv, fresh_back (e3.trans e4) hn, hp⟩⟩⟩) fun v H3 e3 ⟨p, hv, hn, hp⟩ => k _ _ (e1.trans (e2.trans e3)) ⟨p, hv, fresh_back (e1.trans e2) hn, hp⟩
theorem ok_l_all (T : Txt K mg A) : Okk P w K mg base 8 A.a_l_all ["_law_ask", "_law_doors", "_law_things", "_law_due"] (sp_l_all P w K mg base A) := by
  obtain ⟨_, G_l_told, b_l_told, k_l_told⟩ := ok_l_told (P := P) (w := w) (base := base) T
  refine okk T.F_l_all sc_l_all (fun vs H Q E h => ?_) (fun cdv Ar outer s H vs Q E hr h => ?_)
  · obtain ⟨d, ⟨rfl, _⟩, _⟩ := h
    rfl
  · obtain ⟨⟨f, _, ds, _, xs, _, e⟩, ⟨rfl, ⟨pd, rfl, hd⟩, ⟨pt, rfl, ht⟩, hl, ⟨pu, rfl, hu⟩, hA⟩, k⟩ := h
    dsimp only at hd ht hl hu hA
    have hr_l_told : Room 7 _ := hr.mono (by decide)
    refine ⟨_, (pss_cons (ps_for PassesOwn.never rfl (pi_listK K (pv 1)) (pg_name (i := 4) sc_l_all.nd rfl (Or.inr rfl)) (pss_one (ps_if (pt_not (pt_val (pe_callB (allK K rfl) (by rfl) T.z_all (by decide +kernel) (pa_cons (pe_lc (own := [("_law_thing", 5)]) rfl sc_l_all.nd (pi_listK K (pv 2)) (blkOk_by (N := ["_law_ask", "_law_doors", "_law_things", "_law_due", "_law_door", "_law_thing"]) (sc := defScope s_l_all) (by decide +kernel)) (fun _ _ _ _ _ => (pg_name (i := 5) sc_l_all.nd rfl (Or.inl rfl))) (fun _ _ _ _ _ => pts_nil) (fun _ _ _ _ _ => (pe_cmpR (eqDK K hr.units) (pe_call G_l_told hr_l_told (by rfl) T.g_l_told k_l_told b_l_told .nil pass0 (pa_cons (pv 0) (pa_cons (pv 4) (pa_cons (pv 5) pa_nil)))) (pv 3) (nomark _)))) pa_nil)))) (pss_one (ps_ret pe_bl)) pss_nil)))
      (pss_one (ps_ret pe_bl))), ?_⟩
    refine q_forL (xs := iv ds) (ev_var rfl) (sq_of hd) (fun i σ' H' => ∃ s4 : Option V, σ' = [some (.ref f), some (.ref pd), some (.ref pt), some (.ref pu), s4, none] ∧ Ex H H') (fun H1 e1 => ⟨_, rfl, e1⟩) (fun i σ' H' _ ⟨_, _, e⟩ => sq_of (e _ _ hd)) (fun i x σ' H' hx hP => ?_) fun σ' H' hP => ?_
    · obtain ⟨s4, rfl, e1⟩ := hP
      obtain ⟨hi, rfl⟩ := iv_get hx
      have ht1 := e1 _ _ ht
      show tIfS _ _ _ _ _ _
      refine s_when (b := false) ?_ (fun z => nomatch z) fun _ H2 e2 => ⟨_, rfl, e1.trans e2⟩
      refine et_is (et_not (et_B (ev_is (ev_allR (bs := (List.range xs.length).map fun _ => true) (er_lcLn (fun j y _ => y = .bl true) stb_val (ev_var rfl) (sq_of ht1) (by omega) (fun _ => rfl) fun j x hj => ?_) fun v H1 _ h => ?_) (w := .bl true) (congrArg V.bl (all_true fun _ _ => rfl))))) rfl
      · refine evr (ev_opR (Ra := NewL ((ekL e).map V.bl) H') (er_call (f, .int (ds.getD i 0), x, e) (ea_cons (ev_var rfl) (ea_cons (ev_var rfl) (ea_cons (ev_var rfl) ea_nil))) (fun H2 e2 => ⟨rfl, (hA _ (getD_mem hi) x (List.mem_of_getElem? hj)).up (e1.trans e2)⟩) fun H2 v H3 e2 _ ⟨p, hv, hn, hp⟩ => ⟨p, hv, fresh_back e2 hn, hp⟩) (ev_var rfl) fun v H2 e2 ⟨p, hv, _, hp⟩ => ?_)
        subst hv
        exact rv_eqSame (dp_bls hp) (dp_bls (e2 _ _ (e1 _ _ hu))) (sh_bls e)
      · have h2 := LcR.sq (K := K) h
        rw [List.map_map]
        exact h2
    · obtain ⟨s4, rfl, e1⟩ := hP
      exact s_ret ev_c fun H2 e2 => k _ _ (e1.trans e2) rfl
end
/-! ### bad things made -/
def Live (x : V) (H : Hp) : Prop := ∀ p, x = .ref p → ∃ o, H p = some o
def Bd (R : V → Hp → Prop) (x : V) (H : Hp) : Prop := R x H ∧ Live x H
theorem upBd {R : V → Hp → Prop} (up : UpH R) : UpH (Bd R) := fun x H H' e ⟨h, l⟩ => ⟨up _ _ _ e h, fun p hp => (l p hp).imp fun _ q => e _ _ q⟩
theorem live_c {x : V} {H : Hp} (h : ∀ p, x ≠ .ref p) : Live x H := fun p hp => absurd hp (h p)
theorem live_at {p : Addr} {o : HO} {H : Hp} (h : H p = some o) : Live (.ref p) H := fun q hq => by
  cases hq
  exact ⟨o, h⟩
section
variable {K : PySem.W.Frag} {H : Hp} {σ : L2.St} {ta tb tc te : TE} {x y z : V} {a : Addr} {ys zs : List V}
/-- a list's change leaves types and pairs -/
theorem tyx_mut {t : Value} (hl : H a = some (.lst ys)) (h : TyX K H x t) : TyX K (upd H a (.lst zs)) x t := by
  cases h with
  | base b =>
    refine .base ?_
    cases b with
    | non => exact .non
    | bl y => exact .bl y
    | int i => exact .int i
    | str y => exact .str y
    | flt y => exact .flt y
    | @lst a' xs ea =>
      by_cases e : a' = a
      · subst e
        exact .lst upd_same
      · exact .lst (by rw [upd_ne e]; exact ea)
    | frz ea => exact .frz (by rw [upd_ne (ne_of ea hl (by intro z; cases z))]; exact ea)
    | tup ea => exact .tup (by rw [upd_ne (ne_of ea hl (by intro z; cases z))]; exact ea)
    | dK ea => exact .dK (by rw [upd_ne (ne_of ea hl (by intro z; cases z))]; exact ea)
    | dT ea => exact .dT (by rw [upd_ne (ne_of ea hl (by intro z; cases z))]; exact ea)
    | ins ea cl ha hn htk hm => exact .ins (by rw [upd_ne (ne_of ea hl (by intro z; cases z))]; exact ea) cl ha hn htk hm
  | byt y => exact .byt y
  | set ea => exact .set (by rw [upd_ne (ne_of ea hl (by intro z; cases z))]; exact ea)
  | kList ea c => exact .kList ea c
  | kTuple ea c => exact .kTuple ea c
  | kDict ea c => exact .kDict ea c
  | fTuple ea => exact .fTuple (by rw [upd_ne (ne_of ea hl (by intro z; cases z))]; exact ea)
  | fDict ea => exact .fDict (by rw [upd_ne (ne_of ea hl (by intro z; cases z))]; exact ea)
theorem NotTy.mut {n : String} (hl : H a = some (.lst ys)) (h : NotTy K H x n) : NotTy K (upd H a (.lst zs)) x n := by
  obtain ⟨m, h1, h2⟩ := h
  exact ⟨m, tyx_mut hl h1, h2⟩
theorem PlainV.mut (hl : H a = some (.lst ys)) (h : PlainV K H x) : PlainV K (upd H a (.lst zs)) x := by
  obtain ⟨m, h1, h2⟩ := h
  exact ⟨m, tyx_mut hl h1, h2⟩
theorem RestB.mut {b : Bool} (hl : H a = some (.lst ys)) (h : RestB K H x b) : RestB K (upd H a (.lst zs)) x b := by
  rcases h with ⟨h1, h2⟩ | ⟨t, xs, h1, h2, h3⟩ | ⟨t, p, q, h1, h2, h3, h4, h5⟩
  · exact .inl ⟨h1.mut hl, h2⟩
  · exact .inr (.inl ⟨t, xs, h1, by rw [upd_ne (ne_of h2 hl (by intro z; cases z))]; exact h2, h3⟩)
  · exact .inr (.inr ⟨t, p, q, h1, by rw [upd_ne (ne_of h2 hl (by intro z; cases z))]; exact h2, h3.mut hl, h4.mut hl, h5⟩)
theorem RBs.mut (hl : H a = some (.lst ys)) : ∀ {xs : List V} {bs : List Bool}, RBs K H xs bs → RBs K (upd H a (.lst zs)) xs bs
  | [], [], h => h
  | _ :: _, _ :: _, h => ⟨h.1.mut hl, RBs.mut hl h.2⟩
  | [], _ :: _, h => h
  | _ :: _, [], h => h
/-- R is left by a change of a list other than it -/
def MutH (R : V → Hp → Prop) : Prop := ∀ (x : V) (H : Hp) (a : Addr) (ys zs : List V), H a = some (.lst ys) → x ≠ .ref a → R x H → R x (upd H a (.lst zs))
theorem mutBadRs : MutH (BadRs K) := fun x H a ys zs hl hx h => by
  rcases h with h | ⟨b, xs, bs, h1, h2, h3, h4, h5⟩
  · exact .inl (h.mut hl)
  · exact .inr ⟨b, xs, bs, h1, by rw [upd_ne (fun e => hx (by rw [h1, e]))]; exact h2, h3, h4.mut hl, h5⟩
theorem mutBadL {f : V → Bool} : MutH (BadL K f) := fun x H a ys zs hl hx h => by
  rcases h with h | ⟨b, xs, h1, h2, h3, h4, h5⟩
  · exact .inl (h.mut hl)
  · exact .inr ⟨b, xs, h1, by rw [upd_ne (fun e => hx (by rw [h1, e]))]; exact h2, h3, fun y hy => (h4 y hy).mut hl, h5⟩
theorem Live.mut (hl : H a = some (.lst ys)) (h : Live x H) : Live x (upd H a (.lst zs)) := fun p hp => by
  by_cases e : p = a
  · subst e
    exact ⟨_, upd_same⟩
  · obtain ⟨o, q⟩ := h p hp
    exact ⟨o, by rw [upd_ne e]; exact q⟩
theorem mutBd {R : V → Hp → Prop} (m : MutH R) : MutH (Bd R) := fun x H a ys zs hl hx ⟨h1, h2⟩ => ⟨m x H a ys zs hl hx h1, h2.mut hl⟩
/-! constants, other types -/
theorem nl_non : NotTy K H .non "list" := ⟨"NoneType", .base .non, by decide, by decide⟩
theorem nl_str {s : Str} : NotTy K H (.str s) "list" := ⟨"str", .base (.str s), by decide, by decide⟩
theorem nl_int {i : Int} : NotTy K H (.int i) "list" := ⟨"int", .base (.int i), by decide, by decide⟩
theorem nt_non : NotTy K H .non "tuple" := ⟨"NoneType", .base .non, by decide, by decide⟩
theorem nt_int {i : Int} : NotTy K H (.int i) "tuple" := ⟨"int", .base (.int i), by decide, by decide⟩
/-- R of what is no list -/
def NoL (K : PySem.W.Frag) (R : V → Hp → Prop) : Prop := ∀ x H, NotTy K H x "list" → R x H
theorem noBadRs : NoL K (BadRs K) := fun _ _ h => .inl h
theorem noBadL {f : V → Bool} : NoL K (BadL K f) := fun _ _ h => .inl h
theorem t_c {R : V → Hp → Prop} (hR : NoL K R) (h : Ev te σ H x) (hx : ∀ H, NotTy K H x "list") (hc : ∀ p, x ≠ .ref p) : EvR te σ H (Bd R) := (evr h).imp fun v H2 _ hv => by
  rw [hv]
  exact ⟨hR _ _ (hx H2), live_c hc⟩
theorem t_tup0 {R : V → Hp → Prop} (hR : NoL K R) : EvR (tTup tNil) σ H (Bd R) := (eur (eu_tup ea_nil (by show 0 ≤ 100000; decide))).imp fun v H2 _ ⟨p, hv, _, hp⟩ => by
  rw [hv]
  exact ⟨hR _ _ ⟨"tuple", .base (.tup hp), by decide, by decide⟩, live_at hp⟩
theorem t_dict {R : V → Hp → Prop} (hR : NoL K R) : EvR tDNewK σ H (Bd R) := fun H1 e Q q p hp => q _ _ (Ex.new hp) ⟨hR _ _ ⟨"dict", .base (.dK upd_same), by decide, by decide⟩, live_at upd_same⟩
/-! lists of one -/
theorem t_r1 (h : EvR te σ H (fun x H => RestB K H x false)) : EvR (tLst (tCons te tNil)) σ H (Bd (BadRs K)) := (er_lst (T := fun vs H => ∃ x, vs = [x] ∧ RestB K H x false) (ear_one h) (fun vs H1 ⟨x, hv, _⟩ => by rw [hv]; show 1 ≤ 100000; decide)).imp fun v H2 _ ⟨p, vs, H3, hv, _, e3, ⟨x, hvs, hx⟩, hp⟩ => by
  rw [hv]
  rw [hvs] at hp
  exact ⟨.inr ⟨p, [x], [false], rfl, hp, by show 1 ≤ 10000; decide, ⟨hx.up e3, trivial⟩, rfl⟩, live_at hp⟩
theorem r_c (h : Ev te σ H x) (hx : ∀ H, NotTy K H x "tuple") : EvR te σ H (fun x H => RestB K H x false) := (evr h).imp fun v H2 _ hv => by
  rw [hv]
  exact .inl ⟨hx H2, rfl⟩
theorem r_2 (h : Ev ta σ H x) (h2 : Ev tb σ H y) (px : ∀ H, PlainV K H x) (py : ∀ H, PlainV K H y) (hf : restF x y = false) : EvR (tTup (tCons ta (tCons tb tNil))) σ H (fun x H => RestB K H x false) := (eur (eu_tup (ea_cons h (ea_cons h2 ea_nil)) (by show 2 ≤ 100000; decide))).imp fun v H2 _ ⟨p, hv, _, hp⟩ => .inr (.inr ⟨p, x, y, hv, hp, px _, py _, hf.symm⟩)
theorem r_1 (h : Ev ta σ H x) : EvR (tTup (tCons ta tNil)) σ H (fun x H => RestB K H x false) := (eur (eu_tup (ea_cons h ea_nil) (by show 1 ≤ 100000; decide))).imp fun v H2 _ ⟨p, hv, _, hp⟩ => .inr (.inl ⟨p, [x], hv, hp, by show 1 ≠ 2; decide, rfl⟩)
theorem r_3 (h : Ev ta σ H x) (h2 : Ev tb σ H y) (h3 : Ev tc σ H z) : EvR (tTup (tCons ta (tCons tb (tCons tc tNil)))) σ H (fun x H => RestB K H x false) := (eur (eu_tup (ea_cons h (ea_cons h2 (ea_cons h3 ea_nil))) (by show 3 ≤ 100000; decide))).imp fun v H2 _ ⟨p, hv, _, hp⟩ => .inr (.inl ⟨p, [x, y, z], hv, hp, by show 3 ≠ 2; decide, rfl⟩)
theorem r_l (h : Ev ta σ H x) (h2 : Ev tb σ H y) : EvR (tLst (tCons ta (tCons tb tNil))) σ H (fun x H => RestB K H x false) := (er_new (ea_cons h (ea_cons h2 ea_nil)) (by show 2 ≤ 100000; decide)).imp fun v H2 _ ⟨p, hv, _, hp⟩ => by
  rw [hv]
  exact .inl ⟨⟨"list", .base (.lst hp), by decide, by decide⟩, rfl⟩
theorem t_l1 {f : V → Bool} (h : EvR te σ H (Bad1 K f)) : EvR (tLst (tCons te tNil)) σ H (Bd (BadL K f)) := (er_lst (T := fun vs H => ∃ x, vs = [x] ∧ Bad1 K f x H) (ear_one h) (fun vs H1 ⟨x, hv, _⟩ => by rw [hv]; show 1 ≤ 100000; decide)).imp fun v H2 _ ⟨p, vs, H3, hv, _, e3, ⟨x, hvs, hx, hf⟩, hp⟩ => by
  rw [hv]
  rw [hvs] at hp
  exact ⟨.inr ⟨p, [x], rfl, hp, by show 1 ≤ 10000; decide, fun y hy => by rw [List.mem_singleton.mp hy]; exact hx.up e3, by simp only [List.all_cons, hf, Bool.false_and]⟩, live_at hp⟩
theorem t_l2 {f : V → Bool} (h : Ev ta σ H x) (h2 : Ev tb σ H y) (px : ∀ H, PlainV K H x) (py : ∀ H, PlainV K H y) (hf : f y = false) : EvR (tLst (tCons ta (tCons tb tNil))) σ H (Bd (BadL K f)) := (er_new (ea_cons h (ea_cons h2 ea_nil)) (by show 2 ≤ 100000; decide)).imp fun v H2 _ ⟨p, hv, _, hp⟩ => by
  rw [hv]
  refine ⟨.inr ⟨p, [x, y], rfl, hp, by show 2 ≤ 10000; decide, fun w hw => ?_, by simp only [List.all_cons, hf, Bool.false_and, Bool.and_false]⟩, live_at hp⟩
  simp only [List.mem_cons, List.not_mem_nil, or_false] at hw
  rcases hw with rfl | rfl
  · exact px _
  · exact py _
theorem b_c {f : V → Bool} (h : Ev te σ H x) (px : ∀ H, PlainV K H x) (hf : f x = false) : EvR te σ H (Bad1 K f) := (evr h).imp fun v H2 _ hv => by
  rw [hv]
  exact ⟨px _, hf⟩
theorem b_l {f : V → Bool} (h : Ev te σ H x) (hf : ∀ p, f (.ref p) = false) : EvR (tLst (tCons te tNil)) σ H (Bad1 K f) := (er_new (ea_cons h ea_nil) (by show 1 ≤ 100000; decide)).imp fun v H2 _ ⟨p, hv, _, hp⟩ => by
  rw [hv]
  exact ⟨⟨"list", .base (.lst hp), by decide⟩, hf p⟩
/-! lists of bad things -/
def BadList (n : Nat) (R : V → Hp → Prop) (v : V) (H : Hp) : Prop := ∃ a xs, v = .ref a ∧ H a = some (.lst xs) ∧ xs.length ≤ n ∧ ∀ x ∈ xs, R x H ∧ x ≠ .ref a
theorem er_bads {n : Nat} {tl : TA} {R : V → Hp → Prop} (up : UpH R) (h : EvAR tl σ H (AllH n (Bd R))) (hn : n ≤ 100000) : EvR (tLst tl) σ H (fun v H2 => BadList n (Bd R) v H2 ∧ ∃ a, v = .ref a ∧ H a = none) := fun H1 e Q q => h H1 e _ fun vs H2 e2 p =>
  ⟨sz_of (by rw [p.1]; exact hn), fun l hl => q _ _ (e2.trans (Ex.new hl)) ⟨⟨l, vs, rfl, upd_same, Nat.le_of_eq p.1, fun x hx => ⟨upBd up _ _ _ (Ex.new hl) (p.2 x hx), fun e => by
    obtain ⟨o, ho⟩ := (p.2 x hx).2 l e
    rw [hl] at ho
    cases ho⟩⟩, l, rfl, fresh_back (e.trans e2) hl⟩⟩
theorem er_badsCat {n m : Nat} {tl : TA} {R : V → Hp → Prop} {v : V} (up : UpH R) (ha : Ev ta σ H v) (hv : BadList n (Bd R) v H) (h : EvAR tl σ H (AllH m (Bd R))) (hn : n + m ≤ 100000) : EvR (tOp rCat ta (tLst tl)) σ H (fun v H2 => BadList (n + m) (Bd R) v H2 ∧ ∃ a, v = .ref a ∧ H a = none) := fun H1 e Q q =>
  ha H1 e _ fun H2 e2 => er_bads up h (by omega) H2 (e.trans e2) _ fun w H3 e3 ⟨⟨b, ys, hw, hb, hlb, hB⟩, _⟩ => by
    obtain ⟨a, xs, rfl, hA, hla, hX⟩ := hv
    have eT := (e.trans e2).trans e3
    refine ⟨a, b, xs, ys, rfl, hw, eT _ _ hA, hb, sz_of (by omega), fun l hl => q _ _ ((e2.trans e3).trans (Ex.new hl)) ⟨⟨l, _, rfl, upd_same, by rw [List.length_append]; omega, fun x hx => ?_⟩, l, rfl, fresh_back eT hl⟩⟩
    have hB3 : Bd R x H3 := by
      rcases List.mem_append.mp hx with h | h
      · exact upBd up _ _ _ eT (hX x h).1
      · exact (hB x h).1
    refine ⟨upBd up _ _ _ (Ex.new hl) hB3, fun z => ?_⟩
    obtain ⟨o, ho⟩ := hB3.2 l z
    rw [hl] at ho
    cases ho
theorem badList_app {n : Nat} {R : V → Hp → Prop} (m : MutH R) {xs : List V} (hl : H a = some (.lst xs)) (hn : xs.length < n) (h : ∀ x ∈ xs, Bd R x H ∧ x ≠ .ref a) (hx : Bd R x H) (hxa : x ≠ .ref a) : BadList n (Bd R) (.ref a) (upd H a (.lst (xs ++ [x]))) :=
  ⟨a, _, rfl, upd_same, by rw [List.length_append]; exact hn, fun y hy => by
    rcases List.mem_append.mp hy with q | q
    · exact ⟨mutBd m _ _ _ _ _ hl (h y q).2 (h y q).1, (h y q).2⟩
    · rw [List.mem_singleton.mp q]
      exact ⟨mutBd m _ _ _ _ _ hl hxa hx, hxa⟩⟩
end
theorem rgc_of {m c : Int} (m0 : 0 ≤ m) (m1 : m ≤ 100000) (c0 : 1 ≤ c) (c1 : c ≤ 100000) : RgC 0 m c (Builtin.Range.rangeSize 0 m c).toNat ∧ (Builtin.Range.rangeSize 0 m c).toNat ≤ m.toNat := by
  have h1 := PyProof.Rows.rangeSize_toNat_le 0 m c
  have h2 := PyProof.Rows.rangeSize_toNat 0 m c
  have hn : (Builtin.Range.rangeSize 0 m c).toNat ≤ m.toNat := by omega
  refine ⟨⟨by omega, by omega, ?_, h2⟩, hn⟩
  unfold Builtin.Range.small
  rw [if_pos (show c > 0 by omega)]
  generalize Builtin.Range.rangeSize 0 m c = z at *
  simp only [Builtin.Range.rangeFitsLong, Bool.and_eq_true, Bool.or_eq_true, decide_eq_true_eq, beq_iff_eq]
  refine ⟨⟨⟨⟨⟨by omega, by omega⟩, by omega, by omega⟩, by omega, by omega⟩, by omega, by omega⟩, .inr ⟨by omega, by omega⟩⟩
theorem q_forR3 {σ : L2.St} {H : Hp} {D : Ends} {tu tz : TS} {ta : TA} {j : Nat} {m c : Int} (h : EvA ta σ H [.int 0, .int m, .int c]) (m0 : 0 ≤ m) (m1 : m ≤ 100000) (c0 : 1 ≤ c) (c1 : c ≤ 100000) (Pv : Nat → L2.St → Hp → Prop) (h0 : ∀ H1, Ex H H1 → Pv 0 σ H1)
    (hs : ∀ (i : Nat) (z : Int) σ' H', i < m.toNat → 0 ≤ z → Pv i σ' H' → tu { D with nx := Pv (i + 1), ct := Pv (i + 1), bk := tz D } (σ'.set j (some (.int z))) H') (hd : ∀ i σ' H', Pv i σ' H' → tz D σ' H') : tSeq (tFor (iRng3 ta) (gName j) tu) tz D σ H := by
  obtain ⟨hc, hn⟩ := rgc_of m0 m1 c0 c1
  exact h H (Ex.refl H) _ fun H1 e => ⟨0, m, c, _, rfl, hc, for_rangeC (D := { D with nx := tz D }) Pv (h0 H1 e) (fun i σ' H' hi p => hs i _ σ' H' (by omega) (by rw [Int.zero_add]; exact Int.mul_nonneg (by omega) (by omega)) p) fun σ' H' p => hd _ σ' H' p⟩
/-! ### lists with a bad thing in the middle; asked at doors -/
section
variable {K : PySem.W.Frag} {H : Hp} {σ : L2.St} {ta tb te ti : TE} {D : Ends} {tz : TS}
theorem s_appR {R : V → Hp → Prop} {l : Addr} {xs : List V} (hl : H l = some (.lst xs)) (ha : Ev ta σ H (.ref l)) (h : EvR te σ H R) (hz : xs.length < 100000) (k : ∀ v H1, Ex H H1 → R v H1 → D.nx σ (upd H1 l (.lst (xs ++ [v])))) :
    tDrop (tBM K "list" rAppend ta (tCons te tNil)) D σ H := q_appR (tz := tNext) hl ha h hz k
theorem er_ixT {n : Nat} {i : Int} {tl : TA} {R : V → Hp → Prop} (up : UpH R) (h : EvAR tl σ H (AllH n R)) (hn : n ≤ 100000) (hi : Ev ti σ H (.int i)) (h0 : 0 ≤ i) (h1 : i < n) : EvR (tOp (rIxT K) (tTup tl) ti) σ H R :=
  er_op (er_tup h fun vs H1 p => by rw [p.1]; exact hn) (fun x H1 e _ => evr (hi.mono e)) fun x y H1 H2 e ⟨p, vs, H3, hx, _, e3, hp, hl⟩ e2 hy Q q => by
    subst hx hy
    have hlt : i.toNat < vs.length := by rw [hp.1]; omega
    have hat : atI vs i = some vs[i.toNat] := by
      have h := atI_nat (List.getElem?_eq_getElem hlt)
      have e : ((i.toNat : Nat) : Int) = i := by omega
      rw [e] at h
      exact h
    exact rv_ixT (st_of (e2 _ _ hl)) hat H2 (Ex.refl _) Q fun H4 e4 => q _ H4 e4 (up _ _ _ ((e3.trans e2).trans e4) (hp.2 _ (List.getElem_mem hlt)))
/-- a list that is cut, joined -/
def Cl (P : List V → Hp → Bool → Prop) (n : Nat) (b : Bool) (v : V) (H : Hp) : Prop := ∃ p zs, v = .ref p ∧ H p = some (.lst zs) ∧ zs.length ≤ n ∧ P zs H b
theorem er_clCat {P : List V → Hp → Bool → Prop} {n m : Nat} {a b : Bool} (up : ∀ zs H H' b, Ex H H' → P zs H b → P zs H' b) (app : ∀ xs ys H a b, P xs H a → P ys H b → P (xs ++ ys) H (a || b)) (ha : EvR ta σ H (Cl P n a)) (hb : EvR tb σ H (Cl P m b)) (hl : n + m ≤ 100000) :
    EvR (tOp rCat ta tb) σ H (fun v H2 => Cl P (n + m) (a || b) v H2 ∧ ∃ p, v = .ref p ∧ H p = none) := fun H1 e Q q =>
  ha H1 e _ fun x H2 e2 ⟨p, xs, hx, hp, h1, h2⟩ => hb H2 (e.trans e2) _ fun y H3 e3 ⟨r, ys, hy, hr, h3, h4⟩ => ⟨p, r, xs, ys, hx, hy, e3 _ _ hp, hr, sz_of (by omega), fun l hn => q _ _ ((e2.trans e3).trans (Ex.new hn)) ⟨⟨l, _, rfl, upd_same, by rw [List.length_append]; omega, app _ _ _ _ _ (up _ _ _ _ (e3.trans (Ex.new hn)) h2) (up _ _ _ _ (Ex.new hn) h4)⟩, l, rfl, fresh_back ((e.trans e2).trans e3) hn⟩⟩
/-- pairs -/
def PR (K : PySem.W.Frag) (zs : List V) (H : Hp) (b : Bool) : Prop := ∃ bs, RBs K H zs bs ∧ (b = true → bs.all id = false)
theorem PR.up (zs : List V) (H H' : Hp) (b : Bool) (e : Ex H H') (h : PR K zs H b) : PR K zs H' b := h.imp fun bs q => ⟨q.1.up e, q.2⟩
theorem PR.app (xs ys : List V) (H : Hp) (a b : Bool) (h : PR K xs H a) (k : PR K ys H b) : PR K (xs ++ ys) H (a || b) := by
  obtain ⟨bs, h1, h2⟩ := h
  obtain ⟨cs, k1, k2⟩ := k
  refine ⟨bs ++ cs, h1.append k1, fun z => ?_⟩
  rw [List.all_append]
  cases a with
  | true => rw [h2 rfl, Bool.false_and]
  | false => rw [k2 z, Bool.and_false]
theorem RBs.take {xs : List V} {bs : List Bool} : ∀ (n : Nat), RBs K H xs bs → RBs K H (xs.take n) (bs.take n) := by
  induction xs generalizing bs with
  | nil => intro n h; cases bs with
    | nil => cases n <;> exact trivial
    | cons b bs => exact h.elim
  | cons x xs ih => intro n h; cases bs with
    | nil => exact h.elim
    | cons b bs => cases n with
      | zero => exact trivial
      | succ n => exact ⟨h.1, ih n h.2⟩
theorem RBs.drop {xs : List V} {bs : List Bool} : ∀ (n : Nat), RBs K H xs bs → RBs K H (xs.drop n) (bs.drop n) := by
  induction xs generalizing bs with
  | nil => intro n h; cases bs with
    | nil => cases n <;> exact trivial
    | cons b bs => exact h.elim
  | cons x xs ih => intro n h; cases bs with
    | nil => exact h.elim
    | cons b bs => cases n with
      | zero => exact h
      | succ n => exact ih n h.2
theorem PR.cut {zs : List V} {lo hi : Option Int} (h : PR K zs H false) : PR K (cutV zs lo hi) H false := by
  obtain ⟨bs, h1, _⟩ := h
  unfold cutV
  exact ⟨_, (h1.drop _).take _, fun z => nomatch z⟩
/-- plain things -/
def PP (K : PySem.W.Frag) (f : V → Bool) (zs : List V) (H : Hp) (b : Bool) : Prop := (∀ x ∈ zs, PlainV K H x) ∧ (b = true → zs.all f = false)
theorem PP.up {f : V → Bool} (zs : List V) (H H' : Hp) (b : Bool) (e : Ex H H') (h : PP K f zs H b) : PP K f zs H' b := ⟨fun x hx => (h.1 x hx).up e, h.2⟩
theorem PP.app {f : V → Bool} (xs ys : List V) (H : Hp) (a b : Bool) (h : PP K f xs H a) (k : PP K f ys H b) : PP K f (xs ++ ys) H (a || b) := by
  refine ⟨fun x hx => (List.mem_append.mp hx).elim (h.1 x) (k.1 x), fun z => ?_⟩
  rw [List.all_append]
  cases a with
  | true => rw [h.2 rfl, Bool.false_and]
  | false => rw [k.2 z, Bool.and_false]
theorem PP.cut {f : V → Bool} {zs : List V} {lo hi : Option Int} (h : PP K f zs H false) : PP K f (cutV zs lo hi) H false := by
  unfold cutV
  exact ⟨fun x hx => h.1 x (List.mem_of_mem_drop (List.mem_of_mem_take hx)), fun z => nomatch z⟩
theorem cl_cut {P : List V → Hp → Bool → Prop} {n : Nat} {lo hi : Option Int} {t1 t2 : TO} {a : Addr} {xs : List V} (up : ∀ zs H H' b, Ex H H' → P zs H b → P zs H' b) (cut : ∀ zs H lo hi, P zs H false → P (cutV zs lo hi) H false) (h : Ev te σ H (.ref a)) (h1 : EvO t1 σ H lo) (h2 : EvO t2 σ H hi) (hx : H a = some (.lst xs)) (hl : xs.length ≤ n) (hP : P xs H false) : EvR (tSl (rSlL K) te t1 t2) σ H (Cl P n false) :=
  (er_sl h h1 h2 (sq_of hx)).imp fun v H2 e ⟨p, hv, _, hp⟩ => ⟨p, _, hv, hp, Nat.le_trans (cutV_length _ _ _) hl, up _ _ _ _ e (cut _ _ _ _ hP)⟩
/-- things of which all hold R, as a new list -/
def Things (R : V → Hp → Prop) (v : V) (H : Hp) : Prop := ∃ a xs, v = .ref a ∧ H a = some (.lst xs) ∧ xs.length ≤ 10000 ∧ ∀ x ∈ xs, R x H
theorem er_things {n : Nat} {tl : TA} {R : V → Hp → Prop} (up : UpH R) (h : EvAR tl σ H (AllH n R)) (hn : n ≤ 10000) : EvR (tLst tl) σ H (Things R) := (er_lst h fun vs H1 p => by rw [p.1]; omega).imp fun v H2 _ ⟨p, vs, H3, hv, _, e3, hp, hl⟩ => ⟨p, vs, hv, hl, by rw [hp.1]; exact hn, fun x hx => up _ _ _ e3 (hp.2 x hx)⟩
theorem restF_ge {r t : Int} (h : t ≤ r) : restF (.int r) (.int t) = false := by
  simp only [restF, decide_eq_false (show ¬ r < t by omega), Bool.and_false]
theorem restF_neg {r t : Int} (h : r < 0) : restF (.int r) (.int t) = false := by
  simp only [restF, decide_eq_false (show ¬ 0 ≤ r by omega), Bool.false_and, Bool.and_false]
theorem restF_big {r t : Int} (h : 1000000 < t) : restF (.int r) (.int t) = false := by
  simp only [restF, decide_eq_false (show ¬ t ≤ 1000000 by omega), Bool.false_and, Bool.and_false]
theorem isNum_big {i : Int} (h : 1000000 < i) : isNum (.int i) = false := by
  simp only [isNum, decide_eq_false (show ¬ i ≤ 1000000 by omega), Bool.and_false]
theorem isNum_low {i : Int} (h : i < -1000000) : isNum (.int i) = false := by
  simp only [isNum, decide_eq_false (show ¬ -1000000 ≤ i by omega), Bool.false_and]
theorem isTurn_big {i : Int} (h : 1000000 < i) : isTurn (.int i) = false := by
  simp only [isTurn, decide_eq_false (show ¬ i ≤ 1000000 by omega), Bool.and_false]
theorem isTurn_low {i : Int} (h : i < 1) : isTurn (.int i) = false := by
  simp only [isTurn, decide_eq_false (show ¬ 1 ≤ i by omega), Bool.false_and]
theorem inR_out {t r : Int} (h : r < 0 ∨ t ≤ r) : inR t (.int r) = false := by
  simp only [inR]
  rcases h with h | h
  · rw [decide_eq_false (show ¬ 0 ≤ r by omega), Bool.false_and]
  · rw [decide_eq_false (show ¬ r < t by omega), Bool.and_false]
end
def ekN : EK → Nat
  | .r => 0
  | .n => 1
  | .d => 2
  | .s => 3
def ekB (i : Nat) : List Bool := [decide ((i : Int) = 0), decide ((i : Int) = 1), decide ((i : Int) = 2), decide ((i : Int) = 3), false, false, true]
theorem ekL_B (e : EK) : ekL e = ekB (ekN e) := by cases e <;> decide
/-- what is due of each kind, as a list of lists -/
def Due (dl : Addr) (n : Nat) (H : Hp) : Prop := ∃ xs, H dl = some (.lst xs) ∧ xs.length = n ∧ ∀ j, j < n → ∃ q, xs[j]? = some (.ref q) ∧ H q = some (.lst ((ekB j).map V.bl))
theorem Due.up {dl : Addr} {n : Nat} {H H' : Hp} (e : Ex H H') (h : Due dl n H) : Due dl n H' := by
  obtain ⟨xs, h1, h2, h3⟩ := h
  exact ⟨xs, e _ _ h1, h2, fun j hj => (h3 j hj).imp fun q h => ⟨h.1, e _ _ h.2⟩⟩
section
variable {P : Program} {w : World} {K : PySem.W.Frag} {mg : Str → Option Value} {base : Heap} {A : Ad}
theorem call_all {σ : L2.St} {H : Hp} {f dl : Addr} {e : EK} {ds : List Int} {td tx : TE} {R : V → Hp → Prop} {E : XK} (hd : EvR td σ H (NewL (iv ds) H)) (hx : EvR tx σ H (Things R)) (up : UpH R) (hdue : Due dl 4 H) (h2 : σ[2]? = some (some (.ref dl)))
    (hA : ∀ H1, Ex H H1 → ∀ d ∈ ds, ∀ x, R x H1 → Asks P w K mg base f (ekC A e) (.int d) x H1) : Ev (tCall (sp_l_all P w K mg base A) [] E (tCons (tC (.ref f)) (tCons td (tCons tx (tCons (tOp (rIxL K) (tVar 2) (tC (.int (ekN e : Int)))) tNil))))) σ H (.bl true) := by
  refine (er_callS (R := fun v _ => v = .bl true) (T := fun vs H1 => ∃ x : AllD, vs = [.ref x.f, x.dv, x.tv, x.uv] ∧ LstAt (iv x.ds) x.dv H1 ∧ LstAt x.xs x.tv H1 ∧ x.xs.length ≤ 10000 ∧ LstAt ((ekL x.e).map V.bl) x.uv H1 ∧ ∀ d ∈ x.ds, ∀ y ∈ x.xs, Asks P w K mg base x.f (ekC A x.e) (.int d) y H1) (ear_cons (evr ev_c) fun x1 H1 e1 hx1 => ear_cons (hd.mono e1) fun x2 H2 e2 ⟨p2, hx2, _, hp2⟩ => ear_cons (hx.mono (e1.trans e2)) fun x3 H3 e3 ⟨p3, xs, hx3, hp3, hl3, hR⟩ => ?_) fun vs H1 e1 ⟨x, hv, h1, h3, h4, h5, h6⟩ Q q => ?_).ev fun _ _ _ p => p
  · have e13 := e1.trans (e2.trans e3)
    obtain ⟨ys, hy, hyl, hyq⟩ := hdue.up e13
    obtain ⟨q, hq1, hq2⟩ := hyq (ekN e) (by cases e <;> decide)
    refine (ear (ea_cons (ev_op (ev_var h2) ev_c (rv_ixL (sq_of hy) (atI_nat hq1))) ea_nil)).imp fun vs H4 e4 hvs => ⟨⟨f, x2, ds, x3, xs, .ref q, e⟩, by rw [hx1, hvs], ⟨p2, hx2, e4 _ _ (e3 _ _ hp2)⟩, ⟨p3, hx3, e4 _ _ hp3⟩, hl3, ⟨q, rfl, by rw [ekL_B]; exact e4 _ _ hq2⟩, fun d hd y hy => (hA H3 e13 d hd y (hR y hy)).up e4⟩
  · subst hv
    exact ⟨x, ⟨rfl, h1, h3, h4, h5, h6⟩, fun v H2 e2 p => q v H2 e2 p⟩
theorem asks_rests (T : Txt K mg A) {H : Hp} {d : Int} {x : V} (h : ((d = 0 ∨ d = 1) ∧ BadRs K x H) ∨ (d = 2 ∧ BadL K isTurn x H)) : Asks P w K mg base A.a_l_with_rests (ekC A .r) (.int d) x H := by
  obtain ⟨fd, G⟩ := okx_l_with_rests (P := P) (w := w) (base := base) T
  exact ⟨fd, _, _, G, fun H1 e1 Q E hE => ⟨(d, x), ⟨rfl, h.imp (fun q => ⟨q.1, upBadRs _ _ _ e1 q.2⟩) fun q => ⟨q.1, upBadL _ _ _ e1 q.2⟩⟩, hE⟩⟩
theorem asks_numbers (T : Txt K mg A) {H : Hp} {d : Int} {x : V} (h : BadL K isNum x H) : Asks P w K mg base A.a_l_with_numbers (ekC A .n) (.int d) x H := by
  obtain ⟨fd, G⟩ := okx_l_with_numbers (P := P) (w := w) (base := base) T
  exact ⟨fd, _, _, G.mono (by decide), fun H1 e1 Q E hE => ⟨(d, x), ⟨rfl, upBadL _ _ _ e1 h⟩, hE⟩⟩
theorem asks_turn (T : Txt K mg A) {H : Hp} {d : Int} {x : V} (h : Bad1 K isTurn x H) : Asks P w K mg base A.a_l_with_turn (ekC A .d) (.int d) x H := by
  obtain ⟨fd, G⟩ := okx_l_with_turn (P := P) (w := w) (base := base) T
  exact ⟨fd, _, _, G.mono (by decide), fun H1 e1 Q E hE => ⟨(d, x), ⟨rfl, upBad1 _ _ _ e1 h⟩, hE⟩⟩
theorem asks_rest (T : Txt K mg A) {H : Hp} {t : Int} {x : V} (t0 : 1 ≤ t) (t1 : t ≤ 1000000) (h : Bad1 K (inR t) x H) : Asks P w K mg base A.a_l_with_rest (ekC A .s) (.int t) x H := by
  obtain ⟨fd, G⟩ := okx_l_with_rest (P := P) (w := w) (base := base) T
  exact ⟨fd, _, _, G.mono (by decide), fun H1 e1 Q E hE => ⟨(t, x), ⟨rfl, t0, t1, upBad1 _ _ _ e1 h⟩, hE⟩⟩
theorem asks_number0 (T : Txt K mg A) {H : Hp} {x : V} (h : Bad1 K isNum x H) : Asks P w K mg base A.a_l_with_number (ekC A .n) (.int 0) x H := by
  obtain ⟨fd, G⟩ := okx_l_with_number (P := P) (w := w) (base := base) T
  exact ⟨fd, _, _, G.mono (by decide), fun H1 e1 Q E hE => .inl ⟨x, ⟨rfl, upBad1 _ _ _ e1 h⟩, hE⟩⟩
theorem asks_number1 (T : Txt K mg A) {H : Hp} {x : V} (h : Bad1 K isI x H) : Asks P w K mg base A.a_l_with_number (ekC A .r) (.int 1) x H := by
  obtain ⟨fd, G⟩ := okx_l_with_number (P := P) (w := w) (base := base) T
  exact ⟨fd, _, _, G.mono (by decide), fun H1 e1 Q E hE => .inr ⟨x, ⟨rfl, upBad1 _ _ _ e1 h⟩, hE⟩⟩
end
/-! ### the law -/
def sp_law (K : PySem.W.Frag) : Sp := fun vs H Q _ => ∃ v ns, vs = [v] ∧ Scr K H v ns ∧ ∀ H', Q (.bl true) H'
section
variable {P : Program} {w : World} {K : PySem.W.Frag} {mg : Str → Option Value} {base : Heap} {A : Ad}
theorem q_par3R {σ : L2.St} {H : Hp} {D : Ends} {tz : TS} {i j l : Nat} {ta : TA} {R : List V → Hp → Prop} (h : EvAR ta σ H R) (hv : ∀ vs H1, R vs H1 → ∃ u v w, vs = [u, v, w]) (k : ∀ u v w H1, Ex H H1 → R [u, v, w] H1 → tz D (((σ.set i (some u)).set j (some v)).set l (some w)) H1) : tSeq (tPar3 i j l ta) tz D σ H :=
  h H (Ex.refl H) _ fun vs H1 e p => by
    obtain ⟨u, v, w, rfl⟩ := hv vs H1 p
    exact ⟨u, v, w, rfl, k u v w H1 e p⟩
theorem upRF : UpH (fun x H => RestB K H x false) := fun _ _ _ e h => h.up e
theorem bd_c {σ : L2.St} {H : Hp} {te : TE} {x : V} {f : V → Bool} (h : Ev te σ H x) (px : ∀ H, PlainV K H x) (hf : f x = false) : EvR te σ H (Bad1 K f) := b_c h px hf
theorem rs_two {H : Hp} {σ : L2.St} {te1 te2 te3 te4 : TE} {a b c d : Int} (h1 : Ev te1 σ H (.int a)) (h2 : Ev te2 σ H (.int b)) (h3 : Ev te3 σ H (.int c)) (h4 : Ev te4 σ H (.int d)) : EvR (tLst (tCons (tTup (tCons te1 (tCons te2 tNil))) (tCons (tTup (tCons te3 (tCons te4 tNil))) tNil))) σ H (fun v H => RsAt H v [(a, b), (c, d)]) :=
  (er_lst (T := fun vs H => ∃ p q, vs = [.ref p, .ref q] ∧ H p = some (.tup [.int a, .int b]) ∧ H q = some (.tup [.int c, .int d])) (ear_cons (eur (eu_tup (ea_cons h1 (ea_cons h2 ea_nil)) (by show 2 ≤ 100000; decide))) fun x H1 e1 ⟨p, hx, _, hp⟩ => (ear_one (eur (eu_tup (ea_cons (h3.mono e1) (ea_cons (h4.mono e1) ea_nil)) (by show 2 ≤ 100000; decide)))).imp fun vs H2 e2 ⟨y, hvs, q, hy, _, hq⟩ => ⟨p, q, by rw [hx, hvs, hy], e2 _ _ hp, hq⟩) (fun vs H1 ⟨p, q, hv, _⟩ => by rw [hv]; show 2 ≤ 100000; decide)).imp fun v H2 _ ⟨l, vs, H3, hv, _, e3, ⟨p, q, hvs, hp, hq⟩, hl⟩ => ⟨l, vs, hv, hl, by rw [hvs]; exact ⟨⟨p, rfl, e3 _ _ hp⟩, ⟨q, rfl, e3 _ _ hq⟩, trivial⟩⟩
theorem ok_law (T : Txt K mg A) {fd : FuncData} (F : Fun K "law" "law" s_law A.a_law fd) : FnOk P w K mg base CX0 9 A.a_law fd ["_law_script"] (sp_law K) := by
  obtain ⟨_, G_l_all, b_l_all, k_l_all⟩ := ok_l_all (P := P) (w := w) (base := base) T
  obtain ⟨_, G_l_cell_at, b_l_cell_at, k_l_cell_at⟩ := ok_l_cell_at (P := P) (w := w) (base := base) T
  obtain ⟨_, G_l_rests, b_l_rests, k_l_rests⟩ := ok_l_rests (P := P) (w := w) (base := base) T
  obtain ⟨_, G_left, b_left, k_left⟩ := okx_left (P := P) (w := w) (base := base) T
  refine F.ok sc_law (fun vs H Q E h => ?_) (fun cdv Ar outer s H vs Q E hr h => ?_)
  · obtain ⟨_, _, rfl, _⟩ := h
    rfl
  · obtain ⟨_, ns, rfl, ⟨a, rfl, hS, hl⟩, k⟩ := h
    have hr_l_all : Room 8 _ := hr.mono (by decide)
    have hr_l_cell_at : Room 1 _ := hr.mono (by decide)
    have hr_l_rests : Room 3 _ := hr.mono (by decide)
    have hr_left : Room 3 _ := hr.mono (by decide)
    refine ⟨_, (pss_cons (ps_set (i := 1) sc_law.nd rfl (.inl rfl) (pe_op op_mod (pe_call G_l_cell_at hr_l_cell_at (by rfl) T.g_l_cell_at k_l_cell_at b_l_cell_at .nil pass0 (pa_cons (pv 0) (pa_cons pe_int pa_nil))) (pe_op op_pow pe_int pe_int)))
      (pss_cons (ps_set (i := 2) sc_law.nd rfl (.inl rfl) (pe_lst pa_nil))
      (pss_cons (ps_for PassesOwn.never rfl (pi_range1 (by rfl) T.z_range (pa_cons pe_int pa_nil)) (pg_name (i := 3) sc_law.nd rfl (Or.inl rfl)) (pss_one (ps_expr (pe_bm PySem.F.plainAttrs_list PySem.F.slot_list_append PySem.F.type_list_append mt_append (pv 2) (pa_cons (pe_lst (pa_cons (pe_cmpR op_eq (pv 3) pe_int (nomark _)) (pa_cons (pe_cmpR op_eq (pv 3) pe_int (nomark _)) (pa_cons (pe_cmpR op_eq (pv 3) pe_int (nomark _)) (pa_cons (pe_cmpR op_eq (pv 3) pe_int (nomark _)) (pa_cons pe_bl (pa_cons pe_bl (pa_cons pe_bl pa_nil)))))))) pa_nil)))))
      (pss_cons (ps_set (i := 4) sc_law.nd rfl (.inl rfl) (pe_call G_l_rests hr_l_rests (by rfl) T.g_l_rests k_l_rests b_l_rests .nil pass0 (pa_cons (pv 0) pa_nil)))
      (pss_cons (ps_par3 (i := 5) (j := 6) (l := 7) rfl sc_law.nd rfl rfl rfl (by decide) (by decide) (by decide) rfl rfl rfl (pa_cons (pe_lc (own := [("_law_rest", 10), ("_law_turn", 11)]) rfl sc_law.nd (pi_listK K (pv 4)) (blkOk_by (N := ["_law_script", "_law_far", "_law_due", "_law_k", "_law_rests_here", "_law_numbers_here", "_law_many", "_law_kept", "_law_bad", "_law_at", "_law_rest", "_law_turn"]) (sc := defScope s_law) (by decide +kernel)) (fun _ _ _ _ _ => (pg_tupK (n := 2) K rfl (pgs_cons (pg_name (i := 10) sc_law.nd rfl (Or.inl rfl)) (pgs_cons (pg_name (i := 11) sc_law.nd rfl (Or.inl rfl)) pgs_nil)))) (fun _ _ _ _ _ => pts_nil) (fun _ _ _ _ _ => (pv 10))) (pa_cons (pe_callB (len_seqK K) (by rfl) T.z_len (by decide +kernel) (pa_cons (pv 4) pa_nil)) (pa_cons (pe_callTy (list_ofK K) (by rfl) T.z_list (by decide +kernel) (pa_cons (pv 4) pa_nil)) pa_nil))) (by rfl))
      (pss_cons (ps_set (i := 8) sc_law.nd rfl (.inl rfl) (pe_lst (pa_cons pe_non (pa_cons (pe_tup pa_nil) (pa_cons pe_str (pa_cons pe_dnewK (pa_cons pe_int (pa_cons (pe_lst (pa_cons pe_non pa_nil)) (pa_cons (pe_lst (pa_cons pe_int pa_nil)) (pa_cons (pe_lst (pa_cons (pe_tup (pa_cons pe_int pa_nil)) pa_nil)) (pa_cons (pe_lst (pa_cons (pe_tup (pa_cons pe_int (pa_cons pe_int (pa_cons pe_int pa_nil)))) pa_nil)) (pa_cons (pe_lst (pa_cons (pe_lst (pa_cons pe_int (pa_cons pe_int pa_nil))) pa_nil)) (pa_cons (pe_lst (pa_cons (pe_tup (pa_cons pe_int (pa_cons pe_int pa_nil))) pa_nil)) (pa_cons (pe_lst (pa_cons (pe_tup (pa_cons (pe_op op_add pe_int (pv 1)) (pa_cons pe_int pa_nil))) pa_nil)) (pa_cons (pe_lst (pa_cons (pe_tup (pa_cons (pe_un un_neg pe_int) (pa_cons pe_int pa_nil))) pa_nil)) pa_nil)))))))))))))))
      (pss_cons (ps_set (i := 8) sc_law.nd rfl (.inl rfl) (pe_op op_cat (pv 8) (pe_lst (pa_cons (pe_lst (pa_cons (pe_tup (pa_cons pe_int (pa_cons pe_int pa_nil))) pa_nil)) (pa_cons (pe_lst (pa_cons (pe_tup (pa_cons pe_int (pa_cons (pe_un un_neg pe_int) pa_nil))) pa_nil)) (pa_cons (pe_lst (pa_cons (pe_tup (pa_cons pe_int (pa_cons pe_int pa_nil))) pa_nil)) (pa_cons (pe_lst (pa_cons (pe_tup (pa_cons pe_int (pa_cons (pe_op op_add pe_int (pv 1)) pa_nil))) pa_nil)) (pa_cons (pe_lst (pa_cons (pe_tup (pa_cons pe_bl (pa_cons pe_int pa_nil))) pa_nil)) (pa_cons (pe_lst (pa_cons (pe_tup (pa_cons pe_int (pa_cons pe_bl pa_nil))) pa_nil)) pa_nil)))))))))
      (pss_cons (ps_set (i := 8) sc_law.nd rfl (.inl rfl) (pe_op op_cat (pv 8) (pe_lst (pa_cons (pe_lst (pa_cons (pe_tup (pa_cons pe_str (pa_cons pe_int pa_nil))) pa_nil)) (pa_cons (pe_lst (pa_cons (pe_tup (pa_cons pe_int (pa_cons pe_non pa_nil))) pa_nil)) pa_nil)))))
      (pss_cons (ps_for PassesOwn.never rfl (pi_range3 (by rfl) T.z_range (pa_cons pe_int (pa_cons (pv 6) (pa_cons (pe_op op_add pe_int (pe_op op_fdiv (pv 6) pe_int)) pa_nil)))) (pg_name (i := 9) sc_law.nd rfl (Or.inl rfl)) (pss_one (ps_expr (pe_bm PySem.F.plainAttrs_list PySem.F.slot_list_append PySem.F.type_list_append mt_append (pv 8) (pa_cons (pe_op op_cat (pe_op op_cat (pe_slice (sl_listK K) (pv 4) po_none (po_some (pv 9))) (pe_lst (pa_cons (pe_ix (ix_tupK K) (pe_tup (pa_cons pe_non (pa_cons (pe_tup (pa_cons pe_int (pa_cons pe_int pa_nil))) (pa_cons (pe_tup (pa_cons pe_int (pa_cons pe_int pa_nil))) (pa_cons (pe_lst (pa_cons pe_int (pa_cons pe_int pa_nil))) (pa_cons (pe_tup (pa_cons (pe_op op_sub (pe_un un_neg pe_int) (pv 1)) (pa_cons pe_int pa_nil))) pa_nil)))))) (pe_op op_mod (pv 9) pe_int) (fun _ _ => rfl)) pa_nil))) (pe_slice (sl_listK K) (pv 4) (po_some (pe_op op_add (pv 9) pe_int)) po_none)) pa_nil)))))
      (pss_cons (ps_if (pt_not (pt_val (pe_call G_l_all hr_l_all (by rfl) T.g_l_all k_l_all b_l_all .nil pass0 (pa_cons (pe_glob (v := .ref A.a_l_with_rests) (by rfl) T.g_l_with_rests rfl) (pa_cons (pe_lst (pa_cons pe_int (pa_cons pe_int pa_nil))) (pa_cons (pv 8) (pa_cons (pe_ix (ix_listK K) (pv 2) pe_int (fun _ _ => rfl)) pa_nil))))))) (pss_one (ps_ret pe_bl)) pss_nil)
      (pss_cons (ps_set (i := 8) sc_law.nd rfl (.inl rfl) (pe_lst (pa_cons pe_non (pa_cons (pe_tup pa_nil) (pa_cons pe_str (pa_cons pe_dnewK (pa_cons pe_int (pa_cons (pe_lst (pa_cons pe_non pa_nil)) (pa_cons (pe_lst (pa_cons pe_int pa_nil)) (pa_cons (pe_lst (pa_cons (pe_un un_neg pe_int) pa_nil)) (pa_cons (pe_lst (pa_cons pe_int pa_nil)) (pa_cons (pe_lst (pa_cons (pe_op op_add pe_int (pv 1)) pa_nil)) (pa_cons (pe_lst (pa_cons pe_bl pa_nil)) (pa_cons (pe_lst (pa_cons pe_str pa_nil)) (pa_cons (pe_lst (pa_cons (pe_lst (pa_cons pe_int pa_nil)) pa_nil)) (pa_cons (pe_lst (pa_cons pe_int (pa_cons pe_int pa_nil))) pa_nil))))))))))))))))
      (pss_cons (ps_if (pt_not (pt_val (pe_call G_l_all hr_l_all (by rfl) T.g_l_all k_l_all b_l_all .nil pass0 (pa_cons (pe_glob (v := .ref A.a_l_with_rests) (by rfl) T.g_l_with_rests rfl) (pa_cons (pe_lst (pa_cons pe_int pa_nil)) (pa_cons (pv 8) (pa_cons (pe_ix (ix_listK K) (pv 2) pe_int (fun _ _ => rfl)) pa_nil))))))) (pss_one (ps_ret pe_bl)) pss_nil)
      (pss_cons (ps_if (pt_not (pt_val (pe_call G_l_all hr_l_all (by rfl) T.g_l_all k_l_all b_l_all .nil pass0 (pa_cons (pe_glob (v := .ref A.a_l_with_number) (by rfl) T.g_l_with_number rfl) (pa_cons (pe_lst (pa_cons pe_int pa_nil)) (pa_cons (pe_lst (pa_cons pe_non (pa_cons pe_str (pa_cons pe_bl (pa_cons (pe_lst (pa_cons pe_int pa_nil)) pa_nil))))) (pa_cons (pe_ix (ix_listK K) (pv 2) pe_int (fun _ _ => rfl)) pa_nil))))))) (pss_one (ps_ret pe_bl)) pss_nil)
      (pss_cons (ps_set (i := 8) sc_law.nd rfl (.inl rfl) (pe_lst (pa_cons pe_non (pa_cons (pe_tup pa_nil) (pa_cons pe_str (pa_cons pe_dnewK (pa_cons pe_int (pa_cons (pe_lst (pa_cons pe_non pa_nil)) (pa_cons (pe_lst (pa_cons pe_str pa_nil)) (pa_cons (pe_lst (pa_cons pe_bl pa_nil)) (pa_cons (pe_lst (pa_cons pe_int pa_nil)) (pa_cons (pe_lst (pa_cons (pe_un un_neg pe_int) pa_nil)) (pa_cons (pe_lst (pa_cons (pe_op op_add pe_int (pv 1)) pa_nil)) (pa_cons (pe_lst (pa_cons (pe_op op_sub (pe_un un_neg pe_int) (pv 1)) pa_nil)) (pa_cons (pe_lst (pa_cons (pe_lst (pa_cons pe_int pa_nil)) pa_nil)) pa_nil)))))))))))))))
      (pss_cons (ps_for PassesOwn.never rfl (pi_range3 (by rfl) T.z_range (pa_cons pe_int (pa_cons (pv 6) (pa_cons (pe_op op_add pe_int (pe_op op_fdiv (pv 6) pe_int)) pa_nil)))) (pg_name (i := 9) sc_law.nd rfl (Or.inl rfl)) (pss_one (ps_expr (pe_bm PySem.F.plainAttrs_list PySem.F.slot_list_append PySem.F.type_list_append mt_append (pv 8) (pa_cons (pe_op op_cat (pe_op op_cat (pe_slice (sl_listK K) (pv 5) po_none (po_some (pv 9))) (pe_lst (pa_cons (pe_ix (ix_tupK K) (pe_tup (pa_cons pe_non (pa_cons pe_str (pa_cons pe_bl (pa_cons (pe_op op_add pe_int (pv 1)) (pa_cons (pe_un un_neg pe_int) pa_nil)))))) (pe_op op_mod (pv 9) pe_int) (fun _ _ => rfl)) pa_nil))) (pe_slice (sl_listK K) (pv 5) (po_some (pe_op op_add (pv 9) pe_int)) po_none)) pa_nil)))))
      (pss_cons (ps_if (pt_not (pt_val (pe_call G_l_all hr_l_all (by rfl) T.g_l_all k_l_all b_l_all .nil pass0 (pa_cons (pe_glob (v := .ref A.a_l_with_numbers) (by rfl) T.g_l_with_numbers rfl) (pa_cons (pe_listRg rfl (by rfl) T.z_list (prg_1 (by rfl) T.z_range pe_int)) (pa_cons (pv 8) (pa_cons (pe_ix (ix_listK K) (pv 2) pe_int (fun _ _ => rfl)) pa_nil))))))) (pss_one (ps_ret pe_bl)) pss_nil)
      (pss_cons (ps_if (pt_not (pt_val (pe_call G_l_all hr_l_all (by rfl) T.g_l_all k_l_all b_l_all .nil pass0 (pa_cons (pe_glob (v := .ref A.a_l_with_number) (by rfl) T.g_l_with_number rfl) (pa_cons (pe_lst (pa_cons pe_int pa_nil)) (pa_cons (pe_lst (pa_cons pe_non (pa_cons pe_str (pa_cons pe_bl (pa_cons (pe_lst (pa_cons pe_int pa_nil)) (pa_cons pe_int (pa_cons (pe_op op_sub (pe_un un_neg pe_int) (pv 1)) pa_nil))))))) (pa_cons (pe_ix (ix_listK K) (pv 2) pe_int (fun _ _ => rfl)) pa_nil))))))) (pss_one (ps_ret pe_bl)) pss_nil)
      (pss_cons (ps_if (pt_not (pt_val (pe_call G_l_all hr_l_all (by rfl) T.g_l_all k_l_all b_l_all .nil pass0 (pa_cons (pe_glob (v := .ref A.a_l_with_turn) (by rfl) T.g_l_with_turn rfl) (pa_cons (pe_lst (pa_cons pe_int (pa_cons pe_int pa_nil))) (pa_cons (pe_lst (pa_cons pe_non (pa_cons pe_str (pa_cons pe_int (pa_cons (pe_un un_neg pe_int) (pa_cons (pe_op op_sub (pe_un un_neg pe_int) (pv 1)) (pa_cons pe_int (pa_cons (pe_op op_add pe_int (pv 1)) (pa_cons pe_bl (pa_cons (pe_lst (pa_cons pe_int pa_nil)) pa_nil)))))))))) (pa_cons (pe_ix (ix_listK K) (pv 2) pe_int (fun _ _ => rfl)) pa_nil))))))) (pss_one (ps_ret pe_bl)) pss_nil)
      (pss_cons (ps_if (pt_not (pt_val (pe_call G_l_all hr_l_all (by rfl) T.g_l_all k_l_all b_l_all .nil pass0 (pa_cons (pe_glob (v := .ref A.a_l_with_rest) (by rfl) T.g_l_with_rest rfl) (pa_cons (pe_lst (pa_cons pe_int (pa_cons pe_int pa_nil))) (pa_cons (pe_lst (pa_cons pe_non (pa_cons pe_str (pa_cons (pe_un un_neg pe_int) (pa_cons (pe_op op_sub (pe_un un_neg pe_int) (pv 1)) (pa_cons pe_int (pa_cons (pe_op op_add pe_int (pv 1)) (pa_cons pe_bl (pa_cons (pe_lst (pa_cons pe_int pa_nil)) pa_nil))))))))) (pa_cons (pe_ix (ix_listK K) (pv 2) pe_int (fun _ _ => rfl)) pa_nil))))))) (pss_one (ps_ret pe_bl)) pss_nil)
      (pss_one (ps_ret (pe_and (pe_cmpR (eqDK K hr.units) (pv 4) (pv 7) (nomark _)) (pe_and (pe_cmpR (eqDK K hr.units) (pe_call G_left hr_left (by rfl) T.g_left k_left b_left .nil passX0 (pa_cons (pe_un un_neg pe_int) (pa_cons (pe_lst (pa_cons pe_int (pa_cons pe_int pa_nil))) pa_nil))) (pe_lst (pa_cons (pe_tup (pa_cons pe_int (pa_cons pe_int pa_nil))) (pa_cons (pe_tup (pa_cons pe_int (pa_cons pe_int pa_nil))) pa_nil))) (nomark _)) (pe_one (pe_cmpR (eqDK K hr.units) (pe_call G_left hr_left (by rfl) T.g_left k_left b_left .nil passX0 (pa_cons (pv 1) (pa_cons (pe_lst pa_nil) pa_nil))) (pe_lst pa_nil) (nomark _)))))))))))))))))))))))))), ?_⟩
    have hsc : Scr K H (.ref a) ns := ⟨a, rfl, hS, hl⟩
    have hf0 : 0 ≤ ns.getD 0 0 % 10 ^ (6 : Int).toNat := Int.emod_nonneg _ (by decide)
    refine q_asg (ev_op (ev_cell (j := 0) (ev_var rfl) ev_c hsc) (ev_op ev_c ev_c (rv_pow ⟨by decide, by decide, by decide⟩)) (rv_I (by decide))) fun H1 e1 => ?_
    generalize ns.getD 0 0 % 10 ^ (6 : Int).toNat = far at hf0
    refine q_asgR (er_new (xs := []) ea_nil (by decide)) fun v2 H2 e2 ⟨dl, hv2, hdn, hd2⟩ => ?_
    subst hv2
    refine q_forR1 (n := 4) (ea_cons ev_c ea_nil) (by decide) (fun i σ' H' => ∃ s3 : Option V, σ' = [some (.ref a), some (.int far), some (.ref dl), s3, none, none, none, none, none, none, none, none] ∧ Ex H1 H' ∧ Due dl i H') (fun H3 e3 => ⟨_, rfl, e2.trans e3, [], e3 _ _ hd2, rfl, fun j hj => absurd hj (Nat.not_lt_zero _)⟩) (fun i σ' H' hi hP => ?_) (fun σ' H' hP => ?_)
    · obtain ⟨s3, rfl, e3, xs, hxs, hxl, hxq⟩ := hP
      refine s_appR hxs (ev_var rfl) (er_new (xs := (ekB i).map V.bl) (ea_cons (ev_op (ev_var rfl) ev_c rv_eqI) (ea_cons (ev_op (ev_var rfl) ev_c rv_eqI) (ea_cons (ev_op (ev_var rfl) ev_c rv_eqI) (ea_cons (ev_op (ev_var rfl) ev_c rv_eqI) (ea_cons ev_c (ea_cons ev_c (ea_cons ev_c ea_nil))))))) (by show 7 ≤ 100000; decide)) (by omega) fun v H4 e4 ⟨q, hv, hqn, hq⟩ => ⟨_, rfl, Ex.mut (e3.trans e4) hdn, _, upd_same, by rw [List.length_append, hxl]; rfl, fun j hj => ?_⟩
      subst hv
      have hne : q ≠ dl := fun z => by rw [z, hxs] at hqn; cases hqn
      by_cases hji : j < i
      · obtain ⟨q', h1, h2⟩ := hxq j hji
        have hqd : q' ≠ dl := fun z => by
          rw [z, hxs] at h2
          have h3 : xs = (ekB j).map V.bl := by injection h2 with h2; injection h2
          have h4 := congrArg List.length h3
          rw [hxl, List.length_map] at h4
          have h5 : i = 7 := h4
          omega
        exact ⟨q', by rw [List.getElem?_append_left (by omega)]; exact h1, by rw [upd_ne hqd]; exact e4 _ _ h2⟩
      · have : j = i := by omega
        subst this
        exact ⟨q, by rw [List.getElem?_append_right (by omega), hxl, Nat.sub_self]; rfl, by rw [upd_ne hne]; exact hq⟩
    obtain ⟨s3, rfl, e3, hdue⟩ := hP
    have hdue : Due dl 4 H' := hdue
    have e13 := e1.trans e3
    refine q_asgR (er_call (R := fun v H4 => ∃ (l : Addr) (xs : List V) (rs : List (Int × Int)), v = .ref l ∧ H4 l = some (.lst xs) ∧ RsL H4 xs rs ∧ rs.length ≤ 63 ∧ ∀ p ∈ rs, RstOk p) (V.ref a, ns) (ea_cons (ev_var rfl) ea_nil) (fun H4 e4 => ⟨rfl, hsc.up (e13.trans e4)⟩) fun H4 v H5 _ _ ⟨l, xs, rs, hv, _, h1, h2, h3, h4⟩ => ⟨l, xs, rs, hv, h1, h2, by rw [h3]; exact hl, h4⟩) fun v4 H4 e4 ⟨l, xs, rs, hv4, hx4, hrs4, hrl, ho⟩ => ?_
    subst hv4
    have hxl := hrs4.len
    refine q_par3R (R := fun vs H => ∃ p q, vs = [.ref p, .int (rs.length : Int), .ref q] ∧ H p = some (.lst (iv (rs.map (·.1)))) ∧ H q = some (.lst xs)) (ear_cons (er_lcRsV (fun p => .int p.1) (ev_var rfl) hx4 hrs4 (by omega) (fun _ _ => rfl) fun p hp => ev_var rfl) fun x H5 e5 ⟨p, hx, _, hp⟩ => ear_cons (evr (v := .int (rs.length : Int)) (ev_is (ev_lenL (ev_var rfl) (sq_of (e5 _ _ hx4))) (by rw [hxl]))) fun y H6 e6 hy => (ear_one (er_list (ev_var rfl) (sq_of (e6 _ _ (e5 _ _ hx4))))).imp fun vs H7 e7 ⟨z, hvs, q, hz, _, hq⟩ => ⟨p, q, by rw [hx, hy, hvs, hz], by rw [iv_map]; exact e7 _ _ (e6 _ _ hp), hq⟩) (fun vs H5 ⟨p, q, hv, _⟩ => ⟨_, _, _, hv⟩) fun u5 v5 w5 H5 e5 ⟨pn, pk, hvs, hpn5, hpk5⟩ => ?_
    cases hvs
    have hx5 := e5 _ _ hx4
    have hrs5 := hrs4.up e5
    have hdue5 := hdue.up (e4.trans e5)
    have pi : ∀ {i : Int} H, PlainV K H (.int i) := fun H => plain_int
    -- the first things
    refine q_asgR (er_bads (n := 13) (R := BadRs K) upBadRs (ear_all1 (upBd upBadRs) (t_c noBadRs ev_c (fun H => nl_non) (by intro p z; cases z)) (ear_all1 (upBd upBadRs) (t_tup0 noBadRs) (ear_all1 (upBd upBadRs) (t_c noBadRs ev_c (fun H => nl_str) (by intro p z; cases z)) (ear_all1 (upBd upBadRs) (t_dict noBadRs) (ear_all1 (upBd upBadRs) (t_c noBadRs ev_c (fun H => nl_int) (by intro p z; cases z))
      (ear_all1 (upBd upBadRs) (t_r1 (r_c ev_c fun H => nt_non)) (ear_all1 (upBd upBadRs) (t_r1 (r_c ev_c fun H => nt_int)) (ear_all1 (upBd upBadRs) (t_r1 (r_1 ev_c)) (ear_all1 (upBd upBadRs) (t_r1 (r_3 ev_c ev_c ev_c)) (ear_all1 (upBd upBadRs) (t_r1 (r_l ev_c ev_c)) (ear_all1 (upBd upBadRs) (t_r1 (r_2 ev_c ev_c pi pi (by decide)))
      (ear_all1 (upBd upBadRs) (t_r1 (r_2 (ev_op ev_c (ev_var rfl) rv_I0) ev_c pi pi (restF_ge (by omega)))) (ear_all1 (upBd upBadRs) (t_r1 (r_2 (ev_un ev_c ru_neg) ev_c pi pi (by decide))) ear_all0))))))))))))) (by decide)) fun v6 H6 e6 ⟨hB6, _⟩ => ?_
    refine q_asgR (er_badsCat (n := 13) (m := 6) (R := BadRs K) upBadRs (ev_var rfl) hB6 (ear_all1 (upBd upBadRs) (t_r1 (r_2 ev_c ev_c pi pi (by decide))) (ear_all1 (upBd upBadRs) (t_r1 (r_2 ev_c (ev_un ev_c ru_neg) pi pi (by decide))) (ear_all1 (upBd upBadRs) (t_r1 (r_2 ev_c ev_c pi pi (by decide))) (ear_all1 (upBd upBadRs) (t_r1 (r_2 ev_c (ev_op ev_c (ev_var rfl) rv_I0) pi pi (restF_big (by omega))))
      (ear_all1 (upBd upBadRs) (t_r1 (r_2 ev_c ev_c (fun H => plain_bl) pi rfl)) (ear_all1 (upBd upBadRs) (t_r1 (r_2 ev_c ev_c pi (fun H => plain_bl) rfl)) ear_all0)))))) (by decide)) fun v7 H7 e7 ⟨hB7, _⟩ => ?_
    refine q_asgR (er_badsCat (n := 19) (m := 2) (R := BadRs K) upBadRs (ev_var rfl) hB7 (ear_all1 (upBd upBadRs) (t_r1 (r_2 ev_c ev_c (fun H => plain_str) pi rfl)) (ear_all1 (upBd upBadRs) (t_r1 (r_2 ev_c ev_c pi (fun H => plain_non) rfl)) ear_all0)) (by decide)) fun v8 H8 e8 ⟨hB8, bl, hv8, hbn⟩ => ?_
    subst hv8
    have e57 := e6.trans e7
    have step : (1 : Int) ≤ 1 + (rs.length : Int) / 6 ∧ 1 + (rs.length : Int) / 6 ≤ 100000 := by omega
    refine q_forR3 (m := (rs.length : Int)) (c := 1 + (rs.length : Int) / 6) (ea_cons ev_c (ea_cons (ev_var rfl) (ea_cons (ev_op ev_c (ev_op (ev_var rfl) ev_c (rv_I ⟨by decide, by decide⟩)) rv_I0) ea_nil))) (by omega) (by omega) step.1 step.2 (fun i σ' H' => ∃ s9 : Option V, σ' = [some (.ref a), some (.int far), some (.ref dl), s3, some (.ref l), some (.ref pn), some (.int (rs.length : Int)), some (.ref pk), some (.ref bl), s9, none, none] ∧ Ex H7 H' ∧ BadList (21 + i) (Bd (BadRs K)) (.ref bl) H' ∧ i ≤ 63) (fun H9 e9 => ⟨_, rfl, e8.trans e9, hB8.imp fun _ ⟨ys, h1, h2, h3, h4⟩ => ⟨ys, h1, e9 _ _ h2, h3, fun x hx => ⟨upBd upBadRs _ _ _ e9 (h4 x hx).1, (h4 x hx).2⟩⟩, by omega⟩) (fun i z σ' H' hi hz hP => ?_) (fun i σ' H' hP => ?_)
    · obtain ⟨s9, rfl, e9, ⟨bl', ys, hbl, hys, hyl, hyb⟩, _⟩ := hP
      cases hbl
      have eR := e57.trans e9
      have hxs' := eR _ _ hx5
      have hrs' := hrs5.up eR
      have z5 : 0 ≤ z % 5 ∧ z % 5 < 5 := ⟨Int.emod_nonneg _ (by decide), Int.emod_lt_of_pos _ (by decide)⟩
      have hPR : PR K xs H' false := ⟨_, rbs_of hrs' ho, fun z => nomatch z⟩
      refine s_appR hys (ev_var rfl) (R := fun v H => Bd (BadRs K) v H ∧ v ≠ .ref bl) ((er_clCat (P := PR K) (n := 64) (m := 63) (a := true) (b := false) PR.up PR.app ((er_clCat (P := PR K) (n := 63) (m := 1) (a := false) (b := true) PR.up PR.app (cl_cut PR.up (fun _ _ _ _ h => h.cut) (ev_var rfl) eo_none (eo_some (ev_var rfl)) hxs' (by omega) hPR) ((er_lst (T := fun vs H => ∃ x, vs = [x] ∧ RestB K H x false) (ear_one (er_ixT (n := 5) upRF (ear_all1 upRF (r_c ev_c fun H => nt_non) (ear_all1 upRF (r_2 ev_c ev_c pi pi (by decide)) (ear_all1 upRF (r_2 ev_c ev_c pi pi (by decide)) (ear_all1 upRF (r_l ev_c ev_c) (ear_all1 upRF (r_2 (ev_op (ev_un ev_c ru_neg) (ev_var rfl) rv_I0) ev_c pi pi (restF_neg (by omega))) ear_all0))))) (by decide) (ev_op (ev_var rfl) ev_c (rv_I (by decide))) z5.1 z5.2)) (fun vs H1 ⟨x, hv, _⟩ => by rw [hv]; show 1 ≤ 100000; decide)).imp fun v H2 _ ⟨p, vs, H3, hv, _, e3, ⟨x, hvs, hx⟩, hp⟩ => ⟨p, vs, hv, hp, by rw [hvs]; exact Nat.le_refl _, [false], by rw [hvs]; exact ⟨hx.up e3, trivial⟩, fun _ => rfl⟩) (by decide)).imp fun v H2 _ h => h.1) (cl_cut PR.up (fun _ _ _ _ h => h.cut) (ev_var rfl) (eo_some (ev_op (ev_var rfl) ev_c rv_I0)) eo_none hxs' (by omega) hPR) (by decide)).imp fun v H2 _ ⟨⟨p, zs, hv, hp, hzl, bs, hb1, hb2⟩, p', hv', hpn'⟩ => ?_) (by omega) fun v H10 e10 ⟨hb, hne⟩ => ⟨_, rfl, Ex.mut (e9.trans e10) hbn, ?_, by omega⟩
      · subst hv
        cases hv'
        exact ⟨⟨.inr ⟨p, zs, bs, rfl, hp, by omega, hb1, hb2 rfl⟩, live_at hp⟩, fun z => by cases z; rw [hys] at hpn'; cases hpn'⟩
      · have := badList_app (n := 21 + (i + 1)) mutBadRs (e10 _ _ hys) (by omega) (fun x hx => ⟨upBd upBadRs _ _ _ e10 (hyb x hx).1, (hyb x hx).2⟩) hb hne
        exact this
    · obtain ⟨s9, rfl, e9, ⟨bl', ys, hbl, hys, hyl, hyb⟩, hi63⟩ := hP
      cases hbl
      have eR := e57.trans e9
      have hdueB := hdue5.up eR
      refine q_when (b := false) ?_ (fun z => nomatch z) fun _ H10 e10 => ?_
      · exact et_is (et_not (et_B (call_all (e := .r) (ds := [0, 1]) (R := BadRs K) (er_new (ea_cons ev_c (ea_cons ev_c ea_nil)) (by show 2 ≤ 100000; decide)) ((evr (v := .ref bl) (ev_var rfl)).imp fun v H2 e2 hv => ⟨bl, ys, hv, e2 _ _ hys, by omega, fun x hx => upBadRs _ _ _ e2 (hyb x hx).1.1⟩) upBadRs hdueB rfl fun H2 e2 d hd x hx => asks_rests T (.inl ⟨by simpa using hd, hx⟩)))) rfl
      -- the second
      refine q_asgR (er_things (n := 14) (R := Bd (BadL K isTurn)) (upBd upBadL) (ear_all1 (upBd upBadL) (t_c noBadL ev_c (fun H => nl_non) (by intro p z; cases z)) (ear_all1 (upBd upBadL) (t_tup0 noBadL) (ear_all1 (upBd upBadL) (t_c noBadL ev_c (fun H => nl_str) (by intro p z; cases z)) (ear_all1 (upBd upBadL) (t_dict noBadL) (ear_all1 (upBd upBadL) (t_c noBadL ev_c (fun H => nl_int) (by intro p z; cases z))
        (ear_all1 (upBd upBadL) (t_l1 (b_c ev_c (fun H => plain_non) rfl)) (ear_all1 (upBd upBadL) (t_l1 (b_c ev_c pi (by decide))) (ear_all1 (upBd upBadL) (t_l1 (b_c (ev_un ev_c ru_neg) pi (by decide))) (ear_all1 (upBd upBadL) (t_l1 (b_c ev_c pi (by decide))) (ear_all1 (upBd upBadL) (t_l1 (b_c (ev_op ev_c (ev_var rfl) rv_I0) pi (isTurn_big (by omega)))) (ear_all1 (upBd upBadL) (t_l1 (b_c ev_c (fun H => plain_bl) rfl)) (ear_all1 (upBd upBadL) (t_l1 (b_c ev_c (fun H => plain_str) rfl)) (ear_all1 (upBd upBadL) (t_l1 (b_l ev_c fun _ => rfl)) (ear_all1 (upBd upBadL) (t_l2 ev_c ev_c pi pi (by decide)) ear_all0)))))))))))))) (by decide)) fun v11 H11 e11 h11 => ?_
      have eS := eR.trans (e10.trans e11)
      refine q_when (b := false) ?_ (fun z => nomatch z) fun _ H12 e12 => ?_
      · exact et_is (et_not (et_B (call_all (e := .r) (ds := [2]) (R := Bd (BadL K isTurn)) (er_new (ea_cons ev_c ea_nil) (by show 1 ≤ 100000; decide)) ((evr (v := v11) (ev_var rfl)).imp fun v H2 e2 hv => by
          obtain ⟨p, zs, h1, h2, h3, h4⟩ := h11
          exact ⟨p, zs, by rw [hv, h1], e2 _ _ h2, h3, fun x hx => upBd upBadL _ _ _ e2 (h4 x hx)⟩) (upBd upBadL) (hdue5.up eS) rfl fun H2 e2 d hd x hx => asks_rests T (.inr ⟨by simpa using hd, hx.1⟩)))) rfl
      refine q_when (b := false) ?_ (fun z => nomatch z) fun _ H13 e13' => ?_
      · exact et_is (et_not (et_B (call_all (e := .r) (ds := [1]) (R := Bad1 K isI) (er_new (ea_cons ev_c ea_nil) (by show 1 ≤ 100000; decide)) (er_things (n := 4) upBad1 (ear_all1 upBad1 (b_c ev_c (fun H => plain_non) rfl) (ear_all1 upBad1 (b_c ev_c (fun H => plain_str) rfl) (ear_all1 upBad1 (b_c ev_c (fun H => plain_bl) rfl) (ear_all1 upBad1 (b_l ev_c fun _ => rfl) ear_all0)))) (by decide)) upBad1 (hdue5.up (eS.trans e12)) rfl fun H2 e2 d hd x hx => by
          rw [List.mem_singleton.mp hd]
          exact asks_number1 T hx))) rfl
      have eU := eS.trans (e12.trans e13')
      -- the third
      refine q_asgR (er_bads (n := 13) (R := BadL K isNum) upBadL (ear_all1 (upBd upBadL) (t_c noBadL ev_c (fun H => nl_non) (by intro p z; cases z)) (ear_all1 (upBd upBadL) (t_tup0 noBadL) (ear_all1 (upBd upBadL) (t_c noBadL ev_c (fun H => nl_str) (by intro p z; cases z)) (ear_all1 (upBd upBadL) (t_dict noBadL) (ear_all1 (upBd upBadL) (t_c noBadL ev_c (fun H => nl_int) (by intro p z; cases z))
        (ear_all1 (upBd upBadL) (t_l1 (b_c ev_c (fun H => plain_non) rfl)) (ear_all1 (upBd upBadL) (t_l1 (b_c ev_c (fun H => plain_str) rfl)) (ear_all1 (upBd upBadL) (t_l1 (b_c ev_c (fun H => plain_bl) rfl)) (ear_all1 (upBd upBadL) (t_l1 (b_c ev_c pi (by decide))) (ear_all1 (upBd upBadL) (t_l1 (b_c (ev_un ev_c ru_neg) pi (by decide))) (ear_all1 (upBd upBadL) (t_l1 (b_c (ev_op ev_c (ev_var rfl) rv_I0) pi (isNum_big (by omega)))) (ear_all1 (upBd upBadL) (t_l1 (b_c (ev_op (ev_un ev_c ru_neg) (ev_var rfl) rv_I0) pi (isNum_low (by omega)))) (ear_all1 (upBd upBadL) (t_l1 (b_l ev_c fun _ => rfl)) ear_all0))))))))))))) (by decide)) fun v14 H14 e14 ⟨hB14, bm, hv14, hmn⟩ => ?_
      subst hv14
      refine q_forR3 (m := (rs.length : Int)) (c := 1 + (rs.length : Int) / 6) (ea_cons ev_c (ea_cons (ev_var rfl) (ea_cons (ev_op ev_c (ev_op (ev_var rfl) ev_c (rv_I ⟨by decide, by decide⟩)) rv_I0) ea_nil))) (by omega) (by omega) step.1 step.2 (fun i σ' H' => ∃ s9 : Option V, σ' = [some (.ref a), some (.int far), some (.ref dl), s3, some (.ref l), some (.ref pn), some (.int (rs.length : Int)), some (.ref pk), some (.ref bm), s9, none, none] ∧ Ex H13 H' ∧ BadList (13 + i) (Bd (BadL K isNum)) (.ref bm) H' ∧ i ≤ 63) (fun H9 e9 => ⟨_, rfl, e14.trans e9, hB14.imp fun _ ⟨ys, h1, h2, h3, h4⟩ => ⟨ys, h1, e9 _ _ h2, h3, fun x hx => ⟨upBd upBadL _ _ _ e9 (h4 x hx).1, (h4 x hx).2⟩⟩, by omega⟩) (fun i z σ' H' hi hz hP => ?_) (fun i σ' H' hP => ?_)
      · obtain ⟨s9, rfl, e15, ⟨bl', ws, hbl, hws, hwl, hwb⟩, _⟩ := hP
        cases hbl
        have eV := eU.trans e15
        have hpn' := eV _ _ hpn5
        have z5 : 0 ≤ z % 5 ∧ z % 5 < 5 := ⟨Int.emod_nonneg _ (by decide), Int.emod_lt_of_pos _ (by decide)⟩
        have hPP : PP K isNum (iv (rs.map (·.1))) H' false := ⟨fun x hx => by
          obtain ⟨t, _, rfl⟩ := List.mem_map.mp hx
          exact plain_int, fun z => nomatch z⟩
        have hpl : (iv (rs.map (·.1))).length ≤ 63 := by rw [iv_len, List.length_map]; exact hrl
        refine s_appR hws (ev_var rfl) (R := fun v H => Bd (BadL K isNum) v H ∧ v ≠ .ref bm) ((er_clCat (P := PP K isNum) (n := 64) (m := 63) (a := true) (b := false) PP.up PP.app ((er_clCat (P := PP K isNum) (n := 63) (m := 1) (a := false) (b := true) PP.up PP.app (cl_cut PP.up (fun _ _ _ _ h => h.cut) (ev_var rfl) eo_none (eo_some (ev_var rfl)) hpn' hpl hPP) ((er_lst (T := fun vs H => ∃ x, vs = [x] ∧ Bad1 K isNum x H) (ear_one (er_ixT (n := 5) upBad1 (ear_all1 upBad1 (b_c ev_c (fun H => plain_non) rfl) (ear_all1 upBad1 (b_c ev_c (fun H => plain_str) rfl) (ear_all1 upBad1 (b_c ev_c (fun H => plain_bl) rfl) (ear_all1 upBad1 (b_c (ev_op ev_c (ev_var rfl) rv_I0) pi (isNum_big (by omega))) (ear_all1 upBad1 (b_c (ev_un ev_c ru_neg) pi (by decide)) ear_all0))))) (by decide) (ev_op (ev_var rfl) ev_c (rv_I (by decide))) z5.1 z5.2)) (fun vs H1 ⟨x, hv, _⟩ => by rw [hv]; show 1 ≤ 100000; decide)).imp fun v H2 _ ⟨p, vs, H3, hv, _, e3, ⟨x, hvs, hx, hf⟩, hp⟩ => ⟨p, vs, hv, hp, by rw [hvs]; exact Nat.le_refl _, fun y hy => by rw [hvs] at hy; rw [List.mem_singleton.mp hy]; exact hx.up e3, fun _ => by rw [hvs, List.all_cons, hf]; rfl⟩) (by decide)).imp fun v H2 _ h => h.1) (cl_cut PP.up (fun _ _ _ _ h => h.cut) (ev_var rfl) (eo_some (ev_op (ev_var rfl) ev_c rv_I0)) eo_none hpn' hpl hPP) (by decide)).imp fun v H2 _ ⟨⟨p, zs, hv, hp, hzl, hb1, hb2⟩, p', hv', hpn''⟩ => ?_) (by omega) fun v H16 e16 ⟨hb, hne⟩ => ⟨_, rfl, Ex.mut (e15.trans e16) hmn, ?_, by omega⟩
        · subst hv
          cases hv'
          exact ⟨⟨.inr ⟨p, zs, rfl, hp, by omega, hb1, hb2 rfl⟩, live_at hp⟩, fun z => by cases z; rw [hws] at hpn''; cases hpn''⟩
        · exact badList_app (n := 13 + (i + 1)) mutBadL (e16 _ _ hws) (by omega) (fun x hx => ⟨upBd upBadL _ _ _ e16 (hwb x hx).1, (hwb x hx).2⟩) hb hne
      · obtain ⟨s9', rfl, e15, ⟨bl', ws, hbl, hws, hwl, hwb⟩, hi63'⟩ := hP
        cases hbl
        have eV := eU.trans e15
        refine q_when (b := false) ?_ (fun z => nomatch z) fun _ H16 e16 => ?_
        · exact et_is (et_not (et_B (call_all (e := .n) (ds := [0, 1, 2, 3]) (R := BadL K isNum) (fun H1 e Q q => ⟨4, rfl, RgOk.of_le (by decide) (by decide) (by decide) (by decide), fun p hp => q _ _ (Ex.new hp) ⟨p, rfl, fresh_back e hp, upd_same⟩⟩) ((evr (v := .ref bm) (ev_var rfl)).imp fun v H2 e2 hv => ⟨bm, ws, hv, e2 _ _ hws, by omega, fun x hx => upBadL _ _ _ e2 (hwb x hx).1.1⟩) upBadL (hdue5.up eV) rfl fun H2 e2 d hd x hx => asks_numbers T hx))) rfl
        have eW := eV.trans e16
        refine q_when (b := false) ?_ (fun z => nomatch z) fun _ H17 e17 => ?_
        · exact et_is (et_not (et_B (call_all (e := .n) (ds := [0]) (R := Bad1 K isNum) (er_new (ea_cons ev_c ea_nil) (by show 1 ≤ 100000; decide)) (er_things (n := 6) upBad1 (ear_all1 upBad1 (b_c ev_c (fun H => plain_non) rfl) (ear_all1 upBad1 (b_c ev_c (fun H => plain_str) rfl) (ear_all1 upBad1 (b_c ev_c (fun H => plain_bl) rfl) (ear_all1 upBad1 (b_l ev_c fun _ => rfl) (ear_all1 upBad1 (b_c ev_c pi (by decide)) (ear_all1 upBad1 (b_c (ev_op (ev_un ev_c ru_neg) (ev_var rfl) rv_I0) pi (isNum_low (by omega))) ear_all0)))))) (by decide)) upBad1 (hdue5.up eW) rfl fun H2 e2 d hd x hx => by
            rw [List.mem_singleton.mp hd]
            exact asks_number0 T hx))) rfl
        have eX := eW.trans e17
        refine q_when (b := false) ?_ (fun z => nomatch z) fun _ H18 e18 => ?_
        · exact et_is (et_not (et_B (call_all (e := .d) (ds := [0, 1]) (R := Bad1 K isTurn) (er_new (ea_cons ev_c (ea_cons ev_c ea_nil)) (by show 2 ≤ 100000; decide)) (er_things (n := 9) upBad1 (ear_all1 upBad1 (b_c ev_c (fun H => plain_non) rfl) (ear_all1 upBad1 (b_c ev_c (fun H => plain_str) rfl) (ear_all1 upBad1 (b_c ev_c pi (by decide)) (ear_all1 upBad1 (b_c (ev_un ev_c ru_neg) pi (by decide)) (ear_all1 upBad1 (b_c (ev_op (ev_un ev_c ru_neg) (ev_var rfl) rv_I0) pi (isTurn_low (by omega))) (ear_all1 upBad1 (b_c ev_c pi (by decide)) (ear_all1 upBad1 (b_c (ev_op ev_c (ev_var rfl) rv_I0) pi (isTurn_big (by omega))) (ear_all1 upBad1 (b_c ev_c (fun H => plain_bl) rfl) (ear_all1 upBad1 (b_l ev_c fun _ => rfl) ear_all0))))))))) (by decide)) upBad1 (hdue5.up eX) rfl fun H2 e2 d hd x hx => asks_turn T hx))) rfl
        have eY := eX.trans e18
        have upI : UpH (fun x H => Bad1 K (inR 1) x H ∧ Bad1 K (inR 6) x H) := fun x H H' e h => ⟨upBad1 _ _ _ e h.1, upBad1 _ _ _ e h.2⟩
        have ic : ∀ {σ : L2.St} {H : Hp} {te : TE} {x : V}, Ev te σ H x → (∀ H, PlainV K H x) → inR 1 x = false → inR 6 x = false → EvR te σ H (fun x H => Bad1 K (inR 1) x H ∧ Bad1 K (inR 6) x H) := fun h px h1 h6 => (evr h).imp fun v H2 _ hv => by rw [hv]; exact ⟨⟨px _, h1⟩, px _, h6⟩
        refine q_when (b := false) ?_ (fun z => nomatch z) fun _ H19 e19 => ?_
        · refine et_is (et_not (et_B (call_all (e := .s) (ds := [1, 6]) (R := fun x H => Bad1 K (inR 1) x H ∧ Bad1 K (inR 6) x H) (er_new (ea_cons ev_c (ea_cons ev_c ea_nil)) (by show 2 ≤ 100000; decide)) (er_things (n := 8) upI (ear_all1 upI (ic ev_c (fun H => plain_non) rfl rfl) (ear_all1 upI (ic ev_c (fun H => plain_str) rfl rfl) (ear_all1 upI (ic (ev_un ev_c ru_neg) pi (by decide) (by decide)) (ear_all1 upI (ic (ev_op (ev_un ev_c ru_neg) (ev_var rfl) rv_I0) pi (inR_out (.inl (by omega))) (inR_out (.inl (by omega)))) (ear_all1 upI (ic ev_c pi (by decide) (by decide)) (ear_all1 upI (ic (ev_op ev_c (ev_var rfl) rv_I0) pi (inR_out (.inr (by omega))) (inR_out (.inr (by omega)))) (ear_all1 upI (ic ev_c (fun H => plain_bl) rfl rfl) (ear_all1 upI ((er_new (xs := [.int 0]) (ea_cons ev_c ea_nil) (by show 1 ≤ 100000; decide)).imp fun v H2 _ ⟨p, hv, _, hp⟩ => by rw [hv]; exact ⟨⟨⟨"list", .base (.lst hp), by decide⟩, rfl⟩, ⟨"list", .base (.lst hp), by decide⟩, rfl⟩) ear_all0)))))))) (by decide)) upI (hdue5.up eY) rfl fun H2 e2 d hd x hx => ?_))) rfl
          simp only [List.mem_cons, List.not_mem_nil, or_false] at hd
          rcases hd with rfl | rfl
          · exact asks_rest T (by decide) (by decide) hx.1
          · exact asks_rest T (by decide) (by decide) hx.2
        have eZ := eY.trans e19
        have hxZ := eZ _ _ hx5
        have hkZ := eZ _ _ hpk5
        have hrZ := hrs5.up eZ
        refine s_ret (v := .bl true) (ev_andV (a := true) (b := true) (ev_op (ev_var rfl) (ev_var rfl) (rv_eqSame (dp_rs hxZ hrZ) (dp_rs hkZ hrZ) (sh_rs rs))) fun _ => ev_andV (a := true) (b := true) (ev_opRR (Ra := fun v H => RsAt H v [(999999, 1000000), (0, 1)]) (Rb := fun v H => RsAt H v [(999999, 1000000), (0, 1)]) (er_callS (T := fun vs H => ∃ v, vs = [.int (-1), v] ∧ LstAt (iv [1000000, 1]) v H) (ear_cons (evr (ev_un ev_c ru_neg)) fun x H2 e2 hx => (ear_one (er_new (xs := iv [1000000, 1]) (ea_cons ev_c (ea_cons ev_c ea_nil)) (by show 2 ≤ 100000; decide))).imp fun vs H3 _ ⟨y, hvs, q, hy, _, hq⟩ => ⟨y, by rw [hx, hvs], q, hy, hq⟩) fun vs H2 e2 ⟨y, hvs, hy⟩ Q q => ?_) (rs_two ev_c ev_c ev_c ev_c) fun x y H2 H3 e2 hx e3 hy => ?_) fun _ => ev_opRR (Ra := fun v H => RsAt H v []) (Rb := fun v H => RsAt H v []) (er_callS (T := fun vs H => ∃ v, vs = [.int far, v] ∧ LstAt (iv []) v H) (ear_cons (evr (ev_var rfl)) fun x H2 e2 hx => (ear_one (er_new (xs := iv []) ea_nil (by show 0 ≤ 100000; decide))).imp fun vs H3 _ ⟨y, hvs, q, hy, _, hq⟩ => ⟨y, by rw [hx, hvs], q, hy, hq⟩) fun vs H2 e2 ⟨y, hvs, hy⟩ Q q => ?_) ((er_new (xs := []) ea_nil (by show 0 ≤ 100000; decide)).imp fun v H2 _ ⟨p, hv, _, hp⟩ => ⟨p, [], hv, hp, trivial⟩) fun x y H2 H3 e2 hx e3 hy => ?_) fun H20 _ => k _
        · subst hvs
          exact .inl ⟨(y, -1, [1000000, 1]), ⟨rfl, hy, by show 2 ≤ 10000; decide, fun t ht => by
            simp only [List.mem_cons, List.not_mem_nil, or_false] at ht
            rcases ht with rfl | rfl <;> decide⟩, fun v H3 e3 p => q v H3 e3 p⟩
        · obtain ⟨p, zs, rfl, hp, hpr⟩ := hx
          obtain ⟨p2, zs2, rfl, hp2, hpr2⟩ := hy
          exact rv_eqSame (dp_rs (e3 _ _ hp) (hpr.up e3)) (dp_rs hp2 hpr2) (sh_rs _)
        · subst hvs
          exact .inl ⟨(y, far, []), ⟨rfl, hy, by show 0 ≤ 10000; decide, fun t ht => nomatch ht⟩, fun v H3 e3 p => q v H3 e3 p⟩
        · obtain ⟨p, zs, rfl, hp, hpr⟩ := hx
          obtain ⟨p2, zs2, rfl, hp2, hpr2⟩ := hy
          exact rv_eqSame (dp_rs (e3 _ _ hp) (hpr.up e3)) (dp_rs hp2 hpr2) (sh_rs _)
end
theorem all_mk {l : PySem.W.OpenLaw} {w : World} {K : PySem.W.Frag} {h : Heap} {mg : Str → Option Value} {fa : Addr} {x_is_whole x_is_number x_is_turn x_check_numbers x_check_turn x_is_rest x_check_rests x_common x_come x_back x_told x_left x_stretch x_chosen x_written x_l_cell_at x_l_draw x_l_turns x_l_rests x_l_kinds x_l_with_rests x_l_with_numbers x_l_with_turn x_l_with_rest x_l_with_number x_l_told x_l_all x_law y_RestError y_BadRests y_BadNumbers y_BadRound y_BadRest y_BadCount y_BadText y_Answer y_Number y_Clash y_Common y_Times y_Bar y_Back : Addr} (X : K.In h) (G : h.Ns mainGlobals mg) (hfa : mg "law" = some (.ref fa))
    {od0 an0 : Option Addr} {sl0 : Array (Option Value)} {oc0 kV0 dc0 pm0 cd0 ct0 : Value}
    {od1 an1 : Option Addr} {sl1 : Array (Option Value)} {oc1 kV1 dc1 pm1 cd1 ct1 : Value}
    {od2 an2 : Option Addr} {sl2 : Array (Option Value)} {oc2 kV2 dc2 pm2 cd2 ct2 : Value}
    {od3 an3 : Option Addr} {sl3 : Array (Option Value)} {oc3 kV3 dc3 pm3 cd3 ct3 : Value}
    {od4 an4 : Option Addr} {sl4 : Array (Option Value)} {oc4 kV4 dc4 pm4 cd4 ct4 : Value}
    {od5 an5 : Option Addr} {sl5 : Array (Option Value)} {oc5 kV5 dc5 pm5 cd5 ct5 : Value}
    {od6 an6 : Option Addr} {sl6 : Array (Option Value)} {oc6 kV6 dc6 pm6 cd6 ct6 : Value}
    {od7 an7 : Option Addr} {sl7 : Array (Option Value)} {oc7 kV7 dc7 pm7 cd7 ct7 : Value}
    {od8 an8 : Option Addr} {sl8 : Array (Option Value)} {oc8 kV8 dc8 pm8 cd8 ct8 : Value}
    {od9 an9 : Option Addr} {sl9 : Array (Option Value)} {oc9 kV9 dc9 pm9 cd9 ct9 : Value}
    {od10 an10 : Option Addr} {sl10 : Array (Option Value)} {oc10 kV10 dc10 pm10 cd10 ct10 : Value}
    {od11 an11 : Option Addr} {sl11 : Array (Option Value)} {oc11 kV11 dc11 pm11 cd11 ct11 : Value}
    {od12 an12 : Option Addr} {sl12 : Array (Option Value)} {oc12 kV12 dc12 pm12 cd12 ct12 : Value}
    {od13 an13 : Option Addr} {sl13 : Array (Option Value)} {oc13 kV13 dc13 pm13 cd13 ct13 : Value}
    {od14 an14 : Option Addr} {sl14 : Array (Option Value)} {oc14 kV14 dc14 pm14 cd14 ct14 : Value}
    {od15 an15 : Option Addr} {sl15 : Array (Option Value)} {oc15 kV15 dc15 pm15 cd15 ct15 : Value}
    {od16 an16 : Option Addr} {sl16 : Array (Option Value)} {oc16 kV16 dc16 pm16 cd16 ct16 : Value}
    {od17 an17 : Option Addr} {sl17 : Array (Option Value)} {oc17 kV17 dc17 pm17 cd17 ct17 : Value}
    {od18 an18 : Option Addr} {sl18 : Array (Option Value)} {oc18 kV18 dc18 pm18 cd18 ct18 : Value}
    {od19 an19 : Option Addr} {sl19 : Array (Option Value)} {oc19 kV19 dc19 pm19 cd19 ct19 : Value}
    {od20 an20 : Option Addr} {sl20 : Array (Option Value)} {oc20 kV20 dc20 pm20 cd20 ct20 : Value}
    {od21 an21 : Option Addr} {sl21 : Array (Option Value)} {oc21 kV21 dc21 pm21 cd21 ct21 : Value}
    {od22 an22 : Option Addr} {sl22 : Array (Option Value)} {oc22 kV22 dc22 pm22 cd22 ct22 : Value}
    {od23 an23 : Option Addr} {sl23 : Array (Option Value)} {oc23 kV23 dc23 pm23 cd23 ct23 : Value}
    {od24 an24 : Option Addr} {sl24 : Array (Option Value)} {oc24 kV24 dc24 pm24 cd24 ct24 : Value}
    {od25 an25 : Option Addr} {sl25 : Array (Option Value)} {oc25 kV25 dc25 pm25 cd25 ct25 : Value}
    {od26 an26 : Option Addr} {sl26 : Array (Option Value)} {oc26 kV26 dc26 pm26 cd26 ct26 : Value}
    {od27 an27 : Option Addr} {sl27 : Array (Option Value)} {oc27 kV27 dc27 pm27 cd27 ct27 : Value}
    {tk_GREATEST : Tok}
    (yRestError : PySem.W.nsIn K mainGlobals "RestError" = some (some (.ref y_RestError)))
    (yBadRests : PySem.W.nsIn K mainGlobals "BadRests" = some (some (.ref y_BadRests)))
    (yBadNumbers : PySem.W.nsIn K mainGlobals "BadNumbers" = some (some (.ref y_BadNumbers)))
    (yBadRound : PySem.W.nsIn K mainGlobals "BadRound" = some (some (.ref y_BadRound)))
    (yBadRest : PySem.W.nsIn K mainGlobals "BadRest" = some (some (.ref y_BadRest)))
    (yBadCount : PySem.W.nsIn K mainGlobals "BadCount" = some (some (.ref y_BadCount)))
    (yBadText : PySem.W.nsIn K mainGlobals "BadText" = some (some (.ref y_BadText)))
    (yAnswer : PySem.W.nsIn K mainGlobals "Answer" = some (some (.ref y_Answer)))
    (yNumber : PySem.W.nsIn K mainGlobals "Number" = some (some (.ref y_Number)))
    (yClash : PySem.W.nsIn K mainGlobals "Clash" = some (some (.ref y_Clash)))
    (yCommon : PySem.W.nsIn K mainGlobals "Common" = some (some (.ref y_Common)))
    (yTimes : PySem.W.nsIn K mainGlobals "Times" = some (some (.ref y_Times)))
    (yBar : PySem.W.nsIn K mainGlobals "Bar" = some (some (.ref y_Bar)))
    (yBack : PySem.W.nsIn K mainGlobals "Back" = some (some (.ref y_Back)))
    (a0 : PySem.W.nsIn K mainGlobals "is_whole" = some (some (.ref x_is_whole)))
    (l0 : K.lookup x_is_whole = some ⟨oc0, od0, .func (PySem.W.fnOf "is_whole" "is_whole" (defArgs s_is_whole) (defBody s_is_whole) (defScope s_is_whole) .none kV0 dc0 pm0 an0 cd0 ct0), sl0⟩)
    (c0 : PySem.W.codeIn K cd0 "is_whole" = true)
    (k0 : PySem.W.keepIn K (.ref x_is_whole) = true)
    (a1 : PySem.W.nsIn K mainGlobals "is_number" = some (some (.ref x_is_number)))
    (l1 : K.lookup x_is_number = some ⟨oc1, od1, .func (PySem.W.fnOf "is_number" "is_number" (defArgs s_is_number) (defBody s_is_number) (defScope s_is_number) .none kV1 dc1 pm1 an1 cd1 ct1), sl1⟩)
    (c1 : PySem.W.codeIn K cd1 "is_number" = true)
    (k1 : PySem.W.keepIn K (.ref x_is_number) = true)
    (a2 : PySem.W.nsIn K mainGlobals "is_turn" = some (some (.ref x_is_turn)))
    (l2 : K.lookup x_is_turn = some ⟨oc2, od2, .func (PySem.W.fnOf "is_turn" "is_turn" (defArgs s_is_turn) (defBody s_is_turn) (defScope s_is_turn) .none kV2 dc2 pm2 an2 cd2 ct2), sl2⟩)
    (c2 : PySem.W.codeIn K cd2 "is_turn" = true)
    (k2 : PySem.W.keepIn K (.ref x_is_turn) = true)
    (a3 : PySem.W.nsIn K mainGlobals "check_numbers" = some (some (.ref x_check_numbers)))
    (l3 : K.lookup x_check_numbers = some ⟨oc3, od3, .func (PySem.W.fnOf "check_numbers" "check_numbers" (defArgs s_check_numbers) (defBody s_check_numbers) (defScope s_check_numbers) .none kV3 dc3 pm3 an3 cd3 ct3), sl3⟩)
    (c3 : PySem.W.codeIn K cd3 "check_numbers" = true)
    (k3 : PySem.W.keepIn K (.ref x_check_numbers) = true)
    (a4 : PySem.W.nsIn K mainGlobals "check_turn" = some (some (.ref x_check_turn)))
    (l4 : K.lookup x_check_turn = some ⟨oc4, od4, .func (PySem.W.fnOf "check_turn" "check_turn" (defArgs s_check_turn) (defBody s_check_turn) (defScope s_check_turn) .none kV4 dc4 pm4 an4 cd4 ct4), sl4⟩)
    (c4 : PySem.W.codeIn K cd4 "check_turn" = true)
    (k4 : PySem.W.keepIn K (.ref x_check_turn) = true)
    (a5 : PySem.W.nsIn K mainGlobals "is_rest" = some (some (.ref x_is_rest)))
    (l5 : K.lookup x_is_rest = some ⟨oc5, od5, .func (PySem.W.fnOf "is_rest" "is_rest" (defArgs s_is_rest) (defBody s_is_rest) (defScope s_is_rest) .none kV5 dc5 pm5 an5 cd5 ct5), sl5⟩)
    (c5 : PySem.W.codeIn K cd5 "is_rest" = true)
    (k5 : PySem.W.keepIn K (.ref x_is_rest) = true)
    (a6 : PySem.W.nsIn K mainGlobals "check_rests" = some (some (.ref x_check_rests)))
    (l6 : K.lookup x_check_rests = some ⟨oc6, od6, .func (PySem.W.fnOf "check_rests" "check_rests" (defArgs s_check_rests) (defBody s_check_rests) (defScope s_check_rests) .none kV6 dc6 pm6 an6 cd6 ct6), sl6⟩)
    (c6 : PySem.W.codeIn K cd6 "check_rests" = true)
    (k6 : PySem.W.keepIn K (.ref x_check_rests) = true)
    (a7 : PySem.W.nsIn K mainGlobals "common" = some (some (.ref x_common)))
    (l7 : K.lookup x_common = some ⟨oc7, od7, .func (PySem.W.fnOf "common" "common" (defArgs s_common) (defBody s_common) (defScope s_common) .none kV7 dc7 pm7 an7 cd7 ct7), sl7⟩)
    (c7 : PySem.W.codeIn K cd7 "common" = true)
    (k7 : PySem.W.keepIn K (.ref x_common) = true)
    (a8 : PySem.W.nsIn K mainGlobals "come" = some (some (.ref x_come)))
    (l8 : K.lookup x_come = some ⟨oc8, od8, .func (PySem.W.fnOf "come" "come" (defArgs s_come) (defBody s_come) (defScope s_come) .none kV8 dc8 pm8 an8 cd8 ct8), sl8⟩)
    (c8 : PySem.W.codeIn K cd8 "come" = true)
    (k8 : PySem.W.keepIn K (.ref x_come) = true)
    (a9 : PySem.W.nsIn K mainGlobals "back" = some (some (.ref x_back)))
    (l9 : K.lookup x_back = some ⟨oc9, od9, .func (PySem.W.fnOf "back" "back" (defArgs s_back) (defBody s_back) (defScope s_back) .none kV9 dc9 pm9 an9 cd9 ct9), sl9⟩)
    (c9 : PySem.W.codeIn K cd9 "back" = true)
    (k9 : PySem.W.keepIn K (.ref x_back) = true)
    (a10 : PySem.W.nsIn K mainGlobals "told" = some (some (.ref x_told)))
    (l10 : K.lookup x_told = some ⟨oc10, od10, .func (PySem.W.fnOf "told" "told" (defArgs s_told) (defBody s_told) (defScope s_told) .none kV10 dc10 pm10 an10 cd10 ct10), sl10⟩)
    (c10 : PySem.W.codeIn K cd10 "told" = true)
    (k10 : PySem.W.keepIn K (.ref x_told) = true)
    (a11 : PySem.W.nsIn K mainGlobals "left" = some (some (.ref x_left)))
    (l11 : K.lookup x_left = some ⟨oc11, od11, .func (PySem.W.fnOf "left" "left" (defArgs s_left) (defBody s_left) (defScope s_left) .none kV11 dc11 pm11 an11 cd11 ct11), sl11⟩)
    (c11 : PySem.W.codeIn K cd11 "left" = true)
    (k11 : PySem.W.keepIn K (.ref x_left) = true)
    (a12 : PySem.W.nsIn K mainGlobals "stretch" = some (some (.ref x_stretch)))
    (l12 : K.lookup x_stretch = some ⟨oc12, od12, .func (PySem.W.fnOf "stretch" "stretch" (defArgs s_stretch) (defBody s_stretch) (defScope s_stretch) .none kV12 dc12 pm12 an12 cd12 ct12), sl12⟩)
    (c12 : PySem.W.codeIn K cd12 "stretch" = true)
    (k12 : PySem.W.keepIn K (.ref x_stretch) = true)
    (a13 : PySem.W.nsIn K mainGlobals "chosen" = some (some (.ref x_chosen)))
    (l13 : K.lookup x_chosen = some ⟨oc13, od13, .func (PySem.W.fnOf "chosen" "chosen" (defArgs s_chosen) (defBody s_chosen) (defScope s_chosen) .none kV13 dc13 pm13 an13 cd13 ct13), sl13⟩)
    (c13 : PySem.W.codeIn K cd13 "chosen" = true)
    (k13 : PySem.W.keepIn K (.ref x_chosen) = true)
    (a14 : PySem.W.nsIn K mainGlobals "written" = some (some (.ref x_written)))
    (l14 : K.lookup x_written = some ⟨oc14, od14, .func (PySem.W.fnOf "written" "written" (defArgs s_written) (defBody s_written) (defScope s_written) .none kV14 dc14 pm14 an14 cd14 ct14), sl14⟩)
    (c14 : PySem.W.codeIn K cd14 "written" = true)
    (k14 : PySem.W.keepIn K (.ref x_written) = true)
    (a15 : PySem.W.nsIn K mainGlobals "_law_cell_at" = some (some (.ref x_l_cell_at)))
    (l15 : K.lookup x_l_cell_at = some ⟨oc15, od15, .func (PySem.W.fnOf "_law_cell_at" "_law_cell_at" (defArgs s_l_cell_at) (defBody s_l_cell_at) (defScope s_l_cell_at) .none kV15 dc15 pm15 an15 cd15 ct15), sl15⟩)
    (c15 : PySem.W.codeIn K cd15 "_law_cell_at" = true)
    (k15 : PySem.W.keepIn K (.ref x_l_cell_at) = true)
    (a16 : PySem.W.nsIn K mainGlobals "_law_draw" = some (some (.ref x_l_draw)))
    (l16 : K.lookup x_l_draw = some ⟨oc16, od16, .func (PySem.W.fnOf "_law_draw" "_law_draw" (defArgs s_l_draw) (defBody s_l_draw) (defScope s_l_draw) .none kV16 dc16 pm16 an16 cd16 ct16), sl16⟩)
    (c16 : PySem.W.codeIn K cd16 "_law_draw" = true)
    (k16 : PySem.W.keepIn K (.ref x_l_draw) = true)
    (a17 : PySem.W.nsIn K mainGlobals "_law_turns" = some (some (.ref x_l_turns)))
    (l17 : K.lookup x_l_turns = some ⟨oc17, od17, .func (PySem.W.fnOf "_law_turns" "_law_turns" (defArgs s_l_turns) (defBody s_l_turns) (defScope s_l_turns) .none kV17 dc17 pm17 an17 cd17 ct17), sl17⟩)
    (c17 : PySem.W.codeIn K cd17 "_law_turns" = true)
    (k17 : PySem.W.keepIn K (.ref x_l_turns) = true)
    (a18 : PySem.W.nsIn K mainGlobals "_law_rests" = some (some (.ref x_l_rests)))
    (l18 : K.lookup x_l_rests = some ⟨oc18, od18, .func (PySem.W.fnOf "_law_rests" "_law_rests" (defArgs s_l_rests) (defBody s_l_rests) (defScope s_l_rests) .none kV18 dc18 pm18 an18 cd18 ct18), sl18⟩)
    (c18 : PySem.W.codeIn K cd18 "_law_rests" = true)
    (k18 : PySem.W.keepIn K (.ref x_l_rests) = true)
    (a19 : PySem.W.nsIn K mainGlobals "_law_kinds" = some (some (.ref x_l_kinds)))
    (l19 : K.lookup x_l_kinds = some ⟨oc19, od19, .func (PySem.W.fnOf "_law_kinds" "_law_kinds" (defArgs s_l_kinds) (defBody s_l_kinds) (defScope s_l_kinds) .none kV19 dc19 pm19 an19 cd19 ct19), sl19⟩)
    (c19 : PySem.W.codeIn K cd19 "_law_kinds" = true)
    (k19 : PySem.W.keepIn K (.ref x_l_kinds) = true)
    (a20 : PySem.W.nsIn K mainGlobals "_law_with_rests" = some (some (.ref x_l_with_rests)))
    (l20 : K.lookup x_l_with_rests = some ⟨oc20, od20, .func (PySem.W.fnOf "_law_with_rests" "_law_with_rests" (defArgs s_l_with_rests) (defBody s_l_with_rests) (defScope s_l_with_rests) .none kV20 dc20 pm20 an20 cd20 ct20), sl20⟩)
    (c20 : PySem.W.codeIn K cd20 "_law_with_rests" = true)
    (k20 : PySem.W.keepIn K (.ref x_l_with_rests) = true)
    (a21 : PySem.W.nsIn K mainGlobals "_law_with_numbers" = some (some (.ref x_l_with_numbers)))
    (l21 : K.lookup x_l_with_numbers = some ⟨oc21, od21, .func (PySem.W.fnOf "_law_with_numbers" "_law_with_numbers" (defArgs s_l_with_numbers) (defBody s_l_with_numbers) (defScope s_l_with_numbers) .none kV21 dc21 pm21 an21 cd21 ct21), sl21⟩)
    (c21 : PySem.W.codeIn K cd21 "_law_with_numbers" = true)
    (k21 : PySem.W.keepIn K (.ref x_l_with_numbers) = true)
    (a22 : PySem.W.nsIn K mainGlobals "_law_with_turn" = some (some (.ref x_l_with_turn)))
    (l22 : K.lookup x_l_with_turn = some ⟨oc22, od22, .func (PySem.W.fnOf "_law_with_turn" "_law_with_turn" (defArgs s_l_with_turn) (defBody s_l_with_turn) (defScope s_l_with_turn) .none kV22 dc22 pm22 an22 cd22 ct22), sl22⟩)
    (c22 : PySem.W.codeIn K cd22 "_law_with_turn" = true)
    (k22 : PySem.W.keepIn K (.ref x_l_with_turn) = true)
    (a23 : PySem.W.nsIn K mainGlobals "_law_with_rest" = some (some (.ref x_l_with_rest)))
    (l23 : K.lookup x_l_with_rest = some ⟨oc23, od23, .func (PySem.W.fnOf "_law_with_rest" "_law_with_rest" (defArgs s_l_with_rest) (defBody s_l_with_rest) (defScope s_l_with_rest) .none kV23 dc23 pm23 an23 cd23 ct23), sl23⟩)
    (c23 : PySem.W.codeIn K cd23 "_law_with_rest" = true)
    (k23 : PySem.W.keepIn K (.ref x_l_with_rest) = true)
    (a24 : PySem.W.nsIn K mainGlobals "_law_with_number" = some (some (.ref x_l_with_number)))
    (l24 : K.lookup x_l_with_number = some ⟨oc24, od24, .func (PySem.W.fnOf "_law_with_number" "_law_with_number" (defArgs s_l_with_number) (defBody s_l_with_number) (defScope s_l_with_number) .none kV24 dc24 pm24 an24 cd24 ct24), sl24⟩)
    (c24 : PySem.W.codeIn K cd24 "_law_with_number" = true)
    (k24 : PySem.W.keepIn K (.ref x_l_with_number) = true)
    (a25 : PySem.W.nsIn K mainGlobals "_law_told" = some (some (.ref x_l_told)))
    (l25 : K.lookup x_l_told = some ⟨oc25, od25, .func (PySem.W.fnOf "_law_told" "_law_told" (defArgs s_l_told) (defBody s_l_told) (defScope s_l_told) .none kV25 dc25 pm25 an25 cd25 ct25), sl25⟩)
    (c25 : PySem.W.codeIn K cd25 "_law_told" = true)
    (k25 : PySem.W.keepIn K (.ref x_l_told) = true)
    (a26 : PySem.W.nsIn K mainGlobals "_law_all" = some (some (.ref x_l_all)))
    (l26 : K.lookup x_l_all = some ⟨oc26, od26, .func (PySem.W.fnOf "_law_all" "_law_all" (defArgs s_l_all) (defBody s_l_all) (defScope s_l_all) .none kV26 dc26 pm26 an26 cd26 ct26), sl26⟩)
    (c26 : PySem.W.codeIn K cd26 "_law_all" = true)
    (k26 : PySem.W.keepIn K (.ref x_l_all) = true)
    (a27 : PySem.W.nsIn K mainGlobals "law" = some (some (.ref x_law)))
    (l27 : K.lookup x_law = some ⟨oc27, od27, .func (PySem.W.fnOf "law" "law" (defArgs s_law) (defBody s_law) (defScope s_law) .none kV27 dc27 pm27 an27 cd27 ct27), sl27⟩)
    (c27 : PySem.W.codeIn K cd27 "law" = true)
    (k27 : PySem.W.keepIn K (.ref x_law) = true)
    (z_isinstance : PySem.W.nsIn K mainGlobals "isinstance" = some none)
    (z_int : PySem.W.nsIn K mainGlobals "int" = some none)
    (z_bool : PySem.W.nsIn K mainGlobals "bool" = some none)
    (z_list : PySem.W.nsIn K mainGlobals "list" = some none)
    (z_all : PySem.W.nsIn K mainGlobals "all" = some none)
    (z_tuple : PySem.W.nsIn K mainGlobals "tuple" = some none)
    (z_len : PySem.W.nsIn K mainGlobals "len" = some none)
    (z_enumerate : PySem.W.nsIn K mainGlobals "enumerate" = some none)
    (z_sorted : PySem.W.nsIn K mainGlobals "sorted" = some none)
    (z_str : PySem.W.nsIn K mainGlobals "str" = some none)
    (z_range : PySem.W.nsIn K mainGlobals "range" = some none)
    (z_sum : PySem.W.nsIn K mainGlobals "sum" = some none)
    (z_abs : PySem.W.nsIn K mainGlobals "abs" = some none)
    (z_ValueError : PySem.W.nsIn K mainGlobals "ValueError" = some none)
    (v_GREATEST : PySem.W.nsIn K mainGlobals "GREATEST" = some (some (.int 1000000 tk_GREATEST)))
    (pg_Answer : PySem.W.plainGet K y_Answer Str.empty = true)
    (hd_Answer : PySem.W.hasDictIn K y_Answer = true)
    (po_Answer : PySem.W.plainOver K y_Answer = true)
    (sa_Answer : PySem.W.findIn K (.ref y_Answer) "__setattr__" = some (some (.builtin "object.__setattr__")))
    (ha_Answer : PySem.W.findIn K (.ref y_Answer) "__class__" = some (some (.builtin "object.__class__")))
    (hm_Answer : PySem.W.mroIn K y_Answer (.type "object") = some true)
    (pg_Number : PySem.W.plainGet K y_Number Str.empty = true)
    (hd_Number : PySem.W.hasDictIn K y_Number = true)
    (po_Number : PySem.W.plainOver K y_Number = true)
    (sa_Number : PySem.W.findIn K (.ref y_Number) "__setattr__" = some (some (.builtin "object.__setattr__")))
    (n_Number_number : PySem.W.findIn K (.ref y_Number) "number" = some none)
    (n_Number_turn : PySem.W.findIn K (.ref y_Number) "turn" = some none)
    (ha_Number : PySem.W.findIn K (.ref y_Number) "__class__" = some (some (.builtin "object.__class__")))
    (hm_Number : PySem.W.mroIn K y_Number (.type "object") = some true)
    (pg_Clash : PySem.W.plainGet K y_Clash Str.empty = true)
    (hd_Clash : PySem.W.hasDictIn K y_Clash = true)
    (po_Clash : PySem.W.plainOver K y_Clash = true)
    (sa_Clash : PySem.W.findIn K (.ref y_Clash) "__setattr__" = some (some (.builtin "object.__setattr__")))
    (n_Clash_one : PySem.W.findIn K (.ref y_Clash) "one" = some none)
    (n_Clash_other : PySem.W.findIn K (.ref y_Clash) "other" = some none)
    (ha_Clash : PySem.W.findIn K (.ref y_Clash) "__class__" = some (some (.builtin "object.__class__")))
    (hm_Clash : PySem.W.mroIn K y_Clash (.type "object") = some true)
    (pg_Common : PySem.W.plainGet K y_Common Str.empty = true)
    (hd_Common : PySem.W.hasDictIn K y_Common = true)
    (po_Common : PySem.W.plainOver K y_Common = true)
    (sa_Common : PySem.W.findIn K (.ref y_Common) "__setattr__" = some (some (.builtin "object.__setattr__")))
    (n_Common_part : PySem.W.findIn K (.ref y_Common) "part" = some none)
    (n_Common_times : PySem.W.findIn K (.ref y_Common) "times" = some none)
    (ha_Common : PySem.W.findIn K (.ref y_Common) "__class__" = some (some (.builtin "object.__class__")))
    (hm_Common : PySem.W.mroIn K y_Common (.type "object") = some true)
    (pg_Times : PySem.W.plainGet K y_Times Str.empty = true)
    (hd_Times : PySem.W.hasDictIn K y_Times = true)
    (po_Times : PySem.W.plainOver K y_Times = true)
    (sa_Times : PySem.W.findIn K (.ref y_Times) "__setattr__" = some (some (.builtin "object.__setattr__")))
    (n_Times_times : PySem.W.findIn K (.ref y_Times) "times" = some none)
    (ha_Times : PySem.W.findIn K (.ref y_Times) "__class__" = some (some (.builtin "object.__class__")))
    (hm_Times : PySem.W.mroIn K y_Times (.type "object") = some true)
    (pg_Bar : PySem.W.plainGet K y_Bar Str.empty = true)
    (hd_Bar : PySem.W.hasDictIn K y_Bar = true)
    (po_Bar : PySem.W.plainOver K y_Bar = true)
    (sa_Bar : PySem.W.findIn K (.ref y_Bar) "__setattr__" = some (some (.builtin "object.__setattr__")))
    (n_Bar_part : PySem.W.findIn K (.ref y_Bar) "part" = some none)
    (ha_Bar : PySem.W.findIn K (.ref y_Bar) "__class__" = some (some (.builtin "object.__class__")))
    (hm_Bar : PySem.W.mroIn K y_Bar (.type "object") = some true)
    (pg_Back : PySem.W.plainGet K y_Back Str.empty = true)
    (hd_Back : PySem.W.hasDictIn K y_Back = true)
    (po_Back : PySem.W.plainOver K y_Back = true)
    (sa_Back : PySem.W.findIn K (.ref y_Back) "__setattr__" = some (some (.builtin "object.__setattr__")))
    (n_Back_rest : PySem.W.findIn K (.ref y_Back) "rest" = some none)
    (ha_Back : PySem.W.findIn K (.ref y_Back) "__class__" = some (some (.builtin "object.__class__")))
    (hm_Back : PySem.W.mroIn K y_Back (.type "object") = some true)
    (hn : PySem.W.specialIn K (.builtin "object.__class__") "__get__" = some (some (.builtin "getset_descriptor.__get__")))
    (htk : PySem.W.takesIn K (.builtin "object.__class__") = some true)
    (sb_RestError : PySem.W.subIn K (.ref y_RestError) (.type "BaseException") = some true)
    (ty_RestError : PySem.W.typeIn K (.ref y_RestError) = some (.type "type"))
    (hd_RestError : PySem.W.hasDictIn K y_RestError = true)
    (sb_BadRests : PySem.W.subIn K (.ref y_BadRests) (.type "BaseException") = some true)
    (ty_BadRests : PySem.W.typeIn K (.ref y_BadRests) = some (.type "type"))
    (ex_BadRests : PySem.W.excIn K y_BadRests [.type "ValueError", .type "Exception", .type "BaseException", .type "object"] "ValueError.__new__" = true)
    (ke_BadRests : PySem.W.keepIn K (.ref y_BadRests) = true)
    (su_BadRests_RestError : PySem.W.subIn K (.ref y_BadRests) (.ref y_RestError) = some true)
    (hg_BadRests : PySem.W.findIn K (.ref y_BadRests) "__getattribute__" = some (some (.builtin "BaseException.__getattribute__")))
    (hk_BadRests : PySem.W.findIn K (.ref y_BadRests) "__getattr__" = some none)
    (hx_BadRests : PySem.W.hasDictIn K y_BadRests = true)
    (ha_BadRests : PySem.W.findIn K (.ref y_BadRests) "__class__" = some (some (.builtin "object.__class__")))
    (hm_BadRests : PySem.W.mroIn K y_BadRests (.type "object") = some true)
    (kq_BadRests_BadRests : PySem.W.kitOne K (.ref y_BadRests) (.ref y_BadRests) = some true)
    (kq_BadRests_BadNumbers : PySem.W.kitOne K (.ref y_BadRests) (.ref y_BadNumbers) = some false)
    (kq_BadRests_BadRound : PySem.W.kitOne K (.ref y_BadRests) (.ref y_BadRound) = some false)
    (kq_BadRests_BadRest : PySem.W.kitOne K (.ref y_BadRests) (.ref y_BadRest) = some false)
    (kq_BadRests_BadCount : PySem.W.kitOne K (.ref y_BadRests) (.ref y_BadCount) = some false)
    (kq_BadRests_BadText : PySem.W.kitOne K (.ref y_BadRests) (.ref y_BadText) = some false)
    (kq_BadRests_ValueError : PySem.W.kitOne K (.ref y_BadRests) (.type "ValueError") = some true)
    (sb_BadNumbers : PySem.W.subIn K (.ref y_BadNumbers) (.type "BaseException") = some true)
    (ty_BadNumbers : PySem.W.typeIn K (.ref y_BadNumbers) = some (.type "type"))
    (ex_BadNumbers : PySem.W.excIn K y_BadNumbers [.type "ValueError", .type "Exception", .type "BaseException", .type "object"] "ValueError.__new__" = true)
    (ke_BadNumbers : PySem.W.keepIn K (.ref y_BadNumbers) = true)
    (su_BadNumbers_RestError : PySem.W.subIn K (.ref y_BadNumbers) (.ref y_RestError) = some true)
    (hg_BadNumbers : PySem.W.findIn K (.ref y_BadNumbers) "__getattribute__" = some (some (.builtin "BaseException.__getattribute__")))
    (hk_BadNumbers : PySem.W.findIn K (.ref y_BadNumbers) "__getattr__" = some none)
    (hx_BadNumbers : PySem.W.hasDictIn K y_BadNumbers = true)
    (ha_BadNumbers : PySem.W.findIn K (.ref y_BadNumbers) "__class__" = some (some (.builtin "object.__class__")))
    (hm_BadNumbers : PySem.W.mroIn K y_BadNumbers (.type "object") = some true)
    (kq_BadNumbers_BadRests : PySem.W.kitOne K (.ref y_BadNumbers) (.ref y_BadRests) = some false)
    (kq_BadNumbers_BadNumbers : PySem.W.kitOne K (.ref y_BadNumbers) (.ref y_BadNumbers) = some true)
    (kq_BadNumbers_BadRound : PySem.W.kitOne K (.ref y_BadNumbers) (.ref y_BadRound) = some false)
    (kq_BadNumbers_BadRest : PySem.W.kitOne K (.ref y_BadNumbers) (.ref y_BadRest) = some false)
    (kq_BadNumbers_BadCount : PySem.W.kitOne K (.ref y_BadNumbers) (.ref y_BadCount) = some false)
    (kq_BadNumbers_BadText : PySem.W.kitOne K (.ref y_BadNumbers) (.ref y_BadText) = some false)
    (kq_BadNumbers_ValueError : PySem.W.kitOne K (.ref y_BadNumbers) (.type "ValueError") = some true)
    (sb_BadRound : PySem.W.subIn K (.ref y_BadRound) (.type "BaseException") = some true)
    (ty_BadRound : PySem.W.typeIn K (.ref y_BadRound) = some (.type "type"))
    (ex_BadRound : PySem.W.excIn K y_BadRound [.type "ValueError", .type "Exception", .type "BaseException", .type "object"] "ValueError.__new__" = true)
    (ke_BadRound : PySem.W.keepIn K (.ref y_BadRound) = true)
    (su_BadRound_RestError : PySem.W.subIn K (.ref y_BadRound) (.ref y_RestError) = some true)
    (hg_BadRound : PySem.W.findIn K (.ref y_BadRound) "__getattribute__" = some (some (.builtin "BaseException.__getattribute__")))
    (hk_BadRound : PySem.W.findIn K (.ref y_BadRound) "__getattr__" = some none)
    (hx_BadRound : PySem.W.hasDictIn K y_BadRound = true)
    (ha_BadRound : PySem.W.findIn K (.ref y_BadRound) "__class__" = some (some (.builtin "object.__class__")))
    (hm_BadRound : PySem.W.mroIn K y_BadRound (.type "object") = some true)
    (kq_BadRound_BadRests : PySem.W.kitOne K (.ref y_BadRound) (.ref y_BadRests) = some false)
    (kq_BadRound_BadNumbers : PySem.W.kitOne K (.ref y_BadRound) (.ref y_BadNumbers) = some false)
    (kq_BadRound_BadRound : PySem.W.kitOne K (.ref y_BadRound) (.ref y_BadRound) = some true)
    (kq_BadRound_BadRest : PySem.W.kitOne K (.ref y_BadRound) (.ref y_BadRest) = some false)
    (kq_BadRound_BadCount : PySem.W.kitOne K (.ref y_BadRound) (.ref y_BadCount) = some false)
    (kq_BadRound_BadText : PySem.W.kitOne K (.ref y_BadRound) (.ref y_BadText) = some false)
    (kq_BadRound_ValueError : PySem.W.kitOne K (.ref y_BadRound) (.type "ValueError") = some true)
    (sb_BadRest : PySem.W.subIn K (.ref y_BadRest) (.type "BaseException") = some true)
    (ty_BadRest : PySem.W.typeIn K (.ref y_BadRest) = some (.type "type"))
    (ex_BadRest : PySem.W.excIn K y_BadRest [.type "ValueError", .type "Exception", .type "BaseException", .type "object"] "ValueError.__new__" = true)
    (ke_BadRest : PySem.W.keepIn K (.ref y_BadRest) = true)
    (su_BadRest_RestError : PySem.W.subIn K (.ref y_BadRest) (.ref y_RestError) = some true)
    (hg_BadRest : PySem.W.findIn K (.ref y_BadRest) "__getattribute__" = some (some (.builtin "BaseException.__getattribute__")))
    (hk_BadRest : PySem.W.findIn K (.ref y_BadRest) "__getattr__" = some none)
    (hx_BadRest : PySem.W.hasDictIn K y_BadRest = true)
    (ha_BadRest : PySem.W.findIn K (.ref y_BadRest) "__class__" = some (some (.builtin "object.__class__")))
    (hm_BadRest : PySem.W.mroIn K y_BadRest (.type "object") = some true)
    (kq_BadRest_BadRests : PySem.W.kitOne K (.ref y_BadRest) (.ref y_BadRests) = some false)
    (kq_BadRest_BadNumbers : PySem.W.kitOne K (.ref y_BadRest) (.ref y_BadNumbers) = some false)
    (kq_BadRest_BadRound : PySem.W.kitOne K (.ref y_BadRest) (.ref y_BadRound) = some false)
    (kq_BadRest_BadRest : PySem.W.kitOne K (.ref y_BadRest) (.ref y_BadRest) = some true)
    (kq_BadRest_BadCount : PySem.W.kitOne K (.ref y_BadRest) (.ref y_BadCount) = some false)
    (kq_BadRest_BadText : PySem.W.kitOne K (.ref y_BadRest) (.ref y_BadText) = some false)
    (kq_BadRest_ValueError : PySem.W.kitOne K (.ref y_BadRest) (.type "ValueError") = some true) :
    ∃ fd : FuncData, (∀ (s : Shared) (v : Value), BindsTo s fd ⟨[v], []⟩ [("_law_script", v)]) ∧ ∀ base : Heap, K.In base → base.Ns mainGlobals mg → FnOk l.prog w K mg base CX0 9 fa fd ["_law_script"] (sp_law K) := by
  have e := hfa.symm.trans (PySem.W.mg_of X G a27)
  cases e
  have T : Txt K mg ⟨x_is_whole, x_is_number, x_is_turn, x_check_numbers, x_check_turn, x_is_rest, x_check_rests, x_common, x_come, x_back, x_told, x_left, x_stretch, x_chosen, x_written, x_l_cell_at, x_l_draw, x_l_turns, x_l_rests, x_l_kinds, x_l_with_rests, x_l_with_numbers, x_l_with_turn, x_l_with_rest, x_l_with_number, x_l_told, x_l_all, fa, y_RestError, y_BadRests, y_BadNumbers, y_BadRound, y_BadRest, y_BadCount, y_BadText, y_Answer, y_Number, y_Clash, y_Common, y_Times, y_Bar, y_Back⟩ := {
    g_RestError := PySem.W.mg_of X G yRestError,
    g_BadRests := PySem.W.mg_of X G yBadRests,
    g_BadNumbers := PySem.W.mg_of X G yBadNumbers,
    g_BadRound := PySem.W.mg_of X G yBadRound,
    g_BadRest := PySem.W.mg_of X G yBadRest,
    g_BadCount := PySem.W.mg_of X G yBadCount,
    g_BadText := PySem.W.mg_of X G yBadText,
    g_Answer := PySem.W.mg_of X G yAnswer,
    g_Number := PySem.W.mg_of X G yNumber,
    g_Clash := PySem.W.mg_of X G yClash,
    g_Common := PySem.W.mg_of X G yCommon,
    g_Times := PySem.W.mg_of X G yTimes,
    g_Bar := PySem.W.mg_of X G yBar,
    g_Back := PySem.W.mg_of X G yBack,
    F_is_whole := ⟨_, fun_mk (st := s_is_whole) l0 c0 k0, (fun_mk (st := s_is_whole) l0 c0 k0).binds fun _ _ _ _ _ _ us hl => match us, hl with | [_], _ => rfl⟩,
    g_is_whole := PySem.W.mg_of X G a0,
    F_is_number := ⟨_, fun_mk (st := s_is_number) l1 c1 k1, (fun_mk (st := s_is_number) l1 c1 k1).binds fun _ _ _ _ _ _ us hl => match us, hl with | [_], _ => rfl⟩,
    g_is_number := PySem.W.mg_of X G a1,
    F_is_turn := ⟨_, fun_mk (st := s_is_turn) l2 c2 k2, (fun_mk (st := s_is_turn) l2 c2 k2).binds fun _ _ _ _ _ _ us hl => match us, hl with | [_], _ => rfl⟩,
    g_is_turn := PySem.W.mg_of X G a2,
    F_check_numbers := ⟨_, fun_mk (st := s_check_numbers) l3 c3 k3, (fun_mk (st := s_check_numbers) l3 c3 k3).binds fun _ _ _ _ _ _ us hl => match us, hl with | [_], _ => rfl⟩,
    g_check_numbers := PySem.W.mg_of X G a3,
    F_check_turn := ⟨_, fun_mk (st := s_check_turn) l4 c4 k4, (fun_mk (st := s_check_turn) l4 c4 k4).binds fun _ _ _ _ _ _ us hl => match us, hl with | [_], _ => rfl⟩,
    g_check_turn := PySem.W.mg_of X G a4,
    F_is_rest := ⟨_, fun_mk (st := s_is_rest) l5 c5 k5, (fun_mk (st := s_is_rest) l5 c5 k5).binds fun _ _ _ _ _ _ us hl => match us, hl with | [_], _ => rfl⟩,
    g_is_rest := PySem.W.mg_of X G a5,
    F_check_rests := ⟨_, fun_mk (st := s_check_rests) l6 c6 k6, (fun_mk (st := s_check_rests) l6 c6 k6).binds fun _ _ _ _ _ _ us hl => match us, hl with | [_], _ => rfl⟩,
    g_check_rests := PySem.W.mg_of X G a6,
    F_common := ⟨_, fun_mk (st := s_common) l7 c7 k7, (fun_mk (st := s_common) l7 c7 k7).binds fun _ _ _ _ _ _ us hl => match us, hl with | [_], _ => rfl⟩,
    g_common := PySem.W.mg_of X G a7,
    F_come := ⟨_, fun_mk (st := s_come) l8 c8 k8, (fun_mk (st := s_come) l8 c8 k8).binds fun _ _ _ _ _ _ us hl => match us, hl with | [_, _, _], _ => rfl⟩,
    g_come := PySem.W.mg_of X G a8,
    F_back := ⟨_, fun_mk (st := s_back) l9 c9 k9, (fun_mk (st := s_back) l9 c9 k9).binds fun _ _ _ _ _ _ us hl => match us, hl with | [_, _], _ => rfl⟩,
    g_back := PySem.W.mg_of X G a9,
    F_told := ⟨_, fun_mk (st := s_told) l10 c10 k10, (fun_mk (st := s_told) l10 c10 k10).binds fun _ _ _ _ _ _ us hl => match us, hl with | [_], _ => rfl⟩,
    g_told := PySem.W.mg_of X G a10,
    F_left := ⟨_, fun_mk (st := s_left) l11 c11 k11, (fun_mk (st := s_left) l11 c11 k11).binds fun _ _ _ _ _ _ us hl => match us, hl with | [_, _], _ => rfl⟩,
    g_left := PySem.W.mg_of X G a11,
    F_stretch := ⟨_, fun_mk (st := s_stretch) l12 c12 k12, (fun_mk (st := s_stretch) l12 c12 k12).binds fun _ _ _ _ _ _ us hl => match us, hl with | [_], _ => rfl⟩,
    g_stretch := PySem.W.mg_of X G a12,
    F_chosen := ⟨_, fun_mk (st := s_chosen) l13 c13 k13, (fun_mk (st := s_chosen) l13 c13 k13).binds fun _ _ _ _ _ _ us hl => match us, hl with | [_], _ => rfl⟩,
    g_chosen := PySem.W.mg_of X G a13,
    F_written := ⟨_, fun_mk (st := s_written) l14 c14 k14, (fun_mk (st := s_written) l14 c14 k14).binds fun _ _ _ _ _ _ us hl => match us, hl with | [_], _ => rfl⟩,
    g_written := PySem.W.mg_of X G a14,
    F_l_cell_at := ⟨_, fun_mk (st := s_l_cell_at) l15 c15 k15, (fun_mk (st := s_l_cell_at) l15 c15 k15).binds fun _ _ _ _ _ _ us hl => match us, hl with | [_, _], _ => rfl⟩,
    g_l_cell_at := PySem.W.mg_of X G a15,
    F_l_draw := ⟨_, fun_mk (st := s_l_draw) l16 c16 k16, (fun_mk (st := s_l_draw) l16 c16 k16).binds fun _ _ _ _ _ _ us hl => match us, hl with | [_, _, _], _ => rfl⟩,
    g_l_draw := PySem.W.mg_of X G a16,
    F_l_turns := ⟨_, fun_mk (st := s_l_turns) l17 c17 k17, (fun_mk (st := s_l_turns) l17 c17 k17).binds fun _ _ _ _ _ _ us hl => match us, hl with | [_], _ => rfl⟩,
    g_l_turns := PySem.W.mg_of X G a17,
    F_l_rests := ⟨_, fun_mk (st := s_l_rests) l18 c18 k18, (fun_mk (st := s_l_rests) l18 c18 k18).binds fun _ _ _ _ _ _ us hl => match us, hl with | [_], _ => rfl⟩,
    g_l_rests := PySem.W.mg_of X G a18,
    F_l_kinds := ⟨_, fun_mk (st := s_l_kinds) l19 c19 k19, (fun_mk (st := s_l_kinds) l19 c19 k19).binds fun _ _ _ _ _ _ us hl => match us, hl with | [_], _ => rfl⟩,
    g_l_kinds := PySem.W.mg_of X G a19,
    F_l_with_rests := ⟨_, fun_mk (st := s_l_with_rests) l20 c20 k20, (fun_mk (st := s_l_with_rests) l20 c20 k20).binds fun _ _ _ _ _ _ us hl => match us, hl with | [_, _], _ => rfl⟩,
    g_l_with_rests := PySem.W.mg_of X G a20,
    F_l_with_numbers := ⟨_, fun_mk (st := s_l_with_numbers) l21 c21 k21, (fun_mk (st := s_l_with_numbers) l21 c21 k21).binds fun _ _ _ _ _ _ us hl => match us, hl with | [_, _], _ => rfl⟩,
    g_l_with_numbers := PySem.W.mg_of X G a21,
    F_l_with_turn := ⟨_, fun_mk (st := s_l_with_turn) l22 c22 k22, (fun_mk (st := s_l_with_turn) l22 c22 k22).binds fun _ _ _ _ _ _ us hl => match us, hl with | [_, _], _ => rfl⟩,
    g_l_with_turn := PySem.W.mg_of X G a22,
    F_l_with_rest := ⟨_, fun_mk (st := s_l_with_rest) l23 c23 k23, (fun_mk (st := s_l_with_rest) l23 c23 k23).binds fun _ _ _ _ _ _ us hl => match us, hl with | [_, _], _ => rfl⟩,
    g_l_with_rest := PySem.W.mg_of X G a23,
    F_l_with_number := ⟨_, fun_mk (st := s_l_with_number) l24 c24 k24, (fun_mk (st := s_l_with_number) l24 c24 k24).binds fun _ _ _ _ _ _ us hl => match us, hl with | [_, _], _ => rfl⟩,
    g_l_with_number := PySem.W.mg_of X G a24,
    F_l_told := ⟨_, fun_mk (st := s_l_told) l25 c25 k25, (fun_mk (st := s_l_told) l25 c25 k25).binds fun _ _ _ _ _ _ us hl => match us, hl with | [_, _, _], _ => rfl⟩,
    g_l_told := PySem.W.mg_of X G a25,
    F_l_all := ⟨_, fun_mk (st := s_l_all) l26 c26 k26, (fun_mk (st := s_l_all) l26 c26 k26).binds fun _ _ _ _ _ _ us hl => match us, hl with | [_, _, _, _], _ => rfl⟩,
    g_l_all := PySem.W.mg_of X G a26,
    F_law := ⟨_, fun_mk (st := s_law) l27 c27 k27, (fun_mk (st := s_law) l27 c27 k27).binds fun _ _ _ _ _ _ us hl => match us, hl with | [_], _ => rfl⟩,
    g_law := PySem.W.mg_of X G a27,
    z_isinstance := PySem.W.mg_none_of X G z_isinstance,
    z_int := PySem.W.mg_none_of X G z_int,
    z_bool := PySem.W.mg_none_of X G z_bool,
    z_list := PySem.W.mg_none_of X G z_list,
    z_all := PySem.W.mg_none_of X G z_all,
    z_tuple := PySem.W.mg_none_of X G z_tuple,
    z_len := PySem.W.mg_none_of X G z_len,
    z_enumerate := PySem.W.mg_none_of X G z_enumerate,
    z_sorted := PySem.W.mg_none_of X G z_sorted,
    z_str := PySem.W.mg_none_of X G z_str,
    z_range := PySem.W.mg_none_of X G z_range,
    z_sum := PySem.W.mg_none_of X G z_sum,
    z_abs := PySem.W.mg_none_of X G z_abs,
    z_ValueError := PySem.W.mg_none_of X G z_ValueError,
    k_GREATEST := ⟨_, PySem.W.mg_of X G v_GREATEST⟩,
    cl_Answer := ⟨pg_Answer, hd_Answer, po_Answer, sa_Answer⟩,
    i_Answer := ⟨⟨pg_Answer, hd_Answer, po_Answer, sa_Answer⟩, ha_Answer, hm_Answer⟩,
    cl_Number := ⟨pg_Number, hd_Number, po_Number, sa_Number⟩,
    n_Number_number := n_Number_number,
    n_Number_turn := n_Number_turn,
    i_Number := ⟨⟨pg_Number, hd_Number, po_Number, sa_Number⟩, ha_Number, hm_Number⟩,
    cl_Clash := ⟨pg_Clash, hd_Clash, po_Clash, sa_Clash⟩,
    n_Clash_one := n_Clash_one,
    n_Clash_other := n_Clash_other,
    i_Clash := ⟨⟨pg_Clash, hd_Clash, po_Clash, sa_Clash⟩, ha_Clash, hm_Clash⟩,
    cl_Common := ⟨pg_Common, hd_Common, po_Common, sa_Common⟩,
    n_Common_part := n_Common_part,
    n_Common_times := n_Common_times,
    i_Common := ⟨⟨pg_Common, hd_Common, po_Common, sa_Common⟩, ha_Common, hm_Common⟩,
    cl_Times := ⟨pg_Times, hd_Times, po_Times, sa_Times⟩,
    n_Times_times := n_Times_times,
    i_Times := ⟨⟨pg_Times, hd_Times, po_Times, sa_Times⟩, ha_Times, hm_Times⟩,
    cl_Bar := ⟨pg_Bar, hd_Bar, po_Bar, sa_Bar⟩,
    n_Bar_part := n_Bar_part,
    i_Bar := ⟨⟨pg_Bar, hd_Bar, po_Bar, sa_Bar⟩, ha_Bar, hm_Bar⟩,
    cl_Back := ⟨pg_Back, hd_Back, po_Back, sa_Back⟩,
    n_Back_rest := n_Back_rest,
    i_Back := ⟨⟨pg_Back, hd_Back, po_Back, sa_Back⟩, ha_Back, hm_Back⟩,
    isg := ⟨hn, htk⟩,
    sb_RestError := sb_RestError,
    ty_RestError := ty_RestError,
    sb_BadRests := sb_BadRests,
    ty_BadRests := ty_BadRests,
    ex_BadRests := ex_BadRests,
    ke_BadRests := ke_BadRests,
    em_BadRests_RestError := PySem.W.exm_ref sb_RestError hd_RestError ty_RestError su_BadRests_RestError,
    xc_BadRests := ⟨hg_BadRests, hk_BadRests, sb_BadRests, hx_BadRests, ha_BadRests, hn, htk, hm_BadRests⟩,
    kq_BadRests_BadRests := kq_BadRests_BadRests,
    kq_BadRests_BadNumbers := kq_BadRests_BadNumbers,
    kq_BadRests_BadRound := kq_BadRests_BadRound,
    kq_BadRests_BadRest := kq_BadRests_BadRest,
    kq_BadRests_BadCount := kq_BadRests_BadCount,
    kq_BadRests_BadText := kq_BadRests_BadText,
    kq_BadRests_ValueError := kq_BadRests_ValueError,
    sb_BadNumbers := sb_BadNumbers,
    ty_BadNumbers := ty_BadNumbers,
    ex_BadNumbers := ex_BadNumbers,
    ke_BadNumbers := ke_BadNumbers,
    em_BadNumbers_RestError := PySem.W.exm_ref sb_RestError hd_RestError ty_RestError su_BadNumbers_RestError,
    xc_BadNumbers := ⟨hg_BadNumbers, hk_BadNumbers, sb_BadNumbers, hx_BadNumbers, ha_BadNumbers, hn, htk, hm_BadNumbers⟩,
    kq_BadNumbers_BadRests := kq_BadNumbers_BadRests,
    kq_BadNumbers_BadNumbers := kq_BadNumbers_BadNumbers,
    kq_BadNumbers_BadRound := kq_BadNumbers_BadRound,
    kq_BadNumbers_BadRest := kq_BadNumbers_BadRest,
    kq_BadNumbers_BadCount := kq_BadNumbers_BadCount,
    kq_BadNumbers_BadText := kq_BadNumbers_BadText,
    kq_BadNumbers_ValueError := kq_BadNumbers_ValueError,
    sb_BadRound := sb_BadRound,
    ty_BadRound := ty_BadRound,
    ex_BadRound := ex_BadRound,
    ke_BadRound := ke_BadRound,
    em_BadRound_RestError := PySem.W.exm_ref sb_RestError hd_RestError ty_RestError su_BadRound_RestError,
    xc_BadRound := ⟨hg_BadRound, hk_BadRound, sb_BadRound, hx_BadRound, ha_BadRound, hn, htk, hm_BadRound⟩,
    kq_BadRound_BadRests := kq_BadRound_BadRests,
    kq_BadRound_BadNumbers := kq_BadRound_BadNumbers,
    kq_BadRound_BadRound := kq_BadRound_BadRound,
    kq_BadRound_BadRest := kq_BadRound_BadRest,
    kq_BadRound_BadCount := kq_BadRound_BadCount,
    kq_BadRound_BadText := kq_BadRound_BadText,
    kq_BadRound_ValueError := kq_BadRound_ValueError,
    sb_BadRest := sb_BadRest,
    ty_BadRest := ty_BadRest,
    ex_BadRest := ex_BadRest,
    ke_BadRest := ke_BadRest,
    em_BadRest_RestError := PySem.W.exm_ref sb_RestError hd_RestError ty_RestError su_BadRest_RestError,
    xc_BadRest := ⟨hg_BadRest, hk_BadRest, sb_BadRest, hx_BadRest, ha_BadRest, hn, htk, hm_BadRest⟩,
    kq_BadRest_BadRests := kq_BadRest_BadRests,
    kq_BadRest_BadNumbers := kq_BadRest_BadNumbers,
    kq_BadRest_BadRound := kq_BadRest_BadRound,
    kq_BadRest_BadRest := kq_BadRest_BadRest,
    kq_BadRest_BadCount := kq_BadRest_BadCount,
    kq_BadRest_BadText := kq_BadRest_BadText,
    kq_BadRest_ValueError := kq_BadRest_ValueError }
  refine ⟨PySem.W.fnOf "law" "law" (defArgs s_law) (defBody s_law) (defScope s_law) .none kV27 dc27 pm27 an27 cd27 ct27, fun s v => .of_eq rfl, fun base _ _ => ?_⟩
  exact ok_law T (fun_mk (st := s_law) l27 c27 k27)
end Wl
open PySem PySem.W PyProof.Rows in
set_option maxHeartbeats 0 in
theorem PySem.Challenge.cw_wheelrow_k08_refused_holds : PySem.Challenge.rw_wheelrow_k08_refused.Holds := by
  w_on; o_law; k_head; (case hw => w_witness2)
  k_fill
  refine L2.walk_of (l := PySem.Challenge.rw_wheelrow_k08_refused) (n := 63) (k := 9) (x := "_law_script") (CX := fun _ => L2.CX0) (sp := fun w => Wl.sp_law _) rfl (by decide) rfl ⟨rfl, by decide, by decide⟩ (fun w h Y => PySem.W.kIn_of Y) ?F (fun _ _ a ns hl _ hS => ⟨_, ns, rfl, ⟨a, rfl, hS, hl⟩, fun _ => rfl⟩) (fun _ _ _ _ _ h => h)
  case F =>
    intro w mg fa h KX G hmg
    refine' Wl.all_mk KX G hmg ?yRestError ?yBadRests ?yBadNumbers ?yBadRound ?yBadRest ?yBadCount ?yBadText ?yAnswer ?yNumber ?yClash ?yCommon ?yTimes ?yBar ?yBack ?a0 ?l0 ?c0 ?k0 ?a1 ?l1 ?c1 ?k1 ?a2 ?l2 ?c2 ?k2 ?a3 ?l3 ?c3 ?k3 ?a4 ?l4 ?c4 ?k4 ?a5 ?l5 ?c5 ?k5 ?a6 ?l6 ?c6 ?k6 ?a7 ?l7 ?c7 ?k7 ?a8 ?l8 ?c8 ?k8 ?a9 ?l9 ?c9 ?k9 ?a10 ?l10 ?c10 ?k10 ?a11 ?l11 ?c11 ?k11 ?a12 ?l12 ?c12 ?k12 ?a13 ?l13 ?c13 ?k13 ?a14 ?l14 ?c14 ?k14 ?a15 ?l15 ?c15 ?k15 ?a16 ?l16 ?c16 ?k16 ?a17 ?l17 ?c17 ?k17 ?a18 ?l18 ?c18 ?k18 ?a19 ?l19 ?c19 ?k19 ?a20 ?l20 ?c20 ?k20 ?a21 ?l21 ?c21 ?k21 ?a22 ?l22 ?c22 ?k22 ?a23 ?l23 ?c23 ?k23 ?a24 ?l24 ?c24 ?k24 ?a25 ?l25 ?c25 ?k25 ?a26 ?l26 ?c26 ?k26 ?a27 ?l27 ?c27 ?k27 ?z_isinstance ?z_int ?z_bool ?z_list ?z_all ?z_tuple ?z_len ?z_enumerate ?z_sorted ?z_str ?z_range ?z_sum ?z_abs ?z_ValueError ?v_GREATEST ?pg_Answer ?hd_Answer ?po_Answer ?sa_Answer ?ha_Answer ?hm_Answer ?pg_Number ?hd_Number ?po_Number ?sa_Number ?n_Number_number ?n_Number_turn ?ha_Number ?hm_Number ?pg_Clash ?hd_Clash ?po_Clash ?sa_Clash ?n_Clash_one ?n_Clash_other ?ha_Clash ?hm_Clash ?pg_Common ?hd_Common ?po_Common ?sa_Common ?n_Common_part ?n_Common_times ?ha_Common ?hm_Common ?pg_Times ?hd_Times ?po_Times ?sa_Times ?n_Times_times ?ha_Times ?hm_Times ?pg_Bar ?hd_Bar ?po_Bar ?sa_Bar ?n_Bar_part ?ha_Bar ?hm_Bar ?pg_Back ?hd_Back ?po_Back ?sa_Back ?n_Back_rest ?ha_Back ?hm_Back ?hn ?htk ?sb_RestError ?ty_RestError ?hd_RestError ?sb_BadRests ?ty_BadRests ?ex_BadRests ?ke_BadRests ?su_BadRests_RestError ?hg_BadRests ?hk_BadRests ?hx_BadRests ?ha_BadRests ?hm_BadRests ?kq_BadRests_BadRests ?kq_BadRests_BadNumbers ?kq_BadRests_BadRound ?kq_BadRests_BadRest ?kq_BadRests_BadCount ?kq_BadRests_BadText ?kq_BadRests_ValueError ?sb_BadNumbers ?ty_BadNumbers ?ex_BadNumbers ?ke_BadNumbers ?su_BadNumbers_RestError ?hg_BadNumbers ?hk_BadNumbers ?hx_BadNumbers ?ha_BadNumbers ?hm_BadNumbers ?kq_BadNumbers_BadRests ?kq_BadNumbers_BadNumbers ?kq_BadNumbers_BadRound ?kq_BadNumbers_BadRest ?kq_BadNumbers_BadCount ?kq_BadNumbers_BadText ?kq_BadNumbers_ValueError ?sb_BadRound ?ty_BadRound ?ex_BadRound ?ke_BadRound ?su_BadRound_RestError ?hg_BadRound ?hk_BadRound ?hx_BadRound ?ha_BadRound ?hm_BadRound ?kq_BadRound_BadRests ?kq_BadRound_BadNumbers ?kq_BadRound_BadRound ?kq_BadRound_BadRest ?kq_BadRound_BadCount ?kq_BadRound_BadText ?kq_BadRound_ValueError ?sb_BadRest ?ty_BadRest ?ex_BadRest ?ke_BadRest ?su_BadRest_RestError ?hg_BadRest ?hk_BadRest ?hx_BadRest ?ha_BadRest ?hm_BadRest ?kq_BadRest_BadRests ?kq_BadRest_BadNumbers ?kq_BadRest_BadRound ?kq_BadRest_BadRest ?kq_BadRest_BadCount ?kq_BadRest_BadText ?kq_BadRest_ValueError
    (case yRestError => k_is)
    (case yBadRests => k_is)
    (case yBadNumbers => k_is)
    (case yBadRound => k_is)
    (case yBadRest => k_is)
    (case yBadCount => k_is)
    (case yBadText => k_is)
    (case yAnswer => k_is)
    (case yNumber => k_is)
    (case yClash => k_is)
    (case yCommon => k_is)
    (case yTimes => k_is)
    (case yBar => k_is)
    (case yBack => k_is)
    (case a0 => k_is)
    (case l0 => k_is)
    (case c0 => k_is)
    (case k0 => k_is)
    (case a1 => k_is)
    (case l1 => k_is)
    (case c1 => k_is)
    (case k1 => k_is)
    (case a2 => k_is)
    (case l2 => k_is)
    (case c2 => k_is)
    (case k2 => k_is)
    (case a3 => k_is)
    (case l3 => k_is)
    (case c3 => k_is)
    (case k3 => k_is)
    (case a4 => k_is)
    (case l4 => k_is)
    (case c4 => k_is)
    (case k4 => k_is)
    (case a5 => k_is)
    (case l5 => k_is)
    (case c5 => k_is)
    (case k5 => k_is)
    (case a6 => k_is)
    (case l6 => k_is)
    (case c6 => k_is)
    (case k6 => k_is)
    (case a7 => k_is)
    (case l7 => k_is)
    (case c7 => k_is)
    (case k7 => k_is)
    (case a8 => k_is)
    (case l8 => k_is)
    (case c8 => k_is)
    (case k8 => k_is)
    (case a9 => k_is)
    (case l9 => k_is)
    (case c9 => k_is)
    (case k9 => k_is)
    (case a10 => k_is)
    (case l10 => k_is)
    (case c10 => k_is)
    (case k10 => k_is)
    (case a11 => k_is)
    (case l11 => k_is)
    (case c11 => k_is)
    (case k11 => k_is)
    (case a12 => k_is)
    (case l12 => k_is)
    (case c12 => k_is)
    (case k12 => k_is)
    (case a13 => k_is)
    (case l13 => k_is)
    (case c13 => k_is)
    (case k13 => k_is)
    (case a14 => k_is)
    (case l14 => k_is)
    (case c14 => k_is)
    (case k14 => k_is)
    (case a15 => k_is)
    (case l15 => k_is)
    (case c15 => k_is)
    (case k15 => k_is)
    (case a16 => k_is)
    (case l16 => k_is)
    (case c16 => k_is)
    (case k16 => k_is)
    (case a17 => k_is)
    (case l17 => k_is)
    (case c17 => k_is)
    (case k17 => k_is)
    (case a18 => k_is)
    (case l18 => k_is)
    (case c18 => k_is)
    (case k18 => k_is)
    (case a19 => k_is)
    (case l19 => k_is)
    (case c19 => k_is)
    (case k19 => k_is)
    (case a20 => k_is)
    (case l20 => k_is)
    (case c20 => k_is)
    (case k20 => k_is)
    (case a21 => k_is)
    (case l21 => k_is)
    (case c21 => k_is)
    (case k21 => k_is)
    (case a22 => k_is)
    (case l22 => k_is)
    (case c22 => k_is)
    (case k22 => k_is)
    (case a23 => k_is)
    (case l23 => k_is)
    (case c23 => k_is)
    (case k23 => k_is)
    (case a24 => k_is)
    (case l24 => k_is)
    (case c24 => k_is)
    (case k24 => k_is)
    (case a25 => k_is)
    (case l25 => k_is)
    (case c25 => k_is)
    (case k25 => k_is)
    (case a26 => k_is)
    (case l26 => k_is)
    (case c26 => k_is)
    (case k26 => k_is)
    (case a27 => k_is)
    (case l27 => k_is)
    (case c27 => k_is)
    (case k27 => k_is)
    (case z_isinstance => k_is)
    (case z_int => k_is)
    (case z_bool => k_is)
    (case z_list => k_is)
    (case z_all => k_is)
    (case z_tuple => k_is)
    (case z_len => k_is)
    (case z_enumerate => k_is)
    (case z_sorted => k_is)
    (case z_str => k_is)
    (case z_range => k_is)
    (case z_sum => k_is)
    (case z_abs => k_is)
    (case z_ValueError => k_is)
    (case v_GREATEST => k_is)
    (case pg_Answer => k_is)
    (case hd_Answer => first | k_is | rfl)
    (case po_Answer => k_is)
    (case sa_Answer => k_is)
    (case ha_Answer => first | k_is | rfl)
    (case hm_Answer => first | k_is | rfl)
    (case pg_Number => k_is)
    (case hd_Number => first | k_is | rfl)
    (case po_Number => k_is)
    (case sa_Number => k_is)
    (case n_Number_number => k_is)
    (case n_Number_turn => k_is)
    (case ha_Number => first | k_is | rfl)
    (case hm_Number => first | k_is | rfl)
    (case pg_Clash => k_is)
    (case hd_Clash => first | k_is | rfl)
    (case po_Clash => k_is)
    (case sa_Clash => k_is)
    (case n_Clash_one => k_is)
    (case n_Clash_other => k_is)
    (case ha_Clash => first | k_is | rfl)
    (case hm_Clash => first | k_is | rfl)
    (case pg_Common => k_is)
    (case hd_Common => first | k_is | rfl)
    (case po_Common => k_is)
    (case sa_Common => k_is)
    (case n_Common_part => k_is)
    (case n_Common_times => k_is)
    (case ha_Common => first | k_is | rfl)
    (case hm_Common => first | k_is | rfl)
    (case pg_Times => k_is)
    (case hd_Times => first | k_is | rfl)
    (case po_Times => k_is)
    (case sa_Times => k_is)
    (case n_Times_times => k_is)
    (case ha_Times => first | k_is | rfl)
    (case hm_Times => first | k_is | rfl)
    (case pg_Bar => k_is)
    (case hd_Bar => first | k_is | rfl)
    (case po_Bar => k_is)
    (case sa_Bar => k_is)
    (case n_Bar_part => k_is)
    (case ha_Bar => first | k_is | rfl)
    (case hm_Bar => first | k_is | rfl)
    (case pg_Back => k_is)
    (case hd_Back => first | k_is | rfl)
    (case po_Back => k_is)
    (case sa_Back => k_is)
    (case n_Back_rest => k_is)
    (case ha_Back => first | k_is | rfl)
    (case hm_Back => first | k_is | rfl)
    (case hn => first | k_is | rfl)
    (case htk => first | k_is | rfl)
    (case sb_RestError => first | k_is | rfl)
    (case ty_RestError => k_is)
    (case hd_RestError => first | k_is | rfl)
    (case sb_BadRests => first | k_is | rfl)
    (case ty_BadRests => k_is)
    (case ex_BadRests => k_exc)
    (case ke_BadRests => k_is)
    (case su_BadRests_RestError => first | k_is | rfl)
    (case hg_BadRests => first | k_is | rfl)
    (case hk_BadRests => first | k_is | rfl)
    (case hx_BadRests => first | k_is | rfl)
    (case ha_BadRests => first | k_is | rfl)
    (case hm_BadRests => first | k_is | rfl)
    (case kq_BadRests_BadRests => first | k_is | rfl)
    (case kq_BadRests_BadNumbers => first | k_is | rfl)
    (case kq_BadRests_BadRound => first | k_is | rfl)
    (case kq_BadRests_BadRest => first | k_is | rfl)
    (case kq_BadRests_BadCount => first | k_is | rfl)
    (case kq_BadRests_BadText => first | k_is | rfl)
    (case kq_BadRests_ValueError => first | k_is | rfl)
    (case sb_BadNumbers => first | k_is | rfl)
    (case ty_BadNumbers => k_is)
    (case ex_BadNumbers => k_exc)
    (case ke_BadNumbers => k_is)
    (case su_BadNumbers_RestError => first | k_is | rfl)
    (case hg_BadNumbers => first | k_is | rfl)
    (case hk_BadNumbers => first | k_is | rfl)
    (case hx_BadNumbers => first | k_is | rfl)
    (case ha_BadNumbers => first | k_is | rfl)
    (case hm_BadNumbers => first | k_is | rfl)
    (case kq_BadNumbers_BadRests => first | k_is | rfl)
    (case kq_BadNumbers_BadNumbers => first | k_is | rfl)
    (case kq_BadNumbers_BadRound => first | k_is | rfl)
    (case kq_BadNumbers_BadRest => first | k_is | rfl)
    (case kq_BadNumbers_BadCount => first | k_is | rfl)
    (case kq_BadNumbers_BadText => first | k_is | rfl)
    (case kq_BadNumbers_ValueError => first | k_is | rfl)
    (case sb_BadRound => first | k_is | rfl)
    (case ty_BadRound => k_is)
    (case ex_BadRound => k_exc)
    (case ke_BadRound => k_is)
    (case su_BadRound_RestError => first | k_is | rfl)
    (case hg_BadRound => first | k_is | rfl)
    (case hk_BadRound => first | k_is | rfl)
    (case hx_BadRound => first | k_is | rfl)
    (case ha_BadRound => first | k_is | rfl)
    (case hm_BadRound => first | k_is | rfl)
    (case kq_BadRound_BadRests => first | k_is | rfl)
    (case kq_BadRound_BadNumbers => first | k_is | rfl)
    (case kq_BadRound_BadRound => first | k_is | rfl)
    (case kq_BadRound_BadRest => first | k_is | rfl)
    (case kq_BadRound_BadCount => first | k_is | rfl)
    (case kq_BadRound_BadText => first | k_is | rfl)
    (case kq_BadRound_ValueError => first | k_is | rfl)
    (case sb_BadRest => first | k_is | rfl)
    (case ty_BadRest => k_is)
    (case ex_BadRest => k_exc)
    (case ke_BadRest => k_is)
    (case su_BadRest_RestError => first | k_is | rfl)
    (case hg_BadRest => first | k_is | rfl)
    (case hk_BadRest => first | k_is | rfl)
    (case hx_BadRest => first | k_is | rfl)
    (case ha_BadRest => first | k_is | rfl)
    (case hm_BadRest => first | k_is | rfl)
    (case kq_BadRest_BadRests => first | k_is | rfl)
    (case kq_BadRest_BadNumbers => first | k_is | rfl)
    (case kq_BadRest_BadRound => first | k_is | rfl)
    (case kq_BadRest_BadRest => first | k_is | rfl)
    (case kq_BadRest_BadCount => first | k_is | rfl)
    (case kq_BadRest_BadText => first | k_is | rfl)
    (case kq_BadRest_ValueError => first | k_is | rfl)
