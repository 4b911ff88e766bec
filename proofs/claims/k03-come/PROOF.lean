import PyProof.Rows.All
import Wide.All
import OpenK.AllK
import Wide.FinOn
import HandS.ForMost
import HandS.ForExc
import HandS.Evl
import HandS.IsInst
import HandS.Wide
import HandS.Style
import HandS.Steps
import HandS.ExcCtx
import HandS.HotCalls
import HandS.ExcIs
import HandS.CallLocal
import HandS.SuiteRaise
import HandS.WordsExc
import HandS.Conv
import HandS.Codes
import HandS.Text
import HandS.StrMore
import HandS.Strs
import HandS.SortRule
import HandS.SortInts
import HandS.More
import PySem.Challenge.RW_wheelrow_k03_whole_come
set_option Elab.async false
set_option linter.all false
set_option maxRecDepth 100000
set_option maxHeartbeats 4000000
namespace Wl
/-- the part that goes into both -/
def pt (a b : Int) : Int := (Int.gcd a b : Int)
theorem pt_step (a b : Int) : pt b (a % b) = pt a b := by
  unfold pt
  have h : a % b = a - (a / b) * b := by
    have := Int.emod_add_mul_ediv a b
    rw [Int.mul_comm (a / b) b]; omega
  rw [h, Int.gcd_sub_mul_right_right, Int.gcd_comm]
theorem pt_zero (a : Int) (h : 0 ≤ a) : pt a 0 = a := by
  unfold pt
  rw [Int.gcd_zero_right]
  omega
theorem pt_abs (a b : Int) : pt (if a < 0 then -a else a) (if b < 0 then -b else b) = pt a b := by
  unfold pt
  split <;> split <;> simp
theorem pt_nn (a b : Int) : 0 ≤ pt a b := Int.natCast_nonneg _
theorem pt_dvd_l (a b : Int) : pt a b ∣ a := Int.gcd_dvd_left ..
theorem pt_dvd_r (a b : Int) : pt a b ∣ b := Int.gcd_dvd_right ..
theorem dvd_pt {a b c : Int} (h1 : c ∣ a) (h2 : c ∣ b) : c ∣ pt a b := Int.dvd_coe_gcd h1 h2
theorem pt_pos_r (a : Int) {b : Int} (h : 0 < b) : 0 < pt a b := by
  have h1 := pt_nn a b
  have h2 := pt_dvd_r a b
  have : pt a b ≠ 0 := by
    intro e
    rw [e] at h2
    have := Int.zero_dvd.mp h2
    omega
  omega
theorem pt_le_r (a : Int) {b : Int} (h : 0 < b) : pt a b ≤ b := Int.le_of_dvd h (pt_dvd_r a b)
theorem fmod_eq (a b : Int) : a.fmod b = a - a.fdiv b * b := by
  rw [Int.fmod_def, Int.mul_comm]
theorem pt_stepF (a b : Int) : pt b (a - a.fdiv b * b) = pt a b := by
  unfold pt
  rw [Int.gcd_sub_mul_right_right, Int.gcd_comm]
/-- the state of shares_of: here = (a, x, y), there = (b, u, v) -/
structure Sh (one other a x y b u v : Int) : Prop where
  ha : a = x * one + y * other
  hb : b = u * one + v * other
  hg : pt a b = pt one other
  hs : (a = one ∧ x = 1 ∧ y = 0 ∧ b = other ∧ u = 0 ∧ v = 1) ∨
    (a.natAbs ≤ other.natAbs ∧ b.natAbs < a.natAbs ∧ ((0 ≤ a ∧ 0 ≤ b) ∨ (a ≤ 0 ∧ b ≤ 0)) ∧ x.natAbs ≤ other.natAbs ∧ x.natAbs * b.natAbs + u.natAbs * a.natAbs ≤ other.natAbs)
theorem Sh.start (one other : Int) : Sh one other one 1 0 other 0 1 := ⟨by omega, by omega, rfl, .inl ⟨rfl, rfl, rfl, rfl, rfl, rfl⟩⟩
theorem mod_lt {a b : Int} (hb : b ≠ 0) : (a - a.fdiv b * b).natAbs < b.natAbs ∧ ((0 ≤ b ∧ 0 ≤ a - a.fdiv b * b) ∨ (b ≤ 0 ∧ a - a.fdiv b * b ≤ 0)) := by
  rw [← fmod_eq]
  by_cases h : 0 < b
  · have h1 := Int.fmod_lt_of_pos a h
    have h2 := Int.fmod_nonneg_of_pos a h
    omega
  · have hn : 0 < -b := by omega
    have h1 := Int.fmod_lt_of_pos (-a) hn
    have h2 := Int.fmod_nonneg_of_pos (-a) hn
    rw [Int.neg_fmod_neg] at h1 h2
    omega
theorem div_abs {a b : Int} (hb : b ≠ 0) (s : (0 ≤ a ∧ 0 ≤ b) ∨ (a ≤ 0 ∧ b ≤ 0)) : (a - a.fdiv b * b).natAbs + (a.fdiv b).natAbs * b.natAbs = a.natAbs := by
  have ⟨h1, h2⟩ := mod_lt (a := a) hb
  have hq : 0 ≤ a.fdiv b := by
    rcases s with ⟨p, q⟩ | ⟨p, q⟩
    · exact Int.fdiv_nonneg p q
    · rw [← Int.neg_fdiv_neg]
      exact Int.fdiv_nonneg (by omega) (by omega)
  generalize hr : a - a.fdiv b * b = r at *
  generalize a.fdiv b = q at *
  have e : q.natAbs * b.natAbs = (q * b).natAbs := (Int.natAbs_mul q b).symm
  rw [e]
  have hs : (0 ≤ b → 0 ≤ q * b) ∧ (b ≤ 0 → q * b ≤ 0) := ⟨fun z => Int.mul_nonneg hq z, fun z => Int.mul_nonpos_of_nonneg_of_nonpos hq z⟩
  generalize q * b = m at *
  omega
theorem Sh.step {one other a x y b u v : Int} (h : Sh one other a x y b u v) (hb : b ≠ 0) :
    Sh one other b u v (a - a.fdiv b * b) (x - a.fdiv b * u) (y - a.fdiv b * v) ∧ (a - a.fdiv b * b).natAbs < b.natAbs := by
  have ⟨h1, h2⟩ := mod_lt (a := a) hb
  refine ⟨⟨h.hb, ?_, ?_, .inr ⟨?_, h1, h2, ?_, ?_⟩⟩, h1⟩
  · have e1 := h.ha
    have e2 := h.hb
    generalize a.fdiv b = q
    subst e1 e2
    grind
  · rw [pt_stepF, h.hg]
  · rcases h.hs with ⟨_, _, _, e, _, _⟩ | ⟨e1, e2, _⟩
    · rw [e]; omega
    · omega
  · rcases h.hs with ⟨_, _, _, e, e5, _⟩ | ⟨e1, e2, e3, e4, e5⟩
    · rw [e5]; simp
    · have : u.natAbs * 1 ≤ u.natAbs * a.natAbs := Nat.mul_le_mul_left _ (by omega)
      omega
  · rcases h.hs with ⟨_, ex, _, e, eu, _⟩ | ⟨e1, e2, e3, e4, e5⟩
    · rw [eu, ex, e]; simp
    · have e := div_abs hb e3
      have e6 : (x - a.fdiv b * u).natAbs ≤ x.natAbs + (a.fdiv b).natAbs * u.natAbs := by
        rw [← Int.natAbs_mul]
        omega
      have e7 : (x - a.fdiv b * u).natAbs * b.natAbs ≤ (x.natAbs + (a.fdiv b).natAbs * u.natAbs) * b.natAbs := Nat.mul_le_mul_right _ e6
      generalize (a - a.fdiv b * b).natAbs = R at *
      generalize (a.fdiv b).natAbs = Qn at *
      generalize (x - a.fdiv b * u).natAbs = Y at *
      have e8 : u.natAbs * a.natAbs = u.natAbs * R + u.natAbs * (Qn * b.natAbs) := by rw [← Nat.mul_add, e]
      have e9 : (x.natAbs + Qn * u.natAbs) * b.natAbs = x.natAbs * b.natAbs + u.natAbs * (Qn * b.natAbs) := by
        rw [Nat.add_mul, Nat.mul_comm Qn u.natAbs, Nat.mul_assoc]
      omega
/-- what shares_of tells -/
structure Shares (one other g x y : Int) : Prop where
  eq : g = pt one other
  lin : g = x * one + y * other
  sm : x.natAbs ≤ other.natAbs + 1
theorem Sh.done {one other a x y u v : Int} (h : Sh one other a x y 0 u v) : (¬ a < 0 → Shares one other a x y) ∧ (a < 0 → Shares one other (-a) (-x) (-y)) := by
  have e := h.hg
  have hx : x.natAbs ≤ other.natAbs + 1 := by
    rcases h.hs with ⟨_, ex, _⟩ | ⟨_, _, _, z, _⟩
    · rw [ex]; simp
    · omega
  have ha := h.ha
  refine ⟨fun p => ⟨?_, ha, hx⟩, fun p => ⟨?_, ?_, ?_⟩⟩
  · rw [← e, pt_zero a (by omega)]
  · rw [← e]
    unfold pt
    rw [Int.gcd_zero_right]
    omega
  · rw [ha]; grind
  · omega
end Wl
namespace Wl
/-! ### back -/
def barsF (g n t : Int) : Bool := decide (1 < g) && (decide (n % g = 0) && decide (t % g = 0))
def backF (r n t : Int) : Bool := (decide (0 ≤ r) && decide (r < t)) && decide ((r * n - 1) % t = 0)
def backD (r n t : Int) : Bool := (decide (0 ≤ r) && decide (r < t)) && decide (r * n % t = 1 % t)
theorem backD_eq (r n t : Int) : backD r n t = backF r n t := by
  unfold backD backF
  rw [decide_eq_decide.mpr (Int.emod_eq_emod_iff_emod_sub_eq_zero (m := r * n) (n := t) (k := 1))]
def BarOk (g n t : Int) : Prop := 1 < g ∧ g ∣ n ∧ g ∣ t
def BackOk (r n t : Int) : Prop := 0 ≤ r ∧ r < t ∧ t ∣ r * n - 1
theorem Shares.bar {n t g x y : Int} (s : Shares n t g x y) (h : 1 < g) : BarOk g n t := by
  rw [s.eq] at h ⊢
  exact ⟨h, pt_dvd_l n t, pt_dvd_r n t⟩
theorem Shares.back {n t g x y : Int} (s : Shares n t g x y) (h : g ≤ 1) (ht : 1 ≤ t) : BackOk (x % t) n t := by
  have h1 := pt_pos_r n (b := t) (by omega)
  have hg : g = 1 := by have := s.eq; omega
  refine ⟨Int.emod_nonneg _ (by omega), Int.emod_lt_of_pos _ (by omega), ?_⟩
  have hl := s.lin
  rw [hg] at hl
  have e : x % t = x - t * (x / t) := Int.emod_def x t
  refine ⟨-(x / t) * n - y, ?_⟩
  rw [e]
  grind
theorem BarOk.F {g n t : Int} (h : BarOk g n t) : barsF g n t = true := by
  unfold barsF
  rw [decide_eq_true h.1, decide_eq_true (Int.emod_eq_zero_of_dvd h.2.1), decide_eq_true (Int.emod_eq_zero_of_dvd h.2.2)]
  rfl
theorem BarOk.far {g n t : Int} (h : BarOk g n t) (c : Int) : BarOk g (n + c * t) t := ⟨h.1, Int.dvd_add h.2.1 (Int.dvd_mul_of_dvd_right h.2.2), h.2.2⟩
theorem BackOk.F {r n t : Int} (h : BackOk r n t) : backF r n t = true := by
  unfold backF
  rw [decide_eq_true h.1, decide_eq_true h.2.1, decide_eq_true (Int.emod_eq_zero_of_dvd h.2.2)]
  rfl
theorem BackOk.far {r n t : Int} (h : BackOk r n t) (c : Int) : BackOk r (n + c * t) t := by
  refine ⟨h.1, h.2.1, ?_⟩
  obtain ⟨k, hk⟩ := h.2.2
  exact ⟨k + r * c, by rw [Int.mul_add]; grind⟩
end Wl
namespace Wl
/-! ### common parts -/
def dot : List Int → List Int → Int
  | n :: ns, t :: ts => n * t + dot ns ts
  | _, _ => 0
theorem dot_snoc : ∀ {ns ts : List Int} (n t : Int), ns.length = ts.length → dot (ns ++ [n]) (ts ++ [t]) = dot ns ts + n * t
  | [], [], n, t, _ => by simp [dot]
  | a :: ns, b :: ts, n, t, h => by
    have ih := dot_snoc (ns := ns) (ts := ts) n t (by simpa using h)
    simp only [List.cons_append, dot, ih]
    omega
  | [], _ :: _, _, _, h => by simp at h
  | _ :: _, [], _, _, h => by simp at h
theorem dot_mul : ∀ (ns ts : List Int) (x : Int), dot ns (ts.map (· * x)) = dot ns ts * x
  | [], _, x => by simp [dot]
  | _ :: _, [], x => by simp [dot]
  | a :: ns, b :: ts, x => by
    simp only [List.map_cons, dot, dot_mul ns ts x, Int.add_mul, Int.mul_assoc]
theorem dot_range : ∀ {ns ts : List Int}, ns.length = ts.length → ((List.range ns.length).map fun k => ns.getD k 0 * ts.getD k 0).sum = dot ns ts
  | [], [], _ => rfl
  | a :: ns, b :: ts, h => by
    have ih := dot_range (ns := ns) (ts := ts) (by simpa using h)
    rw [List.length_cons, List.range_succ_eq_map, List.map_cons, List.map_map, List.sum_cons]
    simp only [dot, ← ih]
    rfl
  | [], _ :: _, h => by simp at h
  | _ :: _, [], h => by simp at h
/-- a common part p of ns, and how often each makes it -/
structure CommonOk (p : Int) (ts ns : List Int) : Prop where
  nn : 0 ≤ p
  len : ts.length = ns.length
  sum : dot ns ts = p
  dvd : ∀ n ∈ ns, p ∣ n
def dueC (p : Int) (ts ns : List Int) : Bool := !(decide (p < 0) || !decide (ts.length = ns.length)) && (decide (dot ns ts = p) && ns.all fun n => if p = 0 then decide (n = 0) else decide (n % p = 0))
theorem CommonOk.due {p : Int} {ts ns : List Int} (h : CommonOk p ts ns) : dueC p ts ns = true := by
  have h1 : ¬ p < 0 := by have := h.nn; omega
  unfold dueC
  rw [decide_eq_false h1, decide_eq_true h.len, decide_eq_true h.sum]
  simp only [Bool.not_true, Bool.or_self, Bool.not_false, Bool.true_and, List.all_eq_true]
  intro n hn
  have hd := h.dvd n hn
  split
  · rename_i e
    rw [e] at hd
    exact decide_eq_true (Int.zero_dvd.mp hd)
  · exact decide_eq_true (Int.emod_eq_zero_of_dvd hd)
theorem CommonOk.nil : CommonOk 0 [] [] := ⟨Int.le_refl _, rfl, rfl, fun _ h => nomatch h⟩
theorem CommonOk.more {p n g x y : Int} {ts ns : List Int} (h : CommonOk p ts ns) (s : Shares p n g x y) : CommonOk g (ts.map (· * x) ++ [y]) (ns ++ [n]) := by
  refine ⟨by rw [s.eq]; exact pt_nn _ _, by simp [h.len], ?_, fun m hm => ?_⟩
  · rw [dot_snoc _ _ (by simp [h.len]), dot_mul, h.sum, s.lin, Int.mul_comm p x, Int.mul_comm n y]
  · rcases List.mem_append.mp hm with hm | hm
    · rw [s.eq]
      exact Int.dvd_trans (pt_dvd_l p n) (h.dvd m hm)
    · rw [List.mem_singleton.mp hm, s.eq]
      exact pt_dvd_r p n
theorem CommonOk.same {p n g x y : Int} {ts ns : List Int} (h : CommonOk p ts ns) (s : Shares p n g x y) (e : g = p) : CommonOk p (ts ++ [0]) (ns ++ [n]) := by
  refine ⟨h.nn, by simp [h.len], ?_, fun m hm => ?_⟩
  · rw [dot_snoc _ _ h.len.symm, h.sum]
    omega
  · rcases List.mem_append.mp hm with hm | hm
    · exact h.dvd m hm
    · rw [List.mem_singleton.mp hm, ← e, s.eq]
      exact pt_dvd_r p n
theorem pt_le {p n b : Int} (h0 : 0 ≤ p) (hp : p ≤ b) (hn : n.natAbs ≤ b.natAbs) (hb : 0 ≤ b) : pt p n ≤ b := by
  by_cases e : n = 0
  · rw [e, pt_zero p h0]
    exact hp
  · have h := pt_dvd_r p n
    have h2 : pt p n ∣ (n.natAbs : Int) := Int.dvd_natAbs.mpr h
    have := Int.le_of_dvd (by omega) h2
    omega
theorem CommonOk.far {p : Int} {ts ns : List Int} (h : CommonOk p ts ns) : dueC p (ts ++ [0]) ns = false := by
  unfold dueC
  have : ¬ (ts ++ [0]).length = ns.length := by
    rw [List.length_append, h.len]
    simp
  rw [decide_eq_false this]
  simp
end Wl
namespace Wl
/-! ### come -/
def barS (g : Int) (ns : List Int) (t r : Int) : Bool := !(decide (g < 2) || (!decide (t % g = 0) || decide (r % g = 0))) && ns.all fun n => decide (n % g = 0)
def timesS (ts ns : List Int) (t r : Int) : Bool := !(!decide (ts.length = ns.length) || !(ts.all fun o => decide (0 ≤ o) && decide (o < t))) && decide (dot ns ts % t = r)
structure BarSOk (g : Int) (ns : List Int) (t r : Int) : Prop where
  two : 2 ≤ g
  dt : g ∣ t
  nr : ¬ g ∣ r
  dn : ∀ n ∈ ns, g ∣ n
structure TimesOk (ts ns : List Int) (t r : Int) : Prop where
  len : ts.length = ns.length
  rng : ∀ o ∈ ts, 0 ≤ o ∧ o < t
  sum : dot ns ts % t = r
theorem BarSOk.F {g t r : Int} {ns : List Int} (h : BarSOk g ns t r) : barS g ns t r = true := by
  have h1 : ¬ g < 2 := by have := h.two; omega
  have h2 : ¬ r % g = 0 := fun e => h.nr (Int.dvd_of_emod_eq_zero e)
  unfold barS
  rw [decide_eq_false h1, decide_eq_true (Int.emod_eq_zero_of_dvd h.dt), decide_eq_false h2]
  simp only [Bool.not_true, Bool.or_self, Bool.not_false, Bool.true_and, List.all_eq_true, decide_eq_true_eq]
  exact fun n hn => Int.emod_eq_zero_of_dvd (h.dn n hn)
theorem BarSOk.far {g t r : Int} {ns : List Int} (h : BarSOk g ns t r) (c : Int) : BarSOk g (ns.map fun n => n + c * t) t r :=
  ⟨h.two, h.dt, h.nr, fun n hn => by
    obtain ⟨m, hm, rfl⟩ := List.mem_map.mp hn
    exact Int.dvd_add (h.dn m hm) (Int.dvd_mul_of_dvd_right h.dt)⟩
theorem TimesOk.F {ts ns : List Int} {t r : Int} (h : TimesOk ts ns t r) : timesS ts ns t r = true := by
  have h1 : (ts.all fun o => decide (0 ≤ o) && decide (o < t)) = true := by
    simp only [List.all_eq_true, Bool.and_eq_true, decide_eq_true_eq]
    exact h.rng
  unfold timesS
  rw [decide_eq_true h.len, h1, decide_eq_true h.sum]
  rfl
theorem dot_add (c : Int) : ∀ {ns ts : List Int}, ns.length = ts.length → dot (ns.map fun n => n + c) ts = dot ns ts + c * ts.sum
  | [], [], _ => by simp [dot]
  | n :: ns, t :: ts, h => by
    have ih := dot_add c (ns := ns) (ts := ts) (by simpa using h)
    simp only [List.map_cons, dot, ih, List.sum_cons]
    grind
  | [], _ :: _, h => by simp at h
  | _ :: _, [], h => by simp at h
theorem TimesOk.far {ts ns : List Int} {t r : Int} (h : TimesOk ts ns t r) (c : Int) : TimesOk ts (ns.map fun n => n + c * t) t r := by
  refine ⟨by rw [List.length_map]; exact h.len, h.rng, ?_⟩
  rw [dot_add _ h.len.symm, show c * t * ts.sum = c * ts.sum * t by grind, Int.add_mul_emod_self_right]
  exact h.sum
theorem TimesOk.more {ts ns : List Int} {t r : Int} (h : TimesOk ts ns t r) : timesS (ts ++ [0]) ns t r = false := by
  unfold timesS
  have : ¬ (ts ++ [0]).length = ns.length := by
    rw [List.length_append, h.len]
    simp
  rw [decide_eq_false this]
  simp
theorem dot_modk (c t : Int) : ∀ {ns ts : List Int}, ns.length = ts.length → ∃ k, dot ns (ts.map fun o => o * c % t) = dot (ns.map fun n => n % t) ts * c + t * k
  | [], [], _ => ⟨0, by simp [dot]⟩
  | n :: ns, o :: ts, h => by
    obtain ⟨k, ih⟩ := dot_modk c t (ns := ns) (ts := ts) (by simpa using h)
    have e1 : o * c % t = o * c - t * (o * c / t) := Int.emod_def _ _
    have e2 : n % t = n - t * (n / t) := Int.emod_def _ _
    refine ⟨k + (n / t) * o * c - n * (o * c / t), ?_⟩
    simp only [List.map_cons, dot, ih]
    rw [e1, e2]
    generalize o * c / t = a
    generalize n / t = b
    grind
  | [], _ :: _, h => by simp at h
  | _ :: _, [], h => by simp at h
theorem come_pos {p t : Int} {ts ns : List Int} (h : CommonOk p ts (ns.map (fun n => n % t) ++ [t])) (ht : 1 ≤ t) : 0 < p ∧ p ∣ t ∧ ∀ n ∈ ns, p ∣ n := by
  have h1 := h.dvd t (by simp)
  have h0 : 0 < p := by
    have := h.nn
    have : p ≠ 0 := fun e => by
      rw [e] at h1
      have := Int.zero_dvd.mp h1
      omega
    omega
  refine ⟨h0, h1, fun n hn => ?_⟩
  have h2 := h.dvd (n % t) (by simp; exact .inl ⟨n, hn, rfl⟩)
  have e := Int.emod_add_mul_ediv n t
  rw [← e]
  exact Int.dvd_add h2 (Int.dvd_mul_of_dvd_left h1)
theorem come_bar {p t r : Int} {ts ns : List Int} (h : CommonOk p ts (ns.map (fun n => n % t) ++ [t])) (ht : 1 ≤ t) (hr : ¬ r % p = 0) : BarSOk p ns t r := by
  obtain ⟨h0, h1, h2⟩ := come_pos h ht
  refine ⟨?_, h1, fun z => hr (Int.emod_eq_zero_of_dvd z), h2⟩
  have : p ≠ 1 := fun e => hr (by rw [e]; exact Int.emod_one r)
  omega
theorem come_times {p t r : Int} {ts ns : List Int} (h : CommonOk p ts (ns.map (fun n => n % t) ++ [t])) (ht : 1 ≤ t) (hr : r % p = 0) (r0 : 0 ≤ r) (r1 : r < t) : TimesOk (ts.dropLast.map fun o => o * (r / p) % t) ns t r := by
  obtain ⟨h0, _, _⟩ := come_pos h ht
  have hl : ts.length = ns.length + 1 := by
    have := h.len
    simpa using this
  obtain ⟨ts0, tl, rfl⟩ : ∃ ts0 tl, ts = ts0 ++ [tl] := by
    rcases List.eq_nil_or_concat ts with e | ⟨a, b, e⟩
    · rw [e] at hl; simp at hl
    · exact ⟨a, b, by rw [e]; simp⟩
  have hl0 : ts0.length = ns.length := by simpa using hl
  rw [List.dropLast_concat]
  refine ⟨by rw [List.length_map]; exact hl0, fun o ho => ?_, ?_⟩
  · obtain ⟨x, _, rfl⟩ := List.mem_map.mp ho
    exact ⟨Int.emod_nonneg _ (by omega), Int.emod_lt_of_pos _ (by omega)⟩
  · obtain ⟨k, hk⟩ := dot_modk (r / p) t hl0.symm
    have hs := h.sum
    rw [dot_snoc _ _ (by rw [List.length_map, hl0])] at hs
    have er : p * (r / p) = r := by
      have := Int.emod_add_mul_ediv r p
      omega
    have e : dot ns (ts0.map fun o => o * (r / p) % t) = r + t * (k - tl * (r / p)) := by
      rw [hk]
      have : dot (ns.map fun n => n % t) ts0 = p - t * tl := by omega
      rw [this]
      generalize r / p = q at *
      rw [← er]
      grind
    rw [e, Int.add_mul_emod_self_left, Int.emod_eq_of_lt r0 r1]
end Wl
namespace Wl
open PySem PySem.Spec PyProof.Rows L2 Evl
/-! ### a def that keeps a promise -/
/-- a promise by data: Pre of the arguments, Post of the heap ahead, the value, the heap behind -/
def spX {α : Type} (Pre : α → List V → Hp → Prop) (Post : α → Hp → V → Hp → Prop) : Sp := fun vs H Q _ => ∃ d, Pre d vs H ∧ ∀ v H', Ex H H' → Post d H v H' → Q v H'
structure Ok (P : Program) (w : World) (K : PySem.W.Frag) (mg : Str → Option Value) (base : Heap) (k : Nat) (f : Addr) (fd : FuncData) (ps : List Str) (sp : Sp) : Prop where
  (ok : FnOk P w K mg base CX0 k f fd ps sp) (bi : Binds K fd ps []) (kp : PySem.W.keepIn K (.ref f) = true)
abbrev Okk (P : Program) (w : World) (K : PySem.W.Frag) (mg : Str → Option Value) (base : Heap) (k : Nat) (f : Addr) (ps : List Str) (sp : Sp) : Prop := ∃ fd, Ok P w K mg base k f fd ps sp
/-- its body walked, wherever it is called: nothing is let out -/
abbrev BodyIn (P : Program) (w : World) (K : PySem.W.Frag) (mg : Str → Option Value) (base : Heap) (N : List Str) (qual : Str) (st : Stmt) (f : Addr) (k : Nat) (sp : Sp) : Prop :=
  ∀ (cd : Value) (B : Around) (out : List Env) (s : Shared) (H : Hp) (vs : List V) (Q : VK) (E : XK), Room k (B.deeper (envOfC qual (defScope st) s.heap.objs.size f cd)) → sp vs H Q E →
    ∃ t, PSs (cxOf CX0 P w K mg base N qual (defScope st) f cd B out s H E).nox (defBody st) t ∧ t { nx := fun _ H' => Q .non H', rt := Q } (start N vs) H
theorem okk {P : Program} {w : World} {K : PySem.W.Frag} {mg : Str → Option Value} {base : Heap} {x qual : Str} {st : Stmt} {f : Addr} {N ps : List Str} {k : Nat} {sp : Sp}
    (F : ∃ fd, Fun K x qual st f fd ∧ Binds K fd ps []) (S : FnScope N ps (defScope st)) (len : ∀ vs H Q E, sp vs H Q E → vs.length = ps.length) (body : BodyIn P w K mg base N qual st f k sp) : Okk P w K mg base (k + 1) f ps sp :=
  match F with
  | ⟨fd, F, b⟩ => ⟨fd, F.ok S len body, b, F.kp⟩

/-! ### what evaluates to what, with facts of the heap behind -/
def EvR (te : TE) (σ : L2.St) (H : Hp) (R : V → Hp → Prop) : Prop := ∀ H1, Ex H H1 → ∀ Q : VK, (∀ v H2, Ex H1 H2 → R v H2 → Q v H2) → te σ H1 Q
def EvAR (ta : TA) (σ : L2.St) (H : Hp) (R : List V → Hp → Prop) : Prop := ∀ H1, Ex H H1 → ∀ Q : List V → Hp → Prop, (∀ v H2, Ex H1 H2 → R v H2 → Q v H2) → ta σ H1 Q
section
variable {K : PySem.W.Frag} {σ : L2.St} {H H' : Hp} {ta tb tc te tx : TE} {t u : TT} {x y z v : V} {r r' : R2} {R R' S : V → Hp → Prop} {D : Ends} {tu tw tz : TS} {g : TG}
theorem EvR.mono (e : Ex H H') (h : EvR te σ H R) : EvR te σ H' R := fun H1 a Q q => h H1 (e.trans a) Q q
theorem EvR.imp (h : EvR te σ H R) (hi : ∀ v H2, Ex H H2 → R v H2 → R' v H2) : EvR te σ H R' := fun H1 a Q q => h H1 a Q fun v H2 e p => q v H2 e (hi v H2 (a.trans e) p)
theorem evr (h : Ev te σ H v) : EvR te σ H (fun x _ => x = v) := fun H1 a Q q => h H1 a Q fun H2 e => q v H2 e rfl
theorem EvR.ev (h : EvR te σ H R) (hi : ∀ x H2, Ex H H2 → R x H2 → x = v) : Ev te σ H v := fun H1 a Q q => h H1 a Q fun x H2 e p => by rw [hi x H2 (a.trans e) p]; exact q H2 e
theorem elr {xs : List V} (h : EvL te σ H xs) : EvR te σ H (fun v H2 => ∃ p, v = .ref p ∧ H p = none ∧ H2 p = some (.lst xs)) := fun H1 a Q q => h H1 a Q fun p H2 hp e h2 => q _ H2 e ⟨p, rfl, fresh_back a hp, h2⟩
theorem eur {xs : List V} (h : EvU te σ H xs) : EvR te σ H (fun v H2 => ∃ p, v = .ref p ∧ H p = none ∧ H2 p = some (.tup xs)) := fun H1 a Q q => h H1 a Q fun p H2 hp e h2 => q _ H2 e ⟨p, rfl, fresh_back a hp, h2⟩
/-- x, then whatever needs it -/
theorem er_op {Ra : V → Hp → Prop} {Rb : V → V → Hp → Prop} (ha : EvR ta σ H Ra) (hb : ∀ x H1, Ex H H1 → Ra x H1 → EvR tb σ H1 (Rb x))
    (hr : ∀ x y H1 H2, Ex H H1 → Ra x H1 → Ex H1 H2 → Rb x y H2 → ∀ Q : VK, (∀ v H3, Ex H2 H3 → R v H3 → Q v H3) → r x y H2 Q) : EvR (tOp r ta tb) σ H R := fun H1 e Q q =>
  ha H1 e _ fun x H2 e2 p => hb x H2 (e.trans e2) p H2 (Ex.refl _) _ fun y H3 e3 p3 => hr x y H2 H3 (e.trans e2) p e3 p3 Q fun v H4 e4 p4 => q v H4 ((e2.trans e3).trans e4) p4
/-- the first operand's value by facts, the second plain -/
theorem ev_opR {Ra : V → Hp → Prop} (ha : EvR ta σ H Ra) (hb : Ev tb σ H y) (hr : ∀ x H1, Ex H H1 → Ra x H1 → RV r x y H1 z) : Ev (tOp r ta tb) σ H z := fun H1 e Q q =>
  ha H1 e _ fun x H2 e2 p => hb H2 (e.trans e2) _ fun H3 e3 => hr x H2 (e.trans e2) p H3 e3 Q fun H4 e4 => q H4 ((e2.trans e3).trans e4)
/-- the second by facts -/
theorem ev_opR2 {Rb : V → Hp → Prop} (ha : Ev ta σ H x) (hb : EvR tb σ H Rb) (hr : ∀ y H1, Ex H H1 → Rb y H1 → RV r x y H1 z) : Ev (tOp r ta tb) σ H z := fun H1 e Q q =>
  ha H1 e _ fun H2 e2 => hb H2 (e.trans e2) _ fun y H3 e3 p => hr y H3 ((e.trans e2).trans e3) p H3 (Ex.refl _) Q fun H4 e4 => q H4 ((e2.trans e3).trans e4)
/-- both by facts -/
theorem ev_opRR {Ra Rb : V → Hp → Prop} (ha : EvR ta σ H Ra) (hb : EvR tb σ H Rb) (hr : ∀ x y H1 H2, Ex H H1 → Ra x H1 → Ex H1 H2 → Rb y H2 → RV r x y H2 z) : Ev (tOp r ta tb) σ H z := fun H1 e Q q =>
  ha H1 e _ fun x H2 e2 p => hb H2 (e.trans e2) _ fun y H3 e3 p3 => hr x y H2 H3 (e.trans e2) p e3 p3 H3 (Ex.refl _) Q fun H4 e4 => q H4 ((e2.trans e3).trans e4)
/-- a new list by two plain values (xs + ys, ..) -/
theorem er_opR {Ra Rb : V → Hp → Prop} (ha : EvR ta σ H Ra) (hb : EvR tb σ H Rb) (hr : ∀ x y H1 H2, Ex H H1 → Ra x H1 → Ex H1 H2 → Rb y H2 → ∀ Q : VK, (∀ v H3, Ex H2 H3 → R v H3 → Q v H3) → r x y H2 Q) : EvR (tOp r ta tb) σ H R :=
  er_op ha (fun _ _ e _ => hb.mono e) hr
theorem ev_chain {a b : Bool} (ha : Ev ta σ H x) (hb : Ev tb σ H y) (h1 : RV r x y H (.bl a)) (hc : a = true → Ev tc σ H z) (h2 : a = true → RV r' y z H (.bl b)) : Ev (tChain r r' ta tb tc) σ H (.bl (a && b)) := fun H1 e Q q =>
  ha H1 e _ fun H2 e2 => hb H2 (e.trans e2) _ fun H3 e3 => h1 H3 ((e.trans e2).trans e3) _ fun H4 e4 => ⟨a, rfl, by
    cases a with
    | false => exact q H4 ((e2.trans e3).trans e4)
    | true => exact hc rfl H4 (((e.trans e2).trans e3).trans e4) _ fun H5 e5 => h2 rfl H5 ((((e.trans e2).trans e3).trans e4).trans e5) Q fun H6 e6 => q H6 ((((e2.trans e3).trans e4).trans e5).trans e6)⟩
/-- fields -/
theorem ev_fld {a C dx : Addr} {fs : List (Str × V)} {f : Str} (ha : Ev ta σ H (.ref a)) (ho : H a = some (.ins C dx fs)) (c : Cls K C) (n : NoAttr K C f) (hl : fs.lookup f = some v) : Ev (tFld K ta f) σ H v := fun H1 e Q q =>
  ha H1 e _ fun H2 e2 => ⟨a, C, dx, fs, v, rfl, (e.trans e2) a _ ho, c, n, hl, q H2 e2⟩
theorem ev_fldR {C : Addr} {f : Str} (ha : EvR ta σ H R) (h : ∀ x H1, Ex H H1 → R x H1 → ∃ a dx fs, x = .ref a ∧ H1 a = some (.ins C dx fs) ∧ fs.lookup f = some v) (c : Cls K C) (n : NoAttr K C f) : Ev (tFld K ta f) σ H v := fun H1 e Q q =>
  ha H1 e _ fun x H2 e2 p => by
    obtain ⟨a, dx, fs, hx, ho, hl⟩ := h x H2 (e.trans e2) p
    exact ⟨a, C, dx, fs, v, hx, ho, c, n, hl, q H2 e2⟩
/-- arguments -/
theorem ear {vs : List V} {ta : TA} (h : EvA ta σ H vs) : EvAR ta σ H (fun x _ => x = vs) := fun H1 a Q q => h H1 a Q fun H2 e => q vs H2 e rfl
theorem ear_nil : EvAR tNil σ H (fun x _ => x = []) := ear ea_nil
theorem ear_cons {tr : TA} {T : List V → Hp → Prop} (h : EvR te σ H R) (hr : ∀ x H1, Ex H H1 → R x H1 → EvAR tr σ H1 (fun vs H2 => T (x :: vs) H2)) : EvAR (tCons te tr) σ H T := fun H1 e Q q =>
  h H1 e _ fun x H2 e2 p => hr x H2 (e.trans e2) p H2 (Ex.refl _) _ fun vs H3 e3 p3 => q _ H3 (e2.trans e3) p3
/-- one argument by facts -/
theorem ear_one (h : EvR te σ H R) : EvAR (tCons te tNil) σ H (fun vs H2 => ∃ x, vs = [x] ∧ R x H2) := fun H1 e Q q => h H1 e _ fun x H2 e2 p => q [x] H2 e2 ⟨x, rfl, p⟩
/-! built-ins -/
theorem er_cb {rr : List V → Hp → VK → Prop} {ta : TA} {T : List V → Hp → Prop} (h : EvAR ta σ H T) (hr : ∀ vs H1, Ex H H1 → T vs H1 → ∀ Q : VK, (∀ v H2, Ex H1 H2 → R v H2 → Q v H2) → rr vs H1 Q) : EvR (tCB rr ta) σ H R := fun H1 e Q q =>
  h H1 e _ fun vs H2 e2 p => hr vs H2 (e.trans e2) p Q fun v H3 e3 p3 => q v H3 (e2.trans e3) p3
theorem ev_cbR {rr : List V → Hp → VK → Prop} {ta : TA} {T : List V → Hp → Prop} (h : EvAR ta σ H T) (hr : ∀ vs H1, Ex H H1 → T vs H1 → ∀ Q : VK, Q z H1 → rr vs H1 Q) : Ev (tCB rr ta) σ H z := fun H1 e Q q =>
  h H1 e _ fun vs H2 e2 p => hr vs H2 (e.trans e2) p Q (q H2 e2)
theorem rc_abs {i : Int} : RC (fun xs H Q => ∃ i, xs = [V.int i] ∧ Q (.int (if i < 0 then -i else i)) H) [.int i] H (.int (if i < 0 then -i else i)) := fun H1 _ _ q => ⟨i, rfl, q H1 (Ex.refl H1)⟩
theorem rc_len {p : Addr} {xs : List V} (h : SqL K H p xs) : RC (fun xs H Q => ∃ p ys, xs = [V.ref p] ∧ (SqL K H p ys ∨ SqT K H p ys) ∧ Q (.int ys.length) H) [.ref p] H (.int (xs.length : Int)) := fun H1 e _ q => ⟨p, xs, rfl, .inl (ex_l e h), q H1 (Ex.refl H1)⟩
theorem rc_sum {p : Addr} {ns : List Int} (h : SqL K H p (ns.map V.int)) : RC (rSum K) [.ref p] H (.int ns.sum) := fun H1 e _ q => ⟨p, ns, rfl, ex_l e h, q H1 (Ex.refl H1)⟩
theorem ev_sumL {ns : List Int} {xs : List V} (h : EvL te σ H xs) (hx : xs = ns.map V.int) : Ev (tCB (rSum K) (tCons te tNil)) σ H (.int ns.sum) := fun H1 e Q q =>
  h H1 e _ fun p H2 _ e2 h2 => ⟨p, ns, rfl, by rw [← hx]; exact sq_of h2, q H2 e2⟩
theorem ev_allL {bs : List Bool} {xs : List V} (h : EvL te σ H xs) (hx : xs = bs.map V.bl) : Ev (tCB (rAll K) (tCons te tNil)) σ H (.bl (bs.all id)) := fun H1 e Q q =>
  h H1 e _ fun p H2 _ e2 h2 => ⟨p, bs, rfl, by rw [← hx]; exact sq_of h2, q H2 e2⟩
theorem ev_anyL {bs : List Bool} {xs : List V} (h : EvL te σ H xs) (hx : xs = bs.map V.bl) : Ev (tCB (rAny K) (tCons te tNil)) σ H (.bl (bs.any id)) := fun H1 e Q q =>
  h H1 e _ fun p H2 _ e2 h2 => ⟨p, bs, rfl, by rw [← hx]; exact sq_of h2, q H2 e2⟩
theorem ev_any {bs : List Bool} {p : Addr} (h : Ev te σ H (.ref p)) (hx : SqL K H p (bs.map V.bl)) : Ev (tCB (rAny K) (tCons te tNil)) σ H (.bl (bs.any id)) := fun H1 e Q q =>
  h H1 e _ fun H2 e2 => ⟨p, bs, rfl, ex_l (e.trans e2) hx, q H2 e2⟩
abbrev rTupOf (K : PySem.W.Frag) : List V → Hp → VK → Prop := fun xs H Q => ∃ p ys, xs = [.ref p] ∧ ((SqL K H p ys ∧ ∀ l, H l = none → Q (.ref l) (upd H l (.tup ys))) ∨ (SqT K H p ys ∧ Q (.ref p) H))
theorem eu_tupL {xs : List V} (h : EvL te σ H xs) : EvU (tCB (rTupOf K) (tCons te tNil)) σ H xs := fun H1 e Q q =>
  h H1 e _ fun p H2 _ e2 h2 => ⟨p, xs, rfl, .inl ⟨sq_of h2, fun l hl => q l _ (fresh_back e2 hl) (e2.trans (Ex.new hl)) upd_same⟩⟩
/-! isinstance -/
theorem tyx_up {tt : Value} (e : Ex H H') (h : TyX K H x tt) : TyX K H' x tt := by
  cases h with
  | base b =>
    refine .base ?_
    cases b with
    | non => exact .non
    | bl y => exact .bl y
    | int i => exact .int i
    | str y => exact .str y
    | flt y => exact .flt y
    | lst ea => exact .lst (e _ _ ea)
    | frz ea => exact .frz (e _ _ ea)
    | tup ea => exact .tup (e _ _ ea)
    | dK ea => exact .dK (e _ _ ea)
    | dT ea => exact .dT (e _ _ ea)
    | ins ea cl ha hn htk hm => exact .ins (e _ _ ea) cl ha hn htk hm
  | byt y => exact .byt y
  | set ea => exact .set (e _ _ ea)
  | kList ea c => exact .kList ea c
  | kTuple ea c => exact .kTuple ea c
  | kDict ea c => exact .kDict ea c
  | fTuple ea => exact .fTuple (e _ _ ea)
  | fDict ea => exact .fDict (e _ _ ea)
theorem ev_isi {c : V} {u tt : Value} {b : Bool} (ha : Ev ta σ H x) (hb : Ev tb σ H c) (hc : ClsV c u) (ht : TyX K H x tt) (hk : PySem.W.kitOne K tt u = some b) : Ev (tCB (rIsi K) (tCons ta (tCons tb tNil))) σ H (.bl b) := fun H1 e Q q =>
  ha H1 e _ fun H2 e2 => hb H2 (e.trans e2) _ fun H3 e3 => ⟨x, c, tt, u, b, rfl, hc, tyx_up ((e.trans e2).trans e3) ht, hk, q H3 (e2.trans e3)⟩
theorem ev_isiR {c : V} {u tt : Value} {b : Bool} (ha : EvR ta σ H R) (ht : ∀ x H1, Ex H H1 → R x H1 → TyX K H1 x tt) (hb : Ev tb σ H c) (hc : ClsV c u) (hk : PySem.W.kitOne K tt u = some b) : Ev (tCB (rIsi K) (tCons ta (tCons tb tNil))) σ H (.bl b) := fun H1 e Q q =>
  ha H1 e _ fun x H2 e2 p => hb H2 (e.trans e2) _ fun H3 e3 => ⟨x, c, tt, u, b, rfl, hc, tyx_up e3 (ht x H2 (e.trans e2) p), hk, q H3 (e2.trans e3)⟩
/-- what isinstance asks of a class of one's own -/
structure IsC (K : PySem.W.Frag) (C : Addr) : Prop where
  (cl : Cls K C) (ha : PySem.W.findIn K (.ref C) "__class__" = some (some (.builtin "object.__class__"))) (hm : PySem.W.mroIn K C (.type "object") = some true)
structure IsG (K : PySem.W.Frag) : Prop where
  (hn : PySem.W.specialIn K (.builtin "object.__class__") "__get__" = some (some (.builtin "getset_descriptor.__get__"))) (htk : PySem.W.takesIn K (.builtin "object.__class__") = some true)
theorem tyx_ins {a C dx : Addr} {fs : List (Str × V)} (ho : H a = some (.ins C dx fs)) (c : IsC K C) (g : IsG K) : TyX K H (.ref a) (.ref C) := .base (.ins ho c.cl c.ha g.hn g.htk c.hm)
/-! calls of defs -/
theorem er_callS {sp : Sp} {dvs : List V} {E : XK} {ta : TA} {T : List V → Hp → Prop} (h : EvAR ta σ H T) (hs : ∀ vs H1, Ex H H1 → T vs H1 → ∀ Q : VK, (∀ v H2, Ex H1 H2 → R v H2 → Q v H2) → sp (vs ++ dvs) H1 Q E) : EvR (tCall sp dvs E ta) σ H R := fun H1 e Q q =>
  h H1 e _ fun vs H2 e2 p => hs vs H2 (e.trans e2) p Q fun v H3 e3 p3 => q v H3 (e2.trans e3) p3
theorem er_call {α : Type} {Pre : α → List V → Hp → Prop} {Post : α → Hp → V → Hp → Prop} {E : XK} {ta : TA} {vs : List V} (d : α) (h : EvA ta σ H vs) (hm : ∀ H1, Ex H H1 → Pre d vs H1) (hp : ∀ H1 v H2, Ex H H1 → Ex H1 H2 → Post d H1 v H2 → R v H2) :
    EvR (tCall (spX Pre Post) [] E ta) σ H R := fun H1 e Q q =>
  h H1 e _ fun H2 e2 => ⟨d, by rw [List.append_nil]; exact hm H2 (e.trans e2), fun v H3 e3 p3 => q v H3 (e2.trans e3) (hp H2 v H3 (e.trans e2) e3 p3)⟩
theorem ev_call0 {α : Type} {Pre : α → List V → Hp → Prop} {Post : α → Hp → V → Hp → Prop} {E : XK} {ta : TA} {vs : List V} (d : α) (h : EvA ta σ H vs) (hm : ∀ H1, Ex H H1 → Pre d vs H1) (hp : ∀ H1 v H2, Post d H1 v H2 → v = z) :
    Ev (tCall (spX Pre Post) [] E ta) σ H z := (er_call (R := fun x _ => x = z) d h hm fun H1 v H2 _ _ p => hp H1 v H2 p).ev fun _ _ _ p => p
theorem er_meth {α : Type} {Pre : α → List V → Hp → Prop} {Post : α → Hp → V → Hp → Prop} {E : XK} {tm : TA} {vs : List V} {a C dx : Addr} {fs : List (Str × V)} {m : Str} (d : α) (ha : Ev ta σ H (.ref a)) (ho : H a = some (.ins C dx fs)) (hl : fs.lookup m = none) (h : EvA tm σ H vs)
    (hm : ∀ H1, Ex H H1 → Pre d (.ref a :: vs) H1) (hp : ∀ H1 v H2, Ex H H1 → Ex H1 H2 → Post d H1 v H2 → R v H2) : EvR (tMeth C m (spX Pre Post) [] E ta tm) σ H R := fun H1 e Q q =>
  ha H1 e _ fun H2 e2 => ⟨a, dx, fs, rfl, (e.trans e2) a _ ho, hl, h H2 (e.trans e2) _ fun H3 e3 => ⟨d, by rw [List.append_nil]; exact hm H3 ((e.trans e2).trans e3), fun v H4 e4 p4 => q v H4 ((e2.trans e3).trans e4) (hp H3 v H4 ((e.trans e2).trans e3) e4 p4)⟩⟩
theorem ev_meth {α : Type} {Pre : α → List V → Hp → Prop} {Post : α → Hp → V → Hp → Prop} {E : XK} {tm : TA} {vs : List V} {a C dx : Addr} {fs : List (Str × V)} {m : Str} (d : α) (ha : Ev ta σ H (.ref a)) (ho : H a = some (.ins C dx fs)) (hl : fs.lookup m = none) (h : EvA tm σ H vs)
    (hm : ∀ H1, Ex H H1 → Pre d (.ref a :: vs) H1) (hp : ∀ H1 v H2, Post d H1 v H2 → v = z) : Ev (tMeth C m (spX Pre Post) [] E ta tm) σ H z := (er_meth (R := fun x _ => x = z) d ha ho hl h hm fun H1 v H2 _ _ p => hp H1 v H2 p).ev fun _ _ _ p => p
/-- C(..): __init__ leaves an instance with fields fs, of the arguments -/
def spI (C : Addr) (Pre : List V → Hp → Prop) (Post : List V → Hp → Hp → List (Str × V) → Prop) : Sp := fun vs H Q _ => ∃ x dx us, vs = .ref x :: us ∧ H x = some (.ins C dx []) ∧ Pre us H ∧
  ∀ H' fs, (∀ b o, b ≠ x → H b = some o → H' b = some o) → H' x = some (.ins C dx fs) → Post us H H' fs → Q .non H'
theorem er_make {C : Addr} {Pre : List V → Hp → Prop} {Post : List V → Hp → Hp → List (Str × V) → Prop} {E : XK} {ta : TA} {T : List V → Hp → Prop} (h : EvAR ta σ H T)
    (hm : ∀ us H1 H2, Ex H H1 → T us H1 → Ex H1 H2 → Pre us H2) (hR : ∀ us H1 H2 H3 fs x dx, Ex H H1 → T us H1 → Ex H1 H2 → Ex H1 H3 → H1 x = none → H3 x = some (.ins C dx fs) → Post us H2 H3 fs → R (.ref x) H3) :
    EvR (tMake C (spI C Pre Post) [] E ta) σ H R := fun H1 e Q q =>
  h H1 e _ fun us H2 e2 p x dx hx hd hn => by
    have eA : Ex H2 (upd (upd H2 dx (.own x)) x (.ins C dx [])) := (Ex.new hd).mut hx
    refine ⟨x, dx, us, by rw [List.append_nil], upd_same, hm us H2 _ (e.trans e2) p eA, fun H' fs hk hi hp => ⟨rfl, ?_⟩⟩
    have e3 : Ex H2 H' := fun b o hb => hk b o (fun z => by rw [z, hx] at hb; cases hb) (eA b o hb)
    exact q _ _ (e2.trans e3) (hR us H2 _ H' fs x dx (e.trans e2) p eA e3 hx hi hp)
/-! ### statements -/
theorem s_asgR {i : Nat} (h : EvR te σ H R) (k : ∀ v H1, Ex H H1 → R v H1 → D.nx (σ.set i (some v)) H1) : tAsg te (gName i) D σ H := h H (Ex.refl H) _ fun v H1 e p => k v H1 e p
theorem q_asgR {i : Nat} (h : EvR te σ H R) (k : ∀ v H1, Ex H H1 → R v H1 → tz D (σ.set i (some v)) H1) : tSeq (tAsg te (gName i)) tz D σ H := s_asgR (D := { D with nx := tz D }) h k
theorem s_retR (h : EvR te σ H R) (k : ∀ v H1, Ex H H1 → R v H1 → D.rt v H1) : tRet te D σ H := h H (Ex.refl H) _ k
theorem s_asgG (h : EvR te σ H R) (k : ∀ v H1, Ex H H1 → R v H1 → g v σ H1 D.nx) : tAsg te g D σ H := h H (Ex.refl H) _ fun v H1 e p => k v H1 e p
theorem q_asgG (h : EvR te σ H R) (k : ∀ v H1, Ex H H1 → R v H1 → g v σ H1 (tz D)) : tSeq (tAsg te g) tz D σ H := s_asgG (D := { D with nx := tz D }) h k
theorem s_dropR (h : EvR te σ H R) (k : ∀ v H1, Ex H H1 → R v H1 → D.nx σ H1) : tDrop te D σ H := h H (Ex.refl H) _ k
theorem q_dropR (h : EvR te σ H R) (k : ∀ v H1, Ex H H1 → R v H1 → tz D σ H1) : tSeq (tDrop te) tz D σ H := s_dropR (D := { D with nx := tz D }) h k
theorem s_par {i j : Nat} {ta : TA} {vs : List V} {v w : V} (h : EvA ta σ H vs) (hv : vs = [v, w]) (k : ∀ H1, Ex H H1 → D.nx ((σ.set i (some v)).set j (some w)) H1) : tPar i j ta D σ H := h H (Ex.refl H) _ fun H1 e => ⟨v, w, hv, k H1 e⟩
theorem q_par {i j : Nat} {ta : TA} {vs : List V} {v w : V} (h : EvA ta σ H vs) (hv : vs = [v, w]) (k : ∀ H1, Ex H H1 → tz D ((σ.set i (some v)).set j (some w)) H1) : tSeq (tPar i j ta) tz D σ H := s_par (D := { D with nx := tz D }) h hv k
/-- a, b, .. = a tuple -/
theorem g_tup2 {i j : Nat} {a : Addr} {p q : V} {Q : L2.St → Hp → Prop} (h : SqT K H a [p, q]) (k : Q ((σ.set i (some p)).set j (some q)) H) : gTup K 2 (gCons (gName i) (gCons (gName j) gNil)) (.ref a) σ H Q := ⟨a, [p, q], rfl, h, rfl, p, [q], rfl, q, [], rfl, rfl, k⟩
theorem g_tup3 {i j l : Nat} {a : Addr} {p q s : V} {Q : L2.St → Hp → Prop} (h : SqT K H a [p, q, s]) (k : Q (((σ.set i (some p)).set j (some q)).set l (some s)) H) : gTup K 3 (gCons (gName i) (gCons (gName j) (gCons (gName l) gNil))) (.ref a) σ H Q := ⟨a, [p, q, s], rfl, h, rfl, p, [q, s], rfl, q, [s], rfl, s, [], rfl, rfl, k⟩
theorem seq_i (h : tu { D with nx := tz D } σ H) : tSeq tu tz D σ H := h
theorem s_next (h : D.nx σ H) : tNext D σ H := h
end
/-! ### pieces -/
theorem vint_inj {i j : Int} : (V.int i = V.int j) ↔ i = j := ⟨fun h => V.int.inj h, fun h => by rw [h]⟩
theorem vbl_inj {i j : Bool} : (V.bl i = V.bl j) ↔ i = j := ⟨fun h => V.bl.inj h, fun h => by rw [h]⟩
theorem given_all {n : Nat} {v : Nat → V} : given n (fun _ => true) v = (List.range n).map v := by
  unfold given
  rw [List.filter_eq_self.mpr (fun _ _ => rfl)]
end Wl
namespace Wl
open PySem PySem.Spec PyProof.Rows L2 Evl
theorem ev_self {te : TE} {σ : L2.St} {H : Hp} {v : V} (h : Ev te σ H v) : Ev te σ H v := h
theorem et_self {t : TT} {σ : L2.St} {H : Hp} {b : Bool} (h : EvT t σ H b) : EvT t σ H b := h
theorem eb_i {b c : Bool} {P : Prop} (h : b = c → P) : b = c → P := h
end Wl
namespace Wl
open PySem PySem.Spec PyProof.Rows L2 Evl
/-! ### comprehensions -/
/-- what a made item tells leans on no list -/
def Stb (R : Nat → V → Hp → Prop) : Prop := ∀ j y H1 H2, R j y H1 → (∀ b o, H1 b = some o → (∀ zs, o ≠ .lst zs) → H2 b = some o) → R j y H2
theorem stb_val {v : Nat → V} : Stb (fun j y _ => y = v j) := fun _ _ _ _ h _ => h
theorem stb_tup {v : Nat → List V} : Stb (fun j y H => ∃ t, y = .ref t ∧ H t = some (.tup (v j))) := fun j y H1 H2 ⟨t, e, h⟩ k => ⟨t, e, k t _ h fun zs z => nomatch z⟩
def Lw (H : Hp) (R : Nat → V → Hp → Prop) (Dl : Addr) (i : Nat) (H' : Hp) : Prop := H Dl = none ∧ Ex H H' ∧ ∃ ys, H' Dl = some (.lst ys) ∧ ys.length = i ∧ ∀ j y, ys[j]? = some y → R j y H'
section
variable {K : PySem.W.Frag} {σ : L2.St} {H H' : Hp} {ta tb tc te tx : TE} {t u : TT} {x y z v : V} {D : Ends} {tu tw tz : TS} {g : TG}
theorem et_yes : EvT tYes σ H true := fun H1 _ _ q => q H1 (Ex.refl H1)
theorem lw_turn {R : Nat → V → Hp → Prop} {Dl : Addr} {i : Nat} {σ2 : L2.St} (p : Lw H R Dl i H') (hi : i < 50000) (hst : Stb R) (he : EvR te σ2 H (R i)) :
    te σ2 H' fun y H4 => ∃ acc, H4 Dl = some (.lst acc) ∧ acc.length < sizeLine ∧ Lw H R Dl (i + 1) (upd H4 Dl (.lst (acc ++ [y]))) := by
  obtain ⟨p1, p2, ys, p3, p4, p5⟩ := p
  refine he H' p2 _ fun y H4 e4 py => ⟨ys, e4 Dl _ p3, sz_lt (by omega), p1, Ex.mut (p2.trans e4) p1, ys ++ [y], upd_same, by simp [p4], fun j z hz => ?_⟩
  have keep : ∀ b o, H4 b = some o → (∀ zs, o ≠ .lst zs) → upd H4 Dl (.lst (ys ++ [y])) b = some o := fun b o hb hn => by
    rw [upd_ne (fun e => ?_)]
    · exact hb
    · subst e
      rw [e4 _ _ p3] at hb
      exact hn ys (Option.some.inj hb).symm
  by_cases hj : j < ys.length
  · rw [List.getElem?_append_left hj] at hz
    exact hst j z H4 _ (hst j z H' H4 (p5 j z hz) fun b o hb _ => e4 b o hb) keep
  · rw [List.getElem?_append_right (by omega)] at hz
    have hj2 : j - ys.length = 0 := by
      have := (List.getElem?_eq_some_iff.mp hz).1
      simp at this
      omega
    rw [hj2] at hz
    have e : y = z := Option.some.inj hz
    have ej : j = i := by omega
    subst e ej
    exact hst _ y H4 _ py keep
abbrev LcR (n : Nat) (R : Nat → V → Hp → Prop) (H : Hp) : V → Hp → Prop := fun v H2 => ∃ D ys, v = .ref D ∧ H D = none ∧ H2 D = some (.lst ys) ∧ ys.length = n ∧ ∀ j y, ys[j]? = some y → R j y H2
/-- over a list, its target any -/
theorem er_lcL {a : Addr} {xs : List V} {tl : TE} {vs : List Nat} (R : Nat → V → Hp → Prop) (hst : Stb R) (h : Ev tl σ H (.ref a)) (hx : SqL K H a xs) (hz : xs.length ≤ 40000)
    (hg : ∀ i x, xs[i]? = some x → ∃ σ2, wipe σ2 vs = wipe σ vs ∧ EvR te σ2 H (R i) ∧ ∀ H', Ex H H' → ∀ Q : L2.St → Hp → Prop, Q σ2 H' → g x (wipe σ vs) H' Q) :
    EvR (tLc (iList K tl) g tYes te vs) σ H (LcR xs.length R H) := fun H0 e Q q => h H0 e _ fun H1 e1 => ⟨a, rfl, ⟨xs, ex_l (e.trans e1) hx⟩, fun Dl hD =>
  lc_list (xs := xs) (Lw H1 R Dl) ⟨hD, Ex.new hD, [], upd_same, rfl, fun j y hy => by simp at hy⟩ (fun i H' _ p => ex_l ((e.trans e1).trans p.2.1) hx) (fun i x H' hi p => by
    obtain ⟨σ2, hw, he, hq⟩ := hg i x hi
    refine hq H' ((e.trans e1).trans p.2.1) _ ⟨hw, ?_⟩
    exact lw_turn p (by have := (List.getElem?_eq_some_iff.mp hi).1; omega) hst (he.mono (e.trans e1))) (fun H' p => by
    obtain ⟨p1, p2, ys, p3, p4, p5⟩ := p
    exact q _ H' (e1.trans p2) ⟨Dl, ys, rfl, fresh_back (e.trans e1) p1, p3, p4, p5⟩)⟩
/-- over a new list -/
theorem er_lcNL {xs : List V} {tl : TE} {vs : List Nat} (S : V → Hp → Prop) (R : Nat → V → Hp → Prop) (hst : Stb R) (h : EvR tl σ H S) (hS : ∀ v H1, Ex H H1 → S v H1 → ∃ a, v = .ref a ∧ SqL K H1 a xs) (hz : xs.length ≤ 40000)
    (hg : ∀ v H1, Ex H H1 → S v H1 → ∀ i x, xs[i]? = some x → ∃ σ2, wipe σ2 vs = wipe σ vs ∧ EvR te σ2 H1 (R i) ∧ ∀ H', Ex H1 H' → ∀ Q : L2.St → Hp → Prop, Q σ2 H' → g x (wipe σ vs) H' Q) :
    EvR (tLc (iList K tl) g tYes te vs) σ H (LcR xs.length R H) := fun H0 e Q q => h H0 e _ fun v H1 e1 hv => by
  obtain ⟨a, rfl, hx⟩ := hS v H1 (e.trans e1) hv
  refine ⟨a, rfl, ⟨xs, hx⟩, fun Dl hD =>
    lc_list (xs := xs) (Lw H1 R Dl) ⟨hD, Ex.new hD, [], upd_same, rfl, fun j y hy => by simp at hy⟩ (fun i H' _ p => ex_l p.2.1 hx) (fun i x H' hi p => ?_) (fun H' p => ?_)⟩
  · obtain ⟨σ2, hw, he, hq⟩ := hg _ H1 (e.trans e1) hv i x hi
    refine hq H' p.2.1 _ ⟨hw, ?_⟩
    exact lw_turn p (by have := (List.getElem?_eq_some_iff.mp hi).1; omega) hst he
  · obtain ⟨p1, p2, ys, p3, p4, p5⟩ := p
    exact q _ H' (e1.trans p2) ⟨Dl, ys, rfl, fresh_back (e.trans e1) p1, p3, p4, p5⟩
/-- over a tuple -/
theorem er_lcT {a : Addr} {xs : List V} {tl : TE} {vs : List Nat} (R : Nat → V → Hp → Prop) (hst : Stb R) (h : Ev tl σ H (.ref a)) (hx : SqT K H a xs) (hz : xs.length ≤ 40000)
    (hg : ∀ i x, xs[i]? = some x → ∃ σ2, wipe σ2 vs = wipe σ vs ∧ EvR te σ2 H (R i) ∧ ∀ H', Ex H H' → ∀ Q : L2.St → Hp → Prop, Q σ2 H' → g x (wipe σ vs) H' Q) :
    EvR (tLc (iTup K tl) g tYes te vs) σ H (LcR xs.length R H) := fun H0 e Q q => h H0 e _ fun H1 e1 => ⟨a, rfl, ⟨xs, ex_t (e.trans e1) hx⟩, fun Dl hD =>
  lc_tup (xs := xs) (Lw H1 R Dl) ⟨hD, Ex.new hD, [], upd_same, rfl, fun j y hy => by simp at hy⟩ (fun i H' _ p => ex_t ((e.trans e1).trans p.2.1) hx) (fun i x H' hi p => by
    obtain ⟨σ2, hw, he, hq⟩ := hg i x hi
    refine hq H' ((e.trans e1).trans p.2.1) _ ⟨hw, ?_⟩
    exact lw_turn p (by have := (List.getElem?_eq_some_iff.mp hi).1; omega) hst (he.mono (e.trans e1))) (fun H' p => by
    obtain ⟨p1, p2, ys, p3, p4, p5⟩ := p
    exact q _ H' (e1.trans p2) ⟨Dl, ys, rfl, fresh_back (e.trans e1) p1, p3, p4, p5⟩)⟩
/-- over range(n) -/
theorem er_lcR {ta : TA} {n : Nat} {j : Nat} {vs : List Nat} (R : Nat → V → Hp → Prop) (hst : Stb R) (h : EvA ta σ H [.int (n : Int)]) (hz : n ≤ 40000) (hw : ∀ x, wipe ((wipe σ vs).set j (some x)) vs = wipe σ vs)
    (hg : ∀ i, i < n → EvR te ((wipe σ vs).set j (some (.int (i : Int)))) H (R i)) :
    EvR (tLc (iRng1 ta) (gName j) tYes te vs) σ H (LcR n R H) := fun H0 e Q q => h H0 e _ fun H1 e1 => ⟨n, rfl, by omega, by omega, fun Dl hD => by
  have en : ((n : Int)).toNat = n := by omega
  rw [en]
  refine lc_range (lo := 0) (n := n) (Lw H1 R Dl) ⟨hD, Ex.new hD, [], upd_same, rfl, fun j y hy => by simp at hy⟩ (fun i H' hi p => ?_) (fun H' p => ?_)
  · have e0 : (0 : Int) + (i : Int) = (i : Int) := Int.zero_add _
    rw [e0]
    refine ⟨hw _, ?_⟩
    exact lw_turn p (by omega) hst ((hg i hi).mono (e.trans e1))
  · obtain ⟨p1, p2, ys, p3, p4, p5⟩ := p
    exact q _ H' (e1.trans p2) ⟨Dl, ys, rfl, fresh_back (e.trans e1) p1, p3, p4, p5⟩⟩
/-- the made list, its items known -/
theorem lc_is {n : Nat} {f : Nat → V} {ys : List V} (hl : ys.length = n) (h : ∀ j y, ys[j]? = some y → y = f j) : ys = (List.range n).map f := by
  apply List.ext_getElem?
  intro i
  cases e : ys[i]? with
  | none =>
    have := List.getElem?_eq_none_iff.mp e
    exact (List.getElem?_eq_none_iff.mpr (by rw [List.length_map, List.length_range]; omega)).symm
  | some y =>
    have hi := (List.getElem?_eq_some_iff.mp e).1
    rw [List.getElem?_map, List.getElem?_range (by omega), h i y e]
    rfl
/-- the list's items known -/
theorem LcR.sq {n : Nat} {f : Nat → V} {v : V} {H1 : Hp} (h : LcR n (fun j y _ => y = f j) H v H1) : ∃ a, v = .ref a ∧ SqL K H1 a ((List.range n).map f) := by
  obtain ⟨D, ys, rfl, _, h3, h4, h5⟩ := h
  rw [lc_is h4 h5] at h3
  exact ⟨D, rfl, sq_of h3⟩
theorem ev_sumR {S : V → Hp → Prop} {ns : List Int} (h : EvR te σ H S) (hS : ∀ v H1, Ex H H1 → S v H1 → ∃ a, v = .ref a ∧ SqL K H1 a (ns.map V.int)) : Ev (tCB (rSum K) (tCons te tNil)) σ H (.int ns.sum) := fun H1 e Q q =>
  h H1 e _ fun x H2 e2 p => by
    obtain ⟨a, rfl, hx⟩ := hS x H2 (e.trans e2) p
    exact ⟨a, ns, rfl, hx, q H2 e2⟩
theorem ev_allR {S : V → Hp → Prop} {bs : List Bool} (h : EvR te σ H S) (hS : ∀ v H1, Ex H H1 → S v H1 → ∃ a, v = .ref a ∧ SqL K H1 a (bs.map V.bl)) : Ev (tCB (rAll K) (tCons te tNil)) σ H (.bl (bs.all id)) := fun H1 e Q q =>
  h H1 e _ fun x H2 e2 p => by
    obtain ⟨a, rfl, hx⟩ := hS x H2 (e.trans e2) p
    exact ⟨a, bs, rfl, hx, q H2 e2⟩
theorem ev_anyR {S : V → Hp → Prop} {bs : List Bool} (h : EvR te σ H S) (hS : ∀ v H1, Ex H H1 → S v H1 → ∃ a, v = .ref a ∧ SqL K H1 a (bs.map V.bl)) : Ev (tCB (rAny K) (tCons te tNil)) σ H (.bl (bs.any id)) := fun H1 e Q q =>
  h H1 e _ fun x H2 e2 p => by
    obtain ⟨a, rfl, hx⟩ := hS x H2 (e.trans e2) p
    exact ⟨a, bs, rfl, hx, q H2 e2⟩
/-- tuple(a list) -/
theorem er_tupR {S : V → Hp → Prop} {xs : List V} (h : EvR te σ H S) (hS : ∀ v H1, Ex H H1 → S v H1 → ∃ a, v = .ref a ∧ SqL K H1 a xs) : EvR (tCB (rTupOf K) (tCons te tNil)) σ H (fun v H2 => ∃ p, v = .ref p ∧ H p = none ∧ H2 p = some (.tup xs)) := fun H1 e Q q =>
  h H1 e _ fun x H2 e2 p => by
    obtain ⟨a, rfl, hx⟩ := hS x H2 (e.trans e2) p
    exact ⟨a, xs, rfl, .inl ⟨hx, fun l hl => q _ _ (e2.trans (Ex.new hl)) ⟨l, rfl, fresh_back (e.trans e2) hl, upd_same⟩⟩⟩
/-- list(a list) -/
theorem er_listL {a : Addr} {xs : List V} (h : Ev te σ H (.ref a)) (hx : SqL K H a xs) : EvR (tCB (fun xs H Q => ∃ p ys, xs = [V.ref p] ∧ (SqL K H p ys ∨ SqT K H p ys) ∧ ∀ l, H l = none → Q (.ref l) (upd H l (.lst ys))) (tCons te tNil)) σ H (fun v H2 => ∃ p, v = .ref p ∧ H p = none ∧ H2 p = some (.lst xs)) := fun H1 e Q q =>
  h H1 e _ fun H2 e2 => ⟨a, xs, rfl, .inl (ex_l (e.trans e2) hx), fun l hl => q _ _ (e2.trans (Ex.new hl)) ⟨l, rfl, fresh_back (e.trans e2) hl, upd_same⟩⟩
/-- (a, b, ..) of anything -/
theorem er_tup {ta : TA} {T : List V → Hp → Prop} (h : EvAR ta σ H T) (hl : ∀ vs H1, T vs H1 → vs.length ≤ 100000) : EvR (tTup ta) σ H (fun v H2 => ∃ p vs H1, v = .ref p ∧ H p = none ∧ Ex H1 H2 ∧ T vs H1 ∧ H2 p = some (.tup vs)) := fun H1 e Q q =>
  h H1 e _ fun vs H2 e2 p => ⟨sz_of (hl vs H2 p), fun l hl => q _ _ (e2.trans (Ex.new hl)) ⟨l, vs, H2, rfl, fresh_back (e.trans e2) hl, Ex.new hl, p, upd_same⟩⟩
theorem er_lst {ta : TA} {T : List V → Hp → Prop} (h : EvAR ta σ H T) (hl : ∀ vs H1, T vs H1 → vs.length ≤ 100000) : EvR (tLst ta) σ H (fun v H2 => ∃ p vs H1, v = .ref p ∧ H p = none ∧ Ex H1 H2 ∧ T vs H1 ∧ H2 p = some (.lst vs)) := fun H1 e Q q =>
  h H1 e _ fun vs H2 e2 p => ⟨sz_of (hl vs H2 p), fun l hl => q _ _ (e2.trans (Ex.new hl)) ⟨l, vs, H2, rfl, fresh_back (e.trans e2) hl, Ex.new hl, p, upd_same⟩⟩
end
end Wl
namespace Wl
open PySem PySem.Spec PyProof.Rows L2 Evl
theorem EvAR.imp {ta : TA} {σ : L2.St} {H : Hp} {R R' : List V → Hp → Prop} (h : EvAR ta σ H R) (hi : ∀ v H2, Ex H H2 → R v H2 → R' v H2) : EvAR ta σ H R' := fun H1 a Q q => h H1 a Q fun v H2 e p => q v H2 e (hi v H2 (a.trans e) p)
end Wl
namespace Wl
open PySem PySem.Spec PyProof.Rows L2 Evl
/-! ### rules with K named (within a comprehension K is hidden in the context) -/
section
variable {X : Cx} (K : PySem.W.Frag)
theorem ix_tupK (h : X.K = K := by rfl) : IxR X (rIxT K) := by subst h; exact ix_tup
theorem ix_listK (h : X.K = K := by rfl) : IxR X (rIxL K) := by subst h; exact ix_list
abbrev rLenQ (K : PySem.W.Frag) : List V → Hp → VK → Prop := fun xs H Q => ∃ p ys, xs = [.ref p] ∧ (SqL K H p ys ∨ SqT K H p ys) ∧ Q (.int ys.length) H
abbrev rListQ (K : PySem.W.Frag) : List V → Hp → VK → Prop := fun xs H Q => ∃ p ys, xs = [.ref p] ∧ (SqL K H p ys ∨ SqT K H p ys) ∧ ∀ l, H l = none → Q (.ref l) (upd H l (.lst ys))
theorem len_seqK (h : X.K = K := by rfl) : CallR X (.builtin "len") (rLenQ K) := by subst h; exact call_len_seq
theorem allK (hc : X.calm = true) (h : X.K = K := by rfl) : CallR X (.builtin "all") (rAll K) := by subst h; exact cr_all hc
theorem anyK (hc : X.calm = true) (h : X.K = K := by rfl) : CallR X (.builtin "any") (rAny K) := by subst h; exact cr_any hc
theorem sumK (hc : X.calm = true) (h : X.K = K := by rfl) : CallR X (.builtin "sum") (rSum K) := by subst h; exact cr_sum hc
theorem isiK (h : X.K = K := by rfl) : CallR X (.builtin "isinstance") (rIsi K) := by subst h; exact call_isi
theorem list_ofK (h : X.K = K := by rfl) : CallR X (.type "list") (rListQ K) := by subst h; exact call_list_of
theorem tuple_ofK (h : X.K = K := by rfl) : CallR X (.type "tuple") (rTupOf K) := by subst h; exact call_tuple_of
theorem eqDK (hu : X.A.units + 64 < cLine) (h : X.K = K := by rfl) : OpR X (compareOp .Eq) (rEqD K) := by subst h; exact op_eqD hu
theorem neDK (hu : X.A.units + 64 < cLine) (h : X.K = K := by rfl) : OpR X (compareOp .NotEq) (rNeD K) := by subst h; exact op_neD hu
theorem pe_fldK {e : Expr} {f : Str} {pos : Pos} {ta : TE} (he : PE X e ta) (hb : attributeBase e f X.env (eval e X.env) = eval e X.env) (h : X.K = K := by rfl) : PE X (.Attribute e f pos) (tFld K ta f) := by subst h; exact pe_fld he hb
theorem pg_tupK {es : List Expr} {k : Nat} {pos : Pos} {t : TGs} {n : Nat} (hc : X.calm = true) (ht : PGs X es t)
    (hn : (assignEach es X.env).length = n := by rfl) (hst : (assignEach es X.env).findIdx? (·.1) = none := by rfl) (h : X.K = K := by rfl) : PG X (.Tuple es k pos) (gTup K n t) := by subst h; exact pg_tup hc ht hn hst
theorem pi_listK {tg l : Expr} {tl : TE} (hl : PE X l tl) (h : X.K = K := by rfl) : PI X tg l (iList K tl) := by subst h; exact pi_list hl
theorem pi_tupK {tg l : Expr} {tl : TE} (hl : PE X l tl) (h : X.K = K := by rfl) : PI X tg l (iTup K tl) := by subst h; exact pi_tup hl
end
end Wl
namespace Wl
open PySem PySem.Spec PyProof.Rows L2 Evl
section
variable {K : PySem.W.Frag} {σ : L2.St} {H H' : Hp} {te : TE}
/-- the target a name -/
theorem er_lcLn {a : Addr} {xs : List V} {tl : TE} {vs : List Nat} {j : Nat} (R : Nat → V → Hp → Prop) (hst : Stb R) (h : Ev tl σ H (.ref a)) (hx : SqL K H a xs) (hz : xs.length ≤ 40000) (hw : ∀ x, wipe ((wipe σ vs).set j (some x)) vs = wipe σ vs)
    (hg : ∀ i x, xs[i]? = some x → EvR te ((wipe σ vs).set j (some x)) H (R i)) : EvR (tLc (iList K tl) (gName j) tYes te vs) σ H (LcR xs.length R H) :=
  er_lcL R hst h hx hz fun i x hi => ⟨_, hw x, hg i x hi, fun _ _ _ q => q⟩
theorem er_lcTn {a : Addr} {xs : List V} {tl : TE} {vs : List Nat} {j : Nat} (R : Nat → V → Hp → Prop) (hst : Stb R) (h : Ev tl σ H (.ref a)) (hx : SqT K H a xs) (hz : xs.length ≤ 40000) (hw : ∀ x, wipe ((wipe σ vs).set j (some x)) vs = wipe σ vs)
    (hg : ∀ i x, xs[i]? = some x → EvR te ((wipe σ vs).set j (some x)) H (R i)) : EvR (tLc (iTup K tl) (gName j) tYes te vs) σ H (LcR xs.length R H) :=
  er_lcT R hst h hx hz fun i x hi => ⟨_, hw x, hg i x hi, fun _ _ _ q => q⟩
/-- the target a pair of names, the items pairs -/
theorem er_lcLp {a : Addr} {xs : List V} {tl : TE} {vs : List Nat} {j l : Nat} (R : Nat → V → Hp → Prop) (hst : Stb R) (h : Ev tl σ H (.ref a)) (hx : SqL K H a xs) (hz : xs.length ≤ 40000) (hw : ∀ x y, wipe (((wipe σ vs).set j (some x)).set l (some y)) vs = wipe σ vs)
    (hg : ∀ i x, xs[i]? = some x → ∃ t p q, x = .ref t ∧ SqT K H t [p, q] ∧ EvR te (((wipe σ vs).set j (some p)).set l (some q)) H (R i)) : EvR (tLc (iList K tl) (gTup K 2 (gCons (gName j) (gCons (gName l) gNil))) tYes te vs) σ H (LcR xs.length R H) :=
  er_lcL R hst h hx hz fun i x hi => by
    obtain ⟨t, p, q, rfl, ht, he⟩ := hg i x hi
    exact ⟨_, hw p q, he, fun _ e _ k => g_tup2 (ex_t e ht) k⟩
end
end Wl
namespace Wl
open PySem PySem.Spec PyProof.Rows L2 Evl
section
variable {K : PySem.W.Frag} {σ : L2.St} {H H' : Hp} {te ti : TE} {ta : TA}
theorem dec_vint {i j : Int} : decide (V.int i = V.int j) = decide (i = j) := decide_eq_decide.mpr vint_inj
theorem dec_vbl {i j : Bool} : decide (V.bl i = V.bl j) = decide (i = j) := decide_eq_decide.mpr vbl_inj
theorem rv_eqI {i j : Int} : RV rEq (.int i) (.int j) H (.bl (decide (i = j))) := fun H1 _ _ q => ⟨rfl, by rw [dec_vint]; exact q H1 (Ex.refl H1)⟩
theorem rv_neI {i j : Int} : RV rNe (.int i) (.int j) H (.bl (!decide (i = j))) := fun H1 _ _ q => ⟨rfl, by rw [dec_vint]; exact q H1 (Ex.refl H1)⟩
theorem rv_eqB {i j : Bool} : RV rEq (.bl i) (.bl j) H (.bl (decide (i = j))) := fun H1 _ _ q => ⟨rfl, by rw [dec_vbl]; exact q H1 (Ex.refl H1)⟩
theorem rv_neB {i j : Bool} : RV rNe (.bl i) (.bl j) H (.bl (!decide (i = j))) := fun H1 _ _ q => ⟨rfl, by rw [dec_vbl]; exact q H1 (Ex.refl H1)⟩
theorem rv_isB {i j : Bool} : RV rIsB (.bl i) (.bl j) H (.bl (decide (i = j))) := fun H1 _ _ q => ⟨i, j, rfl, rfl, q H1 (Ex.refl H1)⟩
theorem rv_notB {i j : Bool} : RV rNotB (.bl i) (.bl j) H (.bl (!decide (i = j))) := fun H1 _ _ q => ⟨i, j, rfl, rfl, q H1 (Ex.refl H1)⟩
theorem atI_map {l : List Int} {i : Int} (h0 : 0 ≤ i) (h1 : i < l.length) : atI (l.map V.int) i = some (.int (l.getD i.toNat 0)) := by
  refine at_of (j := i.toNat) (by omega) ?_
  rw [List.getElem?_map, List.getD_eq_getElem?_getD, List.getElem?_eq_getElem (by omega)]
  rfl
/-- an item of a written tuple of ints -/
theorem ev_pick {l : List Int} {i : Int} {vs : List V} (h : EvA ta σ H vs) (hi : Ev ti σ H (.int i)) (hv : vs = l.map V.int) (h0 : 0 ≤ i) (h1 : i < l.length) (hl : l.length ≤ 100000) : Ev (tOp (rIxT K) (tTup ta) ti) σ H (.int (l.getD i.toNat 0)) :=
  ev_opR (eur (eu_tup h (by rw [hv, List.length_map]; exact hl))) hi fun x H1 e ⟨p, hx, _, hp⟩ => by
    subst hx
    rw [hv] at hp
    exact rv_ixT (st_of hp) (atI_map h0 h1)
theorem getD_all {l : List Int} {i : Nat} {a b : Int} (h : (l.all fun x => decide (a ≤ x) && decide (x ≤ b)) = true) (hi : i < l.length) : a ≤ l.getD i 0 ∧ l.getD i 0 ≤ b := by
  rw [List.getD_eq_getElem?_getD, List.getElem?_eq_getElem hi]
  have := List.all_eq_true.mp h _ (List.getElem_mem hi)
  simp only [Bool.and_eq_true, decide_eq_true_eq] at this
  exact this
theorem ev_lenL {p : Addr} {xs : List V} (ha : Ev te σ H (.ref p)) (h : SqL K H p xs) : Ev (tCB (rLenQ K) (tCons te tNil)) σ H (.int (xs.length : Int)) := fun H1 e Q q =>
  ha H1 e _ fun H2 e2 => ⟨p, xs, rfl, .inl (ex_l (e.trans e2) h), q H2 e2⟩
end
end Wl
namespace Wl
open PySem PySem.Spec PyProof.Rows L2 Evl
theorem lk0 {f g : Str} {x : V} (h : (g == f) = false := by decide +kernel) : List.lookup g [(f, x)] = none := by simp [List.lookup, h]
theorem lk00 {f f2 g : Str} {x x2 : V} (h : (g == f) = false := by decide +kernel) (h2 : (g == f2) = false := by decide +kernel) : List.lookup g [(f, x), (f2, x2)] = none := by simp [List.lookup, h, h2]
theorem lk21 {f f2 : Str} {x x2 : V} : List.lookup f [(f, x), (f2, x2)] = some x := by simp [List.lookup]
theorem lk22 {f f2 : Str} {x x2 : V} (h : (f2 == f) = false := by decide +kernel) : List.lookup f2 [(f, x), (f2, x2)] = some x2 := by simp [List.lookup, h]
section
variable {K : PySem.W.Frag} {σ : L2.St} {H H' : Hp} {te ti : TE} {ta : TA} {D : Ends} {tu tz : TS} {g : TG}
/-- over a new tuple, the target a name -/
theorem s_forTR {xs : List V} {tl : TE} {j : Nat} (h : EvR tl σ H (fun v H1 => ∃ a, v = .ref a ∧ SqT K H1 a xs)) (Pv : Addr → Nat → L2.St → Hp → Prop) (h0 : ∀ a H1, Ex H H1 → SqT K H1 a xs → Pv a 0 σ H1) (hl : ∀ a i σ' H', i ≤ xs.length → Pv a i σ' H' → SqT K H' a xs)
    (hs : ∀ a i x σ' H', xs[i]? = some x → Pv a i σ' H' → tu { D with nx := Pv a (i + 1), ct := Pv a (i + 1), bk := D.nx } (σ'.set j (some x)) H') (hd : ∀ a σ' H', Pv a xs.length σ' H' → D.nx σ' H') : tFor (iTup K tl) (gName j) tu D σ H :=
  h H (Ex.refl H) _ fun v H1 e ⟨a, hv, hx⟩ => ⟨a, hv, ⟨xs, hx⟩, for_tup (Pv a) (h0 a H1 e hx) (hl a) (hs a) (hd a)⟩
theorem q_forTR {xs : List V} {tl : TE} {j : Nat} (h : EvR tl σ H (fun v H1 => ∃ a, v = .ref a ∧ SqT K H1 a xs)) (Pv : Addr → Nat → L2.St → Hp → Prop) (h0 : ∀ a H1, Ex H H1 → SqT K H1 a xs → Pv a 0 σ H1) (hl : ∀ a i σ' H', i ≤ xs.length → Pv a i σ' H' → SqT K H' a xs)
    (hs : ∀ a i x σ' H', xs[i]? = some x → Pv a i σ' H' → tu { D with nx := Pv a (i + 1), ct := Pv a (i + 1), bk := tz D } (σ'.set j (some x)) H') (hd : ∀ a σ' H', Pv a xs.length σ' H' → tz D σ' H') : tSeq (tFor (iTup K tl) (gName j) tu) tz D σ H :=
  s_forTR (D := { D with nx := tz D }) h Pv h0 hl hs hd
theorem ert_tup {vs : List V} (h : EvA ta σ H vs) (hl : vs.length ≤ 100000) : EvR (tTup ta) σ H (fun v H1 => ∃ a, v = .ref a ∧ SqT K H1 a vs) := (eur (eu_tup h hl)).imp fun _ _ _ ⟨p, e, _, hp⟩ => ⟨p, e, st_of hp⟩
theorem rv_pow {i j : Int} (h : CPow i j) : RV (rI CPow fun i j => .int (i ^ j.toNat)) (.int i) (.int j) H (.int (i ^ j.toNat)) := rv_I h
theorem atI_ints {l : List Int} {i : Nat} (h : i < l.length) : atI (l.map V.int) (i : Int) = some (.int (l.getD i 0)) := by
  refine atI_nat ?_
  rw [List.getElem?_map, List.getD_eq_getElem?_getD, List.getElem?_eq_getElem h]
  rfl
theorem getD_mem {l : List Int} {i : Nat} (h : i < l.length) : l.getD i 0 ∈ l := by
  rw [List.getD_eq_getElem?_getD, List.getElem?_eq_getElem h]
  exact List.getElem_mem h
end
end Wl
namespace Wl
open PySem PySem.Spec PyProof.Rows L2 Evl
/-! ### lists: made, cut, joined, walked, compared -/
abbrev NewL (xs : List V) (H : Hp) : V → Hp → Prop := fun v H2 => ∃ p, v = .ref p ∧ H p = none ∧ H2 p = some (.lst xs)
abbrev LstAt (xs : List V) : V → Hp → Prop := fun v H2 => ∃ p, v = .ref p ∧ H2 p = some (.lst xs)
theorem LstAt.up {xs : List V} {v : V} {H H' : Hp} (e : Ex H H') (h : LstAt xs v H) : LstAt xs v H' := by
  obtain ⟨p, r, h⟩ := h
  exact ⟨p, r, e _ _ h⟩
abbrev iv (ns : List Int) : List V := ns.map V.int
section
variable {K : PySem.W.Frag} {σ : L2.St} {H H' : Hp} {ta tb tc te tl : TE} {x y z v : V} {D : Ends} {tu tz : TS} {g : TG}
theorem er_new {ta : TA} {xs : List V} (h : EvA ta σ H xs) (hl : xs.length ≤ 100000) : EvR (tLst ta) σ H (NewL xs H) := elr (el_lst h hl)
theorem er_cat {xs ys : List V} (ha : EvR ta σ H (LstAt xs)) (hb : EvR tb σ H (LstAt ys)) (hl : xs.length + ys.length ≤ 100000) : EvR (tOp rCat ta tb) σ H (NewL (xs ++ ys) H) := fun H1 e Q q =>
  ha H1 e _ fun x H2 e2 ⟨p, hx, hp⟩ => hb H2 (e.trans e2) _ fun y H3 e3 ⟨r, hy, hr⟩ => ⟨p, r, xs, ys, hx, hy, e3 _ _ hp, hr, sz_of hl, fun l hn => q _ _ ((e2.trans e3).trans (Ex.new hn)) ⟨l, rfl, fresh_back ((e.trans e2).trans e3) hn, upd_same⟩⟩
theorem er_rev {xs : List V} {a : Addr} (h : Ev ta σ H (.ref a)) (hx : SqL K H a xs) : EvR (tRevL K ta) σ H (NewL xs.reverse H) := fun H1 e Q q =>
  h H1 e _ fun H2 e2 => ⟨a, xs, rfl, ex_l (e.trans e2) hx, fun l hn => q _ _ (e2.trans (Ex.new hn)) ⟨l, rfl, fresh_back (e.trans e2) hn, upd_same⟩⟩
theorem er_sl {xs : List V} {a : Addr} {t1 t2 : TO} {lo hi : Option Int} (h : Ev ta σ H (.ref a)) (h1 : EvO t1 σ H lo) (h2 : EvO t2 σ H hi) (hx : SqL K H a xs) : EvR (tSl (rSlL K) ta t1 t2) σ H (NewL (cutV xs lo hi) H) := elr (el_sl h h1 h2 hx)
theorem er_list {a : Addr} {xs : List V} (h : Ev te σ H (.ref a)) (hx : SqL K H a xs) : EvR (tCB (rListQ K) (tCons te tNil)) σ H (NewL xs H) := er_listL h hx
theorem cut_from1 (xs : List V) : cutV xs (some 1) none = xs.drop 1 := by
  unfold cutV
  rw [show HT.sIx xs.length 0 (some 1) = min 1 xs.length from HT.sIx_nat xs.length 0 1, HT.sIx_none]
  cases xs with
  | nil => rfl
  | cons x r =>
    rw [show min 1 (x :: r).length = 1 by
      rw [List.length_cons]
      omega]
    show (List.take ((x :: r).length - 1) r) = r
    rw [List.length_cons, Nat.add_sub_cancel]
    exact List.take_length
/-- [F n for n in ns] -/
theorem range_items {α β : Type} (f : α → β) (d : α) (l : List α) : (List.range l.length).map (fun j => f (l.getD j d)) = l.map f := by
  apply List.ext_getElem?
  intro i
  by_cases h : i < l.length
  · have e : l.getD i d = l[i] := by rw [List.getD_eq_getElem?_getD, List.getElem?_eq_getElem h]; rfl
    rw [List.getElem?_map, List.getElem?_range h, List.getElem?_map, List.getElem?_eq_getElem h]
    show some (f (l.getD i d)) = some (f l[i])
    rw [e]
  · rw [List.getElem?_eq_none (by simpa using h), List.getElem?_eq_none (by simpa using h)]
theorem LcR.new {n : Nat} {f : Nat → V} {v : V} {H1 : Hp} (h : LcR n (fun j y _ => y = f j) H v H1) : NewL ((List.range n).map f) H v H1 := by
  obtain ⟨D, ys, rfl, h2, h3, h4, h5⟩ := h
  rw [lc_is h4 h5] at h3
  exact ⟨D, rfl, h2, h3⟩
theorem er_lcI {a : Addr} {ns : List Int} {vs : List Nat} {j : Nat} (F : Int → V) (h : Ev tl σ H (.ref a)) (hx : SqL K H a (iv ns)) (hz : ns.length ≤ 40000) (hw : ∀ x, wipe ((wipe σ vs).set j (some x)) vs = wipe σ vs)
    (hg : ∀ n, n ∈ ns → Ev te ((wipe σ vs).set j (some (.int n))) H (F n)) : EvR (tLc (iList K tl) (gName j) tYes te vs) σ H (NewL (ns.map F) H) :=
  (er_lcLn (fun i y _ => y = F (ns.getD i 0)) stb_val h hx (by rw [List.length_map]; exact hz) hw fun i x hi => by
    rw [List.getElem?_map] at hi
    cases e : ns[i]? with
    | none => rw [e] at hi; cases hi
    | some n =>
      rw [e] at hi
      cases hi
      have hd : ns.getD i 0 = n := by rw [List.getD_eq_getElem?_getD, e]; rfl
      rw [hd]
      exact evr (hg n (List.mem_of_getElem? e))).imp fun v H2 _ p => by
    have q := LcR.new p
    rw [List.length_map, range_items F 0 ns] at q
    exact q
/-- [F k for k in range(n)] -/
theorem er_lcRI {ta : TA} {n : Nat} {vs : List Nat} {j : Nat} (F : Nat → V) (h : EvA ta σ H [.int (n : Int)]) (hz : n ≤ 40000) (hw : ∀ x, wipe ((wipe σ vs).set j (some x)) vs = wipe σ vs)
    (hg : ∀ i, i < n → Ev te ((wipe σ vs).set j (some (.int (i : Int)))) H (F i)) : EvR (tLc (iRng1 ta) (gName j) tYes te vs) σ H (NewL ((List.range n).map F) H) :=
  (er_lcR (fun i y _ => y = F i) stb_val h hz hw fun i hi => evr (hg i hi)).imp fun v H2 _ p => LcR.new p
/-- [.. for x, y in zip(xs, ys)] -/
theorem er_lcZ {ta : TA} {a b : Addr} {xs ys : List V} {vs : List Nat} {j l : Nat} (F : Nat → V) (h : EvA ta σ H [.ref a, .ref b]) (hx : SqL K H a xs) (hy : SqL K H b ys) (hxy : xs.length = ys.length) (hz : xs.length ≤ 40000) (hw : ∀ x y, wipe (((wipe σ vs).set j (some x)).set l (some y)) vs = wipe σ vs)
    (hg : ∀ i x y, xs[i]? = some x → ys[i]? = some y → Ev te (((wipe σ vs).set j (some x)).set l (some y)) H (F i)) :
    EvR (tLc (iZip K ta) (gTup K 2 (gCons (gName j) (gCons (gName l) gNil))) tYes te vs) σ H (NewL ((List.range xs.length).map F) H) := fun H0 e Q q => h H0 e _ fun H1 e1 => ⟨a, b, xs, ys, rfl, ex_l (e.trans e1) hx, ex_l (e.trans e1) hy, fun Dl hD => by
  refine ⟨fun i m H' => m = xs.length - i ∧ i ≤ xs.length ∧ Lw H1 (fun i y _ => y = F i) Dl i H', ⟨_, rfl, Nat.zero_le _, hD, Ex.new hD, [], upd_same, rfl, fun j y hy => by simp at hy⟩, ?_⟩
  rintro i m H' ⟨rfl, hi, p⟩
  have qx := ex_l ((e.trans e1).trans p.2.1) hx
  have qy := ex_l ((e.trans e1).trans p.2.1) hy
  by_cases hlt : i < xs.length
  · have hlt2 : i < ys.length := by omega
    have ex : xs[i]? = some xs[i] := List.getElem?_eq_getElem hlt
    have ey : ys[i]? = some ys[i] := List.getElem?_eq_getElem hlt2
    refine .inr ⟨⟨xs, ys, _, _, qx, qy, ex, ey⟩, Lw H1 (fun i y _ => y = F i) Dl (i + 1), fun H2 p2 => ⟨xs.length - (i + 1), by omega, rfl, hlt, p2⟩, fun v H2 hyld => ?_⟩
    obtain ⟨T, x', y', rfl, hT, rfl, f1, f2⟩ := hyld
    have e1' : x' = xs[i] := Option.some.inj ((f1 _ qx).symm.trans ex)
    have e2' : y' = ys[i] := Option.some.inj ((f2 _ qy).symm.trans ey)
    subst e1' e2'
    refine g_tup2 (st_of upd_same) ⟨hw _ _, ?_⟩
    have p' : Lw H1 (fun i y _ => y = F i) Dl i (upd H' T (.tup [xs[i], ys[i]])) := by
      obtain ⟨p1, p2, zs, p3, p4, p5⟩ := p
      exact ⟨p1, p2.trans (Ex.new hT), zs, by rw [upd_ne (ne_of_none p3 hT)]; exact p3, p4, p5⟩
    exact lw_turn p' (by omega) stb_val ((evr (hg i _ _ ex ey)).mono (e.trans e1))
  · have ei : i = xs.length := by omega
    subst ei
    obtain ⟨p1, p2, zs, p3, p4, p5⟩ := p
    rw [lc_is p4 p5] at p3
    exact .inl ⟨⟨xs, ys, qx, qy, .inl (Nat.le_refl _)⟩, q _ H' (e1.trans p2) ⟨Dl, rfl, fresh_back (e.trans e1) p1, p3⟩⟩⟩
theorem ev_sumN {ns : List Int} {H0 : Hp} (h : EvR te σ H (NewL (iv ns) H0)) : Ev (tCB (rSum K) (tCons te tNil)) σ H (.int ns.sum) := ev_sumR h fun v H1 _ ⟨p, e, _, hp⟩ => ⟨p, e, sq_of hp⟩
theorem ev_allN {bs : List Bool} {H0 : Hp} (h : EvR te σ H (NewL (bs.map V.bl) H0)) : Ev (tCB (rAll K) (tCons te tNil)) σ H (.bl (bs.all id)) := ev_allR h fun v H1 _ ⟨p, e, _, hp⟩ => ⟨p, e, sq_of hp⟩
theorem ev_anyN {bs : List Bool} {H0 : Hp} (h : EvR te σ H (NewL (bs.map V.bl) H0)) : Ev (tCB (rAny K) (tCons te tNil)) σ H (.bl (bs.any id)) := ev_anyR h fun v H1 _ ⟨p, e, _, hp⟩ => ⟨p, e, sq_of hp⟩
/-- for x in (a, b, ..) of anything -/
theorem s_forTU {j : Nat} {R : V → Hp → Prop} (h : EvR tl σ H R) (k : ∀ v H1, Ex H H1 → R v H1 → ∃ a xs, v = .ref a ∧ SqT K H1 a xs ∧ ∃ Pv : Nat → L2.St → Hp → Prop, Pv 0 σ H1 ∧ (∀ i σ' H', i ≤ xs.length → Pv i σ' H' → SqT K H' a xs) ∧
    (∀ i x σ' H', xs[i]? = some x → Pv i σ' H' → tu { D with nx := Pv (i + 1), ct := Pv (i + 1), bk := D.nx } (σ'.set j (some x)) H') ∧ (∀ σ' H', Pv xs.length σ' H' → D.nx σ' H')) : tFor (iTup K tl) (gName j) tu D σ H :=
  h H (Ex.refl H) _ fun v H1 e p => by
    obtain ⟨a, xs, hv, hx, Pv, h0, hl, hs, hd⟩ := k v H1 e p
    exact ⟨a, hv, ⟨xs, hx⟩, for_tup Pv h0 hl hs hd⟩
theorem q_forTU {j : Nat} {R : V → Hp → Prop} (h : EvR tl σ H R) (k : ∀ v H1, Ex H H1 → R v H1 → ∃ a xs, v = .ref a ∧ SqT K H1 a xs ∧ ∃ Pv : Nat → L2.St → Hp → Prop, Pv 0 σ H1 ∧ (∀ i σ' H', i ≤ xs.length → Pv i σ' H' → SqT K H' a xs) ∧
    (∀ i x σ' H', xs[i]? = some x → Pv i σ' H' → tu { D with nx := Pv (i + 1), ct := Pv (i + 1), bk := tz D } (σ'.set j (some x)) H') ∧ (∀ σ' H', Pv xs.length σ' H' → tz D σ' H')) : tSeq (tFor (iTup K tl) (gName j) tu) tz D σ H :=
  s_forTU (D := { D with nx := tz D }) h k
/-! equality of data -/
mutual
theorem dp_up (e : Ex H H') : ∀ (d : PyData) (v : V), Dp K H v d → Dp K H' v d
  | .none, _, h => by cases h; exact .non
  | .bool b, _, h => by cases h; exact .bl b
  | .int i, _, h => by cases h; exact .int i
  | .str x, _, h => by cases h; exact .str x
  | .list ds, _, h => by
    cases h with
    | lst hs ha => exact .lst (ex_l e hs) (dpa_up e ds _ ha)
  | .tuple ds, _, h => by
    cases h with
    | tup hs ha => exact .tup (ex_t e hs) (dpa_up e ds _ ha)
  | .dict _, _, h => by cases h
theorem dpa_up (e : Ex H H') : ∀ (ds : List PyData) (vs : List V), DpAll K H vs ds → DpAll K H' vs ds
  | [], _, h => by cases h; exact .nil
  | d :: ds, _, h => by
    cases h with
    | cons h1 h2 => exact .cons (dp_up e d _ h1) (dpa_up e ds _ h2)
end
def dInts (ns : List Int) : PyData := .list (ns.map .int)
theorem dpa_ints : ∀ ns : List Int, DpAll K H (iv ns) (ns.map .int)
  | [] => .nil
  | n :: r => .cons (.int n) (dpa_ints r)
theorem dp_ints {a : Addr} {ns : List Int} (h : SqL K H a (iv ns)) : Dp K H (.ref a) (dInts ns) := .lst h (dpa_ints ns)
theorem sh_all : ∀ ds : List PyData, (∀ d ∈ ds, d.canLay0 = true) → PyData.canLayAll0 ds = true
  | [], _ => rfl
  | d :: ds, h => by
    show (d.canLay0 && PyData.canLayAll0 ds) = true
    rw [h d List.mem_cons_self, sh_all ds fun x hx => h x (List.mem_cons_of_mem _ hx)]
    rfl
theorem sh_dep {n : Nat} : ∀ ds : List PyData, (∀ d ∈ ds, PyData.depth d ≤ n) → PyData.depthAll ds ≤ n
  | [], _ => Nat.zero_le _
  | d :: ds, h => by
    show max (PyData.depth d) (PyData.depthAll ds) ≤ n
    have h1 := h d List.mem_cons_self
    have h2 := sh_dep ds fun x hx => h x (List.mem_cons_of_mem _ hx)
    omega
theorem sh_ints (ns : List Int) : SeqAt.shaped (dInts ns) = true := by
  unfold SeqAt.shaped dInts
  rw [Bool.and_eq_true, decide_eq_true_eq]
  refine ⟨sh_all _ fun d hd => ?_, ?_⟩
  · obtain ⟨i, _, rfl⟩ := List.mem_map.mp hd
    rfl
  · have := sh_dep (n := 1) (ns.map .int) fun d hd => by
      obtain ⟨i, _, rfl⟩ := List.mem_map.mp hd
      show PyData.depth (.int i) ≤ 1
      simp [PyData.depth]
    show PyData.depthAll (ns.map .int) + 1 ≤ 64
    omega
theorem can_of {d : PyData} (h : SeqAt.shaped d = true) : d.canLay0 = true := (Bool.and_eq_true_iff.mp h).1
theorem rv_neD {d e : PyData} {b : Bool} (hd : Dp K H x d) (he : Dp K H y e) (sd : SeqAt.shaped d = true) (se : SeqAt.shaped e = true) (hb : (!PyData.eqv d e) = b) : RV (rNeD K) x y H (.bl b) := fun H1 e1 Q q => ⟨d, e, dp_up e1 _ _ hd, dp_up e1 _ _ he, sd, se, by rw [hb]; exact q H1 (Ex.refl _)⟩
theorem rv_eqD {d e : PyData} {b : Bool} (hd : Dp K H x d) (he : Dp K H y e) (sd : SeqAt.shaped d = true) (se : SeqAt.shaped e = true) (hb : PyData.eqv d e = b) : RV (rEqD K) x y H (.bl b) := fun H1 e1 Q q => ⟨d, e, dp_up e1 _ _ hd, dp_up e1 _ _ he, sd, se, by rw [hb]; exact q H1 (Ex.refl _)⟩
theorem rv_neSame {d : PyData} (hd : Dp K H x d) (he : Dp K H y d) (sd : SeqAt.shaped d = true) : RV (rNeD K) x y H (.bl false) := rv_neD hd he sd sd (by rw [SeqAt.eqv_refl d (can_of sd)]; rfl)
theorem rv_eqSame {d : PyData} (hd : Dp K H x d) (he : Dp K H y d) (sd : SeqAt.shaped d = true) : RV (rEqD K) x y H (.bl true) := rv_eqD hd he sd sd (SeqAt.eqv_refl d (can_of sd))
end
section
variable {X : Cx} (K : PySem.W.Frag)
theorem pe_revLK {e : Expr} {te : TE} {k : Nat} {p1 p2 p3 pos : Pos} (he : PE X e te) (h : X.K = K := by rfl) : PE X (.Subscript e (.Slice none none (some (.UnaryOp .USub (.Constant (.int 1) k p1) p2)) p3) pos) (tRevL K te) := by subst h; exact pe_revL he
theorem sl_listK (h : X.K = K := by rfl) : SlR X (rSlL K) := by subst h; exact sl_list
theorem pi_zipK {e e2 : Expr} {ta : TA} {p pos tpos : Pos} {elts : List Expr} {kk : Nat} (hg : Gl X "zip") (hm : X.mg "zip" = none) (ha : PA X [e, e2] ta) (h : X.K = K := by rfl)
    (hs : starEach [e, e2] X.env = (false, eval e X.env) :: starEach [e2] X.env := by rfl) (hpl : (backTo pos (starEach [e2] X.env)).any (·.1) = false := by rfl) :
    PI X (.Tuple elts kk tpos) (.Call (.Name "zip" p) [e, e2] [] pos) (iZip K ta) := by subst h; exact pi_zip hg hm ha hs hpl
end
end Wl
namespace Wl
open PySem PySem.Spec PyProof.Rows L2 Evl
section
variable {K : PySem.W.Frag} {σ : L2.St} {H H' : Hp} {ta tb tc te tl : TE} {t : TT} {x y z v : V} {D : Ends} {tu tw tz : TS} {g : TG}
/-- a, b = x, y, told by facts -/
theorem q_parR {i j : Nat} {ta : TA} {R : List V → Hp → Prop} (h : EvAR ta σ H R) (hv : ∀ vs H1, R vs H1 → ∃ v w, vs = [v, w]) (k : ∀ v w H1, Ex H H1 → R [v, w] H1 → tz D ((σ.set i (some v)).set j (some w)) H1) : tSeq (tPar i j ta) tz D σ H :=
  h H (Ex.refl H) _ fun vs H1 e p => by
    obtain ⟨v, w, rfl⟩ := hv vs H1 p
    exact ⟨v, w, rfl, k v w H1 e p⟩
/-- a test of which nothing is known -/
def EvQ (t : TT) (σ : L2.St) (H : Hp) : Prop := ∀ H1, Ex H H1 → ∀ Q : Bool → Hp → Prop, (∀ b H2, Ex H1 H2 → Q b H2) → t σ H1 Q
theorem er_test {r : R2} {R : V → Hp → Prop} (ha : EvR ta σ H R) (hb : Ev tb σ H y) (hr : ∀ x H1, Ex H H1 → R x H1 → ∀ Q : VK, (∀ b, Q (.bl b) H1) → r x y H1 Q) (hR : ∀ x H1 H2, Ex H1 H2 → R x H1 → R x H2 := by intros; assumption) : EvQ (tTest (tOp r ta tb)) σ H := fun H1 e Q q =>
  ha H1 e _ fun x H2 e2 p => hb H2 (e.trans e2) _ fun H3 e3 => hr x H3 ((e.trans e2).trans e3) (hR x H2 H3 e3 p) _ fun b => ⟨b, rfl, q b H3 (e2.trans e3)⟩
theorem q_if_R (h : EvQ t σ H) (h1 : ∀ H1, Ex H H1 → tu { D with nx := tz D } σ H1) (h2 : ∀ H1, Ex H H1 → tw { D with nx := tz D } σ H1) : tSeq (tIfS t tu tw) tz D σ H := h H (Ex.refl H) _ fun b H1 e => by
  cases b with
  | true => exact h1 H1 e
  | false => exact h2 H1 e
end
end Wl
namespace Wl
open PySem PySem.Spec PyProof.Rows L2 Evl
section
variable {X : Cx} (K : PySem.W.Frag)
theorem inK (h : X.K = K := by rfl) : OpR X (compareOp .In) (rIn K false) := by subst h; exact op_in_seq
theorem notinK (h : X.K = K := by rfl) : OpR X (compareOp .NotIn) (rIn K true) := by subst h; exact op_notIn_seq
end
end Wl
namespace Wl
open PySem
theorem iv_append (a b : List Int) : iv (a ++ b) = iv a ++ iv b := List.map_append
theorem iv_map {α : Type} (f : α → Int) (l : List α) : iv (l.map f) = l.map (fun n => L2.V.int (f n)) := List.map_map
theorem iv_len (l : List Int) : (iv l).length = l.length := List.length_map ..
end Wl
namespace Wl
open PySem PySem.Spec PyProof.Rows L2 Evl
section
variable {K : PySem.W.Frag} {σ : L2.St} {H H' : Hp} {ta tb tc te tl : TE} {t : TT} {x y z v : V} {D : Ends} {tu tw tz : TS} {g : TG}
/-- a call whose one argument is told by facts -/
theorem er_call1 {α : Type} {Pre : α → List V → Hp → Prop} {Post : α → Hp → V → Hp → Prop} {E : XK} {R S : V → Hp → Prop} (h : EvR te σ H R) (hd : ∀ x H1, Ex H H1 → R x H1 → ∃ d, Pre d [x] H1 ∧ ∀ v H2, Ex H1 H2 → Post d H1 v H2 → S v H2) : EvR (tCall (spX Pre Post) [] E (tCons te tNil)) σ H S := fun H1 e Q q =>
  h H1 e _ fun x H2 e2 p => by
    obtain ⟨d, h1, h2⟩ := hd x H2 (e.trans e2) p
    exact ⟨d, h1, fun v H3 e3 p3 => q v H3 (e2.trans e3) (h2 v H3 e3 p3)⟩
theorem ev_call1 {α : Type} {Pre : α → List V → Hp → Prop} {Post : α → Hp → V → Hp → Prop} {E : XK} {R : V → Hp → Prop} (h : EvR te σ H R) (hd : ∀ x H1, Ex H H1 → R x H1 → ∃ d, Pre d [x] H1 ∧ ∀ v H2, Ex H1 H2 → Post d H1 v H2 → v = z) : Ev (tCall (spX Pre Post) [] E (tCons te tNil)) σ H z :=
  (er_call1 (S := fun v _ => v = z) h hd).ev fun _ _ _ p => p
/-- an object's list, grown: told at a word of one's own -/
theorem q_appF {l : Addr} {xs : List V} (hl : H l = some (.lst xs)) (ha : Ev ta σ H (.ref l)) (h : Ev te σ H v) (hz : xs.length < 100000) (k : ∀ H1, Ex H H1 → tz D σ (upd H1 l (.lst (xs ++ [v])))) :
    tSeq (tDrop (tBM K "list" rAppend ta (tCons te tNil))) tz D σ H := q_app hl ha h hz k
theorem iv_get {ns : List Int} {i : Nat} {x : V} (h : (iv ns)[i]? = some x) : i < ns.length ∧ x = .int (ns.getD i 0) := by
  rw [List.getElem?_map] at h
  cases e : ns[i]? with
  | none => rw [e] at h; cases h
  | some n =>
    rw [e] at h
    refine ⟨(List.getElem?_eq_some_iff.mp e).1, ?_⟩
    rw [List.getD_eq_getElem?_getD, e]
    exact (Option.some.inj h).symm
end
end Wl
namespace Wl
open PySem
theorem iv_reverse (l : List Int) : (iv l).reverse = iv l.reverse := List.map_reverse.symm
theorem iv_drop (n : Nat) (l : List Int) : (iv l).drop n = iv (l.drop n) := List.map_drop.symm
theorem iv_take (n : Nat) (l : List Int) : (iv l).take n = iv (l.take n) := List.map_take.symm
end Wl
namespace Wl
open PySem PySem.Spec PyProof.Rows L2 Evl
/-- one of two readings -/
def tAlt (t u : TE) : TE := fun σ H Q => t σ H Q ∨ u σ H Q
theorem pe_alt {X : Cx} {e : Expr} {t u : TE} (h1 : PE X e t) (h2 : PE X e u) : PE X e (tAlt t u) := ⟨fun pins s σ H Q I h => h.elim (h1.run pins s σ H Q I) (h2.run pins s σ H Q I)⟩
section
variable {K : PySem.W.Frag} {σ : L2.St} {H H' : Hp} {ta tb tc te tl : TE} {t : TT} {x y z v : V} {D : Ends} {tu tw tz : TS} {g : TG} {R : V → Hp → Prop}
theorem ev_altL (h : Ev ta σ H v) : Ev (tAlt ta tb) σ H v := fun H1 e Q q => .inl (h H1 e Q q)
theorem ev_altR (h : Ev tb σ H v) : Ev (tAlt ta tb) σ H v := fun H1 e Q q => .inr (h H1 e Q q)
theorem er_if {b : Bool} (h : EvT t σ H b) (h1 : b = true → EvR ta σ H R) (h2 : b = false → EvR tb σ H R) : EvR (tIf t ta tb) σ H R := fun H1 e Q q => h H1 e _ fun H2 e2 => by
  cases b with
  | true => exact h1 rfl H2 (e.trans e2) Q fun v H3 e3 p => q v H3 (e2.trans e3) p
  | false => exact h2 rfl H2 (e.trans e2) Q fun v H3 e3 p => q v H3 (e2.trans e3) p
/-- for x in a new list -/
theorem s_forLU {j : Nat} (h : EvR tl σ H R) (k : ∀ v H1, Ex H H1 → R v H1 → ∃ a xs, v = .ref a ∧ SqL K H1 a xs ∧ ∃ Pv : Nat → L2.St → Hp → Prop, Pv 0 σ H1 ∧ (∀ i σ' H', i ≤ xs.length → Pv i σ' H' → SqL K H' a xs) ∧
    (∀ i x σ' H', xs[i]? = some x → Pv i σ' H' → tu { D with nx := Pv (i + 1), ct := Pv (i + 1), bk := D.nx } (σ'.set j (some x)) H') ∧ (∀ σ' H', Pv xs.length σ' H' → D.nx σ' H')) : tFor (iList K tl) (gName j) tu D σ H :=
  h H (Ex.refl H) _ fun v H1 e p => by
    obtain ⟨a, xs, hv, hx, Pv, h0, hl, hs, hd⟩ := k v H1 e p
    exact ⟨a, hv, ⟨xs, hx⟩, for_list Pv h0 hl hs hd⟩
theorem q_forLU {j : Nat} (h : EvR tl σ H R) (k : ∀ v H1, Ex H H1 → R v H1 → ∃ a xs, v = .ref a ∧ SqL K H1 a xs ∧ ∃ Pv : Nat → L2.St → Hp → Prop, Pv 0 σ H1 ∧ (∀ i σ' H', i ≤ xs.length → Pv i σ' H' → SqL K H' a xs) ∧
    (∀ i x σ' H', xs[i]? = some x → Pv i σ' H' → tu { D with nx := Pv (i + 1), ct := Pv (i + 1), bk := tz D } (σ'.set j (some x)) H') ∧ (∀ σ' H', Pv xs.length σ' H' → tz D σ' H')) : tSeq (tFor (iList K tl) (gName j) tu) tz D σ H :=
  s_forLU (D := { D with nx := tz D }) h k
end
/-! xs[lo:hi:st] of a list, all three parts told -/
def pickV {α : Type} (xs : List α) (lo hi st : Option Int) : List α := (sliceRange (sliceBounds lo hi st xs.length).1 (sliceBounds lo hi st xs.length).2.1 (sliceBounds lo hi st xs.length).2.2).filterMap (xs[·]?)
theorem pickV_map {α β : Type} (f : α → β) (xs : List α) (lo hi st : Option Int) : pickV (xs.map f) lo hi st = (pickV xs lo hi st).map f := by
  unfold pickV
  rw [List.length_map, List.map_filterMap]
  exact congrArg (fun g => List.filterMap g _) (funext fun i => List.getElem?_map)
theorem vals_fm {xs : List V} {its : List Value} (r : Vals xs its) : ∀ l : List Nat, Vals (l.filterMap (xs[·]?)) (l.filterMap (its[·]?))
  | [] => .nil
  | i :: l => by
    have ih := vals_fm r l
    cases e : xs[i]? with
    | none =>
      rw [List.filterMap_cons_none (by exact e), List.filterMap_cons_none (by exact r.none_of e)]
      exact ih
    | some x =>
      obtain ⟨u, h1, h2⟩ := r.get e
      rw [List.filterMap_cons_some (by exact e), List.filterMap_cons_some (by exact h1)]
      exact .cons h2 ih
theorem vals_pick {xs : List V} {its : List Value} (r : Vals xs its) (lo hi st : Option Int) : Vals (pickV xs lo hi st) (slicePick its.toArray lo hi st).toList := by
  have z := vals_fm r (sliceRange (sliceBounds lo hi st xs.length).1 (sliceBounds lo hi st xs.length).2.1 (sliceBounds lo hi st xs.length).2.2)
  rw [r.length] at z
  simpa only [pickV, slicePick, r.length, List.size_toArray, List.getElem?_toArray] using z
/-- the reading: the list, then the parts in their order -/
def tSl3 (K : PySem.W.Frag) (te : TE) (t1 t2 t3 : TO) : TE := fun σ H Q => te σ H fun x H1 => t1 σ H1 fun lo H2 => t2 σ H2 fun hi H3 => t3 σ H3 fun st H4 =>
  ∃ a xs, x = .ref a ∧ SqL K H4 a xs ∧ st ≠ some 0 ∧ ∀ p, H4 p = none → Q (.ref p) (upd H4 p (.lst (pickV xs lo hi st)))
theorem pe_sl3 {X : Cx} (K : PySem.W.Frag) {e : Expr} {e1 e2 e3 : Option Expr} {te : TE} {t1 t2 t3 : TO} {p3 pos : Pos} (he : PE X e te) (h1 : PO X e1 t1) (h2 : PO X e2 t2) (h3 : PO X e3 t3) (hK : X.K = K := by rfl)
    (plain : ∀ u v, subscripted (.Slice e1 e2 e3 p3) false u v = operate [u, v] (getItem u v) := by intro u v; with_unfolding_all rfl) : PE X (.Subscript e (.Slice e1 e2 e3 p3) pos) (tSl3 K te t1 t2 t3) := by
  subst hK
  constructor
  intro pins s σ H Q I h
  refine Subscript_ (thn (he.run pins s σ H _ I h) ?_)
  rintro v s1 ⟨x, H1, I1, rx, h⟩
  refine wpAny_Slice (thn (h1.run pins s1 σ H1 _ I1 h) ?_)
  rintro vl s2 ⟨lo, H2, I2, pl, h⟩
  refine thn (h2.run pins s2 σ H2 _ I2 h) ?_
  rintro vu s3 ⟨hi, H3, I3, pu, h⟩
  refine thn (h3.run pins s3 σ H3 _ I3 h) ?_
  rintro vs s4 ⟨st, H4, I4, ps, a, xs, rfl, list, nz, q⟩
  cases rx
  have J : Inv X pins σ H4 { s4 with heap := s4.heap.push { cls := .type "slice", data := .fields #[vl, vu, vs] } } := I4.kept (t' := s4.toks) fun b o z => Heap.get?_push_of_some _ z
  rcases J.list list with ⟨its, vals, cells, small⟩
  have picked := vals_pick vals lo hi st
  have fits : (pickV xs lo hi st).length ≤ xs.length := by
    rw [picked.length, Array.length_toList, vals.length]
    exact slicePick_size_le its.toArray lo hi st
  refine tail_any cells.isList.typeIs PySem.slot_list_getitem.lookup (wpAny_getItem_list_slice cells.isList (Heap.IsSliceOf.new _ vl vu vs) pl pu ps nz ?_ (by rw [List.size_toArray, ← vals.length]; exact small)) (plain _ _)
  exact ⟨.ref _, _, J.laid (t' := s4.toks) (o := .lst (pickV xs lo hi st)) (fun b o z => Heap.get?_push_of_some _ z) (Nat.le_refl _) ⟨Nat.le_trans fits small, _, 0, picked, Heap.get?_push_size _ rfl⟩, rfl, q _ (J.hok.fresh (Nat.le_refl _))⟩
def stepP {α : Type} (xs : List α) : List α := pickV xs none none (some 2)
theorem stepP_iv (ns : List Int) : stepP (iv ns) = iv (stepP ns) := pickV_map V.int ns _ _ _
def tStepL (K : PySem.W.Frag) (te : TE) : TE := tSl3 K te tNoPart tNoPart (tPart (tC (.int 2)))
theorem pe_stepLK {X : Cx} (K : PySem.W.Frag) {e : Expr} {te : TE} {k : Nat} {p1 p3 pos : Pos} (he : PE X e te) (hK : X.K = K := by rfl) : PE X (.Subscript e (.Slice none none (some (.Constant (.int 2) k p1)) p3) pos) (tStepL K te) := pe_sl3 K he po_none po_none (po_some pe_int) hK
theorem er_step {K : PySem.W.Frag} {σ : L2.St} {H : Hp} {ta : TE} {xs : List V} {a : Addr} (h : Ev ta σ H (.ref a)) (hx : SqL K H a xs) : EvR (tStepL K ta) σ H (NewL (stepP xs) H) := fun H1 e Q q =>
  h H1 e _ fun H2 e2 => ⟨2, rfl, a, xs, rfl, ex_l (e.trans e2) hx, by decide, fun l hn => q _ _ (e2.trans (Ex.new hn)) ⟨l, rfl, fresh_back (e.trans e2) hn, upd_same⟩⟩
end Wl
namespace Wl
open PySem L2
theorem cut_last (xs : List V) : cutV xs none (some (-1)) = xs.dropLast := by
  unfold cutV
  rw [HT.sIx_none, List.drop_zero]
  rw [show HT.sIx xs.length xs.length (some (-1)) = ((-1 : Int) + (xs.length : Int)).toNat from rfl, List.dropLast_eq_take]
  congr 1
  omega
theorem iv_dropLast (l : List Int) : (iv l).dropLast = iv l.dropLast := by
  rw [List.dropLast_eq_take, List.dropLast_eq_take, iv_len, iv_take]
end Wl
namespace Wl
open PySem PySem.Spec PyProof.Rows L2 Evl
/-- [F n for n in a new list] -/
theorem er_lcNI {K : PySem.W.Frag} {σ : L2.St} {H : Hp} {tl te : TE} {ns : List Int} {vs : List Nat} {j : Nat} {S : V → Hp → Prop} (F : Int → V) (h : EvR tl σ H S) (hS : ∀ v H1, Ex H H1 → S v H1 → ∃ a, v = .ref a ∧ SqL K H1 a (iv ns)) (hz : ns.length ≤ 40000) (hw : ∀ x, wipe ((wipe σ vs).set j (some x)) vs = wipe σ vs)
    (hg : ∀ H1, Ex H H1 → ∀ n, n ∈ ns → Ev te ((wipe σ vs).set j (some (.int n))) H1 (F n)) : EvR (tLc (iList K tl) (gName j) tYes te vs) σ H (NewL (ns.map F) H) :=
  (er_lcNL S (fun i y _ => y = F (ns.getD i 0)) stb_val h hS (by rw [iv_len]; exact hz) fun v H1 e hv i x hi => by
    obtain ⟨hi', rfl⟩ := iv_get hi
    exact ⟨_, hw _, evr (hg H1 e _ (getD_mem hi')), fun _ _ _ q => q⟩).imp fun v H2 _ p => by
    have q := LcR.new p
    rw [iv_len, range_items F 0 ns] at q
    exact q
end Wl
namespace Wl
open PySem PySem.Spec PyProof.Rows L2 Evl
section
variable {K : PySem.W.Frag} {σ : L2.St} {H H' : Hp} {ta te ti : TE} {D : Ends} {tz : TS} {R : V → Hp → Prop}
/-- xs.append of what is told by facts -/
theorem q_appR {l : Addr} {xs : List V} (hl : H l = some (.lst xs)) (ha : Ev ta σ H (.ref l)) (h : EvR te σ H R) (hz : xs.length < 100000) (k : ∀ v H1, Ex H H1 → R v H1 → tz D σ (upd H1 l (.lst (xs ++ [v])))) :
    tSeq (tDrop (tBM K "list" rAppend ta (tCons te tNil))) tz D σ H := ha H (Ex.refl H) _ fun H1 e1 =>
  ⟨Or.inl ⟨rfl, xs, sq_of (e1 l _ hl)⟩, h H1 e1 _ fun v H2 e2 p => ⟨l, xs, v, rfl, rfl, e2 l _ (e1 l _ hl), sz_lt hz, k v H2 (e1.trans e2) p⟩⟩
theorem ev_pickR {l : List Int} {ta : TA} {vs : List V} (h : EvA ta σ H vs) (hi : EvR ti σ H (fun v _ => ∃ i : Int, v = .int i ∧ 0 ≤ i ∧ i < l.length)) (hv : vs = l.map V.int) (hl : l.length ≤ 100000) : EvR (tOp (rIxT K) (tTup ta) ti) σ H (fun v _ => ∃ i : Int, 0 ≤ i ∧ i < l.length ∧ v = .int (l.getD i.toNat 0)) :=
  er_op (eur (eu_tup h (by rw [hv, List.length_map]; exact hl))) (fun x H1 e _ => hi.mono e) (fun x y H1 H2 e ⟨p, hx, _, hp⟩ e2 ⟨i, hy, h0, h1⟩ Q q => by
    subst hx hy
    rw [hv] at hp
    exact rv_ixT (st_of (e2 _ _ hp)) (atI_map h0 h1) H2 (Ex.refl _) Q fun H3 e3 => q _ H3 e3 ⟨i, h0, h1, rfl⟩)
end
end Wl
namespace Wl
open PySem PySem.Spec PyProof.Rows L2 Evl
/-! ### a < b < c < d: chains of any length, operand by operand -/
/-- what stands behind an operand whose value is x -/
def PCh (X : Cx) (ops : List CmpOp) (es : List Expr) (t : V → TE) : Prop :=
  ∀ pins s σ H x v Q pos, Inv X pins σ H s → RelV x v → t x σ H Q → wpAny (model X.prog X.w) X.A (compareChain pos v ops (evalEach es X.env)) (EP X pins σ Q) X.xe s
/-- .. where a test is asked for -/
def PTh (X : Cx) (ops : List CmpOp) (es : List Expr) (t : V → TE) : Prop :=
  ∀ pins s σ H x v Q pos, Inv X pins σ H s → RelV x v → tTest (t x) σ H Q → wpAny (model X.prog X.w) X.A (testChain pos v ops (evalEach es X.env)) (TP X pins σ Q) X.xe s
def tLast (r : R2) (tb : TE) (x : V) : TE := fun σ H Q => tb σ H fun y H1 => r x y H1 Q
def tMore (r : R2) (tb : TE) (t : V → TE) (x : V) : TE := fun σ H Q => tb σ H fun y H1 => r x y H1 fun z H2 => ∃ k, z = .bl k ∧ (if k = true then t y σ H2 Q else Q (.bl false) H2)
def tChain3 (r r' r2 : R2) (ta tb tc td : TE) : TE := fun σ H Q => ta σ H fun x H1 => tMore r tb (tMore r' tc (tLast r2 td)) x σ H1 Q
section
variable {X : Cx} {a b c d e' : Expr} {es : List Expr} {ta tb tc td : TE} {t : V → TE} {pos : Pos} {op op' op2 : CmpOp} {ops : List CmpOp} {r r' r2 : R2}
theorem pch_last (ho : OpR X (compareOp op) r) (hb : PE X b tb) : PCh X [op] [b] (tLast r tb) := fun pins s σ H x v Q _ I rx q => by
  refine chain_last (thn (hb.run pins s σ H _ I q) ?_)
  rintro u s1 ⟨y, H1, J, ry, q⟩
  exact ho pins s1 σ H1 x y v u Q J rx ry q
theorem pth_last (ho : OpR X (compareOp op) r) (hb : PE X b tb) : PTh X [op] [b] (tLast r tb) := fun pins s σ H x v Q _ I rx q => by
  refine test_last (thn (hb.run pins s σ H _ I q) ?_)
  rintro u s1 ⟨y, H1, J, ry, q⟩
  refine thn (ho pins s1 σ H1 x y v u _ J rx ry q) ?_
  rintro _ s2 ⟨z, H2, J2, rz, k, rfl, q⟩
  cases rz
  exact wpAny_truthy_bool ⟨H2, J2, q⟩
theorem pch_more (ho : OpR X (compareOp op) r) (hb : PE X b tb) (rest : PCh X (op' :: ops) (e' :: es) t) : PCh X (op :: op' :: ops) (b :: e' :: es) (tMore r tb t) := fun pins s σ H x v Q pos I rx q => by
  refine chain_link (thn (hb.run pins s σ H _ I q) ?_)
  rintro u s1 ⟨y, H1, J, ry, q⟩
  refine thn (ho pins s1 σ H1 x y v u _ J rx ry q) ?_
  rintro _ s2 ⟨z, H2, J2, rz, k, rfl, q⟩
  cases rz
  cases k with
  | false => exact wpAny_truthy_bool (ite_ff ⟨.bl false, H2, J2, rfl, q⟩)
  | true => exact wpAny_truthy_bool (ite_tt (rest pins s2 σ H2 y u Q pos J2 ry q))
theorem pth_more (ho : OpR X (compareOp op) r) (hb : PE X b tb) (rest : PTh X (op' :: ops) (e' :: es) t) : PTh X (op :: op' :: ops) (b :: e' :: es) (tMore r tb t) := fun pins s σ H x v Q pos I rx q => by
  refine test_link (thn (hb.run pins s σ H _ I q) ?_)
  rintro u s1 ⟨y, H1, J, ry, q⟩
  refine thn (ho pins s1 σ H1 x y v u _ J rx ry q) ?_
  rintro _ s2 ⟨z, H2, J2, rz, k, rfl, q⟩
  cases rz
  cases k with
  | false =>
    obtain ⟨_, same, q⟩ : ∃ k, V.bl false = .bl k ∧ Q k H2 := q
    cases same
    exact wpAny_truthy_bool (ite_ff ⟨H2, J2, q⟩)
  | true => exact wpAny_truthy_bool (ite_tt (rest pins s2 σ H2 y u Q pos J2 ry q))
theorem pe_chain3 (ho : OpR X (compareOp op) r) (ho' : OpR X (compareOp op') r') (ho2 : OpR X (compareOp op2) r2) (ha : PE X a ta) (hb : PE X b tb) (hc : PE X c tc) (hd : PE X d td)
    (hm : lastMarks [op, op', op2] [b, c, d] = false := by with_unfolding_all rfl) : PE X (.Compare a [op, op', op2] [b, c, d] pos) (tChain3 r r' r2 ta tb tc td) :=
  ⟨fun pins s σ H Q I h => Compare_chain (thn (ha.run pins s σ H _ I h) fun v s1 ⟨x, H1, J, rx, q⟩ => pch_more ho hb (pch_more ho' hc (pch_last ho2 hd)) pins s1 σ H1 x v Q _ J rx q) hm⟩
theorem pt_chain3 (ho : OpR X (compareOp op) r) (ho' : OpR X (compareOp op') r') (ho2 : OpR X (compareOp op2) r2) (ha : PE X a ta) (hb : PE X b tb) (hc : PE X c tc) (hd : PE X d td)
    (hm : lastMarks [op, op', op2] [b, c, d] = false := by with_unfolding_all rfl) : PT X (.Compare a [op, op', op2] [b, c, d] pos) (tTest (tChain3 r r' r2 ta tb tc td)) :=
  ⟨fun pins s σ H Q I h => isTrue_chain (thn (ha.run pins s σ H _ I h) fun v s1 ⟨x, H1, J, rx, q⟩ => pth_more ho hb (pth_more ho' hc (pth_last ho2 hd)) pins s1 σ H1 x v Q _ J rx q) hm⟩
end
theorem ev_chain3 {σ : L2.St} {H : Hp} {r r' r2 : R2} {ta tb tc td : TE} {x y z u : V} {a b c : Bool} (ha : Ev ta σ H x) (hb : Ev tb σ H y) (h1 : RV r x y H (.bl a)) (hc : a = true → Ev tc σ H z) (h2 : a = true → RV r' y z H (.bl b)) (hd : a = true → b = true → Ev td σ H u) (h3 : a = true → b = true → RV r2 z u H (.bl c)) :
    Ev (tChain3 r r' r2 ta tb tc td) σ H (.bl (a && (b && c))) := fun H1 e Q q =>
  ha H1 e _ fun H2 e2 => hb H2 (e.trans e2) _ fun H3 e3 => h1 H3 ((e.trans e2).trans e3) _ fun H4 e4 => ⟨a, rfl, by
    cases a with
    | false => exact q H4 ((e2.trans e3).trans e4)
    | true => exact hc rfl H4 (((e.trans e2).trans e3).trans e4) _ fun H5 e5 => h2 rfl H5 ((((e.trans e2).trans e3).trans e4).trans e5) _ fun H6 e6 => ⟨b, rfl, by
        have e26 := (((e2.trans e3).trans e4).trans e5).trans e6
        cases b with
        | false => exact q H6 e26
        | true => exact hd rfl rfl H6 (e.trans e26) _ fun H7 e7 => h3 rfl rfl H7 (e.trans (e26.trans e7)) Q fun H8 e8 => q H8 (e26.trans (e7.trans e8))⟩⟩
end Wl
namespace Wl
open PySem PySem.Spec PyProof.Rows L2 Evl
local macro_rules | `(tactic| walk_at "e1") => `(tactic| with_reducible (apply et_self; assumption))
local macro_rules | `(tactic| walk_at "e1") => `(tactic| with_reducible (apply ev_self; assumption))
local macro_rules | `(tactic| walk_at "e1") => `(tactic| with_reducible refine (fun (hbb : (_ : Bool) = _) => ?_))
local macro_rules | `(tactic| walk_at "e1") => `(tactic| with_reducible apply ev_if)
local macro_rules | `(tactic| walk_at "e1") => `(tactic| with_reducible apply ev_notV)
local macro_rules | `(tactic| walk_at "e1") => `(tactic| with_reducible apply ev_orV)
local macro_rules | `(tactic| walk_at "e1") => `(tactic| with_reducible apply ev_andV)
local macro_rules | `(tactic| walk_at "e1") => `(tactic| with_reducible apply ev_chain)
local macro_rules | `(tactic| walk_at "e1") => `(tactic| with_reducible apply et_not)
local macro_rules | `(tactic| walk_at "e1") => `(tactic| with_reducible apply et_or)
local macro_rules | `(tactic| walk_at "e1") => `(tactic| with_reducible apply et_and)
local macro_rules | `(tactic| walk_at "e1") => `(tactic| with_reducible apply et_B)
local macro_rules | `(tactic| walk_at "e1") => `(tactic| with_reducible apply et_test)
local macro_rules | `(tactic| walk_at "e1") => `(tactic| with_reducible apply rv_ixT)
local macro_rules | `(tactic| walk_at "e1") => `(tactic| with_reducible apply rv_ixL)
local macro_rules | `(tactic| walk_at "e1") => `(tactic| with_reducible apply rv_I)
local macro_rules | `(tactic| walk_at "e1") => `(tactic| ((with_reducible apply rv_ne); exact rfl))
local macro_rules | `(tactic| walk_at "e1") => `(tactic| ((with_reducible apply rv_eq); exact rfl))
local macro_rules | `(tactic| walk_at "e1") => `(tactic| with_reducible exact rv_I0)
local macro_rules | `(tactic| walk_at "e1") => `(tactic| with_reducible exact ru_neg)
local macro_rules | `(tactic| walk_at "e1") => `(tactic| with_reducible apply ev_un)
local macro_rules | `(tactic| walk_at "e1") => `(tactic| with_reducible apply ea_cons)
local macro_rules | `(tactic| walk_at "e1") => `(tactic| with_reducible exact ea_nil)
local macro_rules | `(tactic| walk_at "e1") => `(tactic| with_reducible apply ev_op)
local macro_rules | `(tactic| walk_at "e1") => `(tactic| ((with_reducible apply ev_var); exact rfl))
local macro_rules | `(tactic| walk_at "e1") => `(tactic| with_reducible exact ev_c)
local macro_rules | `(tactic| walk_at "sq") => `(tactic| first | with_reducible assumption | exact st_of (by assumption) | exact sq_of (by assumption) | exact st_of ((by assumption : Ex _ _) _ _ (by assumption)) | exact sq_of ((by assumption : Ex _ _) _ _ (by assumption)) | exact ex_t (by assumption) (by assumption) | exact ex_l (by assumption) (by assumption))
local macro_rules | `(tactic| walk_at "e1") => `(tactic| ((with_reducible apply rv_ixL) <;> first | walk_at "sq" | exact rfl))
local macro_rules | `(tactic| walk_at "e1") => `(tactic| ((with_reducible apply rv_ixT) <;> first | walk_at "sq" | exact rfl))
local macro_rules | `(tactic| walk_at "sz") => `(tactic| exact Nat.le_of_ble_eq_true rfl)
local macro_rules | `(tactic| walk_at "e1") => `(tactic| with_reducible exact rv_neB)
local macro_rules | `(tactic| walk_at "e1") => `(tactic| with_reducible exact rv_eqB)
local macro_rules | `(tactic| walk_at "e1") => `(tactic| with_reducible exact rv_neI)
local macro_rules | `(tactic| walk_at "e1") => `(tactic| with_reducible exact rv_eqI)
local macro_rules | `(tactic| walk_at "ev") => `(tactic| (repeat' walk_at "e1"))
def topS (i : Nat) : Stmt := PySem.Challenge.pw_wheelrow_k03_whole_come.main.body.getD i (.Pass ⟨0, 0, 0, 0⟩)
abbrev s_is_whole : Stmt := topS 7
abbrev s_is_number : Stmt := topS 8
abbrev s_is_turn : Stmt := topS 9
abbrev s_check_numbers : Stmt := topS 10
abbrev s_check_turn : Stmt := topS 11
abbrev s_shares_of : Stmt := topS 13
abbrev s_sum_of : Stmt := topS 19
abbrev s_Times_init : Stmt := inClass (topS 21) 0
abbrev s_Times_shows : Stmt := inClass (topS 21) 1
abbrev s_Bar_init : Stmt := inClass (topS 22) 0
abbrev s_Bar_shows : Stmt := inClass (topS 22) 1
abbrev s_common_of : Stmt := topS 25
abbrev s_come : Stmt := topS 26
abbrev s_l_cell_at : Stmt := topS 28
abbrev s_l_draw : Stmt := topS 29
abbrev s_l_row : Stmt := topS 30
abbrev s_l_whole : Stmt := topS 32
abbrev s_l_numbers : Stmt := topS 33
abbrev s_l_due : Stmt := topS 34
abbrev s_l_right : Stmt := topS 35
abbrev s_law : Stmt := topS 36
theorem sc_is_whole : FnScope ["thing"] ["thing"] (defScope s_is_whole) := ⟨rfl, rfl, rfl, by decide +kernel, rfl, by decide +kernel, by decide +kernel⟩
theorem sc_is_number : FnScope ["thing"] ["thing"] (defScope s_is_number) := ⟨rfl, rfl, rfl, by decide +kernel, rfl, by decide +kernel, by decide +kernel⟩
theorem sc_is_turn : FnScope ["thing"] ["thing"] (defScope s_is_turn) := ⟨rfl, rfl, rfl, by decide +kernel, rfl, by decide +kernel, by decide +kernel⟩
theorem sc_check_numbers : FnScope ["numbers", "number"] ["numbers"] (defScope s_check_numbers) := ⟨rfl, rfl, rfl, by decide +kernel, rfl, by decide +kernel, by decide +kernel⟩
theorem sc_check_turn : FnScope ["turn"] ["turn"] (defScope s_check_turn) := ⟨rfl, rfl, rfl, by decide +kernel, rfl, by decide +kernel, by decide +kernel⟩
theorem sc_shares_of : FnScope ["one", "other", "here", "there", "times", "part", "k"] ["one", "other"] (defScope s_shares_of) := ⟨rfl, rfl, rfl, by decide +kernel, rfl, by decide +kernel, by decide +kernel⟩
theorem sc_sum_of : FnScope ["numbers", "times", "k"] ["numbers", "times"] (defScope s_sum_of) := ⟨rfl, rfl, rfl, by decide +kernel, rfl, by decide +kernel, by decide +kernel⟩
theorem sc_Times_init : FnScope ["self", "times"] ["self", "times"] (defScope s_Times_init) := ⟨rfl, rfl, rfl, by decide +kernel, rfl, by decide +kernel, by decide +kernel⟩
theorem sc_Times_shows : FnScope ["self", "numbers", "turn", "rest", "often"] ["self", "numbers", "turn", "rest"] (defScope s_Times_shows) := ⟨rfl, rfl, rfl, by decide +kernel, rfl, by decide +kernel, by decide +kernel⟩
theorem sc_Bar_init : FnScope ["self", "part"] ["self", "part"] (defScope s_Bar_init) := ⟨rfl, rfl, rfl, by decide +kernel, rfl, by decide +kernel, by decide +kernel⟩
theorem sc_Bar_shows : FnScope ["self", "numbers", "turn", "rest", "number"] ["self", "numbers", "turn", "rest"] (defScope s_Bar_shows) := ⟨rfl, rfl, rfl, by decide +kernel, rfl, by decide +kernel, by decide +kernel⟩
theorem sc_common_of : FnScope ["numbers", "part", "times", "number", "found", "mine", "theirs", "often"] ["numbers"] (defScope s_common_of) := ⟨rfl, rfl, rfl, by decide +kernel, rfl, by decide +kernel, by decide +kernel⟩
theorem sc_come : FnScope ["numbers", "turn", "rest", "part", "times", "often", "number"] ["numbers", "turn", "rest"] (defScope s_come) := ⟨rfl, rfl, rfl, by decide +kernel, rfl, by decide +kernel, by decide +kernel⟩
theorem sc_l_cell_at : FnScope ["_law_script", "_law_k"] ["_law_script", "_law_k"] (defScope s_l_cell_at) := ⟨rfl, rfl, rfl, by decide +kernel, rfl, by decide +kernel, by decide +kernel⟩
theorem sc_l_draw : FnScope ["_law_cell", "_law_k", "_law_many", "_law_primes"] ["_law_cell", "_law_k", "_law_many"] (defScope s_l_draw) := ⟨rfl, rfl, rfl, by decide +kernel, rfl, by decide +kernel, by decide +kernel⟩
theorem sc_l_row : FnScope ["_law_script", "_law_kind", "_law_by", "_law_most", "_law_found", "_law_k", "_law_number"] ["_law_script"] (defScope s_l_row) := ⟨rfl, rfl, rfl, by decide +kernel, rfl, by decide +kernel, by decide +kernel⟩
theorem sc_l_whole : FnScope ["_law_number"] ["_law_number"] (defScope s_l_whole) := ⟨rfl, rfl, rfl, by decide +kernel, rfl, by decide +kernel, by decide +kernel⟩
theorem sc_l_numbers : FnScope ["_law_found", "_law_one"] ["_law_found"] (defScope s_l_numbers) := ⟨rfl, rfl, rfl, by decide +kernel, rfl, by decide +kernel, by decide +kernel⟩
theorem sc_l_due : FnScope ["_law_numbers_here", "_law_turn", "_law_rest", "_law_found", "_law_number", "_law_often"] ["_law_numbers_here", "_law_turn", "_law_rest", "_law_found"] (defScope s_l_due) := ⟨rfl, rfl, rfl, by decide +kernel, rfl, by decide +kernel, by decide +kernel⟩
theorem sc_l_right : FnScope ["_law_numbers_here", "_law_turn", "_law_rest", "_law_handed", "_law_found", "_law_other", "_law_far", "_law_number"] ["_law_numbers_here", "_law_turn", "_law_rest"] (defScope s_l_right) := ⟨rfl, rfl, rfl, by decide +kernel, rfl, by decide +kernel, by decide +kernel⟩
theorem sc_law : FnScope ["_law_script", "_law_numbers_here", "_law_turns", "_law_turn", "_law_rests", "_law_rest"] ["_law_script"] (defScope s_law) := ⟨rfl, rfl, rfl, by decide +kernel, rfl, by decide +kernel, by decide +kernel⟩
structure Ad where
  a_is_whole : Addr
  a_is_number : Addr
  a_is_turn : Addr
  a_check_numbers : Addr
  a_check_turn : Addr
  a_shares_of : Addr
  a_sum_of : Addr
  a_Times_init : Addr
  a_Times_shows : Addr
  a_Bar_init : Addr
  a_Bar_shows : Addr
  a_common_of : Addr
  a_come : Addr
  a_l_cell_at : Addr
  a_l_draw : Addr
  a_l_row : Addr
  a_l_whole : Addr
  a_l_numbers : Addr
  a_l_due : Addr
  a_l_right : Addr
  a_law : Addr
  c_RestError : Addr
  c_BadNumbers : Addr
  c_BadRound : Addr
  c_BadRest : Addr
  c_Answer : Addr
  c_Number : Addr
  c_Clash : Addr
  c_Common : Addr
  c_Times : Addr
  c_Bar : Addr
  c_Back : Addr
structure Txt (K : PySem.W.Frag) (mg : Str → Option Value) (A : Ad) : Prop where
  F_is_whole : ∃ fd, Fun K "is_whole" "is_whole" s_is_whole A.a_is_whole fd ∧ Binds K fd ["thing"] []
  g_is_whole : mg "is_whole" = some (.ref A.a_is_whole)
  F_is_number : ∃ fd, Fun K "is_number" "is_number" s_is_number A.a_is_number fd ∧ Binds K fd ["thing"] []
  g_is_number : mg "is_number" = some (.ref A.a_is_number)
  F_is_turn : ∃ fd, Fun K "is_turn" "is_turn" s_is_turn A.a_is_turn fd ∧ Binds K fd ["thing"] []
  g_is_turn : mg "is_turn" = some (.ref A.a_is_turn)
  F_check_numbers : ∃ fd, Fun K "check_numbers" "check_numbers" s_check_numbers A.a_check_numbers fd ∧ Binds K fd ["numbers"] []
  g_check_numbers : mg "check_numbers" = some (.ref A.a_check_numbers)
  F_check_turn : ∃ fd, Fun K "check_turn" "check_turn" s_check_turn A.a_check_turn fd ∧ Binds K fd ["turn"] []
  g_check_turn : mg "check_turn" = some (.ref A.a_check_turn)
  F_shares_of : ∃ fd, Fun K "shares_of" "shares_of" s_shares_of A.a_shares_of fd ∧ Binds K fd ["one", "other"] []
  g_shares_of : mg "shares_of" = some (.ref A.a_shares_of)
  F_sum_of : ∃ fd, Fun K "sum_of" "sum_of" s_sum_of A.a_sum_of fd ∧ Binds K fd ["numbers", "times"] []
  g_sum_of : mg "sum_of" = some (.ref A.a_sum_of)
  F_Times_init : ∃ fd, Fun K "__init__" "Times.__init__" s_Times_init A.a_Times_init fd ∧ Binds K fd ["self", "times"] []
  F_Times_shows : ∃ fd, Fun K "shows" "Times.shows" s_Times_shows A.a_Times_shows fd ∧ Binds K fd ["self", "numbers", "turn", "rest"] []
  F_Bar_init : ∃ fd, Fun K "__init__" "Bar.__init__" s_Bar_init A.a_Bar_init fd ∧ Binds K fd ["self", "part"] []
  F_Bar_shows : ∃ fd, Fun K "shows" "Bar.shows" s_Bar_shows A.a_Bar_shows fd ∧ Binds K fd ["self", "numbers", "turn", "rest"] []
  F_common_of : ∃ fd, Fun K "common_of" "common_of" s_common_of A.a_common_of fd ∧ Binds K fd ["numbers"] []
  g_common_of : mg "common_of" = some (.ref A.a_common_of)
  F_come : ∃ fd, Fun K "come" "come" s_come A.a_come fd ∧ Binds K fd ["numbers", "turn", "rest"] []
  g_come : mg "come" = some (.ref A.a_come)
  F_l_cell_at : ∃ fd, Fun K "_law_cell_at" "_law_cell_at" s_l_cell_at A.a_l_cell_at fd ∧ Binds K fd ["_law_script", "_law_k"] []
  g_l_cell_at : mg "_law_cell_at" = some (.ref A.a_l_cell_at)
  F_l_draw : ∃ fd, Fun K "_law_draw" "_law_draw" s_l_draw A.a_l_draw fd ∧ Binds K fd ["_law_cell", "_law_k", "_law_many"] []
  g_l_draw : mg "_law_draw" = some (.ref A.a_l_draw)
  F_l_row : ∃ fd, Fun K "_law_row" "_law_row" s_l_row A.a_l_row fd ∧ Binds K fd ["_law_script"] []
  g_l_row : mg "_law_row" = some (.ref A.a_l_row)
  F_l_whole : ∃ fd, Fun K "_law_whole" "_law_whole" s_l_whole A.a_l_whole fd ∧ Binds K fd ["_law_number"] []
  g_l_whole : mg "_law_whole" = some (.ref A.a_l_whole)
  F_l_numbers : ∃ fd, Fun K "_law_numbers" "_law_numbers" s_l_numbers A.a_l_numbers fd ∧ Binds K fd ["_law_found"] []
  g_l_numbers : mg "_law_numbers" = some (.ref A.a_l_numbers)
  F_l_due : ∃ fd, Fun K "_law_due" "_law_due" s_l_due A.a_l_due fd ∧ Binds K fd ["_law_numbers_here", "_law_turn", "_law_rest", "_law_found"] []
  g_l_due : mg "_law_due" = some (.ref A.a_l_due)
  F_l_right : ∃ fd, Fun K "_law_right" "_law_right" s_l_right A.a_l_right fd ∧ Binds K fd ["_law_numbers_here", "_law_turn", "_law_rest"] []
  g_l_right : mg "_law_right" = some (.ref A.a_l_right)
  F_law : ∃ fd, Fun K "law" "law" s_law A.a_law fd ∧ Binds K fd ["_law_script"] []
  g_law : mg "law" = some (.ref A.a_law)
  z_isinstance : mg "isinstance" = none
  z_int : mg "int" = none
  z_bool : mg "bool" = none
  z_list : mg "list" = none
  z_all : mg "all" = none
  z_tuple : mg "tuple" = none
  z_range : mg "range" = none
  z_sum : mg "sum" = none
  z_len : mg "len" = none
  z_zip : mg "zip" = none
  k_GREATEST : ∃ t, mg "GREATEST" = some (.int 1000000 t)
  g_RestError : mg "RestError" = some (.ref A.c_RestError)
  g_BadNumbers : mg "BadNumbers" = some (.ref A.c_BadNumbers)
  g_BadRound : mg "BadRound" = some (.ref A.c_BadRound)
  g_BadRest : mg "BadRest" = some (.ref A.c_BadRest)
  g_Answer : mg "Answer" = some (.ref A.c_Answer)
  cl_Answer : Cls K A.c_Answer
  i_Answer : IsC K A.c_Answer
  g_Number : mg "Number" = some (.ref A.c_Number)
  cl_Number : Cls K A.c_Number
  n_Number_number : NoAttr K A.c_Number "number"
  n_Number_turn : NoAttr K A.c_Number "turn"
  i_Number : IsC K A.c_Number
  g_Clash : mg "Clash" = some (.ref A.c_Clash)
  cl_Clash : Cls K A.c_Clash
  n_Clash_one : NoAttr K A.c_Clash "one"
  n_Clash_other : NoAttr K A.c_Clash "other"
  i_Clash : IsC K A.c_Clash
  g_Common : mg "Common" = some (.ref A.c_Common)
  cl_Common : Cls K A.c_Common
  n_Common_part : NoAttr K A.c_Common "part"
  n_Common_times : NoAttr K A.c_Common "times"
  i_Common : IsC K A.c_Common
  g_Times : mg "Times" = some (.ref A.c_Times)
  cl_Times : Cls K A.c_Times
  mk_Times : Mk K A.c_Times A.a_Times_init
  m_Times_shows : Meth K A.c_Times "shows" A.a_Times_shows
  n_Times_times : NoAttr K A.c_Times "times"
  i_Times : IsC K A.c_Times
  g_Bar : mg "Bar" = some (.ref A.c_Bar)
  cl_Bar : Cls K A.c_Bar
  mk_Bar : Mk K A.c_Bar A.a_Bar_init
  m_Bar_shows : Meth K A.c_Bar "shows" A.a_Bar_shows
  n_Bar_part : NoAttr K A.c_Bar "part"
  i_Bar : IsC K A.c_Bar
  g_Back : mg "Back" = some (.ref A.c_Back)
  cl_Back : Cls K A.c_Back
  n_Back_rest : NoAttr K A.c_Back "rest"
  i_Back : IsC K A.c_Back
  isg : IsG K
  q_Times_Answer : PySem.W.kitOne K (.ref A.c_Times) (.ref A.c_Answer) = some true
  q_Times_Number : PySem.W.kitOne K (.ref A.c_Times) (.ref A.c_Number) = some false
  q_Times_Clash : PySem.W.kitOne K (.ref A.c_Times) (.ref A.c_Clash) = some false
  q_Times_Common : PySem.W.kitOne K (.ref A.c_Times) (.ref A.c_Common) = some false
  q_Times_Times : PySem.W.kitOne K (.ref A.c_Times) (.ref A.c_Times) = some true
  q_Times_Bar : PySem.W.kitOne K (.ref A.c_Times) (.ref A.c_Bar) = some false
  q_Times_Back : PySem.W.kitOne K (.ref A.c_Times) (.ref A.c_Back) = some false
  q_Bar_Answer : PySem.W.kitOne K (.ref A.c_Bar) (.ref A.c_Answer) = some true
  q_Bar_Number : PySem.W.kitOne K (.ref A.c_Bar) (.ref A.c_Number) = some false
  q_Bar_Clash : PySem.W.kitOne K (.ref A.c_Bar) (.ref A.c_Clash) = some false
  q_Bar_Common : PySem.W.kitOne K (.ref A.c_Bar) (.ref A.c_Common) = some false
  q_Bar_Times : PySem.W.kitOne K (.ref A.c_Bar) (.ref A.c_Times) = some false
  q_Bar_Bar : PySem.W.kitOne K (.ref A.c_Bar) (.ref A.c_Bar) = some true
  q_Bar_Back : PySem.W.kitOne K (.ref A.c_Bar) (.ref A.c_Back) = some false
/-! ### is_whole, is_number, is_turn, check_turn -/
abbrev bt : List String := ["NoneType", "bool", "int", "str", "list", "tuple", "dict"]
theorem kit_int {K : PySem.W.Frag} {n : String} (h : n ∈ bt) : PySem.W.kitOne K (.type n) (.type "int") = some (n == "int" || n == "bool") := by
  simp only [List.mem_cons, List.not_mem_nil, or_false] at h
  rcases h with h | h | h | h | h | h | h <;> subst h <;> exact kit_ty (by decide +kernel)
theorem kit_bool {K : PySem.W.Frag} {n : String} (h : n ∈ bt) : PySem.W.kitOne K (.type n) (.type "bool") = some (n == "bool") := by
  simp only [List.mem_cons, List.not_mem_nil, or_false] at h
  rcases h with h | h | h | h | h | h | h <;> subst h <;> exact kit_ty (by decide +kernel)
/-- whether it is an int -/
def isI : V → Bool
  | .int _ => true
  | _ => false
theorem isI_ty {K : PySem.W.Frag} {H : Hp} {x : V} {n : String} (h : TyX K H x (.type n)) : isI x = (n == "int") := by
  generalize ht : Value.type n = t at h
  cases h with
  | base b => cases b <;> first | (cases ht; rfl) | cases ht
  | _ => first | (cases ht; rfl) | cases ht
/-- whether it is a number within the bounds, a round -/
def isNum : V → Bool
  | .int i => decide (-1000000 ≤ i) && decide (i ≤ 1000000)
  | _ => false
def isTurn : V → Bool
  | .int i => decide (1 ≤ i) && decide (i ≤ 1000000)
  | _ => false
/-- a plain thing of a known type -/
def PlainV (K : PySem.W.Frag) (H : Hp) (x : V) : Prop := ∃ n, TyX K H x (.type n) ∧ n ∈ bt
theorem PlainV.up {K : PySem.W.Frag} {H H' : Hp} {x : V} (e : Ex H H') (h : PlainV K H x) : PlainV K H' x := by
  obtain ⟨n, h, m⟩ := h
  exact ⟨n, tyx_up e h, m⟩
theorem plain_int {K : PySem.W.Frag} {H : Hp} {i : Int} : PlainV K H (.int i) := ⟨"int", .base (.int i), by decide⟩
def sp_is_whole (K : PySem.W.Frag) : Sp := spX (fun (d : V) vs H => vs = [d] ∧ PlainV K H d) (fun d _ v _ => v = .bl (isI d))
def sp_is_number (K : PySem.W.Frag) : Sp := spX (fun (d : V) vs H => vs = [d] ∧ PlainV K H d) (fun d _ v _ => v = .bl (isNum d))
def sp_is_turn (K : PySem.W.Frag) : Sp := spX (fun (d : V) vs H => vs = [d] ∧ PlainV K H d) (fun d _ v _ => v = .bl (isTurn d))
section
variable {P : Program} {w : World} {K : PySem.W.Frag} {mg : Str → Option Value} {base : Heap} {A : Ad}
theorem ok_is_whole (T : Txt K mg A) : Okk P w K mg base 1 A.a_is_whole ["thing"] (sp_is_whole K) := by
  refine okk T.F_is_whole sc_is_whole (fun vs H Q E h => ?_) (fun cdv Ar outer s H vs Q E hr h => ?_)
  · obtain ⟨d, ⟨rfl, _⟩, _⟩ := h
    rfl
  · obtain ⟨d, ⟨rfl, n, ht, hn⟩, k⟩ := h
    refine ⟨_, (pss_one (ps_ret (pe_and (pe_callB call_isi (by rfl) T.z_isinstance (by decide +kernel) (pa_cons (pv 0) (pa_cons (pe_bltn (v := .ty "int") (by rfl) T.z_int (by decide +kernel) rfl) pa_nil))) (pe_one (pe_not (pe_callB call_isi (by rfl) T.z_isinstance (by decide +kernel) (pa_cons (pv 0) (pa_cons (pe_bltn (v := .ty "bool") (by rfl) T.z_bool (by decide +kernel) rfl) pa_nil)))))))), ?_⟩
    refine s_ret (ev_andV (ev_isi (ev_var rfl) ev_c (.ty _) ht (kit_int hn)) (fun _ => ev_notV (ev_isi (ev_var rfl) ev_c (.ty _) ht (kit_bool hn)))) fun H1 e1 => k _ _ e1 ?_
    show V.bl _ = V.bl (isI d)
    rw [isI_ty ht]
    simp only [List.mem_cons, List.not_mem_nil, or_false] at hn
    rcases hn with h | h | h | h | h | h | h <;> subst h <;> decide +kernel
theorem ok_is_number (T : Txt K mg A) : Okk P w K mg base 2 A.a_is_number ["thing"] (sp_is_number K) := by
  obtain ⟨_, G_is_whole, b_is_whole, k_is_whole⟩ := ok_is_whole (P := P) (w := w) (base := base) T
  obtain ⟨_, kG⟩ := T.k_GREATEST
  refine okk T.F_is_number sc_is_number (fun vs H Q E h => ?_) (fun cdv Ar outer s H vs Q E hr h => ?_)
  · obtain ⟨d, ⟨rfl, _⟩, _⟩ := h
    rfl
  · obtain ⟨d, ⟨rfl, hp⟩, k⟩ := h
    have hr_is_whole : Room 1 _ := hr.mono (by decide)
    refine ⟨_, (pss_one (ps_ret (pe_and (pe_call G_is_whole hr_is_whole (by rfl) T.g_is_whole k_is_whole b_is_whole .nil pass0 (pa_cons (pv 0) pa_nil)) (pe_one (pe_chain op_le op_le (pe_un un_neg (pe_glob (v := .int 1000000) (by rfl) kG ⟨_, rfl⟩)) (pv 0) (pe_glob (v := .int 1000000) (by rfl) kG ⟨_, rfl⟩)))))), ?_⟩
    refine s_ret (v := .bl (isNum d)) ?_ fun H1 e1 => k _ _ e1 rfl
    have h1 : Ev (tCall (sp_is_whole K) [] E0 (tCons (tVar 0) tNil)) [some d] H (.bl (isI d)) := ev_call0 d (by walk_at "ev") (fun H1 e => ⟨rfl, hp.up e⟩) fun _ _ _ p => p
    cases d with
    | int i => exact ev_is (ev_andV h1 fun _ => by walk_at "ev") rfl
    | _ => exact ev_andV (b := false) h1 fun z => nomatch z
theorem ok_is_turn (T : Txt K mg A) : Okk P w K mg base 2 A.a_is_turn ["thing"] (sp_is_turn K) := by
  obtain ⟨_, G_is_whole, b_is_whole, k_is_whole⟩ := ok_is_whole (P := P) (w := w) (base := base) T
  obtain ⟨_, kG⟩ := T.k_GREATEST
  refine okk T.F_is_turn sc_is_turn (fun vs H Q E h => ?_) (fun cdv Ar outer s H vs Q E hr h => ?_)
  · obtain ⟨d, ⟨rfl, _⟩, _⟩ := h
    rfl
  · obtain ⟨d, ⟨rfl, hp⟩, k⟩ := h
    have hr_is_whole : Room 1 _ := hr.mono (by decide)
    refine ⟨_, (pss_one (ps_ret (pe_and (pe_call G_is_whole hr_is_whole (by rfl) T.g_is_whole k_is_whole b_is_whole .nil pass0 (pa_cons (pv 0) pa_nil)) (pe_one (pe_chain op_le op_le pe_int (pv 0) (pe_glob (v := .int 1000000) (by rfl) kG ⟨_, rfl⟩)))))), ?_⟩
    refine s_ret (v := .bl (isTurn d)) ?_ fun H1 e1 => k _ _ e1 rfl
    have h1 : Ev (tCall (sp_is_whole K) [] E0 (tCons (tVar 0) tNil)) [some d] H (.bl (isI d)) := ev_call0 d (by walk_at "ev") (fun H1 e => ⟨rfl, hp.up e⟩) fun _ _ _ p => p
    cases d with
    | int i => exact ev_is (ev_andV h1 fun _ => by walk_at "ev") rfl
    | _ => exact ev_andV (b := false) h1 fun z => nomatch z
/-- a round is let through -/
def sp_check_turn (K : PySem.W.Frag) : Sp := spX (fun (d : Int) vs _ => vs = [.int d] ∧ 1 ≤ d ∧ d ≤ 1000000) (fun _ _ v _ => v = .non)
theorem ok_check_turn (T : Txt K mg A) : Okk P w K mg base 3 A.a_check_turn ["turn"] (sp_check_turn K) := by
  obtain ⟨_, G_is_turn, b_is_turn, k_is_turn⟩ := ok_is_turn (P := P) (w := w) (base := base) T
  refine okk T.F_check_turn sc_check_turn (fun vs H Q E h => ?_) (fun cdv Ar outer s H vs Q E hr h => ?_)
  · obtain ⟨d, ⟨rfl, _⟩, _⟩ := h
    rfl
  · obtain ⟨d, ⟨rfl, d1, d2⟩, k⟩ := h
    have hr_is_turn : Room 2 _ := hr.mono (by decide)
    refine ⟨_, (pss_one (ps_if (pt_not (pt_val (pe_call G_is_turn hr_is_turn (by rfl) T.g_is_turn k_is_turn b_is_turn .nil pass0 (pa_cons (pv 0) pa_nil)))) (pss_one ps_never) pss_nil)), ?_⟩
    have h1 : Ev (tCall (sp_is_turn K) [] E0 (tCons (tVar 0) tNil)) [some (.int d)] H (.bl true) := ev_call0 (.int d) (by walk_at "ev") (fun H1 e => ⟨rfl, plain_int⟩) fun _ v _ p => by
      rw [p]
      simp only [isTurn, decide_eq_true d1, decide_eq_true d2, Bool.and_self]
    exact s_when (et_not (et_B h1)) (fun z => nomatch z) fun _ H1 e1 => k _ _ e1 rfl
end
/-! ### shares_of -/
def sp_shares_of (_ : PySem.W.Frag) : Sp := spX (fun (d : Int × Int) vs _ => vs = [.int d.1, .int d.2] ∧ d.2.natAbs ≤ 1000000)
  (fun d _ v H' => ∃ p g x y, v = .ref p ∧ H' p = some (.tup [.int g, .int x, .int y]) ∧ Shares d.1 d.2 g x y)
theorem t3_at {i : Nat} {p q r : V} (hi : i < 3) : atI [p, q, r] (i : Int) = some ([p, q, r].getD i .non) := by
  refine atI_nat ?_
  rcases i with _ | _ | _ | i
  · rfl
  · rfl
  · rfl
  · omega
theorem r3 (f : Nat → V) : (List.range 3).map f = [f 0, f 1, f 2] := rfl
section
variable {P : Program} {w : World} {K : PySem.W.Frag} {mg : Str → Option Value} {base : Heap} {A : Ad}
theorem ok_shares_of (T : Txt K mg A) : Okk P w K mg base 1 A.a_shares_of ["one", "other"] (sp_shares_of K) := by
  refine okk T.F_shares_of sc_shares_of (fun vs H Q E h => ?_) (fun cdv Ar outer s H vs Q E hr h => ?_)
  · obtain ⟨d, ⟨rfl, _⟩, _⟩ := h
    rfl
  · obtain ⟨⟨one, other⟩, ⟨rfl, hd⟩, k⟩ := h
    refine ⟨_, (pss_cons (ps_set (i := 2) sc_shares_of.nd rfl (.inr rfl) (pe_tup (pa_cons (pv 0) (pa_cons pe_int (pa_cons pe_int pa_nil)))))
      (pss_cons (ps_set (i := 3) sc_shares_of.nd rfl (.inr rfl) (pe_tup (pa_cons (pv 1) (pa_cons pe_int (pa_cons pe_int pa_nil)))))
      (pss_cons (ps_while PassesOwn.never (pt_cmpR op_ne (pe_ix (ix_tupK K) (pv 3) pe_int (fun _ _ => rfl)) pe_int (nomark _)) (pss_cons (ps_set (i := 4) sc_shares_of.nd rfl (.inr rfl) (pe_op op_fdivN (pe_ix (ix_tupK K) (pv 2) pe_int (fun _ _ => rfl)) (pe_ix (ix_tupK K) (pv 3) pe_int (fun _ _ => rfl))))
      (pss_one (ps_asg (pe_tup (pa_cons (pv 3) (pa_cons (pe_callTy (tuple_ofK K) (by rfl) T.z_tuple (by decide +kernel) (pa_cons (pe_lc (own := [("k", 6)]) rfl sc_shares_of.nd (pi_range1 (by rfl) T.z_range (pa_cons pe_int pa_nil)) (blkOk_by (N := ["one", "other", "here", "there", "times", "part", "k"]) (sc := defScope s_shares_of) (by decide +kernel)) (fun _ _ _ _ _ => (pg_name (i := 6) sc_shares_of.nd rfl (Or.inl rfl))) (fun _ _ _ _ _ => pts_nil) (fun _ _ _ _ _ => (pe_op op_sub (pe_ix (ix_tupK K) (pv 2) (pv 6) (fun _ _ => rfl)) (pe_op op_mul (pv 4) (pe_ix (ix_tupK K) (pv 3) (pv 6) (fun _ _ => rfl)))))) pa_nil)) pa_nil))) (pg_tupK K rfl (pgs_cons (pg_name (i := 2) sc_shares_of.nd rfl (Or.inr rfl)) (pgs_cons (pg_name (i := 3) sc_shares_of.nd rfl (Or.inr rfl)) pgs_nil)))))))
      (pss_cons (ps_if (pt_cmpR op_lt (pe_ix (ix_tupK K) (pv 2) pe_int (fun _ _ => rfl)) pe_int (nomark _)) (pss_one (ps_set (i := 2) sc_shares_of.nd rfl (.inr rfl) (pe_callTy (tuple_ofK K) (by rfl) T.z_tuple (by decide +kernel) (pa_cons (pe_lc (own := [("part", 5)]) rfl sc_shares_of.nd (pi_tupK K (pv 2)) (blkOk_by (N := ["one", "other", "here", "there", "times", "part", "k"]) (sc := defScope s_shares_of) (by decide +kernel)) (fun _ _ _ _ _ => (pg_name (i := 5) sc_shares_of.nd rfl (Or.inl rfl))) (fun _ _ _ _ _ => pts_nil) (fun _ _ _ _ _ => (pe_un un_neg (pv 5)))) pa_nil)))) pss_nil)
      (pss_one (ps_ret (pv 2))))))), ?_⟩
    refine q_asgU (eu_tup (by walk_at "ev") (by walk_at "sz")) fun p H1 hp e1 h1 => ?_
    refine q_asgU (eu_tup (by walk_at "ev") (by walk_at "sz")) fun q H2 hq e2 h2 => ?_
    refine q_while (fun m σ H' => ∃ p q a x y b u v s4 s5 s6, m = b.natAbs ∧ σ = [some (.int one), some (.int other), some (.ref p), some (.ref q), s4, s5, s6] ∧ Ex H H' ∧
      H' p = some (.tup [.int a, .int x, .int y]) ∧ H' q = some (.tup [.int b, .int u, .int v]) ∧ Sh one other a x y b u v) other.natAbs
      ⟨p, q, one, 1, 0, other, 0, 1, none, none, none, rfl, rfl, e1.trans e2, e2 _ _ h1, h2, Sh.start one other⟩ ?_
    rintro m σ H3 ⟨p, q, a, x, y, b, u, v, s4, s5, s6, rfl, rfl, e3, hp3, hq3, sh⟩
    have hb30 : b.natAbs ≤ 1000000 := by
      rcases sh.hs with ⟨_, _, _, e, _⟩ | ⟨h1, h2, _⟩
      · rw [e]; exact hd
      · have : other.natAbs ≤ 1000000 := hd
        omega
    refine ⟨_, (by walk_at "ev"), fun hb H4 e4 => ?_, fun hb H4 e4 => ?_⟩
    · have hb0 : b ≠ 0 := by simpa using hb
      refine ⟨_, fun _ _ n => n, ?_⟩
      have hp4 := e4 _ _ hp3
      have hq4 := e4 _ _ hq3
      refine q_asg (v := .int (a.fdiv b)) (by walk_at "ev" <;> exact ⟨hb0, by omega⟩) fun H5 e5 => ?_
      have hp5 := e5 _ _ hp4
      have hq5 := e5 _ _ hq4
      refine s_asgG (er_tup (T := fun vs H6 => ∃ q2, vs = [.ref q, .ref q2] ∧ H6 q2 = some (.tup [.int (a - a.fdiv b * b), .int (x - a.fdiv b * u), .int (y - a.fdiv b * v)]))
        (ear_cons (evr (ev_var rfl)) fun z1 H6 e6 hz1 => ?_) fun vs H6 h => ?_) fun z H6 e6 hz => ?_
      · subst hz1
        refine ear_cons (er_tupR (xs := [.int (a - a.fdiv b * b), .int (x - a.fdiv b * u), .int (y - a.fdiv b * v)]) (S := LcR 3 (fun j z _ => z = .int ([a, x, y].getD j 0 - a.fdiv b * [b, u, v].getD j 0)) H6)
          (er_lcR (n := 3) _ stb_val (ea_cons ev_c ea_nil) (by decide) (fun _ => rfl) fun i hi => ?_) fun z H7 e7 hz => ?_) fun z2 H7 e7 hz2 => ?_
        · refine evr (v := .int ([a, x, y].getD i 0 - a.fdiv b * [b, u, v].getD i 0)) ?_
          have g1 : ([V.int a, .int x, .int y].getD i .non) = .int ([a, x, y].getD i 0) := by
            rcases i with _ | _ | _ | i <;> first | rfl | omega
          have g2 : ([V.int b, .int u, .int v].getD i .non) = .int ([b, u, v].getD i 0) := by
            rcases i with _ | _ | _ | i <;> first | rfl | omega
          refine ev_op (ev_op (ev_var rfl) (ev_var rfl) (rv_ixT (st_of (e6 _ _ hp5)) ((t3_at hi).trans (by rw [g1])))) (ev_op (ev_var rfl) (ev_op (ev_var rfl) (ev_var rfl) (rv_ixT (st_of (e6 _ _ hq5)) ((t3_at hi).trans (by rw [g2])))) (rv_I ?_)) rv_I0
          rcases sh.hs with ⟨_, _, _, _, eu, ev⟩ | ⟨h1, h2, h3, _⟩
          · right
            subst eu ev
            rcases i with _ | _ | _ | i
            · show -(2 ^ 64) < b ∧ b < 2 ^ 64
              omega
            · show -(2 ^ 64) < (0 : Int) ∧ (0 : Int) < 2 ^ 64
              decide
            · show -(2 ^ 64) < (1 : Int) ∧ (1 : Int) < 2 ^ 64
              decide
            · omega
          · left
            have h5 := div_abs hb0 h3
            have h6 : (a.fdiv b).natAbs * 1 ≤ (a.fdiv b).natAbs * b.natAbs := Nat.mul_le_mul_left _ (by omega)
            have h7 : other.natAbs ≤ 1000000 := hd
            omega
        · obtain ⟨a1, rfl, h⟩ := hz.sq
          exact ⟨a1, rfl, h⟩
        · obtain ⟨q2, rfl, _, h⟩ := hz2
          exact (ear ea_nil).imp fun vs H8 e8 hv => by
            subst hv
            exact ⟨q2, rfl, e8 _ _ h⟩
      · obtain ⟨_, rfl, _⟩ := h
        show 2 ≤ 100000
        decide
      · obtain ⟨t, vs, H7, rfl, _, e7, ⟨q2, rfl, hq2⟩, ht⟩ := hz
        refine g_tup2 (st_of ht) ?_
        have ⟨sh', hlt⟩ := sh.step hb0
        exact ⟨_, hlt, q, q2, _, _, _, _, _, _, _, _, _, rfl, rfl, (e3.trans e4).trans (e5.trans e6), e6 _ _ hq5, e7 _ _ hq2, sh'⟩
    · have hb0 : b = 0 := by simpa using hb
      subst hb0
      have hp4 := e4 _ _ hp3
      have ⟨d1, d2⟩ := sh.done
      refine q_when (by walk_at "ev") (fun ha H5 e5 => ?_) (fun ha H5 e5 => ?_)
      · have ha0 : a < 0 := by simpa using ha
        have hp5 := e5 _ _ hp4
        refine s_asgR (er_tupR (xs := [.int (-a), .int (-x), .int (-y)]) (S := LcR 3 (fun j z _ => z = .int (-[a, x, y].getD j 0)) H5)
          (er_lcTn _ stb_val (ev_var rfl) (st_of hp5) (by show 3 ≤ 40000; decide) (fun _ => rfl) fun i z hz => ?_) fun z H7 e7 hz => ?_) fun z H6 e6 hz => ?_
        · have g : z = .int ([a, x, y].getD i 0) := by
            rcases i with _ | _ | _ | i
            · exact (Option.some.inj hz).symm
            · exact (Option.some.inj hz).symm
            · exact (Option.some.inj hz).symm
            · simp at hz
          subst g
          exact evr (by walk_at "ev")
        · obtain ⟨a1, rfl, h⟩ := hz.sq
          exact ⟨a1, rfl, h⟩
        · obtain ⟨p2, rfl, _, hp2⟩ := hz
          refine s_ret (ev_var rfl) fun H7 e7 => k _ _ (((e3.trans e4).trans (e5.trans e6)).trans e7) ?_
          exact ⟨p2, _, _, _, rfl, e7 _ _ hp2, d2 ha0⟩
      · have ha0 : ¬ a < 0 := by simpa using ha
        refine s_ret (ev_var rfl) fun H6 e6 => k _ _ (((e3.trans e4).trans e5).trans e6) ?_
        exact ⟨p, _, _, _, rfl, e6 _ _ (e5 _ _ hp4), d1 ha0⟩
end
/-! ### lists as a type; all -/
theorem kit_ll {K : PySem.W.Frag} : PySem.W.kitOne K (.type "list") (.type "list") = some true := kit_ty (by decide +kernel)
theorem all_true {α : Type} {l : List α} {f : α → Bool} (h : ∀ x ∈ l, f x = true) : (l.map f).all id = true := by
  rw [List.all_map]
  exact List.all_eq_true.mpr h
theorem map_bl {α : Type} {l : List α} {f : α → Bool} : l.map (fun n => V.bl (f n)) = (l.map f).map V.bl := by
  rw [List.map_map]
  rfl
/-! ### check_numbers of what are numbers -/
def sp_check_numbers (_ : PySem.W.Frag) : Sp := spX (fun (d : V × List Int) vs H => vs = [d.1] ∧ LstAt (iv d.2) d.1 H ∧ d.2.length ≤ 10000 ∧ ∀ n ∈ d.2, -1000000 ≤ n ∧ n ≤ 1000000) (fun _ _ v _ => v = .non)
section
variable {P : Program} {w : World} {K : PySem.W.Frag} {mg : Str → Option Value} {base : Heap} {A : Ad}
theorem ok_check_numbers (T : Txt K mg A) : Okk P w K mg base 3 A.a_check_numbers ["numbers"] (sp_check_numbers K) := by
  obtain ⟨_, G_is_number, b_is_number, k_is_number⟩ := ok_is_number (P := P) (w := w) (base := base) T
  refine okk T.F_check_numbers sc_check_numbers (fun vs H Q E h => ?_) (fun cdv Ar outer s H vs Q E hr h => ?_)
  · obtain ⟨d, ⟨rfl, _⟩, _⟩ := h
    rfl
  · obtain ⟨⟨_, ns⟩, ⟨rfl, ⟨a, rfl, ha⟩, hl, hb⟩, k⟩ := h
    dsimp only at ha hl hb
    have hr_is_number : Room 2 _ := hr.mono (by decide)
    refine ⟨_, (pss_one (ps_if (PW.pt (pw_or (pt_not (pt_val (pe_callB (isiK K) (by rfl) T.z_isinstance (by decide +kernel) (pa_cons (pv 0) (pa_cons (pe_bltn (v := .ty "list") (by rfl) T.z_list (by decide +kernel) rfl) pa_nil))))) (pw_or1 (pt_not (pt_val (pe_callB (allK K rfl) (by rfl) T.z_all (by decide +kernel) (pa_cons (pe_lc (own := [("number", 1)]) rfl sc_check_numbers.nd (pi_listK K (pv 0)) (blkOk_by (N := ["numbers", "number"]) (sc := defScope s_check_numbers) (by decide +kernel)) (fun _ _ _ _ _ => (pg_name (i := 1) sc_check_numbers.nd rfl (Or.inl rfl))) (fun _ _ _ _ _ => pts_nil) (fun _ _ _ _ _ => (pe_call G_is_number hr_is_number (by rfl) T.g_is_number k_is_number b_is_number .nil pass0 (pa_cons (pv 1) pa_nil)))) pa_nil))))))) (pss_one ps_never) pss_nil)), ?_⟩
    refine s_when (b := false) ?_ (fun z => nomatch z) fun _ H1 e1 => k _ _ e1 rfl
    have h1 : Ev (tCB (rAll K) (tCons (tLc (iList K (tVar 0)) (gName 1) tYes (tCall (sp_is_number K) [] E0 (tCons (tVar 1) tNil)) [1]) tNil)) [some (.ref a), none] H (.bl true) := by
      refine ev_is (ev_allN (bs := ns.map fun n => isNum (.int n)) (H0 := H) ?_) (by rw [all_true]; intro n hn; simp only [isNum, decide_eq_true (hb n hn).1, decide_eq_true (hb n hn).2, Bool.and_self])
      rw [← map_bl]
      exact er_lcI (fun n => .bl (isNum (.int n))) (ev_var rfl) (sq_of ha) (by omega) (fun _ => rfl) fun n hn => ev_call0 (.int n) (ea_cons (ev_var rfl) ea_nil) (fun H1 e => ⟨rfl, plain_int⟩) fun _ _ _ p => p
    exact et_is (et_or (et_not (et_B (ev_isi (ev_var rfl) ev_c (.ty _) (.base (.lst ha)) kit_ll))) fun _ => et_not (et_B h1)) rfl
end
/-! ### Common: made, asked; common -/
def CommonAt (A : Ad) (H : Hp) (v : V) (p : Int) (l : Addr) (ts : List Int) : Prop := ∃ a dx, v = .ref a ∧ H a = some (.ins A.c_Common dx [("part", .int p), ("times", .ref l)]) ∧ H l = some (.lst (iv ts))
theorem CommonAt.up {A : Ad} {H H' : Hp} {v : V} {p : Int} {l : Addr} {ts : List Int} (e : Ex H H') (h : CommonAt A H v p l ts) : CommonAt A H' v p l ts := by
  obtain ⟨a, dx, r, h1, h2⟩ := h
  exact ⟨a, dx, r, e _ _ h1, e _ _ h2⟩
def sp_Common_init (A : Ad) : Sp := spI A.c_Common (fun us H => ∃ (p : Int) (l : Addr) (xs : List V), us = [.int p, .ref l] ∧ H l = some (.lst xs)) (fun us H H' fs => ∃ (p : Int) (l : Addr) (xs : List V) (l2 : Addr), us = [.int p, .ref l] ∧ H l = some (.lst xs) ∧ H l2 = none ∧ H' l2 = some (.lst xs) ∧ fs = ([("part", .int p), ("times", .ref l2)] : List (Str × V)))
def sp_sum_of (K : PySem.W.Frag) : Sp := spX (fun (d : V × V × List Int × List Int) vs H => vs = [d.1, d.2.1] ∧ LstAt (iv d.2.2.1) d.1 H ∧ LstAt (iv d.2.2.2) d.2.1 H ∧ d.2.2.1.length = d.2.2.2.length ∧ d.2.2.1.length ≤ 10000 ∧ ∀ n ∈ d.2.2.1, -(2 ^ 64) < n ∧ n < 2 ^ 64) (fun d _ v _ => v = .int (dot d.2.2.1 d.2.2.2))
def sp_Common_shows (A : Ad) : Sp := spX (fun (d : V × Int × Addr × List Int × V × List Int) vs H => vs = [d.1, d.2.2.2.2.1] ∧ CommonAt A H d.1 d.2.1 d.2.2.1 d.2.2.2.1 ∧ LstAt (iv d.2.2.2.2.2) d.2.2.2.2.1 H ∧ d.2.2.2.2.2.length ≤ 10000 ∧ ∀ n ∈ d.2.2.2.2.2, -(2 ^ 64) < n ∧ n < 2 ^ 64) (fun d _ v _ => v = .bl (dueC d.2.1 d.2.2.2.1 d.2.2.2.2.2))
def sp_common_of (_ : PySem.W.Frag) : Sp := spX (fun (d : V × List Int) vs H => vs = [d.1] ∧ LstAt (iv d.2) d.1 H ∧ d.2.length ≤ 10000 ∧ ∀ n ∈ d.2, -1000000 ≤ n ∧ n ≤ 1000000)
  (fun d H v H' => ∃ t p l ts, v = .ref t ∧ H' t = some (.tup [.int p, .ref l]) ∧ H l = none ∧ H' l = some (.lst (iv ts)) ∧ CommonOk p ts d.2 ∧ p ≤ 1000000)
def sp_common (A : Ad) : Sp := spX (fun (d : V × List Int) vs H => vs = [d.1] ∧ LstAt (iv d.2) d.1 H ∧ d.2.length ≤ 10000 ∧ ∀ n ∈ d.2, -1000000 ≤ n ∧ n ≤ 1000000)
  (fun d H v H' => ∃ p l ts, CommonAt A H' v p l ts ∧ H l = none ∧ CommonOk p ts d.2)
theorem tms : (("times" : Str) == ("part" : Str)) = false := by decide +kernel
section
variable {P : Program} {w : World} {K : PySem.W.Frag} {mg : Str → Option Value} {base : Heap} {A : Ad}
theorem er_Common {σ : L2.St} {H : Hp} {ta tb : TE} {E : XK} {p : Int} {l : Addr} {xs : List V} (h : Ev ta σ H (.int p)) (h2 : Ev tb σ H (.ref l)) (hl : H l = some (.lst xs)) : EvR (tMake A.c_Common (sp_Common_init A) [] E (tCons ta (tCons tb tNil))) σ H (fun v H2 => ∃ a dx l2, v = .ref a ∧ H2 a = some (.ins A.c_Common dx [("part", .int p), ("times", .ref l2)]) ∧ H l2 = none ∧ H2 l2 = some (.lst xs)) :=
  er_make (ear (ea_cons h (ea_cons h2 ea_nil))) (fun us H1 H2 e q e2 => ⟨p, l, xs, q, e2 _ _ (e _ _ hl)⟩) fun us H1 H2 H3 fs a dx e q e2 e3 ha hi ⟨p', l', xs', l2, hu, hl', hn, h3, hf⟩ => by
    rw [q] at hu
    cases hu
    have : xs' = xs := by
      have := hl'.symm.trans (e2 _ _ (e _ _ hl))
      cases this
      rfl
    subst this hf
    exact ⟨a, dx, l2, rfl, hi, fresh_back (e.trans e2) hn, h3⟩
theorem ok_sum_of (T : Txt K mg A) : Okk P w K mg base 1 A.a_sum_of ["numbers", "times"] (sp_sum_of K) := by
  refine okk T.F_sum_of sc_sum_of (fun vs H Q E h => ?_) (fun cdv Ar outer s H vs Q E hr h => ?_)
  · obtain ⟨d, ⟨rfl, _⟩, _⟩ := h
    rfl
  · obtain ⟨⟨_, _, ns, ts⟩, ⟨rfl, ⟨a, rfl, ha⟩, ⟨b, rfl, hb⟩, hlt, hl, hn⟩, k⟩ := h
    dsimp only at ha hb hlt hl hn
    refine ⟨_, (pss_one (ps_ret (pe_callB (sumK K rfl) (by rfl) T.z_sum (by decide +kernel) (pa_cons (pe_lc (own := [("k", 2)]) rfl sc_sum_of.nd (pi_range1 (by rfl) T.z_range (pa_cons (pe_callB (len_seqK K) (by rfl) T.z_len (by decide +kernel) (pa_cons (pv 0) pa_nil)) pa_nil)) (blkOk_by (N := ["numbers", "times", "k"]) (sc := defScope s_sum_of) (by decide +kernel)) (fun _ _ _ _ _ => (pg_name (i := 2) sc_sum_of.nd rfl (Or.inl rfl))) (fun _ _ _ _ _ => pts_nil) (fun _ _ _ _ _ => (pe_op op_mul (pe_ix (ix_listK K) (pv 0) (pv 2) (fun _ _ => rfl)) (pe_ix (ix_listK K) (pv 1) (pv 2) (fun _ _ => rfl))))) pa_nil)))), ?_⟩
    have e0 : ((iv ns).length : Int) = (ns.length : Int) := by rw [List.length_map]
    refine s_ret (ev_sumN (ns := (List.range ns.length).map fun k => ns.getD k 0 * ts.getD k 0) (H0 := H) ?_) fun H1 e1 => k _ _ e1 (by rw [dot_range hlt])
    rw [show iv ((List.range ns.length).map fun k => ns.getD k 0 * ts.getD k 0) = (List.range ns.length).map (fun k => V.int (ns.getD k 0 * ts.getD k 0)) from List.map_map]
    refine er_lcRI (fun k => .int (ns.getD k 0 * ts.getD k 0)) (ea_cons (by rw [← e0]; exact ev_lenL (ev_var rfl) (sq_of ha)) ea_nil) (by omega) (fun _ => rfl) fun i hi => ?_
    have hni := hn _ (getD_mem hi)
    exact ev_op (ev_op (ev_var rfl) (ev_var rfl) (rv_ixL (sq_of ha) (atI_ints hi))) (ev_op (ev_var rfl) (ev_var rfl) (rv_ixL (sq_of hb) (atI_ints (by omega)))) (rv_I (.inl hni))
theorem ok_common_of (T : Txt K mg A) : Okk P w K mg base 2 A.a_common_of ["numbers"] (sp_common_of K) := by
  obtain ⟨_, G_shares_of, b_shares_of, k_shares_of⟩ := ok_shares_of (P := P) (w := w) (base := base) T
  refine okk T.F_common_of sc_common_of (fun vs H Q E h => ?_) (fun cdv Ar outer s H vs Q E hr h => ?_)
  · obtain ⟨d, ⟨rfl, _⟩, _⟩ := h
    rfl
  · obtain ⟨⟨_, ns⟩, ⟨rfl, ⟨a, rfl, ha⟩, hl, hn⟩, k⟩ := h
    dsimp only at ha hl hn
    have hr_shares_of : Room 1 _ := hr.mono (by decide)
    refine ⟨_, (pss_cons (ps_set (i := 1) sc_common_of.nd rfl (.inl rfl) pe_int)
      (pss_cons (ps_set (i := 2) sc_common_of.nd rfl (.inl rfl) (pe_lst pa_nil))
      (pss_cons (ps_for PassesOwn.never rfl (pi_listK K (pv 0)) (pg_name (i := 3) sc_common_of.nd rfl (Or.inl rfl)) (pss_cons (ps_asg (pe_call G_shares_of hr_shares_of (by rfl) T.g_shares_of k_shares_of b_shares_of .nil pass0 (pa_cons (pv 1) (pa_cons (pv 3) pa_nil))) (pg_tupK (n := 3) K rfl (pgs_cons (pg_name (i := 4) sc_common_of.nd rfl (Or.inl rfl)) (pgs_cons (pg_name (i := 5) sc_common_of.nd rfl (Or.inr rfl)) (pgs_cons (pg_name (i := 6) sc_common_of.nd rfl (Or.inl rfl)) pgs_nil)))))
      (pss_one (ps_if (pt_cmpR op_ne (pv 4) (pv 1) (nomark _)) (pss_cons (ps_set (i := 2) sc_common_of.nd rfl (.inl rfl) (pe_op op_cat (pe_lc (own := [("often", 7)]) rfl sc_common_of.nd (pi_listK K (pv 2)) (blkOk_by (N := ["numbers", "part", "times", "number", "found", "mine", "theirs", "often"]) (sc := defScope s_common_of) (by decide +kernel)) (fun _ _ _ _ _ => (pg_name (i := 7) sc_common_of.nd rfl (Or.inl rfl))) (fun _ _ _ _ _ => pts_nil) (fun _ _ _ _ _ => (pe_op op_mul (pv 7) (pv 5)))) (pe_lst (pa_cons (pv 6) pa_nil))))
      (pss_one (ps_set (i := 1) sc_common_of.nd rfl (.inl rfl) (pv 4)))) (pss_one (ps_expr (pe_bm PySem.F.plainAttrs_list PySem.F.slot_list_append PySem.F.type_list_append mt_append (pv 2) (pa_cons pe_int pa_nil))))))))
      (pss_one (ps_ret (pe_tup (pa_cons (pv 1) (pa_cons (pv 2) pa_nil)))))))), ?_⟩
    refine q_asg ev_c fun H1 e1 => ?_
    refine q_asgL (xs := []) (el_lst ea_nil (by decide)) fun l0 H2 h0 e2 h2 => ?_
    refine q_forLn (xs := iv ns) (ev_var rfl) (sq_of ((e1.trans e2) _ _ ha)) (fun i σ' H' => ∃ (p : Int) (l : Addr) (ts : List Int) (s3 s4 s5 s6 s7 : Option V), σ' = [some (.ref a), some (.int p), some (.ref l), s3, s4, s5, s6, s7] ∧ Ex H H' ∧ H l = none ∧ H' l = some (.lst (iv ts)) ∧ CommonOk p ts (ns.take i) ∧ p ≤ 1000000)
      (fun H3 e3 => ⟨0, l0, [], _, _, _, _, _, rfl, (e1.trans e2).trans e3, fresh_back e1 h0, e3 _ _ h2, by rw [List.take_zero]; exact CommonOk.nil, by decide⟩) (fun i σ' H' _ ⟨p, l, ts, s3, s4, s5, s6, s7, _, e, _⟩ => sq_of (e _ _ ha)) (fun i x σ' H' hx hP => ?_) (fun σ' H' hP => ?_)
    · obtain ⟨p, l, ts, s3, s4, s5, s6, s7, rfl, e3, hln, hl3, cok, hp⟩ := hP
      obtain ⟨n, hni, rfl⟩ : ∃ n, ns[i]? = some n ∧ x = .int n := by
        rw [List.getElem?_map] at hx
        cases e : ns[i]? with
        | none => rw [e] at hx; cases hx
        | some n => rw [e] at hx; exact ⟨n, rfl, (Option.some.inj hx).symm⟩
      have hnb := hn n (List.mem_of_getElem? hni)
      have htk : ns.take (i + 1) = ns.take i ++ [n] := by rw [List.take_add_one, hni]; rfl
      have hlen : ts.length ≤ 10000 := by
        have := cok.len
        rw [List.length_take] at this
        omega
      refine q_asgG (er_call (p, n) (ea_cons (ev_var rfl) (ea_cons (ev_var rfl) ea_nil)) (fun H4 e4 => ⟨rfl, by show n.natAbs ≤ 1000000; omega⟩) fun _ v H4 _ _ q => q) fun v H4 e4 h4 => ?_
      obtain ⟨tp, g, x, y, rfl, htp, sh⟩ := h4
      dsimp only at sh
      have hx : x.natAbs ≤ 1000001 := by have := sh.sm; omega
      refine g_tup3 (st_of htp) ?_
      refine s_if (et_test (ev_op (ev_var rfl) (ev_var rfl) rv_neI)) (fun hb H5 e5 => ?_) (fun hb H5 e5 => ?_)
      · have hl5 := e5 _ _ (e4 _ _ hl3)
        refine q_asgR (er_cat (xs := iv (ts.map (· * x))) (ys := iv [y]) ((er_lcI (fun n => .int (n * x)) (ev_var rfl) (sq_of hl5) (by omega) (fun _ => rfl) fun n hn => ev_op (ev_var rfl) (ev_var rfl) (rv_I (.inr ⟨by omega, by omega⟩))).imp fun v H6 _ ⟨q, hv, _, hq⟩ => ⟨q, hv, by rw [iv_map]; exact hq⟩) ((er_new (ea_cons (ev_var rfl) ea_nil) (by walk_at "sz")).imp fun v H6 _ ⟨q, hv, _, hq⟩ => ⟨q, hv, hq⟩) (by simp; omega)) fun v H6 e6 h6 => ?_
        obtain ⟨l2, rfl, hl2n, hl2⟩ := h6
        refine s_asg (ev_var rfl) fun H7 e7 => ?_
        have e37 := e3.trans (e4.trans (e5.trans (e6.trans e7)))
        refine ⟨g, l2, ts.map (· * x) ++ [y], _, _, _, _, _, rfl, e37, fresh_back (e3.trans (e4.trans e5)) hl2n, by rw [iv_append]; exact e7 _ _ hl2, by rw [htk]; exact cok.more sh, ?_⟩
        rw [sh.eq]
        exact pt_le cok.nn hp (by omega) (by decide)
      · have hgp : g = p := by simpa using hb
        have hl5 := e5 _ _ (e4 _ _ hl3)
        refine s_app hl5 (ev_var rfl) ev_c (by rw [List.length_map]; omega) fun H6 e6 => ?_
        have e36 := e3.trans (e4.trans (e5.trans e6))
        exact ⟨p, l, ts ++ [0], _, _, _, _, _, rfl, Ex.mut e36 hln, hln, by rw [upd_same, iv_append]; rfl, by rw [htk]; exact cok.same sh hgp, hp⟩
    · obtain ⟨p, l, ts, s3, s4, s5, s6, s7, rfl, e3, hln, hl3, cok, hp⟩ := hP
      rw [List.length_map, List.take_length] at cok
      refine s_retU (eu_tup (by walk_at "ev") (by walk_at "sz")) fun t H4 ht e4 h4 => k _ _ (e3.trans e4) ⟨t, p, l, ts, rfl, h4, hln, e4 _ _ hl3, cok, hp⟩
end
/-! ### Bar, Back: made, asked; back -/
/-- one field, stored by __init__ -/
def spI1 (C : Addr) (f : Str) : Sp := spI C (fun us _ => ∃ x, us = [x]) (fun us _ _ fs => ∃ x, us = [x] ∧ fs = [(f, x)])
def BarAt (A : Ad) (H : Hp) (v : V) (g : Int) : Prop := ∃ a dx, v = .ref a ∧ H a = some (.ins A.c_Bar dx [("part", .int g)])
def BackAt (A : Ad) (H : Hp) (v : V) (r : Int) : Prop := ∃ a dx, v = .ref a ∧ H a = some (.ins A.c_Back dx [("rest", .int r)])
theorem BarAt.up {A : Ad} {H H' : Hp} {v : V} {g : Int} (e : Ex H H') (h : BarAt A H v g) : BarAt A H' v g := by
  obtain ⟨a, dx, r, h⟩ := h
  exact ⟨a, dx, r, e _ _ h⟩
theorem BackAt.up {A : Ad} {H H' : Hp} {v : V} {g : Int} (e : Ex H H') (h : BackAt A H v g) : BackAt A H' v g := by
  obtain ⟨a, dx, r, h⟩ := h
  exact ⟨a, dx, r, e _ _ h⟩
theorem lk1 {f : Str} {x : V} : List.lookup f [(f, x)] = some x := by simp [List.lookup]
theorem er_make1 {σ : L2.St} {H : Hp} {ta : TE} {C : Addr} {f : Str} {E : XK} {x : V} (h : Ev ta σ H x) : EvR (tMake C (spI1 C f) [] E (tCons ta tNil)) σ H (fun v H2 => ∃ a dx, v = .ref a ∧ H a = none ∧ H2 a = some (.ins C dx [(f, x)])) :=
  er_make (ear (ea_cons h ea_nil)) (fun us H1 H2 _ p _ => ⟨_, p⟩) fun us H1 H2 H3 fs a dx e p _ _ ha hi ⟨y, hy, hf⟩ => by
    subst hf
    rw [p] at hy
    cases hy
    exact ⟨a, dx, rfl, fresh_back e ha, hi⟩
def sp_Bar_bars (A : Ad) : Sp := spX (fun (d : V × Int × Int × Int) vs H => vs = [d.1, .int d.2.2.1, .int d.2.2.2] ∧ BarAt A H d.1 d.2.1) (fun d _ v _ => v = .bl (barsF d.2.1 d.2.2.1 d.2.2.2))
def sp_Back_shows (A : Ad) : Sp := spX (fun (d : V × Int × Int × Int) vs H => vs = [d.1, .int d.2.2.1, .int d.2.2.2] ∧ BackAt A H d.1 d.2.1 ∧ 0 < d.2.2.2 ∧ d.2.2.2 ≤ 1000000) (fun d _ v _ => v = .bl (backF d.2.1 d.2.2.1 d.2.2.2))
def BackRes (A : Ad) (n t : Int) (v : V) (H : Hp) : Prop := (∃ g, BarAt A H v g ∧ BarOk g n t) ∨ (∃ r, BackAt A H v r ∧ BackOk r n t)
def sp_back (A : Ad) : Sp := spX (fun (d : Int × Int) vs _ => vs = [.int d.1, .int d.2] ∧ -1000000 ≤ d.1 ∧ d.1 ≤ 1000000 ∧ 1 ≤ d.2 ∧ d.2 ≤ 1000000) (fun d _ v H' => BackRes A d.1 d.2 v H')
section
variable {P : Program} {w : World} {K : PySem.W.Frag} {mg : Str → Option Value} {base : Heap} {A : Ad}
theorem ok_Bar_init (T : Txt K mg A) : Okk P w K mg base 1 A.a_Bar_init ["self", "part"] (spI1 A.c_Bar "part") := by
  refine okk T.F_Bar_init sc_Bar_init (fun vs H Q E h => ?_) (fun cdv Ar outer s H vs Q E hr h => ?_)
  · obtain ⟨x, dx, us, rfl, _, ⟨y, rfl⟩, _⟩ := h
    rfl
  · obtain ⟨x, dx, us, rfl, hx, ⟨y, rfl⟩, k⟩ := h
    refine ⟨_, (pss_one (ps_fld (pv 0) (pv 1) rfl)), ?_⟩
    exact ⟨_, rfl, _, rfl, x, A.c_Bar, dx, _, rfl, hx, T.cl_Bar, T.n_Bar_part, (by decide), k _ _ (fun b o hb h => by rw [upd_ne hb]; exact h) upd_same ⟨y, rfl, rfl⟩⟩
end
/-! ### Times: made, asked; Bar asked; come -/
def TimesAt (A : Ad) (H : Hp) (v : V) (l : Addr) (ts : List Int) : Prop := ∃ a dx, v = .ref a ∧ H a = some (.ins A.c_Times dx [("times", .ref l)]) ∧ H l = some (.lst (iv ts))
theorem TimesAt.up {A : Ad} {H H' : Hp} {v : V} {l : Addr} {ts : List Int} (e : Ex H H') (h : TimesAt A H v l ts) : TimesAt A H' v l ts := by
  obtain ⟨a, dx, r, h1, h2⟩ := h
  exact ⟨a, dx, r, e _ _ h1, e _ _ h2⟩
def sp_Times_init (A : Ad) : Sp := spI A.c_Times (fun us H => ∃ (l : Addr) (xs : List V), us = [.ref l] ∧ H l = some (.lst xs)) (fun us H H' fs => ∃ (l : Addr) (xs : List V) (l2 : Addr), us = [.ref l] ∧ H l = some (.lst xs) ∧ H l2 = none ∧ H' l2 = some (.lst xs) ∧ fs = ([("times", .ref l2)] : List (Str × V)))
def big (ns : List Int) : Prop := ns.length ≤ 10000 ∧ ∀ n ∈ ns, -(2 ^ 64) < n ∧ n < 2 ^ 64
/-- data: the object, its list, what it holds, the numbers' list, the numbers, round, rest -/
structure TimesD where
  o : V
  l : Addr
  ts : List Int
  q : V
  ns : List Int
  t : Int
  r : Int
def sp_Times_shows (A : Ad) : Sp := spX (fun (d : TimesD) vs H => vs = [d.o, d.q, .int d.t, .int d.r] ∧ TimesAt A H d.o d.l d.ts ∧ LstAt (iv d.ns) d.q H ∧ big d.ns ∧ d.ts.length ≤ 10000 ∧ 0 < d.t) (fun d _ v _ => v = .bl (timesS d.ts d.ns d.t d.r))
structure BarD where
  o : V
  g : Int
  q : V
  ns : List Int
  t : Int
  r : Int
def sp_Bar_shows (A : Ad) : Sp := spX (fun (d : BarD) vs H => vs = [d.o, d.q, .int d.t, .int d.r] ∧ BarAt A H d.o d.g ∧ LstAt (iv d.ns) d.q H ∧ big d.ns) (fun d _ v _ => v = .bl (barS d.g d.ns d.t d.r))
/-- data of come: the list, the numbers, round, rest -/
structure ComeD where
  q : V
  ns : List Int
  t : Int
  r : Int
def ComePre (d : ComeD) (H : Hp) : Prop := LstAt (iv d.ns) d.q H ∧ d.ns.length ≤ 5000 ∧ (∀ n ∈ d.ns, -1000000 ≤ n ∧ n ≤ 1000000) ∧ 1 ≤ d.t ∧ d.t ≤ 1000000 ∧ 0 ≤ d.r ∧ d.r < d.t
def sp_come (A : Ad) : Sp := spX (fun (d : ComeD) vs H => vs = [d.q, .int d.t, .int d.r] ∧ ComePre d H)
  (fun d H v H' => (∃ g, BarAt A H' v g ∧ BarSOk g d.ns d.t d.r) ∨ ∃ l ts, TimesAt A H' v l ts ∧ H l = none ∧ TimesOk ts d.ns d.t d.r)
section
variable {P : Program} {w : World} {K : PySem.W.Frag} {mg : Str → Option Value} {base : Heap} {A : Ad}
theorem ok_Times_init (T : Txt K mg A) : Okk P w K mg base 1 A.a_Times_init ["self", "times"] (sp_Times_init A) := by
  refine okk T.F_Times_init sc_Times_init (fun vs H Q E h => ?_) (fun cdv Ar outer s H vs Q E hr h => ?_)
  · obtain ⟨x, dx, us, rfl, _, ⟨l, xs, rfl, _⟩, _⟩ := h
    rfl
  · obtain ⟨x, dx, us, rfl, hx, ⟨l, xs, rfl, hl⟩, k⟩ := h
    refine ⟨_, (pss_one (ps_fld (pv 0) (pe_callTy (list_ofK K) (by rfl) T.z_list (by decide +kernel) (pa_cons (pv 1) pa_nil)) rfl)), ?_⟩
    refine ⟨.ref l, rfl, l, xs, rfl, .inl (sq_of hl), fun l2 h2 => ?_⟩
    have h2x : x ≠ l2 := ne_of_none hx h2
    refine ⟨_, rfl, x, A.c_Times, dx, _, rfl, (by rw [upd_ne h2x]; exact hx), T.cl_Times, T.n_Times_times, (by decide), ?_⟩
    refine k _ _ (fun b o hb h => ?_) upd_same ⟨l, xs, l2, rfl, hl, h2, by rw [upd_ne h2x.symm, upd_same], rfl⟩
    rw [upd_ne hb, upd_ne (ne_of_none h h2)]
    exact h
theorem er_Times {σ : L2.St} {H : Hp} {tb : TE} {E : XK} {xs : List V} {R : V → Hp → Prop} (h : EvR tb σ H R) (hR : ∀ v H1, R v H1 → ∃ l, v = .ref l ∧ H1 l = some (.lst xs)) : EvR (tMake A.c_Times (sp_Times_init A) [] E (tCons tb tNil)) σ H (fun v H2 => ∃ a dx l2, v = .ref a ∧ H2 a = some (.ins A.c_Times dx [("times", .ref l2)]) ∧ H l2 = none ∧ H2 l2 = some (.lst xs)) :=
  er_make (ear_one h) (fun us H1 H2 e ⟨v, hu, hv⟩ e2 => by
    obtain ⟨l, rfl, hl⟩ := hR v H1 hv
    exact ⟨l, xs, hu, e2 _ _ hl⟩) fun us H1 H2 H3 fs a dx e ⟨v, hu, hv⟩ e2 e3 ha hi ⟨l', xs', l2, hu', hl', hn, h3, hf⟩ => by
    obtain ⟨l, rfl, hl⟩ := hR v H1 hv
    rw [hu] at hu'
    cases hu'
    have : xs' = xs := by
      have := hl'.symm.trans (e2 _ _ hl)
      cases this
      rfl
    subst this hf
    exact ⟨a, dx, l2, rfl, hi, fresh_back (e.trans e2) hn, h3⟩
theorem ok_Bar_shows (T : Txt K mg A) : Okk P w K mg base 1 A.a_Bar_shows ["self", "numbers", "turn", "rest"] (sp_Bar_shows A) := by
  refine okk T.F_Bar_shows sc_Bar_shows (fun vs H Q E h => ?_) (fun cdv Ar outer s H vs Q E hr h => ?_)
  · obtain ⟨d, ⟨rfl, _⟩, _⟩ := h
    rfl
  · obtain ⟨⟨_, g, _, ns, t, r⟩, ⟨rfl, ⟨a, dx, rfl, ho⟩, ⟨q, rfl, hq⟩, hlen, hn⟩, k⟩ := h
    dsimp only at ho hq hlen hn
    refine ⟨_, (pss_cons (ps_if (PW.pt (pw_or (pt_cmpR op_lt (pe_fldK K (pv 0) rfl) pe_int (nomark _)) (pw_or (pt_cmpR op_ne (pe_op op_mod (pv 2) (pe_fldK K (pv 0) rfl)) pe_int (nomark _)) (pw_or1 (pt_cmpR op_eq (pe_op op_mod (pv 3) (pe_fldK K (pv 0) rfl)) pe_int (nomark _)))))) (pss_one (ps_ret pe_bl)) pss_nil)
      (pss_one (ps_ret (pe_callB (allK K rfl) (by rfl) T.z_all (by decide +kernel) (pa_cons (pe_lc (own := [("number", 4)]) rfl sc_Bar_shows.nd (pi_listK K (pv 1)) (blkOk_by (N := ["self", "numbers", "turn", "rest", "number"]) (sc := defScope s_Bar_shows) (by decide +kernel)) (fun _ _ _ _ _ => (pg_name (i := 4) sc_Bar_shows.nd rfl (Or.inl rfl))) (fun _ _ _ _ _ => pts_nil) (fun _ _ _ _ _ => (pe_cmpR op_eq (pe_op op_mod (pv 4) (pe_fldK K (pv 0) rfl)) pe_int (nomark _)))) pa_nil))))), ?_⟩
    have fp : ∀ σ : L2.St, σ[0]? = some (some (.ref a)) → ∀ H1, Ex H H1 → Ev (tFld K (tVar 0) "part") σ H1 (.int g) := fun σ hσ H1 e => ev_fld (ev_var hσ) (e _ _ ho) T.cl_Bar T.n_Bar_part lk1
    refine q_when (b := decide (g < 2) || (!decide (t % g = 0) || decide (r % g = 0))) ?_ (fun hb H1 e1 => ?_) (fun hb H1 e1 => ?_)
    · refine et_or (et_test (ev_op (fp _ rfl _ (Ex.refl _)) ev_c rv_I0)) fun h2 => ?_
      have hg : 0 < g := by
        have := of_decide_eq_false h2
        omega
      exact et_or (et_test (ev_op (ev_op (ev_var rfl) (fp _ rfl _ (Ex.refl _)) (rv_I hg)) ev_c rv_neI)) fun _ => et_test (ev_op (ev_op (ev_var rfl) (fp _ rfl _ (Ex.refl _)) (rv_I hg)) ev_c rv_eqI)
    · refine s_ret ev_c fun H2 e2 => k _ _ (e1.trans e2) ?_
      show V.bl false = V.bl (barS g ns t r)
      unfold barS
      rw [hb]
      rfl
    · have hg : 0 < g := by
        simp only [Bool.or_eq_false_iff, decide_eq_false_iff_not] at hb
        omega
      have hd : barS g ns t r = ns.all fun n => decide (n % g = 0) := by
        unfold barS
        rw [hb]
        simp
      refine s_ret (v := .bl (barS g ns t r)) (ev_is (ev_allN (bs := ns.map fun n => decide (n % g = 0)) (H0 := H1) ?_) (by rw [hd, List.all_map]; rfl)) fun H2 e2 => k _ _ (e1.trans e2) rfl
      rw [← map_bl]
      exact er_lcI (fun n => .bl (decide (n % g = 0))) (ev_var rfl) (sq_of (e1 _ _ hq)) (by omega) (fun _ => rfl) fun n hn => ev_op (ev_op (ev_var rfl) (fp _ rfl _ e1) (rv_I hg)) ev_c rv_eqI
theorem ok_Times_shows (T : Txt K mg A) : Okk P w K mg base 2 A.a_Times_shows ["self", "numbers", "turn", "rest"] (sp_Times_shows A) := by
  obtain ⟨_, G_sum_of, b_sum_of, k_sum_of⟩ := ok_sum_of (P := P) (w := w) (base := base) T
  refine okk T.F_Times_shows sc_Times_shows (fun vs H Q E h => ?_) (fun cdv Ar outer s H vs Q E hr h => ?_)
  · obtain ⟨d, ⟨rfl, _⟩, _⟩ := h
    rfl
  · obtain ⟨⟨_, l, ts, _, ns, t, r⟩, ⟨rfl, ⟨a, dx, rfl, ho, hl⟩, ⟨q, rfl, hq⟩, ⟨hlen, hn⟩, htl, ht⟩, k⟩ := h
    dsimp only at ho hl hq hlen hn htl ht
    have hr_sum_of : Room 1 _ := hr.mono (by decide)
    refine ⟨_, (pss_cons (ps_if (PW.pt (pw_or (pt_cmpR op_ne (pe_callB (len_seqK K) (by rfl) T.z_len (by decide +kernel) (pa_cons (pe_fldK K (pv 0) rfl) pa_nil)) (pe_callB (len_seqK K) (by rfl) T.z_len (by decide +kernel) (pa_cons (pv 1) pa_nil)) (nomark _)) (pw_or1 (pt_not (pt_val (pe_callB (allK K rfl) (by rfl) T.z_all (by decide +kernel) (pa_cons (pe_lc (own := [("often", 4)]) rfl sc_Times_shows.nd (pi_listK K (pe_fldK K (pv 0) rfl)) (blkOk_by (N := ["self", "numbers", "turn", "rest", "often"]) (sc := defScope s_Times_shows) (by decide +kernel)) (fun _ _ _ _ _ => (pg_name (i := 4) sc_Times_shows.nd rfl (Or.inl rfl))) (fun _ _ _ _ _ => pts_nil) (fun _ _ _ _ _ => (pe_chain op_le op_lt pe_int (pv 4) (pv 2)))) pa_nil))))))) (pss_one (ps_ret pe_bl)) pss_nil)
      (pss_one (ps_ret (pe_cmpR op_eq (pe_op op_mod (pe_call G_sum_of hr_sum_of (by rfl) T.g_sum_of k_sum_of b_sum_of .nil pass0 (pa_cons (pv 1) (pa_cons (pe_fldK K (pv 0) rfl) pa_nil))) (pv 2)) (pv 3) (nomark _))))), ?_⟩
    have ft : ∀ σ : L2.St, σ[0]? = some (some (.ref a)) → ∀ H1, Ex H H1 → Ev (tFld K (tVar 0) "times") σ H1 (.ref l) := fun σ hσ H1 e => ev_fld (ev_var hσ) (e _ _ ho) T.cl_Times T.n_Times_times lk1
    refine q_when (b := !decide (ts.length = ns.length) || !(ts.all fun o => decide (0 ≤ o) && decide (o < t))) ?_ (fun hb H1 e1 => ?_) (fun hb H1 e1 => ?_)
    · refine et_or ?_ fun _ => et_not (et_B (ev_is (ev_allN (bs := ts.map fun o => decide (0 ≤ o) && decide (o < t)) (H0 := H) ?_) (by rw [List.all_map]; rfl)))
      · refine et_is (et_test (ev_op (ev_lenL (ft _ rfl _ (Ex.refl _)) (sq_of hl)) (ev_lenL (ev_var rfl) (sq_of hq)) rv_neI)) ?_
        rw [iv_len, iv_len]
        congr 1
        exact decide_eq_decide.mpr (by omega)
      · rw [← map_bl]
        exact er_lcI (fun o => .bl (decide (0 ≤ o) && decide (o < t))) (ft _ rfl _ (Ex.refl _)) (sq_of hl) (by omega) (fun _ => rfl) fun n hn => ev_chain ev_c (ev_var rfl) rv_I0 (fun _ => ev_var rfl) fun _ => rv_I0
    · refine s_ret ev_c fun H2 e2 => k _ _ (e1.trans e2) ?_
      show V.bl false = V.bl (timesS ts ns t r)
      unfold timesS
      rw [hb]
      rfl
    · have hd : timesS ts ns t r = decide (dot ns ts % t = r) := by
        unfold timesS
        rw [hb]
        simp
      have hlt : ts.length = ns.length := by
        simp only [Bool.or_eq_false_iff, Bool.not_eq_false', decide_eq_true_eq] at hb
        exact hb.1
      refine s_ret (v := .bl (timesS ts ns t r)) (ev_is (ev_op (ev_op (ev_call0 (z := .int (dot ns ts)) (V.ref q, V.ref l, ns, ts) (ea_cons (ev_var rfl) (ea_cons (ft _ rfl _ e1) ea_nil)) (fun H2 e => ⟨rfl, ⟨q, rfl, e _ _ (e1 _ _ hq)⟩, ⟨l, rfl, e _ _ (e1 _ _ hl)⟩, hlt.symm, hlen, hn⟩) fun _ _ _ q => q) (ev_var rfl) (rv_I ht)) (ev_var rfl) rv_eqI) (by rw [hd])) fun H2 e2 => k _ _ (e1.trans e2) rfl
theorem ok_come (T : Txt K mg A) : Okk P w K mg base 4 A.a_come ["numbers", "turn", "rest"] (sp_come A) := by
  obtain ⟨_, G_Bar_init, b_Bar_init, k_Bar_init⟩ := ok_Bar_init (P := P) (w := w) (base := base) T
  obtain ⟨_, G_Times_init, b_Times_init, k_Times_init⟩ := ok_Times_init (P := P) (w := w) (base := base) T
  obtain ⟨_, G_check_numbers, b_check_numbers, k_check_numbers⟩ := ok_check_numbers (P := P) (w := w) (base := base) T
  obtain ⟨_, G_check_turn, b_check_turn, k_check_turn⟩ := ok_check_turn (P := P) (w := w) (base := base) T
  obtain ⟨_, G_common_of, b_common_of, k_common_of⟩ := ok_common_of (P := P) (w := w) (base := base) T
  obtain ⟨_, G_is_whole, b_is_whole, k_is_whole⟩ := ok_is_whole (P := P) (w := w) (base := base) T
  refine okk T.F_come sc_come (fun vs H Q E h => ?_) (fun cdv Ar outer s H vs Q E hr h => ?_)
  · obtain ⟨d, ⟨rfl, _⟩, _⟩ := h
    rfl
  · obtain ⟨⟨_, ns, t, r⟩, ⟨rfl, ⟨q, rfl, hq⟩, hlen, hn, t0, t1, r0, r1⟩, k⟩ := h
    dsimp only at hq hlen hn t0 t1 r0 r1
    have hr_Bar_init : Room 2 _ := hr.mono (by decide)
    have hr_Times_init : Room 2 _ := hr.mono (by decide)
    have hr_check_numbers : Room 3 _ := hr.mono (by decide)
    have hr_check_turn : Room 3 _ := hr.mono (by decide)
    have hr_common_of : Room 2 _ := hr.mono (by decide)
    have hr_is_whole : Room 1 _ := hr.mono (by decide)
    refine ⟨_, (pss_cons (ps_expr (pe_call G_check_numbers hr_check_numbers (by rfl) T.g_check_numbers k_check_numbers b_check_numbers .nil pass0 (pa_cons (pv 0) pa_nil)))
      (pss_cons (ps_expr (pe_call G_check_turn hr_check_turn (by rfl) T.g_check_turn k_check_turn b_check_turn .nil pass0 (pa_cons (pv 1) pa_nil)))
      (pss_cons (ps_if (PW.pt (pw_or (pt_not (pt_val (pe_call G_is_whole hr_is_whole (by rfl) T.g_is_whole k_is_whole b_is_whole .nil pass0 (pa_cons (pv 2) pa_nil)))) (pw_or1 (pt_not (pt_chain op_le op_lt pe_int (pv 2) (pv 1)))))) (pss_one ps_never) pss_nil)
      (pss_cons (ps_asg (pe_call G_common_of hr_common_of (by rfl) T.g_common_of k_common_of b_common_of .nil pass0 (pa_cons (pe_op op_cat (pe_lc (own := [("number", 6)]) rfl sc_come.nd (pi_listK K (pv 0)) (blkOk_by (N := ["numbers", "turn", "rest", "part", "times", "often", "number"]) (sc := defScope s_come) (by decide +kernel)) (fun _ _ _ _ _ => (pg_name (i := 6) sc_come.nd rfl (Or.inl rfl))) (fun _ _ _ _ _ => pts_nil) (fun _ _ _ _ _ => (pe_op op_mod (pv 6) (pv 1)))) (pe_lst (pa_cons (pv 1) pa_nil))) pa_nil)) (pg_tupK (n := 2) K rfl (pgs_cons (pg_name (i := 3) sc_come.nd rfl (Or.inr rfl)) (pgs_cons (pg_name (i := 4) sc_come.nd rfl (Or.inl rfl)) pgs_nil))))
      (pss_cons (ps_if (pt_cmpR op_ne (pe_op op_mod (pv 2) (pv 3)) pe_int (nomark _)) (pss_one (ps_ret (pe_make T.mk_Bar G_Bar_init hr_Bar_init (by rfl) T.g_Bar b_Bar_init .nil pass0 (pa_cons (pv 3) pa_nil)))) pss_nil)
      (pss_one (ps_ret (pe_make T.mk_Times G_Times_init hr_Times_init (by rfl) T.g_Times b_Times_init .nil pass0 (pa_cons (pe_lc (own := [("often", 5)]) rfl sc_come.nd (pi_listK K (pe_slice (sl_listK K) (pv 4) po_none (po_some (pe_un un_neg pe_int)))) (blkOk_by (N := ["numbers", "turn", "rest", "part", "times", "often", "number"]) (sc := defScope s_come) (by decide +kernel)) (fun _ _ _ _ _ => (pg_name (i := 5) sc_come.nd rfl (Or.inl rfl))) (fun _ _ _ _ _ => pts_nil) (fun _ _ _ _ _ => (pe_op op_mod (pe_op op_mul (pv 5) (pe_op op_fdiv (pv 2) (pv 3))) (pv 1)))) pa_nil))))))))), ?_⟩
    refine q_drop (v := .non) (ev_call0 (V.ref q, ns) (ea_cons (ev_var rfl) ea_nil) (fun H2 e2 => ⟨rfl, ⟨q, rfl, e2 _ _ hq⟩, by show ns.length ≤ 10000; omega, hn⟩) fun _ v _ p => p) fun H1 e1 => ?_
    refine q_drop (v := .non) (ev_call0 t (ea_cons (ev_var rfl) ea_nil) (fun H2 e2 => ⟨rfl, t0, t1⟩) fun _ v _ p => p) fun H2 e2 => ?_
    refine q_when (b := false) ?_ (fun z => nomatch z) fun _ H3 e3 => ?_
    · refine et_is (et_or (et_not (et_B (ev_call0 (z := .bl true) (V.int r) (ea_cons (ev_var rfl) ea_nil) (fun H1 e => ⟨rfl, plain_int⟩) fun _ _ _ p => p))) fun _ => et_not (et_test (ev_chain ev_c (ev_var rfl) rv_I0 (fun _ => ev_var rfl) fun _ => rv_I0))) ?_
      rw [decide_eq_true r0, decide_eq_true r1]
      rfl
    have e13 := e1.trans (e2.trans e3)
    have hmod : ∀ n, 0 ≤ n % t ∧ n % t < t := fun n => ⟨Int.emod_nonneg _ (by omega), Int.emod_lt_of_pos _ (by omega)⟩
    refine q_asgG (er_call1 (S := fun v H' => ∃ tp p l ts, v = .ref tp ∧ H' tp = some (.tup [.int p, .ref l]) ∧ H' l = some (.lst (iv ts)) ∧ CommonOk p ts (ns.map (fun n => n % t) ++ [t]) ∧ p ≤ 1000000) (er_cat (xs := iv (ns.map fun n => n % t)) (ys := iv [t])
      ((er_lcI (fun n => .int (n % t)) (ev_var rfl) (sq_of (e13 _ _ hq)) (by omega) (fun _ => rfl) fun n hn => ev_op (ev_var rfl) (ev_var rfl) (rv_I (by show 0 < t; omega))).imp fun v H6 _ ⟨q, hv, _, hq⟩ => ⟨q, hv, by rw [iv_map]; exact hq⟩)
      ((er_new (ea_cons (ev_var rfl) ea_nil) (by walk_at "sz")).imp fun v H6 _ ⟨q, hv, _, hq⟩ => ⟨q, hv, hq⟩) (by rw [iv_len, List.length_map]; show ns.length + 1 ≤ 100000; omega)) fun x H4 e4 ⟨q2, hx, _, hq2⟩ => ⟨(x, ns.map (fun n => n % t) ++ [t]), ⟨rfl, ⟨q2, hx, by rw [iv_append]; exact hq2⟩, by simp; omega, fun n hn => ?_⟩, fun v H5 _ ⟨tp, p, l, ts, a1, a2, _, a4, a5, a6⟩ => ⟨tp, p, l, ts, a1, a2, a4, a5, a6⟩⟩) fun v H4 e4 h4 => ?_
    · rcases List.mem_append.mp hn with h | h
      · obtain ⟨m, _, rfl⟩ := List.mem_map.mp h
        have := hmod m
        omega
      · rw [List.mem_singleton.mp h]
        omega
    obtain ⟨tp, p, l, ts, rfl, htp, hl4, cok, hp1⟩ := h4
    obtain ⟨p0, pt', _⟩ := come_pos cok t0
    refine g_tup2 (st_of htp) ?_
    refine q_when (b := !decide (r % p = 0)) (et_test (ev_op (ev_op (ev_var rfl) (ev_var rfl) (rv_I p0)) ev_c rv_neI)) (fun hb H5 e5 => ?_) fun hb H5 e5 => ?_
    · have hb' : ¬ r % p = 0 := by simpa using hb
      refine s_retR (er_make1 (ev_var rfl)) fun v H6 e6 h6 => k _ _ (e13.trans (e4.trans (e5.trans e6))) (.inl ⟨p, ?_, come_bar cok t0 hb'⟩)
      obtain ⟨a, dx, rfl, _, h⟩ := h6
      exact ⟨a, dx, rfl, h⟩
    · have hb' : r % p = 0 := by simpa using hb
      have htl : ts.length ≤ 10000 := by
        have := cok.len
        simp at this
        omega
      have hrp : 0 ≤ r / p ∧ r / p ≤ 1000000 := by
        have h1 : 0 ≤ r / p := Int.ediv_nonneg r0 (by omega)
        have h2 : r / p ≤ r := Int.ediv_le_self _ r0
        omega
      have hl5 := e5 _ _ hl4
      refine s_retR (er_Times (xs := iv (ts.dropLast.map fun o => o * (r / p) % t)) (er_lcNI (ns := ts.dropLast) (S := NewL (iv ts.dropLast) H5) (fun o => .int (o * (r / p) % t))
        ((er_sl (ev_var rfl) eo_none (eo_some (ev_un ev_c ru_neg)) (sq_of hl5)).imp fun v H6 _ ⟨q, hv, hn, hq⟩ => ⟨q, hv, hn, by rw [← iv_dropLast, ← cut_last]; exact hq⟩) (fun v H6 _ ⟨q, hv, _, hq⟩ => ⟨q, hv, sq_of hq⟩) (by rw [List.length_dropLast]; omega) (fun _ => rfl)
        fun H6 e6 o ho => ?_) fun v H6 ⟨q, hv, _, hq⟩ => ⟨q, hv, by rw [iv_map]; exact hq⟩) fun v H6 e6 h6 => k _ _ (e13.trans (e4.trans (e5.trans e6))) (.inr ?_)
      · exact ev_op (ev_op (ev_var rfl) (ev_op (ev_var rfl) (ev_var rfl) (rv_I ⟨p0, by omega⟩)) (rv_I (.inr (by show -(2 ^ 64) < r / p ∧ r / p < 2 ^ 64; omega)))) (ev_var rfl) (rv_I (by show 0 < t; omega))
      · obtain ⟨a, dx, l2, rfl, ho, hn2, hl2⟩ := h6
        exact ⟨l2, _, ⟨a, dx, rfl, ho, hl2⟩, fresh_back (e13.trans (e4.trans e5)) hn2, come_times cok t0 hb' r0 r1⟩
end
/-! ### a cell of the script, a draw, rounds -/
/-- a script at a: ns -/
def Scr (K : PySem.W.Frag) (H : Hp) (v : V) (ns : List Int) : Prop := ∃ a, v = .ref a ∧ SqL K H a (ns.map V.int) ∧ ns.length ≤ 63
theorem Scr.up {K : PySem.W.Frag} {H H' : Hp} {v : V} {ns : List Int} (e : Ex H H') (h : Scr K H v ns) : Scr K H' v ns := by
  obtain ⟨a, r, h, l⟩ := h
  exact ⟨a, r, ex_l e h, l⟩
def sp_l_cell_at (K : PySem.W.Frag) : Sp := spX (fun (d : V × List Int × Nat) vs H => vs = [d.1, .int d.2.2] ∧ Scr K H d.1 d.2.1) (fun d _ v _ => v = .int (d.2.1.getD d.2.2 0))
def sp_l_draw (_ : PySem.W.Frag) : Sp := spX (fun (d : Int × Int × Int) vs _ => vs = [.int d.1, .int d.2.1, .int d.2.2] ∧ 0 ≤ d.2.1 ∧ 0 < d.2.2) (fun d _ v _ => ∃ r, v = .int r ∧ 0 ≤ r ∧ r < d.2.2)
section
variable {P : Program} {w : World} {K : PySem.W.Frag} {mg : Str → Option Value} {base : Heap} {A : Ad}
theorem ok_l_cell_at (T : Txt K mg A) : Okk P w K mg base 1 A.a_l_cell_at ["_law_script", "_law_k"] (sp_l_cell_at K) := by
  refine okk T.F_l_cell_at sc_l_cell_at (fun vs H Q E h => ?_) (fun cdv Ar outer s H vs Q E hr h => ?_)
  · obtain ⟨d, ⟨rfl, _⟩, _⟩ := h
    rfl
  · obtain ⟨⟨_, ns, j⟩, ⟨rfl, a, rfl, hS, hl⟩, k⟩ := h
    refine ⟨_, (pss_cons (ps_if (pt_cmpR op_lt (pv 1) (pe_callB (len_seqK K) (by rfl) T.z_len (by decide +kernel) (pa_cons (pv 0) pa_nil)) (nomark _)) (pss_one (ps_ret (pe_ix (ix_listK K) (pv 0) (pv 1) (fun _ _ => rfl)))) pss_nil)
      (pss_one (ps_ret pe_int))), ?_⟩
    have e0 : ((ns.map V.int).length : Int) = (ns.length : Int) := by rw [List.length_map]
    refine q_when (b := decide ((j : Int) < (ns.length : Int))) ?_ (fun hb H1 e1 => ?_) (fun hb H1 e1 => ?_)
    · rw [← e0]
      exact et_test (ev_op (ev_var rfl) (ev_lenL (ev_var rfl) hS) rv_I0)
    · have hj : j < ns.length := by
        have := of_decide_eq_true hb
        omega
      refine s_ret (v := .int (ns.getD j 0)) (ev_op (ev_var rfl) (ev_var rfl) (rv_ixL (ex_l e1 hS) ?_)) fun H2 e2 => k _ _ (e1.trans e2) rfl
      refine atI_nat ?_
      rw [List.getElem?_map, List.getD_eq_getElem?_getD, List.getElem?_eq_getElem hj]
      rfl
    · have hj : ¬ j < ns.length := fun z => by
        have := of_decide_eq_false hb
        omega
      refine s_ret (v := .int (ns.getD j 0)) ?_ fun H2 e2 => k _ _ (e1.trans e2) rfl
      rw [List.getD_eq_getElem?_getD, List.getElem?_eq_none (by omega)]
      exact ev_c
abbrev prms : List Int := [1000003, 1000033, 1000037, 1000039, 1000081, 1000099, 1000117, 1000121, 1000133, 1000151, 1000159, 1000171, 1000183, 1000187, 1000193, 1000199]
theorem ok_l_draw (T : Txt K mg A) : Okk P w K mg base 1 A.a_l_draw ["_law_cell", "_law_k", "_law_many"] (sp_l_draw K) := by
  refine okk T.F_l_draw sc_l_draw (fun vs H Q E h => ?_) (fun cdv Ar outer s H vs Q E hr h => ?_)
  · obtain ⟨d, ⟨rfl, _⟩, _⟩ := h
    rfl
  · obtain ⟨⟨c, j, m⟩, ⟨rfl, hj, hm⟩, k⟩ := h
    refine ⟨_, (pss_cons (ps_set (i := 3) sc_l_draw.nd rfl (.inl rfl) (pe_tup (pa_cons pe_int (pa_cons pe_int (pa_cons pe_int (pa_cons pe_int (pa_cons pe_int (pa_cons pe_int (pa_cons pe_int (pa_cons pe_int (pa_cons pe_int (pa_cons pe_int (pa_cons pe_int (pa_cons pe_int (pa_cons pe_int (pa_cons pe_int (pa_cons pe_int (pa_cons pe_int pa_nil))))))))))))))))))
      (pss_one (ps_ret (pe_op op_mod (pe_op op_mod (pe_op op_add (pe_op op_mul (pv 0) pe_int) (pe_op op_mul (pv 1) pe_int)) (pe_ix (ix_tupK K) (pv 3) (pe_op op_mod (pv 1) pe_int) (fun _ _ => rfl))) (pv 2))))), ?_⟩
    refine q_asgU (eu_tup (by walk_at "ev") (by walk_at "sz")) fun p H1 hp e1 h1 => ?_
    have k0 : 0 ≤ j % 16 := Int.emod_nonneg _ (by decide)
    have k1 : j % 16 < 16 := Int.emod_lt_of_pos _ (by decide)
    have hg := getD_all (l := prms) (i := (j % 16).toNat) (a := 1) (b := 2000000) (by decide) (by show (j % 16).toNat < 16; omega)
    have hg1 : 0 < prms.getD (j % 16).toNat 0 := by
      have := hg.1
      omega
    refine s_ret (v := .int ((c * 48271 + j * 69621) % prms.getD (j % 16).toNat 0 % m)) ?_ fun H2 e2 => k _ _ (e1.trans e2) ⟨_, rfl, Int.emod_nonneg _ (Int.ne_of_gt hm), Int.emod_lt_of_pos _ hm⟩
    refine ev_op (ev_op (ev_op (ev_op (ev_var rfl) ev_c (rv_I (.inr (by decide)))) (ev_op (ev_var rfl) ev_c (rv_I (.inr (by decide)))) rv_I0) (ev_op (ev_var rfl) (ev_op (ev_var rfl) ev_c (rv_I (by decide))) (rv_ixT (st_of (show H1 p = some (.tup (prms.map V.int)) from h1)) (atI_map (l := prms) k0 (by show j % 16 < 16; exact k1)))) (rv_I hg1)) (ev_var rfl) (rv_I hm)
theorem ev_cell {σ : L2.St} {H : Hp} {ta tb : TE} {v : V} {ns : List Int} {j : Nat} {E : XK} (h : Ev ta σ H v) (hj : Ev tb σ H (.int (j : Int))) (hS : Scr K H v ns) : Ev (tCall (sp_l_cell_at K) [] E (tCons ta (tCons tb tNil))) σ H (.int (ns.getD j 0)) :=
  ev_call0 (v, ns, j) (ea_cons h (ea_cons hj ea_nil)) (fun H1 e => ⟨rfl, hS.up e⟩) fun _ _ _ p => p
theorem er_draw {σ : L2.St} {H : Hp} {ta tb tc : TE} {c k m : Int} {E : XK} (h : Ev ta σ H (.int c)) (h2 : Ev tb σ H (.int k)) (h3 : Ev tc σ H (.int m)) (hk : 0 ≤ k) (hm : 0 < m) : EvR (tCall (sp_l_draw K) [] E (tCons ta (tCons tb (tCons tc tNil)))) σ H (fun v _ => ∃ r, v = .int r ∧ 0 ≤ r ∧ r < m) :=
  er_call (c, k, m) (ea_cons h (ea_cons h2 (ea_cons h3 ea_nil))) (fun H1 e => ⟨rfl, hk, hm⟩) fun _ _ _ _ _ p => p
end
/-! ### whether it is a list of numbers -/
def sp_l_numbers (_ : PySem.W.Frag) : Sp := spX (fun (d : V × List Int) vs H => vs = [d.1] ∧ LstAt (iv d.2) d.1 H ∧ d.2.length ≤ 10000) (fun _ _ v _ => v = .bl true)
def sp_l_whole (K : PySem.W.Frag) : Sp := spX (fun (d : V) vs H => vs = [d] ∧ PlainV K H d) (fun d _ v _ => v = .bl (isI d))
section
variable {P : Program} {w : World} {K : PySem.W.Frag} {mg : Str → Option Value} {base : Heap} {A : Ad}
theorem ok_l_whole (T : Txt K mg A) : Okk P w K mg base 1 A.a_l_whole ["_law_number"] (sp_l_whole K) := by
  refine okk T.F_l_whole sc_l_whole (fun vs H Q E h => ?_) (fun cdv Ar outer s H vs Q E hr h => ?_)
  · obtain ⟨d, ⟨rfl, _⟩, _⟩ := h
    rfl
  · obtain ⟨d, ⟨rfl, n, ht, hn⟩, k⟩ := h
    refine ⟨_, (pss_one (ps_ret (pe_and (pe_callB (isiK K) (by rfl) T.z_isinstance (by decide +kernel) (pa_cons (pv 0) (pa_cons (pe_bltn (v := .ty "int") (by rfl) T.z_int (by decide +kernel) rfl) pa_nil))) (pe_one (pe_not (pe_callB (isiK K) (by rfl) T.z_isinstance (by decide +kernel) (pa_cons (pv 0) (pa_cons (pe_bltn (v := .ty "bool") (by rfl) T.z_bool (by decide +kernel) rfl) pa_nil)))))))), ?_⟩
    refine s_ret (ev_andV (ev_isi (ev_var rfl) ev_c (.ty _) ht (kit_int hn)) (fun _ => ev_notV (ev_isi (ev_var rfl) ev_c (.ty _) ht (kit_bool hn)))) fun H1 e1 => k _ _ e1 ?_
    show V.bl _ = V.bl (isI d)
    rw [isI_ty ht]
    simp only [List.mem_cons, List.not_mem_nil, or_false] at hn
    rcases hn with h | h | h | h | h | h | h <;> subst h <;> decide +kernel
theorem ok_l_numbers (T : Txt K mg A) : Okk P w K mg base 2 A.a_l_numbers ["_law_found"] (sp_l_numbers K) := by
  obtain ⟨_, G_l_whole, b_l_whole, k_l_whole⟩ := ok_l_whole (P := P) (w := w) (base := base) T
  refine okk T.F_l_numbers sc_l_numbers (fun vs H Q E h => ?_) (fun cdv Ar outer s H vs Q E hr h => ?_)
  · obtain ⟨d, ⟨rfl, _⟩, _⟩ := h
    rfl
  · obtain ⟨⟨_, ns⟩, ⟨rfl, ⟨a, rfl, ha⟩, hl⟩, k⟩ := h
    dsimp only at ha hl
    have hr_l_whole : Room 1 _ := hr.mono (by decide)
    refine ⟨_, (pss_one (ps_ret (pe_and (pe_callB (isiK K) (by rfl) T.z_isinstance (by decide +kernel) (pa_cons (pv 0) (pa_cons (pe_bltn (v := .ty "list") (by rfl) T.z_list (by decide +kernel) rfl) pa_nil))) (pe_one (pe_callB (allK K rfl) (by rfl) T.z_all (by decide +kernel) (pa_cons (pe_lc (own := [("_law_one", 1)]) rfl sc_l_numbers.nd (pi_listK K (pv 0)) (blkOk_by (N := ["_law_found", "_law_one"]) (sc := defScope s_l_numbers) (by decide +kernel)) (fun _ _ _ _ _ => (pg_name (i := 1) sc_l_numbers.nd rfl (Or.inl rfl))) (fun _ _ _ _ _ => pts_nil) (fun _ _ _ _ _ => (pe_call G_l_whole hr_l_whole (by rfl) T.g_l_whole k_l_whole b_l_whole .nil pass0 (pa_cons (pv 1) pa_nil)))) pa_nil)))))), ?_⟩
    refine s_ret (v := .bl true) (ev_andV (a := true) (b := true) (ev_isi (ev_var rfl) ev_c (.ty _) (.base (.lst ha)) kit_ll) fun _ => ?_) fun H1 e1 => k _ _ e1 rfl
    refine ev_is (ev_allN (bs := ns.map fun n => isI (.int n)) (H0 := H) ?_) (by rw [all_true]; intro n hn; rfl)
    rw [← map_bl]
    exact er_lcI (fun n => .bl (isI (.int n))) (ev_var rfl) (sq_of ha) (by omega) (fun _ => rfl) fun n hn => ev_call0 (.int n) (ea_cons (ev_var rfl) ea_nil) (fun H1 e => ⟨rfl, plain_int⟩) fun _ _ _ p => p
end
/-! ### a row of numbers -/
def RowAt (n : Nat) (H : Hp) (v : V) (H' : Hp) : Prop := ∃ ns : List Int, NewL (iv ns) H v H' ∧ ns.length = n ∧ ∀ x ∈ ns, -1000000 ≤ x ∧ x ≤ 1000000
def sp_l_row (K : PySem.W.Frag) : Sp := spX (fun (d : V × List Int) vs H => vs = [d.1] ∧ Scr K H d.1 d.2) (fun d H v H' => RowAt d.2.length H v H')
theorem mul_bound {x b p q : Int} (h0 : -p ≤ x) (h1 : x ≤ p) (h2 : 0 ≤ b) (h3 : b ≤ q) (hp : 0 ≤ p) : -(p * q) ≤ x * b ∧ x * b ≤ p * q := by
  have a1 : x * b ≤ p * b := Int.mul_le_mul_of_nonneg_right h1 h2
  have a2 : -p * b ≤ x * b := Int.mul_le_mul_of_nonneg_right h0 h2
  have a3 : p * b ≤ p * q := Int.mul_le_mul_of_nonneg_left h3 hp
  rw [Int.neg_mul] at a2
  omega
section
variable {P : Program} {w : World} {K : PySem.W.Frag} {mg : Str → Option Value} {base : Heap} {A : Ad}
theorem ok_l_row (T : Txt K mg A) : Okk P w K mg base 2 A.a_l_row ["_law_script"] (sp_l_row K) := by
  obtain ⟨_, G_l_cell_at, b_l_cell_at, k_l_cell_at⟩ := ok_l_cell_at (P := P) (w := w) (base := base) T
  obtain ⟨_, G_l_draw, b_l_draw, k_l_draw⟩ := ok_l_draw (P := P) (w := w) (base := base) T
  refine okk T.F_l_row sc_l_row (fun vs H Q E h => ?_) (fun cdv Ar outer s H vs Q E hr h => ?_)
  · obtain ⟨d, ⟨rfl, _⟩, _⟩ := h
    rfl
  · obtain ⟨⟨_, ns⟩, ⟨rfl, a, rfl, hS, hl⟩, k⟩ := h
    dsimp only at hS hl
    have hr_l_cell_at : Room 1 _ := hr.mono (by decide)
    have hr_l_draw : Room 1 _ := hr.mono (by decide)
    refine ⟨_, (pss_cons (ps_par (i := 1) (j := 2) rfl sc_l_row.nd rfl rfl (by decide) rfl rfl (pa_cons (pe_call G_l_draw hr_l_draw (by rfl) T.g_l_draw k_l_draw b_l_draw .nil pass0 (pa_cons (pe_call G_l_cell_at hr_l_cell_at (by rfl) T.g_l_cell_at k_l_cell_at b_l_cell_at .nil pass0 (pa_cons (pv 0) (pa_cons pe_int pa_nil))) (pa_cons pe_int (pa_cons pe_int pa_nil)))) (pa_cons (pe_op op_add pe_int (pe_call G_l_draw hr_l_draw (by rfl) T.g_l_draw k_l_draw b_l_draw .nil pass0 (pa_cons (pe_call G_l_cell_at hr_l_cell_at (by rfl) T.g_l_cell_at k_l_cell_at b_l_cell_at .nil pass0 (pa_cons (pv 0) (pa_cons pe_int pa_nil))) (pa_cons pe_int (pa_cons pe_int pa_nil))))) pa_nil)) (by rfl))
      (pss_cons (ps_set (i := 3) sc_l_row.nd rfl (.inl rfl) (pe_ix (ix_tupK K) (pe_tup (pa_cons pe_int (pa_cons pe_int (pa_cons pe_int (pa_cons pe_int pa_nil))))) (pv 1) (fun _ _ => rfl)))
      (pss_cons (ps_set (i := 4) sc_l_row.nd rfl (.inl rfl) (pe_lst pa_nil))
      (pss_cons (ps_for PassesOwn.never rfl (pi_range1 (by rfl) T.z_range (pa_cons (pe_callB (len_seqK K) (by rfl) T.z_len (by decide +kernel) (pa_cons (pv 0) pa_nil)) pa_nil)) (pg_name (i := 5) sc_l_row.nd rfl (Or.inl rfl)) (pss_cons (ps_set (i := 6) sc_l_row.nd rfl (.inl rfl) (pe_call G_l_draw hr_l_draw (by rfl) T.g_l_draw k_l_draw b_l_draw .nil pass0 (pa_cons (pe_ix (ix_listK K) (pv 0) (pv 5) (fun _ _ => rfl)) (pa_cons (pe_op op_add (pe_op op_mod (pv 5) pe_int) pe_int) (pa_cons (pe_op op_add (pv 3) pe_int) pa_nil)))))
      (pss_cons (ps_if (pt_cmpR op_eq (pe_call G_l_draw hr_l_draw (by rfl) T.g_l_draw k_l_draw b_l_draw .nil pass0 (pa_cons (pe_ix (ix_listK K) (pv 0) (pv 5) (fun _ _ => rfl)) (pa_cons (pe_op op_add (pe_op op_mod (pv 5) pe_int) pe_int) (pa_cons pe_int pa_nil)))) pe_int (nomark _)) (pss_one (ps_set (i := 6) sc_l_row.nd rfl (.inl rfl) (pe_un un_neg (pv 6)))) pss_nil)
      (pss_one (ps_expr (pe_bm PySem.F.plainAttrs_list PySem.F.slot_list_append PySem.F.type_list_append mt_append (pv 4) (pa_cons (pe_ifExp (pt_cmpR (inK K) (pv 1) (pe_tup (pa_cons pe_int (pa_cons pe_int pa_nil))) (by rfl)) (pe_op op_mul (pv 6) (pv 2)) (pv 6)) pa_nil)))))))
      (pss_one (ps_ret (pv 4))))))), ?_⟩
    have hsc : Scr K H (.ref a) ns := ⟨a, rfl, hS, hl⟩
    have e0 : ((ns.map V.int).length : Int) = (ns.length : Int) := by rw [List.length_map]
    refine q_parR (R := fun vs _ => ∃ kd by_ : Int, vs = [.int kd, .int by_] ∧ 0 ≤ kd ∧ kd < 4 ∧ 1 ≤ by_ ∧ by_ ≤ 40) (ear_cons (er_draw (ev_cell (j := 0) (ev_var rfl) ev_c hsc) ev_c ev_c (by decide) (by decide)) fun z H1 e1 hz => ?_) (fun vs H1 h => ?_) fun v w H1 e1 h1 => ?_
    · obtain ⟨kd, rfl, k0, k1⟩ := hz
      refine (ear_one (er_op (R := fun v _ => ∃ b : Int, v = .int b ∧ 1 ≤ b ∧ b ≤ 40) (evr ev_c) (fun x H2 e2 hx => er_draw (ev_cell (j := 1) (ev_var rfl) ev_c (hsc.up (e1.trans e2))) ev_c ev_c (by decide) (by decide)) ?_)).imp fun vs H2 _ h => ?_
      · rintro x y H4 H5 e4 rfl e5 ⟨r, rfl, r0, r1⟩ Q q
        exact ⟨1, r, rfl, rfl, q _ _ (Ex.refl _) ⟨_, rfl, by omega, by omega⟩⟩
      · obtain ⟨x, rfl, b, rfl, b0, b1⟩ := h
        exact ⟨kd, b, rfl, k0, k1, b0, b1⟩
    · obtain ⟨kd, b, rfl, _⟩ := h
      exact ⟨_, _, rfl⟩
    obtain ⟨kd, by_, hvw, k0, k1, b0, b1⟩ := h1
    cases hvw
    have g0 := getD_all (l := [5, 60, 1000000, 900]) (i := kd.toNat) (a := 1) (b := 1000000) (by decide) (by show kd.toNat < 4; omega)
    generalize hmost : ([5, 60, 1000000, 900] : List Int).getD kd.toNat 0 = most at g0
    refine q_asg (v := .int most) (by rw [← hmost]; exact ev_pick (l := [5, 60, 1000000, 900]) (by walk_at "ev") (ev_var rfl) (by rfl) k0 (by show kd < 4; exact k1) (by walk_at "sz")) fun H2 e2 => ?_
    refine q_asgL (xs := []) (el_lst ea_nil (by decide)) fun p H3 hp e3 h3 => ?_
    have e23 := e1.trans e2
    refine q_forR1 (n := (ns.length : Int)) (ea_cons (by rw [← e0]; exact ev_lenL (ev_var rfl) (ex_l (e23.trans e3) hS)) ea_nil) (by omega) (fun i σ' H' => ∃ s5 s6 : Option V, ∃ ts : List Int, σ' = [some (.ref a), some (.int kd), some (.int by_), some (.int most), some (.ref p), s5, s6] ∧ Ex H2 H' ∧ H' p = some (.lst (iv ts)) ∧ ts.length = i ∧ ∀ t ∈ ts, -1000000 ≤ t ∧ t ≤ 1000000)
      (fun H4 e4 => ⟨_, _, [], rfl, e3.trans e4, e4 _ _ h3, rfl, fun t ht => nomatch ht⟩) (fun i σ' H' hi hP => ?_) (fun σ' H' hP => ?_)
    · obtain ⟨s5, s6, ts, rfl, e4, hp4, hlen, hts⟩ := hP
      have hi' : i < ns.length := by omega
      have hS4 : SqL K H' a (ns.map V.int) := ex_l (e23.trans e4) hS
      have hcl : ∀ H5, Ex H' H5 → ∀ s6, Ev (tOp (rIxL K) (tVar 0) (tVar 5)) [some (.ref a), some (.int kd), some (.int by_), some (.int most), some (.ref p), some (.int (i : Int)), s6] H5 (.int (ns.getD i 0)) := fun H5 e5 s6 => ev_op (ev_var rfl) (ev_var rfl) (rv_ixL (ex_l e5 hS4) (atI_ints hi'))
      refine q_asgR (er_draw (c := ns.getD i 0) (k := (i : Int) % 5 + 1) (m := most + 1) (hcl _ (Ex.refl _) _) (ev_op (ev_op (ev_var rfl) ev_c (rv_I (by decide))) ev_c rv_I0) (ev_op (ev_var rfl) ev_c rv_I0) (by omega) (by omega)) fun v5 H5 e5 h5 => ?_
      obtain ⟨x, rfl, x0, x1⟩ := h5
      -- the number, its sign drawn
      have hsg : ∀ H6 x, Ex H' H6 → -most ≤ x → x ≤ most → tDrop (tBM K "list" rAppend (tVar 4) (tCons (tIf (tTest (tOp (rIn K false) (tVar 1) (tTup (tCons (tC (.int 1)) (tCons (tC (.int 3)) tNil))))) (tOp (rI CMul fun i j => .int (i * j)) (tVar 6) (tVar 2)) (tVar 6)) tNil)) { nx := fun σ' H' => ∃ s5 s6 : Option V, ∃ ts : List Int, σ' = [some (.ref a), some (.int kd), some (.int by_), some (.int most), some (.ref p), s5, s6] ∧ Ex H2 H' ∧ H' p = some (.lst (iv ts)) ∧ ts.length = i + 1 ∧ ∀ t ∈ ts, -1000000 ≤ t ∧ t ≤ 1000000, rt := Q, bk := fun σ' H' => tRet (tVar 4) { nx := fun _ H' => Q .non H', rt := Q } σ' H', ct := fun σ' H' => ∃ s5 s6 : Option V, ∃ ts : List Int, σ' = [some (.ref a), some (.int kd), some (.int by_), some (.int most), some (.ref p), s5, s6] ∧ Ex H2 H' ∧ H' p = some (.lst (iv ts)) ∧ ts.length = i + 1 ∧ ∀ t ∈ ts, -1000000 ≤ t ∧ t ≤ 1000000 }
          [some (.ref a), some (.int kd), some (.int by_), some (.int most), some (.ref p), some (.int (i : Int)), some (.int x)] H6 := fun H6 x e6 a0 a1 => by
        have hin : inV (.int kd) [.int 1, .int 3] = decide (kd = 1 ∨ kd = 3) := by
          have : kd = 0 ∨ kd = 1 ∨ kd = 2 ∨ kd = 3 := by omega
          rcases this with h | h | h | h <;> subst h <;> decide +kernel
        have hb : -1000000 ≤ x ∧ x ≤ 1000000 := ⟨by omega, by omega⟩
        have hm : (kd = 1 ∨ kd = 3) → -1000000 ≤ x * by_ ∧ x * by_ ≤ 1000000 := fun h => by
          have hmm : most ≤ 900 := by
            rw [← hmost]
            rcases h with h | h <;> subst h <;> decide
          have := mul_bound (x := x) (b := by_) (p := 900) (q := 40) (by omega) (by omega) (by omega) b1 (by decide)
          omega
        have fin : ∀ z H7, Ex H6 H7 → -1000000 ≤ z → z ≤ 1000000 → ∃ s5 s6 : Option V, ∃ ts' : List Int, [some (V.ref a), some (.int kd), some (.int by_), some (.int most), some (.ref p), some (.int (i : Int)), some (.int x)] = [some (.ref a), some (.int kd), some (.int by_), some (.int most), some (.ref p), s5, s6] ∧ Ex H2 (upd H7 p (.lst (iv ts ++ [.int z]))) ∧ (upd H7 p (.lst (iv ts ++ [.int z]))) p = some (.lst (iv ts')) ∧ ts'.length = i + 1 ∧ ∀ t ∈ ts', -1000000 ≤ t ∧ t ≤ 1000000 := fun z H7 e7 z0 z1 =>
          ⟨_, _, ts ++ [z], rfl, Ex.mut ((e4.trans e6).trans e7) hp, by rw [upd_same, iv_append]; rfl, by simp [hlen], fun t ht => by
            rcases List.mem_append.mp ht with h | h
            · exact hts t h
            · rw [List.mem_singleton.mp h]
              exact ⟨z0, z1⟩⟩
        refine s_app (v := .int (if kd = 1 ∨ kd = 3 then x * by_ else x)) (e6 _ _ hp4) (ev_var rfl) (ev_if (b := decide (kd = 1 ∨ kd = 3)) (et_test (ev_is (ev_inU (ev_var rfl) (eu_tup (by walk_at "ev") (by walk_at "sz")) rfl (by decide)) (by rw [hin]))) (fun hb => ?_) (fun hb => ?_)) (by rw [List.length_map]; omega) fun H7 e7 => ?_
        · rw [if_pos (of_decide_eq_true hb)]
          exact ev_op (ev_var rfl) (ev_var rfl) (rv_I (.inr ⟨by omega, by omega⟩))
        · rw [if_neg (of_decide_eq_false hb)]
          exact ev_var rfl
        · split
          · rename_i h
            exact fin _ H7 e7 (hm h).1 (hm h).2
          · exact fin _ H7 e7 hb.1 hb.2
      refine q_if_R (er_test (er_draw (c := ns.getD i 0) (k := (i : Int) % 7 + 1) (m := 2) (hcl _ e5 _) (ev_op (ev_op (ev_var rfl) ev_c (rv_I (by decide))) ev_c rv_I0) ev_c (by omega) (by decide)) ev_c fun x H6 _ h Q q => ?_) (fun H6 e6 => ?_) (fun H6 e6 => ?_)
      · obtain ⟨r, rfl, _⟩ := h
        exact ⟨rfl, q _⟩
      · exact s_asg (ev_un (ev_var rfl) ru_neg) fun H7 e7 => hsg H7 (-x) ((e5.trans e6).trans e7) (by omega) (by omega)
      · exact hsg H6 x (e5.trans e6) (by omega) (by omega)
    · obtain ⟨s5, s6, ts, rfl, e4, hp4, hlen, hts⟩ := hP
      exact s_ret (ev_var rfl) fun H5 e5 => k _ _ ((e23.trans e4).trans e5) ⟨ts, ⟨p, rfl, fresh_back e23 hp, e5 _ _ hp4⟩, by show ts.length = ns.length; omega, hts⟩
end
/-! ### the law: an answer is a Bar or a Times -/
inductive BT where
  | b (g : Int)
  | m (l : Addr) (ts : List Int)
def BTAt (A : Ad) (H : Hp) (v : V) : BT → Prop
  | .b g => BarAt A H v g
  | .m l ts => TimesAt A H v l ts ∧ ts.length ≤ 10000
theorem BTAt.up {A : Ad} {H H' : Hp} {v : V} (e : Ex H H') : ∀ {d : BT}, BTAt A H v d → BTAt A H' v d
  | .b _, h => BarAt.up e h
  | .m _ _, h => ⟨TimesAt.up e h.1, h.2⟩
def btF : BT → List Int → Int → Int → Bool
  | .b g, ns, t, r => barS g ns t r
  | .m _ ts, ns, t, r => timesS ts ns t r
def btOk : BT → List Int → Int → Int → Prop
  | .b g, ns, t, r => BarSOk g ns t r
  | .m _ ts, ns, t, r => TimesOk ts ns t r
def btC (A : Ad) : BT → Addr
  | .b _ => A.c_Bar
  | .m _ _ => A.c_Times
def btB : BT → Bool
  | .b _ => true
  | .m _ _ => false
theorem btOk.F : ∀ {d : BT} {ns : List Int} {t r : Int}, btOk d ns t r → btF d ns t r = true
  | .b _, _, _, _, h => BarSOk.F h
  | .m _ _, _, _, _, h => TimesOk.F h
theorem btOk.far : ∀ {d : BT} {ns : List Int} {t r : Int}, btOk d ns t r → ∀ c : Int, btOk d (ns.map fun n => n + c * t) t r
  | .b _, _, _, _, h, c => BarSOk.far h c
  | .m _ _, _, _, _, h, c => TimesOk.far h c
structure DueD where
  o : V
  d : BT
  q : V
  ns : List Int
  t : Int
  r : Int
def sp_l_due (A : Ad) : Sp := spX (fun (x : DueD) vs H => vs = [x.q, .int x.t, .int x.r, x.o] ∧ BTAt A H x.o x.d ∧ LstAt (iv x.ns) x.q H ∧ big x.ns ∧ 0 < x.t) (fun x _ v _ => v = .bl (btF x.d x.ns x.t x.r))
def sp_l_right (_ : PySem.W.Frag) : Sp := spX (fun (d : ComeD) vs H => vs = [d.q, .int d.t, .int d.r] ∧ ComePre d H ∧ d.ns.length ≤ 64) (fun _ _ v _ => v = .bl true)
def sp_law (K : PySem.W.Frag) : Sp := fun vs H Q _ => ∃ v ns, vs = [v] ∧ Scr K H v ns ∧ ∀ H', Q (.bl true) H'
section
variable {P : Program} {w : World} {K : PySem.W.Frag} {mg : Str → Option Value} {base : Heap} {A : Ad}
theorem bt_ty (T : Txt K mg A) {H : Hp} {v : V} : ∀ {d : BT}, BTAt A H v d → TyX K H v (.ref (btC A d))
  | .b _, ⟨_, _, e, h⟩ => by subst e; exact tyx_ins h T.i_Bar T.isg
  | .m _ _, ⟨⟨_, _, e, h, _⟩, _⟩ => by subst e; exact tyx_ins h T.i_Times T.isg
theorem ok_l_due (T : Txt K mg A) : Okk P w K mg base 1 A.a_l_due ["_law_numbers_here", "_law_turn", "_law_rest", "_law_found"] (sp_l_due A) := by
  refine okk T.F_l_due sc_l_due (fun vs H Q E h => ?_) (fun cdv Ar outer s H vs Q E hr h => ?_)
  · obtain ⟨d, ⟨rfl, _⟩, _⟩ := h
    rfl
  · obtain ⟨⟨_, d, _, ns, t, r⟩, ⟨rfl, hd, ⟨q, rfl, hq⟩, ⟨hlen, hn⟩, ht⟩, k⟩ := h
    dsimp only at hd hq hlen hn ht
    refine ⟨_, (pss_cons (ps_if (pt_val (pe_callB (isiK K) (by rfl) T.z_isinstance (by decide +kernel) (pa_cons (pv 3) (pa_cons (pe_glob (v := .ref A.c_Bar) (by rfl) T.g_Bar rfl) pa_nil)))) (pss_cons (ps_if (PW.pt (pw_or (pt_cmpR op_lt (pe_fldK K (pv 3) rfl) pe_int (nomark _)) (pw_or (pt_cmpR op_ne (pe_op op_mod (pv 1) (pe_fldK K (pv 3) rfl)) pe_int (nomark _)) (pw_or1 (pt_cmpR op_eq (pe_op op_mod (pv 2) (pe_fldK K (pv 3) rfl)) pe_int (nomark _)))))) (pss_one (ps_ret pe_bl)) pss_nil)
      (pss_one (ps_ret (pe_callB (allK K rfl) (by rfl) T.z_all (by decide +kernel) (pa_cons (pe_lc (own := [("_law_number", 4)]) rfl sc_l_due.nd (pi_listK K (pv 0)) (blkOk_by (N := ["_law_numbers_here", "_law_turn", "_law_rest", "_law_found", "_law_number", "_law_often"]) (sc := defScope s_l_due) (by decide +kernel)) (fun _ _ _ _ _ => (pg_name (i := 4) sc_l_due.nd rfl (Or.inl rfl))) (fun _ _ _ _ _ => pts_nil) (fun _ _ _ _ _ => (pe_cmpR op_eq (pe_op op_mod (pv 4) (pe_fldK K (pv 3) rfl)) pe_int (nomark _)))) pa_nil))))) pss_nil)
      (pss_cons (ps_if (PW.pt (pw_or (pt_cmpR op_ne (pe_callB (len_seqK K) (by rfl) T.z_len (by decide +kernel) (pa_cons (pe_fldK K (pv 3) rfl) pa_nil)) (pe_callB (len_seqK K) (by rfl) T.z_len (by decide +kernel) (pa_cons (pv 0) pa_nil)) (nomark _)) (pw_or1 (pt_not (pt_val (pe_callB (allK K rfl) (by rfl) T.z_all (by decide +kernel) (pa_cons (pe_lc (own := [("_law_often", 5)]) rfl sc_l_due.nd (pi_listK K (pe_fldK K (pv 3) rfl)) (blkOk_by (N := ["_law_numbers_here", "_law_turn", "_law_rest", "_law_found", "_law_number", "_law_often"]) (sc := defScope s_l_due) (by decide +kernel)) (fun _ _ _ _ _ => (pg_name (i := 5) sc_l_due.nd rfl (Or.inl rfl))) (fun _ _ _ _ _ => pts_nil) (fun _ _ _ _ _ => (pe_chain op_le op_lt pe_int (pv 5) (pv 1)))) pa_nil))))))) (pss_one (ps_ret pe_bl)) pss_nil)
      (pss_one (ps_ret (pe_cmpR op_eq (pe_op op_mod (pe_callB (sumK K rfl) (by rfl) T.z_sum (by decide +kernel) (pa_cons (pe_lc (own := [("_law_number", 4), ("_law_often", 5)]) rfl sc_l_due.nd (pi_zipK K (by rfl) T.z_zip (pa_cons (pv 0) (pa_cons (pe_fldK K (pv 3) rfl) pa_nil))) (blkOk_by (N := ["_law_numbers_here", "_law_turn", "_law_rest", "_law_found", "_law_number", "_law_often"]) (sc := defScope s_l_due) (by decide +kernel)) (fun _ _ _ _ _ => (pg_tupK (n := 2) K rfl (pgs_cons (pg_name (i := 4) sc_l_due.nd rfl (Or.inl rfl)) (pgs_cons (pg_name (i := 5) sc_l_due.nd rfl (Or.inl rfl)) pgs_nil)))) (fun _ _ _ _ _ => pts_nil) (fun _ _ _ _ _ => (pe_op op_mul (pv 4) (pv 5)))) pa_nil)) (pv 1)) (pv 2) (nomark _)))))), ?_⟩
    cases d with
    | b g =>
      obtain ⟨a, dx, rfl, ho⟩ := hd
      have fp : ∀ σ : L2.St, σ[3]? = some (some (.ref a)) → ∀ H1, Ex H H1 → Ev (tFld K (tVar 3) "part") σ H1 (.int g) := fun σ hσ H1 e => ev_fld (ev_var hσ) (e _ _ ho) T.cl_Bar T.n_Bar_part lk1
      refine q_when (et_B (ev_isi (ev_var rfl) ev_c (.own _) (tyx_ins ho T.i_Bar T.isg) T.q_Bar_Bar)) (fun _ H0 e0 => ?_) fun z => nomatch z
      refine q_when (b := decide (g < 2) || (!decide (t % g = 0) || decide (r % g = 0))) ?_ (fun hb H1 e1 => ?_) (fun hb H1 e1 => ?_)
      · refine et_or (et_test (ev_op (fp _ rfl _ e0) ev_c rv_I0)) fun h2 => ?_
        have hg : 0 < g := by
          have := of_decide_eq_false h2
          omega
        exact et_or (et_test (ev_op (ev_op (ev_var rfl) (fp _ rfl _ e0) (rv_I hg)) ev_c rv_neI)) fun _ => et_test (ev_op (ev_op (ev_var rfl) (fp _ rfl _ e0) (rv_I hg)) ev_c rv_eqI)
      · refine s_ret ev_c fun H2 e2 => k _ _ (e0.trans (e1.trans e2)) ?_
        show V.bl false = V.bl (barS g ns t r)
        unfold barS
        rw [hb]
        rfl
      · have hg : 0 < g := by
          simp only [Bool.or_eq_false_iff, decide_eq_false_iff_not] at hb
          omega
        have hd : barS g ns t r = ns.all fun n => decide (n % g = 0) := by
          unfold barS
          rw [hb]
          simp
        have e01 := e0.trans e1
        refine s_ret (v := .bl (barS g ns t r)) (ev_is (ev_allN (bs := ns.map fun n => decide (n % g = 0)) (H0 := H1) ?_) (by rw [hd, List.all_map]; rfl)) fun H2 e2 => k _ _ (e01.trans e2) rfl
        rw [← map_bl]
        exact er_lcI (fun n => .bl (decide (n % g = 0))) (ev_var rfl) (sq_of (e01 _ _ hq)) (by omega) (fun _ => rfl) fun n hn => ev_op (ev_op (ev_var rfl) (fp _ rfl _ e01) (rv_I hg)) ev_c rv_eqI
    | m l ts =>
      obtain ⟨⟨a, dx, rfl, ho, hl⟩, htl⟩ := hd
      have ft : ∀ σ : L2.St, σ[3]? = some (some (.ref a)) → ∀ H1, Ex H H1 → Ev (tFld K (tVar 3) "times") σ H1 (.ref l) := fun σ hσ H1 e => ev_fld (ev_var hσ) (e _ _ ho) T.cl_Times T.n_Times_times lk1
      refine q_when (et_B (ev_isi (ev_var rfl) ev_c (.own _) (tyx_ins ho T.i_Times T.isg) T.q_Times_Bar)) (fun z => nomatch z) fun _ H0 e0 => ?_
      have hq0 := e0 _ _ hq
      have hl0 := e0 _ _ hl
      refine q_when (b := !decide (ts.length = ns.length) || !(ts.all fun o => decide (0 ≤ o) && decide (o < t))) ?_ (fun hb H1 e1 => ?_) (fun hb H1 e1 => ?_)
      · refine et_or ?_ fun _ => et_not (et_B (ev_is (ev_allN (bs := ts.map fun o => decide (0 ≤ o) && decide (o < t)) (H0 := H0) ?_) (by rw [List.all_map]; rfl)))
        · refine et_is (et_test (ev_op (ev_lenL (ft _ rfl _ e0) (sq_of hl0)) (ev_lenL (ev_var rfl) (sq_of hq0)) rv_neI)) ?_
          rw [iv_len, iv_len]
          congr 1
          exact decide_eq_decide.mpr (by omega)
        · rw [← map_bl]
          exact er_lcI (fun o => .bl (decide (0 ≤ o) && decide (o < t))) (ft _ rfl _ e0) (sq_of hl0) (by omega) (fun _ => rfl) fun n hn => ev_chain ev_c (ev_var rfl) rv_I0 (fun _ => ev_var rfl) fun _ => rv_I0
      · refine s_ret ev_c fun H2 e2 => k _ _ (e0.trans (e1.trans e2)) ?_
        show V.bl false = V.bl (timesS ts ns t r)
        unfold timesS
        rw [hb]
        rfl
      · have hd : timesS ts ns t r = decide (dot ns ts % t = r) := by
          unfold timesS
          rw [hb]
          simp
        have hlt : ts.length = ns.length := by
          simp only [Bool.or_eq_false_iff, Bool.not_eq_false', decide_eq_true_eq] at hb
          exact hb.1
        have e01 := e0.trans e1
        refine s_ret (v := .bl (timesS ts ns t r)) (ev_is (ev_op (ev_op (ev_is (ev_sumN (ns := (List.range ns.length).map fun k => ns.getD k 0 * ts.getD k 0) (H0 := H1) ?_) (by rw [dot_range hlt.symm])) (ev_var rfl) (rv_I ht)) (ev_var rfl) rv_eqI) (by rw [hd])) fun H2 e2 => k _ _ (e01.trans e2) rfl
        rw [iv_map, ← iv_len ns]
        refine er_lcZ (fun k => .int (ns.getD k 0 * ts.getD k 0)) (ea_cons (ev_var rfl) (ea_cons (ft _ rfl _ e01) ea_nil)) (sq_of (e01 _ _ hq)) (sq_of (e01 _ _ hl)) (by rw [iv_len, iv_len, hlt]) (by rw [iv_len]; omega) (fun _ _ => rfl) fun i x y hx hy => ?_
        obtain ⟨hi, rfl⟩ := iv_get hx
        obtain ⟨_, rfl⟩ := iv_get hy
        exact ev_op (ev_var rfl) (ev_var rfl) (rv_I (.inl (hn _ (getD_mem hi))))
theorem ok_l_right (T : Txt K mg A) : Okk P w K mg base 5 A.a_l_right ["_law_numbers_here", "_law_turn", "_law_rest"] (sp_l_right K) := by
  obtain ⟨_, G_Bar_shows, b_Bar_shows, k_Bar_shows⟩ := ok_Bar_shows (P := P) (w := w) (base := base) T
  obtain ⟨_, G_Times_shows, b_Times_shows, k_Times_shows⟩ := ok_Times_shows (P := P) (w := w) (base := base) T
  obtain ⟨_, G_l_due, b_l_due, k_l_due⟩ := ok_l_due (P := P) (w := w) (base := base) T
  obtain ⟨_, G_l_numbers, b_l_numbers, k_l_numbers⟩ := ok_l_numbers (P := P) (w := w) (base := base) T
  obtain ⟨_, G_come, b_come, k_come⟩ := ok_come (P := P) (w := w) (base := base) T
  refine okk T.F_l_right sc_l_right (fun vs H Q E h => ?_) (fun cdv Ar outer s H vs Q E hr h => ?_)
  · obtain ⟨d, ⟨rfl, _⟩, _⟩ := h
    rfl
  · obtain ⟨⟨_, ns, t, r⟩, ⟨rfl, ⟨⟨q, rfl, hq⟩, _, hn, t0, t1, r0, r1⟩, hlen⟩, k⟩ := h
    dsimp only at hq hlen hn t0 t1 r0 r1
    have hr_Bar_shows : Room 1 _ := hr.mono (by decide)
    have hr_Times_shows : Room 2 _ := hr.mono (by decide)
    have hr_l_due : Room 1 _ := hr.mono (by decide)
    have hr_l_numbers : Room 2 _ := hr.mono (by decide)
    have hr_come : Room 4 _ := hr.mono (by decide)
    refine ⟨_, (pss_cons (ps_set (i := 3) sc_l_right.nd rfl (.inl rfl) (pe_callTy (list_ofK K) (by rfl) T.z_list (by decide +kernel) (pa_cons (pv 0) pa_nil)))
      (pss_cons (ps_set (i := 4) sc_l_right.nd rfl (.inl rfl) (pe_call G_come hr_come (by rfl) T.g_come k_come b_come .nil pass0 (pa_cons (pv 3) (pa_cons (pv 1) (pa_cons (pv 2) pa_nil)))))
      (pss_cons (ps_if (PW.pt (pw_or (pt_cmpR (neDK K hr.units) (pv 3) (pv 0) (nomark _)) (pw_or (pt_not (pt_val (pe_callB (isiK K) (by rfl) T.z_isinstance (by decide +kernel) (pa_cons (pv 4) (pa_cons (pe_glob (v := .ref A.c_Answer) (by rfl) T.g_Answer rfl) pa_nil))))) (pw_or1 (pt_cmpR op_eq (pe_callB (isiK K) (by rfl) T.z_isinstance (by decide +kernel) (pa_cons (pv 4) (pa_cons (pe_glob (v := .ref A.c_Times) (by rfl) T.g_Times rfl) pa_nil))) (pe_callB (isiK K) (by rfl) T.z_isinstance (by decide +kernel) (pa_cons (pv 4) (pa_cons (pe_glob (v := .ref A.c_Bar) (by rfl) T.g_Bar rfl) pa_nil))) (nomark _)))))) (pss_one (ps_ret pe_bl)) pss_nil)
      (pss_cons (ps_if (PW.pt (pw_or (pt_val (pe_callB (isiK K) (by rfl) T.z_isinstance (by decide +kernel) (pa_cons (pv 4) (pa_cons (pe_glob (v := .ref A.c_Number) (by rfl) T.g_Number rfl) pa_nil)))) (pw_or (pt_val (pe_callB (isiK K) (by rfl) T.z_isinstance (by decide +kernel) (pa_cons (pv 4) (pa_cons (pe_glob (v := .ref A.c_Clash) (by rfl) T.g_Clash rfl) pa_nil)))) (pw_or (pt_val (pe_callB (isiK K) (by rfl) T.z_isinstance (by decide +kernel) (pa_cons (pv 4) (pa_cons (pe_glob (v := .ref A.c_Common) (by rfl) T.g_Common rfl) pa_nil)))) (pw_or1 (pt_val (pe_callB (isiK K) (by rfl) T.z_isinstance (by decide +kernel) (pa_cons (pv 4) (pa_cons (pe_glob (v := .ref A.c_Back) (by rfl) T.g_Back rfl) pa_nil))))))))) (pss_one (ps_ret pe_bl)) pss_nil)
      (pss_cons (ps_if (pt_not (pt_val (pe_call G_l_numbers hr_l_numbers (by rfl) T.g_l_numbers k_l_numbers b_l_numbers .nil pass0 (pa_cons (pe_ifExp (pt_val (pe_callB (isiK K) (by rfl) T.z_isinstance (by decide +kernel) (pa_cons (pv 4) (pa_cons (pe_glob (v := .ref A.c_Bar) (by rfl) T.g_Bar rfl) pa_nil)))) (pe_lst (pa_cons (pe_fldK K (pv 4) rfl) pa_nil)) (pe_fldK K (pv 4) rfl)) pa_nil)))) (pss_one (ps_ret pe_bl)) pss_nil)
      (pss_cons (ps_if (PW.pt (pw_or (pt_not (pt_val (pe_call G_l_due hr_l_due (by rfl) T.g_l_due k_l_due b_l_due .nil pass0 (pa_cons (pv 0) (pa_cons (pv 1) (pa_cons (pv 2) (pa_cons (pv 4) pa_nil))))))) (pw_or1 (pt_cmpR op_notBl (pe_alt (pe_meth (pv 4) T.cl_Bar T.m_Bar_shows G_Bar_shows hr_Bar_shows b_Bar_shows .nil pass0 (pa_cons (pv 0) (pa_cons (pv 1) (pa_cons (pv 2) pa_nil)))) (pe_meth (pv 4) T.cl_Times T.m_Times_shows G_Times_shows hr_Times_shows b_Times_shows .nil pass0 (pa_cons (pv 0) (pa_cons (pv 1) (pa_cons (pv 2) pa_nil))))) pe_bl (nomark _))))) (pss_one (ps_ret pe_bl)) pss_nil)
      (pss_cons (ps_set (i := 5) sc_l_right.nd rfl (.inl rfl) (pe_op op_mod (pe_op op_add (pv 2) pe_int) (pv 1)))
      (pss_cons (ps_if (pt_cmpR op_ne (pe_alt (pe_meth (pv 4) T.cl_Bar T.m_Bar_shows G_Bar_shows hr_Bar_shows b_Bar_shows .nil pass0 (pa_cons (pv 0) (pa_cons (pv 1) (pa_cons (pv 5) pa_nil)))) (pe_meth (pv 4) T.cl_Times T.m_Times_shows G_Times_shows hr_Times_shows b_Times_shows .nil pass0 (pa_cons (pv 0) (pa_cons (pv 1) (pa_cons (pv 5) pa_nil))))) (pe_call G_l_due hr_l_due (by rfl) T.g_l_due k_l_due b_l_due .nil pass0 (pa_cons (pv 0) (pa_cons (pv 1) (pa_cons (pv 5) (pa_cons (pv 4) pa_nil))))) (nomark _)) (pss_one (ps_ret pe_bl)) pss_nil)
      (pss_cons (ps_setLc (i := 6) (own := [("_law_number", 7)]) rfl sc_l_right.nd rfl rfl (sw_true rfl rfl rfl (by decide +kernel)) (pi_listK K (pv 0)) (blkOk_by (N := ["_law_numbers_here", "_law_turn", "_law_rest", "_law_handed", "_law_found", "_law_other", "_law_far", "_law_number"]) (sc := defScope s_l_right) (by decide +kernel)) (fun _ _ _ _ _ => (pg_name (i := 7) sc_l_right.nd rfl (Or.inl rfl))) (fun _ _ _ _ _ => pts_nil) (fun _ _ _ _ _ => (pe_op op_add (pv 7) (pe_op op_mul (pe_op op_pow pe_int pe_int) (pv 1)))))
      (pss_cons (ps_if (pt_cmpR op_notBl (pe_alt (pe_meth (pv 4) T.cl_Bar T.m_Bar_shows G_Bar_shows hr_Bar_shows b_Bar_shows .nil pass0 (pa_cons (pv 6) (pa_cons (pv 1) (pa_cons (pv 2) pa_nil)))) (pe_meth (pv 4) T.cl_Times T.m_Times_shows G_Times_shows hr_Times_shows b_Times_shows .nil pass0 (pa_cons (pv 6) (pa_cons (pv 1) (pa_cons (pv 2) pa_nil))))) pe_bl (nomark _)) (pss_one (ps_ret pe_bl)) pss_nil)
      (pss_cons (ps_setLc (i := 6) (own := [("_law_number", 7)]) rfl sc_l_right.nd rfl rfl (sw_true rfl rfl rfl (by decide +kernel)) (pi_listK K (pv 6)) (blkOk_by (N := ["_law_numbers_here", "_law_turn", "_law_rest", "_law_handed", "_law_found", "_law_other", "_law_far", "_law_number"]) (sc := defScope s_l_right) (by decide +kernel)) (fun _ _ _ _ _ => (pg_name (i := 7) sc_l_right.nd rfl (Or.inl rfl))) (fun _ _ _ _ _ => pts_nil) (fun _ _ _ _ _ => (pe_op op_add (pv 7) pe_int)))
      (pss_cons (ps_if (pt_cmpR op_ne (pe_alt (pe_meth (pv 4) T.cl_Bar T.m_Bar_shows G_Bar_shows hr_Bar_shows b_Bar_shows .nil pass0 (pa_cons (pv 6) (pa_cons (pv 1) (pa_cons (pv 2) pa_nil)))) (pe_meth (pv 4) T.cl_Times T.m_Times_shows G_Times_shows hr_Times_shows b_Times_shows .nil pass0 (pa_cons (pv 6) (pa_cons (pv 1) (pa_cons (pv 2) pa_nil))))) (pe_call G_l_due hr_l_due (by rfl) T.g_l_due k_l_due b_l_due .nil pass0 (pa_cons (pv 6) (pa_cons (pv 1) (pa_cons (pv 2) (pa_cons (pv 4) pa_nil))))) (nomark _)) (pss_one (ps_ret pe_bl)) pss_nil)
      (pss_cons (ps_if (pt_val (pe_callB (isiK K) (by rfl) T.z_isinstance (by decide +kernel) (pa_cons (pv 4) (pa_cons (pe_glob (v := .ref A.c_Times) (by rfl) T.g_Times rfl) pa_nil)))) (pss_cons (ps_expr (pe_bm PySem.F.plainAttrs_list PySem.F.slot_list_append PySem.F.type_list_append mt_append (pe_fldK K (pv 4) rfl) (pa_cons pe_int pa_nil)))
      (pss_one (ps_ret (pe_cmpR op_isBl (pe_alt (pe_meth (pv 4) T.cl_Bar T.m_Bar_shows G_Bar_shows hr_Bar_shows b_Bar_shows .nil pass0 (pa_cons (pv 0) (pa_cons (pv 1) (pa_cons (pv 2) pa_nil)))) (pe_meth (pv 4) T.cl_Times T.m_Times_shows G_Times_shows hr_Times_shows b_Times_shows .nil pass0 (pa_cons (pv 0) (pa_cons (pv 1) (pa_cons (pv 2) pa_nil))))) pe_bl (nomark _))))) pss_nil)
      (pss_one (ps_ret pe_bl))))))))))))))), ?_⟩
    refine q_asgR (er_list (ev_var rfl) (sq_of hq)) fun v H1 e1 h1 => ?_
    obtain ⟨hd, rfl, _, hh⟩ := h1
    refine q_asgR (er_call (R := fun v H3 => ∃ d, BTAt A H3 v d ∧ btOk d ns t r ∧ ∀ l ts, d = .m l ts → H l = none) ⟨.ref hd, ns, t, r⟩ (ea_cons (ev_var rfl) (ea_cons (ev_var rfl) (ea_cons (ev_var rfl) ea_nil))) (fun H2 e2 => ⟨rfl, ⟨hd, rfl, e2 _ _ hh⟩, by show ns.length ≤ 5000; omega, hn, t0, t1, r0, r1⟩) fun H2 v H3 e2 _ h => ?_) fun v H2 e2 h2 => ?_
    · rcases h with ⟨g, h, ok⟩ | ⟨l, ts, h, hl, ok⟩
      · exact ⟨.b g, h, ok, fun _ _ z => nomatch z⟩
      · exact ⟨.m l ts, ⟨h, by rw [ok.len]; show ns.length ≤ 10000; omega⟩, ok, fun l' ts' z => by cases z; exact fresh_back (e1.trans e2) hl⟩
    obtain ⟨d, hda, ok, hfr⟩ := h2
    have hq2 := e2 _ _ (e1 _ _ hq)
    have hty := bt_ty T hda
    have kA : PySem.W.kitOne K (.ref (btC A d)) (.ref A.c_Answer) = some true := by cases d; exact T.q_Bar_Answer; exact T.q_Times_Answer
    have kB : PySem.W.kitOne K (.ref (btC A d)) (.ref A.c_Bar) = some (btB d) := by cases d; exact T.q_Bar_Bar; exact T.q_Times_Bar
    have kT : PySem.W.kitOne K (.ref (btC A d)) (.ref A.c_Times) = some (!btB d) := by cases d; exact T.q_Bar_Times; exact T.q_Times_Times
    have kN : PySem.W.kitOne K (.ref (btC A d)) (.ref A.c_Number) = some false := by cases d; exact T.q_Bar_Number; exact T.q_Times_Number
    have kC : PySem.W.kitOne K (.ref (btC A d)) (.ref A.c_Clash) = some false := by cases d; exact T.q_Bar_Clash; exact T.q_Times_Clash
    have kO : PySem.W.kitOne K (.ref (btC A d)) (.ref A.c_Common) = some false := by cases d; exact T.q_Bar_Common; exact T.q_Times_Common
    have kK : PySem.W.kitOne K (.ref (btC A d)) (.ref A.c_Back) = some false := by cases d; exact T.q_Bar_Back; exact T.q_Times_Back
    have isi : ∀ H' C b s5 s6 s7, Ex H2 H' → PySem.W.kitOne K (.ref (btC A d)) (.ref C) = some b → Ev (tCB (rIsi K) (tCons (tVar 4) (tCons (tC (.ref C)) tNil))) [some (.ref q), some (.int t), some (.int r), some (.ref hd), some v, s5, s6, s7] H' (.bl b) :=
      fun H' C b s5 s6 s7 e h => ev_isi (ev_var rfl) ev_c (.own _) (tyx_up e hty) h
    refine q_when (b := false) ?_ (fun z => nomatch z) fun _ H3 e3 => ?_
    · refine et_is (et_or (et_test (ev_op (ev_var rfl) (ev_var rfl) (rv_neSame (dp_ints (sq_of (e2 _ _ hh))) (dp_ints (sq_of hq2)) (sh_ints ns)))) fun _ => et_or (et_not (et_B (isi _ _ _ _ _ _ (Ex.refl _) kA))) fun _ => et_test (ev_op (isi _ _ _ _ _ _ (Ex.refl _) kT) (isi _ _ _ _ _ _ (Ex.refl _) kB) rv_eqB)) ?_
      cases d <;> rfl
    refine q_when (b := false) ?_ (fun z => nomatch z) fun _ H4 e4 => ?_
    · exact et_is (et_or (et_B (isi _ _ _ _ _ _ e3 kN)) fun _ => et_or (et_B (isi _ _ _ _ _ _ e3 kC)) fun _ => et_or (et_B (isi _ _ _ _ _ _ e3 kO)) fun _ => et_B (isi _ _ _ _ _ _ e3 kK)) rfl
    have e24 := e3.trans e4
    refine q_when (b := false) ?_ (fun z => nomatch z) fun _ H5 e5 => ?_
    · refine et_is (et_not (et_B (ev_call1 (z := .bl true) (R := fun v H2 => ∃ ms : List Int, LstAt (iv ms) v H2 ∧ ms.length ≤ 10000) (er_if (et_B (isi _ _ _ _ _ _ e24 kB)) (fun hb => ?_) (fun hb => ?_)) fun x H8 e8 ⟨ms, hm, hl⟩ => ⟨(x, ms), ⟨rfl, hm, hl⟩, fun v H2 _ h => h⟩))) rfl
      · cases d with
        | b g =>
          obtain ⟨o, dx, rfl, ho⟩ := hda
          exact (er_new (xs := iv [g]) (ea_cons (ev_fld (ev_var rfl) (e24 _ _ ho) T.cl_Bar T.n_Bar_part lk1) ea_nil) (by walk_at "sz")).imp fun v H6 _ ⟨q, hv, _, hq⟩ => ⟨[g], ⟨q, hv, hq⟩, by show 1 ≤ 10000; decide⟩
        | m l ts => exact nomatch hb
      · cases d with
        | b g => exact nomatch hb
        | m l ts =>
          obtain ⟨⟨o, dx, rfl, ho, hl⟩, htl⟩ := hda
          exact (evr (ev_fld (ev_var rfl) (e24 _ _ ho) T.cl_Times T.n_Times_times lk1)).imp fun v H6 e6 hv => ⟨ts, ⟨l, hv, e6 _ _ (e24 _ _ hl)⟩, htl⟩
    have e25 := e24.trans e5
    have hbig : big ns := ⟨by omega, fun n h => by have := hn n h; omega⟩
    have due : ∀ H' te tr (q' : Addr) (ms : List Int) (r' : Int) s5 s6 s7, Ex H2 H' → Ev te [some (.ref q), some (.int t), some (.int r), some (.ref hd), some v, s5, s6, s7] H' (.ref q') → Ev tr [some (.ref q), some (.int t), some (.int r), some (.ref hd), some v, s5, s6, s7] H' (.int r') → H' q' = some (.lst (iv ms)) → big ms →
        Ev (tCall (sp_l_due A) [] E0 (tCons te (tCons (tVar 1) (tCons tr (tCons (tVar 4) tNil))))) [some (.ref q), some (.int t), some (.int r), some (.ref hd), some v, s5, s6, s7] H' (.bl (btF d ms t r')) :=
      fun H' te tr q' ms r' s5 s6 s7 e h1 h2 h3 h4 => ev_call0 ⟨v, d, .ref q', ms, t, r'⟩ (ea_cons h1 (ea_cons (ev_var rfl) (ea_cons h2 (ea_cons (ev_var rfl) ea_nil)))) (fun H7 e7 => ⟨rfl, hda.up (e.trans e7), ⟨q', rfl, e7 _ _ h3⟩, h4, by show 0 < t; omega⟩) fun _ _ _ p => p
    have shows : ∀ H' te tr (q' : Addr) (ms : List Int) (r' : Int) s5 s6 s7, Ex H2 H' → Ev te [some (.ref q), some (.int t), some (.int r), some (.ref hd), some v, s5, s6, s7] H' (.ref q') → Ev tr [some (.ref q), some (.int t), some (.int r), some (.ref hd), some v, s5, s6, s7] H' (.int r') → H' q' = some (.lst (iv ms)) → big ms →
        Ev (tAlt (tMeth A.c_Bar "shows" (sp_Bar_shows A) [] E0 (tVar 4) (tCons te (tCons (tVar 1) (tCons tr tNil)))) (tMeth A.c_Times "shows" (sp_Times_shows A) [] E0 (tVar 4) (tCons te (tCons (tVar 1) (tCons tr tNil))))) [some (.ref q), some (.int t), some (.int r), some (.ref hd), some v, s5, s6, s7] H' (.bl (btF d ms t r')) :=
      fun H' te tr q' ms r' s5 s6 s7 e h1 h2 h3 h4 => by
        cases d with
        | b g =>
          obtain ⟨o, dx, rfl, ho⟩ := id hda
          exact ev_altL (ev_meth ⟨.ref o, g, .ref q', ms, t, r'⟩ (ev_var rfl) (e _ _ ho) lk0 (ea_cons h1 (ea_cons (ev_var rfl) (ea_cons h2 ea_nil))) (fun H7 e7 => ⟨rfl, ⟨o, dx, rfl, e7 _ _ (e _ _ ho)⟩, ⟨q', rfl, e7 _ _ h3⟩, h4⟩) fun _ _ _ p => p)
        | m l ts =>
          obtain ⟨⟨o, dx, rfl, ho, hl⟩, htl⟩ := id hda
          exact ev_altR (ev_meth ⟨.ref o, l, ts, .ref q', ms, t, r'⟩ (ev_var rfl) (e _ _ ho) lk0 (ea_cons h1 (ea_cons (ev_var rfl) (ea_cons h2 ea_nil))) (fun H7 e7 => ⟨rfl, ⟨o, dx, rfl, e7 _ _ (e _ _ ho), e7 _ _ (e _ _ hl)⟩, ⟨q', rfl, e7 _ _ h3⟩, h4, htl, by show 0 < t; omega⟩) fun _ _ _ p => p)
    have hq5 := e25 _ _ hq2
    refine q_when (b := false) ?_ (fun z => nomatch z) fun _ H6 e6 => ?_
    · refine et_is (et_or (et_not (et_B (due _ _ _ q ns r _ _ _ e25 (ev_var rfl) (ev_var rfl) hq5 hbig))) fun _ => et_test (ev_op (shows _ _ _ q ns r _ _ _ e25 (ev_var rfl) (ev_var rfl) hq5 hbig) ev_c rv_notB)) ?_
      rw [ok.F]
      rfl
    refine q_asg (v := .int ((r + 1) % t)) (ev_op (ev_op (ev_var rfl) ev_c rv_I0) (ev_var rfl) (rv_I (by show 0 < t; omega))) fun H7 e7 => ?_
    have e27 := e25.trans (e6.trans e7)
    have hq7 := e27 _ _ hq2
    refine q_when (b := false) ?_ (fun z => nomatch z) fun _ H8 e8 => ?_
    · refine et_is (et_test (ev_op (shows _ _ _ q ns ((r + 1) % t) _ _ _ e27 (ev_var rfl) (ev_var rfl) hq7 hbig) (due _ _ _ q ns ((r + 1) % t) _ _ _ e27 (ev_var rfl) (ev_var rfl) hq7 hbig) rv_neB)) ?_
      simp
    have e28 := e27.trans e8
    have hq8 := e28 _ _ hq2
    have e9v : (10 : Int) ^ (9 : Int).toNat = 1000000000 := by decide
    refine q_asgR (er_lcI (fun n => .int (n + 10 ^ (9 : Int).toNat * t)) (ev_var rfl) (sq_of hq8) (by omega) (fun _ => rfl) fun n hn => ev_op (ev_var rfl) (ev_op (ev_op ev_c ev_c (rv_pow ⟨by decide, by decide, by decide⟩)) (ev_var rfl) (rv_I (.inl (by decide)))) rv_I0) fun v9 H9 e9 h9 => ?_
    obtain ⟨f1, rfl, _, hf1⟩ := h9
    have hf1 : H9 f1 = some (.lst (iv (ns.map fun n => n + 10 ^ (9 : Int).toNat * t))) := by rw [iv_map]; exact hf1
    have e29 := e28.trans e9
    have big1 : big (ns.map fun n => n + 10 ^ (9 : Int).toNat * t) := ⟨by rw [List.length_map]; omega, fun n h => by
      obtain ⟨m, hm, rfl⟩ := List.mem_map.mp h
      have := hn m hm
      rw [e9v]
      omega⟩
    refine q_when (b := false) ?_ (fun z => nomatch z) fun _ H10 e10 => ?_
    · refine et_is (et_test (ev_op (shows _ _ _ f1 _ r _ _ _ e29 (ev_var rfl) (ev_var rfl) hf1 big1) ev_c rv_notB)) ?_
      rw [(ok.far _).F]
      rfl
    have hf10 := e10 _ _ hf1
    refine q_asgR (er_lcI (fun n => .int (n + 1)) (ev_var rfl) (sq_of hf10) (by rw [List.length_map]; omega) (fun _ => rfl) fun n hn => ev_op (ev_var rfl) ev_c rv_I0) fun v11 H11 e11 h11 => ?_
    obtain ⟨f2, rfl, _, hf2⟩ := h11
    have hf2 : H11 f2 = some (.lst (iv ((ns.map fun n => n + 10 ^ (9 : Int).toNat * t).map fun n => n + 1))) := by rw [iv_map]; exact hf2
    have e211 := e29.trans (e10.trans e11)
    have big2 : big ((ns.map fun n => n + 10 ^ (9 : Int).toNat * t).map fun n => n + 1) := ⟨by rw [List.length_map, List.length_map]; omega, fun n h => by
      obtain ⟨m, hm, rfl⟩ := List.mem_map.mp h
      obtain ⟨m2, hm2, rfl⟩ := List.mem_map.mp hm
      have := hn m2 hm2
      rw [e9v]
      omega⟩
    refine q_when (b := false) ?_ (fun z => nomatch z) fun _ H12 e12 => ?_
    · refine et_is (et_test (ev_op (shows _ _ _ f2 _ r _ _ _ e211 (ev_var rfl) (ev_var rfl) hf2 big2) (due _ _ _ f2 _ r _ _ _ e211 (ev_var rfl) (ev_var rfl) hf2 big2) rv_neB)) ?_
      simp
    have e212 := e211.trans e12
    refine q_when (et_B (isi _ _ _ _ _ _ e212 kT)) (fun hb H13 e13 => ?_) (fun hb H13 e13 => ?_)
    · cases d with
      | b g => exact nomatch hb
      | m l ts =>
        have hln := hfr l ts rfl
        obtain ⟨⟨o, dx, rfl, ho, hl⟩, htl⟩ := id hda
        have e213 := e212.trans e13
        refine q_app (xs := iv ts) (e213 _ _ hl) (ev_fld (ev_var rfl) (e213 _ _ ho) T.cl_Times T.n_Times_times lk1) ev_c (by rw [iv_len]; omega) fun H14 e14 => ?_
        have eG := e213.trans e14
        have hlo : o ≠ l := ne_of ho hl (by intro z; cases z)
        have hlq : q ≠ l := fun z => by rw [z, hln] at hq; cases hq
        have hto : TimesOk ts ns t r := ok
        have ho2 : (upd H14 l (.lst (iv ts ++ [.int 0]))) o = some (.ins A.c_Times dx [("times", .ref l)]) := by rw [upd_ne hlo]; exact eG _ _ ho
        have hl2 : (upd H14 l (.lst (iv ts ++ [.int 0]))) l = some (.lst (iv (ts ++ [0]))) := by rw [upd_same, iv_append]; rfl
        have hq2' : (upd H14 l (.lst (iv ts ++ [.int 0]))) q = some (.lst (iv ns)) := by rw [upd_ne hlq]; exact eG _ _ hq2
        refine s_ret (v := .bl true) (ev_is (ev_op (ev_altR (ev_meth (z := .bl (timesS (ts ++ [0]) ns t r)) ⟨.ref o, l, ts ++ [0], .ref q, ns, t, r⟩ (ev_var rfl) ho2 lk0 (ea_cons (ev_var rfl) (ea_cons (ev_var rfl) (ea_cons (ev_var rfl) ea_nil))) (fun H7 e7 => ⟨rfl, ⟨o, dx, rfl, e7 _ _ ho2, e7 _ _ hl2⟩, ⟨q, rfl, e7 _ _ hq2'⟩, hbig, by show (ts ++ [0]).length ≤ 10000; rw [List.length_append, hto.len]; show ns.length + 1 ≤ 10000; omega, by show 0 < t; omega⟩) fun _ _ _ p => p)) ev_c rv_isB) (by rw [hto.more]; rfl)) fun H15 e15 => k _ _ ?_ rfl
        exact (Ex.mut ((e1.trans e2).trans eG) hln).trans e15
    · exact s_ret ev_c fun H14 e14 => k _ _ ((e1.trans e2).trans (e212.trans (e13.trans e14))) rfl
theorem ok_law (T : Txt K mg A) {fd : FuncData} (F : Fun K "law" "law" s_law A.a_law fd) : FnOk P w K mg base CX0 6 A.a_law fd ["_law_script"] (sp_law K) := by
  obtain ⟨_, G_l_cell_at, b_l_cell_at, k_l_cell_at⟩ := ok_l_cell_at (P := P) (w := w) (base := base) T
  obtain ⟨_, G_l_draw, b_l_draw, k_l_draw⟩ := ok_l_draw (P := P) (w := w) (base := base) T
  obtain ⟨_, G_l_right, b_l_right, k_l_right⟩ := ok_l_right (P := P) (w := w) (base := base) T
  obtain ⟨_, G_l_row, b_l_row, k_l_row⟩ := ok_l_row (P := P) (w := w) (base := base) T
  refine F.ok sc_law (fun vs H Q E h => ?_) (fun cdv Ar outer s H vs Q E hr h => ?_)
  · obtain ⟨_, _, rfl, _⟩ := h
    rfl
  · obtain ⟨_, ns, rfl, ⟨a, rfl, hS, hl⟩, k⟩ := h
    have hr_l_cell_at : Room 1 _ := hr.mono (by decide)
    have hr_l_draw : Room 1 _ := hr.mono (by decide)
    have hr_l_right : Room 5 _ := hr.mono (by decide)
    have hr_l_row : Room 2 _ := hr.mono (by decide)
    refine ⟨_, (pss_cons (ps_set (i := 1) sc_law.nd rfl (.inl rfl) (pe_call G_l_row hr_l_row (by rfl) T.g_l_row k_l_row b_l_row .nil pass0 (pa_cons (pv 0) pa_nil)))
      (pss_cons (ps_set (i := 2) sc_law.nd rfl (.inl rfl) (pe_lst (pa_cons (pe_op op_add pe_int (pe_call G_l_draw hr_l_draw (by rfl) T.g_l_draw k_l_draw b_l_draw .nil pass0 (pa_cons (pe_call G_l_cell_at hr_l_cell_at (by rfl) T.g_l_cell_at k_l_cell_at b_l_cell_at .nil pass0 (pa_cons (pv 0) (pa_cons pe_int pa_nil))) (pa_cons pe_int (pa_cons pe_int pa_nil))))) (pa_cons (pe_op op_add pe_int (pe_call G_l_draw hr_l_draw (by rfl) T.g_l_draw k_l_draw b_l_draw .nil pass0 (pa_cons (pe_call G_l_cell_at hr_l_cell_at (by rfl) T.g_l_cell_at k_l_cell_at b_l_cell_at .nil pass0 (pa_cons (pv 0) (pa_cons pe_int pa_nil))) (pa_cons pe_int (pa_cons pe_int pa_nil))))) pa_nil))))
      (pss_cons (ps_expr (pe_bm PySem.F.plainAttrs_list PySem.F.slot_list_append PySem.F.type_list_append mt_append (pv 2) (pa_cons (pe_ix (ix_tupK K) (pe_tup (pa_cons pe_int (pa_cons pe_int (pa_cons pe_int (pa_cons pe_int (pa_cons pe_int (pa_cons pe_int pa_nil))))))) (pe_call G_l_draw hr_l_draw (by rfl) T.g_l_draw k_l_draw b_l_draw .nil pass0 (pa_cons (pe_call G_l_cell_at hr_l_cell_at (by rfl) T.g_l_cell_at k_l_cell_at b_l_cell_at .nil pass0 (pa_cons (pv 0) (pa_cons pe_int pa_nil))) (pa_cons pe_int (pa_cons pe_int pa_nil)))) (fun _ _ => rfl)) pa_nil)))
      (pss_cons (ps_for PassesOwn.never rfl (pi_listK K (pe_op op_cat (pv 2) (pe_lst (pa_cons (pe_ix (ix_listK K) (pv 2) pe_int (fun _ _ => rfl)) pa_nil)))) (pg_name (i := 3) sc_law.nd rfl (Or.inl rfl)) (pss_cons (ps_set (i := 4) sc_law.nd rfl (.inl rfl) (pe_lst (pa_cons pe_int (pa_cons (pe_op op_sub (pv 3) pe_int) (pa_cons (pe_call G_l_draw hr_l_draw (by rfl) T.g_l_draw k_l_draw b_l_draw .nil pass0 (pa_cons (pe_call G_l_cell_at hr_l_cell_at (by rfl) T.g_l_cell_at k_l_cell_at b_l_cell_at .nil pass0 (pa_cons (pv 0) (pa_cons pe_int pa_nil))) (pa_cons pe_int (pa_cons (pv 3) pa_nil)))) (pa_cons (pe_op op_mod (pe_callB (sumK K rfl) (by rfl) T.z_sum (by decide +kernel) (pa_cons (pe_stepLK K (pv 1)) pa_nil)) (pv 3)) pa_nil))))))
      (pss_one (ps_for PassesOwn.never rfl (pi_listK K (pv 4)) (pg_name (i := 5) sc_law.nd rfl (Or.inl rfl)) (pss_one (ps_if (pt_not (pt_val (pe_call G_l_right hr_l_right (by rfl) T.g_l_right k_l_right b_l_right .nil pass0 (pa_cons (pv 1) (pa_cons (pv 3) (pa_cons (pv 5) pa_nil)))))) (pss_one (ps_ret pe_bl)) pss_nil))))))
      (pss_one (ps_ret (pe_and (pe_call G_l_right hr_l_right (by rfl) T.g_l_right k_l_right b_l_right .nil pass0 (pa_cons (pe_lst pa_nil) (pa_cons pe_int (pa_cons pe_int pa_nil)))) (pe_and (pe_call G_l_right hr_l_right (by rfl) T.g_l_right k_l_right b_l_right .nil pass0 (pa_cons (pe_lst pa_nil) (pa_cons pe_int (pa_cons pe_int pa_nil)))) (pe_one (pe_call G_l_right hr_l_right (by rfl) T.g_l_right k_l_right b_l_right .nil pass0 (pa_cons (pe_lst (pa_cons pe_int pa_nil)) (pa_cons pe_int (pa_cons pe_int pa_nil))))))))))))), ?_⟩
    have hsc : Scr K H (.ref a) ns := ⟨a, rfl, hS, hl⟩
    refine q_asgR (er_call (R := fun v H2 => ∃ (q : Addr) (ms : List Int), v = .ref q ∧ H2 q = some (.lst (iv ms)) ∧ ms.length = ns.length ∧ ∀ x ∈ ms, -1000000 ≤ x ∧ x ≤ 1000000) (V.ref a, ns) (ea_cons (ev_var rfl) ea_nil) (fun H1 e => ⟨rfl, a, rfl, ex_l e hS, hl⟩)
      fun H1 v H2 _ _ ⟨ms, ⟨q, hv, _, hq⟩, h2, h3⟩ => ⟨q, ms, hv, hq, h2, h3⟩) fun v1 H1 e1 h1 => ?_
    obtain ⟨p0, ms, rfl, hp0, hlen, hb0⟩ := h1
    have drw : ∀ σ H' (j : Nat) (kk m : Int) te tj, σ[0]? = some (some (.ref a)) → Ex H H' → Ev tj σ H' (.int (j : Int)) → Ev te σ H' (.int m) → 0 ≤ kk → 0 < m → EvR (tCall (sp_l_draw K) [] E0 (tCons (tCall (sp_l_cell_at K) [] E0 (tCons (tVar 0) (tCons tj tNil))) (tCons (tC (.int kk)) (tCons te tNil)))) σ H' (fun v _ => ∃ r, v = .int r ∧ 0 ≤ r ∧ r < m) :=
      fun σ H' j kk m te tj hσ e hj hm h0 h1 => er_draw (ev_cell (ev_var hσ) hj (hsc.up e)) ev_c hm h0 h1
    have one : ∀ σ H' (j : Nat) (kk m : Int) tj, σ[0]? = some (some (.ref a)) → Ex H H' → Ev tj σ H' (.int (j : Int)) → 0 ≤ kk → 0 < m → m ≤ 1000000 → EvR (tOp (rI0 fun i j => .int (i + j)) (tC (.int 1)) (tCall (sp_l_draw K) [] E0 (tCons (tCall (sp_l_cell_at K) [] E0 (tCons (tVar 0) (tCons tj tNil))) (tCons (tC (.int kk)) (tCons (tC (.int m)) tNil))))) σ H' (fun v _ => ∃ t : Int, v = .int t ∧ 1 ≤ t ∧ t ≤ 1000000) :=
      fun σ H' j kk m tj hσ e hj h0 h1 h2 => er_op (evr ev_c) (fun x H2 e2 _ => drw σ H2 j kk m _ _ hσ (e.trans e2) (hj.mono e2) ev_c h0 h1) fun x y H1 H2 _ hx _ ⟨r, hy, r0, r1⟩ Q q => by
        subst hx hy
        exact ⟨1, r, rfl, rfl, q _ _ (Ex.refl _) ⟨_, rfl, by omega, by omega⟩⟩
    refine q_asgR (er_lst (T := fun vs _ => ∃ t1 t2 : Int, vs = iv [t1, t2] ∧ (1 ≤ t1 ∧ t1 ≤ 1000000) ∧ (1 ≤ t2 ∧ t2 ≤ 1000000)) (ear_cons (one _ _ 2 1 40 _ rfl e1 ev_c (by decide) (by decide) (by decide)) fun x H2 e2 ⟨t1, hx, ht1⟩ => ?_) fun vs H2 h => ?_) fun v2 H2 e2 h2 => ?_
    · subst hx
      exact (ear_one (one _ _ 3 2 1000000 _ rfl (e1.trans e2) ev_c (by decide) (by decide) (by decide))).imp fun vs H3 _ ⟨x, hvs, t2, hx, ht2⟩ => by
        subst hvs hx
        exact ⟨t1, t2, rfl, ht1, ht2⟩
    · obtain ⟨t1, t2, rfl, _⟩ := h
      show 2 ≤ 100000
      decide
    obtain ⟨lt, vs, H2', rfl, hltn, _, ⟨t1, t2, rfl, ht1, ht2⟩, hlt⟩ := h2
    have e12 := e1.trans e2
    refine q_appR (xs := iv [t1, t2]) hlt (ev_var rfl) (ev_pickR (l := [1, 12, 60, 720, 1000000, 997]) (by walk_at "ev") ((drw _ _ 4 3 6 _ _ rfl e12 ev_c ev_c (by decide) (by decide)).imp fun v H3 _ ⟨i, h⟩ => ⟨i, h⟩) (by rfl) (by walk_at "sz")) (by walk_at "sz") fun v3 H3 e3 h3 => ?_
    obtain ⟨i3, i30, i31, rfl⟩ := h3
    have ht3 := getD_all (l := [1, 12, 60, 720, 1000000, 997]) (i := i3.toNat) (a := 1) (b := 1000000) (by decide) (by have : i3 < 6 := i31; show i3.toNat < 6; omega)
    generalize ([1, 12, 60, 720, 1000000, 997] : List Int).getD i3.toNat 0 = t3 at ht3
    have hltn1 : H1 lt = none := hltn
    have hp03 : (upd H3 lt (.lst (iv [t1, t2] ++ [.int t3]))) p0 = some (.lst (iv ms)) := by
      rw [upd_ne (ne_of_none hp0 hltn1)]
      exact e3 _ _ (e2 _ _ hp0)
    have e13 : Ex H1 (upd H3 lt (.lst (iv [t1, t2] ++ [.int t3]))) := Ex.mut (e2.trans e3) hltn1
    have hlt3 : (upd H3 lt (.lst (iv [t1, t2] ++ [.int t3]))) lt = some (.lst (iv [t1, t2, t3])) := upd_same
    generalize upd H3 lt (.lst (iv [t1, t2] ++ [.int t3])) = H3' at hp03 e13 hlt3
    refine q_forLU (er_cat (xs := iv [t1, t2, t3]) (ys := iv [t1]) ((evr (v := .ref lt) (ev_var rfl)).imp fun v H6 e6 hv => ⟨lt, hv, e6 _ _ hlt3⟩)
      ((er_new (ea_cons (ev_op (ev_var rfl) ev_c (rv_ixL (sq_of hlt3) rfl)) ea_nil) (by walk_at "sz")).imp fun v H6 _ ⟨q, hv, _, hq⟩ => ⟨q, hv, hq⟩) (by walk_at "sz")) fun v H4 e4 ⟨tq, hv, _, htq⟩ => ?_
    subst hv
    have right : ∀ σ H' (ta tb tc : TE) (q' : Addr) (ns' : List Int) (t r : Int), Ev ta σ H' (.ref q') → Ev tb σ H' (.int t) → Ev tc σ H' (.int r) → H' q' = some (.lst (iv ns')) → ns'.length ≤ 64 → (∀ n ∈ ns', -1000000 ≤ n ∧ n ≤ 1000000) → 1 ≤ t → t ≤ 1000000 → 0 ≤ r → r < t →
        Ev (tCall (sp_l_right K) [] E0 (tCons ta (tCons tb (tCons tc tNil)))) σ H' (.bl true) := fun σ H' ta tb tc q' ns' t r h1 h2 h3 h4 h5 h6 h7 h8 h9 h10 =>
      ev_call0 ⟨.ref q', ns', t, r⟩ (ea_cons h1 (ea_cons h2 (ea_cons h3 ea_nil))) (fun H7 e7 => ⟨rfl, ⟨⟨q', rfl, e7 _ _ h4⟩, by show ns'.length ≤ 5000; omega, h6, h7, h8, h9, h10⟩, h5⟩) fun _ _ _ p => p
    refine ⟨tq, _, rfl, sq_of htq, fun i σ' H' => ∃ s3 s4 s5 : Option V, σ' = [some (.ref a), some (.ref p0), some (.ref lt), s3, s4, s5] ∧ Ex H4 H', ⟨_, _, _, rfl, Ex.refl _⟩, fun i σ' H' _ ⟨_, _, _, _, e⟩ => sq_of (e _ _ htq), fun i x σ' H' hx hP => ?_, fun σ' H' hP => ?_⟩
    · obtain ⟨s3, s4, s5, rfl, e5⟩ := hP
      obtain ⟨t, rfl, tt0, tt1⟩ : ∃ t : Int, x = .int t ∧ 1 ≤ t ∧ t ≤ 1000000 := by
        rcases i with _ | _ | _ | _ | i
        · cases hx; exact ⟨t1, rfl, ht1⟩
        · cases hx; exact ⟨t2, rfl, ht2⟩
        · cases hx; exact ⟨t3, rfl, ht3⟩
        · cases hx; exact ⟨t1, rfl, ht1⟩
        · simp at hx
      have eH : Ex H H' := e1.trans (e13.trans (e4.trans e5))
      have hp05 := (e4.trans e5) _ _ hp03
      refine q_asgR (er_lst (T := fun vs _ => ∃ r1 r2 r3 r4 : Int, vs = iv [r1, r2, r3, r4] ∧ ∀ r ∈ [r1, r2, r3, r4], 0 ≤ r ∧ r < t) (ear_cons (evr ev_c) fun x1 H5 e5 hx1 => ear_cons (evr (ev_op (ev_var rfl) ev_c rv_I0)) fun x2 H6 e6 hx2 => ear_cons (drw _ _ 5 4 t _ _ rfl (eH.trans (e5.trans e6)) ev_c (ev_var rfl) (by decide) (by omega)) fun x3 H7 e7 hx3 => ?_) fun vs H2 h => ?_) fun v6 H6 e6 h6 => ?_
      · obtain ⟨r3, rfl, r30, r31⟩ := hx3
        subst hx1 hx2
        refine (ear (ea_cons (ev_op (ev_sumN (ns := stepP ms) (H0 := H7) ((er_step (ev_var rfl) (sq_of (e7 _ _ (e6 _ _ (e5 _ _ hp05))))).imp fun v H8 _ h => by rw [← stepP_iv]; exact h)) (ev_var rfl) (rv_I (by show 0 < t; omega))) ea_nil)).imp fun vs H8 _ hv => ?_
        subst hv
        refine ⟨0, t - 1, r3, (stepP ms).sum % t, rfl, fun r hr => ?_⟩
        simp only [List.mem_cons, List.not_mem_nil, or_false] at hr
        have m0 := Int.emod_nonneg (stepP ms).sum (b := t) (by omega)
        have m1 := Int.emod_lt_of_pos (stepP ms).sum (b := t) (by omega)
        rcases hr with h | h | h | h <;> subst h <;> omega
      · obtain ⟨_, _, _, _, rfl, _⟩ := h
        show 4 ≤ 100000
        decide
      obtain ⟨lr, vs, H6', rfl, _, _, ⟨r1, r2, r3, r4, rfl, hrs⟩, hlr⟩ := h6
      refine s_forL (xs := iv [r1, r2, r3, r4]) (ev_var rfl) (sq_of hlr) (fun i σ' H' => ∃ s5 : Option V, σ' = [some (.ref a), some (.ref p0), some (.ref lt), some (.int t), some (.ref lr), s5] ∧ Ex H6 H') (fun H7 e7 => ⟨_, rfl, e7⟩) (fun i σ' H' _ ⟨_, _, e⟩ => sq_of (e _ _ hlr)) (fun i x σ' H7 hx hP => ?_) fun σ' H7 hP => ?_
      · obtain ⟨s5, rfl, e7⟩ := hP
        obtain ⟨hi, rfl⟩ := iv_get hx
        have hr := hrs _ (getD_mem hi)
        show tIfS _ _ _ _ _ _
        refine s_when (b := false) (et_not (et_B (right _ _ _ _ _ p0 ms t _ (ev_var rfl) (ev_var rfl) (ev_var rfl) (e7 _ _ (e6 _ _ hp05)) (by omega) hb0 tt0 tt1 hr.1 hr.2))) (fun z => nomatch z) fun _ H8 e8 => ⟨_, rfl, e7.trans e8⟩
      · obtain ⟨s5, rfl, e7⟩ := hP
        exact ⟨_, _, _, rfl, e5.trans (e6.trans e7)⟩
    · obtain ⟨s3, s4, s5, rfl, e5⟩ := hP
      have nw : ∀ σ H' (ta : TA) (ns' : List Int) (t r : Int) (tb tc : TE), EvA ta σ H' (iv ns') → ns'.length ≤ 64 → Ev tb σ H' (.int t) → Ev tc σ H' (.int r) → (∀ n ∈ ns', -1000000 ≤ n ∧ n ≤ 1000000) → 1 ≤ t → t ≤ 1000000 → 0 ≤ r → r < t → Ev (tCall (sp_l_right K) [] E0 (tCons (tLst ta) (tCons tb (tCons tc tNil)))) σ H' (.bl true) := fun σ H' ta ns' t r tb tc h1 h2 h3 h4 h5 h6 h7 h8 h9 => by
        refine (er_callS (R := fun v _ => v = .bl true) (T := fun vs H2 => ∃ q', vs = [.ref q', .int t, .int r] ∧ H2 q' = some (.lst (iv ns'))) (ear_cons (er_new h1 (by rw [iv_len]; omega)) fun x H2 e2 ⟨q', hx, _, hq'⟩ => (ear (ea_cons (h3.mono e2) (ea_cons (h4.mono e2) ea_nil))).imp fun vs H3 e3 hv => ⟨q', by rw [hx, hv], e3 _ _ hq'⟩) fun vs H2 e2 ⟨q', hv, hq'⟩ Q q => ?_).ev fun _ _ _ p => p
        subst hv
        exact ⟨⟨.ref q', ns', t, r⟩, ⟨rfl, ⟨⟨q', rfl, hq'⟩, by show ns'.length ≤ 5000; omega, h5, h6, h7, h8, h9⟩, h2⟩, fun v H3 e3 p => q v H3 e3 p⟩
      refine s_ret (v := .bl true) (ev_andV (a := true) (b := true) (nw _ _ _ [] 1 0 _ _ ea_nil (by decide) ev_c ev_c (by simp) (by decide) (by decide) (by decide) (by decide)) fun _ => ev_andV (a := true) (b := true) (nw _ _ _ [] 5 3 _ _ ea_nil (by decide) ev_c ev_c (by simp) (by decide) (by decide) (by decide) (by decide)) fun _ =>
        nw _ _ _ [4] 6 1 _ _ (ea_cons ev_c ea_nil) (by decide) ev_c ev_c (by simp) (by decide) (by decide) (by decide) (by decide)) fun H6 _ => k _
end
theorem all_mk {l : PySem.W.OpenLaw} {w : World} {K : PySem.W.Frag} {h : Heap} {mg : Str → Option Value} {fa : Addr} {x_is_whole x_is_number x_is_turn x_check_numbers x_check_turn x_shares_of x_sum_of x_Times_init x_Times_shows x_Bar_init x_Bar_shows x_common_of x_come x_l_cell_at x_l_draw x_l_row x_l_whole x_l_numbers x_l_due x_l_right x_law y_RestError y_BadNumbers y_BadRound y_BadRest y_Answer y_Number y_Clash y_Common y_Times y_Bar y_Back : Addr} (X : K.In h) (G : h.Ns mainGlobals mg) (hfa : mg "law" = some (.ref fa))
    {od0 an0 : Option Addr} {sl0 : Array (Option Value)} {oc0 kV0 dc0 pm0 cd0 ct0 : Value}
    {od1 an1 : Option Addr} {sl1 : Array (Option Value)} {oc1 kV1 dc1 pm1 cd1 ct1 : Value}
    {od2 an2 : Option Addr} {sl2 : Array (Option Value)} {oc2 kV2 dc2 pm2 cd2 ct2 : Value}
    {od3 an3 : Option Addr} {sl3 : Array (Option Value)} {oc3 kV3 dc3 pm3 cd3 ct3 : Value}
    {od4 an4 : Option Addr} {sl4 : Array (Option Value)} {oc4 kV4 dc4 pm4 cd4 ct4 : Value}
    {od5 an5 : Option Addr} {sl5 : Array (Option Value)} {oc5 kV5 dc5 pm5 cd5 ct5 : Value}
    {od6 an6 : Option Addr} {sl6 : Array (Option Value)} {oc6 kV6 dc6 pm6 cd6 ct6 : Value}
    {od7 an7 : Option Addr} {sl7 : Array (Option Value)} {oc7 kV7 dc7 pm7 cd7 ct7 : Value}
    {od8 an8 : Option Addr} {sl8 : Array (Option Value)} {oc8 kV8 dc8 pm8 cd8 ct8 : Value}
    {od9 an9 : Option Addr} {sl9 : Array (Option Value)} {oc9 kV9 dc9 pm9 cd9 ct9 : Value}
    {od10 an10 : Option Addr} {sl10 : Array (Option Value)} {oc10 kV10 dc10 pm10 cd10 ct10 : Value}
    {od11 an11 : Option Addr} {sl11 : Array (Option Value)} {oc11 kV11 dc11 pm11 cd11 ct11 : Value}
    {od12 an12 : Option Addr} {sl12 : Array (Option Value)} {oc12 kV12 dc12 pm12 cd12 ct12 : Value}
    {od13 an13 : Option Addr} {sl13 : Array (Option Value)} {oc13 kV13 dc13 pm13 cd13 ct13 : Value}
    {od14 an14 : Option Addr} {sl14 : Array (Option Value)} {oc14 kV14 dc14 pm14 cd14 ct14 : Value}
    {od15 an15 : Option Addr} {sl15 : Array (Option Value)} {oc15 kV15 dc15 pm15 cd15 ct15 : Value}
    {od16 an16 : Option Addr} {sl16 : Array (Option Value)} {oc16 kV16 dc16 pm16 cd16 ct16 : Value}
    {od17 an17 : Option Addr} {sl17 : Array (Option Value)} {oc17 kV17 dc17 pm17 cd17 ct17 : Value}
    {od18 an18 : Option Addr} {sl18 : Array (Option Value)} {oc18 kV18 dc18 pm18 cd18 ct18 : Value}
    {od19 an19 : Option Addr} {sl19 : Array (Option Value)} {oc19 kV19 dc19 pm19 cd19 ct19 : Value}
    {od20 an20 : Option Addr} {sl20 : Array (Option Value)} {oc20 kV20 dc20 pm20 cd20 ct20 : Value}
    {tk_GREATEST : Tok}
    (yRestError : PySem.W.nsIn K mainGlobals "RestError" = some (some (.ref y_RestError)))
    (yBadNumbers : PySem.W.nsIn K mainGlobals "BadNumbers" = some (some (.ref y_BadNumbers)))
    (yBadRound : PySem.W.nsIn K mainGlobals "BadRound" = some (some (.ref y_BadRound)))
    (yBadRest : PySem.W.nsIn K mainGlobals "BadRest" = some (some (.ref y_BadRest)))
    (yAnswer : PySem.W.nsIn K mainGlobals "Answer" = some (some (.ref y_Answer)))
    (yNumber : PySem.W.nsIn K mainGlobals "Number" = some (some (.ref y_Number)))
    (yClash : PySem.W.nsIn K mainGlobals "Clash" = some (some (.ref y_Clash)))
    (yCommon : PySem.W.nsIn K mainGlobals "Common" = some (some (.ref y_Common)))
    (yTimes : PySem.W.nsIn K mainGlobals "Times" = some (some (.ref y_Times)))
    (yBar : PySem.W.nsIn K mainGlobals "Bar" = some (some (.ref y_Bar)))
    (yBack : PySem.W.nsIn K mainGlobals "Back" = some (some (.ref y_Back)))
    (a0 : PySem.W.nsIn K mainGlobals "is_whole" = some (some (.ref x_is_whole)))
    (l0 : K.lookup x_is_whole = some ⟨oc0, od0, .func (PySem.W.fnOf "is_whole" "is_whole" (defArgs s_is_whole) (defBody s_is_whole) (defScope s_is_whole) .none kV0 dc0 pm0 an0 cd0 ct0), sl0⟩)
    (c0 : PySem.W.codeIn K cd0 "is_whole" = true)
    (k0 : PySem.W.keepIn K (.ref x_is_whole) = true)
    (a1 : PySem.W.nsIn K mainGlobals "is_number" = some (some (.ref x_is_number)))
    (l1 : K.lookup x_is_number = some ⟨oc1, od1, .func (PySem.W.fnOf "is_number" "is_number" (defArgs s_is_number) (defBody s_is_number) (defScope s_is_number) .none kV1 dc1 pm1 an1 cd1 ct1), sl1⟩)
    (c1 : PySem.W.codeIn K cd1 "is_number" = true)
    (k1 : PySem.W.keepIn K (.ref x_is_number) = true)
    (a2 : PySem.W.nsIn K mainGlobals "is_turn" = some (some (.ref x_is_turn)))
    (l2 : K.lookup x_is_turn = some ⟨oc2, od2, .func (PySem.W.fnOf "is_turn" "is_turn" (defArgs s_is_turn) (defBody s_is_turn) (defScope s_is_turn) .none kV2 dc2 pm2 an2 cd2 ct2), sl2⟩)
    (c2 : PySem.W.codeIn K cd2 "is_turn" = true)
    (k2 : PySem.W.keepIn K (.ref x_is_turn) = true)
    (a3 : PySem.W.nsIn K mainGlobals "check_numbers" = some (some (.ref x_check_numbers)))
    (l3 : K.lookup x_check_numbers = some ⟨oc3, od3, .func (PySem.W.fnOf "check_numbers" "check_numbers" (defArgs s_check_numbers) (defBody s_check_numbers) (defScope s_check_numbers) .none kV3 dc3 pm3 an3 cd3 ct3), sl3⟩)
    (c3 : PySem.W.codeIn K cd3 "check_numbers" = true)
    (k3 : PySem.W.keepIn K (.ref x_check_numbers) = true)
    (a4 : PySem.W.nsIn K mainGlobals "check_turn" = some (some (.ref x_check_turn)))
    (l4 : K.lookup x_check_turn = some ⟨oc4, od4, .func (PySem.W.fnOf "check_turn" "check_turn" (defArgs s_check_turn) (defBody s_check_turn) (defScope s_check_turn) .none kV4 dc4 pm4 an4 cd4 ct4), sl4⟩)
    (c4 : PySem.W.codeIn K cd4 "check_turn" = true)
    (k4 : PySem.W.keepIn K (.ref x_check_turn) = true)
    (a5 : PySem.W.nsIn K mainGlobals "shares_of" = some (some (.ref x_shares_of)))
    (l5 : K.lookup x_shares_of = some ⟨oc5, od5, .func (PySem.W.fnOf "shares_of" "shares_of" (defArgs s_shares_of) (defBody s_shares_of) (defScope s_shares_of) .none kV5 dc5 pm5 an5 cd5 ct5), sl5⟩)
    (c5 : PySem.W.codeIn K cd5 "shares_of" = true)
    (k5 : PySem.W.keepIn K (.ref x_shares_of) = true)
    (a6 : PySem.W.nsIn K mainGlobals "sum_of" = some (some (.ref x_sum_of)))
    (l6 : K.lookup x_sum_of = some ⟨oc6, od6, .func (PySem.W.fnOf "sum_of" "sum_of" (defArgs s_sum_of) (defBody s_sum_of) (defScope s_sum_of) .none kV6 dc6 pm6 an6 cd6 ct6), sl6⟩)
    (c6 : PySem.W.codeIn K cd6 "sum_of" = true)
    (k6 : PySem.W.keepIn K (.ref x_sum_of) = true)
    (a7 : PySem.W.findIn K (.ref y_Times) "__init__" = some (some (.ref x_Times_init)))
    (i7 : PySem.W.isFn K (.ref x_Times_init) = true)
    (l7 : K.lookup x_Times_init = some ⟨oc7, od7, .func (PySem.W.fnOf "__init__" "Times.__init__" (defArgs s_Times_init) (defBody s_Times_init) (defScope s_Times_init) .none kV7 dc7 pm7 an7 cd7 ct7), sl7⟩)
    (c7 : PySem.W.codeIn K cd7 "Times.__init__" = true)
    (k7 : PySem.W.keepIn K (.ref x_Times_init) = true)
    (a8 : PySem.W.findIn K (.ref y_Times) "shows" = some (some (.ref x_Times_shows)))
    (i8 : PySem.W.isFn K (.ref x_Times_shows) = true)
    (l8 : K.lookup x_Times_shows = some ⟨oc8, od8, .func (PySem.W.fnOf "shows" "Times.shows" (defArgs s_Times_shows) (defBody s_Times_shows) (defScope s_Times_shows) .none kV8 dc8 pm8 an8 cd8 ct8), sl8⟩)
    (c8 : PySem.W.codeIn K cd8 "Times.shows" = true)
    (k8 : PySem.W.keepIn K (.ref x_Times_shows) = true)
    (a9 : PySem.W.findIn K (.ref y_Bar) "__init__" = some (some (.ref x_Bar_init)))
    (i9 : PySem.W.isFn K (.ref x_Bar_init) = true)
    (l9 : K.lookup x_Bar_init = some ⟨oc9, od9, .func (PySem.W.fnOf "__init__" "Bar.__init__" (defArgs s_Bar_init) (defBody s_Bar_init) (defScope s_Bar_init) .none kV9 dc9 pm9 an9 cd9 ct9), sl9⟩)
    (c9 : PySem.W.codeIn K cd9 "Bar.__init__" = true)
    (k9 : PySem.W.keepIn K (.ref x_Bar_init) = true)
    (a10 : PySem.W.findIn K (.ref y_Bar) "shows" = some (some (.ref x_Bar_shows)))
    (i10 : PySem.W.isFn K (.ref x_Bar_shows) = true)
    (l10 : K.lookup x_Bar_shows = some ⟨oc10, od10, .func (PySem.W.fnOf "shows" "Bar.shows" (defArgs s_Bar_shows) (defBody s_Bar_shows) (defScope s_Bar_shows) .none kV10 dc10 pm10 an10 cd10 ct10), sl10⟩)
    (c10 : PySem.W.codeIn K cd10 "Bar.shows" = true)
    (k10 : PySem.W.keepIn K (.ref x_Bar_shows) = true)
    (a11 : PySem.W.nsIn K mainGlobals "common_of" = some (some (.ref x_common_of)))
    (l11 : K.lookup x_common_of = some ⟨oc11, od11, .func (PySem.W.fnOf "common_of" "common_of" (defArgs s_common_of) (defBody s_common_of) (defScope s_common_of) .none kV11 dc11 pm11 an11 cd11 ct11), sl11⟩)
    (c11 : PySem.W.codeIn K cd11 "common_of" = true)
    (k11 : PySem.W.keepIn K (.ref x_common_of) = true)
    (a12 : PySem.W.nsIn K mainGlobals "come" = some (some (.ref x_come)))
    (l12 : K.lookup x_come = some ⟨oc12, od12, .func (PySem.W.fnOf "come" "come" (defArgs s_come) (defBody s_come) (defScope s_come) .none kV12 dc12 pm12 an12 cd12 ct12), sl12⟩)
    (c12 : PySem.W.codeIn K cd12 "come" = true)
    (k12 : PySem.W.keepIn K (.ref x_come) = true)
    (a13 : PySem.W.nsIn K mainGlobals "_law_cell_at" = some (some (.ref x_l_cell_at)))
    (l13 : K.lookup x_l_cell_at = some ⟨oc13, od13, .func (PySem.W.fnOf "_law_cell_at" "_law_cell_at" (defArgs s_l_cell_at) (defBody s_l_cell_at) (defScope s_l_cell_at) .none kV13 dc13 pm13 an13 cd13 ct13), sl13⟩)
    (c13 : PySem.W.codeIn K cd13 "_law_cell_at" = true)
    (k13 : PySem.W.keepIn K (.ref x_l_cell_at) = true)
    (a14 : PySem.W.nsIn K mainGlobals "_law_draw" = some (some (.ref x_l_draw)))
    (l14 : K.lookup x_l_draw = some ⟨oc14, od14, .func (PySem.W.fnOf "_law_draw" "_law_draw" (defArgs s_l_draw) (defBody s_l_draw) (defScope s_l_draw) .none kV14 dc14 pm14 an14 cd14 ct14), sl14⟩)
    (c14 : PySem.W.codeIn K cd14 "_law_draw" = true)
    (k14 : PySem.W.keepIn K (.ref x_l_draw) = true)
    (a15 : PySem.W.nsIn K mainGlobals "_law_row" = some (some (.ref x_l_row)))
    (l15 : K.lookup x_l_row = some ⟨oc15, od15, .func (PySem.W.fnOf "_law_row" "_law_row" (defArgs s_l_row) (defBody s_l_row) (defScope s_l_row) .none kV15 dc15 pm15 an15 cd15 ct15), sl15⟩)
    (c15 : PySem.W.codeIn K cd15 "_law_row" = true)
    (k15 : PySem.W.keepIn K (.ref x_l_row) = true)
    (a16 : PySem.W.nsIn K mainGlobals "_law_whole" = some (some (.ref x_l_whole)))
    (l16 : K.lookup x_l_whole = some ⟨oc16, od16, .func (PySem.W.fnOf "_law_whole" "_law_whole" (defArgs s_l_whole) (defBody s_l_whole) (defScope s_l_whole) .none kV16 dc16 pm16 an16 cd16 ct16), sl16⟩)
    (c16 : PySem.W.codeIn K cd16 "_law_whole" = true)
    (k16 : PySem.W.keepIn K (.ref x_l_whole) = true)
    (a17 : PySem.W.nsIn K mainGlobals "_law_numbers" = some (some (.ref x_l_numbers)))
    (l17 : K.lookup x_l_numbers = some ⟨oc17, od17, .func (PySem.W.fnOf "_law_numbers" "_law_numbers" (defArgs s_l_numbers) (defBody s_l_numbers) (defScope s_l_numbers) .none kV17 dc17 pm17 an17 cd17 ct17), sl17⟩)
    (c17 : PySem.W.codeIn K cd17 "_law_numbers" = true)
    (k17 : PySem.W.keepIn K (.ref x_l_numbers) = true)
    (a18 : PySem.W.nsIn K mainGlobals "_law_due" = some (some (.ref x_l_due)))
    (l18 : K.lookup x_l_due = some ⟨oc18, od18, .func (PySem.W.fnOf "_law_due" "_law_due" (defArgs s_l_due) (defBody s_l_due) (defScope s_l_due) .none kV18 dc18 pm18 an18 cd18 ct18), sl18⟩)
    (c18 : PySem.W.codeIn K cd18 "_law_due" = true)
    (k18 : PySem.W.keepIn K (.ref x_l_due) = true)
    (a19 : PySem.W.nsIn K mainGlobals "_law_right" = some (some (.ref x_l_right)))
    (l19 : K.lookup x_l_right = some ⟨oc19, od19, .func (PySem.W.fnOf "_law_right" "_law_right" (defArgs s_l_right) (defBody s_l_right) (defScope s_l_right) .none kV19 dc19 pm19 an19 cd19 ct19), sl19⟩)
    (c19 : PySem.W.codeIn K cd19 "_law_right" = true)
    (k19 : PySem.W.keepIn K (.ref x_l_right) = true)
    (a20 : PySem.W.nsIn K mainGlobals "law" = some (some (.ref x_law)))
    (l20 : K.lookup x_law = some ⟨oc20, od20, .func (PySem.W.fnOf "law" "law" (defArgs s_law) (defBody s_law) (defScope s_law) .none kV20 dc20 pm20 an20 cd20 ct20), sl20⟩)
    (c20 : PySem.W.codeIn K cd20 "law" = true)
    (k20 : PySem.W.keepIn K (.ref x_law) = true)
    (z_isinstance : PySem.W.nsIn K mainGlobals "isinstance" = some none)
    (z_int : PySem.W.nsIn K mainGlobals "int" = some none)
    (z_bool : PySem.W.nsIn K mainGlobals "bool" = some none)
    (z_list : PySem.W.nsIn K mainGlobals "list" = some none)
    (z_all : PySem.W.nsIn K mainGlobals "all" = some none)
    (z_tuple : PySem.W.nsIn K mainGlobals "tuple" = some none)
    (z_range : PySem.W.nsIn K mainGlobals "range" = some none)
    (z_sum : PySem.W.nsIn K mainGlobals "sum" = some none)
    (z_len : PySem.W.nsIn K mainGlobals "len" = some none)
    (z_zip : PySem.W.nsIn K mainGlobals "zip" = some none)
    (v_GREATEST : PySem.W.nsIn K mainGlobals "GREATEST" = some (some (.int 1000000 tk_GREATEST)))
    (pg_Answer : PySem.W.plainGet K y_Answer Str.empty = true)
    (hd_Answer : PySem.W.hasDictIn K y_Answer = true)
    (po_Answer : PySem.W.plainOver K y_Answer = true)
    (sa_Answer : PySem.W.findIn K (.ref y_Answer) "__setattr__" = some (some (.builtin "object.__setattr__")))
    (ha_Answer : PySem.W.findIn K (.ref y_Answer) "__class__" = some (some (.builtin "object.__class__")))
    (hm_Answer : PySem.W.mroIn K y_Answer (.type "object") = some true)
    (pg_Number : PySem.W.plainGet K y_Number Str.empty = true)
    (hd_Number : PySem.W.hasDictIn K y_Number = true)
    (po_Number : PySem.W.plainOver K y_Number = true)
    (sa_Number : PySem.W.findIn K (.ref y_Number) "__setattr__" = some (some (.builtin "object.__setattr__")))
    (n_Number_number : PySem.W.findIn K (.ref y_Number) "number" = some none)
    (n_Number_turn : PySem.W.findIn K (.ref y_Number) "turn" = some none)
    (ha_Number : PySem.W.findIn K (.ref y_Number) "__class__" = some (some (.builtin "object.__class__")))
    (hm_Number : PySem.W.mroIn K y_Number (.type "object") = some true)
    (pg_Clash : PySem.W.plainGet K y_Clash Str.empty = true)
    (hd_Clash : PySem.W.hasDictIn K y_Clash = true)
    (po_Clash : PySem.W.plainOver K y_Clash = true)
    (sa_Clash : PySem.W.findIn K (.ref y_Clash) "__setattr__" = some (some (.builtin "object.__setattr__")))
    (n_Clash_one : PySem.W.findIn K (.ref y_Clash) "one" = some none)
    (n_Clash_other : PySem.W.findIn K (.ref y_Clash) "other" = some none)
    (ha_Clash : PySem.W.findIn K (.ref y_Clash) "__class__" = some (some (.builtin "object.__class__")))
    (hm_Clash : PySem.W.mroIn K y_Clash (.type "object") = some true)
    (pg_Common : PySem.W.plainGet K y_Common Str.empty = true)
    (hd_Common : PySem.W.hasDictIn K y_Common = true)
    (po_Common : PySem.W.plainOver K y_Common = true)
    (sa_Common : PySem.W.findIn K (.ref y_Common) "__setattr__" = some (some (.builtin "object.__setattr__")))
    (n_Common_part : PySem.W.findIn K (.ref y_Common) "part" = some none)
    (n_Common_times : PySem.W.findIn K (.ref y_Common) "times" = some none)
    (ha_Common : PySem.W.findIn K (.ref y_Common) "__class__" = some (some (.builtin "object.__class__")))
    (hm_Common : PySem.W.mroIn K y_Common (.type "object") = some true)
    (pg_Times : PySem.W.plainGet K y_Times Str.empty = true)
    (hd_Times : PySem.W.hasDictIn K y_Times = true)
    (po_Times : PySem.W.plainOver K y_Times = true)
    (sa_Times : PySem.W.findIn K (.ref y_Times) "__setattr__" = some (some (.builtin "object.__setattr__")))
    (mi_Times : PySem.W.makesIn K y_Times = true)
    (kc_Times : PySem.W.keepIn K (.ref y_Times) = true)
    (n_Times_times : PySem.W.findIn K (.ref y_Times) "times" = some none)
    (ha_Times : PySem.W.findIn K (.ref y_Times) "__class__" = some (some (.builtin "object.__class__")))
    (hm_Times : PySem.W.mroIn K y_Times (.type "object") = some true)
    (pg_Bar : PySem.W.plainGet K y_Bar Str.empty = true)
    (hd_Bar : PySem.W.hasDictIn K y_Bar = true)
    (po_Bar : PySem.W.plainOver K y_Bar = true)
    (sa_Bar : PySem.W.findIn K (.ref y_Bar) "__setattr__" = some (some (.builtin "object.__setattr__")))
    (mi_Bar : PySem.W.makesIn K y_Bar = true)
    (kc_Bar : PySem.W.keepIn K (.ref y_Bar) = true)
    (n_Bar_part : PySem.W.findIn K (.ref y_Bar) "part" = some none)
    (ha_Bar : PySem.W.findIn K (.ref y_Bar) "__class__" = some (some (.builtin "object.__class__")))
    (hm_Bar : PySem.W.mroIn K y_Bar (.type "object") = some true)
    (pg_Back : PySem.W.plainGet K y_Back Str.empty = true)
    (hd_Back : PySem.W.hasDictIn K y_Back = true)
    (po_Back : PySem.W.plainOver K y_Back = true)
    (sa_Back : PySem.W.findIn K (.ref y_Back) "__setattr__" = some (some (.builtin "object.__setattr__")))
    (n_Back_rest : PySem.W.findIn K (.ref y_Back) "rest" = some none)
    (ha_Back : PySem.W.findIn K (.ref y_Back) "__class__" = some (some (.builtin "object.__class__")))
    (hm_Back : PySem.W.mroIn K y_Back (.type "object") = some true)
    (hn : PySem.W.specialIn K (.builtin "object.__class__") "__get__" = some (some (.builtin "getset_descriptor.__get__")))
    (htk : PySem.W.takesIn K (.builtin "object.__class__") = some true)
    (q_Times_Answer : PySem.W.kitOne K (.ref y_Times) (.ref y_Answer) = some true)
    (q_Times_Number : PySem.W.kitOne K (.ref y_Times) (.ref y_Number) = some false)
    (q_Times_Clash : PySem.W.kitOne K (.ref y_Times) (.ref y_Clash) = some false)
    (q_Times_Common : PySem.W.kitOne K (.ref y_Times) (.ref y_Common) = some false)
    (q_Times_Times : PySem.W.kitOne K (.ref y_Times) (.ref y_Times) = some true)
    (q_Times_Bar : PySem.W.kitOne K (.ref y_Times) (.ref y_Bar) = some false)
    (q_Times_Back : PySem.W.kitOne K (.ref y_Times) (.ref y_Back) = some false)
    (q_Bar_Answer : PySem.W.kitOne K (.ref y_Bar) (.ref y_Answer) = some true)
    (q_Bar_Number : PySem.W.kitOne K (.ref y_Bar) (.ref y_Number) = some false)
    (q_Bar_Clash : PySem.W.kitOne K (.ref y_Bar) (.ref y_Clash) = some false)
    (q_Bar_Common : PySem.W.kitOne K (.ref y_Bar) (.ref y_Common) = some false)
    (q_Bar_Times : PySem.W.kitOne K (.ref y_Bar) (.ref y_Times) = some false)
    (q_Bar_Bar : PySem.W.kitOne K (.ref y_Bar) (.ref y_Bar) = some true)
    (q_Bar_Back : PySem.W.kitOne K (.ref y_Bar) (.ref y_Back) = some false) :
    ∃ fd : FuncData, (∀ (s : Shared) (v : Value), BindsTo s fd ⟨[v], []⟩ [("_law_script", v)]) ∧ ∀ base : Heap, K.In base → base.Ns mainGlobals mg → FnOk l.prog w K mg base CX0 6 fa fd ["_law_script"] (sp_law K) := by
  have e := hfa.symm.trans (PySem.W.mg_of X G a20)
  cases e
  have T : Txt K mg ⟨x_is_whole, x_is_number, x_is_turn, x_check_numbers, x_check_turn, x_shares_of, x_sum_of, x_Times_init, x_Times_shows, x_Bar_init, x_Bar_shows, x_common_of, x_come, x_l_cell_at, x_l_draw, x_l_row, x_l_whole, x_l_numbers, x_l_due, x_l_right, fa, y_RestError, y_BadNumbers, y_BadRound, y_BadRest, y_Answer, y_Number, y_Clash, y_Common, y_Times, y_Bar, y_Back⟩ := {
    g_RestError := PySem.W.mg_of X G yRestError,
    g_BadNumbers := PySem.W.mg_of X G yBadNumbers,
    g_BadRound := PySem.W.mg_of X G yBadRound,
    g_BadRest := PySem.W.mg_of X G yBadRest,
    g_Answer := PySem.W.mg_of X G yAnswer,
    g_Number := PySem.W.mg_of X G yNumber,
    g_Clash := PySem.W.mg_of X G yClash,
    g_Common := PySem.W.mg_of X G yCommon,
    g_Times := PySem.W.mg_of X G yTimes,
    g_Bar := PySem.W.mg_of X G yBar,
    g_Back := PySem.W.mg_of X G yBack,
    F_is_whole := ⟨_, fun_mk (st := s_is_whole) l0 c0 k0, (fun_mk (st := s_is_whole) l0 c0 k0).binds fun _ _ _ _ _ _ us hl => match us, hl with | [_], _ => rfl⟩,
    g_is_whole := PySem.W.mg_of X G a0,
    F_is_number := ⟨_, fun_mk (st := s_is_number) l1 c1 k1, (fun_mk (st := s_is_number) l1 c1 k1).binds fun _ _ _ _ _ _ us hl => match us, hl with | [_], _ => rfl⟩,
    g_is_number := PySem.W.mg_of X G a1,
    F_is_turn := ⟨_, fun_mk (st := s_is_turn) l2 c2 k2, (fun_mk (st := s_is_turn) l2 c2 k2).binds fun _ _ _ _ _ _ us hl => match us, hl with | [_], _ => rfl⟩,
    g_is_turn := PySem.W.mg_of X G a2,
    F_check_numbers := ⟨_, fun_mk (st := s_check_numbers) l3 c3 k3, (fun_mk (st := s_check_numbers) l3 c3 k3).binds fun _ _ _ _ _ _ us hl => match us, hl with | [_], _ => rfl⟩,
    g_check_numbers := PySem.W.mg_of X G a3,
    F_check_turn := ⟨_, fun_mk (st := s_check_turn) l4 c4 k4, (fun_mk (st := s_check_turn) l4 c4 k4).binds fun _ _ _ _ _ _ us hl => match us, hl with | [_], _ => rfl⟩,
    g_check_turn := PySem.W.mg_of X G a4,
    F_shares_of := ⟨_, fun_mk (st := s_shares_of) l5 c5 k5, (fun_mk (st := s_shares_of) l5 c5 k5).binds fun _ _ _ _ _ _ us hl => match us, hl with | [_, _], _ => rfl⟩,
    g_shares_of := PySem.W.mg_of X G a5,
    F_sum_of := ⟨_, fun_mk (st := s_sum_of) l6 c6 k6, (fun_mk (st := s_sum_of) l6 c6 k6).binds fun _ _ _ _ _ _ us hl => match us, hl with | [_, _], _ => rfl⟩,
    g_sum_of := PySem.W.mg_of X G a6,
    F_Times_init := ⟨_, fun_mk (st := s_Times_init) l7 c7 k7, (fun_mk (st := s_Times_init) l7 c7 k7).binds fun _ _ _ _ _ _ us hl => match us, hl with | [_, _], _ => rfl⟩,
    F_Times_shows := ⟨_, fun_mk (st := s_Times_shows) l8 c8 k8, (fun_mk (st := s_Times_shows) l8 c8 k8).binds fun _ _ _ _ _ _ us hl => match us, hl with | [_, _, _, _], _ => rfl⟩,
    F_Bar_init := ⟨_, fun_mk (st := s_Bar_init) l9 c9 k9, (fun_mk (st := s_Bar_init) l9 c9 k9).binds fun _ _ _ _ _ _ us hl => match us, hl with | [_, _], _ => rfl⟩,
    F_Bar_shows := ⟨_, fun_mk (st := s_Bar_shows) l10 c10 k10, (fun_mk (st := s_Bar_shows) l10 c10 k10).binds fun _ _ _ _ _ _ us hl => match us, hl with | [_, _, _, _], _ => rfl⟩,
    F_common_of := ⟨_, fun_mk (st := s_common_of) l11 c11 k11, (fun_mk (st := s_common_of) l11 c11 k11).binds fun _ _ _ _ _ _ us hl => match us, hl with | [_], _ => rfl⟩,
    g_common_of := PySem.W.mg_of X G a11,
    F_come := ⟨_, fun_mk (st := s_come) l12 c12 k12, (fun_mk (st := s_come) l12 c12 k12).binds fun _ _ _ _ _ _ us hl => match us, hl with | [_, _, _], _ => rfl⟩,
    g_come := PySem.W.mg_of X G a12,
    F_l_cell_at := ⟨_, fun_mk (st := s_l_cell_at) l13 c13 k13, (fun_mk (st := s_l_cell_at) l13 c13 k13).binds fun _ _ _ _ _ _ us hl => match us, hl with | [_, _], _ => rfl⟩,
    g_l_cell_at := PySem.W.mg_of X G a13,
    F_l_draw := ⟨_, fun_mk (st := s_l_draw) l14 c14 k14, (fun_mk (st := s_l_draw) l14 c14 k14).binds fun _ _ _ _ _ _ us hl => match us, hl with | [_, _, _], _ => rfl⟩,
    g_l_draw := PySem.W.mg_of X G a14,
    F_l_row := ⟨_, fun_mk (st := s_l_row) l15 c15 k15, (fun_mk (st := s_l_row) l15 c15 k15).binds fun _ _ _ _ _ _ us hl => match us, hl with | [_], _ => rfl⟩,
    g_l_row := PySem.W.mg_of X G a15,
    F_l_whole := ⟨_, fun_mk (st := s_l_whole) l16 c16 k16, (fun_mk (st := s_l_whole) l16 c16 k16).binds fun _ _ _ _ _ _ us hl => match us, hl with | [_], _ => rfl⟩,
    g_l_whole := PySem.W.mg_of X G a16,
    F_l_numbers := ⟨_, fun_mk (st := s_l_numbers) l17 c17 k17, (fun_mk (st := s_l_numbers) l17 c17 k17).binds fun _ _ _ _ _ _ us hl => match us, hl with | [_], _ => rfl⟩,
    g_l_numbers := PySem.W.mg_of X G a17,
    F_l_due := ⟨_, fun_mk (st := s_l_due) l18 c18 k18, (fun_mk (st := s_l_due) l18 c18 k18).binds fun _ _ _ _ _ _ us hl => match us, hl with | [_, _, _, _], _ => rfl⟩,
    g_l_due := PySem.W.mg_of X G a18,
    F_l_right := ⟨_, fun_mk (st := s_l_right) l19 c19 k19, (fun_mk (st := s_l_right) l19 c19 k19).binds fun _ _ _ _ _ _ us hl => match us, hl with | [_, _, _], _ => rfl⟩,
    g_l_right := PySem.W.mg_of X G a19,
    F_law := ⟨_, fun_mk (st := s_law) l20 c20 k20, (fun_mk (st := s_law) l20 c20 k20).binds fun _ _ _ _ _ _ us hl => match us, hl with | [_], _ => rfl⟩,
    g_law := PySem.W.mg_of X G a20,
    z_isinstance := PySem.W.mg_none_of X G z_isinstance,
    z_int := PySem.W.mg_none_of X G z_int,
    z_bool := PySem.W.mg_none_of X G z_bool,
    z_list := PySem.W.mg_none_of X G z_list,
    z_all := PySem.W.mg_none_of X G z_all,
    z_tuple := PySem.W.mg_none_of X G z_tuple,
    z_range := PySem.W.mg_none_of X G z_range,
    z_sum := PySem.W.mg_none_of X G z_sum,
    z_len := PySem.W.mg_none_of X G z_len,
    z_zip := PySem.W.mg_none_of X G z_zip,
    k_GREATEST := ⟨_, PySem.W.mg_of X G v_GREATEST⟩,
    cl_Answer := ⟨pg_Answer, hd_Answer, po_Answer, sa_Answer⟩,
    i_Answer := ⟨⟨pg_Answer, hd_Answer, po_Answer, sa_Answer⟩, ha_Answer, hm_Answer⟩,
    cl_Number := ⟨pg_Number, hd_Number, po_Number, sa_Number⟩,
    n_Number_number := n_Number_number,
    n_Number_turn := n_Number_turn,
    i_Number := ⟨⟨pg_Number, hd_Number, po_Number, sa_Number⟩, ha_Number, hm_Number⟩,
    cl_Clash := ⟨pg_Clash, hd_Clash, po_Clash, sa_Clash⟩,
    n_Clash_one := n_Clash_one,
    n_Clash_other := n_Clash_other,
    i_Clash := ⟨⟨pg_Clash, hd_Clash, po_Clash, sa_Clash⟩, ha_Clash, hm_Clash⟩,
    cl_Common := ⟨pg_Common, hd_Common, po_Common, sa_Common⟩,
    n_Common_part := n_Common_part,
    n_Common_times := n_Common_times,
    i_Common := ⟨⟨pg_Common, hd_Common, po_Common, sa_Common⟩, ha_Common, hm_Common⟩,
    cl_Times := ⟨pg_Times, hd_Times, po_Times, sa_Times⟩,
    mk_Times := ⟨mi_Times, a7, i7, kc_Times⟩,
    m_Times_shows := ⟨a8, i8, k8⟩,
    n_Times_times := n_Times_times,
    i_Times := ⟨⟨pg_Times, hd_Times, po_Times, sa_Times⟩, ha_Times, hm_Times⟩,
    cl_Bar := ⟨pg_Bar, hd_Bar, po_Bar, sa_Bar⟩,
    mk_Bar := ⟨mi_Bar, a9, i9, kc_Bar⟩,
    m_Bar_shows := ⟨a10, i10, k10⟩,
    n_Bar_part := n_Bar_part,
    i_Bar := ⟨⟨pg_Bar, hd_Bar, po_Bar, sa_Bar⟩, ha_Bar, hm_Bar⟩,
    cl_Back := ⟨pg_Back, hd_Back, po_Back, sa_Back⟩,
    n_Back_rest := n_Back_rest,
    i_Back := ⟨⟨pg_Back, hd_Back, po_Back, sa_Back⟩, ha_Back, hm_Back⟩,
    isg := ⟨hn, htk⟩,
    q_Times_Answer := q_Times_Answer,
    q_Times_Number := q_Times_Number,
    q_Times_Clash := q_Times_Clash,
    q_Times_Common := q_Times_Common,
    q_Times_Times := q_Times_Times,
    q_Times_Bar := q_Times_Bar,
    q_Times_Back := q_Times_Back,
    q_Bar_Answer := q_Bar_Answer,
    q_Bar_Number := q_Bar_Number,
    q_Bar_Clash := q_Bar_Clash,
    q_Bar_Common := q_Bar_Common,
    q_Bar_Times := q_Bar_Times,
    q_Bar_Bar := q_Bar_Bar,
    q_Bar_Back := q_Bar_Back }
  refine ⟨PySem.W.fnOf "law" "law" (defArgs s_law) (defBody s_law) (defScope s_law) .none kV20 dc20 pm20 an20 cd20 ct20, fun s v => .of_eq rfl, fun base _ _ => ?_⟩
  exact ok_law T (fun_mk (st := s_law) l20 c20 k20)
end Wl
open PySem PySem.W PyProof.Rows in
set_option maxHeartbeats 0 in
theorem PySem.Challenge.cw_wheelrow_k03_whole_come_holds : PySem.Challenge.rw_wheelrow_k03_whole_come.Holds := by
  w_on; o_law; k_head; (case hw => w_witness2)
  k_fill
  refine L2.walk_of (l := PySem.Challenge.rw_wheelrow_k03_whole_come) (n := 63) (k := 6) (x := "_law_script") (CX := fun _ => L2.CX0) (sp := fun w => Wl.sp_law _) rfl (by decide) rfl ⟨rfl, by decide, by decide⟩ (fun w h Y => PySem.W.kIn_of Y) ?F (fun _ _ a ns hl _ hS => ⟨_, ns, rfl, ⟨a, rfl, hS, hl⟩, fun _ => rfl⟩) (fun _ _ _ _ _ h => h)
  case F =>
    intro w mg fa h KX G hmg
    refine' Wl.all_mk KX G hmg ?yRestError ?yBadNumbers ?yBadRound ?yBadRest ?yAnswer ?yNumber ?yClash ?yCommon ?yTimes ?yBar ?yBack ?a0 ?l0 ?c0 ?k0 ?a1 ?l1 ?c1 ?k1 ?a2 ?l2 ?c2 ?k2 ?a3 ?l3 ?c3 ?k3 ?a4 ?l4 ?c4 ?k4 ?a5 ?l5 ?c5 ?k5 ?a6 ?l6 ?c6 ?k6 ?a7 ?i7 ?l7 ?c7 ?k7 ?a8 ?i8 ?l8 ?c8 ?k8 ?a9 ?i9 ?l9 ?c9 ?k9 ?a10 ?i10 ?l10 ?c10 ?k10 ?a11 ?l11 ?c11 ?k11 ?a12 ?l12 ?c12 ?k12 ?a13 ?l13 ?c13 ?k13 ?a14 ?l14 ?c14 ?k14 ?a15 ?l15 ?c15 ?k15 ?a16 ?l16 ?c16 ?k16 ?a17 ?l17 ?c17 ?k17 ?a18 ?l18 ?c18 ?k18 ?a19 ?l19 ?c19 ?k19 ?a20 ?l20 ?c20 ?k20 ?z_isinstance ?z_int ?z_bool ?z_list ?z_all ?z_tuple ?z_range ?z_sum ?z_len ?z_zip ?v_GREATEST ?pg_Answer ?hd_Answer ?po_Answer ?sa_Answer ?ha_Answer ?hm_Answer ?pg_Number ?hd_Number ?po_Number ?sa_Number ?n_Number_number ?n_Number_turn ?ha_Number ?hm_Number ?pg_Clash ?hd_Clash ?po_Clash ?sa_Clash ?n_Clash_one ?n_Clash_other ?ha_Clash ?hm_Clash ?pg_Common ?hd_Common ?po_Common ?sa_Common ?n_Common_part ?n_Common_times ?ha_Common ?hm_Common ?pg_Times ?hd_Times ?po_Times ?sa_Times ?mi_Times ?kc_Times ?n_Times_times ?ha_Times ?hm_Times ?pg_Bar ?hd_Bar ?po_Bar ?sa_Bar ?mi_Bar ?kc_Bar ?n_Bar_part ?ha_Bar ?hm_Bar ?pg_Back ?hd_Back ?po_Back ?sa_Back ?n_Back_rest ?ha_Back ?hm_Back ?hn ?htk ?q_Times_Answer ?q_Times_Number ?q_Times_Clash ?q_Times_Common ?q_Times_Times ?q_Times_Bar ?q_Times_Back ?q_Bar_Answer ?q_Bar_Number ?q_Bar_Clash ?q_Bar_Common ?q_Bar_Times ?q_Bar_Bar ?q_Bar_Back
    (case yRestError => k_is)
    (case yBadNumbers => k_is)
    (case yBadRound => k_is)
    (case yBadRest => k_is)
    (case yAnswer => k_is)
    (case yNumber => k_is)
    (case yClash => k_is)
    (case yCommon => k_is)
    (case yTimes => k_is)
    (case yBar => k_is)
    (case yBack => k_is)
    (case a0 => k_is)
    (case l0 => k_is)
    (case c0 => k_is)
    (case k0 => k_is)
    (case a1 => k_is)
    (case l1 => k_is)
    (case c1 => k_is)
    (case k1 => k_is)
    (case a2 => k_is)
    (case l2 => k_is)
    (case c2 => k_is)
    (case k2 => k_is)
    (case a3 => k_is)
    (case l3 => k_is)
    (case c3 => k_is)
    (case k3 => k_is)
    (case a4 => k_is)
    (case l4 => k_is)
    (case c4 => k_is)
    (case k4 => k_is)
    (case a5 => k_is)
    (case l5 => k_is)
    (case c5 => k_is)
    (case k5 => k_is)
    (case a6 => k_is)
    (case l6 => k_is)
    (case c6 => k_is)
    (case k6 => k_is)
    (case a7 => k_is)
    (case i7 => k_is)
    (case l7 => k_is)
    (case c7 => k_is)
    (case k7 => k_is)
    (case a8 => k_is)
    (case i8 => k_is)
    (case l8 => k_is)
    (case c8 => k_is)
    (case k8 => k_is)
    (case a9 => k_is)
    (case i9 => k_is)
    (case l9 => k_is)
    (case c9 => k_is)
    (case k9 => k_is)
    (case a10 => k_is)
    (case i10 => k_is)
    (case l10 => k_is)
    (case c10 => k_is)
    (case k10 => k_is)
    (case a11 => k_is)
    (case l11 => k_is)
    (case c11 => k_is)
    (case k11 => k_is)
    (case a12 => k_is)
    (case l12 => k_is)
    (case c12 => k_is)
    (case k12 => k_is)
    (case a13 => k_is)
    (case l13 => k_is)
    (case c13 => k_is)
    (case k13 => k_is)
    (case a14 => k_is)
    (case l14 => k_is)
    (case c14 => k_is)
    (case k14 => k_is)
    (case a15 => k_is)
    (case l15 => k_is)
    (case c15 => k_is)
    (case k15 => k_is)
    (case a16 => k_is)
    (case l16 => k_is)
    (case c16 => k_is)
    (case k16 => k_is)
    (case a17 => k_is)
    (case l17 => k_is)
    (case c17 => k_is)
    (case k17 => k_is)
    (case a18 => k_is)
    (case l18 => k_is)
    (case c18 => k_is)
    (case k18 => k_is)
    (case a19 => k_is)
    (case l19 => k_is)
    (case c19 => k_is)
    (case k19 => k_is)
    (case a20 => k_is)
    (case l20 => k_is)
    (case c20 => k_is)
    (case k20 => k_is)
    (case z_isinstance => k_is)
    (case z_int => k_is)
    (case z_bool => k_is)
    (case z_list => k_is)
    (case z_all => k_is)
    (case z_tuple => k_is)
    (case z_range => k_is)
    (case z_sum => k_is)
    (case z_len => k_is)
    (case z_zip => k_is)
    (case v_GREATEST => k_is)
    (case pg_Answer => k_is)
    (case hd_Answer => first | k_is | rfl)
    (case po_Answer => k_is)
    (case sa_Answer => k_is)
    (case ha_Answer => first | k_is | rfl)
    (case hm_Answer => first | k_is | rfl)
    (case pg_Number => k_is)
    (case hd_Number => first | k_is | rfl)
    (case po_Number => k_is)
    (case sa_Number => k_is)
    (case n_Number_number => k_is)
    (case n_Number_turn => k_is)
    (case ha_Number => first | k_is | rfl)
    (case hm_Number => first | k_is | rfl)
    (case pg_Clash => k_is)
    (case hd_Clash => first | k_is | rfl)
    (case po_Clash => k_is)
    (case sa_Clash => k_is)
    (case n_Clash_one => k_is)
    (case n_Clash_other => k_is)
    (case ha_Clash => first | k_is | rfl)
    (case hm_Clash => first | k_is | rfl)
    (case pg_Common => k_is)
    (case hd_Common => first | k_is | rfl)
    (case po_Common => k_is)
    (case sa_Common => k_is)
    (case n_Common_part => k_is)
    (case n_Common_times => k_is)
    (case ha_Common => first | k_is | rfl)
    (case hm_Common => first | k_is | rfl)
    (case pg_Times => k_is)
    (case hd_Times => first | k_is | rfl)
    (case po_Times => k_is)
    (case sa_Times => k_is)
    (case mi_Times => k_is)
    (case kc_Times => k_is)
    (case n_Times_times => k_is)
    (case ha_Times => first | k_is | rfl)
    (case hm_Times => first | k_is | rfl)
    (case pg_Bar => k_is)
    (case hd_Bar => first | k_is | rfl)
    (case po_Bar => k_is)
    (case sa_Bar => k_is)
    (case mi_Bar => k_is)
    (case kc_Bar => k_is)
    (case n_Bar_part => k_is)
    (case ha_Bar => first | k_is | rfl)
    (case hm_Bar => first | k_is | rfl)
    (case pg_Back => k_is)
    (case hd_Back => first | k_is | rfl)
    (case po_Back => k_is)
    (case sa_Back => k_is)
    (case n_Back_rest => k_is)
    (case ha_Back => first | k_is | rfl)
    (case hm_Back => first | k_is | rfl)
    (case hn => first | k_is | rfl)
    (case htk => first | k_is | rfl)
    (case q_Times_Answer => first | k_is | rfl)
    (case q_Times_Number => first | k_is | rfl)
    (case q_Times_Clash => first | k_is | rfl)
    (case q_Times_Common => first | k_is | rfl)
    (case q_Times_Times => first | k_is | rfl)
    (case q_Times_Bar => first | k_is | rfl)
    (case q_Times_Back => first | k_is | rfl)
    (case q_Bar_Answer => first | k_is | rfl)
    (case q_Bar_Number => first | k_is | rfl)
    (case q_Bar_Clash => first | k_is | rfl)
    (case q_Bar_Common => first | k_is | rfl)
    (case q_Bar_Times => first | k_is | rfl)
    (case q_Bar_Bar => first | k_is | rfl)
    (case q_Bar_Back => first | k_is | rfl)
