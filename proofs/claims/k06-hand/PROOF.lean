import PyProof.Rows.All
import Wide.All
import OpenK.AllK
import Wide.FinOn
import HandS.ForMost
import HandS.ForExc
import HandS.Evl
import HandS.IsInst
import HandS.Wide
import HandS.Style
import HandS.Steps
import HandS.ExcCtx
import HandS.HotCalls
import HandS.ExcIs
import HandS.CallLocal
import HandS.SuiteRaise
import HandS.WordsExc
import HandS.Conv
import HandS.Codes
import HandS.Text
import HandS.StrMore
import HandS.Strs
import HandS.SortRule
import HandS.SortInts
import HandS.More
import PySem.Challenge.RW_wheelrow_k06_answers_by_hand
set_option Elab.async false
set_option linter.all false
set_option maxRecDepth 100000
set_option maxHeartbeats 4000000
namespace Wl
/-- the part that goes into both -/
def pt (a b : Int) : Int := (Int.gcd a b : Int)
theorem pt_step (a b : Int) : pt b (a % b) = pt a b := by
  unfold pt
  have h : a % b = a - (a / b) * b := by
    have := Int.emod_add_mul_ediv a b
    rw [Int.mul_comm (a / b) b]; omega
  rw [h, Int.gcd_sub_mul_right_right, Int.gcd_comm]
theorem pt_zero (a : Int) (h : 0 ≤ a) : pt a 0 = a := by
  unfold pt
  rw [Int.gcd_zero_right]
  omega
theorem pt_abs (a b : Int) : pt (if a < 0 then -a else a) (if b < 0 then -b else b) = pt a b := by
  unfold pt
  split <;> split <;> simp
theorem pt_nn (a b : Int) : 0 ≤ pt a b := Int.natCast_nonneg _
theorem pt_dvd_l (a b : Int) : pt a b ∣ a := Int.gcd_dvd_left ..
theorem pt_dvd_r (a b : Int) : pt a b ∣ b := Int.gcd_dvd_right ..
theorem dvd_pt {a b c : Int} (h1 : c ∣ a) (h2 : c ∣ b) : c ∣ pt a b := Int.dvd_coe_gcd h1 h2
theorem pt_pos_r (a : Int) {b : Int} (h : 0 < b) : 0 < pt a b := by
  have h1 := pt_nn a b
  have h2 := pt_dvd_r a b
  have : pt a b ≠ 0 := by
    intro e
    rw [e] at h2
    have := Int.zero_dvd.mp h2
    omega
  omega
theorem pt_le_r (a : Int) {b : Int} (h : 0 < b) : pt a b ≤ b := Int.le_of_dvd h (pt_dvd_r a b)
theorem fmod_eq (a b : Int) : a.fmod b = a - a.fdiv b * b := by
  rw [Int.fmod_def, Int.mul_comm]
theorem pt_stepF (a b : Int) : pt b (a - a.fdiv b * b) = pt a b := by
  unfold pt
  rw [Int.gcd_sub_mul_right_right, Int.gcd_comm]
/-- the state of shares_of: here = (a, x, y), there = (b, u, v) -/
structure Sh (one other a x y b u v : Int) : Prop where
  ha : a = x * one + y * other
  hb : b = u * one + v * other
  hg : pt a b = pt one other
  hs : (a = one ∧ x = 1 ∧ y = 0 ∧ b = other ∧ u = 0 ∧ v = 1) ∨
    (a.natAbs ≤ other.natAbs ∧ b.natAbs < a.natAbs ∧ ((0 ≤ a ∧ 0 ≤ b) ∨ (a ≤ 0 ∧ b ≤ 0)) ∧ x.natAbs ≤ other.natAbs ∧ x.natAbs * b.natAbs + u.natAbs * a.natAbs ≤ other.natAbs)
theorem Sh.start (one other : Int) : Sh one other one 1 0 other 0 1 := ⟨by omega, by omega, rfl, .inl ⟨rfl, rfl, rfl, rfl, rfl, rfl⟩⟩
theorem mod_lt {a b : Int} (hb : b ≠ 0) : (a - a.fdiv b * b).natAbs < b.natAbs ∧ ((0 ≤ b ∧ 0 ≤ a - a.fdiv b * b) ∨ (b ≤ 0 ∧ a - a.fdiv b * b ≤ 0)) := by
  rw [← fmod_eq]
  by_cases h : 0 < b
  · have h1 := Int.fmod_lt_of_pos a h
    have h2 := Int.fmod_nonneg_of_pos a h
    omega
  · have hn : 0 < -b := by omega
    have h1 := Int.fmod_lt_of_pos (-a) hn
    have h2 := Int.fmod_nonneg_of_pos (-a) hn
    rw [Int.neg_fmod_neg] at h1 h2
    omega
theorem div_abs {a b : Int} (hb : b ≠ 0) (s : (0 ≤ a ∧ 0 ≤ b) ∨ (a ≤ 0 ∧ b ≤ 0)) : (a - a.fdiv b * b).natAbs + (a.fdiv b).natAbs * b.natAbs = a.natAbs := by
  have ⟨h1, h2⟩ := mod_lt (a := a) hb
  have hq : 0 ≤ a.fdiv b := by
    rcases s with ⟨p, q⟩ | ⟨p, q⟩
    · exact Int.fdiv_nonneg p q
    · rw [← Int.neg_fdiv_neg]
      exact Int.fdiv_nonneg (by omega) (by omega)
  generalize hr : a - a.fdiv b * b = r at *
  generalize a.fdiv b = q at *
  have e : q.natAbs * b.natAbs = (q * b).natAbs := (Int.natAbs_mul q b).symm
  rw [e]
  have hs : (0 ≤ b → 0 ≤ q * b) ∧ (b ≤ 0 → q * b ≤ 0) := ⟨fun z => Int.mul_nonneg hq z, fun z => Int.mul_nonpos_of_nonneg_of_nonpos hq z⟩
  generalize q * b = m at *
  omega
theorem Sh.step {one other a x y b u v : Int} (h : Sh one other a x y b u v) (hb : b ≠ 0) :
    Sh one other b u v (a - a.fdiv b * b) (x - a.fdiv b * u) (y - a.fdiv b * v) ∧ (a - a.fdiv b * b).natAbs < b.natAbs := by
  have ⟨h1, h2⟩ := mod_lt (a := a) hb
  refine ⟨⟨h.hb, ?_, ?_, .inr ⟨?_, h1, h2, ?_, ?_⟩⟩, h1⟩
  · have e1 := h.ha
    have e2 := h.hb
    generalize a.fdiv b = q
    subst e1 e2
    grind
  · rw [pt_stepF, h.hg]
  · rcases h.hs with ⟨_, _, _, e, _, _⟩ | ⟨e1, e2, _⟩
    · rw [e]; omega
    · omega
  · rcases h.hs with ⟨_, _, _, e, e5, _⟩ | ⟨e1, e2, e3, e4, e5⟩
    · rw [e5]; simp
    · have : u.natAbs * 1 ≤ u.natAbs * a.natAbs := Nat.mul_le_mul_left _ (by omega)
      omega
  · rcases h.hs with ⟨_, ex, _, e, eu, _⟩ | ⟨e1, e2, e3, e4, e5⟩
    · rw [eu, ex, e]; simp
    · have e := div_abs hb e3
      have e6 : (x - a.fdiv b * u).natAbs ≤ x.natAbs + (a.fdiv b).natAbs * u.natAbs := by
        rw [← Int.natAbs_mul]
        omega
      have e7 : (x - a.fdiv b * u).natAbs * b.natAbs ≤ (x.natAbs + (a.fdiv b).natAbs * u.natAbs) * b.natAbs := Nat.mul_le_mul_right _ e6
      generalize (a - a.fdiv b * b).natAbs = R at *
      generalize (a.fdiv b).natAbs = Qn at *
      generalize (x - a.fdiv b * u).natAbs = Y at *
      have e8 : u.natAbs * a.natAbs = u.natAbs * R + u.natAbs * (Qn * b.natAbs) := by rw [← Nat.mul_add, e]
      have e9 : (x.natAbs + Qn * u.natAbs) * b.natAbs = x.natAbs * b.natAbs + u.natAbs * (Qn * b.natAbs) := by
        rw [Nat.add_mul, Nat.mul_comm Qn u.natAbs, Nat.mul_assoc]
      omega
/-- what shares_of tells -/
structure Shares (one other g x y : Int) : Prop where
  eq : g = pt one other
  lin : g = x * one + y * other
  sm : x.natAbs ≤ other.natAbs + 1
theorem Sh.done {one other a x y u v : Int} (h : Sh one other a x y 0 u v) : (¬ a < 0 → Shares one other a x y) ∧ (a < 0 → Shares one other (-a) (-x) (-y)) := by
  have e := h.hg
  have hx : x.natAbs ≤ other.natAbs + 1 := by
    rcases h.hs with ⟨_, ex, _⟩ | ⟨_, _, _, z, _⟩
    · rw [ex]; simp
    · omega
  have ha := h.ha
  refine ⟨fun p => ⟨?_, ha, hx⟩, fun p => ⟨?_, ?_, ?_⟩⟩
  · rw [← e, pt_zero a (by omega)]
  · rw [← e]
    unfold pt
    rw [Int.gcd_zero_right]
    omega
  · rw [ha]; grind
  · omega
end Wl
namespace Wl
/-! ### back -/
def barsF (g n t : Int) : Bool := decide (1 < g) && (decide (n % g = 0) && decide (t % g = 0))
def backF (r n t : Int) : Bool := (decide (0 ≤ r) && decide (r < t)) && decide ((r * n - 1) % t = 0)
def backD (r n t : Int) : Bool := (decide (0 ≤ r) && decide (r < t)) && decide (r * n % t = 1 % t)
theorem backD_eq (r n t : Int) : backD r n t = backF r n t := by
  unfold backD backF
  rw [decide_eq_decide.mpr (Int.emod_eq_emod_iff_emod_sub_eq_zero (m := r * n) (n := t) (k := 1))]
def BarOk (g n t : Int) : Prop := 1 < g ∧ g ∣ n ∧ g ∣ t
def BackOk (r n t : Int) : Prop := 0 ≤ r ∧ r < t ∧ t ∣ r * n - 1
theorem Shares.bar {n t g x y : Int} (s : Shares n t g x y) (h : 1 < g) : BarOk g n t := by
  rw [s.eq] at h ⊢
  exact ⟨h, pt_dvd_l n t, pt_dvd_r n t⟩
theorem Shares.back {n t g x y : Int} (s : Shares n t g x y) (h : g ≤ 1) (ht : 1 ≤ t) : BackOk (x % t) n t := by
  have h1 := pt_pos_r n (b := t) (by omega)
  have hg : g = 1 := by have := s.eq; omega
  refine ⟨Int.emod_nonneg _ (by omega), Int.emod_lt_of_pos _ (by omega), ?_⟩
  have hl := s.lin
  rw [hg] at hl
  have e : x % t = x - t * (x / t) := Int.emod_def x t
  refine ⟨-(x / t) * n - y, ?_⟩
  rw [e]
  grind
theorem BarOk.F {g n t : Int} (h : BarOk g n t) : barsF g n t = true := by
  unfold barsF
  rw [decide_eq_true h.1, decide_eq_true (Int.emod_eq_zero_of_dvd h.2.1), decide_eq_true (Int.emod_eq_zero_of_dvd h.2.2)]
  rfl
theorem BarOk.far {g n t : Int} (h : BarOk g n t) (c : Int) : BarOk g (n + c * t) t := ⟨h.1, Int.dvd_add h.2.1 (Int.dvd_mul_of_dvd_right h.2.2), h.2.2⟩
theorem BackOk.F {r n t : Int} (h : BackOk r n t) : backF r n t = true := by
  unfold backF
  rw [decide_eq_true h.1, decide_eq_true h.2.1, decide_eq_true (Int.emod_eq_zero_of_dvd h.2.2)]
  rfl
theorem BackOk.far {r n t : Int} (h : BackOk r n t) (c : Int) : BackOk r (n + c * t) t := by
  refine ⟨h.1, h.2.1, ?_⟩
  obtain ⟨k, hk⟩ := h.2.2
  exact ⟨k + r * c, by rw [Int.mul_add]; grind⟩
end Wl
namespace Wl
/-! ### common parts -/
def dot : List Int → List Int → Int
  | n :: ns, t :: ts => n * t + dot ns ts
  | _, _ => 0
theorem dot_snoc : ∀ {ns ts : List Int} (n t : Int), ns.length = ts.length → dot (ns ++ [n]) (ts ++ [t]) = dot ns ts + n * t
  | [], [], n, t, _ => by simp [dot]
  | a :: ns, b :: ts, n, t, h => by
    have ih := dot_snoc (ns := ns) (ts := ts) n t (by simpa using h)
    simp only [List.cons_append, dot, ih]
    omega
  | [], _ :: _, _, _, h => by simp at h
  | _ :: _, [], _, _, h => by simp at h
theorem dot_mul : ∀ (ns ts : List Int) (x : Int), dot ns (ts.map (· * x)) = dot ns ts * x
  | [], _, x => by simp [dot]
  | _ :: _, [], x => by simp [dot]
  | a :: ns, b :: ts, x => by
    simp only [List.map_cons, dot, dot_mul ns ts x, Int.add_mul, Int.mul_assoc]
theorem dot_range : ∀ {ns ts : List Int}, ns.length = ts.length → ((List.range ns.length).map fun k => ns.getD k 0 * ts.getD k 0).sum = dot ns ts
  | [], [], _ => rfl
  | a :: ns, b :: ts, h => by
    have ih := dot_range (ns := ns) (ts := ts) (by simpa using h)
    rw [List.length_cons, List.range_succ_eq_map, List.map_cons, List.map_map, List.sum_cons]
    simp only [dot, ← ih]
    rfl
  | [], _ :: _, h => by simp at h
  | _ :: _, [], h => by simp at h
/-- a common part p of ns, and how often each makes it -/
structure CommonOk (p : Int) (ts ns : List Int) : Prop where
  nn : 0 ≤ p
  len : ts.length = ns.length
  sum : dot ns ts = p
  dvd : ∀ n ∈ ns, p ∣ n
def dueC (p : Int) (ts ns : List Int) : Bool := !(decide (p < 0) || !decide (ts.length = ns.length)) && (decide (dot ns ts = p) && ns.all fun n => if p = 0 then decide (n = 0) else decide (n % p = 0))
theorem CommonOk.due {p : Int} {ts ns : List Int} (h : CommonOk p ts ns) : dueC p ts ns = true := by
  have h1 : ¬ p < 0 := by have := h.nn; omega
  unfold dueC
  rw [decide_eq_false h1, decide_eq_true h.len, decide_eq_true h.sum]
  simp only [Bool.not_true, Bool.or_self, Bool.not_false, Bool.true_and, List.all_eq_true]
  intro n hn
  have hd := h.dvd n hn
  split
  · rename_i e
    rw [e] at hd
    exact decide_eq_true (Int.zero_dvd.mp hd)
  · exact decide_eq_true (Int.emod_eq_zero_of_dvd hd)
theorem CommonOk.nil : CommonOk 0 [] [] := ⟨Int.le_refl _, rfl, rfl, fun _ h => nomatch h⟩
theorem CommonOk.more {p n g x y : Int} {ts ns : List Int} (h : CommonOk p ts ns) (s : Shares p n g x y) : CommonOk g (ts.map (· * x) ++ [y]) (ns ++ [n]) := by
  refine ⟨by rw [s.eq]; exact pt_nn _ _, by simp [h.len], ?_, fun m hm => ?_⟩
  · rw [dot_snoc _ _ (by simp [h.len]), dot_mul, h.sum, s.lin, Int.mul_comm p x, Int.mul_comm n y]
  · rcases List.mem_append.mp hm with hm | hm
    · rw [s.eq]
      exact Int.dvd_trans (pt_dvd_l p n) (h.dvd m hm)
    · rw [List.mem_singleton.mp hm, s.eq]
      exact pt_dvd_r p n
theorem CommonOk.same {p n g x y : Int} {ts ns : List Int} (h : CommonOk p ts ns) (s : Shares p n g x y) (e : g = p) : CommonOk p (ts ++ [0]) (ns ++ [n]) := by
  refine ⟨h.nn, by simp [h.len], ?_, fun m hm => ?_⟩
  · rw [dot_snoc _ _ h.len.symm, h.sum]
    omega
  · rcases List.mem_append.mp hm with hm | hm
    · exact h.dvd m hm
    · rw [List.mem_singleton.mp hm, ← e, s.eq]
      exact pt_dvd_r p n
theorem pt_le {p n b : Int} (h0 : 0 ≤ p) (hp : p ≤ b) (hn : n.natAbs ≤ b.natAbs) (hb : 0 ≤ b) : pt p n ≤ b := by
  by_cases e : n = 0
  · rw [e, pt_zero p h0]
    exact hp
  · have h := pt_dvd_r p n
    have h2 : pt p n ∣ (n.natAbs : Int) := Int.dvd_natAbs.mpr h
    have := Int.le_of_dvd (by omega) h2
    omega
theorem CommonOk.far {p : Int} {ts ns : List Int} (h : CommonOk p ts ns) : dueC p (ts ++ [0]) ns = false := by
  unfold dueC
  have : ¬ (ts ++ [0]).length = ns.length := by
    rw [List.length_append, h.len]
    simp
  rw [decide_eq_false this]
  simp
end Wl
namespace Wl
/-! ### come -/
def barS (g : Int) (ns : List Int) (t r : Int) : Bool := !(decide (g < 2) || (!decide (t % g = 0) || decide (r % g = 0))) && ns.all fun n => decide (n % g = 0)
def timesS (ts ns : List Int) (t r : Int) : Bool := !(!decide (ts.length = ns.length) || !(ts.all fun o => decide (0 ≤ o) && decide (o < t))) && decide (dot ns ts % t = r)
structure BarSOk (g : Int) (ns : List Int) (t r : Int) : Prop where
  two : 2 ≤ g
  dt : g ∣ t
  nr : ¬ g ∣ r
  dn : ∀ n ∈ ns, g ∣ n
structure TimesOk (ts ns : List Int) (t r : Int) : Prop where
  len : ts.length = ns.length
  rng : ∀ o ∈ ts, 0 ≤ o ∧ o < t
  sum : dot ns ts % t = r
theorem BarSOk.F {g t r : Int} {ns : List Int} (h : BarSOk g ns t r) : barS g ns t r = true := by
  have h1 : ¬ g < 2 := by have := h.two; omega
  have h2 : ¬ r % g = 0 := fun e => h.nr (Int.dvd_of_emod_eq_zero e)
  unfold barS
  rw [decide_eq_false h1, decide_eq_true (Int.emod_eq_zero_of_dvd h.dt), decide_eq_false h2]
  simp only [Bool.not_true, Bool.or_self, Bool.not_false, Bool.true_and, List.all_eq_true, decide_eq_true_eq]
  exact fun n hn => Int.emod_eq_zero_of_dvd (h.dn n hn)
theorem BarSOk.far {g t r : Int} {ns : List Int} (h : BarSOk g ns t r) (c : Int) : BarSOk g (ns.map fun n => n + c * t) t r :=
  ⟨h.two, h.dt, h.nr, fun n hn => by
    obtain ⟨m, hm, rfl⟩ := List.mem_map.mp hn
    exact Int.dvd_add (h.dn m hm) (Int.dvd_mul_of_dvd_right h.dt)⟩
theorem TimesOk.F {ts ns : List Int} {t r : Int} (h : TimesOk ts ns t r) : timesS ts ns t r = true := by
  have h1 : (ts.all fun o => decide (0 ≤ o) && decide (o < t)) = true := by
    simp only [List.all_eq_true, Bool.and_eq_true, decide_eq_true_eq]
    exact h.rng
  unfold timesS
  rw [decide_eq_true h.len, h1, decide_eq_true h.sum]
  rfl
theorem dot_add (c : Int) : ∀ {ns ts : List Int}, ns.length = ts.length → dot (ns.map fun n => n + c) ts = dot ns ts + c * ts.sum
  | [], [], _ => by simp [dot]
  | n :: ns, t :: ts, h => by
    have ih := dot_add c (ns := ns) (ts := ts) (by simpa using h)
    simp only [List.map_cons, dot, ih, List.sum_cons]
    grind
  | [], _ :: _, h => by simp at h
  | _ :: _, [], h => by simp at h
theorem TimesOk.far {ts ns : List Int} {t r : Int} (h : TimesOk ts ns t r) (c : Int) : TimesOk ts (ns.map fun n => n + c * t) t r := by
  refine ⟨by rw [List.length_map]; exact h.len, h.rng, ?_⟩
  rw [dot_add _ h.len.symm, show c * t * ts.sum = c * ts.sum * t by grind, Int.add_mul_emod_self_right]
  exact h.sum
theorem TimesOk.more {ts ns : List Int} {t r : Int} (h : TimesOk ts ns t r) : timesS (ts ++ [0]) ns t r = false := by
  unfold timesS
  have : ¬ (ts ++ [0]).length = ns.length := by
    rw [List.length_append, h.len]
    simp
  rw [decide_eq_false this]
  simp
theorem dot_modk (c t : Int) : ∀ {ns ts : List Int}, ns.length = ts.length → ∃ k, dot ns (ts.map fun o => o * c % t) = dot (ns.map fun n => n % t) ts * c + t * k
  | [], [], _ => ⟨0, by simp [dot]⟩
  | n :: ns, o :: ts, h => by
    obtain ⟨k, ih⟩ := dot_modk c t (ns := ns) (ts := ts) (by simpa using h)
    have e1 : o * c % t = o * c - t * (o * c / t) := Int.emod_def _ _
    have e2 : n % t = n - t * (n / t) := Int.emod_def _ _
    refine ⟨k + (n / t) * o * c - n * (o * c / t), ?_⟩
    simp only [List.map_cons, dot, ih]
    rw [e1, e2]
    generalize o * c / t = a
    generalize n / t = b
    grind
  | [], _ :: _, h => by simp at h
  | _ :: _, [], h => by simp at h
theorem come_pos {p t : Int} {ts ns : List Int} (h : CommonOk p ts (ns.map (fun n => n % t) ++ [t])) (ht : 1 ≤ t) : 0 < p ∧ p ∣ t ∧ ∀ n ∈ ns, p ∣ n := by
  have h1 := h.dvd t (by simp)
  have h0 : 0 < p := by
    have := h.nn
    have : p ≠ 0 := fun e => by
      rw [e] at h1
      have := Int.zero_dvd.mp h1
      omega
    omega
  refine ⟨h0, h1, fun n hn => ?_⟩
  have h2 := h.dvd (n % t) (by simp; exact .inl ⟨n, hn, rfl⟩)
  have e := Int.emod_add_mul_ediv n t
  rw [← e]
  exact Int.dvd_add h2 (Int.dvd_mul_of_dvd_left h1)
theorem come_bar {p t r : Int} {ts ns : List Int} (h : CommonOk p ts (ns.map (fun n => n % t) ++ [t])) (ht : 1 ≤ t) (hr : ¬ r % p = 0) : BarSOk p ns t r := by
  obtain ⟨h0, h1, h2⟩ := come_pos h ht
  refine ⟨?_, h1, fun z => hr (Int.emod_eq_zero_of_dvd z), h2⟩
  have : p ≠ 1 := fun e => hr (by rw [e]; exact Int.emod_one r)
  omega
theorem come_times {p t r : Int} {ts ns : List Int} (h : CommonOk p ts (ns.map (fun n => n % t) ++ [t])) (ht : 1 ≤ t) (hr : r % p = 0) (r0 : 0 ≤ r) (r1 : r < t) : TimesOk (ts.dropLast.map fun o => o * (r / p) % t) ns t r := by
  obtain ⟨h0, _, _⟩ := come_pos h ht
  have hl : ts.length = ns.length + 1 := by
    have := h.len
    simpa using this
  obtain ⟨ts0, tl, rfl⟩ : ∃ ts0 tl, ts = ts0 ++ [tl] := by
    rcases List.eq_nil_or_concat ts with e | ⟨a, b, e⟩
    · rw [e] at hl; simp at hl
    · exact ⟨a, b, by rw [e]; simp⟩
  have hl0 : ts0.length = ns.length := by simpa using hl
  rw [List.dropLast_concat]
  refine ⟨by rw [List.length_map]; exact hl0, fun o ho => ?_, ?_⟩
  · obtain ⟨x, _, rfl⟩ := List.mem_map.mp ho
    exact ⟨Int.emod_nonneg _ (by omega), Int.emod_lt_of_pos _ (by omega)⟩
  · obtain ⟨k, hk⟩ := dot_modk (r / p) t hl0.symm
    have hs := h.sum
    rw [dot_snoc _ _ (by rw [List.length_map, hl0])] at hs
    have er : p * (r / p) = r := by
      have := Int.emod_add_mul_ediv r p
      omega
    have e : dot ns (ts0.map fun o => o * (r / p) % t) = r + t * (k - tl * (r / p)) := by
      rw [hk]
      have : dot (ns.map fun n => n % t) ts0 = p - t * tl := by omega
      rw [this]
      generalize r / p = q at *
      rw [← er]
      grind
    rw [e, Int.add_mul_emod_self_left, Int.emod_eq_of_lt r0 r1]
end Wl
namespace Wl
/-! ### told: numbers by their rests -/
theorem bez : ∀ (k : Nat) (a b : Int), b.natAbs ≤ k → ∃ x y, pt a b = x * a + y * b
  | 0, a, b, h => by
    have e : b = 0 := by omega
    subst e
    unfold pt
    rw [Int.gcd_zero_right]
    by_cases h : 0 ≤ a
    · exact ⟨1, 0, by omega⟩
    · exact ⟨-1, 0, by omega⟩
  | k + 1, a, b, h => by
    by_cases e : b = 0
    · exact bez k a b (by omega)
    · have h1 := Int.emod_lt a e
      have h0 := Int.emod_nonneg a e
      obtain ⟨x, y, hxy⟩ := bez k b (a % b) (by omega)
      have hm := Int.emod_add_mul_ediv a b
      refine ⟨y, x - a / b * y, ?_⟩
      rw [← pt_step, hxy]
      have e2 : a % b = a - b * (a / b) := by omega
      rw [e2]
      generalize a / b = q
      grind
/-- what the common parts of t with a and with b go into, that of t with w goes into: w the least into which a and b go -/
theorem pt_two {a b t m w : Int} (ha : pt a t ∣ m) (hb : pt b t ∣ m) (hd : pt a b ≠ 0) (hw : w = a / pt a b * b) : pt w t ∣ m := by
  obtain ⟨x1, y1, e1⟩ := bez _ a t (Nat.le_refl _)
  obtain ⟨x2, y2, e2⟩ := bez _ b t (Nat.le_refl _)
  obtain ⟨α, β, e3⟩ := bez _ a b (Nat.le_refl _)
  obtain ⟨k1, h1⟩ := ha
  obtain ⟨k2, h2⟩ := hb
  obtain ⟨a', ea⟩ := pt_dvd_l a b
  obtain ⟨b', eb⟩ := pt_dvd_r a b
  have hq : a / pt a b = a' := by
    conv => lhs; lhs; rw [ea]
    exact Int.mul_ediv_cancel_left a' hd
  rw [hq] at hw
  generalize hdd : pt a b = d at *
  -- m = a u + t v = b u2 + t v2
  have m1 : m = a * (x1 * k1) + t * (y1 * k1) := by rw [h1, e1]; grind
  have m2 : m = b * (x2 * k2) + t * (y2 * k2) := by rw [h2, e2]; grind
  have one : α * a' + β * b' = 1 := by
    have : d * (α * a' + β * b') = d * 1 := by
      have e4 : d = α * (d * a') + β * (d * b') := by rw [← ea, ← eb]; exact e3
      have e5 : d * (α * a' + β * b') = α * (d * a') + β * (d * b') := by grind
      omega
    exact Int.eq_of_mul_eq_mul_left hd this
  have fin : m = w * (α * (x2 * k2) + β * (x1 * k1)) + t * (α * a' * (y2 * k2) + β * b' * (y1 * k1)) := by
    have s1 : m = (α * a' + β * b') * m := by rw [one, Int.one_mul]
    have s2 : (α * a' + β * b') * m = α * a' * m + β * b' * m := by grind
    have s3 : α * a' * m = α * a' * (b * (x2 * k2) + t * (y2 * k2)) := by rw [← m2]
    have s4 : β * b' * m = β * b' * (a * (x1 * k1) + t * (y1 * k1)) := by rw [← m1]
    have hab : a' * b = b' * a := by
      have : a' * (d * b') = b' * (d * a') := by grind
      rw [ea, eb]; exact this
    have hw2 : w = b' * a := by rw [hw, hab]
    rw [s2, s3, s4] at s1
    rw [s1]
    have t1 : α * a' * (b * (x2 * k2) + t * (y2 * k2)) = α * (a' * b) * (x2 * k2) + t * (α * a' * (y2 * k2)) := by grind
    have t2 : β * b' * (a * (x1 * k1) + t * (y1 * k1)) = β * (b' * a) * (x1 * k1) + t * (β * b' * (y1 * k1)) := by grind
    rw [t1, t2, hab, ← hw2]
    grind
  rw [fin]
  exact Int.dvd_add (Int.dvd_mul_of_dvd_left (pt_dvd_l w t)) (Int.dvd_mul_of_dvd_left (pt_dvd_r w t))
/-- a rest by a round -/
def RstOk (p : Int × Int) : Prop := 0 ≤ p.1 ∧ p.1 < p.2 ∧ p.2 ≤ 1000000
/-- the least number into which all rounds go -/
def lcmOf (rs : List (Int × Int)) : Int := rs.foldl (fun w p => w / pt w p.2 * p.2) 1
theorem lcmOf_snoc (rs : List (Int × Int)) (p : Int × Int) : lcmOf (rs ++ [p]) = lcmOf rs / pt (lcmOf rs) p.2 * p.2 := by
  unfold lcmOf
  rw [List.foldl_append]
  rfl
theorem lcm_step {w t : Int} (hw : 0 < w) (ht : 0 < t) : 0 < w / pt w t * t ∧ w ∣ w / pt w t * t ∧ t ∣ w / pt w t * t ∧ w * t / pt w t = w / pt w t * t ∧ w / pt w t * t = w * (t / pt w t) := by
  have hp := pt_pos_r w ht
  obtain ⟨w', ew⟩ := pt_dvd_l w t
  obtain ⟨t', et⟩ := pt_dvd_r w t
  have h1 : w / pt w t = w' := by
    conv => lhs; lhs; rw [ew]
    exact Int.mul_ediv_cancel_left w' (by omega)
  have h2 : t / pt w t = t' := by
    conv => lhs; lhs; rw [et]
    exact Int.mul_ediv_cancel_left t' (by omega)
  have hw' : 0 < w' := by
    have : 0 < pt w t * w' := by rw [← ew]; exact hw
    exact Int.pos_of_mul_pos_right this (by omega)
  rw [h1, h2]
  generalize pt w t = g at *
  have e3 : w' * t = w * t' := by rw [ew, et]; grind
  refine ⟨Int.mul_pos hw' ht, ⟨t', e3⟩, ⟨w', Int.mul_comm _ _⟩, ?_, e3⟩
  have : w * t = g * (w' * t) := by rw [ew]; grind
  rw [this]
  exact Int.mul_ediv_cancel_left _ (by omega)
/-- all rests hold of n, by the round w -/
structure ToldOk (rs : List (Int × Int)) (n w : Int) : Prop where
  w0 : w = lcmOf rs
  pos : 0 < w
  n0 : 0 ≤ n
  n1 : n < w
  dw : ∀ p ∈ rs, p.2 ∣ w
  lv : ∀ p ∈ rs, p.2 ∣ n - p.1
theorem ToldOk.nil : ToldOk [] 0 1 := ⟨rfl, by decide, by decide, by decide, fun _ h => (nomatch h), fun _ h => (nomatch h)⟩
/-- the common part of w with t goes into what those of the rounds with t go into -/
theorem lcm_part (t m : Int) : ∀ (rs : List (Int × Int)) (w : Int), (∀ p ∈ rs, RstOk p) → 0 < w → pt w t ∣ m → (∀ p ∈ rs, pt p.2 t ∣ m) → pt (rs.foldl (fun w p => w / pt w p.2 * p.2) w) t ∣ m
  | [], w, _, _, h, _ => h
  | p :: rs, w, ho, hw, h, hr => by
    have hp := ho p List.mem_cons_self
    have hp2 : 0 < p.2 := by have := hp.1; have := hp.2.1; omega
    refine lcm_part t m rs _ (fun q hq => ho q (List.mem_cons_of_mem _ hq)) (lcm_step hw hp2).1 ?_ fun q hq => hr q (List.mem_cons_of_mem _ hq)
    exact pt_two h (hr p List.mem_cons_self) (by have := pt_pos_r w hp2; omega) rfl
theorem pt_one (t : Int) : pt 1 t = 1 := by
  unfold pt
  rw [Int.gcd_eq_natAbs_gcd_natAbs]
  simp
/-- where the rest does not fit, one of the rests ahead clashes -/
theorem told_clash {rs : List (Int × Int)} {n w r t : Int} (h : ToldOk rs n w) (ho : ∀ p ∈ rs, RstOk p) (hc : ¬ (r - n) % pt w t = 0) : ∃ p ∈ rs, ¬ (p.1 - r) % pt p.2 t = 0 := by
  refine Classical.byContradiction fun hn => hc ?_
  have hall : ∀ p ∈ rs, pt p.2 t ∣ r - n := fun p hp => by
    have h1 : (p.1 - r) % pt p.2 t = 0 := Classical.byContradiction fun z => hn ⟨p, hp, z⟩
    have h2 : pt p.2 t ∣ p.1 - r := Int.dvd_of_emod_eq_zero h1
    have h3 : pt p.2 t ∣ n - p.1 := Int.dvd_trans (pt_dvd_l p.2 t) (h.lv p hp)
    have h4 := Int.dvd_neg.mpr (Int.dvd_add h2 h3)
    have e : -(p.1 - r + (n - p.1)) = r - n := by omega
    rwa [e] at h4
  have h1 := lcm_part t (r - n) rs 1 ho (by decide) (by rw [pt_one]; exact Int.one_dvd _) hall
  rw [h.w0]
  exact Int.emod_eq_zero_of_dvd h1
/-- the next rest taken in -/
theorem ToldOk.more {rs : List (Int × Int)} {n w r t g x y : Int} (h : ToldOk rs n w) (hr : RstOk (r, t)) (s : Shares w t g x y) (hf : (r - n) % g = 0) :
    ToldOk (rs ++ [(r, t)]) ((n + w * ((r - n) / g * x % (t / g))) % (w / g * t)) (w / g * t) := by
  have ht : 0 < t := by have := hr.1; have := hr.2.1; dsimp only at *; omega
  have hg : g = pt w t := s.eq
  obtain ⟨p0, p1, p2, _, p4⟩ := lcm_step h.pos ht
  rw [← hg] at p0 p1 p2 p4
  have hgp : 0 < g := by rw [hg]; exact pt_pos_r w ht
  have key : ∀ m : Int, m ∣ w / g * t → ∀ z, m ∣ z - (n + w * ((r - n) / g * x % (t / g))) → m ∣ z - (n + w * ((r - n) / g * x % (t / g))) % (w / g * t) := fun m hm z hz => by
    have e := Int.emod_def (n + w * ((r - n) / g * x % (t / g))) (w / g * t)
    have e2 : z - (n + w * ((r - n) / g * x % (t / g))) % (w / g * t) = z - (n + w * ((r - n) / g * x % (t / g))) + (w / g * t) * ((n + w * ((r - n) / g * x % (t / g))) / (w / g * t)) := by omega
    rw [e2]
    exact Int.dvd_add hz (Int.dvd_mul_of_dvd_left hm)
  refine ⟨by rw [lcmOf_snoc, ← h.w0, hg], p0, Int.emod_nonneg _ (by omega), Int.emod_lt_of_pos _ p0, fun p hp => ?_, fun p hp => ?_⟩
  · rcases List.mem_append.mp hp with hp | hp
    · exact Int.dvd_trans (h.dw p hp) p1
    · rw [List.mem_singleton.mp hp]
      exact p2
  · have fl : ∀ m z : Int, m ∣ w / g * t → m ∣ z - (n + w * ((r - n) / g * x % (t / g))) → m ∣ (n + w * ((r - n) / g * x % (t / g))) % (w / g * t) - z := fun m z h1 h2 => by
      have := Int.dvd_neg.mpr (key m h1 z h2)
      have e : -(z - (n + w * ((r - n) / g * x % (t / g))) % (w / g * t)) = (n + w * ((r - n) / g * x % (t / g))) % (w / g * t) - z := by omega
      rwa [e] at this
    rcases List.mem_append.mp hp with hp | hp
    · refine fl _ _ (Int.dvd_trans (h.dw p hp) p1) ?_
      have h1 := h.lv p hp
      have h2 : p.2 ∣ w * ((r - n) / g * x % (t / g)) := Int.dvd_mul_of_dvd_left (h.dw p hp)
      have h3 := Int.dvd_neg.mpr (Int.dvd_add h1 h2)
      have e : -(n - p.1 + w * ((r - n) / g * x % (t / g))) = p.1 - (n + w * ((r - n) / g * x % (t / g))) := by omega
      rwa [e] at h3
    · rw [List.mem_singleton.mp hp]
      refine fl _ _ p2 ?_
      show t ∣ r - (n + w * ((r - n) / g * x % (t / g)))
      obtain ⟨q, hq⟩ := Int.dvd_of_emod_eq_zero hf
      have e1 : (r - n) / g = q := by rw [hq]; exact Int.mul_ediv_cancel_left q (by omega)
      rw [e1]
      have e2 : q * x % (t / g) = q * x - (t / g) * (q * x / (t / g)) := Int.emod_def _ _
      rw [e2]
      have hl := s.lin
      generalize q * x / (t / g) = c
      have e3 : w * (q * x - t / g * c) = q * (x * w) - w * (t / g) * c := by grind
      have e4 : x * w = g - y * t := by omega
      rw [e3, e4, ← p4]
      have e5 : r - (n + (q * (g - y * t) - w / g * t * c)) = (r - n - g * q) + t * (q * y + w / g * c) := by grind
      rw [e5, hq]
      have e6 : g * q - g * q + t * (q * y + w / g * c) = t * (q * y + w / g * c) := by omega
      rw [e6]
      exact Int.dvd_mul_right _ _
def numF (n t : Int) (rs : List (Int × Int)) : Bool := !(!decide (t = lcmOf rs) || !(decide (0 ≤ n) && decide (n < t))) && rs.all fun p => decide (n % p.2 = p.1)
theorem ToldOk.F {rs : List (Int × Int)} {n w : Int} (h : ToldOk rs n w) (ho : ∀ p ∈ rs, RstOk p) : numF n w rs = true := by
  unfold numF
  rw [decide_eq_true h.w0, decide_eq_true h.n0, decide_eq_true h.n1]
  simp only [Bool.and_self, Bool.not_true, Bool.or_self, Bool.not_false, Bool.true_and, List.all_eq_true, decide_eq_true_eq]
  intro p hp
  obtain ⟨k, hk⟩ := h.lv p hp
  have h1 := ho p hp
  have e : n = p.1 + p.2 * k := by omega
  rw [e, Int.add_mul_emod_self_left]
  exact Int.emod_eq_of_lt h1.1 h1.2.1
def clashF (i j : Int) (rs : List (Int × Int)) : Bool := (decide (0 ≤ i) && (decide (i < j) && decide (j < rs.length))) && !decide (((rs.getD i.toNat (0, 1)).1 - (rs.getD j.toNat (0, 1)).1) % pt (rs.getD i.toNat (0, 1)).2 (rs.getD j.toNat (0, 1)).2 = 0)
/-- the first place that clashes with the last one -/
structure ClashOk (i : Nat) (j : Nat) (rs : List (Int × Int)) : Prop where
  lt : i < j
  le : j < rs.length
  ne : ¬ ((rs.getD i (0, 1)).1 - (rs.getD j (0, 1)).1) % pt (rs.getD i (0, 1)).2 (rs.getD j (0, 1)).2 = 0
theorem ClashOk.F {i j : Nat} {rs : List (Int × Int)} (h : ClashOk i j rs) : clashF (i : Int) (j : Int) rs = true := by
  have h1 := h.lt
  have h2 := h.le
  unfold clashF
  rw [decide_eq_true (show (0 : Int) ≤ i by omega), decide_eq_true (show (i : Int) < j by omega), decide_eq_true (show (j : Int) < rs.length by omega), Int.toNat_natCast, Int.toNat_natCast, decide_eq_false h.ne]
  rfl
end Wl
namespace Wl
open PySem PySem.Spec PyProof.Rows L2 Evl
/-! ### a def that keeps a promise -/
/-- a promise by data: Pre of the arguments, Post of the heap ahead, the value, the heap behind -/
def spX {α : Type} (Pre : α → List V → Hp → Prop) (Post : α → Hp → V → Hp → Prop) : Sp := fun vs H Q _ => ∃ d, Pre d vs H ∧ ∀ v H', Ex H H' → Post d H v H' → Q v H'
structure Ok (P : Program) (w : World) (K : PySem.W.Frag) (mg : Str → Option Value) (base : Heap) (k : Nat) (f : Addr) (fd : FuncData) (ps : List Str) (sp : Sp) : Prop where
  (ok : FnOk P w K mg base CX0 k f fd ps sp) (bi : Binds K fd ps []) (kp : PySem.W.keepIn K (.ref f) = true)
abbrev Okk (P : Program) (w : World) (K : PySem.W.Frag) (mg : Str → Option Value) (base : Heap) (k : Nat) (f : Addr) (ps : List Str) (sp : Sp) : Prop := ∃ fd, Ok P w K mg base k f fd ps sp
/-- its body walked, wherever it is called: nothing is let out -/
abbrev BodyIn (P : Program) (w : World) (K : PySem.W.Frag) (mg : Str → Option Value) (base : Heap) (N : List Str) (qual : Str) (st : Stmt) (f : Addr) (k : Nat) (sp : Sp) : Prop :=
  ∀ (cd : Value) (B : Around) (out : List Env) (s : Shared) (H : Hp) (vs : List V) (Q : VK) (E : XK), Room k (B.deeper (envOfC qual (defScope st) s.heap.objs.size f cd)) → sp vs H Q E →
    ∃ t, PSs (cxOf CX0 P w K mg base N qual (defScope st) f cd B out s H E).nox (defBody st) t ∧ t { nx := fun _ H' => Q .non H', rt := Q } (start N vs) H
theorem okk {P : Program} {w : World} {K : PySem.W.Frag} {mg : Str → Option Value} {base : Heap} {x qual : Str} {st : Stmt} {f : Addr} {N ps : List Str} {k : Nat} {sp : Sp}
    (F : ∃ fd, Fun K x qual st f fd ∧ Binds K fd ps []) (S : FnScope N ps (defScope st)) (len : ∀ vs H Q E, sp vs H Q E → vs.length = ps.length) (body : BodyIn P w K mg base N qual st f k sp) : Okk P w K mg base (k + 1) f ps sp :=
  match F with
  | ⟨fd, F, b⟩ => ⟨fd, F.ok S len body, b, F.kp⟩

/-! ### what evaluates to what, with facts of the heap behind -/
def EvR (te : TE) (σ : L2.St) (H : Hp) (R : V → Hp → Prop) : Prop := ∀ H1, Ex H H1 → ∀ Q : VK, (∀ v H2, Ex H1 H2 → R v H2 → Q v H2) → te σ H1 Q
def EvAR (ta : TA) (σ : L2.St) (H : Hp) (R : List V → Hp → Prop) : Prop := ∀ H1, Ex H H1 → ∀ Q : List V → Hp → Prop, (∀ v H2, Ex H1 H2 → R v H2 → Q v H2) → ta σ H1 Q
section
variable {K : PySem.W.Frag} {σ : L2.St} {H H' : Hp} {ta tb tc te tx : TE} {t u : TT} {x y z v : V} {r r' : R2} {R R' S : V → Hp → Prop} {D : Ends} {tu tw tz : TS} {g : TG}
theorem EvR.mono (e : Ex H H') (h : EvR te σ H R) : EvR te σ H' R := fun H1 a Q q => h H1 (e.trans a) Q q
theorem EvR.imp (h : EvR te σ H R) (hi : ∀ v H2, Ex H H2 → R v H2 → R' v H2) : EvR te σ H R' := fun H1 a Q q => h H1 a Q fun v H2 e p => q v H2 e (hi v H2 (a.trans e) p)
theorem evr (h : Ev te σ H v) : EvR te σ H (fun x _ => x = v) := fun H1 a Q q => h H1 a Q fun H2 e => q v H2 e rfl
theorem EvR.ev (h : EvR te σ H R) (hi : ∀ x H2, Ex H H2 → R x H2 → x = v) : Ev te σ H v := fun H1 a Q q => h H1 a Q fun x H2 e p => by rw [hi x H2 (a.trans e) p]; exact q H2 e
theorem elr {xs : List V} (h : EvL te σ H xs) : EvR te σ H (fun v H2 => ∃ p, v = .ref p ∧ H p = none ∧ H2 p = some (.lst xs)) := fun H1 a Q q => h H1 a Q fun p H2 hp e h2 => q _ H2 e ⟨p, rfl, fresh_back a hp, h2⟩
theorem eur {xs : List V} (h : EvU te σ H xs) : EvR te σ H (fun v H2 => ∃ p, v = .ref p ∧ H p = none ∧ H2 p = some (.tup xs)) := fun H1 a Q q => h H1 a Q fun p H2 hp e h2 => q _ H2 e ⟨p, rfl, fresh_back a hp, h2⟩
/-- x, then whatever needs it -/
theorem er_op {Ra : V → Hp → Prop} {Rb : V → V → Hp → Prop} (ha : EvR ta σ H Ra) (hb : ∀ x H1, Ex H H1 → Ra x H1 → EvR tb σ H1 (Rb x))
    (hr : ∀ x y H1 H2, Ex H H1 → Ra x H1 → Ex H1 H2 → Rb x y H2 → ∀ Q : VK, (∀ v H3, Ex H2 H3 → R v H3 → Q v H3) → r x y H2 Q) : EvR (tOp r ta tb) σ H R := fun H1 e Q q =>
  ha H1 e _ fun x H2 e2 p => hb x H2 (e.trans e2) p H2 (Ex.refl _) _ fun y H3 e3 p3 => hr x y H2 H3 (e.trans e2) p e3 p3 Q fun v H4 e4 p4 => q v H4 ((e2.trans e3).trans e4) p4
/-- the first operand's value by facts, the second plain -/
theorem ev_opR {Ra : V → Hp → Prop} (ha : EvR ta σ H Ra) (hb : Ev tb σ H y) (hr : ∀ x H1, Ex H H1 → Ra x H1 → RV r x y H1 z) : Ev (tOp r ta tb) σ H z := fun H1 e Q q =>
  ha H1 e _ fun x H2 e2 p => hb H2 (e.trans e2) _ fun H3 e3 => hr x H2 (e.trans e2) p H3 e3 Q fun H4 e4 => q H4 ((e2.trans e3).trans e4)
/-- the second by facts -/
theorem ev_opR2 {Rb : V → Hp → Prop} (ha : Ev ta σ H x) (hb : EvR tb σ H Rb) (hr : ∀ y H1, Ex H H1 → Rb y H1 → RV r x y H1 z) : Ev (tOp r ta tb) σ H z := fun H1 e Q q =>
  ha H1 e _ fun H2 e2 => hb H2 (e.trans e2) _ fun y H3 e3 p => hr y H3 ((e.trans e2).trans e3) p H3 (Ex.refl _) Q fun H4 e4 => q H4 ((e2.trans e3).trans e4)
/-- both by facts -/
theorem ev_opRR {Ra Rb : V → Hp → Prop} (ha : EvR ta σ H Ra) (hb : EvR tb σ H Rb) (hr : ∀ x y H1 H2, Ex H H1 → Ra x H1 → Ex H1 H2 → Rb y H2 → RV r x y H2 z) : Ev (tOp r ta tb) σ H z := fun H1 e Q q =>
  ha H1 e _ fun x H2 e2 p => hb H2 (e.trans e2) _ fun y H3 e3 p3 => hr x y H2 H3 (e.trans e2) p e3 p3 H3 (Ex.refl _) Q fun H4 e4 => q H4 ((e2.trans e3).trans e4)
/-- a new list by two plain values (xs + ys, ..) -/
theorem er_opR {Ra Rb : V → Hp → Prop} (ha : EvR ta σ H Ra) (hb : EvR tb σ H Rb) (hr : ∀ x y H1 H2, Ex H H1 → Ra x H1 → Ex H1 H2 → Rb y H2 → ∀ Q : VK, (∀ v H3, Ex H2 H3 → R v H3 → Q v H3) → r x y H2 Q) : EvR (tOp r ta tb) σ H R :=
  er_op ha (fun _ _ e _ => hb.mono e) hr
theorem ev_chain {a b : Bool} (ha : Ev ta σ H x) (hb : Ev tb σ H y) (h1 : RV r x y H (.bl a)) (hc : a = true → Ev tc σ H z) (h2 : a = true → RV r' y z H (.bl b)) : Ev (tChain r r' ta tb tc) σ H (.bl (a && b)) := fun H1 e Q q =>
  ha H1 e _ fun H2 e2 => hb H2 (e.trans e2) _ fun H3 e3 => h1 H3 ((e.trans e2).trans e3) _ fun H4 e4 => ⟨a, rfl, by
    cases a with
    | false => exact q H4 ((e2.trans e3).trans e4)
    | true => exact hc rfl H4 (((e.trans e2).trans e3).trans e4) _ fun H5 e5 => h2 rfl H5 ((((e.trans e2).trans e3).trans e4).trans e5) Q fun H6 e6 => q H6 ((((e2.trans e3).trans e4).trans e5).trans e6)⟩
/-- fields -/
theorem ev_fld {a C dx : Addr} {fs : List (Str × V)} {f : Str} (ha : Ev ta σ H (.ref a)) (ho : H a = some (.ins C dx fs)) (c : Cls K C) (n : NoAttr K C f) (hl : fs.lookup f = some v) : Ev (tFld K ta f) σ H v := fun H1 e Q q =>
  ha H1 e _ fun H2 e2 => ⟨a, C, dx, fs, v, rfl, (e.trans e2) a _ ho, c, n, hl, q H2 e2⟩
theorem ev_fldR {C : Addr} {f : Str} (ha : EvR ta σ H R) (h : ∀ x H1, Ex H H1 → R x H1 → ∃ a dx fs, x = .ref a ∧ H1 a = some (.ins C dx fs) ∧ fs.lookup f = some v) (c : Cls K C) (n : NoAttr K C f) : Ev (tFld K ta f) σ H v := fun H1 e Q q =>
  ha H1 e _ fun x H2 e2 p => by
    obtain ⟨a, dx, fs, hx, ho, hl⟩ := h x H2 (e.trans e2) p
    exact ⟨a, C, dx, fs, v, hx, ho, c, n, hl, q H2 e2⟩
/-- arguments -/
theorem ear {vs : List V} {ta : TA} (h : EvA ta σ H vs) : EvAR ta σ H (fun x _ => x = vs) := fun H1 a Q q => h H1 a Q fun H2 e => q vs H2 e rfl
theorem ear_nil : EvAR tNil σ H (fun x _ => x = []) := ear ea_nil
theorem ear_cons {tr : TA} {T : List V → Hp → Prop} (h : EvR te σ H R) (hr : ∀ x H1, Ex H H1 → R x H1 → EvAR tr σ H1 (fun vs H2 => T (x :: vs) H2)) : EvAR (tCons te tr) σ H T := fun H1 e Q q =>
  h H1 e _ fun x H2 e2 p => hr x H2 (e.trans e2) p H2 (Ex.refl _) _ fun vs H3 e3 p3 => q _ H3 (e2.trans e3) p3
/-- one argument by facts -/
theorem ear_one (h : EvR te σ H R) : EvAR (tCons te tNil) σ H (fun vs H2 => ∃ x, vs = [x] ∧ R x H2) := fun H1 e Q q => h H1 e _ fun x H2 e2 p => q [x] H2 e2 ⟨x, rfl, p⟩
/-! built-ins -/
theorem er_cb {rr : List V → Hp → VK → Prop} {ta : TA} {T : List V → Hp → Prop} (h : EvAR ta σ H T) (hr : ∀ vs H1, Ex H H1 → T vs H1 → ∀ Q : VK, (∀ v H2, Ex H1 H2 → R v H2 → Q v H2) → rr vs H1 Q) : EvR (tCB rr ta) σ H R := fun H1 e Q q =>
  h H1 e _ fun vs H2 e2 p => hr vs H2 (e.trans e2) p Q fun v H3 e3 p3 => q v H3 (e2.trans e3) p3
theorem ev_cbR {rr : List V → Hp → VK → Prop} {ta : TA} {T : List V → Hp → Prop} (h : EvAR ta σ H T) (hr : ∀ vs H1, Ex H H1 → T vs H1 → ∀ Q : VK, Q z H1 → rr vs H1 Q) : Ev (tCB rr ta) σ H z := fun H1 e Q q =>
  h H1 e _ fun vs H2 e2 p => hr vs H2 (e.trans e2) p Q (q H2 e2)
theorem rc_abs {i : Int} : RC (fun xs H Q => ∃ i, xs = [V.int i] ∧ Q (.int (if i < 0 then -i else i)) H) [.int i] H (.int (if i < 0 then -i else i)) := fun H1 _ _ q => ⟨i, rfl, q H1 (Ex.refl H1)⟩
theorem rc_len {p : Addr} {xs : List V} (h : SqL K H p xs) : RC (fun xs H Q => ∃ p ys, xs = [V.ref p] ∧ (SqL K H p ys ∨ SqT K H p ys) ∧ Q (.int ys.length) H) [.ref p] H (.int (xs.length : Int)) := fun H1 e _ q => ⟨p, xs, rfl, .inl (ex_l e h), q H1 (Ex.refl H1)⟩
theorem rc_sum {p : Addr} {ns : List Int} (h : SqL K H p (ns.map V.int)) : RC (rSum K) [.ref p] H (.int ns.sum) := fun H1 e _ q => ⟨p, ns, rfl, ex_l e h, q H1 (Ex.refl H1)⟩
theorem ev_sumL {ns : List Int} {xs : List V} (h : EvL te σ H xs) (hx : xs = ns.map V.int) : Ev (tCB (rSum K) (tCons te tNil)) σ H (.int ns.sum) := fun H1 e Q q =>
  h H1 e _ fun p H2 _ e2 h2 => ⟨p, ns, rfl, by rw [← hx]; exact sq_of h2, q H2 e2⟩
theorem ev_allL {bs : List Bool} {xs : List V} (h : EvL te σ H xs) (hx : xs = bs.map V.bl) : Ev (tCB (rAll K) (tCons te tNil)) σ H (.bl (bs.all id)) := fun H1 e Q q =>
  h H1 e _ fun p H2 _ e2 h2 => ⟨p, bs, rfl, by rw [← hx]; exact sq_of h2, q H2 e2⟩
theorem ev_anyL {bs : List Bool} {xs : List V} (h : EvL te σ H xs) (hx : xs = bs.map V.bl) : Ev (tCB (rAny K) (tCons te tNil)) σ H (.bl (bs.any id)) := fun H1 e Q q =>
  h H1 e _ fun p H2 _ e2 h2 => ⟨p, bs, rfl, by rw [← hx]; exact sq_of h2, q H2 e2⟩
theorem ev_any {bs : List Bool} {p : Addr} (h : Ev te σ H (.ref p)) (hx : SqL K H p (bs.map V.bl)) : Ev (tCB (rAny K) (tCons te tNil)) σ H (.bl (bs.any id)) := fun H1 e Q q =>
  h H1 e _ fun H2 e2 => ⟨p, bs, rfl, ex_l (e.trans e2) hx, q H2 e2⟩
abbrev rTupOf (K : PySem.W.Frag) : List V → Hp → VK → Prop := fun xs H Q => ∃ p ys, xs = [.ref p] ∧ ((SqL K H p ys ∧ ∀ l, H l = none → Q (.ref l) (upd H l (.tup ys))) ∨ (SqT K H p ys ∧ Q (.ref p) H))
theorem eu_tupL {xs : List V} (h : EvL te σ H xs) : EvU (tCB (rTupOf K) (tCons te tNil)) σ H xs := fun H1 e Q q =>
  h H1 e _ fun p H2 _ e2 h2 => ⟨p, xs, rfl, .inl ⟨sq_of h2, fun l hl => q l _ (fresh_back e2 hl) (e2.trans (Ex.new hl)) upd_same⟩⟩
/-! isinstance -/
theorem tyx_up {tt : Value} (e : Ex H H') (h : TyX K H x tt) : TyX K H' x tt := by
  cases h with
  | base b =>
    refine .base ?_
    cases b with
    | non => exact .non
    | bl y => exact .bl y
    | int i => exact .int i
    | str y => exact .str y
    | flt y => exact .flt y
    | lst ea => exact .lst (e _ _ ea)
    | frz ea => exact .frz (e _ _ ea)
    | tup ea => exact .tup (e _ _ ea)
    | dK ea => exact .dK (e _ _ ea)
    | dT ea => exact .dT (e _ _ ea)
    | ins ea cl ha hn htk hm => exact .ins (e _ _ ea) cl ha hn htk hm
  | byt y => exact .byt y
  | set ea => exact .set (e _ _ ea)
  | kList ea c => exact .kList ea c
  | kTuple ea c => exact .kTuple ea c
  | kDict ea c => exact .kDict ea c
  | fTuple ea => exact .fTuple (e _ _ ea)
  | fDict ea => exact .fDict (e _ _ ea)
theorem ev_isi {c : V} {u tt : Value} {b : Bool} (ha : Ev ta σ H x) (hb : Ev tb σ H c) (hc : ClsV c u) (ht : TyX K H x tt) (hk : PySem.W.kitOne K tt u = some b) : Ev (tCB (rIsi K) (tCons ta (tCons tb tNil))) σ H (.bl b) := fun H1 e Q q =>
  ha H1 e _ fun H2 e2 => hb H2 (e.trans e2) _ fun H3 e3 => ⟨x, c, tt, u, b, rfl, hc, tyx_up ((e.trans e2).trans e3) ht, hk, q H3 (e2.trans e3)⟩
theorem ev_isiR {c : V} {u tt : Value} {b : Bool} (ha : EvR ta σ H R) (ht : ∀ x H1, Ex H H1 → R x H1 → TyX K H1 x tt) (hb : Ev tb σ H c) (hc : ClsV c u) (hk : PySem.W.kitOne K tt u = some b) : Ev (tCB (rIsi K) (tCons ta (tCons tb tNil))) σ H (.bl b) := fun H1 e Q q =>
  ha H1 e _ fun x H2 e2 p => hb H2 (e.trans e2) _ fun H3 e3 => ⟨x, c, tt, u, b, rfl, hc, tyx_up e3 (ht x H2 (e.trans e2) p), hk, q H3 (e2.trans e3)⟩
/-- what isinstance asks of a class of one's own -/
structure IsC (K : PySem.W.Frag) (C : Addr) : Prop where
  (cl : Cls K C) (ha : PySem.W.findIn K (.ref C) "__class__" = some (some (.builtin "object.__class__"))) (hm : PySem.W.mroIn K C (.type "object") = some true)
structure IsG (K : PySem.W.Frag) : Prop where
  (hn : PySem.W.specialIn K (.builtin "object.__class__") "__get__" = some (some (.builtin "getset_descriptor.__get__"))) (htk : PySem.W.takesIn K (.builtin "object.__class__") = some true)
theorem tyx_ins {a C dx : Addr} {fs : List (Str × V)} (ho : H a = some (.ins C dx fs)) (c : IsC K C) (g : IsG K) : TyX K H (.ref a) (.ref C) := .base (.ins ho c.cl c.ha g.hn g.htk c.hm)
/-! calls of defs -/
theorem er_callS {sp : Sp} {dvs : List V} {E : XK} {ta : TA} {T : List V → Hp → Prop} (h : EvAR ta σ H T) (hs : ∀ vs H1, Ex H H1 → T vs H1 → ∀ Q : VK, (∀ v H2, Ex H1 H2 → R v H2 → Q v H2) → sp (vs ++ dvs) H1 Q E) : EvR (tCall sp dvs E ta) σ H R := fun H1 e Q q =>
  h H1 e _ fun vs H2 e2 p => hs vs H2 (e.trans e2) p Q fun v H3 e3 p3 => q v H3 (e2.trans e3) p3
theorem er_call {α : Type} {Pre : α → List V → Hp → Prop} {Post : α → Hp → V → Hp → Prop} {E : XK} {ta : TA} {vs : List V} (d : α) (h : EvA ta σ H vs) (hm : ∀ H1, Ex H H1 → Pre d vs H1) (hp : ∀ H1 v H2, Ex H H1 → Ex H1 H2 → Post d H1 v H2 → R v H2) :
    EvR (tCall (spX Pre Post) [] E ta) σ H R := fun H1 e Q q =>
  h H1 e _ fun H2 e2 => ⟨d, by rw [List.append_nil]; exact hm H2 (e.trans e2), fun v H3 e3 p3 => q v H3 (e2.trans e3) (hp H2 v H3 (e.trans e2) e3 p3)⟩
theorem ev_call0 {α : Type} {Pre : α → List V → Hp → Prop} {Post : α → Hp → V → Hp → Prop} {E : XK} {ta : TA} {vs : List V} (d : α) (h : EvA ta σ H vs) (hm : ∀ H1, Ex H H1 → Pre d vs H1) (hp : ∀ H1 v H2, Post d H1 v H2 → v = z) :
    Ev (tCall (spX Pre Post) [] E ta) σ H z := (er_call (R := fun x _ => x = z) d h hm fun H1 v H2 _ _ p => hp H1 v H2 p).ev fun _ _ _ p => p
theorem er_meth {α : Type} {Pre : α → List V → Hp → Prop} {Post : α → Hp → V → Hp → Prop} {E : XK} {tm : TA} {vs : List V} {a C dx : Addr} {fs : List (Str × V)} {m : Str} (d : α) (ha : Ev ta σ H (.ref a)) (ho : H a = some (.ins C dx fs)) (hl : fs.lookup m = none) (h : EvA tm σ H vs)
    (hm : ∀ H1, Ex H H1 → Pre d (.ref a :: vs) H1) (hp : ∀ H1 v H2, Ex H H1 → Ex H1 H2 → Post d H1 v H2 → R v H2) : EvR (tMeth C m (spX Pre Post) [] E ta tm) σ H R := fun H1 e Q q =>
  ha H1 e _ fun H2 e2 => ⟨a, dx, fs, rfl, (e.trans e2) a _ ho, hl, h H2 (e.trans e2) _ fun H3 e3 => ⟨d, by rw [List.append_nil]; exact hm H3 ((e.trans e2).trans e3), fun v H4 e4 p4 => q v H4 ((e2.trans e3).trans e4) (hp H3 v H4 ((e.trans e2).trans e3) e4 p4)⟩⟩
theorem ev_meth {α : Type} {Pre : α → List V → Hp → Prop} {Post : α → Hp → V → Hp → Prop} {E : XK} {tm : TA} {vs : List V} {a C dx : Addr} {fs : List (Str × V)} {m : Str} (d : α) (ha : Ev ta σ H (.ref a)) (ho : H a = some (.ins C dx fs)) (hl : fs.lookup m = none) (h : EvA tm σ H vs)
    (hm : ∀ H1, Ex H H1 → Pre d (.ref a :: vs) H1) (hp : ∀ H1 v H2, Post d H1 v H2 → v = z) : Ev (tMeth C m (spX Pre Post) [] E ta tm) σ H z := (er_meth (R := fun x _ => x = z) d ha ho hl h hm fun H1 v H2 _ _ p => hp H1 v H2 p).ev fun _ _ _ p => p
/-- C(..): __init__ leaves an instance with fields fs, of the arguments -/
def spI (C : Addr) (Pre : List V → Hp → Prop) (Post : List V → Hp → Hp → List (Str × V) → Prop) : Sp := fun vs H Q _ => ∃ x dx us, vs = .ref x :: us ∧ H x = some (.ins C dx []) ∧ Pre us H ∧
  ∀ H' fs, (∀ b o, b ≠ x → H b = some o → H' b = some o) → H' x = some (.ins C dx fs) → Post us H H' fs → Q .non H'
theorem er_make {C : Addr} {Pre : List V → Hp → Prop} {Post : List V → Hp → Hp → List (Str × V) → Prop} {E : XK} {ta : TA} {T : List V → Hp → Prop} (h : EvAR ta σ H T)
    (hm : ∀ us H1 H2, Ex H H1 → T us H1 → Ex H1 H2 → Pre us H2) (hR : ∀ us H1 H2 H3 fs x dx, Ex H H1 → T us H1 → Ex H1 H2 → Ex H1 H3 → H1 x = none → H3 x = some (.ins C dx fs) → Post us H2 H3 fs → R (.ref x) H3) :
    EvR (tMake C (spI C Pre Post) [] E ta) σ H R := fun H1 e Q q =>
  h H1 e _ fun us H2 e2 p x dx hx hd hn => by
    have eA : Ex H2 (upd (upd H2 dx (.own x)) x (.ins C dx [])) := (Ex.new hd).mut hx
    refine ⟨x, dx, us, by rw [List.append_nil], upd_same, hm us H2 _ (e.trans e2) p eA, fun H' fs hk hi hp => ⟨rfl, ?_⟩⟩
    have e3 : Ex H2 H' := fun b o hb => hk b o (fun z => by rw [z, hx] at hb; cases hb) (eA b o hb)
    exact q _ _ (e2.trans e3) (hR us H2 _ H' fs x dx (e.trans e2) p eA e3 hx hi hp)
/-! ### statements -/
theorem s_asgR {i : Nat} (h : EvR te σ H R) (k : ∀ v H1, Ex H H1 → R v H1 → D.nx (σ.set i (some v)) H1) : tAsg te (gName i) D σ H := h H (Ex.refl H) _ fun v H1 e p => k v H1 e p
theorem q_asgR {i : Nat} (h : EvR te σ H R) (k : ∀ v H1, Ex H H1 → R v H1 → tz D (σ.set i (some v)) H1) : tSeq (tAsg te (gName i)) tz D σ H := s_asgR (D := { D with nx := tz D }) h k
theorem s_retR (h : EvR te σ H R) (k : ∀ v H1, Ex H H1 → R v H1 → D.rt v H1) : tRet te D σ H := h H (Ex.refl H) _ k
theorem s_asgG (h : EvR te σ H R) (k : ∀ v H1, Ex H H1 → R v H1 → g v σ H1 D.nx) : tAsg te g D σ H := h H (Ex.refl H) _ fun v H1 e p => k v H1 e p
theorem q_asgG (h : EvR te σ H R) (k : ∀ v H1, Ex H H1 → R v H1 → g v σ H1 (tz D)) : tSeq (tAsg te g) tz D σ H := s_asgG (D := { D with nx := tz D }) h k
theorem s_dropR (h : EvR te σ H R) (k : ∀ v H1, Ex H H1 → R v H1 → D.nx σ H1) : tDrop te D σ H := h H (Ex.refl H) _ k
theorem q_dropR (h : EvR te σ H R) (k : ∀ v H1, Ex H H1 → R v H1 → tz D σ H1) : tSeq (tDrop te) tz D σ H := s_dropR (D := { D with nx := tz D }) h k
theorem s_par {i j : Nat} {ta : TA} {vs : List V} {v w : V} (h : EvA ta σ H vs) (hv : vs = [v, w]) (k : ∀ H1, Ex H H1 → D.nx ((σ.set i (some v)).set j (some w)) H1) : tPar i j ta D σ H := h H (Ex.refl H) _ fun H1 e => ⟨v, w, hv, k H1 e⟩
theorem q_par {i j : Nat} {ta : TA} {vs : List V} {v w : V} (h : EvA ta σ H vs) (hv : vs = [v, w]) (k : ∀ H1, Ex H H1 → tz D ((σ.set i (some v)).set j (some w)) H1) : tSeq (tPar i j ta) tz D σ H := s_par (D := { D with nx := tz D }) h hv k
/-- a, b, .. = a tuple -/
theorem g_tup2 {i j : Nat} {a : Addr} {p q : V} {Q : L2.St → Hp → Prop} (h : SqT K H a [p, q]) (k : Q ((σ.set i (some p)).set j (some q)) H) : gTup K 2 (gCons (gName i) (gCons (gName j) gNil)) (.ref a) σ H Q := ⟨a, [p, q], rfl, h, rfl, p, [q], rfl, q, [], rfl, rfl, k⟩
theorem g_tup3 {i j l : Nat} {a : Addr} {p q s : V} {Q : L2.St → Hp → Prop} (h : SqT K H a [p, q, s]) (k : Q (((σ.set i (some p)).set j (some q)).set l (some s)) H) : gTup K 3 (gCons (gName i) (gCons (gName j) (gCons (gName l) gNil))) (.ref a) σ H Q := ⟨a, [p, q, s], rfl, h, rfl, p, [q, s], rfl, q, [s], rfl, s, [], rfl, rfl, k⟩
theorem seq_i (h : tu { D with nx := tz D } σ H) : tSeq tu tz D σ H := h
theorem s_next (h : D.nx σ H) : tNext D σ H := h
end
/-! ### pieces -/
theorem vint_inj {i j : Int} : (V.int i = V.int j) ↔ i = j := ⟨fun h => V.int.inj h, fun h => by rw [h]⟩
theorem vbl_inj {i j : Bool} : (V.bl i = V.bl j) ↔ i = j := ⟨fun h => V.bl.inj h, fun h => by rw [h]⟩
theorem given_all {n : Nat} {v : Nat → V} : given n (fun _ => true) v = (List.range n).map v := by
  unfold given
  rw [List.filter_eq_self.mpr (fun _ _ => rfl)]
end Wl
namespace Wl
open PySem PySem.Spec PyProof.Rows L2 Evl
theorem ev_self {te : TE} {σ : L2.St} {H : Hp} {v : V} (h : Ev te σ H v) : Ev te σ H v := h
theorem et_self {t : TT} {σ : L2.St} {H : Hp} {b : Bool} (h : EvT t σ H b) : EvT t σ H b := h
theorem eb_i {b c : Bool} {P : Prop} (h : b = c → P) : b = c → P := h
end Wl
namespace Wl
open PySem PySem.Spec PyProof.Rows L2 Evl
/-! ### comprehensions -/
/-- what a made item tells leans on no list -/
def Stb (R : Nat → V → Hp → Prop) : Prop := ∀ j y H1 H2, R j y H1 → (∀ b o, H1 b = some o → (∀ zs, o ≠ .lst zs) → H2 b = some o) → R j y H2
theorem stb_val {v : Nat → V} : Stb (fun j y _ => y = v j) := fun _ _ _ _ h _ => h
theorem stb_tup {v : Nat → List V} : Stb (fun j y H => ∃ t, y = .ref t ∧ H t = some (.tup (v j))) := fun j y H1 H2 ⟨t, e, h⟩ k => ⟨t, e, k t _ h fun zs z => nomatch z⟩
def Lw (H : Hp) (R : Nat → V → Hp → Prop) (Dl : Addr) (i : Nat) (H' : Hp) : Prop := H Dl = none ∧ Ex H H' ∧ ∃ ys, H' Dl = some (.lst ys) ∧ ys.length = i ∧ ∀ j y, ys[j]? = some y → R j y H'
section
variable {K : PySem.W.Frag} {σ : L2.St} {H H' : Hp} {ta tb tc te tx : TE} {t u : TT} {x y z v : V} {D : Ends} {tu tw tz : TS} {g : TG}
theorem et_yes : EvT tYes σ H true := fun H1 _ _ q => q H1 (Ex.refl H1)
theorem lw_turn {R : Nat → V → Hp → Prop} {Dl : Addr} {i : Nat} {σ2 : L2.St} (p : Lw H R Dl i H') (hi : i < 50000) (hst : Stb R) (he : EvR te σ2 H (R i)) :
    te σ2 H' fun y H4 => ∃ acc, H4 Dl = some (.lst acc) ∧ acc.length < sizeLine ∧ Lw H R Dl (i + 1) (upd H4 Dl (.lst (acc ++ [y]))) := by
  obtain ⟨p1, p2, ys, p3, p4, p5⟩ := p
  refine he H' p2 _ fun y H4 e4 py => ⟨ys, e4 Dl _ p3, sz_lt (by omega), p1, Ex.mut (p2.trans e4) p1, ys ++ [y], upd_same, by simp [p4], fun j z hz => ?_⟩
  have keep : ∀ b o, H4 b = some o → (∀ zs, o ≠ .lst zs) → upd H4 Dl (.lst (ys ++ [y])) b = some o := fun b o hb hn => by
    rw [upd_ne (fun e => ?_)]
    · exact hb
    · subst e
      rw [e4 _ _ p3] at hb
      exact hn ys (Option.some.inj hb).symm
  by_cases hj : j < ys.length
  · rw [List.getElem?_append_left hj] at hz
    exact hst j z H4 _ (hst j z H' H4 (p5 j z hz) fun b o hb _ => e4 b o hb) keep
  · rw [List.getElem?_append_right (by omega)] at hz
    have hj2 : j - ys.length = 0 := by
      have := (List.getElem?_eq_some_iff.mp hz).1
      simp at this
      omega
    rw [hj2] at hz
    have e : y = z := Option.some.inj hz
    have ej : j = i := by omega
    subst e ej
    exact hst _ y H4 _ py keep
abbrev LcR (n : Nat) (R : Nat → V → Hp → Prop) (H : Hp) : V → Hp → Prop := fun v H2 => ∃ D ys, v = .ref D ∧ H D = none ∧ H2 D = some (.lst ys) ∧ ys.length = n ∧ ∀ j y, ys[j]? = some y → R j y H2
/-- over a list, its target any -/
theorem er_lcL {a : Addr} {xs : List V} {tl : TE} {vs : List Nat} (R : Nat → V → Hp → Prop) (hst : Stb R) (h : Ev tl σ H (.ref a)) (hx : SqL K H a xs) (hz : xs.length ≤ 40000)
    (hg : ∀ i x, xs[i]? = some x → ∃ σ2, wipe σ2 vs = wipe σ vs ∧ EvR te σ2 H (R i) ∧ ∀ H', Ex H H' → ∀ Q : L2.St → Hp → Prop, Q σ2 H' → g x (wipe σ vs) H' Q) :
    EvR (tLc (iList K tl) g tYes te vs) σ H (LcR xs.length R H) := fun H0 e Q q => h H0 e _ fun H1 e1 => ⟨a, rfl, ⟨xs, ex_l (e.trans e1) hx⟩, fun Dl hD =>
  lc_list (xs := xs) (Lw H1 R Dl) ⟨hD, Ex.new hD, [], upd_same, rfl, fun j y hy => by simp at hy⟩ (fun i H' _ p => ex_l ((e.trans e1).trans p.2.1) hx) (fun i x H' hi p => by
    obtain ⟨σ2, hw, he, hq⟩ := hg i x hi
    refine hq H' ((e.trans e1).trans p.2.1) _ ⟨hw, ?_⟩
    exact lw_turn p (by have := (List.getElem?_eq_some_iff.mp hi).1; omega) hst (he.mono (e.trans e1))) (fun H' p => by
    obtain ⟨p1, p2, ys, p3, p4, p5⟩ := p
    exact q _ H' (e1.trans p2) ⟨Dl, ys, rfl, fresh_back (e.trans e1) p1, p3, p4, p5⟩)⟩
/-- over a new list -/
theorem er_lcNL {xs : List V} {tl : TE} {vs : List Nat} (S : V → Hp → Prop) (R : Nat → V → Hp → Prop) (hst : Stb R) (h : EvR tl σ H S) (hS : ∀ v H1, Ex H H1 → S v H1 → ∃ a, v = .ref a ∧ SqL K H1 a xs) (hz : xs.length ≤ 40000)
    (hg : ∀ v H1, Ex H H1 → S v H1 → ∀ i x, xs[i]? = some x → ∃ σ2, wipe σ2 vs = wipe σ vs ∧ EvR te σ2 H1 (R i) ∧ ∀ H', Ex H1 H' → ∀ Q : L2.St → Hp → Prop, Q σ2 H' → g x (wipe σ vs) H' Q) :
    EvR (tLc (iList K tl) g tYes te vs) σ H (LcR xs.length R H) := fun H0 e Q q => h H0 e _ fun v H1 e1 hv => by
  obtain ⟨a, rfl, hx⟩ := hS v H1 (e.trans e1) hv
  refine ⟨a, rfl, ⟨xs, hx⟩, fun Dl hD =>
    lc_list (xs := xs) (Lw H1 R Dl) ⟨hD, Ex.new hD, [], upd_same, rfl, fun j y hy => by simp at hy⟩ (fun i H' _ p => ex_l p.2.1 hx) (fun i x H' hi p => ?_) (fun H' p => ?_)⟩
  · obtain ⟨σ2, hw, he, hq⟩ := hg _ H1 (e.trans e1) hv i x hi
    refine hq H' p.2.1 _ ⟨hw, ?_⟩
    exact lw_turn p (by have := (List.getElem?_eq_some_iff.mp hi).1; omega) hst he
  · obtain ⟨p1, p2, ys, p3, p4, p5⟩ := p
    exact q _ H' (e1.trans p2) ⟨Dl, ys, rfl, fresh_back (e.trans e1) p1, p3, p4, p5⟩
/-- over a tuple -/
theorem er_lcT {a : Addr} {xs : List V} {tl : TE} {vs : List Nat} (R : Nat → V → Hp → Prop) (hst : Stb R) (h : Ev tl σ H (.ref a)) (hx : SqT K H a xs) (hz : xs.length ≤ 40000)
    (hg : ∀ i x, xs[i]? = some x → ∃ σ2, wipe σ2 vs = wipe σ vs ∧ EvR te σ2 H (R i) ∧ ∀ H', Ex H H' → ∀ Q : L2.St → Hp → Prop, Q σ2 H' → g x (wipe σ vs) H' Q) :
    EvR (tLc (iTup K tl) g tYes te vs) σ H (LcR xs.length R H) := fun H0 e Q q => h H0 e _ fun H1 e1 => ⟨a, rfl, ⟨xs, ex_t (e.trans e1) hx⟩, fun Dl hD =>
  lc_tup (xs := xs) (Lw H1 R Dl) ⟨hD, Ex.new hD, [], upd_same, rfl, fun j y hy => by simp at hy⟩ (fun i H' _ p => ex_t ((e.trans e1).trans p.2.1) hx) (fun i x H' hi p => by
    obtain ⟨σ2, hw, he, hq⟩ := hg i x hi
    refine hq H' ((e.trans e1).trans p.2.1) _ ⟨hw, ?_⟩
    exact lw_turn p (by have := (List.getElem?_eq_some_iff.mp hi).1; omega) hst (he.mono (e.trans e1))) (fun H' p => by
    obtain ⟨p1, p2, ys, p3, p4, p5⟩ := p
    exact q _ H' (e1.trans p2) ⟨Dl, ys, rfl, fresh_back (e.trans e1) p1, p3, p4, p5⟩)⟩
/-- over range(n) -/
theorem er_lcR {ta : TA} {n : Nat} {j : Nat} {vs : List Nat} (R : Nat → V → Hp → Prop) (hst : Stb R) (h : EvA ta σ H [.int (n : Int)]) (hz : n ≤ 40000) (hw : ∀ x, wipe ((wipe σ vs).set j (some x)) vs = wipe σ vs)
    (hg : ∀ i, i < n → EvR te ((wipe σ vs).set j (some (.int (i : Int)))) H (R i)) :
    EvR (tLc (iRng1 ta) (gName j) tYes te vs) σ H (LcR n R H) := fun H0 e Q q => h H0 e _ fun H1 e1 => ⟨n, rfl, by omega, by omega, fun Dl hD => by
  have en : ((n : Int)).toNat = n := by omega
  rw [en]
  refine lc_range (lo := 0) (n := n) (Lw H1 R Dl) ⟨hD, Ex.new hD, [], upd_same, rfl, fun j y hy => by simp at hy⟩ (fun i H' hi p => ?_) (fun H' p => ?_)
  · have e0 : (0 : Int) + (i : Int) = (i : Int) := Int.zero_add _
    rw [e0]
    refine ⟨hw _, ?_⟩
    exact lw_turn p (by omega) hst ((hg i hi).mono (e.trans e1))
  · obtain ⟨p1, p2, ys, p3, p4, p5⟩ := p
    exact q _ H' (e1.trans p2) ⟨Dl, ys, rfl, fresh_back (e.trans e1) p1, p3, p4, p5⟩⟩
/-- the made list, its items known -/
theorem lc_is {n : Nat} {f : Nat → V} {ys : List V} (hl : ys.length = n) (h : ∀ j y, ys[j]? = some y → y = f j) : ys = (List.range n).map f := by
  apply List.ext_getElem?
  intro i
  cases e : ys[i]? with
  | none =>
    have := List.getElem?_eq_none_iff.mp e
    exact (List.getElem?_eq_none_iff.mpr (by rw [List.length_map, List.length_range]; omega)).symm
  | some y =>
    have hi := (List.getElem?_eq_some_iff.mp e).1
    rw [List.getElem?_map, List.getElem?_range (by omega), h i y e]
    rfl
/-- the list's items known -/
theorem LcR.sq {n : Nat} {f : Nat → V} {v : V} {H1 : Hp} (h : LcR n (fun j y _ => y = f j) H v H1) : ∃ a, v = .ref a ∧ SqL K H1 a ((List.range n).map f) := by
  obtain ⟨D, ys, rfl, _, h3, h4, h5⟩ := h
  rw [lc_is h4 h5] at h3
  exact ⟨D, rfl, sq_of h3⟩
theorem ev_sumR {S : V → Hp → Prop} {ns : List Int} (h : EvR te σ H S) (hS : ∀ v H1, Ex H H1 → S v H1 → ∃ a, v = .ref a ∧ SqL K H1 a (ns.map V.int)) : Ev (tCB (rSum K) (tCons te tNil)) σ H (.int ns.sum) := fun H1 e Q q =>
  h H1 e _ fun x H2 e2 p => by
    obtain ⟨a, rfl, hx⟩ := hS x H2 (e.trans e2) p
    exact ⟨a, ns, rfl, hx, q H2 e2⟩
theorem ev_allR {S : V → Hp → Prop} {bs : List Bool} (h : EvR te σ H S) (hS : ∀ v H1, Ex H H1 → S v H1 → ∃ a, v = .ref a ∧ SqL K H1 a (bs.map V.bl)) : Ev (tCB (rAll K) (tCons te tNil)) σ H (.bl (bs.all id)) := fun H1 e Q q =>
  h H1 e _ fun x H2 e2 p => by
    obtain ⟨a, rfl, hx⟩ := hS x H2 (e.trans e2) p
    exact ⟨a, bs, rfl, hx, q H2 e2⟩
theorem ev_anyR {S : V → Hp → Prop} {bs : List Bool} (h : EvR te σ H S) (hS : ∀ v H1, Ex H H1 → S v H1 → ∃ a, v = .ref a ∧ SqL K H1 a (bs.map V.bl)) : Ev (tCB (rAny K) (tCons te tNil)) σ H (.bl (bs.any id)) := fun H1 e Q q =>
  h H1 e _ fun x H2 e2 p => by
    obtain ⟨a, rfl, hx⟩ := hS x H2 (e.trans e2) p
    exact ⟨a, bs, rfl, hx, q H2 e2⟩
/-- tuple(a list) -/
theorem er_tupR {S : V → Hp → Prop} {xs : List V} (h : EvR te σ H S) (hS : ∀ v H1, Ex H H1 → S v H1 → ∃ a, v = .ref a ∧ SqL K H1 a xs) : EvR (tCB (rTupOf K) (tCons te tNil)) σ H (fun v H2 => ∃ p, v = .ref p ∧ H p = none ∧ H2 p = some (.tup xs)) := fun H1 e Q q =>
  h H1 e _ fun x H2 e2 p => by
    obtain ⟨a, rfl, hx⟩ := hS x H2 (e.trans e2) p
    exact ⟨a, xs, rfl, .inl ⟨hx, fun l hl => q _ _ (e2.trans (Ex.new hl)) ⟨l, rfl, fresh_back (e.trans e2) hl, upd_same⟩⟩⟩
/-- list(a list) -/
theorem er_listL {a : Addr} {xs : List V} (h : Ev te σ H (.ref a)) (hx : SqL K H a xs) : EvR (tCB (fun xs H Q => ∃ p ys, xs = [V.ref p] ∧ (SqL K H p ys ∨ SqT K H p ys) ∧ ∀ l, H l = none → Q (.ref l) (upd H l (.lst ys))) (tCons te tNil)) σ H (fun v H2 => ∃ p, v = .ref p ∧ H p = none ∧ H2 p = some (.lst xs)) := fun H1 e Q q =>
  h H1 e _ fun H2 e2 => ⟨a, xs, rfl, .inl (ex_l (e.trans e2) hx), fun l hl => q _ _ (e2.trans (Ex.new hl)) ⟨l, rfl, fresh_back (e.trans e2) hl, upd_same⟩⟩
/-- (a, b, ..) of anything -/
theorem er_tup {ta : TA} {T : List V → Hp → Prop} (h : EvAR ta σ H T) (hl : ∀ vs H1, T vs H1 → vs.length ≤ 100000) : EvR (tTup ta) σ H (fun v H2 => ∃ p vs H1, v = .ref p ∧ H p = none ∧ Ex H1 H2 ∧ T vs H1 ∧ H2 p = some (.tup vs)) := fun H1 e Q q =>
  h H1 e _ fun vs H2 e2 p => ⟨sz_of (hl vs H2 p), fun l hl => q _ _ (e2.trans (Ex.new hl)) ⟨l, vs, H2, rfl, fresh_back (e.trans e2) hl, Ex.new hl, p, upd_same⟩⟩
theorem er_lst {ta : TA} {T : List V → Hp → Prop} (h : EvAR ta σ H T) (hl : ∀ vs H1, T vs H1 → vs.length ≤ 100000) : EvR (tLst ta) σ H (fun v H2 => ∃ p vs H1, v = .ref p ∧ H p = none ∧ Ex H1 H2 ∧ T vs H1 ∧ H2 p = some (.lst vs)) := fun H1 e Q q =>
  h H1 e _ fun vs H2 e2 p => ⟨sz_of (hl vs H2 p), fun l hl => q _ _ (e2.trans (Ex.new hl)) ⟨l, vs, H2, rfl, fresh_back (e.trans e2) hl, Ex.new hl, p, upd_same⟩⟩
end
end Wl
namespace Wl
open PySem PySem.Spec PyProof.Rows L2 Evl
theorem EvAR.imp {ta : TA} {σ : L2.St} {H : Hp} {R R' : List V → Hp → Prop} (h : EvAR ta σ H R) (hi : ∀ v H2, Ex H H2 → R v H2 → R' v H2) : EvAR ta σ H R' := fun H1 a Q q => h H1 a Q fun v H2 e p => q v H2 e (hi v H2 (a.trans e) p)
end Wl
namespace Wl
open PySem PySem.Spec PyProof.Rows L2 Evl
/-! ### rules with K named (within a comprehension K is hidden in the context) -/
section
variable {X : Cx} (K : PySem.W.Frag)
theorem ix_tupK (h : X.K = K := by rfl) : IxR X (rIxT K) := by subst h; exact ix_tup
theorem ix_listK (h : X.K = K := by rfl) : IxR X (rIxL K) := by subst h; exact ix_list
abbrev rLenQ (K : PySem.W.Frag) : List V → Hp → VK → Prop := fun xs H Q => ∃ p ys, xs = [.ref p] ∧ (SqL K H p ys ∨ SqT K H p ys) ∧ Q (.int ys.length) H
abbrev rListQ (K : PySem.W.Frag) : List V → Hp → VK → Prop := fun xs H Q => ∃ p ys, xs = [.ref p] ∧ (SqL K H p ys ∨ SqT K H p ys) ∧ ∀ l, H l = none → Q (.ref l) (upd H l (.lst ys))
theorem len_seqK (h : X.K = K := by rfl) : CallR X (.builtin "len") (rLenQ K) := by subst h; exact call_len_seq
theorem allK (hc : X.calm = true) (h : X.K = K := by rfl) : CallR X (.builtin "all") (rAll K) := by subst h; exact cr_all hc
theorem anyK (hc : X.calm = true) (h : X.K = K := by rfl) : CallR X (.builtin "any") (rAny K) := by subst h; exact cr_any hc
theorem sumK (hc : X.calm = true) (h : X.K = K := by rfl) : CallR X (.builtin "sum") (rSum K) := by subst h; exact cr_sum hc
theorem isiK (h : X.K = K := by rfl) : CallR X (.builtin "isinstance") (rIsi K) := by subst h; exact call_isi
theorem list_ofK (h : X.K = K := by rfl) : CallR X (.type "list") (rListQ K) := by subst h; exact call_list_of
theorem tuple_ofK (h : X.K = K := by rfl) : CallR X (.type "tuple") (rTupOf K) := by subst h; exact call_tuple_of
theorem eqDK (hu : X.A.units + 64 < cLine) (h : X.K = K := by rfl) : OpR X (compareOp .Eq) (rEqD K) := by subst h; exact op_eqD hu
theorem neDK (hu : X.A.units + 64 < cLine) (h : X.K = K := by rfl) : OpR X (compareOp .NotEq) (rNeD K) := by subst h; exact op_neD hu
theorem pe_fldK {e : Expr} {f : Str} {pos : Pos} {ta : TE} (he : PE X e ta) (hb : attributeBase e f X.env (eval e X.env) = eval e X.env) (h : X.K = K := by rfl) : PE X (.Attribute e f pos) (tFld K ta f) := by subst h; exact pe_fld he hb
theorem pg_tupK {es : List Expr} {k : Nat} {pos : Pos} {t : TGs} {n : Nat} (hc : X.calm = true) (ht : PGs X es t)
    (hn : (assignEach es X.env).length = n := by rfl) (hst : (assignEach es X.env).findIdx? (·.1) = none := by rfl) (h : X.K = K := by rfl) : PG X (.Tuple es k pos) (gTup K n t) := by subst h; exact pg_tup hc ht hn hst
theorem pi_listK {tg l : Expr} {tl : TE} (hl : PE X l tl) (h : X.K = K := by rfl) : PI X tg l (iList K tl) := by subst h; exact pi_list hl
theorem pi_tupK {tg l : Expr} {tl : TE} (hl : PE X l tl) (h : X.K = K := by rfl) : PI X tg l (iTup K tl) := by subst h; exact pi_tup hl
end
end Wl
namespace Wl
open PySem PySem.Spec PyProof.Rows L2 Evl
section
variable {K : PySem.W.Frag} {σ : L2.St} {H H' : Hp} {te : TE}
/-- the target a name -/
theorem er_lcLn {a : Addr} {xs : List V} {tl : TE} {vs : List Nat} {j : Nat} (R : Nat → V → Hp → Prop) (hst : Stb R) (h : Ev tl σ H (.ref a)) (hx : SqL K H a xs) (hz : xs.length ≤ 40000) (hw : ∀ x, wipe ((wipe σ vs).set j (some x)) vs = wipe σ vs)
    (hg : ∀ i x, xs[i]? = some x → EvR te ((wipe σ vs).set j (some x)) H (R i)) : EvR (tLc (iList K tl) (gName j) tYes te vs) σ H (LcR xs.length R H) :=
  er_lcL R hst h hx hz fun i x hi => ⟨_, hw x, hg i x hi, fun _ _ _ q => q⟩
theorem er_lcTn {a : Addr} {xs : List V} {tl : TE} {vs : List Nat} {j : Nat} (R : Nat → V → Hp → Prop) (hst : Stb R) (h : Ev tl σ H (.ref a)) (hx : SqT K H a xs) (hz : xs.length ≤ 40000) (hw : ∀ x, wipe ((wipe σ vs).set j (some x)) vs = wipe σ vs)
    (hg : ∀ i x, xs[i]? = some x → EvR te ((wipe σ vs).set j (some x)) H (R i)) : EvR (tLc (iTup K tl) (gName j) tYes te vs) σ H (LcR xs.length R H) :=
  er_lcT R hst h hx hz fun i x hi => ⟨_, hw x, hg i x hi, fun _ _ _ q => q⟩
/-- the target a pair of names, the items pairs -/
theorem er_lcLp {a : Addr} {xs : List V} {tl : TE} {vs : List Nat} {j l : Nat} (R : Nat → V → Hp → Prop) (hst : Stb R) (h : Ev tl σ H (.ref a)) (hx : SqL K H a xs) (hz : xs.length ≤ 40000) (hw : ∀ x y, wipe (((wipe σ vs).set j (some x)).set l (some y)) vs = wipe σ vs)
    (hg : ∀ i x, xs[i]? = some x → ∃ t p q, x = .ref t ∧ SqT K H t [p, q] ∧ EvR te (((wipe σ vs).set j (some p)).set l (some q)) H (R i)) : EvR (tLc (iList K tl) (gTup K 2 (gCons (gName j) (gCons (gName l) gNil))) tYes te vs) σ H (LcR xs.length R H) :=
  er_lcL R hst h hx hz fun i x hi => by
    obtain ⟨t, p, q, rfl, ht, he⟩ := hg i x hi
    exact ⟨_, hw p q, he, fun _ e _ k => g_tup2 (ex_t e ht) k⟩
end
end Wl
namespace Wl
open PySem PySem.Spec PyProof.Rows L2 Evl
section
variable {K : PySem.W.Frag} {σ : L2.St} {H H' : Hp} {te ti : TE} {ta : TA}
theorem dec_vint {i j : Int} : decide (V.int i = V.int j) = decide (i = j) := decide_eq_decide.mpr vint_inj
theorem dec_vbl {i j : Bool} : decide (V.bl i = V.bl j) = decide (i = j) := decide_eq_decide.mpr vbl_inj
theorem rv_eqI {i j : Int} : RV rEq (.int i) (.int j) H (.bl (decide (i = j))) := fun H1 _ _ q => ⟨rfl, by rw [dec_vint]; exact q H1 (Ex.refl H1)⟩
theorem rv_neI {i j : Int} : RV rNe (.int i) (.int j) H (.bl (!decide (i = j))) := fun H1 _ _ q => ⟨rfl, by rw [dec_vint]; exact q H1 (Ex.refl H1)⟩
theorem rv_eqB {i j : Bool} : RV rEq (.bl i) (.bl j) H (.bl (decide (i = j))) := fun H1 _ _ q => ⟨rfl, by rw [dec_vbl]; exact q H1 (Ex.refl H1)⟩
theorem rv_neB {i j : Bool} : RV rNe (.bl i) (.bl j) H (.bl (!decide (i = j))) := fun H1 _ _ q => ⟨rfl, by rw [dec_vbl]; exact q H1 (Ex.refl H1)⟩
theorem rv_isB {i j : Bool} : RV rIsB (.bl i) (.bl j) H (.bl (decide (i = j))) := fun H1 _ _ q => ⟨i, j, rfl, rfl, q H1 (Ex.refl H1)⟩
theorem rv_notB {i j : Bool} : RV rNotB (.bl i) (.bl j) H (.bl (!decide (i = j))) := fun H1 _ _ q => ⟨i, j, rfl, rfl, q H1 (Ex.refl H1)⟩
theorem atI_map {l : List Int} {i : Int} (h0 : 0 ≤ i) (h1 : i < l.length) : atI (l.map V.int) i = some (.int (l.getD i.toNat 0)) := by
  refine at_of (j := i.toNat) (by omega) ?_
  rw [List.getElem?_map, List.getD_eq_getElem?_getD, List.getElem?_eq_getElem (by omega)]
  rfl
/-- an item of a written tuple of ints -/
theorem ev_pick {l : List Int} {i : Int} {vs : List V} (h : EvA ta σ H vs) (hi : Ev ti σ H (.int i)) (hv : vs = l.map V.int) (h0 : 0 ≤ i) (h1 : i < l.length) (hl : l.length ≤ 100000) : Ev (tOp (rIxT K) (tTup ta) ti) σ H (.int (l.getD i.toNat 0)) :=
  ev_opR (eur (eu_tup h (by rw [hv, List.length_map]; exact hl))) hi fun x H1 e ⟨p, hx, _, hp⟩ => by
    subst hx
    rw [hv] at hp
    exact rv_ixT (st_of hp) (atI_map h0 h1)
theorem getD_all {l : List Int} {i : Nat} {a b : Int} (h : (l.all fun x => decide (a ≤ x) && decide (x ≤ b)) = true) (hi : i < l.length) : a ≤ l.getD i 0 ∧ l.getD i 0 ≤ b := by
  rw [List.getD_eq_getElem?_getD, List.getElem?_eq_getElem hi]
  have := List.all_eq_true.mp h _ (List.getElem_mem hi)
  simp only [Bool.and_eq_true, decide_eq_true_eq] at this
  exact this
theorem ev_lenL {p : Addr} {xs : List V} (ha : Ev te σ H (.ref p)) (h : SqL K H p xs) : Ev (tCB (rLenQ K) (tCons te tNil)) σ H (.int (xs.length : Int)) := fun H1 e Q q =>
  ha H1 e _ fun H2 e2 => ⟨p, xs, rfl, .inl (ex_l (e.trans e2) h), q H2 e2⟩
end
end Wl
namespace Wl
open PySem PySem.Spec PyProof.Rows L2 Evl
theorem lk0 {f g : Str} {x : V} (h : (g == f) = false := by decide +kernel) : List.lookup g [(f, x)] = none := by simp [List.lookup, h]
theorem lk00 {f f2 g : Str} {x x2 : V} (h : (g == f) = false := by decide +kernel) (h2 : (g == f2) = false := by decide +kernel) : List.lookup g [(f, x), (f2, x2)] = none := by simp [List.lookup, h, h2]
theorem lk21 {f f2 : Str} {x x2 : V} : List.lookup f [(f, x), (f2, x2)] = some x := by simp [List.lookup]
theorem lk22 {f f2 : Str} {x x2 : V} (h : (f2 == f) = false := by decide +kernel) : List.lookup f2 [(f, x), (f2, x2)] = some x2 := by simp [List.lookup, h]
section
variable {K : PySem.W.Frag} {σ : L2.St} {H H' : Hp} {te ti : TE} {ta : TA} {D : Ends} {tu tz : TS} {g : TG}
/-- over a new tuple, the target a name -/
theorem s_forTR {xs : List V} {tl : TE} {j : Nat} (h : EvR tl σ H (fun v H1 => ∃ a, v = .ref a ∧ SqT K H1 a xs)) (Pv : Addr → Nat → L2.St → Hp → Prop) (h0 : ∀ a H1, Ex H H1 → SqT K H1 a xs → Pv a 0 σ H1) (hl : ∀ a i σ' H', i ≤ xs.length → Pv a i σ' H' → SqT K H' a xs)
    (hs : ∀ a i x σ' H', xs[i]? = some x → Pv a i σ' H' → tu { D with nx := Pv a (i + 1), ct := Pv a (i + 1), bk := D.nx } (σ'.set j (some x)) H') (hd : ∀ a σ' H', Pv a xs.length σ' H' → D.nx σ' H') : tFor (iTup K tl) (gName j) tu D σ H :=
  h H (Ex.refl H) _ fun v H1 e ⟨a, hv, hx⟩ => ⟨a, hv, ⟨xs, hx⟩, for_tup (Pv a) (h0 a H1 e hx) (hl a) (hs a) (hd a)⟩
theorem q_forTR {xs : List V} {tl : TE} {j : Nat} (h : EvR tl σ H (fun v H1 => ∃ a, v = .ref a ∧ SqT K H1 a xs)) (Pv : Addr → Nat → L2.St → Hp → Prop) (h0 : ∀ a H1, Ex H H1 → SqT K H1 a xs → Pv a 0 σ H1) (hl : ∀ a i σ' H', i ≤ xs.length → Pv a i σ' H' → SqT K H' a xs)
    (hs : ∀ a i x σ' H', xs[i]? = some x → Pv a i σ' H' → tu { D with nx := Pv a (i + 1), ct := Pv a (i + 1), bk := tz D } (σ'.set j (some x)) H') (hd : ∀ a σ' H', Pv a xs.length σ' H' → tz D σ' H') : tSeq (tFor (iTup K tl) (gName j) tu) tz D σ H :=
  s_forTR (D := { D with nx := tz D }) h Pv h0 hl hs hd
theorem ert_tup {vs : List V} (h : EvA ta σ H vs) (hl : vs.length ≤ 100000) : EvR (tTup ta) σ H (fun v H1 => ∃ a, v = .ref a ∧ SqT K H1 a vs) := (eur (eu_tup h hl)).imp fun _ _ _ ⟨p, e, _, hp⟩ => ⟨p, e, st_of hp⟩
theorem rv_pow {i j : Int} (h : CPow i j) : RV (rI CPow fun i j => .int (i ^ j.toNat)) (.int i) (.int j) H (.int (i ^ j.toNat)) := rv_I h
theorem atI_ints {l : List Int} {i : Nat} (h : i < l.length) : atI (l.map V.int) (i : Int) = some (.int (l.getD i 0)) := by
  refine atI_nat ?_
  rw [List.getElem?_map, List.getD_eq_getElem?_getD, List.getElem?_eq_getElem h]
  rfl
theorem getD_mem {l : List Int} {i : Nat} (h : i < l.length) : l.getD i 0 ∈ l := by
  rw [List.getD_eq_getElem?_getD, List.getElem?_eq_getElem h]
  exact List.getElem_mem h
end
end Wl
namespace Wl
open PySem PySem.Spec PyProof.Rows L2 Evl
/-! ### lists: made, cut, joined, walked, compared -/
abbrev NewL (xs : List V) (H : Hp) : V → Hp → Prop := fun v H2 => ∃ p, v = .ref p ∧ H p = none ∧ H2 p = some (.lst xs)
abbrev LstAt (xs : List V) : V → Hp → Prop := fun v H2 => ∃ p, v = .ref p ∧ H2 p = some (.lst xs)
theorem LstAt.up {xs : List V} {v : V} {H H' : Hp} (e : Ex H H') (h : LstAt xs v H) : LstAt xs v H' := by
  obtain ⟨p, r, h⟩ := h
  exact ⟨p, r, e _ _ h⟩
abbrev iv (ns : List Int) : List V := ns.map V.int
section
variable {K : PySem.W.Frag} {σ : L2.St} {H H' : Hp} {ta tb tc te tl : TE} {x y z v : V} {D : Ends} {tu tz : TS} {g : TG}
theorem er_new {ta : TA} {xs : List V} (h : EvA ta σ H xs) (hl : xs.length ≤ 100000) : EvR (tLst ta) σ H (NewL xs H) := elr (el_lst h hl)
theorem er_cat {xs ys : List V} (ha : EvR ta σ H (LstAt xs)) (hb : EvR tb σ H (LstAt ys)) (hl : xs.length + ys.length ≤ 100000) : EvR (tOp rCat ta tb) σ H (NewL (xs ++ ys) H) := fun H1 e Q q =>
  ha H1 e _ fun x H2 e2 ⟨p, hx, hp⟩ => hb H2 (e.trans e2) _ fun y H3 e3 ⟨r, hy, hr⟩ => ⟨p, r, xs, ys, hx, hy, e3 _ _ hp, hr, sz_of hl, fun l hn => q _ _ ((e2.trans e3).trans (Ex.new hn)) ⟨l, rfl, fresh_back ((e.trans e2).trans e3) hn, upd_same⟩⟩
theorem er_rev {xs : List V} {a : Addr} (h : Ev ta σ H (.ref a)) (hx : SqL K H a xs) : EvR (tRevL K ta) σ H (NewL xs.reverse H) := fun H1 e Q q =>
  h H1 e _ fun H2 e2 => ⟨a, xs, rfl, ex_l (e.trans e2) hx, fun l hn => q _ _ (e2.trans (Ex.new hn)) ⟨l, rfl, fresh_back (e.trans e2) hn, upd_same⟩⟩
theorem er_sl {xs : List V} {a : Addr} {t1 t2 : TO} {lo hi : Option Int} (h : Ev ta σ H (.ref a)) (h1 : EvO t1 σ H lo) (h2 : EvO t2 σ H hi) (hx : SqL K H a xs) : EvR (tSl (rSlL K) ta t1 t2) σ H (NewL (cutV xs lo hi) H) := elr (el_sl h h1 h2 hx)
theorem er_list {a : Addr} {xs : List V} (h : Ev te σ H (.ref a)) (hx : SqL K H a xs) : EvR (tCB (rListQ K) (tCons te tNil)) σ H (NewL xs H) := er_listL h hx
theorem cut_from1 (xs : List V) : cutV xs (some 1) none = xs.drop 1 := by
  unfold cutV
  rw [show HT.sIx xs.length 0 (some 1) = min 1 xs.length from HT.sIx_nat xs.length 0 1, HT.sIx_none]
  cases xs with
  | nil => rfl
  | cons x r =>
    rw [show min 1 (x :: r).length = 1 by
      rw [List.length_cons]
      omega]
    show (List.take ((x :: r).length - 1) r) = r
    rw [List.length_cons, Nat.add_sub_cancel]
    exact List.take_length
/-- [F n for n in ns] -/
theorem range_items {α β : Type} (f : α → β) (d : α) (l : List α) : (List.range l.length).map (fun j => f (l.getD j d)) = l.map f := by
  apply List.ext_getElem?
  intro i
  by_cases h : i < l.length
  · have e : l.getD i d = l[i] := by rw [List.getD_eq_getElem?_getD, List.getElem?_eq_getElem h]; rfl
    rw [List.getElem?_map, List.getElem?_range h, List.getElem?_map, List.getElem?_eq_getElem h]
    show some (f (l.getD i d)) = some (f l[i])
    rw [e]
  · rw [List.getElem?_eq_none (by simpa using h), List.getElem?_eq_none (by simpa using h)]
theorem LcR.new {n : Nat} {f : Nat → V} {v : V} {H1 : Hp} (h : LcR n (fun j y _ => y = f j) H v H1) : NewL ((List.range n).map f) H v H1 := by
  obtain ⟨D, ys, rfl, h2, h3, h4, h5⟩ := h
  rw [lc_is h4 h5] at h3
  exact ⟨D, rfl, h2, h3⟩
theorem er_lcI {a : Addr} {ns : List Int} {vs : List Nat} {j : Nat} (F : Int → V) (h : Ev tl σ H (.ref a)) (hx : SqL K H a (iv ns)) (hz : ns.length ≤ 40000) (hw : ∀ x, wipe ((wipe σ vs).set j (some x)) vs = wipe σ vs)
    (hg : ∀ n, n ∈ ns → Ev te ((wipe σ vs).set j (some (.int n))) H (F n)) : EvR (tLc (iList K tl) (gName j) tYes te vs) σ H (NewL (ns.map F) H) :=
  (er_lcLn (fun i y _ => y = F (ns.getD i 0)) stb_val h hx (by rw [List.length_map]; exact hz) hw fun i x hi => by
    rw [List.getElem?_map] at hi
    cases e : ns[i]? with
    | none => rw [e] at hi; cases hi
    | some n =>
      rw [e] at hi
      cases hi
      have hd : ns.getD i 0 = n := by rw [List.getD_eq_getElem?_getD, e]; rfl
      rw [hd]
      exact evr (hg n (List.mem_of_getElem? e))).imp fun v H2 _ p => by
    have q := LcR.new p
    rw [List.length_map, range_items F 0 ns] at q
    exact q
/-- [F k for k in range(n)] -/
theorem er_lcRI {ta : TA} {n : Nat} {vs : List Nat} {j : Nat} (F : Nat → V) (h : EvA ta σ H [.int (n : Int)]) (hz : n ≤ 40000) (hw : ∀ x, wipe ((wipe σ vs).set j (some x)) vs = wipe σ vs)
    (hg : ∀ i, i < n → Ev te ((wipe σ vs).set j (some (.int (i : Int)))) H (F i)) : EvR (tLc (iRng1 ta) (gName j) tYes te vs) σ H (NewL ((List.range n).map F) H) :=
  (er_lcR (fun i y _ => y = F i) stb_val h hz hw fun i hi => evr (hg i hi)).imp fun v H2 _ p => LcR.new p
/-- [.. for x, y in zip(xs, ys)] -/
theorem er_lcZ {ta : TA} {a b : Addr} {xs ys : List V} {vs : List Nat} {j l : Nat} (F : Nat → V) (h : EvA ta σ H [.ref a, .ref b]) (hx : SqL K H a xs) (hy : SqL K H b ys) (hxy : xs.length = ys.length) (hz : xs.length ≤ 40000) (hw : ∀ x y, wipe (((wipe σ vs).set j (some x)).set l (some y)) vs = wipe σ vs)
    (hg : ∀ i x y, xs[i]? = some x → ys[i]? = some y → Ev te (((wipe σ vs).set j (some x)).set l (some y)) H (F i)) :
    EvR (tLc (iZip K ta) (gTup K 2 (gCons (gName j) (gCons (gName l) gNil))) tYes te vs) σ H (NewL ((List.range xs.length).map F) H) := fun H0 e Q q => h H0 e _ fun H1 e1 => ⟨a, b, xs, ys, rfl, ex_l (e.trans e1) hx, ex_l (e.trans e1) hy, fun Dl hD => by
  refine ⟨fun i m H' => m = xs.length - i ∧ i ≤ xs.length ∧ Lw H1 (fun i y _ => y = F i) Dl i H', ⟨_, rfl, Nat.zero_le _, hD, Ex.new hD, [], upd_same, rfl, fun j y hy => by simp at hy⟩, ?_⟩
  rintro i m H' ⟨rfl, hi, p⟩
  have qx := ex_l ((e.trans e1).trans p.2.1) hx
  have qy := ex_l ((e.trans e1).trans p.2.1) hy
  by_cases hlt : i < xs.length
  · have hlt2 : i < ys.length := by omega
    have ex : xs[i]? = some xs[i] := List.getElem?_eq_getElem hlt
    have ey : ys[i]? = some ys[i] := List.getElem?_eq_getElem hlt2
    refine .inr ⟨⟨xs, ys, _, _, qx, qy, ex, ey⟩, Lw H1 (fun i y _ => y = F i) Dl (i + 1), fun H2 p2 => ⟨xs.length - (i + 1), by omega, rfl, hlt, p2⟩, fun v H2 hyld => ?_⟩
    obtain ⟨T, x', y', rfl, hT, rfl, f1, f2⟩ := hyld
    have e1' : x' = xs[i] := Option.some.inj ((f1 _ qx).symm.trans ex)
    have e2' : y' = ys[i] := Option.some.inj ((f2 _ qy).symm.trans ey)
    subst e1' e2'
    refine g_tup2 (st_of upd_same) ⟨hw _ _, ?_⟩
    have p' : Lw H1 (fun i y _ => y = F i) Dl i (upd H' T (.tup [xs[i], ys[i]])) := by
      obtain ⟨p1, p2, zs, p3, p4, p5⟩ := p
      exact ⟨p1, p2.trans (Ex.new hT), zs, by rw [upd_ne (ne_of_none p3 hT)]; exact p3, p4, p5⟩
    exact lw_turn p' (by omega) stb_val ((evr (hg i _ _ ex ey)).mono (e.trans e1))
  · have ei : i = xs.length := by omega
    subst ei
    obtain ⟨p1, p2, zs, p3, p4, p5⟩ := p
    rw [lc_is p4 p5] at p3
    exact .inl ⟨⟨xs, ys, qx, qy, .inl (Nat.le_refl _)⟩, q _ H' (e1.trans p2) ⟨Dl, rfl, fresh_back (e.trans e1) p1, p3⟩⟩⟩
theorem ev_sumN {ns : List Int} {H0 : Hp} (h : EvR te σ H (NewL (iv ns) H0)) : Ev (tCB (rSum K) (tCons te tNil)) σ H (.int ns.sum) := ev_sumR h fun v H1 _ ⟨p, e, _, hp⟩ => ⟨p, e, sq_of hp⟩
theorem ev_allN {bs : List Bool} {H0 : Hp} (h : EvR te σ H (NewL (bs.map V.bl) H0)) : Ev (tCB (rAll K) (tCons te tNil)) σ H (.bl (bs.all id)) := ev_allR h fun v H1 _ ⟨p, e, _, hp⟩ => ⟨p, e, sq_of hp⟩
theorem ev_anyN {bs : List Bool} {H0 : Hp} (h : EvR te σ H (NewL (bs.map V.bl) H0)) : Ev (tCB (rAny K) (tCons te tNil)) σ H (.bl (bs.any id)) := ev_anyR h fun v H1 _ ⟨p, e, _, hp⟩ => ⟨p, e, sq_of hp⟩
/-- for x in (a, b, ..) of anything -/
theorem s_forTU {j : Nat} {R : V → Hp → Prop} (h : EvR tl σ H R) (k : ∀ v H1, Ex H H1 → R v H1 → ∃ a xs, v = .ref a ∧ SqT K H1 a xs ∧ ∃ Pv : Nat → L2.St → Hp → Prop, Pv 0 σ H1 ∧ (∀ i σ' H', i ≤ xs.length → Pv i σ' H' → SqT K H' a xs) ∧
    (∀ i x σ' H', xs[i]? = some x → Pv i σ' H' → tu { D with nx := Pv (i + 1), ct := Pv (i + 1), bk := D.nx } (σ'.set j (some x)) H') ∧ (∀ σ' H', Pv xs.length σ' H' → D.nx σ' H')) : tFor (iTup K tl) (gName j) tu D σ H :=
  h H (Ex.refl H) _ fun v H1 e p => by
    obtain ⟨a, xs, hv, hx, Pv, h0, hl, hs, hd⟩ := k v H1 e p
    exact ⟨a, hv, ⟨xs, hx⟩, for_tup Pv h0 hl hs hd⟩
theorem q_forTU {j : Nat} {R : V → Hp → Prop} (h : EvR tl σ H R) (k : ∀ v H1, Ex H H1 → R v H1 → ∃ a xs, v = .ref a ∧ SqT K H1 a xs ∧ ∃ Pv : Nat → L2.St → Hp → Prop, Pv 0 σ H1 ∧ (∀ i σ' H', i ≤ xs.length → Pv i σ' H' → SqT K H' a xs) ∧
    (∀ i x σ' H', xs[i]? = some x → Pv i σ' H' → tu { D with nx := Pv (i + 1), ct := Pv (i + 1), bk := tz D } (σ'.set j (some x)) H') ∧ (∀ σ' H', Pv xs.length σ' H' → tz D σ' H')) : tSeq (tFor (iTup K tl) (gName j) tu) tz D σ H :=
  s_forTU (D := { D with nx := tz D }) h k
/-! equality of data -/
mutual
theorem dp_up (e : Ex H H') : ∀ (d : PyData) (v : V), Dp K H v d → Dp K H' v d
  | .none, _, h => by cases h; exact .non
  | .bool b, _, h => by cases h; exact .bl b
  | .int i, _, h => by cases h; exact .int i
  | .str x, _, h => by cases h; exact .str x
  | .list ds, _, h => by
    cases h with
    | lst hs ha => exact .lst (ex_l e hs) (dpa_up e ds _ ha)
  | .tuple ds, _, h => by
    cases h with
    | tup hs ha => exact .tup (ex_t e hs) (dpa_up e ds _ ha)
  | .dict _, _, h => by cases h
theorem dpa_up (e : Ex H H') : ∀ (ds : List PyData) (vs : List V), DpAll K H vs ds → DpAll K H' vs ds
  | [], _, h => by cases h; exact .nil
  | d :: ds, _, h => by
    cases h with
    | cons h1 h2 => exact .cons (dp_up e d _ h1) (dpa_up e ds _ h2)
end
def dInts (ns : List Int) : PyData := .list (ns.map .int)
theorem dpa_ints : ∀ ns : List Int, DpAll K H (iv ns) (ns.map .int)
  | [] => .nil
  | n :: r => .cons (.int n) (dpa_ints r)
theorem dp_ints {a : Addr} {ns : List Int} (h : SqL K H a (iv ns)) : Dp K H (.ref a) (dInts ns) := .lst h (dpa_ints ns)
theorem sh_all : ∀ ds : List PyData, (∀ d ∈ ds, d.canLay0 = true) → PyData.canLayAll0 ds = true
  | [], _ => rfl
  | d :: ds, h => by
    show (d.canLay0 && PyData.canLayAll0 ds) = true
    rw [h d List.mem_cons_self, sh_all ds fun x hx => h x (List.mem_cons_of_mem _ hx)]
    rfl
theorem sh_dep {n : Nat} : ∀ ds : List PyData, (∀ d ∈ ds, PyData.depth d ≤ n) → PyData.depthAll ds ≤ n
  | [], _ => Nat.zero_le _
  | d :: ds, h => by
    show max (PyData.depth d) (PyData.depthAll ds) ≤ n
    have h1 := h d List.mem_cons_self
    have h2 := sh_dep ds fun x hx => h x (List.mem_cons_of_mem _ hx)
    omega
theorem sh_ints (ns : List Int) : SeqAt.shaped (dInts ns) = true := by
  unfold SeqAt.shaped dInts
  rw [Bool.and_eq_true, decide_eq_true_eq]
  refine ⟨sh_all _ fun d hd => ?_, ?_⟩
  · obtain ⟨i, _, rfl⟩ := List.mem_map.mp hd
    rfl
  · have := sh_dep (n := 1) (ns.map .int) fun d hd => by
      obtain ⟨i, _, rfl⟩ := List.mem_map.mp hd
      show PyData.depth (.int i) ≤ 1
      simp [PyData.depth]
    show PyData.depthAll (ns.map .int) + 1 ≤ 64
    omega
theorem can_of {d : PyData} (h : SeqAt.shaped d = true) : d.canLay0 = true := (Bool.and_eq_true_iff.mp h).1
theorem rv_neD {d e : PyData} {b : Bool} (hd : Dp K H x d) (he : Dp K H y e) (sd : SeqAt.shaped d = true) (se : SeqAt.shaped e = true) (hb : (!PyData.eqv d e) = b) : RV (rNeD K) x y H (.bl b) := fun H1 e1 Q q => ⟨d, e, dp_up e1 _ _ hd, dp_up e1 _ _ he, sd, se, by rw [hb]; exact q H1 (Ex.refl _)⟩
theorem rv_eqD {d e : PyData} {b : Bool} (hd : Dp K H x d) (he : Dp K H y e) (sd : SeqAt.shaped d = true) (se : SeqAt.shaped e = true) (hb : PyData.eqv d e = b) : RV (rEqD K) x y H (.bl b) := fun H1 e1 Q q => ⟨d, e, dp_up e1 _ _ hd, dp_up e1 _ _ he, sd, se, by rw [hb]; exact q H1 (Ex.refl _)⟩
theorem rv_neSame {d : PyData} (hd : Dp K H x d) (he : Dp K H y d) (sd : SeqAt.shaped d = true) : RV (rNeD K) x y H (.bl false) := rv_neD hd he sd sd (by rw [SeqAt.eqv_refl d (can_of sd)]; rfl)
theorem rv_eqSame {d : PyData} (hd : Dp K H x d) (he : Dp K H y d) (sd : SeqAt.shaped d = true) : RV (rEqD K) x y H (.bl true) := rv_eqD hd he sd sd (SeqAt.eqv_refl d (can_of sd))
end
section
variable {X : Cx} (K : PySem.W.Frag)
theorem pe_revLK {e : Expr} {te : TE} {k : Nat} {p1 p2 p3 pos : Pos} (he : PE X e te) (h : X.K = K := by rfl) : PE X (.Subscript e (.Slice none none (some (.UnaryOp .USub (.Constant (.int 1) k p1) p2)) p3) pos) (tRevL K te) := by subst h; exact pe_revL he
theorem sl_listK (h : X.K = K := by rfl) : SlR X (rSlL K) := by subst h; exact sl_list
theorem pi_zipK {e e2 : Expr} {ta : TA} {p pos tpos : Pos} {elts : List Expr} {kk : Nat} (hg : Gl X "zip") (hm : X.mg "zip" = none) (ha : PA X [e, e2] ta) (h : X.K = K := by rfl)
    (hs : starEach [e, e2] X.env = (false, eval e X.env) :: starEach [e2] X.env := by rfl) (hpl : (backTo pos (starEach [e2] X.env)).any (·.1) = false := by rfl) :
    PI X (.Tuple elts kk tpos) (.Call (.Name "zip" p) [e, e2] [] pos) (iZip K ta) := by subst h; exact pi_zip hg hm ha hs hpl
end
end Wl
namespace Wl
open PySem PySem.Spec PyProof.Rows L2 Evl
section
variable {K : PySem.W.Frag} {σ : L2.St} {H H' : Hp} {ta tb tc te tl : TE} {t : TT} {x y z v : V} {D : Ends} {tu tw tz : TS} {g : TG}
/-- a, b = x, y, told by facts -/
theorem q_parR {i j : Nat} {ta : TA} {R : List V → Hp → Prop} (h : EvAR ta σ H R) (hv : ∀ vs H1, R vs H1 → ∃ v w, vs = [v, w]) (k : ∀ v w H1, Ex H H1 → R [v, w] H1 → tz D ((σ.set i (some v)).set j (some w)) H1) : tSeq (tPar i j ta) tz D σ H :=
  h H (Ex.refl H) _ fun vs H1 e p => by
    obtain ⟨v, w, rfl⟩ := hv vs H1 p
    exact ⟨v, w, rfl, k v w H1 e p⟩
/-- a test of which nothing is known -/
def EvQ (t : TT) (σ : L2.St) (H : Hp) : Prop := ∀ H1, Ex H H1 → ∀ Q : Bool → Hp → Prop, (∀ b H2, Ex H1 H2 → Q b H2) → t σ H1 Q
theorem er_test {r : R2} {R : V → Hp → Prop} (ha : EvR ta σ H R) (hb : Ev tb σ H y) (hr : ∀ x H1, Ex H H1 → R x H1 → ∀ Q : VK, (∀ b, Q (.bl b) H1) → r x y H1 Q) (hR : ∀ x H1 H2, Ex H1 H2 → R x H1 → R x H2 := by intros; assumption) : EvQ (tTest (tOp r ta tb)) σ H := fun H1 e Q q =>
  ha H1 e _ fun x H2 e2 p => hb H2 (e.trans e2) _ fun H3 e3 => hr x H3 ((e.trans e2).trans e3) (hR x H2 H3 e3 p) _ fun b => ⟨b, rfl, q b H3 (e2.trans e3)⟩
theorem q_if_R (h : EvQ t σ H) (h1 : ∀ H1, Ex H H1 → tu { D with nx := tz D } σ H1) (h2 : ∀ H1, Ex H H1 → tw { D with nx := tz D } σ H1) : tSeq (tIfS t tu tw) tz D σ H := h H (Ex.refl H) _ fun b H1 e => by
  cases b with
  | true => exact h1 H1 e
  | false => exact h2 H1 e
end
end Wl
namespace Wl
open PySem PySem.Spec PyProof.Rows L2 Evl
section
variable {X : Cx} (K : PySem.W.Frag)
theorem inK (h : X.K = K := by rfl) : OpR X (compareOp .In) (rIn K false) := by subst h; exact op_in_seq
theorem notinK (h : X.K = K := by rfl) : OpR X (compareOp .NotIn) (rIn K true) := by subst h; exact op_notIn_seq
end
end Wl
namespace Wl
open PySem
theorem iv_append (a b : List Int) : iv (a ++ b) = iv a ++ iv b := List.map_append
theorem iv_map {α : Type} (f : α → Int) (l : List α) : iv (l.map f) = l.map (fun n => L2.V.int (f n)) := List.map_map
theorem iv_len (l : List Int) : (iv l).length = l.length := List.length_map ..
end Wl
namespace Wl
open PySem PySem.Spec PyProof.Rows L2 Evl
section
variable {K : PySem.W.Frag} {σ : L2.St} {H H' : Hp} {ta tb tc te tl : TE} {t : TT} {x y z v : V} {D : Ends} {tu tw tz : TS} {g : TG}
/-- a call whose one argument is told by facts -/
theorem er_call1 {α : Type} {Pre : α → List V → Hp → Prop} {Post : α → Hp → V → Hp → Prop} {E : XK} {R S : V → Hp → Prop} (h : EvR te σ H R) (hd : ∀ x H1, Ex H H1 → R x H1 → ∃ d, Pre d [x] H1 ∧ ∀ v H2, Ex H1 H2 → Post d H1 v H2 → S v H2) : EvR (tCall (spX Pre Post) [] E (tCons te tNil)) σ H S := fun H1 e Q q =>
  h H1 e _ fun x H2 e2 p => by
    obtain ⟨d, h1, h2⟩ := hd x H2 (e.trans e2) p
    exact ⟨d, h1, fun v H3 e3 p3 => q v H3 (e2.trans e3) (h2 v H3 e3 p3)⟩
theorem ev_call1 {α : Type} {Pre : α → List V → Hp → Prop} {Post : α → Hp → V → Hp → Prop} {E : XK} {R : V → Hp → Prop} (h : EvR te σ H R) (hd : ∀ x H1, Ex H H1 → R x H1 → ∃ d, Pre d [x] H1 ∧ ∀ v H2, Ex H1 H2 → Post d H1 v H2 → v = z) : Ev (tCall (spX Pre Post) [] E (tCons te tNil)) σ H z :=
  (er_call1 (S := fun v _ => v = z) h hd).ev fun _ _ _ p => p
/-- an object's list, grown: told at a word of one's own -/
theorem q_appF {l : Addr} {xs : List V} (hl : H l = some (.lst xs)) (ha : Ev ta σ H (.ref l)) (h : Ev te σ H v) (hz : xs.length < 100000) (k : ∀ H1, Ex H H1 → tz D σ (upd H1 l (.lst (xs ++ [v])))) :
    tSeq (tDrop (tBM K "list" rAppend ta (tCons te tNil))) tz D σ H := q_app hl ha h hz k
theorem iv_get {ns : List Int} {i : Nat} {x : V} (h : (iv ns)[i]? = some x) : i < ns.length ∧ x = .int (ns.getD i 0) := by
  rw [List.getElem?_map] at h
  cases e : ns[i]? with
  | none => rw [e] at h; cases h
  | some n =>
    rw [e] at h
    refine ⟨(List.getElem?_eq_some_iff.mp e).1, ?_⟩
    rw [List.getD_eq_getElem?_getD, e]
    exact (Option.some.inj h).symm
end
end Wl
namespace Wl
open PySem
theorem iv_reverse (l : List Int) : (iv l).reverse = iv l.reverse := List.map_reverse.symm
theorem iv_drop (n : Nat) (l : List Int) : (iv l).drop n = iv (l.drop n) := List.map_drop.symm
theorem iv_take (n : Nat) (l : List Int) : (iv l).take n = iv (l.take n) := List.map_take.symm
end Wl
namespace Wl
open PySem PySem.Spec PyProof.Rows L2 Evl
/-- one of two readings -/
def tAlt (t u : TE) : TE := fun σ H Q => t σ H Q ∨ u σ H Q
theorem pe_alt {X : Cx} {e : Expr} {t u : TE} (h1 : PE X e t) (h2 : PE X e u) : PE X e (tAlt t u) := ⟨fun pins s σ H Q I h => h.elim (h1.run pins s σ H Q I) (h2.run pins s σ H Q I)⟩
section
variable {K : PySem.W.Frag} {σ : L2.St} {H H' : Hp} {ta tb tc te tl : TE} {t : TT} {x y z v : V} {D : Ends} {tu tw tz : TS} {g : TG} {R : V → Hp → Prop}
theorem ev_altL (h : Ev ta σ H v) : Ev (tAlt ta tb) σ H v := fun H1 e Q q => .inl (h H1 e Q q)
theorem ev_altR (h : Ev tb σ H v) : Ev (tAlt ta tb) σ H v := fun H1 e Q q => .inr (h H1 e Q q)
theorem er_if {b : Bool} (h : EvT t σ H b) (h1 : b = true → EvR ta σ H R) (h2 : b = false → EvR tb σ H R) : EvR (tIf t ta tb) σ H R := fun H1 e Q q => h H1 e _ fun H2 e2 => by
  cases b with
  | true => exact h1 rfl H2 (e.trans e2) Q fun v H3 e3 p => q v H3 (e2.trans e3) p
  | false => exact h2 rfl H2 (e.trans e2) Q fun v H3 e3 p => q v H3 (e2.trans e3) p
/-- for x in a new list -/
theorem s_forLU {j : Nat} (h : EvR tl σ H R) (k : ∀ v H1, Ex H H1 → R v H1 → ∃ a xs, v = .ref a ∧ SqL K H1 a xs ∧ ∃ Pv : Nat → L2.St → Hp → Prop, Pv 0 σ H1 ∧ (∀ i σ' H', i ≤ xs.length → Pv i σ' H' → SqL K H' a xs) ∧
    (∀ i x σ' H', xs[i]? = some x → Pv i σ' H' → tu { D with nx := Pv (i + 1), ct := Pv (i + 1), bk := D.nx } (σ'.set j (some x)) H') ∧ (∀ σ' H', Pv xs.length σ' H' → D.nx σ' H')) : tFor (iList K tl) (gName j) tu D σ H :=
  h H (Ex.refl H) _ fun v H1 e p => by
    obtain ⟨a, xs, hv, hx, Pv, h0, hl, hs, hd⟩ := k v H1 e p
    exact ⟨a, hv, ⟨xs, hx⟩, for_list Pv h0 hl hs hd⟩
theorem q_forLU {j : Nat} (h : EvR tl σ H R) (k : ∀ v H1, Ex H H1 → R v H1 → ∃ a xs, v = .ref a ∧ SqL K H1 a xs ∧ ∃ Pv : Nat → L2.St → Hp → Prop, Pv 0 σ H1 ∧ (∀ i σ' H', i ≤ xs.length → Pv i σ' H' → SqL K H' a xs) ∧
    (∀ i x σ' H', xs[i]? = some x → Pv i σ' H' → tu { D with nx := Pv (i + 1), ct := Pv (i + 1), bk := tz D } (σ'.set j (some x)) H') ∧ (∀ σ' H', Pv xs.length σ' H' → tz D σ' H')) : tSeq (tFor (iList K tl) (gName j) tu) tz D σ H :=
  s_forLU (D := { D with nx := tz D }) h k
end
/-! xs[lo:hi:st] of a list, all three parts told -/
def pickV {α : Type} (xs : List α) (lo hi st : Option Int) : List α := (sliceRange (sliceBounds lo hi st xs.length).1 (sliceBounds lo hi st xs.length).2.1 (sliceBounds lo hi st xs.length).2.2).filterMap (xs[·]?)
theorem pickV_map {α β : Type} (f : α → β) (xs : List α) (lo hi st : Option Int) : pickV (xs.map f) lo hi st = (pickV xs lo hi st).map f := by
  unfold pickV
  rw [List.length_map, List.map_filterMap]
  exact congrArg (fun g => List.filterMap g _) (funext fun i => List.getElem?_map)
theorem vals_fm {xs : List V} {its : List Value} (r : Vals xs its) : ∀ l : List Nat, Vals (l.filterMap (xs[·]?)) (l.filterMap (its[·]?))
  | [] => .nil
  | i :: l => by
    have ih := vals_fm r l
    cases e : xs[i]? with
    | none =>
      rw [List.filterMap_cons_none (by exact e), List.filterMap_cons_none (by exact r.none_of e)]
      exact ih
    | some x =>
      obtain ⟨u, h1, h2⟩ := r.get e
      rw [List.filterMap_cons_some (by exact e), List.filterMap_cons_some (by exact h1)]
      exact .cons h2 ih
theorem vals_pick {xs : List V} {its : List Value} (r : Vals xs its) (lo hi st : Option Int) : Vals (pickV xs lo hi st) (slicePick its.toArray lo hi st).toList := by
  have z := vals_fm r (sliceRange (sliceBounds lo hi st xs.length).1 (sliceBounds lo hi st xs.length).2.1 (sliceBounds lo hi st xs.length).2.2)
  rw [r.length] at z
  simpa only [pickV, slicePick, r.length, List.size_toArray, List.getElem?_toArray] using z
/-- the reading: the list, then the parts in their order -/
def tSl3 (K : PySem.W.Frag) (te : TE) (t1 t2 t3 : TO) : TE := fun σ H Q => te σ H fun x H1 => t1 σ H1 fun lo H2 => t2 σ H2 fun hi H3 => t3 σ H3 fun st H4 =>
  ∃ a xs, x = .ref a ∧ SqL K H4 a xs ∧ st ≠ some 0 ∧ ∀ p, H4 p = none → Q (.ref p) (upd H4 p (.lst (pickV xs lo hi st)))
theorem pe_sl3 {X : Cx} (K : PySem.W.Frag) {e : Expr} {e1 e2 e3 : Option Expr} {te : TE} {t1 t2 t3 : TO} {p3 pos : Pos} (he : PE X e te) (h1 : PO X e1 t1) (h2 : PO X e2 t2) (h3 : PO X e3 t3) (hK : X.K = K := by rfl)
    (plain : ∀ u v, subscripted (.Slice e1 e2 e3 p3) false u v = operate [u, v] (getItem u v) := by intro u v; with_unfolding_all rfl) : PE X (.Subscript e (.Slice e1 e2 e3 p3) pos) (tSl3 K te t1 t2 t3) := by
  subst hK
  constructor
  intro pins s σ H Q I h
  refine Subscript_ (thn (he.run pins s σ H _ I h) ?_)
  rintro v s1 ⟨x, H1, I1, rx, h⟩
  refine wpAny_Slice (thn (h1.run pins s1 σ H1 _ I1 h) ?_)
  rintro vl s2 ⟨lo, H2, I2, pl, h⟩
  refine thn (h2.run pins s2 σ H2 _ I2 h) ?_
  rintro vu s3 ⟨hi, H3, I3, pu, h⟩
  refine thn (h3.run pins s3 σ H3 _ I3 h) ?_
  rintro vs s4 ⟨st, H4, I4, ps, a, xs, rfl, list, nz, q⟩
  cases rx
  have J : Inv X pins σ H4 { s4 with heap := s4.heap.push { cls := .type "slice", data := .fields #[vl, vu, vs] } } := I4.kept (t' := s4.toks) fun b o z => Heap.get?_push_of_some _ z
  rcases J.list list with ⟨its, vals, cells, small⟩
  have picked := vals_pick vals lo hi st
  have fits : (pickV xs lo hi st).length ≤ xs.length := by
    rw [picked.length, Array.length_toList, vals.length]
    exact slicePick_size_le its.toArray lo hi st
  refine tail_any cells.isList.typeIs PySem.slot_list_getitem.lookup (wpAny_getItem_list_slice cells.isList (Heap.IsSliceOf.new _ vl vu vs) pl pu ps nz ?_ (by rw [List.size_toArray, ← vals.length]; exact small)) (plain _ _)
  exact ⟨.ref _, _, J.laid (t' := s4.toks) (o := .lst (pickV xs lo hi st)) (fun b o z => Heap.get?_push_of_some _ z) (Nat.le_refl _) ⟨Nat.le_trans fits small, _, 0, picked, Heap.get?_push_size _ rfl⟩, rfl, q _ (J.hok.fresh (Nat.le_refl _))⟩
def stepP {α : Type} (xs : List α) : List α := pickV xs none none (some 2)
theorem stepP_iv (ns : List Int) : stepP (iv ns) = iv (stepP ns) := pickV_map V.int ns _ _ _
def tStepL (K : PySem.W.Frag) (te : TE) : TE := tSl3 K te tNoPart tNoPart (tPart (tC (.int 2)))
theorem pe_stepLK {X : Cx} (K : PySem.W.Frag) {e : Expr} {te : TE} {k : Nat} {p1 p3 pos : Pos} (he : PE X e te) (hK : X.K = K := by rfl) : PE X (.Subscript e (.Slice none none (some (.Constant (.int 2) k p1)) p3) pos) (tStepL K te) := pe_sl3 K he po_none po_none (po_some pe_int) hK
theorem er_step {K : PySem.W.Frag} {σ : L2.St} {H : Hp} {ta : TE} {xs : List V} {a : Addr} (h : Ev ta σ H (.ref a)) (hx : SqL K H a xs) : EvR (tStepL K ta) σ H (NewL (stepP xs) H) := fun H1 e Q q =>
  h H1 e _ fun H2 e2 => ⟨2, rfl, a, xs, rfl, ex_l (e.trans e2) hx, by decide, fun l hn => q _ _ (e2.trans (Ex.new hn)) ⟨l, rfl, fresh_back (e.trans e2) hn, upd_same⟩⟩
end Wl
namespace Wl
open PySem L2
theorem cut_last (xs : List V) : cutV xs none (some (-1)) = xs.dropLast := by
  unfold cutV
  rw [HT.sIx_none, List.drop_zero]
  rw [show HT.sIx xs.length xs.length (some (-1)) = ((-1 : Int) + (xs.length : Int)).toNat from rfl, List.dropLast_eq_take]
  congr 1
  omega
theorem iv_dropLast (l : List Int) : (iv l).dropLast = iv l.dropLast := by
  rw [List.dropLast_eq_take, List.dropLast_eq_take, iv_len, iv_take]
end Wl
namespace Wl
open PySem PySem.Spec PyProof.Rows L2 Evl
/-- [F n for n in a new list] -/
theorem er_lcNI {K : PySem.W.Frag} {σ : L2.St} {H : Hp} {tl te : TE} {ns : List Int} {vs : List Nat} {j : Nat} {S : V → Hp → Prop} (F : Int → V) (h : EvR tl σ H S) (hS : ∀ v H1, Ex H H1 → S v H1 → ∃ a, v = .ref a ∧ SqL K H1 a (iv ns)) (hz : ns.length ≤ 40000) (hw : ∀ x, wipe ((wipe σ vs).set j (some x)) vs = wipe σ vs)
    (hg : ∀ H1, Ex H H1 → ∀ n, n ∈ ns → Ev te ((wipe σ vs).set j (some (.int n))) H1 (F n)) : EvR (tLc (iList K tl) (gName j) tYes te vs) σ H (NewL (ns.map F) H) :=
  (er_lcNL S (fun i y _ => y = F (ns.getD i 0)) stb_val h hS (by rw [iv_len]; exact hz) fun v H1 e hv i x hi => by
    obtain ⟨hi', rfl⟩ := iv_get hi
    exact ⟨_, hw _, evr (hg H1 e _ (getD_mem hi')), fun _ _ _ q => q⟩).imp fun v H2 _ p => by
    have q := LcR.new p
    rw [iv_len, range_items F 0 ns] at q
    exact q
end Wl
namespace Wl
open PySem PySem.Spec PyProof.Rows L2 Evl
section
variable {K : PySem.W.Frag} {σ : L2.St} {H H' : Hp} {ta te ti : TE} {D : Ends} {tz : TS} {R : V → Hp → Prop}
/-- xs.append of what is told by facts -/
theorem q_appR {l : Addr} {xs : List V} (hl : H l = some (.lst xs)) (ha : Ev ta σ H (.ref l)) (h : EvR te σ H R) (hz : xs.length < 100000) (k : ∀ v H1, Ex H H1 → R v H1 → tz D σ (upd H1 l (.lst (xs ++ [v])))) :
    tSeq (tDrop (tBM K "list" rAppend ta (tCons te tNil))) tz D σ H := ha H (Ex.refl H) _ fun H1 e1 =>
  ⟨Or.inl ⟨rfl, xs, sq_of (e1 l _ hl)⟩, h H1 e1 _ fun v H2 e2 p => ⟨l, xs, v, rfl, rfl, e2 l _ (e1 l _ hl), sz_lt hz, k v H2 (e1.trans e2) p⟩⟩
theorem ev_pickR {l : List Int} {ta : TA} {vs : List V} (h : EvA ta σ H vs) (hi : EvR ti σ H (fun v _ => ∃ i : Int, v = .int i ∧ 0 ≤ i ∧ i < l.length)) (hv : vs = l.map V.int) (hl : l.length ≤ 100000) : EvR (tOp (rIxT K) (tTup ta) ti) σ H (fun v _ => ∃ i : Int, 0 ≤ i ∧ i < l.length ∧ v = .int (l.getD i.toNat 0)) :=
  er_op (eur (eu_tup h (by rw [hv, List.length_map]; exact hl))) (fun x H1 e _ => hi.mono e) (fun x y H1 H2 e ⟨p, hx, _, hp⟩ e2 ⟨i, hy, h0, h1⟩ Q q => by
    subst hx hy
    rw [hv] at hp
    exact rv_ixT (st_of (e2 _ _ hp)) (atI_map h0 h1) H2 (Ex.refl _) Q fun H3 e3 => q _ H3 e3 ⟨i, h0, h1, rfl⟩)
end
end Wl
namespace Wl
open PySem PySem.Spec PyProof.Rows L2 Evl
/-! ### a < b < c < d: chains of any length, operand by operand -/
/-- what stands behind an operand whose value is x -/
def PCh (X : Cx) (ops : List CmpOp) (es : List Expr) (t : V → TE) : Prop :=
  ∀ pins s σ H x v Q pos, Inv X pins σ H s → RelV x v → t x σ H Q → wpAny (model X.prog X.w) X.A (compareChain pos v ops (evalEach es X.env)) (EP X pins σ Q) X.xe s
/-- .. where a test is asked for -/
def PTh (X : Cx) (ops : List CmpOp) (es : List Expr) (t : V → TE) : Prop :=
  ∀ pins s σ H x v Q pos, Inv X pins σ H s → RelV x v → tTest (t x) σ H Q → wpAny (model X.prog X.w) X.A (testChain pos v ops (evalEach es X.env)) (TP X pins σ Q) X.xe s
def tLast (r : R2) (tb : TE) (x : V) : TE := fun σ H Q => tb σ H fun y H1 => r x y H1 Q
def tMore (r : R2) (tb : TE) (t : V → TE) (x : V) : TE := fun σ H Q => tb σ H fun y H1 => r x y H1 fun z H2 => ∃ k, z = .bl k ∧ (if k = true then t y σ H2 Q else Q (.bl false) H2)
def tChain3 (r r' r2 : R2) (ta tb tc td : TE) : TE := fun σ H Q => ta σ H fun x H1 => tMore r tb (tMore r' tc (tLast r2 td)) x σ H1 Q
section
variable {X : Cx} {a b c d e' : Expr} {es : List Expr} {ta tb tc td : TE} {t : V → TE} {pos : Pos} {op op' op2 : CmpOp} {ops : List CmpOp} {r r' r2 : R2}
theorem pch_last (ho : OpR X (compareOp op) r) (hb : PE X b tb) : PCh X [op] [b] (tLast r tb) := fun pins s σ H x v Q _ I rx q => by
  refine chain_last (thn (hb.run pins s σ H _ I q) ?_)
  rintro u s1 ⟨y, H1, J, ry, q⟩
  exact ho pins s1 σ H1 x y v u Q J rx ry q
theorem pth_last (ho : OpR X (compareOp op) r) (hb : PE X b tb) : PTh X [op] [b] (tLast r tb) := fun pins s σ H x v Q _ I rx q => by
  refine test_last (thn (hb.run pins s σ H _ I q) ?_)
  rintro u s1 ⟨y, H1, J, ry, q⟩
  refine thn (ho pins s1 σ H1 x y v u _ J rx ry q) ?_
  rintro _ s2 ⟨z, H2, J2, rz, k, rfl, q⟩
  cases rz
  exact wpAny_truthy_bool ⟨H2, J2, q⟩
theorem pch_more (ho : OpR X (compareOp op) r) (hb : PE X b tb) (rest : PCh X (op' :: ops) (e' :: es) t) : PCh X (op :: op' :: ops) (b :: e' :: es) (tMore r tb t) := fun pins s σ H x v Q pos I rx q => by
  refine chain_link (thn (hb.run pins s σ H _ I q) ?_)
  rintro u s1 ⟨y, H1, J, ry, q⟩
  refine thn (ho pins s1 σ H1 x y v u _ J rx ry q) ?_
  rintro _ s2 ⟨z, H2, J2, rz, k, rfl, q⟩
  cases rz
  cases k with
  | false => exact wpAny_truthy_bool (ite_ff ⟨.bl false, H2, J2, rfl, q⟩)
  | true => exact wpAny_truthy_bool (ite_tt (rest pins s2 σ H2 y u Q pos J2 ry q))
theorem pth_more (ho : OpR X (compareOp op) r) (hb : PE X b tb) (rest : PTh X (op' :: ops) (e' :: es) t) : PTh X (op :: op' :: ops) (b :: e' :: es) (tMore r tb t) := fun pins s σ H x v Q pos I rx q => by
  refine test_link (thn (hb.run pins s σ H _ I q) ?_)
  rintro u s1 ⟨y, H1, J, ry, q⟩
  refine thn (ho pins s1 σ H1 x y v u _ J rx ry q) ?_
  rintro _ s2 ⟨z, H2, J2, rz, k, rfl, q⟩
  cases rz
  cases k with
  | false =>
    obtain ⟨_, same, q⟩ : ∃ k, V.bl false = .bl k ∧ Q k H2 := q
    cases same
    exact wpAny_truthy_bool (ite_ff ⟨H2, J2, q⟩)
  | true => exact wpAny_truthy_bool (ite_tt (rest pins s2 σ H2 y u Q pos J2 ry q))
theorem pe_chain3 (ho : OpR X (compareOp op) r) (ho' : OpR X (compareOp op') r') (ho2 : OpR X (compareOp op2) r2) (ha : PE X a ta) (hb : PE X b tb) (hc : PE X c tc) (hd : PE X d td)
    (hm : lastMarks [op, op', op2] [b, c, d] = false := by with_unfolding_all rfl) : PE X (.Compare a [op, op', op2] [b, c, d] pos) (tChain3 r r' r2 ta tb tc td) :=
  ⟨fun pins s σ H Q I h => Compare_chain (thn (ha.run pins s σ H _ I h) fun v s1 ⟨x, H1, J, rx, q⟩ => pch_more ho hb (pch_more ho' hc (pch_last ho2 hd)) pins s1 σ H1 x v Q _ J rx q) hm⟩
theorem pt_chain3 (ho : OpR X (compareOp op) r) (ho' : OpR X (compareOp op') r') (ho2 : OpR X (compareOp op2) r2) (ha : PE X a ta) (hb : PE X b tb) (hc : PE X c tc) (hd : PE X d td)
    (hm : lastMarks [op, op', op2] [b, c, d] = false := by with_unfolding_all rfl) : PT X (.Compare a [op, op', op2] [b, c, d] pos) (tTest (tChain3 r r' r2 ta tb tc td)) :=
  ⟨fun pins s σ H Q I h => isTrue_chain (thn (ha.run pins s σ H _ I h) fun v s1 ⟨x, H1, J, rx, q⟩ => pth_more ho hb (pth_more ho' hc (pth_last ho2 hd)) pins s1 σ H1 x v Q _ J rx q) hm⟩
end
theorem ev_chain3 {σ : L2.St} {H : Hp} {r r' r2 : R2} {ta tb tc td : TE} {x y z u : V} {a b c : Bool} (ha : Ev ta σ H x) (hb : Ev tb σ H y) (h1 : RV r x y H (.bl a)) (hc : a = true → Ev tc σ H z) (h2 : a = true → RV r' y z H (.bl b)) (hd : a = true → b = true → Ev td σ H u) (h3 : a = true → b = true → RV r2 z u H (.bl c)) :
    Ev (tChain3 r r' r2 ta tb tc td) σ H (.bl (a && (b && c))) := fun H1 e Q q =>
  ha H1 e _ fun H2 e2 => hb H2 (e.trans e2) _ fun H3 e3 => h1 H3 ((e.trans e2).trans e3) _ fun H4 e4 => ⟨a, rfl, by
    cases a with
    | false => exact q H4 ((e2.trans e3).trans e4)
    | true => exact hc rfl H4 (((e.trans e2).trans e3).trans e4) _ fun H5 e5 => h2 rfl H5 ((((e.trans e2).trans e3).trans e4).trans e5) _ fun H6 e6 => ⟨b, rfl, by
        have e26 := (((e2.trans e3).trans e4).trans e5).trans e6
        cases b with
        | false => exact q H6 e26
        | true => exact hd rfl rfl H6 (e.trans e26) _ fun H7 e7 => h3 rfl rfl H7 (e.trans (e26.trans e7)) Q fun H8 e8 => q H8 (e26.trans (e7.trans e8))⟩⟩
end Wl
namespace Wl
open PySem PySem.Spec PyProof.Rows L2 Evl
/-! ### lists of pairs -/
def PairAt (H : Hp) (x : V) (p : Int × Int) : Prop := ∃ t, x = .ref t ∧ H t = some (.tup [.int p.1, .int p.2])
/-- the items are pairs: rs -/
def RsL (H : Hp) : List V → List (Int × Int) → Prop
  | [], [] => True
  | x :: xs, p :: rs => PairAt H x p ∧ RsL H xs rs
  | _, _ => False
theorem PairAt.up {H H' : Hp} {x : V} {p : Int × Int} (e : Ex H H') (h : PairAt H x p) : PairAt H' x p := by
  obtain ⟨t, r, h⟩ := h
  exact ⟨t, r, e _ _ h⟩
theorem RsL.up {H H' : Hp} (e : Ex H H') : ∀ {xs : List V} {rs : List (Int × Int)}, RsL H xs rs → RsL H' xs rs
  | [], [], h => h
  | _ :: _, _ :: _, h => ⟨h.1.up e, RsL.up e h.2⟩
  | [], _ :: _, h => h
  | _ :: _, [], h => h
/-- a list's change leaves the pairs -/
theorem RsL.mut {H : Hp} {l : Addr} {ys : List V} (zs : List V) (hl : H l = some (.lst ys)) : ∀ {xs : List V} {rs : List (Int × Int)}, RsL H xs rs → RsL (upd H l (.lst zs)) xs rs
  | [], [], h => h
  | _ :: _, _ :: _, ⟨⟨t, e, h⟩, h2⟩ => ⟨⟨t, e, by rw [upd_ne (ne_of h hl (by intro z; cases z))]; exact h⟩, RsL.mut zs hl h2⟩
  | [], _ :: _, h => h
  | _ :: _, [], h => h
theorem RsL.len {H : Hp} : ∀ {xs : List V} {rs : List (Int × Int)}, RsL H xs rs → xs.length = rs.length
  | [], [], _ => rfl
  | _ :: _, _ :: _, h => congrArg (· + 1) (RsL.len h.2)
  | [], _ :: _, h => h.elim
  | _ :: _, [], h => h.elim
theorem RsL.get {H : Hp} : ∀ {xs : List V} {rs : List (Int × Int)} {i : Nat} {x : V}, RsL H xs rs → xs[i]? = some x → i < rs.length ∧ PairAt H x (rs.getD i (0, 1))
  | [], [], _, _, _, e => by simp at e
  | _ :: _, _ :: _, 0, _, h, e => by
    cases e
    exact ⟨Nat.zero_lt_succ _, h.1⟩
  | _ :: xs, p :: rs, i + 1, x, h, e => by
    have := RsL.get (xs := xs) (rs := rs) (i := i) (x := x) h.2 e
    exact ⟨Nat.succ_lt_succ this.1, by simpa using this.2⟩
  | [], _ :: _, _, _, h, _ => h.elim
  | _ :: _, [], _, _, h, _ => h.elim
theorem RsL.at {H : Hp} {xs : List V} {rs : List (Int × Int)} {i : Nat} (h : RsL H xs rs) (hi : i < rs.length) : ∃ t, xs[i]? = some (.ref t) ∧ H t = some (.tup [.int (rs.getD i (0, 1)).1, .int (rs.getD i (0, 1)).2]) := by
  have hx : i < xs.length := by rw [h.len]; exact hi
  have e := List.getElem?_eq_getElem hx
  obtain ⟨t, et, ht⟩ := (h.get e).2
  exact ⟨t, by rw [e, et], ht⟩
theorem RsL.append {H : Hp} : ∀ {xs ys : List V} {rs ss : List (Int × Int)}, RsL H xs rs → RsL H ys ss → RsL H (xs ++ ys) (rs ++ ss)
  | [], _, [], _, _, h => h
  | _ :: _, _, _ :: _, _, h, k => ⟨h.1, RsL.append h.2 k⟩
  | [], _, _ :: _, _, h, _ => h.elim
  | _ :: _, _, [], _, h, _ => h.elim
theorem RsL.rev {H : Hp} : ∀ {xs : List V} {rs : List (Int × Int)}, RsL H xs rs → RsL H xs.reverse rs.reverse
  | [], [], h => h
  | x :: xs, p :: rs, h => by
    rw [List.reverse_cons, List.reverse_cons]
    exact RsL.append (RsL.rev h.2) ⟨h.1, trivial⟩
  | [], _ :: _, h => h.elim
  | _ :: _, [], h => h.elim
theorem RsL.drop1 {H : Hp} : ∀ {xs : List V} {rs : List (Int × Int)}, RsL H xs rs → RsL H (xs.drop 1) (rs.drop 1)
  | [], [], h => h
  | _ :: _, _ :: _, h => h.2
  | [], _ :: _, h => h.elim
  | _ :: _, [], h => h.elim
theorem RsL.set {H : Hp} {y : V} {q : Int × Int} (hy : PairAt H y q) : ∀ {xs : List V} {rs : List (Int × Int)} (i : Nat), RsL H xs rs → RsL H (xs.set i y) (rs.set i q)
  | [], [], _, h => h
  | _ :: _, _ :: _, 0, h => ⟨hy, h.2⟩
  | _ :: _, _ :: _, i + 1, h => ⟨h.1, RsL.set hy i h.2⟩
  | [], _ :: _, _, h => h.elim
  | _ :: _, [], _, h => h.elim
theorem rsl_of {H : Hp} : ∀ {xs : List V} {rs : List (Int × Int)}, xs.length = rs.length → (∀ i x, xs[i]? = some x → PairAt H x (rs.getD i (0, 1))) → RsL H xs rs
  | [], [], _, _ => trivial
  | x :: xs, p :: rs, hl, h => ⟨h 0 x rfl, rsl_of (by simpa using hl) fun i y hy => by simpa using h (i + 1) y hy⟩
  | [], _ :: _, hl, _ => by simp at hl
  | _ :: _, [], hl, _ => by simp at hl
/-- a list of pairs at an address -/
def RsAt (H : Hp) (v : V) (rs : List (Int × Int)) : Prop := ∃ a xs, v = .ref a ∧ H a = some (.lst xs) ∧ RsL H xs rs
theorem RsAt.up {H H' : Hp} {v : V} {rs : List (Int × Int)} (e : Ex H H') (h : RsAt H v rs) : RsAt H' v rs := by
  obtain ⟨a, xs, r, h1, h2⟩ := h
  exact ⟨a, xs, r, e _ _ h1, h2.up e⟩
/-! equality -/
def dRs (rs : List (Int × Int)) : PyData := .list (rs.map fun p => .tuple [.int p.1, .int p.2])
theorem dpa_rs {K : PySem.W.Frag} {H : Hp} : ∀ {xs : List V} {rs : List (Int × Int)}, RsL H xs rs → DpAll K H xs (rs.map fun p => .tuple [.int p.1, .int p.2])
  | [], [], _ => .nil
  | _ :: _, _ :: _, ⟨⟨t, e, ht⟩, h2⟩ => by
    subst e
    exact .cons (.tup (st_of ht) (.cons (.int _) (.cons (.int _) .nil))) (dpa_rs h2)
  | [], _ :: _, h => h.elim
  | _ :: _, [], h => h.elim
theorem dp_rs {K : PySem.W.Frag} {H : Hp} {a : Addr} {xs : List V} {rs : List (Int × Int)} (h : H a = some (.lst xs)) (hr : RsL H xs rs) : Dp K H (.ref a) (dRs rs) := .lst (sq_of h) (dpa_rs hr)
theorem sh_rs (rs : List (Int × Int)) : SeqAt.shaped (dRs rs) = true := by
  unfold SeqAt.shaped dRs
  rw [Bool.and_eq_true, decide_eq_true_eq]
  refine ⟨sh_all _ fun d hd => ?_, ?_⟩
  · obtain ⟨i, _, rfl⟩ := List.mem_map.mp hd
    rfl
  · have := sh_dep (n := 2) (rs.map fun p => PyData.tuple [.int p.1, .int p.2]) fun d hd => by
      obtain ⟨i, _, rfl⟩ := List.mem_map.mp hd
      show PyData.depth (.tuple [.int i.1, .int i.2]) ≤ 2
      simp [PyData.depth, PyData.depthAll]
    show PyData.depthAll _ + 1 ≤ 64
    omega
theorem kit_tt {K : PySem.W.Frag} : PySem.W.kitOne K (.type "tuple") (.type "tuple") = some true := kit_ty (by decide +kernel)
section
variable {K : PySem.W.Frag} {σ : L2.St} {H H' : Hp} {ta tb tc te tl : TE} {D : Ends} {tu tz : TS}
/-- [.. for x, y in pairs] -/
theorem er_lcRs {a : Addr} {xs : List V} {rs : List (Int × Int)} {vs : List Nat} {j l : Nat} (R : Nat → V → Hp → Prop) (hst : Stb R) (h : Ev tl σ H (.ref a)) (hx : H a = some (.lst xs)) (hr : RsL H xs rs) (hz : rs.length ≤ 40000) (hw : ∀ x y, wipe (((wipe σ vs).set j (some x)).set l (some y)) vs = wipe σ vs)
    (hg : ∀ i, i < rs.length → EvR te (((wipe σ vs).set j (some (.int (rs.getD i (0, 1)).1))).set l (some (.int (rs.getD i (0, 1)).2))) H (R i)) :
    EvR (tLc (iList K tl) (gTup K 2 (gCons (gName j) (gCons (gName l) gNil))) tYes te vs) σ H (LcR rs.length R H) := by
  rw [← hr.len]
  exact er_lcLp R hst h (sq_of hx) (by rw [hr.len]; exact hz) hw fun i x hi => by
    obtain ⟨h1, t, e, ht⟩ := hr.get hi
    exact ⟨t, _, _, e, st_of ht, hg i h1⟩
theorem er_lcRsV {a : Addr} {xs : List V} {rs : List (Int × Int)} {vs : List Nat} {j l : Nat} (F : Int × Int → V) (h : Ev tl σ H (.ref a)) (hx : H a = some (.lst xs)) (hr : RsL H xs rs) (hz : rs.length ≤ 40000) (hw : ∀ x y, wipe (((wipe σ vs).set j (some x)).set l (some y)) vs = wipe σ vs)
    (hg : ∀ p, p ∈ rs → Ev te (((wipe σ vs).set j (some (.int p.1))).set l (some (.int p.2))) H (F p)) :
    EvR (tLc (iList K tl) (gTup K 2 (gCons (gName j) (gCons (gName l) gNil))) tYes te vs) σ H (NewL (rs.map F) H) :=
  (er_lcRs (fun i y _ => y = F (rs.getD i (0, 1))) stb_val h hx hr hz hw fun i hi => evr (hg _ (by
    rw [List.getD_eq_getElem?_getD, List.getElem?_eq_getElem hi]
    exact List.getElem_mem hi))).imp fun v H2 _ p => by
    have q := LcR.new p
    rw [range_items F (0, 1) rs] at q
    exact q
/-- for x, y in pairs -/
theorem q_forRs {a : Addr} {xs : List V} {rs : List (Int × Int)} {j l : Nat} (h : Ev tl σ H (.ref a)) (hx : H a = some (.lst xs)) (hr : RsL H xs rs) (Pv : Nat → L2.St → Hp → Prop) (h0 : ∀ H1, Ex H H1 → Pv 0 σ H1) (hl : ∀ i σ' H', Pv i σ' H' → Ex H H')
    (hs : ∀ i σ' H', i < rs.length → Pv i σ' H' → tu { D with nx := Pv (i + 1), ct := Pv (i + 1), bk := tz D } ((σ'.set j (some (.int (rs.getD i (0, 1)).1))).set l (some (.int (rs.getD i (0, 1)).2))) H') (hd : ∀ σ' H', Pv rs.length σ' H' → tz D σ' H') :
    tSeq (tFor (iList K tl) (gTup K 2 (gCons (gName j) (gCons (gName l) gNil))) tu) tz D σ H :=
  q_forL h (sq_of hx) Pv h0 (fun i σ' H' _ p => sq_of (hl i σ' H' p _ _ hx)) (fun i x σ' H' hi p => by
    obtain ⟨h1, t, e, ht⟩ := hr.get hi
    subst e
    exact g_tup2 (st_of (hl i σ' H' p _ _ ht)) (hs i σ' H' h1 p)) (by rw [hr.len]; exact hd)
/-- rs[i] as a pair, rs[i][k] -/
theorem ev_rs {a : Addr} {xs : List V} {rs : List (Int × Int)} {i : Nat} (h : Ev ta σ H (.ref a)) (hi : Ev tb σ H (.int (i : Int))) (hx : H a = some (.lst xs)) (hr : RsL H xs rs) (hl : i < rs.length) : ∃ t, Ev (tOp (rIxL K) ta tb) σ H (.ref t) ∧ H t = some (.tup [.int (rs.getD i (0, 1)).1, .int (rs.getD i (0, 1)).2]) := by
  obtain ⟨t, e, ht⟩ := hr.at hl
  exact ⟨t, ev_op h hi (rv_ixL (sq_of hx) (atI_nat e)), ht⟩
theorem ev_p0 {t : Addr} {x y : V} (h : Ev ta σ H (.ref t)) (ht : H t = some (.tup [x, y])) : Ev (tOp (rIxT K) ta (tC (.int 0))) σ H x := ev_op h ev_c (rv_ixT (st_of ht) rfl)
theorem ev_p1 {t : Addr} {x y : V} (h : Ev ta σ H (.ref t)) (ht : H t = some (.tup [x, y])) : Ev (tOp (rIxT K) ta (tC (.int 1))) σ H y := ev_op h ev_c (rv_ixT (st_of ht) rfl)
/-- [.. for k, x in enumerate(xs)] -/
theorem er_lcE {ta : TA} {a : Addr} {xs : List V} {vs : List Nat} {j l : Nat} (F : Nat → V) (h : EvA ta σ H [.ref a]) (hx : SqL K H a xs) (hz : xs.length ≤ 40000) (hw : ∀ x y, wipe (((wipe σ vs).set j (some x)).set l (some y)) vs = wipe σ vs)
    (hg : ∀ (i : Nat) x, xs[i]? = some x → Ev te (((wipe σ vs).set j (some (.int (i : Int)))).set l (some x)) H (F i)) :
    EvR (tLc (iEnum K ta) (gTup K 2 (gCons (gName j) (gCons (gName l) gNil))) tYes te vs) σ H (NewL ((List.range xs.length).map F) H) := fun H0 e Q q => h H0 e _ fun H1 e1 => ⟨a, xs, rfl, ex_l (e.trans e1) hx, fun Dl hD => by
  refine ⟨fun i m H' => m = xs.length - i ∧ i ≤ xs.length ∧ Lw H1 (fun i y _ => y = F i) Dl i H', ⟨_, rfl, Nat.zero_le _, hD, Ex.new hD, [], upd_same, rfl, fun j y hy => by simp at hy⟩, ?_⟩
  rintro i m H' ⟨rfl, hi, p⟩
  have qx := ex_l ((e.trans e1).trans p.2.1) hx
  by_cases hlt : i < xs.length
  · have ex : xs[i]? = some xs[i] := List.getElem?_eq_getElem hlt
    refine .inr ⟨⟨xs, _, qx, ex⟩, Lw H1 (fun i y _ => y = F i) Dl (i + 1), fun H2 p2 => ⟨xs.length - (i + 1), by omega, rfl, hlt, p2⟩, fun v H2 hyld => ?_⟩
    obtain ⟨T, x', rfl, hT, rfl, f1⟩ := hyld
    have e1' : x' = xs[i] := Option.some.inj ((f1 _ qx).symm.trans ex)
    subst e1'
    refine g_tup2 (st_of upd_same) ⟨hw _ _, ?_⟩
    have p' : Lw H1 (fun i y _ => y = F i) Dl i (upd H' T (.tup [.int (i : Nat), xs[i]])) := by
      obtain ⟨p1, p2, zs, p3, p4, p5⟩ := p
      exact ⟨p1, p2.trans (Ex.new hT), zs, by rw [upd_ne (ne_of_none p3 hT)]; exact p3, p4, p5⟩
    exact lw_turn p' (by omega) stb_val ((evr (hg i _ ex)).mono (e.trans e1))
  · have ei : i = xs.length := by omega
    subst ei
    obtain ⟨p1, p2, zs, p3, p4, p5⟩ := p
    rw [lc_is p4 p5] at p3
    exact .inl ⟨⟨xs, qx, Nat.le_refl _⟩, q _ H' (e1.trans p2) ⟨Dl, rfl, fresh_back (e.trans e1) p1, p3⟩⟩⟩
/-- for k, x in enumerate(xs) -/
theorem q_forE {ta : TA} {a : Addr} {xs : List V} {j l : Nat} (h : EvA ta σ H [.ref a]) (hx : SqL K H a xs) (Pv : Nat → L2.St → Hp → Prop) (h0 : ∀ H1, Ex H H1 → Pv 0 σ H1) (hl : ∀ i σ' H', Pv i σ' H' → Ex H H') (hst : ∀ i σ' H' T o, Pv i σ' H' → H' T = none → Pv i σ' (upd H' T o))
    (hs : ∀ (i : Nat) x σ' H', xs[i]? = some x → Pv i σ' H' → tu { D with nx := Pv (i + 1), ct := Pv (i + 1), bk := tz D } ((σ'.set j (some (.int (i : Int)))).set l (some x)) H') (hd : ∀ σ' H', Pv xs.length σ' H' → tz D σ' H') :
    tSeq (tFor (iEnum K ta) (gTup K 2 (gCons (gName j) (gCons (gName l) gNil))) tu) tz D σ H := h H (Ex.refl H) _ fun H1 e1 => ⟨a, xs, rfl, ex_l e1 hx, by
  refine ⟨fun i m σ' H' => m = xs.length - i ∧ i ≤ xs.length ∧ Pv i σ' H', ⟨_, rfl, Nat.zero_le _, h0 H1 e1⟩, ?_⟩
  rintro i m σ' H' ⟨rfl, hi, p⟩
  have qx := ex_l (hl i σ' H' p) hx
  by_cases hlt : i < xs.length
  · have ex : xs[i]? = some xs[i] := List.getElem?_eq_getElem hlt
    refine .inr ⟨⟨xs, _, qx, ex⟩, Pv (i + 1), fun σ2 H2 p2 => ⟨xs.length - (i + 1), by omega, rfl, hlt, p2⟩, fun v H2 hyld => ?_⟩
    obtain ⟨T, x', rfl, hT, rfl, f1⟩ := hyld
    have e1' : x' = xs[i] := Option.some.inj ((f1 _ qx).symm.trans ex)
    subst e1'
    exact g_tup2 (st_of upd_same) (hs i _ σ' _ ex (hst i σ' H' T _ p hT))
  · have ei : i = xs.length := by omega
    subst ei
    exact .inl ⟨⟨xs, qx, Nat.le_refl _⟩, hd σ' H' p⟩⟩
end
end Wl
namespace Wl
open PySem PySem.Spec PyProof.Rows L2 Evl
section
variable {K : PySem.W.Frag} {σ : L2.St} {H H' : Hp} {ta tb tc te tl ti : TE} {t u : TT} {D : Ends} {tu tw tz : TS} {g : TG} {R S : V → Hp → Prop}
/-- a comprehension over what is told by facts -/
theorem er_lcB {ty : TT} {vs : List Nat} (h : EvR tl σ H S) (k : ∀ v H1, Ex H H1 → S v H1 → EvR (tLc (iList K (tC v)) g ty te vs) σ H1 R) : EvR (tLc (iList K tl) g ty te vs) σ H R := fun H0 e Q q =>
  h H0 e _ fun v H1 e1 hv => k v H1 (e.trans e1) hv H1 (Ex.refl _) Q fun v2 H2 e2 p => q v2 H2 (e1.trans e2) p
/-- an if of which one side is known to tell something -/
theorem q_ifW {φ : Prop} (h : ∀ H1, Ex H H1 → ∀ Q : Bool → Hp → Prop, (∀ b H2, Ex H1 H2 → (b = true → φ) → Q b H2) → t σ H1 Q) (h1 : φ → ∀ H1, Ex H H1 → tu { D with nx := tz D } σ H1) (h2 : ∀ H1, Ex H H1 → tw { D with nx := tz D } σ H1) : tSeq (tIfS t tu tw) tz D σ H := h H (Ex.refl H) _ fun b H1 e p => by
  cases b with
  | true => exact h1 (p rfl) H1 e
  | false => exact h2 H1 e
theorem ew_and {b : Bool} (h1 : EvT t σ H b) (h2 : b = true → EvQ u σ H) : ∀ H1, Ex H H1 → ∀ Q : Bool → Hp → Prop, (∀ c H2, Ex H1 H2 → (c = true → b = true) → Q c H2) → tAnd t u σ H1 Q := fun H1 e Q q => h1 H1 e _ fun H2 e2 => by
  cases b with
  | false => exact q false H2 e2 fun z => nomatch z
  | true => exact h2 rfl H2 (e.trans e2) Q fun c H3 e3 => q c H3 (e2.trans e3) fun _ => rfl
/-- arguments that all hold one thing -/
def AllH (n : Nat) (R : V → Hp → Prop) : List V → Hp → Prop := fun vs H => vs.length = n ∧ ∀ x ∈ vs, R x H
def UpH (R : V → Hp → Prop) : Prop := ∀ x H H', Ex H H' → R x H → R x H'
theorem ear_all0 : EvAR tNil σ H (AllH 0 R) := ear_nil.imp fun vs _ _ h => by subst h; exact ⟨rfl, fun _ h => nomatch h⟩
theorem ear_all1 {n : Nat} {tr : TA} (up : UpH R) (h : EvR te σ H R) (hr : EvAR tr σ H (AllH n R)) : EvAR (tCons te tr) σ H (AllH (n + 1) R) := ear_cons h fun x H1 e p => (show EvAR tr σ H1 (AllH n R) from fun H2 e2 => hr H2 (e.trans e2)).imp fun vs H2 e2 ⟨h1, h2⟩ => ⟨by rw [List.length_cons, h1], fun y hy => by
  rcases List.mem_cons.mp hy with rfl | hy
  · exact up _ _ _ e2 p
  · exact h2 y hy⟩
/-- for x in (a, b, ..), of which all hold one thing -/
theorem s_forAll {n j : Nat} {ta : TA} (up : UpH R) (h : EvAR ta σ H (AllH n R)) (hn : n ≤ 100000) (k : ∀ H1, Ex H H1 → ∃ Pv : L2.St → Hp → Prop, Pv σ H1 ∧ (∀ σ' H', Pv σ' H' → Ex H1 H') ∧
    (∀ x σ' H', Pv σ' H' → R x H' → tu { D with nx := Pv, ct := Pv, bk := D.nx } (σ'.set j (some x)) H') ∧ (∀ σ' H', Pv σ' H' → D.nx σ' H')) : tFor (iTup K (tTup ta)) (gName j) tu D σ H :=
  s_forTU (er_tup h (fun vs H1 p => by rw [p.1]; exact hn)) fun v H1 e ⟨p, vs, H2, hv, _, e2, hp, h1⟩ => by
    obtain ⟨Pv, h0, hl, hs, hd⟩ := k H1 e
    exact ⟨p, vs, hv, st_of h1, fun _ => Pv, h0, fun _ σ' H' _ q => st_of (hl σ' H' q _ _ h1), fun i x σ' H' hx q => hs x σ' H' q (up _ _ _ (e2.trans (hl σ' H' q)) (hp.2 x (List.mem_of_getElem? hx))), hd⟩
theorem q_forAll {n j : Nat} {ta : TA} (up : UpH R) (h : EvAR ta σ H (AllH n R)) (hn : n ≤ 100000) (k : ∀ H1, Ex H H1 → ∃ Pv : L2.St → Hp → Prop, Pv σ H1 ∧ (∀ σ' H', Pv σ' H' → Ex H1 H') ∧
    (∀ x σ' H', Pv σ' H' → R x H' → tu { D with nx := Pv, ct := Pv, bk := tz D } (σ'.set j (some x)) H') ∧ (∀ σ' H', Pv σ' H' → tz D σ' H')) : tSeq (tFor (iTup K (tTup ta)) (gName j) tu) tz D σ H :=
  s_forAll (D := { D with nx := tz D }) up h hn k
/-- xs[i] = e, of what is told by facts -/
theorem s_setLR {l : Addr} {xs : List V} {j : Nat} (hl : H l = some (.lst xs)) (h : EvR te σ H R) (ho : Ev ta σ H (.ref l)) (hi : Ev tb σ H (.int (j : Int))) (hj : j < xs.length) (k : ∀ v H1, Ex H H1 → (∃ H0, Ex H0 H1 ∧ R v H0) → D.nx σ (upd H1 l (.lst (xs.set j v)))) :
    tAsg te (gSub ta tb rSetL) D σ H := h H (Ex.refl H) _ fun v H1 e1 p => ho H1 e1 _ fun H2 e2 => hi H2 (e1.trans e2) _ fun H3 e3 =>
  ⟨l, xs, (j : Int), j, rfl, rfl, ((e1.trans e2).trans e3) l _ hl, ixN_nat hj, k v H3 ((e1.trans e2).trans e3) ⟨H1, e2.trans e3, p⟩⟩
/-! rests joined, cut -/
theorem er_rsCat {rs ss : List (Int × Int)} (ha : EvR ta σ H (fun v H => RsAt H v rs)) (hb : EvR tb σ H (fun v H => RsAt H v ss)) (hl : rs.length + ss.length ≤ 100000) : EvR (tOp rCat ta tb) σ H (fun v H => RsAt H v (rs ++ ss)) := fun H1 e Q q =>
  ha H1 e _ fun x H2 e2 ⟨p, xs, hx, hp, h1⟩ => hb H2 (e.trans e2) _ fun y H3 e3 ⟨r, ys, hy, hr, h2⟩ => ⟨p, r, xs, ys, hx, hy, e3 _ _ hp, hr, sz_of (by rw [h1.len, h2.len]; exact hl), fun l hn => q _ _ ((e2.trans e3).trans (Ex.new hn)) ⟨l, _, rfl, upd_same, ((h1.up e3).append h2).up (Ex.new hn)⟩⟩
theorem er_rsRev {rs : List (Int × Int)} {v : V} (h : Ev ta σ H v) (hr : RsAt H v rs) : EvR (tRevL K ta) σ H (fun v H => RsAt H v rs.reverse) := by
  obtain ⟨a, xs, rfl, h1, h2⟩ := hr
  exact (er_rev h (sq_of h1)).imp fun v H2 e ⟨p, hv, _, hp⟩ => ⟨p, _, hv, hp, (h2.up e).rev⟩
theorem er_rsDrop {rs : List (Int × Int)} {v : V} (h : Ev ta σ H v) (hr : RsAt H v rs) : EvR (tSl (rSlL K) ta (tPart (tC (.int 1))) tNoPart) σ H (fun v H => RsAt H v (rs.drop 1)) := by
  obtain ⟨a, xs, rfl, h1, h2⟩ := hr
  exact (er_sl h (eo_some ev_c) eo_none (sq_of h1)).imp fun v H2 e ⟨p, hv, _, hp⟩ => ⟨p, _, hv, hp, by rw [cut_from1]; exact (h2.up e).drop1⟩
theorem set_same {α : Type} : ∀ {l : List α} {i : Nat} {x : α}, l[i]? = some x → l.set i x = l
  | [], _, _, h => by simp at h
  | _ :: _, 0, _, h => by cases h; rfl
  | a :: l, i + 1, x, h => congrArg (a :: ·) (set_same (l := l) (i := i) (x := x) (by simpa using h))
/-- if due: due = e -/
theorem q_due {b r : Bool} {i : Nat} (hσ : σ[i]? = some (some (.bl b))) (h : b = true → ∀ H1, Ex H H1 → Ev te σ H1 (.bl r)) (k : ∀ H1, Ex H H1 → tz D (σ.set i (some (.bl (b && r)))) H1) : tSeq (tIfS (tB (tVar i)) (tAsg te (gName i)) tNext) tz D σ H :=
  q_when (b := b) (et_B (ev_var hσ)) (fun hb H1 e => s_asg (h hb H1 e) fun H2 e2 => by
    have := k H2 (e.trans e2)
    rw [hb] at this
    exact this) fun hb H1 e => by
    have := k H1 e
    rw [hb, Bool.false_and, set_same (by rw [hσ, hb])] at this
    exact this
/-- an if whose two ways meet in one word -/
theorem q_join {φ : Bool → Prop} (Pv : L2.St → Hp → Prop) (h : ∀ H1, Ex H H1 → ∀ Q : Bool → Hp → Prop, (∀ b H2, Ex H1 H2 → φ b → Q b H2) → t σ H1 Q) (h1 : φ true → ∀ H1, Ex H H1 → ∀ D : Ends, (∀ σ' H', Pv σ' H' → D.nx σ' H') → tu D σ H1) (h2 : φ false → ∀ H1, Ex H H1 → Pv σ H1) (k : ∀ σ' H', Pv σ' H' → tz D σ' H') : tSeq (tIfS t tu tNext) tz D σ H := h H (Ex.refl H) _ fun b H1 e p => by
  cases b with
  | true => exact h1 p H1 e { D with nx := tz D } k
  | false => exact k _ _ (h2 p H1 e)
theorem et_phi {b : Bool} (h : EvT t σ H b) : ∀ H1, Ex H H1 → ∀ Q : Bool → Hp → Prop, (∀ c H2, Ex H1 H2 → c = b → Q c H2) → t σ H1 Q := fun H1 e Q q => h H1 e Q fun H2 e2 => q b H2 e2 rfl
/-- a method of what is told by facts -/
theorem ev_methB {C : Addr} {m : Str} {sp : Sp} {E : XK} {tm : TA} {z : V} (ha : EvR ta σ H R) (k : ∀ v H1, Ex H H1 → R v H1 → Ev (tMeth C m sp [] E (tC v) tm) σ H1 z) : Ev (tMeth C m sp [] E ta tm) σ H z := fun H1 e Q q =>
  ha H1 e _ fun v H2 e2 p => k v H2 (e.trans e2) p H2 (Ex.refl _) Q fun H3 e3 => q H3 (e2.trans e3)
/-- for over what is told by facts -/
theorem s_forB (h : EvR tl σ H S) (k : ∀ v H1, Ex H H1 → S v H1 → tFor (iList K (tC v)) g tu D σ H1) : tFor (iList K tl) g tu D σ H := h H (Ex.refl H) _ fun v H1 e p => k v H1 e p
/-- for x, y in [(..), (..)] -/
def PairX (x : V) (H : Hp) : Prop := ∃ p, PairAt H x p
theorem upPair : UpH PairX := fun _ _ _ e ⟨p, h⟩ => ⟨p, h.up e⟩
theorem q_forAllP {n j l : Nat} {ta : TA} (h : EvAR ta σ H (AllH n PairX)) (hn : n ≤ 100000) (k : ∀ H1, Ex H H1 → ∃ Pv : L2.St → Hp → Prop, Pv σ H1 ∧ (∀ σ' H', Pv σ' H' → Ex H1 H') ∧
    (∀ (p : Int × Int) σ' H', Pv σ' H' → tu { D with nx := Pv, ct := Pv, bk := tz D } ((σ'.set j (some (.int p.1))).set l (some (.int p.2))) H') ∧ (∀ σ' H', Pv σ' H' → tz D σ' H')) : tSeq (tFor (iList K (tLst ta)) (gTup K 2 (gCons (gName j) (gCons (gName l) gNil))) tu) tz D σ H :=
  s_forB (D := { D with nx := tz D }) (er_lst h (fun vs H1 p => by rw [p.1]; exact hn)) fun v H1 e ⟨p, vs, H2, hv, _, e2, hp, h1⟩ => by
    obtain ⟨Pv, h0, hl, hs, hd⟩ := k H1 e
    subst hv
    exact ⟨p, rfl, ⟨vs, sq_of h1⟩, for_list (xs := vs) (fun _ => Pv) h0 (fun _ σ' H' _ q => sq_of (hl σ' H' q _ _ h1)) (fun i x σ' H' hx q => by
      obtain ⟨pp, t, hx2, ht⟩ := upPair _ _ _ (e2.trans (hl σ' H' q)) (hp.2 x (List.mem_of_getElem? hx))
      subst hx2
      exact g_tup2 (st_of ht) (hs pp σ' H' q)) hd⟩
theorem all_int {φ : Int → Prop} : ∀ {ys : List V}, (∀ y ∈ ys, ∃ z : Int, y = .int z ∧ φ z) → ∃ ns : List Int, ys = iv ns ∧ ∀ z ∈ ns, φ z
  | [], _ => ⟨[], rfl, fun _ h => nomatch h⟩
  | y :: ys, h => by
    obtain ⟨z, rfl, hz⟩ := h y List.mem_cons_self
    obtain ⟨ns, rfl, hn⟩ := all_int (ys := ys) fun y hy => h y (List.mem_cons_of_mem _ hy)
    exact ⟨z :: ns, rfl, fun x hx => by
      rcases List.mem_cons.mp hx with rfl | hx
      · exact hz
      · exact hn x hx⟩
theorem iv_cut (ts : List Int) (lo hi : Option Int) : ∃ us, cutV (iv ts) lo hi = iv us ∧ us.length ≤ ts.length := by
  unfold cutV
  rw [iv_drop, iv_take]
  exact ⟨_, rfl, by rw [List.length_take, List.length_drop]; omega⟩
def IntX (x : V) (_ : Hp) : Prop := ∃ i : Int, x = .int i
theorem upInt : UpH IntX := fun _ _ _ _ h => h
theorem er_int {i : Int} (h : Ev te σ H (.int i)) : EvR te σ H IntX := (evr h).imp fun _ _ _ h => ⟨i, h⟩
end
end Wl
namespace Wl
open PySem PySem.Spec PyProof.Rows L2 Evl
local macro_rules | `(tactic| walk_at "e1") => `(tactic| with_reducible (apply et_self; assumption))
local macro_rules | `(tactic| walk_at "e1") => `(tactic| with_reducible (apply ev_self; assumption))
local macro_rules | `(tactic| walk_at "e1") => `(tactic| with_reducible refine (fun (hbb : (_ : Bool) = _) => ?_))
local macro_rules | `(tactic| walk_at "e1") => `(tactic| with_reducible apply ev_if)
local macro_rules | `(tactic| walk_at "e1") => `(tactic| with_reducible apply ev_notV)
local macro_rules | `(tactic| walk_at "e1") => `(tactic| with_reducible apply ev_orV)
local macro_rules | `(tactic| walk_at "e1") => `(tactic| with_reducible apply ev_andV)
local macro_rules | `(tactic| walk_at "e1") => `(tactic| with_reducible apply ev_chain)
local macro_rules | `(tactic| walk_at "e1") => `(tactic| with_reducible apply et_not)
local macro_rules | `(tactic| walk_at "e1") => `(tactic| with_reducible apply et_or)
local macro_rules | `(tactic| walk_at "e1") => `(tactic| with_reducible apply et_and)
local macro_rules | `(tactic| walk_at "e1") => `(tactic| with_reducible apply et_B)
local macro_rules | `(tactic| walk_at "e1") => `(tactic| with_reducible apply et_test)
local macro_rules | `(tactic| walk_at "e1") => `(tactic| with_reducible apply rv_ixT)
local macro_rules | `(tactic| walk_at "e1") => `(tactic| with_reducible apply rv_ixL)
local macro_rules | `(tactic| walk_at "e1") => `(tactic| with_reducible apply rv_I)
local macro_rules | `(tactic| walk_at "e1") => `(tactic| ((with_reducible apply rv_ne); exact rfl))
local macro_rules | `(tactic| walk_at "e1") => `(tactic| ((with_reducible apply rv_eq); exact rfl))
local macro_rules | `(tactic| walk_at "e1") => `(tactic| with_reducible exact rv_I0)
local macro_rules | `(tactic| walk_at "e1") => `(tactic| with_reducible exact ru_neg)
local macro_rules | `(tactic| walk_at "e1") => `(tactic| with_reducible apply ev_un)
local macro_rules | `(tactic| walk_at "e1") => `(tactic| with_reducible apply ea_cons)
local macro_rules | `(tactic| walk_at "e1") => `(tactic| with_reducible exact ea_nil)
local macro_rules | `(tactic| walk_at "e1") => `(tactic| with_reducible apply ev_op)
local macro_rules | `(tactic| walk_at "e1") => `(tactic| ((with_reducible apply ev_var); exact rfl))
local macro_rules | `(tactic| walk_at "e1") => `(tactic| with_reducible exact ev_c)
local macro_rules | `(tactic| walk_at "sq") => `(tactic| first | with_reducible assumption | exact st_of (by assumption) | exact sq_of (by assumption) | exact st_of ((by assumption : Ex _ _) _ _ (by assumption)) | exact sq_of ((by assumption : Ex _ _) _ _ (by assumption)) | exact ex_t (by assumption) (by assumption) | exact ex_l (by assumption) (by assumption))
local macro_rules | `(tactic| walk_at "e1") => `(tactic| ((with_reducible apply rv_ixL) <;> first | walk_at "sq" | exact rfl))
local macro_rules | `(tactic| walk_at "e1") => `(tactic| ((with_reducible apply rv_ixT) <;> first | walk_at "sq" | exact rfl))
local macro_rules | `(tactic| walk_at "sz") => `(tactic| exact Nat.le_of_ble_eq_true rfl)
local macro_rules | `(tactic| walk_at "e1") => `(tactic| with_reducible exact rv_neB)
local macro_rules | `(tactic| walk_at "e1") => `(tactic| with_reducible exact rv_eqB)
local macro_rules | `(tactic| walk_at "e1") => `(tactic| with_reducible exact rv_neI)
local macro_rules | `(tactic| walk_at "e1") => `(tactic| with_reducible exact rv_eqI)
local macro_rules | `(tactic| walk_at "ev") => `(tactic| (repeat' walk_at "e1"))
def topS (i : Nat) : Stmt := PySem.Challenge.pw_wheelrow_k06_answers_by_hand.main.body.getD i (.Pass ⟨0, 0, 0, 0⟩)
abbrev s_is_whole : Stmt := topS 8
abbrev s_is_number : Stmt := topS 9
abbrev s_is_turn : Stmt := topS 10
abbrev s_check_numbers : Stmt := topS 11
abbrev s_check_turn : Stmt := topS 12
abbrev s_is_rest : Stmt := topS 13
abbrev s_check_rests : Stmt := topS 14
abbrev s_part_of : Stmt := topS 15
abbrev s_shares_of : Stmt := topS 16
abbrev s_round_of : Stmt := topS 17
abbrev s_Number_init : Stmt := inClass (topS 20) 0
abbrev s_Number_shows : Stmt := inClass (topS 20) 1
abbrev s_Clash_init : Stmt := inClass (topS 21) 0
abbrev s_Clash_shows : Stmt := inClass (topS 21) 1
abbrev s_sum_of : Stmt := topS 22
abbrev s_Common_init : Stmt := inClass (topS 23) 0
abbrev s_Common_shows : Stmt := inClass (topS 23) 1
abbrev s_Times_init : Stmt := inClass (topS 24) 0
abbrev s_Times_shows : Stmt := inClass (topS 24) 1
abbrev s_Bar_init : Stmt := inClass (topS 25) 0
abbrev s_Bar_shows : Stmt := inClass (topS 25) 1
abbrev s_Bar_bars : Stmt := inClass (topS 25) 2
abbrev s_Back_init : Stmt := inClass (topS 26) 0
abbrev s_Back_shows : Stmt := inClass (topS 26) 1
abbrev s_common_of : Stmt := topS 28
abbrev s_common : Stmt := topS 29
abbrev s_come : Stmt := topS 30
abbrev s_back : Stmt := topS 31
abbrev s_clash_of : Stmt := topS 33
abbrev s_told : Stmt := topS 34
abbrev s_l_cell_at : Stmt := topS 36
abbrev s_l_draw : Stmt := topS 37
abbrev s_l_turns : Stmt := topS 38
abbrev s_l_rests : Stmt := topS 39
abbrev s_l_part : Stmt := topS 40
abbrev s_l_says : Stmt := topS 43
abbrev s_l_row : Stmt := topS 44
abbrev s_l_rests_right : Stmt := topS 45
abbrev s_l_bent : Stmt := topS 46
abbrev s_l_parts_right : Stmt := topS 47
abbrev s_l_comes_right : Stmt := topS 48
abbrev s_l_backs_right : Stmt := topS 49
abbrev s_law : Stmt := topS 50
theorem sc_is_whole : FnScope ["thing"] ["thing"] (defScope s_is_whole) := ⟨rfl, rfl, rfl, by decide +kernel, rfl, by decide +kernel, by decide +kernel⟩
theorem sc_is_number : FnScope ["thing"] ["thing"] (defScope s_is_number) := ⟨rfl, rfl, rfl, by decide +kernel, rfl, by decide +kernel, by decide +kernel⟩
theorem sc_is_turn : FnScope ["thing"] ["thing"] (defScope s_is_turn) := ⟨rfl, rfl, rfl, by decide +kernel, rfl, by decide +kernel, by decide +kernel⟩
theorem sc_check_numbers : FnScope ["numbers", "number"] ["numbers"] (defScope s_check_numbers) := ⟨rfl, rfl, rfl, by decide +kernel, rfl, by decide +kernel, by decide +kernel⟩
theorem sc_check_turn : FnScope ["turn"] ["turn"] (defScope s_check_turn) := ⟨rfl, rfl, rfl, by decide +kernel, rfl, by decide +kernel, by decide +kernel⟩
theorem sc_is_rest : FnScope ["pair"] ["pair"] (defScope s_is_rest) := ⟨rfl, rfl, rfl, by decide +kernel, rfl, by decide +kernel, by decide +kernel⟩
theorem sc_check_rests : FnScope ["rests", "pair"] ["rests"] (defScope s_check_rests) := ⟨rfl, rfl, rfl, by decide +kernel, rfl, by decide +kernel, by decide +kernel⟩
theorem sc_part_of : FnScope ["one", "other"] ["one", "other"] (defScope s_part_of) := ⟨rfl, rfl, rfl, by decide +kernel, rfl, by decide +kernel, by decide +kernel⟩
theorem sc_shares_of : FnScope ["one", "other", "here", "there", "times", "part", "k"] ["one", "other"] (defScope s_shares_of) := ⟨rfl, rfl, rfl, by decide +kernel, rfl, by decide +kernel, by decide +kernel⟩
theorem sc_round_of : FnScope ["rests", "found", "rest", "turn"] ["rests"] (defScope s_round_of) := ⟨rfl, rfl, rfl, by decide +kernel, rfl, by decide +kernel, by decide +kernel⟩
theorem sc_Number_init : FnScope ["self", "number", "turn"] ["self", "number", "turn"] (defScope s_Number_init) := ⟨rfl, rfl, rfl, by decide +kernel, rfl, by decide +kernel, by decide +kernel⟩
theorem sc_Number_shows : FnScope ["self", "rests", "rest", "turn"] ["self", "rests"] (defScope s_Number_shows) := ⟨rfl, rfl, rfl, by decide +kernel, rfl, by decide +kernel, by decide +kernel⟩
theorem sc_Clash_init : FnScope ["self", "one", "other"] ["self", "one", "other"] (defScope s_Clash_init) := ⟨rfl, rfl, rfl, by decide +kernel, rfl, by decide +kernel, by decide +kernel⟩
theorem sc_Clash_shows : FnScope ["self", "rests", "one", "other"] ["self", "rests"] (defScope s_Clash_shows) := ⟨rfl, rfl, rfl, by decide +kernel, rfl, by decide +kernel, by decide +kernel⟩
theorem sc_sum_of : FnScope ["numbers", "times", "k"] ["numbers", "times"] (defScope s_sum_of) := ⟨rfl, rfl, rfl, by decide +kernel, rfl, by decide +kernel, by decide +kernel⟩
theorem sc_Common_init : FnScope ["self", "part", "times"] ["self", "part", "times"] (defScope s_Common_init) := ⟨rfl, rfl, rfl, by decide +kernel, rfl, by decide +kernel, by decide +kernel⟩
theorem sc_Common_shows : FnScope ["self", "numbers", "number"] ["self", "numbers"] (defScope s_Common_shows) := ⟨rfl, rfl, rfl, by decide +kernel, rfl, by decide +kernel, by decide +kernel⟩
theorem sc_Times_init : FnScope ["self", "times"] ["self", "times"] (defScope s_Times_init) := ⟨rfl, rfl, rfl, by decide +kernel, rfl, by decide +kernel, by decide +kernel⟩
theorem sc_Times_shows : FnScope ["self", "numbers", "turn", "rest", "often"] ["self", "numbers", "turn", "rest"] (defScope s_Times_shows) := ⟨rfl, rfl, rfl, by decide +kernel, rfl, by decide +kernel, by decide +kernel⟩
theorem sc_Bar_init : FnScope ["self", "part"] ["self", "part"] (defScope s_Bar_init) := ⟨rfl, rfl, rfl, by decide +kernel, rfl, by decide +kernel, by decide +kernel⟩
theorem sc_Bar_shows : FnScope ["self", "numbers", "turn", "rest", "number"] ["self", "numbers", "turn", "rest"] (defScope s_Bar_shows) := ⟨rfl, rfl, rfl, by decide +kernel, rfl, by decide +kernel, by decide +kernel⟩
theorem sc_Bar_bars : FnScope ["self", "number", "turn"] ["self", "number", "turn"] (defScope s_Bar_bars) := ⟨rfl, rfl, rfl, by decide +kernel, rfl, by decide +kernel, by decide +kernel⟩
theorem sc_Back_init : FnScope ["self", "rest"] ["self", "rest"] (defScope s_Back_init) := ⟨rfl, rfl, rfl, by decide +kernel, rfl, by decide +kernel, by decide +kernel⟩
theorem sc_Back_shows : FnScope ["self", "number", "turn"] ["self", "number", "turn"] (defScope s_Back_shows) := ⟨rfl, rfl, rfl, by decide +kernel, rfl, by decide +kernel, by decide +kernel⟩
theorem sc_common_of : FnScope ["numbers", "part", "times", "number", "found", "mine", "theirs", "often"] ["numbers"] (defScope s_common_of) := ⟨rfl, rfl, rfl, by decide +kernel, rfl, by decide +kernel, by decide +kernel⟩
theorem sc_common : FnScope ["numbers", "part", "times"] ["numbers"] (defScope s_common) := ⟨rfl, rfl, rfl, by decide +kernel, rfl, by decide +kernel, by decide +kernel⟩
theorem sc_come : FnScope ["numbers", "turn", "rest", "part", "times", "often", "number"] ["numbers", "turn", "rest"] (defScope s_come) := ⟨rfl, rfl, rfl, by decide +kernel, rfl, by decide +kernel, by decide +kernel⟩
theorem sc_back : FnScope ["number", "turn", "part", "mine", "theirs"] ["number", "turn"] (defScope s_back) := ⟨rfl, rfl, rfl, by decide +kernel, rfl, by decide +kernel, by decide +kernel⟩
theorem sc_clash_of : FnScope ["rests", "last", "rest", "turn", "place"] ["rests", "last"] (defScope s_clash_of) := ⟨rfl, rfl, rfl, by decide +kernel, rfl, by decide +kernel, by decide +kernel⟩
theorem sc_told : FnScope ["rests", "number", "whole", "place", "pair", "rest", "turn", "part", "mine", "theirs"] ["rests"] (defScope s_told) := ⟨rfl, rfl, rfl, by decide +kernel, rfl, by decide +kernel, by decide +kernel⟩
theorem sc_l_cell_at : FnScope ["_law_script", "_law_k"] ["_law_script", "_law_k"] (defScope s_l_cell_at) := ⟨rfl, rfl, rfl, by decide +kernel, rfl, by decide +kernel, by decide +kernel⟩
theorem sc_l_draw : FnScope ["_law_cell", "_law_k", "_law_many", "_law_primes"] ["_law_cell", "_law_k", "_law_many"] (defScope s_l_draw) := ⟨rfl, rfl, rfl, by decide +kernel, rfl, by decide +kernel, by decide +kernel⟩
theorem sc_l_turns : FnScope ["_law_script", "_law_kind", "_law_found", "_law_k", "_law_turn"] ["_law_script"] (defScope s_l_turns) := ⟨rfl, rfl, rfl, by decide +kernel, rfl, by decide +kernel, by decide +kernel⟩
theorem sc_l_rests : FnScope ["_law_script", "_law_far", "_law_found", "_law_at", "_law_turn", "_law_k", "_law_cell"] ["_law_script"] (defScope s_l_rests) := ⟨rfl, rfl, rfl, by decide +kernel, rfl, by decide +kernel, by decide +kernel⟩
theorem sc_l_part : FnScope ["_law_one", "_law_other"] ["_law_one", "_law_other"] (defScope s_l_part) := ⟨rfl, rfl, rfl, by decide +kernel, rfl, by decide +kernel, by decide +kernel⟩
theorem sc_l_says : FnScope ["_law_said", "_law_due"] ["_law_said", "_law_due"] (defScope s_l_says) := ⟨rfl, rfl, rfl, by decide +kernel, rfl, by decide +kernel, by decide +kernel⟩
theorem sc_l_row : FnScope ["_law_script", "_law_by", "_law_k"] ["_law_script"] (defScope s_l_row) := ⟨rfl, rfl, rfl, by decide +kernel, rfl, by decide +kernel, by decide +kernel⟩
theorem sc_l_rests_right : FnScope ["_law_rests_here", "_law_cell", "_law_found", "_law_whole_here", "_law_rest", "_law_turn", "_law_number", "_law_some", "_law_more", "_law_due", "_law_other", "_law_answer", "_law_many", "_law_k", "_law_one", "_law_apart"] ["_law_rests_here", "_law_cell"] (defScope s_l_rests_right) := ⟨rfl, rfl, rfl, by decide +kernel, rfl, by decide +kernel, by decide +kernel⟩
theorem sc_l_bent : FnScope ["_law_some", "_law_cell", "_law_kind", "_law_many", "_law_at", "_law_one"] ["_law_some", "_law_cell"] (defScope s_l_bent) := ⟨rfl, rfl, rfl, by decide +kernel, rfl, by decide +kernel, by decide +kernel⟩
theorem sc_l_parts_right : FnScope ["_law_numbers_here", "_law_cell", "_law_found", "_law_times", "_law_part_here", "_law_handed", "_law_answer", "_law_due", "_law_number", "_law_often"] ["_law_numbers_here", "_law_cell"] (defScope s_l_parts_right) := ⟨rfl, rfl, rfl, by decide +kernel, rfl, by decide +kernel, by decide +kernel⟩
theorem sc_l_comes_right : FnScope ["_law_numbers_here", "_law_cell", "_law_turn", "_law_rest", "_law_found", "_law_times", "_law_handed", "_law_answer", "_law_due", "_law_whole_here", "_law_part_here", "_law_often", "_law_number"] ["_law_numbers_here", "_law_cell"] (defScope s_l_comes_right) := ⟨rfl, rfl, rfl, by decide +kernel, rfl, by decide +kernel, by decide +kernel⟩
theorem sc_l_backs_right : FnScope ["_law_number", "_law_turn", "_law_cell", "_law_found", "_law_rest", "_law_some", "_law_due", "_law_answer", "_law_part_here"] ["_law_number", "_law_turn", "_law_cell"] (defScope s_l_backs_right) := ⟨rfl, rfl, rfl, by decide +kernel, rfl, by decide +kernel, by decide +kernel⟩
theorem sc_law : FnScope ["_law_script", "_law_rests_here", "_law_numbers_here", "_law_k", "_law_cell", "_law_turn"] ["_law_script"] (defScope s_law) := ⟨rfl, rfl, rfl, by decide +kernel, rfl, by decide +kernel, by decide +kernel⟩
structure Ad where
  a_is_whole : Addr
  a_is_number : Addr
  a_is_turn : Addr
  a_check_numbers : Addr
  a_check_turn : Addr
  a_is_rest : Addr
  a_check_rests : Addr
  a_part_of : Addr
  a_shares_of : Addr
  a_round_of : Addr
  a_Number_init : Addr
  a_Number_shows : Addr
  a_Clash_init : Addr
  a_Clash_shows : Addr
  a_sum_of : Addr
  a_Common_init : Addr
  a_Common_shows : Addr
  a_Times_init : Addr
  a_Times_shows : Addr
  a_Bar_init : Addr
  a_Bar_shows : Addr
  a_Bar_bars : Addr
  a_Back_init : Addr
  a_Back_shows : Addr
  a_common_of : Addr
  a_common : Addr
  a_come : Addr
  a_back : Addr
  a_clash_of : Addr
  a_told : Addr
  a_l_cell_at : Addr
  a_l_draw : Addr
  a_l_turns : Addr
  a_l_rests : Addr
  a_l_part : Addr
  a_l_says : Addr
  a_l_row : Addr
  a_l_rests_right : Addr
  a_l_bent : Addr
  a_l_parts_right : Addr
  a_l_comes_right : Addr
  a_l_backs_right : Addr
  a_law : Addr
  c_RestError : Addr
  c_BadRests : Addr
  c_BadNumbers : Addr
  c_BadRound : Addr
  c_BadRest : Addr
  c_Answer : Addr
  c_Number : Addr
  c_Clash : Addr
  c_Common : Addr
  c_Times : Addr
  c_Bar : Addr
  c_Back : Addr
structure Txt (K : PySem.W.Frag) (mg : Str → Option Value) (A : Ad) : Prop where
  F_is_whole : ∃ fd, Fun K "is_whole" "is_whole" s_is_whole A.a_is_whole fd ∧ Binds K fd ["thing"] []
  g_is_whole : mg "is_whole" = some (.ref A.a_is_whole)
  F_is_number : ∃ fd, Fun K "is_number" "is_number" s_is_number A.a_is_number fd ∧ Binds K fd ["thing"] []
  g_is_number : mg "is_number" = some (.ref A.a_is_number)
  F_is_turn : ∃ fd, Fun K "is_turn" "is_turn" s_is_turn A.a_is_turn fd ∧ Binds K fd ["thing"] []
  g_is_turn : mg "is_turn" = some (.ref A.a_is_turn)
  F_check_numbers : ∃ fd, Fun K "check_numbers" "check_numbers" s_check_numbers A.a_check_numbers fd ∧ Binds K fd ["numbers"] []
  g_check_numbers : mg "check_numbers" = some (.ref A.a_check_numbers)
  F_check_turn : ∃ fd, Fun K "check_turn" "check_turn" s_check_turn A.a_check_turn fd ∧ Binds K fd ["turn"] []
  g_check_turn : mg "check_turn" = some (.ref A.a_check_turn)
  F_is_rest : ∃ fd, Fun K "is_rest" "is_rest" s_is_rest A.a_is_rest fd ∧ Binds K fd ["pair"] []
  g_is_rest : mg "is_rest" = some (.ref A.a_is_rest)
  F_check_rests : ∃ fd, Fun K "check_rests" "check_rests" s_check_rests A.a_check_rests fd ∧ Binds K fd ["rests"] []
  g_check_rests : mg "check_rests" = some (.ref A.a_check_rests)
  F_part_of : ∃ fd, Fun K "part_of" "part_of" s_part_of A.a_part_of fd ∧ Binds K fd ["one", "other"] []
  g_part_of : mg "part_of" = some (.ref A.a_part_of)
  F_shares_of : ∃ fd, Fun K "shares_of" "shares_of" s_shares_of A.a_shares_of fd ∧ Binds K fd ["one", "other"] []
  g_shares_of : mg "shares_of" = some (.ref A.a_shares_of)
  F_round_of : ∃ fd, Fun K "round_of" "round_of" s_round_of A.a_round_of fd ∧ Binds K fd ["rests"] []
  g_round_of : mg "round_of" = some (.ref A.a_round_of)
  F_Number_init : ∃ fd, Fun K "__init__" "Number.__init__" s_Number_init A.a_Number_init fd ∧ Binds K fd ["self", "number", "turn"] []
  F_Number_shows : ∃ fd, Fun K "shows" "Number.shows" s_Number_shows A.a_Number_shows fd ∧ Binds K fd ["self", "rests"] []
  F_Clash_init : ∃ fd, Fun K "__init__" "Clash.__init__" s_Clash_init A.a_Clash_init fd ∧ Binds K fd ["self", "one", "other"] []
  F_Clash_shows : ∃ fd, Fun K "shows" "Clash.shows" s_Clash_shows A.a_Clash_shows fd ∧ Binds K fd ["self", "rests"] []
  F_sum_of : ∃ fd, Fun K "sum_of" "sum_of" s_sum_of A.a_sum_of fd ∧ Binds K fd ["numbers", "times"] []
  g_sum_of : mg "sum_of" = some (.ref A.a_sum_of)
  F_Common_init : ∃ fd, Fun K "__init__" "Common.__init__" s_Common_init A.a_Common_init fd ∧ Binds K fd ["self", "part", "times"] []
  F_Common_shows : ∃ fd, Fun K "shows" "Common.shows" s_Common_shows A.a_Common_shows fd ∧ Binds K fd ["self", "numbers"] []
  F_Times_init : ∃ fd, Fun K "__init__" "Times.__init__" s_Times_init A.a_Times_init fd ∧ Binds K fd ["self", "times"] []
  F_Times_shows : ∃ fd, Fun K "shows" "Times.shows" s_Times_shows A.a_Times_shows fd ∧ Binds K fd ["self", "numbers", "turn", "rest"] []
  F_Bar_init : ∃ fd, Fun K "__init__" "Bar.__init__" s_Bar_init A.a_Bar_init fd ∧ Binds K fd ["self", "part"] []
  F_Bar_shows : ∃ fd, Fun K "shows" "Bar.shows" s_Bar_shows A.a_Bar_shows fd ∧ Binds K fd ["self", "numbers", "turn", "rest"] []
  F_Bar_bars : ∃ fd, Fun K "bars" "Bar.bars" s_Bar_bars A.a_Bar_bars fd ∧ Binds K fd ["self", "number", "turn"] []
  F_Back_init : ∃ fd, Fun K "__init__" "Back.__init__" s_Back_init A.a_Back_init fd ∧ Binds K fd ["self", "rest"] []
  F_Back_shows : ∃ fd, Fun K "shows" "Back.shows" s_Back_shows A.a_Back_shows fd ∧ Binds K fd ["self", "number", "turn"] []
  F_common_of : ∃ fd, Fun K "common_of" "common_of" s_common_of A.a_common_of fd ∧ Binds K fd ["numbers"] []
  g_common_of : mg "common_of" = some (.ref A.a_common_of)
  F_common : ∃ fd, Fun K "common" "common" s_common A.a_common fd ∧ Binds K fd ["numbers"] []
  g_common : mg "common" = some (.ref A.a_common)
  F_come : ∃ fd, Fun K "come" "come" s_come A.a_come fd ∧ Binds K fd ["numbers", "turn", "rest"] []
  g_come : mg "come" = some (.ref A.a_come)
  F_back : ∃ fd, Fun K "back" "back" s_back A.a_back fd ∧ Binds K fd ["number", "turn"] []
  g_back : mg "back" = some (.ref A.a_back)
  F_clash_of : ∃ fd, Fun K "clash_of" "clash_of" s_clash_of A.a_clash_of fd ∧ Binds K fd ["rests", "last"] []
  g_clash_of : mg "clash_of" = some (.ref A.a_clash_of)
  F_told : ∃ fd, Fun K "told" "told" s_told A.a_told fd ∧ Binds K fd ["rests"] []
  g_told : mg "told" = some (.ref A.a_told)
  F_l_cell_at : ∃ fd, Fun K "_law_cell_at" "_law_cell_at" s_l_cell_at A.a_l_cell_at fd ∧ Binds K fd ["_law_script", "_law_k"] []
  g_l_cell_at : mg "_law_cell_at" = some (.ref A.a_l_cell_at)
  F_l_draw : ∃ fd, Fun K "_law_draw" "_law_draw" s_l_draw A.a_l_draw fd ∧ Binds K fd ["_law_cell", "_law_k", "_law_many"] []
  g_l_draw : mg "_law_draw" = some (.ref A.a_l_draw)
  F_l_turns : ∃ fd, Fun K "_law_turns" "_law_turns" s_l_turns A.a_l_turns fd ∧ Binds K fd ["_law_script"] []
  g_l_turns : mg "_law_turns" = some (.ref A.a_l_turns)
  F_l_rests : ∃ fd, Fun K "_law_rests" "_law_rests" s_l_rests A.a_l_rests fd ∧ Binds K fd ["_law_script"] []
  g_l_rests : mg "_law_rests" = some (.ref A.a_l_rests)
  F_l_part : ∃ fd, Fun K "_law_part" "_law_part" s_l_part A.a_l_part fd ∧ Binds K fd ["_law_one", "_law_other"] []
  g_l_part : mg "_law_part" = some (.ref A.a_l_part)
  F_l_says : ∃ fd, Fun K "_law_says" "_law_says" s_l_says A.a_l_says fd ∧ Binds K fd ["_law_said", "_law_due"] []
  g_l_says : mg "_law_says" = some (.ref A.a_l_says)
  F_l_row : ∃ fd, Fun K "_law_row" "_law_row" s_l_row A.a_l_row fd ∧ Binds K fd ["_law_script"] []
  g_l_row : mg "_law_row" = some (.ref A.a_l_row)
  F_l_rests_right : ∃ fd, Fun K "_law_rests_right" "_law_rests_right" s_l_rests_right A.a_l_rests_right fd ∧ Binds K fd ["_law_rests_here", "_law_cell"] []
  g_l_rests_right : mg "_law_rests_right" = some (.ref A.a_l_rests_right)
  F_l_bent : ∃ fd, Fun K "_law_bent" "_law_bent" s_l_bent A.a_l_bent fd ∧ Binds K fd ["_law_some", "_law_cell"] []
  g_l_bent : mg "_law_bent" = some (.ref A.a_l_bent)
  F_l_parts_right : ∃ fd, Fun K "_law_parts_right" "_law_parts_right" s_l_parts_right A.a_l_parts_right fd ∧ Binds K fd ["_law_numbers_here", "_law_cell"] []
  g_l_parts_right : mg "_law_parts_right" = some (.ref A.a_l_parts_right)
  F_l_comes_right : ∃ fd, Fun K "_law_comes_right" "_law_comes_right" s_l_comes_right A.a_l_comes_right fd ∧ Binds K fd ["_law_numbers_here", "_law_cell"] []
  g_l_comes_right : mg "_law_comes_right" = some (.ref A.a_l_comes_right)
  F_l_backs_right : ∃ fd, Fun K "_law_backs_right" "_law_backs_right" s_l_backs_right A.a_l_backs_right fd ∧ Binds K fd ["_law_number", "_law_turn", "_law_cell"] []
  g_l_backs_right : mg "_law_backs_right" = some (.ref A.a_l_backs_right)
  F_law : ∃ fd, Fun K "law" "law" s_law A.a_law fd ∧ Binds K fd ["_law_script"] []
  g_law : mg "law" = some (.ref A.a_law)
  z_isinstance : mg "isinstance" = none
  z_int : mg "int" = none
  z_bool : mg "bool" = none
  z_list : mg "list" = none
  z_all : mg "all" = none
  z_tuple : mg "tuple" = none
  z_len : mg "len" = none
  z_abs : mg "abs" = none
  z_range : mg "range" = none
  z_sum : mg "sum" = none
  z_enumerate : mg "enumerate" = none
  z_zip : mg "zip" = none
  k_GREATEST : ∃ t, mg "GREATEST" = some (.int 1000000 t)
  g_RestError : mg "RestError" = some (.ref A.c_RestError)
  g_BadRests : mg "BadRests" = some (.ref A.c_BadRests)
  g_BadNumbers : mg "BadNumbers" = some (.ref A.c_BadNumbers)
  g_BadRound : mg "BadRound" = some (.ref A.c_BadRound)
  g_BadRest : mg "BadRest" = some (.ref A.c_BadRest)
  g_Answer : mg "Answer" = some (.ref A.c_Answer)
  cl_Answer : Cls K A.c_Answer
  i_Answer : IsC K A.c_Answer
  g_Number : mg "Number" = some (.ref A.c_Number)
  cl_Number : Cls K A.c_Number
  mk_Number : Mk K A.c_Number A.a_Number_init
  m_Number_shows : Meth K A.c_Number "shows" A.a_Number_shows
  n_Number_number : NoAttr K A.c_Number "number"
  n_Number_turn : NoAttr K A.c_Number "turn"
  i_Number : IsC K A.c_Number
  g_Clash : mg "Clash" = some (.ref A.c_Clash)
  cl_Clash : Cls K A.c_Clash
  mk_Clash : Mk K A.c_Clash A.a_Clash_init
  m_Clash_shows : Meth K A.c_Clash "shows" A.a_Clash_shows
  n_Clash_one : NoAttr K A.c_Clash "one"
  n_Clash_other : NoAttr K A.c_Clash "other"
  i_Clash : IsC K A.c_Clash
  g_Common : mg "Common" = some (.ref A.c_Common)
  cl_Common : Cls K A.c_Common
  mk_Common : Mk K A.c_Common A.a_Common_init
  m_Common_shows : Meth K A.c_Common "shows" A.a_Common_shows
  n_Common_part : NoAttr K A.c_Common "part"
  n_Common_times : NoAttr K A.c_Common "times"
  i_Common : IsC K A.c_Common
  g_Times : mg "Times" = some (.ref A.c_Times)
  cl_Times : Cls K A.c_Times
  mk_Times : Mk K A.c_Times A.a_Times_init
  m_Times_shows : Meth K A.c_Times "shows" A.a_Times_shows
  n_Times_times : NoAttr K A.c_Times "times"
  i_Times : IsC K A.c_Times
  g_Bar : mg "Bar" = some (.ref A.c_Bar)
  cl_Bar : Cls K A.c_Bar
  mk_Bar : Mk K A.c_Bar A.a_Bar_init
  m_Bar_shows : Meth K A.c_Bar "shows" A.a_Bar_shows
  m_Bar_bars : Meth K A.c_Bar "bars" A.a_Bar_bars
  n_Bar_part : NoAttr K A.c_Bar "part"
  i_Bar : IsC K A.c_Bar
  g_Back : mg "Back" = some (.ref A.c_Back)
  cl_Back : Cls K A.c_Back
  mk_Back : Mk K A.c_Back A.a_Back_init
  m_Back_shows : Meth K A.c_Back "shows" A.a_Back_shows
  n_Back_rest : NoAttr K A.c_Back "rest"
  i_Back : IsC K A.c_Back
  isg : IsG K
  q_Number_Number : PySem.W.kitOne K (.ref A.c_Number) (.ref A.c_Number) = some true
  q_Number_Times : PySem.W.kitOne K (.ref A.c_Number) (.ref A.c_Times) = some false
  q_Number_Back : PySem.W.kitOne K (.ref A.c_Number) (.ref A.c_Back) = some false
  q_Clash_Number : PySem.W.kitOne K (.ref A.c_Clash) (.ref A.c_Number) = some false
  q_Clash_Times : PySem.W.kitOne K (.ref A.c_Clash) (.ref A.c_Times) = some false
  q_Clash_Back : PySem.W.kitOne K (.ref A.c_Clash) (.ref A.c_Back) = some false
  q_Common_Number : PySem.W.kitOne K (.ref A.c_Common) (.ref A.c_Number) = some false
  q_Common_Times : PySem.W.kitOne K (.ref A.c_Common) (.ref A.c_Times) = some false
  q_Common_Back : PySem.W.kitOne K (.ref A.c_Common) (.ref A.c_Back) = some false
  q_Times_Number : PySem.W.kitOne K (.ref A.c_Times) (.ref A.c_Number) = some false
  q_Times_Times : PySem.W.kitOne K (.ref A.c_Times) (.ref A.c_Times) = some true
  q_Times_Back : PySem.W.kitOne K (.ref A.c_Times) (.ref A.c_Back) = some false
  q_Bar_Number : PySem.W.kitOne K (.ref A.c_Bar) (.ref A.c_Number) = some false
  q_Bar_Times : PySem.W.kitOne K (.ref A.c_Bar) (.ref A.c_Times) = some false
  q_Bar_Back : PySem.W.kitOne K (.ref A.c_Bar) (.ref A.c_Back) = some false
  q_Back_Number : PySem.W.kitOne K (.ref A.c_Back) (.ref A.c_Number) = some false
  q_Back_Times : PySem.W.kitOne K (.ref A.c_Back) (.ref A.c_Times) = some false
  q_Back_Back : PySem.W.kitOne K (.ref A.c_Back) (.ref A.c_Back) = some true
/-! ### is_whole, is_number, is_turn, check_turn -/
abbrev bt : List String := ["NoneType", "bool", "int", "str", "list", "tuple", "dict"]
theorem kit_int {K : PySem.W.Frag} {n : String} (h : n ∈ bt) : PySem.W.kitOne K (.type n) (.type "int") = some (n == "int" || n == "bool") := by
  simp only [List.mem_cons, List.not_mem_nil, or_false] at h
  rcases h with h | h | h | h | h | h | h <;> subst h <;> exact kit_ty (by decide +kernel)
theorem kit_bool {K : PySem.W.Frag} {n : String} (h : n ∈ bt) : PySem.W.kitOne K (.type n) (.type "bool") = some (n == "bool") := by
  simp only [List.mem_cons, List.not_mem_nil, or_false] at h
  rcases h with h | h | h | h | h | h | h <;> subst h <;> exact kit_ty (by decide +kernel)
/-- whether it is an int -/
def isI : V → Bool
  | .int _ => true
  | _ => false
theorem isI_ty {K : PySem.W.Frag} {H : Hp} {x : V} {n : String} (h : TyX K H x (.type n)) : isI x = (n == "int") := by
  generalize ht : Value.type n = t at h
  cases h with
  | base b => cases b <;> first | (cases ht; rfl) | cases ht
  | _ => first | (cases ht; rfl) | cases ht
/-- whether it is a number within the bounds, a round -/
def isNum : V → Bool
  | .int i => decide (-1000000 ≤ i) && decide (i ≤ 1000000)
  | _ => false
def isTurn : V → Bool
  | .int i => decide (1 ≤ i) && decide (i ≤ 1000000)
  | _ => false
/-- a plain thing of a known type -/
def PlainV (K : PySem.W.Frag) (H : Hp) (x : V) : Prop := ∃ n, TyX K H x (.type n) ∧ n ∈ bt
theorem PlainV.up {K : PySem.W.Frag} {H H' : Hp} {x : V} (e : Ex H H') (h : PlainV K H x) : PlainV K H' x := by
  obtain ⟨n, h, m⟩ := h
  exact ⟨n, tyx_up e h, m⟩
theorem plain_int {K : PySem.W.Frag} {H : Hp} {i : Int} : PlainV K H (.int i) := ⟨"int", .base (.int i), by decide⟩
def sp_is_whole (K : PySem.W.Frag) : Sp := spX (fun (d : V) vs H => vs = [d] ∧ PlainV K H d) (fun d _ v _ => v = .bl (isI d))
def sp_is_number (K : PySem.W.Frag) : Sp := spX (fun (d : V) vs H => vs = [d] ∧ PlainV K H d) (fun d _ v _ => v = .bl (isNum d))
def sp_is_turn (K : PySem.W.Frag) : Sp := spX (fun (d : V) vs H => vs = [d] ∧ PlainV K H d) (fun d _ v _ => v = .bl (isTurn d))
section
variable {P : Program} {w : World} {K : PySem.W.Frag} {mg : Str → Option Value} {base : Heap} {A : Ad}
theorem ok_is_whole (T : Txt K mg A) : Okk P w K mg base 1 A.a_is_whole ["thing"] (sp_is_whole K) := by
  refine okk T.F_is_whole sc_is_whole (fun vs H Q E h => ?_) (fun cdv Ar outer s H vs Q E hr h => ?_)
  · obtain ⟨d, ⟨rfl, _⟩, _⟩ := h
    rfl
  · obtain ⟨d, ⟨rfl, n, ht, hn⟩, k⟩ := h
    refine ⟨_, (pss_one (ps_ret (pe_and (pe_callB call_isi (by rfl) T.z_isinstance (by decide +kernel) (pa_cons (pv 0) (pa_cons (pe_bltn (v := .ty "int") (by rfl) T.z_int (by decide +kernel) rfl) pa_nil))) (pe_one (pe_not (pe_callB call_isi (by rfl) T.z_isinstance (by decide +kernel) (pa_cons (pv 0) (pa_cons (pe_bltn (v := .ty "bool") (by rfl) T.z_bool (by decide +kernel) rfl) pa_nil)))))))), ?_⟩
    refine s_ret (ev_andV (ev_isi (ev_var rfl) ev_c (.ty _) ht (kit_int hn)) (fun _ => ev_notV (ev_isi (ev_var rfl) ev_c (.ty _) ht (kit_bool hn)))) fun H1 e1 => k _ _ e1 ?_
    show V.bl _ = V.bl (isI d)
    rw [isI_ty ht]
    simp only [List.mem_cons, List.not_mem_nil, or_false] at hn
    rcases hn with h | h | h | h | h | h | h <;> subst h <;> decide +kernel
theorem ok_is_number (T : Txt K mg A) : Okk P w K mg base 2 A.a_is_number ["thing"] (sp_is_number K) := by
  obtain ⟨_, G_is_whole, b_is_whole, k_is_whole⟩ := ok_is_whole (P := P) (w := w) (base := base) T
  obtain ⟨_, kG⟩ := T.k_GREATEST
  refine okk T.F_is_number sc_is_number (fun vs H Q E h => ?_) (fun cdv Ar outer s H vs Q E hr h => ?_)
  · obtain ⟨d, ⟨rfl, _⟩, _⟩ := h
    rfl
  · obtain ⟨d, ⟨rfl, hp⟩, k⟩ := h
    have hr_is_whole : Room 1 _ := hr.mono (by decide)
    refine ⟨_, (pss_one (ps_ret (pe_and (pe_call G_is_whole hr_is_whole (by rfl) T.g_is_whole k_is_whole b_is_whole .nil pass0 (pa_cons (pv 0) pa_nil)) (pe_one (pe_chain op_le op_le (pe_un un_neg (pe_glob (v := .int 1000000) (by rfl) kG ⟨_, rfl⟩)) (pv 0) (pe_glob (v := .int 1000000) (by rfl) kG ⟨_, rfl⟩)))))), ?_⟩
    refine s_ret (v := .bl (isNum d)) ?_ fun H1 e1 => k _ _ e1 rfl
    have h1 : Ev (tCall (sp_is_whole K) [] E0 (tCons (tVar 0) tNil)) [some d] H (.bl (isI d)) := ev_call0 d (by walk_at "ev") (fun H1 e => ⟨rfl, hp.up e⟩) fun _ _ _ p => p
    cases d with
    | int i => exact ev_is (ev_andV h1 fun _ => by walk_at "ev") rfl
    | _ => exact ev_andV (b := false) h1 fun z => nomatch z
theorem ok_is_turn (T : Txt K mg A) : Okk P w K mg base 2 A.a_is_turn ["thing"] (sp_is_turn K) := by
  obtain ⟨_, G_is_whole, b_is_whole, k_is_whole⟩ := ok_is_whole (P := P) (w := w) (base := base) T
  obtain ⟨_, kG⟩ := T.k_GREATEST
  refine okk T.F_is_turn sc_is_turn (fun vs H Q E h => ?_) (fun cdv Ar outer s H vs Q E hr h => ?_)
  · obtain ⟨d, ⟨rfl, _⟩, _⟩ := h
    rfl
  · obtain ⟨d, ⟨rfl, hp⟩, k⟩ := h
    have hr_is_whole : Room 1 _ := hr.mono (by decide)
    refine ⟨_, (pss_one (ps_ret (pe_and (pe_call G_is_whole hr_is_whole (by rfl) T.g_is_whole k_is_whole b_is_whole .nil pass0 (pa_cons (pv 0) pa_nil)) (pe_one (pe_chain op_le op_le pe_int (pv 0) (pe_glob (v := .int 1000000) (by rfl) kG ⟨_, rfl⟩)))))), ?_⟩
    refine s_ret (v := .bl (isTurn d)) ?_ fun H1 e1 => k _ _ e1 rfl
    have h1 : Ev (tCall (sp_is_whole K) [] E0 (tCons (tVar 0) tNil)) [some d] H (.bl (isI d)) := ev_call0 d (by walk_at "ev") (fun H1 e => ⟨rfl, hp.up e⟩) fun _ _ _ p => p
    cases d with
    | int i => exact ev_is (ev_andV h1 fun _ => by walk_at "ev") rfl
    | _ => exact ev_andV (b := false) h1 fun z => nomatch z
/-- a round is let through -/
def sp_check_turn (K : PySem.W.Frag) : Sp := spX (fun (d : Int) vs _ => vs = [.int d] ∧ 1 ≤ d ∧ d ≤ 1000000) (fun _ _ v _ => v = .non)
theorem ok_check_turn (T : Txt K mg A) : Okk P w K mg base 3 A.a_check_turn ["turn"] (sp_check_turn K) := by
  obtain ⟨_, G_is_turn, b_is_turn, k_is_turn⟩ := ok_is_turn (P := P) (w := w) (base := base) T
  refine okk T.F_check_turn sc_check_turn (fun vs H Q E h => ?_) (fun cdv Ar outer s H vs Q E hr h => ?_)
  · obtain ⟨d, ⟨rfl, _⟩, _⟩ := h
    rfl
  · obtain ⟨d, ⟨rfl, d1, d2⟩, k⟩ := h
    have hr_is_turn : Room 2 _ := hr.mono (by decide)
    refine ⟨_, (pss_one (ps_if (pt_not (pt_val (pe_call G_is_turn hr_is_turn (by rfl) T.g_is_turn k_is_turn b_is_turn .nil pass0 (pa_cons (pv 0) pa_nil)))) (pss_one ps_never) pss_nil)), ?_⟩
    have h1 : Ev (tCall (sp_is_turn K) [] E0 (tCons (tVar 0) tNil)) [some (.int d)] H (.bl true) := ev_call0 (.int d) (by walk_at "ev") (fun H1 e => ⟨rfl, plain_int⟩) fun _ v _ p => by
      rw [p]
      simp only [isTurn, decide_eq_true d1, decide_eq_true d2, Bool.and_self]
    exact s_when (et_not (et_B h1)) (fun z => nomatch z) fun _ H1 e1 => k _ _ e1 rfl
end
/-! ### shares_of -/
def sp_shares_of (_ : PySem.W.Frag) : Sp := spX (fun (d : Int × Int) vs _ => vs = [.int d.1, .int d.2] ∧ d.2.natAbs ≤ 1000000)
  (fun d _ v H' => ∃ p g x y, v = .ref p ∧ H' p = some (.tup [.int g, .int x, .int y]) ∧ Shares d.1 d.2 g x y)
theorem t3_at {i : Nat} {p q r : V} (hi : i < 3) : atI [p, q, r] (i : Int) = some ([p, q, r].getD i .non) := by
  refine atI_nat ?_
  rcases i with _ | _ | _ | i
  · rfl
  · rfl
  · rfl
  · omega
theorem r3 (f : Nat → V) : (List.range 3).map f = [f 0, f 1, f 2] := rfl
section
variable {P : Program} {w : World} {K : PySem.W.Frag} {mg : Str → Option Value} {base : Heap} {A : Ad}
theorem ok_shares_of (T : Txt K mg A) : Okk P w K mg base 1 A.a_shares_of ["one", "other"] (sp_shares_of K) := by
  refine okk T.F_shares_of sc_shares_of (fun vs H Q E h => ?_) (fun cdv Ar outer s H vs Q E hr h => ?_)
  · obtain ⟨d, ⟨rfl, _⟩, _⟩ := h
    rfl
  · obtain ⟨⟨one, other⟩, ⟨rfl, hd⟩, k⟩ := h
    refine ⟨_, (pss_cons (ps_set (i := 2) sc_shares_of.nd rfl (.inr rfl) (pe_tup (pa_cons (pv 0) (pa_cons pe_int (pa_cons pe_int pa_nil)))))
      (pss_cons (ps_set (i := 3) sc_shares_of.nd rfl (.inr rfl) (pe_tup (pa_cons (pv 1) (pa_cons pe_int (pa_cons pe_int pa_nil)))))
      (pss_cons (ps_while PassesOwn.never (pt_cmpR op_ne (pe_ix (ix_tupK K) (pv 3) pe_int (fun _ _ => rfl)) pe_int (nomark _)) (pss_cons (ps_set (i := 4) sc_shares_of.nd rfl (.inr rfl) (pe_op op_fdivN (pe_ix (ix_tupK K) (pv 2) pe_int (fun _ _ => rfl)) (pe_ix (ix_tupK K) (pv 3) pe_int (fun _ _ => rfl))))
      (pss_one (ps_asg (pe_tup (pa_cons (pv 3) (pa_cons (pe_callTy (tuple_ofK K) (by rfl) T.z_tuple (by decide +kernel) (pa_cons (pe_lc (own := [("k", 6)]) rfl sc_shares_of.nd (pi_range1 (by rfl) T.z_range (pa_cons pe_int pa_nil)) (blkOk_by (N := ["one", "other", "here", "there", "times", "part", "k"]) (sc := defScope s_shares_of) (by decide +kernel)) (fun _ _ _ _ _ => (pg_name (i := 6) sc_shares_of.nd rfl (Or.inl rfl))) (fun _ _ _ _ _ => pts_nil) (fun _ _ _ _ _ => (pe_op op_sub (pe_ix (ix_tupK K) (pv 2) (pv 6) (fun _ _ => rfl)) (pe_op op_mul (pv 4) (pe_ix (ix_tupK K) (pv 3) (pv 6) (fun _ _ => rfl)))))) pa_nil)) pa_nil))) (pg_tupK K rfl (pgs_cons (pg_name (i := 2) sc_shares_of.nd rfl (Or.inr rfl)) (pgs_cons (pg_name (i := 3) sc_shares_of.nd rfl (Or.inr rfl)) pgs_nil)))))))
      (pss_cons (ps_if (pt_cmpR op_lt (pe_ix (ix_tupK K) (pv 2) pe_int (fun _ _ => rfl)) pe_int (nomark _)) (pss_one (ps_set (i := 2) sc_shares_of.nd rfl (.inr rfl) (pe_callTy (tuple_ofK K) (by rfl) T.z_tuple (by decide +kernel) (pa_cons (pe_lc (own := [("part", 5)]) rfl sc_shares_of.nd (pi_tupK K (pv 2)) (blkOk_by (N := ["one", "other", "here", "there", "times", "part", "k"]) (sc := defScope s_shares_of) (by decide +kernel)) (fun _ _ _ _ _ => (pg_name (i := 5) sc_shares_of.nd rfl (Or.inl rfl))) (fun _ _ _ _ _ => pts_nil) (fun _ _ _ _ _ => (pe_un un_neg (pv 5)))) pa_nil)))) pss_nil)
      (pss_one (ps_ret (pv 2))))))), ?_⟩
    refine q_asgU (eu_tup (by walk_at "ev") (by walk_at "sz")) fun p H1 hp e1 h1 => ?_
    refine q_asgU (eu_tup (by walk_at "ev") (by walk_at "sz")) fun q H2 hq e2 h2 => ?_
    refine q_while (fun m σ H' => ∃ p q a x y b u v s4 s5 s6, m = b.natAbs ∧ σ = [some (.int one), some (.int other), some (.ref p), some (.ref q), s4, s5, s6] ∧ Ex H H' ∧
      H' p = some (.tup [.int a, .int x, .int y]) ∧ H' q = some (.tup [.int b, .int u, .int v]) ∧ Sh one other a x y b u v) other.natAbs
      ⟨p, q, one, 1, 0, other, 0, 1, none, none, none, rfl, rfl, e1.trans e2, e2 _ _ h1, h2, Sh.start one other⟩ ?_
    rintro m σ H3 ⟨p, q, a, x, y, b, u, v, s4, s5, s6, rfl, rfl, e3, hp3, hq3, sh⟩
    have hb30 : b.natAbs ≤ 1000000 := by
      rcases sh.hs with ⟨_, _, _, e, _⟩ | ⟨h1, h2, _⟩
      · rw [e]; exact hd
      · have : other.natAbs ≤ 1000000 := hd
        omega
    refine ⟨_, (by walk_at "ev"), fun hb H4 e4 => ?_, fun hb H4 e4 => ?_⟩
    · have hb0 : b ≠ 0 := by simpa using hb
      refine ⟨_, fun _ _ n => n, ?_⟩
      have hp4 := e4 _ _ hp3
      have hq4 := e4 _ _ hq3
      refine q_asg (v := .int (a.fdiv b)) (by walk_at "ev" <;> exact ⟨hb0, by omega⟩) fun H5 e5 => ?_
      have hp5 := e5 _ _ hp4
      have hq5 := e5 _ _ hq4
      refine s_asgG (er_tup (T := fun vs H6 => ∃ q2, vs = [.ref q, .ref q2] ∧ H6 q2 = some (.tup [.int (a - a.fdiv b * b), .int (x - a.fdiv b * u), .int (y - a.fdiv b * v)]))
        (ear_cons (evr (ev_var rfl)) fun z1 H6 e6 hz1 => ?_) fun vs H6 h => ?_) fun z H6 e6 hz => ?_
      · subst hz1
        refine ear_cons (er_tupR (xs := [.int (a - a.fdiv b * b), .int (x - a.fdiv b * u), .int (y - a.fdiv b * v)]) (S := LcR 3 (fun j z _ => z = .int ([a, x, y].getD j 0 - a.fdiv b * [b, u, v].getD j 0)) H6)
          (er_lcR (n := 3) _ stb_val (ea_cons ev_c ea_nil) (by decide) (fun _ => rfl) fun i hi => ?_) fun z H7 e7 hz => ?_) fun z2 H7 e7 hz2 => ?_
        · refine evr (v := .int ([a, x, y].getD i 0 - a.fdiv b * [b, u, v].getD i 0)) ?_
          have g1 : ([V.int a, .int x, .int y].getD i .non) = .int ([a, x, y].getD i 0) := by
            rcases i with _ | _ | _ | i <;> first | rfl | omega
          have g2 : ([V.int b, .int u, .int v].getD i .non) = .int ([b, u, v].getD i 0) := by
            rcases i with _ | _ | _ | i <;> first | rfl | omega
          refine ev_op (ev_op (ev_var rfl) (ev_var rfl) (rv_ixT (st_of (e6 _ _ hp5)) ((t3_at hi).trans (by rw [g1])))) (ev_op (ev_var rfl) (ev_op (ev_var rfl) (ev_var rfl) (rv_ixT (st_of (e6 _ _ hq5)) ((t3_at hi).trans (by rw [g2])))) (rv_I ?_)) rv_I0
          rcases sh.hs with ⟨_, _, _, _, eu, ev⟩ | ⟨h1, h2, h3, _⟩
          · right
            subst eu ev
            rcases i with _ | _ | _ | i
            · show -(2 ^ 64) < b ∧ b < 2 ^ 64
              omega
            · show -(2 ^ 64) < (0 : Int) ∧ (0 : Int) < 2 ^ 64
              decide
            · show -(2 ^ 64) < (1 : Int) ∧ (1 : Int) < 2 ^ 64
              decide
            · omega
          · left
            have h5 := div_abs hb0 h3
            have h6 : (a.fdiv b).natAbs * 1 ≤ (a.fdiv b).natAbs * b.natAbs := Nat.mul_le_mul_left _ (by omega)
            have h7 : other.natAbs ≤ 1000000 := hd
            omega
        · obtain ⟨a1, rfl, h⟩ := hz.sq
          exact ⟨a1, rfl, h⟩
        · obtain ⟨q2, rfl, _, h⟩ := hz2
          exact (ear ea_nil).imp fun vs H8 e8 hv => by
            subst hv
            exact ⟨q2, rfl, e8 _ _ h⟩
      · obtain ⟨_, rfl, _⟩ := h
        show 2 ≤ 100000
        decide
      · obtain ⟨t, vs, H7, rfl, _, e7, ⟨q2, rfl, hq2⟩, ht⟩ := hz
        refine g_tup2 (st_of ht) ?_
        have ⟨sh', hlt⟩ := sh.step hb0
        exact ⟨_, hlt, q, q2, _, _, _, _, _, _, _, _, _, rfl, rfl, (e3.trans e4).trans (e5.trans e6), e6 _ _ hq5, e7 _ _ hq2, sh'⟩
    · have hb0 : b = 0 := by simpa using hb
      subst hb0
      have hp4 := e4 _ _ hp3
      have ⟨d1, d2⟩ := sh.done
      refine q_when (by walk_at "ev") (fun ha H5 e5 => ?_) (fun ha H5 e5 => ?_)
      · have ha0 : a < 0 := by simpa using ha
        have hp5 := e5 _ _ hp4
        refine s_asgR (er_tupR (xs := [.int (-a), .int (-x), .int (-y)]) (S := LcR 3 (fun j z _ => z = .int (-[a, x, y].getD j 0)) H5)
          (er_lcTn _ stb_val (ev_var rfl) (st_of hp5) (by show 3 ≤ 40000; decide) (fun _ => rfl) fun i z hz => ?_) fun z H7 e7 hz => ?_) fun z H6 e6 hz => ?_
        · have g : z = .int ([a, x, y].getD i 0) := by
            rcases i with _ | _ | _ | i
            · exact (Option.some.inj hz).symm
            · exact (Option.some.inj hz).symm
            · exact (Option.some.inj hz).symm
            · simp at hz
          subst g
          exact evr (by walk_at "ev")
        · obtain ⟨a1, rfl, h⟩ := hz.sq
          exact ⟨a1, rfl, h⟩
        · obtain ⟨p2, rfl, _, hp2⟩ := hz
          refine s_ret (ev_var rfl) fun H7 e7 => k _ _ (((e3.trans e4).trans (e5.trans e6)).trans e7) ?_
          exact ⟨p2, _, _, _, rfl, e7 _ _ hp2, d2 ha0⟩
      · have ha0 : ¬ a < 0 := by simpa using ha
        refine s_ret (ev_var rfl) fun H6 e6 => k _ _ (((e3.trans e4).trans e5).trans e6) ?_
        exact ⟨p, _, _, _, rfl, e6 _ _ (e5 _ _ hp4), d1 ha0⟩
end
/-! ### lists as a type; all -/
theorem kit_ll {K : PySem.W.Frag} : PySem.W.kitOne K (.type "list") (.type "list") = some true := kit_ty (by decide +kernel)
theorem all_true {α : Type} {l : List α} {f : α → Bool} (h : ∀ x ∈ l, f x = true) : (l.map f).all id = true := by
  rw [List.all_map]
  exact List.all_eq_true.mpr h
theorem map_bl {α : Type} {l : List α} {f : α → Bool} : l.map (fun n => V.bl (f n)) = (l.map f).map V.bl := by
  rw [List.map_map]
  rfl
/-! ### check_numbers of what are numbers -/
def sp_check_numbers (_ : PySem.W.Frag) : Sp := spX (fun (d : V × List Int) vs H => vs = [d.1] ∧ LstAt (iv d.2) d.1 H ∧ d.2.length ≤ 10000 ∧ ∀ n ∈ d.2, -1000000 ≤ n ∧ n ≤ 1000000) (fun _ _ v _ => v = .non)
section
variable {P : Program} {w : World} {K : PySem.W.Frag} {mg : Str → Option Value} {base : Heap} {A : Ad}
theorem ok_check_numbers (T : Txt K mg A) : Okk P w K mg base 3 A.a_check_numbers ["numbers"] (sp_check_numbers K) := by
  obtain ⟨_, G_is_number, b_is_number, k_is_number⟩ := ok_is_number (P := P) (w := w) (base := base) T
  refine okk T.F_check_numbers sc_check_numbers (fun vs H Q E h => ?_) (fun cdv Ar outer s H vs Q E hr h => ?_)
  · obtain ⟨d, ⟨rfl, _⟩, _⟩ := h
    rfl
  · obtain ⟨⟨_, ns⟩, ⟨rfl, ⟨a, rfl, ha⟩, hl, hb⟩, k⟩ := h
    dsimp only at ha hl hb
    have hr_is_number : Room 2 _ := hr.mono (by decide)
    refine ⟨_, (pss_one (ps_if (PW.pt (pw_or (pt_not (pt_val (pe_callB (isiK K) (by rfl) T.z_isinstance (by decide +kernel) (pa_cons (pv 0) (pa_cons (pe_bltn (v := .ty "list") (by rfl) T.z_list (by decide +kernel) rfl) pa_nil))))) (pw_or1 (pt_not (pt_val (pe_callB (allK K rfl) (by rfl) T.z_all (by decide +kernel) (pa_cons (pe_lc (own := [("number", 1)]) rfl sc_check_numbers.nd (pi_listK K (pv 0)) (blkOk_by (N := ["numbers", "number"]) (sc := defScope s_check_numbers) (by decide +kernel)) (fun _ _ _ _ _ => (pg_name (i := 1) sc_check_numbers.nd rfl (Or.inl rfl))) (fun _ _ _ _ _ => pts_nil) (fun _ _ _ _ _ => (pe_call G_is_number hr_is_number (by rfl) T.g_is_number k_is_number b_is_number .nil pass0 (pa_cons (pv 1) pa_nil)))) pa_nil))))))) (pss_one ps_never) pss_nil)), ?_⟩
    refine s_when (b := false) ?_ (fun z => nomatch z) fun _ H1 e1 => k _ _ e1 rfl
    have h1 : Ev (tCB (rAll K) (tCons (tLc (iList K (tVar 0)) (gName 1) tYes (tCall (sp_is_number K) [] E0 (tCons (tVar 1) tNil)) [1]) tNil)) [some (.ref a), none] H (.bl true) := by
      refine ev_is (ev_allN (bs := ns.map fun n => isNum (.int n)) (H0 := H) ?_) (by rw [all_true]; intro n hn; simp only [isNum, decide_eq_true (hb n hn).1, decide_eq_true (hb n hn).2, Bool.and_self])
      rw [← map_bl]
      exact er_lcI (fun n => .bl (isNum (.int n))) (ev_var rfl) (sq_of ha) (by omega) (fun _ => rfl) fun n hn => ev_call0 (.int n) (ea_cons (ev_var rfl) ea_nil) (fun H1 e => ⟨rfl, plain_int⟩) fun _ _ _ p => p
    exact et_is (et_or (et_not (et_B (ev_isi (ev_var rfl) ev_c (.ty _) (.base (.lst ha)) kit_ll))) fun _ => et_not (et_B h1)) rfl
end
/-! ### part_of, _law_part, round_of -/
def sp_part_of (_ : PySem.W.Frag) : Sp := spX (fun (d : Int × Int) vs _ => vs = [.int d.1, .int d.2]) (fun d _ v _ => v = .int (pt d.1 d.2))
section
variable {P : Program} {w : World} {K : PySem.W.Frag} {mg : Str → Option Value} {base : Heap} {A : Ad}
theorem part_body {D : Ends} {H : Hp} {a b : Int} (k : ∀ H', Ex H H' → D.rt (.int (pt a b)) H') :
    tSeq (tPar 0 1 (tCons (tCB (fun xs H Q => ∃ i, xs = [V.int i] ∧ Q (.int (if i < 0 then -i else i)) H) (tCons (tVar 0) tNil)) (tCons (tCB (fun xs H Q => ∃ i, xs = [V.int i] ∧ Q (.int (if i < 0 then -i else i)) H) (tCons (tVar 1) tNil)) tNil)))
      (tSeq (tWhile (tTest (tOp (rI0 fun i j => .bl (decide (j < i))) (tVar 1) (tC (.int 0)))) (tPar 0 1 (tCons (tVar 1) (tCons (tOp (rI (fun _ j => 0 < j) fun i j => .int (i % j)) (tVar 0) (tVar 1)) tNil)))) (tRet (tVar 0))) D [some (.int a), some (.int b)] H := by
  refine q_par (v := .int (if a < 0 then -a else a)) (w := .int (if b < 0 then -b else b)) (ea_cons (ev_cb (ea_cons (ev_var rfl) ea_nil) rc_abs) (ea_cons (ev_cb (ea_cons (ev_var rfl) ea_nil) rc_abs) ea_nil)) rfl fun H1 e1 => ?_
  refine q_while (fun m σ H' => ∃ x y : Int, m = y.toNat ∧ σ = [some (.int x), some (.int y)] ∧ Ex H H' ∧ 0 ≤ x ∧ 0 ≤ y ∧ pt x y = pt a b) _
    ⟨_, _, rfl, rfl, e1, by split <;> omega, by split <;> omega, pt_abs a b⟩ ?_
  rintro m σ H2 ⟨x, y, rfl, rfl, e2, hx, hy, hg⟩
  refine ⟨decide (0 < y), et_test (ev_op (ev_var rfl) ev_c rv_I0), fun hb H3 e3 => ?_, fun hb H3 e3 => ?_⟩
  · have hy0 : 0 < y := of_decide_eq_true hb
    refine ⟨_, fun _ _ n => n, ?_⟩
    refine s_par (v := .int y) (w := .int (x % y)) (ea_cons (ev_var rfl) (ea_cons (ev_op (ev_var rfl) (ev_var rfl) (rv_I hy0)) ea_nil)) rfl fun H4 e4 => ?_
    have h1 := Int.emod_lt_of_pos x hy0
    have h0 := Int.emod_nonneg x (b := y) (by omega)
    exact ⟨(x % y).toNat, by omega, y, x % y, rfl, rfl, e2.trans (e3.trans e4), hy, h0, by rw [pt_step]; exact hg⟩
  · have hy0 : y = 0 := by
      have := of_decide_eq_false hb
      omega
    subst hy0
    refine s_ret (ev_var rfl) fun H4 e4 => ?_
    rw [pt_zero x hx] at hg
    rw [hg]
    exact k _ (e2.trans (e3.trans e4))
theorem ok_part_of (T : Txt K mg A) : Okk P w K mg base 1 A.a_part_of ["one", "other"] (sp_part_of K) := by
  refine okk T.F_part_of sc_part_of (fun vs H Q E h => ?_) (fun cdv Ar outer s H vs Q E hr h => ?_)
  · obtain ⟨d, rfl, _⟩ := h
    rfl
  · obtain ⟨⟨a, b⟩, rfl, k⟩ := h
    exact ⟨_, (pss_cons (ps_par (i := 0) (j := 1) rfl sc_part_of.nd rfl rfl (by decide) rfl rfl (pa_cons (pe_callB call_abs (by rfl) T.z_abs (by decide +kernel) (pa_cons (pv 0) pa_nil)) (pa_cons (pe_callB call_abs (by rfl) T.z_abs (by decide +kernel) (pa_cons (pv 1) pa_nil)) pa_nil)) (by rfl))
      (pss_cons (ps_while PassesOwn.never (pt_cmpR op_gt (pv 1) pe_int (nomark _)) (pss_one (ps_par (i := 0) (j := 1) rfl sc_part_of.nd rfl rfl (by decide) rfl rfl (pa_cons (pv 1) (pa_cons (pe_op op_mod (pv 0) (pv 1)) pa_nil)) (by rfl))))
      (pss_one (ps_ret (pv 0))))), part_body fun H' e => k _ _ e rfl⟩
def sp_l_part (_ : PySem.W.Frag) : Sp := spX (fun (d : Int × Int) vs _ => vs = [.int d.1, .int d.2]) (fun d _ v _ => v = .int (pt d.1 d.2))
theorem ok_l_part (T : Txt K mg A) : Okk P w K mg base 1 A.a_l_part ["_law_one", "_law_other"] (sp_l_part K) := by
  refine okk T.F_l_part sc_l_part (fun vs H Q E h => ?_) (fun cdv Ar outer s H vs Q E hr h => ?_)
  · obtain ⟨d, rfl, _⟩ := h
    rfl
  · obtain ⟨⟨a, b⟩, rfl, k⟩ := h
    exact ⟨_, (pss_cons (ps_par (i := 0) (j := 1) rfl sc_l_part.nd rfl rfl (by decide) rfl rfl (pa_cons (pe_callB call_abs (by rfl) T.z_abs (by decide +kernel) (pa_cons (pv 0) pa_nil)) (pa_cons (pe_callB call_abs (by rfl) T.z_abs (by decide +kernel) (pa_cons (pv 1) pa_nil)) pa_nil)) (by rfl))
      (pss_cons (ps_while PassesOwn.never (pt_cmpR op_gt (pv 1) pe_int (nomark _)) (pss_one (ps_par (i := 0) (j := 1) rfl sc_l_part.nd rfl rfl (by decide) rfl rfl (pa_cons (pv 1) (pa_cons (pe_op op_mod (pv 0) (pv 1)) pa_nil)) (by rfl))))
      (pss_one (ps_ret (pv 0))))), part_body fun H' e => k _ _ e rfl⟩
theorem ev_part {σ : L2.St} {H : Hp} {ta tb : TE} {a b : Int} {E : XK} (h : Ev ta σ H (.int a)) (h2 : Ev tb σ H (.int b)) : Ev (tCall (sp_part_of K) [] E (tCons ta (tCons tb tNil))) σ H (.int (pt a b)) :=
  ev_call0 (a, b) (ea_cons h (ea_cons h2 ea_nil)) (fun H1 e => rfl) fun _ _ _ p => p
theorem ev_lpart {σ : L2.St} {H : Hp} {ta tb : TE} {a b : Int} {E : XK} (h : Ev ta σ H (.int a)) (h2 : Ev tb σ H (.int b)) : Ev (tCall (sp_l_part K) [] E (tCons ta (tCons tb tNil))) σ H (.int (pt a b)) :=
  ev_call0 (a, b) (ea_cons h (ea_cons h2 ea_nil)) (fun H1 e => rfl) fun _ _ _ p => p
/-- pairs that are rests -/
def Rsts (H : Hp) (v : V) (rs : List (Int × Int)) : Prop := RsAt H v rs ∧ rs.length ≤ 10000 ∧ ∀ p ∈ rs, RstOk p
theorem Rsts.up {H H' : Hp} {v : V} {rs : List (Int × Int)} (e : Ex H H') (h : Rsts H v rs) : Rsts H' v rs := ⟨h.1.up e, h.2⟩
theorem rst_at {rs : List (Int × Int)} (ho : ∀ p ∈ rs, RstOk p) {i : Nat} (hi : i < rs.length) : RstOk (rs.getD i (0, 1)) := by
  rw [List.getD_eq_getElem?_getD, List.getElem?_eq_getElem hi]
  exact ho _ (List.getElem_mem hi)
theorem take_snoc {rs : List (Int × Int)} {i : Nat} (hi : i < rs.length) : rs.take (i + 1) = rs.take i ++ [rs.getD i (0, 1)] := by
  rw [List.take_add_one, List.getElem?_eq_getElem hi, List.getD_eq_getElem?_getD, List.getElem?_eq_getElem hi]
  rfl
theorem lcm_pos : ∀ (rs : List (Int × Int)) (w : Int), (∀ p ∈ rs, RstOk p) → 0 < w → 0 < rs.foldl (fun w p => w / pt w p.2 * p.2) w
  | [], w, _, h => h
  | p :: rs, w, ho, h => lcm_pos rs _ (fun q hq => ho q (List.mem_cons_of_mem _ hq)) (lcm_step h (by
      have h := ho p List.mem_cons_self
      have := h.1
      have := h.2.1
      omega)).1
theorem lcmOf_pos {rs : List (Int × Int)} (ho : ∀ p ∈ rs, RstOk p) : 0 < lcmOf rs := lcm_pos rs 1 ho (by decide)
def sp_round_of (_ : PySem.W.Frag) : Sp := spX (fun (d : V × List (Int × Int)) vs H => vs = [d.1] ∧ Rsts H d.1 d.2) (fun d _ v _ => v = .int (lcmOf d.2))
theorem ok_round_of (T : Txt K mg A) : Okk P w K mg base 2 A.a_round_of ["rests"] (sp_round_of K) := by
  obtain ⟨_, G_part_of, b_part_of, k_part_of⟩ := ok_part_of (P := P) (w := w) (base := base) T
  refine okk T.F_round_of sc_round_of (fun vs H Q E h => ?_) (fun cdv Ar outer s H vs Q E hr h => ?_)
  · obtain ⟨d, ⟨rfl, _⟩, _⟩ := h
    rfl
  · obtain ⟨⟨_, rs⟩, ⟨rfl, ⟨a, xs, rfl, ha, hrs⟩, hl, ho⟩, k⟩ := h
    dsimp only at ha hrs hl ho
    have hr_part_of : Room 1 _ := hr.mono (by decide)
    refine ⟨_, (pss_cons (ps_set (i := 1) sc_round_of.nd rfl (.inl rfl) pe_int)
      (pss_cons (ps_for PassesOwn.never rfl (pi_listK K (pv 0)) (pg_tupK (n := 2) K rfl (pgs_cons (pg_name (i := 2) sc_round_of.nd rfl (Or.inl rfl)) (pgs_cons (pg_name (i := 3) sc_round_of.nd rfl (Or.inl rfl)) pgs_nil))) (pss_one (ps_set (i := 1) sc_round_of.nd rfl (.inl rfl) (pe_op op_mul (pe_op op_fdiv (pv 1) (pe_call G_part_of hr_part_of (by rfl) T.g_part_of k_part_of b_part_of .nil pass0 (pa_cons (pv 1) (pa_cons (pv 3) pa_nil)))) (pv 3)))))
      (pss_one (ps_ret (pv 1))))), ?_⟩
    refine q_asg ev_c fun H1 e1 => ?_
    refine q_forRs (ev_var rfl) (e1 _ _ ha) (hrs.up e1) (fun i σ' H' => ∃ s2 s3 : Option V, σ' = [some (.ref a), some (.int (lcmOf (rs.take i))), s2, s3] ∧ Ex H1 H') (fun H2 e2 => ⟨_, _, rfl, e2⟩) (fun i σ' H' ⟨_, _, _, e⟩ => e) (fun i σ' H' hi ⟨s2, s3, hσ, e⟩ => ?_) fun σ' H' ⟨s2, s3, hσ, e⟩ => ?_
    · subst hσ
      have hp := rst_at ho hi
      have ht : 0 < (rs.getD i (0, 1)).2 := by have := hp.1; have := hp.2.1; omega
      have hg := pt_pos_r (lcmOf (rs.take i)) ht
      have hgl := pt_le_r (lcmOf (rs.take i)) ht
      have ht2 := hp.2.2
      have hs : lcmOf (rs.take (i + 1)) = lcmOf (rs.take i) / pt (lcmOf (rs.take i)) (rs.getD i (0, 1)).2 * (rs.getD i (0, 1)).2 := by rw [take_snoc hi, lcmOf_snoc]
      refine s_asg (v := .int (lcmOf (rs.take (i + 1)))) (ev_is (ev_op (ev_op (ev_var rfl) (ev_part (ev_var rfl) (ev_var rfl)) (rv_I ⟨hg, by omega⟩)) (ev_var rfl) (rv_I (.inr (by omega)))) (by rw [hs])) fun H2 e2 => ⟨some (.int (rs.getD i (0, 1)).1), some (.int (rs.getD i (0, 1)).2), rfl, e.trans e2⟩
    · subst hσ
      refine s_ret (ev_var rfl) fun H2 e2 => k _ _ (e1.trans (e.trans e2)) ?_
      rw [List.take_length]
end
/-! ### check_rests of what are rests -/
def sp_is_rest (_ : PySem.W.Frag) : Sp := spX (fun (d : V × Int × Int) vs H => vs = [d.1] ∧ PairAt H d.1 d.2 ∧ RstOk d.2) (fun _ _ v _ => v = .bl true)
def sp_check_rests (_ : PySem.W.Frag) : Sp := spX (fun (d : V × List (Int × Int)) vs H => vs = [d.1] ∧ Rsts H d.1 d.2) (fun _ _ v _ => v = .non)
section
variable {P : Program} {w : World} {K : PySem.W.Frag} {mg : Str → Option Value} {base : Heap} {A : Ad}
theorem ok_is_rest (T : Txt K mg A) : Okk P w K mg base 3 A.a_is_rest ["pair"] (sp_is_rest K) := by
  obtain ⟨_, G_is_turn, b_is_turn, k_is_turn⟩ := ok_is_turn (P := P) (w := w) (base := base) T
  obtain ⟨_, G_is_whole, b_is_whole, k_is_whole⟩ := ok_is_whole (P := P) (w := w) (base := base) T
  refine okk T.F_is_rest sc_is_rest (fun vs H Q E h => ?_) (fun cdv Ar outer s H vs Q E hr h => ?_)
  · obtain ⟨d, ⟨rfl, _⟩, _⟩ := h
    rfl
  · obtain ⟨⟨_, r, t⟩, ⟨rfl, ⟨p, rfl, hp⟩, h0, h1, h2⟩, k⟩ := h
    dsimp only at hp h0 h1 h2
    have hr_is_turn : Room 2 _ := hr.mono (by decide)
    have hr_is_whole : Room 1 _ := hr.mono (by decide)
    refine ⟨_, (pss_cons (ps_if (PW.pt (pw_or (pt_not (pt_val (pe_callB (isiK K) (by rfl) T.z_isinstance (by decide +kernel) (pa_cons (pv 0) (pa_cons (pe_bltn (v := .ty "tuple") (by rfl) T.z_tuple (by decide +kernel) rfl) pa_nil))))) (pw_or1 (pt_cmpR op_ne (pe_callB (len_seqK K) (by rfl) T.z_len (by decide +kernel) (pa_cons (pv 0) pa_nil)) pe_int (nomark _))))) (pss_one (ps_ret pe_bl)) pss_nil)
      (pss_one (ps_ret (pe_and (pe_call G_is_turn hr_is_turn (by rfl) T.g_is_turn k_is_turn b_is_turn .nil pass0 (pa_cons (pe_ix (ix_tupK K) (pv 0) pe_int (fun _ _ => rfl)) pa_nil)) (pe_and (pe_call G_is_whole hr_is_whole (by rfl) T.g_is_whole k_is_whole b_is_whole .nil pass0 (pa_cons (pe_ix (ix_tupK K) (pv 0) pe_int (fun _ _ => rfl)) pa_nil)) (pe_one (pe_chain op_le op_lt pe_int (pe_ix (ix_tupK K) (pv 0) pe_int (fun _ _ => rfl)) (pe_ix (ix_tupK K) (pv 0) pe_int (fun _ _ => rfl))))))))), ?_⟩
    refine q_when (b := false) ?_ (fun z => nomatch z) fun _ H1 e1 => ?_
    · refine et_is (et_or (et_not (et_B (ev_isi (ev_var rfl) ev_c (.ty _) (.base (.tup hp)) kit_tt))) fun _ => et_test (ev_op (show Ev (tCB (rLenQ K) (tCons (tVar 0) tNil)) _ _ (.int 2) from fun H1 e Q q => ⟨_, rfl, p, _, rfl, .inr (ex_t e (st_of hp)), q H1 (Ex.refl _)⟩) ev_c rv_neI)) rfl
    · have hp1 := e1 _ _ hp
      refine s_ret (v := .bl true) (ev_andV (a := true) (b := true) (ev_call0 (V.int t) (ea_cons (ev_p1 (ev_var rfl) hp1) ea_nil) (fun H1 e => ⟨rfl, plain_int⟩) fun _ v _ q => ?_) fun _ => ev_andV (a := true) (b := true) (ev_call0 (V.int r) (ea_cons (ev_p0 (ev_var rfl) hp1) ea_nil) (fun H1 e => ⟨rfl, plain_int⟩) fun _ v _ q => q)
        fun _ => ev_is (ev_chain ev_c (ev_p0 (ev_var rfl) hp1) rv_I0 (fun _ => ev_p1 (ev_var rfl) hp1) fun _ => rv_I0) ?_) fun H2 e2 => k _ _ (e1.trans e2) rfl
      · rw [q]
        simp only [isTurn, decide_eq_true (show 1 ≤ t by omega), decide_eq_true h2, Bool.and_self]
      · rw [decide_eq_true h0, decide_eq_true h1]
        rfl
theorem ok_check_rests (T : Txt K mg A) : Okk P w K mg base 4 A.a_check_rests ["rests"] (sp_check_rests K) := by
  obtain ⟨_, G_is_rest, b_is_rest, k_is_rest⟩ := ok_is_rest (P := P) (w := w) (base := base) T
  refine okk T.F_check_rests sc_check_rests (fun vs H Q E h => ?_) (fun cdv Ar outer s H vs Q E hr h => ?_)
  · obtain ⟨d, ⟨rfl, _⟩, _⟩ := h
    rfl
  · obtain ⟨⟨_, rs⟩, ⟨rfl, ⟨a, xs, rfl, ha, hrs⟩, hl, ho⟩, k⟩ := h
    dsimp only at ha hrs hl ho
    have hr_is_rest : Room 3 _ := hr.mono (by decide)
    refine ⟨_, (pss_one (ps_if (PW.pt (pw_or (pt_not (pt_val (pe_callB (isiK K) (by rfl) T.z_isinstance (by decide +kernel) (pa_cons (pv 0) (pa_cons (pe_bltn (v := .ty "list") (by rfl) T.z_list (by decide +kernel) rfl) pa_nil))))) (pw_or1 (pt_not (pt_val (pe_callB (allK K rfl) (by rfl) T.z_all (by decide +kernel) (pa_cons (pe_lc (own := [("pair", 1)]) rfl sc_check_rests.nd (pi_listK K (pv 0)) (blkOk_by (N := ["rests", "pair"]) (sc := defScope s_check_rests) (by decide +kernel)) (fun _ _ _ _ _ => (pg_name (i := 1) sc_check_rests.nd rfl (Or.inl rfl))) (fun _ _ _ _ _ => pts_nil) (fun _ _ _ _ _ => (pe_call G_is_rest hr_is_rest (by rfl) T.g_is_rest k_is_rest b_is_rest .nil pass0 (pa_cons (pv 1) pa_nil)))) pa_nil))))))) (pss_one ps_never) pss_nil)), ?_⟩
    refine s_when (b := false) ?_ (fun z => nomatch z) fun _ H1 e1 => k _ _ e1 rfl
    refine et_is (et_or (et_not (et_B (ev_isi (ev_var rfl) ev_c (.ty _) (.base (.lst ha)) kit_ll))) fun _ => et_not (et_B (ev_is (ev_allR (bs := (List.range xs.length).map fun _ => true) (er_lcLn (fun j y _ => y = .bl true) stb_val (ev_var rfl) (sq_of ha) (by rw [hrs.len]; omega) (fun _ => rfl) fun i x hi => ?_) fun v H1 _ h => ?_) (congrArg V.bl (all_true fun _ _ => rfl))))) rfl
    · obtain ⟨hi', hp⟩ := hrs.get hi
      exact evr (ev_call0 (x, rs.getD i (0, 1)) (ea_cons (ev_var rfl) ea_nil) (fun H1 e => ⟨rfl, hp.up e, rst_at ho hi'⟩) fun _ _ _ p => p)
    · have h2 := LcR.sq (K := K) h
      rw [List.map_map]
      exact h2
end
/-! ### Number, Clash: made, asked; told, left -/
def spI2 (C : Addr) (f g : Str) : Sp := spI C (fun us _ => ∃ x y, us = [x, y]) (fun us _ _ fs => ∃ x y, us = [x, y] ∧ fs = [(f, x), (g, y)])
def NumAt (A : Ad) (H : Hp) (v : V) (n t : Int) : Prop := ∃ a dx, v = .ref a ∧ H a = some (.ins A.c_Number dx [("number", .int n), ("turn", .int t)])
def ClashAt (A : Ad) (H : Hp) (v : V) (i j : Int) : Prop := ∃ a dx, v = .ref a ∧ H a = some (.ins A.c_Clash dx [("one", .int i), ("other", .int j)])
theorem NumAt.up {A : Ad} {H H' : Hp} {v : V} {n t : Int} (e : Ex H H') (h : NumAt A H v n t) : NumAt A H' v n t := by
  obtain ⟨a, dx, r, h⟩ := h
  exact ⟨a, dx, r, e _ _ h⟩
theorem ClashAt.up {A : Ad} {H H' : Hp} {v : V} {n t : Int} (e : Ex H H') (h : ClashAt A H v n t) : ClashAt A H' v n t := by
  obtain ⟨a, dx, r, h⟩ := h
  exact ⟨a, dx, r, e _ _ h⟩
theorem er_make2 {σ : L2.St} {H : Hp} {ta tb : TE} {C : Addr} {f g : Str} {E : XK} {x y : V} (h : Ev ta σ H x) (h2 : Ev tb σ H y) : EvR (tMake C (spI2 C f g) [] E (tCons ta (tCons tb tNil))) σ H (fun v H2 => ∃ a dx, v = .ref a ∧ H a = none ∧ H2 a = some (.ins C dx [(f, x), (g, y)])) :=
  er_make (ear (ea_cons h (ea_cons h2 ea_nil))) (fun us H1 H2 _ p _ => ⟨_, _, p⟩) fun us H1 H2 H3 fs a dx e p _ _ ha hi ⟨x', y', hy, hf⟩ => by
    subst hf
    rw [p] at hy
    cases hy
    exact ⟨a, dx, rfl, fresh_back e ha, hi⟩
def sp_Number_shows (A : Ad) : Sp := spX (fun (d : V × Int × Int × V × List (Int × Int)) vs H => vs = [d.1, d.2.2.2.1] ∧ NumAt A H d.1 d.2.1 d.2.2.1 ∧ Rsts H d.2.2.2.1 d.2.2.2.2) (fun d _ v _ => v = .bl (numF d.2.1 d.2.2.1 d.2.2.2.2))
def sp_Clash_shows (A : Ad) : Sp := spX (fun (d : V × Int × Int × V × List (Int × Int)) vs H => vs = [d.1, d.2.2.2.1] ∧ ClashAt A H d.1 d.2.1 d.2.2.1 ∧ Rsts H d.2.2.2.1 d.2.2.2.2) (fun d _ v _ => v = .bl (clashF d.2.1 d.2.2.1 d.2.2.2.2))
def sp_clash_of (_ : PySem.W.Frag) : Sp := spX (fun (d : V × Nat × List (Int × Int)) vs H => vs = [d.1, .int d.2.1] ∧ Rsts H d.1 d.2.2 ∧ d.2.1 < d.2.2.length ∧ ∃ i, ClashOk i d.2.1 d.2.2) (fun d _ v _ => ∃ i : Nat, v = .int i ∧ ClashOk i d.2.1 d.2.2)
def sp_told (A : Ad) : Sp := spX (fun (d : V × List (Int × Int)) vs H => vs = [d.1] ∧ Rsts H d.1 d.2)
  (fun d _ v H' => (∃ n w, NumAt A H' v n w ∧ ToldOk d.2 n w) ∨ ∃ i j : Nat, ClashAt A H' v i j ∧ ClashOk i j d.2)
def sp_left (_ : PySem.W.Frag) : Sp := spX (fun (d : V × Int × List Int) vs H => vs = [.int d.2.1, d.1] ∧ LstAt (iv d.2.2) d.1 H ∧ d.2.2.length ≤ 10000 ∧ ∀ t ∈ d.2.2, 1 ≤ t ∧ t ≤ 1000000) (fun d _ v H' => RsAt H' v (d.2.2.map fun t => (d.2.1 % t, t)))
theorem trn : (("turn" : Str) == ("number" : Str)) = false := by decide +kernel
theorem otr : (("other" : Str) == ("one" : Str)) = false := by decide +kernel
section
variable {P : Program} {w : World} {K : PySem.W.Frag} {mg : Str → Option Value} {base : Heap} {A : Ad}
theorem ok_Number_init (T : Txt K mg A) : Okk P w K mg base 1 A.a_Number_init ["self", "number", "turn"] (spI2 A.c_Number "number" "turn") := by
  refine okk T.F_Number_init sc_Number_init (fun vs H Q E h => ?_) (fun cdv Ar outer s H vs Q E hr h => ?_)
  · obtain ⟨x, dx, us, rfl, _, ⟨y, z, rfl⟩, _⟩ := h
    rfl
  · obtain ⟨x, dx, us, rfl, hx, ⟨y, z, rfl⟩, k⟩ := h
    refine ⟨_, (pss_cons (ps_fld (pv 0) (pv 1) rfl)
      (pss_one (ps_fld (pv 0) (pv 2) rfl))), ?_⟩
    refine ⟨_, rfl, _, rfl, x, A.c_Number, dx, _, rfl, hx, T.cl_Number, T.n_Number_number, (by decide), _, rfl, _, rfl, x, A.c_Number, dx, _, rfl, upd_same, T.cl_Number, T.n_Number_turn, (by show 1 < 1000; decide), ?_⟩
    refine k _ _ (fun b o hb h => by rw [upd_ne hb, upd_ne hb]; exact h) upd_same ⟨y, z, rfl, ?_⟩
    show (if ("number" : Str) = "turn" then _ else _) = _
    rw [if_neg (by decide +kernel)]
    rfl
theorem ok_Clash_init (T : Txt K mg A) : Okk P w K mg base 1 A.a_Clash_init ["self", "one", "other"] (spI2 A.c_Clash "one" "other") := by
  refine okk T.F_Clash_init sc_Clash_init (fun vs H Q E h => ?_) (fun cdv Ar outer s H vs Q E hr h => ?_)
  · obtain ⟨x, dx, us, rfl, _, ⟨y, z, rfl⟩, _⟩ := h
    rfl
  · obtain ⟨x, dx, us, rfl, hx, ⟨y, z, rfl⟩, k⟩ := h
    refine ⟨_, (pss_cons (ps_fld (pv 0) (pv 1) rfl)
      (pss_one (ps_fld (pv 0) (pv 2) rfl))), ?_⟩
    refine ⟨_, rfl, _, rfl, x, A.c_Clash, dx, _, rfl, hx, T.cl_Clash, T.n_Clash_one, (by decide), _, rfl, _, rfl, x, A.c_Clash, dx, _, rfl, upd_same, T.cl_Clash, T.n_Clash_other, (by show 1 < 1000; decide), ?_⟩
    refine k _ _ (fun b o hb h => by rw [upd_ne hb, upd_ne hb]; exact h) upd_same ⟨y, z, rfl, ?_⟩
    show (if ("one" : Str) = "other" then _ else _) = _
    rw [if_neg (by decide +kernel)]
    rfl
theorem ok_Number_shows (T : Txt K mg A) : Okk P w K mg base 3 A.a_Number_shows ["self", "rests"] (sp_Number_shows A) := by
  obtain ⟨_, G_round_of, b_round_of, k_round_of⟩ := ok_round_of (P := P) (w := w) (base := base) T
  refine okk T.F_Number_shows sc_Number_shows (fun vs H Q E h => ?_) (fun cdv Ar outer s H vs Q E hr h => ?_)
  · obtain ⟨d, ⟨rfl, _⟩, _⟩ := h
    rfl
  · obtain ⟨⟨_, n, t, _, rs⟩, ⟨rfl, ⟨o, dx, rfl, hobj⟩, hR⟩, k⟩ := h
    dsimp only at hobj hR
    obtain ⟨⟨a, xs, rfl, ha, hrs⟩, hl, ho⟩ := id hR
    have hr_round_of : Room 2 _ := hr.mono (by decide)
    refine ⟨_, (pss_cons (ps_if (PW.pt (pw_or (pt_cmpR op_ne (pe_fldK K (pv 0) rfl) (pe_call G_round_of hr_round_of (by rfl) T.g_round_of k_round_of b_round_of .nil pass0 (pa_cons (pv 1) pa_nil)) (nomark _)) (pw_or1 (pt_not (pt_chain op_le op_lt pe_int (pe_fldK K (pv 0) rfl) (pe_fldK K (pv 0) rfl)))))) (pss_one (ps_ret pe_bl)) pss_nil)
      (pss_one (ps_ret (pe_callB (allK K rfl) (by rfl) T.z_all (by decide +kernel) (pa_cons (pe_lc (own := [("rest", 2), ("turn", 3)]) rfl sc_Number_shows.nd (pi_listK K (pv 1)) (blkOk_by (N := ["self", "rests", "rest", "turn"]) (sc := defScope s_Number_shows) (by decide +kernel)) (fun _ _ _ _ _ => (pg_tupK (n := 2) K rfl (pgs_cons (pg_name (i := 2) sc_Number_shows.nd rfl (Or.inl rfl)) (pgs_cons (pg_name (i := 3) sc_Number_shows.nd rfl (Or.inl rfl)) pgs_nil)))) (fun _ _ _ _ _ => pts_nil) (fun _ _ _ _ _ => (pe_cmpR op_eq (pe_op op_mod (pe_fldK K (pv 0) rfl) (pv 3)) (pv 2) (nomark _)))) pa_nil))))), ?_⟩
    have fn : ∀ σ : L2.St, σ[0]? = some (some (.ref o)) → ∀ H1, Ex H H1 → Ev (tFld K (tVar 0) "number") σ H1 (.int n) := fun σ hσ H1 e => ev_fld (ev_var hσ) (e _ _ hobj) T.cl_Number T.n_Number_number lk21
    have ft : ∀ σ : L2.St, σ[0]? = some (some (.ref o)) → ∀ H1, Ex H H1 → Ev (tFld K (tVar 0) "turn") σ H1 (.int t) := fun σ hσ H1 e => ev_fld (ev_var hσ) (e _ _ hobj) T.cl_Number T.n_Number_turn (lk22 trn)
    refine q_when (b := !decide (t = lcmOf rs) || !(decide (0 ≤ n) && decide (n < t))) ?_ (fun hb H1 e1 => ?_) (fun hb H1 e1 => ?_)
    · exact et_or (et_test (ev_op (ft _ rfl _ (Ex.refl _)) (ev_call0 (V.ref a, rs) (ea_cons (ev_var rfl) ea_nil) (fun H1 e => ⟨rfl, hR.up e⟩) fun _ _ _ p => p) rv_neI)) fun _ => et_not (et_test (ev_chain ev_c (fn _ rfl _ (Ex.refl _)) rv_I0 (fun _ => ft _ rfl _ (Ex.refl _)) fun _ => rv_I0))
    · refine s_ret ev_c fun H2 e2 => k _ _ (e1.trans e2) ?_
      show V.bl false = V.bl (numF n t rs)
      unfold numF
      rw [hb]
      rfl
    · have hd : numF n t rs = rs.all fun p => decide (n % p.2 = p.1) := by
        unfold numF
        rw [hb]
        simp
      refine s_ret (v := .bl (numF n t rs)) (ev_is (ev_allN (bs := rs.map fun p => decide (n % p.2 = p.1)) (H0 := H1) ?_) (by rw [hd, List.all_map]; rfl)) fun H2 e2 => k _ _ (e1.trans e2) rfl
      rw [← map_bl]
      exact er_lcRsV (fun p => .bl (decide (n % p.2 = p.1))) (ev_var rfl) (e1 _ _ ha) (hrs.up e1) (by omega) (fun _ _ => rfl) fun p hp => ev_op (ev_op (fn _ rfl _ e1) (ev_var rfl) (rv_I (by have h := ho p hp; have := h.1; have := h.2.1; omega))) (ev_var rfl) rv_eqI
/-- (rests[i][0] - rests[j][0]) % part_of(..) by places that are there -/
theorem ok_Clash_shows (T : Txt K mg A) : Okk P w K mg base 2 A.a_Clash_shows ["self", "rests"] (sp_Clash_shows A) := by
  obtain ⟨_, G_part_of, b_part_of, k_part_of⟩ := ok_part_of (P := P) (w := w) (base := base) T
  refine okk T.F_Clash_shows sc_Clash_shows (fun vs H Q E h => ?_) (fun cdv Ar outer s H vs Q E hr h => ?_)
  · obtain ⟨d, ⟨rfl, _⟩, _⟩ := h
    rfl
  · obtain ⟨⟨_, i, j, _, rs⟩, ⟨rfl, ⟨o, dx, rfl, hobj⟩, hR⟩, k⟩ := h
    dsimp only at hobj hR
    obtain ⟨⟨a, xs, rfl, ha, hrs⟩, hl, ho⟩ := id hR
    have hr_part_of : Room 1 _ := hr.mono (by decide)
    refine ⟨_, (pss_cons (ps_if (pt_not (pt_chain3 op_le op_lt op_lt pe_int (pe_fldK K (pv 0) rfl) (pe_fldK K (pv 0) rfl) (pe_callB (len_seqK K) (by rfl) T.z_len (by decide +kernel) (pa_cons (pv 1) pa_nil)))) (pss_one (ps_ret pe_bl)) pss_nil)
      (pss_cons (ps_par (i := 2) (j := 3) rfl sc_Clash_shows.nd rfl rfl (by decide) rfl rfl (pa_cons (pe_ix (ix_listK K) (pv 1) (pe_fldK K (pv 0) rfl) (fun _ _ => rfl)) (pa_cons (pe_ix (ix_listK K) (pv 1) (pe_fldK K (pv 0) rfl) (fun _ _ => rfl)) pa_nil)) (by rfl))
      (pss_one (ps_ret (pe_cmpR op_ne (pe_op op_mod (pe_op op_sub (pe_ix (ix_tupK K) (pv 2) pe_int (fun _ _ => rfl)) (pe_ix (ix_tupK K) (pv 3) pe_int (fun _ _ => rfl))) (pe_call G_part_of hr_part_of (by rfl) T.g_part_of k_part_of b_part_of .nil pass0 (pa_cons (pe_ix (ix_tupK K) (pv 2) pe_int (fun _ _ => rfl)) (pa_cons (pe_ix (ix_tupK K) (pv 3) pe_int (fun _ _ => rfl)) pa_nil)))) pe_int (nomark _)))))), ?_⟩
    have f1 : ∀ σ : L2.St, σ[0]? = some (some (.ref o)) → ∀ H1, Ex H H1 → Ev (tFld K (tVar 0) "one") σ H1 (.int i) := fun σ hσ H1 e => ev_fld (ev_var hσ) (e _ _ hobj) T.cl_Clash T.n_Clash_one lk21
    have f2 : ∀ σ : L2.St, σ[0]? = some (some (.ref o)) → ∀ H1, Ex H H1 → Ev (tFld K (tVar 0) "other") σ H1 (.int j) := fun σ hσ H1 e => ev_fld (ev_var hσ) (e _ _ hobj) T.cl_Clash T.n_Clash_other (lk22 otr)
    refine q_when (b := !(decide (0 ≤ i) && (decide (i < j) && decide (j < rs.length)))) (et_not (et_test (ev_chain3 ev_c (f1 _ rfl _ (Ex.refl _)) rv_I0 (fun _ => f2 _ rfl _ (Ex.refl _)) (fun _ => rv_I0) (fun _ _ => ev_is (ev_lenL (ev_var rfl) (sq_of ha)) (by rw [hrs.len])) fun _ _ => rv_I0))) (fun hb H1 e1 => ?_) (fun hb H1 e1 => ?_)
    · refine s_ret ev_c fun H2 e2 => k _ _ (e1.trans e2) ?_
      show V.bl false = V.bl (clashF i j rs)
      have hb' : (decide (0 ≤ i) && (decide (i < j) && decide (j < rs.length))) = false := by rw [Bool.not_eq_true'] at hb; exact hb
      unfold clashF
      rw [hb']
      rfl
    · have hb' : (decide (0 ≤ i) && (decide (i < j) && decide (j < rs.length))) = true := by rw [Bool.not_eq_false'] at hb; exact hb
      have hcl : clashF i j rs = !decide (((rs.getD i.toNat (0, 1)).1 - (rs.getD j.toNat (0, 1)).1) % pt (rs.getD i.toNat (0, 1)).2 (rs.getD j.toNat (0, 1)).2 = 0) := by
        unfold clashF
        rw [hb']
        rfl
      simp only [Bool.and_eq_true, decide_eq_true_eq] at hb'
      obtain ⟨hi0, hij, hjl⟩ := hb'
      have ei : i = (i.toNat : Int) := by omega
      have ej : j = (j.toNat : Int) := by omega
      obtain ⟨t1, x1, ht1⟩ := hrs.at (i := i.toNat) (by omega)
      obtain ⟨t2, x2, ht2⟩ := hrs.at (i := j.toNat) (by omega)
      have hj2 := rst_at ho (i := j.toNat) (by omega)
      have hg := pt_pos_r (rs.getD i.toNat (0, 1)).2 (b := (rs.getD j.toNat (0, 1)).2) (by have := hj2.1; have := hj2.2.1; omega)
      have hxs := e1 _ _ ha
      refine q_par (v := .ref t1) (w := .ref t2) (ea_cons (ev_op (ev_var rfl) (f1 _ rfl _ e1) (rv_ixL (sq_of hxs) (by rw [ei]; exact atI_nat x1))) (ea_cons (ev_op (ev_var rfl) (f2 _ rfl _ e1) (rv_ixL (sq_of hxs) (by rw [ej]; exact atI_nat x2))) ea_nil)) rfl fun H2 e2 => ?_
      have h1 := e2 _ _ (e1 _ _ ht1)
      have h2 := e2 _ _ (e1 _ _ ht2)
      refine s_ret (v := .bl (clashF i j rs)) (ev_is (ev_op (ev_op (ev_op (ev_p0 (ev_var rfl) h1) (ev_p0 (ev_var rfl) h2) rv_I0) (ev_part (ev_p1 (ev_var rfl) h1) (ev_p1 (ev_var rfl) h2)) (rv_I hg)) ev_c rv_neI) (by rw [hcl])) fun H3 e3 => k _ _ (e1.trans (e2.trans e3)) rfl
theorem ok_clash_of (T : Txt K mg A) : Okk P w K mg base 2 A.a_clash_of ["rests", "last"] (sp_clash_of K) := by
  obtain ⟨_, G_part_of, b_part_of, k_part_of⟩ := ok_part_of (P := P) (w := w) (base := base) T
  refine okk T.F_clash_of sc_clash_of (fun vs H Q E h => ?_) (fun cdv Ar outer s H vs Q E hr h => ?_)
  · obtain ⟨d, ⟨rfl, _⟩, _⟩ := h
    rfl
  · obtain ⟨⟨_, j, rs⟩, ⟨rfl, ⟨⟨a, xs, rfl, ha, hrs⟩, hl, ho⟩, hj, i0, hc⟩, k⟩ := h
    dsimp only at ha hrs hl ho hj hc
    have hr_part_of : Room 1 _ := hr.mono (by decide)
    refine ⟨_, (pss_cons (ps_asg (pe_ix (ix_listK K) (pv 0) (pv 1) (fun _ _ => rfl)) (pg_tupK (n := 2) K rfl (pgs_cons (pg_name (i := 2) sc_clash_of.nd rfl (Or.inl rfl)) (pgs_cons (pg_name (i := 3) sc_clash_of.nd rfl (Or.inl rfl)) pgs_nil))))
      (pss_cons (ps_for PassesOwn.never rfl (pi_range1 (by rfl) T.z_range (pa_cons (pv 1) pa_nil)) (pg_name (i := 4) sc_clash_of.nd rfl (Or.inl rfl)) (pss_one (ps_if (pt_cmpR op_ne (pe_op op_mod (pe_op op_sub (pe_ix (ix_tupK K) (pe_ix (ix_listK K) (pv 0) (pv 4) (fun _ _ => rfl)) pe_int (fun _ _ => rfl)) (pv 2)) (pe_call G_part_of hr_part_of (by rfl) T.g_part_of k_part_of b_part_of .nil pass0 (pa_cons (pe_ix (ix_tupK K) (pe_ix (ix_listK K) (pv 0) (pv 4) (fun _ _ => rfl)) pe_int (fun _ _ => rfl)) (pa_cons (pv 3) pa_nil)))) pe_int (nomark _)) (pss_one (ps_ret (pv 4))) pss_nil)))
      (pss_one (ps_ret (pe_un un_neg pe_int))))), ?_⟩
    obtain ⟨t2, x2, ht2⟩ := hrs.at hj
    refine q_asgG (evr (v := .ref t2) (ev_op (ev_var rfl) (ev_var rfl) (rv_ixL (sq_of ha) (atI_nat x2)))) fun v H1 e1 hv => ?_
    subst hv
    refine g_tup2 (st_of (e1 _ _ ht2)) ?_
    refine q_forR1 (n := (j : Int)) (ea_cons (ev_var rfl) ea_nil) (by omega) (fun i σ' H' => ∃ s4 : Option V, σ' = [some (.ref a), some (.int (j : Int)), some (.int (rs.getD j (0, 1)).1), some (.int (rs.getD j (0, 1)).2), s4] ∧ Ex H1 H' ∧ i ≤ i0)
      (fun H2 e2 => ⟨_, rfl, e2, Nat.zero_le _⟩) (fun i σ' H' hi ⟨s4, hσ, e, hle⟩ => ?_) (fun σ' H' ⟨s4, hσ, e, hle⟩ => ?_)
    · subst hσ
      have hi' : i < rs.length := by omega
      obtain ⟨t1, x1, ht1⟩ := hrs.at hi'
      have hj2 := rst_at ho hj
      have hg := pt_pos_r (rs.getD i (0, 1)).2 (b := (rs.getD j (0, 1)).2) (by have := hj2.1; have := hj2.2.1; omega)
      have hxs := e _ _ (e1 _ _ ha)
      have h1 := e _ _ (e1 _ _ ht1)
      have hit : Ev (tOp (rIxL K) (tVar 0) (tVar 4)) [some (.ref a), some (.int (j : Int)), some (.int (rs.getD j (0, 1)).1), some (.int (rs.getD j (0, 1)).2), some (.int (i : Int))] H' (.ref t1) := ev_op (ev_var rfl) (ev_var rfl) (rv_ixL (sq_of hxs) (atI_nat x1))
      refine s_when (b := !decide (((rs.getD i (0, 1)).1 - (rs.getD j (0, 1)).1) % pt (rs.getD i (0, 1)).2 (rs.getD j (0, 1)).2 = 0)) (et_test (ev_op (ev_op (ev_op (ev_p0 hit h1) (ev_var rfl) rv_I0) (ev_part (ev_p1 hit h1) (ev_var rfl)) (rv_I hg)) ev_c rv_neI)) (fun hb H2 e2 => ?_) (fun hb H2 e2 => ?_)
      · exact s_ret (ev_var rfl) fun H3 e3 => k _ _ (e1.trans (e.trans (e2.trans e3))) ⟨i, rfl, by show i < j; omega, hj, by simpa using hb⟩
      · refine ⟨_, rfl, e.trans e2, ?_⟩
        have : i ≠ i0 := fun z => by
          subst z
          have := hc.ne
          simp at hb
          exact this hb
        omega
    · have := hc.lt
      omega
theorem ok_told (T : Txt K mg A) : Okk P w K mg base 5 A.a_told ["rests"] (sp_told A) := by
  obtain ⟨_, G_Clash_init, b_Clash_init, k_Clash_init⟩ := ok_Clash_init (P := P) (w := w) (base := base) T
  obtain ⟨_, G_Number_init, b_Number_init, k_Number_init⟩ := ok_Number_init (P := P) (w := w) (base := base) T
  obtain ⟨_, G_check_rests, b_check_rests, k_check_rests⟩ := ok_check_rests (P := P) (w := w) (base := base) T
  obtain ⟨_, G_clash_of, b_clash_of, k_clash_of⟩ := ok_clash_of (P := P) (w := w) (base := base) T
  obtain ⟨_, G_shares_of, b_shares_of, k_shares_of⟩ := ok_shares_of (P := P) (w := w) (base := base) T
  refine okk T.F_told sc_told (fun vs H Q E h => ?_) (fun cdv Ar outer s H vs Q E hr h => ?_)
  · obtain ⟨d, ⟨rfl, _⟩, _⟩ := h
    rfl
  · obtain ⟨⟨_, rs⟩, ⟨rfl, hR⟩, k⟩ := h
    dsimp only at hR
    obtain ⟨⟨a, xs, rfl, ha, hrs⟩, hl, ho⟩ := id hR
    have hr_Clash_init : Room 2 _ := hr.mono (by decide)
    have hr_Number_init : Room 2 _ := hr.mono (by decide)
    have hr_check_rests : Room 4 _ := hr.mono (by decide)
    have hr_clash_of : Room 2 _ := hr.mono (by decide)
    have hr_shares_of : Room 1 _ := hr.mono (by decide)
    refine ⟨_, (pss_cons (ps_expr (pe_call G_check_rests hr_check_rests (by rfl) T.g_check_rests k_check_rests b_check_rests .nil pass0 (pa_cons (pv 0) pa_nil)))
      (pss_cons (ps_set (i := 1) sc_told.nd rfl (.inl rfl) pe_int)
      (pss_cons (ps_set (i := 2) sc_told.nd rfl (.inl rfl) pe_int)
      (pss_cons (ps_for PassesOwn.never rfl (pi_enum (by rfl) T.z_enumerate (pa_cons (pv 0) pa_nil)) (pg_tupK (n := 2) K rfl (pgs_cons (pg_name (i := 3) sc_told.nd rfl (Or.inl rfl)) (pgs_cons (pg_name (i := 4) sc_told.nd rfl (Or.inl rfl)) pgs_nil))) (pss_cons (ps_asg (pv 4) (pg_tupK (n := 2) K rfl (pgs_cons (pg_name (i := 5) sc_told.nd rfl (Or.inl rfl)) (pgs_cons (pg_name (i := 6) sc_told.nd rfl (Or.inl rfl)) pgs_nil))))
      (pss_cons (ps_asg (pe_call G_shares_of hr_shares_of (by rfl) T.g_shares_of k_shares_of b_shares_of .nil pass0 (pa_cons (pv 2) (pa_cons (pv 6) pa_nil))) (pg_tupK (n := 3) K rfl (pgs_cons (pg_name (i := 7) sc_told.nd rfl (Or.inl rfl)) (pgs_cons (pg_name (i := 8) sc_told.nd rfl (Or.inl rfl)) (pgs_cons (pg_name (i := 9) sc_told.nd rfl (Or.inl rfl)) pgs_nil)))))
      (pss_cons (ps_if (pt_cmpR op_ne (pe_op op_mod (pe_op op_sub (pv 5) (pv 1)) (pv 7)) pe_int (nomark _)) (pss_one (ps_ret (pe_make T.mk_Clash G_Clash_init hr_Clash_init (by rfl) T.g_Clash b_Clash_init .nil pass0 (pa_cons (pe_call G_clash_of hr_clash_of (by rfl) T.g_clash_of k_clash_of b_clash_of .nil pass0 (pa_cons (pv 0) (pa_cons (pv 3) pa_nil))) (pa_cons (pv 3) pa_nil))))) pss_nil)
      (pss_cons (ps_set (i := 1) sc_told.nd rfl (.inl rfl) (pe_op op_add (pv 1) (pe_op op_mul (pv 2) (pe_op op_mod (pe_op op_mul (pe_op op_fdiv (pe_op op_sub (pv 5) (pv 1)) (pv 7)) (pv 8)) (pe_op op_fdiv (pv 6) (pv 7))))))
      (pss_cons (ps_set (i := 2) sc_told.nd rfl (.inl rfl) (pe_op op_mul (pe_op op_fdiv (pv 2) (pv 7)) (pv 6)))
      (pss_one (ps_set (i := 1) sc_told.nd rfl (.inl rfl) (pe_op op_mod (pv 1) (pv 2))))))))))
      (pss_one (ps_ret (pe_make T.mk_Number G_Number_init hr_Number_init (by rfl) T.g_Number b_Number_init .nil pass0 (pa_cons (pv 1) (pa_cons (pv 2) pa_nil))))))))), ?_⟩
    refine q_drop (v := .non) (ev_call0 (V.ref a, rs) (ea_cons (ev_var rfl) ea_nil) (fun H2 e2 => ⟨rfl, hR.up e2⟩) fun _ v _ p => p) fun H1 e1 => ?_
    refine q_asg ev_c fun H2 e2 => ?_
    refine q_asg ev_c fun H3 e3 => ?_
    have e13 := e1.trans (e2.trans e3)
    refine q_forE (xs := xs) (ea_cons (ev_var rfl) ea_nil) (sq_of (e13 _ _ ha)) (fun i σ' H' => ∃ (n w : Int) (s3 s4 s5 s6 s7 s8 s9 : Option V), σ' = [some (.ref a), some (.int n), some (.int w), s3, s4, s5, s6, s7, s8, s9] ∧ Ex H3 H' ∧ ToldOk (rs.take i) n w)
      (fun H4 e4 => ⟨0, 1, _, _, _, _, _, _, _, rfl, e4, by rw [List.take_zero]; exact ToldOk.nil⟩) (fun i σ' H' ⟨_, _, _, _, _, _, _, _, _, _, e, _⟩ => e) (fun i σ' H' t o ⟨n, w, s3, s4, s5, s6, s7, s8, s9, h1, e, h2⟩ ht => ⟨n, w, s3, s4, s5, s6, s7, s8, s9, h1, e.trans (Ex.new ht), h2⟩) (fun i x σ' H' hx hP => ?_) fun σ' H' hP => ?_
    · obtain ⟨n, w, s3, s4, s5, s6, s7, s8, s9, rfl, e4, tk⟩ := hP
      obtain ⟨hi, tp, rfl, htp⟩ := hrs.get hx
      have hok := rst_at ho hi
      generalize hpe : rs.getD i (0, 1) = p at htp hok
      obtain ⟨r, t⟩ := p
      obtain ⟨r0, r1, t1⟩ := id hok
      dsimp only at htp r0 r1 t1
      have eH := e13.trans e4
      have htk : rs.take (i + 1) = rs.take i ++ [(r, t)] := by rw [take_snoc hi, hpe]
      have ht : 0 < t := by omega
      refine q_asgG (evr (v := .ref tp) (ev_var rfl)) fun v H5 e5 hv => ?_
      subst hv
      refine g_tup2 (st_of (e5 _ _ (eH _ _ htp))) ?_
      refine q_asgG (er_call (w, t) (ea_cons (ev_var rfl) (ea_cons (ev_var rfl) ea_nil)) (fun H4 e4 => ⟨rfl, by show t.natAbs ≤ 1000000; omega⟩) fun _ v H4 _ _ q => q) fun v H6 e6 h6 => ?_
      obtain ⟨sp, g, x, y, rfl, hsp, sh⟩ := h6
      dsimp only at sh
      have hx : x.natAbs ≤ 1000001 := by have := sh.sm; omega
      have hg0 : 0 < g := by rw [sh.eq]; exact pt_pos_r w ht
      have hgt : g ≤ t := by rw [sh.eq]; exact pt_le_r w ht
      have hdv : g ∣ t := by rw [sh.eq]; exact pt_dvd_r w t
      refine g_tup3 (st_of hsp) ?_
      refine q_when (b := !decide ((r - n) % g = 0)) (et_test (ev_op (ev_op (ev_op (ev_var rfl) (ev_var rfl) rv_I0) (ev_var rfl) (rv_I hg0)) ev_c rv_neI)) (fun hb H7 e7 => ?_) (fun hb H7 e7 => ?_)
      · have hb' : ¬ (r - n) % pt w t = 0 := by rw [← sh.eq]; simpa using hb
        have hex : ∃ i', ClashOk i' i rs := by
          obtain ⟨q, hq, hne⟩ := told_clash tk (fun q hq => ho q (List.mem_of_mem_take hq)) hb'
          obtain ⟨i', hi', hgi⟩ := List.mem_iff_getElem.mp hq
          rw [List.length_take] at hi'
          have hlt : i' < i := by omega
          refine ⟨i', hlt, hi, ?_⟩
          have e1 : rs.getD i' (0, 1) = q := by
            rw [List.getD_eq_getElem?_getD, List.getElem?_eq_getElem (by omega)]
            rw [List.getElem_take] at hgi
            exact hgi
          rw [hpe, e1]
          exact hne
        have eT := eH.trans (e5.trans (e6.trans e7))
        have hcl := er_call (R := fun v _ => ∃ i' : Nat, v = .int i' ∧ ClashOk i' i rs) (E := E0) (Pre := fun (d : V × Nat × List (Int × Int)) vs H => vs = [d.1, .int d.2.1] ∧ Rsts H d.1 d.2.2 ∧ d.2.1 < d.2.2.length ∧ ∃ i, ClashOk i d.2.1 d.2.2) (Post := fun d _ v _ => ∃ i : Nat, v = .int i ∧ ClashOk i d.2.1 d.2.2) (σ := [some (.ref a), some (.int n), some (.int w), some (.int (i : Int)), some (.ref tp), some (.int r), some (.int t), some (.int g), some (.int x), some (.int y)]) (H := H7) (ta := tCons (tVar 0) (tCons (tVar 3) tNil)) (V.ref a, i, rs) (ea_cons (ev_var rfl) (ea_cons (ev_var rfl) ea_nil)) (fun H1 e => ⟨rfl, hR.up (eT.trans e), hi, hex⟩) fun _ v _ _ _ h => h
        refine s_retR (er_make (C := A.c_Clash) (T := fun us _ => ∃ i' : Nat, us = [.int i', .int (i : Int)] ∧ ClashOk i' i rs) (R := fun v H2 => ∃ i' : Nat, ClashAt A H2 v i' i ∧ ClashOk i' i rs) (ear_cons hcl fun x H8 _ ⟨i', hx, hc⟩ => (ear (ea_cons (ev_var rfl) ea_nil)).imp fun vs _ _ hv => ⟨i', by rw [hx, hv], hc⟩) (fun us H1 H2 _ ⟨i', p, _⟩ _ => ⟨_, _, p⟩) fun us H1 H2 H3 fs o dx e ⟨i', p, hc⟩ _ _ _ hi2 ⟨x', y', hy, hf⟩ => by
          subst hf
          rw [p] at hy
          cases hy
          exact ⟨i', ⟨o, dx, rfl, hi2⟩, hc⟩) fun v H8 e8 ⟨i', h1, h2⟩ => k _ _ (eT.trans e8) (.inr ⟨i', i, h1, h2⟩)
      · have hb' : (r - n) % g = 0 := by simpa using hb
        have htg : 0 < t / g ∧ t / g ≤ 1000000 := by
          have h1 : 0 < t / g := Int.ediv_pos_of_pos_of_dvd ht (by omega) hdv
          have h2 : t / g ≤ t := Int.ediv_le_self _ (by omega)
          omega
        have hk0 := Int.emod_nonneg ((r - n) / g * x) (b := t / g) (by omega)
        have hk1 := Int.emod_lt_of_pos ((r - n) / g * x) htg.1
        have hmore := tk.more hok sh hb'
        refine q_asg (ev_op (ev_var rfl) (ev_op (ev_var rfl) (ev_op (ev_op (ev_op (ev_op (ev_var rfl) (ev_var rfl) rv_I0) (ev_var rfl) (rv_I ⟨hg0, by omega⟩)) (ev_var rfl) (rv_I (.inr (by omega)))) (ev_op (ev_var rfl) (ev_var rfl) (rv_I ⟨hg0, by omega⟩)) (rv_I htg.1)) (rv_I (.inr (by omega)))) rv_I0) fun H8 e8 => ?_
        refine q_asg (ev_op (ev_op (ev_var rfl) (ev_var rfl) (rv_I ⟨hg0, by omega⟩)) (ev_var rfl) (rv_I (.inr (by omega)))) fun H9 e9 => ?_
        refine s_asg (ev_op (ev_var rfl) (ev_var rfl) (rv_I hmore.pos)) fun H10 e10 => ?_
        refine ⟨_, _, _, _, _, _, _, _, _, rfl, e4.trans (e5.trans (e6.trans (e7.trans (e8.trans (e9.trans e10))))), ?_⟩
        rw [htk]
        exact hmore
    · obtain ⟨n, w, s3, s4, s5, s6, s7, s8, s9, rfl, e4, tk⟩ := hP
      rw [hrs.len, List.take_length] at tk
      refine s_retR (er_make2 (ev_var rfl) (ev_var rfl)) fun v H5 e5 ⟨o, dx, hv, _, h⟩ => k _ _ (e13.trans (e4.trans e5)) (.inl ⟨n, w, ⟨o, dx, hv, h⟩, tk⟩)
end
/-! ### Common: made, asked; common -/
def CommonAt (A : Ad) (H : Hp) (v : V) (p : Int) (l : Addr) (ts : List Int) : Prop := ∃ a dx, v = .ref a ∧ H a = some (.ins A.c_Common dx [("part", .int p), ("times", .ref l)]) ∧ H l = some (.lst (iv ts))
theorem CommonAt.up {A : Ad} {H H' : Hp} {v : V} {p : Int} {l : Addr} {ts : List Int} (e : Ex H H') (h : CommonAt A H v p l ts) : CommonAt A H' v p l ts := by
  obtain ⟨a, dx, r, h1, h2⟩ := h
  exact ⟨a, dx, r, e _ _ h1, e _ _ h2⟩
def sp_Common_init (A : Ad) : Sp := spI A.c_Common (fun us H => ∃ (p : Int) (l : Addr) (xs : List V), us = [.int p, .ref l] ∧ H l = some (.lst xs)) (fun us H H' fs => ∃ (p : Int) (l : Addr) (xs : List V) (l2 : Addr), us = [.int p, .ref l] ∧ H l = some (.lst xs) ∧ H l2 = none ∧ H' l2 = some (.lst xs) ∧ fs = ([("part", .int p), ("times", .ref l2)] : List (Str × V)))
def sp_sum_of (K : PySem.W.Frag) : Sp := spX (fun (d : V × V × List Int × List Int) vs H => vs = [d.1, d.2.1] ∧ LstAt (iv d.2.2.1) d.1 H ∧ LstAt (iv d.2.2.2) d.2.1 H ∧ d.2.2.1.length = d.2.2.2.length ∧ d.2.2.1.length ≤ 10000 ∧ ∀ n ∈ d.2.2.1, -(2 ^ 64) < n ∧ n < 2 ^ 64) (fun d _ v _ => v = .int (dot d.2.2.1 d.2.2.2))
def sp_Common_shows (A : Ad) : Sp := spX (fun (d : V × Int × Addr × List Int × V × List Int) vs H => vs = [d.1, d.2.2.2.2.1] ∧ CommonAt A H d.1 d.2.1 d.2.2.1 d.2.2.2.1 ∧ LstAt (iv d.2.2.2.2.2) d.2.2.2.2.1 H ∧ d.2.2.2.2.2.length ≤ 10000 ∧ ∀ n ∈ d.2.2.2.2.2, -(2 ^ 64) < n ∧ n < 2 ^ 64) (fun d _ v _ => v = .bl (dueC d.2.1 d.2.2.2.1 d.2.2.2.2.2))
def sp_common_of (_ : PySem.W.Frag) : Sp := spX (fun (d : V × List Int) vs H => vs = [d.1] ∧ LstAt (iv d.2) d.1 H ∧ d.2.length ≤ 10000 ∧ ∀ n ∈ d.2, -1000000 ≤ n ∧ n ≤ 1000000)
  (fun d H v H' => ∃ t p l ts, v = .ref t ∧ H' t = some (.tup [.int p, .ref l]) ∧ H l = none ∧ H' l = some (.lst (iv ts)) ∧ CommonOk p ts d.2 ∧ p ≤ 1000000)
def sp_common (A : Ad) : Sp := spX (fun (d : V × List Int) vs H => vs = [d.1] ∧ LstAt (iv d.2) d.1 H ∧ d.2.length ≤ 10000 ∧ ∀ n ∈ d.2, -1000000 ≤ n ∧ n ≤ 1000000)
  (fun d H v H' => ∃ p l ts, CommonAt A H' v p l ts ∧ H l = none ∧ CommonOk p ts d.2)
theorem tms : (("times" : Str) == ("part" : Str)) = false := by decide +kernel
section
variable {P : Program} {w : World} {K : PySem.W.Frag} {mg : Str → Option Value} {base : Heap} {A : Ad}
theorem ok_Common_init (T : Txt K mg A) : Okk P w K mg base 1 A.a_Common_init ["self", "part", "times"] (sp_Common_init A) := by
  refine okk T.F_Common_init sc_Common_init (fun vs H Q E h => ?_) (fun cdv Ar outer s H vs Q E hr h => ?_)
  · obtain ⟨x, dx, us, rfl, _, ⟨p, l, xs, rfl, _⟩, _⟩ := h
    rfl
  · obtain ⟨x, dx, us, rfl, hx, ⟨p, l, xs, rfl, hl⟩, k⟩ := h
    refine ⟨_, (pss_cons (ps_fld (pv 0) (pv 1) rfl)
      (pss_one (ps_fld (pv 0) (pe_callTy (list_ofK K) (by rfl) T.z_list (by decide +kernel) (pa_cons (pv 2) pa_nil)) rfl))), ?_⟩
    have hlx : l ≠ x := ne_of hl hx (by intro q; cases q)
    refine ⟨_, rfl, _, rfl, x, A.c_Common, dx, _, rfl, hx, T.cl_Common, T.n_Common_part, (by decide), ?_⟩
    refine ⟨.ref l, rfl, l, xs, rfl, .inl (sq_of (by rw [upd_ne hlx]; exact hl)), fun l2 h2 => ?_⟩
    have h2x : x ≠ l2 := fun e => by rw [← e, upd_same] at h2; cases h2
    have h2n : H l2 = none := by rw [upd_ne h2x.symm] at h2; exact h2
    refine ⟨_, rfl, x, A.c_Common, dx, _, rfl, (by rw [upd_ne h2x, upd_same]), T.cl_Common, T.n_Common_times, (by show 1 < 1000; decide), ?_⟩
    refine k _ _ (fun b o hb h => ?_) upd_same ⟨p, l, xs, l2, rfl, hl, h2n, by rw [upd_ne h2x.symm, upd_same], ?_⟩
    · rw [upd_ne hb, upd_ne (ne_of_none h h2n), upd_ne hb]
      exact h
    · show (if ("part" : Str) = "times" then _ else _) = _
      rw [if_neg (by decide +kernel)]
      rfl
theorem er_Common {σ : L2.St} {H : Hp} {ta tb : TE} {E : XK} {p : Int} {l : Addr} {xs : List V} (h : Ev ta σ H (.int p)) (h2 : Ev tb σ H (.ref l)) (hl : H l = some (.lst xs)) : EvR (tMake A.c_Common (sp_Common_init A) [] E (tCons ta (tCons tb tNil))) σ H (fun v H2 => ∃ a dx l2, v = .ref a ∧ H2 a = some (.ins A.c_Common dx [("part", .int p), ("times", .ref l2)]) ∧ H l2 = none ∧ H2 l2 = some (.lst xs)) :=
  er_make (ear (ea_cons h (ea_cons h2 ea_nil))) (fun us H1 H2 e q e2 => ⟨p, l, xs, q, e2 _ _ (e _ _ hl)⟩) fun us H1 H2 H3 fs a dx e q e2 e3 ha hi ⟨p', l', xs', l2, hu, hl', hn, h3, hf⟩ => by
    rw [q] at hu
    cases hu
    have : xs' = xs := by
      have := hl'.symm.trans (e2 _ _ (e _ _ hl))
      cases this
      rfl
    subst this hf
    exact ⟨a, dx, l2, rfl, hi, fresh_back (e.trans e2) hn, h3⟩
theorem ok_sum_of (T : Txt K mg A) : Okk P w K mg base 1 A.a_sum_of ["numbers", "times"] (sp_sum_of K) := by
  refine okk T.F_sum_of sc_sum_of (fun vs H Q E h => ?_) (fun cdv Ar outer s H vs Q E hr h => ?_)
  · obtain ⟨d, ⟨rfl, _⟩, _⟩ := h
    rfl
  · obtain ⟨⟨_, _, ns, ts⟩, ⟨rfl, ⟨a, rfl, ha⟩, ⟨b, rfl, hb⟩, hlt, hl, hn⟩, k⟩ := h
    dsimp only at ha hb hlt hl hn
    refine ⟨_, (pss_one (ps_ret (pe_callB (sumK K rfl) (by rfl) T.z_sum (by decide +kernel) (pa_cons (pe_lc (own := [("k", 2)]) rfl sc_sum_of.nd (pi_range1 (by rfl) T.z_range (pa_cons (pe_callB (len_seqK K) (by rfl) T.z_len (by decide +kernel) (pa_cons (pv 0) pa_nil)) pa_nil)) (blkOk_by (N := ["numbers", "times", "k"]) (sc := defScope s_sum_of) (by decide +kernel)) (fun _ _ _ _ _ => (pg_name (i := 2) sc_sum_of.nd rfl (Or.inl rfl))) (fun _ _ _ _ _ => pts_nil) (fun _ _ _ _ _ => (pe_op op_mul (pe_ix (ix_listK K) (pv 0) (pv 2) (fun _ _ => rfl)) (pe_ix (ix_listK K) (pv 1) (pv 2) (fun _ _ => rfl))))) pa_nil)))), ?_⟩
    have e0 : ((iv ns).length : Int) = (ns.length : Int) := by rw [List.length_map]
    refine s_ret (ev_sumN (ns := (List.range ns.length).map fun k => ns.getD k 0 * ts.getD k 0) (H0 := H) ?_) fun H1 e1 => k _ _ e1 (by rw [dot_range hlt])
    rw [show iv ((List.range ns.length).map fun k => ns.getD k 0 * ts.getD k 0) = (List.range ns.length).map (fun k => V.int (ns.getD k 0 * ts.getD k 0)) from List.map_map]
    refine er_lcRI (fun k => .int (ns.getD k 0 * ts.getD k 0)) (ea_cons (by rw [← e0]; exact ev_lenL (ev_var rfl) (sq_of ha)) ea_nil) (by omega) (fun _ => rfl) fun i hi => ?_
    have hni := hn _ (getD_mem hi)
    exact ev_op (ev_op (ev_var rfl) (ev_var rfl) (rv_ixL (sq_of ha) (atI_ints hi))) (ev_op (ev_var rfl) (ev_var rfl) (rv_ixL (sq_of hb) (atI_ints (by omega)))) (rv_I (.inl hni))
theorem ok_Common_shows (T : Txt K mg A) : Okk P w K mg base 2 A.a_Common_shows ["self", "numbers"] (sp_Common_shows A) := by
  obtain ⟨_, G_sum_of, b_sum_of, k_sum_of⟩ := ok_sum_of (P := P) (w := w) (base := base) T
  refine okk T.F_Common_shows sc_Common_shows (fun vs H Q E h => ?_) (fun cdv Ar outer s H vs Q E hr h => ?_)
  · obtain ⟨d, ⟨rfl, _⟩, _⟩ := h
    rfl
  · obtain ⟨⟨_, p, l, ts, _, ns⟩, ⟨rfl, ⟨a, dx, rfl, ho, hl⟩, ⟨b, rfl, hb⟩, hlen, hn⟩, k⟩ := h
    dsimp only at ho hl hb hlen hn
    have hr_sum_of : Room 1 _ := hr.mono (by decide)
    refine ⟨_, (pss_cons (ps_if (PW.pt (pw_or (pt_cmpR op_lt (pe_fldK K (pv 0) rfl) pe_int (nomark _)) (pw_or (pt_cmpR op_ne (pe_callB (len_seqK K) (by rfl) T.z_len (by decide +kernel) (pa_cons (pe_fldK K (pv 0) rfl) pa_nil)) (pe_callB (len_seqK K) (by rfl) T.z_len (by decide +kernel) (pa_cons (pv 1) pa_nil)) (nomark _)) (pw_or1 (pt_cmpR op_ne (pe_call G_sum_of hr_sum_of (by rfl) T.g_sum_of k_sum_of b_sum_of .nil pass0 (pa_cons (pv 1) (pa_cons (pe_fldK K (pv 0) rfl) pa_nil))) (pe_fldK K (pv 0) rfl) (nomark _)))))) (pss_one (ps_ret pe_bl)) pss_nil)
      (pss_cons (ps_if (pt_cmpR op_eq (pe_fldK K (pv 0) rfl) pe_int (nomark _)) (pss_one (ps_ret (pe_callB (allK K rfl) (by rfl) T.z_all (by decide +kernel) (pa_cons (pe_lc (own := [("number", 2)]) rfl sc_Common_shows.nd (pi_listK K (pv 1)) (blkOk_by (N := ["self", "numbers", "number"]) (sc := defScope s_Common_shows) (by decide +kernel)) (fun _ _ _ _ _ => (pg_name (i := 2) sc_Common_shows.nd rfl (Or.inl rfl))) (fun _ _ _ _ _ => pts_nil) (fun _ _ _ _ _ => (pe_cmpR op_eq (pv 2) pe_int (nomark _)))) pa_nil)))) pss_nil)
      (pss_one (ps_ret (pe_callB (allK K rfl) (by rfl) T.z_all (by decide +kernel) (pa_cons (pe_lc (own := [("number", 2)]) rfl sc_Common_shows.nd (pi_listK K (pv 1)) (blkOk_by (N := ["self", "numbers", "number"]) (sc := defScope s_Common_shows) (by decide +kernel)) (fun _ _ _ _ _ => (pg_name (i := 2) sc_Common_shows.nd rfl (Or.inl rfl))) (fun _ _ _ _ _ => pts_nil) (fun _ _ _ _ _ => (pe_cmpR op_eq (pe_op op_mod (pv 2) (pe_fldK K (pv 0) rfl)) pe_int (nomark _)))) pa_nil)))))), ?_⟩
    have fp : ∀ σ : L2.St, σ[0]? = some (some (.ref a)) → ∀ H1, Ex H H1 → Ev (tFld K (tVar 0) "part") σ H1 (.int p) := fun σ hσ H1 e => ev_fld (ev_var hσ) (e _ _ ho) T.cl_Common T.n_Common_part lk21
    have ft : ∀ σ : L2.St, σ[0]? = some (some (.ref a)) → ∀ H1, Ex H H1 → Ev (tFld K (tVar 0) "times") σ H1 (.ref l) := fun σ hσ H1 e => ev_fld (ev_var hσ) (e _ _ ho) T.cl_Common T.n_Common_times (lk22 tms)
    have e0 : ((iv ts).length : Int) = (ts.length : Int) := by rw [List.length_map]
    have e1 : ((iv ns).length : Int) = (ns.length : Int) := by rw [List.length_map]
    refine q_when (b := decide (p < 0) || (!decide (ts.length = ns.length) || !decide (dot ns ts = p))) ?_ (fun hb H1 e1 => ?_) (fun hbf H1 e2 => ?_)
    · refine et_or (et_test (ev_op (fp _ rfl _ (Ex.refl _)) ev_c rv_I0)) fun _ => et_or ?_ fun hlt => ?_
      · refine et_is (et_test (ev_op (ev_lenL (ft _ rfl _ (Ex.refl _)) (sq_of hl)) (ev_lenL (ev_var rfl) (sq_of hb)) rv_neI)) ?_
        rw [e0, e1]
        congr 1
        exact decide_eq_decide.mpr (by omega)
      · have hlt' : ts.length = ns.length := by simpa using hlt
        exact et_test (ev_op (ev_call0 (V.ref b, V.ref l, ns, ts) (ea_cons (ev_var rfl) (ea_cons (ft _ rfl _ (Ex.refl _)) ea_nil)) (fun H1 e => ⟨rfl, ⟨b, rfl, e _ _ hb⟩, ⟨l, rfl, e _ _ hl⟩, hlt'.symm, hlen, hn⟩) fun _ _ _ q => q) (fp _ rfl _ (Ex.refl _)) rv_neI)
    · refine s_ret ev_c fun H2 e2 => k _ _ (e1.trans e2) ?_
      show V.bl false = V.bl (dueC p ts ns)
      unfold dueC
      simp only [Bool.or_eq_true, Bool.not_eq_true', decide_eq_true_eq, decide_eq_false_iff_not] at hb
      rcases hb with h | h | h
      · rw [decide_eq_true h]; rfl
      · rw [decide_eq_false h]; simp
      · rw [decide_eq_false h]; simp
    · have hd : dueC p ts ns = ns.all fun n => if p = 0 then decide (n = 0) else decide (n % p = 0) := by
        unfold dueC
        simp only [Bool.or_eq_false_iff, Bool.not_eq_false', decide_eq_true_eq, decide_eq_false_iff_not] at hbf
        rw [decide_eq_false hbf.1, decide_eq_true hbf.2.1, decide_eq_true hbf.2.2]
        simp
      have hp0 : 0 ≤ p := by
        simp only [Bool.or_eq_false_iff, decide_eq_false_iff_not] at hbf
        omega
      have hb1 := e2 _ _ hb
      refine q_when (et_test (ev_op (fp _ rfl _ e2) ev_c rv_eqI)) (fun hz H2 e3 => ?_) (fun hz H2 e3 => ?_)
      · have hz' := of_decide_eq_true hz
        refine s_ret (v := .bl (dueC p ts ns)) (ev_is (ev_allN (bs := ns.map fun n => decide (n = 0)) (H0 := H2) ?_) ?_) fun H3 e4 => k _ _ ((e2.trans e3).trans e4) rfl
        · rw [← map_bl]
          exact er_lcI (fun n => .bl (decide (n = 0))) (ev_var rfl) (sq_of (e3 _ _ hb1)) (by omega) (fun _ => rfl) fun n hn => ev_op (ev_var rfl) ev_c rv_eqI
        · rw [hd, List.all_map]
          simp only [hz', if_true]
          rfl
      · have hz' := of_decide_eq_false hz
        refine s_ret (v := .bl (dueC p ts ns)) (ev_is (ev_allN (bs := ns.map fun n => decide (n % p = 0)) (H0 := H2) ?_) ?_) fun H3 e4 => k _ _ ((e2.trans e3).trans e4) rfl
        · rw [← map_bl]
          exact er_lcI (fun n => .bl (decide (n % p = 0))) (ev_var rfl) (sq_of (e3 _ _ hb1)) (by omega) (fun _ => rfl) fun n hn => ev_op (ev_op (ev_var rfl) (fp _ rfl _ (e2.trans e3)) (rv_I (by omega))) ev_c rv_eqI
        · rw [hd, List.all_map]
          simp only [if_neg hz']
          rfl
theorem ok_common_of (T : Txt K mg A) : Okk P w K mg base 2 A.a_common_of ["numbers"] (sp_common_of K) := by
  obtain ⟨_, G_shares_of, b_shares_of, k_shares_of⟩ := ok_shares_of (P := P) (w := w) (base := base) T
  refine okk T.F_common_of sc_common_of (fun vs H Q E h => ?_) (fun cdv Ar outer s H vs Q E hr h => ?_)
  · obtain ⟨d, ⟨rfl, _⟩, _⟩ := h
    rfl
  · obtain ⟨⟨_, ns⟩, ⟨rfl, ⟨a, rfl, ha⟩, hl, hn⟩, k⟩ := h
    dsimp only at ha hl hn
    have hr_shares_of : Room 1 _ := hr.mono (by decide)
    refine ⟨_, (pss_cons (ps_set (i := 1) sc_common_of.nd rfl (.inl rfl) pe_int)
      (pss_cons (ps_set (i := 2) sc_common_of.nd rfl (.inl rfl) (pe_lst pa_nil))
      (pss_cons (ps_for PassesOwn.never rfl (pi_listK K (pv 0)) (pg_name (i := 3) sc_common_of.nd rfl (Or.inl rfl)) (pss_cons (ps_asg (pe_call G_shares_of hr_shares_of (by rfl) T.g_shares_of k_shares_of b_shares_of .nil pass0 (pa_cons (pv 1) (pa_cons (pv 3) pa_nil))) (pg_tupK (n := 3) K rfl (pgs_cons (pg_name (i := 4) sc_common_of.nd rfl (Or.inl rfl)) (pgs_cons (pg_name (i := 5) sc_common_of.nd rfl (Or.inr rfl)) (pgs_cons (pg_name (i := 6) sc_common_of.nd rfl (Or.inl rfl)) pgs_nil)))))
      (pss_one (ps_if (pt_cmpR op_ne (pv 4) (pv 1) (nomark _)) (pss_cons (ps_set (i := 2) sc_common_of.nd rfl (.inl rfl) (pe_op op_cat (pe_lc (own := [("often", 7)]) rfl sc_common_of.nd (pi_listK K (pv 2)) (blkOk_by (N := ["numbers", "part", "times", "number", "found", "mine", "theirs", "often"]) (sc := defScope s_common_of) (by decide +kernel)) (fun _ _ _ _ _ => (pg_name (i := 7) sc_common_of.nd rfl (Or.inl rfl))) (fun _ _ _ _ _ => pts_nil) (fun _ _ _ _ _ => (pe_op op_mul (pv 7) (pv 5)))) (pe_lst (pa_cons (pv 6) pa_nil))))
      (pss_one (ps_set (i := 1) sc_common_of.nd rfl (.inl rfl) (pv 4)))) (pss_one (ps_expr (pe_bm PySem.F.plainAttrs_list PySem.F.slot_list_append PySem.F.type_list_append mt_append (pv 2) (pa_cons pe_int pa_nil))))))))
      (pss_one (ps_ret (pe_tup (pa_cons (pv 1) (pa_cons (pv 2) pa_nil)))))))), ?_⟩
    refine q_asg ev_c fun H1 e1 => ?_
    refine q_asgL (xs := []) (el_lst ea_nil (by decide)) fun l0 H2 h0 e2 h2 => ?_
    refine q_forLn (xs := iv ns) (ev_var rfl) (sq_of ((e1.trans e2) _ _ ha)) (fun i σ' H' => ∃ (p : Int) (l : Addr) (ts : List Int) (s3 s4 s5 s6 s7 : Option V), σ' = [some (.ref a), some (.int p), some (.ref l), s3, s4, s5, s6, s7] ∧ Ex H H' ∧ H l = none ∧ H' l = some (.lst (iv ts)) ∧ CommonOk p ts (ns.take i) ∧ p ≤ 1000000)
      (fun H3 e3 => ⟨0, l0, [], _, _, _, _, _, rfl, (e1.trans e2).trans e3, fresh_back e1 h0, e3 _ _ h2, by rw [List.take_zero]; exact CommonOk.nil, by decide⟩) (fun i σ' H' _ ⟨p, l, ts, s3, s4, s5, s6, s7, _, e, _⟩ => sq_of (e _ _ ha)) (fun i x σ' H' hx hP => ?_) (fun σ' H' hP => ?_)
    · obtain ⟨p, l, ts, s3, s4, s5, s6, s7, rfl, e3, hln, hl3, cok, hp⟩ := hP
      obtain ⟨n, hni, rfl⟩ : ∃ n, ns[i]? = some n ∧ x = .int n := by
        rw [List.getElem?_map] at hx
        cases e : ns[i]? with
        | none => rw [e] at hx; cases hx
        | some n => rw [e] at hx; exact ⟨n, rfl, (Option.some.inj hx).symm⟩
      have hnb := hn n (List.mem_of_getElem? hni)
      have htk : ns.take (i + 1) = ns.take i ++ [n] := by rw [List.take_add_one, hni]; rfl
      have hlen : ts.length ≤ 10000 := by
        have := cok.len
        rw [List.length_take] at this
        omega
      refine q_asgG (er_call (p, n) (ea_cons (ev_var rfl) (ea_cons (ev_var rfl) ea_nil)) (fun H4 e4 => ⟨rfl, by show n.natAbs ≤ 1000000; omega⟩) fun _ v H4 _ _ q => q) fun v H4 e4 h4 => ?_
      obtain ⟨tp, g, x, y, rfl, htp, sh⟩ := h4
      dsimp only at sh
      have hx : x.natAbs ≤ 1000001 := by have := sh.sm; omega
      refine g_tup3 (st_of htp) ?_
      refine s_if (et_test (ev_op (ev_var rfl) (ev_var rfl) rv_neI)) (fun hb H5 e5 => ?_) (fun hb H5 e5 => ?_)
      · have hl5 := e5 _ _ (e4 _ _ hl3)
        refine q_asgR (er_cat (xs := iv (ts.map (· * x))) (ys := iv [y]) ((er_lcI (fun n => .int (n * x)) (ev_var rfl) (sq_of hl5) (by omega) (fun _ => rfl) fun n hn => ev_op (ev_var rfl) (ev_var rfl) (rv_I (.inr ⟨by omega, by omega⟩))).imp fun v H6 _ ⟨q, hv, _, hq⟩ => ⟨q, hv, by rw [iv_map]; exact hq⟩) ((er_new (ea_cons (ev_var rfl) ea_nil) (by walk_at "sz")).imp fun v H6 _ ⟨q, hv, _, hq⟩ => ⟨q, hv, hq⟩) (by simp; omega)) fun v H6 e6 h6 => ?_
        obtain ⟨l2, rfl, hl2n, hl2⟩ := h6
        refine s_asg (ev_var rfl) fun H7 e7 => ?_
        have e37 := e3.trans (e4.trans (e5.trans (e6.trans e7)))
        refine ⟨g, l2, ts.map (· * x) ++ [y], _, _, _, _, _, rfl, e37, fresh_back (e3.trans (e4.trans e5)) hl2n, by rw [iv_append]; exact e7 _ _ hl2, by rw [htk]; exact cok.more sh, ?_⟩
        rw [sh.eq]
        exact pt_le cok.nn hp (by omega) (by decide)
      · have hgp : g = p := by simpa using hb
        have hl5 := e5 _ _ (e4 _ _ hl3)
        refine s_app hl5 (ev_var rfl) ev_c (by rw [List.length_map]; omega) fun H6 e6 => ?_
        have e36 := e3.trans (e4.trans (e5.trans e6))
        exact ⟨p, l, ts ++ [0], _, _, _, _, _, rfl, Ex.mut e36 hln, hln, by rw [upd_same, iv_append]; rfl, by rw [htk]; exact cok.same sh hgp, hp⟩
    · obtain ⟨p, l, ts, s3, s4, s5, s6, s7, rfl, e3, hln, hl3, cok, hp⟩ := hP
      rw [List.length_map, List.take_length] at cok
      refine s_retU (eu_tup (by walk_at "ev") (by walk_at "sz")) fun t H4 ht e4 h4 => k _ _ (e3.trans e4) ⟨t, p, l, ts, rfl, h4, hln, e4 _ _ hl3, cok, hp⟩
theorem ok_common (T : Txt K mg A) : Okk P w K mg base 4 A.a_common ["numbers"] (sp_common A) := by
  obtain ⟨_, G_Common_init, b_Common_init, k_Common_init⟩ := ok_Common_init (P := P) (w := w) (base := base) T
  obtain ⟨_, G_check_numbers, b_check_numbers, k_check_numbers⟩ := ok_check_numbers (P := P) (w := w) (base := base) T
  obtain ⟨_, G_common_of, b_common_of, k_common_of⟩ := ok_common_of (P := P) (w := w) (base := base) T
  refine okk T.F_common sc_common (fun vs H Q E h => ?_) (fun cdv Ar outer s H vs Q E hr h => ?_)
  · obtain ⟨d, ⟨rfl, _⟩, _⟩ := h
    rfl
  · obtain ⟨⟨_, ns⟩, ⟨rfl, ⟨a, rfl, ha⟩, hl, hn⟩, k⟩ := h
    dsimp only at ha hl hn
    have hr_Common_init : Room 2 _ := hr.mono (by decide)
    have hr_check_numbers : Room 3 _ := hr.mono (by decide)
    have hr_common_of : Room 2 _ := hr.mono (by decide)
    refine ⟨_, (pss_cons (ps_expr (pe_call G_check_numbers hr_check_numbers (by rfl) T.g_check_numbers k_check_numbers b_check_numbers .nil pass0 (pa_cons (pv 0) pa_nil)))
      (pss_cons (ps_asg (pe_call G_common_of hr_common_of (by rfl) T.g_common_of k_common_of b_common_of .nil pass0 (pa_cons (pv 0) pa_nil)) (pg_tupK (n := 2) K rfl (pgs_cons (pg_name (i := 1) sc_common.nd rfl (Or.inl rfl)) (pgs_cons (pg_name (i := 2) sc_common.nd rfl (Or.inl rfl)) pgs_nil))))
      (pss_one (ps_ret (pe_make T.mk_Common G_Common_init hr_Common_init (by rfl) T.g_Common b_Common_init .nil pass0 (pa_cons (pv 1) (pa_cons (pv 2) pa_nil))))))), ?_⟩
    refine q_drop (v := .non) (ev_call0 (V.ref a, ns) (ea_cons (ev_var rfl) ea_nil) (fun H2 e2 => ⟨rfl, ⟨a, rfl, e2 _ _ ha⟩, hl, hn⟩) fun _ v _ p => p) fun H1 e1 => ?_
    refine q_asgG (er_call (R := fun v H' => ∃ t p l ts, v = .ref t ∧ H' t = some (.tup [.int p, .ref l]) ∧ H l = none ∧ H' l = some (.lst (iv ts)) ∧ CommonOk p ts ns ∧ p ≤ 1000000) (V.ref a, ns) (ea_cons (ev_var rfl) ea_nil) (fun H2 e2 => ⟨rfl, ⟨a, rfl, e2 _ _ (e1 _ _ ha)⟩, hl, hn⟩) fun H2 v H3 e2 _ ⟨t, p, l, ts, h1, h2, h3, h4⟩ => ⟨t, p, l, ts, h1, h2, fresh_back (e1.trans e2) h3, h4⟩) fun v H2 e2 h2 => ?_
    obtain ⟨t, p, l, ts, rfl, ht, _, hl2, cok, _⟩ := h2
    refine g_tup2 (st_of ht) ?_
    refine s_retR (er_Common (ev_var rfl) (ev_var rfl) hl2) fun v H3 e3 h3 => k _ _ (e1.trans (e2.trans e3)) ?_
    obtain ⟨o, dx, l2, rfl, ho, hn2, hl3⟩ := h3
    exact ⟨p, l2, ts, ⟨o, dx, rfl, ho, hl3⟩, fresh_back (e1.trans e2) hn2, cok⟩
end
/-! ### Bar, Back: made, asked; back -/
/-- one field, stored by __init__ -/
def spI1 (C : Addr) (f : Str) : Sp := spI C (fun us _ => ∃ x, us = [x]) (fun us _ _ fs => ∃ x, us = [x] ∧ fs = [(f, x)])
def BarAt (A : Ad) (H : Hp) (v : V) (g : Int) : Prop := ∃ a dx, v = .ref a ∧ H a = some (.ins A.c_Bar dx [("part", .int g)])
def BackAt (A : Ad) (H : Hp) (v : V) (r : Int) : Prop := ∃ a dx, v = .ref a ∧ H a = some (.ins A.c_Back dx [("rest", .int r)])
theorem BarAt.up {A : Ad} {H H' : Hp} {v : V} {g : Int} (e : Ex H H') (h : BarAt A H v g) : BarAt A H' v g := by
  obtain ⟨a, dx, r, h⟩ := h
  exact ⟨a, dx, r, e _ _ h⟩
theorem BackAt.up {A : Ad} {H H' : Hp} {v : V} {g : Int} (e : Ex H H') (h : BackAt A H v g) : BackAt A H' v g := by
  obtain ⟨a, dx, r, h⟩ := h
  exact ⟨a, dx, r, e _ _ h⟩
theorem lk1 {f : Str} {x : V} : List.lookup f [(f, x)] = some x := by simp [List.lookup]
theorem er_make1 {σ : L2.St} {H : Hp} {ta : TE} {C : Addr} {f : Str} {E : XK} {x : V} (h : Ev ta σ H x) : EvR (tMake C (spI1 C f) [] E (tCons ta tNil)) σ H (fun v H2 => ∃ a dx, v = .ref a ∧ H a = none ∧ H2 a = some (.ins C dx [(f, x)])) :=
  er_make (ear (ea_cons h ea_nil)) (fun us H1 H2 _ p _ => ⟨_, p⟩) fun us H1 H2 H3 fs a dx e p _ _ ha hi ⟨y, hy, hf⟩ => by
    subst hf
    rw [p] at hy
    cases hy
    exact ⟨a, dx, rfl, fresh_back e ha, hi⟩
def sp_Bar_bars (A : Ad) : Sp := spX (fun (d : V × Int × Int × Int) vs H => vs = [d.1, .int d.2.2.1, .int d.2.2.2] ∧ BarAt A H d.1 d.2.1) (fun d _ v _ => v = .bl (barsF d.2.1 d.2.2.1 d.2.2.2))
def sp_Back_shows (A : Ad) : Sp := spX (fun (d : V × Int × Int × Int) vs H => vs = [d.1, .int d.2.2.1, .int d.2.2.2] ∧ BackAt A H d.1 d.2.1 ∧ 0 < d.2.2.2 ∧ d.2.2.2 ≤ 1000000) (fun d _ v _ => v = .bl (backF d.2.1 d.2.2.1 d.2.2.2))
def BackRes (A : Ad) (n t : Int) (v : V) (H : Hp) : Prop := (∃ g, BarAt A H v g ∧ BarOk g n t) ∨ (∃ r, BackAt A H v r ∧ BackOk r n t)
def sp_back (A : Ad) : Sp := spX (fun (d : Int × Int) vs _ => vs = [.int d.1, .int d.2] ∧ -1000000 ≤ d.1 ∧ d.1 ≤ 1000000 ∧ 1 ≤ d.2 ∧ d.2 ≤ 1000000) (fun d _ v H' => BackRes A d.1 d.2 v H')
section
variable {P : Program} {w : World} {K : PySem.W.Frag} {mg : Str → Option Value} {base : Heap} {A : Ad}
theorem ok_Bar_init (T : Txt K mg A) : Okk P w K mg base 1 A.a_Bar_init ["self", "part"] (spI1 A.c_Bar "part") := by
  refine okk T.F_Bar_init sc_Bar_init (fun vs H Q E h => ?_) (fun cdv Ar outer s H vs Q E hr h => ?_)
  · obtain ⟨x, dx, us, rfl, _, ⟨y, rfl⟩, _⟩ := h
    rfl
  · obtain ⟨x, dx, us, rfl, hx, ⟨y, rfl⟩, k⟩ := h
    refine ⟨_, (pss_one (ps_fld (pv 0) (pv 1) rfl)), ?_⟩
    exact ⟨_, rfl, _, rfl, x, A.c_Bar, dx, _, rfl, hx, T.cl_Bar, T.n_Bar_part, (by decide), k _ _ (fun b o hb h => by rw [upd_ne hb]; exact h) upd_same ⟨y, rfl, rfl⟩⟩
theorem ok_Back_init (T : Txt K mg A) : Okk P w K mg base 1 A.a_Back_init ["self", "rest"] (spI1 A.c_Back "rest") := by
  refine okk T.F_Back_init sc_Back_init (fun vs H Q E h => ?_) (fun cdv Ar outer s H vs Q E hr h => ?_)
  · obtain ⟨x, dx, us, rfl, _, ⟨y, rfl⟩, _⟩ := h
    rfl
  · obtain ⟨x, dx, us, rfl, hx, ⟨y, rfl⟩, k⟩ := h
    refine ⟨_, (pss_one (ps_fld (pv 0) (pv 1) rfl)), ?_⟩
    exact ⟨_, rfl, _, rfl, x, A.c_Back, dx, _, rfl, hx, T.cl_Back, T.n_Back_rest, (by decide), k _ _ (fun b o hb h => by rw [upd_ne hb]; exact h) upd_same ⟨y, rfl, rfl⟩⟩
theorem ok_Bar_bars (T : Txt K mg A) : Okk P w K mg base 1 A.a_Bar_bars ["self", "number", "turn"] (sp_Bar_bars A) := by
  refine okk T.F_Bar_bars sc_Bar_bars (fun vs H Q E h => ?_) (fun cdv Ar outer s H vs Q E hr h => ?_)
  · obtain ⟨d, ⟨rfl, _⟩, _⟩ := h
    rfl
  · obtain ⟨⟨_, g, n, t⟩, ⟨rfl, a, dx, rfl, ho⟩, k⟩ := h
    refine ⟨_, (pss_one (ps_ret (pe_and (pe_cmpR op_gt (pe_fldK K (pv 0) rfl) pe_int (nomark _)) (pe_and (pe_cmpR op_eq (pe_op op_mod (pv 1) (pe_fldK K (pv 0) rfl)) pe_int (nomark _)) (pe_one (pe_cmpR op_eq (pe_op op_mod (pv 2) (pe_fldK K (pv 0) rfl)) pe_int (nomark _))))))), ?_⟩
    have hf := ev_fld (K := K) (σ := [some (.ref a), some (.int n), some (.int t)]) (H := H) (ev_var (i := 0) rfl) ho T.cl_Bar T.n_Bar_part lk1
    refine s_ret (v := .bl (barsF g n t)) (ev_andV (ev_op hf ev_c rv_I0) fun hb => ?_) fun H1 e1 => k _ _ e1 rfl
    have hg : 0 < g := by
      have := of_decide_eq_true hb
      omega
    exact ev_andV (ev_op (ev_op (ev_var rfl) hf (rv_I hg)) ev_c rv_eqI) fun _ => ev_op (ev_op (ev_var rfl) hf (rv_I hg)) ev_c rv_eqI
theorem ok_Back_shows (T : Txt K mg A) : Okk P w K mg base 1 A.a_Back_shows ["self", "number", "turn"] (sp_Back_shows A) := by
  refine okk T.F_Back_shows sc_Back_shows (fun vs H Q E h => ?_) (fun cdv Ar outer s H vs Q E hr h => ?_)
  · obtain ⟨d, ⟨rfl, _⟩, _⟩ := h
    rfl
  · obtain ⟨⟨_, r, n, t⟩, ⟨rfl, ⟨a, dx, rfl, ho⟩, ht, ht2⟩, k⟩ := h
    dsimp only at ht ht2
    refine ⟨_, (pss_one (ps_ret (pe_and (pe_chain op_le op_lt pe_int (pe_fldK K (pv 0) rfl) (pv 2)) (pe_one (pe_cmpR op_eq (pe_op op_mod (pe_op op_sub (pe_op op_mul (pe_fldK K (pv 0) rfl) (pv 1)) pe_int) (pv 2)) pe_int (nomark _)))))), ?_⟩
    have hf := ev_fld (K := K) (σ := [some (.ref a), some (.int n), some (.int t)]) (H := H) (ev_var (i := 0) rfl) ho T.cl_Back T.n_Back_rest lk1
    refine s_ret (v := .bl (backF r n t)) (ev_andV (ev_chain ev_c hf rv_I0 (fun _ => ev_var rfl) fun _ => rv_I0) fun hb => ?_) fun H1 e1 => k _ _ e1 rfl
    rw [Bool.and_eq_true, decide_eq_true_eq, decide_eq_true_eq] at hb
    exact ev_op (ev_op (ev_op (ev_op hf (ev_var rfl) (rv_I (.inl (by show -(2 ^ 64) < r ∧ r < 2 ^ 64; omega)))) ev_c rv_I0) (ev_var rfl) (rv_I ht)) ev_c rv_eqI
theorem ok_back (T : Txt K mg A) : Okk P w K mg base 4 A.a_back ["number", "turn"] (sp_back A) := by
  obtain ⟨_, G_Back_init, b_Back_init, k_Back_init⟩ := ok_Back_init (P := P) (w := w) (base := base) T
  obtain ⟨_, G_Bar_init, b_Bar_init, k_Bar_init⟩ := ok_Bar_init (P := P) (w := w) (base := base) T
  obtain ⟨_, G_check_turn, b_check_turn, k_check_turn⟩ := ok_check_turn (P := P) (w := w) (base := base) T
  obtain ⟨_, G_is_number, b_is_number, k_is_number⟩ := ok_is_number (P := P) (w := w) (base := base) T
  obtain ⟨_, G_shares_of, b_shares_of, k_shares_of⟩ := ok_shares_of (P := P) (w := w) (base := base) T
  refine okk T.F_back sc_back (fun vs H Q E h => ?_) (fun cdv Ar outer s H vs Q E hr h => ?_)
  · obtain ⟨d, ⟨rfl, _⟩, _⟩ := h
    rfl
  · obtain ⟨⟨n, t⟩, ⟨rfl, n0, n1, t0, t1⟩, k⟩ := h
    dsimp only at n0 n1 t0 t1
    have hr_Back_init : Room 2 _ := hr.mono (by decide)
    have hr_Bar_init : Room 2 _ := hr.mono (by decide)
    have hr_check_turn : Room 3 _ := hr.mono (by decide)
    have hr_is_number : Room 2 _ := hr.mono (by decide)
    have hr_shares_of : Room 1 _ := hr.mono (by decide)
    refine ⟨_, (pss_cons (ps_if (pt_not (pt_val (pe_call G_is_number hr_is_number (by rfl) T.g_is_number k_is_number b_is_number .nil pass0 (pa_cons (pv 0) pa_nil)))) (pss_one ps_never) pss_nil)
      (pss_cons (ps_expr (pe_call G_check_turn hr_check_turn (by rfl) T.g_check_turn k_check_turn b_check_turn .nil pass0 (pa_cons (pv 1) pa_nil)))
      (pss_cons (ps_asg (pe_call G_shares_of hr_shares_of (by rfl) T.g_shares_of k_shares_of b_shares_of .nil pass0 (pa_cons (pv 0) (pa_cons (pv 1) pa_nil))) (pg_tupK (n := 3) K rfl (pgs_cons (pg_name (i := 2) sc_back.nd rfl (Or.inl rfl)) (pgs_cons (pg_name (i := 3) sc_back.nd rfl (Or.inl rfl)) (pgs_cons (pg_name (i := 4) sc_back.nd rfl (Or.inl rfl)) pgs_nil)))))
      (pss_cons (ps_if (pt_cmpR op_gt (pv 2) pe_int (nomark _)) (pss_one (ps_ret (pe_make T.mk_Bar G_Bar_init hr_Bar_init (by rfl) T.g_Bar b_Bar_init .nil pass0 (pa_cons (pv 2) pa_nil)))) pss_nil)
      (pss_one (ps_ret (pe_make T.mk_Back G_Back_init hr_Back_init (by rfl) T.g_Back b_Back_init .nil pass0 (pa_cons (pe_op op_mod (pv 3) (pv 1)) pa_nil)))))))), ?_⟩
    have h1 : Ev (tCall (sp_is_number K) [] E0 (tCons (tVar 0) tNil)) [some (.int n), some (.int t), none, none, none] H (.bl true) := ev_call0 (.int n) (by walk_at "ev") (fun H1 e => ⟨rfl, plain_int⟩) fun _ v _ p => by
      rw [p]
      simp only [isNum, decide_eq_true n0, decide_eq_true n1, Bool.and_self]
    refine q_when (et_not (et_B h1)) (fun z => nomatch z) fun _ H1 e1 => ?_
    refine q_drop (v := .non) (ev_call0 t (ea_cons (ev_var rfl) ea_nil) (fun H2 e2 => ⟨rfl, t0, t1⟩) fun _ v _ p => p) fun H2 e2 => ?_
    refine q_asgG (er_call (n, t) (ea_cons (ev_var rfl) (ea_cons (ev_var rfl) ea_nil)) (fun H3 e3 => ⟨rfl, by show t.natAbs ≤ 1000000; omega⟩) fun _ v H3 _ _ p => p) fun v H3 e3 h3 => ?_
    obtain ⟨p, g, x, y, rfl, hp, sh⟩ := h3
    dsimp only at sh
    refine g_tup3 (st_of hp) ?_
    refine q_when (et_test (ev_op (ev_var rfl) ev_c rv_I0)) (fun hb H4 e4 => ?_) fun hb H4 e4 => ?_
    · refine s_retR (er_make1 (ev_var rfl)) fun v H5 e5 h5 => k _ _ ((e1.trans e2).trans ((e3.trans e4).trans e5)) (.inl ⟨g, ?_, ?_⟩)
      · obtain ⟨a, dx, rfl, _, h⟩ := h5
        exact ⟨a, dx, rfl, h⟩
      · have := of_decide_eq_true hb
        exact sh.bar (by omega)
    · refine s_retR (er_make1 (ev_op (ev_var rfl) (ev_var rfl) (rv_I t0))) fun v H5 e5 h5 => k _ _ ((e1.trans e2).trans ((e3.trans e4).trans e5)) (.inr ⟨x % t, ?_, ?_⟩)
      · obtain ⟨a, dx, rfl, _, h⟩ := h5
        exact ⟨a, dx, rfl, h⟩
      · have := of_decide_eq_false hb
        exact sh.back (by omega) t0
end
/-! ### Times: made, asked; Bar asked; come -/
def TimesAt (A : Ad) (H : Hp) (v : V) (l : Addr) (ts : List Int) : Prop := ∃ a dx, v = .ref a ∧ H a = some (.ins A.c_Times dx [("times", .ref l)]) ∧ H l = some (.lst (iv ts))
theorem TimesAt.up {A : Ad} {H H' : Hp} {v : V} {l : Addr} {ts : List Int} (e : Ex H H') (h : TimesAt A H v l ts) : TimesAt A H' v l ts := by
  obtain ⟨a, dx, r, h1, h2⟩ := h
  exact ⟨a, dx, r, e _ _ h1, e _ _ h2⟩
def sp_Times_init (A : Ad) : Sp := spI A.c_Times (fun us H => ∃ (l : Addr) (xs : List V), us = [.ref l] ∧ H l = some (.lst xs)) (fun us H H' fs => ∃ (l : Addr) (xs : List V) (l2 : Addr), us = [.ref l] ∧ H l = some (.lst xs) ∧ H l2 = none ∧ H' l2 = some (.lst xs) ∧ fs = ([("times", .ref l2)] : List (Str × V)))
def big (ns : List Int) : Prop := ns.length ≤ 10000 ∧ ∀ n ∈ ns, -(2 ^ 64) < n ∧ n < 2 ^ 64
/-- data: the object, its list, what it holds, the numbers' list, the numbers, round, rest -/
structure TimesD where
  o : V
  l : Addr
  ts : List Int
  q : V
  ns : List Int
  t : Int
  r : Int
def sp_Times_shows (A : Ad) : Sp := spX (fun (d : TimesD) vs H => vs = [d.o, d.q, .int d.t, .int d.r] ∧ TimesAt A H d.o d.l d.ts ∧ LstAt (iv d.ns) d.q H ∧ big d.ns ∧ d.ts.length ≤ 10000 ∧ 0 < d.t) (fun d _ v _ => v = .bl (timesS d.ts d.ns d.t d.r))
structure BarD where
  o : V
  g : Int
  q : V
  ns : List Int
  t : Int
  r : Int
def sp_Bar_shows (A : Ad) : Sp := spX (fun (d : BarD) vs H => vs = [d.o, d.q, .int d.t, .int d.r] ∧ BarAt A H d.o d.g ∧ LstAt (iv d.ns) d.q H ∧ big d.ns) (fun d _ v _ => v = .bl (barS d.g d.ns d.t d.r))
/-- data of come: the list, the numbers, round, rest -/
structure ComeD where
  q : V
  ns : List Int
  t : Int
  r : Int
def ComePre (d : ComeD) (H : Hp) : Prop := LstAt (iv d.ns) d.q H ∧ d.ns.length ≤ 5000 ∧ (∀ n ∈ d.ns, -1000000 ≤ n ∧ n ≤ 1000000) ∧ 1 ≤ d.t ∧ d.t ≤ 1000000 ∧ 0 ≤ d.r ∧ d.r < d.t
def sp_come (A : Ad) : Sp := spX (fun (d : ComeD) vs H => vs = [d.q, .int d.t, .int d.r] ∧ ComePre d H)
  (fun d H v H' => (∃ g, BarAt A H' v g ∧ BarSOk g d.ns d.t d.r) ∨ ∃ l ts, TimesAt A H' v l ts ∧ H l = none ∧ TimesOk ts d.ns d.t d.r)
section
variable {P : Program} {w : World} {K : PySem.W.Frag} {mg : Str → Option Value} {base : Heap} {A : Ad}
theorem ok_Times_init (T : Txt K mg A) : Okk P w K mg base 1 A.a_Times_init ["self", "times"] (sp_Times_init A) := by
  refine okk T.F_Times_init sc_Times_init (fun vs H Q E h => ?_) (fun cdv Ar outer s H vs Q E hr h => ?_)
  · obtain ⟨x, dx, us, rfl, _, ⟨l, xs, rfl, _⟩, _⟩ := h
    rfl
  · obtain ⟨x, dx, us, rfl, hx, ⟨l, xs, rfl, hl⟩, k⟩ := h
    refine ⟨_, (pss_one (ps_fld (pv 0) (pe_callTy (list_ofK K) (by rfl) T.z_list (by decide +kernel) (pa_cons (pv 1) pa_nil)) rfl)), ?_⟩
    refine ⟨.ref l, rfl, l, xs, rfl, .inl (sq_of hl), fun l2 h2 => ?_⟩
    have h2x : x ≠ l2 := ne_of_none hx h2
    refine ⟨_, rfl, x, A.c_Times, dx, _, rfl, (by rw [upd_ne h2x]; exact hx), T.cl_Times, T.n_Times_times, (by decide), ?_⟩
    refine k _ _ (fun b o hb h => ?_) upd_same ⟨l, xs, l2, rfl, hl, h2, by rw [upd_ne h2x.symm, upd_same], rfl⟩
    rw [upd_ne hb, upd_ne (ne_of_none h h2)]
    exact h
theorem er_Times {σ : L2.St} {H : Hp} {tb : TE} {E : XK} {xs : List V} {R : V → Hp → Prop} (h : EvR tb σ H R) (hR : ∀ v H1, R v H1 → ∃ l, v = .ref l ∧ H1 l = some (.lst xs)) : EvR (tMake A.c_Times (sp_Times_init A) [] E (tCons tb tNil)) σ H (fun v H2 => ∃ a dx l2, v = .ref a ∧ H2 a = some (.ins A.c_Times dx [("times", .ref l2)]) ∧ H l2 = none ∧ H2 l2 = some (.lst xs)) :=
  er_make (ear_one h) (fun us H1 H2 e ⟨v, hu, hv⟩ e2 => by
    obtain ⟨l, rfl, hl⟩ := hR v H1 hv
    exact ⟨l, xs, hu, e2 _ _ hl⟩) fun us H1 H2 H3 fs a dx e ⟨v, hu, hv⟩ e2 e3 ha hi ⟨l', xs', l2, hu', hl', hn, h3, hf⟩ => by
    obtain ⟨l, rfl, hl⟩ := hR v H1 hv
    rw [hu] at hu'
    cases hu'
    have : xs' = xs := by
      have := hl'.symm.trans (e2 _ _ hl)
      cases this
      rfl
    subst this hf
    exact ⟨a, dx, l2, rfl, hi, fresh_back (e.trans e2) hn, h3⟩
theorem ok_Bar_shows (T : Txt K mg A) : Okk P w K mg base 1 A.a_Bar_shows ["self", "numbers", "turn", "rest"] (sp_Bar_shows A) := by
  refine okk T.F_Bar_shows sc_Bar_shows (fun vs H Q E h => ?_) (fun cdv Ar outer s H vs Q E hr h => ?_)
  · obtain ⟨d, ⟨rfl, _⟩, _⟩ := h
    rfl
  · obtain ⟨⟨_, g, _, ns, t, r⟩, ⟨rfl, ⟨a, dx, rfl, ho⟩, ⟨q, rfl, hq⟩, hlen, hn⟩, k⟩ := h
    dsimp only at ho hq hlen hn
    refine ⟨_, (pss_cons (ps_if (PW.pt (pw_or (pt_cmpR op_lt (pe_fldK K (pv 0) rfl) pe_int (nomark _)) (pw_or (pt_cmpR op_ne (pe_op op_mod (pv 2) (pe_fldK K (pv 0) rfl)) pe_int (nomark _)) (pw_or1 (pt_cmpR op_eq (pe_op op_mod (pv 3) (pe_fldK K (pv 0) rfl)) pe_int (nomark _)))))) (pss_one (ps_ret pe_bl)) pss_nil)
      (pss_one (ps_ret (pe_callB (allK K rfl) (by rfl) T.z_all (by decide +kernel) (pa_cons (pe_lc (own := [("number", 4)]) rfl sc_Bar_shows.nd (pi_listK K (pv 1)) (blkOk_by (N := ["self", "numbers", "turn", "rest", "number"]) (sc := defScope s_Bar_shows) (by decide +kernel)) (fun _ _ _ _ _ => (pg_name (i := 4) sc_Bar_shows.nd rfl (Or.inl rfl))) (fun _ _ _ _ _ => pts_nil) (fun _ _ _ _ _ => (pe_cmpR op_eq (pe_op op_mod (pv 4) (pe_fldK K (pv 0) rfl)) pe_int (nomark _)))) pa_nil))))), ?_⟩
    have fp : ∀ σ : L2.St, σ[0]? = some (some (.ref a)) → ∀ H1, Ex H H1 → Ev (tFld K (tVar 0) "part") σ H1 (.int g) := fun σ hσ H1 e => ev_fld (ev_var hσ) (e _ _ ho) T.cl_Bar T.n_Bar_part lk1
    refine q_when (b := decide (g < 2) || (!decide (t % g = 0) || decide (r % g = 0))) ?_ (fun hb H1 e1 => ?_) (fun hb H1 e1 => ?_)
    · refine et_or (et_test (ev_op (fp _ rfl _ (Ex.refl _)) ev_c rv_I0)) fun h2 => ?_
      have hg : 0 < g := by
        have := of_decide_eq_false h2
        omega
      exact et_or (et_test (ev_op (ev_op (ev_var rfl) (fp _ rfl _ (Ex.refl _)) (rv_I hg)) ev_c rv_neI)) fun _ => et_test (ev_op (ev_op (ev_var rfl) (fp _ rfl _ (Ex.refl _)) (rv_I hg)) ev_c rv_eqI)
    · refine s_ret ev_c fun H2 e2 => k _ _ (e1.trans e2) ?_
      show V.bl false = V.bl (barS g ns t r)
      unfold barS
      rw [hb]
      rfl
    · have hg : 0 < g := by
        simp only [Bool.or_eq_false_iff, decide_eq_false_iff_not] at hb
        omega
      have hd : barS g ns t r = ns.all fun n => decide (n % g = 0) := by
        unfold barS
        rw [hb]
        simp
      refine s_ret (v := .bl (barS g ns t r)) (ev_is (ev_allN (bs := ns.map fun n => decide (n % g = 0)) (H0 := H1) ?_) (by rw [hd, List.all_map]; rfl)) fun H2 e2 => k _ _ (e1.trans e2) rfl
      rw [← map_bl]
      exact er_lcI (fun n => .bl (decide (n % g = 0))) (ev_var rfl) (sq_of (e1 _ _ hq)) (by omega) (fun _ => rfl) fun n hn => ev_op (ev_op (ev_var rfl) (fp _ rfl _ e1) (rv_I hg)) ev_c rv_eqI
theorem ok_Times_shows (T : Txt K mg A) : Okk P w K mg base 2 A.a_Times_shows ["self", "numbers", "turn", "rest"] (sp_Times_shows A) := by
  obtain ⟨_, G_sum_of, b_sum_of, k_sum_of⟩ := ok_sum_of (P := P) (w := w) (base := base) T
  refine okk T.F_Times_shows sc_Times_shows (fun vs H Q E h => ?_) (fun cdv Ar outer s H vs Q E hr h => ?_)
  · obtain ⟨d, ⟨rfl, _⟩, _⟩ := h
    rfl
  · obtain ⟨⟨_, l, ts, _, ns, t, r⟩, ⟨rfl, ⟨a, dx, rfl, ho, hl⟩, ⟨q, rfl, hq⟩, ⟨hlen, hn⟩, htl, ht⟩, k⟩ := h
    dsimp only at ho hl hq hlen hn htl ht
    have hr_sum_of : Room 1 _ := hr.mono (by decide)
    refine ⟨_, (pss_cons (ps_if (PW.pt (pw_or (pt_cmpR op_ne (pe_callB (len_seqK K) (by rfl) T.z_len (by decide +kernel) (pa_cons (pe_fldK K (pv 0) rfl) pa_nil)) (pe_callB (len_seqK K) (by rfl) T.z_len (by decide +kernel) (pa_cons (pv 1) pa_nil)) (nomark _)) (pw_or1 (pt_not (pt_val (pe_callB (allK K rfl) (by rfl) T.z_all (by decide +kernel) (pa_cons (pe_lc (own := [("often", 4)]) rfl sc_Times_shows.nd (pi_listK K (pe_fldK K (pv 0) rfl)) (blkOk_by (N := ["self", "numbers", "turn", "rest", "often"]) (sc := defScope s_Times_shows) (by decide +kernel)) (fun _ _ _ _ _ => (pg_name (i := 4) sc_Times_shows.nd rfl (Or.inl rfl))) (fun _ _ _ _ _ => pts_nil) (fun _ _ _ _ _ => (pe_chain op_le op_lt pe_int (pv 4) (pv 2)))) pa_nil))))))) (pss_one (ps_ret pe_bl)) pss_nil)
      (pss_one (ps_ret (pe_cmpR op_eq (pe_op op_mod (pe_call G_sum_of hr_sum_of (by rfl) T.g_sum_of k_sum_of b_sum_of .nil pass0 (pa_cons (pv 1) (pa_cons (pe_fldK K (pv 0) rfl) pa_nil))) (pv 2)) (pv 3) (nomark _))))), ?_⟩
    have ft : ∀ σ : L2.St, σ[0]? = some (some (.ref a)) → ∀ H1, Ex H H1 → Ev (tFld K (tVar 0) "times") σ H1 (.ref l) := fun σ hσ H1 e => ev_fld (ev_var hσ) (e _ _ ho) T.cl_Times T.n_Times_times lk1
    refine q_when (b := !decide (ts.length = ns.length) || !(ts.all fun o => decide (0 ≤ o) && decide (o < t))) ?_ (fun hb H1 e1 => ?_) (fun hb H1 e1 => ?_)
    · refine et_or ?_ fun _ => et_not (et_B (ev_is (ev_allN (bs := ts.map fun o => decide (0 ≤ o) && decide (o < t)) (H0 := H) ?_) (by rw [List.all_map]; rfl)))
      · refine et_is (et_test (ev_op (ev_lenL (ft _ rfl _ (Ex.refl _)) (sq_of hl)) (ev_lenL (ev_var rfl) (sq_of hq)) rv_neI)) ?_
        rw [iv_len, iv_len]
        congr 1
        exact decide_eq_decide.mpr (by omega)
      · rw [← map_bl]
        exact er_lcI (fun o => .bl (decide (0 ≤ o) && decide (o < t))) (ft _ rfl _ (Ex.refl _)) (sq_of hl) (by omega) (fun _ => rfl) fun n hn => ev_chain ev_c (ev_var rfl) rv_I0 (fun _ => ev_var rfl) fun _ => rv_I0
    · refine s_ret ev_c fun H2 e2 => k _ _ (e1.trans e2) ?_
      show V.bl false = V.bl (timesS ts ns t r)
      unfold timesS
      rw [hb]
      rfl
    · have hd : timesS ts ns t r = decide (dot ns ts % t = r) := by
        unfold timesS
        rw [hb]
        simp
      have hlt : ts.length = ns.length := by
        simp only [Bool.or_eq_false_iff, Bool.not_eq_false', decide_eq_true_eq] at hb
        exact hb.1
      refine s_ret (v := .bl (timesS ts ns t r)) (ev_is (ev_op (ev_op (ev_call0 (z := .int (dot ns ts)) (V.ref q, V.ref l, ns, ts) (ea_cons (ev_var rfl) (ea_cons (ft _ rfl _ e1) ea_nil)) (fun H2 e => ⟨rfl, ⟨q, rfl, e _ _ (e1 _ _ hq)⟩, ⟨l, rfl, e _ _ (e1 _ _ hl)⟩, hlt.symm, hlen, hn⟩) fun _ _ _ q => q) (ev_var rfl) (rv_I ht)) (ev_var rfl) rv_eqI) (by rw [hd])) fun H2 e2 => k _ _ (e1.trans e2) rfl
theorem ok_come (T : Txt K mg A) : Okk P w K mg base 4 A.a_come ["numbers", "turn", "rest"] (sp_come A) := by
  obtain ⟨_, G_Bar_init, b_Bar_init, k_Bar_init⟩ := ok_Bar_init (P := P) (w := w) (base := base) T
  obtain ⟨_, G_Times_init, b_Times_init, k_Times_init⟩ := ok_Times_init (P := P) (w := w) (base := base) T
  obtain ⟨_, G_check_numbers, b_check_numbers, k_check_numbers⟩ := ok_check_numbers (P := P) (w := w) (base := base) T
  obtain ⟨_, G_check_turn, b_check_turn, k_check_turn⟩ := ok_check_turn (P := P) (w := w) (base := base) T
  obtain ⟨_, G_common_of, b_common_of, k_common_of⟩ := ok_common_of (P := P) (w := w) (base := base) T
  obtain ⟨_, G_is_whole, b_is_whole, k_is_whole⟩ := ok_is_whole (P := P) (w := w) (base := base) T
  refine okk T.F_come sc_come (fun vs H Q E h => ?_) (fun cdv Ar outer s H vs Q E hr h => ?_)
  · obtain ⟨d, ⟨rfl, _⟩, _⟩ := h
    rfl
  · obtain ⟨⟨_, ns, t, r⟩, ⟨rfl, ⟨q, rfl, hq⟩, hlen, hn, t0, t1, r0, r1⟩, k⟩ := h
    dsimp only at hq hlen hn t0 t1 r0 r1
    have hr_Bar_init : Room 2 _ := hr.mono (by decide)
    have hr_Times_init : Room 2 _ := hr.mono (by decide)
    have hr_check_numbers : Room 3 _ := hr.mono (by decide)
    have hr_check_turn : Room 3 _ := hr.mono (by decide)
    have hr_common_of : Room 2 _ := hr.mono (by decide)
    have hr_is_whole : Room 1 _ := hr.mono (by decide)
    refine ⟨_, (pss_cons (ps_expr (pe_call G_check_numbers hr_check_numbers (by rfl) T.g_check_numbers k_check_numbers b_check_numbers .nil pass0 (pa_cons (pv 0) pa_nil)))
      (pss_cons (ps_expr (pe_call G_check_turn hr_check_turn (by rfl) T.g_check_turn k_check_turn b_check_turn .nil pass0 (pa_cons (pv 1) pa_nil)))
      (pss_cons (ps_if (PW.pt (pw_or (pt_not (pt_val (pe_call G_is_whole hr_is_whole (by rfl) T.g_is_whole k_is_whole b_is_whole .nil pass0 (pa_cons (pv 2) pa_nil)))) (pw_or1 (pt_not (pt_chain op_le op_lt pe_int (pv 2) (pv 1)))))) (pss_one ps_never) pss_nil)
      (pss_cons (ps_asg (pe_call G_common_of hr_common_of (by rfl) T.g_common_of k_common_of b_common_of .nil pass0 (pa_cons (pe_op op_cat (pe_lc (own := [("number", 6)]) rfl sc_come.nd (pi_listK K (pv 0)) (blkOk_by (N := ["numbers", "turn", "rest", "part", "times", "often", "number"]) (sc := defScope s_come) (by decide +kernel)) (fun _ _ _ _ _ => (pg_name (i := 6) sc_come.nd rfl (Or.inl rfl))) (fun _ _ _ _ _ => pts_nil) (fun _ _ _ _ _ => (pe_op op_mod (pv 6) (pv 1)))) (pe_lst (pa_cons (pv 1) pa_nil))) pa_nil)) (pg_tupK (n := 2) K rfl (pgs_cons (pg_name (i := 3) sc_come.nd rfl (Or.inr rfl)) (pgs_cons (pg_name (i := 4) sc_come.nd rfl (Or.inl rfl)) pgs_nil))))
      (pss_cons (ps_if (pt_cmpR op_ne (pe_op op_mod (pv 2) (pv 3)) pe_int (nomark _)) (pss_one (ps_ret (pe_make T.mk_Bar G_Bar_init hr_Bar_init (by rfl) T.g_Bar b_Bar_init .nil pass0 (pa_cons (pv 3) pa_nil)))) pss_nil)
      (pss_one (ps_ret (pe_make T.mk_Times G_Times_init hr_Times_init (by rfl) T.g_Times b_Times_init .nil pass0 (pa_cons (pe_lc (own := [("often", 5)]) rfl sc_come.nd (pi_listK K (pe_slice (sl_listK K) (pv 4) po_none (po_some (pe_un un_neg pe_int)))) (blkOk_by (N := ["numbers", "turn", "rest", "part", "times", "often", "number"]) (sc := defScope s_come) (by decide +kernel)) (fun _ _ _ _ _ => (pg_name (i := 5) sc_come.nd rfl (Or.inl rfl))) (fun _ _ _ _ _ => pts_nil) (fun _ _ _ _ _ => (pe_op op_mod (pe_op op_mul (pv 5) (pe_op op_fdiv (pv 2) (pv 3))) (pv 1)))) pa_nil))))))))), ?_⟩
    refine q_drop (v := .non) (ev_call0 (V.ref q, ns) (ea_cons (ev_var rfl) ea_nil) (fun H2 e2 => ⟨rfl, ⟨q, rfl, e2 _ _ hq⟩, by show ns.length ≤ 10000; omega, hn⟩) fun _ v _ p => p) fun H1 e1 => ?_
    refine q_drop (v := .non) (ev_call0 t (ea_cons (ev_var rfl) ea_nil) (fun H2 e2 => ⟨rfl, t0, t1⟩) fun _ v _ p => p) fun H2 e2 => ?_
    refine q_when (b := false) ?_ (fun z => nomatch z) fun _ H3 e3 => ?_
    · refine et_is (et_or (et_not (et_B (ev_call0 (z := .bl true) (V.int r) (ea_cons (ev_var rfl) ea_nil) (fun H1 e => ⟨rfl, plain_int⟩) fun _ _ _ p => p))) fun _ => et_not (et_test (ev_chain ev_c (ev_var rfl) rv_I0 (fun _ => ev_var rfl) fun _ => rv_I0))) ?_
      rw [decide_eq_true r0, decide_eq_true r1]
      rfl
    have e13 := e1.trans (e2.trans e3)
    have hmod : ∀ n, 0 ≤ n % t ∧ n % t < t := fun n => ⟨Int.emod_nonneg _ (by omega), Int.emod_lt_of_pos _ (by omega)⟩
    refine q_asgG (er_call1 (S := fun v H' => ∃ tp p l ts, v = .ref tp ∧ H' tp = some (.tup [.int p, .ref l]) ∧ H' l = some (.lst (iv ts)) ∧ CommonOk p ts (ns.map (fun n => n % t) ++ [t]) ∧ p ≤ 1000000) (er_cat (xs := iv (ns.map fun n => n % t)) (ys := iv [t])
      ((er_lcI (fun n => .int (n % t)) (ev_var rfl) (sq_of (e13 _ _ hq)) (by omega) (fun _ => rfl) fun n hn => ev_op (ev_var rfl) (ev_var rfl) (rv_I (by show 0 < t; omega))).imp fun v H6 _ ⟨q, hv, _, hq⟩ => ⟨q, hv, by rw [iv_map]; exact hq⟩)
      ((er_new (ea_cons (ev_var rfl) ea_nil) (by walk_at "sz")).imp fun v H6 _ ⟨q, hv, _, hq⟩ => ⟨q, hv, hq⟩) (by rw [iv_len, List.length_map]; show ns.length + 1 ≤ 100000; omega)) fun x H4 e4 ⟨q2, hx, _, hq2⟩ => ⟨(x, ns.map (fun n => n % t) ++ [t]), ⟨rfl, ⟨q2, hx, by rw [iv_append]; exact hq2⟩, by simp; omega, fun n hn => ?_⟩, fun v H5 _ ⟨tp, p, l, ts, a1, a2, _, a4, a5, a6⟩ => ⟨tp, p, l, ts, a1, a2, a4, a5, a6⟩⟩) fun v H4 e4 h4 => ?_
    · rcases List.mem_append.mp hn with h | h
      · obtain ⟨m, _, rfl⟩ := List.mem_map.mp h
        have := hmod m
        omega
      · rw [List.mem_singleton.mp h]
        omega
    obtain ⟨tp, p, l, ts, rfl, htp, hl4, cok, hp1⟩ := h4
    obtain ⟨p0, pt', _⟩ := come_pos cok t0
    refine g_tup2 (st_of htp) ?_
    refine q_when (b := !decide (r % p = 0)) (et_test (ev_op (ev_op (ev_var rfl) (ev_var rfl) (rv_I p0)) ev_c rv_neI)) (fun hb H5 e5 => ?_) fun hb H5 e5 => ?_
    · have hb' : ¬ r % p = 0 := by simpa using hb
      refine s_retR (er_make1 (ev_var rfl)) fun v H6 e6 h6 => k _ _ (e13.trans (e4.trans (e5.trans e6))) (.inl ⟨p, ?_, come_bar cok t0 hb'⟩)
      obtain ⟨a, dx, rfl, _, h⟩ := h6
      exact ⟨a, dx, rfl, h⟩
    · have hb' : r % p = 0 := by simpa using hb
      have htl : ts.length ≤ 10000 := by
        have := cok.len
        simp at this
        omega
      have hrp : 0 ≤ r / p ∧ r / p ≤ 1000000 := by
        have h1 : 0 ≤ r / p := Int.ediv_nonneg r0 (by omega)
        have h2 : r / p ≤ r := Int.ediv_le_self _ r0
        omega
      have hl5 := e5 _ _ hl4
      refine s_retR (er_Times (xs := iv (ts.dropLast.map fun o => o * (r / p) % t)) (er_lcNI (ns := ts.dropLast) (S := NewL (iv ts.dropLast) H5) (fun o => .int (o * (r / p) % t))
        ((er_sl (ev_var rfl) eo_none (eo_some (ev_un ev_c ru_neg)) (sq_of hl5)).imp fun v H6 _ ⟨q, hv, hn, hq⟩ => ⟨q, hv, hn, by rw [← iv_dropLast, ← cut_last]; exact hq⟩) (fun v H6 _ ⟨q, hv, _, hq⟩ => ⟨q, hv, sq_of hq⟩) (by rw [List.length_dropLast]; omega) (fun _ => rfl)
        fun H6 e6 o ho => ?_) fun v H6 ⟨q, hv, _, hq⟩ => ⟨q, hv, by rw [iv_map]; exact hq⟩) fun v H6 e6 h6 => k _ _ (e13.trans (e4.trans (e5.trans e6))) (.inr ?_)
      · exact ev_op (ev_op (ev_var rfl) (ev_op (ev_var rfl) (ev_var rfl) (rv_I ⟨p0, by omega⟩)) (rv_I (.inr (by show -(2 ^ 64) < r / p ∧ r / p < 2 ^ 64; omega)))) (ev_var rfl) (rv_I (by show 0 < t; omega))
      · obtain ⟨a, dx, l2, rfl, ho, hn2, hl2⟩ := h6
        exact ⟨l2, _, ⟨a, dx, rfl, ho, hl2⟩, fresh_back (e13.trans (e4.trans e5)) hn2, come_times cok t0 hb' r0 r1⟩
end
/-! ### a cell of the script, a draw, rounds -/
/-- a script at a: ns -/
def Scr (K : PySem.W.Frag) (H : Hp) (v : V) (ns : List Int) : Prop := ∃ a, v = .ref a ∧ SqL K H a (ns.map V.int) ∧ ns.length ≤ 63
theorem Scr.up {K : PySem.W.Frag} {H H' : Hp} {v : V} {ns : List Int} (e : Ex H H') (h : Scr K H v ns) : Scr K H' v ns := by
  obtain ⟨a, r, h, l⟩ := h
  exact ⟨a, r, ex_l e h, l⟩
def sp_l_cell_at (K : PySem.W.Frag) : Sp := spX (fun (d : V × List Int × Nat) vs H => vs = [d.1, .int d.2.2] ∧ Scr K H d.1 d.2.1) (fun d _ v _ => v = .int (d.2.1.getD d.2.2 0))
def sp_l_draw (_ : PySem.W.Frag) : Sp := spX (fun (d : Int × Int × Int) vs _ => vs = [.int d.1, .int d.2.1, .int d.2.2] ∧ 0 ≤ d.2.1 ∧ 0 < d.2.2) (fun d _ v _ => ∃ r, v = .int r ∧ 0 ≤ r ∧ r < d.2.2)
section
variable {P : Program} {w : World} {K : PySem.W.Frag} {mg : Str → Option Value} {base : Heap} {A : Ad}
theorem ok_l_cell_at (T : Txt K mg A) : Okk P w K mg base 1 A.a_l_cell_at ["_law_script", "_law_k"] (sp_l_cell_at K) := by
  refine okk T.F_l_cell_at sc_l_cell_at (fun vs H Q E h => ?_) (fun cdv Ar outer s H vs Q E hr h => ?_)
  · obtain ⟨d, ⟨rfl, _⟩, _⟩ := h
    rfl
  · obtain ⟨⟨_, ns, j⟩, ⟨rfl, a, rfl, hS, hl⟩, k⟩ := h
    refine ⟨_, (pss_cons (ps_if (pt_cmpR op_lt (pv 1) (pe_callB (len_seqK K) (by rfl) T.z_len (by decide +kernel) (pa_cons (pv 0) pa_nil)) (nomark _)) (pss_one (ps_ret (pe_ix (ix_listK K) (pv 0) (pv 1) (fun _ _ => rfl)))) pss_nil)
      (pss_one (ps_ret pe_int))), ?_⟩
    have e0 : ((ns.map V.int).length : Int) = (ns.length : Int) := by rw [List.length_map]
    refine q_when (b := decide ((j : Int) < (ns.length : Int))) ?_ (fun hb H1 e1 => ?_) (fun hb H1 e1 => ?_)
    · rw [← e0]
      exact et_test (ev_op (ev_var rfl) (ev_lenL (ev_var rfl) hS) rv_I0)
    · have hj : j < ns.length := by
        have := of_decide_eq_true hb
        omega
      refine s_ret (v := .int (ns.getD j 0)) (ev_op (ev_var rfl) (ev_var rfl) (rv_ixL (ex_l e1 hS) ?_)) fun H2 e2 => k _ _ (e1.trans e2) rfl
      refine atI_nat ?_
      rw [List.getElem?_map, List.getD_eq_getElem?_getD, List.getElem?_eq_getElem hj]
      rfl
    · have hj : ¬ j < ns.length := fun z => by
        have := of_decide_eq_false hb
        omega
      refine s_ret (v := .int (ns.getD j 0)) ?_ fun H2 e2 => k _ _ (e1.trans e2) rfl
      rw [List.getD_eq_getElem?_getD, List.getElem?_eq_none (by omega)]
      exact ev_c
abbrev prms : List Int := [1000003, 1000033, 1000037, 1000039, 1000081, 1000099, 1000117, 1000121, 1000133, 1000151, 1000159, 1000171, 1000183, 1000187, 1000193, 1000199]
theorem ok_l_draw (T : Txt K mg A) : Okk P w K mg base 1 A.a_l_draw ["_law_cell", "_law_k", "_law_many"] (sp_l_draw K) := by
  refine okk T.F_l_draw sc_l_draw (fun vs H Q E h => ?_) (fun cdv Ar outer s H vs Q E hr h => ?_)
  · obtain ⟨d, ⟨rfl, _⟩, _⟩ := h
    rfl
  · obtain ⟨⟨c, j, m⟩, ⟨rfl, hj, hm⟩, k⟩ := h
    refine ⟨_, (pss_cons (ps_set (i := 3) sc_l_draw.nd rfl (.inl rfl) (pe_tup (pa_cons pe_int (pa_cons pe_int (pa_cons pe_int (pa_cons pe_int (pa_cons pe_int (pa_cons pe_int (pa_cons pe_int (pa_cons pe_int (pa_cons pe_int (pa_cons pe_int (pa_cons pe_int (pa_cons pe_int (pa_cons pe_int (pa_cons pe_int (pa_cons pe_int (pa_cons pe_int pa_nil))))))))))))))))))
      (pss_one (ps_ret (pe_op op_mod (pe_op op_mod (pe_op op_add (pe_op op_mul (pv 0) pe_int) (pe_op op_mul (pv 1) pe_int)) (pe_ix (ix_tupK K) (pv 3) (pe_op op_mod (pv 1) pe_int) (fun _ _ => rfl))) (pv 2))))), ?_⟩
    refine q_asgU (eu_tup (by walk_at "ev") (by walk_at "sz")) fun p H1 hp e1 h1 => ?_
    have k0 : 0 ≤ j % 16 := Int.emod_nonneg _ (by decide)
    have k1 : j % 16 < 16 := Int.emod_lt_of_pos _ (by decide)
    have hg := getD_all (l := prms) (i := (j % 16).toNat) (a := 1) (b := 2000000) (by decide) (by show (j % 16).toNat < 16; omega)
    have hg1 : 0 < prms.getD (j % 16).toNat 0 := by
      have := hg.1
      omega
    refine s_ret (v := .int ((c * 48271 + j * 69621) % prms.getD (j % 16).toNat 0 % m)) ?_ fun H2 e2 => k _ _ (e1.trans e2) ⟨_, rfl, Int.emod_nonneg _ (Int.ne_of_gt hm), Int.emod_lt_of_pos _ hm⟩
    refine ev_op (ev_op (ev_op (ev_op (ev_var rfl) ev_c (rv_I (.inr (by decide)))) (ev_op (ev_var rfl) ev_c (rv_I (.inr (by decide)))) rv_I0) (ev_op (ev_var rfl) (ev_op (ev_var rfl) ev_c (rv_I (by decide))) (rv_ixT (st_of (show H1 p = some (.tup (prms.map V.int)) from h1)) (atI_map (l := prms) k0 (by show j % 16 < 16; exact k1)))) (rv_I hg1)) (ev_var rfl) (rv_I hm)
theorem ev_cell {σ : L2.St} {H : Hp} {ta tb : TE} {v : V} {ns : List Int} {j : Nat} {E : XK} (h : Ev ta σ H v) (hj : Ev tb σ H (.int (j : Int))) (hS : Scr K H v ns) : Ev (tCall (sp_l_cell_at K) [] E (tCons ta (tCons tb tNil))) σ H (.int (ns.getD j 0)) :=
  ev_call0 (v, ns, j) (ea_cons h (ea_cons hj ea_nil)) (fun H1 e => ⟨rfl, hS.up e⟩) fun _ _ _ p => p
theorem er_draw {σ : L2.St} {H : Hp} {ta tb tc : TE} {c k m : Int} {E : XK} (h : Ev ta σ H (.int c)) (h2 : Ev tb σ H (.int k)) (h3 : Ev tc σ H (.int m)) (hk : 0 ≤ k) (hm : 0 < m) : EvR (tCall (sp_l_draw K) [] E (tCons ta (tCons tb (tCons tc tNil)))) σ H (fun v _ => ∃ r, v = .int r ∧ 0 ≤ r ∧ r < m) :=
  er_call (c, k, m) (ea_cons h (ea_cons h2 (ea_cons h3 ea_nil))) (fun H1 e => ⟨rfl, hk, hm⟩) fun _ _ _ _ _ p => p
end
/-! ### whether it is a list of numbers -/
def sp_l_numbers (_ : PySem.W.Frag) : Sp := spX (fun (d : V × List Int) vs H => vs = [d.1] ∧ LstAt (iv d.2) d.1 H ∧ d.2.length ≤ 10000) (fun _ _ v _ => v = .bl true)
def sp_l_whole (K : PySem.W.Frag) : Sp := spX (fun (d : V) vs H => vs = [d] ∧ PlainV K H d) (fun d _ v _ => v = .bl (isI d))
section
variable {P : Program} {w : World} {K : PySem.W.Frag} {mg : Str → Option Value} {base : Heap} {A : Ad}
end
/-! ### rounds -/
/-- a new list of n rounds -/
def TurnsAt (n : Nat) (H : Hp) (v : V) (H' : Hp) : Prop := ∃ (p : Addr) (ts : List Int), v = .ref p ∧ H p = none ∧ H' p = some (.lst (ts.map V.int)) ∧ ts.length = n ∧ ∀ t ∈ ts, 1 ≤ t ∧ t ≤ 1000000
def sp_l_turns (K : PySem.W.Frag) : Sp := spX (fun (d : V × List Int) vs H => vs = [d.1] ∧ Scr K H d.1 d.2) (fun d H v H' => TurnsAt d.2.length H v H')
section
variable {P : Program} {w : World} {K : PySem.W.Frag} {mg : Str → Option Value} {base : Heap} {A : Ad}
theorem ok_l_turns (T : Txt K mg A) : Okk P w K mg base 2 A.a_l_turns ["_law_script"] (sp_l_turns K) := by
  obtain ⟨_, G_l_cell_at, b_l_cell_at, k_l_cell_at⟩ := ok_l_cell_at (P := P) (w := w) (base := base) T
  obtain ⟨_, G_l_draw, b_l_draw, k_l_draw⟩ := ok_l_draw (P := P) (w := w) (base := base) T
  refine okk T.F_l_turns sc_l_turns (fun vs H Q E h => ?_) (fun cdv Ar outer s H vs Q E hr h => ?_)
  · obtain ⟨d, ⟨rfl, _⟩, _⟩ := h
    rfl
  · obtain ⟨⟨_, ns⟩, ⟨rfl, a, rfl, hS, hl⟩, k⟩ := h
    have hr_l_cell_at : Room 1 _ := hr.mono (by decide)
    have hr_l_draw : Room 1 _ := hr.mono (by decide)
    refine ⟨_, (pss_cons (ps_set (i := 1) sc_l_turns.nd rfl (.inl rfl) (pe_call G_l_draw hr_l_draw (by rfl) T.g_l_draw k_l_draw b_l_draw .nil pass0 (pa_cons (pe_call G_l_cell_at hr_l_cell_at (by rfl) T.g_l_cell_at k_l_cell_at b_l_cell_at .nil pass0 (pa_cons (pv 0) (pa_cons pe_int pa_nil))) (pa_cons pe_int (pa_cons pe_int pa_nil)))))
      (pss_cons (ps_set (i := 2) sc_l_turns.nd rfl (.inl rfl) (pe_lst pa_nil))
      (pss_cons (ps_for PassesOwn.never rfl (pi_range1 (by rfl) T.z_range (pa_cons (pe_callB (len_seqK K) (by rfl) T.z_len (by decide +kernel) (pa_cons (pv 0) pa_nil)) pa_nil)) (pg_name (i := 3) sc_l_turns.nd rfl (Or.inl rfl)) (pss_cons (ps_set (i := 4) sc_l_turns.nd rfl (.inl rfl) (pe_op op_add pe_int (pe_call G_l_draw hr_l_draw (by rfl) T.g_l_draw k_l_draw b_l_draw .nil pass0 (pa_cons (pe_ix (ix_listK K) (pv 0) (pv 3) (fun _ _ => rfl)) (pa_cons (pe_op op_add (pe_op op_mod (pv 3) pe_int) pe_int) (pa_cons (pe_ix (ix_tupK K) (pe_tup (pa_cons pe_int (pa_cons pe_int (pa_cons pe_int (pa_cons pe_int pa_nil))))) (pv 1) (fun _ _ => rfl)) pa_nil))))))
      (pss_cons (ps_if (pt_cmpR op_eq (pv 1) pe_int (nomark _)) (pss_one (ps_set (i := 4) sc_l_turns.nd rfl (.inl rfl) (pe_ix (ix_tupK K) (pe_tup (pa_cons pe_int (pa_cons pe_int (pa_cons pe_int (pa_cons pe_int (pa_cons pe_int (pa_cons pe_int (pa_cons pe_int (pa_cons pe_int (pa_cons pe_int (pa_cons pe_int (pa_cons pe_int (pa_cons pe_int (pa_cons pe_int (pa_cons pe_int (pa_cons pe_int pa_nil)))))))))))))))) (pe_op op_mod (pv 4) pe_int) (fun _ _ => rfl)))) pss_nil)
      (pss_one (ps_expr (pe_bm PySem.F.plainAttrs_list PySem.F.slot_list_append PySem.F.type_list_append mt_append (pv 2) (pa_cons (pv 4) pa_nil)))))))
      (pss_one (ps_ret (pv 2)))))), ?_⟩
    dsimp only at hS hl
    have hsc : Scr K H (.ref a) ns := ⟨a, rfl, hS, hl⟩
    have e0 : ((ns.map V.int).length : Int) = (ns.length : Int) := by rw [List.length_map]
    refine q_asgR (er_draw (ev_cell (j := 0) (ev_var rfl) ev_c hsc) ev_c ev_c (by decide) (by decide)) fun v1 H1 e1 h1 => ?_
    obtain ⟨kind, rfl, k0, k1⟩ := h1
    refine q_asgL (xs := []) (el_lst ea_nil (by decide)) fun p H2 hp e2 h2 => ?_
    have hS2 := ex_l (e1.trans e2) hS
    refine q_forR1 (n := (ns.length : Int)) (ea_cons (by rw [← e0]; exact ev_lenL (ev_var rfl) hS2) ea_nil) (by omega) (fun i σ' H' => ∃ s3 s4 : Option V, ∃ ts : List Int, σ' = [some (.ref a), some (.int kind), some (.ref p), s3, s4] ∧ Ex H1 H' ∧ H' p = some (.lst (ts.map V.int)) ∧ ts.length = i ∧ ∀ t ∈ ts, 1 ≤ t ∧ t ≤ 1000000)
      (fun H3 e3 => ⟨_, _, [], rfl, e2.trans e3, e3 _ _ h2, rfl, fun t ht => nomatch ht⟩) (fun i σ' H' hi hP => ?_) (fun σ' H' hP => ?_)
    · obtain ⟨s3, s4, ts, rfl, e3, hp3, hlen, hts⟩ := hP
      have hi' : i < ns.length := by omega
      have hS3 : SqL K H' a (ns.map V.int) := ex_l (e1.trans e3) hS
      have hgm := getD_all (l := [12, 200, 1000000, 30]) (i := kind.toNat) (a := 1) (b := 1000000) (by decide) (by show kind.toNat < 4; omega)
      refine q_asgR (R := fun v _ => ∃ t, v = .int t ∧ 1 ≤ t ∧ t ≤ 1000000) (er_op (evr ev_c) (fun x H4 e4 hx => er_draw (c := ns.getD i 0) (k := (i : Int) % 5 + 1) (m := ([12, 200, 1000000, 30] : List Int).getD kind.toNat 0)
        (ev_op (ev_var rfl) (ev_var rfl) (rv_ixL (ex_l e4 hS3) ?_)) (ev_op (ev_op (ev_var rfl) ev_c (rv_I (by decide))) ev_c rv_I0) (ev_pick (l := [12, 200, 1000000, 30]) (by walk_at "ev") (ev_var rfl) (by rfl) k0 (by show kind < 4; exact k1) (by walk_at "sz")) (by omega) (by omega)) ?_) fun v4 H4 e4 h4 => ?_
      · refine atI_nat ?_
        rw [List.getElem?_map, List.getD_eq_getElem?_getD, List.getElem?_eq_getElem hi']
        rfl
      · rintro x y H4 H5 e4 rfl e5 ⟨r, rfl, r0, r1⟩ Q q
        exact ⟨1, r, rfl, rfl, q _ _ (Ex.refl _) ⟨_, rfl, by omega, by omega⟩⟩
      · obtain ⟨t, rfl, t0, t1⟩ := h4
        have fin : ∀ H5 t, Ex H' H5 → 1 ≤ t → t ≤ 1000000 → tDrop (tBM K "list" rAppend (tVar 2) (tCons (tVar 4) tNil)) { nx := fun σ' H' => ∃ s3 s4 : Option V, ∃ ts : List Int, σ' = [some (.ref a), some (.int kind), some (.ref p), s3, s4] ∧ Ex H1 H' ∧ H' p = some (.lst (ts.map V.int)) ∧ ts.length = i + 1 ∧ ∀ t ∈ ts, 1 ≤ t ∧ t ≤ 1000000, rt := Q, bk := fun σ' H' => tRet (tVar 2) { nx := fun _ H' => Q .non H', rt := Q } σ' H', ct := fun σ' H' => ∃ s3 s4 : Option V, ∃ ts : List Int, σ' = [some (.ref a), some (.int kind), some (.ref p), s3, s4] ∧ Ex H1 H' ∧ H' p = some (.lst (ts.map V.int)) ∧ ts.length = i + 1 ∧ ∀ t ∈ ts, 1 ≤ t ∧ t ≤ 1000000 } [some (.ref a), some (.int kind), some (.ref p), some (.int (i : Int)), some (.int t)] H5 := fun H5 t e5 a0 a1 =>
          s_app (e5 _ _ hp3) (ev_var rfl) (ev_var rfl) (by rw [List.length_map]; omega) fun H6 e6 => ⟨_, _, ts ++ [t], rfl, Ex.mut ((e3.trans e5).trans e6) hp, by rw [upd_same, List.map_append]; rfl, by simp [hlen], fun z hz => by
            rcases List.mem_append.mp hz with h | h
            · exact hts z h
            · rw [List.mem_singleton.mp h]
              exact ⟨a0, a1⟩⟩
        refine q_when (et_test (ev_op (ev_var rfl) ev_c rv_eqI)) (fun hb H5 e5 => ?_) (fun hb H5 e5 => ?_)
        · have g0 : 0 ≤ t % 15 := Int.emod_nonneg _ (by decide)
          have g1 : t % 15 < 15 := Int.emod_lt_of_pos _ (by decide)
          have hgm2 := getD_all (l := [1, 2, 4, 8, 3, 9, 27, 6, 12, 18, 36, 5, 10, 20, 60]) (i := (t % 15).toNat) (a := 1) (b := 1000000) (by decide) (by show (t % 15).toNat < 15; omega)
          refine s_asg (ev_pick (l := [1, 2, 4, 8, 3, 9, 27, 6, 12, 18, 36, 5, 10, 20, 60]) (by walk_at "ev") (ev_op (ev_var rfl) ev_c (rv_I (by decide))) (by rfl) g0 (by show t % 15 < 15; exact g1) (by walk_at "sz")) fun H6 e6 => ?_
          exact fin H6 _ ((e4.trans e5).trans e6) hgm2.1 hgm2.2
        · exact fin H5 _ (e4.trans e5) t0 t1
    · obtain ⟨s3, s4, ts, rfl, e3, hp3, hlen, hts⟩ := hP
      refine s_ret (ev_var rfl) fun H3 e4 => k _ _ ((e1.trans e3).trans e4) ⟨p, ts, rfl, fresh_back e1 hp, e4 _ _ hp3, by show ts.length = ns.length; omega, hts⟩
end
/-! ### rests of the script -/
def sp_l_rests (K : PySem.W.Frag) : Sp := spX (fun (d : V × List Int) vs H => vs = [d.1] ∧ Scr K H d.1 d.2) (fun d H v H' => ∃ (a : Addr) (xs : List V) (rs : List (Int × Int)), v = .ref a ∧ H a = none ∧ H' a = some (.lst xs) ∧ RsL H' xs rs ∧ rs.length = d.2.length ∧ ∀ p ∈ rs, RstOk p)
section
variable {P : Program} {w : World} {K : PySem.W.Frag} {mg : Str → Option Value} {base : Heap} {A : Ad}
theorem rst_set {rs : List (Int × Int)} {q : Int × Int} {i : Nat} (h : ∀ p ∈ rs, RstOk p) (hq : RstOk q) : ∀ p ∈ rs.set i q, RstOk p := fun p hp => by
  rcases List.mem_or_eq_of_mem_set hp with h1 | h1
  · exact h p h1
  · rw [h1]
    exact hq
theorem ok_l_rests (T : Txt K mg A) : Okk P w K mg base 3 A.a_l_rests ["_law_script"] (sp_l_rests K) := by
  obtain ⟨_, G_l_cell_at, b_l_cell_at, k_l_cell_at⟩ := ok_l_cell_at (P := P) (w := w) (base := base) T
  obtain ⟨_, G_l_draw, b_l_draw, k_l_draw⟩ := ok_l_draw (P := P) (w := w) (base := base) T
  obtain ⟨_, G_l_turns, b_l_turns, k_l_turns⟩ := ok_l_turns (P := P) (w := w) (base := base) T
  refine okk T.F_l_rests sc_l_rests (fun vs H Q E h => ?_) (fun cdv Ar outer s H vs Q E hr h => ?_)
  · obtain ⟨d, ⟨rfl, _⟩, _⟩ := h
    rfl
  · obtain ⟨⟨_, ns⟩, ⟨rfl, a, rfl, hS, hl⟩, k⟩ := h
    dsimp only at hS hl
    have hr_l_cell_at : Room 1 _ := hr.mono (by decide)
    have hr_l_draw : Room 1 _ := hr.mono (by decide)
    have hr_l_turns : Room 2 _ := hr.mono (by decide)
    refine ⟨_, (pss_cons (ps_set (i := 1) sc_l_rests.nd rfl (.inr rfl) (pe_callB (sumK K rfl) (by rfl) T.z_sum (by decide +kernel) (pa_cons (pe_lc (own := [("_law_k", 5), ("_law_cell", 6)]) rfl sc_l_rests.nd (pi_enum (by rfl) T.z_enumerate (pa_cons (pv 0) pa_nil)) (blkOk_by (N := ["_law_script", "_law_far", "_law_found", "_law_at", "_law_turn", "_law_k", "_law_cell"]) (sc := defScope s_l_rests) (by decide +kernel)) (fun _ _ _ _ _ => (pg_tupK (n := 2) K rfl (pgs_cons (pg_name (i := 5) sc_l_rests.nd rfl (Or.inl rfl)) (pgs_cons (pg_name (i := 6) sc_l_rests.nd rfl (Or.inl rfl)) pgs_nil)))) (fun _ _ _ _ _ => pts_nil) (fun _ _ _ _ _ => (pe_op op_mul (pe_op op_mod (pe_callB call_abs (by rfl) T.z_abs (by decide +kernel) (pa_cons (pv 6) pa_nil)) (pe_op op_pow pe_int pe_int)) (pe_op op_add (pv 5) pe_int)))) pa_nil)))
      (pss_cons (ps_setLc (i := 2) (own := [("_law_turn", 4)]) rfl sc_l_rests.nd rfl rfl (sw_true rfl rfl rfl (by decide +kernel)) (pi_listK K (pe_call G_l_turns hr_l_turns (by rfl) T.g_l_turns k_l_turns b_l_turns .nil pass0 (pa_cons (pv 0) pa_nil))) (blkOk_by (N := ["_law_script", "_law_far", "_law_found", "_law_at", "_law_turn", "_law_k", "_law_cell"]) (sc := defScope s_l_rests) (by decide +kernel)) (fun _ _ _ _ _ => (pg_name (i := 4) sc_l_rests.nd rfl (Or.inl rfl))) (fun _ _ _ _ _ => pts_nil) (fun _ _ _ _ _ => (pe_tup (pa_cons (pe_op op_mod (pv 1) (pv 4)) (pa_cons (pv 4) pa_nil)))))
      (pss_cons (ps_if (PW.pt (pw_and (pt_cmpR (neDK K hr.units) (pv 2) (pe_lst pa_nil) (nomark _)) (pw_and1 (pt_cmpR op_eq (pe_call G_l_draw hr_l_draw (by rfl) T.g_l_draw k_l_draw b_l_draw .nil pass0 (pa_cons (pe_call G_l_cell_at hr_l_cell_at (by rfl) T.g_l_cell_at k_l_cell_at b_l_cell_at .nil pass0 (pa_cons (pv 0) (pa_cons pe_int pa_nil))) (pa_cons pe_int (pa_cons pe_int pa_nil)))) pe_int (nomark _))))) (pss_cons (ps_set (i := 3) sc_l_rests.nd rfl (.inl rfl) (pe_call G_l_draw hr_l_draw (by rfl) T.g_l_draw k_l_draw b_l_draw .nil pass0 (pa_cons (pe_call G_l_cell_at hr_l_cell_at (by rfl) T.g_l_cell_at k_l_cell_at b_l_cell_at .nil pass0 (pa_cons (pv 0) (pa_cons pe_int pa_nil))) (pa_cons pe_int (pa_cons (pe_callB (len_seqK K) (by rfl) T.z_len (by decide +kernel) (pa_cons (pv 2) pa_nil)) pa_nil)))))
      (pss_one (ps_asg (pe_tup (pa_cons (pe_op op_mod (pe_op op_add (pe_ix (ix_tupK K) (pe_ix (ix_listK K) (pv 2) (pv 3) (fun _ _ => rfl)) pe_int (fun _ _ => rfl)) (pe_call G_l_draw hr_l_draw (by rfl) T.g_l_draw k_l_draw b_l_draw .nil pass0 (pa_cons (pe_call G_l_cell_at hr_l_cell_at (by rfl) T.g_l_cell_at k_l_cell_at b_l_cell_at .nil pass0 (pa_cons (pv 0) (pa_cons pe_int pa_nil))) (pa_cons pe_int (pa_cons pe_int pa_nil))))) (pe_ix (ix_tupK K) (pe_ix (ix_listK K) (pv 2) (pv 3) (fun _ _ => rfl)) pe_int (fun _ _ => rfl))) (pa_cons (pe_ix (ix_tupK K) (pe_ix (ix_listK K) (pv 2) (pv 3) (fun _ _ => rfl)) pe_int (fun _ _ => rfl)) pa_nil))) (pg_sub (pv 2) (pv 3) set_list)))) pss_nil)
      (pss_one (ps_ret (pv 2)))))), ?_⟩
    have hsc : Scr K H (.ref a) ns := ⟨a, rfl, hS, hl⟩
    have hp9 : (10 : Int) ^ (9 : Int).toNat = 1000000000 := by decide
    refine q_asg (v := .int ((List.range ns.length).map fun i => (if ns.getD i 0 < 0 then -(ns.getD i 0) else ns.getD i 0) % 10 ^ (9 : Int).toNat * ((i : Int) + 1)).sum) (ev_sumN (H0 := H) ?_) fun H1 e1 => ?_
    · rw [iv_map, ← iv_len ns]
      refine er_lcE (fun i => .int ((if ns.getD i 0 < 0 then -(ns.getD i 0) else ns.getD i 0) % 10 ^ (9 : Int).toNat * ((i : Int) + 1))) (ea_cons (ev_var rfl) ea_nil) hS (by rw [iv_len]; omega) (fun _ _ => rfl) fun i x hx => ?_
      obtain ⟨hi, rfl⟩ := iv_get hx
      exact ev_op (ev_op (ev_cb (ea_cons (ev_var rfl) ea_nil) rc_abs) (ev_op ev_c ev_c (rv_pow ⟨by decide, by decide, by decide⟩)) (rv_I (by decide))) (ev_op (ev_var rfl) ev_c rv_I0) (rv_I (.inr (by omega)))
    generalize ((List.range ns.length).map fun i => (if ns.getD i 0 < 0 then -(ns.getD i 0) else ns.getD i 0) % 10 ^ (9 : Int).toNat * ((i : Int) + 1)).sum = far
    refine q_asgR (R := fun v H2 => ∃ (l : Addr) (xs : List V) (rs : List (Int × Int)), v = .ref l ∧ H1 l = none ∧ H2 l = some (.lst xs) ∧ RsL H2 xs rs ∧ rs.length = ns.length ∧ ∀ p ∈ rs, RstOk p) (er_lcB (er_call (R := TurnsAt ns.length H1) (V.ref a, ns) (ea_cons (ev_var rfl) ea_nil) (fun H2 e2 => ⟨rfl, hsc.up (e1.trans e2)⟩) fun H2 v H3 e2 _ ⟨p, ts, hv, hn, h⟩ => ⟨p, ts, hv, fresh_back e2 hn, h⟩) fun v H2 e2 ⟨p, ts, hv, hn, hp, hlen, ht⟩ => ?_) fun v H2 e2 h2 => ?_
    · subst hv
      refine (er_lcLn (fun j y H => PairAt H y (far % ts.getD j 0, ts.getD j 0)) (fun j y H1 H2 ⟨t, e, h⟩ kk => ⟨t, e, kk t _ h fun zs z => nomatch z⟩) ev_c (sq_of hp) (by rw [List.length_map]; omega) (fun _ => rfl) fun i x hi => ?_).imp fun v H3 e3 ⟨Dl, ys, hv, hn, hD, hlen2, hys⟩ => ⟨Dl, ys, ts.map fun t => (far % t, t), hv, fresh_back e2 hn, hD, rsl_of (by rw [hlen2, List.length_map, List.length_map]) fun i x hi => ?_, by rw [List.length_map, hlen], fun q hq => ?_⟩
      · obtain ⟨hi', rfl⟩ := iv_get hi
        have hti := ht _ (getD_mem hi')
        exact (eur (eu_tup (ea_cons (ev_op (ev_var rfl) (ev_var rfl) (rv_I (by show 0 < ts.getD i 0; omega))) (ea_cons (ev_var rfl) ea_nil)) (by walk_at "sz"))).imp fun v H2 _ ⟨t, hv, _, h⟩ => ⟨t, hv, h⟩
      · have hlt := (List.getElem?_eq_some_iff.mp hi).1
        rw [hlen2, List.length_map] at hlt
        have this : PairAt H3 x (far % ts.getD i 0, ts.getD i 0) := hys i x hi
        rw [List.getD_eq_getElem?_getD, List.getElem?_map, List.getElem?_eq_getElem hlt]
        rw [List.getD_eq_getElem?_getD, List.getElem?_eq_getElem hlt] at this
        exact this
      · obtain ⟨t, h, rfl⟩ := List.mem_map.mp hq
        have := ht t h
        exact ⟨Int.emod_nonneg _ (by show t ≠ 0; omega), Int.emod_lt_of_pos _ (by show 0 < t; omega), this.2⟩
    obtain ⟨l, xs, rs, rfl, hln, hxs, hrs, hlen, ho⟩ := h2
    have e12 := e1.trans e2
    have hxl := hrs.len
    have drw : ∀ σ H' (j : Nat) (kk m : Int) te tj, σ[0]? = some (some (.ref a)) → Ex H H' → Ev tj σ H' (.int (j : Int)) → Ev te σ H' (.int m) → 0 ≤ kk → 0 < m → EvR (tCall (sp_l_draw K) [] E0 (tCons (tCall (sp_l_cell_at K) [] E0 (tCons (tVar 0) (tCons tj tNil))) (tCons (tC (.int kk)) (tCons te tNil)))) σ H' (fun v _ => ∃ r, v = .int r ∧ 0 ≤ r ∧ r < m) :=
      fun σ H' j kk m te tj hσ e hj hm h0 h1 => er_draw (ev_cell (ev_var hσ) hj (hsc.up e)) ev_c hm h0 h1
    refine q_ifW (φ := (decide (rs.length ≠ 0)) = true) (ew_and (b := decide (rs.length ≠ 0)) (et_test (ev_opR2 (ev_var rfl) (er_new (xs := []) ea_nil (by decide)) fun y H3 e3 ⟨q, hy, _, hq⟩ => ?_)) fun _ => er_test (drw _ _ 1 7 2 _ _ rfl e12 ev_c ev_c (by decide) (by decide)) ev_c fun x H3 _ hx Q q => ?_) (fun hb H3 e3 => ?_) fun H3 e3 => ?_
    · subst hy
      refine rv_neD (dp_rs (e3 _ _ hxs) (hrs.up e3)) (dp_ints (ns := []) (sq_of hq)) (sh_rs rs) (sh_ints []) ?_
      cases rs with
      | nil => rfl
      | cons p rs => rfl
    · obtain ⟨r, rfl, _⟩ := hx
      exact ⟨rfl, q _⟩
    · have hlr : rs.length ≠ 0 := of_decide_eq_true hb
      refine q_asgR (drw _ _ 2 1 (xs.length : Int) _ _ rfl (e12.trans e3) ev_c (ev_lenL (ev_var rfl) (sq_of (e3 _ _ hxs))) (by decide) (by omega)) fun v H4 e4 ⟨at_, hv, a0, a1⟩ => ?_
      subst hv
      have e34 := e3.trans e4
      have ea : at_ = (at_.toNat : Int) := by omega
      generalize at_.toNat = i at ea
      subst ea
      have hi : i < rs.length := by omega
      obtain ⟨t, x1, ht⟩ := hrs.at hi
      have hok := rst_at ho hi
      generalize rs.getD i (0, 1) = p at ht hok
      obtain ⟨r, tn⟩ := p
      obtain ⟨r0, r1, t1⟩ := id hok
      dsimp only at ht r0 r1 t1
      have hit : ∀ H5, Ex H4 H5 → Ev (tOp (rIxL K) (tVar 2) (tVar 3)) [some (.ref a), some (.int far), some (.ref l), some (.int (i : Int)), none, none, none] H5 (.ref t) := fun H5 e5 => ev_op (ev_var rfl) (ev_var rfl) (rv_ixL (sq_of ((e34.trans e5) _ _ hxs)) (atI_nat x1))
      have ht4 := e34 _ _ ht
      refine s_setLR (j := i) (R := fun v H => ∃ z : Int, PairAt H v (z, tn) ∧ RstOk (z, tn)) (e34 _ _ hxs) ((er_tup (T := fun vs _ => ∃ z : Int, vs = [.int z, .int tn] ∧ RstOk (z, tn)) (ear_cons (er_op (R := fun v _ => ∃ z : Int, v = .int z ∧ RstOk (z, tn)) (er_op (R := fun v _ => ∃ z : Int, v = .int z) (evr (ev_p0 (hit _ (Ex.refl _)) ht4)) (fun x H5 e5 _ => drw _ _ 3 2 7 _ _ rfl (e12.trans (e34.trans e5)) ev_c ev_c (by decide) (by decide)) ?_) (fun x H5 e5 _ => evr (ev_p1 (hit _ e5) (e5 _ _ ht4))) ?_) fun x H5 e5 hx => ?_) fun vs H5 h => ?_).imp fun v H5 _ ⟨q, vs, H6, hv, _, _, ⟨z, hvs, hz⟩, hq⟩ => ⟨z, ⟨q, hv, by rw [hq, hvs]⟩, hz⟩) (ev_var rfl) (ev_var rfl) (by rw [hxl]; exact hi) fun v H5 e5 h5 => ?_
      · rintro x y H5 H6 e5 rfl e6 ⟨d, rfl, d0, d1⟩ Q q
        exact ⟨r, d, rfl, rfl, q _ _ (Ex.refl _) ⟨_, rfl⟩⟩
      · rintro x y H5 H6 e5 ⟨z, rfl⟩ e6 rfl Q q
        exact ⟨z, tn, rfl, rfl, by show 0 < tn; omega, q _ _ (Ex.refl _) ⟨_, rfl, Int.emod_nonneg _ (by show tn ≠ 0; omega), Int.emod_lt_of_pos _ (by show 0 < tn; omega), t1⟩⟩
      · obtain ⟨z, rfl, hz⟩ := hx
        exact (ear (ea_cons (ev_p1 (hit _ e5) (e5 _ _ ht4)) ea_nil)).imp fun vs H6 _ hv => ⟨z, by rw [hv], hz⟩
      · obtain ⟨z, rfl, _⟩ := h
        show 2 ≤ 100000
        decide
      · obtain ⟨H0, e0, z, hz, hzo⟩ := h5
        obtain ⟨q, rfl, hq⟩ := hz.up e0
        have e35 := e34.trans e5
        have hl5 := e35 _ _ hxs
        have hqn : q ≠ l := ne_of hq hl5 (by intro z; cases z)
        refine s_ret (ev_var rfl) fun H6 e6 => k _ _ ?_ ⟨l, _, rs.set i (z, tn), rfl, fresh_back e1 hln, e6 _ _ upd_same, (((hrs.up e35).mut _ hl5).set ⟨q, rfl, ?_⟩ i).up e6, by rw [List.length_set, hlen], rst_set ho hzo⟩
        · exact (e1.trans (Ex.mut (e2.trans e35) hln)).trans e6
        · rw [upd_ne hqn]
          exact hq
    · show (fun σ' H' => _) _ _
      exact s_ret (ev_var rfl) fun H4 e4 => k _ _ (e12.trans (e3.trans e4)) ⟨l, xs, rs, rfl, fresh_back e1 hln, (e3.trans e4) _ _ hxs, hrs.up (e3.trans e4), hlen, ho⟩
end
/-! ### answers made by hand: the law's own words -/
def sp_l_says (_ : PySem.W.Frag) : Sp := spX (fun (d : Bool × Bool) vs _ => vs = [.bl d.1, .bl d.2]) (fun d _ v _ => v = .bl (decide (d.1 = d.2)))
def sp_l_row (K : PySem.W.Frag) : Sp := spX (fun (d : V × List Int) vs H => vs = [d.1] ∧ Scr K H d.1 d.2) (fun _ H v H' => ∃ ns : List Int, NewL (iv ns) H v H' ∧ ns.length ≤ 63 ∧ ∀ x ∈ ns, -1000000 ≤ x ∧ x ≤ 1000000)
def sp_l_bent (_ : PySem.W.Frag) : Sp := spX (fun (d : V × List Int × Int) vs H => vs = [d.1, .int d.2.2] ∧ LstAt (iv d.2.1) d.1 H ∧ d.2.1.length ≤ 5000) (fun d H v H' => ∃ us : List Int, NewL (iv us) H v H' ∧ us.length ≤ d.2.1.length + 1)
section
variable {P : Program} {w : World} {K : PySem.W.Frag} {mg : Str → Option Value} {base : Heap} {A : Ad}
theorem kit_bb {K : PySem.W.Frag} : PySem.W.kitOne K (.type "bool") (.type "bool") = some true := kit_ty (by decide +kernel)
theorem ok_l_says (T : Txt K mg A) : Okk P w K mg base 1 A.a_l_says ["_law_said", "_law_due"] (sp_l_says K) := by
  refine okk T.F_l_says sc_l_says (fun vs H Q E h => ?_) (fun cdv Ar outer s H vs Q E hr h => ?_)
  · obtain ⟨d, rfl, _⟩ := h
    rfl
  · obtain ⟨⟨x, y⟩, rfl, k⟩ := h
    refine ⟨_, (pss_one (ps_ret (pe_and (pe_callB (isiK K) (by rfl) T.z_isinstance (by decide +kernel) (pa_cons (pv 0) (pa_cons (pe_bltn (v := .ty "bool") (by rfl) T.z_bool (by decide +kernel) rfl) pa_nil))) (pe_one (pe_cmpR op_eq (pv 0) (pv 1) (nomark _)))))), ?_⟩
    exact s_ret (v := .bl (decide (x = y))) (ev_is (ev_andV (a := true) (b := decide (x = y)) (ev_isi (ev_var rfl) ev_c (.ty _) (.base (.bl _)) kit_bb) fun _ => ev_op (ev_var rfl) (ev_var rfl) rv_eqB) rfl) fun H1 e => k _ _ e rfl
theorem ev_says {σ : L2.St} {H : Hp} {ta tb : TE} {b : Bool} {E : XK} (h : Ev ta σ H (.bl b)) (h2 : Ev tb σ H (.bl b)) : Ev (tCall (sp_l_says K) [] E (tCons ta (tCons tb tNil))) σ H (.bl true) :=
  ev_call0 (b, b) (ea_cons h (ea_cons h2 ea_nil)) (fun H1 e => rfl) fun _ _ _ p => by rw [p]; simp
theorem mul_bound2 {x b p q : Int} (h0 : -p ≤ x) (h1 : x ≤ p) (h2 : 0 ≤ b) (h3 : b ≤ q) (hp : 0 ≤ p) : -(p * q) ≤ x * b ∧ x * b ≤ p * q := by
  have a1 : x * b ≤ p * b := Int.mul_le_mul_of_nonneg_right h1 h2
  have a2 : -p * b ≤ x * b := Int.mul_le_mul_of_nonneg_right h0 h2
  have a3 : p * b ≤ p * q := Int.mul_le_mul_of_nonneg_left h3 hp
  rw [Int.neg_mul] at a2
  omega
theorem ok_l_row (T : Txt K mg A) : Okk P w K mg base 2 A.a_l_row ["_law_script"] (sp_l_row K) := by
  obtain ⟨_, G_l_cell_at, b_l_cell_at, k_l_cell_at⟩ := ok_l_cell_at (P := P) (w := w) (base := base) T
  obtain ⟨_, G_l_draw, b_l_draw, k_l_draw⟩ := ok_l_draw (P := P) (w := w) (base := base) T
  refine okk T.F_l_row sc_l_row (fun vs H Q E h => ?_) (fun cdv Ar outer s H vs Q E hr h => ?_)
  · obtain ⟨d, ⟨rfl, _⟩, _⟩ := h
    rfl
  · obtain ⟨⟨_, ns⟩, ⟨rfl, a, rfl, hS, hl⟩, k⟩ := h
    dsimp only at hS hl
    have hr_l_cell_at : Room 1 _ := hr.mono (by decide)
    have hr_l_draw : Room 1 _ := hr.mono (by decide)
    refine ⟨_, (pss_cons (ps_set (i := 1) sc_l_row.nd rfl (.inr rfl) (pe_ix (ix_tupK K) (pe_tup (pa_cons pe_int (pa_cons pe_int (pa_cons pe_int (pa_cons pe_int pa_nil))))) (pe_call G_l_draw hr_l_draw (by rfl) T.g_l_draw k_l_draw b_l_draw .nil pass0 (pa_cons (pe_call G_l_cell_at hr_l_cell_at (by rfl) T.g_l_cell_at k_l_cell_at b_l_cell_at .nil pass0 (pa_cons (pv 0) (pa_cons pe_int pa_nil))) (pa_cons pe_int (pa_cons pe_int pa_nil)))) (fun _ _ => rfl)))
      (pss_one (ps_ret (pe_lc (own := [("_law_k", 2)]) rfl sc_l_row.nd (pi_range1 (by rfl) T.z_range (pa_cons (pe_callB (len_seqK K) (by rfl) T.z_len (by decide +kernel) (pa_cons (pv 0) pa_nil)) pa_nil)) (blkOk_by (N := ["_law_script", "_law_by", "_law_k"]) (sc := defScope s_l_row) (by decide +kernel)) (fun _ _ _ _ _ => (pg_name (i := 2) sc_l_row.nd rfl (Or.inl rfl))) (fun _ _ _ _ _ => pts_nil) (fun _ _ _ _ _ => (pe_op op_mul (pe_op op_sub (pe_call G_l_draw hr_l_draw (by rfl) T.g_l_draw k_l_draw b_l_draw .nil pass0 (pa_cons (pe_ix (ix_listK K) (pv 0) (pv 2) (fun _ _ => rfl)) (pa_cons (pe_op op_add (pe_op op_mod (pv 2) pe_int) pe_int) (pa_cons pe_int pa_nil)))) pe_int) (pv 1))))))), ?_⟩
    have hsc : Scr K H (.ref a) ns := ⟨a, rfl, hS, hl⟩
    have e0 : ((ns.map V.int).length : Int) = (ns.length : Int) := by rw [List.length_map]
    refine q_asgR (ev_pickR (l := [1, 1, 6, 10]) (by walk_at "ev") ((er_draw (ev_cell (j := 4) (ev_var rfl) ev_c hsc) ev_c ev_c (by decide) (by decide)).imp fun v H3 _ ⟨i, h⟩ => ⟨i, h⟩) (by rfl) (by walk_at "sz")) fun v1 H1 e1 ⟨i1, i10, i11, hv1⟩ => ?_
    have hb := getD_all (l := [1, 1, 6, 10]) (i := i1.toNat) (a := 1) (b := 10) (by decide) (by have : i1 < 4 := i11; show i1.toNat < 4; omega)
    generalize ([1, 1, 6, 10] : List Int).getD i1.toNat 0 = b at hb hv1
    subst hv1
    have hS1 := ex_l e1 hS
    refine s_retR (er_lcR (n := ns.length) (fun _ y _ => ∃ z : Int, y = .int z ∧ -1000000 ≤ z ∧ z ≤ 1000000) (fun j y H1 H2 h _ => h) (ea_cons (by rw [← e0]; exact ev_lenL (ev_var rfl) hS1) ea_nil) (by omega) (fun _ => rfl) fun i hi => ?_) fun v H2 e2 ⟨Dl, ys, hv, hn, hD, hlen, hys⟩ => ?_
    · refine er_op (R := fun v _ => ∃ z : Int, v = .int z ∧ -1000000 ≤ z ∧ z ≤ 1000000) (er_op (R := fun v _ => ∃ z : Int, v = .int z ∧ -20 ≤ z ∧ z ≤ 20) (er_draw (c := ns.getD i 0) (k := (i : Int) % 5 + 2) (m := 41) (ev_op (ev_var rfl) (ev_var rfl) (rv_ixL hS1 (atI_ints hi))) (ev_op (ev_op (ev_var rfl) ev_c (rv_I (by decide))) ev_c rv_I0) ev_c (by omega) (by decide)) (fun x H4 e4 _ => evr ev_c) ?_) (fun x H4 e4 _ => evr (ev_var rfl)) ?_
      · rintro x y H4 H5 e4 ⟨r, rfl, r0, r1⟩ e5 rfl Q q
        exact ⟨r, 20, rfl, rfl, q _ _ (Ex.refl _) ⟨_, rfl, by omega, by omega⟩⟩
      · rintro x y H4 H5 e4 ⟨z, rfl, z0, z1⟩ e5 rfl Q q
        have hm := mul_bound2 (x := z) (b := b) (p := 20) (q := 10) z0 z1 (by omega) hb.2 (by decide)
        exact ⟨z, b, rfl, rfl, .inl (by omega), q _ _ (Ex.refl _) ⟨_, rfl, by omega, by omega⟩⟩
    · obtain ⟨zs, rfl, hz⟩ := all_int (φ := fun z => -1000000 ≤ z ∧ z ≤ 1000000) fun y hy => by
        obtain ⟨i, hi, hg⟩ := List.mem_iff_getElem.mp hy
        exact hys i y (by rw [List.getElem?_eq_getElem hi, hg])
      exact k _ _ (e1.trans e2) ⟨zs, ⟨Dl, hv, fresh_back e1 hn, hD⟩, by rw [iv_len] at hlen; omega, hz⟩
theorem ok_l_bent (T : Txt K mg A) : Okk P w K mg base 2 A.a_l_bent ["_law_some", "_law_cell"] (sp_l_bent K) := by
  obtain ⟨_, G_l_draw, b_l_draw, k_l_draw⟩ := ok_l_draw (P := P) (w := w) (base := base) T
  refine okk T.F_l_bent sc_l_bent (fun vs H Q E h => ?_) (fun cdv Ar outer s H vs Q E hr h => ?_)
  · obtain ⟨d, ⟨rfl, _⟩, _⟩ := h
    rfl
  · obtain ⟨⟨_, ts, c⟩, ⟨rfl, ⟨a, rfl, ha⟩, hl⟩, k⟩ := h
    dsimp only at ha hl
    have hr_l_draw : Room 1 _ := hr.mono (by decide)
    refine ⟨_, (pss_cons (ps_par (i := 2) (j := 3) rfl sc_l_bent.nd rfl rfl (by decide) rfl rfl (pa_cons (pe_call G_l_draw hr_l_draw (by rfl) T.g_l_draw k_l_draw b_l_draw .nil pass0 (pa_cons (pv 1) (pa_cons pe_int (pa_cons pe_int pa_nil)))) (pa_cons (pe_callB (len_seqK K) (by rfl) T.z_len (by decide +kernel) (pa_cons (pv 0) pa_nil)) pa_nil)) (by rfl))
      (pss_cons (ps_if (pt_cmpR op_eq (pv 3) pe_int (nomark _)) (pss_one (ps_ret (pe_ifExp (pt_cmpR op_eq (pv 2) pe_int (nomark _)) (pe_lst (pa_cons pe_int pa_nil)) (pe_lst pa_nil)))) pss_nil)
      (pss_cons (ps_set (i := 4) sc_l_bent.nd rfl (.inl rfl) (pe_call G_l_draw hr_l_draw (by rfl) T.g_l_draw k_l_draw b_l_draw .nil pass0 (pa_cons (pv 1) (pa_cons pe_int (pa_cons (pv 3) pa_nil)))))
      (pss_cons (ps_if (pt_cmpR op_eq (pv 2) pe_int (nomark _)) (pss_one (ps_ret (pe_op op_cat (pv 0) (pe_lst (pa_cons pe_int pa_nil))))) pss_nil)
      (pss_cons (ps_if (pt_cmpR op_eq (pv 2) pe_int (nomark _)) (pss_one (ps_ret (pe_slice (sl_listK K) (pv 0) po_none (po_some (pe_un un_neg pe_int))))) pss_nil)
      (pss_cons (ps_if (pt_cmpR op_eq (pv 2) pe_int (nomark _)) (pss_one (ps_ret (pe_op op_cat (pe_op op_cat (pe_slice (sl_listK K) (pv 0) po_none (po_some (pv 4))) (pe_lst (pa_cons (pe_op op_add (pe_ix (ix_listK K) (pv 0) (pv 4) (fun _ _ => rfl)) pe_int) pa_nil))) (pe_slice (sl_listK K) (pv 0) (po_some (pe_op op_add (pv 4) pe_int)) po_none)))) pss_nil)
      (pss_cons (ps_if (pt_cmpR op_eq (pv 2) pe_int (nomark _)) (pss_one (ps_ret (pe_lc (own := [("_law_one", 5)]) rfl sc_l_bent.nd (pi_listK K (pv 0)) (blkOk_by (N := ["_law_some", "_law_cell", "_law_kind", "_law_many", "_law_at", "_law_one"]) (sc := defScope s_l_bent) (by decide +kernel)) (fun _ _ _ _ _ => (pg_name (i := 5) sc_l_bent.nd rfl (Or.inl rfl))) (fun _ _ _ _ _ => pts_nil) (fun _ _ _ _ _ => (pe_un un_neg (pv 5)))))) pss_nil)
      (pss_one (ps_ret (pe_callTy (list_ofK K) (by rfl) T.z_list (by decide +kernel) (pa_cons (pv 0) pa_nil))))))))))), ?_⟩
    refine q_parR (R := fun vs _ => ∃ kd : Int, vs = [.int kd, .int (ts.length : Int)]) (ear_cons (er_draw (ev_var rfl) ev_c ev_c (by decide) (by decide)) fun z H1 e1 hz => ?_) (fun vs H1 h => ?_) fun v w H1 e1 h1 => ?_
    · obtain ⟨kd, rfl, k0, k1⟩ := hz
      exact (ear (ea_cons (ev_lenL (ev_var rfl) (sq_of (e1 _ _ ha))) ea_nil)).imp fun vs H2 _ hv => ⟨kd, by rw [hv, iv_len]⟩
    · obtain ⟨kd, h⟩ := h
      exact ⟨_, _, h⟩
    obtain ⟨kd, hvw⟩ := h1
    cases hvw
    have fin : ∀ (te : TE) σ H1 (us : List Int) {D : Ends}, Ex H H1 → EvR te σ H1 (NewL (iv us) H1) → us.length ≤ ts.length + 1 → D.rt = Q → tRet te D σ H1 := fun te σ H1 us D e h hlen hD => s_retR h fun v H2 e2 ⟨p, hv, hn, hp⟩ => by
      rw [hD]
      exact k _ _ (e.trans e2) ⟨us, ⟨p, hv, fresh_back e hn, hp⟩, hlen⟩
    have one : ∀ σ H1 (i : Int) te, Ev te σ H1 (.int i) → EvR (tLst (tCons te tNil)) σ H1 (LstAt (iv [i])) := fun σ H1 i te h => (er_new (xs := iv [i]) (ea_cons h ea_nil) (by show 1 ≤ 100000; decide)).imp fun v H6 _ ⟨q, hv, _, hq⟩ => ⟨q, hv, hq⟩
    refine q_when (et_test (ev_op (ev_var rfl) ev_c rv_eqI)) (fun hb H2 e2 => ?_) (fun hb H2 e2 => ?_)
    · have e12 := e1.trans e2
      refine s_retR (R := fun v H3 => ∃ us : List Int, NewL (iv us) H2 v H3 ∧ us.length ≤ 1) (er_if (et_test (ev_op (ev_var rfl) ev_c rv_eqI)) (fun _ => (er_new (xs := iv [0]) (ea_cons ev_c ea_nil) (by decide)).imp fun v H3 _ h => ⟨[0], h, by decide⟩) (fun _ => (er_new (xs := iv []) ea_nil (by decide)).imp fun v H3 _ h => ⟨[], h, by decide⟩)) fun v H3 e3 ⟨us, ⟨p, hv, hn, hp⟩, hlen⟩ => k _ _ (e12.trans e3) ⟨us, ⟨p, hv, fresh_back e12 hn, hp⟩, by show us.length ≤ ts.length + 1; omega⟩
    have hlen : 0 < ts.length := by
      have := of_decide_eq_false hb
      omega
    have e12 := e1.trans e2
    refine q_asgR (er_draw (ev_var rfl) ev_c (ev_var rfl) (by decide) (by omega)) fun v3 H3 e3 ⟨at_, hv3, a0, a1⟩ => ?_
    subst hv3
    have ea : at_ = (at_.toNat : Int) := by omega
    have hat : at_.toNat < ts.length := by omega
    have e13 := e12.trans e3
    have ha3 := e13 _ _ ha
    refine q_when (et_test (ev_op (ev_var rfl) ev_c rv_eqI)) (fun _ H4 e4 => fin _ _ _ (ts ++ [0]) (e13.trans e4) ?_ (by rw [List.length_append]; exact Nat.le_refl _) rfl) (fun _ H4 e4 => ?_)
    · rw [iv_append]
      exact er_cat ((evr (v := .ref a) (ev_var rfl)).imp fun v H6 e6 hv => ⟨a, hv, e6 _ _ (e4 _ _ ha3)⟩) (one _ _ 0 _ ev_c) (by rw [iv_len]; show ts.length + 1 ≤ 100000; omega)
    have ha4 := e4 _ _ ha3
    obtain ⟨u1, hu1, hl1⟩ := iv_cut ts none (some (-1))
    refine q_when (et_test (ev_op (ev_var rfl) ev_c rv_eqI)) (fun _ H5 e5 => fin _ _ _ u1 ((e13.trans e4).trans e5) ?_ (by omega) rfl) (fun _ H5 e5 => ?_)
    · rw [← hu1]
      exact er_sl (ev_var rfl) eo_none (eo_some (ev_un ev_c ru_neg)) (sq_of (e5 _ _ ha4))
    have ha5 := e5 _ _ ha4
    obtain ⟨u2, hu2, hl2⟩ := iv_cut ts none (some at_)
    obtain ⟨u3, hu3, hl3⟩ := iv_cut ts (some (at_ + 1)) none
    have hul : (u2 ++ [ts.getD at_.toNat 0 + 1] ++ u3).length ≤ ts.length + 1 := by
      have h2 : u2.length = at_.toNat := by
        have := congrArg List.length hu2
        rw [iv_len] at this
        rw [← this]
        unfold cutV
        rw [HT.sIx_none, ea, List.length_take, List.length_drop, iv_len, HT.sIx_nat]
        omega
      have h3 : u3.length ≤ ts.length - (at_.toNat + 1) := by
        have := congrArg List.length hu3
        rw [iv_len] at this
        rw [← this]
        unfold cutV
        rw [HT.sIx_none, show at_ + 1 = ((at_.toNat + 1 : Nat) : Int) by omega, List.length_take, List.length_drop, iv_len, HT.sIx_nat]
        omega
      rw [List.length_append, List.length_append]
      show u2.length + 1 + u3.length ≤ _
      omega
    refine q_when (et_test (ev_op (ev_var rfl) ev_c rv_eqI)) (fun _ H6 e6 => fin _ _ _ _ (((e13.trans e4).trans e5).trans e6) ?_ hul rfl) (fun _ H6 e6 => ?_)
    · have ha6 := e6 _ _ ha5
      rw [iv_append, iv_append, ← hu2, ← hu3]
      have lu2 : (cutV (iv ts) none (some at_)).length = u2.length := by rw [hu2, iv_len]
      have lu3 : (cutV (iv ts) (some (at_ + 1)) none).length = u3.length := by rw [hu3, iv_len]
      refine er_cat (xs := cutV (iv ts) none (some at_) ++ iv [ts.getD at_.toNat 0 + 1]) ((er_cat ((er_sl (ev_var rfl) eo_none (eo_some (ev_var rfl)) (sq_of ha6)).imp fun v H7 _ ⟨q, hv, _, hq⟩ => ⟨q, hv, hq⟩) (one _ _ _ _ (ev_op (ev_op (ev_var rfl) (ev_var rfl) (rv_ixL (sq_of ha6) (by rw [ea]; exact atI_ints hat))) ev_c rv_I0)) (by rw [lu2]; show u2.length + 1 ≤ 100000; omega)).imp fun v H7 _ ⟨q, hv, _, hq⟩ => ⟨q, hv, hq⟩) ((er_sl (ev_var rfl) (eo_some (ev_op (ev_var rfl) ev_c rv_I0)) eo_none (sq_of ha6)).imp fun v H7 _ ⟨q, hv, _, hq⟩ => ⟨q, hv, hq⟩) (by rw [List.length_append, lu2, lu3]; show u2.length + 1 + u3.length ≤ 100000; omega)
    have ha6 := e6 _ _ ha5
    refine q_when (et_test (ev_op (ev_var rfl) ev_c rv_eqI)) (fun _ H7 e7 => fin _ _ _ (ts.map fun n => -n) ((((e13.trans e4).trans e5).trans e6).trans e7) ?_ (by rw [List.length_map]; omega) rfl) (fun _ H7 e7 => fin _ _ _ ts ((((e13.trans e4).trans e5).trans e6).trans e7) (er_list (ev_var rfl) (sq_of (e7 _ _ ha6))) (by omega) rfl)
    rw [iv_map]
    exact er_lcI (fun n => .int (-n)) (ev_var rfl) (sq_of (e7 _ _ ha6)) (by omega) (fun _ => rfl) fun n hn => ev_un (ev_var rfl) ru_neg
end
/-! ### backs and parts made by hand -/
def sp_l_backs_right (_ : PySem.W.Frag) : Sp := spX (fun (d : Int × Int × Int) vs _ => vs = [.int d.1, .int d.2.1, .int d.2.2] ∧ -1000000 ≤ d.1 ∧ d.1 ≤ 1000000 ∧ 1 ≤ d.2.1 ∧ d.2.1 ≤ 1000000) (fun _ _ v _ => v = .bl true)
def sp_l_parts_right (_ : PySem.W.Frag) : Sp := spX (fun (d : V × List Int × Int) vs H => vs = [d.1, .int d.2.2] ∧ LstAt (iv d.2.1) d.1 H ∧ d.2.1.length ≤ 63 ∧ ∀ n ∈ d.2.1, -1000000 ≤ n ∧ n ≤ 1000000) (fun _ _ v _ => v = .bl true)
section
variable {P : Program} {w : World} {K : PySem.W.Frag} {mg : Str → Option Value} {base : Heap} {A : Ad}
theorem back_due (r n t : Int) : ((decide (0 ≤ r) && decide (r < t)) && decide (r * n % t = 1 % t)) = backF r n t := by
  unfold backF
  congr 1
  exact decide_eq_decide.mpr Int.emod_eq_emod_iff_emod_sub_eq_zero
theorem ok_l_backs_right (T : Txt K mg A) : Okk P w K mg base 5 A.a_l_backs_right ["_law_number", "_law_turn", "_law_cell"] (sp_l_backs_right K) := by
  obtain ⟨_, G_Back_init, b_Back_init, k_Back_init⟩ := ok_Back_init (P := P) (w := w) (base := base) T
  obtain ⟨_, G_Back_shows, b_Back_shows, k_Back_shows⟩ := ok_Back_shows (P := P) (w := w) (base := base) T
  obtain ⟨_, G_Bar_bars, b_Bar_bars, k_Bar_bars⟩ := ok_Bar_bars (P := P) (w := w) (base := base) T
  obtain ⟨_, G_Bar_init, b_Bar_init, k_Bar_init⟩ := ok_Bar_init (P := P) (w := w) (base := base) T
  obtain ⟨_, G_l_draw, b_l_draw, k_l_draw⟩ := ok_l_draw (P := P) (w := w) (base := base) T
  obtain ⟨_, G_l_says, b_l_says, k_l_says⟩ := ok_l_says (P := P) (w := w) (base := base) T
  obtain ⟨_, G_back, b_back, k_back⟩ := ok_back (P := P) (w := w) (base := base) T
  refine okk T.F_l_backs_right sc_l_backs_right (fun vs H Q E h => ?_) (fun cdv Ar outer s H vs Q E hr h => ?_)
  · obtain ⟨d, ⟨rfl, _⟩, _⟩ := h
    rfl
  · obtain ⟨⟨n, t, c⟩, ⟨rfl, n0, n1, t0, t1⟩, k⟩ := h
    dsimp only at n0 n1 t0 t1
    have hr_Back_init : Room 2 _ := hr.mono (by decide)
    have hr_Back_shows : Room 1 _ := hr.mono (by decide)
    have hr_Bar_bars : Room 1 _ := hr.mono (by decide)
    have hr_Bar_init : Room 2 _ := hr.mono (by decide)
    have hr_l_draw : Room 1 _ := hr.mono (by decide)
    have hr_l_says : Room 1 _ := hr.mono (by decide)
    have hr_back : Room 4 _ := hr.mono (by decide)
    refine ⟨_, (pss_cons (ps_set (i := 3) sc_l_backs_right.nd rfl (.inl rfl) (pe_call G_back hr_back (by rfl) T.g_back k_back b_back .nil pass0 (pa_cons (pv 0) (pa_cons (pv 1) pa_nil))))
      (pss_cons (ps_set (i := 4) sc_l_backs_right.nd rfl (.inl rfl) (pe_ifExp (pt_val (pe_callB (isiK K) (by rfl) T.z_isinstance (by decide +kernel) (pa_cons (pv 3) (pa_cons (pe_glob (v := .ref A.c_Back) (by rfl) T.g_Back rfl) pa_nil)))) (pe_fldK K (pv 3) rfl) (pe_call G_l_draw hr_l_draw (by rfl) T.g_l_draw k_l_draw b_l_draw .nil pass0 (pa_cons (pv 2) (pa_cons pe_int (pa_cons (pv 1) pa_nil))))))
      (pss_cons (ps_for PassesOwn.never rfl (pi_tupK K (pe_tup (pa_cons (pv 4) (pa_cons (pe_op op_add (pv 4) (pv 1)) (pa_cons (pe_op op_sub (pv 4) (pv 1)) (pa_cons (pe_op op_add (pv 4) pe_int) (pa_cons (pe_un un_neg (pv 4)) (pa_cons pe_int pa_nil)))))))) (pg_name (i := 5) sc_l_backs_right.nd rfl (Or.inl rfl)) (pss_cons (ps_set (i := 6) sc_l_backs_right.nd rfl (.inl rfl) (pe_and (pe_chain op_le op_lt pe_int (pv 5) (pv 1)) (pe_one (pe_cmpR op_eq (pe_op op_mod (pe_op op_mul (pv 5) (pv 0)) (pv 1)) (pe_op op_mod pe_int (pv 1)) (nomark _)))))
      (pss_cons (ps_set (i := 7) sc_l_backs_right.nd rfl (.inl rfl) (pe_make T.mk_Back G_Back_init hr_Back_init (by rfl) T.g_Back b_Back_init .nil pass0 (pa_cons (pv 5) pa_nil)))
      (pss_one (ps_if (PW.pt (pw_or (pt_cmpR op_ne (pe_fldK K (pv 7) rfl) (pv 5) (nomark _)) (pw_or1 (pt_not (pt_val (pe_call G_l_says hr_l_says (by rfl) T.g_l_says k_l_says b_l_says .nil pass0 (pa_cons (pe_meth (pv 7) T.cl_Back T.m_Back_shows G_Back_shows hr_Back_shows b_Back_shows .nil pass0 (pa_cons (pv 0) (pa_cons (pv 1) pa_nil))) (pa_cons (pv 6) pa_nil)))))))) (pss_one (ps_ret pe_bl)) pss_nil)))))
      (pss_cons (ps_for PassesOwn.never rfl (pi_tupK K (pe_tup (pa_cons (pe_un un_neg pe_int) (pa_cons pe_int (pa_cons pe_int (pa_cons pe_int (pa_cons pe_int (pa_cons (pv 1) (pa_cons (pe_callB call_abs (by rfl) T.z_abs (by decide +kernel) (pa_cons (pv 0) pa_nil)) pa_nil))))))))) (pg_name (i := 8) sc_l_backs_right.nd rfl (Or.inl rfl)) (pss_cons (ps_set (i := 6) sc_l_backs_right.nd rfl (.inl rfl) (pe_cmpR op_gt (pv 8) pe_int (nomark _)))
      (pss_cons (ps_if (pt_val (pv 6)) (pss_one (ps_set (i := 6) sc_l_backs_right.nd rfl (.inl rfl) (pe_and (pe_cmpR op_eq (pe_op op_mod (pv 0) (pv 8)) pe_int (nomark _)) (pe_one (pe_cmpR op_eq (pe_op op_mod (pv 1) (pv 8)) pe_int (nomark _)))))) pss_nil)
      (pss_one (ps_if (pt_not (pt_val (pe_call G_l_says hr_l_says (by rfl) T.g_l_says k_l_says b_l_says .nil pass0 (pa_cons (pe_meth (pe_make T.mk_Bar G_Bar_init hr_Bar_init (by rfl) T.g_Bar b_Bar_init .nil pass0 (pa_cons (pv 8) pa_nil)) T.cl_Bar T.m_Bar_bars G_Bar_bars hr_Bar_bars b_Bar_bars .nil pass0 (pa_cons (pv 0) (pa_cons (pv 1) pa_nil))) (pa_cons (pv 6) pa_nil))))) (pss_one (ps_ret pe_bl)) pss_nil)))))
      (pss_one (ps_ret pe_bl)))))), ?_⟩
    have ht : 0 < t := by omega
    refine q_asgR (er_call (R := fun v H1 => BackRes A n t v H1) (n, t) (ea_cons (ev_var rfl) (ea_cons (ev_var rfl) ea_nil)) (fun H1 e => ⟨rfl, n0, n1, t0, t1⟩) fun H1 v H2 _ _ h => h) fun v1 H1 e1 h1 => ?_
    refine q_asgR (R := IntX) ?_ fun v2 H2 e2 ⟨r0, hv2⟩ => ?_
    · rcases h1 with ⟨g, ⟨o, dx, rfl, ho⟩, _⟩ | ⟨r, ⟨o, dx, rfl, ho⟩, _⟩
      · exact er_if (et_B (ev_isi (ev_var rfl) ev_c (.own _) (tyx_ins ho T.i_Bar T.isg) T.q_Bar_Back)) (fun hb => nomatch hb) fun _ => (er_draw (ev_var rfl) ev_c (ev_var rfl) (by decide) ht).imp fun v H3 _ ⟨z, hz, _⟩ => ⟨z, hz⟩
      · exact er_if (et_B (ev_isi (ev_var rfl) ev_c (.own _) (tyx_ins ho T.i_Back T.isg) T.q_Back_Back)) (fun _ => er_int (ev_fld (ev_var rfl) ho T.cl_Back T.n_Back_rest lk1)) fun hb => nomatch hb
    subst hv2
    refine q_forAll (n := 6) upInt (ear_all1 upInt (er_int (ev_var rfl)) (ear_all1 upInt (er_int (ev_op (ev_var rfl) (ev_var rfl) rv_I0)) (ear_all1 upInt (er_int (ev_op (ev_var rfl) (ev_var rfl) rv_I0)) (ear_all1 upInt (er_int (ev_op (ev_var rfl) ev_c rv_I0)) (ear_all1 upInt (er_int (ev_un (ev_var rfl) ru_neg)) (ear_all1 upInt (er_int ev_c) ear_all0)))))) (by decide) fun H3 e3 => ⟨fun σ' H' => ∃ s5 s6 s7 : Option V, σ' = [some (.int n), some (.int t), some (.int c), some v1, some (.int r0), s5, s6, s7, none] ∧ Ex H3 H', ⟨_, _, _, rfl, Ex.refl _⟩, fun σ' H' ⟨_, _, _, _, e⟩ => e, fun x σ' H' hP hx => ?_, fun σ' H' hP => ?_⟩
    · obtain ⟨s5, s6, s7, rfl, e4⟩ := hP
      obtain ⟨r, rfl⟩ := hx
      refine q_asg (v := .bl (backF r n t)) (ev_is (ev_andV (a := decide (0 ≤ r) && decide (r < t)) (b := decide (r * n % t = 1 % t)) (ev_chain ev_c (ev_var rfl) rv_I0 (fun _ => ev_var rfl) fun _ => rv_I0) fun _ => ev_op (ev_op (ev_op (ev_var rfl) (ev_var rfl) (rv_I (.inr (by omega)))) (ev_var rfl) (rv_I ht)) (ev_op ev_c (ev_var rfl) (rv_I ht)) rv_eqI) (by rw [back_due])) fun H5 e5 => ?_
      refine q_asgR (er_make1 (ev_var rfl)) fun v6 H6 e6 ⟨o, dx, hv6, _, ho⟩ => ?_
      subst hv6
      refine s_when (b := false) ?_ (fun z => nomatch z) fun _ H7 e7 => ⟨_, _, _, rfl, e4.trans (e5.trans (e6.trans e7))⟩
      refine et_is (et_or (et_test (ev_op (ev_fld (ev_var rfl) ho T.cl_Back T.n_Back_rest lk1) (ev_var rfl) rv_neI)) fun _ => et_not (et_B (ev_says (b := backF r n t) (ev_meth (V.ref o, r, n, t) (ev_var rfl) ho lk0 (ea_cons (ev_var rfl) (ea_cons (ev_var rfl) ea_nil)) (fun H7 e7 => ⟨rfl, ⟨o, dx, rfl, e7 _ _ ho⟩, ht, t1⟩) fun _ _ _ p => p) (ev_var rfl)))) (by simp)
    · obtain ⟨s5, s6, s7, rfl, e4⟩ := hP
      refine q_forAll (n := 7) upInt (ear_all1 upInt (er_int (ev_un ev_c ru_neg)) (ear_all1 upInt (er_int ev_c) (ear_all1 upInt (er_int ev_c) (ear_all1 upInt (er_int ev_c) (ear_all1 upInt (er_int ev_c) (ear_all1 upInt (er_int (ev_var rfl)) (ear_all1 upInt (er_int (ev_cb (ea_cons (ev_var rfl) ea_nil) rc_abs)) ear_all0))))))) (by decide) fun H5 e5 => ⟨fun σ' H' => ∃ s5 s6 s7 s8 : Option V, σ' = [some (.int n), some (.int t), some (.int c), some v1, some (.int r0), s5, s6, s7, s8] ∧ Ex H5 H', ⟨_, _, _, _, rfl, Ex.refl _⟩, fun σ' H' ⟨_, _, _, _, _, e⟩ => e, fun x σ' H' hP hx => ?_, fun σ' H' hP => ?_⟩
      · obtain ⟨s5, s6, s7, s8, rfl, e6⟩ := hP
        obtain ⟨g, rfl⟩ := hx
        refine q_asg (v := .bl (decide (1 < g))) (ev_op (ev_var rfl) ev_c rv_I0) fun H7 e7 => ?_
        refine q_due (b := decide (1 < g)) (r := decide (n % g = 0) && decide (t % g = 0)) rfl (fun hb H8 e8 => ?_) fun H8 e8 => ?_
        · have hg : 0 < g := by have := of_decide_eq_true hb; omega
          exact ev_andV (ev_op (ev_op (ev_var rfl) (ev_var rfl) (rv_I hg)) ev_c rv_eqI) fun _ => ev_op (ev_op (ev_var rfl) (ev_var rfl) (rv_I hg)) ev_c rv_eqI
        · refine s_when (b := false) ?_ (fun z => nomatch z) fun _ H9 e9 => ⟨_, _, _, _, rfl, e6.trans (e7.trans (e8.trans e9))⟩
          exact et_is (et_not (et_B (ev_says (b := barsF g n t) (ev_methB (er_make1 (ev_var rfl)) fun v H9 _ ⟨o, dx, hv, _, ho⟩ => by
            subst hv
            exact ev_meth (V.ref o, g, n, t) ev_c ho lk0 (ea_cons (ev_var rfl) (ea_cons (ev_var rfl) ea_nil)) (fun H7 e7 => ⟨rfl, o, dx, rfl, e7 _ _ ho⟩) fun _ _ _ p => p) (ev_var rfl)))) rfl
      · obtain ⟨s5, s6, s7, s8, rfl, e6⟩ := hP
        exact s_ret ev_c fun H7 e7 => k _ _ (e1.trans (e2.trans (e3.trans (e4.trans (e5.trans (e6.trans e7)))))) rfl
theorem parts_due (p : Int) (us ns : List Int) : ((decide (0 ≤ p) && decide (us.length = ns.length)) && decide (dot ns us = p) && ns.all fun n => if p = 0 then decide (n = 0) else decide (n % p = 0)) = dueC p us ns := by
  unfold dueC
  have e1 : decide (0 ≤ p) = !decide (p < 0) := by rw [← decide_not]; exact decide_eq_decide.mpr (by omega)
  rw [e1]
  cases decide (p < 0) <;> cases decide (us.length = ns.length) <;> simp
theorem ok_l_parts_right (T : Txt K mg A) : Okk P w K mg base 5 A.a_l_parts_right ["_law_numbers_here", "_law_cell"] (sp_l_parts_right K) := by
  obtain ⟨_, G_Common_init, b_Common_init, k_Common_init⟩ := ok_Common_init (P := P) (w := w) (base := base) T
  obtain ⟨_, G_Common_shows, b_Common_shows, k_Common_shows⟩ := ok_Common_shows (P := P) (w := w) (base := base) T
  obtain ⟨_, G_l_bent, b_l_bent, k_l_bent⟩ := ok_l_bent (P := P) (w := w) (base := base) T
  obtain ⟨_, G_l_says, b_l_says, k_l_says⟩ := ok_l_says (P := P) (w := w) (base := base) T
  obtain ⟨_, G_common, b_common, k_common⟩ := ok_common (P := P) (w := w) (base := base) T
  refine okk T.F_l_parts_right sc_l_parts_right (fun vs H Q E h => ?_) (fun cdv Ar outer s H vs Q E hr h => ?_)
  · obtain ⟨d, ⟨rfl, _⟩, _⟩ := h
    rfl
  · obtain ⟨⟨_, ns, c⟩, ⟨rfl, ⟨q, rfl, hq⟩, hlen, hn⟩, k⟩ := h
    dsimp only at hq hlen hn
    have hr_Common_init : Room 2 _ := hr.mono (by decide)
    have hr_Common_shows : Room 2 _ := hr.mono (by decide)
    have hr_l_bent : Room 2 _ := hr.mono (by decide)
    have hr_l_says : Room 1 _ := hr.mono (by decide)
    have hr_common : Room 4 _ := hr.mono (by decide)
    refine ⟨_, (pss_cons (ps_set (i := 2) sc_l_parts_right.nd rfl (.inl rfl) (pe_call G_common hr_common (by rfl) T.g_common k_common b_common .nil pass0 (pa_cons (pv 0) pa_nil)))
      (pss_cons (ps_set (i := 3) sc_l_parts_right.nd rfl (.inl rfl) (pe_call G_l_bent hr_l_bent (by rfl) T.g_l_bent k_l_bent b_l_bent .nil pass0 (pa_cons (pe_fldK K (pv 2) rfl) (pa_cons (pv 1) pa_nil))))
      (pss_cons (ps_for PassesOwn.never rfl (pi_tupK K (pe_tup (pa_cons (pe_fldK K (pv 2) rfl) (pa_cons (pe_un un_neg (pe_fldK K (pv 2) rfl)) (pa_cons (pe_op op_mul pe_int (pe_fldK K (pv 2) rfl)) (pa_cons pe_int (pa_cons pe_int pa_nil))))))) (pg_name (i := 4) sc_l_parts_right.nd rfl (Or.inl rfl)) (pss_cons (ps_set (i := 5) sc_l_parts_right.nd rfl (.inl rfl) (pe_callTy (list_ofK K) (by rfl) T.z_list (by decide +kernel) (pa_cons (pv 3) pa_nil)))
      (pss_cons (ps_set (i := 6) sc_l_parts_right.nd rfl (.inl rfl) (pe_make T.mk_Common G_Common_init hr_Common_init (by rfl) T.g_Common b_Common_init .nil pass0 (pa_cons (pv 4) (pa_cons (pv 5) pa_nil))))
      (pss_cons (ps_expr (pe_bm PySem.F.plainAttrs_list PySem.F.slot_list_append PySem.F.type_list_append mt_append (pv 5) (pa_cons pe_int pa_nil)))
      (pss_cons (ps_set (i := 7) sc_l_parts_right.nd rfl (.inl rfl) (pe_and (pe_cmpR op_ge (pv 4) pe_int (nomark _)) (pe_one (pe_cmpR op_eq (pe_callB (len_seqK K) (by rfl) T.z_len (by decide +kernel) (pa_cons (pv 3) pa_nil)) (pe_callB (len_seqK K) (by rfl) T.z_len (by decide +kernel) (pa_cons (pv 0) pa_nil)) (nomark _)))))
      (pss_cons (ps_if (pt_val (pv 7)) (pss_one (ps_set (i := 7) sc_l_parts_right.nd rfl (.inl rfl) (pe_cmpR op_eq (pe_callB (sumK K rfl) (by rfl) T.z_sum (by decide +kernel) (pa_cons (pe_lc (own := [("_law_number", 8), ("_law_often", 9)]) rfl sc_l_parts_right.nd (pi_zipK K (by rfl) T.z_zip (pa_cons (pv 0) (pa_cons (pv 3) pa_nil))) (blkOk_by (N := ["_law_numbers_here", "_law_cell", "_law_found", "_law_times", "_law_part_here", "_law_handed", "_law_answer", "_law_due", "_law_number", "_law_often"]) (sc := defScope s_l_parts_right) (by decide +kernel)) (fun _ _ _ _ _ => (pg_tupK (n := 2) K rfl (pgs_cons (pg_name (i := 8) sc_l_parts_right.nd rfl (Or.inl rfl)) (pgs_cons (pg_name (i := 9) sc_l_parts_right.nd rfl (Or.inl rfl)) pgs_nil)))) (fun _ _ _ _ _ => pts_nil) (fun _ _ _ _ _ => (pe_op op_mul (pv 8) (pv 9)))) pa_nil)) (pv 4) (nomark _)))) pss_nil)
      (pss_cons (ps_for PassesOwn.never rfl (pi_listK K (pv 0)) (pg_name (i := 8) sc_l_parts_right.nd rfl (Or.inl rfl)) (pss_one (ps_set (i := 7) sc_l_parts_right.nd rfl (.inl rfl) (pe_and (pv 7) (pe_one (pe_ifExp (pt_cmpR op_eq (pv 4) pe_int (nomark _)) (pe_cmpR op_eq (pv 8) pe_int (nomark _)) (pe_cmpR op_eq (pe_op op_mod (pv 8) (pv 4)) pe_int (nomark _))))))))
      (pss_cons (ps_if (PW.pt (pw_or (pt_cmpR op_ne (pe_fldK K (pv 6) rfl) (pv 4) (nomark _)) (pw_or1 (pt_cmpR (neDK K hr.units) (pe_fldK K (pv 6) rfl) (pv 3) (nomark _))))) (pss_one (ps_ret pe_bl)) pss_nil)
      (pss_one (ps_if (pt_not (pt_val (pe_call G_l_says hr_l_says (by rfl) T.g_l_says k_l_says b_l_says .nil pass0 (pa_cons (pe_meth (pv 6) T.cl_Common T.m_Common_shows G_Common_shows hr_Common_shows b_Common_shows .nil pass0 (pa_cons (pv 0) pa_nil)) (pa_cons (pv 7) pa_nil))))) (pss_one (ps_ret pe_bl)) pss_nil))))))))))
      (pss_one (ps_ret pe_bl))))), ?_⟩
    refine q_asgR (er_call (R := fun v H1 => ∃ p l ts, CommonAt A H1 v p l ts ∧ CommonOk p ts ns) (V.ref q, ns) (ea_cons (ev_var rfl) ea_nil) (fun H1 e => ⟨rfl, ⟨q, rfl, e _ _ hq⟩, by show ns.length ≤ 10000; omega, hn⟩) fun H1 v H2 _ _ ⟨p, l, ts, h1, _, h2⟩ => ⟨p, l, ts, h1, h2⟩) fun v1 H1 e1 ⟨p, l, ts, ⟨fo, fdx, hv1, hfo, hfl⟩, cok⟩ => ?_
    subst hv1
    have htl : ts.length ≤ 63 := by rw [cok.len]; exact hlen
    refine q_asgR (er_call (R := fun v H2 => ∃ us : List Int, LstAt (iv us) v H2 ∧ us.length ≤ 64) (V.ref l, ts, c) (ea_cons (ev_fld (ev_var rfl) hfo T.cl_Common T.n_Common_times (lk22 tms)) (ea_cons (ev_var rfl) ea_nil)) (fun H2 e2 => ⟨rfl, ⟨l, rfl, e2 _ _ hfl⟩, by show ts.length ≤ 5000; omega⟩) fun H2 v H3 _ _ ⟨us, ⟨x, hx, _, hx2⟩, h2⟩ => ⟨us, ⟨x, hx, hx2⟩, by have h2 : us.length ≤ ts.length + 1 := h2; omega⟩) fun v2 H2 e2 ⟨us, ⟨tl, hv2, htl2⟩, hul⟩ => ?_
    subst hv2
    have hfo2 := e2 _ _ hfo
    have hq2 := e2 _ _ (e1 _ _ hq)
    have fp : Ev (tFld K (tVar 2) "part") [some (.ref q), some (.int c), some (.ref fo), some (.ref tl), none, none, none, none, none, none] H2 (.int p) := ev_fld (ev_var rfl) hfo2 T.cl_Common T.n_Common_part lk21
    refine q_forAll (n := 5) upInt (ear_all1 upInt (er_int fp) (ear_all1 upInt (er_int (ev_un fp ru_neg)) (ear_all1 upInt (er_int (ev_op ev_c fp (rv_I (.inl (by decide))))) (ear_all1 upInt (er_int ev_c) (ear_all1 upInt (er_int ev_c) ear_all0))))) (by decide) fun H3 e3 => ⟨fun σ' H' => ∃ s4 s5 s6 s7 s8 s9 : Option V, σ' = [some (.ref q), some (.int c), some (.ref fo), some (.ref tl), s4, s5, s6, s7, s8, s9] ∧ Ex H3 H', ⟨_, _, _, _, _, _, rfl, Ex.refl _⟩, fun σ' H' ⟨_, _, _, _, _, _, _, e⟩ => e, fun x σ' H' hP hx => ?_, fun σ' H' hP => ?_⟩
    · obtain ⟨s4, s5, s6, s7, s8, s9, rfl, e4⟩ := hP
      obtain ⟨pp, rfl⟩ := hx
      have e34 := e3.trans e4
      have hq4 := e34 _ _ hq2
      have ht4 := e34 _ _ htl2
      refine q_asgR (er_list (ev_var rfl) (sq_of ht4)) fun v5 H5 e5 ⟨hd, hv5, hdn, hh⟩ => ?_
      subst hv5
      refine q_asgR (er_Common (ev_var rfl) (ev_var rfl) hh) fun v6 H6 e6 ⟨o, dx, l2, hv6, ho, hl2n, hl2⟩ => ?_
      subst hv6
      refine q_app (xs := iv us) (e6 _ _ hh) (ev_var rfl) ev_c (by rw [iv_len]; omega) fun H7 e7 => ?_
      have hne1 : o ≠ hd := ne_of ho (e6 _ _ hh) (by intro z; cases z)
      have hne2 : l2 ≠ hd := fun z => by rw [z, hh] at hl2n; cases hl2n
      have hoB : (upd H7 hd (.lst (iv us ++ [.int 0]))) o = some (.ins A.c_Common dx [("part", .int pp), ("times", .ref l2)]) := by rw [upd_ne hne1]; exact e7 _ _ ho
      have hlB : (upd H7 hd (.lst (iv us ++ [.int 0]))) l2 = some (.lst (iv us)) := by rw [upd_ne hne2]; exact e7 _ _ hl2
      have eB : Ex H' (upd H7 hd (.lst (iv us ++ [.int 0]))) := Ex.mut (e5.trans (e6.trans e7)) hdn
      generalize upd H7 hd (.lst (iv us ++ [.int 0])) = HB at hoB hlB eB
      have hqB := eB _ _ hq4
      have htB := eB _ _ ht4
      refine q_asg (v := .bl (decide (0 ≤ pp) && decide (us.length = ns.length))) (ev_andV (ev_op (ev_var rfl) ev_c rv_I0) fun _ => ev_is (ev_op (ev_lenL (ev_var rfl) (sq_of htB)) (ev_lenL (ev_var rfl) (sq_of hqB)) rv_eqI) (by rw [iv_len, iv_len]; exact congrArg V.bl (decide_eq_decide.mpr (by omega)))) fun H8 e8 => ?_
      have hq8 := e8 _ _ hqB
      have ht8 := e8 _ _ htB
      refine q_due (r := decide (dot ns us = pp)) rfl (fun hb H9 e9 => ?_) fun H9 e9 => ?_
      · simp only [Bool.and_eq_true, decide_eq_true_eq] at hb
        have hll := hb.2
        refine ev_op (ev_is (ev_sumN (ns := (List.range ns.length).map fun k => ns.getD k 0 * us.getD k 0) (H0 := H9) ?_) (by rw [dot_range hll.symm])) (ev_var rfl) rv_eqI
        rw [iv_map, ← iv_len ns]
        refine er_lcZ (fun k => .int (ns.getD k 0 * us.getD k 0)) (ea_cons (ev_var rfl) (ea_cons (ev_var rfl) ea_nil)) (sq_of (e9 _ _ hq8)) (sq_of (e9 _ _ ht8)) (by rw [iv_len, iv_len, hll]) (by rw [iv_len]; omega) (fun _ _ => rfl) fun i x y hx hy => ?_
        obtain ⟨hi, rfl⟩ := iv_get hx
        obtain ⟨_, rfl⟩ := iv_get hy
        exact ev_op (ev_var rfl) (ev_var rfl) (rv_I (.inl (by have := hn _ (getD_mem hi); omega)))
      · have e89 := e8.trans e9
        have hq9 := e9 _ _ hq8
        refine q_forL (xs := iv ns) (ev_var rfl) (sq_of hq9) (fun i σ' H' => ∃ s8 s9 : Option V, σ' = [some (.ref q), some (.int c), some (.ref fo), some (.ref tl), some (.int pp), some (.ref hd), some (.ref o), some (.bl (((decide (0 ≤ pp) && decide (us.length = ns.length)) && decide (dot ns us = pp)) && (ns.take i).all fun n => if pp = 0 then decide (n = 0) else decide (n % pp = 0))), s8, s9] ∧ Ex H9 H') (fun H10 e10 => ⟨_, _, by rw [List.take_zero]; show _ = _; simp only [List.all_nil, Bool.and_true]; rfl, e10⟩) (fun i σ' H' _ ⟨_, _, _, e⟩ => sq_of (e _ _ hq9)) (fun i x σ' H10 hx hP => ?_) fun σ' H10 hP => ?_
        · obtain ⟨s8, s9, rfl, e10⟩ := hP
          obtain ⟨hi, rfl⟩ := iv_get hx
          have htk : ((ns.take (i + 1)).all fun n => if pp = 0 then decide (n = 0) else decide (n % pp = 0)) = (((ns.take i).all fun n => if pp = 0 then decide (n = 0) else decide (n % pp = 0)) && (if pp = 0 then decide (ns.getD i 0 = 0) else decide (ns.getD i 0 % pp = 0))) := by
            rw [List.take_add_one, List.getElem?_eq_getElem hi, List.all_append, List.getD_eq_getElem?_getD, List.getElem?_eq_getElem hi]
            show _ = (_ && _)
            simp
          show tAsg _ _ _ _ _
          refine s_asg (v := .bl (((decide (0 ≤ pp) && decide (us.length = ns.length)) && decide (dot ns us = pp)) && (ns.take (i + 1)).all fun n => if pp = 0 then decide (n = 0) else decide (n % pp = 0))) (ev_is (ev_andV (a := ((decide (0 ≤ pp) && decide (us.length = ns.length)) && decide (dot ns us = pp)) && (ns.take i).all fun n => if pp = 0 then decide (n = 0) else decide (n % pp = 0)) (b := if pp = 0 then decide (ns.getD i 0 = 0) else decide (ns.getD i 0 % pp = 0)) (ev_var rfl) fun hb => ev_if (b := decide (pp = 0)) (et_test (ev_op (ev_var rfl) ev_c rv_eqI)) (fun h0 => ?_) fun h0 => ?_) (by rw [htk, Bool.and_assoc])) fun H11 e11 => ⟨some (.int (ns.getD i 0)), s9, rfl, e10.trans e11⟩
          · rw [if_pos (of_decide_eq_true h0)]
            exact ev_op (ev_var rfl) ev_c rv_eqI
          · have h0' := of_decide_eq_false h0
            rw [if_neg h0']
            simp only [Bool.and_eq_true, decide_eq_true_eq] at hb
            exact ev_op (ev_op (ev_var rfl) (ev_var rfl) (rv_I (by have := hb.1.1.1; show 0 < pp; omega))) ev_c rv_eqI
        · obtain ⟨s8, s9, rfl, e10⟩ := hP
          rw [iv_len, List.take_length, parts_due]
          have e8T := e89.trans e10
          have hoT := e8T _ _ hoB
          have hlT := e8T _ _ hlB
          refine q_when (b := false) ?_ (fun z => nomatch z) fun _ H11 e11 => ?_
          · exact et_is (et_or (et_test (ev_op (ev_fld (ev_var rfl) hoT T.cl_Common T.n_Common_part lk21) (ev_var rfl) rv_neI)) fun _ => et_test (ev_op (ev_fld (ev_var rfl) hoT T.cl_Common T.n_Common_times (lk22 tms)) (ev_var rfl) (rv_neSame (dp_ints (sq_of hlT)) (dp_ints (sq_of (e8T _ _ htB))) (sh_ints us)))) (by simp)
          refine s_when (b := false) ?_ (fun z => nomatch z) fun _ H12 e12 => ⟨_, _, _, _, _, _, rfl, e4.trans (eB.trans (e8T.trans (e11.trans e12)))⟩
          have eL := e8T.trans e11
          exact et_is (et_not (et_B (ev_says (b := dueC pp us ns) (ev_meth (V.ref o, pp, l2, us, V.ref q, ns) (ev_var rfl) (eL _ _ hoB) lk00 (ea_cons (ev_var rfl) ea_nil) (fun H7 e7 => ⟨rfl, ⟨o, dx, rfl, (eL.trans e7) _ _ hoB, (eL.trans e7) _ _ hlB⟩, ⟨q, rfl, (eL.trans e7) _ _ hqB⟩, by show ns.length ≤ 10000; omega, fun n h => by have := hn n h; omega⟩) fun _ _ _ p => p) (ev_var rfl)))) rfl
    · obtain ⟨s4, s5, s6, s7, s8, s9, rfl, e4⟩ := hP
      exact s_ret ev_c fun H5 e5 => k _ _ (e1.trans (e2.trans (e3.trans (e4.trans e5)))) rfl
end
/-! ### times, bars and rests made by hand; the law -/
def sp_l_comes_right (_ : PySem.W.Frag) : Sp := spX (fun (d : V × List Int × Int) vs H => vs = [d.1, .int d.2.2] ∧ LstAt (iv d.2.1) d.1 H ∧ d.2.1.length ≤ 63 ∧ ∀ n ∈ d.2.1, -1000000 ≤ n ∧ n ≤ 1000000) (fun _ _ v _ => v = .bl true)
section
variable {P : Program} {w : World} {K : PySem.W.Frag} {mg : Str → Option Value} {base : Heap} {A : Ad}
theorem times_due (us ns : List Int) (t r : Int) : ((decide (us.length = ns.length) && us.all fun o => decide (0 ≤ o) && decide (o < t)) && decide (dot ns us % t = r)) = timesS us ns t r := by
  unfold timesS
  cases decide (us.length = ns.length) <;> simp
theorem bar_due (g t r : Int) (ns : List Int) : (decide (1 < g) && (decide (t % g = 0) && (!decide (r % g = 0) && ns.all fun n => decide (n % g = 0)))) = barS g ns t r := by
  unfold barS
  have e1 : decide (1 < g) = !decide (g < 2) := by rw [← decide_not]; exact decide_eq_decide.mpr (by omega)
  rw [e1]
  cases decide (g < 2) <;> cases decide (t % g = 0) <;> cases decide (r % g = 0) <;> simp
theorem iv_set (us : List Int) (j : Nat) (z : Int) : (iv us).set j (.int z) = iv (us.set j z) := by
  unfold iv
  rw [List.map_set]
theorem iv_rep (n : Nat) : (List.replicate n (iv [0])).flatten = iv (List.replicate n 0) := by
  induction n with
  | zero => rfl
  | succ n ih =>
    rw [List.replicate_succ, List.flatten_cons, ih]
    rfl
theorem ok_l_comes_right (T : Txt K mg A) : Okk P w K mg base 5 A.a_l_comes_right ["_law_numbers_here", "_law_cell"] (sp_l_comes_right K) := by
  obtain ⟨_, G_Bar_init, b_Bar_init, k_Bar_init⟩ := ok_Bar_init (P := P) (w := w) (base := base) T
  obtain ⟨_, G_Bar_shows, b_Bar_shows, k_Bar_shows⟩ := ok_Bar_shows (P := P) (w := w) (base := base) T
  obtain ⟨_, G_Times_init, b_Times_init, k_Times_init⟩ := ok_Times_init (P := P) (w := w) (base := base) T
  obtain ⟨_, G_Times_shows, b_Times_shows, k_Times_shows⟩ := ok_Times_shows (P := P) (w := w) (base := base) T
  obtain ⟨_, G_l_bent, b_l_bent, k_l_bent⟩ := ok_l_bent (P := P) (w := w) (base := base) T
  obtain ⟨_, G_l_draw, b_l_draw, k_l_draw⟩ := ok_l_draw (P := P) (w := w) (base := base) T
  obtain ⟨_, G_l_says, b_l_says, k_l_says⟩ := ok_l_says (P := P) (w := w) (base := base) T
  obtain ⟨_, G_come, b_come, k_come⟩ := ok_come (P := P) (w := w) (base := base) T
  refine okk T.F_l_comes_right sc_l_comes_right (fun vs H Q E h => ?_) (fun cdv Ar outer s H vs Q E hr h => ?_)
  · obtain ⟨d, ⟨rfl, _⟩, _⟩ := h
    rfl
  · obtain ⟨⟨_, ns, c⟩, ⟨rfl, ⟨q, rfl, hq⟩, hlen, hn⟩, k⟩ := h
    dsimp only at hq hlen hn
    have hr_Bar_init : Room 2 _ := hr.mono (by decide)
    have hr_Bar_shows : Room 1 _ := hr.mono (by decide)
    have hr_Times_init : Room 2 _ := hr.mono (by decide)
    have hr_Times_shows : Room 2 _ := hr.mono (by decide)
    have hr_l_bent : Room 2 _ := hr.mono (by decide)
    have hr_l_draw : Room 1 _ := hr.mono (by decide)
    have hr_l_says : Room 1 _ := hr.mono (by decide)
    have hr_come : Room 4 _ := hr.mono (by decide)
    refine ⟨_, (pss_cons (ps_set (i := 2) sc_l_comes_right.nd rfl (.inr rfl) (pe_ix (ix_tupK K) (pe_tup (pa_cons pe_int (pa_cons pe_int (pa_cons pe_int (pa_cons pe_int (pa_cons pe_int (pa_cons pe_int pa_nil))))))) (pe_call G_l_draw hr_l_draw (by rfl) T.g_l_draw k_l_draw b_l_draw .nil pass0 (pa_cons (pv 1) (pa_cons pe_int (pa_cons pe_int pa_nil)))) (fun _ _ => rfl)))
      (pss_cons (ps_set (i := 3) sc_l_comes_right.nd rfl (.inl rfl) (pe_call G_l_draw hr_l_draw (by rfl) T.g_l_draw k_l_draw b_l_draw .nil pass0 (pa_cons (pv 1) (pa_cons pe_int (pa_cons (pv 2) pa_nil)))))
      (pss_cons (ps_set (i := 4) sc_l_comes_right.nd rfl (.inl rfl) (pe_call G_come hr_come (by rfl) T.g_come k_come b_come .nil pass0 (pa_cons (pv 0) (pa_cons (pv 2) (pa_cons (pv 3) pa_nil)))))
      (pss_cons (ps_set (i := 5) sc_l_comes_right.nd rfl (.inl rfl) (pe_call G_l_bent hr_l_bent (by rfl) T.g_l_bent k_l_bent b_l_bent .nil pass0 (pa_cons (pe_ifExp (pt_val (pe_callB (isiK K) (by rfl) T.z_isinstance (by decide +kernel) (pa_cons (pv 4) (pa_cons (pe_glob (v := .ref A.c_Times) (by rfl) T.g_Times rfl) pa_nil)))) (pe_fldK K (pv 4) rfl) (pe_op op_rep (pe_lst (pa_cons pe_int pa_nil)) (pe_callB (len_seqK K) (by rfl) T.z_len (by decide +kernel) (pa_cons (pv 0) pa_nil)))) (pa_cons (pv 1) pa_nil))))
      (pss_cons (ps_if (PW.pt (pw_and (pt_cmpR (neDK K hr.units) (pv 5) (pe_lst pa_nil) (nomark _)) (pw_and1 (pt_cmpR op_eq (pe_call G_l_draw hr_l_draw (by rfl) T.g_l_draw k_l_draw b_l_draw .nil pass0 (pa_cons (pv 1) (pa_cons pe_int (pa_cons pe_int pa_nil)))) pe_int (nomark _))))) (pss_one (ps_asg (pe_op op_add (pe_ix (ix_listK K) (pv 5) pe_int (fun _ _ => rfl)) (pv 2)) (pg_sub (pv 5) pe_int set_list))) pss_nil)
      (pss_cons (ps_set (i := 6) sc_l_comes_right.nd rfl (.inl rfl) (pe_callTy (list_ofK K) (by rfl) T.z_list (by decide +kernel) (pa_cons (pv 5) pa_nil)))
      (pss_cons (ps_set (i := 7) sc_l_comes_right.nd rfl (.inl rfl) (pe_make T.mk_Times G_Times_init hr_Times_init (by rfl) T.g_Times b_Times_init .nil pass0 (pa_cons (pv 6) pa_nil)))
      (pss_cons (ps_expr (pe_bm PySem.F.plainAttrs_list PySem.F.slot_list_append PySem.F.type_list_append mt_append (pv 6) (pa_cons pe_int pa_nil)))
      (pss_cons (ps_set (i := 8) sc_l_comes_right.nd rfl (.inl rfl) (pe_and (pe_cmpR op_eq (pe_callB (len_seqK K) (by rfl) T.z_len (by decide +kernel) (pa_cons (pv 5) pa_nil)) (pe_callB (len_seqK K) (by rfl) T.z_len (by decide +kernel) (pa_cons (pv 0) pa_nil)) (nomark _)) (pe_one (pe_callB (allK K rfl) (by rfl) T.z_all (by decide +kernel) (pa_cons (pe_lc (own := [("_law_often", 11)]) rfl sc_l_comes_right.nd (pi_listK K (pv 5)) (blkOk_by (N := ["_law_numbers_here", "_law_cell", "_law_turn", "_law_rest", "_law_found", "_law_times", "_law_handed", "_law_answer", "_law_due", "_law_whole_here", "_law_part_here", "_law_often", "_law_number"]) (sc := defScope s_l_comes_right) (by decide +kernel)) (fun _ _ _ _ _ => (pg_name (i := 11) sc_l_comes_right.nd rfl (Or.inl rfl))) (fun _ _ _ _ _ => pts_nil) (fun _ _ _ _ _ => (pe_chain op_le op_lt pe_int (pv 11) (pv 2)))) pa_nil)))))
      (pss_cons (ps_if (pt_val (pv 8)) (pss_cons (ps_set (i := 9) sc_l_comes_right.nd rfl (.inl rfl) (pe_callB (sumK K rfl) (by rfl) T.z_sum (by decide +kernel) (pa_cons (pe_lc (own := [("_law_number", 12), ("_law_often", 11)]) rfl sc_l_comes_right.nd (pi_zipK K (by rfl) T.z_zip (pa_cons (pv 0) (pa_cons (pv 5) pa_nil))) (blkOk_by (N := ["_law_numbers_here", "_law_cell", "_law_turn", "_law_rest", "_law_found", "_law_times", "_law_handed", "_law_answer", "_law_due", "_law_whole_here", "_law_part_here", "_law_often", "_law_number"]) (sc := defScope s_l_comes_right) (by decide +kernel)) (fun _ _ _ _ _ => (pg_tupK (n := 2) K rfl (pgs_cons (pg_name (i := 12) sc_l_comes_right.nd rfl (Or.inl rfl)) (pgs_cons (pg_name (i := 11) sc_l_comes_right.nd rfl (Or.inl rfl)) pgs_nil)))) (fun _ _ _ _ _ => pts_nil) (fun _ _ _ _ _ => (pe_op op_mul (pv 12) (pv 11)))) pa_nil)))
      (pss_one (ps_set (i := 8) sc_l_comes_right.nd rfl (.inl rfl) (pe_cmpR op_eq (pe_op op_mod (pv 9) (pv 2)) (pv 3) (nomark _))))) pss_nil)
      (pss_cons (ps_if (PW.pt (pw_or (pt_cmpR (neDK K hr.units) (pe_fldK K (pv 7) rfl) (pv 5) (nomark _)) (pw_or1 (pt_not (pt_val (pe_call G_l_says hr_l_says (by rfl) T.g_l_says k_l_says b_l_says .nil pass0 (pa_cons (pe_alt (pe_meth (pv 7) T.cl_Times T.m_Times_shows G_Times_shows hr_Times_shows b_Times_shows .nil pass0 (pa_cons (pv 0) (pa_cons (pv 2) (pa_cons (pv 3) pa_nil)))) (pe_meth (pv 7) T.cl_Bar T.m_Bar_shows G_Bar_shows hr_Bar_shows b_Bar_shows .nil pass0 (pa_cons (pv 0) (pa_cons (pv 2) (pa_cons (pv 3) pa_nil))))) (pa_cons (pv 8) pa_nil)))))))) (pss_one (ps_ret pe_bl)) pss_nil)
      (pss_cons (ps_for PassesOwn.never rfl (pi_tupK K (pe_tup (pa_cons (pe_un un_neg pe_int) (pa_cons pe_int (pa_cons pe_int (pa_cons pe_int (pa_cons pe_int (pa_cons pe_int (pa_cons pe_int (pa_cons (pv 2) pa_nil)))))))))) (pg_name (i := 10) sc_l_comes_right.nd rfl (Or.inr rfl)) (pss_cons (ps_set (i := 8) sc_l_comes_right.nd rfl (.inl rfl) (pe_cmpR op_gt (pv 10) pe_int (nomark _)))
      (pss_cons (ps_if (pt_val (pv 8)) (pss_one (ps_set (i := 8) sc_l_comes_right.nd rfl (.inl rfl) (pe_and (pe_cmpR op_eq (pe_op op_mod (pv 2) (pv 10)) pe_int (nomark _)) (pe_and (pe_cmpR op_ne (pe_op op_mod (pv 3) (pv 10)) pe_int (nomark _)) (pe_one (pe_callB (allK K rfl) (by rfl) T.z_all (by decide +kernel) (pa_cons (pe_lc (own := [("_law_number", 12)]) rfl sc_l_comes_right.nd (pi_listK K (pv 0)) (blkOk_by (N := ["_law_numbers_here", "_law_cell", "_law_turn", "_law_rest", "_law_found", "_law_times", "_law_handed", "_law_answer", "_law_due", "_law_whole_here", "_law_part_here", "_law_often", "_law_number"]) (sc := defScope s_l_comes_right) (by decide +kernel)) (fun _ _ _ _ _ => (pg_name (i := 12) sc_l_comes_right.nd rfl (Or.inl rfl))) (fun _ _ _ _ _ => pts_nil) (fun _ _ _ _ _ => (pe_cmpR op_eq (pe_op op_mod (pv 12) (pv 10)) pe_int (nomark _)))) pa_nil))))))) pss_nil)
      (pss_cons (ps_set (i := 7) sc_l_comes_right.nd rfl (.inl rfl) (pe_make T.mk_Bar G_Bar_init hr_Bar_init (by rfl) T.g_Bar b_Bar_init .nil pass0 (pa_cons (pv 10) pa_nil)))
      (pss_one (ps_if (PW.pt (pw_or (pt_cmpR op_ne (pe_fldK K (pv 7) rfl) (pv 10) (nomark _)) (pw_or1 (pt_not (pt_val (pe_call G_l_says hr_l_says (by rfl) T.g_l_says k_l_says b_l_says .nil pass0 (pa_cons (pe_alt (pe_meth (pv 7) T.cl_Times T.m_Times_shows G_Times_shows hr_Times_shows b_Times_shows .nil pass0 (pa_cons (pv 0) (pa_cons (pv 2) (pa_cons (pv 3) pa_nil)))) (pe_meth (pv 7) T.cl_Bar T.m_Bar_shows G_Bar_shows hr_Bar_shows b_Bar_shows .nil pass0 (pa_cons (pv 0) (pa_cons (pv 2) (pa_cons (pv 3) pa_nil))))) (pa_cons (pv 8) pa_nil)))))))) (pss_one (ps_ret pe_bl)) pss_nil))))))
      (pss_one (ps_ret pe_bl)))))))))))))), ?_⟩
    have hbig : big ns := ⟨by omega, fun n h => by have := hn n h; omega⟩
    refine q_asgR (ev_pickR (l := [1, 6, 12, 30, 7, 100]) (by walk_at "ev") ((er_draw (ev_var rfl) ev_c ev_c (by decide) (by decide)).imp fun v H3 _ ⟨i, h⟩ => ⟨i, h⟩) (by rfl) (by walk_at "sz")) fun v1 H1 e1 ⟨i1, i10, i11, hv1⟩ => ?_
    have hb := getD_all (l := [1, 6, 12, 30, 7, 100]) (i := i1.toNat) (a := 1) (b := 100) (by decide) (by have : i1 < 6 := i11; show i1.toNat < 6; omega)
    generalize ([1, 6, 12, 30, 7, 100] : List Int).getD i1.toNat 0 = t at hb hv1
    subst hv1
    have ht : 0 < t := by omega
    refine q_asgR (er_draw (ev_var rfl) ev_c (ev_var rfl) (by decide) ht) fun v2 H2 e2 ⟨r, hv2, r0, r1⟩ => ?_
    subst hv2
    have e12 := e1.trans e2
    refine q_asgR (er_call (R := fun v H3 => (∃ g, BarAt A H3 v g) ∨ ∃ l ts, TimesAt A H3 v l ts ∧ ts.length = ns.length) ⟨.ref q, ns, t, r⟩ (ea_cons (ev_var rfl) (ea_cons (ev_var rfl) (ea_cons (ev_var rfl) ea_nil))) (fun H3 e3 => ⟨rfl, ⟨q, rfl, (e12.trans e3) _ _ hq⟩, by show ns.length ≤ 5000; omega, hn, by show 1 ≤ t; omega, by show t ≤ 1000000; omega, r0, r1⟩) fun H3 v H4 _ _ h => ?_) fun v3 H3 e3 h3 => ?_
    · rcases h with ⟨g, h, _⟩ | ⟨l, ts, h, _, ok⟩
      · exact .inl ⟨g, h⟩
      · exact .inr ⟨l, ts, h, ok.len⟩
    have hq3 := e3 _ _ (e12 _ _ hq)
    refine q_asgR (er_callS (R := fun v H4 => ∃ (tl : Addr) (us : List Int), v = .ref tl ∧ H3 tl = none ∧ H4 tl = some (.lst (iv us)) ∧ us.length ≤ 64) (T := fun vs H => ∃ v ts, vs = [v, .int c] ∧ LstAt (iv ts) v H ∧ ts.length = ns.length) (ear_cons (R := fun v H4 => ∃ ts, LstAt (iv ts) v H4 ∧ ts.length = ns.length) ?_ fun x H4 e4 ⟨ts, h1, h2⟩ => (ear (ea_cons (ev_var rfl) ea_nil)).imp fun vs H5 e5 hv => ⟨x, ts, by rw [hv], h1.up e5, h2⟩) fun vs H4 e4 ⟨x, ts, hvs, h1, h2⟩ Q q => ?_) fun v4 H4 e4 ⟨tl, us0, hv4, htn, htl0, hul0⟩ => ?_
    · rcases h3 with ⟨g, o, dx, rfl, ho⟩ | ⟨l, ts, ⟨o, dx, rfl, ho, hl⟩, htl⟩
      · refine er_if (et_B (ev_isi (ev_var rfl) ev_c (.own _) (tyx_ins ho T.i_Bar T.isg) T.q_Bar_Times)) (fun hb => nomatch hb) fun _ => er_op (er_new (xs := iv [0]) (ea_cons ev_c ea_nil) (by decide)) (fun x H4 e4 _ => evr (ev_lenL (ev_var rfl) (sq_of (e4 _ _ hq3)))) ?_
        rintro x y H4 H5 e4 ⟨l, rfl, _, hl⟩ e5 rfl Q q
        refine ⟨l, _, _, rfl, rfl, e5 _ _ hl, by rw [iv_len]; omega, by rw [iv_len]; omega, ?_, fun p hp => q _ _ (Ex.new hp) ⟨List.replicate ns.length 0, ⟨p, rfl, ?_⟩, by rw [List.length_replicate]⟩⟩
        · rw [Int.toNat_natCast]
          exact sz_of (by show 1 * (iv ns).length ≤ 100000; rw [iv_len]; omega)
        · rw [upd_same, iv_len, Int.toNat_natCast, iv_rep]
      · exact er_if (et_B (ev_isi (ev_var rfl) ev_c (.own _) (tyx_ins ho T.i_Times T.isg) T.q_Times_Times)) (fun _ => (evr (ev_fld (ev_var rfl) ho T.cl_Times T.n_Times_times lk1)).imp fun v H6 e6 hv => ⟨ts, ⟨l, hv, e6 _ _ hl⟩, htl⟩) fun hb => nomatch hb
    · subst hvs
      exact ⟨(x, ts, c), ⟨rfl, h1, by show ts.length ≤ 5000; omega⟩, fun v H5 e5 ⟨us, ⟨p, hv, hpn, hp⟩, hl⟩ => q v H5 e5 ⟨p, us, hv, fresh_back e4 hpn, hp, by have hl : us.length ≤ ts.length + 1 := hl; omega⟩⟩
    subst hv4
    refine q_join (fun σ' H' => ∃ us : List Int, σ' = [some (.ref q), some (.int c), some (.int t), some (.int r), some v3, some (.ref tl), none, none, none, none, none, none, none] ∧ Ex H3 H' ∧ H' tl = some (.lst (iv us)) ∧ us.length ≤ 64) (φ := fun b => b = true → (decide (us0.length ≠ 0)) = true) (ew_and (b := decide (us0.length ≠ 0)) (et_test (ev_opR2 (ev_var rfl) (er_new (xs := []) ea_nil (by decide)) fun y H5 e5 ⟨p, hy, _, hp⟩ => ?_)) fun _ => er_test (er_draw (ev_var rfl) ev_c ev_c (by decide) (by decide)) ev_c fun x H5 _ hx Q q => ?_) (fun hφ H5 e5 D hD => ?_) (fun _ H5 e5 => ⟨us0, rfl, e4.trans e5, e5 _ _ htl0, hul0⟩) fun σ' H5 hP => ?_
    · subst hy
      refine rv_neD (dp_ints (sq_of (e5 _ _ htl0))) (dp_ints (ns := []) (sq_of hp)) (sh_ints us0) (sh_ints []) ?_
      cases us0 with
      | nil => rfl
      | cons p rs => rfl
    · obtain ⟨z, rfl, _⟩ := hx
      exact ⟨rfl, q _⟩
    · have hl0 : us0.length ≠ 0 := of_decide_eq_true (hφ rfl)
      have htl5 := e5 _ _ htl0
      refine s_setL (j := 0) (v := .int (us0.getD 0 0 + t)) htl5 (ev_op (ev_op (ev_var rfl) ev_c (rv_ixL (sq_of htl5) (atI_ints (i := 0) (by omega)))) (ev_var rfl) rv_I0) (ev_var rfl) ev_c (by rw [iv_len]; omega) fun H6 e6 => hD _ _ ⟨us0.set 0 (us0.getD 0 0 + t), rfl, Ex.mut (e4.trans (e5.trans e6)) htn, by rw [upd_same, iv_set], by rw [List.length_set]; exact hul0⟩
    obtain ⟨us, rfl, e35, ht5, hul⟩ := hP
    have hq5 := e35 _ _ hq3
    refine q_asgR (er_list (ev_var rfl) (sq_of ht5)) fun v6 H6 e6 ⟨hd, hv6, hdn, hh⟩ => ?_
    subst hv6
    refine q_asgR (er_Times (xs := iv us) (R := fun v H => v = .ref hd ∧ H hd = some (.lst (iv us))) ((evr (v := .ref hd) (ev_var rfl)).imp fun v H e hv => ⟨hv, e _ _ hh⟩) fun v H1 ⟨h1, h2⟩ => ⟨hd, h1, h2⟩) fun v7 H7 e7 ⟨o, dx, l2, hv7, ho, hl2n, hl2⟩ => ?_
    subst hv7
    refine q_app (xs := iv us) (e7 _ _ hh) (ev_var rfl) ev_c (by rw [iv_len]; omega) fun H8 e8 => ?_
    have hne1 : o ≠ hd := ne_of ho (e7 _ _ hh) (by intro z; cases z)
    have hne2 : l2 ≠ hd := fun z => by rw [z, hh] at hl2n; cases hl2n
    have hoB : (upd H8 hd (.lst (iv us ++ [.int 0]))) o = some (.ins A.c_Times dx [("times", .ref l2)]) := by rw [upd_ne hne1]; exact e8 _ _ ho
    have hlB : (upd H8 hd (.lst (iv us ++ [.int 0]))) l2 = some (.lst (iv us)) := by rw [upd_ne hne2]; exact e8 _ _ hl2
    have eB : Ex H5 (upd H8 hd (.lst (iv us ++ [.int 0]))) := Ex.mut (e6.trans (e7.trans e8)) hdn
    generalize upd H8 hd (.lst (iv us ++ [.int 0])) = HB at hoB hlB eB
    have hqB := eB _ _ hq5
    have htB := eB _ _ ht5
    have eHB : Ex H HB := (e12.trans e3).trans (e35.trans eB)
    refine q_asg (v := .bl (decide (us.length = ns.length) && us.all fun o => decide (0 ≤ o) && decide (o < t))) (ev_andV (ev_is (ev_op (ev_lenL (ev_var rfl) (sq_of htB)) (ev_lenL (ev_var rfl) (sq_of hqB)) rv_eqI) (by rw [iv_len, iv_len]; exact congrArg V.bl (decide_eq_decide.mpr (by omega)))) fun _ => ev_is (ev_allN (bs := us.map fun o => decide (0 ≤ o) && decide (o < t)) (H0 := HB) ?_) (by rw [List.all_map]; rfl)) fun H9 e9 => ?_
    · rw [← map_bl]
      exact er_lcI (fun o => .bl (decide (0 ≤ o) && decide (o < t))) (ev_var rfl) (sq_of htB) (by omega) (fun _ => rfl) fun n hn => ev_chain ev_c (ev_var rfl) rv_I0 (fun _ => ev_var rfl) fun _ => rv_I0
    have hq9 := e9 _ _ hqB
    have ht9 := e9 _ _ htB
    refine q_join (fun σ' H' => ∃ s9 : Option V, σ' = [some (.ref q), some (.int c), some (.int t), some (.int r), some v3, some (.ref tl), some (.ref hd), some (.ref o), some (.bl (timesS us ns t r)), s9, none, none, none] ∧ Ex H9 H') (et_phi (b := decide (us.length = ns.length) && us.all fun o => decide (0 ≤ o) && decide (o < t)) (et_B (ev_var rfl))) (fun hb H10 e10 D hD => ?_) (fun hb H10 e10 => ⟨none, ?_, e10⟩) fun σ' H10 hP => ?_
    · have hb2 := hb.symm
      simp only [Bool.and_eq_true, decide_eq_true_eq] at hb2
      have hll := hb2.1
      refine q_asg (v := .int (dot ns us)) (ev_is (ev_sumN (ns := (List.range ns.length).map fun k => ns.getD k 0 * us.getD k 0) (H0 := H10) ?_) (by rw [dot_range hll.symm])) fun H11 e11 => ?_
      · rw [iv_map, ← iv_len ns]
        refine er_lcZ (fun k => .int (ns.getD k 0 * us.getD k 0)) (ea_cons (ev_var rfl) (ea_cons (ev_var rfl) ea_nil)) (sq_of (e10 _ _ hq9)) (sq_of (e10 _ _ ht9)) (by rw [iv_len, iv_len, hll]) (by rw [iv_len]; omega) (fun _ _ => rfl) fun i x y hx hy => ?_
        obtain ⟨hi, rfl⟩ := iv_get hx
        obtain ⟨_, rfl⟩ := iv_get hy
        exact ev_op (ev_var rfl) (ev_var rfl) (rv_I (.inl (by have := hn _ (getD_mem hi); omega)))
      · refine s_asg (v := .bl (timesS us ns t r)) (ev_is (ev_op (ev_op (ev_var rfl) (ev_var rfl) (rv_I ht)) (ev_var rfl) rv_eqI) ?_) fun H12 e12 => hD _ _ ⟨_, rfl, e10.trans (e11.trans e12)⟩
        rw [← times_due, ← hb, Bool.true_and]
    · rw [← times_due, ← hb, Bool.false_and]
      rfl
    obtain ⟨s9, rfl, e910⟩ := hP
    have eBT := e9.trans e910
    have hoT := eBT _ _ hoB
    have hlT := eBT _ _ hlB
    have hqT := eBT _ _ hqB
    refine q_when (b := false) ?_ (fun z => nomatch z) fun _ H11 e11 => ?_
    · exact et_is (et_or (et_test (ev_op (ev_fld (ev_var rfl) hoT T.cl_Times T.n_Times_times lk1) (ev_var rfl) (rv_neSame (dp_ints (sq_of hlT)) (dp_ints (sq_of (eBT _ _ htB))) (sh_ints us)))) fun _ => et_not (et_B (ev_says (b := timesS us ns t r) (ev_altL (ev_meth ⟨.ref o, l2, us, .ref q, ns, t, r⟩ (ev_var rfl) hoT lk0 (ea_cons (ev_var rfl) (ea_cons (ev_var rfl) (ea_cons (ev_var rfl) ea_nil))) (fun H7 e7 => ⟨rfl, ⟨o, dx, rfl, e7 _ _ hoT, e7 _ _ hlT⟩, ⟨q, rfl, e7 _ _ hqT⟩, hbig, by show us.length ≤ 10000; omega, ht⟩) fun _ _ _ p => p)) (ev_var rfl)))) rfl
    have hq11 := e11 _ _ hqT
    refine q_forAll (n := 8) upInt (ear_all1 upInt (er_int (ev_un ev_c ru_neg)) (ear_all1 upInt (er_int ev_c) (ear_all1 upInt (er_int ev_c) (ear_all1 upInt (er_int ev_c) (ear_all1 upInt (er_int ev_c) (ear_all1 upInt (er_int ev_c) (ear_all1 upInt (er_int ev_c) (ear_all1 upInt (er_int (ev_var rfl)) ear_all0)))))))) (by decide) fun H12 e12' => ⟨fun σ' H' => ∃ s7 s8 s10 : Option V, σ' = [some (.ref q), some (.int c), some (.int t), some (.int r), some v3, some (.ref tl), some (.ref hd), s7, s8, s9, s10, none, none] ∧ Ex H12 H', ⟨_, _, _, rfl, Ex.refl _⟩, fun σ' H' ⟨_, _, _, _, e⟩ => e, fun x σ' H' hP hx => ?_, fun σ' H' hP => ?_⟩
    · obtain ⟨s7, s8, s10, rfl, e13⟩ := hP
      obtain ⟨g, rfl⟩ := hx
      have hq13 := (e12'.trans e13) _ _ hq11
      refine q_asg (v := .bl (decide (1 < g))) (ev_op (ev_var rfl) ev_c rv_I0) fun H14 e14 => ?_
      refine q_due (b := decide (1 < g)) (r := decide (t % g = 0) && (!decide (r % g = 0) && ns.all fun n => decide (n % g = 0))) rfl (fun hb H15 e15 => ?_) fun H15 e15 => ?_
      · have hg : 0 < g := by have := of_decide_eq_true hb; omega
        refine ev_andV (ev_op (ev_op (ev_var rfl) (ev_var rfl) (rv_I hg)) ev_c rv_eqI) fun _ => ev_andV (ev_op (ev_op (ev_var rfl) (ev_var rfl) (rv_I hg)) ev_c rv_neI) fun _ => ev_is (ev_allN (bs := ns.map fun n => decide (n % g = 0)) (H0 := H15) ?_) (by rw [List.all_map]; rfl)
        rw [← map_bl]
        exact er_lcI (fun n => .bl (decide (n % g = 0))) (ev_var rfl) (sq_of ((e14.trans e15) _ _ hq13)) (by omega) (fun _ => rfl) fun n hn => ev_op (ev_op (ev_var rfl) (ev_var rfl) (rv_I hg)) ev_c rv_eqI
      · rw [bar_due]
        refine q_asgR (er_make1 (ev_var rfl)) fun v16 H16 e16 ⟨o2, dx2, hv, _, ho2⟩ => ?_
        subst hv
        have hq16 := (e14.trans (e15.trans e16)) _ _ hq13
        refine s_when (b := false) ?_ (fun z => nomatch z) fun _ H17 e17 => ⟨_, _, _, rfl, e13.trans (e14.trans (e15.trans (e16.trans e17)))⟩
        exact et_is (et_or (et_test (ev_op (ev_fld (ev_var rfl) ho2 T.cl_Bar T.n_Bar_part lk1) (ev_var rfl) rv_neI)) fun _ => et_not (et_B (ev_says (b := barS g ns t r) (ev_altR (ev_meth ⟨.ref o2, g, .ref q, ns, t, r⟩ (ev_var rfl) ho2 lk0 (ea_cons (ev_var rfl) (ea_cons (ev_var rfl) (ea_cons (ev_var rfl) ea_nil))) (fun H7 e7 => ⟨rfl, ⟨o2, dx2, rfl, e7 _ _ ho2⟩, ⟨q, rfl, e7 _ _ hq16⟩, hbig⟩) fun _ _ _ p => p)) (ev_var rfl)))) (by simp)
    · obtain ⟨s7, s8, s10, rfl, e13⟩ := hP
      exact s_ret ev_c fun H14 e14 => k _ _ (eHB.trans (eBT.trans (e11.trans (e12'.trans (e13.trans e14))))) rfl
end
/-! ### rests made by hand; the law -/
def sp_l_rests_right (_ : PySem.W.Frag) : Sp := spX (fun (d : V × List (Int × Int) × Int) vs H => vs = [d.1, .int d.2.2] ∧ Rsts H d.1 d.2.1) (fun _ _ v _ => v = .bl true)
def sp_law (K : PySem.W.Frag) : Sp := fun vs H Q _ => ∃ v ns, vs = [v] ∧ Scr K H v ns ∧ ∀ H', Q (.bl true) H'
section
variable {P : Program} {w : World} {K : PySem.W.Frag} {mg : Str → Option Value} {base : Heap} {A : Ad}
theorem num_due (n t : Int) (rs : List (Int × Int)) : ((decide (t = lcmOf rs) && (decide (0 ≤ n) && decide (n < lcmOf rs))) && rs.all fun p => decide (n % p.2 = p.1)) = numF n t rs := by
  unfold numF
  by_cases h : t = lcmOf rs
  · subst h
    simp
  · rw [decide_eq_false h]
    simp
theorem lcm_divs {rs : List (Int × Int)} (ho : ∀ p ∈ rs, RstOk p) {i : Nat} (hi : i < rs.length) : lcmOf (rs.take (i + 1)) = lcmOf (rs.take i) * (rs.getD i (0, 1)).2 / pt (lcmOf (rs.take i)) (rs.getD i (0, 1)).2 := by
  have hp := rst_at ho hi
  have ht : 0 < (rs.getD i (0, 1)).2 := by have := hp.1; have := hp.2.1; omega
  rw [take_snoc hi, lcmOf_snoc]
  exact (lcm_step (lcmOf_pos fun p hp => ho p (List.mem_of_mem_take hp)) ht).2.2.2.1.symm
theorem er_pair {σ : L2.St} {H : Hp} {ta tb : TE} {i j : Int} (h : Ev ta σ H (.int i)) (h2 : Ev tb σ H (.int j)) : EvR (tTup (tCons ta (tCons tb tNil))) σ H PairX := (eur (eu_tup (ea_cons h (ea_cons h2 ea_nil)) (by show 2 ≤ 100000; decide))).imp fun v H2 _ ⟨p, hv, _, hp⟩ => ⟨(i, j), p, hv, hp⟩
theorem ok_l_rests_right (T : Txt K mg A) : Okk P w K mg base 6 A.a_l_rests_right ["_law_rests_here", "_law_cell"] (sp_l_rests_right K) := by
  obtain ⟨_, G_Clash_init, b_Clash_init, k_Clash_init⟩ := ok_Clash_init (P := P) (w := w) (base := base) T
  obtain ⟨_, G_Clash_shows, b_Clash_shows, k_Clash_shows⟩ := ok_Clash_shows (P := P) (w := w) (base := base) T
  obtain ⟨_, G_Number_init, b_Number_init, k_Number_init⟩ := ok_Number_init (P := P) (w := w) (base := base) T
  obtain ⟨_, G_Number_shows, b_Number_shows, k_Number_shows⟩ := ok_Number_shows (P := P) (w := w) (base := base) T
  obtain ⟨_, G_l_draw, b_l_draw, k_l_draw⟩ := ok_l_draw (P := P) (w := w) (base := base) T
  obtain ⟨_, G_l_part, b_l_part, k_l_part⟩ := ok_l_part (P := P) (w := w) (base := base) T
  obtain ⟨_, G_l_says, b_l_says, k_l_says⟩ := ok_l_says (P := P) (w := w) (base := base) T
  obtain ⟨_, G_told, b_told, k_told⟩ := ok_told (P := P) (w := w) (base := base) T
  refine okk T.F_l_rests_right sc_l_rests_right (fun vs H Q E h => ?_) (fun cdv Ar outer s H vs Q E hr h => ?_)
  · obtain ⟨d, ⟨rfl, _⟩, _⟩ := h
    rfl
  · obtain ⟨⟨_, rs, c⟩, ⟨rfl, hR⟩, k⟩ := h
    dsimp only at hR
    obtain ⟨⟨a, xs, rfl, ha, hrs⟩, hl, ho⟩ := id hR
    have hr_Clash_init : Room 2 _ := hr.mono (by decide)
    have hr_Clash_shows : Room 2 _ := hr.mono (by decide)
    have hr_Number_init : Room 2 _ := hr.mono (by decide)
    have hr_Number_shows : Room 3 _ := hr.mono (by decide)
    have hr_l_draw : Room 1 _ := hr.mono (by decide)
    have hr_l_part : Room 1 _ := hr.mono (by decide)
    have hr_l_says : Room 1 _ := hr.mono (by decide)
    have hr_told : Room 5 _ := hr.mono (by decide)
    refine ⟨_, (pss_cons (ps_par (i := 2) (j := 3) rfl sc_l_rests_right.nd rfl rfl (by decide) rfl rfl (pa_cons (pe_call G_told hr_told (by rfl) T.g_told k_told b_told .nil pass0 (pa_cons (pv 0) pa_nil)) (pa_cons pe_int pa_nil)) (by rfl))
      (pss_cons (ps_for PassesOwn.never rfl (pi_listK K (pv 0)) (pg_tupK (n := 2) K rfl (pgs_cons (pg_name (i := 4) sc_l_rests_right.nd rfl (Or.inl rfl)) (pgs_cons (pg_name (i := 5) sc_l_rests_right.nd rfl (Or.inl rfl)) pgs_nil))) (pss_one (ps_set (i := 3) sc_l_rests_right.nd rfl (.inl rfl) (pe_op op_fdiv (pe_op op_mul (pv 3) (pv 5)) (pe_call G_l_part hr_l_part (by rfl) T.g_l_part k_l_part b_l_part .nil pass0 (pa_cons (pv 3) (pa_cons (pv 5) pa_nil)))))))
      (pss_cons (ps_set (i := 6) sc_l_rests_right.nd rfl (.inl rfl) (pe_ifExp (pt_val (pe_callB (isiK K) (by rfl) T.z_isinstance (by decide +kernel) (pa_cons (pv 2) (pa_cons (pe_glob (v := .ref A.c_Number) (by rfl) T.g_Number rfl) pa_nil)))) (pe_fldK K (pv 2) rfl) (pe_call G_l_draw hr_l_draw (by rfl) T.g_l_draw k_l_draw b_l_draw .nil pass0 (pa_cons (pv 1) (pa_cons pe_int (pa_cons pe_int pa_nil))))))
      (pss_cons (ps_for PassesOwn.never rfl (pi_listK K (pe_lst (pa_cons (pe_tup (pa_cons (pv 6) (pa_cons (pv 3) pa_nil))) (pa_cons (pe_tup (pa_cons (pe_op op_add (pv 6) (pv 3)) (pa_cons (pv 3) pa_nil))) (pa_cons (pe_tup (pa_cons (pe_op op_sub (pv 6) (pv 3)) (pa_cons (pv 3) pa_nil))) (pa_cons (pe_tup (pa_cons (pv 6) (pa_cons (pe_op op_mul pe_int (pv 3)) pa_nil))) pa_nil)))))) (pg_tupK (n := 2) K rfl (pgs_cons (pg_name (i := 7) sc_l_rests_right.nd rfl (Or.inr rfl)) (pgs_cons (pg_name (i := 5) sc_l_rests_right.nd rfl (Or.inl rfl)) pgs_nil))) (pss_one (ps_for PassesOwn.never rfl (pi_tupK K (pe_tup (pa_cons pe_int (pa_cons pe_int pa_nil)))) (pg_name (i := 8) sc_l_rests_right.nd rfl (Or.inr rfl)) (pss_cons (ps_set (i := 9) sc_l_rests_right.nd rfl (.inl rfl) (pe_and (pe_cmpR op_eq (pv 5) (pv 3) (nomark _)) (pe_one (pe_chain op_le op_lt pe_int (pe_op op_add (pv 7) (pv 8)) (pv 3)))))
      (pss_cons (ps_if (pt_val (pv 9)) (pss_one (ps_set (i := 9) sc_l_rests_right.nd rfl (.inl rfl) (pe_callB (allK K rfl) (by rfl) T.z_all (by decide +kernel) (pa_cons (pe_lc (own := [("_law_rest", 4), ("_law_other", 10)]) rfl sc_l_rests_right.nd (pi_listK K (pv 0)) (blkOk_by (N := ["_law_rests_here", "_law_cell", "_law_found", "_law_whole_here", "_law_rest", "_law_turn", "_law_number", "_law_some", "_law_more", "_law_due", "_law_other", "_law_answer", "_law_many", "_law_k", "_law_one", "_law_apart"]) (sc := defScope s_l_rests_right) (by decide +kernel)) (fun _ _ _ _ _ => (pg_tupK (n := 2) K rfl (pgs_cons (pg_name (i := 4) sc_l_rests_right.nd rfl (Or.inl rfl)) (pgs_cons (pg_name (i := 10) sc_l_rests_right.nd rfl (Or.inl rfl)) pgs_nil)))) (fun _ _ _ _ _ => pts_nil) (fun _ _ _ _ _ => (pe_cmpR op_eq (pe_op op_mod (pe_op op_add (pv 7) (pv 8)) (pv 10)) (pv 4) (nomark _)))) pa_nil)))) pss_nil)
      (pss_cons (ps_set (i := 11) sc_l_rests_right.nd rfl (.inl rfl) (pe_make T.mk_Number G_Number_init hr_Number_init (by rfl) T.g_Number b_Number_init .nil pass0 (pa_cons (pe_op op_add (pv 7) (pv 8)) (pa_cons (pv 5) pa_nil))))
      (pss_cons (ps_if (PW.pt (pw_or (pt_cmpR op_ne (pe_fldK K (pv 11) rfl) (pe_op op_add (pv 7) (pv 8)) (nomark _)) (pw_or1 (pt_cmpR op_ne (pe_fldK K (pv 11) rfl) (pv 5) (nomark _))))) (pss_one (ps_ret pe_bl)) pss_nil)
      (pss_one (ps_if (pt_not (pt_val (pe_call G_l_says hr_l_says (by rfl) T.g_l_says k_l_says b_l_says .nil pass0 (pa_cons (pe_alt (pe_meth (pv 11) T.cl_Number T.m_Number_shows G_Number_shows hr_Number_shows b_Number_shows .nil pass0 (pa_cons (pv 0) pa_nil)) (pe_meth (pv 11) T.cl_Clash T.m_Clash_shows G_Clash_shows hr_Clash_shows b_Clash_shows .nil pass0 (pa_cons (pv 0) pa_nil))) (pa_cons (pv 9) pa_nil))))) (pss_one (ps_ret pe_bl)) pss_nil)))))))))
      (pss_cons (ps_set (i := 12) sc_l_rests_right.nd rfl (.inl rfl) (pe_callB (len_seqK K) (by rfl) T.z_len (by decide +kernel) (pa_cons (pv 0) pa_nil)))
      (pss_cons (ps_for PassesOwn.never rfl (pi_range1 (by rfl) T.z_range (pa_cons pe_int pa_nil)) (pg_name (i := 13) sc_l_rests_right.nd rfl (Or.inl rfl)) (pss_cons (ps_par (i := 14) (j := 10) rfl sc_l_rests_right.nd rfl rfl (by decide) rfl rfl (pa_cons (pe_op op_sub (pe_call G_l_draw hr_l_draw (by rfl) T.g_l_draw k_l_draw b_l_draw .nil pass0 (pa_cons (pe_op op_add (pv 1) (pv 13)) (pa_cons pe_int (pa_cons (pe_op op_add (pv 12) pe_int) pa_nil)))) pe_int) (pa_cons (pe_op op_sub (pe_call G_l_draw hr_l_draw (by rfl) T.g_l_draw k_l_draw b_l_draw .nil pass0 (pa_cons (pe_op op_add (pv 1) (pv 13)) (pa_cons pe_int (pa_cons (pe_op op_add (pv 12) pe_int) pa_nil)))) pe_int) pa_nil)) (by rfl))
      (pss_cons (ps_set (i := 9) sc_l_rests_right.nd rfl (.inl rfl) (pe_chain3 op_le op_lt op_lt pe_int (pv 14) (pv 10) (pv 12)))
      (pss_cons (ps_if (pt_val (pv 9)) (pss_cons (ps_set (i := 15) sc_l_rests_right.nd rfl (.inl rfl) (pe_op op_sub (pe_ix (ix_tupK K) (pe_ix (ix_listK K) (pv 0) (pv 14) (fun _ _ => rfl)) pe_int (fun _ _ => rfl)) (pe_ix (ix_tupK K) (pe_ix (ix_listK K) (pv 0) (pv 10) (fun _ _ => rfl)) pe_int (fun _ _ => rfl))))
      (pss_one (ps_set (i := 9) sc_l_rests_right.nd rfl (.inl rfl) (pe_cmpR op_ne (pe_op op_mod (pv 15) (pe_call G_l_part hr_l_part (by rfl) T.g_l_part k_l_part b_l_part .nil pass0 (pa_cons (pe_ix (ix_tupK K) (pe_ix (ix_listK K) (pv 0) (pv 14) (fun _ _ => rfl)) pe_int (fun _ _ => rfl)) (pa_cons (pe_ix (ix_tupK K) (pe_ix (ix_listK K) (pv 0) (pv 10) (fun _ _ => rfl)) pe_int (fun _ _ => rfl)) pa_nil)))) pe_int (nomark _))))) pss_nil)
      (pss_cons (ps_set (i := 11) sc_l_rests_right.nd rfl (.inl rfl) (pe_make T.mk_Clash G_Clash_init hr_Clash_init (by rfl) T.g_Clash b_Clash_init .nil pass0 (pa_cons (pv 14) (pa_cons (pv 10) pa_nil))))
      (pss_cons (ps_if (PW.pt (pw_or (pt_cmpR op_ne (pe_fldK K (pv 11) rfl) (pv 14) (nomark _)) (pw_or1 (pt_cmpR op_ne (pe_fldK K (pv 11) rfl) (pv 10) (nomark _))))) (pss_one (ps_ret pe_bl)) pss_nil)
      (pss_one (ps_if (pt_not (pt_val (pe_call G_l_says hr_l_says (by rfl) T.g_l_says k_l_says b_l_says .nil pass0 (pa_cons (pe_alt (pe_meth (pv 11) T.cl_Number T.m_Number_shows G_Number_shows hr_Number_shows b_Number_shows .nil pass0 (pa_cons (pv 0) pa_nil)) (pe_meth (pv 11) T.cl_Clash T.m_Clash_shows G_Clash_shows hr_Clash_shows b_Clash_shows .nil pass0 (pa_cons (pv 0) pa_nil))) (pa_cons (pv 9) pa_nil))))) (pss_one (ps_ret pe_bl)) pss_nil))))))))
      (pss_one (ps_ret pe_bl)))))))), ?_⟩
    refine q_parR (R := fun vs H1 => ∃ v, vs = [v, .int 1] ∧ ((∃ n t, NumAt A H1 v n t) ∨ ∃ i j, ClashAt A H1 v i j)) (ear_cons (er_call (R := fun v H1 => (∃ n t, NumAt A H1 v n t) ∨ ∃ i j, ClashAt A H1 v i j) (V.ref a, rs) (ea_cons (ev_var rfl) ea_nil) (fun H1 e => ⟨rfl, hR.up e⟩) fun H1 v H2 _ _ h => ?_) fun z H1 e1 hz => ?_) (fun vs H1 ⟨v, hv, _⟩ => ⟨_, _, hv⟩) fun v wv H1 e1 ⟨v', hvw, h1⟩ => ?_
    · rcases h with ⟨n, t, h, _⟩ | ⟨i, j, h, _⟩
      · exact .inl ⟨n, t, h⟩
      · exact .inr ⟨_, _, h⟩
    · refine (ear (ea_cons ev_c ea_nil)).imp fun vs H2 e2 hv => ⟨z, by rw [hv], ?_⟩
      rcases hz with ⟨n, t, h⟩ | ⟨i, j, h⟩
      · exact .inl ⟨n, t, h.up e2⟩
      · exact .inr ⟨i, j, h.up e2⟩
    cases hvw
    refine q_forRs (ev_var rfl) (e1 _ _ ha) (hrs.up e1) (fun i σ' H' => ∃ s4 s5 : Option V, σ' = [some (.ref a), some (.int c), some v, some (.int (lcmOf (rs.take i))), s4, s5, none, none, none, none, none, none, none, none, none, none] ∧ Ex H1 H') (fun H2 e2 => ⟨_, _, rfl, e2⟩) (fun i σ' H' ⟨_, _, _, e⟩ => e) (fun i σ' H' hi ⟨s4, s5, hσ, e⟩ => ?_) fun σ' H' ⟨s4, s5, hσ, e⟩ => ?_
    · subst hσ
      have hp := rst_at ho hi
      have ht : 0 < (rs.getD i (0, 1)).2 := by have := hp.1; have := hp.2.1; omega
      have hg := pt_pos_r (lcmOf (rs.take i)) ht
      have hgl := pt_le_r (lcmOf (rs.take i)) ht
      have ht2 := hp.2.2
      exact s_asg (v := .int (lcmOf (rs.take (i + 1)))) (ev_is (ev_op (ev_op (ev_var rfl) (ev_var rfl) (rv_I (.inr (by omega)))) (ev_lpart (ev_var rfl) (ev_var rfl)) (rv_I ⟨hg, by omega⟩)) (by rw [lcm_divs ho hi])) fun H2 e2 => ⟨some (.int (rs.getD i (0, 1)).1), some (.int (rs.getD i (0, 1)).2), rfl, e.trans e2⟩
    · subst hσ
      rw [List.take_length]
      have eH := e1.trans e
      have haH := eH _ _ ha
      refine q_asgR (R := IntX) ?_ fun v2 H2 e2 ⟨m, hv2⟩ => ?_
      · rcases h1 with ⟨n, t, o, dx, rfl, hob⟩ | ⟨i, j, o, dx, rfl, hob⟩
        · exact er_if (et_B (ev_isi (ev_var rfl) ev_c (.own _) (tyx_ins (e _ _ hob) T.i_Number T.isg) T.q_Number_Number)) (fun _ => er_int (ev_fld (ev_var rfl) (e _ _ hob) T.cl_Number T.n_Number_number lk21)) fun hb => nomatch hb
        · exact er_if (et_B (ev_isi (ev_var rfl) ev_c (.own _) (tyx_ins (e _ _ hob) T.i_Clash T.isg) T.q_Clash_Number)) (fun hb => nomatch hb) fun _ => (er_draw (ev_var rfl) ev_c ev_c (by decide) (by decide)).imp fun v H3 _ ⟨z, hz, _⟩ => ⟨z, hz⟩
      subst hv2
      refine q_forAllP (n := 4) (ear_all1 upPair (er_pair (ev_var rfl) (ev_var rfl)) (ear_all1 upPair (er_pair (ev_op (ev_var rfl) (ev_var rfl) rv_I0) (ev_var rfl)) (ear_all1 upPair (er_pair (ev_op (ev_var rfl) (ev_var rfl) rv_I0) (ev_var rfl)) (ear_all1 upPair (er_pair (ev_var rfl) (ev_op ev_c (ev_var rfl) (rv_I (.inl (by decide))))) ear_all0)))) (by decide) fun H3 e3 => ⟨fun σ' H' => ∃ s4 s5 s7 s8 s9 s10 s11 : Option V, σ' = [some (.ref a), some (.int c), some v, some (.int (lcmOf rs)), s4, s5, some (.int m), s7, s8, s9, s10, s11, none, none, none, none] ∧ Ex H3 H', ⟨_, _, _, _, _, _, _, rfl, Ex.refl _⟩, fun σ' H' ⟨_, _, _, _, _, _, _, _, e⟩ => e, fun p σ' H' hP => ?_, fun σ' H' hP => ?_⟩
      · obtain ⟨s4, s5, s7, s8, s9, s10, s11, rfl, e4⟩ := hP
        obtain ⟨so, t⟩ := p
        refine s_forAll (n := 2) upInt (ear_all1 upInt (er_int ev_c) (ear_all1 upInt (er_int ev_c) ear_all0)) (by decide) fun H5 e5 => ⟨fun σ' H' => ∃ s4 s8 s9 s10 s11 : Option V, σ' = [some (.ref a), some (.int c), some v, some (.int (lcmOf rs)), s4, some (.int t), some (.int m), some (.int so), s8, s9, s10, s11, none, none, none, none] ∧ Ex H5 H', ⟨_, _, _, _, _, rfl, Ex.refl _⟩, fun σ' H' ⟨_, _, _, _, _, _, e⟩ => e, fun x σ' H' hP hx => ?_, fun σ' H' hP => ?_⟩
        · obtain ⟨s4, s8, s9, s10, s11, rfl, e6⟩ := hP
          obtain ⟨z, rfl⟩ := hx
          have haH' := (e2.trans (e3.trans (e4.trans (e5.trans e6)))) _ _ haH
          have hrs' := hrs.up (eH.trans (e2.trans (e3.trans (e4.trans (e5.trans e6)))))
          refine q_asg (v := .bl (decide (t = lcmOf rs) && (decide (0 ≤ so + z) && decide (so + z < lcmOf rs)))) (ev_andV (ev_op (ev_var rfl) (ev_var rfl) rv_eqI) fun _ => ev_chain ev_c (ev_op (ev_var rfl) (ev_var rfl) rv_I0) rv_I0 (fun _ => ev_var rfl) fun _ => rv_I0) fun H7 e7 => ?_
          have ha7 := e7 _ _ haH'
          have hrs7 := hrs'.up e7
          refine q_due (r := rs.all fun p => decide ((so + z) % p.2 = p.1)) rfl (fun hb H8 e8 => ev_is (ev_allN (bs := rs.map fun p => decide ((so + z) % p.2 = p.1)) (H0 := H8) ?_) (by rw [List.all_map]; rfl)) fun H8 e8 => ?_
          · rw [← map_bl]
            exact er_lcRsV (fun p => .bl (decide ((so + z) % p.2 = p.1))) (ev_var rfl) (e8 _ _ ha7) (hrs7.up e8) (by omega) (fun _ _ => rfl) fun p hp => ev_op (ev_op (ev_op (ev_var rfl) (ev_var rfl) rv_I0) (ev_var rfl) (rv_I (by have h := ho p hp; have := h.1; have := h.2.1; omega))) (ev_var rfl) rv_eqI
          · rw [num_due]
            refine q_asgR (er_make2 (ev_op (ev_var rfl) (ev_var rfl) rv_I0) (ev_var rfl)) fun v9 H9 e9 ⟨o, dx, hv9, _, hob⟩ => ?_
            subst hv9
            refine q_when (b := false) ?_ (fun z => nomatch z) fun _ H10 e10 => ?_
            · exact et_is (et_or (et_test (ev_op (ev_fld (ev_var rfl) hob T.cl_Number T.n_Number_number lk21) (ev_op (ev_var rfl) (ev_var rfl) rv_I0) rv_neI)) fun _ => et_test (ev_op (ev_fld (ev_var rfl) hob T.cl_Number T.n_Number_turn (lk22 trn)) (ev_var rfl) rv_neI)) (by simp)
            refine s_when (b := false) ?_ (fun z => nomatch z) fun _ H11 e11 => ⟨_, _, _, _, _, rfl, e6.trans (e7.trans (e8.trans (e9.trans (e10.trans e11))))⟩
            have eL := e8.trans (e9.trans e10)
            exact et_is (et_not (et_B (ev_says (b := numF (so + z) t rs) (ev_altL (ev_meth ⟨.ref o, so + z, t, .ref a, rs⟩ (ev_var rfl) (e10 _ _ hob) lk00 (ea_cons (ev_var rfl) ea_nil) (fun H7 e7 => ⟨rfl, ⟨o, dx, rfl, (e10.trans e7) _ _ hob⟩, ⟨a, xs, rfl, (eL.trans e7) _ _ ha7, hrs7.up (eL.trans e7)⟩, hl, ho⟩) fun _ _ _ p => p)) (ev_var rfl)))) rfl
        · obtain ⟨s4, s8, s9, s10, s11, rfl, e6⟩ := hP
          exact ⟨_, _, _, _, _, _, _, rfl, e4.trans (e5.trans e6)⟩
      · obtain ⟨s4, s5, s7, s8, s9, s10, s11, rfl, e4⟩ := hP
        have e24 := e2.trans (e3.trans e4)
        refine q_asg (v := .int (rs.length : Int)) (ev_is (ev_lenL (ev_var rfl) (sq_of (e24 _ _ haH))) (by rw [hrs.len])) fun H5 e5 => ?_
        refine q_forR1 (n := 4) (ea_cons ev_c ea_nil) (by decide) (fun i σ' H' => ∃ s9 s10 s11 s13 s14 s15 : Option V, σ' = [some (.ref a), some (.int c), some v, some (.int (lcmOf rs)), s4, s5, some (.int m), s7, s8, s9, s10, s11, some (.int (rs.length : Int)), s13, s14, s15] ∧ Ex H5 H') (fun H6 e6 => ⟨_, _, _, _, _, _, rfl, e6⟩) (fun i σ' H' hi hP => ?_) (fun σ' H' hP => ?_)
        · obtain ⟨s9, s10, s11, s13, s14, s15, rfl, e6⟩ := hP
          have eHp := e24.trans (e5.trans e6)
          have ha6 := eHp _ _ haH
          have hrs6 := hrs.up (eH.trans eHp)
          have drw : ∀ σ H' (kk : Int) te, Ev te σ H' (.int (c + i)) → σ[12]? = some (some (.int (rs.length : Int))) → 0 ≤ kk → EvR (tOp (rI0 fun i j => .int (i - j)) (tCall (sp_l_draw K) [] E0 (tCons te (tCons (tC (.int kk)) (tCons (tOp (rI0 fun i j => .int (i + j)) (tVar 12) (tC (.int 2))) tNil)))) (tC (.int 1))) σ H' IntX := fun σ H' kk te h h2 hk =>
            er_op (er_draw h ev_c (ev_op (ev_var h2) ev_c rv_I0) hk (by omega)) (fun x H2 e2 _ => evr ev_c) fun x y H2 H3 _ ⟨r, hx, _⟩ _ hy Q q => by
              subst hx hy
              exact ⟨r, 1, rfl, rfl, q _ _ (Ex.refl _) ⟨_, rfl⟩⟩
          refine q_parR (R := fun vs _ => ∃ x y : Int, vs = [.int x, .int y]) (ear_cons (drw _ _ 2 _ (ev_op (ev_var rfl) (ev_var rfl) rv_I0) rfl (by decide)) fun z H7 e7 ⟨x, hx⟩ => (ear_one (drw _ _ 3 _ (ev_op (ev_var rfl) (ev_var rfl) rv_I0) rfl (by decide))).imp fun vs H8 _ ⟨y, hvs, y2, hy⟩ => ⟨x, y2, by rw [hvs, hx, hy]⟩) (fun vs H1 ⟨x, y, hv⟩ => ⟨_, _, hv⟩) fun v wv H7 e7 ⟨x, y, hvw⟩ => ?_
          cases hvw
          have ha7 := e7 _ _ ha6
          have hrs7 := hrs6.up e7
          refine q_asg (v := .bl (decide (0 ≤ x) && (decide (x < y) && decide (y < rs.length)))) (ev_chain3 ev_c (ev_var rfl) rv_I0 (fun _ => ev_var rfl) (fun _ => rv_I0) (fun _ _ => ev_var rfl) fun _ _ => rv_I0) fun H8 e8 => ?_
          have ha8 := e8 _ _ ha7
          have hrs8 := hrs7.up e8
          refine q_join (fun σ' H' => ∃ s15 : Option V, σ' = [some (.ref a), some (.int c), some v, some (.int (lcmOf rs)), s4, s5, some (.int m), s7, s8, some (.bl (clashF x y rs)), some (.int y), s11, some (.int (rs.length : Int)), some (.int (i : Int)), some (.int x), s15] ∧ Ex H8 H') (et_phi (b := decide (0 ≤ x) && (decide (x < y) && decide (y < rs.length))) (et_B (ev_var rfl))) (fun hb H9 e9 D hD => ?_) (fun hb H9 e9 => ⟨s15, ?_, e9⟩) fun σ' H9 hP => ?_
          · have hb' := hb.symm
            have hcl : clashF x y rs = !decide (((rs.getD x.toNat (0, 1)).1 - (rs.getD y.toNat (0, 1)).1) % pt (rs.getD x.toNat (0, 1)).2 (rs.getD y.toNat (0, 1)).2 = 0) := by
              unfold clashF
              rw [hb']
              rfl
            simp only [Bool.and_eq_true, decide_eq_true_eq] at hb'
            obtain ⟨hi0, hij, hjl⟩ := hb'
            have ei : x = (x.toNat : Int) := by omega
            have ej : y = (y.toNat : Int) := by omega
            have ha9 := e9 _ _ ha8
            have hrs9 := hrs8.up e9
            obtain ⟨t1, x1, ht1⟩ := hrs9.at (i := x.toNat) (by omega)
            obtain ⟨t2, x2, ht2⟩ := hrs9.at (i := y.toNat) (by omega)
            have hj2 := rst_at ho (i := y.toNat) (by omega)
            have hg := pt_pos_r (rs.getD x.toNat (0, 1)).2 (b := (rs.getD y.toNat (0, 1)).2) (by have := hj2.1; have := hj2.2.1; omega)
            have ix : ∀ σ H', σ[0]? = some (some (.ref a)) → σ[14]? = some (some (.int x)) → Ex H9 H' → Ev (tOp (rIxL K) (tVar 0) (tVar 14)) σ H' (.ref t1) := fun σ H' h1 h2 e => ev_op (ev_var h1) (ev_var h2) (rv_ixL (sq_of (e _ _ ha9)) (by rw [ei]; exact atI_nat x1))
            have iy : ∀ σ H', σ[0]? = some (some (.ref a)) → σ[10]? = some (some (.int y)) → Ex H9 H' → Ev (tOp (rIxL K) (tVar 0) (tVar 10)) σ H' (.ref t2) := fun σ H' h1 h2 e => ev_op (ev_var h1) (ev_var h2) (rv_ixL (sq_of (e _ _ ha9)) (by rw [ej]; exact atI_nat x2))
            refine q_asg (ev_op (ev_p0 (ix _ _ rfl rfl (Ex.refl _)) ht1) (ev_p0 (iy _ _ rfl rfl (Ex.refl _)) ht2) rv_I0) fun H10 e10 => ?_
            exact s_asg (v := .bl (clashF x y rs)) (ev_is (ev_op (ev_op (ev_var rfl) (ev_lpart (ev_p1 (ix _ _ rfl rfl e10) (e10 _ _ ht1)) (ev_p1 (iy _ _ rfl rfl e10) (e10 _ _ ht2))) (rv_I hg)) ev_c rv_neI) (by rw [hcl])) fun H11 e11 => hD _ _ ⟨_, rfl, e9.trans (e10.trans e11)⟩
          · have hcl : clashF x y rs = false := by
              unfold clashF
              rw [← hb]
              rfl
            rw [hcl, ← hb]
            rfl
          · obtain ⟨s15, rfl, e9⟩ := hP
            refine q_asgR (er_make2 (ev_var rfl) (ev_var rfl)) fun v10 H10 e10 ⟨o, dx, hv10, _, hob⟩ => ?_
            subst hv10
            refine q_when (b := false) ?_ (fun z => nomatch z) fun _ H11 e11 => ?_
            · exact et_is (et_or (et_test (ev_op (ev_fld (ev_var rfl) hob T.cl_Clash T.n_Clash_one lk21) (ev_var rfl) rv_neI)) fun _ => et_test (ev_op (ev_fld (ev_var rfl) hob T.cl_Clash T.n_Clash_other (lk22 otr)) (ev_var rfl) rv_neI)) (by simp)
            refine s_when (b := false) ?_ (fun z => nomatch z) fun _ H12 e12 => ⟨_, _, _, _, _, _, rfl, e6.trans (e7.trans (e8.trans (e9.trans (e10.trans (e11.trans e12)))))⟩
            have eL := e9.trans (e10.trans e11)
            exact et_is (et_not (et_B (ev_says (b := clashF x y rs) (ev_altR (ev_meth ⟨.ref o, x, y, .ref a, rs⟩ (ev_var rfl) (e11 _ _ hob) lk00 (ea_cons (ev_var rfl) ea_nil) (fun H7 e7 => ⟨rfl, ⟨o, dx, rfl, (e11.trans e7) _ _ hob⟩, ⟨a, xs, rfl, (eL.trans e7) _ _ ha8, hrs8.up (eL.trans e7)⟩, hl, ho⟩) fun _ _ _ p => p)) (ev_var rfl)))) rfl
        · obtain ⟨s9, s10, s11, s13, s14, s15, rfl, e6⟩ := hP
          exact s_ret ev_c fun H7 e7 => k _ _ (eH.trans (e24.trans (e5.trans (e6.trans e7)))) rfl
theorem ok_law (T : Txt K mg A) {fd : FuncData} (F : Fun K "law" "law" s_law A.a_law fd) : FnOk P w K mg base CX0 7 A.a_law fd ["_law_script"] (sp_law K) := by
  obtain ⟨_, G_l_backs_right, b_l_backs_right, k_l_backs_right⟩ := ok_l_backs_right (P := P) (w := w) (base := base) T
  obtain ⟨_, G_l_cell_at, b_l_cell_at, k_l_cell_at⟩ := ok_l_cell_at (P := P) (w := w) (base := base) T
  obtain ⟨_, G_l_comes_right, b_l_comes_right, k_l_comes_right⟩ := ok_l_comes_right (P := P) (w := w) (base := base) T
  obtain ⟨_, G_l_draw, b_l_draw, k_l_draw⟩ := ok_l_draw (P := P) (w := w) (base := base) T
  obtain ⟨_, G_l_parts_right, b_l_parts_right, k_l_parts_right⟩ := ok_l_parts_right (P := P) (w := w) (base := base) T
  obtain ⟨_, G_l_rests, b_l_rests, k_l_rests⟩ := ok_l_rests (P := P) (w := w) (base := base) T
  obtain ⟨_, G_l_rests_right, b_l_rests_right, k_l_rests_right⟩ := ok_l_rests_right (P := P) (w := w) (base := base) T
  obtain ⟨_, G_l_row, b_l_row, k_l_row⟩ := ok_l_row (P := P) (w := w) (base := base) T
  refine F.ok sc_law (fun vs H Q E h => ?_) (fun cdv Ar outer s H vs Q E hr h => ?_)
  · obtain ⟨_, _, rfl, _⟩ := h
    rfl
  · obtain ⟨_, ns, rfl, ⟨a, rfl, hS, hl⟩, k⟩ := h
    have hr_l_backs_right : Room 5 _ := hr.mono (by decide)
    have hr_l_cell_at : Room 1 _ := hr.mono (by decide)
    have hr_l_comes_right : Room 5 _ := hr.mono (by decide)
    have hr_l_draw : Room 1 _ := hr.mono (by decide)
    have hr_l_parts_right : Room 5 _ := hr.mono (by decide)
    have hr_l_rests : Room 3 _ := hr.mono (by decide)
    have hr_l_rests_right : Room 6 _ := hr.mono (by decide)
    have hr_l_row : Room 2 _ := hr.mono (by decide)
    refine ⟨_, (pss_cons (ps_par (i := 1) (j := 2) rfl sc_law.nd rfl rfl (by decide) rfl rfl (pa_cons (pe_call G_l_rests hr_l_rests (by rfl) T.g_l_rests k_l_rests b_l_rests .nil pass0 (pa_cons (pv 0) pa_nil)) (pa_cons (pe_call G_l_row hr_l_row (by rfl) T.g_l_row k_l_row b_l_row .nil pass0 (pa_cons (pv 0) pa_nil)) pa_nil)) (by rfl))
      (pss_cons (ps_for PassesOwn.never rfl (pi_range1 (by rfl) T.z_range (pa_cons pe_int pa_nil)) (pg_name (i := 3) sc_law.nd rfl (Or.inl rfl)) (pss_cons (ps_set (i := 4) sc_law.nd rfl (.inl rfl) (pe_op op_add (pe_op op_add (pe_call G_l_cell_at hr_l_cell_at (by rfl) T.g_l_cell_at k_l_cell_at b_l_cell_at .nil pass0 (pa_cons (pv 0) (pa_cons (pv 3) pa_nil))) (pe_op op_mul pe_int (pv 3))) (pe_op op_mul pe_int (pe_call G_l_cell_at hr_l_cell_at (by rfl) T.g_l_cell_at k_l_cell_at b_l_cell_at .nil pass0 (pa_cons (pv 0) (pa_cons (pe_op op_add (pv 3) pe_int) pa_nil))))))
      (pss_cons (ps_if (PW.pt (pw_or (pt_not (pt_val (pe_call G_l_rests_right hr_l_rests_right (by rfl) T.g_l_rests_right k_l_rests_right b_l_rests_right .nil pass0 (pa_cons (pv 1) (pa_cons (pv 4) pa_nil))))) (pw_or1 (pt_not (pt_val (pe_call G_l_parts_right hr_l_parts_right (by rfl) T.g_l_parts_right k_l_parts_right b_l_parts_right .nil pass0 (pa_cons (pv 2) (pa_cons (pv 4) pa_nil)))))))) (pss_one (ps_ret pe_bl)) pss_nil)
      (pss_cons (ps_if (pt_not (pt_val (pe_call G_l_comes_right hr_l_comes_right (by rfl) T.g_l_comes_right k_l_comes_right b_l_comes_right .nil pass0 (pa_cons (pv 2) (pa_cons (pv 4) pa_nil))))) (pss_one (ps_ret pe_bl)) pss_nil)
      (pss_cons (ps_set (i := 5) sc_law.nd rfl (.inl rfl) (pe_op op_add pe_int (pe_call G_l_draw hr_l_draw (by rfl) T.g_l_draw k_l_draw b_l_draw .nil pass0 (pa_cons (pv 4) (pa_cons pe_int (pa_cons pe_int pa_nil))))))
      (pss_one (ps_if (pt_not (pt_val (pe_call G_l_backs_right hr_l_backs_right (by rfl) T.g_l_backs_right k_l_backs_right b_l_backs_right .nil pass0 (pa_cons (pe_op op_sub (pe_call G_l_draw hr_l_draw (by rfl) T.g_l_draw k_l_draw b_l_draw .nil pass0 (pa_cons (pv 4) (pa_cons pe_int (pa_cons pe_int pa_nil)))) pe_int) (pa_cons (pv 5) (pa_cons (pv 4) pa_nil)))))) (pss_one (ps_ret pe_bl)) pss_nil)))))))
      (pss_one (ps_ret pe_bl)))), ?_⟩
    have hsc : Scr K H (.ref a) ns := ⟨a, rfl, hS, hl⟩
    refine q_parR (R := fun vs H1 => ∃ x y rs ms, vs = [x, y] ∧ Rsts H1 x rs ∧ LstAt (iv ms) y H1 ∧ ms.length ≤ 63 ∧ ∀ n ∈ ms, -1000000 ≤ n ∧ n ≤ 1000000) (ear_cons (er_call (R := fun v H1 => ∃ rs, Rsts H1 v rs) (V.ref a, ns) (ea_cons (ev_var rfl) ea_nil) (fun H1 e => ⟨rfl, hsc.up e⟩) fun H1 v H2 _ _ ⟨l, xs, rs, hv, _, hx, hrs, hlen, ho⟩ => ⟨rs, ⟨l, xs, hv, hx, hrs⟩, by rw [hlen]; show ns.length ≤ 10000; omega, ho⟩) fun x H1 e1 ⟨rs, hR⟩ => (ear_one (er_call (R := fun v H2 => ∃ ms : List Int, LstAt (iv ms) v H2 ∧ ms.length ≤ 63 ∧ ∀ n ∈ ms, -1000000 ≤ n ∧ n ≤ 1000000) (V.ref a, ns) (ea_cons (ev_var rfl) ea_nil) (fun H2 e2 => ⟨rfl, hsc.up (e1.trans e2)⟩) fun H2 v H3 _ _ ⟨ms, ⟨p, hv, _, hp⟩, h2, h3⟩ => ⟨ms, ⟨p, hv, hp⟩, h2, h3⟩)).imp fun vs H2 e2 ⟨y, hvs, ms, h1, h2, h3⟩ => ⟨x, y, rs, ms, by rw [hvs], hR.up e2, h1, h2, h3⟩) (fun vs H1 ⟨x, y, _, _, hv, _⟩ => ⟨x, y, hv⟩) fun v wv H1 e1 ⟨x, y, rs, ms, hvw, hR, hM, hml, hmb⟩ => ?_
    cases hvw
    refine q_forR1 (n := 3) (ea_cons ev_c ea_nil) (by decide) (fun i σ' H' => ∃ s3 s4 s5 : Option V, σ' = [some (.ref a), some v, some wv, s3, s4, s5] ∧ Ex H1 H') (fun H6 e6 => ⟨_, _, _, rfl, e6⟩) (fun i σ' H' hi hP => ?_) (fun σ' H' hP => ?_)
    · obtain ⟨s3, s4, s5, rfl, e2⟩ := hP
      have hscH := hsc.up (e1.trans e2)
      refine q_asg (ev_op (ev_op (ev_cell (j := i) (ev_var rfl) (ev_var rfl) hscH) (ev_op ev_c (ev_var rfl) (rv_I (.inl (by decide)))) rv_I0) (ev_op ev_c (ev_cell (j := i + 1) (ev_var rfl) (ev_op (ev_var rfl) ev_c rv_I0) hscH) (rv_I (.inl (by decide)))) rv_I0) fun H3 e3 => ?_
      generalize ns.getD i 0 + 977 * (i : Int) + 7 * ns.getD (i + 1) 0 = c
      have e23 := e2.trans e3
      refine q_when (b := false) ?_ (fun z => nomatch z) fun _ H4 e4 => ?_
      · exact et_is (et_or (et_not (et_B (ev_call0 (z := .bl true) (v, rs, c) (ea_cons (ev_var rfl) (ea_cons (ev_var rfl) ea_nil)) (fun H5 e5 => ⟨rfl, hR.up (e23.trans e5)⟩) fun _ _ _ p => p))) fun _ => et_not (et_B (ev_call0 (z := .bl true) (wv, ms, c) (ea_cons (ev_var rfl) (ea_cons (ev_var rfl) ea_nil)) (fun H5 e5 => ⟨rfl, hM.up (e23.trans e5), hml, hmb⟩) fun _ _ _ p => p))) rfl
      refine q_when (b := false) ?_ (fun z => nomatch z) fun _ H5 e5 => ?_
      · exact et_is (et_not (et_B (ev_call0 (z := .bl true) (wv, ms, c) (ea_cons (ev_var rfl) (ea_cons (ev_var rfl) ea_nil)) (fun H5 e5 => ⟨rfl, hM.up (e23.trans (e4.trans e5)), hml, hmb⟩) fun _ _ _ p => p))) rfl
      refine q_asgR (R := fun v _ => ∃ t : Int, v = .int t ∧ 1 ≤ t ∧ t ≤ 1000000) (er_op (evr ev_c) (fun x H6 e6 _ => er_draw (ev_var rfl) ev_c ev_c (by decide) (by decide)) fun x y H6 H7 _ hx _ ⟨r, hy, r0, r1⟩ Q q => by
        subst hx hy
        exact ⟨1, r, rfl, rfl, q _ _ (Ex.refl _) ⟨_, rfl, by omega, by omega⟩⟩) fun v6 H6 e6 ⟨t, hv6, t0, t1⟩ => ?_
      subst hv6
      refine s_when (b := false) ?_ (fun z => nomatch z) fun _ H7 e7 => ⟨_, _, _, rfl, e23.trans (e4.trans (e5.trans (e6.trans e7)))⟩
      refine et_is (et_not (et_B ((er_callS (R := fun v _ => v = .bl true) (T := fun vs _ => ∃ n : Int, vs = [.int n, .int t, .int c] ∧ -1000000 ≤ n ∧ n ≤ 1000000) (ear_cons (er_op (R := fun v _ => ∃ n : Int, v = .int n ∧ -1000000 ≤ n ∧ n ≤ 1000000) (er_draw (ev_var rfl) ev_c ev_c (by decide) (by decide)) (fun x H7 e7 _ => evr ev_c) fun x y H7 H8 _ ⟨r, hx, r0, r1⟩ _ hy Q q => by
        subst hx hy
        exact ⟨r, 100, rfl, rfl, q _ _ (Ex.refl _) ⟨_, rfl, by omega, by omega⟩⟩) fun x H7 e7 ⟨n, hx, n0, n1⟩ => (ear (ea_cons (ev_var rfl) (ea_cons (ev_var rfl) ea_nil))).imp fun vs H8 _ hv => ⟨n, by rw [hx, hv], n0, n1⟩) fun vs H7 e7 ⟨n, hvs, n0, n1⟩ Q q => ?_).ev fun _ _ _ p => p))) rfl
      subst hvs
      exact ⟨(n, t, c), ⟨rfl, n0, n1, t0, t1⟩, fun v H8 e8 p => q v H8 e8 p⟩
    · obtain ⟨s3, s4, s5, rfl, e2⟩ := hP
      exact s_ret ev_c fun H7 e7 => k _
end
theorem all_mk {l : PySem.W.OpenLaw} {w : World} {K : PySem.W.Frag} {h : Heap} {mg : Str → Option Value} {fa : Addr} {x_is_whole x_is_number x_is_turn x_check_numbers x_check_turn x_is_rest x_check_rests x_part_of x_shares_of x_round_of x_Number_init x_Number_shows x_Clash_init x_Clash_shows x_sum_of x_Common_init x_Common_shows x_Times_init x_Times_shows x_Bar_init x_Bar_shows x_Bar_bars x_Back_init x_Back_shows x_common_of x_common x_come x_back x_clash_of x_told x_l_cell_at x_l_draw x_l_turns x_l_rests x_l_part x_l_says x_l_row x_l_rests_right x_l_bent x_l_parts_right x_l_comes_right x_l_backs_right x_law y_RestError y_BadRests y_BadNumbers y_BadRound y_BadRest y_Answer y_Number y_Clash y_Common y_Times y_Bar y_Back : Addr} (X : K.In h) (G : h.Ns mainGlobals mg) (hfa : mg "law" = some (.ref fa))
    {od0 an0 : Option Addr} {sl0 : Array (Option Value)} {oc0 kV0 dc0 pm0 cd0 ct0 : Value}
    {od1 an1 : Option Addr} {sl1 : Array (Option Value)} {oc1 kV1 dc1 pm1 cd1 ct1 : Value}
    {od2 an2 : Option Addr} {sl2 : Array (Option Value)} {oc2 kV2 dc2 pm2 cd2 ct2 : Value}
    {od3 an3 : Option Addr} {sl3 : Array (Option Value)} {oc3 kV3 dc3 pm3 cd3 ct3 : Value}
    {od4 an4 : Option Addr} {sl4 : Array (Option Value)} {oc4 kV4 dc4 pm4 cd4 ct4 : Value}
    {od5 an5 : Option Addr} {sl5 : Array (Option Value)} {oc5 kV5 dc5 pm5 cd5 ct5 : Value}
    {od6 an6 : Option Addr} {sl6 : Array (Option Value)} {oc6 kV6 dc6 pm6 cd6 ct6 : Value}
    {od7 an7 : Option Addr} {sl7 : Array (Option Value)} {oc7 kV7 dc7 pm7 cd7 ct7 : Value}
    {od8 an8 : Option Addr} {sl8 : Array (Option Value)} {oc8 kV8 dc8 pm8 cd8 ct8 : Value}
    {od9 an9 : Option Addr} {sl9 : Array (Option Value)} {oc9 kV9 dc9 pm9 cd9 ct9 : Value}
    {od10 an10 : Option Addr} {sl10 : Array (Option Value)} {oc10 kV10 dc10 pm10 cd10 ct10 : Value}
    {od11 an11 : Option Addr} {sl11 : Array (Option Value)} {oc11 kV11 dc11 pm11 cd11 ct11 : Value}
    {od12 an12 : Option Addr} {sl12 : Array (Option Value)} {oc12 kV12 dc12 pm12 cd12 ct12 : Value}
    {od13 an13 : Option Addr} {sl13 : Array (Option Value)} {oc13 kV13 dc13 pm13 cd13 ct13 : Value}
    {od14 an14 : Option Addr} {sl14 : Array (Option Value)} {oc14 kV14 dc14 pm14 cd14 ct14 : Value}
    {od15 an15 : Option Addr} {sl15 : Array (Option Value)} {oc15 kV15 dc15 pm15 cd15 ct15 : Value}
    {od16 an16 : Option Addr} {sl16 : Array (Option Value)} {oc16 kV16 dc16 pm16 cd16 ct16 : Value}
    {od17 an17 : Option Addr} {sl17 : Array (Option Value)} {oc17 kV17 dc17 pm17 cd17 ct17 : Value}
    {od18 an18 : Option Addr} {sl18 : Array (Option Value)} {oc18 kV18 dc18 pm18 cd18 ct18 : Value}
    {od19 an19 : Option Addr} {sl19 : Array (Option Value)} {oc19 kV19 dc19 pm19 cd19 ct19 : Value}
    {od20 an20 : Option Addr} {sl20 : Array (Option Value)} {oc20 kV20 dc20 pm20 cd20 ct20 : Value}
    {od21 an21 : Option Addr} {sl21 : Array (Option Value)} {oc21 kV21 dc21 pm21 cd21 ct21 : Value}
    {od22 an22 : Option Addr} {sl22 : Array (Option Value)} {oc22 kV22 dc22 pm22 cd22 ct22 : Value}
    {od23 an23 : Option Addr} {sl23 : Array (Option Value)} {oc23 kV23 dc23 pm23 cd23 ct23 : Value}
    {od24 an24 : Option Addr} {sl24 : Array (Option Value)} {oc24 kV24 dc24 pm24 cd24 ct24 : Value}
    {od25 an25 : Option Addr} {sl25 : Array (Option Value)} {oc25 kV25 dc25 pm25 cd25 ct25 : Value}
    {od26 an26 : Option Addr} {sl26 : Array (Option Value)} {oc26 kV26 dc26 pm26 cd26 ct26 : Value}
    {od27 an27 : Option Addr} {sl27 : Array (Option Value)} {oc27 kV27 dc27 pm27 cd27 ct27 : Value}
    {od28 an28 : Option Addr} {sl28 : Array (Option Value)} {oc28 kV28 dc28 pm28 cd28 ct28 : Value}
    {od29 an29 : Option Addr} {sl29 : Array (Option Value)} {oc29 kV29 dc29 pm29 cd29 ct29 : Value}
    {od30 an30 : Option Addr} {sl30 : Array (Option Value)} {oc30 kV30 dc30 pm30 cd30 ct30 : Value}
    {od31 an31 : Option Addr} {sl31 : Array (Option Value)} {oc31 kV31 dc31 pm31 cd31 ct31 : Value}
    {od32 an32 : Option Addr} {sl32 : Array (Option Value)} {oc32 kV32 dc32 pm32 cd32 ct32 : Value}
    {od33 an33 : Option Addr} {sl33 : Array (Option Value)} {oc33 kV33 dc33 pm33 cd33 ct33 : Value}
    {od34 an34 : Option Addr} {sl34 : Array (Option Value)} {oc34 kV34 dc34 pm34 cd34 ct34 : Value}
    {od35 an35 : Option Addr} {sl35 : Array (Option Value)} {oc35 kV35 dc35 pm35 cd35 ct35 : Value}
    {od36 an36 : Option Addr} {sl36 : Array (Option Value)} {oc36 kV36 dc36 pm36 cd36 ct36 : Value}
    {od37 an37 : Option Addr} {sl37 : Array (Option Value)} {oc37 kV37 dc37 pm37 cd37 ct37 : Value}
    {od38 an38 : Option Addr} {sl38 : Array (Option Value)} {oc38 kV38 dc38 pm38 cd38 ct38 : Value}
    {od39 an39 : Option Addr} {sl39 : Array (Option Value)} {oc39 kV39 dc39 pm39 cd39 ct39 : Value}
    {od40 an40 : Option Addr} {sl40 : Array (Option Value)} {oc40 kV40 dc40 pm40 cd40 ct40 : Value}
    {od41 an41 : Option Addr} {sl41 : Array (Option Value)} {oc41 kV41 dc41 pm41 cd41 ct41 : Value}
    {od42 an42 : Option Addr} {sl42 : Array (Option Value)} {oc42 kV42 dc42 pm42 cd42 ct42 : Value}
    {tk_GREATEST : Tok}
    (yRestError : PySem.W.nsIn K mainGlobals "RestError" = some (some (.ref y_RestError)))
    (yBadRests : PySem.W.nsIn K mainGlobals "BadRests" = some (some (.ref y_BadRests)))
    (yBadNumbers : PySem.W.nsIn K mainGlobals "BadNumbers" = some (some (.ref y_BadNumbers)))
    (yBadRound : PySem.W.nsIn K mainGlobals "BadRound" = some (some (.ref y_BadRound)))
    (yBadRest : PySem.W.nsIn K mainGlobals "BadRest" = some (some (.ref y_BadRest)))
    (yAnswer : PySem.W.nsIn K mainGlobals "Answer" = some (some (.ref y_Answer)))
    (yNumber : PySem.W.nsIn K mainGlobals "Number" = some (some (.ref y_Number)))
    (yClash : PySem.W.nsIn K mainGlobals "Clash" = some (some (.ref y_Clash)))
    (yCommon : PySem.W.nsIn K mainGlobals "Common" = some (some (.ref y_Common)))
    (yTimes : PySem.W.nsIn K mainGlobals "Times" = some (some (.ref y_Times)))
    (yBar : PySem.W.nsIn K mainGlobals "Bar" = some (some (.ref y_Bar)))
    (yBack : PySem.W.nsIn K mainGlobals "Back" = some (some (.ref y_Back)))
    (a0 : PySem.W.nsIn K mainGlobals "is_whole" = some (some (.ref x_is_whole)))
    (l0 : K.lookup x_is_whole = some ⟨oc0, od0, .func (PySem.W.fnOf "is_whole" "is_whole" (defArgs s_is_whole) (defBody s_is_whole) (defScope s_is_whole) .none kV0 dc0 pm0 an0 cd0 ct0), sl0⟩)
    (c0 : PySem.W.codeIn K cd0 "is_whole" = true)
    (k0 : PySem.W.keepIn K (.ref x_is_whole) = true)
    (a1 : PySem.W.nsIn K mainGlobals "is_number" = some (some (.ref x_is_number)))
    (l1 : K.lookup x_is_number = some ⟨oc1, od1, .func (PySem.W.fnOf "is_number" "is_number" (defArgs s_is_number) (defBody s_is_number) (defScope s_is_number) .none kV1 dc1 pm1 an1 cd1 ct1), sl1⟩)
    (c1 : PySem.W.codeIn K cd1 "is_number" = true)
    (k1 : PySem.W.keepIn K (.ref x_is_number) = true)
    (a2 : PySem.W.nsIn K mainGlobals "is_turn" = some (some (.ref x_is_turn)))
    (l2 : K.lookup x_is_turn = some ⟨oc2, od2, .func (PySem.W.fnOf "is_turn" "is_turn" (defArgs s_is_turn) (defBody s_is_turn) (defScope s_is_turn) .none kV2 dc2 pm2 an2 cd2 ct2), sl2⟩)
    (c2 : PySem.W.codeIn K cd2 "is_turn" = true)
    (k2 : PySem.W.keepIn K (.ref x_is_turn) = true)
    (a3 : PySem.W.nsIn K mainGlobals "check_numbers" = some (some (.ref x_check_numbers)))
    (l3 : K.lookup x_check_numbers = some ⟨oc3, od3, .func (PySem.W.fnOf "check_numbers" "check_numbers" (defArgs s_check_numbers) (defBody s_check_numbers) (defScope s_check_numbers) .none kV3 dc3 pm3 an3 cd3 ct3), sl3⟩)
    (c3 : PySem.W.codeIn K cd3 "check_numbers" = true)
    (k3 : PySem.W.keepIn K (.ref x_check_numbers) = true)
    (a4 : PySem.W.nsIn K mainGlobals "check_turn" = some (some (.ref x_check_turn)))
    (l4 : K.lookup x_check_turn = some ⟨oc4, od4, .func (PySem.W.fnOf "check_turn" "check_turn" (defArgs s_check_turn) (defBody s_check_turn) (defScope s_check_turn) .none kV4 dc4 pm4 an4 cd4 ct4), sl4⟩)
    (c4 : PySem.W.codeIn K cd4 "check_turn" = true)
    (k4 : PySem.W.keepIn K (.ref x_check_turn) = true)
    (a5 : PySem.W.nsIn K mainGlobals "is_rest" = some (some (.ref x_is_rest)))
    (l5 : K.lookup x_is_rest = some ⟨oc5, od5, .func (PySem.W.fnOf "is_rest" "is_rest" (defArgs s_is_rest) (defBody s_is_rest) (defScope s_is_rest) .none kV5 dc5 pm5 an5 cd5 ct5), sl5⟩)
    (c5 : PySem.W.codeIn K cd5 "is_rest" = true)
    (k5 : PySem.W.keepIn K (.ref x_is_rest) = true)
    (a6 : PySem.W.nsIn K mainGlobals "check_rests" = some (some (.ref x_check_rests)))
    (l6 : K.lookup x_check_rests = some ⟨oc6, od6, .func (PySem.W.fnOf "check_rests" "check_rests" (defArgs s_check_rests) (defBody s_check_rests) (defScope s_check_rests) .none kV6 dc6 pm6 an6 cd6 ct6), sl6⟩)
    (c6 : PySem.W.codeIn K cd6 "check_rests" = true)
    (k6 : PySem.W.keepIn K (.ref x_check_rests) = true)
    (a7 : PySem.W.nsIn K mainGlobals "part_of" = some (some (.ref x_part_of)))
    (l7 : K.lookup x_part_of = some ⟨oc7, od7, .func (PySem.W.fnOf "part_of" "part_of" (defArgs s_part_of) (defBody s_part_of) (defScope s_part_of) .none kV7 dc7 pm7 an7 cd7 ct7), sl7⟩)
    (c7 : PySem.W.codeIn K cd7 "part_of" = true)
    (k7 : PySem.W.keepIn K (.ref x_part_of) = true)
    (a8 : PySem.W.nsIn K mainGlobals "shares_of" = some (some (.ref x_shares_of)))
    (l8 : K.lookup x_shares_of = some ⟨oc8, od8, .func (PySem.W.fnOf "shares_of" "shares_of" (defArgs s_shares_of) (defBody s_shares_of) (defScope s_shares_of) .none kV8 dc8 pm8 an8 cd8 ct8), sl8⟩)
    (c8 : PySem.W.codeIn K cd8 "shares_of" = true)
    (k8 : PySem.W.keepIn K (.ref x_shares_of) = true)
    (a9 : PySem.W.nsIn K mainGlobals "round_of" = some (some (.ref x_round_of)))
    (l9 : K.lookup x_round_of = some ⟨oc9, od9, .func (PySem.W.fnOf "round_of" "round_of" (defArgs s_round_of) (defBody s_round_of) (defScope s_round_of) .none kV9 dc9 pm9 an9 cd9 ct9), sl9⟩)
    (c9 : PySem.W.codeIn K cd9 "round_of" = true)
    (k9 : PySem.W.keepIn K (.ref x_round_of) = true)
    (a10 : PySem.W.findIn K (.ref y_Number) "__init__" = some (some (.ref x_Number_init)))
    (i10 : PySem.W.isFn K (.ref x_Number_init) = true)
    (l10 : K.lookup x_Number_init = some ⟨oc10, od10, .func (PySem.W.fnOf "__init__" "Number.__init__" (defArgs s_Number_init) (defBody s_Number_init) (defScope s_Number_init) .none kV10 dc10 pm10 an10 cd10 ct10), sl10⟩)
    (c10 : PySem.W.codeIn K cd10 "Number.__init__" = true)
    (k10 : PySem.W.keepIn K (.ref x_Number_init) = true)
    (a11 : PySem.W.findIn K (.ref y_Number) "shows" = some (some (.ref x_Number_shows)))
    (i11 : PySem.W.isFn K (.ref x_Number_shows) = true)
    (l11 : K.lookup x_Number_shows = some ⟨oc11, od11, .func (PySem.W.fnOf "shows" "Number.shows" (defArgs s_Number_shows) (defBody s_Number_shows) (defScope s_Number_shows) .none kV11 dc11 pm11 an11 cd11 ct11), sl11⟩)
    (c11 : PySem.W.codeIn K cd11 "Number.shows" = true)
    (k11 : PySem.W.keepIn K (.ref x_Number_shows) = true)
    (a12 : PySem.W.findIn K (.ref y_Clash) "__init__" = some (some (.ref x_Clash_init)))
    (i12 : PySem.W.isFn K (.ref x_Clash_init) = true)
    (l12 : K.lookup x_Clash_init = some ⟨oc12, od12, .func (PySem.W.fnOf "__init__" "Clash.__init__" (defArgs s_Clash_init) (defBody s_Clash_init) (defScope s_Clash_init) .none kV12 dc12 pm12 an12 cd12 ct12), sl12⟩)
    (c12 : PySem.W.codeIn K cd12 "Clash.__init__" = true)
    (k12 : PySem.W.keepIn K (.ref x_Clash_init) = true)
    (a13 : PySem.W.findIn K (.ref y_Clash) "shows" = some (some (.ref x_Clash_shows)))
    (i13 : PySem.W.isFn K (.ref x_Clash_shows) = true)
    (l13 : K.lookup x_Clash_shows = some ⟨oc13, od13, .func (PySem.W.fnOf "shows" "Clash.shows" (defArgs s_Clash_shows) (defBody s_Clash_shows) (defScope s_Clash_shows) .none kV13 dc13 pm13 an13 cd13 ct13), sl13⟩)
    (c13 : PySem.W.codeIn K cd13 "Clash.shows" = true)
    (k13 : PySem.W.keepIn K (.ref x_Clash_shows) = true)
    (a14 : PySem.W.nsIn K mainGlobals "sum_of" = some (some (.ref x_sum_of)))
    (l14 : K.lookup x_sum_of = some ⟨oc14, od14, .func (PySem.W.fnOf "sum_of" "sum_of" (defArgs s_sum_of) (defBody s_sum_of) (defScope s_sum_of) .none kV14 dc14 pm14 an14 cd14 ct14), sl14⟩)
    (c14 : PySem.W.codeIn K cd14 "sum_of" = true)
    (k14 : PySem.W.keepIn K (.ref x_sum_of) = true)
    (a15 : PySem.W.findIn K (.ref y_Common) "__init__" = some (some (.ref x_Common_init)))
    (i15 : PySem.W.isFn K (.ref x_Common_init) = true)
    (l15 : K.lookup x_Common_init = some ⟨oc15, od15, .func (PySem.W.fnOf "__init__" "Common.__init__" (defArgs s_Common_init) (defBody s_Common_init) (defScope s_Common_init) .none kV15 dc15 pm15 an15 cd15 ct15), sl15⟩)
    (c15 : PySem.W.codeIn K cd15 "Common.__init__" = true)
    (k15 : PySem.W.keepIn K (.ref x_Common_init) = true)
    (a16 : PySem.W.findIn K (.ref y_Common) "shows" = some (some (.ref x_Common_shows)))
    (i16 : PySem.W.isFn K (.ref x_Common_shows) = true)
    (l16 : K.lookup x_Common_shows = some ⟨oc16, od16, .func (PySem.W.fnOf "shows" "Common.shows" (defArgs s_Common_shows) (defBody s_Common_shows) (defScope s_Common_shows) .none kV16 dc16 pm16 an16 cd16 ct16), sl16⟩)
    (c16 : PySem.W.codeIn K cd16 "Common.shows" = true)
    (k16 : PySem.W.keepIn K (.ref x_Common_shows) = true)
    (a17 : PySem.W.findIn K (.ref y_Times) "__init__" = some (some (.ref x_Times_init)))
    (i17 : PySem.W.isFn K (.ref x_Times_init) = true)
    (l17 : K.lookup x_Times_init = some ⟨oc17, od17, .func (PySem.W.fnOf "__init__" "Times.__init__" (defArgs s_Times_init) (defBody s_Times_init) (defScope s_Times_init) .none kV17 dc17 pm17 an17 cd17 ct17), sl17⟩)
    (c17 : PySem.W.codeIn K cd17 "Times.__init__" = true)
    (k17 : PySem.W.keepIn K (.ref x_Times_init) = true)
    (a18 : PySem.W.findIn K (.ref y_Times) "shows" = some (some (.ref x_Times_shows)))
    (i18 : PySem.W.isFn K (.ref x_Times_shows) = true)
    (l18 : K.lookup x_Times_shows = some ⟨oc18, od18, .func (PySem.W.fnOf "shows" "Times.shows" (defArgs s_Times_shows) (defBody s_Times_shows) (defScope s_Times_shows) .none kV18 dc18 pm18 an18 cd18 ct18), sl18⟩)
    (c18 : PySem.W.codeIn K cd18 "Times.shows" = true)
    (k18 : PySem.W.keepIn K (.ref x_Times_shows) = true)
    (a19 : PySem.W.findIn K (.ref y_Bar) "__init__" = some (some (.ref x_Bar_init)))
    (i19 : PySem.W.isFn K (.ref x_Bar_init) = true)
    (l19 : K.lookup x_Bar_init = some ⟨oc19, od19, .func (PySem.W.fnOf "__init__" "Bar.__init__" (defArgs s_Bar_init) (defBody s_Bar_init) (defScope s_Bar_init) .none kV19 dc19 pm19 an19 cd19 ct19), sl19⟩)
    (c19 : PySem.W.codeIn K cd19 "Bar.__init__" = true)
    (k19 : PySem.W.keepIn K (.ref x_Bar_init) = true)
    (a20 : PySem.W.findIn K (.ref y_Bar) "shows" = some (some (.ref x_Bar_shows)))
    (i20 : PySem.W.isFn K (.ref x_Bar_shows) = true)
    (l20 : K.lookup x_Bar_shows = some ⟨oc20, od20, .func (PySem.W.fnOf "shows" "Bar.shows" (defArgs s_Bar_shows) (defBody s_Bar_shows) (defScope s_Bar_shows) .none kV20 dc20 pm20 an20 cd20 ct20), sl20⟩)
    (c20 : PySem.W.codeIn K cd20 "Bar.shows" = true)
    (k20 : PySem.W.keepIn K (.ref x_Bar_shows) = true)
    (a21 : PySem.W.findIn K (.ref y_Bar) "bars" = some (some (.ref x_Bar_bars)))
    (i21 : PySem.W.isFn K (.ref x_Bar_bars) = true)
    (l21 : K.lookup x_Bar_bars = some ⟨oc21, od21, .func (PySem.W.fnOf "bars" "Bar.bars" (defArgs s_Bar_bars) (defBody s_Bar_bars) (defScope s_Bar_bars) .none kV21 dc21 pm21 an21 cd21 ct21), sl21⟩)
    (c21 : PySem.W.codeIn K cd21 "Bar.bars" = true)
    (k21 : PySem.W.keepIn K (.ref x_Bar_bars) = true)
    (a22 : PySem.W.findIn K (.ref y_Back) "__init__" = some (some (.ref x_Back_init)))
    (i22 : PySem.W.isFn K (.ref x_Back_init) = true)
    (l22 : K.lookup x_Back_init = some ⟨oc22, od22, .func (PySem.W.fnOf "__init__" "Back.__init__" (defArgs s_Back_init) (defBody s_Back_init) (defScope s_Back_init) .none kV22 dc22 pm22 an22 cd22 ct22), sl22⟩)
    (c22 : PySem.W.codeIn K cd22 "Back.__init__" = true)
    (k22 : PySem.W.keepIn K (.ref x_Back_init) = true)
    (a23 : PySem.W.findIn K (.ref y_Back) "shows" = some (some (.ref x_Back_shows)))
    (i23 : PySem.W.isFn K (.ref x_Back_shows) = true)
    (l23 : K.lookup x_Back_shows = some ⟨oc23, od23, .func (PySem.W.fnOf "shows" "Back.shows" (defArgs s_Back_shows) (defBody s_Back_shows) (defScope s_Back_shows) .none kV23 dc23 pm23 an23 cd23 ct23), sl23⟩)
    (c23 : PySem.W.codeIn K cd23 "Back.shows" = true)
    (k23 : PySem.W.keepIn K (.ref x_Back_shows) = true)
    (a24 : PySem.W.nsIn K mainGlobals "common_of" = some (some (.ref x_common_of)))
    (l24 : K.lookup x_common_of = some ⟨oc24, od24, .func (PySem.W.fnOf "common_of" "common_of" (defArgs s_common_of) (defBody s_common_of) (defScope s_common_of) .none kV24 dc24 pm24 an24 cd24 ct24), sl24⟩)
    (c24 : PySem.W.codeIn K cd24 "common_of" = true)
    (k24 : PySem.W.keepIn K (.ref x_common_of) = true)
    (a25 : PySem.W.nsIn K mainGlobals "common" = some (some (.ref x_common)))
    (l25 : K.lookup x_common = some ⟨oc25, od25, .func (PySem.W.fnOf "common" "common" (defArgs s_common) (defBody s_common) (defScope s_common) .none kV25 dc25 pm25 an25 cd25 ct25), sl25⟩)
    (c25 : PySem.W.codeIn K cd25 "common" = true)
    (k25 : PySem.W.keepIn K (.ref x_common) = true)
    (a26 : PySem.W.nsIn K mainGlobals "come" = some (some (.ref x_come)))
    (l26 : K.lookup x_come = some ⟨oc26, od26, .func (PySem.W.fnOf "come" "come" (defArgs s_come) (defBody s_come) (defScope s_come) .none kV26 dc26 pm26 an26 cd26 ct26), sl26⟩)
    (c26 : PySem.W.codeIn K cd26 "come" = true)
    (k26 : PySem.W.keepIn K (.ref x_come) = true)
    (a27 : PySem.W.nsIn K mainGlobals "back" = some (some (.ref x_back)))
    (l27 : K.lookup x_back = some ⟨oc27, od27, .func (PySem.W.fnOf "back" "back" (defArgs s_back) (defBody s_back) (defScope s_back) .none kV27 dc27 pm27 an27 cd27 ct27), sl27⟩)
    (c27 : PySem.W.codeIn K cd27 "back" = true)
    (k27 : PySem.W.keepIn K (.ref x_back) = true)
    (a28 : PySem.W.nsIn K mainGlobals "clash_of" = some (some (.ref x_clash_of)))
    (l28 : K.lookup x_clash_of = some ⟨oc28, od28, .func (PySem.W.fnOf "clash_of" "clash_of" (defArgs s_clash_of) (defBody s_clash_of) (defScope s_clash_of) .none kV28 dc28 pm28 an28 cd28 ct28), sl28⟩)
    (c28 : PySem.W.codeIn K cd28 "clash_of" = true)
    (k28 : PySem.W.keepIn K (.ref x_clash_of) = true)
    (a29 : PySem.W.nsIn K mainGlobals "told" = some (some (.ref x_told)))
    (l29 : K.lookup x_told = some ⟨oc29, od29, .func (PySem.W.fnOf "told" "told" (defArgs s_told) (defBody s_told) (defScope s_told) .none kV29 dc29 pm29 an29 cd29 ct29), sl29⟩)
    (c29 : PySem.W.codeIn K cd29 "told" = true)
    (k29 : PySem.W.keepIn K (.ref x_told) = true)
    (a30 : PySem.W.nsIn K mainGlobals "_law_cell_at" = some (some (.ref x_l_cell_at)))
    (l30 : K.lookup x_l_cell_at = some ⟨oc30, od30, .func (PySem.W.fnOf "_law_cell_at" "_law_cell_at" (defArgs s_l_cell_at) (defBody s_l_cell_at) (defScope s_l_cell_at) .none kV30 dc30 pm30 an30 cd30 ct30), sl30⟩)
    (c30 : PySem.W.codeIn K cd30 "_law_cell_at" = true)
    (k30 : PySem.W.keepIn K (.ref x_l_cell_at) = true)
    (a31 : PySem.W.nsIn K mainGlobals "_law_draw" = some (some (.ref x_l_draw)))
    (l31 : K.lookup x_l_draw = some ⟨oc31, od31, .func (PySem.W.fnOf "_law_draw" "_law_draw" (defArgs s_l_draw) (defBody s_l_draw) (defScope s_l_draw) .none kV31 dc31 pm31 an31 cd31 ct31), sl31⟩)
    (c31 : PySem.W.codeIn K cd31 "_law_draw" = true)
    (k31 : PySem.W.keepIn K (.ref x_l_draw) = true)
    (a32 : PySem.W.nsIn K mainGlobals "_law_turns" = some (some (.ref x_l_turns)))
    (l32 : K.lookup x_l_turns = some ⟨oc32, od32, .func (PySem.W.fnOf "_law_turns" "_law_turns" (defArgs s_l_turns) (defBody s_l_turns) (defScope s_l_turns) .none kV32 dc32 pm32 an32 cd32 ct32), sl32⟩)
    (c32 : PySem.W.codeIn K cd32 "_law_turns" = true)
    (k32 : PySem.W.keepIn K (.ref x_l_turns) = true)
    (a33 : PySem.W.nsIn K mainGlobals "_law_rests" = some (some (.ref x_l_rests)))
    (l33 : K.lookup x_l_rests = some ⟨oc33, od33, .func (PySem.W.fnOf "_law_rests" "_law_rests" (defArgs s_l_rests) (defBody s_l_rests) (defScope s_l_rests) .none kV33 dc33 pm33 an33 cd33 ct33), sl33⟩)
    (c33 : PySem.W.codeIn K cd33 "_law_rests" = true)
    (k33 : PySem.W.keepIn K (.ref x_l_rests) = true)
    (a34 : PySem.W.nsIn K mainGlobals "_law_part" = some (some (.ref x_l_part)))
    (l34 : K.lookup x_l_part = some ⟨oc34, od34, .func (PySem.W.fnOf "_law_part" "_law_part" (defArgs s_l_part) (defBody s_l_part) (defScope s_l_part) .none kV34 dc34 pm34 an34 cd34 ct34), sl34⟩)
    (c34 : PySem.W.codeIn K cd34 "_law_part" = true)
    (k34 : PySem.W.keepIn K (.ref x_l_part) = true)
    (a35 : PySem.W.nsIn K mainGlobals "_law_says" = some (some (.ref x_l_says)))
    (l35 : K.lookup x_l_says = some ⟨oc35, od35, .func (PySem.W.fnOf "_law_says" "_law_says" (defArgs s_l_says) (defBody s_l_says) (defScope s_l_says) .none kV35 dc35 pm35 an35 cd35 ct35), sl35⟩)
    (c35 : PySem.W.codeIn K cd35 "_law_says" = true)
    (k35 : PySem.W.keepIn K (.ref x_l_says) = true)
    (a36 : PySem.W.nsIn K mainGlobals "_law_row" = some (some (.ref x_l_row)))
    (l36 : K.lookup x_l_row = some ⟨oc36, od36, .func (PySem.W.fnOf "_law_row" "_law_row" (defArgs s_l_row) (defBody s_l_row) (defScope s_l_row) .none kV36 dc36 pm36 an36 cd36 ct36), sl36⟩)
    (c36 : PySem.W.codeIn K cd36 "_law_row" = true)
    (k36 : PySem.W.keepIn K (.ref x_l_row) = true)
    (a37 : PySem.W.nsIn K mainGlobals "_law_rests_right" = some (some (.ref x_l_rests_right)))
    (l37 : K.lookup x_l_rests_right = some ⟨oc37, od37, .func (PySem.W.fnOf "_law_rests_right" "_law_rests_right" (defArgs s_l_rests_right) (defBody s_l_rests_right) (defScope s_l_rests_right) .none kV37 dc37 pm37 an37 cd37 ct37), sl37⟩)
    (c37 : PySem.W.codeIn K cd37 "_law_rests_right" = true)
    (k37 : PySem.W.keepIn K (.ref x_l_rests_right) = true)
    (a38 : PySem.W.nsIn K mainGlobals "_law_bent" = some (some (.ref x_l_bent)))
    (l38 : K.lookup x_l_bent = some ⟨oc38, od38, .func (PySem.W.fnOf "_law_bent" "_law_bent" (defArgs s_l_bent) (defBody s_l_bent) (defScope s_l_bent) .none kV38 dc38 pm38 an38 cd38 ct38), sl38⟩)
    (c38 : PySem.W.codeIn K cd38 "_law_bent" = true)
    (k38 : PySem.W.keepIn K (.ref x_l_bent) = true)
    (a39 : PySem.W.nsIn K mainGlobals "_law_parts_right" = some (some (.ref x_l_parts_right)))
    (l39 : K.lookup x_l_parts_right = some ⟨oc39, od39, .func (PySem.W.fnOf "_law_parts_right" "_law_parts_right" (defArgs s_l_parts_right) (defBody s_l_parts_right) (defScope s_l_parts_right) .none kV39 dc39 pm39 an39 cd39 ct39), sl39⟩)
    (c39 : PySem.W.codeIn K cd39 "_law_parts_right" = true)
    (k39 : PySem.W.keepIn K (.ref x_l_parts_right) = true)
    (a40 : PySem.W.nsIn K mainGlobals "_law_comes_right" = some (some (.ref x_l_comes_right)))
    (l40 : K.lookup x_l_comes_right = some ⟨oc40, od40, .func (PySem.W.fnOf "_law_comes_right" "_law_comes_right" (defArgs s_l_comes_right) (defBody s_l_comes_right) (defScope s_l_comes_right) .none kV40 dc40 pm40 an40 cd40 ct40), sl40⟩)
    (c40 : PySem.W.codeIn K cd40 "_law_comes_right" = true)
    (k40 : PySem.W.keepIn K (.ref x_l_comes_right) = true)
    (a41 : PySem.W.nsIn K mainGlobals "_law_backs_right" = some (some (.ref x_l_backs_right)))
    (l41 : K.lookup x_l_backs_right = some ⟨oc41, od41, .func (PySem.W.fnOf "_law_backs_right" "_law_backs_right" (defArgs s_l_backs_right) (defBody s_l_backs_right) (defScope s_l_backs_right) .none kV41 dc41 pm41 an41 cd41 ct41), sl41⟩)
    (c41 : PySem.W.codeIn K cd41 "_law_backs_right" = true)
    (k41 : PySem.W.keepIn K (.ref x_l_backs_right) = true)
    (a42 : PySem.W.nsIn K mainGlobals "law" = some (some (.ref x_law)))
    (l42 : K.lookup x_law = some ⟨oc42, od42, .func (PySem.W.fnOf "law" "law" (defArgs s_law) (defBody s_law) (defScope s_law) .none kV42 dc42 pm42 an42 cd42 ct42), sl42⟩)
    (c42 : PySem.W.codeIn K cd42 "law" = true)
    (k42 : PySem.W.keepIn K (.ref x_law) = true)
    (z_isinstance : PySem.W.nsIn K mainGlobals "isinstance" = some none)
    (z_int : PySem.W.nsIn K mainGlobals "int" = some none)
    (z_bool : PySem.W.nsIn K mainGlobals "bool" = some none)
    (z_list : PySem.W.nsIn K mainGlobals "list" = some none)
    (z_all : PySem.W.nsIn K mainGlobals "all" = some none)
    (z_tuple : PySem.W.nsIn K mainGlobals "tuple" = some none)
    (z_len : PySem.W.nsIn K mainGlobals "len" = some none)
    (z_abs : PySem.W.nsIn K mainGlobals "abs" = some none)
    (z_range : PySem.W.nsIn K mainGlobals "range" = some none)
    (z_sum : PySem.W.nsIn K mainGlobals "sum" = some none)
    (z_enumerate : PySem.W.nsIn K mainGlobals "enumerate" = some none)
    (z_zip : PySem.W.nsIn K mainGlobals "zip" = some none)
    (v_GREATEST : PySem.W.nsIn K mainGlobals "GREATEST" = some (some (.int 1000000 tk_GREATEST)))
    (pg_Answer : PySem.W.plainGet K y_Answer Str.empty = true)
    (hd_Answer : PySem.W.hasDictIn K y_Answer = true)
    (po_Answer : PySem.W.plainOver K y_Answer = true)
    (sa_Answer : PySem.W.findIn K (.ref y_Answer) "__setattr__" = some (some (.builtin "object.__setattr__")))
    (ha_Answer : PySem.W.findIn K (.ref y_Answer) "__class__" = some (some (.builtin "object.__class__")))
    (hm_Answer : PySem.W.mroIn K y_Answer (.type "object") = some true)
    (pg_Number : PySem.W.plainGet K y_Number Str.empty = true)
    (hd_Number : PySem.W.hasDictIn K y_Number = true)
    (po_Number : PySem.W.plainOver K y_Number = true)
    (sa_Number : PySem.W.findIn K (.ref y_Number) "__setattr__" = some (some (.builtin "object.__setattr__")))
    (mi_Number : PySem.W.makesIn K y_Number = true)
    (kc_Number : PySem.W.keepIn K (.ref y_Number) = true)
    (n_Number_number : PySem.W.findIn K (.ref y_Number) "number" = some none)
    (n_Number_turn : PySem.W.findIn K (.ref y_Number) "turn" = some none)
    (ha_Number : PySem.W.findIn K (.ref y_Number) "__class__" = some (some (.builtin "object.__class__")))
    (hm_Number : PySem.W.mroIn K y_Number (.type "object") = some true)
    (pg_Clash : PySem.W.plainGet K y_Clash Str.empty = true)
    (hd_Clash : PySem.W.hasDictIn K y_Clash = true)
    (po_Clash : PySem.W.plainOver K y_Clash = true)
    (sa_Clash : PySem.W.findIn K (.ref y_Clash) "__setattr__" = some (some (.builtin "object.__setattr__")))
    (mi_Clash : PySem.W.makesIn K y_Clash = true)
    (kc_Clash : PySem.W.keepIn K (.ref y_Clash) = true)
    (n_Clash_one : PySem.W.findIn K (.ref y_Clash) "one" = some none)
    (n_Clash_other : PySem.W.findIn K (.ref y_Clash) "other" = some none)
    (ha_Clash : PySem.W.findIn K (.ref y_Clash) "__class__" = some (some (.builtin "object.__class__")))
    (hm_Clash : PySem.W.mroIn K y_Clash (.type "object") = some true)
    (pg_Common : PySem.W.plainGet K y_Common Str.empty = true)
    (hd_Common : PySem.W.hasDictIn K y_Common = true)
    (po_Common : PySem.W.plainOver K y_Common = true)
    (sa_Common : PySem.W.findIn K (.ref y_Common) "__setattr__" = some (some (.builtin "object.__setattr__")))
    (mi_Common : PySem.W.makesIn K y_Common = true)
    (kc_Common : PySem.W.keepIn K (.ref y_Common) = true)
    (n_Common_part : PySem.W.findIn K (.ref y_Common) "part" = some none)
    (n_Common_times : PySem.W.findIn K (.ref y_Common) "times" = some none)
    (ha_Common : PySem.W.findIn K (.ref y_Common) "__class__" = some (some (.builtin "object.__class__")))
    (hm_Common : PySem.W.mroIn K y_Common (.type "object") = some true)
    (pg_Times : PySem.W.plainGet K y_Times Str.empty = true)
    (hd_Times : PySem.W.hasDictIn K y_Times = true)
    (po_Times : PySem.W.plainOver K y_Times = true)
    (sa_Times : PySem.W.findIn K (.ref y_Times) "__setattr__" = some (some (.builtin "object.__setattr__")))
    (mi_Times : PySem.W.makesIn K y_Times = true)
    (kc_Times : PySem.W.keepIn K (.ref y_Times) = true)
    (n_Times_times : PySem.W.findIn K (.ref y_Times) "times" = some none)
    (ha_Times : PySem.W.findIn K (.ref y_Times) "__class__" = some (some (.builtin "object.__class__")))
    (hm_Times : PySem.W.mroIn K y_Times (.type "object") = some true)
    (pg_Bar : PySem.W.plainGet K y_Bar Str.empty = true)
    (hd_Bar : PySem.W.hasDictIn K y_Bar = true)
    (po_Bar : PySem.W.plainOver K y_Bar = true)
    (sa_Bar : PySem.W.findIn K (.ref y_Bar) "__setattr__" = some (some (.builtin "object.__setattr__")))
    (mi_Bar : PySem.W.makesIn K y_Bar = true)
    (kc_Bar : PySem.W.keepIn K (.ref y_Bar) = true)
    (n_Bar_part : PySem.W.findIn K (.ref y_Bar) "part" = some none)
    (ha_Bar : PySem.W.findIn K (.ref y_Bar) "__class__" = some (some (.builtin "object.__class__")))
    (hm_Bar : PySem.W.mroIn K y_Bar (.type "object") = some true)
    (pg_Back : PySem.W.plainGet K y_Back Str.empty = true)
    (hd_Back : PySem.W.hasDictIn K y_Back = true)
    (po_Back : PySem.W.plainOver K y_Back = true)
    (sa_Back : PySem.W.findIn K (.ref y_Back) "__setattr__" = some (some (.builtin "object.__setattr__")))
    (mi_Back : PySem.W.makesIn K y_Back = true)
    (kc_Back : PySem.W.keepIn K (.ref y_Back) = true)
    (n_Back_rest : PySem.W.findIn K (.ref y_Back) "rest" = some none)
    (ha_Back : PySem.W.findIn K (.ref y_Back) "__class__" = some (some (.builtin "object.__class__")))
    (hm_Back : PySem.W.mroIn K y_Back (.type "object") = some true)
    (hn : PySem.W.specialIn K (.builtin "object.__class__") "__get__" = some (some (.builtin "getset_descriptor.__get__")))
    (htk : PySem.W.takesIn K (.builtin "object.__class__") = some true)
    (q_Number_Number : PySem.W.kitOne K (.ref y_Number) (.ref y_Number) = some true)
    (q_Number_Times : PySem.W.kitOne K (.ref y_Number) (.ref y_Times) = some false)
    (q_Number_Back : PySem.W.kitOne K (.ref y_Number) (.ref y_Back) = some false)
    (q_Clash_Number : PySem.W.kitOne K (.ref y_Clash) (.ref y_Number) = some false)
    (q_Clash_Times : PySem.W.kitOne K (.ref y_Clash) (.ref y_Times) = some false)
    (q_Clash_Back : PySem.W.kitOne K (.ref y_Clash) (.ref y_Back) = some false)
    (q_Common_Number : PySem.W.kitOne K (.ref y_Common) (.ref y_Number) = some false)
    (q_Common_Times : PySem.W.kitOne K (.ref y_Common) (.ref y_Times) = some false)
    (q_Common_Back : PySem.W.kitOne K (.ref y_Common) (.ref y_Back) = some false)
    (q_Times_Number : PySem.W.kitOne K (.ref y_Times) (.ref y_Number) = some false)
    (q_Times_Times : PySem.W.kitOne K (.ref y_Times) (.ref y_Times) = some true)
    (q_Times_Back : PySem.W.kitOne K (.ref y_Times) (.ref y_Back) = some false)
    (q_Bar_Number : PySem.W.kitOne K (.ref y_Bar) (.ref y_Number) = some false)
    (q_Bar_Times : PySem.W.kitOne K (.ref y_Bar) (.ref y_Times) = some false)
    (q_Bar_Back : PySem.W.kitOne K (.ref y_Bar) (.ref y_Back) = some false)
    (q_Back_Number : PySem.W.kitOne K (.ref y_Back) (.ref y_Number) = some false)
    (q_Back_Times : PySem.W.kitOne K (.ref y_Back) (.ref y_Times) = some false)
    (q_Back_Back : PySem.W.kitOne K (.ref y_Back) (.ref y_Back) = some true) :
    ∃ fd : FuncData, (∀ (s : Shared) (v : Value), BindsTo s fd ⟨[v], []⟩ [("_law_script", v)]) ∧ ∀ base : Heap, K.In base → base.Ns mainGlobals mg → FnOk l.prog w K mg base CX0 7 fa fd ["_law_script"] (sp_law K) := by
  have e := hfa.symm.trans (PySem.W.mg_of X G a42)
  cases e
  have T : Txt K mg ⟨x_is_whole, x_is_number, x_is_turn, x_check_numbers, x_check_turn, x_is_rest, x_check_rests, x_part_of, x_shares_of, x_round_of, x_Number_init, x_Number_shows, x_Clash_init, x_Clash_shows, x_sum_of, x_Common_init, x_Common_shows, x_Times_init, x_Times_shows, x_Bar_init, x_Bar_shows, x_Bar_bars, x_Back_init, x_Back_shows, x_common_of, x_common, x_come, x_back, x_clash_of, x_told, x_l_cell_at, x_l_draw, x_l_turns, x_l_rests, x_l_part, x_l_says, x_l_row, x_l_rests_right, x_l_bent, x_l_parts_right, x_l_comes_right, x_l_backs_right, fa, y_RestError, y_BadRests, y_BadNumbers, y_BadRound, y_BadRest, y_Answer, y_Number, y_Clash, y_Common, y_Times, y_Bar, y_Back⟩ := {
    g_RestError := PySem.W.mg_of X G yRestError,
    g_BadRests := PySem.W.mg_of X G yBadRests,
    g_BadNumbers := PySem.W.mg_of X G yBadNumbers,
    g_BadRound := PySem.W.mg_of X G yBadRound,
    g_BadRest := PySem.W.mg_of X G yBadRest,
    g_Answer := PySem.W.mg_of X G yAnswer,
    g_Number := PySem.W.mg_of X G yNumber,
    g_Clash := PySem.W.mg_of X G yClash,
    g_Common := PySem.W.mg_of X G yCommon,
    g_Times := PySem.W.mg_of X G yTimes,
    g_Bar := PySem.W.mg_of X G yBar,
    g_Back := PySem.W.mg_of X G yBack,
    F_is_whole := ⟨_, fun_mk (st := s_is_whole) l0 c0 k0, (fun_mk (st := s_is_whole) l0 c0 k0).binds fun _ _ _ _ _ _ us hl => match us, hl with | [_], _ => rfl⟩,
    g_is_whole := PySem.W.mg_of X G a0,
    F_is_number := ⟨_, fun_mk (st := s_is_number) l1 c1 k1, (fun_mk (st := s_is_number) l1 c1 k1).binds fun _ _ _ _ _ _ us hl => match us, hl with | [_], _ => rfl⟩,
    g_is_number := PySem.W.mg_of X G a1,
    F_is_turn := ⟨_, fun_mk (st := s_is_turn) l2 c2 k2, (fun_mk (st := s_is_turn) l2 c2 k2).binds fun _ _ _ _ _ _ us hl => match us, hl with | [_], _ => rfl⟩,
    g_is_turn := PySem.W.mg_of X G a2,
    F_check_numbers := ⟨_, fun_mk (st := s_check_numbers) l3 c3 k3, (fun_mk (st := s_check_numbers) l3 c3 k3).binds fun _ _ _ _ _ _ us hl => match us, hl with | [_], _ => rfl⟩,
    g_check_numbers := PySem.W.mg_of X G a3,
    F_check_turn := ⟨_, fun_mk (st := s_check_turn) l4 c4 k4, (fun_mk (st := s_check_turn) l4 c4 k4).binds fun _ _ _ _ _ _ us hl => match us, hl with | [_], _ => rfl⟩,
    g_check_turn := PySem.W.mg_of X G a4,
    F_is_rest := ⟨_, fun_mk (st := s_is_rest) l5 c5 k5, (fun_mk (st := s_is_rest) l5 c5 k5).binds fun _ _ _ _ _ _ us hl => match us, hl with | [_], _ => rfl⟩,
    g_is_rest := PySem.W.mg_of X G a5,
    F_check_rests := ⟨_, fun_mk (st := s_check_rests) l6 c6 k6, (fun_mk (st := s_check_rests) l6 c6 k6).binds fun _ _ _ _ _ _ us hl => match us, hl with | [_], _ => rfl⟩,
    g_check_rests := PySem.W.mg_of X G a6,
    F_part_of := ⟨_, fun_mk (st := s_part_of) l7 c7 k7, (fun_mk (st := s_part_of) l7 c7 k7).binds fun _ _ _ _ _ _ us hl => match us, hl with | [_, _], _ => rfl⟩,
    g_part_of := PySem.W.mg_of X G a7,
    F_shares_of := ⟨_, fun_mk (st := s_shares_of) l8 c8 k8, (fun_mk (st := s_shares_of) l8 c8 k8).binds fun _ _ _ _ _ _ us hl => match us, hl with | [_, _], _ => rfl⟩,
    g_shares_of := PySem.W.mg_of X G a8,
    F_round_of := ⟨_, fun_mk (st := s_round_of) l9 c9 k9, (fun_mk (st := s_round_of) l9 c9 k9).binds fun _ _ _ _ _ _ us hl => match us, hl with | [_], _ => rfl⟩,
    g_round_of := PySem.W.mg_of X G a9,
    F_Number_init := ⟨_, fun_mk (st := s_Number_init) l10 c10 k10, (fun_mk (st := s_Number_init) l10 c10 k10).binds fun _ _ _ _ _ _ us hl => match us, hl with | [_, _, _], _ => rfl⟩,
    F_Number_shows := ⟨_, fun_mk (st := s_Number_shows) l11 c11 k11, (fun_mk (st := s_Number_shows) l11 c11 k11).binds fun _ _ _ _ _ _ us hl => match us, hl with | [_, _], _ => rfl⟩,
    F_Clash_init := ⟨_, fun_mk (st := s_Clash_init) l12 c12 k12, (fun_mk (st := s_Clash_init) l12 c12 k12).binds fun _ _ _ _ _ _ us hl => match us, hl with | [_, _, _], _ => rfl⟩,
    F_Clash_shows := ⟨_, fun_mk (st := s_Clash_shows) l13 c13 k13, (fun_mk (st := s_Clash_shows) l13 c13 k13).binds fun _ _ _ _ _ _ us hl => match us, hl with | [_, _], _ => rfl⟩,
    F_sum_of := ⟨_, fun_mk (st := s_sum_of) l14 c14 k14, (fun_mk (st := s_sum_of) l14 c14 k14).binds fun _ _ _ _ _ _ us hl => match us, hl with | [_, _], _ => rfl⟩,
    g_sum_of := PySem.W.mg_of X G a14,
    F_Common_init := ⟨_, fun_mk (st := s_Common_init) l15 c15 k15, (fun_mk (st := s_Common_init) l15 c15 k15).binds fun _ _ _ _ _ _ us hl => match us, hl with | [_, _, _], _ => rfl⟩,
    F_Common_shows := ⟨_, fun_mk (st := s_Common_shows) l16 c16 k16, (fun_mk (st := s_Common_shows) l16 c16 k16).binds fun _ _ _ _ _ _ us hl => match us, hl with | [_, _], _ => rfl⟩,
    F_Times_init := ⟨_, fun_mk (st := s_Times_init) l17 c17 k17, (fun_mk (st := s_Times_init) l17 c17 k17).binds fun _ _ _ _ _ _ us hl => match us, hl with | [_, _], _ => rfl⟩,
    F_Times_shows := ⟨_, fun_mk (st := s_Times_shows) l18 c18 k18, (fun_mk (st := s_Times_shows) l18 c18 k18).binds fun _ _ _ _ _ _ us hl => match us, hl with | [_, _, _, _], _ => rfl⟩,
    F_Bar_init := ⟨_, fun_mk (st := s_Bar_init) l19 c19 k19, (fun_mk (st := s_Bar_init) l19 c19 k19).binds fun _ _ _ _ _ _ us hl => match us, hl with | [_, _], _ => rfl⟩,
    F_Bar_shows := ⟨_, fun_mk (st := s_Bar_shows) l20 c20 k20, (fun_mk (st := s_Bar_shows) l20 c20 k20).binds fun _ _ _ _ _ _ us hl => match us, hl with | [_, _, _, _], _ => rfl⟩,
    F_Bar_bars := ⟨_, fun_mk (st := s_Bar_bars) l21 c21 k21, (fun_mk (st := s_Bar_bars) l21 c21 k21).binds fun _ _ _ _ _ _ us hl => match us, hl with | [_, _, _], _ => rfl⟩,
    F_Back_init := ⟨_, fun_mk (st := s_Back_init) l22 c22 k22, (fun_mk (st := s_Back_init) l22 c22 k22).binds fun _ _ _ _ _ _ us hl => match us, hl with | [_, _], _ => rfl⟩,
    F_Back_shows := ⟨_, fun_mk (st := s_Back_shows) l23 c23 k23, (fun_mk (st := s_Back_shows) l23 c23 k23).binds fun _ _ _ _ _ _ us hl => match us, hl with | [_, _, _], _ => rfl⟩,
    F_common_of := ⟨_, fun_mk (st := s_common_of) l24 c24 k24, (fun_mk (st := s_common_of) l24 c24 k24).binds fun _ _ _ _ _ _ us hl => match us, hl with | [_], _ => rfl⟩,
    g_common_of := PySem.W.mg_of X G a24,
    F_common := ⟨_, fun_mk (st := s_common) l25 c25 k25, (fun_mk (st := s_common) l25 c25 k25).binds fun _ _ _ _ _ _ us hl => match us, hl with | [_], _ => rfl⟩,
    g_common := PySem.W.mg_of X G a25,
    F_come := ⟨_, fun_mk (st := s_come) l26 c26 k26, (fun_mk (st := s_come) l26 c26 k26).binds fun _ _ _ _ _ _ us hl => match us, hl with | [_, _, _], _ => rfl⟩,
    g_come := PySem.W.mg_of X G a26,
    F_back := ⟨_, fun_mk (st := s_back) l27 c27 k27, (fun_mk (st := s_back) l27 c27 k27).binds fun _ _ _ _ _ _ us hl => match us, hl with | [_, _], _ => rfl⟩,
    g_back := PySem.W.mg_of X G a27,
    F_clash_of := ⟨_, fun_mk (st := s_clash_of) l28 c28 k28, (fun_mk (st := s_clash_of) l28 c28 k28).binds fun _ _ _ _ _ _ us hl => match us, hl with | [_, _], _ => rfl⟩,
    g_clash_of := PySem.W.mg_of X G a28,
    F_told := ⟨_, fun_mk (st := s_told) l29 c29 k29, (fun_mk (st := s_told) l29 c29 k29).binds fun _ _ _ _ _ _ us hl => match us, hl with | [_], _ => rfl⟩,
    g_told := PySem.W.mg_of X G a29,
    F_l_cell_at := ⟨_, fun_mk (st := s_l_cell_at) l30 c30 k30, (fun_mk (st := s_l_cell_at) l30 c30 k30).binds fun _ _ _ _ _ _ us hl => match us, hl with | [_, _], _ => rfl⟩,
    g_l_cell_at := PySem.W.mg_of X G a30,
    F_l_draw := ⟨_, fun_mk (st := s_l_draw) l31 c31 k31, (fun_mk (st := s_l_draw) l31 c31 k31).binds fun _ _ _ _ _ _ us hl => match us, hl with | [_, _, _], _ => rfl⟩,
    g_l_draw := PySem.W.mg_of X G a31,
    F_l_turns := ⟨_, fun_mk (st := s_l_turns) l32 c32 k32, (fun_mk (st := s_l_turns) l32 c32 k32).binds fun _ _ _ _ _ _ us hl => match us, hl with | [_], _ => rfl⟩,
    g_l_turns := PySem.W.mg_of X G a32,
    F_l_rests := ⟨_, fun_mk (st := s_l_rests) l33 c33 k33, (fun_mk (st := s_l_rests) l33 c33 k33).binds fun _ _ _ _ _ _ us hl => match us, hl with | [_], _ => rfl⟩,
    g_l_rests := PySem.W.mg_of X G a33,
    F_l_part := ⟨_, fun_mk (st := s_l_part) l34 c34 k34, (fun_mk (st := s_l_part) l34 c34 k34).binds fun _ _ _ _ _ _ us hl => match us, hl with | [_, _], _ => rfl⟩,
    g_l_part := PySem.W.mg_of X G a34,
    F_l_says := ⟨_, fun_mk (st := s_l_says) l35 c35 k35, (fun_mk (st := s_l_says) l35 c35 k35).binds fun _ _ _ _ _ _ us hl => match us, hl with | [_, _], _ => rfl⟩,
    g_l_says := PySem.W.mg_of X G a35,
    F_l_row := ⟨_, fun_mk (st := s_l_row) l36 c36 k36, (fun_mk (st := s_l_row) l36 c36 k36).binds fun _ _ _ _ _ _ us hl => match us, hl with | [_], _ => rfl⟩,
    g_l_row := PySem.W.mg_of X G a36,
    F_l_rests_right := ⟨_, fun_mk (st := s_l_rests_right) l37 c37 k37, (fun_mk (st := s_l_rests_right) l37 c37 k37).binds fun _ _ _ _ _ _ us hl => match us, hl with | [_, _], _ => rfl⟩,
    g_l_rests_right := PySem.W.mg_of X G a37,
    F_l_bent := ⟨_, fun_mk (st := s_l_bent) l38 c38 k38, (fun_mk (st := s_l_bent) l38 c38 k38).binds fun _ _ _ _ _ _ us hl => match us, hl with | [_, _], _ => rfl⟩,
    g_l_bent := PySem.W.mg_of X G a38,
    F_l_parts_right := ⟨_, fun_mk (st := s_l_parts_right) l39 c39 k39, (fun_mk (st := s_l_parts_right) l39 c39 k39).binds fun _ _ _ _ _ _ us hl => match us, hl with | [_, _], _ => rfl⟩,
    g_l_parts_right := PySem.W.mg_of X G a39,
    F_l_comes_right := ⟨_, fun_mk (st := s_l_comes_right) l40 c40 k40, (fun_mk (st := s_l_comes_right) l40 c40 k40).binds fun _ _ _ _ _ _ us hl => match us, hl with | [_, _], _ => rfl⟩,
    g_l_comes_right := PySem.W.mg_of X G a40,
    F_l_backs_right := ⟨_, fun_mk (st := s_l_backs_right) l41 c41 k41, (fun_mk (st := s_l_backs_right) l41 c41 k41).binds fun _ _ _ _ _ _ us hl => match us, hl with | [_, _, _], _ => rfl⟩,
    g_l_backs_right := PySem.W.mg_of X G a41,
    F_law := ⟨_, fun_mk (st := s_law) l42 c42 k42, (fun_mk (st := s_law) l42 c42 k42).binds fun _ _ _ _ _ _ us hl => match us, hl with | [_], _ => rfl⟩,
    g_law := PySem.W.mg_of X G a42,
    z_isinstance := PySem.W.mg_none_of X G z_isinstance,
    z_int := PySem.W.mg_none_of X G z_int,
    z_bool := PySem.W.mg_none_of X G z_bool,
    z_list := PySem.W.mg_none_of X G z_list,
    z_all := PySem.W.mg_none_of X G z_all,
    z_tuple := PySem.W.mg_none_of X G z_tuple,
    z_len := PySem.W.mg_none_of X G z_len,
    z_abs := PySem.W.mg_none_of X G z_abs,
    z_range := PySem.W.mg_none_of X G z_range,
    z_sum := PySem.W.mg_none_of X G z_sum,
    z_enumerate := PySem.W.mg_none_of X G z_enumerate,
    z_zip := PySem.W.mg_none_of X G z_zip,
    k_GREATEST := ⟨_, PySem.W.mg_of X G v_GREATEST⟩,
    cl_Answer := ⟨pg_Answer, hd_Answer, po_Answer, sa_Answer⟩,
    i_Answer := ⟨⟨pg_Answer, hd_Answer, po_Answer, sa_Answer⟩, ha_Answer, hm_Answer⟩,
    cl_Number := ⟨pg_Number, hd_Number, po_Number, sa_Number⟩,
    mk_Number := ⟨mi_Number, a10, i10, kc_Number⟩,
    m_Number_shows := ⟨a11, i11, k11⟩,
    n_Number_number := n_Number_number,
    n_Number_turn := n_Number_turn,
    i_Number := ⟨⟨pg_Number, hd_Number, po_Number, sa_Number⟩, ha_Number, hm_Number⟩,
    cl_Clash := ⟨pg_Clash, hd_Clash, po_Clash, sa_Clash⟩,
    mk_Clash := ⟨mi_Clash, a12, i12, kc_Clash⟩,
    m_Clash_shows := ⟨a13, i13, k13⟩,
    n_Clash_one := n_Clash_one,
    n_Clash_other := n_Clash_other,
    i_Clash := ⟨⟨pg_Clash, hd_Clash, po_Clash, sa_Clash⟩, ha_Clash, hm_Clash⟩,
    cl_Common := ⟨pg_Common, hd_Common, po_Common, sa_Common⟩,
    mk_Common := ⟨mi_Common, a15, i15, kc_Common⟩,
    m_Common_shows := ⟨a16, i16, k16⟩,
    n_Common_part := n_Common_part,
    n_Common_times := n_Common_times,
    i_Common := ⟨⟨pg_Common, hd_Common, po_Common, sa_Common⟩, ha_Common, hm_Common⟩,
    cl_Times := ⟨pg_Times, hd_Times, po_Times, sa_Times⟩,
    mk_Times := ⟨mi_Times, a17, i17, kc_Times⟩,
    m_Times_shows := ⟨a18, i18, k18⟩,
    n_Times_times := n_Times_times,
    i_Times := ⟨⟨pg_Times, hd_Times, po_Times, sa_Times⟩, ha_Times, hm_Times⟩,
    cl_Bar := ⟨pg_Bar, hd_Bar, po_Bar, sa_Bar⟩,
    mk_Bar := ⟨mi_Bar, a19, i19, kc_Bar⟩,
    m_Bar_shows := ⟨a20, i20, k20⟩,
    m_Bar_bars := ⟨a21, i21, k21⟩,
    n_Bar_part := n_Bar_part,
    i_Bar := ⟨⟨pg_Bar, hd_Bar, po_Bar, sa_Bar⟩, ha_Bar, hm_Bar⟩,
    cl_Back := ⟨pg_Back, hd_Back, po_Back, sa_Back⟩,
    mk_Back := ⟨mi_Back, a22, i22, kc_Back⟩,
    m_Back_shows := ⟨a23, i23, k23⟩,
    n_Back_rest := n_Back_rest,
    i_Back := ⟨⟨pg_Back, hd_Back, po_Back, sa_Back⟩, ha_Back, hm_Back⟩,
    isg := ⟨hn, htk⟩,
    q_Number_Number := q_Number_Number,
    q_Number_Times := q_Number_Times,
    q_Number_Back := q_Number_Back,
    q_Clash_Number := q_Clash_Number,
    q_Clash_Times := q_Clash_Times,
    q_Clash_Back := q_Clash_Back,
    q_Common_Number := q_Common_Number,
    q_Common_Times := q_Common_Times,
    q_Common_Back := q_Common_Back,
    q_Times_Number := q_Times_Number,
    q_Times_Times := q_Times_Times,
    q_Times_Back := q_Times_Back,
    q_Bar_Number := q_Bar_Number,
    q_Bar_Times := q_Bar_Times,
    q_Bar_Back := q_Bar_Back,
    q_Back_Number := q_Back_Number,
    q_Back_Times := q_Back_Times,
    q_Back_Back := q_Back_Back }
  refine ⟨PySem.W.fnOf "law" "law" (defArgs s_law) (defBody s_law) (defScope s_law) .none kV42 dc42 pm42 an42 cd42 ct42, fun s v => .of_eq rfl, fun base _ _ => ?_⟩
  exact ok_law T (fun_mk (st := s_law) l42 c42 k42)
end Wl
open PySem PySem.W PyProof.Rows in
set_option maxHeartbeats 0 in
theorem PySem.Challenge.cw_wheelrow_k06_answers_by_hand_holds : PySem.Challenge.rw_wheelrow_k06_answers_by_hand.Holds := by
  w_on; o_law; k_head; (case hw => w_witness2)
  k_fill
  refine L2.walk_of (l := PySem.Challenge.rw_wheelrow_k06_answers_by_hand) (n := 63) (k := 7) (x := "_law_script") (CX := fun _ => L2.CX0) (sp := fun w => Wl.sp_law _) rfl (by decide) rfl ⟨rfl, by decide, by decide⟩ (fun w h Y => PySem.W.kIn_of Y) ?F (fun _ _ a ns hl _ hS => ⟨_, ns, rfl, ⟨a, rfl, hS, hl⟩, fun _ => rfl⟩) (fun _ _ _ _ _ h => h)
  case F =>
    intro w mg fa h KX G hmg
    refine' Wl.all_mk KX G hmg ?yRestError ?yBadRests ?yBadNumbers ?yBadRound ?yBadRest ?yAnswer ?yNumber ?yClash ?yCommon ?yTimes ?yBar ?yBack ?a0 ?l0 ?c0 ?k0 ?a1 ?l1 ?c1 ?k1 ?a2 ?l2 ?c2 ?k2 ?a3 ?l3 ?c3 ?k3 ?a4 ?l4 ?c4 ?k4 ?a5 ?l5 ?c5 ?k5 ?a6 ?l6 ?c6 ?k6 ?a7 ?l7 ?c7 ?k7 ?a8 ?l8 ?c8 ?k8 ?a9 ?l9 ?c9 ?k9 ?a10 ?i10 ?l10 ?c10 ?k10 ?a11 ?i11 ?l11 ?c11 ?k11 ?a12 ?i12 ?l12 ?c12 ?k12 ?a13 ?i13 ?l13 ?c13 ?k13 ?a14 ?l14 ?c14 ?k14 ?a15 ?i15 ?l15 ?c15 ?k15 ?a16 ?i16 ?l16 ?c16 ?k16 ?a17 ?i17 ?l17 ?c17 ?k17 ?a18 ?i18 ?l18 ?c18 ?k18 ?a19 ?i19 ?l19 ?c19 ?k19 ?a20 ?i20 ?l20 ?c20 ?k20 ?a21 ?i21 ?l21 ?c21 ?k21 ?a22 ?i22 ?l22 ?c22 ?k22 ?a23 ?i23 ?l23 ?c23 ?k23 ?a24 ?l24 ?c24 ?k24 ?a25 ?l25 ?c25 ?k25 ?a26 ?l26 ?c26 ?k26 ?a27 ?l27 ?c27 ?k27 ?a28 ?l28 ?c28 ?k28 ?a29 ?l29 ?c29 ?k29 ?a30 ?l30 ?c30 ?k30 ?a31 ?l31 ?c31 ?k31 ?a32 ?l32 ?c32 ?k32 ?a33 ?l33 ?c33 ?k33 ?a34 ?l34 ?c34 ?k34 ?a35 ?l35 ?c35 ?k35 ?a36 ?l36 ?c36 ?k36 ?a37 ?l37 ?c37 ?k37 ?a38 ?l38 ?c38 ?k38 ?a39 ?l39 ?c39 ?k39 ?a40 ?l40 ?c40 ?k40 ?a41 ?l41 ?c41 ?k41 ?a42 ?l42 ?c42 ?k42 ?z_isinstance ?z_int ?z_bool ?z_list ?z_all ?z_tuple ?z_len ?z_abs ?z_range ?z_sum ?z_enumerate ?z_zip ?v_GREATEST ?pg_Answer ?hd_Answer ?po_Answer ?sa_Answer ?ha_Answer ?hm_Answer ?pg_Number ?hd_Number ?po_Number ?sa_Number ?mi_Number ?kc_Number ?n_Number_number ?n_Number_turn ?ha_Number ?hm_Number ?pg_Clash ?hd_Clash ?po_Clash ?sa_Clash ?mi_Clash ?kc_Clash ?n_Clash_one ?n_Clash_other ?ha_Clash ?hm_Clash ?pg_Common ?hd_Common ?po_Common ?sa_Common ?mi_Common ?kc_Common ?n_Common_part ?n_Common_times ?ha_Common ?hm_Common ?pg_Times ?hd_Times ?po_Times ?sa_Times ?mi_Times ?kc_Times ?n_Times_times ?ha_Times ?hm_Times ?pg_Bar ?hd_Bar ?po_Bar ?sa_Bar ?mi_Bar ?kc_Bar ?n_Bar_part ?ha_Bar ?hm_Bar ?pg_Back ?hd_Back ?po_Back ?sa_Back ?mi_Back ?kc_Back ?n_Back_rest ?ha_Back ?hm_Back ?hn ?htk ?q_Number_Number ?q_Number_Times ?q_Number_Back ?q_Clash_Number ?q_Clash_Times ?q_Clash_Back ?q_Common_Number ?q_Common_Times ?q_Common_Back ?q_Times_Number ?q_Times_Times ?q_Times_Back ?q_Bar_Number ?q_Bar_Times ?q_Bar_Back ?q_Back_Number ?q_Back_Times ?q_Back_Back
    (case yRestError => k_is)
    (case yBadRests => k_is)
    (case yBadNumbers => k_is)
    (case yBadRound => k_is)
    (case yBadRest => k_is)
    (case yAnswer => k_is)
    (case yNumber => k_is)
    (case yClash => k_is)
    (case yCommon => k_is)
    (case yTimes => k_is)
    (case yBar => k_is)
    (case yBack => k_is)
    (case a0 => k_is)
    (case l0 => k_is)
    (case c0 => k_is)
    (case k0 => k_is)
    (case a1 => k_is)
    (case l1 => k_is)
    (case c1 => k_is)
    (case k1 => k_is)
    (case a2 => k_is)
    (case l2 => k_is)
    (case c2 => k_is)
    (case k2 => k_is)
    (case a3 => k_is)
    (case l3 => k_is)
    (case c3 => k_is)
    (case k3 => k_is)
    (case a4 => k_is)
    (case l4 => k_is)
    (case c4 => k_is)
    (case k4 => k_is)
    (case a5 => k_is)
    (case l5 => k_is)
    (case c5 => k_is)
    (case k5 => k_is)
    (case a6 => k_is)
    (case l6 => k_is)
    (case c6 => k_is)
    (case k6 => k_is)
    (case a7 => k_is)
    (case l7 => k_is)
    (case c7 => k_is)
    (case k7 => k_is)
    (case a8 => k_is)
    (case l8 => k_is)
    (case c8 => k_is)
    (case k8 => k_is)
    (case a9 => k_is)
    (case l9 => k_is)
    (case c9 => k_is)
    (case k9 => k_is)
    (case a10 => k_is)
    (case i10 => k_is)
    (case l10 => k_is)
    (case c10 => k_is)
    (case k10 => k_is)
    (case a11 => k_is)
    (case i11 => k_is)
    (case l11 => k_is)
    (case c11 => k_is)
    (case k11 => k_is)
    (case a12 => k_is)
    (case i12 => k_is)
    (case l12 => k_is)
    (case c12 => k_is)
    (case k12 => k_is)
    (case a13 => k_is)
    (case i13 => k_is)
    (case l13 => k_is)
    (case c13 => k_is)
    (case k13 => k_is)
    (case a14 => k_is)
    (case l14 => k_is)
    (case c14 => k_is)
    (case k14 => k_is)
    (case a15 => k_is)
    (case i15 => k_is)
    (case l15 => k_is)
    (case c15 => k_is)
    (case k15 => k_is)
    (case a16 => k_is)
    (case i16 => k_is)
    (case l16 => k_is)
    (case c16 => k_is)
    (case k16 => k_is)
    (case a17 => k_is)
    (case i17 => k_is)
    (case l17 => k_is)
    (case c17 => k_is)
    (case k17 => k_is)
    (case a18 => k_is)
    (case i18 => k_is)
    (case l18 => k_is)
    (case c18 => k_is)
    (case k18 => k_is)
    (case a19 => k_is)
    (case i19 => k_is)
    (case l19 => k_is)
    (case c19 => k_is)
    (case k19 => k_is)
    (case a20 => k_is)
    (case i20 => k_is)
    (case l20 => k_is)
    (case c20 => k_is)
    (case k20 => k_is)
    (case a21 => k_is)
    (case i21 => k_is)
    (case l21 => k_is)
    (case c21 => k_is)
    (case k21 => k_is)
    (case a22 => k_is)
    (case i22 => k_is)
    (case l22 => k_is)
    (case c22 => k_is)
    (case k22 => k_is)
    (case a23 => k_is)
    (case i23 => k_is)
    (case l23 => k_is)
    (case c23 => k_is)
    (case k23 => k_is)
    (case a24 => k_is)
    (case l24 => k_is)
    (case c24 => k_is)
    (case k24 => k_is)
    (case a25 => k_is)
    (case l25 => k_is)
    (case c25 => k_is)
    (case k25 => k_is)
    (case a26 => k_is)
    (case l26 => k_is)
    (case c26 => k_is)
    (case k26 => k_is)
    (case a27 => k_is)
    (case l27 => k_is)
    (case c27 => k_is)
    (case k27 => k_is)
    (case a28 => k_is)
    (case l28 => k_is)
    (case c28 => k_is)
    (case k28 => k_is)
    (case a29 => k_is)
    (case l29 => k_is)
    (case c29 => k_is)
    (case k29 => k_is)
    (case a30 => k_is)
    (case l30 => k_is)
    (case c30 => k_is)
    (case k30 => k_is)
    (case a31 => k_is)
    (case l31 => k_is)
    (case c31 => k_is)
    (case k31 => k_is)
    (case a32 => k_is)
    (case l32 => k_is)
    (case c32 => k_is)
    (case k32 => k_is)
    (case a33 => k_is)
    (case l33 => k_is)
    (case c33 => k_is)
    (case k33 => k_is)
    (case a34 => k_is)
    (case l34 => k_is)
    (case c34 => k_is)
    (case k34 => k_is)
    (case a35 => k_is)
    (case l35 => k_is)
    (case c35 => k_is)
    (case k35 => k_is)
    (case a36 => k_is)
    (case l36 => k_is)
    (case c36 => k_is)
    (case k36 => k_is)
    (case a37 => k_is)
    (case l37 => k_is)
    (case c37 => k_is)
    (case k37 => k_is)
    (case a38 => k_is)
    (case l38 => k_is)
    (case c38 => k_is)
    (case k38 => k_is)
    (case a39 => k_is)
    (case l39 => k_is)
    (case c39 => k_is)
    (case k39 => k_is)
    (case a40 => k_is)
    (case l40 => k_is)
    (case c40 => k_is)
    (case k40 => k_is)
    (case a41 => k_is)
    (case l41 => k_is)
    (case c41 => k_is)
    (case k41 => k_is)
    (case a42 => k_is)
    (case l42 => k_is)
    (case c42 => k_is)
    (case k42 => k_is)
    (case z_isinstance => k_is)
    (case z_int => k_is)
    (case z_bool => k_is)
    (case z_list => k_is)
    (case z_all => k_is)
    (case z_tuple => k_is)
    (case z_len => k_is)
    (case z_abs => k_is)
    (case z_range => k_is)
    (case z_sum => k_is)
    (case z_enumerate => k_is)
    (case z_zip => k_is)
    (case v_GREATEST => k_is)
    (case pg_Answer => k_is)
    (case hd_Answer => first | k_is | rfl)
    (case po_Answer => k_is)
    (case sa_Answer => k_is)
    (case ha_Answer => first | k_is | rfl)
    (case hm_Answer => first | k_is | rfl)
    (case pg_Number => k_is)
    (case hd_Number => first | k_is | rfl)
    (case po_Number => k_is)
    (case sa_Number => k_is)
    (case mi_Number => k_is)
    (case kc_Number => k_is)
    (case n_Number_number => k_is)
    (case n_Number_turn => k_is)
    (case ha_Number => first | k_is | rfl)
    (case hm_Number => first | k_is | rfl)
    (case pg_Clash => k_is)
    (case hd_Clash => first | k_is | rfl)
    (case po_Clash => k_is)
    (case sa_Clash => k_is)
    (case mi_Clash => k_is)
    (case kc_Clash => k_is)
    (case n_Clash_one => k_is)
    (case n_Clash_other => k_is)
    (case ha_Clash => first | k_is | rfl)
    (case hm_Clash => first | k_is | rfl)
    (case pg_Common => k_is)
    (case hd_Common => first | k_is | rfl)
    (case po_Common => k_is)
    (case sa_Common => k_is)
    (case mi_Common => k_is)
    (case kc_Common => k_is)
    (case n_Common_part => k_is)
    (case n_Common_times => k_is)
    (case ha_Common => first | k_is | rfl)
    (case hm_Common => first | k_is | rfl)
    (case pg_Times => k_is)
    (case hd_Times => first | k_is | rfl)
    (case po_Times => k_is)
    (case sa_Times => k_is)
    (case mi_Times => k_is)
    (case kc_Times => k_is)
    (case n_Times_times => k_is)
    (case ha_Times => first | k_is | rfl)
    (case hm_Times => first | k_is | rfl)
    (case pg_Bar => k_is)
    (case hd_Bar => first | k_is | rfl)
    (case po_Bar => k_is)
    (case sa_Bar => k_is)
    (case mi_Bar => k_is)
    (case kc_Bar => k_is)
    (case n_Bar_part => k_is)
    (case ha_Bar => first | k_is | rfl)
    (case hm_Bar => first | k_is | rfl)
    (case pg_Back => k_is)
    (case hd_Back => first | k_is | rfl)
    (case po_Back => k_is)
    (case sa_Back => k_is)
    (case mi_Back => k_is)
    (case kc_Back => k_is)
    (case n_Back_rest => k_is)
    (case ha_Back => first | k_is | rfl)
    (case hm_Back => first | k_is | rfl)
    (case hn => first | k_is | rfl)
    (case htk => first | k_is | rfl)
    (case q_Number_Number => first | k_is | rfl)
    (case q_Number_Times => first | k_is | rfl)
    (case q_Number_Back => first | k_is | rfl)
    (case q_Clash_Number => first | k_is | rfl)
    (case q_Clash_Times => first | k_is | rfl)
    (case q_Clash_Back => first | k_is | rfl)
    (case q_Common_Number => first | k_is | rfl)
    (case q_Common_Times => first | k_is | rfl)
    (case q_Common_Back => first | k_is | rfl)
    (case q_Times_Number => first | k_is | rfl)
    (case q_Times_Times => first | k_is | rfl)
    (case q_Times_Back => first | k_is | rfl)
    (case q_Bar_Number => first | k_is | rfl)
    (case q_Bar_Times => first | k_is | rfl)
    (case q_Bar_Back => first | k_is | rfl)
    (case q_Back_Number => first | k_is | rfl)
    (case q_Back_Times => first | k_is | rfl)
    (case q_Back_Back => first | k_is | rfl)
