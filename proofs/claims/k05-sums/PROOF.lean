import PyProof.Rows.All
import Wide.All
import OpenK.AllK
import Wide.FinOn
import HandS.ForMost
import HandS.ForExc
import HandS.Evl
import HandS.IsInst
import HandS.Wide
import HandS.Style
import HandS.Steps
import HandS.ExcCtx
import HandS.HotCalls
import HandS.ExcIs
import HandS.CallLocal
import HandS.SuiteRaise
import HandS.WordsExc
import HandS.Conv
import HandS.Codes
import HandS.Text
import HandS.StrMore
import HandS.Strs
import HandS.SortRule
import HandS.SortInts
import HandS.More
import PySem.Challenge.RW_wheelrow_k05_sums
set_option Elab.async false
set_option linter.all false
set_option maxRecDepth 100000
set_option maxHeartbeats 4000000
namespace Wl
/-- the part that goes into both -/
def pt (a b : Int) : Int := (Int.gcd a b : Int)
theorem pt_step (a b : Int) : pt b (a % b) = pt a b := by
  unfold pt
  have h : a % b = a - (a / b) * b := by
    have := Int.emod_add_mul_ediv a b
    rw [Int.mul_comm (a / b) b]; omega
  rw [h, Int.gcd_sub_mul_right_right, Int.gcd_comm]
theorem pt_zero (a : Int) (h : 0 ≤ a) : pt a 0 = a := by
  unfold pt
  rw [Int.gcd_zero_right]
  omega
theorem pt_abs (a b : Int) : pt (if a < 0 then -a else a) (if b < 0 then -b else b) = pt a b := by
  unfold pt
  split <;> split <;> simp
theorem pt_nn (a b : Int) : 0 ≤ pt a b := Int.natCast_nonneg _
theorem pt_dvd_l (a b : Int) : pt a b ∣ a := Int.gcd_dvd_left ..
theorem pt_dvd_r (a b : Int) : pt a b ∣ b := Int.gcd_dvd_right ..
theorem dvd_pt {a b c : Int} (h1 : c ∣ a) (h2 : c ∣ b) : c ∣ pt a b := Int.dvd_coe_gcd h1 h2
theorem pt_pos_r (a : Int) {b : Int} (h : 0 < b) : 0 < pt a b := by
  have h1 := pt_nn a b
  have h2 := pt_dvd_r a b
  have : pt a b ≠ 0 := by
    intro e
    rw [e] at h2
    have := Int.zero_dvd.mp h2
    omega
  omega
theorem pt_le_r (a : Int) {b : Int} (h : 0 < b) : pt a b ≤ b := Int.le_of_dvd h (pt_dvd_r a b)
theorem fmod_eq (a b : Int) : a.fmod b = a - a.fdiv b * b := by
  rw [Int.fmod_def, Int.mul_comm]
theorem pt_stepF (a b : Int) : pt b (a - a.fdiv b * b) = pt a b := by
  unfold pt
  rw [Int.gcd_sub_mul_right_right, Int.gcd_comm]
/-- the state of shares_of: here = (a, x, y), there = (b, u, v) -/
structure Sh (one other a x y b u v : Int) : Prop where
  ha : a = x * one + y * other
  hb : b = u * one + v * other
  hg : pt a b = pt one other
  hs : (a = one ∧ x = 1 ∧ y = 0 ∧ b = other ∧ u = 0 ∧ v = 1) ∨
    (a.natAbs ≤ other.natAbs ∧ b.natAbs < a.natAbs ∧ ((0 ≤ a ∧ 0 ≤ b) ∨ (a ≤ 0 ∧ b ≤ 0)) ∧ x.natAbs ≤ other.natAbs ∧ x.natAbs * b.natAbs + u.natAbs * a.natAbs ≤ other.natAbs)
theorem Sh.start (one other : Int) : Sh one other one 1 0 other 0 1 := ⟨by omega, by omega, rfl, .inl ⟨rfl, rfl, rfl, rfl, rfl, rfl⟩⟩
theorem mod_lt {a b : Int} (hb : b ≠ 0) : (a - a.fdiv b * b).natAbs < b.natAbs ∧ ((0 ≤ b ∧ 0 ≤ a - a.fdiv b * b) ∨ (b ≤ 0 ∧ a - a.fdiv b * b ≤ 0)) := by
  rw [← fmod_eq]
  by_cases h : 0 < b
  · have h1 := Int.fmod_lt_of_pos a h
    have h2 := Int.fmod_nonneg_of_pos a h
    omega
  · have hn : 0 < -b := by omega
    have h1 := Int.fmod_lt_of_pos (-a) hn
    have h2 := Int.fmod_nonneg_of_pos (-a) hn
    rw [Int.neg_fmod_neg] at h1 h2
    omega
theorem div_abs {a b : Int} (hb : b ≠ 0) (s : (0 ≤ a ∧ 0 ≤ b) ∨ (a ≤ 0 ∧ b ≤ 0)) : (a - a.fdiv b * b).natAbs + (a.fdiv b).natAbs * b.natAbs = a.natAbs := by
  have ⟨h1, h2⟩ := mod_lt (a := a) hb
  have hq : 0 ≤ a.fdiv b := by
    rcases s with ⟨p, q⟩ | ⟨p, q⟩
    · exact Int.fdiv_nonneg p q
    · rw [← Int.neg_fdiv_neg]
      exact Int.fdiv_nonneg (by omega) (by omega)
  generalize hr : a - a.fdiv b * b = r at *
  generalize a.fdiv b = q at *
  have e : q.natAbs * b.natAbs = (q * b).natAbs := (Int.natAbs_mul q b).symm
  rw [e]
  have hs : (0 ≤ b → 0 ≤ q * b) ∧ (b ≤ 0 → q * b ≤ 0) := ⟨fun z => Int.mul_nonneg hq z, fun z => Int.mul_nonpos_of_nonneg_of_nonpos hq z⟩
  generalize q * b = m at *
  omega
theorem Sh.step {one other a x y b u v : Int} (h : Sh one other a x y b u v) (hb : b ≠ 0) :
    Sh one other b u v (a - a.fdiv b * b) (x - a.fdiv b * u) (y - a.fdiv b * v) ∧ (a - a.fdiv b * b).natAbs < b.natAbs := by
  have ⟨h1, h2⟩ := mod_lt (a := a) hb
  refine ⟨⟨h.hb, ?_, ?_, .inr ⟨?_, h1, h2, ?_, ?_⟩⟩, h1⟩
  · have e1 := h.ha
    have e2 := h.hb
    generalize a.fdiv b = q
    subst e1 e2
    grind
  · rw [pt_stepF, h.hg]
  · rcases h.hs with ⟨_, _, _, e, _, _⟩ | ⟨e1, e2, _⟩
    · rw [e]; omega
    · omega
  · rcases h.hs with ⟨_, _, _, e, e5, _⟩ | ⟨e1, e2, e3, e4, e5⟩
    · rw [e5]; simp
    · have : u.natAbs * 1 ≤ u.natAbs * a.natAbs := Nat.mul_le_mul_left _ (by omega)
      omega
  · rcases h.hs with ⟨_, ex, _, e, eu, _⟩ | ⟨e1, e2, e3, e4, e5⟩
    · rw [eu, ex, e]; simp
    · have e := div_abs hb e3
      have e6 : (x - a.fdiv b * u).natAbs ≤ x.natAbs + (a.fdiv b).natAbs * u.natAbs := by
        rw [← Int.natAbs_mul]
        omega
      have e7 : (x - a.fdiv b * u).natAbs * b.natAbs ≤ (x.natAbs + (a.fdiv b).natAbs * u.natAbs) * b.natAbs := Nat.mul_le_mul_right _ e6
      generalize (a - a.fdiv b * b).natAbs = R at *
      generalize (a.fdiv b).natAbs = Qn at *
      generalize (x - a.fdiv b * u).natAbs = Y at *
      have e8 : u.natAbs * a.natAbs = u.natAbs * R + u.natAbs * (Qn * b.natAbs) := by rw [← Nat.mul_add, e]
      have e9 : (x.natAbs + Qn * u.natAbs) * b.natAbs = x.natAbs * b.natAbs + u.natAbs * (Qn * b.natAbs) := by
        rw [Nat.add_mul, Nat.mul_comm Qn u.natAbs, Nat.mul_assoc]
      omega
/-- what shares_of tells -/
structure Shares (one other g x y : Int) : Prop where
  eq : g = pt one other
  lin : g = x * one + y * other
  sm : x.natAbs ≤ other.natAbs + 1
theorem Sh.done {one other a x y u v : Int} (h : Sh one other a x y 0 u v) : (¬ a < 0 → Shares one other a x y) ∧ (a < 0 → Shares one other (-a) (-x) (-y)) := by
  have e := h.hg
  have hx : x.natAbs ≤ other.natAbs + 1 := by
    rcases h.hs with ⟨_, ex, _⟩ | ⟨_, _, _, z, _⟩
    · rw [ex]; simp
    · omega
  have ha := h.ha
  refine ⟨fun p => ⟨?_, ha, hx⟩, fun p => ⟨?_, ?_, ?_⟩⟩
  · rw [← e, pt_zero a (by omega)]
  · rw [← e]
    unfold pt
    rw [Int.gcd_zero_right]
    omega
  · rw [ha]; grind
  · omega
end Wl
namespace Wl
/-! ### back -/
def barsF (g n t : Int) : Bool := decide (1 < g) && (decide (n % g = 0) && decide (t % g = 0))
def backF (r n t : Int) : Bool := (decide (0 ≤ r) && decide (r < t)) && decide ((r * n - 1) % t = 0)
def backD (r n t : Int) : Bool := (decide (0 ≤ r) && decide (r < t)) && decide (r * n % t = 1 % t)
theorem backD_eq (r n t : Int) : backD r n t = backF r n t := by
  unfold backD backF
  rw [decide_eq_decide.mpr (Int.emod_eq_emod_iff_emod_sub_eq_zero (m := r * n) (n := t) (k := 1))]
def BarOk (g n t : Int) : Prop := 1 < g ∧ g ∣ n ∧ g ∣ t
def BackOk (r n t : Int) : Prop := 0 ≤ r ∧ r < t ∧ t ∣ r * n - 1
theorem Shares.bar {n t g x y : Int} (s : Shares n t g x y) (h : 1 < g) : BarOk g n t := by
  rw [s.eq] at h ⊢
  exact ⟨h, pt_dvd_l n t, pt_dvd_r n t⟩
theorem Shares.back {n t g x y : Int} (s : Shares n t g x y) (h : g ≤ 1) (ht : 1 ≤ t) : BackOk (x % t) n t := by
  have h1 := pt_pos_r n (b := t) (by omega)
  have hg : g = 1 := by have := s.eq; omega
  refine ⟨Int.emod_nonneg _ (by omega), Int.emod_lt_of_pos _ (by omega), ?_⟩
  have hl := s.lin
  rw [hg] at hl
  have e : x % t = x - t * (x / t) := Int.emod_def x t
  refine ⟨-(x / t) * n - y, ?_⟩
  rw [e]
  grind
theorem BarOk.F {g n t : Int} (h : BarOk g n t) : barsF g n t = true := by
  unfold barsF
  rw [decide_eq_true h.1, decide_eq_true (Int.emod_eq_zero_of_dvd h.2.1), decide_eq_true (Int.emod_eq_zero_of_dvd h.2.2)]
  rfl
theorem BarOk.far {g n t : Int} (h : BarOk g n t) (c : Int) : BarOk g (n + c * t) t := ⟨h.1, Int.dvd_add h.2.1 (Int.dvd_mul_of_dvd_right h.2.2), h.2.2⟩
theorem BackOk.F {r n t : Int} (h : BackOk r n t) : backF r n t = true := by
  unfold backF
  rw [decide_eq_true h.1, decide_eq_true h.2.1, decide_eq_true (Int.emod_eq_zero_of_dvd h.2.2)]
  rfl
theorem BackOk.far {r n t : Int} (h : BackOk r n t) (c : Int) : BackOk r (n + c * t) t := by
  refine ⟨h.1, h.2.1, ?_⟩
  obtain ⟨k, hk⟩ := h.2.2
  exact ⟨k + r * c, by rw [Int.mul_add]; grind⟩
end Wl
namespace Wl
/-! ### common parts -/
def dot : List Int → List Int → Int
  | n :: ns, t :: ts => n * t + dot ns ts
  | _, _ => 0
theorem dot_snoc : ∀ {ns ts : List Int} (n t : Int), ns.length = ts.length → dot (ns ++ [n]) (ts ++ [t]) = dot ns ts + n * t
  | [], [], n, t, _ => by simp [dot]
  | a :: ns, b :: ts, n, t, h => by
    have ih := dot_snoc (ns := ns) (ts := ts) n t (by simpa using h)
    simp only [List.cons_append, dot, ih]
    omega
  | [], _ :: _, _, _, h => by simp at h
  | _ :: _, [], _, _, h => by simp at h
theorem dot_mul : ∀ (ns ts : List Int) (x : Int), dot ns (ts.map (· * x)) = dot ns ts * x
  | [], _, x => by simp [dot]
  | _ :: _, [], x => by simp [dot]
  | a :: ns, b :: ts, x => by
    simp only [List.map_cons, dot, dot_mul ns ts x, Int.add_mul, Int.mul_assoc]
theorem dot_range : ∀ {ns ts : List Int}, ns.length = ts.length → ((List.range ns.length).map fun k => ns.getD k 0 * ts.getD k 0).sum = dot ns ts
  | [], [], _ => rfl
  | a :: ns, b :: ts, h => by
    have ih := dot_range (ns := ns) (ts := ts) (by simpa using h)
    rw [List.length_cons, List.range_succ_eq_map, List.map_cons, List.map_map, List.sum_cons]
    simp only [dot, ← ih]
    rfl
  | [], _ :: _, h => by simp at h
  | _ :: _, [], h => by simp at h
/-- a common part p of ns, and how often each makes it -/
structure CommonOk (p : Int) (ts ns : List Int) : Prop where
  nn : 0 ≤ p
  len : ts.length = ns.length
  sum : dot ns ts = p
  dvd : ∀ n ∈ ns, p ∣ n
def dueC (p : Int) (ts ns : List Int) : Bool := !(decide (p < 0) || !decide (ts.length = ns.length)) && (decide (dot ns ts = p) && ns.all fun n => if p = 0 then decide (n = 0) else decide (n % p = 0))
theorem CommonOk.due {p : Int} {ts ns : List Int} (h : CommonOk p ts ns) : dueC p ts ns = true := by
  have h1 : ¬ p < 0 := by have := h.nn; omega
  unfold dueC
  rw [decide_eq_false h1, decide_eq_true h.len, decide_eq_true h.sum]
  simp only [Bool.not_true, Bool.or_self, Bool.not_false, Bool.true_and, List.all_eq_true]
  intro n hn
  have hd := h.dvd n hn
  split
  · rename_i e
    rw [e] at hd
    exact decide_eq_true (Int.zero_dvd.mp hd)
  · exact decide_eq_true (Int.emod_eq_zero_of_dvd hd)
theorem CommonOk.nil : CommonOk 0 [] [] := ⟨Int.le_refl _, rfl, rfl, fun _ h => nomatch h⟩
theorem CommonOk.more {p n g x y : Int} {ts ns : List Int} (h : CommonOk p ts ns) (s : Shares p n g x y) : CommonOk g (ts.map (· * x) ++ [y]) (ns ++ [n]) := by
  refine ⟨by rw [s.eq]; exact pt_nn _ _, by simp [h.len], ?_, fun m hm => ?_⟩
  · rw [dot_snoc _ _ (by simp [h.len]), dot_mul, h.sum, s.lin, Int.mul_comm p x, Int.mul_comm n y]
  · rcases List.mem_append.mp hm with hm | hm
    · rw [s.eq]
      exact Int.dvd_trans (pt_dvd_l p n) (h.dvd m hm)
    · rw [List.mem_singleton.mp hm, s.eq]
      exact pt_dvd_r p n
theorem CommonOk.same {p n g x y : Int} {ts ns : List Int} (h : CommonOk p ts ns) (s : Shares p n g x y) (e : g = p) : CommonOk p (ts ++ [0]) (ns ++ [n]) := by
  refine ⟨h.nn, by simp [h.len], ?_, fun m hm => ?_⟩
  · rw [dot_snoc _ _ h.len.symm, h.sum]
    omega
  · rcases List.mem_append.mp hm with hm | hm
    · exact h.dvd m hm
    · rw [List.mem_singleton.mp hm, ← e, s.eq]
      exact pt_dvd_r p n
theorem pt_le {p n b : Int} (h0 : 0 ≤ p) (hp : p ≤ b) (hn : n.natAbs ≤ b.natAbs) (hb : 0 ≤ b) : pt p n ≤ b := by
  by_cases e : n = 0
  · rw [e, pt_zero p h0]
    exact hp
  · have h := pt_dvd_r p n
    have h2 : pt p n ∣ (n.natAbs : Int) := Int.dvd_natAbs.mpr h
    have := Int.le_of_dvd (by omega) h2
    omega
theorem CommonOk.far {p : Int} {ts ns : List Int} (h : CommonOk p ts ns) : dueC p (ts ++ [0]) ns = false := by
  unfold dueC
  have : ¬ (ts ++ [0]).length = ns.length := by
    rw [List.length_append, h.len]
    simp
  rw [decide_eq_false this]
  simp
end Wl
namespace Wl
/-! ### pigeons -/
theorem len_sub {α : Type} [DecidableEq α] : ∀ {A B : List α}, A.Nodup → (∀ x ∈ A, x ∈ B) → A.length ≤ B.length
  | [], _, _, _ => Nat.zero_le _
  | a :: A, B, h, s => by
    have ha : a ∈ B := s a List.mem_cons_self
    have h2 := List.nodup_cons.mp h
    have ih := len_sub (A := A) (B := B.erase a) h2.2 fun x hx => (List.mem_erase_of_ne fun (e : x = a) => h2.1 (e ▸ hx)).mpr (s x (List.mem_cons_of_mem _ hx))
    rw [List.length_erase_of_mem ha] at ih
    have hp : 0 < B.length := List.length_pos_of_mem ha
    rw [List.length_cons]
    omega
def uptoI (n : Nat) : List Int := (List.range n).map Int.ofNat
theorem mem_uptoI {n : Nat} {x : Int} : x ∈ uptoI n ↔ 0 ≤ x ∧ x < (n : Int) := by
  unfold uptoI
  rw [List.mem_map]
  constructor
  · rintro ⟨k, hk, rfl⟩
    have := List.mem_range.mp hk
    exact ⟨Int.natCast_nonneg k, by show (k : Int) < n; omega⟩
  · rintro ⟨h0, h1⟩
    exact ⟨x.toNat, List.mem_range.mpr (by omega), Int.toNat_of_nonneg h0⟩
theorem len_uptoI (n : Nat) : (uptoI n).length = n := by
  unfold uptoI
  rw [List.length_map, List.length_range]
theorem nodup_map {α β : Type} {f : α → β} : ∀ {l : List α}, (∀ x ∈ l, ∀ y ∈ l, f x = f y → x = y) → l.Nodup → (l.map f).Nodup
  | [], _, _ => List.nodup_nil
  | a :: l, hf, h => by
    obtain ⟨h1, h2⟩ := List.nodup_cons.mp h
    rw [List.map_cons, List.nodup_cons]
    refine ⟨fun hm => ?_, nodup_map (fun x hx y hy => hf x (List.mem_cons_of_mem _ hx) y (List.mem_cons_of_mem _ hy)) h2⟩
    obtain ⟨y, hy, e⟩ := List.mem_map.mp hm
    have := hf y (List.mem_cons_of_mem _ hy) a List.mem_cons_self e
    exact h1 (this ▸ hy)
theorem nodup_uptoI (n : Nat) : (uptoI n).Nodup := nodup_map (fun x _ y _ h => Int.ofNat.inj h) List.nodup_range
theorem pig {n : Nat} {A : List Int} (h : A.Nodup) (hb : ∀ x ∈ A, 0 ≤ x ∧ x < (n : Int)) : A.length ≤ n := by
  have := len_sub (B := uptoI n) h fun x hx => mem_uptoI.mpr (hb x hx)
  rwa [len_uptoI] at this
theorem pig_all {n : Nat} {A : List Int} (h : A.Nodup) (hb : ∀ x ∈ A, 0 ≤ x ∧ x < (n : Int)) (hl : n ≤ A.length) {x : Int} (h0 : 0 ≤ x) (h1 : x < (n : Int)) : x ∈ A := by
  by_cases hx : x ∈ A
  · exact hx
  · have := pig (A := x :: A) (n := n) (List.nodup_cons.mpr ⟨hx, h⟩) fun y hy => by
      rcases List.mem_cons.mp hy with e | hy
      · rw [e]
        exact ⟨h0, h1⟩
      · exact hb y hy
    rw [List.length_cons] at this
    omega
/-! ### primes -/
def Pr (p : Int) : Prop := 2 ≤ p ∧ ∀ e : Int, 2 ≤ e → e < p → ¬ e ∣ p
theorem bez (a b : Nat) : ∃ x y : Int, ((Nat.gcd a b : Nat) : Int) = x * a + y * b := by
  induction a, b using Nat.gcd.induction with
  | H0 n => exact ⟨0, 1, by rw [Nat.gcd_zero_left]; simp⟩
  | H1 m n hm ih =>
    obtain ⟨x, y, e⟩ := ih
    refine ⟨y - x * ((n / m : Nat) : Int), x, ?_⟩
    rw [Nat.gcd_rec, e]
    have h : ((n % m : Nat) : Int) = (n : Int) - (m : Int) * ((n / m : Nat) : Int) := by
      have := Nat.div_add_mod n m
      have h2 : ((m * (n / m) + n % m : Nat) : Int) = (n : Int) := by rw [this]
      rw [Int.natCast_add, Int.natCast_mul] at h2
      omega
    rw [h]
    generalize ((n / m : Nat) : Int) = q
    grind
theorem Pr.inv {p d : Int} (h : Pr p) (h0 : 0 < d) (h1 : d < p) : ∃ u : Int, p ∣ u * d - 1 := by
  obtain ⟨x, y, e⟩ := bez d.toNat p.toNat
  have hd : ((d.toNat : Nat) : Int) = d := Int.toNat_of_nonneg (by omega)
  have hp : ((p.toNat : Nat) : Int) = p := Int.toNat_of_nonneg (by omega)
  rw [hd, hp] at e
  have g1 : ((Nat.gcd d.toNat p.toNat : Nat) : Int) ∣ d := by
    have := Int.ofNat_dvd.mpr (Nat.gcd_dvd_left d.toNat p.toNat)
    rwa [hd] at this
  have g2 : ((Nat.gcd d.toNat p.toNat : Nat) : Int) ∣ p := by
    have := Int.ofNat_dvd.mpr (Nat.gcd_dvd_right d.toNat p.toNat)
    rwa [hp] at this
  have gnn : (0 : Int) ≤ ((Nat.gcd d.toNat p.toNat : Nat) : Int) := Int.natCast_nonneg _
  generalize ((Nat.gcd d.toNat p.toNat : Nat) : Int) = g at *
  have gd : g ≤ d := Int.le_of_dvd h0 g1
  have g0 : g ≠ 0 := fun z => by
    rw [z] at g1
    have := Int.zero_dvd.mp g1
    omega
  have gn : g = 1 := by
    by_cases hg : 2 ≤ g
    · exact absurd g2 (h.2 g hg (by omega))
    · omega
  refine ⟨x, -y, ?_⟩
  rw [gn] at e
  grind
/-- closed under d: all -/
theorem closed_all {p d : Int} (h : Pr p) (h0 : 0 < d) (h1 : d < p) {L : List Int} (hne : L ≠ []) (hc : ∀ y ∈ L, (y + d) % p ∈ L) (hb : ∀ x ∈ L, 0 ≤ x ∧ x < p) : p.toNat ≤ L.length := by
  obtain ⟨u, hu⟩ := h.inv h0 h1
  obtain ⟨y0, hy0⟩ := List.exists_mem_of_ne_nil L hne
  have pp : 0 < p := by omega
  have run : ∀ k : Nat, (y0 + (k : Int) * d) % p ∈ L := fun k => by
    induction k with
    | zero =>
      have e : (y0 + ((0 : Nat) : Int) * d) % p = y0 := by
        have := hb y0 hy0
        rw [show y0 + ((0 : Nat) : Int) * d = y0 by simp]
        exact Int.emod_eq_of_lt this.1 this.2
      rw [e]
      exact hy0
    | succ k ih =>
      have := hc _ ih
      rw [Int.emod_add_emod] at this
      have e : y0 + ((k + 1 : Nat) : Int) * d = y0 + (k : Int) * d + d := by
        rw [Int.natCast_add, Int.add_mul]
        show y0 + ((k : Int) * d + 1 * d) = _
        omega
      rw [e]
      exact this
  have all : ∀ z, 0 ≤ z → z < p → z ∈ L := fun z z0 z1 => by
    have hk := run (((z - y0) * u) % p).toNat
    rw [Int.toNat_of_nonneg (Int.emod_nonneg _ (by omega))] at hk
    have e : (y0 + (z - y0) * u % p * d) % p = z := by
      have e1 : (y0 + (z - y0) * u % p * d) % p = z % p := by
        apply Int.emod_eq_emod_iff_emod_sub_eq_zero.mpr
        apply Int.emod_eq_zero_of_dvd
        obtain ⟨c, hc⟩ := hu
        have := Int.emod_def ((z - y0) * u) p
        refine ⟨(z - y0) * c - (z - y0) * u / p * d, ?_⟩
        rw [this]
        generalize (z - y0) * u / p = q
        have hud : u * d = p * c + 1 := by omega
        grind
      rw [e1]
      exact Int.emod_eq_of_lt z0 z1
    rw [e] at hk
    exact hk
  have := len_sub (A := uptoI p.toNat) (B := L) (nodup_uptoI _) fun x hx => by
    obtain ⟨a, b⟩ := mem_uptoI.mp hx
    rw [Int.toNat_of_nonneg (by omega)] at b
    exact all x a b
  rwa [len_uptoI] at this
theorem shift_inj {p l x y : Int} (hx : 0 ≤ x ∧ x < p) (hy : 0 ≤ y ∧ y < p) (h : (x + l) % p = (y + l) % p) : x = y := by
  have := Int.emod_eq_emod_iff_emod_sub_eq_zero.mp h
  have e : x + l - (y + l) = x - y := by omega
  rw [e] at this
  obtain ⟨c, hc⟩ := Int.dvd_of_emod_eq_zero this
  have hp : 0 < p := by omega
  have c0 : c = 0 := by
    by_cases h1 : 1 ≤ c
    · have : p * 1 ≤ p * c := Int.mul_le_mul_of_nonneg_left h1 (by omega)
      omega
    · by_cases h2 : c ≤ -1
      · have : p * c ≤ p * (-1) := Int.mul_le_mul_of_nonneg_left h2 (by omega)
        omega
      · omega
  rw [c0] at hc
  omega
/-- two shifts of a part: one more -/
theorem grow {p l h : Int} (hp : Pr p) (hl : 0 ≤ l ∧ l < p) (hh : 0 ≤ h ∧ h < p) (hne : l ≠ h) {ks ks' : List Int} (hk : ks.Nodup) (hb : ∀ x ∈ ks, 0 ≤ x ∧ x < p) (hn : ks ≠ []) (hlt : ks.length < p.toNat)
    (h1 : ∀ r ∈ ks, (r + l) % p ∈ ks') (h2 : ∀ r ∈ ks, (r + h) % p ∈ ks') : ks.length + 1 ≤ ks'.length := by
  have hM : (ks.map fun r => (r + l) % p).Nodup := nodup_map (fun x hx y hy e => shift_inj (hb x hx) (hb y hy) e) hk
  by_cases hc : ∀ r ∈ ks, (r + h) % p ∈ ks.map fun r => (r + l) % p
  · exfalso
    have pp : 0 < p := by omega
    have d0 : (h - l) % p ≠ 0 := fun z => by
      obtain ⟨c, e⟩ := Int.dvd_of_emod_eq_zero z
      have c0 : c = 0 := by
        by_cases h1 : 1 ≤ c
        · have : p * 1 ≤ p * c := Int.mul_le_mul_of_nonneg_left h1 (by omega)
          omega
        · by_cases h2 : c ≤ -1
          · have : p * c ≤ p * (-1) := Int.mul_le_mul_of_nonneg_left h2 (by omega)
            omega
          · omega
      rw [c0] at e
      omega
    have d1 := Int.emod_nonneg (h - l) (by omega : p ≠ 0)
    have d2 := Int.emod_lt_of_pos (h - l) pp
    have := closed_all hp (d := (h - l) % p) (by omega) d2 hn (fun y hy => by
      obtain ⟨r, hr, e⟩ := List.mem_map.mp (hc y hy)
      have er : (y + (h - l) % p) % p = r := by
        have hr' := hb r hr
        rw [Int.add_emod_emod]
        have e2 : (y + (h - l)) % p = r % p := by
          apply Int.emod_eq_emod_iff_emod_sub_eq_zero.mpr
          have := Int.emod_eq_emod_iff_emod_sub_eq_zero.mp e.symm
          have e3 : y + (h - l) - r = y + h - (r + l) := by omega
          rw [e3]
          exact this
        rw [e2]
        exact Int.emod_eq_of_lt hr'.1 hr'.2
      rw [er]
      exact hr) hb
    omega
  · have ⟨r, hr, hx⟩ : ∃ r ∈ ks, (r + h) % p ∉ ks.map fun r => (r + l) % p := by
      apply Classical.byContradiction
      intro z
      exact hc fun r hr => Classical.byContradiction fun q => z ⟨r, hr, q⟩
    have := len_sub (A := (r + h) % p :: ks.map fun r => (r + l) % p) (B := ks') (List.nodup_cons.mpr ⟨hx, hM⟩) fun x hx => by
      rcases List.mem_cons.mp hx with e | hx
      · rw [e]
        exact h2 r hr
      · obtain ⟨r', hr', rfl⟩ := List.mem_map.mp hx
        exact h1 r' hr'
    rw [List.length_cons, List.length_map] at this
    exact this
end Wl
namespace Wl
/-! ### the least prime -/
def LP (n a : Int) : Prop := 2 ≤ a ∧ ∀ e : Int, 2 ≤ e → e < a → ¬ e ∣ n
theorem LP.start (n : Int) : LP n 2 := ⟨by omega, fun e h1 h2 => by omega⟩
theorem LP.next {n a : Int} (h : LP n a) (hd : ¬ a ∣ n) : LP n (a + 1) := ⟨by have := h.1; omega, fun e h1 h2 => by
  by_cases he : e = a
  · rw [he]
    exact hd
  · exact h.2 e h1 (by omega)⟩
theorem LP.hit {n a : Int} (h : LP n a) (hd : a ∣ n) : Pr a := ⟨h.1, fun e h1 h2 h3 => h.2 e h1 h2 (Int.dvd_trans h3 hd)⟩
theorem LP.done {n a : Int} (h : LP n a) (hn : 2 ≤ n) (hl : n < a * a) : Pr n := ⟨hn, fun e h1 h2 ⟨c, hc⟩ => by
  have c1 : 2 ≤ c := by
    by_cases hc1 : c ≤ 1
    · have : e * c ≤ e * 1 := Int.mul_le_mul_of_nonneg_left hc1 (by omega)
      omega
    · omega
  by_cases ea : e < a
  · exact h.2 e h1 ea ⟨c, hc⟩
  · by_cases ca : c < a
    · exact h.2 c c1 ca ⟨e, by rw [hc, Int.mul_comm]⟩
    · have h3 : a * a ≤ e * c := Int.mul_le_mul (by omega) (by omega) (by have := h.1; omega) (by omega)
      omega⟩
/-! ### picked pairs -/
abbrev Ps := List (Int × Int)
def Pick (ts : Ps) (m : Nat) (ns : List Int) : Prop := ∃ S : Ps, (∀ e ∈ S, e ∈ ts) ∧ (S.map (·.2)).Nodup ∧ S.length = m ∧ ns = S.map (·.2) ∧ (m : Int) ∣ (S.map (·.1)).sum
theorem lift_map {α β : Type} {f : α → β} {l : List α} : ∀ {S : List β}, (∀ e ∈ S, e ∈ l.map f) → ∃ S0 : List α, (∀ e ∈ S0, e ∈ l) ∧ S = S0.map f
  | [], _ => ⟨[], (fun _ h => nomatch h), rfl⟩
  | s :: S, h => by
    obtain ⟨S0, h1, h2⟩ := lift_map (S := S) fun e he => h e (List.mem_cons_of_mem _ he)
    obtain ⟨a, ha, rfl⟩ := List.mem_map.mp (h s List.mem_cons_self)
    exact ⟨a :: S0, fun e he => by
      rcases List.mem_cons.mp he with e1 | he
      · rw [e1]
        exact ha
      · exact h1 e he, by rw [h2]; rfl⟩
theorem sum_mod {m : Int} : ∀ S : Ps, m ∣ (S.map (·.1)).sum - (S.map fun e => e.1 % m).sum
  | [] => ⟨0, by simp⟩
  | s :: S => by
    obtain ⟨c, hc⟩ := sum_mod (m := m) S
    have := Int.emod_def s.1 m
    refine ⟨c + s.1 / m, ?_⟩
    simp only [List.map_cons, List.sum_cons]
    rw [this, Int.mul_add, ← hc]
    omega
theorem Pick.of_mod {rs ts : Ps} {m : Nat} {ns : List Int} (hp : ∀ e ∈ rs, e ∈ ts.map fun e => (e.1 % (m : Int), e.2)) (h : Pick rs m ns) : Pick ts m ns := by
  obtain ⟨S, h1, h2, h3, h4, h5⟩ := h
  obtain ⟨S0, h6, rfl⟩ := lift_map (S := S) fun e he => hp e (h1 e he)
  simp only [List.map_map, List.length_map] at h2 h3 h4 h5
  refine ⟨S0, h6, h2, h3, h4, ?_⟩
  have := sum_mod (m := (m : Int)) S0
  have e : (S0.map (·.1)).sum = ((S0.map (·.1)).sum - (S0.map fun e => e.1 % (m : Int)).sum) + (S0.map fun e => e.1 % (m : Int)).sum := by omega
  rw [e]
  exact Int.dvd_add this h5
def gp (rs : Ps) (j : Nat) : Int × Int := rs.getD j (0, 0)
theorem gp_mem {rs : Ps} {j : Nat} (h : j < rs.length) : gp rs j ∈ rs := by
  unfold gp
  rw [List.getD_eq_getElem?_getD, List.getElem?_eq_getElem h]
  exact List.getElem_mem h
theorem nodup_at {α : Type} : ∀ {l : List α} {i j : Nat} {x : α}, l.Nodup → l[i]? = some x → l[j]? = some x → i = j
  | [], _, _, _, _, h, _ => by simp at h
  | a :: l, 0, 0, _, _, _, _ => rfl
  | a :: l, 0, j + 1, x, h, h1, h2 => by
    have e : a = x := Option.some.inj h1
    have m : x ∈ l := List.mem_of_getElem? (by simpa using h2)
    exact absurd (e ▸ m) (List.nodup_cons.mp h).1
  | a :: l, i + 1, 0, x, h, h1, h2 => by
    have e : a = x := Option.some.inj h2
    have m : x ∈ l := List.mem_of_getElem? (by simpa using h1)
    exact absurd (e ▸ m) (List.nodup_cons.mp h).1
  | a :: l, i + 1, j + 1, x, h, h1, h2 => congrArg (· + 1) (nodup_at (List.nodup_cons.mp h).2 (by simpa using h1) (by simpa using h2))
theorem gp_inj {rs : Ps} (h : (rs.map (·.2)).Nodup) {i j : Nat} (hi : i < rs.length) (hj : j < rs.length) (e : (gp rs i).2 = (gp rs j).2) : i = j := by
  have at_ : ∀ k, k < rs.length → (rs.map (·.2))[k]? = some (gp rs k).2 := fun k hk => by
    rw [List.getElem?_map, List.getElem?_eq_getElem hk]
    unfold gp
    rw [List.getD_eq_getElem?_getD, List.getElem?_eq_getElem hk]
    rfl
  exact nodup_at h (at_ i hi) (by rw [e]; exact at_ j hj)
/-- the places that are used up in k turns -/
def InW (p k j : Nat) : Prop := j = 2 * p - 2 ∨ j < k ∨ (p - 1 ≤ j ∧ j < p - 1 + k)
/-- ns: names of k + 1 of them, whose rests make x -/
def Way (rs : Ps) (p k : Nat) (x : Int) (ns : List Int) : Prop := ∃ J : List Nat, J.Nodup ∧ (∀ j ∈ J, InW p k j) ∧ J.length = k + 1 ∧ ns = J.map (fun j => (gp rs j).2) ∧ (p : Int) ∣ (J.map fun j => (gp rs j).1).sum - x
theorem way0 {rs : Ps} {p : Nat} : Way rs p 0 (gp rs (2 * p - 2)).1 [(gp rs (2 * p - 2)).2] :=
  ⟨[2 * p - 2], List.nodup_cons.mpr ⟨List.not_mem_nil, List.nodup_nil⟩, fun j hj => .inl (List.mem_singleton.mp hj), rfl, rfl, ⟨0, by simp⟩⟩
theorem Way.more {rs : Ps} {p k : Nat} {x : Int} {ns : List Int} (h : Way rs p k x ns) (hk : k < p - 1) {i : Nat} (hi : i = k ∨ i = k + p - 1) : Way rs p (k + 1) ((x + (gp rs i).1) % (p : Int)) (ns ++ [(gp rs i).2]) := by
  obtain ⟨J, h1, h2, h3, rfl, h5⟩ := h
  have hni : i ∉ J := fun hm => by
    have := h2 i hm
    unfold InW at this
    omega
  refine ⟨J ++ [i], ?_, fun j hj => ?_, by rw [List.length_append, h3]; rfl, by rw [List.map_append]; rfl, ?_⟩
  · rw [List.nodup_append]
    refine ⟨h1, List.nodup_cons.mpr ⟨List.not_mem_nil, List.nodup_nil⟩, fun a ha b hb e => hni ?_⟩
    rw [List.mem_singleton] at hb
    rw [← hb, ← e]
    exact ha
  · unfold InW
    rcases List.mem_append.mp hj with hj | hj
    · have := h2 j hj
      unfold InW at this
      omega
    · rw [List.mem_singleton.mp hj]
      omega
  · obtain ⟨c, hc⟩ := h5
    have e := Int.emod_def (x + (gp rs i).1) (p : Int)
    refine ⟨c + (x + (gp rs i).1) / (p : Int), ?_⟩
    rw [List.map_append, List.sum_append, e, Int.mul_add, ← hc]
    simp only [List.map_cons, List.map_nil, List.sum_cons, List.sum_nil]
    omega
theorem Way.pick {rs : Ps} {p : Nat} {ns : List Int} (hp : 1 ≤ p) (hl : rs.length = 2 * p - 1) (hn : (rs.map (·.2)).Nodup) (h : Way rs p (p - 1) 0 ns) : Pick rs p ns := by
  obtain ⟨J, h1, h2, h3, h4, h5⟩ := h
  have hb : ∀ j ∈ J, j < rs.length := fun j hj => by
    have := h2 j hj
    unfold InW at this
    omega
  refine ⟨J.map (gp rs), fun e he => ?_, ?_, by rw [List.length_map]; omega, by rw [List.map_map]; exact h4, ?_⟩
  · obtain ⟨j, hj, rfl⟩ := List.mem_map.mp he
    exact gp_mem (hb j hj)
  · rw [List.map_map]
    exact nodup_map (fun i hi j hj e => gp_inj hn (hb i hi) (hb j hj) e) h1
  · rw [List.map_map]
    rw [Int.sub_zero] at h5
    exact h5
theorem sum_const {r : Int} : ∀ {S : Ps}, (∀ e ∈ S, e.1 = r) → (S.map (·.1)).sum = (S.length : Int) * r
  | [], _ => by simp
  | s :: S, h => by
    rw [List.map_cons, List.sum_cons, h s List.mem_cons_self, sum_const fun e he => h e (List.mem_cons_of_mem _ he), List.length_cons, Int.natCast_add, Int.add_mul]
    show r + _ = _ + 1 * r
    omega
/-- a whole row of one rest -/
theorem same_pick {rs : Ps} {p k : Nat} (hp : 1 ≤ p) (hl : rs.length = 2 * p - 1) (hn : (rs.map (·.2)).Nodup) (hs : rs.Pairwise fun a b => a.1 ≤ b.1) (hk : k < p - 1) (he : (gp rs k).1 = (gp rs (k + p - 1)).1) : Pick rs p (((rs.drop k).take p).map (·.2)) := by
  have hsub : ((rs.drop k).take p).Sublist rs := (List.take_sublist _ _).trans (List.drop_sublist _ _)
  have hlen : ((rs.drop k).take p).length = p := by
    rw [List.length_take, List.length_drop]
    omega
  have hle : ∀ i j, i < j → j < rs.length → (gp rs i).1 ≤ (gp rs j).1 := fun i j hij hj => by
    have := List.pairwise_iff_getElem.mp hs i j (by omega) hj hij
    unfold gp
    rw [List.getD_eq_getElem?_getD, List.getD_eq_getElem?_getD, List.getElem?_eq_getElem hj, List.getElem?_eq_getElem (by omega)]
    exact this
  have all : ∀ e ∈ (rs.drop k).take p, e.1 = (gp rs k).1 := fun e hm => by
    obtain ⟨i, hi, rfl⟩ := List.mem_iff_getElem.mp hm
    rw [hlen] at hi
    have e1 : ((rs.drop k).take p)[i]'(by rw [hlen]; exact hi) = gp rs (k + i) := by
      rw [List.getElem_take, List.getElem_drop]
      unfold gp
      rw [List.getD_eq_getElem?_getD, List.getElem?_eq_getElem (by omega)]
      rfl
    rw [e1]
    by_cases h0 : i = 0
    · rw [h0]
      rfl
    · have a := hle k (k + i) (by omega) (by omega)
      by_cases h1 : k + i = k + p - 1
      · rw [h1, he]
      · have b := hle (k + i) (k + p - 1) (by omega) (by omega)
        omega
  refine ⟨_, fun e he => hsub.mem he, List.Nodup.sublist (hsub.map _) hn, hlen, rfl, ?_⟩
  rw [sum_const all, hlen]
  exact ⟨_, rfl⟩
end Wl
namespace Wl
/-! ### groups -/
def gg (G : List (Int × Ps)) (k : Nat) : Int × Ps := G.getD k (0, [])
theorem gg_mem {G : List (Int × Ps)} {k : Nat} (h : k < G.length) : gg G k ∈ G := by
  unfold gg
  rw [List.getD_eq_getElem?_getD, List.getElem?_eq_getElem h]
  exact List.getElem_mem h
/-- x k for k in range(n), each with its k -/
def numd (n : Nat) (x : Nat → Int) : Ps := (List.range n).map fun k => (x k, (k : Int))
theorem numd_mem {n : Nat} {x : Nat → Int} {e : Int × Int} (h : e ∈ numd n x) : ∃ k : Nat, k < n ∧ e = (x k, (k : Int)) := by
  obtain ⟨k, hk, rfl⟩ := List.mem_map.mp h
  exact ⟨k, List.mem_range.mp hk, rfl⟩
theorem numd_nodup (n : Nat) (x : Nat → Int) : ((numd n x).map (·.2)).Nodup := by
  unfold numd
  rw [List.map_map]
  exact nodup_map (fun i _ j _ (e : (i : Int) = (j : Int)) => by omega) List.nodup_range
theorem numd_len (n : Nat) (x : Nat → Int) : (numd n x).length = n := by
  unfold numd
  rw [List.length_map, List.length_range]
/-- what is picked of numbered things -/
theorem Pick.at {n m : Nat} {x : Nat → Int} {ns : List Int} (h : Pick (numd n x) m ns) : ns.Nodup ∧ (∀ i ∈ ns, 0 ≤ i ∧ i < (n : Int)) ∧ ns.length = m ∧ (m : Int) ∣ (ns.map fun i => x i.toNat).sum := by
  obtain ⟨S, h1, h2, h3, rfl, h5⟩ := h
  refine ⟨h2, fun i hi => ?_, by rw [List.length_map, h3], ?_⟩
  · obtain ⟨e, he, rfl⟩ := List.mem_map.mp hi
    obtain ⟨k, hk, rfl⟩ := numd_mem (h1 e he)
    show 0 ≤ (k : Int) ∧ (k : Int) < _
    omega
  · rw [List.map_map]
    have e : S.map ((fun i : Int => x i.toNat) ∘ (·.2)) = S.map (·.1) := List.map_congr_left fun e he => by
      obtain ⟨k, hk, rfl⟩ := numd_mem (h1 e he)
      rfl
    rw [e]
    exact h5
theorem Pick.mk {n m : Nat} {x : Nat → Int} {ns : List Int} (h1 : ns.Nodup) (h2 : ∀ i ∈ ns, 0 ≤ i ∧ i < (n : Int)) (h3 : ns.length = m) (h4 : (m : Int) ∣ (ns.map fun i => x i.toNat).sum) : Pick (numd n x) m ns := by
  refine ⟨ns.map fun i => (x i.toNat, i), fun e he => ?_, ?_, by rw [List.length_map, h3], ?_, ?_⟩
  · obtain ⟨i, hi, rfl⟩ := List.mem_map.mp he
    have := h2 i hi
    exact List.mem_map.mpr ⟨i.toNat, List.mem_range.mpr (by omega), by rw [Int.toNat_of_nonneg this.1]⟩
  · rw [List.map_map]
    exact nodup_map (fun i _ j _ (e : i = j) => e) h1
  · rw [List.map_map]
    exact (List.map_id _).symm
  · rw [List.map_map]
    exact h4
structure GInv (ts left : Ps) (G : List (Int × Ps)) (p m : Nat) : Prop where
  sub1 : ∀ e ∈ left, e ∈ ts
  sub2 : ∀ g ∈ G, ∀ e ∈ g.2, e ∈ ts
  nd : ((G.flatMap (·.2) ++ left).map (·.2)).Nodup
  grp : ∀ g ∈ G, g.2.length = p ∧ (g.2.map (·.1)).sum = (p : Int) * g.1
  cnt : left.length + p * G.length = 2 * m - 1
  low : p - 1 ≤ left.length
theorem GInv.start {ts : Ps} {p m : Nat} (hn : (ts.map (·.2)).Nodup) (hl : ts.length = 2 * m - 1) (hp : p ≤ m) : GInv ts ts [] p m :=
  ⟨fun _ h => h, (fun _ h => nomatch h), hn, (fun _ h => nomatch h), by simp [hl], by omega⟩
theorem nodup_to {ts : Ps} {L : List Nat} (h : (ts.map (·.2)).Nodup) (hL : L.Nodup) (hb : ∀ k ∈ L, k < ts.length) : (L.map fun k => (gp ts k).2).Nodup := nodup_map (fun i hi j hj e => gp_inj h (hb i hi) (hb j hj) e) hL
def rest_ (n : Nat) (ns : List Int) : List Nat := (List.range n).filter fun k => !decide ((k : Int) ∈ ns)
theorem rest_mem {n k : Nat} {ns : List Int} : k ∈ rest_ n ns ↔ k < n ∧ (k : Int) ∉ ns := by
  unfold rest_
  rw [List.mem_filter, List.mem_range, Bool.not_eq_true', decide_eq_false_iff_not]
theorem rest_nodup (n : Nat) (ns : List Int) : (rest_ n ns).Nodup := List.Nodup.sublist List.filter_sublist List.nodup_range
theorem to_nodup {n : Nat} {ns : List Int} (h : ns.Nodup) (hb : ∀ i ∈ ns, 0 ≤ i ∧ i < (n : Int)) : (ns.map Int.toNat).Nodup := nodup_map (fun i hi j hj (e : i.toNat = j.toNat) => by
  have := hb i hi
  have := hb j hj
  omega) h
theorem both_nodup {n : Nat} {ns : List Int} (h : ns.Nodup) (hb : ∀ i ∈ ns, 0 ≤ i ∧ i < (n : Int)) : (ns.map Int.toNat ++ rest_ n ns).Nodup := by
  rw [List.nodup_append]
  refine ⟨to_nodup h hb, rest_nodup n ns, fun a ha b hb' e => ?_⟩
  subst e
  obtain ⟨i, hi, rfl⟩ := List.mem_map.mp ha
  have := (rest_mem.mp hb').2
  rw [Int.toNat_of_nonneg (hb i hi).1] at this
  exact this hi
theorem rest_len {n : Nat} {ns : List Int} (h : ns.Nodup) (hb : ∀ i ∈ ns, 0 ≤ i ∧ i < (n : Int)) : ns.length + (rest_ n ns).length = n := by
  have h1 := len_sub (both_nodup h hb) (B := List.range n) fun k hk => by
    rcases List.mem_append.mp hk with hk | hk
    · obtain ⟨i, hi, rfl⟩ := List.mem_map.mp hk
      have := hb i hi
      exact List.mem_range.mpr (by omega)
    · exact List.mem_range.mpr (rest_mem.mp hk).1
  have h2 := len_sub (A := List.range n) (B := ns.map Int.toNat ++ rest_ n ns) List.nodup_range fun k hk => by
    by_cases hm : (k : Int) ∈ ns
    · exact List.mem_append_left _ (List.mem_map.mpr ⟨k, hm, rfl⟩)
    · exact List.mem_append_right _ (rest_mem.mpr ⟨List.mem_range.mp hk, hm⟩)
  rw [List.length_append, List.length_map, List.length_range] at h1 h2
  omega
theorem GInv.step {ts left : Ps} {G : List (Int × Ps)} {p m : Nat} {ns : List Int} (g : GInv ts left G p m) (hp : 1 ≤ p) (hl : 2 * p - 1 ≤ left.length) (h : Pick (numd (2 * p - 1) fun k => (gp left k).1) p ns) :
    (p : Int) ∣ ((ns.map fun i => gp left i.toNat).map (·.1)).sum ∧ GInv ts ((rest_ left.length ns).map (gp left)) (G ++ [(((ns.map fun i => gp left i.toNat).map (·.1)).sum / (p : Int), ns.map fun i => gp left i.toNat)]) p m := by
  obtain ⟨h1, h2, h3, h4⟩ := h.at
  have hd : (p : Int) ∣ ((ns.map fun i => gp left i.toNat).map (·.1)).sum := by
    rw [List.map_map]
    exact h4
  have hb : ∀ i ∈ ns, 0 ≤ i ∧ i < (left.length : Int) := fun i hi => by
    have := h2 i hi
    omega
  have hlen := rest_len h1 hb
  have hgm : ∀ e ∈ ns.map fun i => gp left i.toNat, e ∈ left := fun e he => by
    obtain ⟨i, hi, rfl⟩ := List.mem_map.mp he
    have := hb i hi
    exact gp_mem (by omega)
  have hrm : ∀ e ∈ (rest_ left.length ns).map (gp left), e ∈ left := fun e he => by
    obtain ⟨k, hk, rfl⟩ := List.mem_map.mp he
    exact gp_mem (rest_mem.mp hk).1
  have nd := g.nd
  rw [List.map_append, List.nodup_append] at nd
  obtain ⟨n1, n2, n3⟩ := nd
  refine ⟨hd, fun e he => g.sub1 e (hrm e he), fun x hx e he => ?_, ?_, fun x hx => ?_, ?_, ?_⟩
  · rcases List.mem_append.mp hx with hx | hx
    · exact g.sub2 x hx e he
    · rw [List.mem_singleton.mp hx] at he
      exact g.sub1 e (hgm e he)
  · have e1 : (G ++ [(((ns.map fun i => gp left i.toNat).map (·.1)).sum / (p : Int), ns.map fun i => gp left i.toNat)]).flatMap (·.2) ++ (rest_ left.length ns).map (gp left) = G.flatMap (·.2) ++ ((ns.map fun i => gp left i.toNat) ++ (rest_ left.length ns).map (gp left)) := by
      rw [List.flatMap_append, List.append_assoc]
      simp
    rw [e1, List.map_append, List.nodup_append]
    refine ⟨n1, ?_, fun a ha b hb' => n3 a ha b ?_⟩
    · have e2 : ((ns.map fun i => gp left i.toNat) ++ (rest_ left.length ns).map (gp left)).map (·.2) = (ns.map Int.toNat ++ rest_ left.length ns).map fun k => (gp left k).2 := by
        rw [List.map_append, List.map_append, List.map_map, List.map_map, List.map_map]
        rfl
      rw [e2]
      refine nodup_to n2 (both_nodup h1 hb) fun k hk => ?_
      rcases List.mem_append.mp hk with hk | hk
      · obtain ⟨i, hi, rfl⟩ := List.mem_map.mp hk
        have := hb i hi
        omega
      · exact (rest_mem.mp hk).1
    · obtain ⟨e, he, rfl⟩ := List.mem_map.mp hb'
      exact List.mem_map.mpr ⟨e, (List.mem_append.mp he).elim (hgm e) (hrm e), rfl⟩
  · rcases List.mem_append.mp hx with hx | hx
    · exact g.grp x hx
    · rw [List.mem_singleton.mp hx]
      exact ⟨by rw [List.length_map, h3], (Int.mul_ediv_cancel' hd).symm⟩
  · have := g.cnt
    rw [List.length_map, List.length_append, List.length_singleton, Nat.mul_add]
    omega
  · rw [List.length_map]
    omega
theorem flat_apart : ∀ {L : List (List Int)}, L.flatten.Nodup → (∀ (i : Nat) x, L[i]? = some x → x.Nodup) ∧ ∀ (i j : Nat) x y, i ≠ j → L[i]? = some x → L[j]? = some y → ∀ a ∈ x, a ∉ y
  | [], _ => ⟨(fun i x h => by simp at h), fun i j x y _ h => by simp at h⟩
  | l :: L, h => by
    rw [List.flatten_cons, List.nodup_append] at h
    obtain ⟨h1, h2, h3⟩ := h
    obtain ⟨r1, r2⟩ := flat_apart h2
    have inL : ∀ (j : Nat) y, L[j]? = some y → ∀ a ∈ y, a ∈ L.flatten := fun j y hy a ha => List.mem_flatten.mpr ⟨y, List.mem_of_getElem? hy, ha⟩
    refine ⟨fun i x hx => ?_, fun i j x y hij hx hy a ha hb => ?_⟩
    · cases i with
      | zero =>
        cases hx
        exact h1
      | succ i => exact r1 i x (by simpa using hx)
    · cases i with
      | zero =>
        cases hx
        cases j with
        | zero => exact hij rfl
        | succ j => exact h3 a ha a (inL j y (by simpa using hy) a hb) rfl
      | succ i =>
        cases j with
        | zero =>
          cases hy
          exact h3 a hb a (inL i x (by simpa using hx) a ha) rfl
        | succ j => exact r2 i j x y (fun e => hij (congrArg (· + 1) e)) (by simpa using hx) (by simpa using hy) a ha hb
theorem GInv.done {ts left : Ps} {G : List (Int × Ps)} {p q m : Nat} {ks : List Int} (g : GInv ts left G p m) (hm : m = p * q) (h : Pick (numd G.length fun k => (gg G k).1) q ks) : Pick ts m (ks.flatMap fun k => (gg G k.toNat).2.map (·.2)) := by
  obtain ⟨h1, h2, h3, h4⟩ := h.at
  have hin : ∀ k ∈ ks, gg G k.toNat ∈ G := fun k hk => gg_mem (by have := h2 k hk; omega)
  have nd := g.nd
  rw [List.map_append, List.nodup_append] at nd
  have n1 := nd.1
  have e1 : (G.flatMap (·.2)).map (·.2) = (G.map fun x => x.2.map (·.2)).flatten := by
    rw [List.flatMap_def, List.map_flatten, List.map_map]
    rfl
  rw [e1] at n1
  obtain ⟨a1, a2⟩ := flat_apart n1
  have at_ : ∀ k ∈ ks, (G.map fun x => x.2.map (·.2))[k.toNat]? = some ((gg G k.toNat).2.map (·.2)) := fun k hk => by
    have := h2 k hk
    rw [List.getElem?_map, List.getElem?_eq_getElem (by omega)]
    unfold gg
    rw [List.getD_eq_getElem?_getD, List.getElem?_eq_getElem (by omega)]
    rfl
  have emap : ∀ l : List Int, (l.flatMap fun k => (gg G k.toNat).2).map (·.2) = l.flatMap fun k => (gg G k.toNat).2.map (·.2) := fun l => by
    rw [List.map_flatMap]
  refine ⟨ks.flatMap fun k => (gg G k.toNat).2, fun e he => ?_, ?_, ?_, (emap ks).symm, ?_⟩
  · obtain ⟨k, hk, he⟩ := List.mem_flatMap.mp he
    exact g.sub2 _ (hin k hk) e he
  · rw [emap]
    have : ∀ l : List Int, l.Nodup → (∀ k ∈ l, k ∈ ks) → (l.flatMap fun k => (gg G k.toNat).2.map (·.2)).Nodup := fun l => by
      induction l with
      | nil => exact fun _ _ => List.nodup_nil
      | cons k l ih =>
        intro hn hs
        obtain ⟨hk, hn⟩ := List.nodup_cons.mp hn
        rw [List.flatMap_cons, List.nodup_append]
        have hks := hs k List.mem_cons_self
        refine ⟨a1 _ _ (at_ k hks), ih hn fun x hx => hs x (List.mem_cons_of_mem _ hx), fun a ha b hb e => ?_⟩
        subst e
        obtain ⟨k', hk', hb⟩ := List.mem_flatMap.mp hb
        have hks' := hs k' (List.mem_cons_of_mem _ hk')
        refine a2 k.toNat k'.toNat _ _ (fun z => hk ?_) (at_ k hks) (at_ k' hks') a ha hb
        have b1 := h2 k hks
        have b2 := h2 k' hks'
        have : k = k' := by omega
        rw [this]
        exact hk'
    exact this ks h1 fun _ h => h
  · have : ∀ l : List Int, (∀ k ∈ l, k ∈ ks) → (l.flatMap fun k => (gg G k.toNat).2).length = p * l.length := fun l => by
      induction l with
      | nil => exact fun _ => by simp
      | cons k l ih =>
        intro hs
        rw [List.flatMap_cons, List.length_append, (g.grp _ (hin k (hs k List.mem_cons_self))).1, ih fun x hx => hs x (List.mem_cons_of_mem _ hx), List.length_cons, Nat.mul_add]
        omega
    rw [this ks fun _ h => h, h3, hm]
  · have : ∀ l : List Int, (∀ k ∈ l, k ∈ ks) → ((l.flatMap fun k => (gg G k.toNat).2).map (·.1)).sum = (p : Int) * (l.map fun k => (gg G k.toNat).1).sum := fun l => by
      induction l with
      | nil => exact fun _ => by simp
      | cons k l ih =>
        intro hs
        rw [List.flatMap_cons, List.map_append, List.sum_append, (g.grp _ (hin k (hs k List.mem_cons_self))).2, ih fun x hx => hs x (List.mem_cons_of_mem _ hx), List.map_cons, List.sum_cons, Int.mul_add]
    rw [this ks fun _ h => h, hm, Int.natCast_mul]
    exact Int.mul_dvd_mul (Int.dvd_refl _) h4
/-- so many groups as are due -/
theorem GInv.count {ts left : Ps} {G : List (Int × Ps)} {p q m : Nat} (g : GInv ts left G p m) (hm : m = p * q) (hp : 1 ≤ p) (hq : 1 ≤ q) (hl : left.length < 2 * p - 1) : G.length = 2 * q - 1 := by
  have h1 := g.cnt
  have h2 := g.low
  have hpq : p ≤ p * q := Nat.le_mul_of_pos_right p hq
  rw [hm] at h1
  have e : p * G.length + left.length + 1 = 2 * (p * q) := by omega
  by_cases ha : G.length ≤ 2 * q - 2
  · have : p * G.length ≤ p * (2 * q - 2) := Nat.mul_le_mul_left p ha
    rw [Nat.mul_sub] at this
    have e2 : p * (2 * q) = 2 * (p * q) := by rw [← Nat.mul_assoc, Nat.mul_comm p 2, Nat.mul_assoc]
    rw [e2] at this
    omega
  · by_cases hb : 2 * q ≤ G.length
    · have : p * (2 * q) ≤ p * G.length := Nat.mul_le_mul_left p hb
      have e2 : p * (2 * q) = 2 * (p * q) := by rw [← Nat.mul_assoc, Nat.mul_comm p 2, Nat.mul_assoc]
      rw [e2] at this
      omega
    · omega
end Wl
namespace Wl
/-! ### stretches -/
def res (ns : List Int) (k : Nat) : Int := (ns.take k).sum % (ns.length : Int)
theorem res_range {ns : List Int} (h : ns ≠ []) (k : Nat) : 0 ≤ res ns k ∧ res ns k < (ns.length : Int) := by
  have : 0 < ns.length := List.length_pos_iff.mpr h
  exact ⟨Int.emod_nonneg _ (by omega), Int.emod_lt_of_pos _ (by omega)⟩
theorem res_succ {ns : List Int} {k : Nat} (hk : k < ns.length) : (res ns k + ns.getD k 0) % (ns.length : Int) = res ns (k + 1) := by
  unfold res
  rw [Int.emod_add_emod, List.take_succ, List.getElem?_eq_getElem hk, List.sum_append, List.getD_eq_getElem?_getD, List.getElem?_eq_getElem hk]
  simp
def StrOk (ns : List Int) (i j : Int) : Prop := 0 ≤ i ∧ i ≤ j ∧ j < (ns.length : Int) ∧ ((ns.drop i.toNat).take (j + 1 - i).toNat).sum % (ns.length : Int) = 0
theorem str_of {ns : List Int} {k i : Nat} (hk : k ≤ i) (hi : i < ns.length) (h : res ns k = res ns (i + 1)) : StrOk ns (k : Int) (i : Int) := by
  refine ⟨by omega, by omega, by omega, ?_⟩
  rw [Int.toNat_natCast, show ((i : Int) + 1 - (k : Int)).toNat = i + 1 - k by omega]
  have e : ns.take (i + 1) = ns.take k ++ (ns.drop k).take (i + 1 - k) := by
    rw [show i + 1 = k + (i + 1 - k) by omega, List.take_add]
    congr 2
    omega
  unfold res at h
  rw [e, List.sum_append] at h
  have := Int.emod_eq_emod_iff_emod_sub_eq_zero.mp h.symm
  rw [show (ns.take k).sum + ((ns.drop k).take (i + 1 - k)).sum - (ns.take k).sum = ((ns.drop k).take (i + 1 - k)).sum by omega] at this
  exact this
theorem perm_sum {a b : List Int} (h : a.Perm b) : a.sum = b.sum := by
  induction h with
  | nil => rfl
  | cons x _ ih => rw [List.sum_cons, List.sum_cons, ih]
  | swap x y l =>
    simp only [List.sum_cons]
    omega
  | trans _ _ h1 h2 => exact h1.trans h2
/-- rising places, one more than half, whose sum goes by how many they are -/
def ChOk (ns ys : List Int) : Prop := ys.Pairwise (· < ·) ∧ (∀ y ∈ ys, 0 ≤ y ∧ y < (ns.length : Int)) ∧ 2 * ys.length = ns.length + 1 ∧ (ys.map fun y => ns.getD y.toNat 0).sum % (ys.length : Int) = 0
theorem ch_of {ns xs ys : List Int} {m : Nat} (hm : 2 * m = ns.length + 1) (h : Pick (numd ns.length fun k => ns.getD k 0) m xs) (hp : ys.Perm xs) (hs : ys.Pairwise (· ≤ ·)) : ChOk ns ys := by
  obtain ⟨h1, h2, h3, h4⟩ := h.at
  have hl : ys.length = m := by rw [hp.length_eq, h3]
  refine ⟨?_, fun y hy => h2 y (hp.mem_iff.mp hy), by rw [hl]; exact hm, ?_⟩
  · have hn : ys.Nodup := hp.nodup_iff.mpr h1
    have := hs.and (List.nodup_iff_pairwise_ne.mp hn)
    exact this.imp fun ⟨a, b⟩ => by omega
  · rw [hl, perm_sum (hp.map _)]
    exact Int.emod_eq_zero_of_dvd h4
theorem grow2 {l h : Int} {p i : Nat} (hp : Pr (p : Int)) (hl : 0 ≤ l ∧ l < (p : Int)) (hh : 0 ≤ h ∧ h < (p : Int)) (hne : l ≠ h) {ks ks' : List Int} (hk : ks.Nodup) (hb : ∀ x ∈ ks, 0 ≤ x ∧ x < (p : Int)) (hi : i + 1 ≤ ks.length) (hip : i + 1 < p)
    (h1 : ∀ r ∈ ks, (r + l) % (p : Int) ∈ ks') (h2 : ∀ r ∈ ks, (r + h) % (p : Int) ∈ ks') : i + 2 ≤ ks'.length := by
  by_cases hlt : ks.length < p
  · have := grow hp hl hh hne hk hb (fun z => by rw [z] at hi; simp at hi) (by rw [Int.toNat_natCast]; exact hlt) h1 h2
    omega
  · have hM : (ks.map fun r => (r + l) % (p : Int)).Nodup := nodup_map (fun x hx y hy e => shift_inj (hb x hx) (hb y hy) e) hk
    have := len_sub (B := ks') hM fun x hx => by
      obtain ⟨r, hr, rfl⟩ := List.mem_map.mp hx
      exact h1 r hr
    rw [List.length_map] at this
    omega
theorem Way.len {rs : Ps} {p k : Nat} {x : Int} {ns : List Int} (h : Way rs p k x ns) : ns.length = k + 1 := by
  obtain ⟨J, _, _, h3, rfl, _⟩ := h
  rw [List.length_map, h3]
theorem gp_eq {rs : Ps} {i : Nat} (h : i < rs.length) : rs.getD i (0, 1) = gp rs i := by
  unfold gp
  rw [List.getD_eq_getElem?_getD, List.getD_eq_getElem?_getD, List.getElem?_eq_getElem h]
  rfl
end Wl
namespace Wl
open PySem PySem.Spec PyProof.Rows L2 Evl
/-! ### a def that keeps a promise -/
/-- a promise by data: Pre of the arguments, Post of the heap ahead, the value, the heap behind -/
def spX {α : Type} (Pre : α → List V → Hp → Prop) (Post : α → Hp → V → Hp → Prop) : Sp := fun vs H Q _ => ∃ d, Pre d vs H ∧ ∀ v H', Ex H H' → Post d H v H' → Q v H'
structure Ok (P : Program) (w : World) (K : PySem.W.Frag) (mg : Str → Option Value) (base : Heap) (k : Nat) (f : Addr) (fd : FuncData) (ps : List Str) (sp : Sp) : Prop where
  (ok : FnOk P w K mg base CX0 k f fd ps sp) (bi : Binds K fd ps []) (kp : PySem.W.keepIn K (.ref f) = true)
abbrev Okk (P : Program) (w : World) (K : PySem.W.Frag) (mg : Str → Option Value) (base : Heap) (k : Nat) (f : Addr) (ps : List Str) (sp : Sp) : Prop := ∃ fd, Ok P w K mg base k f fd ps sp
/-- its body walked, wherever it is called: nothing is let out -/
abbrev BodyIn (P : Program) (w : World) (K : PySem.W.Frag) (mg : Str → Option Value) (base : Heap) (N : List Str) (qual : Str) (st : Stmt) (f : Addr) (k : Nat) (sp : Sp) : Prop :=
  ∀ (cd : Value) (B : Around) (out : List Env) (s : Shared) (H : Hp) (vs : List V) (Q : VK) (E : XK), Room k (B.deeper (envOfC qual (defScope st) s.heap.objs.size f cd)) → sp vs H Q E →
    ∃ t, PSs (cxOf CX0 P w K mg base N qual (defScope st) f cd B out s H E).nox (defBody st) t ∧ t { nx := fun _ H' => Q .non H', rt := Q } (start N vs) H
theorem okk {P : Program} {w : World} {K : PySem.W.Frag} {mg : Str → Option Value} {base : Heap} {x qual : Str} {st : Stmt} {f : Addr} {N ps : List Str} {k : Nat} {sp : Sp}
    (F : ∃ fd, Fun K x qual st f fd ∧ Binds K fd ps []) (S : FnScope N ps (defScope st)) (len : ∀ vs H Q E, sp vs H Q E → vs.length = ps.length) (body : BodyIn P w K mg base N qual st f k sp) : Okk P w K mg base (k + 1) f ps sp :=
  match F with
  | ⟨fd, F, b⟩ => ⟨fd, F.ok S len body, b, F.kp⟩

/-! ### what evaluates to what, with facts of the heap behind -/
def EvR (te : TE) (σ : L2.St) (H : Hp) (R : V → Hp → Prop) : Prop := ∀ H1, Ex H H1 → ∀ Q : VK, (∀ v H2, Ex H1 H2 → R v H2 → Q v H2) → te σ H1 Q
def EvAR (ta : TA) (σ : L2.St) (H : Hp) (R : List V → Hp → Prop) : Prop := ∀ H1, Ex H H1 → ∀ Q : List V → Hp → Prop, (∀ v H2, Ex H1 H2 → R v H2 → Q v H2) → ta σ H1 Q
section
variable {K : PySem.W.Frag} {σ : L2.St} {H H' : Hp} {ta tb tc te tx : TE} {t u : TT} {x y z v : V} {r r' : R2} {R R' S : V → Hp → Prop} {D : Ends} {tu tw tz : TS} {g : TG}
theorem EvR.mono (e : Ex H H') (h : EvR te σ H R) : EvR te σ H' R := fun H1 a Q q => h H1 (e.trans a) Q q
theorem EvR.imp (h : EvR te σ H R) (hi : ∀ v H2, Ex H H2 → R v H2 → R' v H2) : EvR te σ H R' := fun H1 a Q q => h H1 a Q fun v H2 e p => q v H2 e (hi v H2 (a.trans e) p)
theorem evr (h : Ev te σ H v) : EvR te σ H (fun x _ => x = v) := fun H1 a Q q => h H1 a Q fun H2 e => q v H2 e rfl
theorem EvR.ev (h : EvR te σ H R) (hi : ∀ x H2, Ex H H2 → R x H2 → x = v) : Ev te σ H v := fun H1 a Q q => h H1 a Q fun x H2 e p => by rw [hi x H2 (a.trans e) p]; exact q H2 e
theorem elr {xs : List V} (h : EvL te σ H xs) : EvR te σ H (fun v H2 => ∃ p, v = .ref p ∧ H p = none ∧ H2 p = some (.lst xs)) := fun H1 a Q q => h H1 a Q fun p H2 hp e h2 => q _ H2 e ⟨p, rfl, fresh_back a hp, h2⟩
theorem eur {xs : List V} (h : EvU te σ H xs) : EvR te σ H (fun v H2 => ∃ p, v = .ref p ∧ H p = none ∧ H2 p = some (.tup xs)) := fun H1 a Q q => h H1 a Q fun p H2 hp e h2 => q _ H2 e ⟨p, rfl, fresh_back a hp, h2⟩
/-- x, then whatever needs it -/
theorem er_op {Ra : V → Hp → Prop} {Rb : V → V → Hp → Prop} (ha : EvR ta σ H Ra) (hb : ∀ x H1, Ex H H1 → Ra x H1 → EvR tb σ H1 (Rb x))
    (hr : ∀ x y H1 H2, Ex H H1 → Ra x H1 → Ex H1 H2 → Rb x y H2 → ∀ Q : VK, (∀ v H3, Ex H2 H3 → R v H3 → Q v H3) → r x y H2 Q) : EvR (tOp r ta tb) σ H R := fun H1 e Q q =>
  ha H1 e _ fun x H2 e2 p => hb x H2 (e.trans e2) p H2 (Ex.refl _) _ fun y H3 e3 p3 => hr x y H2 H3 (e.trans e2) p e3 p3 Q fun v H4 e4 p4 => q v H4 ((e2.trans e3).trans e4) p4
/-- the first operand's value by facts, the second plain -/
theorem ev_opR {Ra : V → Hp → Prop} (ha : EvR ta σ H Ra) (hb : Ev tb σ H y) (hr : ∀ x H1, Ex H H1 → Ra x H1 → RV r x y H1 z) : Ev (tOp r ta tb) σ H z := fun H1 e Q q =>
  ha H1 e _ fun x H2 e2 p => hb H2 (e.trans e2) _ fun H3 e3 => hr x H2 (e.trans e2) p H3 e3 Q fun H4 e4 => q H4 ((e2.trans e3).trans e4)
/-- the second by facts -/
theorem ev_opR2 {Rb : V → Hp → Prop} (ha : Ev ta σ H x) (hb : EvR tb σ H Rb) (hr : ∀ y H1, Ex H H1 → Rb y H1 → RV r x y H1 z) : Ev (tOp r ta tb) σ H z := fun H1 e Q q =>
  ha H1 e _ fun H2 e2 => hb H2 (e.trans e2) _ fun y H3 e3 p => hr y H3 ((e.trans e2).trans e3) p H3 (Ex.refl _) Q fun H4 e4 => q H4 ((e2.trans e3).trans e4)
/-- both by facts -/
theorem ev_opRR {Ra Rb : V → Hp → Prop} (ha : EvR ta σ H Ra) (hb : EvR tb σ H Rb) (hr : ∀ x y H1 H2, Ex H H1 → Ra x H1 → Ex H1 H2 → Rb y H2 → RV r x y H2 z) : Ev (tOp r ta tb) σ H z := fun H1 e Q q =>
  ha H1 e _ fun x H2 e2 p => hb H2 (e.trans e2) _ fun y H3 e3 p3 => hr x y H2 H3 (e.trans e2) p e3 p3 H3 (Ex.refl _) Q fun H4 e4 => q H4 ((e2.trans e3).trans e4)
/-- a new list by two plain values (xs + ys, ..) -/
theorem er_opR {Ra Rb : V → Hp → Prop} (ha : EvR ta σ H Ra) (hb : EvR tb σ H Rb) (hr : ∀ x y H1 H2, Ex H H1 → Ra x H1 → Ex H1 H2 → Rb y H2 → ∀ Q : VK, (∀ v H3, Ex H2 H3 → R v H3 → Q v H3) → r x y H2 Q) : EvR (tOp r ta tb) σ H R :=
  er_op ha (fun _ _ e _ => hb.mono e) hr
theorem ev_chain {a b : Bool} (ha : Ev ta σ H x) (hb : Ev tb σ H y) (h1 : RV r x y H (.bl a)) (hc : a = true → Ev tc σ H z) (h2 : a = true → RV r' y z H (.bl b)) : Ev (tChain r r' ta tb tc) σ H (.bl (a && b)) := fun H1 e Q q =>
  ha H1 e _ fun H2 e2 => hb H2 (e.trans e2) _ fun H3 e3 => h1 H3 ((e.trans e2).trans e3) _ fun H4 e4 => ⟨a, rfl, by
    cases a with
    | false => exact q H4 ((e2.trans e3).trans e4)
    | true => exact hc rfl H4 (((e.trans e2).trans e3).trans e4) _ fun H5 e5 => h2 rfl H5 ((((e.trans e2).trans e3).trans e4).trans e5) Q fun H6 e6 => q H6 ((((e2.trans e3).trans e4).trans e5).trans e6)⟩
/-- fields -/
theorem ev_fld {a C dx : Addr} {fs : List (Str × V)} {f : Str} (ha : Ev ta σ H (.ref a)) (ho : H a = some (.ins C dx fs)) (c : Cls K C) (n : NoAttr K C f) (hl : fs.lookup f = some v) : Ev (tFld K ta f) σ H v := fun H1 e Q q =>
  ha H1 e _ fun H2 e2 => ⟨a, C, dx, fs, v, rfl, (e.trans e2) a _ ho, c, n, hl, q H2 e2⟩
theorem ev_fldR {C : Addr} {f : Str} (ha : EvR ta σ H R) (h : ∀ x H1, Ex H H1 → R x H1 → ∃ a dx fs, x = .ref a ∧ H1 a = some (.ins C dx fs) ∧ fs.lookup f = some v) (c : Cls K C) (n : NoAttr K C f) : Ev (tFld K ta f) σ H v := fun H1 e Q q =>
  ha H1 e _ fun x H2 e2 p => by
    obtain ⟨a, dx, fs, hx, ho, hl⟩ := h x H2 (e.trans e2) p
    exact ⟨a, C, dx, fs, v, hx, ho, c, n, hl, q H2 e2⟩
/-- arguments -/
theorem ear {vs : List V} {ta : TA} (h : EvA ta σ H vs) : EvAR ta σ H (fun x _ => x = vs) := fun H1 a Q q => h H1 a Q fun H2 e => q vs H2 e rfl
theorem ear_nil : EvAR tNil σ H (fun x _ => x = []) := ear ea_nil
theorem ear_cons {tr : TA} {T : List V → Hp → Prop} (h : EvR te σ H R) (hr : ∀ x H1, Ex H H1 → R x H1 → EvAR tr σ H1 (fun vs H2 => T (x :: vs) H2)) : EvAR (tCons te tr) σ H T := fun H1 e Q q =>
  h H1 e _ fun x H2 e2 p => hr x H2 (e.trans e2) p H2 (Ex.refl _) _ fun vs H3 e3 p3 => q _ H3 (e2.trans e3) p3
/-- one argument by facts -/
theorem ear_one (h : EvR te σ H R) : EvAR (tCons te tNil) σ H (fun vs H2 => ∃ x, vs = [x] ∧ R x H2) := fun H1 e Q q => h H1 e _ fun x H2 e2 p => q [x] H2 e2 ⟨x, rfl, p⟩
/-! built-ins -/
theorem er_cb {rr : List V → Hp → VK → Prop} {ta : TA} {T : List V → Hp → Prop} (h : EvAR ta σ H T) (hr : ∀ vs H1, Ex H H1 → T vs H1 → ∀ Q : VK, (∀ v H2, Ex H1 H2 → R v H2 → Q v H2) → rr vs H1 Q) : EvR (tCB rr ta) σ H R := fun H1 e Q q =>
  h H1 e _ fun vs H2 e2 p => hr vs H2 (e.trans e2) p Q fun v H3 e3 p3 => q v H3 (e2.trans e3) p3
theorem ev_cbR {rr : List V → Hp → VK → Prop} {ta : TA} {T : List V → Hp → Prop} (h : EvAR ta σ H T) (hr : ∀ vs H1, Ex H H1 → T vs H1 → ∀ Q : VK, Q z H1 → rr vs H1 Q) : Ev (tCB rr ta) σ H z := fun H1 e Q q =>
  h H1 e _ fun vs H2 e2 p => hr vs H2 (e.trans e2) p Q (q H2 e2)
theorem rc_abs {i : Int} : RC (fun xs H Q => ∃ i, xs = [V.int i] ∧ Q (.int (if i < 0 then -i else i)) H) [.int i] H (.int (if i < 0 then -i else i)) := fun H1 _ _ q => ⟨i, rfl, q H1 (Ex.refl H1)⟩
theorem rc_len {p : Addr} {xs : List V} (h : SqL K H p xs) : RC (fun xs H Q => ∃ p ys, xs = [V.ref p] ∧ (SqL K H p ys ∨ SqT K H p ys) ∧ Q (.int ys.length) H) [.ref p] H (.int (xs.length : Int)) := fun H1 e _ q => ⟨p, xs, rfl, .inl (ex_l e h), q H1 (Ex.refl H1)⟩
theorem rc_sum {p : Addr} {ns : List Int} (h : SqL K H p (ns.map V.int)) : RC (rSum K) [.ref p] H (.int ns.sum) := fun H1 e _ q => ⟨p, ns, rfl, ex_l e h, q H1 (Ex.refl H1)⟩
theorem ev_sumL {ns : List Int} {xs : List V} (h : EvL te σ H xs) (hx : xs = ns.map V.int) : Ev (tCB (rSum K) (tCons te tNil)) σ H (.int ns.sum) := fun H1 e Q q =>
  h H1 e _ fun p H2 _ e2 h2 => ⟨p, ns, rfl, by rw [← hx]; exact sq_of h2, q H2 e2⟩
theorem ev_allL {bs : List Bool} {xs : List V} (h : EvL te σ H xs) (hx : xs = bs.map V.bl) : Ev (tCB (rAll K) (tCons te tNil)) σ H (.bl (bs.all id)) := fun H1 e Q q =>
  h H1 e _ fun p H2 _ e2 h2 => ⟨p, bs, rfl, by rw [← hx]; exact sq_of h2, q H2 e2⟩
theorem ev_anyL {bs : List Bool} {xs : List V} (h : EvL te σ H xs) (hx : xs = bs.map V.bl) : Ev (tCB (rAny K) (tCons te tNil)) σ H (.bl (bs.any id)) := fun H1 e Q q =>
  h H1 e _ fun p H2 _ e2 h2 => ⟨p, bs, rfl, by rw [← hx]; exact sq_of h2, q H2 e2⟩
theorem ev_any {bs : List Bool} {p : Addr} (h : Ev te σ H (.ref p)) (hx : SqL K H p (bs.map V.bl)) : Ev (tCB (rAny K) (tCons te tNil)) σ H (.bl (bs.any id)) := fun H1 e Q q =>
  h H1 e _ fun H2 e2 => ⟨p, bs, rfl, ex_l (e.trans e2) hx, q H2 e2⟩
abbrev rTupOf (K : PySem.W.Frag) : List V → Hp → VK → Prop := fun xs H Q => ∃ p ys, xs = [.ref p] ∧ ((SqL K H p ys ∧ ∀ l, H l = none → Q (.ref l) (upd H l (.tup ys))) ∨ (SqT K H p ys ∧ Q (.ref p) H))
theorem eu_tupL {xs : List V} (h : EvL te σ H xs) : EvU (tCB (rTupOf K) (tCons te tNil)) σ H xs := fun H1 e Q q =>
  h H1 e _ fun p H2 _ e2 h2 => ⟨p, xs, rfl, .inl ⟨sq_of h2, fun l hl => q l _ (fresh_back e2 hl) (e2.trans (Ex.new hl)) upd_same⟩⟩
/-! isinstance -/
theorem tyx_up {tt : Value} (e : Ex H H') (h : TyX K H x tt) : TyX K H' x tt := by
  cases h with
  | base b =>
    refine .base ?_
    cases b with
    | non => exact .non
    | bl y => exact .bl y
    | int i => exact .int i
    | str y => exact .str y
    | flt y => exact .flt y
    | lst ea => exact .lst (e _ _ ea)
    | frz ea => exact .frz (e _ _ ea)
    | tup ea => exact .tup (e _ _ ea)
    | dK ea => exact .dK (e _ _ ea)
    | dT ea => exact .dT (e _ _ ea)
    | ins ea cl ha hn htk hm => exact .ins (e _ _ ea) cl ha hn htk hm
  | byt y => exact .byt y
  | set ea => exact .set (e _ _ ea)
  | kList ea c => exact .kList ea c
  | kTuple ea c => exact .kTuple ea c
  | kDict ea c => exact .kDict ea c
  | fTuple ea => exact .fTuple (e _ _ ea)
  | fDict ea => exact .fDict (e _ _ ea)
theorem ev_isi {c : V} {u tt : Value} {b : Bool} (ha : Ev ta σ H x) (hb : Ev tb σ H c) (hc : ClsV c u) (ht : TyX K H x tt) (hk : PySem.W.kitOne K tt u = some b) : Ev (tCB (rIsi K) (tCons ta (tCons tb tNil))) σ H (.bl b) := fun H1 e Q q =>
  ha H1 e _ fun H2 e2 => hb H2 (e.trans e2) _ fun H3 e3 => ⟨x, c, tt, u, b, rfl, hc, tyx_up ((e.trans e2).trans e3) ht, hk, q H3 (e2.trans e3)⟩
theorem ev_isiR {c : V} {u tt : Value} {b : Bool} (ha : EvR ta σ H R) (ht : ∀ x H1, Ex H H1 → R x H1 → TyX K H1 x tt) (hb : Ev tb σ H c) (hc : ClsV c u) (hk : PySem.W.kitOne K tt u = some b) : Ev (tCB (rIsi K) (tCons ta (tCons tb tNil))) σ H (.bl b) := fun H1 e Q q =>
  ha H1 e _ fun x H2 e2 p => hb H2 (e.trans e2) _ fun H3 e3 => ⟨x, c, tt, u, b, rfl, hc, tyx_up e3 (ht x H2 (e.trans e2) p), hk, q H3 (e2.trans e3)⟩
/-- what isinstance asks of a class of one's own -/
structure IsC (K : PySem.W.Frag) (C : Addr) : Prop where
  (cl : Cls K C) (ha : PySem.W.findIn K (.ref C) "__class__" = some (some (.builtin "object.__class__"))) (hm : PySem.W.mroIn K C (.type "object") = some true)
structure IsG (K : PySem.W.Frag) : Prop where
  (hn : PySem.W.specialIn K (.builtin "object.__class__") "__get__" = some (some (.builtin "getset_descriptor.__get__"))) (htk : PySem.W.takesIn K (.builtin "object.__class__") = some true)
theorem tyx_ins {a C dx : Addr} {fs : List (Str × V)} (ho : H a = some (.ins C dx fs)) (c : IsC K C) (g : IsG K) : TyX K H (.ref a) (.ref C) := .base (.ins ho c.cl c.ha g.hn g.htk c.hm)
/-! calls of defs -/
theorem er_callS {sp : Sp} {dvs : List V} {E : XK} {ta : TA} {T : List V → Hp → Prop} (h : EvAR ta σ H T) (hs : ∀ vs H1, Ex H H1 → T vs H1 → ∀ Q : VK, (∀ v H2, Ex H1 H2 → R v H2 → Q v H2) → sp (vs ++ dvs) H1 Q E) : EvR (tCall sp dvs E ta) σ H R := fun H1 e Q q =>
  h H1 e _ fun vs H2 e2 p => hs vs H2 (e.trans e2) p Q fun v H3 e3 p3 => q v H3 (e2.trans e3) p3
theorem er_call {α : Type} {Pre : α → List V → Hp → Prop} {Post : α → Hp → V → Hp → Prop} {E : XK} {ta : TA} {vs : List V} (d : α) (h : EvA ta σ H vs) (hm : ∀ H1, Ex H H1 → Pre d vs H1) (hp : ∀ H1 v H2, Ex H H1 → Ex H1 H2 → Post d H1 v H2 → R v H2) :
    EvR (tCall (spX Pre Post) [] E ta) σ H R := fun H1 e Q q =>
  h H1 e _ fun H2 e2 => ⟨d, by rw [List.append_nil]; exact hm H2 (e.trans e2), fun v H3 e3 p3 => q v H3 (e2.trans e3) (hp H2 v H3 (e.trans e2) e3 p3)⟩
theorem ev_call0 {α : Type} {Pre : α → List V → Hp → Prop} {Post : α → Hp → V → Hp → Prop} {E : XK} {ta : TA} {vs : List V} (d : α) (h : EvA ta σ H vs) (hm : ∀ H1, Ex H H1 → Pre d vs H1) (hp : ∀ H1 v H2, Post d H1 v H2 → v = z) :
    Ev (tCall (spX Pre Post) [] E ta) σ H z := (er_call (R := fun x _ => x = z) d h hm fun H1 v H2 _ _ p => hp H1 v H2 p).ev fun _ _ _ p => p
theorem er_meth {α : Type} {Pre : α → List V → Hp → Prop} {Post : α → Hp → V → Hp → Prop} {E : XK} {tm : TA} {vs : List V} {a C dx : Addr} {fs : List (Str × V)} {m : Str} (d : α) (ha : Ev ta σ H (.ref a)) (ho : H a = some (.ins C dx fs)) (hl : fs.lookup m = none) (h : EvA tm σ H vs)
    (hm : ∀ H1, Ex H H1 → Pre d (.ref a :: vs) H1) (hp : ∀ H1 v H2, Ex H H1 → Ex H1 H2 → Post d H1 v H2 → R v H2) : EvR (tMeth C m (spX Pre Post) [] E ta tm) σ H R := fun H1 e Q q =>
  ha H1 e _ fun H2 e2 => ⟨a, dx, fs, rfl, (e.trans e2) a _ ho, hl, h H2 (e.trans e2) _ fun H3 e3 => ⟨d, by rw [List.append_nil]; exact hm H3 ((e.trans e2).trans e3), fun v H4 e4 p4 => q v H4 ((e2.trans e3).trans e4) (hp H3 v H4 ((e.trans e2).trans e3) e4 p4)⟩⟩
theorem ev_meth {α : Type} {Pre : α → List V → Hp → Prop} {Post : α → Hp → V → Hp → Prop} {E : XK} {tm : TA} {vs : List V} {a C dx : Addr} {fs : List (Str × V)} {m : Str} (d : α) (ha : Ev ta σ H (.ref a)) (ho : H a = some (.ins C dx fs)) (hl : fs.lookup m = none) (h : EvA tm σ H vs)
    (hm : ∀ H1, Ex H H1 → Pre d (.ref a :: vs) H1) (hp : ∀ H1 v H2, Post d H1 v H2 → v = z) : Ev (tMeth C m (spX Pre Post) [] E ta tm) σ H z := (er_meth (R := fun x _ => x = z) d ha ho hl h hm fun H1 v H2 _ _ p => hp H1 v H2 p).ev fun _ _ _ p => p
/-- C(..): __init__ leaves an instance with fields fs, of the arguments -/
def spI (C : Addr) (Pre : List V → Hp → Prop) (Post : List V → Hp → Hp → List (Str × V) → Prop) : Sp := fun vs H Q _ => ∃ x dx us, vs = .ref x :: us ∧ H x = some (.ins C dx []) ∧ Pre us H ∧
  ∀ H' fs, (∀ b o, b ≠ x → H b = some o → H' b = some o) → H' x = some (.ins C dx fs) → Post us H H' fs → Q .non H'
theorem er_make {C : Addr} {Pre : List V → Hp → Prop} {Post : List V → Hp → Hp → List (Str × V) → Prop} {E : XK} {ta : TA} {T : List V → Hp → Prop} (h : EvAR ta σ H T)
    (hm : ∀ us H1 H2, Ex H H1 → T us H1 → Ex H1 H2 → Pre us H2) (hR : ∀ us H1 H2 H3 fs x dx, Ex H H1 → T us H1 → Ex H1 H2 → Ex H1 H3 → H1 x = none → H3 x = some (.ins C dx fs) → Post us H2 H3 fs → R (.ref x) H3) :
    EvR (tMake C (spI C Pre Post) [] E ta) σ H R := fun H1 e Q q =>
  h H1 e _ fun us H2 e2 p x dx hx hd hn => by
    have eA : Ex H2 (upd (upd H2 dx (.own x)) x (.ins C dx [])) := (Ex.new hd).mut hx
    refine ⟨x, dx, us, by rw [List.append_nil], upd_same, hm us H2 _ (e.trans e2) p eA, fun H' fs hk hi hp => ⟨rfl, ?_⟩⟩
    have e3 : Ex H2 H' := fun b o hb => hk b o (fun z => by rw [z, hx] at hb; cases hb) (eA b o hb)
    exact q _ _ (e2.trans e3) (hR us H2 _ H' fs x dx (e.trans e2) p eA e3 hx hi hp)
/-! ### statements -/
theorem s_asgR {i : Nat} (h : EvR te σ H R) (k : ∀ v H1, Ex H H1 → R v H1 → D.nx (σ.set i (some v)) H1) : tAsg te (gName i) D σ H := h H (Ex.refl H) _ fun v H1 e p => k v H1 e p
theorem q_asgR {i : Nat} (h : EvR te σ H R) (k : ∀ v H1, Ex H H1 → R v H1 → tz D (σ.set i (some v)) H1) : tSeq (tAsg te (gName i)) tz D σ H := s_asgR (D := { D with nx := tz D }) h k
theorem s_retR (h : EvR te σ H R) (k : ∀ v H1, Ex H H1 → R v H1 → D.rt v H1) : tRet te D σ H := h H (Ex.refl H) _ k
theorem s_asgG (h : EvR te σ H R) (k : ∀ v H1, Ex H H1 → R v H1 → g v σ H1 D.nx) : tAsg te g D σ H := h H (Ex.refl H) _ fun v H1 e p => k v H1 e p
theorem q_asgG (h : EvR te σ H R) (k : ∀ v H1, Ex H H1 → R v H1 → g v σ H1 (tz D)) : tSeq (tAsg te g) tz D σ H := s_asgG (D := { D with nx := tz D }) h k
theorem s_dropR (h : EvR te σ H R) (k : ∀ v H1, Ex H H1 → R v H1 → D.nx σ H1) : tDrop te D σ H := h H (Ex.refl H) _ k
theorem q_dropR (h : EvR te σ H R) (k : ∀ v H1, Ex H H1 → R v H1 → tz D σ H1) : tSeq (tDrop te) tz D σ H := s_dropR (D := { D with nx := tz D }) h k
theorem s_par {i j : Nat} {ta : TA} {vs : List V} {v w : V} (h : EvA ta σ H vs) (hv : vs = [v, w]) (k : ∀ H1, Ex H H1 → D.nx ((σ.set i (some v)).set j (some w)) H1) : tPar i j ta D σ H := h H (Ex.refl H) _ fun H1 e => ⟨v, w, hv, k H1 e⟩
theorem q_par {i j : Nat} {ta : TA} {vs : List V} {v w : V} (h : EvA ta σ H vs) (hv : vs = [v, w]) (k : ∀ H1, Ex H H1 → tz D ((σ.set i (some v)).set j (some w)) H1) : tSeq (tPar i j ta) tz D σ H := s_par (D := { D with nx := tz D }) h hv k
/-- a, b, .. = a tuple -/
theorem g_tup2 {i j : Nat} {a : Addr} {p q : V} {Q : L2.St → Hp → Prop} (h : SqT K H a [p, q]) (k : Q ((σ.set i (some p)).set j (some q)) H) : gTup K 2 (gCons (gName i) (gCons (gName j) gNil)) (.ref a) σ H Q := ⟨a, [p, q], rfl, h, rfl, p, [q], rfl, q, [], rfl, rfl, k⟩
theorem g_tup3 {i j l : Nat} {a : Addr} {p q s : V} {Q : L2.St → Hp → Prop} (h : SqT K H a [p, q, s]) (k : Q (((σ.set i (some p)).set j (some q)).set l (some s)) H) : gTup K 3 (gCons (gName i) (gCons (gName j) (gCons (gName l) gNil))) (.ref a) σ H Q := ⟨a, [p, q, s], rfl, h, rfl, p, [q, s], rfl, q, [s], rfl, s, [], rfl, rfl, k⟩
theorem seq_i (h : tu { D with nx := tz D } σ H) : tSeq tu tz D σ H := h
theorem s_next (h : D.nx σ H) : tNext D σ H := h
end
/-! ### pieces -/
theorem vint_inj {i j : Int} : (V.int i = V.int j) ↔ i = j := ⟨fun h => V.int.inj h, fun h => by rw [h]⟩
theorem vbl_inj {i j : Bool} : (V.bl i = V.bl j) ↔ i = j := ⟨fun h => V.bl.inj h, fun h => by rw [h]⟩
theorem given_all {n : Nat} {v : Nat → V} : given n (fun _ => true) v = (List.range n).map v := by
  unfold given
  rw [List.filter_eq_self.mpr (fun _ _ => rfl)]
end Wl
namespace Wl
open PySem PySem.Spec PyProof.Rows L2 Evl
theorem ev_self {te : TE} {σ : L2.St} {H : Hp} {v : V} (h : Ev te σ H v) : Ev te σ H v := h
theorem et_self {t : TT} {σ : L2.St} {H : Hp} {b : Bool} (h : EvT t σ H b) : EvT t σ H b := h
theorem eb_i {b c : Bool} {P : Prop} (h : b = c → P) : b = c → P := h
end Wl
namespace Wl
open PySem PySem.Spec PyProof.Rows L2 Evl
/-! ### comprehensions -/
/-- what a made item tells leans on no list -/
def Stb (R : Nat → V → Hp → Prop) : Prop := ∀ j y H1 H2, R j y H1 → (∀ b o, H1 b = some o → (∀ zs, o ≠ .lst zs) → H2 b = some o) → R j y H2
theorem stb_val {v : Nat → V} : Stb (fun j y _ => y = v j) := fun _ _ _ _ h _ => h
theorem stb_tup {v : Nat → List V} : Stb (fun j y H => ∃ t, y = .ref t ∧ H t = some (.tup (v j))) := fun j y H1 H2 ⟨t, e, h⟩ k => ⟨t, e, k t _ h fun zs z => nomatch z⟩
def Lw (H : Hp) (R : Nat → V → Hp → Prop) (Dl : Addr) (i : Nat) (H' : Hp) : Prop := H Dl = none ∧ Ex H H' ∧ ∃ ys, H' Dl = some (.lst ys) ∧ ys.length = i ∧ ∀ j y, ys[j]? = some y → R j y H'
section
variable {K : PySem.W.Frag} {σ : L2.St} {H H' : Hp} {ta tb tc te tx : TE} {t u : TT} {x y z v : V} {D : Ends} {tu tw tz : TS} {g : TG}
theorem et_yes : EvT tYes σ H true := fun H1 _ _ q => q H1 (Ex.refl H1)
theorem lw_turn {R : Nat → V → Hp → Prop} {Dl : Addr} {i : Nat} {σ2 : L2.St} (p : Lw H R Dl i H') (hi : i < 50000) (hst : Stb R) (he : EvR te σ2 H (R i)) :
    te σ2 H' fun y H4 => ∃ acc, H4 Dl = some (.lst acc) ∧ acc.length < sizeLine ∧ Lw H R Dl (i + 1) (upd H4 Dl (.lst (acc ++ [y]))) := by
  obtain ⟨p1, p2, ys, p3, p4, p5⟩ := p
  refine he H' p2 _ fun y H4 e4 py => ⟨ys, e4 Dl _ p3, sz_lt (by omega), p1, Ex.mut (p2.trans e4) p1, ys ++ [y], upd_same, by simp [p4], fun j z hz => ?_⟩
  have keep : ∀ b o, H4 b = some o → (∀ zs, o ≠ .lst zs) → upd H4 Dl (.lst (ys ++ [y])) b = some o := fun b o hb hn => by
    rw [upd_ne (fun e => ?_)]
    · exact hb
    · subst e
      rw [e4 _ _ p3] at hb
      exact hn ys (Option.some.inj hb).symm
  by_cases hj : j < ys.length
  · rw [List.getElem?_append_left hj] at hz
    exact hst j z H4 _ (hst j z H' H4 (p5 j z hz) fun b o hb _ => e4 b o hb) keep
  · rw [List.getElem?_append_right (by omega)] at hz
    have hj2 : j - ys.length = 0 := by
      have := (List.getElem?_eq_some_iff.mp hz).1
      simp at this
      omega
    rw [hj2] at hz
    have e : y = z := Option.some.inj hz
    have ej : j = i := by omega
    subst e ej
    exact hst _ y H4 _ py keep
abbrev LcR (n : Nat) (R : Nat → V → Hp → Prop) (H : Hp) : V → Hp → Prop := fun v H2 => ∃ D ys, v = .ref D ∧ H D = none ∧ H2 D = some (.lst ys) ∧ ys.length = n ∧ ∀ j y, ys[j]? = some y → R j y H2
/-- over a list, its target any -/
theorem er_lcL {a : Addr} {xs : List V} {tl : TE} {vs : List Nat} (R : Nat → V → Hp → Prop) (hst : Stb R) (h : Ev tl σ H (.ref a)) (hx : SqL K H a xs) (hz : xs.length ≤ 40000)
    (hg : ∀ i x, xs[i]? = some x → ∃ σ2, wipe σ2 vs = wipe σ vs ∧ EvR te σ2 H (R i) ∧ ∀ H', Ex H H' → ∀ Q : L2.St → Hp → Prop, Q σ2 H' → g x (wipe σ vs) H' Q) :
    EvR (tLc (iList K tl) g tYes te vs) σ H (LcR xs.length R H) := fun H0 e Q q => h H0 e _ fun H1 e1 => ⟨a, rfl, ⟨xs, ex_l (e.trans e1) hx⟩, fun Dl hD =>
  lc_list (xs := xs) (Lw H1 R Dl) ⟨hD, Ex.new hD, [], upd_same, rfl, fun j y hy => by simp at hy⟩ (fun i H' _ p => ex_l ((e.trans e1).trans p.2.1) hx) (fun i x H' hi p => by
    obtain ⟨σ2, hw, he, hq⟩ := hg i x hi
    refine hq H' ((e.trans e1).trans p.2.1) _ ⟨hw, ?_⟩
    exact lw_turn p (by have := (List.getElem?_eq_some_iff.mp hi).1; omega) hst (he.mono (e.trans e1))) (fun H' p => by
    obtain ⟨p1, p2, ys, p3, p4, p5⟩ := p
    exact q _ H' (e1.trans p2) ⟨Dl, ys, rfl, fresh_back (e.trans e1) p1, p3, p4, p5⟩)⟩
/-- over a new list -/
theorem er_lcNL {xs : List V} {tl : TE} {vs : List Nat} (S : V → Hp → Prop) (R : Nat → V → Hp → Prop) (hst : Stb R) (h : EvR tl σ H S) (hS : ∀ v H1, Ex H H1 → S v H1 → ∃ a, v = .ref a ∧ SqL K H1 a xs) (hz : xs.length ≤ 40000)
    (hg : ∀ v H1, Ex H H1 → S v H1 → ∀ i x, xs[i]? = some x → ∃ σ2, wipe σ2 vs = wipe σ vs ∧ EvR te σ2 H1 (R i) ∧ ∀ H', Ex H1 H' → ∀ Q : L2.St → Hp → Prop, Q σ2 H' → g x (wipe σ vs) H' Q) :
    EvR (tLc (iList K tl) g tYes te vs) σ H (LcR xs.length R H) := fun H0 e Q q => h H0 e _ fun v H1 e1 hv => by
  obtain ⟨a, rfl, hx⟩ := hS v H1 (e.trans e1) hv
  refine ⟨a, rfl, ⟨xs, hx⟩, fun Dl hD =>
    lc_list (xs := xs) (Lw H1 R Dl) ⟨hD, Ex.new hD, [], upd_same, rfl, fun j y hy => by simp at hy⟩ (fun i H' _ p => ex_l p.2.1 hx) (fun i x H' hi p => ?_) (fun H' p => ?_)⟩
  · obtain ⟨σ2, hw, he, hq⟩ := hg _ H1 (e.trans e1) hv i x hi
    refine hq H' p.2.1 _ ⟨hw, ?_⟩
    exact lw_turn p (by have := (List.getElem?_eq_some_iff.mp hi).1; omega) hst he
  · obtain ⟨p1, p2, ys, p3, p4, p5⟩ := p
    exact q _ H' (e1.trans p2) ⟨Dl, ys, rfl, fresh_back (e.trans e1) p1, p3, p4, p5⟩
/-- over a tuple -/
theorem er_lcT {a : Addr} {xs : List V} {tl : TE} {vs : List Nat} (R : Nat → V → Hp → Prop) (hst : Stb R) (h : Ev tl σ H (.ref a)) (hx : SqT K H a xs) (hz : xs.length ≤ 40000)
    (hg : ∀ i x, xs[i]? = some x → ∃ σ2, wipe σ2 vs = wipe σ vs ∧ EvR te σ2 H (R i) ∧ ∀ H', Ex H H' → ∀ Q : L2.St → Hp → Prop, Q σ2 H' → g x (wipe σ vs) H' Q) :
    EvR (tLc (iTup K tl) g tYes te vs) σ H (LcR xs.length R H) := fun H0 e Q q => h H0 e _ fun H1 e1 => ⟨a, rfl, ⟨xs, ex_t (e.trans e1) hx⟩, fun Dl hD =>
  lc_tup (xs := xs) (Lw H1 R Dl) ⟨hD, Ex.new hD, [], upd_same, rfl, fun j y hy => by simp at hy⟩ (fun i H' _ p => ex_t ((e.trans e1).trans p.2.1) hx) (fun i x H' hi p => by
    obtain ⟨σ2, hw, he, hq⟩ := hg i x hi
    refine hq H' ((e.trans e1).trans p.2.1) _ ⟨hw, ?_⟩
    exact lw_turn p (by have := (List.getElem?_eq_some_iff.mp hi).1; omega) hst (he.mono (e.trans e1))) (fun H' p => by
    obtain ⟨p1, p2, ys, p3, p4, p5⟩ := p
    exact q _ H' (e1.trans p2) ⟨Dl, ys, rfl, fresh_back (e.trans e1) p1, p3, p4, p5⟩)⟩
/-- over range(n) -/
theorem er_lcR {ta : TA} {n : Nat} {j : Nat} {vs : List Nat} (R : Nat → V → Hp → Prop) (hst : Stb R) (h : EvA ta σ H [.int (n : Int)]) (hz : n ≤ 40000) (hw : ∀ x, wipe ((wipe σ vs).set j (some x)) vs = wipe σ vs)
    (hg : ∀ i, i < n → EvR te ((wipe σ vs).set j (some (.int (i : Int)))) H (R i)) :
    EvR (tLc (iRng1 ta) (gName j) tYes te vs) σ H (LcR n R H) := fun H0 e Q q => h H0 e _ fun H1 e1 => ⟨n, rfl, by omega, by omega, fun Dl hD => by
  have en : ((n : Int)).toNat = n := by omega
  rw [en]
  refine lc_range (lo := 0) (n := n) (Lw H1 R Dl) ⟨hD, Ex.new hD, [], upd_same, rfl, fun j y hy => by simp at hy⟩ (fun i H' hi p => ?_) (fun H' p => ?_)
  · have e0 : (0 : Int) + (i : Int) = (i : Int) := Int.zero_add _
    rw [e0]
    refine ⟨hw _, ?_⟩
    exact lw_turn p (by omega) hst ((hg i hi).mono (e.trans e1))
  · obtain ⟨p1, p2, ys, p3, p4, p5⟩ := p
    exact q _ H' (e1.trans p2) ⟨Dl, ys, rfl, fresh_back (e.trans e1) p1, p3, p4, p5⟩⟩
/-- the made list, its items known -/
theorem lc_is {n : Nat} {f : Nat → V} {ys : List V} (hl : ys.length = n) (h : ∀ j y, ys[j]? = some y → y = f j) : ys = (List.range n).map f := by
  apply List.ext_getElem?
  intro i
  cases e : ys[i]? with
  | none =>
    have := List.getElem?_eq_none_iff.mp e
    exact (List.getElem?_eq_none_iff.mpr (by rw [List.length_map, List.length_range]; omega)).symm
  | some y =>
    have hi := (List.getElem?_eq_some_iff.mp e).1
    rw [List.getElem?_map, List.getElem?_range (by omega), h i y e]
    rfl
/-- the list's items known -/
theorem LcR.sq {n : Nat} {f : Nat → V} {v : V} {H1 : Hp} (h : LcR n (fun j y _ => y = f j) H v H1) : ∃ a, v = .ref a ∧ SqL K H1 a ((List.range n).map f) := by
  obtain ⟨D, ys, rfl, _, h3, h4, h5⟩ := h
  rw [lc_is h4 h5] at h3
  exact ⟨D, rfl, sq_of h3⟩
theorem ev_sumR {S : V → Hp → Prop} {ns : List Int} (h : EvR te σ H S) (hS : ∀ v H1, Ex H H1 → S v H1 → ∃ a, v = .ref a ∧ SqL K H1 a (ns.map V.int)) : Ev (tCB (rSum K) (tCons te tNil)) σ H (.int ns.sum) := fun H1 e Q q =>
  h H1 e _ fun x H2 e2 p => by
    obtain ⟨a, rfl, hx⟩ := hS x H2 (e.trans e2) p
    exact ⟨a, ns, rfl, hx, q H2 e2⟩
theorem ev_allR {S : V → Hp → Prop} {bs : List Bool} (h : EvR te σ H S) (hS : ∀ v H1, Ex H H1 → S v H1 → ∃ a, v = .ref a ∧ SqL K H1 a (bs.map V.bl)) : Ev (tCB (rAll K) (tCons te tNil)) σ H (.bl (bs.all id)) := fun H1 e Q q =>
  h H1 e _ fun x H2 e2 p => by
    obtain ⟨a, rfl, hx⟩ := hS x H2 (e.trans e2) p
    exact ⟨a, bs, rfl, hx, q H2 e2⟩
theorem ev_anyR {S : V → Hp → Prop} {bs : List Bool} (h : EvR te σ H S) (hS : ∀ v H1, Ex H H1 → S v H1 → ∃ a, v = .ref a ∧ SqL K H1 a (bs.map V.bl)) : Ev (tCB (rAny K) (tCons te tNil)) σ H (.bl (bs.any id)) := fun H1 e Q q =>
  h H1 e _ fun x H2 e2 p => by
    obtain ⟨a, rfl, hx⟩ := hS x H2 (e.trans e2) p
    exact ⟨a, bs, rfl, hx, q H2 e2⟩
/-- tuple(a list) -/
theorem er_tupR {S : V → Hp → Prop} {xs : List V} (h : EvR te σ H S) (hS : ∀ v H1, Ex H H1 → S v H1 → ∃ a, v = .ref a ∧ SqL K H1 a xs) : EvR (tCB (rTupOf K) (tCons te tNil)) σ H (fun v H2 => ∃ p, v = .ref p ∧ H p = none ∧ H2 p = some (.tup xs)) := fun H1 e Q q =>
  h H1 e _ fun x H2 e2 p => by
    obtain ⟨a, rfl, hx⟩ := hS x H2 (e.trans e2) p
    exact ⟨a, xs, rfl, .inl ⟨hx, fun l hl => q _ _ (e2.trans (Ex.new hl)) ⟨l, rfl, fresh_back (e.trans e2) hl, upd_same⟩⟩⟩
/-- list(a list) -/
theorem er_listL {a : Addr} {xs : List V} (h : Ev te σ H (.ref a)) (hx : SqL K H a xs) : EvR (tCB (fun xs H Q => ∃ p ys, xs = [V.ref p] ∧ (SqL K H p ys ∨ SqT K H p ys) ∧ ∀ l, H l = none → Q (.ref l) (upd H l (.lst ys))) (tCons te tNil)) σ H (fun v H2 => ∃ p, v = .ref p ∧ H p = none ∧ H2 p = some (.lst xs)) := fun H1 e Q q =>
  h H1 e _ fun H2 e2 => ⟨a, xs, rfl, .inl (ex_l (e.trans e2) hx), fun l hl => q _ _ (e2.trans (Ex.new hl)) ⟨l, rfl, fresh_back (e.trans e2) hl, upd_same⟩⟩
/-- (a, b, ..) of anything -/
theorem er_tup {ta : TA} {T : List V → Hp → Prop} (h : EvAR ta σ H T) (hl : ∀ vs H1, T vs H1 → vs.length ≤ 100000) : EvR (tTup ta) σ H (fun v H2 => ∃ p vs H1, v = .ref p ∧ H p = none ∧ Ex H1 H2 ∧ T vs H1 ∧ H2 p = some (.tup vs)) := fun H1 e Q q =>
  h H1 e _ fun vs H2 e2 p => ⟨sz_of (hl vs H2 p), fun l hl => q _ _ (e2.trans (Ex.new hl)) ⟨l, vs, H2, rfl, fresh_back (e.trans e2) hl, Ex.new hl, p, upd_same⟩⟩
theorem er_lst {ta : TA} {T : List V → Hp → Prop} (h : EvAR ta σ H T) (hl : ∀ vs H1, T vs H1 → vs.length ≤ 100000) : EvR (tLst ta) σ H (fun v H2 => ∃ p vs H1, v = .ref p ∧ H p = none ∧ Ex H1 H2 ∧ T vs H1 ∧ H2 p = some (.lst vs)) := fun H1 e Q q =>
  h H1 e _ fun vs H2 e2 p => ⟨sz_of (hl vs H2 p), fun l hl => q _ _ (e2.trans (Ex.new hl)) ⟨l, vs, H2, rfl, fresh_back (e.trans e2) hl, Ex.new hl, p, upd_same⟩⟩
end
end Wl
namespace Wl
open PySem PySem.Spec PyProof.Rows L2 Evl
theorem EvAR.imp {ta : TA} {σ : L2.St} {H : Hp} {R R' : List V → Hp → Prop} (h : EvAR ta σ H R) (hi : ∀ v H2, Ex H H2 → R v H2 → R' v H2) : EvAR ta σ H R' := fun H1 a Q q => h H1 a Q fun v H2 e p => q v H2 e (hi v H2 (a.trans e) p)
end Wl
namespace Wl
open PySem PySem.Spec PyProof.Rows L2 Evl
/-! ### rules with K named (within a comprehension K is hidden in the context) -/
section
variable {X : Cx} (K : PySem.W.Frag)
theorem ix_tupK (h : X.K = K := by rfl) : IxR X (rIxT K) := by subst h; exact ix_tup
theorem ix_listK (h : X.K = K := by rfl) : IxR X (rIxL K) := by subst h; exact ix_list
abbrev rLenQ (K : PySem.W.Frag) : List V → Hp → VK → Prop := fun xs H Q => ∃ p ys, xs = [.ref p] ∧ (SqL K H p ys ∨ SqT K H p ys) ∧ Q (.int ys.length) H
abbrev rListQ (K : PySem.W.Frag) : List V → Hp → VK → Prop := fun xs H Q => ∃ p ys, xs = [.ref p] ∧ (SqL K H p ys ∨ SqT K H p ys) ∧ ∀ l, H l = none → Q (.ref l) (upd H l (.lst ys))
theorem len_seqK (h : X.K = K := by rfl) : CallR X (.builtin "len") (rLenQ K) := by subst h; exact call_len_seq
theorem allK (hc : X.calm = true) (h : X.K = K := by rfl) : CallR X (.builtin "all") (rAll K) := by subst h; exact cr_all hc
theorem anyK (hc : X.calm = true) (h : X.K = K := by rfl) : CallR X (.builtin "any") (rAny K) := by subst h; exact cr_any hc
theorem sumK (hc : X.calm = true) (h : X.K = K := by rfl) : CallR X (.builtin "sum") (rSum K) := by subst h; exact cr_sum hc
theorem isiK (h : X.K = K := by rfl) : CallR X (.builtin "isinstance") (rIsi K) := by subst h; exact call_isi
theorem list_ofK (h : X.K = K := by rfl) : CallR X (.type "list") (rListQ K) := by subst h; exact call_list_of
theorem tuple_ofK (h : X.K = K := by rfl) : CallR X (.type "tuple") (rTupOf K) := by subst h; exact call_tuple_of
theorem eqDK (hu : X.A.units + 64 < cLine) (h : X.K = K := by rfl) : OpR X (compareOp .Eq) (rEqD K) := by subst h; exact op_eqD hu
theorem neDK (hu : X.A.units + 64 < cLine) (h : X.K = K := by rfl) : OpR X (compareOp .NotEq) (rNeD K) := by subst h; exact op_neD hu
theorem pe_fldK {e : Expr} {f : Str} {pos : Pos} {ta : TE} (he : PE X e ta) (hb : attributeBase e f X.env (eval e X.env) = eval e X.env) (h : X.K = K := by rfl) : PE X (.Attribute e f pos) (tFld K ta f) := by subst h; exact pe_fld he hb
theorem pg_tupK {es : List Expr} {k : Nat} {pos : Pos} {t : TGs} {n : Nat} (hc : X.calm = true) (ht : PGs X es t)
    (hn : (assignEach es X.env).length = n := by rfl) (hst : (assignEach es X.env).findIdx? (·.1) = none := by rfl) (h : X.K = K := by rfl) : PG X (.Tuple es k pos) (gTup K n t) := by subst h; exact pg_tup hc ht hn hst
theorem pi_listK {tg l : Expr} {tl : TE} (hl : PE X l tl) (h : X.K = K := by rfl) : PI X tg l (iList K tl) := by subst h; exact pi_list hl
theorem pi_tupK {tg l : Expr} {tl : TE} (hl : PE X l tl) (h : X.K = K := by rfl) : PI X tg l (iTup K tl) := by subst h; exact pi_tup hl
end
end Wl
namespace Wl
open PySem PySem.Spec PyProof.Rows L2 Evl
section
variable {K : PySem.W.Frag} {σ : L2.St} {H H' : Hp} {te : TE}
/-- the target a name -/
theorem er_lcLn {a : Addr} {xs : List V} {tl : TE} {vs : List Nat} {j : Nat} (R : Nat → V → Hp → Prop) (hst : Stb R) (h : Ev tl σ H (.ref a)) (hx : SqL K H a xs) (hz : xs.length ≤ 40000) (hw : ∀ x, wipe ((wipe σ vs).set j (some x)) vs = wipe σ vs)
    (hg : ∀ i x, xs[i]? = some x → EvR te ((wipe σ vs).set j (some x)) H (R i)) : EvR (tLc (iList K tl) (gName j) tYes te vs) σ H (LcR xs.length R H) :=
  er_lcL R hst h hx hz fun i x hi => ⟨_, hw x, hg i x hi, fun _ _ _ q => q⟩
theorem er_lcTn {a : Addr} {xs : List V} {tl : TE} {vs : List Nat} {j : Nat} (R : Nat → V → Hp → Prop) (hst : Stb R) (h : Ev tl σ H (.ref a)) (hx : SqT K H a xs) (hz : xs.length ≤ 40000) (hw : ∀ x, wipe ((wipe σ vs).set j (some x)) vs = wipe σ vs)
    (hg : ∀ i x, xs[i]? = some x → EvR te ((wipe σ vs).set j (some x)) H (R i)) : EvR (tLc (iTup K tl) (gName j) tYes te vs) σ H (LcR xs.length R H) :=
  er_lcT R hst h hx hz fun i x hi => ⟨_, hw x, hg i x hi, fun _ _ _ q => q⟩
/-- the target a pair of names, the items pairs -/
theorem er_lcLp {a : Addr} {xs : List V} {tl : TE} {vs : List Nat} {j l : Nat} (R : Nat → V → Hp → Prop) (hst : Stb R) (h : Ev tl σ H (.ref a)) (hx : SqL K H a xs) (hz : xs.length ≤ 40000) (hw : ∀ x y, wipe (((wipe σ vs).set j (some x)).set l (some y)) vs = wipe σ vs)
    (hg : ∀ i x, xs[i]? = some x → ∃ t p q, x = .ref t ∧ SqT K H t [p, q] ∧ EvR te (((wipe σ vs).set j (some p)).set l (some q)) H (R i)) : EvR (tLc (iList K tl) (gTup K 2 (gCons (gName j) (gCons (gName l) gNil))) tYes te vs) σ H (LcR xs.length R H) :=
  er_lcL R hst h hx hz fun i x hi => by
    obtain ⟨t, p, q, rfl, ht, he⟩ := hg i x hi
    exact ⟨_, hw p q, he, fun _ e _ k => g_tup2 (ex_t e ht) k⟩
end
end Wl
namespace Wl
open PySem PySem.Spec PyProof.Rows L2 Evl
section
variable {K : PySem.W.Frag} {σ : L2.St} {H H' : Hp} {te ti : TE} {ta : TA}
theorem dec_vint {i j : Int} : decide (V.int i = V.int j) = decide (i = j) := decide_eq_decide.mpr vint_inj
theorem dec_vbl {i j : Bool} : decide (V.bl i = V.bl j) = decide (i = j) := decide_eq_decide.mpr vbl_inj
theorem rv_eqI {i j : Int} : RV rEq (.int i) (.int j) H (.bl (decide (i = j))) := fun H1 _ _ q => ⟨rfl, by rw [dec_vint]; exact q H1 (Ex.refl H1)⟩
theorem rv_neI {i j : Int} : RV rNe (.int i) (.int j) H (.bl (!decide (i = j))) := fun H1 _ _ q => ⟨rfl, by rw [dec_vint]; exact q H1 (Ex.refl H1)⟩
theorem rv_eqB {i j : Bool} : RV rEq (.bl i) (.bl j) H (.bl (decide (i = j))) := fun H1 _ _ q => ⟨rfl, by rw [dec_vbl]; exact q H1 (Ex.refl H1)⟩
theorem rv_neB {i j : Bool} : RV rNe (.bl i) (.bl j) H (.bl (!decide (i = j))) := fun H1 _ _ q => ⟨rfl, by rw [dec_vbl]; exact q H1 (Ex.refl H1)⟩
theorem rv_isB {i j : Bool} : RV rIsB (.bl i) (.bl j) H (.bl (decide (i = j))) := fun H1 _ _ q => ⟨i, j, rfl, rfl, q H1 (Ex.refl H1)⟩
theorem rv_notB {i j : Bool} : RV rNotB (.bl i) (.bl j) H (.bl (!decide (i = j))) := fun H1 _ _ q => ⟨i, j, rfl, rfl, q H1 (Ex.refl H1)⟩
theorem atI_map {l : List Int} {i : Int} (h0 : 0 ≤ i) (h1 : i < l.length) : atI (l.map V.int) i = some (.int (l.getD i.toNat 0)) := by
  refine at_of (j := i.toNat) (by omega) ?_
  rw [List.getElem?_map, List.getD_eq_getElem?_getD, List.getElem?_eq_getElem (by omega)]
  rfl
/-- an item of a written tuple of ints -/
theorem ev_pick {l : List Int} {i : Int} {vs : List V} (h : EvA ta σ H vs) (hi : Ev ti σ H (.int i)) (hv : vs = l.map V.int) (h0 : 0 ≤ i) (h1 : i < l.length) (hl : l.length ≤ 100000) : Ev (tOp (rIxT K) (tTup ta) ti) σ H (.int (l.getD i.toNat 0)) :=
  ev_opR (eur (eu_tup h (by rw [hv, List.length_map]; exact hl))) hi fun x H1 e ⟨p, hx, _, hp⟩ => by
    subst hx
    rw [hv] at hp
    exact rv_ixT (st_of hp) (atI_map h0 h1)
theorem getD_all {l : List Int} {i : Nat} {a b : Int} (h : (l.all fun x => decide (a ≤ x) && decide (x ≤ b)) = true) (hi : i < l.length) : a ≤ l.getD i 0 ∧ l.getD i 0 ≤ b := by
  rw [List.getD_eq_getElem?_getD, List.getElem?_eq_getElem hi]
  have := List.all_eq_true.mp h _ (List.getElem_mem hi)
  simp only [Bool.and_eq_true, decide_eq_true_eq] at this
  exact this
theorem ev_lenL {p : Addr} {xs : List V} (ha : Ev te σ H (.ref p)) (h : SqL K H p xs) : Ev (tCB (rLenQ K) (tCons te tNil)) σ H (.int (xs.length : Int)) := fun H1 e Q q =>
  ha H1 e _ fun H2 e2 => ⟨p, xs, rfl, .inl (ex_l (e.trans e2) h), q H2 e2⟩
end
end Wl
namespace Wl
open PySem PySem.Spec PyProof.Rows L2 Evl
theorem lk0 {f g : Str} {x : V} (h : (g == f) = false := by decide +kernel) : List.lookup g [(f, x)] = none := by simp [List.lookup, h]
theorem lk00 {f f2 g : Str} {x x2 : V} (h : (g == f) = false := by decide +kernel) (h2 : (g == f2) = false := by decide +kernel) : List.lookup g [(f, x), (f2, x2)] = none := by simp [List.lookup, h, h2]
theorem lk21 {f f2 : Str} {x x2 : V} : List.lookup f [(f, x), (f2, x2)] = some x := by simp [List.lookup]
theorem lk22 {f f2 : Str} {x x2 : V} (h : (f2 == f) = false := by decide +kernel) : List.lookup f2 [(f, x), (f2, x2)] = some x2 := by simp [List.lookup, h]
section
variable {K : PySem.W.Frag} {σ : L2.St} {H H' : Hp} {te ti : TE} {ta : TA} {D : Ends} {tu tz : TS} {g : TG}
/-- over a new tuple, the target a name -/
theorem s_forTR {xs : List V} {tl : TE} {j : Nat} (h : EvR tl σ H (fun v H1 => ∃ a, v = .ref a ∧ SqT K H1 a xs)) (Pv : Addr → Nat → L2.St → Hp → Prop) (h0 : ∀ a H1, Ex H H1 → SqT K H1 a xs → Pv a 0 σ H1) (hl : ∀ a i σ' H', i ≤ xs.length → Pv a i σ' H' → SqT K H' a xs)
    (hs : ∀ a i x σ' H', xs[i]? = some x → Pv a i σ' H' → tu { D with nx := Pv a (i + 1), ct := Pv a (i + 1), bk := D.nx } (σ'.set j (some x)) H') (hd : ∀ a σ' H', Pv a xs.length σ' H' → D.nx σ' H') : tFor (iTup K tl) (gName j) tu D σ H :=
  h H (Ex.refl H) _ fun v H1 e ⟨a, hv, hx⟩ => ⟨a, hv, ⟨xs, hx⟩, for_tup (Pv a) (h0 a H1 e hx) (hl a) (hs a) (hd a)⟩
theorem q_forTR {xs : List V} {tl : TE} {j : Nat} (h : EvR tl σ H (fun v H1 => ∃ a, v = .ref a ∧ SqT K H1 a xs)) (Pv : Addr → Nat → L2.St → Hp → Prop) (h0 : ∀ a H1, Ex H H1 → SqT K H1 a xs → Pv a 0 σ H1) (hl : ∀ a i σ' H', i ≤ xs.length → Pv a i σ' H' → SqT K H' a xs)
    (hs : ∀ a i x σ' H', xs[i]? = some x → Pv a i σ' H' → tu { D with nx := Pv a (i + 1), ct := Pv a (i + 1), bk := tz D } (σ'.set j (some x)) H') (hd : ∀ a σ' H', Pv a xs.length σ' H' → tz D σ' H') : tSeq (tFor (iTup K tl) (gName j) tu) tz D σ H :=
  s_forTR (D := { D with nx := tz D }) h Pv h0 hl hs hd
theorem ert_tup {vs : List V} (h : EvA ta σ H vs) (hl : vs.length ≤ 100000) : EvR (tTup ta) σ H (fun v H1 => ∃ a, v = .ref a ∧ SqT K H1 a vs) := (eur (eu_tup h hl)).imp fun _ _ _ ⟨p, e, _, hp⟩ => ⟨p, e, st_of hp⟩
theorem rv_pow {i j : Int} (h : CPow i j) : RV (rI CPow fun i j => .int (i ^ j.toNat)) (.int i) (.int j) H (.int (i ^ j.toNat)) := rv_I h
theorem atI_ints {l : List Int} {i : Nat} (h : i < l.length) : atI (l.map V.int) (i : Int) = some (.int (l.getD i 0)) := by
  refine atI_nat ?_
  rw [List.getElem?_map, List.getD_eq_getElem?_getD, List.getElem?_eq_getElem h]
  rfl
theorem getD_mem {l : List Int} {i : Nat} (h : i < l.length) : l.getD i 0 ∈ l := by
  rw [List.getD_eq_getElem?_getD, List.getElem?_eq_getElem h]
  exact List.getElem_mem h
end
end Wl
namespace Wl
open PySem PySem.Spec PyProof.Rows L2 Evl
/-! ### lists: made, cut, joined, walked, compared -/
abbrev NewL (xs : List V) (H : Hp) : V → Hp → Prop := fun v H2 => ∃ p, v = .ref p ∧ H p = none ∧ H2 p = some (.lst xs)
abbrev LstAt (xs : List V) : V → Hp → Prop := fun v H2 => ∃ p, v = .ref p ∧ H2 p = some (.lst xs)
theorem LstAt.up {xs : List V} {v : V} {H H' : Hp} (e : Ex H H') (h : LstAt xs v H) : LstAt xs v H' := by
  obtain ⟨p, r, h⟩ := h
  exact ⟨p, r, e _ _ h⟩
abbrev iv (ns : List Int) : List V := ns.map V.int
section
variable {K : PySem.W.Frag} {σ : L2.St} {H H' : Hp} {ta tb tc te tl : TE} {x y z v : V} {D : Ends} {tu tz : TS} {g : TG}
theorem er_new {ta : TA} {xs : List V} (h : EvA ta σ H xs) (hl : xs.length ≤ 100000) : EvR (tLst ta) σ H (NewL xs H) := elr (el_lst h hl)
theorem er_cat {xs ys : List V} (ha : EvR ta σ H (LstAt xs)) (hb : EvR tb σ H (LstAt ys)) (hl : xs.length + ys.length ≤ 100000) : EvR (tOp rCat ta tb) σ H (NewL (xs ++ ys) H) := fun H1 e Q q =>
  ha H1 e _ fun x H2 e2 ⟨p, hx, hp⟩ => hb H2 (e.trans e2) _ fun y H3 e3 ⟨r, hy, hr⟩ => ⟨p, r, xs, ys, hx, hy, e3 _ _ hp, hr, sz_of hl, fun l hn => q _ _ ((e2.trans e3).trans (Ex.new hn)) ⟨l, rfl, fresh_back ((e.trans e2).trans e3) hn, upd_same⟩⟩
theorem er_rev {xs : List V} {a : Addr} (h : Ev ta σ H (.ref a)) (hx : SqL K H a xs) : EvR (tRevL K ta) σ H (NewL xs.reverse H) := fun H1 e Q q =>
  h H1 e _ fun H2 e2 => ⟨a, xs, rfl, ex_l (e.trans e2) hx, fun l hn => q _ _ (e2.trans (Ex.new hn)) ⟨l, rfl, fresh_back (e.trans e2) hn, upd_same⟩⟩
theorem er_sl {xs : List V} {a : Addr} {t1 t2 : TO} {lo hi : Option Int} (h : Ev ta σ H (.ref a)) (h1 : EvO t1 σ H lo) (h2 : EvO t2 σ H hi) (hx : SqL K H a xs) : EvR (tSl (rSlL K) ta t1 t2) σ H (NewL (cutV xs lo hi) H) := elr (el_sl h h1 h2 hx)
theorem er_list {a : Addr} {xs : List V} (h : Ev te σ H (.ref a)) (hx : SqL K H a xs) : EvR (tCB (rListQ K) (tCons te tNil)) σ H (NewL xs H) := er_listL h hx
theorem cut_from1 (xs : List V) : cutV xs (some 1) none = xs.drop 1 := by
  unfold cutV
  rw [show HT.sIx xs.length 0 (some 1) = min 1 xs.length from HT.sIx_nat xs.length 0 1, HT.sIx_none]
  cases xs with
  | nil => rfl
  | cons x r =>
    rw [show min 1 (x :: r).length = 1 by
      rw [List.length_cons]
      omega]
    show (List.take ((x :: r).length - 1) r) = r
    rw [List.length_cons, Nat.add_sub_cancel]
    exact List.take_length
/-- [F n for n in ns] -/
theorem range_items {α β : Type} (f : α → β) (d : α) (l : List α) : (List.range l.length).map (fun j => f (l.getD j d)) = l.map f := by
  apply List.ext_getElem?
  intro i
  by_cases h : i < l.length
  · have e : l.getD i d = l[i] := by rw [List.getD_eq_getElem?_getD, List.getElem?_eq_getElem h]; rfl
    rw [List.getElem?_map, List.getElem?_range h, List.getElem?_map, List.getElem?_eq_getElem h]
    show some (f (l.getD i d)) = some (f l[i])
    rw [e]
  · rw [List.getElem?_eq_none (by simpa using h), List.getElem?_eq_none (by simpa using h)]
theorem LcR.new {n : Nat} {f : Nat → V} {v : V} {H1 : Hp} (h : LcR n (fun j y _ => y = f j) H v H1) : NewL ((List.range n).map f) H v H1 := by
  obtain ⟨D, ys, rfl, h2, h3, h4, h5⟩ := h
  rw [lc_is h4 h5] at h3
  exact ⟨D, rfl, h2, h3⟩
theorem er_lcI {a : Addr} {ns : List Int} {vs : List Nat} {j : Nat} (F : Int → V) (h : Ev tl σ H (.ref a)) (hx : SqL K H a (iv ns)) (hz : ns.length ≤ 40000) (hw : ∀ x, wipe ((wipe σ vs).set j (some x)) vs = wipe σ vs)
    (hg : ∀ n, n ∈ ns → Ev te ((wipe σ vs).set j (some (.int n))) H (F n)) : EvR (tLc (iList K tl) (gName j) tYes te vs) σ H (NewL (ns.map F) H) :=
  (er_lcLn (fun i y _ => y = F (ns.getD i 0)) stb_val h hx (by rw [List.length_map]; exact hz) hw fun i x hi => by
    rw [List.getElem?_map] at hi
    cases e : ns[i]? with
    | none => rw [e] at hi; cases hi
    | some n =>
      rw [e] at hi
      cases hi
      have hd : ns.getD i 0 = n := by rw [List.getD_eq_getElem?_getD, e]; rfl
      rw [hd]
      exact evr (hg n (List.mem_of_getElem? e))).imp fun v H2 _ p => by
    have q := LcR.new p
    rw [List.length_map, range_items F 0 ns] at q
    exact q
/-- [F k for k in range(n)] -/
theorem er_lcRI {ta : TA} {n : Nat} {vs : List Nat} {j : Nat} (F : Nat → V) (h : EvA ta σ H [.int (n : Int)]) (hz : n ≤ 40000) (hw : ∀ x, wipe ((wipe σ vs).set j (some x)) vs = wipe σ vs)
    (hg : ∀ i, i < n → Ev te ((wipe σ vs).set j (some (.int (i : Int)))) H (F i)) : EvR (tLc (iRng1 ta) (gName j) tYes te vs) σ H (NewL ((List.range n).map F) H) :=
  (er_lcR (fun i y _ => y = F i) stb_val h hz hw fun i hi => evr (hg i hi)).imp fun v H2 _ p => LcR.new p
/-- [.. for x, y in zip(xs, ys)] -/
theorem er_lcZ {ta : TA} {a b : Addr} {xs ys : List V} {vs : List Nat} {j l : Nat} (F : Nat → V) (h : EvA ta σ H [.ref a, .ref b]) (hx : SqL K H a xs) (hy : SqL K H b ys) (hxy : xs.length = ys.length) (hz : xs.length ≤ 40000) (hw : ∀ x y, wipe (((wipe σ vs).set j (some x)).set l (some y)) vs = wipe σ vs)
    (hg : ∀ i x y, xs[i]? = some x → ys[i]? = some y → Ev te (((wipe σ vs).set j (some x)).set l (some y)) H (F i)) :
    EvR (tLc (iZip K ta) (gTup K 2 (gCons (gName j) (gCons (gName l) gNil))) tYes te vs) σ H (NewL ((List.range xs.length).map F) H) := fun H0 e Q q => h H0 e _ fun H1 e1 => ⟨a, b, xs, ys, rfl, ex_l (e.trans e1) hx, ex_l (e.trans e1) hy, fun Dl hD => by
  refine ⟨fun i m H' => m = xs.length - i ∧ i ≤ xs.length ∧ Lw H1 (fun i y _ => y = F i) Dl i H', ⟨_, rfl, Nat.zero_le _, hD, Ex.new hD, [], upd_same, rfl, fun j y hy => by simp at hy⟩, ?_⟩
  rintro i m H' ⟨rfl, hi, p⟩
  have qx := ex_l ((e.trans e1).trans p.2.1) hx
  have qy := ex_l ((e.trans e1).trans p.2.1) hy
  by_cases hlt : i < xs.length
  · have hlt2 : i < ys.length := by omega
    have ex : xs[i]? = some xs[i] := List.getElem?_eq_getElem hlt
    have ey : ys[i]? = some ys[i] := List.getElem?_eq_getElem hlt2
    refine .inr ⟨⟨xs, ys, _, _, qx, qy, ex, ey⟩, Lw H1 (fun i y _ => y = F i) Dl (i + 1), fun H2 p2 => ⟨xs.length - (i + 1), by omega, rfl, hlt, p2⟩, fun v H2 hyld => ?_⟩
    obtain ⟨T, x', y', rfl, hT, rfl, f1, f2⟩ := hyld
    have e1' : x' = xs[i] := Option.some.inj ((f1 _ qx).symm.trans ex)
    have e2' : y' = ys[i] := Option.some.inj ((f2 _ qy).symm.trans ey)
    subst e1' e2'
    refine g_tup2 (st_of upd_same) ⟨hw _ _, ?_⟩
    have p' : Lw H1 (fun i y _ => y = F i) Dl i (upd H' T (.tup [xs[i], ys[i]])) := by
      obtain ⟨p1, p2, zs, p3, p4, p5⟩ := p
      exact ⟨p1, p2.trans (Ex.new hT), zs, by rw [upd_ne (ne_of_none p3 hT)]; exact p3, p4, p5⟩
    exact lw_turn p' (by omega) stb_val ((evr (hg i _ _ ex ey)).mono (e.trans e1))
  · have ei : i = xs.length := by omega
    subst ei
    obtain ⟨p1, p2, zs, p3, p4, p5⟩ := p
    rw [lc_is p4 p5] at p3
    exact .inl ⟨⟨xs, ys, qx, qy, .inl (Nat.le_refl _)⟩, q _ H' (e1.trans p2) ⟨Dl, rfl, fresh_back (e.trans e1) p1, p3⟩⟩⟩
theorem ev_sumN {ns : List Int} {H0 : Hp} (h : EvR te σ H (NewL (iv ns) H0)) : Ev (tCB (rSum K) (tCons te tNil)) σ H (.int ns.sum) := ev_sumR h fun v H1 _ ⟨p, e, _, hp⟩ => ⟨p, e, sq_of hp⟩
theorem ev_allN {bs : List Bool} {H0 : Hp} (h : EvR te σ H (NewL (bs.map V.bl) H0)) : Ev (tCB (rAll K) (tCons te tNil)) σ H (.bl (bs.all id)) := ev_allR h fun v H1 _ ⟨p, e, _, hp⟩ => ⟨p, e, sq_of hp⟩
theorem ev_anyN {bs : List Bool} {H0 : Hp} (h : EvR te σ H (NewL (bs.map V.bl) H0)) : Ev (tCB (rAny K) (tCons te tNil)) σ H (.bl (bs.any id)) := ev_anyR h fun v H1 _ ⟨p, e, _, hp⟩ => ⟨p, e, sq_of hp⟩
/-- for x in (a, b, ..) of anything -/
theorem s_forTU {j : Nat} {R : V → Hp → Prop} (h : EvR tl σ H R) (k : ∀ v H1, Ex H H1 → R v H1 → ∃ a xs, v = .ref a ∧ SqT K H1 a xs ∧ ∃ Pv : Nat → L2.St → Hp → Prop, Pv 0 σ H1 ∧ (∀ i σ' H', i ≤ xs.length → Pv i σ' H' → SqT K H' a xs) ∧
    (∀ i x σ' H', xs[i]? = some x → Pv i σ' H' → tu { D with nx := Pv (i + 1), ct := Pv (i + 1), bk := D.nx } (σ'.set j (some x)) H') ∧ (∀ σ' H', Pv xs.length σ' H' → D.nx σ' H')) : tFor (iTup K tl) (gName j) tu D σ H :=
  h H (Ex.refl H) _ fun v H1 e p => by
    obtain ⟨a, xs, hv, hx, Pv, h0, hl, hs, hd⟩ := k v H1 e p
    exact ⟨a, hv, ⟨xs, hx⟩, for_tup Pv h0 hl hs hd⟩
theorem q_forTU {j : Nat} {R : V → Hp → Prop} (h : EvR tl σ H R) (k : ∀ v H1, Ex H H1 → R v H1 → ∃ a xs, v = .ref a ∧ SqT K H1 a xs ∧ ∃ Pv : Nat → L2.St → Hp → Prop, Pv 0 σ H1 ∧ (∀ i σ' H', i ≤ xs.length → Pv i σ' H' → SqT K H' a xs) ∧
    (∀ i x σ' H', xs[i]? = some x → Pv i σ' H' → tu { D with nx := Pv (i + 1), ct := Pv (i + 1), bk := tz D } (σ'.set j (some x)) H') ∧ (∀ σ' H', Pv xs.length σ' H' → tz D σ' H')) : tSeq (tFor (iTup K tl) (gName j) tu) tz D σ H :=
  s_forTU (D := { D with nx := tz D }) h k
/-! equality of data -/
mutual
theorem dp_up (e : Ex H H') : ∀ (d : PyData) (v : V), Dp K H v d → Dp K H' v d
  | .none, _, h => by cases h; exact .non
  | .bool b, _, h => by cases h; exact .bl b
  | .int i, _, h => by cases h; exact .int i
  | .str x, _, h => by cases h; exact .str x
  | .list ds, _, h => by
    cases h with
    | lst hs ha => exact .lst (ex_l e hs) (dpa_up e ds _ ha)
  | .tuple ds, _, h => by
    cases h with
    | tup hs ha => exact .tup (ex_t e hs) (dpa_up e ds _ ha)
  | .dict _, _, h => by cases h
theorem dpa_up (e : Ex H H') : ∀ (ds : List PyData) (vs : List V), DpAll K H vs ds → DpAll K H' vs ds
  | [], _, h => by cases h; exact .nil
  | d :: ds, _, h => by
    cases h with
    | cons h1 h2 => exact .cons (dp_up e d _ h1) (dpa_up e ds _ h2)
end
def dInts (ns : List Int) : PyData := .list (ns.map .int)
theorem dpa_ints : ∀ ns : List Int, DpAll K H (iv ns) (ns.map .int)
  | [] => .nil
  | n :: r => .cons (.int n) (dpa_ints r)
theorem dp_ints {a : Addr} {ns : List Int} (h : SqL K H a (iv ns)) : Dp K H (.ref a) (dInts ns) := .lst h (dpa_ints ns)
theorem sh_all : ∀ ds : List PyData, (∀ d ∈ ds, d.canLay0 = true) → PyData.canLayAll0 ds = true
  | [], _ => rfl
  | d :: ds, h => by
    show (d.canLay0 && PyData.canLayAll0 ds) = true
    rw [h d List.mem_cons_self, sh_all ds fun x hx => h x (List.mem_cons_of_mem _ hx)]
    rfl
theorem sh_dep {n : Nat} : ∀ ds : List PyData, (∀ d ∈ ds, PyData.depth d ≤ n) → PyData.depthAll ds ≤ n
  | [], _ => Nat.zero_le _
  | d :: ds, h => by
    show max (PyData.depth d) (PyData.depthAll ds) ≤ n
    have h1 := h d List.mem_cons_self
    have h2 := sh_dep ds fun x hx => h x (List.mem_cons_of_mem _ hx)
    omega
theorem sh_ints (ns : List Int) : SeqAt.shaped (dInts ns) = true := by
  unfold SeqAt.shaped dInts
  rw [Bool.and_eq_true, decide_eq_true_eq]
  refine ⟨sh_all _ fun d hd => ?_, ?_⟩
  · obtain ⟨i, _, rfl⟩ := List.mem_map.mp hd
    rfl
  · have := sh_dep (n := 1) (ns.map .int) fun d hd => by
      obtain ⟨i, _, rfl⟩ := List.mem_map.mp hd
      show PyData.depth (.int i) ≤ 1
      simp [PyData.depth]
    show PyData.depthAll (ns.map .int) + 1 ≤ 64
    omega
theorem can_of {d : PyData} (h : SeqAt.shaped d = true) : d.canLay0 = true := (Bool.and_eq_true_iff.mp h).1
theorem rv_neD {d e : PyData} {b : Bool} (hd : Dp K H x d) (he : Dp K H y e) (sd : SeqAt.shaped d = true) (se : SeqAt.shaped e = true) (hb : (!PyData.eqv d e) = b) : RV (rNeD K) x y H (.bl b) := fun H1 e1 Q q => ⟨d, e, dp_up e1 _ _ hd, dp_up e1 _ _ he, sd, se, by rw [hb]; exact q H1 (Ex.refl _)⟩
theorem rv_eqD {d e : PyData} {b : Bool} (hd : Dp K H x d) (he : Dp K H y e) (sd : SeqAt.shaped d = true) (se : SeqAt.shaped e = true) (hb : PyData.eqv d e = b) : RV (rEqD K) x y H (.bl b) := fun H1 e1 Q q => ⟨d, e, dp_up e1 _ _ hd, dp_up e1 _ _ he, sd, se, by rw [hb]; exact q H1 (Ex.refl _)⟩
theorem rv_neSame {d : PyData} (hd : Dp K H x d) (he : Dp K H y d) (sd : SeqAt.shaped d = true) : RV (rNeD K) x y H (.bl false) := rv_neD hd he sd sd (by rw [SeqAt.eqv_refl d (can_of sd)]; rfl)
theorem rv_eqSame {d : PyData} (hd : Dp K H x d) (he : Dp K H y d) (sd : SeqAt.shaped d = true) : RV (rEqD K) x y H (.bl true) := rv_eqD hd he sd sd (SeqAt.eqv_refl d (can_of sd))
end
section
variable {X : Cx} (K : PySem.W.Frag)
theorem pe_revLK {e : Expr} {te : TE} {k : Nat} {p1 p2 p3 pos : Pos} (he : PE X e te) (h : X.K = K := by rfl) : PE X (.Subscript e (.Slice none none (some (.UnaryOp .USub (.Constant (.int 1) k p1) p2)) p3) pos) (tRevL K te) := by subst h; exact pe_revL he
theorem sl_listK (h : X.K = K := by rfl) : SlR X (rSlL K) := by subst h; exact sl_list
theorem pi_zipK {e e2 : Expr} {ta : TA} {p pos tpos : Pos} {elts : List Expr} {kk : Nat} (hg : Gl X "zip") (hm : X.mg "zip" = none) (ha : PA X [e, e2] ta) (h : X.K = K := by rfl)
    (hs : starEach [e, e2] X.env = (false, eval e X.env) :: starEach [e2] X.env := by rfl) (hpl : (backTo pos (starEach [e2] X.env)).any (·.1) = false := by rfl) :
    PI X (.Tuple elts kk tpos) (.Call (.Name "zip" p) [e, e2] [] pos) (iZip K ta) := by subst h; exact pi_zip hg hm ha hs hpl
end
end Wl
namespace Wl
open PySem PySem.Spec PyProof.Rows L2 Evl
section
variable {K : PySem.W.Frag} {σ : L2.St} {H H' : Hp} {ta tb tc te tl : TE} {t : TT} {x y z v : V} {D : Ends} {tu tw tz : TS} {g : TG}
/-- a, b = x, y, told by facts -/
theorem q_parR {i j : Nat} {ta : TA} {R : List V → Hp → Prop} (h : EvAR ta σ H R) (hv : ∀ vs H1, R vs H1 → ∃ v w, vs = [v, w]) (k : ∀ v w H1, Ex H H1 → R [v, w] H1 → tz D ((σ.set i (some v)).set j (some w)) H1) : tSeq (tPar i j ta) tz D σ H :=
  h H (Ex.refl H) _ fun vs H1 e p => by
    obtain ⟨v, w, rfl⟩ := hv vs H1 p
    exact ⟨v, w, rfl, k v w H1 e p⟩
/-- a test of which nothing is known -/
def EvQ (t : TT) (σ : L2.St) (H : Hp) : Prop := ∀ H1, Ex H H1 → ∀ Q : Bool → Hp → Prop, (∀ b H2, Ex H1 H2 → Q b H2) → t σ H1 Q
theorem er_test {r : R2} {R : V → Hp → Prop} (ha : EvR ta σ H R) (hb : Ev tb σ H y) (hr : ∀ x H1, Ex H H1 → R x H1 → ∀ Q : VK, (∀ b, Q (.bl b) H1) → r x y H1 Q) (hR : ∀ x H1 H2, Ex H1 H2 → R x H1 → R x H2 := by intros; assumption) : EvQ (tTest (tOp r ta tb)) σ H := fun H1 e Q q =>
  ha H1 e _ fun x H2 e2 p => hb H2 (e.trans e2) _ fun H3 e3 => hr x H3 ((e.trans e2).trans e3) (hR x H2 H3 e3 p) _ fun b => ⟨b, rfl, q b H3 (e2.trans e3)⟩
theorem q_if_R (h : EvQ t σ H) (h1 : ∀ H1, Ex H H1 → tu { D with nx := tz D } σ H1) (h2 : ∀ H1, Ex H H1 → tw { D with nx := tz D } σ H1) : tSeq (tIfS t tu tw) tz D σ H := h H (Ex.refl H) _ fun b H1 e => by
  cases b with
  | true => exact h1 H1 e
  | false => exact h2 H1 e
end
end Wl
namespace Wl
open PySem PySem.Spec PyProof.Rows L2 Evl
section
variable {X : Cx} (K : PySem.W.Frag)
theorem inK (h : X.K = K := by rfl) : OpR X (compareOp .In) (rIn K false) := by subst h; exact op_in_seq
theorem notinK (h : X.K = K := by rfl) : OpR X (compareOp .NotIn) (rIn K true) := by subst h; exact op_notIn_seq
end
end Wl
namespace Wl
open PySem
theorem iv_append (a b : List Int) : iv (a ++ b) = iv a ++ iv b := List.map_append
theorem iv_map {α : Type} (f : α → Int) (l : List α) : iv (l.map f) = l.map (fun n => L2.V.int (f n)) := List.map_map
theorem iv_len (l : List Int) : (iv l).length = l.length := List.length_map ..
end Wl
namespace Wl
open PySem PySem.Spec PyProof.Rows L2 Evl
section
variable {K : PySem.W.Frag} {σ : L2.St} {H H' : Hp} {ta tb tc te tl : TE} {t : TT} {x y z v : V} {D : Ends} {tu tw tz : TS} {g : TG}
/-- a call whose one argument is told by facts -/
theorem er_call1 {α : Type} {Pre : α → List V → Hp → Prop} {Post : α → Hp → V → Hp → Prop} {E : XK} {R S : V → Hp → Prop} (h : EvR te σ H R) (hd : ∀ x H1, Ex H H1 → R x H1 → ∃ d, Pre d [x] H1 ∧ ∀ v H2, Ex H1 H2 → Post d H1 v H2 → S v H2) : EvR (tCall (spX Pre Post) [] E (tCons te tNil)) σ H S := fun H1 e Q q =>
  h H1 e _ fun x H2 e2 p => by
    obtain ⟨d, h1, h2⟩ := hd x H2 (e.trans e2) p
    exact ⟨d, h1, fun v H3 e3 p3 => q v H3 (e2.trans e3) (h2 v H3 e3 p3)⟩
theorem ev_call1 {α : Type} {Pre : α → List V → Hp → Prop} {Post : α → Hp → V → Hp → Prop} {E : XK} {R : V → Hp → Prop} (h : EvR te σ H R) (hd : ∀ x H1, Ex H H1 → R x H1 → ∃ d, Pre d [x] H1 ∧ ∀ v H2, Ex H1 H2 → Post d H1 v H2 → v = z) : Ev (tCall (spX Pre Post) [] E (tCons te tNil)) σ H z :=
  (er_call1 (S := fun v _ => v = z) h hd).ev fun _ _ _ p => p
/-- an object's list, grown: told at a word of one's own -/
theorem q_appF {l : Addr} {xs : List V} (hl : H l = some (.lst xs)) (ha : Ev ta σ H (.ref l)) (h : Ev te σ H v) (hz : xs.length < 100000) (k : ∀ H1, Ex H H1 → tz D σ (upd H1 l (.lst (xs ++ [v])))) :
    tSeq (tDrop (tBM K "list" rAppend ta (tCons te tNil))) tz D σ H := q_app hl ha h hz k
theorem iv_get {ns : List Int} {i : Nat} {x : V} (h : (iv ns)[i]? = some x) : i < ns.length ∧ x = .int (ns.getD i 0) := by
  rw [List.getElem?_map] at h
  cases e : ns[i]? with
  | none => rw [e] at h; cases h
  | some n =>
    rw [e] at h
    refine ⟨(List.getElem?_eq_some_iff.mp e).1, ?_⟩
    rw [List.getD_eq_getElem?_getD, e]
    exact (Option.some.inj h).symm
end
end Wl
namespace Wl
open PySem
theorem iv_reverse (l : List Int) : (iv l).reverse = iv l.reverse := List.map_reverse.symm
theorem iv_drop (n : Nat) (l : List Int) : (iv l).drop n = iv (l.drop n) := List.map_drop.symm
theorem iv_take (n : Nat) (l : List Int) : (iv l).take n = iv (l.take n) := List.map_take.symm
end Wl
namespace Wl
open PySem PySem.Spec PyProof.Rows L2 Evl
/-- one of two readings -/
def tAlt (t u : TE) : TE := fun σ H Q => t σ H Q ∨ u σ H Q
theorem pe_alt {X : Cx} {e : Expr} {t u : TE} (h1 : PE X e t) (h2 : PE X e u) : PE X e (tAlt t u) := ⟨fun pins s σ H Q I h => h.elim (h1.run pins s σ H Q I) (h2.run pins s σ H Q I)⟩
section
variable {K : PySem.W.Frag} {σ : L2.St} {H H' : Hp} {ta tb tc te tl : TE} {t : TT} {x y z v : V} {D : Ends} {tu tw tz : TS} {g : TG} {R : V → Hp → Prop}
theorem ev_altL (h : Ev ta σ H v) : Ev (tAlt ta tb) σ H v := fun H1 e Q q => .inl (h H1 e Q q)
theorem ev_altR (h : Ev tb σ H v) : Ev (tAlt ta tb) σ H v := fun H1 e Q q => .inr (h H1 e Q q)
theorem er_if {b : Bool} (h : EvT t σ H b) (h1 : b = true → EvR ta σ H R) (h2 : b = false → EvR tb σ H R) : EvR (tIf t ta tb) σ H R := fun H1 e Q q => h H1 e _ fun H2 e2 => by
  cases b with
  | true => exact h1 rfl H2 (e.trans e2) Q fun v H3 e3 p => q v H3 (e2.trans e3) p
  | false => exact h2 rfl H2 (e.trans e2) Q fun v H3 e3 p => q v H3 (e2.trans e3) p
/-- for x in a new list -/
theorem s_forLU {j : Nat} (h : EvR tl σ H R) (k : ∀ v H1, Ex H H1 → R v H1 → ∃ a xs, v = .ref a ∧ SqL K H1 a xs ∧ ∃ Pv : Nat → L2.St → Hp → Prop, Pv 0 σ H1 ∧ (∀ i σ' H', i ≤ xs.length → Pv i σ' H' → SqL K H' a xs) ∧
    (∀ i x σ' H', xs[i]? = some x → Pv i σ' H' → tu { D with nx := Pv (i + 1), ct := Pv (i + 1), bk := D.nx } (σ'.set j (some x)) H') ∧ (∀ σ' H', Pv xs.length σ' H' → D.nx σ' H')) : tFor (iList K tl) (gName j) tu D σ H :=
  h H (Ex.refl H) _ fun v H1 e p => by
    obtain ⟨a, xs, hv, hx, Pv, h0, hl, hs, hd⟩ := k v H1 e p
    exact ⟨a, hv, ⟨xs, hx⟩, for_list Pv h0 hl hs hd⟩
theorem q_forLU {j : Nat} (h : EvR tl σ H R) (k : ∀ v H1, Ex H H1 → R v H1 → ∃ a xs, v = .ref a ∧ SqL K H1 a xs ∧ ∃ Pv : Nat → L2.St → Hp → Prop, Pv 0 σ H1 ∧ (∀ i σ' H', i ≤ xs.length → Pv i σ' H' → SqL K H' a xs) ∧
    (∀ i x σ' H', xs[i]? = some x → Pv i σ' H' → tu { D with nx := Pv (i + 1), ct := Pv (i + 1), bk := tz D } (σ'.set j (some x)) H') ∧ (∀ σ' H', Pv xs.length σ' H' → tz D σ' H')) : tSeq (tFor (iList K tl) (gName j) tu) tz D σ H :=
  s_forLU (D := { D with nx := tz D }) h k
end
/-! xs[lo:hi:st] of a list, all three parts told -/
def pickV {α : Type} (xs : List α) (lo hi st : Option Int) : List α := (sliceRange (sliceBounds lo hi st xs.length).1 (sliceBounds lo hi st xs.length).2.1 (sliceBounds lo hi st xs.length).2.2).filterMap (xs[·]?)
theorem pickV_map {α β : Type} (f : α → β) (xs : List α) (lo hi st : Option Int) : pickV (xs.map f) lo hi st = (pickV xs lo hi st).map f := by
  unfold pickV
  rw [List.length_map, List.map_filterMap]
  exact congrArg (fun g => List.filterMap g _) (funext fun i => List.getElem?_map)
theorem vals_fm {xs : List V} {its : List Value} (r : Vals xs its) : ∀ l : List Nat, Vals (l.filterMap (xs[·]?)) (l.filterMap (its[·]?))
  | [] => .nil
  | i :: l => by
    have ih := vals_fm r l
    cases e : xs[i]? with
    | none =>
      rw [List.filterMap_cons_none (by exact e), List.filterMap_cons_none (by exact r.none_of e)]
      exact ih
    | some x =>
      obtain ⟨u, h1, h2⟩ := r.get e
      rw [List.filterMap_cons_some (by exact e), List.filterMap_cons_some (by exact h1)]
      exact .cons h2 ih
theorem vals_pick {xs : List V} {its : List Value} (r : Vals xs its) (lo hi st : Option Int) : Vals (pickV xs lo hi st) (slicePick its.toArray lo hi st).toList := by
  have z := vals_fm r (sliceRange (sliceBounds lo hi st xs.length).1 (sliceBounds lo hi st xs.length).2.1 (sliceBounds lo hi st xs.length).2.2)
  rw [r.length] at z
  simpa only [pickV, slicePick, r.length, List.size_toArray, List.getElem?_toArray] using z
/-- the reading: the list, then the parts in their order -/
def tSl3 (K : PySem.W.Frag) (te : TE) (t1 t2 t3 : TO) : TE := fun σ H Q => te σ H fun x H1 => t1 σ H1 fun lo H2 => t2 σ H2 fun hi H3 => t3 σ H3 fun st H4 =>
  ∃ a xs, x = .ref a ∧ SqL K H4 a xs ∧ st ≠ some 0 ∧ ∀ p, H4 p = none → Q (.ref p) (upd H4 p (.lst (pickV xs lo hi st)))
theorem pe_sl3 {X : Cx} (K : PySem.W.Frag) {e : Expr} {e1 e2 e3 : Option Expr} {te : TE} {t1 t2 t3 : TO} {p3 pos : Pos} (he : PE X e te) (h1 : PO X e1 t1) (h2 : PO X e2 t2) (h3 : PO X e3 t3) (hK : X.K = K := by rfl)
    (plain : ∀ u v, subscripted (.Slice e1 e2 e3 p3) false u v = operate [u, v] (getItem u v) := by intro u v; with_unfolding_all rfl) : PE X (.Subscript e (.Slice e1 e2 e3 p3) pos) (tSl3 K te t1 t2 t3) := by
  subst hK
  constructor
  intro pins s σ H Q I h
  refine Subscript_ (thn (he.run pins s σ H _ I h) ?_)
  rintro v s1 ⟨x, H1, I1, rx, h⟩
  refine wpAny_Slice (thn (h1.run pins s1 σ H1 _ I1 h) ?_)
  rintro vl s2 ⟨lo, H2, I2, pl, h⟩
  refine thn (h2.run pins s2 σ H2 _ I2 h) ?_
  rintro vu s3 ⟨hi, H3, I3, pu, h⟩
  refine thn (h3.run pins s3 σ H3 _ I3 h) ?_
  rintro vs s4 ⟨st, H4, I4, ps, a, xs, rfl, list, nz, q⟩
  cases rx
  have J : Inv X pins σ H4 { s4 with heap := s4.heap.push { cls := .type "slice", data := .fields #[vl, vu, vs] } } := I4.kept (t' := s4.toks) fun b o z => Heap.get?_push_of_some _ z
  rcases J.list list with ⟨its, vals, cells, small⟩
  have picked := vals_pick vals lo hi st
  have fits : (pickV xs lo hi st).length ≤ xs.length := by
    rw [picked.length, Array.length_toList, vals.length]
    exact slicePick_size_le its.toArray lo hi st
  refine tail_any cells.isList.typeIs PySem.slot_list_getitem.lookup (wpAny_getItem_list_slice cells.isList (Heap.IsSliceOf.new _ vl vu vs) pl pu ps nz ?_ (by rw [List.size_toArray, ← vals.length]; exact small)) (plain _ _)
  exact ⟨.ref _, _, J.laid (t' := s4.toks) (o := .lst (pickV xs lo hi st)) (fun b o z => Heap.get?_push_of_some _ z) (Nat.le_refl _) ⟨Nat.le_trans fits small, _, 0, picked, Heap.get?_push_size _ rfl⟩, rfl, q _ (J.hok.fresh (Nat.le_refl _))⟩
def stepP {α : Type} (xs : List α) : List α := pickV xs none none (some 2)
theorem stepP_iv (ns : List Int) : stepP (iv ns) = iv (stepP ns) := pickV_map V.int ns _ _ _
def tStepL (K : PySem.W.Frag) (te : TE) : TE := tSl3 K te tNoPart tNoPart (tPart (tC (.int 2)))
theorem pe_stepLK {X : Cx} (K : PySem.W.Frag) {e : Expr} {te : TE} {k : Nat} {p1 p3 pos : Pos} (he : PE X e te) (hK : X.K = K := by rfl) : PE X (.Subscript e (.Slice none none (some (.Constant (.int 2) k p1)) p3) pos) (tStepL K te) := pe_sl3 K he po_none po_none (po_some pe_int) hK
theorem er_step {K : PySem.W.Frag} {σ : L2.St} {H : Hp} {ta : TE} {xs : List V} {a : Addr} (h : Ev ta σ H (.ref a)) (hx : SqL K H a xs) : EvR (tStepL K ta) σ H (NewL (stepP xs) H) := fun H1 e Q q =>
  h H1 e _ fun H2 e2 => ⟨2, rfl, a, xs, rfl, ex_l (e.trans e2) hx, by decide, fun l hn => q _ _ (e2.trans (Ex.new hn)) ⟨l, rfl, fresh_back (e.trans e2) hn, upd_same⟩⟩
end Wl
namespace Wl
open PySem L2
theorem cut_last (xs : List V) : cutV xs none (some (-1)) = xs.dropLast := by
  unfold cutV
  rw [HT.sIx_none, List.drop_zero]
  rw [show HT.sIx xs.length xs.length (some (-1)) = ((-1 : Int) + (xs.length : Int)).toNat from rfl, List.dropLast_eq_take]
  congr 1
  omega
theorem iv_dropLast (l : List Int) : (iv l).dropLast = iv l.dropLast := by
  rw [List.dropLast_eq_take, List.dropLast_eq_take, iv_len, iv_take]
end Wl
namespace Wl
open PySem PySem.Spec PyProof.Rows L2 Evl
/-- [F n for n in a new list] -/
theorem er_lcNI {K : PySem.W.Frag} {σ : L2.St} {H : Hp} {tl te : TE} {ns : List Int} {vs : List Nat} {j : Nat} {S : V → Hp → Prop} (F : Int → V) (h : EvR tl σ H S) (hS : ∀ v H1, Ex H H1 → S v H1 → ∃ a, v = .ref a ∧ SqL K H1 a (iv ns)) (hz : ns.length ≤ 40000) (hw : ∀ x, wipe ((wipe σ vs).set j (some x)) vs = wipe σ vs)
    (hg : ∀ H1, Ex H H1 → ∀ n, n ∈ ns → Ev te ((wipe σ vs).set j (some (.int n))) H1 (F n)) : EvR (tLc (iList K tl) (gName j) tYes te vs) σ H (NewL (ns.map F) H) :=
  (er_lcNL S (fun i y _ => y = F (ns.getD i 0)) stb_val h hS (by rw [iv_len]; exact hz) fun v H1 e hv i x hi => by
    obtain ⟨hi', rfl⟩ := iv_get hi
    exact ⟨_, hw _, evr (hg H1 e _ (getD_mem hi')), fun _ _ _ q => q⟩).imp fun v H2 _ p => by
    have q := LcR.new p
    rw [iv_len, range_items F 0 ns] at q
    exact q
end Wl
namespace Wl
open PySem PySem.Spec PyProof.Rows L2 Evl
section
variable {K : PySem.W.Frag} {σ : L2.St} {H H' : Hp} {ta te ti : TE} {D : Ends} {tz : TS} {R : V → Hp → Prop}
/-- xs.append of what is told by facts -/
theorem q_appR {l : Addr} {xs : List V} (hl : H l = some (.lst xs)) (ha : Ev ta σ H (.ref l)) (h : EvR te σ H R) (hz : xs.length < 100000) (k : ∀ v H1, Ex H H1 → R v H1 → tz D σ (upd H1 l (.lst (xs ++ [v])))) :
    tSeq (tDrop (tBM K "list" rAppend ta (tCons te tNil))) tz D σ H := ha H (Ex.refl H) _ fun H1 e1 =>
  ⟨Or.inl ⟨rfl, xs, sq_of (e1 l _ hl)⟩, h H1 e1 _ fun v H2 e2 p => ⟨l, xs, v, rfl, rfl, e2 l _ (e1 l _ hl), sz_lt hz, k v H2 (e1.trans e2) p⟩⟩
theorem ev_pickR {l : List Int} {ta : TA} {vs : List V} (h : EvA ta σ H vs) (hi : EvR ti σ H (fun v _ => ∃ i : Int, v = .int i ∧ 0 ≤ i ∧ i < l.length)) (hv : vs = l.map V.int) (hl : l.length ≤ 100000) : EvR (tOp (rIxT K) (tTup ta) ti) σ H (fun v _ => ∃ i : Int, 0 ≤ i ∧ i < l.length ∧ v = .int (l.getD i.toNat 0)) :=
  er_op (eur (eu_tup h (by rw [hv, List.length_map]; exact hl))) (fun x H1 e _ => hi.mono e) (fun x y H1 H2 e ⟨p, hx, _, hp⟩ e2 ⟨i, hy, h0, h1⟩ Q q => by
    subst hx hy
    rw [hv] at hp
    exact rv_ixT (st_of (e2 _ _ hp)) (atI_map h0 h1) H2 (Ex.refl _) Q fun H3 e3 => q _ H3 e3 ⟨i, h0, h1, rfl⟩)
end
end Wl
namespace Wl
open PySem PySem.Spec PyProof.Rows L2 Evl
/-! ### a < b < c < d: chains of any length, operand by operand -/
/-- what stands behind an operand whose value is x -/
def PCh (X : Cx) (ops : List CmpOp) (es : List Expr) (t : V → TE) : Prop :=
  ∀ pins s σ H x v Q pos, Inv X pins σ H s → RelV x v → t x σ H Q → wpAny (model X.prog X.w) X.A (compareChain pos v ops (evalEach es X.env)) (EP X pins σ Q) X.xe s
/-- .. where a test is asked for -/
def PTh (X : Cx) (ops : List CmpOp) (es : List Expr) (t : V → TE) : Prop :=
  ∀ pins s σ H x v Q pos, Inv X pins σ H s → RelV x v → tTest (t x) σ H Q → wpAny (model X.prog X.w) X.A (testChain pos v ops (evalEach es X.env)) (TP X pins σ Q) X.xe s
def tLast (r : R2) (tb : TE) (x : V) : TE := fun σ H Q => tb σ H fun y H1 => r x y H1 Q
def tMore (r : R2) (tb : TE) (t : V → TE) (x : V) : TE := fun σ H Q => tb σ H fun y H1 => r x y H1 fun z H2 => ∃ k, z = .bl k ∧ (if k = true then t y σ H2 Q else Q (.bl false) H2)
def tChain3 (r r' r2 : R2) (ta tb tc td : TE) : TE := fun σ H Q => ta σ H fun x H1 => tMore r tb (tMore r' tc (tLast r2 td)) x σ H1 Q
section
variable {X : Cx} {a b c d e' : Expr} {es : List Expr} {ta tb tc td : TE} {t : V → TE} {pos : Pos} {op op' op2 : CmpOp} {ops : List CmpOp} {r r' r2 : R2}
theorem pch_last (ho : OpR X (compareOp op) r) (hb : PE X b tb) : PCh X [op] [b] (tLast r tb) := fun pins s σ H x v Q _ I rx q => by
  refine chain_last (thn (hb.run pins s σ H _ I q) ?_)
  rintro u s1 ⟨y, H1, J, ry, q⟩
  exact ho pins s1 σ H1 x y v u Q J rx ry q
theorem pth_last (ho : OpR X (compareOp op) r) (hb : PE X b tb) : PTh X [op] [b] (tLast r tb) := fun pins s σ H x v Q _ I rx q => by
  refine test_last (thn (hb.run pins s σ H _ I q) ?_)
  rintro u s1 ⟨y, H1, J, ry, q⟩
  refine thn (ho pins s1 σ H1 x y v u _ J rx ry q) ?_
  rintro _ s2 ⟨z, H2, J2, rz, k, rfl, q⟩
  cases rz
  exact wpAny_truthy_bool ⟨H2, J2, q⟩
theorem pch_more (ho : OpR X (compareOp op) r) (hb : PE X b tb) (rest : PCh X (op' :: ops) (e' :: es) t) : PCh X (op :: op' :: ops) (b :: e' :: es) (tMore r tb t) := fun pins s σ H x v Q pos I rx q => by
  refine chain_link (thn (hb.run pins s σ H _ I q) ?_)
  rintro u s1 ⟨y, H1, J, ry, q⟩
  refine thn (ho pins s1 σ H1 x y v u _ J rx ry q) ?_
  rintro _ s2 ⟨z, H2, J2, rz, k, rfl, q⟩
  cases rz
  cases k with
  | false => exact wpAny_truthy_bool (ite_ff ⟨.bl false, H2, J2, rfl, q⟩)
  | true => exact wpAny_truthy_bool (ite_tt (rest pins s2 σ H2 y u Q pos J2 ry q))
theorem pth_more (ho : OpR X (compareOp op) r) (hb : PE X b tb) (rest : PTh X (op' :: ops) (e' :: es) t) : PTh X (op :: op' :: ops) (b :: e' :: es) (tMore r tb t) := fun pins s σ H x v Q pos I rx q => by
  refine test_link (thn (hb.run pins s σ H _ I q) ?_)
  rintro u s1 ⟨y, H1, J, ry, q⟩
  refine thn (ho pins s1 σ H1 x y v u _ J rx ry q) ?_
  rintro _ s2 ⟨z, H2, J2, rz, k, rfl, q⟩
  cases rz
  cases k with
  | false =>
    obtain ⟨_, same, q⟩ : ∃ k, V.bl false = .bl k ∧ Q k H2 := q
    cases same
    exact wpAny_truthy_bool (ite_ff ⟨H2, J2, q⟩)
  | true => exact wpAny_truthy_bool (ite_tt (rest pins s2 σ H2 y u Q pos J2 ry q))
theorem pe_chain3 (ho : OpR X (compareOp op) r) (ho' : OpR X (compareOp op') r') (ho2 : OpR X (compareOp op2) r2) (ha : PE X a ta) (hb : PE X b tb) (hc : PE X c tc) (hd : PE X d td)
    (hm : lastMarks [op, op', op2] [b, c, d] = false := by with_unfolding_all rfl) : PE X (.Compare a [op, op', op2] [b, c, d] pos) (tChain3 r r' r2 ta tb tc td) :=
  ⟨fun pins s σ H Q I h => Compare_chain (thn (ha.run pins s σ H _ I h) fun v s1 ⟨x, H1, J, rx, q⟩ => pch_more ho hb (pch_more ho' hc (pch_last ho2 hd)) pins s1 σ H1 x v Q _ J rx q) hm⟩
theorem pt_chain3 (ho : OpR X (compareOp op) r) (ho' : OpR X (compareOp op') r') (ho2 : OpR X (compareOp op2) r2) (ha : PE X a ta) (hb : PE X b tb) (hc : PE X c tc) (hd : PE X d td)
    (hm : lastMarks [op, op', op2] [b, c, d] = false := by with_unfolding_all rfl) : PT X (.Compare a [op, op', op2] [b, c, d] pos) (tTest (tChain3 r r' r2 ta tb tc td)) :=
  ⟨fun pins s σ H Q I h => isTrue_chain (thn (ha.run pins s σ H _ I h) fun v s1 ⟨x, H1, J, rx, q⟩ => pth_more ho hb (pth_more ho' hc (pth_last ho2 hd)) pins s1 σ H1 x v Q _ J rx q) hm⟩
end
theorem ev_chain3 {σ : L2.St} {H : Hp} {r r' r2 : R2} {ta tb tc td : TE} {x y z u : V} {a b c : Bool} (ha : Ev ta σ H x) (hb : Ev tb σ H y) (h1 : RV r x y H (.bl a)) (hc : a = true → Ev tc σ H z) (h2 : a = true → RV r' y z H (.bl b)) (hd : a = true → b = true → Ev td σ H u) (h3 : a = true → b = true → RV r2 z u H (.bl c)) :
    Ev (tChain3 r r' r2 ta tb tc td) σ H (.bl (a && (b && c))) := fun H1 e Q q =>
  ha H1 e _ fun H2 e2 => hb H2 (e.trans e2) _ fun H3 e3 => h1 H3 ((e.trans e2).trans e3) _ fun H4 e4 => ⟨a, rfl, by
    cases a with
    | false => exact q H4 ((e2.trans e3).trans e4)
    | true => exact hc rfl H4 (((e.trans e2).trans e3).trans e4) _ fun H5 e5 => h2 rfl H5 ((((e.trans e2).trans e3).trans e4).trans e5) _ fun H6 e6 => ⟨b, rfl, by
        have e26 := (((e2.trans e3).trans e4).trans e5).trans e6
        cases b with
        | false => exact q H6 e26
        | true => exact hd rfl rfl H6 (e.trans e26) _ fun H7 e7 => h3 rfl rfl H7 (e.trans (e26.trans e7)) Q fun H8 e8 => q H8 (e26.trans (e7.trans e8))⟩⟩
end Wl
namespace Wl
open PySem PySem.Spec PyProof.Rows L2 Evl
/-! ### lists of pairs -/
def PairAt (H : Hp) (x : V) (p : Int × Int) : Prop := ∃ t, x = .ref t ∧ H t = some (.tup [.int p.1, .int p.2])
/-- the items are pairs: rs -/
def RsL (H : Hp) : List V → List (Int × Int) → Prop
  | [], [] => True
  | x :: xs, p :: rs => PairAt H x p ∧ RsL H xs rs
  | _, _ => False
theorem PairAt.up {H H' : Hp} {x : V} {p : Int × Int} (e : Ex H H') (h : PairAt H x p) : PairAt H' x p := by
  obtain ⟨t, r, h⟩ := h
  exact ⟨t, r, e _ _ h⟩
theorem RsL.up {H H' : Hp} (e : Ex H H') : ∀ {xs : List V} {rs : List (Int × Int)}, RsL H xs rs → RsL H' xs rs
  | [], [], h => h
  | _ :: _, _ :: _, h => ⟨h.1.up e, RsL.up e h.2⟩
  | [], _ :: _, h => h
  | _ :: _, [], h => h
/-- a list's change leaves the pairs -/
theorem RsL.mut {H : Hp} {l : Addr} {ys : List V} (zs : List V) (hl : H l = some (.lst ys)) : ∀ {xs : List V} {rs : List (Int × Int)}, RsL H xs rs → RsL (upd H l (.lst zs)) xs rs
  | [], [], h => h
  | _ :: _, _ :: _, ⟨⟨t, e, h⟩, h2⟩ => ⟨⟨t, e, by rw [upd_ne (ne_of h hl (by intro z; cases z))]; exact h⟩, RsL.mut zs hl h2⟩
  | [], _ :: _, h => h
  | _ :: _, [], h => h
theorem RsL.len {H : Hp} : ∀ {xs : List V} {rs : List (Int × Int)}, RsL H xs rs → xs.length = rs.length
  | [], [], _ => rfl
  | _ :: _, _ :: _, h => congrArg (· + 1) (RsL.len h.2)
  | [], _ :: _, h => h.elim
  | _ :: _, [], h => h.elim
theorem RsL.get {H : Hp} : ∀ {xs : List V} {rs : List (Int × Int)} {i : Nat} {x : V}, RsL H xs rs → xs[i]? = some x → i < rs.length ∧ PairAt H x (rs.getD i (0, 1))
  | [], [], _, _, _, e => by simp at e
  | _ :: _, _ :: _, 0, _, h, e => by
    cases e
    exact ⟨Nat.zero_lt_succ _, h.1⟩
  | _ :: xs, p :: rs, i + 1, x, h, e => by
    have := RsL.get (xs := xs) (rs := rs) (i := i) (x := x) h.2 e
    exact ⟨Nat.succ_lt_succ this.1, by simpa using this.2⟩
  | [], _ :: _, _, _, h, _ => h.elim
  | _ :: _, [], _, _, h, _ => h.elim
theorem RsL.at {H : Hp} {xs : List V} {rs : List (Int × Int)} {i : Nat} (h : RsL H xs rs) (hi : i < rs.length) : ∃ t, xs[i]? = some (.ref t) ∧ H t = some (.tup [.int (rs.getD i (0, 1)).1, .int (rs.getD i (0, 1)).2]) := by
  have hx : i < xs.length := by rw [h.len]; exact hi
  have e := List.getElem?_eq_getElem hx
  obtain ⟨t, et, ht⟩ := (h.get e).2
  exact ⟨t, by rw [e, et], ht⟩
theorem RsL.append {H : Hp} : ∀ {xs ys : List V} {rs ss : List (Int × Int)}, RsL H xs rs → RsL H ys ss → RsL H (xs ++ ys) (rs ++ ss)
  | [], _, [], _, _, h => h
  | _ :: _, _, _ :: _, _, h, k => ⟨h.1, RsL.append h.2 k⟩
  | [], _, _ :: _, _, h, _ => h.elim
  | _ :: _, _, [], _, h, _ => h.elim
theorem RsL.rev {H : Hp} : ∀ {xs : List V} {rs : List (Int × Int)}, RsL H xs rs → RsL H xs.reverse rs.reverse
  | [], [], h => h
  | x :: xs, p :: rs, h => by
    rw [List.reverse_cons, List.reverse_cons]
    exact RsL.append (RsL.rev h.2) ⟨h.1, trivial⟩
  | [], _ :: _, h => h.elim
  | _ :: _, [], h => h.elim
theorem RsL.drop1 {H : Hp} : ∀ {xs : List V} {rs : List (Int × Int)}, RsL H xs rs → RsL H (xs.drop 1) (rs.drop 1)
  | [], [], h => h
  | _ :: _, _ :: _, h => h.2
  | [], _ :: _, h => h.elim
  | _ :: _, [], h => h.elim
theorem RsL.set {H : Hp} {y : V} {q : Int × Int} (hy : PairAt H y q) : ∀ {xs : List V} {rs : List (Int × Int)} (i : Nat), RsL H xs rs → RsL H (xs.set i y) (rs.set i q)
  | [], [], _, h => h
  | _ :: _, _ :: _, 0, h => ⟨hy, h.2⟩
  | _ :: _, _ :: _, i + 1, h => ⟨h.1, RsL.set hy i h.2⟩
  | [], _ :: _, _, h => h.elim
  | _ :: _, [], _, h => h.elim
theorem rsl_of {H : Hp} : ∀ {xs : List V} {rs : List (Int × Int)}, xs.length = rs.length → (∀ i x, xs[i]? = some x → PairAt H x (rs.getD i (0, 1))) → RsL H xs rs
  | [], [], _, _ => trivial
  | x :: xs, p :: rs, hl, h => ⟨h 0 x rfl, rsl_of (by simpa using hl) fun i y hy => by simpa using h (i + 1) y hy⟩
  | [], _ :: _, hl, _ => by simp at hl
  | _ :: _, [], hl, _ => by simp at hl
/-- a list of pairs at an address -/
def RsAt (H : Hp) (v : V) (rs : List (Int × Int)) : Prop := ∃ a xs, v = .ref a ∧ H a = some (.lst xs) ∧ RsL H xs rs
theorem RsAt.up {H H' : Hp} {v : V} {rs : List (Int × Int)} (e : Ex H H') (h : RsAt H v rs) : RsAt H' v rs := by
  obtain ⟨a, xs, r, h1, h2⟩ := h
  exact ⟨a, xs, r, e _ _ h1, h2.up e⟩
/-! equality -/
def dRs (rs : List (Int × Int)) : PyData := .list (rs.map fun p => .tuple [.int p.1, .int p.2])
theorem dpa_rs {K : PySem.W.Frag} {H : Hp} : ∀ {xs : List V} {rs : List (Int × Int)}, RsL H xs rs → DpAll K H xs (rs.map fun p => .tuple [.int p.1, .int p.2])
  | [], [], _ => .nil
  | _ :: _, _ :: _, ⟨⟨t, e, ht⟩, h2⟩ => by
    subst e
    exact .cons (.tup (st_of ht) (.cons (.int _) (.cons (.int _) .nil))) (dpa_rs h2)
  | [], _ :: _, h => h.elim
  | _ :: _, [], h => h.elim
theorem dp_rs {K : PySem.W.Frag} {H : Hp} {a : Addr} {xs : List V} {rs : List (Int × Int)} (h : H a = some (.lst xs)) (hr : RsL H xs rs) : Dp K H (.ref a) (dRs rs) := .lst (sq_of h) (dpa_rs hr)
theorem sh_rs (rs : List (Int × Int)) : SeqAt.shaped (dRs rs) = true := by
  unfold SeqAt.shaped dRs
  rw [Bool.and_eq_true, decide_eq_true_eq]
  refine ⟨sh_all _ fun d hd => ?_, ?_⟩
  · obtain ⟨i, _, rfl⟩ := List.mem_map.mp hd
    rfl
  · have := sh_dep (n := 2) (rs.map fun p => PyData.tuple [.int p.1, .int p.2]) fun d hd => by
      obtain ⟨i, _, rfl⟩ := List.mem_map.mp hd
      show PyData.depth (.tuple [.int i.1, .int i.2]) ≤ 2
      simp [PyData.depth, PyData.depthAll]
    show PyData.depthAll _ + 1 ≤ 64
    omega
theorem kit_tt {K : PySem.W.Frag} : PySem.W.kitOne K (.type "tuple") (.type "tuple") = some true := kit_ty (by decide +kernel)
section
variable {K : PySem.W.Frag} {σ : L2.St} {H H' : Hp} {ta tb tc te tl : TE} {D : Ends} {tu tz : TS}
/-- [.. for x, y in pairs] -/
theorem er_lcRs {a : Addr} {xs : List V} {rs : List (Int × Int)} {vs : List Nat} {j l : Nat} (R : Nat → V → Hp → Prop) (hst : Stb R) (h : Ev tl σ H (.ref a)) (hx : H a = some (.lst xs)) (hr : RsL H xs rs) (hz : rs.length ≤ 40000) (hw : ∀ x y, wipe (((wipe σ vs).set j (some x)).set l (some y)) vs = wipe σ vs)
    (hg : ∀ i, i < rs.length → EvR te (((wipe σ vs).set j (some (.int (rs.getD i (0, 1)).1))).set l (some (.int (rs.getD i (0, 1)).2))) H (R i)) :
    EvR (tLc (iList K tl) (gTup K 2 (gCons (gName j) (gCons (gName l) gNil))) tYes te vs) σ H (LcR rs.length R H) := by
  rw [← hr.len]
  exact er_lcLp R hst h (sq_of hx) (by rw [hr.len]; exact hz) hw fun i x hi => by
    obtain ⟨h1, t, e, ht⟩ := hr.get hi
    exact ⟨t, _, _, e, st_of ht, hg i h1⟩
theorem er_lcRsV {a : Addr} {xs : List V} {rs : List (Int × Int)} {vs : List Nat} {j l : Nat} (F : Int × Int → V) (h : Ev tl σ H (.ref a)) (hx : H a = some (.lst xs)) (hr : RsL H xs rs) (hz : rs.length ≤ 40000) (hw : ∀ x y, wipe (((wipe σ vs).set j (some x)).set l (some y)) vs = wipe σ vs)
    (hg : ∀ p, p ∈ rs → Ev te (((wipe σ vs).set j (some (.int p.1))).set l (some (.int p.2))) H (F p)) :
    EvR (tLc (iList K tl) (gTup K 2 (gCons (gName j) (gCons (gName l) gNil))) tYes te vs) σ H (NewL (rs.map F) H) :=
  (er_lcRs (fun i y _ => y = F (rs.getD i (0, 1))) stb_val h hx hr hz hw fun i hi => evr (hg _ (by
    rw [List.getD_eq_getElem?_getD, List.getElem?_eq_getElem hi]
    exact List.getElem_mem hi))).imp fun v H2 _ p => by
    have q := LcR.new p
    rw [range_items F (0, 1) rs] at q
    exact q
/-- for x, y in pairs -/
theorem q_forRs {a : Addr} {xs : List V} {rs : List (Int × Int)} {j l : Nat} (h : Ev tl σ H (.ref a)) (hx : H a = some (.lst xs)) (hr : RsL H xs rs) (Pv : Nat → L2.St → Hp → Prop) (h0 : ∀ H1, Ex H H1 → Pv 0 σ H1) (hl : ∀ i σ' H', Pv i σ' H' → Ex H H')
    (hs : ∀ i σ' H', i < rs.length → Pv i σ' H' → tu { D with nx := Pv (i + 1), ct := Pv (i + 1), bk := tz D } ((σ'.set j (some (.int (rs.getD i (0, 1)).1))).set l (some (.int (rs.getD i (0, 1)).2))) H') (hd : ∀ σ' H', Pv rs.length σ' H' → tz D σ' H') :
    tSeq (tFor (iList K tl) (gTup K 2 (gCons (gName j) (gCons (gName l) gNil))) tu) tz D σ H :=
  q_forL h (sq_of hx) Pv h0 (fun i σ' H' _ p => sq_of (hl i σ' H' p _ _ hx)) (fun i x σ' H' hi p => by
    obtain ⟨h1, t, e, ht⟩ := hr.get hi
    subst e
    exact g_tup2 (st_of (hl i σ' H' p _ _ ht)) (hs i σ' H' h1 p)) (by rw [hr.len]; exact hd)
/-- rs[i] as a pair, rs[i][k] -/
theorem ev_rs {a : Addr} {xs : List V} {rs : List (Int × Int)} {i : Nat} (h : Ev ta σ H (.ref a)) (hi : Ev tb σ H (.int (i : Int))) (hx : H a = some (.lst xs)) (hr : RsL H xs rs) (hl : i < rs.length) : ∃ t, Ev (tOp (rIxL K) ta tb) σ H (.ref t) ∧ H t = some (.tup [.int (rs.getD i (0, 1)).1, .int (rs.getD i (0, 1)).2]) := by
  obtain ⟨t, e, ht⟩ := hr.at hl
  exact ⟨t, ev_op h hi (rv_ixL (sq_of hx) (atI_nat e)), ht⟩
theorem ev_p0 {t : Addr} {x y : V} (h : Ev ta σ H (.ref t)) (ht : H t = some (.tup [x, y])) : Ev (tOp (rIxT K) ta (tC (.int 0))) σ H x := ev_op h ev_c (rv_ixT (st_of ht) rfl)
theorem ev_p1 {t : Addr} {x y : V} (h : Ev ta σ H (.ref t)) (ht : H t = some (.tup [x, y])) : Ev (tOp (rIxT K) ta (tC (.int 1))) σ H y := ev_op h ev_c (rv_ixT (st_of ht) rfl)
/-- [.. for k, x in enumerate(xs)] -/
theorem er_lcE {ta : TA} {a : Addr} {xs : List V} {vs : List Nat} {j l : Nat} (F : Nat → V) (h : EvA ta σ H [.ref a]) (hx : SqL K H a xs) (hz : xs.length ≤ 40000) (hw : ∀ x y, wipe (((wipe σ vs).set j (some x)).set l (some y)) vs = wipe σ vs)
    (hg : ∀ (i : Nat) x, xs[i]? = some x → Ev te (((wipe σ vs).set j (some (.int (i : Int)))).set l (some x)) H (F i)) :
    EvR (tLc (iEnum K ta) (gTup K 2 (gCons (gName j) (gCons (gName l) gNil))) tYes te vs) σ H (NewL ((List.range xs.length).map F) H) := fun H0 e Q q => h H0 e _ fun H1 e1 => ⟨a, xs, rfl, ex_l (e.trans e1) hx, fun Dl hD => by
  refine ⟨fun i m H' => m = xs.length - i ∧ i ≤ xs.length ∧ Lw H1 (fun i y _ => y = F i) Dl i H', ⟨_, rfl, Nat.zero_le _, hD, Ex.new hD, [], upd_same, rfl, fun j y hy => by simp at hy⟩, ?_⟩
  rintro i m H' ⟨rfl, hi, p⟩
  have qx := ex_l ((e.trans e1).trans p.2.1) hx
  by_cases hlt : i < xs.length
  · have ex : xs[i]? = some xs[i] := List.getElem?_eq_getElem hlt
    refine .inr ⟨⟨xs, _, qx, ex⟩, Lw H1 (fun i y _ => y = F i) Dl (i + 1), fun H2 p2 => ⟨xs.length - (i + 1), by omega, rfl, hlt, p2⟩, fun v H2 hyld => ?_⟩
    obtain ⟨T, x', rfl, hT, rfl, f1⟩ := hyld
    have e1' : x' = xs[i] := Option.some.inj ((f1 _ qx).symm.trans ex)
    subst e1'
    refine g_tup2 (st_of upd_same) ⟨hw _ _, ?_⟩
    have p' : Lw H1 (fun i y _ => y = F i) Dl i (upd H' T (.tup [.int (i : Nat), xs[i]])) := by
      obtain ⟨p1, p2, zs, p3, p4, p5⟩ := p
      exact ⟨p1, p2.trans (Ex.new hT), zs, by rw [upd_ne (ne_of_none p3 hT)]; exact p3, p4, p5⟩
    exact lw_turn p' (by omega) stb_val ((evr (hg i _ ex)).mono (e.trans e1))
  · have ei : i = xs.length := by omega
    subst ei
    obtain ⟨p1, p2, zs, p3, p4, p5⟩ := p
    rw [lc_is p4 p5] at p3
    exact .inl ⟨⟨xs, qx, Nat.le_refl _⟩, q _ H' (e1.trans p2) ⟨Dl, rfl, fresh_back (e.trans e1) p1, p3⟩⟩⟩
/-- for k, x in enumerate(xs) -/
theorem q_forE {ta : TA} {a : Addr} {xs : List V} {j l : Nat} (h : EvA ta σ H [.ref a]) (hx : SqL K H a xs) (Pv : Nat → L2.St → Hp → Prop) (h0 : ∀ H1, Ex H H1 → Pv 0 σ H1) (hl : ∀ i σ' H', Pv i σ' H' → Ex H H') (hst : ∀ i σ' H' T o, Pv i σ' H' → H' T = none → Pv i σ' (upd H' T o))
    (hs : ∀ (i : Nat) x σ' H', xs[i]? = some x → Pv i σ' H' → tu { D with nx := Pv (i + 1), ct := Pv (i + 1), bk := tz D } ((σ'.set j (some (.int (i : Int)))).set l (some x)) H') (hd : ∀ σ' H', Pv xs.length σ' H' → tz D σ' H') :
    tSeq (tFor (iEnum K ta) (gTup K 2 (gCons (gName j) (gCons (gName l) gNil))) tu) tz D σ H := h H (Ex.refl H) _ fun H1 e1 => ⟨a, xs, rfl, ex_l e1 hx, by
  refine ⟨fun i m σ' H' => m = xs.length - i ∧ i ≤ xs.length ∧ Pv i σ' H', ⟨_, rfl, Nat.zero_le _, h0 H1 e1⟩, ?_⟩
  rintro i m σ' H' ⟨rfl, hi, p⟩
  have qx := ex_l (hl i σ' H' p) hx
  by_cases hlt : i < xs.length
  · have ex : xs[i]? = some xs[i] := List.getElem?_eq_getElem hlt
    refine .inr ⟨⟨xs, _, qx, ex⟩, Pv (i + 1), fun σ2 H2 p2 => ⟨xs.length - (i + 1), by omega, rfl, hlt, p2⟩, fun v H2 hyld => ?_⟩
    obtain ⟨T, x', rfl, hT, rfl, f1⟩ := hyld
    have e1' : x' = xs[i] := Option.some.inj ((f1 _ qx).symm.trans ex)
    subst e1'
    exact g_tup2 (st_of upd_same) (hs i _ σ' _ ex (hst i σ' H' T _ p hT))
  · have ei : i = xs.length := by omega
    subst ei
    exact .inl ⟨⟨xs, qx, Nat.le_refl _⟩, hd σ' H' p⟩⟩
end
end Wl
namespace Wl
open PySem PySem.Spec PyProof.Rows L2 Evl
section
variable {K : PySem.W.Frag} {σ : L2.St} {H H' : Hp} {ta tb tc te tl ti : TE} {t u : TT} {D : Ends} {tu tw tz : TS} {g : TG} {R S : V → Hp → Prop}
/-- a comprehension over what is told by facts -/
theorem er_lcB {ty : TT} {vs : List Nat} (h : EvR tl σ H S) (k : ∀ v H1, Ex H H1 → S v H1 → EvR (tLc (iList K (tC v)) g ty te vs) σ H1 R) : EvR (tLc (iList K tl) g ty te vs) σ H R := fun H0 e Q q =>
  h H0 e _ fun v H1 e1 hv => k v H1 (e.trans e1) hv H1 (Ex.refl _) Q fun v2 H2 e2 p => q v2 H2 (e1.trans e2) p
/-- an if of which one side is known to tell something -/
theorem q_ifW {φ : Prop} (h : ∀ H1, Ex H H1 → ∀ Q : Bool → Hp → Prop, (∀ b H2, Ex H1 H2 → (b = true → φ) → Q b H2) → t σ H1 Q) (h1 : φ → ∀ H1, Ex H H1 → tu { D with nx := tz D } σ H1) (h2 : ∀ H1, Ex H H1 → tw { D with nx := tz D } σ H1) : tSeq (tIfS t tu tw) tz D σ H := h H (Ex.refl H) _ fun b H1 e p => by
  cases b with
  | true => exact h1 (p rfl) H1 e
  | false => exact h2 H1 e
theorem ew_and {b : Bool} (h1 : EvT t σ H b) (h2 : b = true → EvQ u σ H) : ∀ H1, Ex H H1 → ∀ Q : Bool → Hp → Prop, (∀ c H2, Ex H1 H2 → (c = true → b = true) → Q c H2) → tAnd t u σ H1 Q := fun H1 e Q q => h1 H1 e _ fun H2 e2 => by
  cases b with
  | false => exact q false H2 e2 fun z => nomatch z
  | true => exact h2 rfl H2 (e.trans e2) Q fun c H3 e3 => q c H3 (e2.trans e3) fun _ => rfl
/-- arguments that all hold one thing -/
def AllH (n : Nat) (R : V → Hp → Prop) : List V → Hp → Prop := fun vs H => vs.length = n ∧ ∀ x ∈ vs, R x H
def UpH (R : V → Hp → Prop) : Prop := ∀ x H H', Ex H H' → R x H → R x H'
theorem ear_all0 : EvAR tNil σ H (AllH 0 R) := ear_nil.imp fun vs _ _ h => by subst h; exact ⟨rfl, fun _ h => nomatch h⟩
theorem ear_all1 {n : Nat} {tr : TA} (up : UpH R) (h : EvR te σ H R) (hr : EvAR tr σ H (AllH n R)) : EvAR (tCons te tr) σ H (AllH (n + 1) R) := ear_cons h fun x H1 e p => (show EvAR tr σ H1 (AllH n R) from fun H2 e2 => hr H2 (e.trans e2)).imp fun vs H2 e2 ⟨h1, h2⟩ => ⟨by rw [List.length_cons, h1], fun y hy => by
  rcases List.mem_cons.mp hy with rfl | hy
  · exact up _ _ _ e2 p
  · exact h2 y hy⟩
/-- for x in (a, b, ..), of which all hold one thing -/
theorem s_forAll {n j : Nat} {ta : TA} (up : UpH R) (h : EvAR ta σ H (AllH n R)) (hn : n ≤ 100000) (k : ∀ H1, Ex H H1 → ∃ Pv : L2.St → Hp → Prop, Pv σ H1 ∧ (∀ σ' H', Pv σ' H' → Ex H1 H') ∧
    (∀ x σ' H', Pv σ' H' → R x H' → tu { D with nx := Pv, ct := Pv, bk := D.nx } (σ'.set j (some x)) H') ∧ (∀ σ' H', Pv σ' H' → D.nx σ' H')) : tFor (iTup K (tTup ta)) (gName j) tu D σ H :=
  s_forTU (er_tup h (fun vs H1 p => by rw [p.1]; exact hn)) fun v H1 e ⟨p, vs, H2, hv, _, e2, hp, h1⟩ => by
    obtain ⟨Pv, h0, hl, hs, hd⟩ := k H1 e
    exact ⟨p, vs, hv, st_of h1, fun _ => Pv, h0, fun _ σ' H' _ q => st_of (hl σ' H' q _ _ h1), fun i x σ' H' hx q => hs x σ' H' q (up _ _ _ (e2.trans (hl σ' H' q)) (hp.2 x (List.mem_of_getElem? hx))), hd⟩
theorem q_forAll {n j : Nat} {ta : TA} (up : UpH R) (h : EvAR ta σ H (AllH n R)) (hn : n ≤ 100000) (k : ∀ H1, Ex H H1 → ∃ Pv : L2.St → Hp → Prop, Pv σ H1 ∧ (∀ σ' H', Pv σ' H' → Ex H1 H') ∧
    (∀ x σ' H', Pv σ' H' → R x H' → tu { D with nx := Pv, ct := Pv, bk := tz D } (σ'.set j (some x)) H') ∧ (∀ σ' H', Pv σ' H' → tz D σ' H')) : tSeq (tFor (iTup K (tTup ta)) (gName j) tu) tz D σ H :=
  s_forAll (D := { D with nx := tz D }) up h hn k
/-- xs[i] = e, of what is told by facts -/
theorem s_setLR {l : Addr} {xs : List V} {j : Nat} (hl : H l = some (.lst xs)) (h : EvR te σ H R) (ho : Ev ta σ H (.ref l)) (hi : Ev tb σ H (.int (j : Int))) (hj : j < xs.length) (k : ∀ v H1, Ex H H1 → (∃ H0, Ex H0 H1 ∧ R v H0) → D.nx σ (upd H1 l (.lst (xs.set j v)))) :
    tAsg te (gSub ta tb rSetL) D σ H := h H (Ex.refl H) _ fun v H1 e1 p => ho H1 e1 _ fun H2 e2 => hi H2 (e1.trans e2) _ fun H3 e3 =>
  ⟨l, xs, (j : Int), j, rfl, rfl, ((e1.trans e2).trans e3) l _ hl, ixN_nat hj, k v H3 ((e1.trans e2).trans e3) ⟨H1, e2.trans e3, p⟩⟩
/-! rests joined, cut -/
theorem er_rsCat {rs ss : List (Int × Int)} (ha : EvR ta σ H (fun v H => RsAt H v rs)) (hb : EvR tb σ H (fun v H => RsAt H v ss)) (hl : rs.length + ss.length ≤ 100000) : EvR (tOp rCat ta tb) σ H (fun v H => RsAt H v (rs ++ ss)) := fun H1 e Q q =>
  ha H1 e _ fun x H2 e2 ⟨p, xs, hx, hp, h1⟩ => hb H2 (e.trans e2) _ fun y H3 e3 ⟨r, ys, hy, hr, h2⟩ => ⟨p, r, xs, ys, hx, hy, e3 _ _ hp, hr, sz_of (by rw [h1.len, h2.len]; exact hl), fun l hn => q _ _ ((e2.trans e3).trans (Ex.new hn)) ⟨l, _, rfl, upd_same, ((h1.up e3).append h2).up (Ex.new hn)⟩⟩
theorem er_rsRev {rs : List (Int × Int)} {v : V} (h : Ev ta σ H v) (hr : RsAt H v rs) : EvR (tRevL K ta) σ H (fun v H => RsAt H v rs.reverse) := by
  obtain ⟨a, xs, rfl, h1, h2⟩ := hr
  exact (er_rev h (sq_of h1)).imp fun v H2 e ⟨p, hv, _, hp⟩ => ⟨p, _, hv, hp, (h2.up e).rev⟩
theorem er_rsDrop {rs : List (Int × Int)} {v : V} (h : Ev ta σ H v) (hr : RsAt H v rs) : EvR (tSl (rSlL K) ta (tPart (tC (.int 1))) tNoPart) σ H (fun v H => RsAt H v (rs.drop 1)) := by
  obtain ⟨a, xs, rfl, h1, h2⟩ := hr
  exact (er_sl h (eo_some ev_c) eo_none (sq_of h1)).imp fun v H2 e ⟨p, hv, _, hp⟩ => ⟨p, _, hv, hp, by rw [cut_from1]; exact (h2.up e).drop1⟩
theorem set_same {α : Type} : ∀ {l : List α} {i : Nat} {x : α}, l[i]? = some x → l.set i x = l
  | [], _, _, h => by simp at h
  | _ :: _, 0, _, h => by cases h; rfl
  | a :: l, i + 1, x, h => congrArg (a :: ·) (set_same (l := l) (i := i) (x := x) (by simpa using h))
/-- if due: due = e -/
theorem q_due {b r : Bool} {i : Nat} (hσ : σ[i]? = some (some (.bl b))) (h : b = true → ∀ H1, Ex H H1 → Ev te σ H1 (.bl r)) (k : ∀ H1, Ex H H1 → tz D (σ.set i (some (.bl (b && r)))) H1) : tSeq (tIfS (tB (tVar i)) (tAsg te (gName i)) tNext) tz D σ H :=
  q_when (b := b) (et_B (ev_var hσ)) (fun hb H1 e => s_asg (h hb H1 e) fun H2 e2 => by
    have := k H2 (e.trans e2)
    rw [hb] at this
    exact this) fun hb H1 e => by
    have := k H1 e
    rw [hb, Bool.false_and, set_same (by rw [hσ, hb])] at this
    exact this
/-- an if whose two ways meet in one word -/
theorem q_join {φ : Bool → Prop} (Pv : L2.St → Hp → Prop) (h : ∀ H1, Ex H H1 → ∀ Q : Bool → Hp → Prop, (∀ b H2, Ex H1 H2 → φ b → Q b H2) → t σ H1 Q) (h1 : φ true → ∀ H1, Ex H H1 → ∀ D : Ends, (∀ σ' H', Pv σ' H' → D.nx σ' H') → tu D σ H1) (h2 : φ false → ∀ H1, Ex H H1 → Pv σ H1) (k : ∀ σ' H', Pv σ' H' → tz D σ' H') : tSeq (tIfS t tu tNext) tz D σ H := h H (Ex.refl H) _ fun b H1 e p => by
  cases b with
  | true => exact h1 p H1 e { D with nx := tz D } k
  | false => exact k _ _ (h2 p H1 e)
theorem et_phi {b : Bool} (h : EvT t σ H b) : ∀ H1, Ex H H1 → ∀ Q : Bool → Hp → Prop, (∀ c H2, Ex H1 H2 → c = b → Q c H2) → t σ H1 Q := fun H1 e Q q => h H1 e Q fun H2 e2 => q b H2 e2 rfl
/-- a method of what is told by facts -/
theorem ev_methB {C : Addr} {m : Str} {sp : Sp} {E : XK} {tm : TA} {z : V} (ha : EvR ta σ H R) (k : ∀ v H1, Ex H H1 → R v H1 → Ev (tMeth C m sp [] E (tC v) tm) σ H1 z) : Ev (tMeth C m sp [] E ta tm) σ H z := fun H1 e Q q =>
  ha H1 e _ fun v H2 e2 p => k v H2 (e.trans e2) p H2 (Ex.refl _) Q fun H3 e3 => q H3 (e2.trans e3)
/-- for over what is told by facts -/
theorem s_forB (h : EvR tl σ H S) (k : ∀ v H1, Ex H H1 → S v H1 → tFor (iList K (tC v)) g tu D σ H1) : tFor (iList K tl) g tu D σ H := h H (Ex.refl H) _ fun v H1 e p => k v H1 e p
/-- for x, y in [(..), (..)] -/
def PairX (x : V) (H : Hp) : Prop := ∃ p, PairAt H x p
theorem upPair : UpH PairX := fun _ _ _ e ⟨p, h⟩ => ⟨p, h.up e⟩
theorem q_forAllP {n j l : Nat} {ta : TA} (h : EvAR ta σ H (AllH n PairX)) (hn : n ≤ 100000) (k : ∀ H1, Ex H H1 → ∃ Pv : L2.St → Hp → Prop, Pv σ H1 ∧ (∀ σ' H', Pv σ' H' → Ex H1 H') ∧
    (∀ (p : Int × Int) σ' H', Pv σ' H' → tu { D with nx := Pv, ct := Pv, bk := tz D } ((σ'.set j (some (.int p.1))).set l (some (.int p.2))) H') ∧ (∀ σ' H', Pv σ' H' → tz D σ' H')) : tSeq (tFor (iList K (tLst ta)) (gTup K 2 (gCons (gName j) (gCons (gName l) gNil))) tu) tz D σ H :=
  s_forB (D := { D with nx := tz D }) (er_lst h (fun vs H1 p => by rw [p.1]; exact hn)) fun v H1 e ⟨p, vs, H2, hv, _, e2, hp, h1⟩ => by
    obtain ⟨Pv, h0, hl, hs, hd⟩ := k H1 e
    subst hv
    exact ⟨p, rfl, ⟨vs, sq_of h1⟩, for_list (xs := vs) (fun _ => Pv) h0 (fun _ σ' H' _ q => sq_of (hl σ' H' q _ _ h1)) (fun i x σ' H' hx q => by
      obtain ⟨pp, t, hx2, ht⟩ := upPair _ _ _ (e2.trans (hl σ' H' q)) (hp.2 x (List.mem_of_getElem? hx))
      subst hx2
      exact g_tup2 (st_of ht) (hs pp σ' H' q)) hd⟩
theorem all_int {φ : Int → Prop} : ∀ {ys : List V}, (∀ y ∈ ys, ∃ z : Int, y = .int z ∧ φ z) → ∃ ns : List Int, ys = iv ns ∧ ∀ z ∈ ns, φ z
  | [], _ => ⟨[], rfl, fun _ h => nomatch h⟩
  | y :: ys, h => by
    obtain ⟨z, rfl, hz⟩ := h y List.mem_cons_self
    obtain ⟨ns, rfl, hn⟩ := all_int (ys := ys) fun y hy => h y (List.mem_cons_of_mem _ hy)
    exact ⟨z :: ns, rfl, fun x hx => by
      rcases List.mem_cons.mp hx with rfl | hx
      · exact hz
      · exact hn x hx⟩
theorem iv_cut (ts : List Int) (lo hi : Option Int) : ∃ us, cutV (iv ts) lo hi = iv us ∧ us.length ≤ ts.length := by
  unfold cutV
  rw [iv_drop, iv_take]
  exact ⟨_, rfl, by rw [List.length_take, List.length_drop]; omega⟩
def IntX (x : V) (_ : Hp) : Prop := ∃ i : Int, x = .int i
theorem upInt : UpH IntX := fun _ _ _ _ h => h
theorem er_int {i : Int} (h : Ev te σ H (.int i)) : EvR te σ H IntX := (evr h).imp fun _ _ _ h => ⟨i, h⟩
end
end Wl
namespace Wl
open PySem PySem.Spec PyProof.Rows L2 Evl
/-! ### defs that raise -/
section
variable {C : CXT} {P : Program} {w : World} {K : PySem.W.Frag} {mg : Str → Option Value} {base : Heap}
/-- a def that lets out errors of the kind C -/
structure OkC (C : CXT) (P : Program) (w : World) (K : PySem.W.Frag) (mg : Str → Option Value) (base : Heap) (k : Nat) (f : Addr) (fd : FuncData) (ps : List Str) (sp : Sp) : Prop where
  (ok : FnOk P w K mg base C k f fd ps sp) (bi : Binds K fd ps []) (kp : PySem.W.keepIn K (.ref f) = true)
abbrev OkkC (C : CXT) (P : Program) (w : World) (K : PySem.W.Frag) (mg : Str → Option Value) (base : Heap) (k : Nat) (f : Addr) (ps : List Str) (sp : Sp) : Prop := ∃ fd, OkC C P w K mg base k f fd ps sp
theorem OkC.mono {j k : Nat} {f : Addr} {fd : FuncData} {ps : List Str} {sp : Sp} (h : OkC C P w K mg base j f fd ps sp) (hk : j ≤ k) : OkC C P w K mg base k f fd ps sp := ⟨h.ok.mono hk, h.bi, h.kp⟩
/-- its body walked, wherever it is called -/
abbrev BodyOf (C : CXT) (P : Program) (w : World) (K : PySem.W.Frag) (mg : Str → Option Value) (base : Heap) (N : List Str) (qual : Str) (st : Stmt) (f : Addr) (k : Nat) (sp : Sp) : Prop :=
  ∀ (cd : Value) (B : Around) (out : List Env) (s : Shared) (H : Hp) (vs : List V) (Q : VK) (E : XK), Room k (B.deeper (envOfC qual (defScope st) s.heap.objs.size f cd)) → sp vs H Q E →
    ∃ t, PSs (cxOf C P w K mg base N qual (defScope st) f cd B out s H E) (defBody st) t ∧ t { nx := fun _ H' => Q .non H', rt := Q } (start N vs) H
theorem okkc {x qual : Str} {st : Stmt} {f : Addr} {N ps : List Str} {k : Nat} {sp : Sp} (F : ∃ fd, Fun K x qual st f fd ∧ Binds K fd ps []) (S : FnScope N ps (defScope st)) (len : ∀ vs H Q E, sp vs H Q E → vs.length = ps.length)
    (body : BodyOf C P w K mg base N qual st f k sp) : OkkC C P w K mg base (k + 1) f ps sp :=
  match F with
  | ⟨_, ⟨⟨_, _, _, _, _, _, _, _, _, rfl, look, code⟩, keep⟩, b⟩ => ⟨_, fn_of look code S len (body _), b, keep⟩
/-- errors behind which nothing stands -/
abbrev OkX (P : Program) (w : World) (K : PySem.W.Frag) (mg : Str → Option Value) (base : Heap) (k : Nat) (f : Addr) (fd : FuncData) (ps : List Str) (sp : Sp) : Prop := OkC (L2N.CX P w) P w K mg base k f fd ps sp
abbrev OkkX (P : Program) (w : World) (K : PySem.W.Frag) (mg : Str → Option Value) (base : Heap) (k : Nat) (f : Addr) (ps : List Str) (sp : Sp) : Prop := OkkC (L2N.CX P w) P w K mg base k f ps sp
theorem okkx {x qual : Str} {st : Stmt} {f : Addr} {N ps : List Str} {k : Nat} {sp : Sp} (F : ∃ fd, Fun K x qual st f fd ∧ Binds K fd ps []) (S : FnScope N ps (defScope st)) (len : ∀ vs H Q E, sp vs H Q E → vs.length = ps.length)
    (body : BodyOf (L2N.CX P w) P w K mg base N qual st f k sp) : OkkX P w K mg base (k + 1) f ps sp := okkc F S len body
theorem passX0 {X : Cx} : Passes (L2N.CX X.prog X.w) X E0 := fun _ _ _ _ _ _ _ ⟨_, _, _, _, _, _, _, _, _, _, _, _, no⟩ => no.elim
theorem passE {X : Cx} {E : XK} {E₁ : Value → Shared → Prop} (hs : X.stack = X.env :: X.outer) (hf : X.env.frame = some X.env.locals) (hex : X.ex = [])
    (hx : X.xe = fun e s' => wpAny (model X.prog X.w) X.A (leaving X.env e) (fun _ s'' => L2N.CX X.prog X.w X.outer X.H_0 X.s_0 E e s'') E₁ s') : Passes (L2N.CX X.prog X.w) X E := L2N.passes_call (L2N.takes_of hs hf hex hx) fun _ _ _ _ h => h
theorem takes0N {X : Cx} : L2N.Takes X (fun _ _ _ _ => False) := fun _ _ ⟨_, _, _, _, _, _, _, _, _, _, _, _, _, _, _, _, no⟩ => no.elim
/-- raises an error of the class C -/
def spZ {α : Type} (Pre : α → List V → Hp → Prop) (C : Addr) : Sp := fun vs H _ E => ∃ d, Pre d vs H ∧ ∀ H', Ex H H' → E (.ref C) none H'
def spO (s1 s2 : Sp) : Sp := fun vs H Q E => s1 vs H Q E ∨ s2 vs H Q E
/-- never comes to a value -/
def Rz (te : TE) (σ : L2.St) (H : Hp) : Prop := ∀ H1, Ex H H1 → ∀ Q : VK, te σ H1 Q
section
variable {σ : L2.St} {H H' : Hp} {ta tb te : TE} {tl : TA} {t : TT} {D : Ends} {tz : TS} {vs : List V} {sp : Sp} {E : XK}
theorem rz_call (h : EvA tl σ H vs) (k : ∀ H1, Ex H H1 → ∀ Q, sp vs H1 Q E) : Rz (tCall sp [] E tl) σ H := fun H1 e Q => h H1 e _ fun H2 e2 => by
  show sp (vs ++ []) H2 Q E
  rw [List.append_nil]
  exact k H2 (e.trans e2) Q
theorem rz_if {b : Bool} (h : EvT t σ H b) (h1 : b = true → Rz ta σ H) (h2 : b = false → Rz tb σ H) : Rz (tIf t ta tb) σ H := fun H1 e Q => h H1 e _ fun H2 e2 => by
  cases b with
  | true => exact h1 rfl H2 (e.trans e2) Q
  | false => exact h2 rfl H2 (e.trans e2) Q
theorem q_dropX (h : Rz te σ H) : tSeq (tDrop te) tz D σ H := h H (Ex.refl H) _
theorem s_retX (h : Rz te σ H) : tRet te D σ H := h H (Ex.refl H) _
end
/-! ### a def called in an except suite with the error -/
/-- nothing is let out -/
abbrev CXn : CXT := fun _ _ _ _ _ _ => False
/-- p's object, an error of the class D behind which nothing stands, is handled -/
def Held1 (A : Around) (D : Addr) (p : Addr × Obj) : Prop := L2H.Hot1 A p ∧ Zc (.ref D) none p.2
structure FnP (P : Program) (w : World) (K : PySem.W.Frag) (mg : Str → Option Value) (base : Heap) (k : Nat) (f : Addr) (fd : FuncData) (ps : List Str) (D : Addr) (sp : Addr → Sp) : Prop where
  len : ∀ a vs H Q E, sp a vs H Q E → vs.length = ps.length
  run : ∀ {A outer s H args us vs Q E p}, L2H.RoomH k A → Held1 A D p → L2H.PinOk outer H s p → Env0 P w K mg base A outer s H → BindsTo s fd args (ps.zip us) → Vals vs us → sp p.1 vs H Q E → codeAny (model P w) A (.call (.ref f) args) (CR CXn outer P w H s Q E) s
/-- a body's ends are a call's ends -/
theorem cr_of {C : CXT} {P : Program} {w : World} {K : PySem.W.Frag} {mg : Str → Option Value} {base : Heap} {N : List Str} {qual : Str} {scope : Scope} {f : Addr} {cd : Value} {A : Around} {outer : List Env} {s s' : Shared} {H : Hp} {Q : VK} {E : XK} {p : Addr × Obj} {fl : Flow}
    (h : SP (L2H.cxH C P w K mg base N qual scope f cd A outer s H E p) [] { nx := fun _ H' => Q .non H', rt := Q } fl s') : CR C outer P w H s Q E (.ok (.ret (match (generalizing := false) fl with | .ret v => v | _ => .none))) s' :=
  match fl, h with
  | .ret _, ⟨v, _, H', J, r, q⟩ => ⟨v, H', J.os, J.bare, J.base, J.hok, r, q⟩
  | .next, ⟨_, H', J, q⟩ => ⟨.non, H', J.os, J.bare, J.base, J.hok, rfl, q⟩
  | .brk, ⟨_, _, _, no⟩ => no.elim
  | .cont, ⟨_, _, _, no⟩ => no.elim
theorem fn_ofP {k : Nat} {f : Addr} {x qual : Str} {st : Stmt} {fd : FuncData} {N ps : List Str} {D : Addr} {sp : Addr → Sp} (F : Fun K x qual st f fd) (S : FnScope N ps (defScope st)) (len : ∀ a vs H Q E, sp a vs H Q E → vs.length = ps.length)
    (body : ∀ (cd : Value) (A : Around) (outer : List Env) (s : Shared) (H : Hp) (vs : List V) (Q : VK) (E : XK) (p : Addr × Obj), Held1 A D p → sp p.1 vs H Q E →
      ∃ t, PSs (L2H.cxH CXn P w K mg base N qual (defScope st) f cd A outer s H E p) (defBody st) t ∧ t { nx := fun _ H' => Q .non H', rt := Q } (L2.start N vs) H) : FnP P w K mg base (k + 1) f fd ps D sp := by
  rcases F.ex with ⟨_, _, _, _, _, _, cd, _, _, rfl, look, code⟩
  refine ⟨len, ?_⟩
  intro A outer s H args us vs Q E p room held pin here bound vals wish
  have low : ∀ b o, base.get? b = some o → s.heap.get? b = some o := fun b o h => (here.bs b o h).1
  have inK := here.mod.kin.keeps low
  refine codeAny_call_function room.depth (inK _ _ look) rfl S.co S.gen rfl (PySem.W.codeRec_of inK code) (bound _ _ _ _ (wpAny_newFunctionEnv_cells S.kind (fun y hy => ?_) fun env made s1 entered => ?_))
  · exact (S.par y.1 (List.of_mem_zip hy).1).imp id fun c => ⟨c, PySem.W.cellsFrom_some _ _ _ (.inl c)⟩
  · cases made
    rcases body cd A outer s H vs Q E p held wish with ⟨t, walk, q⟩
    have J := L2H.inv_startH (CX := CXn) (E := E) (mg := mg) S pin here (len _ _ _ _ _ wish) vals entered
    exact ⟨(here.mod.nolimit.keeps low).keeps entered.toInCall.keep, codeAny_func (wpAny_mono (walk.run [] s1 _ H _ J q) (fun _ _ => cr_of) fun _ _ z => z)⟩
end
/-- f(error), within the suite that caught it -/
def tCallP (P : Program) (w : World) (K : PySem.W.Frag) (mg : Str → Option Value) (base : Heap) (k : Nat) (f : Addr) (cls : Value) (d : Option Addr) (a : Addr) (t : TA) : TE := fun σ H Q => ∃ D fd ps sp, cls = .ref D ∧ d = none ∧ FnP P w K mg base k f fd ps D sp ∧ Binds K fd ps [] ∧ t σ H fun vs H1 => sp a vs H1 Q (fun _ _ _ => False)
section
variable {X : Cx} {k i : Nat} {f a : Addr} {oe : Obj} {cls : Value} {d : Option Addr} {x : Str} {p pos q : Pos} {e : Expr} {es : List Expr} {t : TA}
/-- arguments bound: no defaults -/
theorem bound_of {pins : List (Addr × Obj)} {σ : L2.St} {H : Hp} {s : Shared} {fd : FuncData} {ps : List Str} {us : List Value} (I : Inv X pins σ H s) (b : Binds X.K fd ps []) (l : us.length = ps.length) : BindsTo s fd ⟨us, []⟩ (ps.zip us) := by
  have z := b s us I.kIn
  rw [List.append_nil] at z
  exact z l
/-- a pinned object, as a callee wants it -/
theorem pin_ok {pins : List (Addr × Obj)} {σ : L2.St} {H : Hp} {s : Shared} {r : Addr × Obj} (I : Inv X pins σ H s) (hr : r ∈ X.pn) : L2H.PinOk X.stack H s r :=
  match I.pin r (List.mem_append_left _ hr) with
  | ⟨here, free, nl, nf, nc⟩ => ⟨here, free, fun hm => (List.mem_cons.mp (I.stkSub _ hm)).elim nl nf, nc⟩
/-- what a call that lets nothing out leaves -/
theorem ret_of {pins : List (Addr × Obj)} {σ : L2.St} {H : Hp} {s s' : Shared} {Q : VK} {E : XK} {r : Result} (I : Inv X pins σ H s) (h : CR CXn X.stack X.prog X.w H s Q E r s') : ∃ u, r = .ok (.ret u) ∧ EP X pins σ Q u s' :=
  match r, h with
  | .ok (.ret u), z => ⟨u, rfl, I.after z⟩
theorem pe_callP (hr : L2H.RoomH k X.A) (hot : L2H.Hot1 X.A (a, oe)) (hp : (a, oe) ∈ X.pn) (hz : Zc cls d oe) (hg : Gl X x) (hm : X.mg x = some (.ref f)) (hk : PySem.W.keepIn X.K (.ref f) = true) (ha : PA X (e :: es) t) (hdb : (x == ("__debug__" : Str)) = false := by decide)
    (he : starEach (e :: es) X.env = (false, eval e X.env) :: starEach es X.env := by rfl) (hpl : (backTo pos (starEach es X.env)).any (·.1) = false := by rfl) : PE X (.Call (.Name x q) (e :: es) [] pos) (tCallP X.prog X.w X.K X.mg X.base k f cls d a t) := by
  constructor
  rintro pins s σ H Q I ⟨D, fd, ps, sp, rfl, rfl, F, b, args⟩
  refine wpAny_Call_Name_kw (ld_glob I hg hm (PySem.W.callWith_K (h₀ := X.base) I.ok.mod.kin hk (thn (ha.run pos pins s σ H _ I args) ?_) he hpl) hdb)
  rintro us s1 ⟨vs, H1, J, vals, wish⟩
  have call := F.run hr ⟨hot, hz⟩ (pin_ok J hp) J.env0 (bound_of J b (vals.length.symm.trans (F.len _ _ _ _ _ wish))) vals wish
  refine ⟨J.kIn, wpAny_call (codeAny_mono call fun r s' z => ?_)⟩
  rcases ret_of J z with ⟨u, rfl, done_⟩
  exact done_
/-- what holds in the suite's context holds wherever its error is handled and pinned -/
theorem callR_suite {g : Value} {rd : List V → Hp → VK → Prop} (hh : X.A.handled = some (.ref a)) (hp : (a, oe) ∈ X.pn) (h : CallR (X.suite a ((a, oe) :: X.pn)) g rd) : CallR X g rd := by
  intro pins s σ H vs us Q I r q
  have S : Inv (X.suite a ((a, oe) :: X.pn)) pins σ H s := ⟨I.ok.suite _ _, I.os, I.bare, I.base, I.loc, I.cell, I.free, I.freeC, fun b hb => I.pin b ((List.mem_cons.mp hb).elim (fun z => List.mem_append_left _ (z ▸ hp)) id), I.hok, I.len⟩
  have same : X.A.mark (some (.ref a)) = X.A := by
    generalize X.A = B at hh
    cases B
    cases hh
    rfl
  have z := h pins s σ H vs us Q S r q
  rw [show (X.suite a ((a, oe) :: X.pn)).A = X.A from same] at z
  exact wpAny_mono z (fun u s' ⟨v, H', J, w⟩ => ⟨v, H', ⟨I.ok, J.os, J.bare, J.base, J.loc, J.cell, J.free, J.freeC, fun b hb => J.pin b (List.mem_cons_of_mem _ hb), J.hok, J.len⟩, w⟩) fun _ _ no => no.elim
theorem call_isP {D : Addr} (K : PySem.W.Frag) (hh : X.A.handled = some (.ref a)) (hp : (a, oe) ∈ X.pn) (C : ExcC X.K D) (hz : Zc (.ref D) none oe) (hf : ∃ vs, oe.data = .fields vs) (hK : X.K = K := by rfl) : CallR X (.builtin "isinstance") (rIsE K D a) := by
  subst hK
  exact callR_suite hh hp (call_isE C hz hf)
/-- a call of what a slot holds, in a try -/
def tCallLX (P : Program) (w : World) (K : PySem.W.Frag) (mg : Str → Option Value) (base : Heap) (k i : Nat) (W : WX) (t : TA) : TE := fun σ H Q => ∃ f fd ps sp, σ[i]? = some (some (.ref f)) ∧ OkX P w K mg base k f fd ps sp ∧ t σ H fun vs H1 => sp vs H1 Q (WE W σ)
theorem pe_callLX {W : WX} (tk : L2N.Takes X W) (hr : Room k X.A) (hN : X.N[i]? = some x) (hv : Vis X.env.scope x) (ha : PA X (e :: es) t)
    (hd : (x == ("__debug__" : Str)) = false ∧ (x == ("__classdict__" : Str)) = false := by decide)
    (he : starEach (e :: es) X.env = (false, eval e X.env) :: starEach es X.env := by rfl) (hpl : (backTo pos (starEach es X.env)).any (·.1) = false := by rfl) : PE X (.Call (.Name x p) (e :: es) [] pos) (tCallLX X.prog X.w X.K X.mg X.base k i W t) := by
  constructor
  rintro pins s σ H Q I ⟨f, fd, ps, sp, slot, G, args⟩
  have name := (pe_var (pos := p) hN hv hd.1 hd.2).run pins s σ H (fun v H1 => v = .ref f ∧ H1 = H) I ⟨.ref f, slot, rfl, rfl⟩
  refine wpAny_Call_Name_kw (thn name ?_)
  rintro u s1 ⟨_, _, J, r, rfl, rfl⟩
  obtain rfl : u = .ref f := r
  exact PySem.W.callWith_K (h₀ := X.base) I.ok.mod.kin G.kp (thn (ha.run pos pins s1 σ _ _ J args) fun us s2 ⟨vs, H2, J2, vals, wish⟩ => ⟨J2.kIn, run_fnS G.ok hr G.bi (L2N.passAt tk σ) J2 vals wish⟩) he hpl
end
end Wl
namespace Wl
open PySem PySem.Spec PyProof.Rows L2
/-! ### any(..) in an except suite: the end of its walk raises while an error is handled -/
/-- what stands behind the error at o, one behind the other; behind the last one stands nothing -/
def Chn (h : Heap) : Addr → List Addr → Prop
  | o, [] => ∃ q vs, h.get? o = some q ∧ q.data = .fields vs ∧ vs[2]? = some .none
  | o, y :: r => (∃ q vs, h.get? o = some q ∧ q.data = .fields vs ∧ vs[2]? = some (.ref y)) ∧ Chn h y r
theorem Chn.there {h : Heap} : ∀ {r : List Addr} {o : Addr}, Chn h o r → ∃ q, h.get? o = some q
  | [], _, ⟨q, _, e, _⟩ => ⟨q, e⟩
  | _ :: _, _, ⟨⟨q, _, e, _⟩, _⟩ => ⟨q, e⟩
theorem Chn.all {h : Heap} : ∀ {r : List Addr} {o : Addr}, Chn h o r → ∀ b ∈ o :: r, ∃ q, h.get? b = some q
  | [], o, c, b, hb => List.mem_singleton.mp hb ▸ c.there
  | _ :: _, o, c, b, hb => (List.mem_cons.mp hb).elim (fun e => e ▸ c.there) fun m => c.2.all b m
theorem Chn.keep {h h' : Heap} : ∀ {r : List Addr} {o : Addr}, (∀ b ∈ o :: r, ∀ q, h.get? b = some q → h'.get? b = some q) → Chn h o r → Chn h' o r
  | [], o, k, ⟨q, vs, e, d, c⟩ => ⟨q, vs, k o List.mem_cons_self q e, d, c⟩
  | _ :: _, o, k, ⟨⟨q, vs, e, d, c⟩, t⟩ => ⟨⟨q, vs, k o List.mem_cons_self q e, d, c⟩, t.keep fun b hb => k b (List.mem_cons_of_mem _ hb)⟩
theorem unchain_plain : plainId "proto.unchain" = true := by decide +kernel
section
variable {prog : Program} {w : World} {A : Around} {E : Value → Shared → Prop} {s : Shared} {h : Heap}
theorem far_eq {a b : Addr} (n : a ≠ b) : (Value.ref a == Value.ref b) = false := beq_eq_false_iff_ne.mpr fun z => n (Value.ref.inj z)
/-- the walk along such a chain, for a new error e: nothing is cut; the slow one never passes the fast one -/
theorem chn_cut {e : Addr} {R : Result → Shared → Prop} (k : ∀ b q, h.get? b = some q → s.heap.get? b = some q) (new : h.get? e = none) (done_ : R (.ok (.ret .none)) s) (r : List Addr) :
    ∀ {r' : List Addr} {o l : Addr} {b : Bool}, r.length ≤ r'.length → Chn h o r → Chn h l r' → codeAny (model prog w) A (.builtin "proto.unchain" ⟨[.ref e, .ref o, .ref l, .bool b], []⟩) R s := by
  induction r with
  | nil =>
    rintro r' o l b _ ⟨q, vs, at_, d, c⟩ _
    refine codeAny_builtin HotX.entry_unchain (wpAny_bind (m := field (.ref o) 2) (wpAny_field (k _ _ at_) d c ?_))
    simp only [beq_self_eq_true, if_true]
    exact wpAny_pure done_
  | cons y r ih =>
    rintro (_ | ⟨z, r'⟩) o l b long ⟨⟨q, vs, at_, d, c⟩, tl⟩ slow
    · exact absurd long (Nat.not_succ_le_zero _)
    · obtain ⟨⟨ql, vl, atl, dl, cl⟩, tl'⟩ := slow
      have ye : (Value.ref y == Value.ref e) = false := far_eq fun z => by
        obtain ⟨_, t⟩ := tl.there
        rw [z, new] at t
        cases t
      refine codeAny_builtin HotX.entry_unchain (wpAny_bind (m := field (.ref o) 2) (wpAny_field (k _ _ at_) d c ?_))
      simp only [show (Value.ref y == Value.none) = false from rfl, ye, Bool.false_eq_true, if_false]
      split
      · exact wpAny_bind (wpAny_rule (wpAny_pure done_))
      · cases b with
        | false => exact wpAny_bind (wpAny_pure (wpAny_pure ⟨plainId_quiet unchain_plain _, ih (r' := z :: r') (Nat.le_of_succ_le long) tl ⟨⟨ql, vl, atl, dl, cl⟩, tl'⟩⟩))
        | true => exact wpAny_bind (wpAny_field (k _ _ atl) dl cl (wpAny_pure ⟨plainId_quiet unchain_plain _, ih (Nat.le_of_succ_le_succ long) tl tl'⟩))
/-- a new error raised where such a one is handled: it gets the handled one for its context -/
theorem raise_far {α : Type} {e x : Addr} {r : List Addr} {oe : Obj} {es : Array Value} {Q : α → Shared → Prop} (hh : A.handled = some (.ref x)) (c : Chn h x r) (k : ∀ b q, h.get? b = some q → s.heap.get? b = some q) (new : h.get? e = none)
    (he : s.heap.get? e = some oe) (de : oe.data = .fields es) (hi : 2 < es.size) (out : E (.ref e) { s with heap := s.heap.update e (Obj.mapFields (·.setIfInBounds 2 (.ref x))) }) : wpAny (model prog w) A (raiseNew (.ref e) : Sem α) Q E s := by
  have xe : (Value.ref x != Value.ref e) = true := bne_iff_ne.mpr fun z => by
    obtain ⟨_, t⟩ := c.there
    rw [Value.ref.inj z, new] at t
    cases t
  have walk : ∀ {P : Value → Shared → Prop}, P .none s → wpAny (model prog w) A (runValue (.builtin "proto.unchain" ⟨[.ref e, .ref x, .ref x, .bool false], []⟩)) P E s := fun p => wpAny_runValue (chn_cut k new p r (Nat.le_refl _) c c)
  simp only [raiseNew]
  refine wpAny_bind (wpAny_handled ?_)
  simp only [hh, xe, if_true]
  exact wpAny_bind (wpAny_holding (walk (wpAny_bind (HotX.chained he de hi (wpAny_throw out)))))
/-- a new StopIteration raised there -/
theorem stop_far {α : Type} {x : Addr} {r : List Addr} {Q : α → Shared → Prop} (hh : A.handled = some (.ref x)) (c : Chn s.heap x r)
    (out : ∀ h' e o, (∀ b q, s.heap.get? b = some q → h'.get? b = some q) → h'.get? e = some o → o.cls = .type "StopIteration" → E (.ref e) { s with heap := h' }) : wpAny (model prog w) A (newExc (.type "StopIteration") [] >>= raiseNew : Sem α) Q E s := by
  have beyond : ∀ (u : Obj) b q, s.heap.get? b = some q → (s.heap.push u).objs.size ≠ b := fun u b q z e => by
    have lt := Heap.lt_size z
    rw [← e, Heap.size_push] at lt
    exact absurd lt (Nat.not_lt.mpr (Nat.le_succ _))
  have up : ∀ (u v : Obj) b q, s.heap.get? b = some q → ((s.heap.push u).push v).get? b = some q := fun u v b q z => Heap.get?_push_of_some _ (Heap.get?_push_of_some _ z)
  simp only [newExc, newTuple]
  refine wpAny_bind (wpAny_bind (wpAny_newObj_type (wpAny_bind (m := firstArgMember _ _) (wpAny_of_eq (a := Value.none) (by simp only [firstArgMember]; rfl) (wpAny_newObj_type ?_ (by size_fits)))) (by size_fits)))
  refine raise_far hh c (up _ _) (Option.eq_none_iff_forall_ne_some.mpr fun q z => beyond _ _ q z rfl) (Heap.get?_push_size _ rfl) rfl (by simp; omega) (out _ _ _ (fun b q z => ?_) (Heap.get?_update_self _ (Heap.get?_push_size _ rfl) rfl) rfl)
  exact (Heap.get?_update_other _ _ (beyond _ b q z)).trans (up _ _ b q z)
/-- the end of a list's walk -/
theorem end_far {it l x : Addr} {r : List Addr} {i : Nat} {items : Array Value} {Q : Option Value → Shared → Prop} (hh : A.handled = some (.ref x)) (c : Chn s.heap x r) (off : it ∉ x :: r) (walk : s.heap.IsListIter it l i) (hl : s.heap.IsList l items) (past : items[i]? = none)
    (out : ∀ h', (∀ b q, b ≠ it → s.heap.get? b = some q → h'.get? b = some q) → Q none { s with heap := h' }) : wpAny (model prog w) A (pyNext (.ref it)) Q E s := by
  rcases id walk with ⟨o, at_, _, fields⟩
  rcases hl with ⟨ol, atl, _, tk, data⟩
  simp only [pyNext]
  refine wpAny_bind (wpAny_attempt (wpAny_callSpecial?_slot walk.typeIs slot_listiter_next (wpAny_call_entry slot_listiter_next walk.typeIs entry_listiter_next ?_ (args_listiter_next _))))
  refine wpAny_bind (m := field (.ref it) 0) (wpAny_field at_ fields (x := .ref l) rfl ?_)
  simp only [show (Value.ref l == Value.none) = false from rfl, Bool.false_eq_true, if_false]
  refine wpAny_bind (m := field (.ref it) 1) (wpAny_field at_ fields (x := .int i 0) rfl (wpAny_bind (m := seqItems? (.ref l)) (wpAny_seqItems atl data ?_)))
  simp only [Int.toNat_natCast, past]
  have c' := c.keep (h' := s.heap.update it (Obj.mapFields (·.setIfInBounds 0 .none))) fun b hb q z => (Heap.get?_update_other _ _ fun (e : it = b) => off (e ▸ hb)).trans z
  refine wpAny_bind (wpAny_rule (wpAny_bind (wpAny_setField at_ fields (by simp) (stop_far hh c' fun h' e o k here cls => ?_))))
  refine wpAny_bind (wpAny_isInstance (T := "StopIteration") (b := true) ⟨o, here, cls⟩ isSubtype_stop ?_)
  exact wpAny_pure (out h' fun b q ne z => k b q ((Heap.get?_update_other _ _ (Ne.symm ne)).trans z))
/-- a list's walk there, as any(..) wants it -/
theorem walks_far {l it x : Addr} {r : List Addr} {items : Array Value} (hh : A.handled = some (.ref x)) (ne : l ≠ it) (off : it ∉ x :: r) :
    Walks prog w A it (it :: l :: x :: r) [it] items.size (fun i v => items[i]? = some v) (fun i h => h.IsListIter it l i ∧ h.IsList l items ∧ Chn h x r) where
  sub b hb := List.mem_singleton.mp hb ▸ List.mem_cons_self
  frame i h h' st k := ⟨st.1.at (k it List.mem_cons_self), st.2.1.at (k l (List.mem_cons_of_mem _ List.mem_cons_self)), st.2.2.keep fun b hb => k b (List.mem_cons_of_mem _ (List.mem_cons_of_mem _ hb))⟩
  item i s Q E lt st next := wpAny_pyNext_list_item st.1 st.2.1 (Array.getElem?_eq_getElem lt) fun h' walk same =>
    next _ h' s.toks (Array.getElem?_eq_getElem lt) ⟨walk, st.2.1.extBut same.extBut ne, st.2.2.keep fun b hb q z => same.extBut b q (fun e => off (e ▸ hb)) z⟩ fun b q nb z => same.extBut b q (fun e => nb (e ▸ List.mem_cons_self)) z
  done s Q E st fin := end_far hh st.2.2 off st.1 st.2.1 (Array.getElem?_eq_none (Nat.le_refl _)) fun h' k => fin h' s.toks fun b q nb z => k b q (fun e => nb (e ▸ List.mem_cons_self)) z
  self _ _ _ _ st q := wpAny_pyIter_listiter st.1 q
end
/-- such an error is handled in the context -/
def Hotk (X : Cx) : Prop := ∃ p ∈ X.pn, X.A.handled = some (.ref p.1) ∧ ∃ vs : Array Value, p.2.data = .fields vs ∧ (vs[2]? = some .none ∨ ∃ q ∈ X.pn, vs[2]? = some (.ref q.1) ∧ ∃ ws : Array Value, q.2.data = .fields ws ∧ ws[2]? = some .none)
theorem Hotk.chn {X : Cx} {pins : List (Addr × Obj)} {σ : L2.St} {H : Hp} {s : Shared} (k : Hotk X) (I : Inv X pins σ H s) : ∃ x r, X.A.handled = some (.ref x) ∧ Chn s.heap x r := by
  have at_ : ∀ p ∈ X.pn, s.heap.get? p.1 = some p.2 := fun p hp => (I.pin p (List.mem_append_left _ hp)).1
  rcases k with ⟨p, hp, hh, vs, d, last | ⟨q, hq, nxt, ws, dq, last⟩⟩
  · exact ⟨p.1, [], hh, p.2, vs, at_ p hp, d, last⟩
  · exact ⟨p.1, [q.1], hh, ⟨p.2, vs, at_ p hp, d, nxt⟩, q.2, ws, at_ q hq, dq, last⟩
theorem anyHK {X : Cx} (K : PySem.W.Frag) (hk : Hotk X) (h : X.K = K := by rfl) : CallR X (.builtin "any") (rAny K) := by
  subst h
  rintro pins s σ H _ us Q I vals ⟨a, bs, rfl, list, q⟩
  rcases I.list list with ⟨its, rel, cells, _⟩
  rcases hk.chn I with ⟨x, r, hh, chn⟩
  obtain rfl := Vals.ref1 vals
  have old : ∀ b, s.heap.objs.size ≤ b → ∀ o, s.heap.get? b ≠ some o := fun b le o z => absurd (Heap.lt_size z) (Nat.not_lt.mpr le)
  refine call_any_walk (iter_any cells.isList fun s₂ e st ne => ?_)
  cases e
  have up : ∀ b o, s.heap.get? b = some o → (s.heap.push { cls := .type "list_iterator", data := .fields #[.ref a, .int 0 0] }).get? b = some o := fun b o z => Heap.get?_push_of_some _ z
  refine ⟨_, _, _, _, _, _, _, rfl, walks_far (A := X.A.in1) (items := its.toArray) hh ne fun m => (chn.all _ m).elim (old _ (Nat.le_refl _)), ⟨st.1, st.2, chn.keep fun b _ => up b⟩, truth_bools rel.bls, fun h' tk k => ⟨.bl _, H, I.kept fun b o z => k b o (fun m => old b (Nat.le_of_eq (List.mem_singleton.mp m).symm) o z) (up b o z), ?_, q⟩⟩
  exact congrArg Value.bool (by rw [← L2.any_range, rel.bls, List.size_toArray, List.length_map])
end Wl
namespace Wl
open PySem PySem.Spec PyProof.Rows L2 Evl
/-- isinstance(e, c) in the suite; its class is told in the reading -/
def rIsQ (K : PySem.W.Frag) (a : Addr) (cls : Value) (d : Option Addr) : List V → Hp → VK → Prop := fun xs H Q => ∃ (D : Addr) (c : V) (cv : Value) (b : Bool), cls = .ref D ∧ d = none ∧ ExcC K D ∧ xs = [.ref a, c] ∧ (∀ u, RelV c u → u = cv) ∧ PySem.W.kitOne K (.ref D) cv = some b ∧ Q (.bl b) H
theorem call_isQ {X : Cx} {a : Addr} {oe : Obj} {cls : Value} {d : Option Addr} {pn : List (Addr × Obj)} (K : PySem.W.Frag) (hz : Zc cls d oe) (hf : ∃ vs, oe.data = .fields vs) (hK : X.K = K := by rfl) : CallR (X.suite a ((a, oe) :: pn)) (.builtin "isinstance") (rIsQ K a cls d) := by
  subst hK
  rintro pins s σ H xs us Q I vals ⟨D, c, cv, b, rfl, rfl, C, q⟩
  exact call_isE C hz hf pins s σ H xs us Q I vals ⟨c, cv, b, q⟩
section
variable {K : PySem.W.Frag} {σ : L2.St} {H : Hp} {ta tb : TE} {a D : Addr} {c : V} {cv : Value} {b : Bool}
theorem ev_isQ (C : ExcC K D) (h : Ev ta σ H (.ref a)) (h2 : Ev tb σ H c) (hc : ∀ u, RelV c u → u = cv) (hk : PySem.W.kitOne K (.ref D) cv = some b) : Ev (tCB (rIsQ K a (.ref D) none) (tCons ta (tCons tb tNil))) σ H (.bl b) := fun H1 e Q q =>
  h H1 e _ fun H2 e2 => h2 H2 (e.trans e2) _ fun H3 e3 => ⟨D, c, cv, b, rfl, rfl, C, rfl, hc, hk, q H3 (e2.trans e3)⟩
theorem rv_ref {C : Addr} : ∀ u, RelV (.ref C) u → u = .ref C := fun _ h => h
theorem rv_ty {n : String} : ∀ u, RelV (.ty n) u → u = .type n := fun _ h => h
end
theorem hotk_n {X : Cx} {a : Addr} {oe : Obj} {cls : Value} {d : Option Addr} {pn : List (Addr × Obj)} (hz : L2N.Zn cls d oe) (hf : ∃ vs, oe.data = .fields vs) : Hotk (X.suite a ((a, oe) :: pn)) := by
  obtain ⟨vs, hd⟩ := hf
  exact ⟨(a, oe), List.mem_cons_self, rfl, vs, hd, .inl (hz.2.2 vs hd)⟩
end Wl
namespace Wl
open PySem PySem.Spec PyProof.Rows L2 Evl
/-! ### dicts with numbers for keys; sorted -/
section
variable {X : Cx} (K : PySem.W.Frag)
theorem sortedPOK (h : X.K = K := by rfl) : CallR X (.builtin "sorted") (rSortedPO K) := by subst h; exact cr_sortedPO
theorem sortedIK (h : X.K = K := by rfl) : CallR X (.builtin "sorted") (rSortedI K) := by subst h; exact cr_sortedI
end
def dI (es : List (Int × V)) : List (Key × V) := es.map fun e => (Sum.inl e.1, e.2)
theorem val_out {x : Int} : ∀ {es : List (Int × V)}, x ∉ es.map (·.1) → valV (dI es) (Sum.inl x) = none
  | [], _ => rfl
  | e :: es, h => by
    have h1 : ¬ (Sum.inl e.1 : Key) = Sum.inl x := fun z => h (by rw [List.map_cons, Sum.inl.inj z]; exact List.mem_cons_self)
    exact (valV_neg (p := ((Sum.inl e.1 : Key), e.2)) h1).trans (val_out fun hm => h (List.mem_cons_of_mem _ hm))
theorem val_in {x : Int} : ∀ {es : List (Int × V)}, x ∈ es.map (·.1) → ∃ v, (x, v) ∈ es ∧ valV (dI es) (Sum.inl x) = some v
  | [], h => nomatch h
  | e :: es, h => by
    by_cases he : e.1 = x
    · exact ⟨e.2, by rw [← he]; exact List.mem_cons_self, valV_pos (p := ((Sum.inl e.1 : Key), e.2)) (congrArg Sum.inl he)⟩
    · have hm : x ∈ es.map (·.1) := by
        rcases List.mem_cons.mp h with z | z
        · exact absurd z.symm he
        · exact z
      obtain ⟨v, h1, h2⟩ := val_in hm
      exact ⟨v, List.mem_cons_of_mem _ h1, (valV_neg (p := ((Sum.inl e.1 : Key), e.2)) fun z => he (Sum.inl.inj z)).trans h2⟩
theorem put_new {x : Int} {es : List (Int × V)} {v : V} (h : x ∉ es.map (·.1)) : putK (dI es) (Sum.inl x) v = dI (es ++ [(x, v)]) := by
  unfold putK
  rw [valV_any, val_out h]
  show (if false = true then _ else _) = _
  rw [if_neg Bool.false_ne_true]
  unfold dI
  rw [List.map_append]
  rfl
section
variable {K : PySem.W.Frag} {σ : L2.St} {H : Hp} {td ty tv : TE} {D : Ends} {tz : TS} {a : Addr} {es : List (Int × V)} {x : Int}
theorem ev_din (hy : Ev ty σ H (.int x)) (hd : Ev td σ H (.ref a)) (h : H a = some (.dK (dI es))) : Ev (tDIn ty td) σ H (.bl (decide (x ∈ es.map (·.1)))) := fun H1 e Q q =>
  hy H1 e _ fun H2 e2 => hd H2 (e.trans e2) _ fun H3 e3 => by
    have h3 := ((e.trans e2).trans e3) _ _ h
    refine ⟨a, _, rfl, DGet.k (k := Sum.inl x) h3, ?_⟩
    have : (valV (dI es) (Sum.inl x)).isSome = decide (x ∈ es.map (·.1)) := by
      by_cases hm : x ∈ es.map (·.1)
      · obtain ⟨v, _, hv⟩ := val_in hm
        rw [hv, decide_eq_true hm]
        rfl
      · rw [val_out hm, decide_eq_false hm]
        rfl
    rw [this]
    exact q H3 (e2.trans e3)
theorem ev_dnotin (hy : Ev ty σ H (.int x)) (hd : Ev td σ H (.ref a)) (h : H a = some (.dK (dI es))) : Ev (tDNotIn ty td) σ H (.bl (!decide (x ∈ es.map (·.1)))) := fun H1 e Q q =>
  hy H1 e _ fun H2 e2 => hd H2 (e.trans e2) _ fun H3 e3 => by
    have h3 := ((e.trans e2).trans e3) _ _ h
    refine ⟨a, _, rfl, DGet.k (k := Sum.inl x) h3, ?_⟩
    have : (valV (dI es) (Sum.inl x)).isSome = decide (x ∈ es.map (·.1)) := by
      by_cases hm : x ∈ es.map (·.1)
      · obtain ⟨v, _, hv⟩ := val_in hm
        rw [hv, decide_eq_true hm]
        rfl
      · rw [val_out hm, decide_eq_false hm]
        rfl
    rw [this]
    exact q H3 (e2.trans e3)
theorem er_dget (hd : Ev td σ H (.ref a)) (hy : Ev ty σ H (.int x)) (h : H a = some (.dK (dI es))) (hx : x ∈ es.map (·.1)) : EvR (tDGet td ty) σ H (fun v _ => (x, v) ∈ es) := fun H1 e Q q =>
  hd H1 e _ fun H2 e2 => hy H2 (e.trans e2) _ fun H3 e3 => by
    obtain ⟨v, h1, h2⟩ := val_in hx
    refine ⟨a, v, rfl, ?_, q v H3 (e2.trans e3) h1⟩
    rw [← h2]
    exact DGet.k (k := Sum.inl x) (((e.trans e2).trans e3) _ _ h)
theorem s_dput {R : V → Hp → Prop} (hd : Ev td σ H (.ref a)) (hy : Ev ty σ H (.int x)) (hv : EvR tv σ H R) (h : H a = some (.dK (dI es))) (hx : x ∉ es.map (·.1)) (hl : es.length < 100000) (k : ∀ v H1 H2, Ex H H1 → R v H1 → Ex H1 H2 → D.nx σ (upd H2 a (.dK (dI (es ++ [(x, v)]))))) : sDPut td ty tv D σ H :=
  hv H (Ex.refl H) _ fun v H1 e1 p => hd H1 e1 _ fun H2 e2 => hy H2 (e1.trans e2) _ fun H3 e3 => by
    have h3 := ((e1.trans e2).trans e3) _ _ h
    refine ⟨a, _, rfl, DPut.k (k := Sum.inl x) h3 ?_, ?_⟩
    · unfold dI
      rw [List.length_map]
      exact sz_lt hl
    · rw [put_new hx]
      exact k v H1 H3 e1 p (e2.trans e3)
/-- {x: v} -/
theorem er_disp1 {R : V → Hp → Prop} (hy : Ev ty σ H (.int x)) (hv : EvR tv σ H R) : EvR (tDisp [(ty, tv)]) σ H (fun w H2 => ∃ p v H1, w = .ref p ∧ H p = none ∧ Ex H H1 ∧ H1 p = some (.dK []) ∧ R v H1 ∧ H2 = upd H1 p (.dK (dI [(x, v)]))) := fun H0 e Q q p hp => by
  have hpH := fresh_back e hp
  have e1 : Ex H0 (upd H0 p (.dK [])) := Ex.new hp
  refine hy _ (e.trans e1) _ fun H2 e2 => hv H2 ((e.trans e1).trans e2) _ fun v H3 e3 r => ?_
  have h3 := (e2.trans e3) _ _ (upd_same (H := H0) (a := p) (o := .dK []))
  refine ⟨h3, [(Sum.inl x, v)], rfl, by show 1 ≤ 15; decide, ?_⟩
  exact q _ _ (Ex.mut (e1.trans (e2.trans e3)) hp) ⟨p, v, H3, rfl, hpH, e.trans (e1.trans (e2.trans e3)), h3, r, rfl⟩
/-- for k, x in enumerate(xs), the heap's word by Pv alone -/
theorem s_forEq {K : PySem.W.Frag} {tu : TS} {ta : TA} {xs : List V} {j l : Nat} (h : EvA ta σ H [.ref a]) (hx : SqL K H a xs) (Pv : Nat → L2.St → Hp → Prop) (h0 : ∀ H1, Ex H H1 → Pv 0 σ H1) (hl : ∀ i σ' H', Pv i σ' H' → SqL K H' a xs) (hst : ∀ i σ' H' T o, Pv i σ' H' → H' T = none → Pv i σ' (upd H' T o))
    (hs : ∀ (i : Nat) x σ' H', xs[i]? = some x → Pv i σ' H' → tu { D with nx := Pv (i + 1), ct := Pv (i + 1), bk := D.nx } ((σ'.set j (some (.int (i : Int)))).set l (some x)) H') (hd : ∀ σ' H', Pv xs.length σ' H' → D.nx σ' H') :
    tFor (iEnum K ta) (gTup K 2 (gCons (gName j) (gCons (gName l) gNil))) tu D σ H := h H (Ex.refl H) _ fun H1 e1 => ⟨a, xs, rfl, ex_l e1 hx, by
  refine ⟨fun i m σ' H' => m = xs.length - i ∧ i ≤ xs.length ∧ Pv i σ' H', ⟨_, rfl, Nat.zero_le _, h0 H1 e1⟩, ?_⟩
  rintro i m σ' H' ⟨rfl, hi, p⟩
  have qx := hl i σ' H' p
  by_cases hlt : i < xs.length
  · have ex : xs[i]? = some xs[i] := List.getElem?_eq_getElem hlt
    refine .inr ⟨⟨xs, _, qx, ex⟩, Pv (i + 1), fun σ2 H2 p2 => ⟨xs.length - (i + 1), by omega, rfl, hlt, p2⟩, fun v H2 hyld => ?_⟩
    obtain ⟨T, x', rfl, hT, rfl, f1⟩ := hyld
    have e1' : x' = xs[i] := Option.some.inj ((f1 _ qx).symm.trans ex)
    subst e1'
    exact g_tup2 (st_of upd_same) (hs i _ σ' _ ex (hst i σ' H' T _ p hT))
  · have ei : i = xs.length := by omega
    subst ei
    exact .inl ⟨⟨xs, qx, Nat.le_refl _⟩, hd σ' H' p⟩⟩
end
end Wl
namespace Wl
open PySem PySem.Spec PyProof.Rows L2 Evl
local macro_rules | `(tactic| walk_at "e1") => `(tactic| with_reducible (apply et_self; assumption))
local macro_rules | `(tactic| walk_at "e1") => `(tactic| with_reducible (apply ev_self; assumption))
local macro_rules | `(tactic| walk_at "e1") => `(tactic| with_reducible refine (fun (hbb : (_ : Bool) = _) => ?_))
local macro_rules | `(tactic| walk_at "e1") => `(tactic| with_reducible apply ev_if)
local macro_rules | `(tactic| walk_at "e1") => `(tactic| with_reducible apply ev_notV)
local macro_rules | `(tactic| walk_at "e1") => `(tactic| with_reducible apply ev_orV)
local macro_rules | `(tactic| walk_at "e1") => `(tactic| with_reducible apply ev_andV)
local macro_rules | `(tactic| walk_at "e1") => `(tactic| with_reducible apply ev_chain)
local macro_rules | `(tactic| walk_at "e1") => `(tactic| with_reducible apply et_not)
local macro_rules | `(tactic| walk_at "e1") => `(tactic| with_reducible apply et_or)
local macro_rules | `(tactic| walk_at "e1") => `(tactic| with_reducible apply et_and)
local macro_rules | `(tactic| walk_at "e1") => `(tactic| with_reducible apply et_B)
local macro_rules | `(tactic| walk_at "e1") => `(tactic| with_reducible apply et_test)
local macro_rules | `(tactic| walk_at "e1") => `(tactic| with_reducible apply rv_ixT)
local macro_rules | `(tactic| walk_at "e1") => `(tactic| with_reducible apply rv_ixL)
local macro_rules | `(tactic| walk_at "e1") => `(tactic| with_reducible apply rv_I)
local macro_rules | `(tactic| walk_at "e1") => `(tactic| ((with_reducible apply rv_ne); exact rfl))
local macro_rules | `(tactic| walk_at "e1") => `(tactic| ((with_reducible apply rv_eq); exact rfl))
local macro_rules | `(tactic| walk_at "e1") => `(tactic| with_reducible exact rv_I0)
local macro_rules | `(tactic| walk_at "e1") => `(tactic| with_reducible exact ru_neg)
local macro_rules | `(tactic| walk_at "e1") => `(tactic| with_reducible apply ev_un)
local macro_rules | `(tactic| walk_at "e1") => `(tactic| with_reducible apply ea_cons)
local macro_rules | `(tactic| walk_at "e1") => `(tactic| with_reducible exact ea_nil)
local macro_rules | `(tactic| walk_at "e1") => `(tactic| with_reducible apply ev_op)
local macro_rules | `(tactic| walk_at "e1") => `(tactic| ((with_reducible apply ev_var); exact rfl))
local macro_rules | `(tactic| walk_at "e1") => `(tactic| with_reducible exact ev_c)
local macro_rules | `(tactic| walk_at "sq") => `(tactic| first | with_reducible assumption | exact st_of (by assumption) | exact sq_of (by assumption) | exact st_of ((by assumption : Ex _ _) _ _ (by assumption)) | exact sq_of ((by assumption : Ex _ _) _ _ (by assumption)) | exact ex_t (by assumption) (by assumption) | exact ex_l (by assumption) (by assumption))
local macro_rules | `(tactic| walk_at "e1") => `(tactic| ((with_reducible apply rv_ixL) <;> first | walk_at "sq" | exact rfl))
local macro_rules | `(tactic| walk_at "e1") => `(tactic| ((with_reducible apply rv_ixT) <;> first | walk_at "sq" | exact rfl))
local macro_rules | `(tactic| walk_at "sz") => `(tactic| exact Nat.le_of_ble_eq_true rfl)
local macro_rules | `(tactic| walk_at "e1") => `(tactic| with_reducible exact rv_neB)
local macro_rules | `(tactic| walk_at "e1") => `(tactic| with_reducible exact rv_eqB)
local macro_rules | `(tactic| walk_at "e1") => `(tactic| with_reducible exact rv_neI)
local macro_rules | `(tactic| walk_at "e1") => `(tactic| with_reducible exact rv_eqI)
local macro_rules | `(tactic| walk_at "ev") => `(tactic| (repeat' walk_at "e1"))
def topS (i : Nat) : Stmt := PySem.Challenge.pw_wheelrow_k05_sums.main.body.getD i (.Pass ⟨0, 0, 0, 0⟩)
abbrev s_is_whole : Stmt := topS 10
abbrev s_is_number : Stmt := topS 11
abbrev s_check_numbers : Stmt := topS 12
abbrev s_stretch : Stmt := topS 14
abbrev s_least_prime : Stmt := topS 15
abbrev s_by_prime : Stmt := topS 16
abbrev s_by_count : Stmt := topS 17
abbrev s_chosen : Stmt := topS 18
abbrev s_l_cell_at : Stmt := topS 20
abbrev s_l_draw : Stmt := topS 21
abbrev s_l_row : Stmt := topS 22
abbrev s_l_whole : Stmt := topS 24
abbrev s_l_numbers : Stmt := topS 25
abbrev s_l_stretched : Stmt := topS 26
abbrev s_l_picked : Stmt := topS 27
abbrev s_l_bad_count : Stmt := topS 28
abbrev s_law : Stmt := topS 29
theorem sc_is_whole : FnScope ["thing"] ["thing"] (defScope s_is_whole) := ⟨rfl, rfl, rfl, by decide +kernel, rfl, by decide +kernel, by decide +kernel⟩
theorem sc_is_number : FnScope ["thing"] ["thing"] (defScope s_is_number) := ⟨rfl, rfl, rfl, by decide +kernel, rfl, by decide +kernel, by decide +kernel⟩
theorem sc_check_numbers : FnScope ["numbers", "number"] ["numbers"] (defScope s_check_numbers) := ⟨rfl, rfl, rfl, by decide +kernel, rfl, by decide +kernel, by decide +kernel⟩
theorem sc_stretch : FnScope ["numbers", "seen", "total", "place", "number"] ["numbers"] (defScope s_stretch) := ⟨rfl, rfl, rfl, by decide +kernel, rfl, by decide +kernel, by decide +kernel⟩
theorem sc_least_prime : FnScope ["number", "at"] ["number"] (defScope s_least_prime) := ⟨rfl, rfl, rfl, by decide +kernel, rfl, by decide +kernel, by decide +kernel⟩
theorem sc_by_prime : FnScope ["things", "prime", "order", "ways", "k", "low", "high", "rest", "grown", "more", "now", "number", "name"] ["things", "prime"] (defScope s_by_prime) := ⟨rfl, rfl, rfl, by decide +kernel, rfl, by decide +kernel, by decide +kernel⟩
theorem sc_by_count : FnScope ["things", "many", "prime", "left", "groups", "names", "k", "group", "picked", "found", "number", "name"] ["things", "many"] (defScope s_by_count) := ⟨rfl, rfl, rfl, by decide +kernel, rfl, by decide +kernel, by decide +kernel⟩
theorem sc_chosen : FnScope ["numbers", "many", "place", "number"] ["numbers"] (defScope s_chosen) := ⟨rfl, rfl, rfl, by decide +kernel, rfl, by decide +kernel, by decide +kernel⟩
theorem sc_l_cell_at : FnScope ["_law_script", "_law_k"] ["_law_script", "_law_k"] (defScope s_l_cell_at) := ⟨rfl, rfl, rfl, by decide +kernel, rfl, by decide +kernel, by decide +kernel⟩
theorem sc_l_draw : FnScope ["_law_cell", "_law_k", "_law_many", "_law_primes"] ["_law_cell", "_law_k", "_law_many"] (defScope s_l_draw) := ⟨rfl, rfl, rfl, by decide +kernel, rfl, by decide +kernel, by decide +kernel⟩
theorem sc_l_row : FnScope ["_law_script", "_law_kind", "_law_by", "_law_most", "_law_found", "_law_k", "_law_number"] ["_law_script"] (defScope s_l_row) := ⟨rfl, rfl, rfl, by decide +kernel, rfl, by decide +kernel, by decide +kernel⟩
theorem sc_l_whole : FnScope ["_law_number"] ["_law_number"] (defScope s_l_whole) := ⟨rfl, rfl, rfl, by decide +kernel, rfl, by decide +kernel, by decide +kernel⟩
theorem sc_l_numbers : FnScope ["_law_found", "_law_one"] ["_law_found"] (defScope s_l_numbers) := ⟨rfl, rfl, rfl, by decide +kernel, rfl, by decide +kernel, by decide +kernel⟩
theorem sc_l_stretched : FnScope ["_law_numbers_here", "_law_found", "_law_first", "_law_last"] ["_law_numbers_here", "_law_found"] (defScope s_l_stretched) := ⟨rfl, rfl, rfl, by decide +kernel, rfl, by decide +kernel, by decide +kernel⟩
theorem sc_l_picked : FnScope ["_law_numbers_here", "_law_found", "_law_last", "_law_place"] ["_law_numbers_here", "_law_found"] (defScope s_l_picked) := ⟨rfl, rfl, rfl, by decide +kernel, rfl, by decide +kernel, by decide +kernel⟩
theorem sc_l_bad_count : FnScope ["_law_ask", "_law_numbers_here", "error", "_law_others"] ["_law_ask", "_law_numbers_here"] (defScope s_l_bad_count) := ⟨rfl, rfl, rfl, by decide +kernel, rfl, by decide +kernel, by decide +kernel⟩
theorem sc_law : FnScope ["_law_script", "_law_numbers_here", "_law_odd", "_law_some", "_law_handed", "_law_found"] ["_law_script"] (defScope s_law) := ⟨rfl, rfl, rfl, by decide +kernel, rfl, by decide +kernel, by decide +kernel⟩
structure Ad where
  a_is_whole : Addr
  a_is_number : Addr
  a_check_numbers : Addr
  a_stretch : Addr
  a_least_prime : Addr
  a_by_prime : Addr
  a_by_count : Addr
  a_chosen : Addr
  a_l_cell_at : Addr
  a_l_draw : Addr
  a_l_row : Addr
  a_l_whole : Addr
  a_l_numbers : Addr
  a_l_stretched : Addr
  a_l_picked : Addr
  a_l_bad_count : Addr
  a_law : Addr
  c_RestError : Addr
  c_BadRests : Addr
  c_BadNumbers : Addr
  c_BadRound : Addr
  c_BadRest : Addr
  c_BadCount : Addr
  c_BadText : Addr
structure Txt (K : PySem.W.Frag) (mg : Str → Option Value) (A : Ad) : Prop where
  F_is_whole : ∃ fd, Fun K "is_whole" "is_whole" s_is_whole A.a_is_whole fd ∧ Binds K fd ["thing"] []
  g_is_whole : mg "is_whole" = some (.ref A.a_is_whole)
  F_is_number : ∃ fd, Fun K "is_number" "is_number" s_is_number A.a_is_number fd ∧ Binds K fd ["thing"] []
  g_is_number : mg "is_number" = some (.ref A.a_is_number)
  F_check_numbers : ∃ fd, Fun K "check_numbers" "check_numbers" s_check_numbers A.a_check_numbers fd ∧ Binds K fd ["numbers"] []
  g_check_numbers : mg "check_numbers" = some (.ref A.a_check_numbers)
  F_stretch : ∃ fd, Fun K "stretch" "stretch" s_stretch A.a_stretch fd ∧ Binds K fd ["numbers"] []
  g_stretch : mg "stretch" = some (.ref A.a_stretch)
  F_least_prime : ∃ fd, Fun K "least_prime" "least_prime" s_least_prime A.a_least_prime fd ∧ Binds K fd ["number"] []
  g_least_prime : mg "least_prime" = some (.ref A.a_least_prime)
  F_by_prime : ∃ fd, Fun K "by_prime" "by_prime" s_by_prime A.a_by_prime fd ∧ Binds K fd ["things", "prime"] []
  g_by_prime : mg "by_prime" = some (.ref A.a_by_prime)
  F_by_count : ∃ fd, Fun K "by_count" "by_count" s_by_count A.a_by_count fd ∧ Binds K fd ["things", "many"] []
  g_by_count : mg "by_count" = some (.ref A.a_by_count)
  F_chosen : ∃ fd, Fun K "chosen" "chosen" s_chosen A.a_chosen fd ∧ Binds K fd ["numbers"] []
  g_chosen : mg "chosen" = some (.ref A.a_chosen)
  F_l_cell_at : ∃ fd, Fun K "_law_cell_at" "_law_cell_at" s_l_cell_at A.a_l_cell_at fd ∧ Binds K fd ["_law_script", "_law_k"] []
  g_l_cell_at : mg "_law_cell_at" = some (.ref A.a_l_cell_at)
  F_l_draw : ∃ fd, Fun K "_law_draw" "_law_draw" s_l_draw A.a_l_draw fd ∧ Binds K fd ["_law_cell", "_law_k", "_law_many"] []
  g_l_draw : mg "_law_draw" = some (.ref A.a_l_draw)
  F_l_row : ∃ fd, Fun K "_law_row" "_law_row" s_l_row A.a_l_row fd ∧ Binds K fd ["_law_script"] []
  g_l_row : mg "_law_row" = some (.ref A.a_l_row)
  F_l_whole : ∃ fd, Fun K "_law_whole" "_law_whole" s_l_whole A.a_l_whole fd ∧ Binds K fd ["_law_number"] []
  g_l_whole : mg "_law_whole" = some (.ref A.a_l_whole)
  F_l_numbers : ∃ fd, Fun K "_law_numbers" "_law_numbers" s_l_numbers A.a_l_numbers fd ∧ Binds K fd ["_law_found"] []
  g_l_numbers : mg "_law_numbers" = some (.ref A.a_l_numbers)
  F_l_stretched : ∃ fd, Fun K "_law_stretched" "_law_stretched" s_l_stretched A.a_l_stretched fd ∧ Binds K fd ["_law_numbers_here", "_law_found"] []
  g_l_stretched : mg "_law_stretched" = some (.ref A.a_l_stretched)
  F_l_picked : ∃ fd, Fun K "_law_picked" "_law_picked" s_l_picked A.a_l_picked fd ∧ Binds K fd ["_law_numbers_here", "_law_found"] []
  g_l_picked : mg "_law_picked" = some (.ref A.a_l_picked)
  F_l_bad_count : ∃ fd, Fun K "_law_bad_count" "_law_bad_count" s_l_bad_count A.a_l_bad_count fd ∧ Binds K fd ["_law_ask", "_law_numbers_here"] []
  g_l_bad_count : mg "_law_bad_count" = some (.ref A.a_l_bad_count)
  F_law : ∃ fd, Fun K "law" "law" s_law A.a_law fd ∧ Binds K fd ["_law_script"] []
  g_law : mg "law" = some (.ref A.a_law)
  z_isinstance : mg "isinstance" = none
  z_int : mg "int" = none
  z_bool : mg "bool" = none
  z_list : mg "list" = none
  z_all : mg "all" = none
  z_enumerate : mg "enumerate" = none
  z_len : mg "len" = none
  z_sorted : mg "sorted" = none
  z_range : mg "range" = none
  z_sum : mg "sum" = none
  z_tuple : mg "tuple" = none
  z_any : mg "any" = none
  z_ValueError : mg "ValueError" = none
  k_GREATEST : ∃ t, mg "GREATEST" = some (.int 1000000 t)
  g_RestError : mg "RestError" = some (.ref A.c_RestError)
  sb_RestError : PySem.W.subIn K (.ref A.c_RestError) (.type "BaseException") = some true
  ty_RestError : PySem.W.typeIn K (.ref A.c_RestError) = some (.type "type")
  g_BadRests : mg "BadRests" = some (.ref A.c_BadRests)
  g_BadNumbers : mg "BadNumbers" = some (.ref A.c_BadNumbers)
  g_BadRound : mg "BadRound" = some (.ref A.c_BadRound)
  g_BadRest : mg "BadRest" = some (.ref A.c_BadRest)
  g_BadCount : mg "BadCount" = some (.ref A.c_BadCount)
  ex_BadCount : PySem.W.excIn K A.c_BadCount [.type "ValueError", .type "Exception", .type "BaseException", .type "object"] "ValueError.__new__" = true
  ke_BadCount : PySem.W.keepIn K (.ref A.c_BadCount) = true
  em_BadCount_RestError : PySem.W.exmOne K (.ref A.c_BadCount) (.ref A.c_RestError) = some true
  xc_BadCount : ExcC K A.c_BadCount
  kq_BadCount_BadRests : PySem.W.kitOne K (.ref A.c_BadCount) (.ref A.c_BadRests) = some false
  kq_BadCount_BadNumbers : PySem.W.kitOne K (.ref A.c_BadCount) (.ref A.c_BadNumbers) = some false
  kq_BadCount_BadRound : PySem.W.kitOne K (.ref A.c_BadCount) (.ref A.c_BadRound) = some false
  kq_BadCount_BadRest : PySem.W.kitOne K (.ref A.c_BadCount) (.ref A.c_BadRest) = some false
  kq_BadCount_BadCount : PySem.W.kitOne K (.ref A.c_BadCount) (.ref A.c_BadCount) = some true
  kq_BadCount_BadText : PySem.W.kitOne K (.ref A.c_BadCount) (.ref A.c_BadText) = some false
  kq_BadCount_ValueError : PySem.W.kitOne K (.ref A.c_BadCount) (.type "ValueError") = some true
  sb_BadCount : PySem.W.subIn K (.ref A.c_BadCount) (.type "BaseException") = some true
  ty_BadCount : PySem.W.typeIn K (.ref A.c_BadCount) = some (.type "type")
  g_BadText : mg "BadText" = some (.ref A.c_BadText)
/-! ### is_whole, is_number, is_turn, check_turn -/
abbrev bt : List String := ["NoneType", "bool", "int", "str", "list", "tuple", "dict"]
theorem kit_int {K : PySem.W.Frag} {n : String} (h : n ∈ bt) : PySem.W.kitOne K (.type n) (.type "int") = some (n == "int" || n == "bool") := by
  simp only [List.mem_cons, List.not_mem_nil, or_false] at h
  rcases h with h | h | h | h | h | h | h <;> subst h <;> exact kit_ty (by decide +kernel)
theorem kit_bool {K : PySem.W.Frag} {n : String} (h : n ∈ bt) : PySem.W.kitOne K (.type n) (.type "bool") = some (n == "bool") := by
  simp only [List.mem_cons, List.not_mem_nil, or_false] at h
  rcases h with h | h | h | h | h | h | h <;> subst h <;> exact kit_ty (by decide +kernel)
/-- whether it is an int -/
def isI : V → Bool
  | .int _ => true
  | _ => false
theorem isI_ty {K : PySem.W.Frag} {H : Hp} {x : V} {n : String} (h : TyX K H x (.type n)) : isI x = (n == "int") := by
  generalize ht : Value.type n = t at h
  cases h with
  | base b => cases b <;> first | (cases ht; rfl) | cases ht
  | _ => first | (cases ht; rfl) | cases ht
/-- whether it is a number within the bounds, a round -/
def isNum : V → Bool
  | .int i => decide (-1000000 ≤ i) && decide (i ≤ 1000000)
  | _ => false
def isTurn : V → Bool
  | .int i => decide (1 ≤ i) && decide (i ≤ 1000000)
  | _ => false
/-- a plain thing of a known type -/
def PlainV (K : PySem.W.Frag) (H : Hp) (x : V) : Prop := ∃ n, TyX K H x (.type n) ∧ n ∈ bt
theorem PlainV.up {K : PySem.W.Frag} {H H' : Hp} {x : V} (e : Ex H H') (h : PlainV K H x) : PlainV K H' x := by
  obtain ⟨n, h, m⟩ := h
  exact ⟨n, tyx_up e h, m⟩
theorem plain_int {K : PySem.W.Frag} {H : Hp} {i : Int} : PlainV K H (.int i) := ⟨"int", .base (.int i), by decide⟩
def sp_is_whole (K : PySem.W.Frag) : Sp := spX (fun (d : V) vs H => vs = [d] ∧ PlainV K H d) (fun d _ v _ => v = .bl (isI d))
def sp_is_number (K : PySem.W.Frag) : Sp := spX (fun (d : V) vs H => vs = [d] ∧ PlainV K H d) (fun d _ v _ => v = .bl (isNum d))
def sp_is_turn (K : PySem.W.Frag) : Sp := spX (fun (d : V) vs H => vs = [d] ∧ PlainV K H d) (fun d _ v _ => v = .bl (isTurn d))
section
variable {P : Program} {w : World} {K : PySem.W.Frag} {mg : Str → Option Value} {base : Heap} {A : Ad}
theorem ok_is_whole (T : Txt K mg A) : Okk P w K mg base 1 A.a_is_whole ["thing"] (sp_is_whole K) := by
  refine okk T.F_is_whole sc_is_whole (fun vs H Q E h => ?_) (fun cdv Ar outer s H vs Q E hr h => ?_)
  · obtain ⟨d, ⟨rfl, _⟩, _⟩ := h
    rfl
  · obtain ⟨d, ⟨rfl, n, ht, hn⟩, k⟩ := h
    refine ⟨_, (pss_one (ps_ret (pe_and (pe_callB call_isi (by rfl) T.z_isinstance (by decide +kernel) (pa_cons (pv 0) (pa_cons (pe_bltn (v := .ty "int") (by rfl) T.z_int (by decide +kernel) rfl) pa_nil))) (pe_one (pe_not (pe_callB call_isi (by rfl) T.z_isinstance (by decide +kernel) (pa_cons (pv 0) (pa_cons (pe_bltn (v := .ty "bool") (by rfl) T.z_bool (by decide +kernel) rfl) pa_nil)))))))), ?_⟩
    refine s_ret (ev_andV (ev_isi (ev_var rfl) ev_c (.ty _) ht (kit_int hn)) (fun _ => ev_notV (ev_isi (ev_var rfl) ev_c (.ty _) ht (kit_bool hn)))) fun H1 e1 => k _ _ e1 ?_
    show V.bl _ = V.bl (isI d)
    rw [isI_ty ht]
    simp only [List.mem_cons, List.not_mem_nil, or_false] at hn
    rcases hn with h | h | h | h | h | h | h <;> subst h <;> decide +kernel
theorem ok_is_number (T : Txt K mg A) : Okk P w K mg base 2 A.a_is_number ["thing"] (sp_is_number K) := by
  obtain ⟨_, G_is_whole, b_is_whole, k_is_whole⟩ := ok_is_whole (P := P) (w := w) (base := base) T
  obtain ⟨_, kG⟩ := T.k_GREATEST
  refine okk T.F_is_number sc_is_number (fun vs H Q E h => ?_) (fun cdv Ar outer s H vs Q E hr h => ?_)
  · obtain ⟨d, ⟨rfl, _⟩, _⟩ := h
    rfl
  · obtain ⟨d, ⟨rfl, hp⟩, k⟩ := h
    have hr_is_whole : Room 1 _ := hr.mono (by decide)
    refine ⟨_, (pss_one (ps_ret (pe_and (pe_call G_is_whole hr_is_whole (by rfl) T.g_is_whole k_is_whole b_is_whole .nil pass0 (pa_cons (pv 0) pa_nil)) (pe_one (pe_chain op_le op_le (pe_un un_neg (pe_glob (v := .int 1000000) (by rfl) kG ⟨_, rfl⟩)) (pv 0) (pe_glob (v := .int 1000000) (by rfl) kG ⟨_, rfl⟩)))))), ?_⟩
    refine s_ret (v := .bl (isNum d)) ?_ fun H1 e1 => k _ _ e1 rfl
    have h1 : Ev (tCall (sp_is_whole K) [] E0 (tCons (tVar 0) tNil)) [some d] H (.bl (isI d)) := ev_call0 d (by walk_at "ev") (fun H1 e => ⟨rfl, hp.up e⟩) fun _ _ _ p => p
    cases d with
    | int i => exact ev_is (ev_andV h1 fun _ => by walk_at "ev") rfl
    | _ => exact ev_andV (b := false) h1 fun z => nomatch z
/-- a round is let through -/
def sp_check_turn (K : PySem.W.Frag) : Sp := spX (fun (d : Int) vs _ => vs = [.int d] ∧ 1 ≤ d ∧ d ≤ 1000000) (fun _ _ v _ => v = .non)
end
/-! ### lists as a type; all -/
theorem kit_ll {K : PySem.W.Frag} : PySem.W.kitOne K (.type "list") (.type "list") = some true := kit_ty (by decide +kernel)
theorem all_true {α : Type} {l : List α} {f : α → Bool} (h : ∀ x ∈ l, f x = true) : (l.map f).all id = true := by
  rw [List.all_map]
  exact List.all_eq_true.mpr h
theorem map_bl {α : Type} {l : List α} {f : α → Bool} : l.map (fun n => V.bl (f n)) = (l.map f).map V.bl := by
  rw [List.map_map]
  rfl
/-! ### check_numbers of what are numbers -/
def sp_check_numbers (_ : PySem.W.Frag) : Sp := spX (fun (d : V × List Int) vs H => vs = [d.1] ∧ LstAt (iv d.2) d.1 H ∧ d.2.length ≤ 10000 ∧ ∀ n ∈ d.2, -1000000 ≤ n ∧ n ≤ 1000000) (fun _ _ v _ => v = .non)
section
variable {P : Program} {w : World} {K : PySem.W.Frag} {mg : Str → Option Value} {base : Heap} {A : Ad}
theorem ok_check_numbers (T : Txt K mg A) : Okk P w K mg base 3 A.a_check_numbers ["numbers"] (sp_check_numbers K) := by
  obtain ⟨_, G_is_number, b_is_number, k_is_number⟩ := ok_is_number (P := P) (w := w) (base := base) T
  refine okk T.F_check_numbers sc_check_numbers (fun vs H Q E h => ?_) (fun cdv Ar outer s H vs Q E hr h => ?_)
  · obtain ⟨d, ⟨rfl, _⟩, _⟩ := h
    rfl
  · obtain ⟨⟨_, ns⟩, ⟨rfl, ⟨a, rfl, ha⟩, hl, hb⟩, k⟩ := h
    dsimp only at ha hl hb
    have hr_is_number : Room 2 _ := hr.mono (by decide)
    refine ⟨_, (pss_one (ps_if (PW.pt (pw_or (pt_not (pt_val (pe_callB (isiK K) (by rfl) T.z_isinstance (by decide +kernel) (pa_cons (pv 0) (pa_cons (pe_bltn (v := .ty "list") (by rfl) T.z_list (by decide +kernel) rfl) pa_nil))))) (pw_or1 (pt_not (pt_val (pe_callB (allK K rfl) (by rfl) T.z_all (by decide +kernel) (pa_cons (pe_lc (own := [("number", 1)]) rfl sc_check_numbers.nd (pi_listK K (pv 0)) (blkOk_by (N := ["numbers", "number"]) (sc := defScope s_check_numbers) (by decide +kernel)) (fun _ _ _ _ _ => (pg_name (i := 1) sc_check_numbers.nd rfl (Or.inl rfl))) (fun _ _ _ _ _ => pts_nil) (fun _ _ _ _ _ => (pe_call G_is_number hr_is_number (by rfl) T.g_is_number k_is_number b_is_number .nil pass0 (pa_cons (pv 1) pa_nil)))) pa_nil))))))) (pss_one ps_never) pss_nil)), ?_⟩
    refine s_when (b := false) ?_ (fun z => nomatch z) fun _ H1 e1 => k _ _ e1 rfl
    have h1 : Ev (tCB (rAll K) (tCons (tLc (iList K (tVar 0)) (gName 1) tYes (tCall (sp_is_number K) [] E0 (tCons (tVar 1) tNil)) [1]) tNil)) [some (.ref a), none] H (.bl true) := by
      refine ev_is (ev_allN (bs := ns.map fun n => isNum (.int n)) (H0 := H) ?_) (by rw [all_true]; intro n hn; simp only [isNum, decide_eq_true (hb n hn).1, decide_eq_true (hb n hn).2, Bool.and_self])
      rw [← map_bl]
      exact er_lcI (fun n => .bl (isNum (.int n))) (ev_var rfl) (sq_of ha) (by omega) (fun _ => rfl) fun n hn => ev_call0 (.int n) (ea_cons (ev_var rfl) ea_nil) (fun H1 e => ⟨rfl, plain_int⟩) fun _ _ _ p => p
    exact et_is (et_or (et_not (et_B (ev_isi (ev_var rfl) ev_c (.ty _) (.base (.lst ha)) kit_ll))) fun _ => et_not (et_B h1)) rfl
end
/-! ### a cell of the script, a draw, rounds -/
/-- a script at a: ns -/
def Scr (K : PySem.W.Frag) (H : Hp) (v : V) (ns : List Int) : Prop := ∃ a, v = .ref a ∧ SqL K H a (ns.map V.int) ∧ ns.length ≤ 63
theorem Scr.up {K : PySem.W.Frag} {H H' : Hp} {v : V} {ns : List Int} (e : Ex H H') (h : Scr K H v ns) : Scr K H' v ns := by
  obtain ⟨a, r, h, l⟩ := h
  exact ⟨a, r, ex_l e h, l⟩
def sp_l_cell_at (K : PySem.W.Frag) : Sp := spX (fun (d : V × List Int × Nat) vs H => vs = [d.1, .int d.2.2] ∧ Scr K H d.1 d.2.1) (fun d _ v _ => v = .int (d.2.1.getD d.2.2 0))
def sp_l_draw (_ : PySem.W.Frag) : Sp := spX (fun (d : Int × Int × Int) vs _ => vs = [.int d.1, .int d.2.1, .int d.2.2] ∧ 0 ≤ d.2.1 ∧ 0 < d.2.2) (fun d _ v _ => ∃ r, v = .int r ∧ 0 ≤ r ∧ r < d.2.2)
section
variable {P : Program} {w : World} {K : PySem.W.Frag} {mg : Str → Option Value} {base : Heap} {A : Ad}
theorem ok_l_cell_at (T : Txt K mg A) : Okk P w K mg base 1 A.a_l_cell_at ["_law_script", "_law_k"] (sp_l_cell_at K) := by
  refine okk T.F_l_cell_at sc_l_cell_at (fun vs H Q E h => ?_) (fun cdv Ar outer s H vs Q E hr h => ?_)
  · obtain ⟨d, ⟨rfl, _⟩, _⟩ := h
    rfl
  · obtain ⟨⟨_, ns, j⟩, ⟨rfl, a, rfl, hS, hl⟩, k⟩ := h
    refine ⟨_, (pss_cons (ps_if (pt_cmpR op_lt (pv 1) (pe_callB (len_seqK K) (by rfl) T.z_len (by decide +kernel) (pa_cons (pv 0) pa_nil)) (nomark _)) (pss_one (ps_ret (pe_ix (ix_listK K) (pv 0) (pv 1) (fun _ _ => rfl)))) pss_nil)
      (pss_one (ps_ret pe_int))), ?_⟩
    have e0 : ((ns.map V.int).length : Int) = (ns.length : Int) := by rw [List.length_map]
    refine q_when (b := decide ((j : Int) < (ns.length : Int))) ?_ (fun hb H1 e1 => ?_) (fun hb H1 e1 => ?_)
    · rw [← e0]
      exact et_test (ev_op (ev_var rfl) (ev_lenL (ev_var rfl) hS) rv_I0)
    · have hj : j < ns.length := by
        have := of_decide_eq_true hb
        omega
      refine s_ret (v := .int (ns.getD j 0)) (ev_op (ev_var rfl) (ev_var rfl) (rv_ixL (ex_l e1 hS) ?_)) fun H2 e2 => k _ _ (e1.trans e2) rfl
      refine atI_nat ?_
      rw [List.getElem?_map, List.getD_eq_getElem?_getD, List.getElem?_eq_getElem hj]
      rfl
    · have hj : ¬ j < ns.length := fun z => by
        have := of_decide_eq_false hb
        omega
      refine s_ret (v := .int (ns.getD j 0)) ?_ fun H2 e2 => k _ _ (e1.trans e2) rfl
      rw [List.getD_eq_getElem?_getD, List.getElem?_eq_none (by omega)]
      exact ev_c
abbrev prms : List Int := [1000003, 1000033, 1000037, 1000039, 1000081, 1000099, 1000117, 1000121, 1000133, 1000151, 1000159, 1000171, 1000183, 1000187, 1000193, 1000199]
theorem ok_l_draw (T : Txt K mg A) : Okk P w K mg base 1 A.a_l_draw ["_law_cell", "_law_k", "_law_many"] (sp_l_draw K) := by
  refine okk T.F_l_draw sc_l_draw (fun vs H Q E h => ?_) (fun cdv Ar outer s H vs Q E hr h => ?_)
  · obtain ⟨d, ⟨rfl, _⟩, _⟩ := h
    rfl
  · obtain ⟨⟨c, j, m⟩, ⟨rfl, hj, hm⟩, k⟩ := h
    refine ⟨_, (pss_cons (ps_set (i := 3) sc_l_draw.nd rfl (.inl rfl) (pe_tup (pa_cons pe_int (pa_cons pe_int (pa_cons pe_int (pa_cons pe_int (pa_cons pe_int (pa_cons pe_int (pa_cons pe_int (pa_cons pe_int (pa_cons pe_int (pa_cons pe_int (pa_cons pe_int (pa_cons pe_int (pa_cons pe_int (pa_cons pe_int (pa_cons pe_int (pa_cons pe_int pa_nil))))))))))))))))))
      (pss_one (ps_ret (pe_op op_mod (pe_op op_mod (pe_op op_add (pe_op op_mul (pv 0) pe_int) (pe_op op_mul (pv 1) pe_int)) (pe_ix (ix_tupK K) (pv 3) (pe_op op_mod (pv 1) pe_int) (fun _ _ => rfl))) (pv 2))))), ?_⟩
    refine q_asgU (eu_tup (by walk_at "ev") (by walk_at "sz")) fun p H1 hp e1 h1 => ?_
    have k0 : 0 ≤ j % 16 := Int.emod_nonneg _ (by decide)
    have k1 : j % 16 < 16 := Int.emod_lt_of_pos _ (by decide)
    have hg := getD_all (l := prms) (i := (j % 16).toNat) (a := 1) (b := 2000000) (by decide) (by show (j % 16).toNat < 16; omega)
    have hg1 : 0 < prms.getD (j % 16).toNat 0 := by
      have := hg.1
      omega
    refine s_ret (v := .int ((c * 48271 + j * 69621) % prms.getD (j % 16).toNat 0 % m)) ?_ fun H2 e2 => k _ _ (e1.trans e2) ⟨_, rfl, Int.emod_nonneg _ (Int.ne_of_gt hm), Int.emod_lt_of_pos _ hm⟩
    refine ev_op (ev_op (ev_op (ev_op (ev_var rfl) ev_c (rv_I (.inr (by decide)))) (ev_op (ev_var rfl) ev_c (rv_I (.inr (by decide)))) rv_I0) (ev_op (ev_var rfl) (ev_op (ev_var rfl) ev_c (rv_I (by decide))) (rv_ixT (st_of (show H1 p = some (.tup (prms.map V.int)) from h1)) (atI_map (l := prms) k0 (by show j % 16 < 16; exact k1)))) (rv_I hg1)) (ev_var rfl) (rv_I hm)
theorem ev_cell {σ : L2.St} {H : Hp} {ta tb : TE} {v : V} {ns : List Int} {j : Nat} {E : XK} (h : Ev ta σ H v) (hj : Ev tb σ H (.int (j : Int))) (hS : Scr K H v ns) : Ev (tCall (sp_l_cell_at K) [] E (tCons ta (tCons tb tNil))) σ H (.int (ns.getD j 0)) :=
  ev_call0 (v, ns, j) (ea_cons h (ea_cons hj ea_nil)) (fun H1 e => ⟨rfl, hS.up e⟩) fun _ _ _ p => p
theorem er_draw {σ : L2.St} {H : Hp} {ta tb tc : TE} {c k m : Int} {E : XK} (h : Ev ta σ H (.int c)) (h2 : Ev tb σ H (.int k)) (h3 : Ev tc σ H (.int m)) (hk : 0 ≤ k) (hm : 0 < m) : EvR (tCall (sp_l_draw K) [] E (tCons ta (tCons tb (tCons tc tNil)))) σ H (fun v _ => ∃ r, v = .int r ∧ 0 ≤ r ∧ r < m) :=
  er_call (c, k, m) (ea_cons h (ea_cons h2 (ea_cons h3 ea_nil))) (fun H1 e => ⟨rfl, hk, hm⟩) fun _ _ _ _ _ p => p
end
/-! ### whether it is a list of numbers -/
def sp_l_numbers (_ : PySem.W.Frag) : Sp := spX (fun (d : V × List Int) vs H => vs = [d.1] ∧ LstAt (iv d.2) d.1 H ∧ d.2.length ≤ 10000) (fun _ _ v _ => v = .bl true)
def sp_l_whole (K : PySem.W.Frag) : Sp := spX (fun (d : V) vs H => vs = [d] ∧ PlainV K H d) (fun d _ v _ => v = .bl (isI d))
section
variable {P : Program} {w : World} {K : PySem.W.Frag} {mg : Str → Option Value} {base : Heap} {A : Ad}
theorem ok_l_whole (T : Txt K mg A) : Okk P w K mg base 1 A.a_l_whole ["_law_number"] (sp_l_whole K) := by
  refine okk T.F_l_whole sc_l_whole (fun vs H Q E h => ?_) (fun cdv Ar outer s H vs Q E hr h => ?_)
  · obtain ⟨d, ⟨rfl, _⟩, _⟩ := h
    rfl
  · obtain ⟨d, ⟨rfl, n, ht, hn⟩, k⟩ := h
    refine ⟨_, (pss_one (ps_ret (pe_and (pe_callB (isiK K) (by rfl) T.z_isinstance (by decide +kernel) (pa_cons (pv 0) (pa_cons (pe_bltn (v := .ty "int") (by rfl) T.z_int (by decide +kernel) rfl) pa_nil))) (pe_one (pe_not (pe_callB (isiK K) (by rfl) T.z_isinstance (by decide +kernel) (pa_cons (pv 0) (pa_cons (pe_bltn (v := .ty "bool") (by rfl) T.z_bool (by decide +kernel) rfl) pa_nil)))))))), ?_⟩
    refine s_ret (ev_andV (ev_isi (ev_var rfl) ev_c (.ty _) ht (kit_int hn)) (fun _ => ev_notV (ev_isi (ev_var rfl) ev_c (.ty _) ht (kit_bool hn)))) fun H1 e1 => k _ _ e1 ?_
    show V.bl _ = V.bl (isI d)
    rw [isI_ty ht]
    simp only [List.mem_cons, List.not_mem_nil, or_false] at hn
    rcases hn with h | h | h | h | h | h | h <;> subst h <;> decide +kernel
theorem ok_l_numbers (T : Txt K mg A) : Okk P w K mg base 2 A.a_l_numbers ["_law_found"] (sp_l_numbers K) := by
  obtain ⟨_, G_l_whole, b_l_whole, k_l_whole⟩ := ok_l_whole (P := P) (w := w) (base := base) T
  refine okk T.F_l_numbers sc_l_numbers (fun vs H Q E h => ?_) (fun cdv Ar outer s H vs Q E hr h => ?_)
  · obtain ⟨d, ⟨rfl, _⟩, _⟩ := h
    rfl
  · obtain ⟨⟨_, ns⟩, ⟨rfl, ⟨a, rfl, ha⟩, hl⟩, k⟩ := h
    dsimp only at ha hl
    have hr_l_whole : Room 1 _ := hr.mono (by decide)
    refine ⟨_, (pss_one (ps_ret (pe_and (pe_callB (isiK K) (by rfl) T.z_isinstance (by decide +kernel) (pa_cons (pv 0) (pa_cons (pe_bltn (v := .ty "list") (by rfl) T.z_list (by decide +kernel) rfl) pa_nil))) (pe_one (pe_callB (allK K rfl) (by rfl) T.z_all (by decide +kernel) (pa_cons (pe_lc (own := [("_law_one", 1)]) rfl sc_l_numbers.nd (pi_listK K (pv 0)) (blkOk_by (N := ["_law_found", "_law_one"]) (sc := defScope s_l_numbers) (by decide +kernel)) (fun _ _ _ _ _ => (pg_name (i := 1) sc_l_numbers.nd rfl (Or.inl rfl))) (fun _ _ _ _ _ => pts_nil) (fun _ _ _ _ _ => (pe_call G_l_whole hr_l_whole (by rfl) T.g_l_whole k_l_whole b_l_whole .nil pass0 (pa_cons (pv 1) pa_nil)))) pa_nil)))))), ?_⟩
    refine s_ret (v := .bl true) (ev_andV (a := true) (b := true) (ev_isi (ev_var rfl) ev_c (.ty _) (.base (.lst ha)) kit_ll) fun _ => ?_) fun H1 e1 => k _ _ e1 rfl
    refine ev_is (ev_allN (bs := ns.map fun n => isI (.int n)) (H0 := H) ?_) (by rw [all_true]; intro n hn; rfl)
    rw [← map_bl]
    exact er_lcI (fun n => .bl (isI (.int n))) (ev_var rfl) (sq_of ha) (by omega) (fun _ => rfl) fun n hn => ev_call0 (.int n) (ea_cons (ev_var rfl) ea_nil) (fun H1 e => ⟨rfl, plain_int⟩) fun _ _ _ p => p
end
/-! ### a row of numbers -/
def RowAt (n : Nat) (H : Hp) (v : V) (H' : Hp) : Prop := ∃ ns : List Int, NewL (iv ns) H v H' ∧ ns.length = n ∧ ∀ x ∈ ns, -1000000 ≤ x ∧ x ≤ 1000000
def sp_l_row (K : PySem.W.Frag) : Sp := spX (fun (d : V × List Int) vs H => vs = [d.1] ∧ Scr K H d.1 d.2) (fun d H v H' => RowAt d.2.length H v H')
theorem mul_bound {x b p q : Int} (h0 : -p ≤ x) (h1 : x ≤ p) (h2 : 0 ≤ b) (h3 : b ≤ q) (hp : 0 ≤ p) : -(p * q) ≤ x * b ∧ x * b ≤ p * q := by
  have a1 : x * b ≤ p * b := Int.mul_le_mul_of_nonneg_right h1 h2
  have a2 : -p * b ≤ x * b := Int.mul_le_mul_of_nonneg_right h0 h2
  have a3 : p * b ≤ p * q := Int.mul_le_mul_of_nonneg_left h3 hp
  rw [Int.neg_mul] at a2
  omega
section
variable {P : Program} {w : World} {K : PySem.W.Frag} {mg : Str → Option Value} {base : Heap} {A : Ad}
theorem ok_l_row (T : Txt K mg A) : Okk P w K mg base 2 A.a_l_row ["_law_script"] (sp_l_row K) := by
  obtain ⟨_, G_l_cell_at, b_l_cell_at, k_l_cell_at⟩ := ok_l_cell_at (P := P) (w := w) (base := base) T
  obtain ⟨_, G_l_draw, b_l_draw, k_l_draw⟩ := ok_l_draw (P := P) (w := w) (base := base) T
  refine okk T.F_l_row sc_l_row (fun vs H Q E h => ?_) (fun cdv Ar outer s H vs Q E hr h => ?_)
  · obtain ⟨d, ⟨rfl, _⟩, _⟩ := h
    rfl
  · obtain ⟨⟨_, ns⟩, ⟨rfl, a, rfl, hS, hl⟩, k⟩ := h
    dsimp only at hS hl
    have hr_l_cell_at : Room 1 _ := hr.mono (by decide)
    have hr_l_draw : Room 1 _ := hr.mono (by decide)
    refine ⟨_, (pss_cons (ps_par (i := 1) (j := 2) rfl sc_l_row.nd rfl rfl (by decide) rfl rfl (pa_cons (pe_call G_l_draw hr_l_draw (by rfl) T.g_l_draw k_l_draw b_l_draw .nil pass0 (pa_cons (pe_call G_l_cell_at hr_l_cell_at (by rfl) T.g_l_cell_at k_l_cell_at b_l_cell_at .nil pass0 (pa_cons (pv 0) (pa_cons pe_int pa_nil))) (pa_cons pe_int (pa_cons pe_int pa_nil)))) (pa_cons (pe_op op_add pe_int (pe_call G_l_draw hr_l_draw (by rfl) T.g_l_draw k_l_draw b_l_draw .nil pass0 (pa_cons (pe_call G_l_cell_at hr_l_cell_at (by rfl) T.g_l_cell_at k_l_cell_at b_l_cell_at .nil pass0 (pa_cons (pv 0) (pa_cons pe_int pa_nil))) (pa_cons pe_int (pa_cons pe_int pa_nil))))) pa_nil)) (by rfl))
      (pss_cons (ps_set (i := 3) sc_l_row.nd rfl (.inl rfl) (pe_ix (ix_tupK K) (pe_tup (pa_cons pe_int (pa_cons pe_int (pa_cons pe_int (pa_cons pe_int pa_nil))))) (pv 1) (fun _ _ => rfl)))
      (pss_cons (ps_set (i := 4) sc_l_row.nd rfl (.inl rfl) (pe_lst pa_nil))
      (pss_cons (ps_for PassesOwn.never rfl (pi_range1 (by rfl) T.z_range (pa_cons (pe_callB (len_seqK K) (by rfl) T.z_len (by decide +kernel) (pa_cons (pv 0) pa_nil)) pa_nil)) (pg_name (i := 5) sc_l_row.nd rfl (Or.inl rfl)) (pss_cons (ps_set (i := 6) sc_l_row.nd rfl (.inl rfl) (pe_call G_l_draw hr_l_draw (by rfl) T.g_l_draw k_l_draw b_l_draw .nil pass0 (pa_cons (pe_ix (ix_listK K) (pv 0) (pv 5) (fun _ _ => rfl)) (pa_cons (pe_op op_add (pe_op op_mod (pv 5) pe_int) pe_int) (pa_cons (pe_op op_add (pv 3) pe_int) pa_nil)))))
      (pss_cons (ps_if (pt_cmpR op_eq (pe_call G_l_draw hr_l_draw (by rfl) T.g_l_draw k_l_draw b_l_draw .nil pass0 (pa_cons (pe_ix (ix_listK K) (pv 0) (pv 5) (fun _ _ => rfl)) (pa_cons (pe_op op_add (pe_op op_mod (pv 5) pe_int) pe_int) (pa_cons pe_int pa_nil)))) pe_int (nomark _)) (pss_one (ps_set (i := 6) sc_l_row.nd rfl (.inl rfl) (pe_un un_neg (pv 6)))) pss_nil)
      (pss_one (ps_expr (pe_bm PySem.F.plainAttrs_list PySem.F.slot_list_append PySem.F.type_list_append mt_append (pv 4) (pa_cons (pe_ifExp (pt_cmpR (inK K) (pv 1) (pe_tup (pa_cons pe_int (pa_cons pe_int pa_nil))) (by rfl)) (pe_op op_mul (pv 6) (pv 2)) (pv 6)) pa_nil)))))))
      (pss_one (ps_ret (pv 4))))))), ?_⟩
    have hsc : Scr K H (.ref a) ns := ⟨a, rfl, hS, hl⟩
    have e0 : ((ns.map V.int).length : Int) = (ns.length : Int) := by rw [List.length_map]
    refine q_parR (R := fun vs _ => ∃ kd by_ : Int, vs = [.int kd, .int by_] ∧ 0 ≤ kd ∧ kd < 4 ∧ 1 ≤ by_ ∧ by_ ≤ 40) (ear_cons (er_draw (ev_cell (j := 0) (ev_var rfl) ev_c hsc) ev_c ev_c (by decide) (by decide)) fun z H1 e1 hz => ?_) (fun vs H1 h => ?_) fun v w H1 e1 h1 => ?_
    · obtain ⟨kd, rfl, k0, k1⟩ := hz
      refine (ear_one (er_op (R := fun v _ => ∃ b : Int, v = .int b ∧ 1 ≤ b ∧ b ≤ 40) (evr ev_c) (fun x H2 e2 hx => er_draw (ev_cell (j := 1) (ev_var rfl) ev_c (hsc.up (e1.trans e2))) ev_c ev_c (by decide) (by decide)) ?_)).imp fun vs H2 _ h => ?_
      · rintro x y H4 H5 e4 rfl e5 ⟨r, rfl, r0, r1⟩ Q q
        exact ⟨1, r, rfl, rfl, q _ _ (Ex.refl _) ⟨_, rfl, by omega, by omega⟩⟩
      · obtain ⟨x, rfl, b, rfl, b0, b1⟩ := h
        exact ⟨kd, b, rfl, k0, k1, b0, b1⟩
    · obtain ⟨kd, b, rfl, _⟩ := h
      exact ⟨_, _, rfl⟩
    obtain ⟨kd, by_, hvw, k0, k1, b0, b1⟩ := h1
    cases hvw
    have g0 := getD_all (l := [5, 60, 1000000, 900]) (i := kd.toNat) (a := 1) (b := 1000000) (by decide) (by show kd.toNat < 4; omega)
    generalize hmost : ([5, 60, 1000000, 900] : List Int).getD kd.toNat 0 = most at g0
    refine q_asg (v := .int most) (by rw [← hmost]; exact ev_pick (l := [5, 60, 1000000, 900]) (by walk_at "ev") (ev_var rfl) (by rfl) k0 (by show kd < 4; exact k1) (by walk_at "sz")) fun H2 e2 => ?_
    refine q_asgL (xs := []) (el_lst ea_nil (by decide)) fun p H3 hp e3 h3 => ?_
    have e23 := e1.trans e2
    refine q_forR1 (n := (ns.length : Int)) (ea_cons (by rw [← e0]; exact ev_lenL (ev_var rfl) (ex_l (e23.trans e3) hS)) ea_nil) (by omega) (fun i σ' H' => ∃ s5 s6 : Option V, ∃ ts : List Int, σ' = [some (.ref a), some (.int kd), some (.int by_), some (.int most), some (.ref p), s5, s6] ∧ Ex H2 H' ∧ H' p = some (.lst (iv ts)) ∧ ts.length = i ∧ ∀ t ∈ ts, -1000000 ≤ t ∧ t ≤ 1000000)
      (fun H4 e4 => ⟨_, _, [], rfl, e3.trans e4, e4 _ _ h3, rfl, fun t ht => nomatch ht⟩) (fun i σ' H' hi hP => ?_) (fun σ' H' hP => ?_)
    · obtain ⟨s5, s6, ts, rfl, e4, hp4, hlen, hts⟩ := hP
      have hi' : i < ns.length := by omega
      have hS4 : SqL K H' a (ns.map V.int) := ex_l (e23.trans e4) hS
      have hcl : ∀ H5, Ex H' H5 → ∀ s6, Ev (tOp (rIxL K) (tVar 0) (tVar 5)) [some (.ref a), some (.int kd), some (.int by_), some (.int most), some (.ref p), some (.int (i : Int)), s6] H5 (.int (ns.getD i 0)) := fun H5 e5 s6 => ev_op (ev_var rfl) (ev_var rfl) (rv_ixL (ex_l e5 hS4) (atI_ints hi'))
      refine q_asgR (er_draw (c := ns.getD i 0) (k := (i : Int) % 5 + 1) (m := most + 1) (hcl _ (Ex.refl _) _) (ev_op (ev_op (ev_var rfl) ev_c (rv_I (by decide))) ev_c rv_I0) (ev_op (ev_var rfl) ev_c rv_I0) (by omega) (by omega)) fun v5 H5 e5 h5 => ?_
      obtain ⟨x, rfl, x0, x1⟩ := h5
      -- the number, its sign drawn
      have hsg : ∀ H6 x, Ex H' H6 → -most ≤ x → x ≤ most → tDrop (tBM K "list" rAppend (tVar 4) (tCons (tIf (tTest (tOp (rIn K false) (tVar 1) (tTup (tCons (tC (.int 1)) (tCons (tC (.int 3)) tNil))))) (tOp (rI CMul fun i j => .int (i * j)) (tVar 6) (tVar 2)) (tVar 6)) tNil)) { nx := fun σ' H' => ∃ s5 s6 : Option V, ∃ ts : List Int, σ' = [some (.ref a), some (.int kd), some (.int by_), some (.int most), some (.ref p), s5, s6] ∧ Ex H2 H' ∧ H' p = some (.lst (iv ts)) ∧ ts.length = i + 1 ∧ ∀ t ∈ ts, -1000000 ≤ t ∧ t ≤ 1000000, rt := Q, bk := fun σ' H' => tRet (tVar 4) { nx := fun _ H' => Q .non H', rt := Q } σ' H', ct := fun σ' H' => ∃ s5 s6 : Option V, ∃ ts : List Int, σ' = [some (.ref a), some (.int kd), some (.int by_), some (.int most), some (.ref p), s5, s6] ∧ Ex H2 H' ∧ H' p = some (.lst (iv ts)) ∧ ts.length = i + 1 ∧ ∀ t ∈ ts, -1000000 ≤ t ∧ t ≤ 1000000 }
          [some (.ref a), some (.int kd), some (.int by_), some (.int most), some (.ref p), some (.int (i : Int)), some (.int x)] H6 := fun H6 x e6 a0 a1 => by
        have hin : inV (.int kd) [.int 1, .int 3] = decide (kd = 1 ∨ kd = 3) := by
          have : kd = 0 ∨ kd = 1 ∨ kd = 2 ∨ kd = 3 := by omega
          rcases this with h | h | h | h <;> subst h <;> decide +kernel
        have hb : -1000000 ≤ x ∧ x ≤ 1000000 := ⟨by omega, by omega⟩
        have hm : (kd = 1 ∨ kd = 3) → -1000000 ≤ x * by_ ∧ x * by_ ≤ 1000000 := fun h => by
          have hmm : most ≤ 900 := by
            rw [← hmost]
            rcases h with h | h <;> subst h <;> decide
          have := mul_bound (x := x) (b := by_) (p := 900) (q := 40) (by omega) (by omega) (by omega) b1 (by decide)
          omega
        have fin : ∀ z H7, Ex H6 H7 → -1000000 ≤ z → z ≤ 1000000 → ∃ s5 s6 : Option V, ∃ ts' : List Int, [some (V.ref a), some (.int kd), some (.int by_), some (.int most), some (.ref p), some (.int (i : Int)), some (.int x)] = [some (.ref a), some (.int kd), some (.int by_), some (.int most), some (.ref p), s5, s6] ∧ Ex H2 (upd H7 p (.lst (iv ts ++ [.int z]))) ∧ (upd H7 p (.lst (iv ts ++ [.int z]))) p = some (.lst (iv ts')) ∧ ts'.length = i + 1 ∧ ∀ t ∈ ts', -1000000 ≤ t ∧ t ≤ 1000000 := fun z H7 e7 z0 z1 =>
          ⟨_, _, ts ++ [z], rfl, Ex.mut ((e4.trans e6).trans e7) hp, by rw [upd_same, iv_append]; rfl, by simp [hlen], fun t ht => by
            rcases List.mem_append.mp ht with h | h
            · exact hts t h
            · rw [List.mem_singleton.mp h]
              exact ⟨z0, z1⟩⟩
        refine s_app (v := .int (if kd = 1 ∨ kd = 3 then x * by_ else x)) (e6 _ _ hp4) (ev_var rfl) (ev_if (b := decide (kd = 1 ∨ kd = 3)) (et_test (ev_is (ev_inU (ev_var rfl) (eu_tup (by walk_at "ev") (by walk_at "sz")) rfl (by decide)) (by rw [hin]))) (fun hb => ?_) (fun hb => ?_)) (by rw [List.length_map]; omega) fun H7 e7 => ?_
        · rw [if_pos (of_decide_eq_true hb)]
          exact ev_op (ev_var rfl) (ev_var rfl) (rv_I (.inr ⟨by omega, by omega⟩))
        · rw [if_neg (of_decide_eq_false hb)]
          exact ev_var rfl
        · split
          · rename_i h
            exact fin _ H7 e7 (hm h).1 (hm h).2
          · exact fin _ H7 e7 hb.1 hb.2
      refine q_if_R (er_test (er_draw (c := ns.getD i 0) (k := (i : Int) % 7 + 1) (m := 2) (hcl _ e5 _) (ev_op (ev_op (ev_var rfl) ev_c (rv_I (by decide))) ev_c rv_I0) ev_c (by omega) (by decide)) ev_c fun x H6 _ h Q q => ?_) (fun H6 e6 => ?_) (fun H6 e6 => ?_)
      · obtain ⟨r, rfl, _⟩ := h
        exact ⟨rfl, q _⟩
      · exact s_asg (ev_un (ev_var rfl) ru_neg) fun H7 e7 => hsg H7 (-x) ((e5.trans e6).trans e7) (by omega) (by omega)
      · exact hsg H6 x (e5.trans e6) (by omega) (by omega)
    · obtain ⟨s5, s6, ts, rfl, e4, hp4, hlen, hts⟩ := hP
      exact s_ret (ev_var rfl) fun H5 e5 => k _ _ ((e23.trans e4).trans e5) ⟨ts, ⟨p, rfl, fresh_back e23 hp, e5 _ _ hp4⟩, by show ts.length = ns.length; omega, hts⟩
end
/-! ### stretch -/
def NumsAt (v : V) (ns : List Int) (H : Hp) : Prop := LstAt (iv ns) v H ∧ ns.length ≤ 63 ∧ ∀ n ∈ ns, -1000000 ≤ n ∧ n ≤ 1000000
theorem NumsAt.up {v : V} {ns : List Int} {H H' : Hp} (e : Ex H H') (h : NumsAt v ns H) : NumsAt v ns H' := ⟨h.1.up e, h.2⟩
def spx_stretch (_ : PySem.W.Frag) (A : Ad) : Sp := spO (spX (fun (d : V × List Int) vs H => vs = [d.1] ∧ NumsAt d.1 d.2 H ∧ d.2 ≠ []) (fun d _ v H' => ∃ t i j, v = .ref t ∧ H' t = some (.tup [.int i, .int j]) ∧ StrOk d.2 i j)) (spZ (fun (d : V) vs H => vs = [d] ∧ NumsAt d [] H) A.c_BadCount)
def seenE (ns : List Int) (i : Nat) : List (Int × V) := (List.range (i + 1)).map fun k => (res ns k, V.int (k : Int))
theorem seen_keys (ns : List Int) (i : Nat) : (seenE ns i).map (·.1) = (List.range (i + 1)).map (res ns) := by
  unfold seenE
  rw [List.map_map]
  rfl
theorem seen_mem {ns : List Int} {i : Nat} {x : Int} {v : V} (h : (x, v) ∈ seenE ns i) : ∃ k : Nat, k ≤ i ∧ v = .int (k : Int) ∧ x = res ns k := by
  obtain ⟨k, hk, e⟩ := List.mem_map.mp h
  cases e
  exact ⟨k, by have := List.mem_range.mp hk; omega, rfl, rfl⟩
section
variable {P : Program} {w : World} {K : PySem.W.Frag} {mg : Str → Option Value} {base : Heap} {A : Ad}
theorem hu_of {k : Nat} {B : Around} (hr : Room k B) : B.units + 1 < cLine := by have := hr.un; omega
theorem okx_stretch (T : Txt K mg A) : OkkX P w K mg base 4 A.a_stretch ["numbers"] (spx_stretch K A) := by
  obtain ⟨_, G_check_numbers, b_check_numbers, k_check_numbers⟩ := ok_check_numbers (P := P) (w := w) (base := base) T
  refine okkx T.F_stretch sc_stretch (fun vs H Q E h => ?_) (fun cdv Ar outer s H vs Q E hr h => ?_)
  · rcases h with ⟨d, ⟨rfl, _⟩, _⟩ | ⟨d, ⟨rfl, _⟩, _⟩ <;> rfl
  · have hr_check_numbers : Room 3 _ := hr.mono (by decide)
    have hu : Around.units _ + 1 < cLine := hu_of hr
    refine ⟨_, (pss_cons (ps_expr (pe_call G_check_numbers hr_check_numbers (by rfl) T.g_check_numbers k_check_numbers b_check_numbers .nil pass0 (pa_cons (pv 0) pa_nil)))
      (pss_cons (ps_if (pt_cmpR op_eq (pe_callB (len_seqK K) (by rfl) T.z_len (by decide +kernel) (pa_cons (pv 0) pa_nil)) pe_int (nomark _)) (pss_one (L2N.ps_raise rfl (L2N.takes_of rfl rfl rfl rfl) (L2N.pmk_own PySem.F.excBase_ValueError T.ex_BadCount T.g_BadCount T.ke_BadCount (raises_own T.sb_BadCount T.ty_BadCount) (by rfl)))) pss_nil)
      (pss_cons (ps_set (i := 1) sc_stretch.nd rfl (.inl rfl) (pe_disp (pps_cons pe_int pe_int pps_nil) (by rfl) (by rfl) (fun z => by cases z) (by decide)))
      (pss_cons (ps_set (i := 2) sc_stretch.nd rfl (.inl rfl) pe_int)
      (pss_cons (ps_for (L2.passes_of rfl) rfl (pi_enum (by rfl) T.z_enumerate (pa_cons (pv 0) pa_nil)) (pg_tupK (n := 2) K rfl (pgs_cons (pg_name (i := 3) sc_stretch.nd rfl (Or.inl rfl)) (pgs_cons (pg_name (i := 4) sc_stretch.nd rfl (Or.inl rfl)) pgs_nil))) (pss_cons (ps_set (i := 2) sc_stretch.nd rfl (.inl rfl) (pe_op op_mod (pe_op op_add (pv 2) (pv 4)) (pe_callB (len_seqK K) (by rfl) T.z_len (by decide +kernel) (pa_cons (pv 0) pa_nil))))
      (pss_cons (ps_if (pt_cmp (pc_din hu (pv 2) (pv 1))) (pss_one (ps_ret (pe_tup (pa_cons (pe_dget hu (pv 1) (pv 2) (fun _ _ => rfl)) (pa_cons (pv 3) pa_nil))))) pss_nil)
      (pss_one (ps_dput hu (pv 1) (pv 2) (pe_op op_add (pv 3) pe_int) rfl)))))
      (pss_one (ps_ret (pe_tup (pa_cons pe_int (pa_cons (pe_op op_sub (pe_callB (len_seqK K) (by rfl) T.z_len (by decide +kernel) (pa_cons (pv 0) pa_nil)) pe_int) pa_nil)))))))))), ?_⟩
    have main : ∃ (a : Addr) (ns : List Int), vs = [.ref a] ∧ H a = some (.lst (iv ns)) ∧ NumsAt (.ref a) ns H ∧ (ns ≠ [] → ∀ v H', Ex H H' → (∃ t i j, v = .ref t ∧ H' t = some (.tup [.int i, .int j]) ∧ StrOk ns i j) → Q v H') ∧ (ns = [] → ∀ H', Ex H H' → E (.ref A.c_BadCount) none H') := by
      rcases h with ⟨⟨v, ns⟩, ⟨h1, h2, h3⟩, k⟩ | ⟨v, ⟨h1, h2⟩, k⟩
      · obtain ⟨a, rfl, ha⟩ := h2.1
        exact ⟨a, ns, h1, ha, h2, fun _ v H' e p => k v H' e p, fun z => absurd z h3⟩
      · obtain ⟨a, rfl, ha⟩ := h2.1
        exact ⟨a, [], h1, ha, h2, fun z => absurd rfl z, fun _ H' e => k H' e⟩
    clear h
    obtain ⟨a, ns, rfl, ha, hN, kOk, kNo⟩ := main
    have hl := hN.2.1
    have hil : ((iv ns).length : Int) = (ns.length : Int) := by rw [iv_len]
    refine q_drop (ev_call0 (z := .non) (.ref a, ns) (ea_cons (ev_var rfl) ea_nil) (fun H1 e => ⟨rfl, ⟨a, rfl, e _ _ ha⟩, by show ns.length ≤ 10000; omega, hN.2.2⟩) fun _ _ _ p => p) fun H1 e1 => ?_
    refine q_when (et_test (ev_op (ev_lenL (ev_var rfl) (sq_of (e1 _ _ ha))) ev_c rv_eqI)) (fun hb H2 e2 => ?_) fun hb H2 e2 => ?_
    · have hz : ns = [] := List.eq_nil_of_length_eq_zero (by have := of_decide_eq_true hb; omega)
      exact kNo hz _ (e1.trans e2)
    · have hz : ns ≠ [] := fun z => by
        have := of_decide_eq_false hb
        rw [z] at this
        exact this rfl
      have h0 : 0 < ns.length := List.length_pos_iff.mpr hz
      refine q_asgR (er_disp1 (R := fun v _ => v = .int 0) ev_c (evr ev_c)) fun v3 H3 e3 ⟨q, v, H3', hv3, hqn, e3', hq0, hv, hH3⟩ => ?_
      subst hv3 hv hH3
      refine q_asg (v := .int 0) ev_c fun H4 e4 => ?_
      have e13 : Ex H H3' := e1.trans (e2.trans e3')
      have hqH : H q = none := fresh_back (e1.trans e2) hqn
      have hq4 := e4 _ _ (upd_same (H := H3') (a := q) (o := .dK (dI [((0 : Int), V.int 0)])))
      have r0 : res ns 0 = 0 := by
        unfold res
        rw [List.take_zero]
        exact Int.zero_emod _
      refine seq_i (s_forEq (xs := iv ns) (a := a) (ea_cons (ev_var rfl) ea_nil) (sq_of ((Ex.mut e13 hqH).trans e4 _ _ ha)) (fun i σ' H' => ∃ s3 s4 : Option V, σ' = [some (.ref a), some (.ref q), some (.int (res ns i)), s3, s4] ∧ Ex H H' ∧ H' q = some (.dK (dI (seenE ns i))) ∧ ((seenE ns i).map (·.1)).Nodup) (fun H5 e5 => ⟨_, _, by rw [r0]; rfl, (Ex.mut e13 hqH).trans (e4.trans e5), ?_, ?_⟩) (fun i σ' H' ⟨_, _, _, e, _⟩ => sq_of (e _ _ ha)) (fun i σ' H' T o ⟨s3, s4, h1, e, h2, h3⟩ hT => ⟨s3, s4, h1, e.trans (Ex.new hT), by rw [upd_ne (ne_of_none h2 hT)]; exact h2, h3⟩) (fun i x σ' H' hx hP => ?_) fun σ' H' hP => ?_)
      · have := e5 _ _ hq4
        unfold seenE
        rw [show (List.range (0 + 1)).map (fun k => (res ns k, V.int (k : Int))) = [(0, V.int 0)] by
          show [(res ns 0, V.int ((0 : Nat) : Int))] = _
          rw [r0]
          rfl]
        exact this
      · rw [seen_keys]
        exact List.nodup_cons.mpr ⟨List.not_mem_nil, List.nodup_nil⟩
      · obtain ⟨s3, s4, rfl, e5, hq5, hnd⟩ := hP
        obtain ⟨hi, rfl⟩ := iv_get hx
        have ha5 := e5 _ _ ha
        refine q_asg (v := .int (res ns (i + 1))) (ev_is (ev_op (ev_op (ev_var rfl) (ev_var rfl) rv_I0) (ev_lenL (ev_var rfl) (sq_of ha5)) (rv_I (by rw [iv_len]; omega))) ?_) fun H6 e6 => ?_
        · rw [iv_len, res_succ hi]
        refine q_when (et_test (ev_din (es := seenE ns i) (x := res ns (i + 1)) (ev_var rfl) (ev_var rfl) (e6 _ _ hq5))) (fun hb H7 e7 => ?_) fun hb H7 e7 => ?_
        · have hm := of_decide_eq_true hb
          refine s_retR (er_tup (T := fun vs _ => ∃ k : Nat, k ≤ i ∧ res ns k = res ns (i + 1) ∧ vs = [.int (k : Int), .int (i : Int)]) (ear_cons (er_dget (es := seenE ns i) (x := res ns (i + 1)) (ev_var rfl) (ev_var rfl) ((e6.trans e7) _ _ hq5) hm) fun x H8 e8 hx8 => (ear_one (evr (v := .int (i : Int)) (ev_var rfl))).imp fun vs H9 _ ⟨y, hvs, hy⟩ => ?_) (fun vs H8 ⟨k, _, _, h⟩ => by rw [h]; show 2 ≤ 100000; decide)) fun v8 H8 e8 ⟨t, vs, H9, hv8, _, _, ⟨k, hk, hr, hvs⟩, ht⟩ => ?_
          · obtain ⟨k, hk, hv, hr⟩ := seen_mem hx8
            exact ⟨k, hk, hr.symm, by rw [hvs, hv, hy]⟩
          · subst hvs
            exact kOk hz _ _ (e5.trans (e6.trans (e7.trans e8))) ⟨t, _, _, hv8, ht, str_of hk hi hr⟩
        · have hm := of_decide_eq_false hb
          refine s_dput (es := seenE ns i) (x := res ns (i + 1)) (R := fun v _ => v = .int ((i + 1 : Nat) : Int)) (ev_var rfl) (ev_var rfl) (evr (ev_is (ev_op (ev_var rfl) ev_c rv_I0) ?_)) ((e6.trans e7) _ _ hq5) hm (by unfold seenE; rw [List.length_map, List.length_range]; omega) fun v H8 H9 e8 hv e9 => ?_
          · rw [Int.natCast_add]
            rfl
          · subst hv
            have eS : seenE ns i ++ [(res ns (i + 1), V.int ((i + 1 : Nat) : Int))] = seenE ns (i + 1) := by
              unfold seenE
              rw [List.range_succ (n := i + 1), List.map_append]
              rfl
            refine ⟨_, _, rfl, Ex.mut (e5.trans (e6.trans (e7.trans (e8.trans e9)))) hqH, by rw [eS]; exact upd_same, ?_⟩
            rw [← eS, List.map_append, List.nodup_append]
            refine ⟨hnd, List.nodup_cons.mpr ⟨List.not_mem_nil, List.nodup_nil⟩, fun x hx y hy e => hm ?_⟩
            rw [List.map_singleton, List.mem_singleton] at hy
            have e' : x = res ns (i + 1) := e.trans hy
            rw [← e']
            exact hx
      · obtain ⟨s3, s4, rfl, e5, hq5, hnd⟩ := hP
        exfalso
        rw [seen_keys] at hnd
        have := pig (n := ns.length) hnd fun x hx => by
          obtain ⟨k, _, rfl⟩ := List.mem_map.mp hx
          exact res_range hz k
        rw [List.length_map, List.length_range, iv_len] at this
        omega
end
/-! ### least_prime -/
def sp_least_prime (_ : PySem.W.Frag) : Sp := spX (fun (d : Int) vs _ => vs = [.int d] ∧ 2 ≤ d ∧ d ≤ 1000) (fun d _ v _ => ∃ p, v = .int p ∧ Pr p ∧ p ∣ d)
section
variable {P : Program} {w : World} {K : PySem.W.Frag} {mg : Str → Option Value} {base : Heap} {A : Ad}
theorem ok_least_prime (T : Txt K mg A) : Okk P w K mg base 1 A.a_least_prime ["number"] (sp_least_prime K) := by
  refine okk T.F_least_prime sc_least_prime (fun vs H Q E h => ?_) (fun cdv Ar outer s H vs Q E hr h => ?_)
  · obtain ⟨d, ⟨rfl, _⟩, _⟩ := h
    rfl
  · obtain ⟨n, ⟨rfl, h2, h3⟩, k⟩ := h
    refine ⟨_, (pss_cons (ps_set (i := 1) sc_least_prime.nd rfl (.inl rfl) pe_int)
      (pss_cons (ps_while PassesOwn.never (pt_cmpR op_le (pe_op op_mul (pv 1) (pv 1)) (pv 0) (nomark _)) (pss_cons (ps_if (pt_cmpR op_eq (pe_op op_mod (pv 0) (pv 1)) pe_int (nomark _)) (pss_one (ps_ret (pv 1))) pss_nil)
      (pss_one (ps_aug (i := 1) sc_least_prime.nd rfl (.inl rfl) pe_int ip_add))))
      (pss_one (ps_ret (pv 0))))), ?_⟩
    refine q_asg (v := .int 2) ev_c fun H1 e1 => ?_
    refine q_while (fun m σ H' => ∃ a : Int, m = (n + 1 - a).toNat ∧ σ = [some (.int n), some (.int a)] ∧ Ex H H' ∧ LP n a ∧ a ≤ n) (n + 1 - 2).toNat ⟨2, rfl, rfl, e1, LP.start n, h2⟩ ?_
    rintro m σ H3 ⟨a, rfl, rfl, e3, hL, ha⟩
    have a2 := hL.1
    refine ⟨decide (a * a ≤ n), et_test (ev_op (ev_op (ev_var rfl) (ev_var rfl) (rv_I (.inl (by omega)))) (ev_var rfl) rv_I0), fun hb H4 e4 => ?_, fun hb H4 e4 => ?_⟩
    · have hb := of_decide_eq_true hb
      have hle : a * 2 ≤ a * a := Int.mul_le_mul_of_nonneg_left a2 (by omega)
      refine ⟨_, fun _ _ n => n, ?_⟩
      refine q_when (et_test (ev_op (ev_op (ev_var rfl) (ev_var rfl) (rv_I (by omega))) ev_c rv_eqI)) (fun hd H5 e5 => ?_) fun hd H5 e5 => ?_
      · have hdv : a ∣ n := Int.dvd_of_emod_eq_zero (of_decide_eq_true hd)
        exact s_ret (ev_var rfl) fun H6 e6 => k _ _ (e3.trans (e4.trans (e5.trans e6))) ⟨a, rfl, hL.hit hdv, hdv⟩
      · have hdv : ¬ a ∣ n := fun z => of_decide_eq_false hd (Int.emod_eq_zero_of_dvd z)
        exact s_aug rfl ev_c fun H6 e6 => ⟨(n + 1 - (a + 1)).toNat, by omega, a + 1, rfl, rfl, e3.trans (e4.trans (e5.trans e6)), hL.next hdv, by omega⟩
    · have hb := of_decide_eq_false hb
      exact s_ret (ev_var rfl) fun H5 e5 => k _ _ (e3.trans (e4.trans e5)) ⟨n, rfl, hL.done h2 (by omega), Int.dvd_refl n⟩
end
/-! ### by_prime -/
theorem RsL.dropN {H : Hp} : ∀ (n : Nat) {xs : List V} {rs : Ps}, RsL H xs rs → RsL H (xs.drop n) (rs.drop n)
  | 0, _, _, h => h
  | _ + 1, [], [], _ => trivial
  | n + 1, _ :: _, _ :: _, h => RsL.dropN n h.2
  | _ + 1, [], _ :: _, h => h.elim
  | _ + 1, _ :: _, [], h => h.elim
theorem RsL.takeN {H : Hp} : ∀ (n : Nat) {xs : List V} {rs : Ps}, RsL H xs rs → RsL H (xs.take n) (rs.take n)
  | 0, _, _, _ => trivial
  | _ + 1, [], [], _ => trivial
  | n + 1, _ :: _, _ :: _, h => ⟨h.1, RsL.takeN n h.2⟩
  | _ + 1, [], _ :: _, h => h.elim
  | _ + 1, _ :: _, [], h => h.elim
theorem cut_nat (xs : List V) {i j : Nat} (hij : i ≤ j) (hj : j ≤ xs.length) : cutV xs (some (i : Int)) (some (j : Int)) = (xs.drop i).take (j - i) := by
  unfold cutV
  rw [HT.sIx_nat, HT.sIx_nat, Nat.min_eq_left hj, Nat.min_eq_left (Nat.le_trans hij hj)]
def kf (H : Hp) : V → Int × Int
  | .ref t => match H t with
    | some (.tup [.int i, .int j]) => (i, j)
    | _ => (0, 0)
  | _ => (0, 0)
theorem kf_at {H : Hp} {x : V} {p : Int × Int} (h : PairAt H x p) : kf H x = p := by
  obtain ⟨t, rfl, ht⟩ := h
  show (match H t with | some (.tup [.int i, .int j]) => (i, j) | _ => (0, 0)) = p
  rw [ht]
theorem rsl_kf {H : Hp} : ∀ {xs : List V} {rs : Ps}, RsL H xs rs → rs = xs.map (kf H) ∧ ∀ x ∈ xs, PairAt H x (kf H x)
  | [], [], _ => ⟨rfl, fun _ h => nomatch h⟩
  | x :: xs, p :: rs, h => by
    obtain ⟨h1, h2⟩ := rsl_kf h.2
    have e := kf_at h.1
    refine ⟨by rw [List.map_cons, e, ← h1], fun y hy => ?_⟩
    rcases List.mem_cons.mp hy with z | hy
    · rw [z, e]
      exact h.1
    · exact h2 y hy
  | [], _ :: _, h => h.elim
  | _ :: _, [], h => h.elim
theorem rsl_all {H : Hp} {f : V → Int × Int} : ∀ {ys : List V}, (∀ y ∈ ys, PairAt H y (f y)) → RsL H ys (ys.map f)
  | [], _ => trivial
  | y :: ys, h => ⟨h y List.mem_cons_self, rsl_all fun z hz => h z (List.mem_cons_of_mem _ hz)⟩
abbrev rSortedDI : List V → Hp → VK → Prop := fun xs H Q => ∃ (a : Addr) (kvs : List (Key × V)) (ks : List Int), xs = [.ref a] ∧ Rd H a (.dK kvs) ∧ kvs.map (·.1) = ks.map Sum.inl ∧ ks.length < 64 ∧
    ∀ (ys : List Int) (p : Addr), ys.Perm ks → ys.Pairwise (· ≤ ·) → H p = none → Q (.ref p) (upd H p (.lst (ys.map V.int)))
section
variable {K : PySem.W.Frag} {σ : L2.St} {H : Hp} {te : TE} {a : Addr} {rs : Ps} {es : List (Int × V)}
theorem er_sortedP (h : EvR te σ H (fun v H1 => RsAt H1 v rs)) : EvR (tCB (rSortedPO K) (tCons te tNil)) σ H (fun v H1 => ∃ p ys rs', v = .ref p ∧ H p = none ∧ H1 p = some (.lst ys) ∧ RsL H1 ys rs' ∧ rs'.Perm rs ∧ rs'.Pairwise fun a b => a.1 ≤ b.1) := fun H1 e Q q =>
  h H1 e _ fun v H2 e2 ⟨a, xs, hv, ha, hr⟩ => by
    obtain ⟨h1, h2⟩ := rsl_kf hr
    refine ⟨a, xs, kf H2, by rw [hv], sq_of ha, fun x hx => ?_, fun ys p hs hb hp => ?_⟩
    · obtain ⟨t, e, ht⟩ := h2 x hx
      exact ⟨t, e, ht⟩
    · have hy : ∀ y ∈ ys, PairAt H2 y (kf H2 y) := fun y hy => h2 y (hb.perm.mem_iff.mp hy)
      refine q _ _ (e2.trans (Ex.new hp)) ⟨p, ys, ys.map (kf H2), rfl, fresh_back (e.trans e2) hp, upd_same, (rsl_all hy).up (Ex.new hp), by rw [h1]; exact hb.perm.map _, ?_⟩
      refine List.pairwise_map.mpr (hs.imp fun {x y} hxy => ?_)
      have := SrtO.lexB_no.mp hxy
      omega
theorem er_sortedD (h : Ev te σ H (.ref a)) (ha : H a = some (.dK (dI es))) (hl : es.length < 64) : EvR (tCB rSortedDI (tCons te tNil)) σ H (fun v H1 => ∃ p ys, v = .ref p ∧ H p = none ∧ H1 p = some (.lst (iv ys)) ∧ ys.Perm (es.map (·.1))) := fun H1 e Q q =>
  h H1 e _ fun H2 e2 => ⟨a, dI es, es.map (·.1), rfl, .inl ((e.trans e2) _ _ ha), by unfold dI; rw [List.map_map, List.map_map]; rfl, by rw [List.length_map]; exact hl, fun ys p hp _ hn => q _ _ (e2.trans (Ex.new hn)) ⟨p, ys, rfl, fresh_back (e.trans e2) hn, upd_same, hp⟩⟩
end
structure WInv (B : Hp) (rs : Ps) (p i : Nat) (es : List (Int × V)) (H : Hp) : Prop where
  nd : (es.map (·.1)).Nodup
  rg : ∀ x ∈ es.map (·.1), 0 ≤ x ∧ x < (p : Int)
  val : ∀ e ∈ es, ∃ a ns, e.2 = .ref a ∧ B a = none ∧ H a = some (.lst (iv ns)) ∧ Way rs p i e.1 ns
theorem WInv.up {B : Hp} {rs : Ps} {p i : Nat} {es : List (Int × V)} {H H' : Hp} (e : Ex H H') (h : WInv B rs p i es H) : WInv B rs p i es H' := ⟨h.nd, h.rg, fun x hx => by
  obtain ⟨a, ns, h1, h0, h2, h3⟩ := h.val x hx
  exact ⟨a, ns, h1, h0, e _ _ h2, h3⟩⟩
theorem WInv.mut {B : Hp} {rs : Ps} {p i : Nat} {es : List (Int × V)} {H : Hp} {g : Addr} {kvs : List (Key × V)} {o : HO} (hg : H g = some (.dK kvs)) (h : WInv B rs p i es H) : WInv B rs p i es (upd H g o) := ⟨h.nd, h.rg, fun x hx => by
  obtain ⟨a, ns, h1, h0, h2, h3⟩ := h.val x hx
  exact ⟨a, ns, h1, h0, by rw [upd_ne (ne_of h2 hg (by intro z; cases z))]; exact h2, h3⟩⟩
theorem WInv.len {B : Hp} {rs : Ps} {p i : Nat} {es : List (Int × V)} {H : Hp} (h : WInv B rs p i es H) : es.length ≤ p := by
  have := pig h.nd h.rg
  rwa [List.length_map] at this
theorem WInv.put {B : Hp} {rs : Ps} {p i : Nat} {es : List (Int × V)} {H : Hp} {x : Int} {c : Addr} {ns : List Int} (h : WInv B rs p i es H) (hx : x ∉ es.map (·.1)) (h0 : 0 ≤ x ∧ x < (p : Int)) (hcB : B c = none) (hc : H c = some (.lst (iv ns))) (hw : Way rs p i x ns) : WInv B rs p i (es ++ [(x, .ref c)]) H := by
  refine ⟨?_, fun y hy => ?_, fun e he => ?_⟩
  · rw [List.map_append, List.nodup_append]
    refine ⟨h.nd, List.nodup_cons.mpr ⟨List.not_mem_nil, List.nodup_nil⟩, fun a ha b hb e => hx ?_⟩
    have hb : b = x := List.mem_singleton.mp hb
    rw [← hb, ← e]
    exact ha
  · rw [List.map_append] at hy
    rcases List.mem_append.mp hy with hy | hy
    · exact h.rg y hy
    · have hy : y = x := List.mem_singleton.mp hy
      rw [hy]
      exact h0
  · rcases List.mem_append.mp he with he | he
    · exact h.val e he
    · rw [List.mem_singleton.mp he]
      exact ⟨c, ns, rfl, hcB, hc, hw⟩
def sp_by_prime (_ : PySem.W.Frag) : Sp := spX (fun (d : V × Ps × Nat) vs H => vs = [d.1, .int (d.2.2 : Int)] ∧ RsAt H d.1 d.2.1 ∧ d.2.1.length = 2 * d.2.2 - 1 ∧ (d.2.1.map (·.2)).Nodup ∧ Pr (d.2.2 : Int) ∧ d.2.2 ≤ 32) (fun d H v H' => ∃ ns, NewL (iv ns) H v H' ∧ Pick d.2.1 d.2.2 ns)
section
variable {P : Program} {w : World} {K : PySem.W.Frag} {mg : Str → Option Value} {base : Heap} {A : Ad}
theorem ok_by_prime (T : Txt K mg A) : Okk P w K mg base 1 A.a_by_prime ["things", "prime"] (sp_by_prime K) := by
  refine okk T.F_by_prime sc_by_prime (fun vs H Q E h => ?_) (fun cdv Ar outer s H vs Q E hr h => ?_)
  · obtain ⟨d, ⟨rfl, _⟩, _⟩ := h
    rfl
  · obtain ⟨⟨v0, ts, p⟩, ⟨rfl, ⟨a, xs, rfl, ha, hR⟩, hlen, hnd, hpr, hp32⟩, k⟩ := h
    dsimp only at ha hR hlen hnd hpr hp32 k
    have hu : Around.units _ + 1 < cLine := hu_of hr
    have hp2 : 2 ≤ p := by have := hpr.1; omega
    refine ⟨_, (pss_cons (ps_set (i := 2) sc_by_prime.nd rfl (.inl rfl) (pe_callB (sortedPOK K) (by rfl) T.z_sorted (by decide +kernel) (pa_cons (pe_lc (own := [("number", 11), ("name", 12)]) rfl sc_by_prime.nd (pi_listK K (pv 0)) (blkOk_by (N := ["things", "prime", "order", "ways", "k", "low", "high", "rest", "grown", "more", "now", "number", "name"]) (sc := defScope s_by_prime) (by decide +kernel)) (fun _ _ _ _ _ => (pg_tupK (n := 2) K rfl (pgs_cons (pg_name (i := 11) sc_by_prime.nd rfl (Or.inl rfl)) (pgs_cons (pg_name (i := 12) sc_by_prime.nd rfl (Or.inl rfl)) pgs_nil)))) (fun _ _ _ _ _ => pts_nil) (fun _ _ _ _ _ => (pe_tup (pa_cons (pe_op op_mod (pv 11) (pv 1)) (pa_cons (pv 12) pa_nil))))) pa_nil)))
      (pss_cons (ps_set (i := 3) sc_by_prime.nd rfl (.inl rfl) (pe_disp (pps_cons (pe_ix (ix_tupK K) (pe_ix (ix_listK K) (pv 2) (pe_un un_neg pe_int) (fun _ _ => rfl)) pe_int (fun _ _ => rfl)) (pe_lst (pa_cons (pe_ix (ix_tupK K) (pe_ix (ix_listK K) (pv 2) (pe_un un_neg pe_int) (fun _ _ => rfl)) pe_int (fun _ _ => rfl)) pa_nil)) pps_nil) (by rfl) (by rfl) (fun z => by cases z) (by decide)))
      (pss_cons (ps_for PassesOwn.never rfl (pi_range1 (by rfl) T.z_range (pa_cons (pe_op op_sub (pv 1) pe_int) pa_nil)) (pg_name (i := 4) sc_by_prime.nd rfl (Or.inl rfl)) (pss_cons (ps_par (i := 5) (j := 6) rfl sc_by_prime.nd rfl rfl (by decide) rfl rfl (pa_cons (pe_ix (ix_listK K) (pv 2) (pv 4) (fun _ _ => rfl)) (pa_cons (pe_ix (ix_listK K) (pv 2) (pe_op op_sub (pe_op op_add (pv 4) (pv 1)) pe_int) (fun _ _ => rfl)) pa_nil)) (by rfl))
      (pss_cons (ps_if (pt_cmpR op_eq (pe_ix (ix_tupK K) (pv 5) pe_int (fun _ _ => rfl)) (pe_ix (ix_tupK K) (pv 6) pe_int (fun _ _ => rfl)) (nomark _)) (pss_one (ps_ret (pe_lc (own := [("rest", 7), ("name", 12)]) rfl sc_by_prime.nd (pi_listK K (pe_slice (sl_listK K) (pv 2) (po_some (pv 4)) (po_some (pe_op op_add (pv 4) (pv 1))))) (blkOk_by (N := ["things", "prime", "order", "ways", "k", "low", "high", "rest", "grown", "more", "now", "number", "name"]) (sc := defScope s_by_prime) (by decide +kernel)) (fun _ _ _ _ _ => (pg_tupK (n := 2) K rfl (pgs_cons (pg_name (i := 7) sc_by_prime.nd rfl (Or.inl rfl)) (pgs_cons (pg_name (i := 12) sc_by_prime.nd rfl (Or.inl rfl)) pgs_nil)))) (fun _ _ _ _ _ => pts_nil) (fun _ _ _ _ _ => (pv 12))))) pss_nil)
      (pss_cons (ps_set (i := 8) sc_by_prime.nd rfl (.inl rfl) pe_dnewK)
      (pss_cons (ps_for PassesOwn.never rfl (pi_listK K (pe_callB (call_sortedDI rfl) (by rfl) T.z_sorted (by decide +kernel) (pa_cons (pv 3) pa_nil))) (pg_name (i := 7) sc_by_prime.nd rfl (Or.inl rfl)) (pss_one (ps_for PassesOwn.never rfl (pi_listK K (pe_lst (pa_cons (pv 5) (pa_cons (pv 6) pa_nil)))) (pg_name (i := 9) sc_by_prime.nd rfl (Or.inl rfl)) (pss_cons (ps_set (i := 10) sc_by_prime.nd rfl (.inl rfl) (pe_op op_mod (pe_op op_add (pv 7) (pe_ix (ix_tupK K) (pv 9) pe_int (fun _ _ => rfl))) (pv 1)))
      (pss_one (ps_if (pt_cmp (pc_dnotin hu (pv 10) (pv 8))) (pss_one (ps_dput hu (pv 8) (pv 10) (pe_op op_cat (pe_dget hu (pv 3) (pv 7) (fun _ _ => rfl)) (pe_lst (pa_cons (pe_ix (ix_tupK K) (pv 9) pe_int (fun _ _ => rfl)) pa_nil))) rfl)) pss_nil))))))
      (pss_one (ps_set (i := 3) sc_by_prime.nd rfl (.inl rfl) (pv 8))))))))
      (pss_one (ps_ret (pe_dget hu (pv 3) pe_int (fun _ _ => rfl))))))), ?_⟩
    -- order
    refine q_asgR (er_sortedP (rs := ts.map fun e => (e.1 % (p : Int), e.2)) ((er_lcRs (fun j y H => ∃ t, y = .ref t ∧ H t = some (.tup [.int ((ts.getD j (0, 1)).1 % (p : Int)), .int (ts.getD j (0, 1)).2])) (stb_tup (v := fun j => [.int ((ts.getD j (0, 1)).1 % (p : Int)), .int (ts.getD j (0, 1)).2])) (ev_var rfl) ha hR (by omega) (fun _ _ => rfl) fun i hi => (eur (eu_tup (vs := [.int ((ts.getD i (0, 1)).1 % (p : Int)), .int (ts.getD i (0, 1)).2]) (ea_cons (ev_op (y := .int (p : Int)) (ev_var rfl) (ev_var rfl) (rv_I (by show (0 : Int) < (p : Int); omega))) (ea_cons (ev_var rfl) ea_nil)) (by show 2 ≤ 100000; decide))).imp fun v H1 _ ⟨t, hv, _, ht⟩ => ⟨t, hv, ht⟩).imp fun v H1 _ ⟨D, ys, hv, _, hD, hyl, hy⟩ => ⟨D, ys, hv, hD, rsl_of (by rw [List.length_map]; exact hyl) fun i y hiy => ?_⟩)) fun v1 H1 e1 ⟨po, ys, rs, hv1, _, hpo, hRs, hperm, hsort⟩ => ?_
    · obtain ⟨t, hyt, ht⟩ := hy i y hiy
      refine ⟨t, hyt, ?_⟩
      have hi : i < ts.length := by
        have := (List.getElem?_eq_some_iff.mp hiy).1
        omega
      have e : (ts.map fun e => (e.1 % (p : Int), e.2)).getD i (0, 1) = ((ts.getD i (0, 1)).1 % (p : Int), (ts.getD i (0, 1)).2) := by
        rw [List.getD_eq_getElem?_getD, List.getD_eq_getElem?_getD, List.getElem?_map, List.getElem?_eq_getElem hi]
        rfl
      rw [e]
      exact ht
    subst hv1
    have hrl : rs.length = 2 * p - 1 := by rw [hperm.length_eq, List.length_map, hlen]
    have hyl : ys.length = 2 * p - 1 := by rw [hRs.len, hrl]
    have hrn : (rs.map (·.2)).Nodup := by
      rw [(hperm.map (·.2)).nodup_iff, List.map_map]
      exact hnd
    have hrr : ∀ i, i < rs.length → 0 ≤ (gp rs i).1 ∧ (gp rs i).1 < (p : Int) := fun i hi => by
      obtain ⟨e, _, he⟩ := List.mem_map.mp (hperm.mem_iff.mp (gp_mem hi))
      rw [← he]
      exact ⟨Int.emod_nonneg _ (by omega), Int.emod_lt_of_pos _ (by omega)⟩
    have fin : ∀ {ns : List Int}, Pick rs p ns → Pick ts p ns := fun h => h.of_mod fun e he => hperm.mem_iff.mp he
    have rowAt : ∀ {i : Nat} {H' : Hp}, Ex H1 H' → i < rs.length → ∃ t, ys[i]? = some (.ref t) ∧ H' t = some (.tup [.int (gp rs i).1, .int (gp rs i).2]) := fun {i H'} e hi => by
      obtain ⟨t, h1, h2⟩ := (hRs.up e).at hi
      rw [gp_eq hi] at h2
      exact ⟨t, h1, h2⟩
    -- ways
    have hlast : 2 * p - 2 < rs.length := by omega
    obtain ⟨tl, htl, htl2⟩ := rowAt (Ex.refl H1) hlast
    have evl : ∀ {H' : Hp}, Ex H1 H' → ∀ {σ : L2.St} {te : TE}, Ev te σ H' (.ref po) → Ev (tOp (rIxL K) te (tUn (rU fun i => .int (-i)) (tC (.int 1)))) σ H' (.ref tl) := fun {H'} e {σ te} h => ev_op h (ev_un ev_c ru_neg) (rv_ixL (sq_of (e _ _ hpo)) (by
      have hy0 : ys ≠ [] := fun z => by
        rw [z] at hyl
        simp at hyl
        omega
      have := atI_last ys.dropLast (ys.getLast hy0)
      rw [List.dropLast_concat_getLast hy0] at this
      have hg : ys.getLast hy0 = .ref tl := by
        rw [List.getLast_eq_getElem]
        have h2 := (List.getElem?_eq_some_iff.mp htl).2
        rw [← h2]
        congr 1
        omega
      rw [hg] at this
      exact this))
    refine q_asgR (er_disp1 (R := NewL (iv [(gp rs (2 * p - 2)).2]) H1) (ev_p0 (evl (Ex.refl H1) (ev_var rfl)) htl2) (er_new (xs := iv [(gp rs (2 * p - 2)).2]) (ea_cons (ev_p1 (evl (Ex.refl H1) (ev_var rfl)) htl2) ea_nil) (by show 1 ≤ 100000; decide))) fun v2 H2 e2 ⟨q, v, H2', hv2, hqn, e2', hq0, ⟨c, hvc, hcn, hc⟩, hH2⟩ => ?_
    subst hv2 hvc
    have hcq : c ≠ q := ne_of hc hq0 (by intro z; cases z)
    have e02 : Ex H H2 := e1.trans e2
    have hq2 : H2 q = some (.dK (dI [((gp rs (2 * p - 2)).1, V.ref c)])) := by rw [hH2]; exact upd_same
    have hc2 : H2 c = some (.lst (iv [(gp rs (2 * p - 2)).2])) := by rw [hH2, upd_ne hcq]; exact hc
    refine q_forR1 (n := (p : Int) - 1) (ea_cons (ev_op (ev_var rfl) ev_c rv_I0) ea_nil) (by omega) (fun i σ' H' => ∃ (s4 s5 s6 s7 s8 s9 s10 : Option V) (q : Addr) (es : List (Int × V)), σ' = [some (.ref a), some (.int (p : Int)), some (.ref po), some (.ref q), s4, s5, s6, s7, s8, s9, s10, none, none] ∧ Ex H2 H' ∧ H' q = some (.dK (dI es)) ∧ WInv H rs p i es H' ∧ i + 1 ≤ es.length) (fun H3 e3 => ?_) (fun i σ' H' hi hP => ?_) fun σ' H' hP => ?_
    · refine ⟨_, _, _, _, _, _, _, q, _, rfl, e3, e3 _ _ hq2, WInv.up e3 ⟨List.nodup_cons.mpr ⟨List.not_mem_nil, List.nodup_nil⟩, fun x hx => ?_, fun e he => ?_⟩, Nat.le_refl _⟩
      · have hx : x = (gp rs (2 * p - 2)).1 := List.mem_singleton.mp hx
        rw [hx]
        exact hrr _ hlast
      · rw [List.mem_singleton.mp he]
        exact ⟨c, _, rfl, fresh_back e1 hcn, hc2, way0⟩
    · obtain ⟨s4, s5, s6, s7, s8, s9, s10, q, es, rfl, e3, hq, hW, hcount⟩ := hP
      have hip : i < p - 1 := by omega
      have e13 := e2.trans e3
      obtain ⟨t1, ht1, ht1'⟩ := rowAt e13 (i := i) (by omega)
      obtain ⟨t2, ht2, ht2'⟩ := rowAt e13 (i := i + p - 1) (by omega)
      refine q_par (vs := [.ref t1, .ref t2]) (ea_cons (ev_op (ev_var rfl) (ev_var rfl) (rv_ixL (sq_of (e13 _ _ hpo)) (atI_nat ht1))) (ea_cons (ev_op (ev_var rfl) (ev_op (ev_op (ev_var rfl) (ev_var rfl) rv_I0) ev_c rv_I0) (rv_ixL (sq_of (e13 _ _ hpo)) ?_)) ea_nil)) rfl fun H4 e4 => ?_
      · rw [show (i : Int) + (p : Int) - 1 = ((i + p - 1 : Nat) : Int) by omega]
        exact atI_nat ht2
      refine q_when (et_test (ev_op (ev_p0 (ev_var rfl) (e4 _ _ ht1')) (ev_p0 (ev_var rfl) (e4 _ _ ht2')) rv_eqI)) (fun hb H5 e5 => ?_) fun hb H5 e5 => ?_
      · have hb := of_decide_eq_true hb
        have hpo5 := (e13.trans (e4.trans e5)) _ _ hpo
        have hRs5 := hRs.up (e13.trans (e4.trans e5))
        have hcut : cutV ys (some (i : Int)) (some ((i : Int) + (p : Int))) = (ys.drop i).take p := by
          rw [show (i : Int) + (p : Int) = ((i + p : Nat) : Int) by omega, cut_nat ys (by omega) (by omega)]
          congr 1
          omega
        refine s_retR (er_lcB (R := fun v H6 => NewL (iv (((rs.drop i).take p).map (·.2))) H5 v H6) (er_sl (ev_var rfl) (eo_some (ev_var rfl)) (eo_some (ev_op (ev_var rfl) (ev_var rfl) rv_I0)) (sq_of hpo5)) fun v H6 e6 ⟨d, hv, _, hd⟩ => ?_) fun v6 H6 e6 ⟨dd, hv6, hdn, hdd⟩ => k _ _ (e02.trans (e3.trans (e4.trans (e5.trans e6)))) ⟨_, ⟨dd, hv6, fresh_back (e02.trans (e3.trans (e4.trans e5))) hdn, hdd⟩, fin (same_pick (by omega) hrl hrn hsort hip hb)⟩
        subst hv
        rw [hcut] at hd
        refine (er_lcRsV (fun e => V.int e.2) ev_c hd ((hRs5.up e6).dropN i |>.takeN p) (by rw [List.length_take, List.length_drop]; omega) (fun _ _ => rfl) fun e he => ev_var rfl).imp fun v H7 _ ⟨d, hv, hdn, hd⟩ => ⟨d, hv, fresh_back e6 hdn, ?_⟩
        rw [iv_map]
        exact hd
      · have hb : (gp rs i).1 ≠ (gp rs (i + p - 1)).1 := of_decide_eq_false hb
        refine q_asgR (R := fun v H6 => ∃ g, v = .ref g ∧ H5 g = none ∧ H6 g = some (.dK (dI [])) ∧ ∀ b o, b ≠ g → H5 b = some o → H6 b = some o) (fun H6 e6 Q' q' g hg => q' _ _ (Ex.new hg) ⟨g, rfl, fresh_back e6 hg, upd_same, fun b o hb hbo => by rw [upd_ne hb]; exact e6 _ _ hbo⟩) fun v6 H6 e6 ⟨g, hv6, hgn, hg, _⟩ => ?_
        subst hv6
        have e36 : Ex H' H6 := e4.trans (e5.trans e6)
        have hq6 := e36 _ _ hq
        have hW6 := hW.up e36
        have hgH2 : H2 g = none := fresh_back (e3.trans (e4.trans e5)) hgn
        have hel := hW.len
        have ht16 := e36 _ _ ht1'
        have ht26 := e36 _ _ ht2'
        have hgq : q ≠ g := ne_of_none ((e4.trans e5) _ _ hq) hgn
        -- what holds of grown: base B, all but g
        refine q_forLU (er_sortedD (es := es) (ev_var rfl) hq6 (by omega)) fun v7 H7 e7 ⟨y, rsd, hv7, hyn, hy, hyperm⟩ => ?_
        subst hv7
        have hgy : y ≠ g := (ne_of_none hg hyn).symm
        have keepB : ∀ {HA HB : Hp}, (∀ b o, b ≠ g → HA b = some o → HB b = some o) → (∀ b o, b ≠ g → H7 b = some o → HA b = some o) → ∀ b o, b ≠ g → H7 b = some o → HB b = some o := fun h1 h2 b o hb hbo => h1 b o hb (h2 b o hb hbo)
        have ht1g : t1 ≠ g := ne_of ht16 hg (by intro z; cases z)
        have ht2g : t2 ≠ g := ne_of ht26 hg (by intro z; cases z)
        refine ⟨y, iv rsd, rfl, sq_of hy, fun j σ' H' => ∃ s7 s9 s10 : Option V, ∃ es' : List (Int × V), σ' = [some (.ref a), some (.int (p : Int)), some (.ref po), some (.ref q), some (.int (i : Int)), some (.ref t1), some (.ref t2), s7, some (.ref g), s9, s10, none, none] ∧ (∀ b o, b ≠ g → H7 b = some o → H' b = some o) ∧
            H' g = some (.dK (dI es')) ∧ WInv H rs p (i + 1) es' H' ∧ ∀ r ∈ rsd.take j, (r + (gp rs i).1) % (p : Int) ∈ es'.map (·.1) ∧ (r + (gp rs (i + p - 1)).1) % (p : Int) ∈ es'.map (·.1),
          ⟨_, _, _, [], rfl, fun b o _ h => h, e7 _ _ hg, ⟨List.nodup_nil, (fun x h => nomatch h), fun e h => nomatch h⟩, (fun r h => by rw [List.take_zero] at h; exact nomatch h)⟩, fun j σ' H' _ ⟨_, _, _, _, _, h, _⟩ => sq_of (h _ _ hgy hy), fun j x σ' H' hx hP => ?_, fun σ' H' hP => ?_⟩
        · obtain ⟨s7, s9, s10, es', rfl, hk', hg', hW', hdone⟩ := hP
          obtain ⟨hj, rfl⟩ := iv_get hx
          have hrmem : rsd.getD j 0 ∈ es.map (·.1) := hyperm.mem_iff.mp (getD_mem hj)
          have hrj : rsd[j]? = some (rsd.getD j 0) := by rw [List.getD_eq_getElem?_getD, List.getElem?_eq_getElem hj]; rfl
          generalize rsd.getD j 0 = r at hrmem hrj
          refine s_forLU (er_new (xs := [.ref t1, .ref t2]) (ea_cons (ev_var rfl) (ea_cons (ev_var rfl) ea_nil)) (by show 2 ≤ 100000; decide)) fun v8 H8 e8 ⟨z, hv8, hzn, hz⟩ => ?_
          subst hv8
          have hzg : z ≠ g := (ne_of_none hg' hzn).symm
          refine ⟨z, [.ref t1, .ref t2], rfl, sq_of hz, fun n σ' H' => ∃ s9 s10 : Option V, ∃ es' : List (Int × V), σ' = [some (.ref a), some (.int (p : Int)), some (.ref po), some (.ref q), some (.int (i : Int)), some (.ref t1), some (.ref t2), some (.int r), some (.ref g), s9, s10, none, none] ∧ (∀ b o, b ≠ g → H8 b = some o → H' b = some o) ∧
              H' g = some (.dK (dI es')) ∧ WInv H rs p (i + 1) es' H' ∧ (∀ r ∈ rsd.take j, (r + (gp rs i).1) % (p : Int) ∈ es'.map (·.1) ∧ (r + (gp rs (i + p - 1)).1) % (p : Int) ∈ es'.map (·.1)) ∧ ∀ m ∈ [(gp rs i).1, (gp rs (i + p - 1)).1].take n, (r + m) % (p : Int) ∈ es'.map (·.1),
            ⟨_, _, es', rfl, fun b o _ h => h, e8 _ _ hg', hW'.up e8, hdone, (fun m h => by rw [List.take_zero] at h; exact nomatch h)⟩, fun n σ' H' _ ⟨_, _, _, _, h, _⟩ => sq_of (h _ _ hzg hz), fun n x σ' H' hx hP => ?_, fun σ' H' hP => ?_⟩
          · obtain ⟨s9, s10, es2, rfl, hk2, hg2, hW2, hdone2, hin⟩ := hP
            have H7to : ∀ b o, b ≠ g → H7 b = some o → H' b = some o := fun b o hb hbo => hk2 b o hb (e8 _ _ (hk' b o hb hbo))
            -- which of the two
            have ⟨idx, tt, hidx, hxx, htt, hm⟩ : ∃ idx tt, (idx = i ∨ idx = i + p - 1) ∧ x = .ref tt ∧ H' tt = some (.tup [.int (gp rs idx).1, .int (gp rs idx).2]) ∧ [(gp rs i).1, (gp rs (i + p - 1)).1][n]? = some (gp rs idx).1 := by
              match n, hx with
              | 0, hx => exact ⟨i, t1, .inl rfl, (Option.some.inj hx).symm, H7to _ _ ht1g (e7 _ _ ht16), rfl⟩
              | 1, hx => exact ⟨i + p - 1, t2, .inr rfl, (Option.some.inj hx).symm, H7to _ _ ht2g (e7 _ _ ht26), rfl⟩
              | n + 2, hx => simp at hx
            subst hxx
            have hq' := H7to _ _ hgq (e7 _ _ hq6)
            have hW' : WInv H rs p i es H' := ⟨hW6.nd, hW6.rg, fun e he => by
              obtain ⟨c, ns, h1, h0, h2, h3⟩ := hW6.val e he
              exact ⟨c, ns, h1, h0, H7to _ _ (ne_of h2 hg (by intro z; cases z)) (e7 _ _ h2), h3⟩⟩
            have el2 := hW2.len
            have eH' : Ex H H' := fun b o hb => H7to b o (ne_of_none hb (fresh_back e02 hgH2)) ((e02.trans (e3.trans (e36.trans e7))) _ _ hb)
            refine q_asg (v := .int ((r + (gp rs idx).1) % (p : Int))) (ev_op (ev_op (ev_var rfl) (ev_p0 (ev_var rfl) htt) rv_I0) (ev_var rfl) (rv_I (by omega))) fun H9 e9 => ?_
            have hx0 : 0 ≤ (r + (gp rs idx).1) % (p : Int) ∧ (r + (gp rs idx).1) % (p : Int) < (p : Int) := ⟨Int.emod_nonneg _ (by omega), Int.emod_lt_of_pos _ (by omega)⟩
            have tk : ∀ {L : List Int}, (∀ m ∈ [(gp rs i).1, (gp rs (i + p - 1)).1].take n, (r + m) % (p : Int) ∈ L) → (r + (gp rs idx).1) % (p : Int) ∈ L → ∀ m ∈ [(gp rs i).1, (gp rs (i + p - 1)).1].take (n + 1), (r + m) % (p : Int) ∈ L := fun {L} h1 h2 m hm' => by
              rw [List.take_succ, hm] at hm'
              rcases List.mem_append.mp hm' with h | h
              · exact h1 m h
              · have h : m = (gp rs idx).1 := List.mem_singleton.mp h
                rw [h]
                exact h2
            refine s_when (et_test (ev_dnotin (es := es2) (x := (r + (gp rs idx).1) % (p : Int)) (ev_var rfl) (ev_var rfl) (e9 _ _ hg2))) (fun hb H10 e10 => ?_) fun hb H10 e10 => ?_
            · rw [Bool.not_eq_true'] at hb
              have hnew := of_decide_eq_false hb
              have e910 := e9.trans e10
              refine s_dput (es := es2) (x := (r + (gp rs idx).1) % (p : Int)) (R := fun v H11 => ∃ c ns, v = .ref c ∧ H c = none ∧ H11 c = some (.lst (iv (ns ++ [(gp rs idx).2]))) ∧ Way rs p i r ns) (ev_var rfl) (ev_var rfl) (er_op (Ra := fun v _ => (r, v) ∈ es) (Rb := fun _ v H => LstAt (iv [(gp rs idx).2]) v H) (er_dget (es := es) (x := r) (ev_var rfl) (ev_var rfl) (e910 _ _ hq') hrmem) (fun x H11 e11 _ => (er_new (xs := iv [(gp rs idx).2]) (ea_cons (ev_p1 (ev_var rfl) ((e910.trans e11) _ _ htt)) ea_nil) (by show 1 ≤ 100000; decide)).imp fun v H12 _ ⟨d, hv, _, hd⟩ => ⟨d, hv, hd⟩) fun x y H11 H12 e11 hx e12 ⟨d, hy, hd⟩ Q' q' => ?_) (e910 _ _ hg2) hnew (by omega) fun v H11 H12 e11 ⟨c, ns, hv, hcB, hc, hway⟩ e12 => ?_
              · obtain ⟨c, ns, hxc, _, hc, hway⟩ := hW'.val (r, x) hx
                have hnl := hway.len
                exact ⟨c, d, iv ns, iv [(gp rs idx).2], hxc, hy, (e910.trans (e11.trans e12)) _ _ hc, hd, sz_of (by rw [iv_len, hnl]; show i + 1 + 1 ≤ 100000; omega), fun l hl => q' _ _ (Ex.new hl) ⟨l, ns, rfl, fresh_back (eH'.trans (e910.trans (e11.trans e12))) hl, by rw [iv_append]; exact upd_same, hway⟩⟩
              · subst hv
                have eA := e910.trans (e11.trans e12)
                have hgA := eA _ _ hg2
                have hWA : WInv H rs p (i + 1) (es2 ++ [((r + (gp rs idx).1) % (p : Int), V.ref c)]) H12 := (hW2.up eA).put hnew hx0 hcB (e12 _ _ hc) (hway.more hip hidx)
                refine ⟨_, _, _, rfl, fun b o hb hbo => ?_, upd_same, hWA.mut hgA, fun r' hr' => ?_, tk (fun m hm' => ?_) ?_⟩
                · rw [upd_ne hb]
                  exact eA _ _ (hk2 b o hb hbo)
                · rw [List.map_append]
                  exact ⟨List.mem_append_left _ (hdone2 r' hr').1, List.mem_append_left _ (hdone2 r' hr').2⟩
                · rw [List.map_append]
                  exact List.mem_append_left _ (hin m hm')
                · rw [List.map_append]
                  exact List.mem_append_right _ List.mem_cons_self
            · rw [Bool.not_eq_false'] at hb
              have hold := of_decide_eq_true hb
              have e910 := e9.trans e10
              exact ⟨_, _, es2, rfl, fun b o hb hbo => e910 _ _ (hk2 b o hb hbo), e910 _ _ hg2, hW2.up e910, hdone2, tk hin hold⟩
          · obtain ⟨s9, s10, es2, rfl, hk2, hg2, hW2, hdone2, hin⟩ := hP
            refine ⟨_, _, _, es2, rfl, fun b o hb hbo => hk2 b o hb (e8 _ _ (hk' b o hb hbo)), hg2, hW2, fun r' hr' => ?_⟩
            rw [List.take_succ, hrj] at hr'
            rcases List.mem_append.mp hr' with h | h
            · exact hdone2 r' h
            · have h : r' = r := List.mem_singleton.mp h
              rw [h]
              exact ⟨hin _ List.mem_cons_self, hin _ (List.mem_cons_of_mem _ List.mem_cons_self)⟩
        · obtain ⟨s7, s9, s10, es', rfl, hk', hg', hW', hdone⟩ := hP
          rw [iv_len, List.take_length] at hdone
          refine s_asg (v := .ref g) (ev_var rfl) fun H8 e8 => ⟨_, _, _, _, _, _, _, g, es', rfl, fun b o hb => ?_, e8 _ _ hg', hW'.up e8, ?_⟩
          · have hbg : b ≠ g := ne_of_none hb hgH2
            exact e8 _ _ (hk' b o hbg ((e3.trans (e36.trans e7)) _ _ hb))
          · have hes : es'.length = (es'.map (·.1)).length := (List.length_map _).symm
            rw [hes]
            have hmem : ∀ r ∈ es.map (·.1), r ∈ rsd := fun r hr => hyperm.mem_iff.mpr hr
            exact grow2 hpr (hrr i (by omega)) (hrr (i + p - 1) (by omega)) hb hW.nd hW.rg (by rw [List.length_map]; exact hcount) (by omega) (fun r hr => (hdone r (hmem r hr)).1) fun r hr => (hdone r (hmem r hr)).2
    · obtain ⟨s4, s5, s6, s7, s8, s9, s10, q, es, rfl, e3, hq, hW, hcount⟩ := hP
      have hn : ((p : Int) - 1).toNat = p - 1 := by omega
      rw [hn] at hW hcount
      have h0 : (0 : Int) ∈ es.map (·.1) := pig_all hW.nd hW.rg (by rw [List.length_map]; omega) (by omega) (by omega)
      refine s_retR (er_dget (es := es) (x := 0) (ev_var rfl) ev_c hq h0) fun v4 H4 e4 h4 => ?_
      obtain ⟨c, ns, hv, hcB, hc, hway⟩ := hW.val _ h4
      exact k _ _ (e02.trans (e3.trans e4)) ⟨ns, ⟨c, hv, hcB, e4 _ _ hc⟩, fin (hway.pick (by omega) hrl hrn)⟩
end
/-! ### by_count -/
def GAt (ga : Addr) (H : Hp) (x : V) (g : Int × Ps) : Prop := ∃ t gl ys, x = .ref t ∧ H t = some (.tup [.int g.1, .ref gl]) ∧ H gl = some (.lst ys) ∧ RsL H ys g.2 ∧ gl ≠ ga
def GsL (ga : Addr) (H : Hp) : List V → List (Int × Ps) → Prop
  | [], [] => True
  | x :: xs, g :: G => GAt ga H x g ∧ GsL ga H xs G
  | _, _ => False
theorem GAt.up {ga : Addr} {H H' : Hp} {x : V} {g : Int × Ps} (e : Ex H H') (h : GAt ga H x g) : GAt ga H' x g := by
  obtain ⟨t, gl, ys, h1, h2, h3, h4, h5⟩ := h
  exact ⟨t, gl, ys, h1, e _ _ h2, e _ _ h3, h4.up e, h5⟩
theorem GAt.mut {ga : Addr} {H : Hp} {x : V} {g : Int × Ps} {zs ws : List V} (hg : H ga = some (.lst zs)) (h : GAt ga H x g) : GAt ga (upd H ga (.lst ws)) x g := by
  obtain ⟨t, gl, ys, h1, h2, h3, h4, h5⟩ := h
  exact ⟨t, gl, ys, h1, by rw [upd_ne (ne_of h2 hg (by intro z; cases z))]; exact h2, by rw [upd_ne h5]; exact h3, h4.mut _ hg, h5⟩
theorem GsL.up {ga : Addr} {H H' : Hp} (e : Ex H H') : ∀ {xs : List V} {G : List (Int × Ps)}, GsL ga H xs G → GsL ga H' xs G
  | [], [], h => h
  | _ :: _, _ :: _, h => ⟨h.1.up e, GsL.up e h.2⟩
  | [], _ :: _, h => h.elim
  | _ :: _, [], h => h.elim
theorem GsL.mut {ga : Addr} {H : Hp} {zs ws : List V} (hg : H ga = some (.lst zs)) : ∀ {xs : List V} {G : List (Int × Ps)}, GsL ga H xs G → GsL ga (upd H ga (.lst ws)) xs G
  | [], [], h => h
  | _ :: _, _ :: _, h => ⟨h.1.mut hg, GsL.mut hg h.2⟩
  | [], _ :: _, h => h.elim
  | _ :: _, [], h => h.elim
theorem GsL.len {ga : Addr} {H : Hp} : ∀ {xs : List V} {G : List (Int × Ps)}, GsL ga H xs G → xs.length = G.length
  | [], [], _ => rfl
  | _ :: _, _ :: _, h => congrArg (· + 1) (GsL.len h.2)
  | [], _ :: _, h => h.elim
  | _ :: _, [], h => h.elim
theorem GsL.append {ga : Addr} {H : Hp} : ∀ {xs ys : List V} {G F : List (Int × Ps)}, GsL ga H xs G → GsL ga H ys F → GsL ga H (xs ++ ys) (G ++ F)
  | [], _, [], _, _, h => h
  | _ :: _, _, _ :: _, _, h, k => ⟨h.1, GsL.append h.2 k⟩
  | [], _, _ :: _, _, h, _ => h.elim
  | _ :: _, _, [], _, h, _ => h.elim
theorem GsL.at {ga : Addr} {H : Hp} : ∀ {xs : List V} {G : List (Int × Ps)} {i : Nat}, GsL ga H xs G → i < G.length → ∃ x, xs[i]? = some x ∧ GAt ga H x (gg G i)
  | [], [], _, _, h => absurd h (Nat.not_lt_zero _)
  | x :: _, _ :: _, 0, h, _ => ⟨x, rfl, h.1⟩
  | _ :: xs, g :: G, i + 1, h, hi => by
    obtain ⟨x, h1, h2⟩ := GsL.at (xs := xs) (G := G) (i := i) h.2 (Nat.lt_of_succ_lt_succ hi)
    exact ⟨x, h1, h2⟩
  | [], _ :: _, _, h, _ => h.elim
  | _ :: _, [], _, h, _ => h.elim
theorem in_iv {k : Int} : ∀ ns : List Int, inV (.int k) (iv ns) = decide (k ∈ ns)
  | [] => rfl
  | n :: ns => by
    have ih := in_iv (k := k) ns
    unfold inV at ih ⊢
    rw [show iv (n :: ns) = V.int n :: iv ns from rfl, List.any_cons, ih]
    have e : eqV (V.int n) (V.int k) = decide (n = k) := by
      first
      | rfl
      | (unfold eqV; by_cases h : n = k <;> simp [h])
    rw [e]
    by_cases h1 : n = k
    · rw [decide_eq_true h1, Bool.true_or, decide_eq_true (by rw [h1]; exact List.mem_cons_self)]
    · rw [decide_eq_false h1, Bool.false_or]
      exact decide_eq_decide.mpr ⟨fun h => List.mem_cons_of_mem _ h, fun h => by
        rcases List.mem_cons.mp h with z | z
        · exact absurd z.symm h1
        · exact z⟩
theorem flat_iv : ∀ ns : List Int, (iv ns).all flatV = true
  | [] => rfl
  | _ :: ns => by
    rw [show iv (_ :: ns) = V.int _ :: iv ns from rfl, List.all_cons, flat_iv ns]
    rfl
section
variable {K : PySem.W.Frag} {σ : L2.St} {H : Hp} {te tl : TE} {ta : TA} {tt : TT}
/-- [.. for k in range(n) if ..], of pairs -/
theorem er_lcRT {n j : Nat} {vs : List Nat} (p : Nat → Bool) (f : Nat → Int × Int) (h : EvA ta σ H [.int (n : Int)]) (hz : n ≤ 40000) (hw : ∀ x, wipe ((wipe σ vs).set j (some x)) vs = wipe σ vs) (ht : ∀ i, i < n → EvT tt ((wipe σ vs).set j (some (.int (i : Int)))) H (p i))
    (hg : ∀ i, i < n → p i = true → EvR te ((wipe σ vs).set j (some (.int (i : Int)))) H (fun v H => PairAt H v (f i))) : EvR (tLc (iRng1 ta) (gName j) tt te vs) σ H (fun v H1 => ∃ D, v = .ref D ∧ H D = none ∧ RsAt H1 v (((List.range n).filter p).map f)) := fun H0 e Q q => h H0 e _ fun H1 e1 => ⟨n, rfl, by omega, by omega, fun Dl hD => by
  have en : ((n : Int)).toNat = n := by omega
  rw [en]
  refine lc_range (lo := 0) (n := n) (fun i H' => Ex H1 H' ∧ ∃ ys, H' Dl = some (.lst ys) ∧ RsL H' ys (((List.range i).filter p).map f)) ⟨Ex.new hD, [], upd_same, trivial⟩ (fun i H' hi hP => ?_) (fun H' hP => ?_)
  · obtain ⟨p2, ys, p3, p4⟩ := hP
    rw [Int.zero_add]
    refine ⟨hw _, ht i hi H' ((e.trans e1).trans p2) _ fun H3 e3 => ?_⟩
    have hl : (((List.range i).filter p).map f).length ≤ i := by
      rw [List.length_map]
      exact Nat.le_trans (List.length_filter_le _ _) (by rw [List.length_range]; exact Nat.le_refl _)
    cases hp : p i with
    | true =>
      show (if true = true then _ else _)
      rw [if_pos rfl]
      refine hg i hi hp H3 (((e.trans e1).trans p2).trans e3) _ fun y H4 e4 hy => ⟨ys, (e3.trans e4) _ _ p3, sz_lt (by have := p4.len; omega), Ex.mut (p2.trans (e3.trans e4)) hD, ys ++ [y], upd_same, ?_⟩
      have h4 := (e3.trans e4) _ _ p3
      rw [List.range_succ, List.filter_append, List.map_append, show List.filter p [i] = [i] by simp [hp]]
      exact ((p4.up (e3.trans e4)).mut _ h4).append (RsL.mut _ h4 (show RsL H4 [y] [f i] from ⟨hy, trivial⟩))
    | false =>
      show (if false = true then _ else _)
      rw [if_neg Bool.false_ne_true]
      refine ⟨p2.trans e3, ys, e3 _ _ p3, ?_⟩
      rw [List.range_succ, List.filter_append, List.map_append, show List.filter p [i] = [] by simp [hp]]
      rw [List.map_nil, List.append_nil]
      exact p4.up e3
  · obtain ⟨p2, ys, p3, p4⟩ := hP
    exact q _ H' (e1.trans p2) ⟨Dl, rfl, fresh_back (e.trans e1) hD, Dl, ys, rfl, p3, p4⟩⟩
/-- .. all of them -/
theorem er_lcRA {n j : Nat} {vs : List Nat} (f : Nat → Int × Int) (h : EvA ta σ H [.int (n : Int)]) (hz : n ≤ 40000) (hw : ∀ x, wipe ((wipe σ vs).set j (some x)) vs = wipe σ vs)
    (hg : ∀ i, i < n → EvR te ((wipe σ vs).set j (some (.int (i : Int)))) H (fun v H => PairAt H v (f i))) : EvR (tLc (iRng1 ta) (gName j) tYes te vs) σ H (fun v H1 => RsAt H1 v ((List.range n).map f)) :=
  (er_lcRT (fun _ => true) f h hz hw (fun _ _ => et_yes) fun i hi _ => hg i hi).imp fun v H1 _ ⟨_, _, _, hR⟩ => by
    rw [List.filter_eq_self.mpr (fun _ _ => rfl)] at hR
    exact hR
theorem ev_pair {t1 t2 : TE} {x y : Int} (h1 : Ev t1 σ H (.int x)) (h2 : Ev t2 σ H (.int y)) : EvR (tTup (tCons t1 (tCons t2 tNil))) σ H (fun v H => PairAt H v (x, y)) := (eur (eu_tup (vs := [.int x, .int y]) (ea_cons h1 (ea_cons h2 ea_nil)) (by show 2 ≤ 100000; decide))).imp fun v H1 _ ⟨t, hv, _, ht⟩ => ⟨t, hv, ht⟩
end
theorem s_ext {K : PySem.W.Frag} {σ : L2.St} {H H0 : Hp} {ta te : TE} {D : Ends} {l : Addr} {xs zs : List V} (hl : H l = some (.lst xs)) (ha : Ev ta σ H (.ref l)) (h : EvR te σ H (NewL zs H0)) (hz : xs.length + zs.length ≤ 100000) (k : ∀ H1, Ex H H1 → D.nx σ (upd H1 l (.lst (xs ++ zs)))) :
    tDrop (tBM K "list" rExtend ta (tCons te tNil)) D σ H := ha H (Ex.refl H) _ fun H1 e1 => ⟨Or.inl ⟨rfl, xs, sq_of (e1 l _ hl)⟩, h H1 e1 _ fun v H2 e2 ⟨b, hv, _, hb⟩ => ⟨l, b, xs, zs, rfl, by rw [hv], e2 l _ (e1 l _ hl), hb, sz_of hz, k H2 (e1.trans e2)⟩⟩
def sp_by_count (d : Nat) (_ : PySem.W.Frag) : Sp := spX (fun (x : V × Ps × Nat) vs H => vs = [x.1, .int (x.2.2 : Int)] ∧ RsAt H x.1 x.2.1 ∧ x.2.1.length = 2 * x.2.2 - 1 ∧ (x.2.1.map (·.2)).Nodup ∧ 1 ≤ x.2.2 ∧ x.2.2 < 2 ^ (d + 1) ∧ x.2.2 ≤ 32) (fun x _ v H' => ∃ ns, LstAt (iv ns) v H' ∧ Pick x.2.1 x.2.2 ns)
theorem pick_one {ts : Ps} (h : ts.length = 2 * 1 - 1) : Pick ts 1 [(gp ts 0).2] :=
  ⟨[gp ts 0], fun e he => by rw [List.mem_singleton.mp he]; exact gp_mem (by omega), List.nodup_cons.mpr ⟨List.not_mem_nil, List.nodup_nil⟩, rfl, rfl, Int.one_dvd _⟩
section
variable {P : Program} {w : World} {K : PySem.W.Frag} {mg : Str → Option Value} {base : Heap} {A : Ad}
theorem ok_by_count (T : Txt K mg A) : ∀ d : Nat, Okk P w K mg base (2 + d) A.a_by_count ["things", "many"] (sp_by_count d K) := by
  intro d
  induction d with
  | zero =>
    refine okk (k := 1) T.F_by_count sc_by_count (fun vs H Q E h => ?_) (fun cdv Ar outer s H vs Q E hr h => ?_)
    · obtain ⟨d, ⟨rfl, _⟩, _⟩ := h
      rfl
    · obtain ⟨⟨v0, ts, m⟩, ⟨rfl, ⟨a, xs, rfl, ha, hR⟩, hlen, hnd, hm1, hm2, _⟩, k⟩ := h
      dsimp only at ha hR hlen hnd hm1 hm2 k
      have hm : m = 1 := by
        have : (2 : Nat) ^ (0 + 1) = 2 := by decide
        omega
      subst hm
      refine ⟨_, (pss_cons (ps_if (pt_cmpR op_eq (pv 1) pe_int (nomark _)) (pss_one (ps_ret (pe_lst (pa_cons (pe_ix (ix_tupK K) (pe_ix (ix_listK K) (pv 0) pe_int (fun _ _ => rfl)) pe_int (fun _ _ => rfl)) pa_nil)))) pss_nil) pss_never), ?_⟩
      refine q_when (b := true) (et_is (et_test (ev_op (ev_var rfl) ev_c rv_eqI)) rfl) (fun _ H1 e1 => ?_) fun z => nomatch z
      obtain ⟨t, ht1, ht2⟩ := hR.at (i := 0) (by omega)
      rw [gp_eq (by omega)] at ht2
      exact s_retR (er_new (xs := iv [(gp ts 0).2]) (ea_cons (ev_p1 (ev_op (ev_var rfl) ev_c (rv_ixL (sq_of (e1 _ _ ha)) (atI_nat (j := 0) ht1))) (e1 _ _ ht2)) ea_nil) (by show 1 ≤ 100000; decide)) fun v H2 e2 ⟨c, hv, _, hc⟩ => k _ _ (e1.trans e2) ⟨_, ⟨c, hv, hc⟩, pick_one hlen⟩
  | succ d ih =>
    obtain ⟨_, G_by_count, b_by_count, k_by_count⟩ := ih
    obtain ⟨_, G_by_prime, b_by_prime, k_by_prime⟩ := ok_by_prime (P := P) (w := w) (base := base) T
    obtain ⟨_, G_least_prime, b_least_prime, k_least_prime⟩ := ok_least_prime (P := P) (w := w) (base := base) T
    refine okk (k := 2 + d) T.F_by_count sc_by_count (fun vs H Q E h => ?_) (fun cdv Ar outer s H vs Q E hr h => ?_)
    · obtain ⟨d, ⟨rfl, _⟩, _⟩ := h
      rfl
    · obtain ⟨⟨v0, ts, m⟩, ⟨rfl, ⟨a, xs, rfl, ha, hR⟩, hlen, hnd, hm1, hm2, hm32⟩, k⟩ := h
      dsimp only at ha hR hlen hnd hm1 hm2 hm32 k
      have hr_by_count : Room (2 + d) _ := hr
      have hr_by_prime : Room 1 _ := hr.mono (by omega)
      have hr_least_prime : Room 1 _ := hr.mono (by omega)
      refine ⟨_, (pss_cons (ps_if (pt_cmpR op_eq (pv 1) pe_int (nomark _)) (pss_one (ps_ret (pe_lst (pa_cons (pe_ix (ix_tupK K) (pe_ix (ix_listK K) (pv 0) pe_int (fun _ _ => rfl)) pe_int (fun _ _ => rfl)) pa_nil)))) pss_nil)
      (pss_cons (ps_set (i := 2) sc_by_count.nd rfl (.inl rfl) (pe_call G_least_prime hr_least_prime (by rfl) T.g_least_prime k_least_prime b_least_prime .nil pass0 (pa_cons (pv 1) pa_nil)))
      (pss_cons (ps_set (i := 3) sc_by_count.nd rfl (.inr rfl) (pe_callTy (list_ofK K) (by rfl) T.z_list (by decide +kernel) (pa_cons (pv 0) pa_nil)))
      (pss_cons (ps_set (i := 4) sc_by_count.nd rfl (.inr rfl) (pe_lst pa_nil))
      (pss_cons (ps_while PassesOwn.never (pt_cmpR op_ge (pe_callB (len_seqK K) (by rfl) T.z_len (by decide +kernel) (pa_cons (pv 3) pa_nil)) (pe_op op_sub (pe_op op_mul pe_int (pv 2)) pe_int) (nomark _)) (pss_cons (ps_set (i := 5) sc_by_count.nd rfl (.inr rfl) (pe_call G_by_prime hr_by_prime (by rfl) T.g_by_prime k_by_prime b_by_prime .nil pass0 (pa_cons (pe_lc (own := [("k", 6)]) rfl sc_by_count.nd (pi_range1 (by rfl) T.z_range (pa_cons (pe_op op_sub (pe_op op_mul pe_int (pv 2)) pe_int) pa_nil)) (blkOk_by (N := ["things", "many", "prime", "left", "groups", "names", "k", "group", "picked", "found", "number", "name"]) (sc := defScope s_by_count) (by decide +kernel)) (fun _ _ _ _ _ => (pg_name (i := 6) sc_by_count.nd rfl (Or.inl rfl))) (fun _ _ _ _ _ => pts_nil) (fun _ _ _ _ _ => (pe_tup (pa_cons (pe_ix (ix_tupK K) (pe_ix (ix_listK K) (pv 3) (pv 6) (fun _ _ => rfl)) pe_int (fun _ _ => rfl)) (pa_cons (pv 6) pa_nil))))) (pa_cons (pv 2) pa_nil))))
      (pss_cons (ps_setLc (i := 7) (own := [("k", 6)]) rfl sc_by_count.nd rfl rfl (sw_true rfl rfl rfl (by decide +kernel)) (pi_listK K (pv 5)) (blkOk_by (N := ["things", "many", "prime", "left", "groups", "names", "k", "group", "picked", "found", "number", "name"]) (sc := defScope s_by_count) (by decide +kernel)) (fun _ _ _ _ _ => (pg_name (i := 6) sc_by_count.nd rfl (Or.inl rfl))) (fun _ _ _ _ _ => pts_nil) (fun _ _ _ _ _ => (pe_ix (ix_listK K) (pv 3) (pv 6) (fun _ _ => rfl))))
      (pss_cons (ps_expr (pe_bm PySem.F.plainAttrs_list PySem.F.slot_list_append PySem.F.type_list_append mt_append (pv 4) (pa_cons (pe_tup (pa_cons (pe_op op_fdiv (pe_callB (sumK K rfl) (by rfl) T.z_sum (by decide +kernel) (pa_cons (pe_lc (own := [("number", 10), ("name", 11)]) rfl sc_by_count.nd (pi_listK K (pv 7)) (blkOk_by (N := ["things", "many", "prime", "left", "groups", "names", "k", "group", "picked", "found", "number", "name"]) (sc := defScope s_by_count) (by decide +kernel)) (fun _ _ _ _ _ => (pg_tupK (n := 2) K rfl (pgs_cons (pg_name (i := 10) sc_by_count.nd rfl (Or.inl rfl)) (pgs_cons (pg_name (i := 11) sc_by_count.nd rfl (Or.inl rfl)) pgs_nil)))) (fun _ _ _ _ _ => pts_nil) (fun _ _ _ _ _ => (pv 10))) pa_nil)) (pv 2)) (pa_cons (pv 7) pa_nil))) pa_nil)))
      (pss_one (ps_set (i := 3) sc_by_count.nd rfl (.inr rfl) (pe_lc (own := [("k", 6)]) rfl sc_by_count.nd (pi_range1 (by rfl) T.z_range (pa_cons (pe_callB (len_seqK K) (by rfl) T.z_len (by decide +kernel) (pa_cons (pv 3) pa_nil)) pa_nil)) (blkOk_by (N := ["things", "many", "prime", "left", "groups", "names", "k", "group", "picked", "found", "number", "name"]) (sc := defScope s_by_count) (by decide +kernel)) (fun _ _ _ _ _ => (pg_name (i := 6) sc_by_count.nd rfl (Or.inl rfl))) (fun _ _ _ _ _ => pts_one (pt_cmpR (notinK K) (pv 6) (pv 5) (by rfl))) (fun _ _ _ _ _ => (pe_ix (ix_listK K) (pv 3) (pv 6) (fun _ _ => rfl))))))))))
      (pss_cons (ps_set (i := 8) sc_by_count.nd rfl (.inl rfl) (pe_call G_by_count hr_by_count (by rfl) T.g_by_count k_by_count b_by_count .nil pass0 (pa_cons (pe_lc (own := [("k", 6)]) rfl sc_by_count.nd (pi_range1 (by rfl) T.z_range (pa_cons (pe_callB (len_seqK K) (by rfl) T.z_len (by decide +kernel) (pa_cons (pv 4) pa_nil)) pa_nil)) (blkOk_by (N := ["things", "many", "prime", "left", "groups", "names", "k", "group", "picked", "found", "number", "name"]) (sc := defScope s_by_count) (by decide +kernel)) (fun _ _ _ _ _ => (pg_name (i := 6) sc_by_count.nd rfl (Or.inl rfl))) (fun _ _ _ _ _ => pts_nil) (fun _ _ _ _ _ => (pe_tup (pa_cons (pe_ix (ix_tupK K) (pe_ix (ix_listK K) (pv 4) (pv 6) (fun _ _ => rfl)) pe_int (fun _ _ => rfl)) (pa_cons (pv 6) pa_nil))))) (pa_cons (pe_op op_fdiv (pv 1) (pv 2)) pa_nil))))
      (pss_cons (ps_set (i := 9) sc_by_count.nd rfl (.inl rfl) (pe_lst pa_nil))
      (pss_cons (ps_for PassesOwn.never rfl (pi_listK K (pv 8)) (pg_name (i := 6) sc_by_count.nd rfl (Or.inl rfl)) (pss_one (ps_expr (pe_bm PySem.F.plainAttrs_list PySem.F.slot_list_extend PySem.F.type_list_extend mt_extend (pv 9) (pa_cons (pe_lc (own := [("number", 10), ("name", 11)]) rfl sc_by_count.nd (pi_listK K (pe_ix (ix_tupK K) (pe_ix (ix_listK K) (pv 4) (pv 6) (fun _ _ => rfl)) pe_int (fun _ _ => rfl))) (blkOk_by (N := ["things", "many", "prime", "left", "groups", "names", "k", "group", "picked", "found", "number", "name"]) (sc := defScope s_by_count) (by decide +kernel)) (fun _ _ _ _ _ => (pg_tupK (n := 2) K rfl (pgs_cons (pg_name (i := 10) sc_by_count.nd rfl (Or.inl rfl)) (pgs_cons (pg_name (i := 11) sc_by_count.nd rfl (Or.inl rfl)) pgs_nil)))) (fun _ _ _ _ _ => pts_nil) (fun _ _ _ _ _ => (pv 11))) pa_nil)))))
      (pss_one (ps_ret (pv 9))))))))))), ?_⟩
      refine q_when (b := decide ((m : Int) = 1)) (et_test (ev_op (ev_var rfl) ev_c rv_eqI)) (fun hb H1 e1 => ?_) fun hb H1 e1 => ?_
      · have hm : m = 1 := by have := of_decide_eq_true hb; omega
        subst hm
        obtain ⟨t, ht1, ht2⟩ := hR.at (i := 0) (by omega)
        rw [gp_eq (by omega)] at ht2
        exact s_retR (er_new (xs := iv [(gp ts 0).2]) (ea_cons (ev_p1 (ev_op (ev_var rfl) ev_c (rv_ixL (sq_of (e1 _ _ ha)) (atI_nat (j := 0) ht1))) (e1 _ _ ht2)) ea_nil) (by show 1 ≤ 100000; decide)) fun v H2 e2 ⟨c, hv, _, hc⟩ => k _ _ (e1.trans e2) ⟨_, ⟨c, hv, hc⟩, pick_one hlen⟩
      have hm : 2 ≤ m := by
        have := of_decide_eq_false hb
        omega
      refine q_asgR (R := fun v _ => ∃ p, v = .int p ∧ Pr p ∧ p ∣ (m : Int)) (er_call (m : Int) (ea_cons (ev_var rfl) ea_nil) (fun H2 e2 => ⟨rfl, by omega, by omega⟩) fun _ _ _ _ _ p => p) fun v2 H2 e2 ⟨pz, hv2, hpr, hdv⟩ => ?_
      obtain ⟨p, rfl⟩ : ∃ p : Nat, pz = (p : Int) := ⟨pz.toNat, (Int.toNat_of_nonneg (by have := hpr.1; omega)).symm⟩
      subst hv2
      have hp2 : 2 ≤ p := by have := hpr.1; omega
      obtain ⟨q, hq⟩ : p ∣ m := Int.natCast_dvd_natCast.mp hdv
      have hq1 : 1 ≤ q := by
        rcases Nat.eq_zero_or_pos q with z | z
        · rw [z] at hq
          omega
        · exact z
      have hpm : p ≤ m := by
        rw [hq]
        exact Nat.le_mul_of_pos_right p hq1
      have hq2 : 2 * q ≤ m := by
        rw [hq]
        exact Nat.mul_le_mul_right q hp2
      have ha2 := (e1.trans e2) _ _ ha
      have hR2 := hR.up (e1.trans e2)
      refine q_asgR (er_list (ev_var rfl) (sq_of ha2)) fun v3 H3 e3 ⟨la, hv3, hln, hla⟩ => ?_
      subst hv3
      refine q_asgR (er_new (xs := []) ea_nil (by show 0 ≤ 100000; decide)) fun v4 H4 e4 ⟨ga, hv4, hgn, hga⟩ => ?_
      subst hv4
      have e13 : Ex H H3 := e1.trans (e2.trans e3)
      have hgaH : H ga = none := fresh_back e13 hgn
      refine q_while (fun n σ H' => ∃ (la : Addr) (left : Ps) (G : List (Int × Ps)) (gx : List V) (s5 s6 s7 : Option V), n = left.length ∧ σ = [some (.ref a), some (.int (m : Int)), some (.int (p : Int)), some (.ref la), some (.ref ga), s5, s6, s7, none, none, none, none] ∧ Ex H3 H' ∧ RsAt H' (.ref la) left ∧ H' ga = some (.lst gx) ∧ GsL ga H' gx G ∧ GInv ts left G p m ∧ la ≠ ga) ts.length
        ⟨la, ts, [], [], none, none, none, rfl, rfl, e4, ⟨la, xs, rfl, e4 _ _ hla, hR2.up (e3.trans e4)⟩, hga, trivial, GInv.start hnd hlen hpm, ne_of_none hla hgn⟩ ?_
      rintro n σ H5 ⟨la, left, G, gx, s5, s6, s7, rfl, rfl, e5, ⟨_, lx, hlae, hlx, hlR⟩, hgx, hG, hInv, hlg⟩
      cases hlae
      have hll := hlR.len
      have hleft : left.length ≤ 63 := by
        have := hInv.cnt
        omega
      refine ⟨decide (2 * (p : Int) - 1 ≤ (left.length : Int)), et_test (ev_op (x := .int (left.length : Int)) (ev_is (ev_lenL (ev_var rfl) (sq_of hlx)) (by rw [hll])) (ev_op (ev_op ev_c (ev_var rfl) (rv_I (.inl (by decide)))) ev_c rv_I0) rv_I0), fun hb H6 e6 => ?_, fun hb H6 e6 => ?_⟩
      · have hbl : 2 * p - 1 ≤ left.length := by
          have := of_decide_eq_true hb
          omega
        refine ⟨_, fun _ _ n => n, ?_⟩
        have hlx6 := e6 _ _ hlx
        have hlR6 := hlR.up e6
        have lAt : ∀ {H' : Hp}, Ex H6 H' → ∀ {σ : L2.St} {te ti : TE} {i : Nat}, Ev te σ H' (.ref la) → Ev ti σ H' (.int (i : Int)) → i < left.length → ∃ t, Ev (tOp (rIxL K) te ti) σ H' (.ref t) ∧ H' t = some (.tup [.int (gp left i).1, .int (gp left i).2]) := fun {H'} e {σ te ti i} h1 h2 hi => by
          have := ev_rs (K := K) h1 h2 (e _ _ hlx6) (hlR6.up e) hi
          rw [gp_eq hi] at this
          exact this
        -- names
        refine q_asgR (R := fun v H' => ∃ ns, NewL (iv ns) H6 v H' ∧ Pick (numd (2 * p - 1) fun k => (gp left k).1) p ns) (er_callS (T := fun vs H' => ∃ v, vs = [v, .int (p : Int)] ∧ RsAt H' v (numd (2 * p - 1) fun k => (gp left k).1)) (ear_cons (er_lcRA (n := 2 * p - 1) (fun k => ((gp left k).1, (k : Int))) (ea_cons (ev_is (ev_op (ev_op ev_c (ev_var rfl) (rv_I (.inl (by decide)))) ev_c rv_I0) (by congr 1; omega)) ea_nil) (by omega) (fun _ => rfl) fun i hi => ?_) fun x H7 e7 hx => (ear_one (evr (v := .int (p : Int)) (ev_var rfl))).imp fun vs H8 e8 ⟨y, hvs, hy⟩ => ⟨x, by rw [hvs, hy], hx.up e8⟩) fun vs H7 e7 ⟨v, hvs, hv⟩ Q' q' => ?_) fun v7 H7 e7 ⟨ns, ⟨na, hv7, hnan, hna⟩, hpick⟩ => ?_
        · obtain ⟨t, h1, h2⟩ := lAt (Ex.refl H6) (σ := ((wipe [some (.ref a), some (.int (m : Int)), some (.int (p : Int)), some (.ref la), some (.ref ga), s5, s6, s7, none, none, none, none] [6]).set 6 (some (.int (i : Int))))) (te := tVar 3) (ti := tVar 6) (i := i) (ev_var rfl) (ev_var rfl) (by omega)
          exact ev_pair (ev_p0 h1 h2) (ev_var rfl)
        · subst hvs
          exact ⟨(v, numd (2 * p - 1) fun k => (gp left k).1, p), ⟨rfl, hv, numd_len _ _, numd_nodup _ _, hpr, by show p ≤ 32; omega⟩, fun v H8 e8 ⟨ns, ⟨na, hv, hn, hna⟩, h8⟩ => q' v H8 e8 ⟨ns, ⟨na, hv, fresh_back e7 hn, hna⟩, h8⟩⟩
        subst hv7
        obtain ⟨n1, n2, n3, n4⟩ := hpick.at
        have hin : ∀ i ∈ ns, i.toNat < left.length := fun i hi => by have := n2 i hi; omega
        -- group
        refine q_asgR (R := fun v H' => ∃ gl, v = .ref gl ∧ H7 gl = none ∧ RsAt H' v (ns.map fun i => gp left i.toNat)) ((er_lcLn (fun i y H => PairAt H y (gp left (ns.getD i 0).toNat)) (fun j y HA HB ⟨t, h1, h2⟩ hk => ⟨t, h1, hk t _ h2 fun zs z => nomatch z⟩) (ev_var rfl) (sq_of hna) (by rw [iv_len, n3]; omega) (fun _ => rfl) fun i x hx => ?_).imp fun v H8 _ ⟨D, ys, hv, hD, hys, hyl, hy⟩ => ⟨D, hv, hD, D, ys, hv, hys, rsl_of (by rw [hyl, iv_len, List.length_map]) fun i y hiy => ?_⟩) fun v8 H8 e8 ⟨gl, hv8, hgln, hgR⟩ => ?_
        · obtain ⟨hi, rfl⟩ := iv_get hx
          have hmem := getD_mem hi
          have h0 := (n2 _ hmem).1
          have hlt := hin _ hmem
          obtain ⟨t, h1, h2⟩ := lAt e7 (σ := ((wipe [some (.ref a), some (.int (m : Int)), some (.int (p : Int)), some (.ref la), some (.ref ga), some (.ref na), s6, s7, none, none, none, none] [6]).set 6 (some (.int (ns.getD i 0))))) (te := tVar 3) (ti := tVar 6) (i := (ns.getD i 0).toNat) (ev_var rfl) (ev_is (ev_var rfl) (by rw [Int.toNat_of_nonneg h0])) hlt
          exact (evr h1).imp fun v H9 e9 hv => ⟨t, hv, e9 _ _ h2⟩
        · have h := hy i y hiy
          have hi : i < ns.length := by
            have := (List.getElem?_eq_some_iff.mp hiy).1
            rw [hyl, iv_len] at this
            exact this
          have e : (ns.map fun i => gp left i.toNat).getD i (0, 1) = gp left (ns.getD i 0).toNat := by
            rw [List.getD_eq_getElem?_getD, List.getD_eq_getElem?_getD, List.getElem?_map, List.getElem?_eq_getElem hi]
            rfl
          rw [e]
          exact h
        subst hv8
        obtain ⟨hdvd, hstep⟩ := hInv.step (by omega) hbl hpick
        obtain ⟨_, gys, hgle, hgl, hglR⟩ := hgR
        cases hgle
        have e78 := e7.trans e8
        have hgx8 := (e6.trans e78) _ _ hgx
        have hglga : gl ≠ ga := (ne_of_none ((e6.trans e7) _ _ hgx) hgln).symm
        have hgll := hglR.len
        have hGlen := hG.len
        have hcnt := hInv.cnt
        have hGle : G.length ≤ 63 := by
          have : 1 * G.length ≤ p * G.length := Nat.mul_le_mul_right _ (by omega)
          omega
        -- groups.append
        refine q_appR (R := fun v H' => GAt ga H' v (((ns.map fun i => gp left i.toNat).map (·.1)).sum / (p : Int), ns.map fun i => gp left i.toNat)) hgx8 (ev_var rfl) ((er_tup (T := fun vs H' => vs = [.int (((ns.map fun i => gp left i.toNat).map (·.1)).sum / (p : Int)), .ref gl]) (ear_cons (evr (v := .int (((ns.map fun i => gp left i.toNat).map (·.1)).sum / (p : Int))) (ev_op (ev_sumN (H0 := H8) (ns := (ns.map fun i => gp left i.toNat).map (·.1)) ?_) (ev_var rfl) (rv_I ⟨by show (0 : Int) < (p : Int); omega, by show (p : Int) < _; omega⟩))) fun x H9 e9 hx => (ear_one (evr (v := .ref gl) (ev_var rfl))).imp fun vs H10 _ ⟨y, hvs, hy⟩ => by rw [hvs, hx, hy]) (fun vs H9 h => by rw [h]; show 2 ≤ 100000; decide)).imp fun v H9 e9 ⟨t, vs, H10, hv, _, _, hvs, ht⟩ => ⟨t, gl, gys, hv, by rw [hvs] at ht; exact ht, e9 _ _ hgl, hglR.up e9, hglga⟩) (by omega) fun v9 H9 e9 hv9 => ?_
        · rw [iv_map]
          exact er_lcRsV (fun e => V.int e.1) (ev_var rfl) hgl hglR (by rw [List.length_map, n3]; omega) (fun _ _ => rfl) fun e he => ev_var rfl
        -- left
        have e69 : Ex H6 H9 := e78.trans e9
        have hgx9 := (e6.trans e69) _ _ hgx
        have hlx10 : (upd H9 ga (.lst (gx ++ [v9]))) la = some (.lst lx) := by
          rw [upd_ne hlg]
          exact e69 _ _ hlx6
        have hlR10 := (hlR6.up e69).mut (gx ++ [v9]) hgx9
        have hna10 : (upd H9 ga (.lst (gx ++ [v9]))) na = some (.lst (iv ns)) := by
          have hne : na ≠ ga := (ne_of_none (e6 _ _ hgx) hnan).symm
          rw [upd_ne hne]
          exact (e8.trans e9) _ _ hna
        have hrl := rest_len n1 (fun i hi => ⟨(n2 i hi).1, by have := hin i hi; have := (n2 i hi).1; omega⟩ : ∀ i ∈ ns, 0 ≤ i ∧ i < (left.length : Int))
        have lAt2 : ∀ {H' : Hp}, Ex (upd H9 ga (.lst (gx ++ [v9]))) H' → ∀ {σ : L2.St} {te ti : TE} {i : Nat}, Ev te σ H' (.ref la) → Ev ti σ H' (.int (i : Int)) → i < left.length → EvR (tOp (rIxL K) te ti) σ H' (fun v H => PairAt H v (gp left i)) := fun {H'} e {σ te ti i} h1 h2 hi => by
          have := ev_rs (K := K) h1 h2 (e _ _ hlx10) (hlR10.up e) hi
          rw [gp_eq hi] at this
          obtain ⟨t, h3, h4⟩ := this
          exact (evr h3).imp fun v H9 e9 hv => ⟨t, hv, e9 _ _ h4⟩
        refine s_asgR (er_lcRT (n := left.length) (fun k => !decide ((k : Int) ∈ ns)) (gp left) (ea_cons (ev_is (ev_lenL (ev_var rfl) (sq_of hlx10)) (by rw [hll])) ea_nil) (by omega) (fun _ => rfl) (fun i hi => et_test (ev_op (ev_var rfl) (ev_var rfl) fun H11 e11 Q' q' => ⟨na, iv ns, rfl, .inl (sq_of (e11 _ _ hna10)), rfl, flat_iv ns, by rw [in_iv]; exact q' H11 (Ex.refl _)⟩)) fun i hi _ => lAt2 (Ex.refl _) (ev_var rfl) (ev_var rfl) hi) fun v11 H11 e11 ⟨l2, hv11, hl2n, hR11⟩ => ?_
        subst hv11
        have hga10 : (upd H9 ga (.lst (gx ++ [v9]))) ga = some (.lst (gx ++ [v9])) := upd_same
        refine ⟨((rest_ left.length ns).map (gp left)).length, ?_, l2, (rest_ left.length ns).map (gp left), G ++ [(((ns.map fun i => gp left i.toNat).map (·.1)).sum / (p : Int), ns.map fun i => gp left i.toNat)], gx ++ [v9], _, _, _, rfl, rfl, ?_, hR11, e11 _ _ hga10, ?_, hstep, (ne_of_none hga10 hl2n).symm⟩
        · rw [List.length_map]
          omega
        · exact (Ex.mut (e5.trans (e6.trans e69)) hgn).trans e11
        · have h9 := hG.up (e6.trans e69)
          exact ((h9.mut (ws := gx ++ [v9]) hgx9).append (show GsL ga _ [v9] [_] from ⟨hv9.mut hgx9, trivial⟩)).up e11
      · have hbl : left.length < 2 * p - 1 := by
          have := of_decide_eq_false hb
          omega
        have hGc := hInv.count hq (by omega) hq1 hbl
        have hGlen := hG.len
        have hgx6 := e6 _ _ hgx
        have hG6 := hG.up e6
        have e06 : Ex H H6 := e13.trans (e5.trans e6)
        have gAt : ∀ {H' : Hp}, Ex H6 H' → ∀ {σ : L2.St} {te ti : TE} {i : Nat}, Ev te σ H' (.ref ga) → Ev ti σ H' (.int (i : Int)) → i < G.length → ∃ t gl ys, Ev (tOp (rIxL K) te ti) σ H' (.ref t) ∧ H' t = some (.tup [.int (gg G i).1, .ref gl]) ∧ H' gl = some (.lst ys) ∧ RsL H' ys (gg G i).2 := fun {H'} e {σ te ti i} h1 h2 hi => by
          obtain ⟨x, hx, t, gl, ys, rfl, ht, hgl, hy, _⟩ := (hG6.up e).at hi
          exact ⟨t, gl, ys, ev_op h1 h2 (rv_ixL (sq_of (e _ _ hgx6)) (atI_nat hx)), ht, hgl, hy⟩
        refine q_asgR (R := fun v H' => ∃ ks, LstAt (iv ks) v H' ∧ Pick (numd G.length fun k => (gg G k).1) q ks) (er_callS (T := fun vs H' => ∃ v, vs = [v, .int (q : Int)] ∧ RsAt H' v (numd G.length fun k => (gg G k).1)) (ear_cons (er_lcRA (n := G.length) (fun k => ((gg G k).1, (k : Int))) (ea_cons (ev_is (ev_lenL (ev_var rfl) (sq_of hgx6)) (by rw [hGlen])) ea_nil) (by omega) (fun _ => rfl) fun i hi => ?_) fun x H7 e7 hx => (ear_one (evr (v := .int (q : Int)) (ev_is (ev_op (x := .int (m : Int)) (y := .int (p : Int)) (ev_var rfl) (ev_var rfl) (rv_I ⟨by show (0 : Int) < (p : Int); omega, by show (p : Int) < _; omega⟩)) ?_))).imp fun vs H8 e8 ⟨y, hvs, hy⟩ => ⟨x, by rw [hvs, hy], hx.up e8⟩) fun vs H7 e7 ⟨v, hvs, hv⟩ Q' q' => ?_) fun v7 H7 e7 ⟨ks, ⟨pk, hv7, hpk⟩, hpick⟩ => ?_
        · obtain ⟨t, gl, ys, h1, h2, _⟩ := gAt (Ex.refl H6) (σ := ((wipe [some (.ref a), some (.int (m : Int)), some (.int (p : Int)), some (.ref la), some (.ref ga), s5, s6, s7, none, none, none, none] [6]).set 6 (some (.int (i : Int))))) (te := tVar 4) (ti := tVar 6) (i := i) (ev_var rfl) (ev_var rfl) hi
          exact ev_pair (ev_p0 h1 h2) (ev_var rfl)
        · rw [hq, Int.natCast_mul, Int.mul_ediv_cancel_left _ (by omega)]
        · subst hvs
          have h2d : (2 : Nat) ^ (d + 1 + 1) = 2 * 2 ^ (d + 1) := by rw [Nat.pow_succ, Nat.mul_comm]
          exact ⟨(v, numd G.length fun k => (gg G k).1, q), ⟨rfl, hv, by rw [numd_len, hGc], numd_nodup _ _, hq1, by show q < 2 ^ (d + 1); omega, by show q ≤ 32; omega⟩, fun v H8 e8 h8 => q' v H8 e8 h8⟩
        subst hv7
        obtain ⟨k1, k2, k3, _⟩ := hpick.at
        refine q_asgR (er_new (xs := []) ea_nil (by show 0 ≤ 100000; decide)) fun v8 H8 e8 ⟨fa, hv8, hfn, hfa⟩ => ?_
        subst hv8
        have hnm : ∀ k ∈ ks, ((gg G k.toNat).2.map (·.2)).length = p := fun k hk => by
          rw [List.length_map]
          exact (hInv.grp _ (gg_mem (by have := k2 k hk; omega))).1
        have hfl : ∀ l : List Int, (∀ k ∈ l, k ∈ ks) → (l.flatMap fun k => (gg G k.toNat).2.map (·.2)).length = p * l.length := fun l => by
          induction l with
          | nil => exact fun _ => by simp
          | cons k l ih =>
            intro hs
            rw [List.flatMap_cons, List.length_append, hnm k (hs k List.mem_cons_self), ih fun x hx => hs x (List.mem_cons_of_mem _ hx), List.length_cons, Nat.mul_add]
            omega
        have hpk8 := e8 _ _ hpk
        have hfpk : pk ≠ fa := ne_of_none hpk hfn
        refine q_forL (xs := iv ks) (ev_var rfl) (sq_of hpk8) (fun j σ' H' => ∃ s6 : Option V, σ' = [some (.ref a), some (.int (m : Int)), some (.int (p : Int)), some (.ref la), some (.ref ga), s5, s6, s7, some (.ref pk), some (.ref fa), none, none] ∧ Ex H7 H' ∧ H' fa = some (.lst (iv ((ks.take j).flatMap fun k => (gg G k.toNat).2.map (·.2))))) (fun H9 e9 => ⟨_, rfl, e8.trans e9, e9 _ _ hfa⟩) (fun i σ' H' _ ⟨_, _, e, _⟩ => sq_of (e _ _ hpk)) (fun j x σ' H' hx hP => ?_) fun σ' H' hP => ?_
        · obtain ⟨s6', rfl, e9, hf9⟩ := hP
          obtain ⟨hj, rfl⟩ := iv_get hx
          have hmem := getD_mem hj
          have hks : ks[j]? = some (ks.getD j 0) := by rw [List.getD_eq_getElem?_getD, List.getElem?_eq_getElem hj]; rfl
          have h0 := k2 _ hmem
          obtain ⟨t, gl, ys, h1, h2, h3, h4⟩ := gAt (e7.trans e9) (σ := [some (.ref a), some (.int (m : Int)), some (.int (p : Int)), some (.ref la), some (.ref ga), s5, some (.int (ks.getD j 0)), s7, some (.ref pk), some (.ref fa), none, none]) (te := tVar 4) (ti := tVar 6) (i := (ks.getD j 0).toNat) (ev_var rfl) (ev_is (ev_var rfl) (by rw [Int.toNat_of_nonneg h0.1])) (by omega)
          have hlt : ((ks.take j).flatMap fun k => (gg G k.toNat).2.map (·.2)).length ≤ 10000 := by
            rw [hfl (ks.take j) fun x hx => List.mem_of_mem_take hx, List.length_take, k3]
            have h1 : p * min j q ≤ p * q := Nat.mul_le_mul_left p (Nat.min_le_right _ _)
            omega
          refine s_ext (zs := iv ((gg G (ks.getD j 0).toNat).2.map (·.2))) (H0 := H') hf9 (ev_var rfl) ?_ (by rw [iv_len, iv_len, hnm _ hmem]; omega) fun H10 e10 => ⟨_, rfl, Ex.mut (e9.trans e10) hfn, ?_⟩
          · rw [iv_map]
            exact er_lcRsV (fun e => V.int e.2) (ev_p1 h1 h2) h3 h4 (by have := hnm _ hmem; rw [List.length_map] at this; omega) (fun _ _ => rfl) fun e he => ev_var rfl
          · rw [upd_same, ← iv_append, List.take_succ, hks, List.flatMap_append]
            simp
        · obtain ⟨s6', rfl, e9, hf9⟩ := hP
          rw [iv_len, List.take_length] at hf9
          exact s_ret (ev_var rfl) fun H10 e10 => k _ _ (e06.trans (e7.trans (e9.trans e10))) ⟨_, ⟨fa, rfl, e10 _ _ hf9⟩, hInv.done hq hpick⟩
end
/-! ### chosen -/
section
variable {K : PySem.W.Frag} {σ : L2.St} {H : Hp} {te : TE} {ta : TA} {tr : TA} {D : Ends}
/-- [(x, k) ..] over enumerate -/
theorem er_lcEP {a : Addr} {xs : List V} {vs : List Nat} {j l : Nat} (f : Nat → Int × Int) (h : EvA ta σ H [.ref a]) (hx : SqL K H a xs) (hz : xs.length ≤ 40000) (hw : ∀ x y, wipe (((wipe σ vs).set j (some x)).set l (some y)) vs = wipe σ vs)
    (hg : ∀ (i : Nat) x, xs[i]? = some x → EvR te (((wipe σ vs).set j (some (.int (i : Int)))).set l (some x)) H (fun v H => PairAt H v (f i))) : EvR (tLc (iEnum K ta) (gTup K 2 (gCons (gName j) (gCons (gName l) gNil))) tYes te vs) σ H (fun v H1 => RsAt H1 v ((List.range xs.length).map f)) := fun H0 e Q q => h H0 e _ fun H1 e1 => ⟨a, xs, rfl, ex_l (e.trans e1) hx, fun Dl hD => by
  have hst : Stb fun i y H => PairAt H y (f i) := fun j y HA HB ⟨t, h1, h2⟩ hk => ⟨t, h1, hk t _ h2 fun zs z => nomatch z⟩
  refine ⟨fun i m H' => m = xs.length - i ∧ i ≤ xs.length ∧ Lw H1 (fun i y H => PairAt H y (f i)) Dl i H', ⟨_, rfl, Nat.zero_le _, hD, Ex.new hD, [], upd_same, rfl, fun j y hy => by simp at hy⟩, ?_⟩
  rintro i m H' ⟨rfl, hi, p⟩
  have qx := ex_l ((e.trans e1).trans p.2.1) hx
  by_cases hlt : i < xs.length
  · have ex : xs[i]? = some xs[i] := List.getElem?_eq_getElem hlt
    refine .inr ⟨⟨xs, _, qx, ex⟩, Lw H1 (fun i y H => PairAt H y (f i)) Dl (i + 1), fun H2 p2 => ⟨xs.length - (i + 1), by omega, rfl, hlt, p2⟩, fun v H2 hyld => ?_⟩
    obtain ⟨T, x', rfl, hT, rfl, f1⟩ := hyld
    have e1' : x' = xs[i] := Option.some.inj ((f1 _ qx).symm.trans ex)
    subst e1'
    refine g_tup2 (st_of upd_same) ⟨hw _ _, ?_⟩
    have p' : Lw H1 (fun i y H => PairAt H y (f i)) Dl i (upd H' T (.tup [.int (i : Nat), xs[i]])) := by
      obtain ⟨p1, p2, zs, p3, p4, p5⟩ := p
      exact ⟨p1, p2.trans (Ex.new hT), zs, by rw [upd_ne (ne_of_none p3 hT)]; exact p3, p4, fun j y hy => (p5 j y hy).up (Ex.new hT)⟩
    exact lw_turn p' (by omega) hst ((hg i _ ex).mono (e.trans e1))
  · have ei : i = xs.length := by omega
    subst ei
    obtain ⟨p1, p2, zs, p3, p4, p5⟩ := p
    refine .inl ⟨⟨xs, qx, Nat.le_refl _⟩, q _ H' (e1.trans p2) ⟨Dl, zs, rfl, p3, rsl_of (by rw [p4, List.length_map, List.length_range]) fun i y hy => ?_⟩⟩
    have hi : i < xs.length := by
      have := (List.getElem?_eq_some_iff.mp hy).1
      omega
    have e : ((List.range xs.length).map f).getD i (0, 1) = f i := by
      rw [List.getD_eq_getElem?_getD, List.getElem?_map, List.getElem?_range hi]
      rfl
    rw [e]
    exact p5 i y hy⟩
theorem er_sortedI {φ : List Int → Prop} (h : EvR te σ H (fun v H1 => ∃ ns, LstAt (iv ns) v H1 ∧ φ ns)) : EvR (tCB (rSortedI K) (tCons te tNil)) σ H (fun v H1 => ∃ ns ns', NewL (iv ns') H v H1 ∧ φ ns ∧ ns'.Perm ns ∧ ns'.Pairwise (· ≤ ·)) := fun H1 e Q q =>
  h H1 e _ fun v H2 e2 ⟨ns, ⟨a, hv, ha⟩, hφ⟩ => ⟨a, ns, by rw [hv], sq_of ha, fun ns' p hp hs hn => q _ _ (e2.trans (Ex.new hn)) ⟨ns, ns', ⟨p, rfl, fresh_back (e.trans e2) hn, upd_same⟩, hφ, hp, hs⟩⟩
theorem s_dropS {sp : Sp} {E : L2.St → XK} {vs : List V} (h : EvA tr σ H vs) (k : ∀ H1, Ex H H1 → sp vs H1 (fun _ H2 => D.nx σ H2) (E σ)) : tDrop (tCallS sp E tr) D σ H := h H (Ex.refl _) _ fun H1 e1 => k H1 e1
theorem s_dropIf {t : TT} {t1 t2 : TE} {b : Bool} (h : EvT t σ H b) (h1 : b = true → ∀ H1, Ex H H1 → tDrop t1 D σ H1) (h2 : b = false → ∀ H1, Ex H H1 → tDrop t2 D σ H1) : tDrop (tIf t t1 t2) D σ H := h H (Ex.refl _) _ fun H1 e1 => by
  cases b with
  | true => exact h1 rfl H1 e1
  | false => exact h2 rfl H1 e1
end
def spx_chosen (_ : PySem.W.Frag) (A : Ad) : Sp := spO (spX (fun (d : V × List Int) vs H => vs = [d.1] ∧ NumsAt d.1 d.2 H ∧ d.2.length % 2 = 1) (fun d H v H' => ∃ ys, NewL (iv ys) H v H' ∧ ChOk d.2 ys)) (spZ (fun (d : V × List Int) vs H => vs = [d.1] ∧ NumsAt d.1 d.2 H ∧ d.2.length % 2 = 0) A.c_BadCount)
section
variable {P : Program} {w : World} {K : PySem.W.Frag} {mg : Str → Option Value} {base : Heap} {A : Ad}
theorem okx_chosen (T : Txt K mg A) : OkkX P w K mg base 8 A.a_chosen ["numbers"] (spx_chosen K A) := by
  obtain ⟨_, G_check_numbers, b_check_numbers, k_check_numbers⟩ := ok_check_numbers (P := P) (w := w) (base := base) T
  obtain ⟨_, G_by_count, b_by_count, k_by_count⟩ := ok_by_count (P := P) (w := w) (base := base) T 5
  refine okkx T.F_chosen sc_chosen (fun vs H Q E h => ?_) (fun cdv Ar outer s H vs Q E hr h => ?_)
  · rcases h with ⟨d, ⟨rfl, _⟩, _⟩ | ⟨d, ⟨rfl, _⟩, _⟩ <;> rfl
  · have hr_check_numbers : Room 3 _ := hr.mono (by decide)
    have hr_by_count : Room 7 _ := hr.mono (by decide)
    refine ⟨_, (pss_cons (ps_expr (pe_call G_check_numbers hr_check_numbers (by rfl) T.g_check_numbers k_check_numbers b_check_numbers .nil pass0 (pa_cons (pv 0) pa_nil)))
      (pss_cons (ps_if (pt_cmpR op_eq (pe_op op_mod (pe_callB (len_seqK K) (by rfl) T.z_len (by decide +kernel) (pa_cons (pv 0) pa_nil)) pe_int) pe_int (nomark _)) (pss_one (L2N.ps_raise rfl (L2N.takes_of rfl rfl rfl rfl) (L2N.pmk_own PySem.F.excBase_ValueError T.ex_BadCount T.g_BadCount T.ke_BadCount (raises_own T.sb_BadCount T.ty_BadCount) (by rfl)))) pss_nil)
      (pss_cons (ps_set (i := 1) sc_chosen.nd rfl (.inl rfl) (pe_op op_fdiv (pe_op op_add (pe_callB (len_seqK K) (by rfl) T.z_len (by decide +kernel) (pa_cons (pv 0) pa_nil)) pe_int) pe_int))
      (pss_one (ps_ret (pe_callB (sortedIK K) (by rfl) T.z_sorted (by decide +kernel) (pa_cons (pe_call G_by_count hr_by_count (by rfl) T.g_by_count k_by_count b_by_count .nil pass0 (pa_cons (pe_lc (own := [("place", 2), ("number", 3)]) rfl sc_chosen.nd (pi_enum (by rfl) T.z_enumerate (pa_cons (pv 0) pa_nil)) (blkOk_by (N := ["numbers", "many", "place", "number"]) (sc := defScope s_chosen) (by decide +kernel)) (fun _ _ _ _ _ => (pg_tupK (n := 2) K rfl (pgs_cons (pg_name (i := 2) sc_chosen.nd rfl (Or.inl rfl)) (pgs_cons (pg_name (i := 3) sc_chosen.nd rfl (Or.inl rfl)) pgs_nil)))) (fun _ _ _ _ _ => pts_nil) (fun _ _ _ _ _ => (pe_tup (pa_cons (pv 3) (pa_cons (pv 2) pa_nil))))) (pa_cons (pv 1) pa_nil))) pa_nil))))))), ?_⟩
    have main : ∃ (a : Addr) (ns : List Int), vs = [.ref a] ∧ H a = some (.lst (iv ns)) ∧ NumsAt (.ref a) ns H ∧ (ns.length % 2 = 1 → ∀ v H', Ex H H' → (∃ ys, NewL (iv ys) H v H' ∧ ChOk ns ys) → Q v H') ∧ (ns.length % 2 = 0 → ∀ H', Ex H H' → E (.ref A.c_BadCount) none H') := by
      rcases h with ⟨⟨v, ns⟩, ⟨h1, h2, h3⟩, k⟩ | ⟨⟨v, ns⟩, ⟨h1, h2, h3⟩, k⟩
      · obtain ⟨a, rfl, ha⟩ := h2.1
        exact ⟨a, ns, h1, ha, h2, fun _ v H' e p => k v H' e p, fun z => by have h3 : ns.length % 2 = 1 := h3; omega⟩
      · obtain ⟨a, rfl, ha⟩ := h2.1
        exact ⟨a, ns, h1, ha, h2, fun z => by have h3 : ns.length % 2 = 0 := h3; omega, fun _ H' e => k H' e⟩
    clear h
    obtain ⟨a, ns, rfl, ha, hN, kOk, kNo⟩ := main
    have hl := hN.2.1
    refine q_drop (ev_call0 (z := .non) (.ref a, ns) (ea_cons (ev_var rfl) ea_nil) (fun H1 e => ⟨rfl, ⟨a, rfl, e _ _ ha⟩, by show ns.length ≤ 10000; omega, hN.2.2⟩) fun _ _ _ p => p) fun H1 e1 => ?_
    have hln : ∀ {H' : Hp}, Ex H H' → ∀ {σ : L2.St} {te : TE}, Ev te σ H' (.ref a) → Ev (tCB (rLenQ K) (tCons te tNil)) σ H' (.int (ns.length : Int)) := fun {H'} e {σ te} h => ev_is (ev_lenL h (sq_of (e _ _ ha))) (by rw [iv_len])
    refine q_when (et_test (ev_op (ev_op (hln e1 (ev_var rfl)) ev_c (rv_I (by decide))) ev_c rv_eqI)) (fun hb H2 e2 => ?_) fun hb H2 e2 => ?_
    · exact kNo (by have := of_decide_eq_true hb; omega) _ (e1.trans e2)
    · have hodd : ns.length % 2 = 1 := by
        have := of_decide_eq_false hb
        omega
      have e12 := e1.trans e2
      obtain ⟨m, hm⟩ : ∃ m : Nat, 2 * m = ns.length + 1 := ⟨(ns.length + 1) / 2, by omega⟩
      refine q_asg (v := .int (m : Int)) (ev_is (ev_op (ev_op (hln e12 (ev_var rfl)) ev_c rv_I0) ev_c (rv_I ⟨by decide, by decide⟩)) (by congr 1; omega)) fun H3 e3 => ?_
      have e13 := e12.trans e3
      refine s_retR (er_sortedI (φ := fun xs => Pick (numd ns.length fun k => ns.getD k 0) m xs) (er_callS (T := fun vs H' => ∃ v, vs = [v, .int (m : Int)] ∧ RsAt H' v (numd ns.length fun k => ns.getD k 0)) (ear_cons ((er_lcEP (fun k => (ns.getD k 0, (k : Int))) (ea_cons (ev_var rfl) ea_nil) (sq_of (e13 _ _ ha)) (by rw [iv_len]; omega) (fun _ _ => rfl) fun i x hx => ?_).imp (R' := fun v H => RsAt H v (numd ns.length fun k => ns.getD k 0)) fun v H4 _ h => ?_) fun x H4 e4 hx => (ear_one (evr (v := .int (m : Int)) (ev_var rfl))).imp fun vs H5 e5 ⟨y, hvs, hy⟩ => ⟨x, by rw [hvs, hy], hx.up e5⟩) fun vs H4 e4 ⟨v, hvs, hv⟩ Q' q' => ?_)) fun v H4 e4 ⟨xs, ys, hnew, hpick, hperm, hsort⟩ => ?_
      · obtain ⟨_, rfl⟩ := iv_get hx
        exact ev_pair (ev_var rfl) (ev_var rfl)
      · rw [iv_len] at h
        exact h
      · subst hvs
        exact ⟨(v, numd ns.length fun k => ns.getD k 0, m), ⟨rfl, hv, (numd_len _ _).trans (by show ns.length = 2 * m - 1; omega), numd_nodup _ _, by show 1 ≤ m; omega, by show m < 2 ^ (5 + 1); omega, by show m ≤ 32; omega⟩, fun v H5 e5 h5 => q' v H5 e5 h5⟩
      · obtain ⟨p, hv, hn, hp⟩ := hnew
        exact kOk hodd _ _ (e13.trans e4) ⟨ys, ⟨p, hv, fresh_back e13 hn, hp⟩, ch_of hm hpick hperm hsort⟩
end
/-! ### what the law asks -/
def sp_l_stretched (_ : PySem.W.Frag) : Sp := spX (fun (d : V × List Int × V) vs H => vs = [d.1, d.2.2] ∧ LstAt (iv d.2.1) d.1 H ∧ d.2.1.length ≤ 63 ∧ ∃ t i j, d.2.2 = .ref t ∧ H t = some (.tup [.int i, .int j]) ∧ StrOk d.2.1 i j) (fun _ _ v _ => v = .bl true)
def sp_l_picked (_ : PySem.W.Frag) : Sp := spX (fun (d : V × List Int × V × List Int) vs H => vs = [d.1, d.2.2.1] ∧ LstAt (iv d.2.1) d.1 H ∧ d.2.1.length ≤ 63 ∧ d.2.1 ≠ [] ∧ LstAt (iv d.2.2.2) d.2.2.1 H ∧ ChOk d.2.1 d.2.2.2) (fun _ _ v _ => v = .bl true)
def sp_l_bad_count (_ : PySem.W.Frag) : Sp := spX (fun (d : Int × V × List Int) vs H => vs = [.int d.1, d.2.1] ∧ NumsAt d.2.1 d.2.2 H ∧ ((d.1 = 1 ∧ d.2.2.length % 2 = 0) ∨ (d.1 ≠ 1 ∧ d.2.2 = []))) (fun _ _ v _ => v = .bl true)
theorem iv_cut_nat (ns : List Int) {i j : Nat} (hij : i ≤ j) (hj : j ≤ ns.length) : cutV (iv ns) (some (i : Int)) (some (j : Int)) = iv ((ns.drop i).take (j - i)) := by
  rw [cut_nat (iv ns) hij (by rw [iv_len]; exact hj), iv_drop, iv_take]
section
variable {P : Program} {w : World} {K : PySem.W.Frag} {mg : Str → Option Value} {base : Heap} {A : Ad}
theorem ok_l_stretched (T : Txt K mg A) : Okk P w K mg base 3 A.a_l_stretched ["_law_numbers_here", "_law_found"] (sp_l_stretched K) := by
  obtain ⟨_, G_l_numbers, b_l_numbers, k_l_numbers⟩ := ok_l_numbers (P := P) (w := w) (base := base) T
  refine okk T.F_l_stretched sc_l_stretched (fun vs H Q E h => ?_) (fun cdv Ar outer s H vs Q E hr h => ?_)
  · obtain ⟨d, ⟨rfl, _⟩, _⟩ := h
    rfl
  · obtain ⟨⟨v0, ns, v1⟩, ⟨rfl, ⟨a, rfl, ha⟩, hl, t, i, j, rfl, ht, hS⟩, k⟩ := h
    dsimp only at ha hl ht hS
    have hr_l_numbers : Room 2 _ := hr.mono (by decide)
    obtain ⟨h0, hij, hj, hsum⟩ := hS
    refine ⟨_, (pss_cons (ps_if (PW.pt (pw_or (pt_not (pt_val (pe_callB (isiK K) (by rfl) T.z_isinstance (by decide +kernel) (pa_cons (pv 1) (pa_cons (pe_bltn (v := .ty "tuple") (by rfl) T.z_tuple (by decide +kernel) rfl) pa_nil))))) (pw_or (pt_cmpR op_ne (pe_callB (len_seqK K) (by rfl) T.z_len (by decide +kernel) (pa_cons (pv 1) pa_nil)) pe_int (nomark _)) (pw_or1 (pt_not (pt_val (pe_call G_l_numbers hr_l_numbers (by rfl) T.g_l_numbers k_l_numbers b_l_numbers .nil pass0 (pa_cons (pe_callTy (list_ofK K) (by rfl) T.z_list (by decide +kernel) (pa_cons (pv 1) pa_nil)) pa_nil)))))))) (pss_one (ps_ret pe_bl)) pss_nil)
      (pss_cons (ps_asg (pv 1) (pg_tupK (n := 2) K rfl (pgs_cons (pg_name (i := 2) sc_l_stretched.nd rfl (Or.inl rfl)) (pgs_cons (pg_name (i := 3) sc_l_stretched.nd rfl (Or.inl rfl)) pgs_nil))))
      (pss_one (ps_ret (pe_and (pe_chain3 op_le op_le op_lt pe_int (pv 2) (pv 3) (pe_callB (len_seqK K) (by rfl) T.z_len (by decide +kernel) (pa_cons (pv 0) pa_nil))) (pe_one (pe_cmpR op_eq (pe_op op_mod (pe_callB (sumK K rfl) (by rfl) T.z_sum (by decide +kernel) (pa_cons (pe_slice (sl_listK K) (pv 0) (po_some (pv 2)) (po_some (pe_op op_add (pv 3) pe_int))) pa_nil)) (pe_callB (len_seqK K) (by rfl) T.z_len (by decide +kernel) (pa_cons (pv 0) pa_nil))) pe_int (nomark _)))))))), ?_⟩
    refine q_when (b := false) ?_ (fun z => nomatch z) fun _ H1 e1 => ?_
    · refine et_is (et_or (et_not (et_B (ev_isi (ev_var rfl) ev_c (.ty _) (.base (.tup ht)) kit_tt))) fun _ => et_or (et_test (ev_op (show Ev (tCB (rLenQ K) (tCons (tVar 1) tNil)) _ _ (.int 2) from fun H1 e Q q => ⟨_, rfl, t, _, rfl, .inr (ex_t e (st_of ht)), q H1 (Ex.refl _)⟩) ev_c rv_neI)) fun _ => et_not (et_B (ev_call1 (z := .bl true) (R := NewL (iv [i, j]) H) (fun H1 e Q q => ⟨_, rfl, t, iv [i, j], rfl, .inr (ex_t e (st_of ht)), fun l hn => q _ _ (Ex.new hn) ⟨l, rfl, fresh_back e hn, upd_same⟩⟩) fun x H1 e ⟨p, hx, _, hp⟩ => ⟨(.ref p, [i, j]), ⟨by rw [hx], ⟨p, rfl, hp⟩, by show 2 ≤ 10000; decide⟩, fun _ _ _ p => p⟩))) rfl
    · refine q_asgG (evr (v := .ref t) (ev_var rfl)) fun v H2 e2 hv => ?_
      subst hv
      refine g_tup2 (st_of ((e1.trans e2) _ _ ht)) ?_
      have ha2 := (e1.trans e2) _ _ ha
      have hlen : ∀ {σ : L2.St} {te : TE}, Ev te σ H2 (.ref a) → Ev (tCB (rLenQ K) (tCons te tNil)) σ H2 (.int (ns.length : Int)) := fun {σ te} h => ev_is (ev_lenL h (sq_of ha2)) (by rw [iv_len])
      refine s_ret (v := .bl true) (ev_andV (a := true) (b := true) (ev_is (ev_chain3 (a := decide (0 ≤ i)) (b := decide (i ≤ j)) (c := decide (j < (ns.length : Int))) ev_c (ev_var rfl) rv_I0 (fun _ => ev_var rfl) (fun _ => rv_I0) (fun _ _ => hlen (ev_var rfl)) fun _ _ => rv_I0) (by rw [decide_eq_true h0, decide_eq_true hij, decide_eq_true hj]; rfl)) fun _ => ev_is (ev_op (ev_op (x := .int ((ns.drop i.toNat).take (j + 1 - i).toNat).sum) (ev_sumN (H0 := H2) ((er_sl (ev_var rfl) (eo_some (i := i) (ev_var rfl)) (eo_some (i := j + 1) (ev_op (ev_var rfl) ev_c rv_I0)) (sq_of ha2)).imp fun v H3 _ ⟨p, hv, hn, hp⟩ => ⟨p, hv, hn, ?_⟩)) (hlen (ev_var rfl)) (rv_I (by show (0 : Int) < (ns.length : Int); omega))) ev_c rv_eqI) (by rw [hsum]; rfl)) fun H3 e3 => k _ _ (e1.trans (e2.trans e3)) rfl
      rw [hp]
      have e : cutV (iv ns) (some i) (some (j + 1)) = iv ((ns.drop i.toNat).take (j + 1 - i).toNat) := by
        have h := iv_cut_nat ns (i := i.toNat) (j := (j + 1).toNat) (by omega) (by omega)
        rw [Int.toNat_of_nonneg h0, Int.toNat_of_nonneg (by omega)] at h
        rw [h]
        congr 2
        omega
      rw [e]
theorem ok_l_picked (T : Txt K mg A) : Okk P w K mg base 3 A.a_l_picked ["_law_numbers_here", "_law_found"] (sp_l_picked K) := by
  obtain ⟨_, G_l_numbers, b_l_numbers, k_l_numbers⟩ := ok_l_numbers (P := P) (w := w) (base := base) T
  refine okk T.F_l_picked sc_l_picked (fun vs H Q E h => ?_) (fun cdv Ar outer s H vs Q E hr h => ?_)
  · obtain ⟨d, ⟨rfl, _⟩, _⟩ := h
    rfl
  · obtain ⟨⟨v0, ns, v1, ys⟩, ⟨rfl, ⟨a, rfl, ha⟩, hl, hne, ⟨b, rfl, hb⟩, hS⟩, k⟩ := h
    dsimp only at ha hl hne hb hS
    have hr_l_numbers : Room 2 _ := hr.mono (by decide)
    obtain ⟨hsort, hrg, hcnt, hsum⟩ := hS
    have hn0 : 0 < ns.length := List.length_pos_iff.mpr hne
    refine ⟨_, (pss_cons (ps_if (PW.pt (pw_or (pt_not (pt_val (pe_call G_l_numbers hr_l_numbers (by rfl) T.g_l_numbers k_l_numbers b_l_numbers .nil pass0 (pa_cons (pv 1) pa_nil)))) (pw_or1 (pt_cmpR op_ne (pe_op op_sub (pe_op op_mul pe_int (pe_callB (len_seqK K) (by rfl) T.z_len (by decide +kernel) (pa_cons (pv 1) pa_nil))) pe_int) (pe_callB (len_seqK K) (by rfl) T.z_len (by decide +kernel) (pa_cons (pv 0) pa_nil)) (nomark _))))) (pss_one (ps_ret pe_bl)) pss_nil)
      (pss_cons (ps_set (i := 2) sc_l_picked.nd rfl (.inl rfl) (pe_un un_neg pe_int))
      (pss_cons (ps_for PassesOwn.never rfl (pi_listK K (pv 1)) (pg_name (i := 3) sc_l_picked.nd rfl (Or.inl rfl)) (pss_cons (ps_if (pt_not (pt_chain op_lt op_lt (pv 2) (pv 3) (pe_callB (len_seqK K) (by rfl) T.z_len (by decide +kernel) (pa_cons (pv 0) pa_nil)))) (pss_one (ps_ret pe_bl)) pss_nil)
      (pss_one (ps_set (i := 2) sc_l_picked.nd rfl (.inl rfl) (pv 3)))))
      (pss_one (ps_ret (pe_cmpR op_eq (pe_op op_mod (pe_callB (sumK K rfl) (by rfl) T.z_sum (by decide +kernel) (pa_cons (pe_lc (own := [("_law_place", 3)]) rfl sc_l_picked.nd (pi_listK K (pv 1)) (blkOk_by (N := ["_law_numbers_here", "_law_found", "_law_last", "_law_place"]) (sc := defScope s_l_picked) (by decide +kernel)) (fun _ _ _ _ _ => (pg_name (i := 3) sc_l_picked.nd rfl (Or.inl rfl))) (fun _ _ _ _ _ => pts_nil) (fun _ _ _ _ _ => (pe_ix (ix_listK K) (pv 0) (pv 3) (fun _ _ => rfl)))) pa_nil)) (pe_callB (len_seqK K) (by rfl) T.z_len (by decide +kernel) (pa_cons (pv 1) pa_nil))) pe_int (nomark _))))))), ?_⟩
    have hlen : ∀ {H' : Hp}, Ex H H' → ∀ {σ : L2.St} {te : TE}, Ev te σ H' (.ref a) → Ev (tCB (rLenQ K) (tCons te tNil)) σ H' (.int (ns.length : Int)) := fun {H'} e {σ te} h => ev_is (ev_lenL h (sq_of (e _ _ ha))) (by rw [iv_len])
    have hlen2 : ∀ {H' : Hp}, Ex H H' → ∀ {σ : L2.St} {te : TE}, Ev te σ H' (.ref b) → Ev (tCB (rLenQ K) (tCons te tNil)) σ H' (.int (ys.length : Int)) := fun {H'} e {σ te} h => ev_is (ev_lenL h (sq_of (e _ _ hb))) (by rw [iv_len])
    refine q_when (b := false) ?_ (fun z => nomatch z) fun _ H1 e1 => ?_
    · refine et_is (et_or (et_not (et_B (ev_call0 (z := .bl true) (.ref b, ys) (ea_cons (ev_var rfl) ea_nil) (fun H1 e => ⟨rfl, ⟨b, rfl, e _ _ hb⟩, by show ys.length ≤ 10000; omega⟩) fun _ _ _ p => p))) fun _ => et_test (ev_op (ev_op (ev_op ev_c (hlen2 (Ex.refl H) (ev_var rfl)) (rv_I (.inl (by decide)))) ev_c rv_I0) (hlen (Ex.refl H) (ev_var rfl)) rv_neI)) ?_
      rw [decide_eq_true (show 2 * (ys.length : Int) - 1 = (ns.length : Int) by omega)]
      rfl
    refine q_asg (v := .int (-1)) (ev_un ev_c ru_neg) fun H2 e2 => ?_
    have e12 := e1.trans e2
    refine q_forL (xs := iv ys) (ev_var rfl) (sq_of (e12 _ _ hb)) (fun i σ' H' => ∃ (last : Int) (s3 : Option V), σ' = [some (.ref a), some (.ref b), some (.int last), s3] ∧ Ex H H' ∧ ∀ y, ys[i]? = some y → last < y) (fun H3 e3 => ⟨-1, none, rfl, e12.trans e3, fun y hy => by have := (hrg y (List.mem_of_getElem? hy)).1; omega⟩) (fun i σ' H' _ ⟨_, _, _, e, _⟩ => sq_of (e _ _ hb)) (fun i x σ' H' hx hP => ?_) fun σ' H' hP => ?_
    · obtain ⟨last, s3, rfl, e3, hlast⟩ := hP
      obtain ⟨hi, rfl⟩ := iv_get hx
      have hyi : ys[i]? = some (ys.getD i 0) := by rw [List.getD_eq_getElem?_getD, List.getElem?_eq_getElem hi]; rfl
      have h1 := hlast _ hyi
      have h2 := (hrg _ (getD_mem hi)).2
      refine q_when (b := false) ?_ (fun z => nomatch z) fun _ H4 e4 => ?_
      · refine et_is (et_not (et_test (ev_chain (a := decide (last < ys.getD i 0)) (b := decide (ys.getD i 0 < (ns.length : Int))) (ev_var rfl) (ev_var rfl) rv_I0 (fun _ => hlen e3 (ev_var rfl)) fun _ => rv_I0))) ?_
        rw [decide_eq_true h1, decide_eq_true h2]
        rfl
      · refine s_asg (v := .int (ys.getD i 0)) (ev_var rfl) fun H5 e5 => ⟨_, _, rfl, e3.trans (e4.trans e5), fun y hy => ?_⟩
        obtain ⟨hj, hyj⟩ := List.getElem?_eq_some_iff.mp hy
        have := List.pairwise_iff_getElem.mp hsort i (i + 1) hi hj (by omega)
        rw [hyj] at this
        rw [List.getD_eq_getElem?_getD, List.getElem?_eq_getElem hi]
        exact this
    · obtain ⟨last, s3, rfl, e3, _⟩ := hP
      refine s_ret (v := .bl true) (ev_is (ev_op (ev_op (x := .int (ys.map fun y => ns.getD y.toNat 0).sum) (ev_sumN (H0 := H') ?_) (hlen2 e3 (ev_var rfl)) (rv_I (by show (0 : Int) < (ys.length : Int); omega))) ev_c rv_eqI) (by rw [hsum]; rfl)) fun H4 e4 => k _ _ (e3.trans e4) rfl
      rw [iv_map]
      refine er_lcI (fun y => V.int (ns.getD y.toNat 0)) (ev_var rfl) (sq_of (e3 _ _ hb)) (by omega) (fun _ => rfl) fun y hy => ?_
      obtain ⟨y0, y1⟩ := hrg y hy
      refine ev_op (ev_var rfl) (ev_var rfl) (rv_ixL (sq_of (e3 _ _ ha)) ?_)
      have := atI_nat (xs := iv ns) (j := y.toNat) (v := .int (ns.getD y.toNat 0)) (by rw [List.getElem?_map, List.getElem?_eq_getElem (by omega), List.getD_eq_getElem?_getD, List.getElem?_eq_getElem (by omega)]; rfl)
      rw [Int.toNat_of_nonneg y0] at this
      exact this
theorem ok_l_bad_count (T : Txt K mg A) : Okk P w K mg base 9 A.a_l_bad_count ["_law_ask", "_law_numbers_here"] (sp_l_bad_count K) := by
  obtain ⟨_, G_chosen, b_chosen, k_chosen⟩ := okx_chosen (P := P) (w := w) (base := base) T
  obtain ⟨_, G_stretch, b_stretch, k_stretch⟩ := okx_stretch (P := P) (w := w) (base := base) T
  refine okk T.F_l_bad_count sc_l_bad_count (fun vs H Q E h => ?_) (fun cdv Ar outer s H vs Q E hr h => ?_)
  · obtain ⟨d, ⟨rfl, _⟩, _⟩ := h
    rfl
  · obtain ⟨⟨ask, v, ns⟩, ⟨rfl, hN, hc⟩, k⟩ := h
    dsimp only at hN hc
    have hr_chosen : Room 8 _ := hr.mono (by decide)
    have hr_stretch : Room 4 _ := hr.mono (by decide)
    refine ⟨_, (pss_cons (L2N.ps_try_as (i := 2) (Wout := fun _ _ _ _ => False) (tb := fun W => tDrop (tIf (tTest (tOp rEq (tVar 0) (tC (.int 1)))) (tCallS (spx_chosen K A) (WE W) (tCons (tVar 1) tNil)) (tCallS (spx_stretch K A) (WE W) (tCons (tVar 1) tNil)))) rfl rfl sc_l_bad_count.nd rfl rfl ⟨rfl, by decide, Or.inl T.g_RestError⟩ takes0N (fun W pn xe tk _ => pss_one (ps_expr (by exact (pe_ifExp (pt_cmpR op_eq (pv 0) pe_int (nomark _)) (pe_callS G_chosen hr_chosen (by rfl) T.g_chosen k_chosen b_chosen (fun σ => L2N.passAt tk σ) (pa_cons (pv 1) pa_nil)) (pe_callS G_stretch hr_stretch (by rfl) T.g_stretch k_stretch b_stretch (fun σ => L2N.passAt tk σ) (pa_cons (pv 1) pa_nil)))))) (fun a oe cls d pn hz hf => (pss_cons (ps_set (i := 3) sc_l_bad_count.nd rfl (.inl rfl) (pe_lst (pa_cons (pe_callB (call_isQ K hz.zc hf) (by rfl) T.z_isinstance (by decide +kernel) (pa_cons (pv 2) (pa_cons (pe_glob (v := .ref A.c_BadNumbers) (by rfl) T.g_BadNumbers rfl) pa_nil))) (pa_cons (pe_callB (call_isQ K hz.zc hf) (by rfl) T.z_isinstance (by decide +kernel) (pa_cons (pv 2) (pa_cons (pe_glob (v := .ref A.c_BadRest) (by rfl) T.g_BadRest rfl) pa_nil))) (pa_cons (pe_callB (call_isQ K hz.zc hf) (by rfl) T.z_isinstance (by decide +kernel) (pa_cons (pv 2) (pa_cons (pe_glob (v := .ref A.c_BadRests) (by rfl) T.g_BadRests rfl) pa_nil))) pa_nil)))))
      (pss_cons (ps_set (i := 3) sc_l_bad_count.nd rfl (.inl rfl) (pe_op op_cat (pv 3) (pe_lst (pa_cons (pe_callB (call_isQ K hz.zc hf) (by rfl) T.z_isinstance (by decide +kernel) (pa_cons (pv 2) (pa_cons (pe_glob (v := .ref A.c_BadRound) (by rfl) T.g_BadRound rfl) pa_nil))) (pa_cons (pe_callB (call_isQ K hz.zc hf) (by rfl) T.z_isinstance (by decide +kernel) (pa_cons (pv 2) (pa_cons (pe_glob (v := .ref A.c_BadText) (by rfl) T.g_BadText rfl) pa_nil))) (pa_cons (pe_not (pe_callB (call_isQ K hz.zc hf) (by rfl) T.z_isinstance (by decide +kernel) (pa_cons (pv 2) (pa_cons (pe_bltn (v := .ty "ValueError") (by rfl) T.z_ValueError (by decide +kernel) rfl) pa_nil)))) pa_nil))))))
      (pss_one (ps_ret (pe_and (pe_callB (call_isQ K hz.zc hf) (by rfl) T.z_isinstance (by decide +kernel) (pa_cons (pv 2) (pa_cons (pe_glob (v := .ref A.c_BadCount) (by rfl) T.g_BadCount rfl) pa_nil))) (pe_one (pe_not (pe_callB (anyHK K (hotk_n hz hf)) (by rfl) T.z_any (by decide +kernel) (pa_cons (pv 3) pa_nil)))))))))))
      (pss_one (ps_ret pe_bl))), ?_⟩
    refine s_dropIf (b := decide (ask = 1)) (et_test (ev_op (ev_var rfl) ev_c rv_eqI)) (fun hb H1 e1 => s_dropS (ea_cons (ev_var rfl) ea_nil) fun H2 e2 => .inr ⟨(v, ns), ⟨rfl, hN.up (e1.trans e2), ?_⟩, fun H3 e3 => ⟨true, T.em_BadCount_RestError, fun _ a _ => ?_, fun z => nomatch z⟩⟩) (fun hb H1 e1 => s_dropS (ea_cons (ev_var rfl) ea_nil) fun H2 e2 => .inr ⟨v, ⟨rfl, ?_⟩, fun H3 e3 => ⟨true, T.em_BadCount_RestError, fun _ a _ => ?_, fun z => nomatch z⟩⟩)
    · have hb := of_decide_eq_true hb
      rcases hc with ⟨_, hc⟩ | ⟨hc, _⟩
      · exact hc
      · exact absurd hb hc
    rotate_left
    · have hb := of_decide_eq_false hb
      rcases hc with ⟨hc, _⟩ | ⟨_, hc⟩
      · exact absurd hc hb
      · have := hN.up (e1.trans e2)
        rw [hc] at this
        exact this
    all_goals
      have C := T.xc_BadCount
      refine q_asgR (σ := [some (.int ask), some v, some (.ref a), none]) (er_new (xs := [V.bl false, V.bl false, V.bl false]) (ea_cons (ev_isQ C (ev_var rfl) ev_c rv_ref T.kq_BadCount_BadNumbers) (ea_cons (ev_isQ C (ev_var rfl) ev_c rv_ref T.kq_BadCount_BadRest) (ea_cons (ev_isQ C (ev_var rfl) ev_c rv_ref T.kq_BadCount_BadRests) ea_nil))) (by walk_at "sz")) fun v4 H4 e4 ⟨p4, hv4, hn4, hp4⟩ => ?_
      subst hv4
      refine q_asgR (er_cat (xs := [V.bl false, V.bl false, V.bl false]) (ys := [V.bl false, V.bl false, V.bl false]) ((evr (v := .ref p4) (ev_var rfl)).imp fun v H5 e5 hv => ⟨p4, hv, e5 _ _ hp4⟩) ((er_new (ea_cons (ev_isQ C (ev_var rfl) ev_c rv_ref T.kq_BadCount_BadRound) (ea_cons (ev_isQ C (ev_var rfl) ev_c rv_ref T.kq_BadCount_BadText) (ea_cons (ev_notV (a := true) (ev_isQ C (ev_var rfl) ev_c rv_ty T.kq_BadCount_ValueError)) ea_nil))) (by walk_at "sz")).imp fun v H5 _ ⟨q, hv, _, hq⟩ => ⟨q, hv, hq⟩) (by walk_at "sz")) fun v5 H5 e5 ⟨p5, hv5, hn5, hp5⟩ => ?_
      subst hv5
      exact s_ret (v := .bl true) (ev_andV (a := true) (b := true) (ev_isQ C (ev_var rfl) ev_c rv_ref T.kq_BadCount_BadCount) fun _ => ev_notV (a := false) (ev_any (bs := [false, false, false, false, false, false]) (ev_var rfl) (sq_of hp5))) fun H6 e6 => k _ _ (e1.trans (e2.trans (e3.trans (e4.trans (e5.trans e6))))) rfl
end
/-! ### the law -/
def sp_law (K : PySem.W.Frag) : Sp := fun vs H Q _ => ∃ v ns, vs = [v] ∧ Scr K H v ns ∧ ∀ H', Q (.bl true) H'
def SomeN (v : V) (H : Hp) : Prop := ∃ ns, NumsAt v ns H
theorem upSomeN : UpH SomeN := fun _ _ _ e ⟨ns, h⟩ => ⟨ns, h.up e⟩
def SomeO (v : V) (H : Hp) : Prop := ∃ ns, NumsAt v ns H ∧ (ns = [] ∨ ns.length % 2 = 1)
theorem upSomeO : UpH SomeO := fun _ _ _ e ⟨ns, h, ho⟩ => ⟨ns, h.up e, ho⟩
theorem NumsAt.rev {ns : List Int} {H : Hp} {v w : V} (h : NumsAt v ns H) (hw : LstAt (iv ns.reverse) w H) : NumsAt w ns.reverse H := ⟨hw, by rw [List.length_reverse]; exact h.2.1, fun n hn => h.2.2 n (List.mem_reverse.mp hn)⟩
theorem NumsAt.addr {ns : List Int} {H : Hp} {v : V} (h : NumsAt v ns H) : ∃ a, v = .ref a ∧ H a = some (.lst (iv ns)) := h.1
theorem ch_one {x : Int} {ys : List Int} (h : ChOk [x] ys) : ys = [0] := by
  obtain ⟨_, h2, h3, _⟩ := h
  have hl : ys.length = 1 := by
    have : 2 * ys.length = 1 + 1 := h3
    omega
  match ys, hl with
  | [y], _ =>
    have := h2 y List.mem_cons_self
    have h : 0 ≤ y ∧ y < (1 : Int) := this
    have : y = 0 := by omega
    rw [this]
theorem str_one {x i j : Int} (h : StrOk [x] i j) : i = 0 ∧ j = 0 := by
  obtain ⟨h1, h2, h3, _⟩ := h
  have h3 : j < (1 : Int) := h3
  omega
section
variable {K : PySem.W.Frag} {H : Hp} {σ : L2.St} {te : TE}
/-- some != [] -/
theorem et_some {i : Nat} {a : Addr} {ns : List Int} (hv : σ[i]? = some (some (.ref a))) (ha : H a = some (.lst (iv ns))) : EvT (tTest (tOp (rNeD K) (tVar i) (tLst tNil))) σ H (!decide (ns = [])) := by
  refine et_test ((er_op (Ra := fun v _ => v = .ref a) (Rb := fun _ v H => LstAt (iv []) v H) (R := fun v _ => v = .bl (!decide (ns = []))) (evr (ev_var hv)) (fun x H3 e3 _ => (er_new (xs := iv []) ea_nil (by show 0 ≤ 100000; decide)).imp fun v H4 _ ⟨p, hv, _, hp⟩ => ⟨p, hv, hp⟩) fun x y H3 H4 e3 hx3 e4 ⟨p, hy, hp⟩ Q q => ?_).ev fun _ _ _ p => p)
  subst hx3 hy
  refine rv_neD (dp_ints (sq_of ((e3.trans e4) _ _ ha))) (dp_ints (ns := []) (sq_of hp)) (sh_ints ns) (sh_ints []) (b := !decide (ns = [])) ?_ H4 (Ex.refl _) Q fun H5 e5 => q _ H5 e5 rfl
  cases ns with
  | nil =>
    rw [SeqAt.eqv_refl (dInts []) (can_of (sh_ints []))]
    rfl
  | cons p r => rfl
theorem er_one {x : Int} {t1 : TE} (h : Ev t1 σ H (.int x)) (h0 : -1000000 ≤ x) (h1 : x ≤ 1000000) : EvR (tLst (tCons t1 tNil)) σ H (fun v H => NumsAt v [x] H) := (er_new (xs := iv [x]) (ea_cons h ea_nil) (by show 1 ≤ 100000; decide)).imp fun v H1 _ ⟨p, hv, _, hp⟩ => ⟨⟨p, hv, hp⟩, by show 1 ≤ 63; decide, fun n hn => by
  rw [List.mem_singleton.mp hn]
  exact ⟨h0, h1⟩⟩
end
section
variable {P : Program} {w : World} {K : PySem.W.Frag} {mg : Str → Option Value} {base : Heap} {A : Ad}
theorem er_stretch {σ : L2.St} {H : Hp} {te : TE} {ns : List Int} {E : XK} (h : EvR te σ H (fun v H => NumsAt v ns H)) (hn : ns ≠ []) : EvR (tCall (spx_stretch K A) [] E (tCons te tNil)) σ H (fun v H' => ∃ t i j, v = .ref t ∧ H' t = some (.tup [.int i, .int j]) ∧ StrOk ns i j) := fun H1 e Q q => h H1 e _ fun v H2 e2 hv =>
  .inl ⟨(v, ns), ⟨rfl, hv, hn⟩, fun v H3 e3 p => q v H3 (e2.trans e3) p⟩
theorem er_chosen {σ : L2.St} {H : Hp} {te : TE} {ns : List Int} {E : XK} (h : EvR te σ H (fun v H => NumsAt v ns H)) (hn : ns.length % 2 = 1) : EvR (tCall (spx_chosen K A) [] E (tCons te tNil)) σ H (fun v H' => ∃ ys, NewL (iv ys) H v H' ∧ ChOk ns ys) := fun H1 e Q q => h H1 e _ fun v H2 e2 hv =>
  .inl ⟨(v, ns), ⟨rfl, hv, hn⟩, fun v H3 e3 ⟨ys, ⟨p, hp1, hp2, hp3⟩, hc⟩ => q v H3 (e2.trans e3) ⟨ys, ⟨p, hp1, fresh_back (e.trans e2) hp2, hp3⟩, hc⟩⟩
theorem ev_bad {σ : L2.St} {H : Hp} {t1 te : TE} {ask : Int} {ns : List Int} (h1 : Ev t1 σ H (.int ask)) (h : EvR te σ H (fun v H => NumsAt v ns H)) (hc : (ask = 1 ∧ ns.length % 2 = 0) ∨ (ask ≠ 1 ∧ ns = [])) : Ev (tCall (sp_l_bad_count K) [] E0 (tCons t1 (tCons te tNil))) σ H (.bl true) := fun H1 e Q q =>
  h1 H1 e _ fun H2 e2 => h H2 (e.trans e2) _ fun v H3 e3 hv => ⟨(ask, v, ns), ⟨rfl, hv, hc⟩, fun v H4 e4 p => by rw [p]; exact q H4 (e2.trans (e3.trans e4))⟩
theorem er_none {σ : L2.St} {H : Hp} : EvR (tLst tNil) σ H (fun v H => NumsAt v [] H) := (er_new (xs := iv []) ea_nil (by show 0 ≤ 100000; decide)).imp fun v H1 _ ⟨p, hv, _, hp⟩ => ⟨⟨p, hv, hp⟩, Nat.zero_le _, fun n hn => nomatch hn⟩
theorem ok_law (T : Txt K mg A) {fd : FuncData} (F : Fun K "law" "law" s_law A.a_law fd) : FnOk P w K mg base CX0 10 A.a_law fd ["_law_script"] (sp_law K) := by
  obtain ⟨_, G_chosen, b_chosen, k_chosen⟩ := okx_chosen (P := P) (w := w) (base := base) T
  obtain ⟨_, G_l_bad_count, b_l_bad_count, k_l_bad_count⟩ := ok_l_bad_count (P := P) (w := w) (base := base) T
  obtain ⟨_, G_l_picked, b_l_picked, k_l_picked⟩ := ok_l_picked (P := P) (w := w) (base := base) T
  obtain ⟨_, G_l_row, b_l_row, k_l_row⟩ := ok_l_row (P := P) (w := w) (base := base) T
  obtain ⟨_, G_l_stretched, b_l_stretched, k_l_stretched⟩ := ok_l_stretched (P := P) (w := w) (base := base) T
  obtain ⟨_, G_stretch, b_stretch, k_stretch⟩ := okx_stretch (P := P) (w := w) (base := base) T
  refine F.ok sc_law (fun vs H Q E h => ?_) (fun cdv Ar outer s H vs Q E hr h => ?_)
  · obtain ⟨_, _, rfl, _⟩ := h
    rfl
  · obtain ⟨_, ns, rfl, ⟨a, rfl, hS, hl⟩, k⟩ := h
    have hr_chosen : Room 8 _ := hr.mono (by decide)
    have hr_l_bad_count : Room 9 _ := hr.mono (by decide)
    have hr_l_picked : Room 3 _ := hr.mono (by decide)
    have hr_l_row : Room 2 _ := hr.mono (by decide)
    have hr_l_stretched : Room 3 _ := hr.mono (by decide)
    have hr_stretch : Room 4 _ := hr.mono (by decide)
    refine ⟨_, (pss_cons (ps_set (i := 1) sc_law.nd rfl (.inl rfl) (pe_call G_l_row hr_l_row (by rfl) T.g_l_row k_l_row b_l_row .nil pass0 (pa_cons (pv 0) pa_nil)))
      (pss_cons (ps_if (PW.pt (pw_or (pt_not (pt_val (pe_call G_l_bad_count hr_l_bad_count (by rfl) T.g_l_bad_count k_l_bad_count b_l_bad_count .nil pass0 (pa_cons pe_int (pa_cons (pe_lst pa_nil) pa_nil))))) (pw_or1 (pt_not (pt_val (pe_call G_l_bad_count hr_l_bad_count (by rfl) T.g_l_bad_count k_l_bad_count b_l_bad_count .nil pass0 (pa_cons pe_int (pa_cons (pe_lst pa_nil) pa_nil)))))))) (pss_one (ps_ret pe_bl)) pss_nil)
      (pss_cons (ps_set (i := 2) sc_law.nd rfl (.inl rfl) (pe_slice (sl_listK K) (pv 1) po_none (po_some (pe_op op_add (pe_op op_sub (pe_callB (len_seqK K) (by rfl) T.z_len (by decide +kernel) (pa_cons (pv 1) pa_nil)) pe_int) (pe_op op_mod (pe_callB (len_seqK K) (by rfl) T.z_len (by decide +kernel) (pa_cons (pv 1) pa_nil)) pe_int)))))
      (pss_cons (ps_if (PW.pt (pw_and (pt_cmpR op_eq (pe_op op_mod (pe_callB (len_seqK K) (by rfl) T.z_len (by decide +kernel) (pa_cons (pv 1) pa_nil)) pe_int) pe_int (nomark _)) (pw_and1 (pt_not (pt_val (pe_call G_l_bad_count hr_l_bad_count (by rfl) T.g_l_bad_count k_l_bad_count b_l_bad_count .nil pass0 (pa_cons pe_int (pa_cons (pv 1) pa_nil)))))))) (pss_one (ps_ret pe_bl)) pss_nil)
      (pss_cons (ps_for PassesOwn.never rfl (pi_tupK K (pe_tup (pa_cons (pv 1) (pa_cons (pe_revLK K (pv 1)) (pa_cons (pv 1) pa_nil))))) (pg_name (i := 3) sc_law.nd rfl (Or.inl rfl)) (pss_cons (ps_set (i := 4) sc_law.nd rfl (.inl rfl) (pe_callTy (list_ofK K) (by rfl) T.z_list (by decide +kernel) (pa_cons (pv 3) pa_nil)))
      (pss_one (ps_if (PW.pt (pw_and (pt_cmpR (neDK K hr.units) (pv 3) (pe_lst pa_nil) (nomark _)) (pw_and1 (PW.pt (pw_or (pt_not (pt_val (pe_call G_l_stretched hr_l_stretched (by rfl) T.g_l_stretched k_l_stretched b_l_stretched .nil pass0 (pa_cons (pv 3) (pa_cons (pe_call G_stretch hr_stretch (by rfl) T.g_stretch k_stretch b_stretch .nil passX0 (pa_cons (pv 4) pa_nil)) pa_nil))))) (pw_or1 (pt_cmpR (neDK K hr.units) (pv 4) (pv 3) (nomark _)))))))) (pss_one (ps_ret pe_bl)) pss_nil))))
      (pss_cons (ps_for PassesOwn.never rfl (pi_tupK K (pe_tup (pa_cons (pv 2) (pa_cons (pe_revLK K (pv 2)) (pa_cons (pv 2) pa_nil))))) (pg_name (i := 3) sc_law.nd rfl (Or.inl rfl)) (pss_cons (ps_set (i := 4) sc_law.nd rfl (.inl rfl) (pe_callTy (list_ofK K) (by rfl) T.z_list (by decide +kernel) (pa_cons (pv 3) pa_nil)))
      (pss_one (ps_if (pt_cmpR (neDK K hr.units) (pv 3) (pe_lst pa_nil) (nomark _)) (pss_cons (ps_set (i := 5) sc_law.nd rfl (.inl rfl) (pe_call G_chosen hr_chosen (by rfl) T.g_chosen k_chosen b_chosen .nil passX0 (pa_cons (pv 4) pa_nil)))
      (pss_cons (ps_if (PW.pt (pw_or (pt_not (pt_val (pe_call G_l_picked hr_l_picked (by rfl) T.g_l_picked k_l_picked b_l_picked .nil pass0 (pa_cons (pv 3) (pa_cons (pv 5) pa_nil))))) (pw_or1 (pt_cmpR (neDK K hr.units) (pv 4) (pv 3) (nomark _))))) (pss_one (ps_ret pe_bl)) pss_nil)
      (pss_one (ps_expr (pe_bm PySem.F.plainAttrs_list PySem.F.slot_list_append PySem.F.type_list_append mt_append (pv 5) (pa_cons pe_int pa_nil)))))) pss_nil))))
      (pss_one (ps_ret (pe_and (pe_cmpR (eqDK K hr.units) (pe_call G_chosen hr_chosen (by rfl) T.g_chosen k_chosen b_chosen .nil passX0 (pa_cons (pe_lst (pa_cons pe_int pa_nil)) pa_nil)) (pe_lst (pa_cons pe_int pa_nil)) (nomark _)) (pe_one (pe_cmpR (eqDK K hr.units) (pe_call G_stretch hr_stretch (by rfl) T.g_stretch k_stretch b_stretch .nil passX0 (pa_cons (pe_lst (pa_cons pe_int pa_nil)) pa_nil)) (pe_tup (pa_cons pe_int (pa_cons pe_int pa_nil))) (nomark _)))))))))))), ?_⟩
    refine q_asgR (R := fun v H2 => ∃ ms, NumsAt v ms H2) (er_call (V.ref a, ns) (ea_cons (ev_var rfl) ea_nil) (fun H1 e => ⟨rfl, a, rfl, ex_l e hS, hl⟩) fun H1 v H2 _ _ ⟨ms, ⟨q, hv, _, hq⟩, h2, h3⟩ => ⟨ms, ⟨q, hv, hq⟩, by rw [h2]; exact hl, h3⟩) fun v1 H1 e1 ⟨ms, hN⟩ => ?_
    obtain ⟨p0, rfl, hp0⟩ := hN.addr
    have hl0 := hN.2.1
    refine q_when (b := false) (et_is (et_or (et_not (et_B (ev_bad (ns := []) ev_c er_none (.inr ⟨by decide, rfl⟩)))) fun _ => et_not (et_B (ev_bad (ns := []) ev_c er_none (.inl ⟨rfl, rfl⟩)))) rfl) (fun z => nomatch z) fun _ H2 e2 => ?_
    have hp2 := e2 _ _ hp0
    have hlen : ∀ {H' : Hp}, Ex H2 H' → ∀ {σ : L2.St} {te : TE}, Ev te σ H' (.ref p0) → Ev (tCB (rLenQ K) (tCons te tNil)) σ H' (.int (ms.length : Int)) := fun {H'} e {σ te} h => ev_is (ev_lenL h (sq_of (e _ _ hp2))) (by rw [iv_len])
    -- the odd ones
    obtain ⟨os, hos, hoo, hol, hob⟩ : ∃ os : List Int, cutV (iv ms) none (some ((ms.length : Int) - 1 + (ms.length : Int) % 2)) = iv os ∧ (os = [] ∨ os.length % 2 = 1) ∧ os.length ≤ 63 ∧ ∀ x ∈ os, x ∈ ms := by
      by_cases hz : ms.length = 0
      · have hz' : ms = [] := List.eq_nil_of_length_eq_zero hz
        subst hz'
        refine ⟨[], ?_, .inl rfl, by decide, fun x h => h⟩
        have := cutV_length (iv []) none (some (((([] : List Int)).length : Int) - 1 + ((([] : List Int)).length : Int) % 2))
        exact List.eq_nil_of_length_eq_zero (Nat.le_zero.mp this)
      · have e : (ms.length : Int) - 1 + (ms.length : Int) % 2 = ((ms.length - 1 + ms.length % 2 : Nat) : Int) := by omega
        have h0 := iv_cut_nat ms (i := 0) (j := ms.length - 1 + ms.length % 2) (Nat.zero_le _) (by omega)
        rw [List.drop_zero, Nat.sub_zero] at h0
        have h1 : cutV (iv ms) none (some ((ms.length - 1 + ms.length % 2 : Nat) : Int)) = cutV (iv ms) (some ((0 : Nat) : Int)) (some ((ms.length - 1 + ms.length % 2 : Nat) : Int)) := by
          unfold cutV
          rw [HT.sIx_none, HT.sIx_nat (iv ms).length 0 0, Nat.zero_min]
        refine ⟨ms.take (ms.length - 1 + ms.length % 2), by rw [e, h1, h0], .inr ?_, ?_, fun x h => List.mem_of_mem_take h⟩
        · rw [List.length_take]
          omega
        · rw [List.length_take]
          omega
    refine q_asgR ((er_sl (ev_var rfl) eo_none (eo_some (ev_op (ev_op (hlen (Ex.refl H2) (ev_var rfl)) ev_c rv_I0) (ev_op (hlen (Ex.refl H2) (ev_var rfl)) ev_c (rv_I (by decide))) rv_I0)) (sq_of hp2)).imp (R' := fun v H3 => ∃ q, v = .ref q ∧ H3 q = some (.lst (iv os))) fun v H3 _ ⟨q, hv, _, hq⟩ => ⟨q, hv, by rw [← hos]; exact hq⟩) fun v3 H3 e3 ⟨po, hv3, hpo⟩ => ?_
    subst hv3
    have hN3 : NumsAt (.ref p0) ms H3 := hN.up (e2.trans e3)
    have hO3 : NumsAt (.ref po) os H3 := ⟨⟨po, rfl, hpo⟩, hol, fun x hx => hN.2.2 x (hob x hx)⟩
    refine q_when (b := false) ?_ (fun z => nomatch z) fun _ H4 e4 => ?_
    · refine et_is (et_and (b := false) (et_test (ev_op (ev_op (hlen e3 (ev_var rfl)) ev_c (rv_I (by decide))) ev_c rv_eqI)) fun h => et_is (et_not (et_B (ev_bad (ns := ms) ev_c ((evr (v := .ref p0) (ev_var rfl)).imp fun v H4 e4 hv => by rw [hv]; exact hN3.up e4) (.inl ⟨rfl, by have := of_decide_eq_true h; omega⟩)))) rfl) (Bool.and_false _)
    have hN4 := hN3.up e4
    have hO4 := hO3.up e4
    obtain ⟨_, hpe, hp4⟩ := hN4.addr
    cases hpe
    obtain ⟨_, hpe, hpo4⟩ := hO4.addr
    cases hpe
    refine q_forAll (n := 3) upSomeN (ear_all1 upSomeN ((evr (v := .ref p0) (ev_var rfl)).imp fun v H5 e5 hv => ⟨ms, by rw [hv]; exact hN4.up e5⟩) (ear_all1 upSomeN ((er_rev (ev_var rfl) (sq_of hp4)).imp fun v H5 e5 ⟨p, hv, _, hp⟩ => ⟨ms.reverse, (hN4.up e5).rev ⟨p, hv, by rw [← iv_reverse]; exact hp⟩⟩) (ear_all1 upSomeN ((evr (v := .ref p0) (ev_var rfl)).imp fun v H5 e5 hv => ⟨ms, by rw [hv]; exact hN4.up e5⟩) ear_all0))) (by decide) fun H5 e5 => ⟨fun σ' H' => ∃ s3 s4 : Option V, σ' = [some (.ref a), some (.ref p0), some (.ref po), s3, s4, none] ∧ Ex H5 H', ⟨_, _, rfl, Ex.refl _⟩, fun σ' H' ⟨_, _, _, e⟩ => e, fun x σ' H' hP hx => ?_, fun σ' H' hP => ?_⟩
    · obtain ⟨s3, s4, rfl, e6⟩ := hP
      obtain ⟨ts, hT⟩ := hx
      obtain ⟨b, rfl, hb⟩ := hT.addr
      refine q_asgR (er_list (ev_var rfl) (sq_of hb)) fun v7 H7 e7 ⟨c, hv7, _, hc⟩ => ?_
      subst hv7
      have hb7 := e7 _ _ hb
      refine s_when (b := false) ?_ (fun z => nomatch z) fun _ H8 e8 => ⟨_, _, rfl, e6.trans (e7.trans e8)⟩
      refine et_is (et_and (b := false) (et_some (K := K) rfl hb7) fun h => ?_) (Bool.and_false _)
      have hne : ts ≠ [] := by
        rw [Bool.not_eq_true'] at h
        exact of_decide_eq_false h
      have hC : NumsAt (.ref c) ts H7 := ⟨⟨c, rfl, hc⟩, hT.2⟩
      exact et_is (et_or (et_not (et_B (ev_is (v := .bl true) (fun H8 e8 Q' q' => (evr (v := .ref b) (ev_var rfl)) H8 e8 _ fun x H9 e9 hx => (er_stretch (K := K) (A := A) (ns := ts) ((evr (v := .ref c) (ev_var rfl)).imp fun v H10 e10 hv => by rw [hv]; exact hC.up e10) hne) H9 (e8.trans e9) _ fun y H10 e10 ⟨t, i, j, hy, ht, hS⟩ => ⟨(.ref b, ts, y), ⟨by rw [hx]; rfl, ⟨b, rfl, (e8.trans (e9.trans e10)) _ _ hb7⟩, hT.2.1, t, i, j, hy, ht, hS⟩, fun v H11 e11 p => by rw [p]; exact q' H11 (e9.trans (e10.trans e11))⟩) rfl))) fun _ => et_test (ev_op (ev_var rfl) (ev_var rfl) (rv_neSame (dp_ints (sq_of hc)) (dp_ints (sq_of hb7)) (sh_ints ts)))) rfl
    obtain ⟨s3, s4, rfl, e6⟩ := hP
    have hO6 := hO4.up (e5.trans e6)
    obtain ⟨_, hpe, hpo6⟩ := hO6.addr
    cases hpe
    refine q_forAll (n := 3) upSomeO (ear_all1 upSomeO ((evr (v := .ref po) (ev_var rfl)).imp fun v H7 e7 hv => ⟨os, by rw [hv]; exact hO6.up e7, hoo⟩) (ear_all1 upSomeO ((er_rev (ev_var rfl) (sq_of hpo6)).imp fun v H7 e7 ⟨p, hv, _, hp⟩ => ⟨os.reverse, (hO6.up e7).rev ⟨p, hv, by rw [← iv_reverse]; exact hp⟩, hoo.imp (fun h => by rw [h]; rfl) fun h => by rw [List.length_reverse]; exact h⟩) (ear_all1 upSomeO ((evr (v := .ref po) (ev_var rfl)).imp fun v H7 e7 hv => ⟨os, by rw [hv]; exact hO6.up e7, hoo⟩) ear_all0))) (by decide) fun H7 e7 => ⟨fun σ' H'' => ∃ s3 s4 s5 : Option V, σ' = [some (.ref a), some (.ref p0), some (.ref po), s3, s4, s5] ∧ Ex H7 H'', ⟨_, _, _, rfl, Ex.refl _⟩, fun σ' H'' ⟨_, _, _, _, e⟩ => e, fun x σ' H'' hP hx => ?_, fun σ' H'' hP => ?_⟩
    · obtain ⟨s3, s4, s5, rfl, e8⟩ := hP
      obtain ⟨ts, hT, hTo⟩ := hx
      obtain ⟨b, rfl, hb⟩ := hT.addr
      refine q_asgR (er_list (ev_var rfl) (sq_of hb)) fun v9 H9 e9 ⟨c, hv9, _, hc⟩ => ?_
      subst hv9
      have hb9 := e9 _ _ hb
      refine s_when (et_some (K := K) rfl hb9) (fun h H10 e10 => ?_) fun _ H10 e10 => ⟨_, _, _, rfl, e8.trans (e9.trans e10)⟩
      have hne : ts ≠ [] := by
        rw [Bool.not_eq_true'] at h
        exact of_decide_eq_false h
      have hodd : ts.length % 2 = 1 := hTo.resolve_left hne
      have hC : NumsAt (.ref c) ts H10 := ⟨⟨c, rfl, e10 _ _ hc⟩, hT.2⟩
      refine q_asgR (er_chosen (K := K) (A := A) (ns := ts) ((evr (v := .ref c) (ev_var rfl)).imp fun v H11 e11 hv => by rw [hv]; exact hC.up e11) hodd) fun v11 H11 e11 ⟨ys, ⟨f, hv11, hfn, hf⟩, hch⟩ => ?_
      subst hv11
      have hb11 := (e10.trans e11) _ _ hb9
      have hc11 := (e10.trans e11) _ _ hc
      refine q_when (b := false) ?_ (fun z => nomatch z) fun _ H12 e12 => ?_
      · exact et_is (et_or (et_not (et_B (ev_call0 (z := .bl true) (.ref b, ts, .ref f, ys) (ea_cons (ev_var rfl) (ea_cons (ev_var rfl) ea_nil)) (fun H12 e12 => ⟨rfl, ⟨b, rfl, e12 _ _ hb11⟩, hT.2.1, hne, ⟨f, rfl, e12 _ _ hf⟩, hch⟩) fun _ _ _ p => p))) fun _ => et_test (ev_op (ev_var rfl) (ev_var rfl) (rv_neSame (dp_ints (sq_of hc11)) (dp_ints (sq_of hb11)) (sh_ints ts)))) rfl
      · have hyl : ys.length ≤ 63 := by
          have := hch.2.2.1
          have := hT.2.1
          omega
        exact s_app (e12 _ _ hf) (ev_var rfl) ev_c (by rw [iv_len]; omega) fun H13 e13 => ⟨_, _, _, rfl, Ex.mut (e8.trans (e9.trans (e10.trans (e11.trans (e12.trans e13))))) (fresh_back (e8.trans (e9.trans e10)) hfn)⟩
    · obtain ⟨s3, s4, s5, rfl, e8⟩ := hP
      refine s_ret (v := .bl true) (ev_andV (a := true) (b := true) ?_ fun _ => ?_) fun H9 _ => k _
      · refine (er_op (Ra := fun v H => LstAt (iv [0]) v H) (Rb := fun _ v H => LstAt (iv [0]) v H) (R := fun v _ => v = .bl true) ((er_chosen (K := K) (A := A) (ns := [5]) (er_one ev_c (by decide) (by decide)) (by rfl)).imp fun v H9 _ ⟨ys, ⟨p, hv, _, hp⟩, hch⟩ => ⟨p, hv, by rw [ch_one hch] at hp; exact hp⟩) (fun x H9 _ _ => (er_new (xs := iv [0]) (ea_cons ev_c ea_nil) (by show 1 ≤ 100000; decide)).imp fun v H10 _ ⟨p, hv, _, hp⟩ => ⟨p, hv, hp⟩) fun x y H9 H10 e9 ⟨p, hx, hp⟩ e10 ⟨q, hy, hq⟩ Q' q' => ?_).ev fun _ _ _ p => p
        subst hx hy
        exact rv_eqSame (dp_ints (sq_of (e10 _ _ hp))) (dp_ints (sq_of hq)) (sh_ints [0]) H10 (Ex.refl _) Q' fun H11 e11 => q' _ H11 e11 rfl
      · refine (er_op (Ra := fun v H => ∃ t, v = .ref t ∧ H t = some (.tup [.int 0, .int 0])) (Rb := fun _ v H => ∃ t, v = .ref t ∧ H t = some (.tup [.int 0, .int 0])) (R := fun v _ => v = .bl true) ((er_stretch (K := K) (A := A) (ns := [7]) (er_one ev_c (by decide) (by decide)) (by simp)).imp fun v H9 _ ⟨t, i, j, hv, ht, hS⟩ => ⟨t, hv, by rw [(str_one hS).1, (str_one hS).2] at ht; exact ht⟩) (fun x H9 _ _ => (eur (eu_tup (vs := [.int 0, .int 0]) (ea_cons ev_c (ea_cons ev_c ea_nil)) (by show 2 ≤ 100000; decide))).imp fun v H10 _ ⟨p, hv, _, hp⟩ => ⟨p, hv, hp⟩) fun x y H9 H10 e9 ⟨p, hx, hp⟩ e10 ⟨q, hy, hq⟩ Q' q' => ?_).ev fun _ _ _ p => p
        subst hx hy
        exact rv_eqSame (d := .tuple [.int 0, .int 0]) (.tup (st_of (e10 _ _ hp)) (.cons (.int _) (.cons (.int _) .nil))) (.tup (st_of hq) (.cons (.int _) (.cons (.int _) .nil))) (by decide +kernel) H10 (Ex.refl _) Q' fun H11 e11 => q' _ H11 e11 rfl
end
theorem all_mk {l : PySem.W.OpenLaw} {w : World} {K : PySem.W.Frag} {h : Heap} {mg : Str → Option Value} {fa : Addr} {x_is_whole x_is_number x_check_numbers x_stretch x_least_prime x_by_prime x_by_count x_chosen x_l_cell_at x_l_draw x_l_row x_l_whole x_l_numbers x_l_stretched x_l_picked x_l_bad_count x_law y_RestError y_BadRests y_BadNumbers y_BadRound y_BadRest y_BadCount y_BadText : Addr} (X : K.In h) (G : h.Ns mainGlobals mg) (hfa : mg "law" = some (.ref fa))
    {od0 an0 : Option Addr} {sl0 : Array (Option Value)} {oc0 kV0 dc0 pm0 cd0 ct0 : Value}
    {od1 an1 : Option Addr} {sl1 : Array (Option Value)} {oc1 kV1 dc1 pm1 cd1 ct1 : Value}
    {od2 an2 : Option Addr} {sl2 : Array (Option Value)} {oc2 kV2 dc2 pm2 cd2 ct2 : Value}
    {od3 an3 : Option Addr} {sl3 : Array (Option Value)} {oc3 kV3 dc3 pm3 cd3 ct3 : Value}
    {od4 an4 : Option Addr} {sl4 : Array (Option Value)} {oc4 kV4 dc4 pm4 cd4 ct4 : Value}
    {od5 an5 : Option Addr} {sl5 : Array (Option Value)} {oc5 kV5 dc5 pm5 cd5 ct5 : Value}
    {od6 an6 : Option Addr} {sl6 : Array (Option Value)} {oc6 kV6 dc6 pm6 cd6 ct6 : Value}
    {od7 an7 : Option Addr} {sl7 : Array (Option Value)} {oc7 kV7 dc7 pm7 cd7 ct7 : Value}
    {od8 an8 : Option Addr} {sl8 : Array (Option Value)} {oc8 kV8 dc8 pm8 cd8 ct8 : Value}
    {od9 an9 : Option Addr} {sl9 : Array (Option Value)} {oc9 kV9 dc9 pm9 cd9 ct9 : Value}
    {od10 an10 : Option Addr} {sl10 : Array (Option Value)} {oc10 kV10 dc10 pm10 cd10 ct10 : Value}
    {od11 an11 : Option Addr} {sl11 : Array (Option Value)} {oc11 kV11 dc11 pm11 cd11 ct11 : Value}
    {od12 an12 : Option Addr} {sl12 : Array (Option Value)} {oc12 kV12 dc12 pm12 cd12 ct12 : Value}
    {od13 an13 : Option Addr} {sl13 : Array (Option Value)} {oc13 kV13 dc13 pm13 cd13 ct13 : Value}
    {od14 an14 : Option Addr} {sl14 : Array (Option Value)} {oc14 kV14 dc14 pm14 cd14 ct14 : Value}
    {od15 an15 : Option Addr} {sl15 : Array (Option Value)} {oc15 kV15 dc15 pm15 cd15 ct15 : Value}
    {od16 an16 : Option Addr} {sl16 : Array (Option Value)} {oc16 kV16 dc16 pm16 cd16 ct16 : Value}
    {tk_GREATEST : Tok}
    (yRestError : PySem.W.nsIn K mainGlobals "RestError" = some (some (.ref y_RestError)))
    (yBadRests : PySem.W.nsIn K mainGlobals "BadRests" = some (some (.ref y_BadRests)))
    (yBadNumbers : PySem.W.nsIn K mainGlobals "BadNumbers" = some (some (.ref y_BadNumbers)))
    (yBadRound : PySem.W.nsIn K mainGlobals "BadRound" = some (some (.ref y_BadRound)))
    (yBadRest : PySem.W.nsIn K mainGlobals "BadRest" = some (some (.ref y_BadRest)))
    (yBadCount : PySem.W.nsIn K mainGlobals "BadCount" = some (some (.ref y_BadCount)))
    (yBadText : PySem.W.nsIn K mainGlobals "BadText" = some (some (.ref y_BadText)))
    (a0 : PySem.W.nsIn K mainGlobals "is_whole" = some (some (.ref x_is_whole)))
    (l0 : K.lookup x_is_whole = some ⟨oc0, od0, .func (PySem.W.fnOf "is_whole" "is_whole" (defArgs s_is_whole) (defBody s_is_whole) (defScope s_is_whole) .none kV0 dc0 pm0 an0 cd0 ct0), sl0⟩)
    (c0 : PySem.W.codeIn K cd0 "is_whole" = true)
    (k0 : PySem.W.keepIn K (.ref x_is_whole) = true)
    (a1 : PySem.W.nsIn K mainGlobals "is_number" = some (some (.ref x_is_number)))
    (l1 : K.lookup x_is_number = some ⟨oc1, od1, .func (PySem.W.fnOf "is_number" "is_number" (defArgs s_is_number) (defBody s_is_number) (defScope s_is_number) .none kV1 dc1 pm1 an1 cd1 ct1), sl1⟩)
    (c1 : PySem.W.codeIn K cd1 "is_number" = true)
    (k1 : PySem.W.keepIn K (.ref x_is_number) = true)
    (a2 : PySem.W.nsIn K mainGlobals "check_numbers" = some (some (.ref x_check_numbers)))
    (l2 : K.lookup x_check_numbers = some ⟨oc2, od2, .func (PySem.W.fnOf "check_numbers" "check_numbers" (defArgs s_check_numbers) (defBody s_check_numbers) (defScope s_check_numbers) .none kV2 dc2 pm2 an2 cd2 ct2), sl2⟩)
    (c2 : PySem.W.codeIn K cd2 "check_numbers" = true)
    (k2 : PySem.W.keepIn K (.ref x_check_numbers) = true)
    (a3 : PySem.W.nsIn K mainGlobals "stretch" = some (some (.ref x_stretch)))
    (l3 : K.lookup x_stretch = some ⟨oc3, od3, .func (PySem.W.fnOf "stretch" "stretch" (defArgs s_stretch) (defBody s_stretch) (defScope s_stretch) .none kV3 dc3 pm3 an3 cd3 ct3), sl3⟩)
    (c3 : PySem.W.codeIn K cd3 "stretch" = true)
    (k3 : PySem.W.keepIn K (.ref x_stretch) = true)
    (a4 : PySem.W.nsIn K mainGlobals "least_prime" = some (some (.ref x_least_prime)))
    (l4 : K.lookup x_least_prime = some ⟨oc4, od4, .func (PySem.W.fnOf "least_prime" "least_prime" (defArgs s_least_prime) (defBody s_least_prime) (defScope s_least_prime) .none kV4 dc4 pm4 an4 cd4 ct4), sl4⟩)
    (c4 : PySem.W.codeIn K cd4 "least_prime" = true)
    (k4 : PySem.W.keepIn K (.ref x_least_prime) = true)
    (a5 : PySem.W.nsIn K mainGlobals "by_prime" = some (some (.ref x_by_prime)))
    (l5 : K.lookup x_by_prime = some ⟨oc5, od5, .func (PySem.W.fnOf "by_prime" "by_prime" (defArgs s_by_prime) (defBody s_by_prime) (defScope s_by_prime) .none kV5 dc5 pm5 an5 cd5 ct5), sl5⟩)
    (c5 : PySem.W.codeIn K cd5 "by_prime" = true)
    (k5 : PySem.W.keepIn K (.ref x_by_prime) = true)
    (a6 : PySem.W.nsIn K mainGlobals "by_count" = some (some (.ref x_by_count)))
    (l6 : K.lookup x_by_count = some ⟨oc6, od6, .func (PySem.W.fnOf "by_count" "by_count" (defArgs s_by_count) (defBody s_by_count) (defScope s_by_count) .none kV6 dc6 pm6 an6 cd6 ct6), sl6⟩)
    (c6 : PySem.W.codeIn K cd6 "by_count" = true)
    (k6 : PySem.W.keepIn K (.ref x_by_count) = true)
    (a7 : PySem.W.nsIn K mainGlobals "chosen" = some (some (.ref x_chosen)))
    (l7 : K.lookup x_chosen = some ⟨oc7, od7, .func (PySem.W.fnOf "chosen" "chosen" (defArgs s_chosen) (defBody s_chosen) (defScope s_chosen) .none kV7 dc7 pm7 an7 cd7 ct7), sl7⟩)
    (c7 : PySem.W.codeIn K cd7 "chosen" = true)
    (k7 : PySem.W.keepIn K (.ref x_chosen) = true)
    (a8 : PySem.W.nsIn K mainGlobals "_law_cell_at" = some (some (.ref x_l_cell_at)))
    (l8 : K.lookup x_l_cell_at = some ⟨oc8, od8, .func (PySem.W.fnOf "_law_cell_at" "_law_cell_at" (defArgs s_l_cell_at) (defBody s_l_cell_at) (defScope s_l_cell_at) .none kV8 dc8 pm8 an8 cd8 ct8), sl8⟩)
    (c8 : PySem.W.codeIn K cd8 "_law_cell_at" = true)
    (k8 : PySem.W.keepIn K (.ref x_l_cell_at) = true)
    (a9 : PySem.W.nsIn K mainGlobals "_law_draw" = some (some (.ref x_l_draw)))
    (l9 : K.lookup x_l_draw = some ⟨oc9, od9, .func (PySem.W.fnOf "_law_draw" "_law_draw" (defArgs s_l_draw) (defBody s_l_draw) (defScope s_l_draw) .none kV9 dc9 pm9 an9 cd9 ct9), sl9⟩)
    (c9 : PySem.W.codeIn K cd9 "_law_draw" = true)
    (k9 : PySem.W.keepIn K (.ref x_l_draw) = true)
    (a10 : PySem.W.nsIn K mainGlobals "_law_row" = some (some (.ref x_l_row)))
    (l10 : K.lookup x_l_row = some ⟨oc10, od10, .func (PySem.W.fnOf "_law_row" "_law_row" (defArgs s_l_row) (defBody s_l_row) (defScope s_l_row) .none kV10 dc10 pm10 an10 cd10 ct10), sl10⟩)
    (c10 : PySem.W.codeIn K cd10 "_law_row" = true)
    (k10 : PySem.W.keepIn K (.ref x_l_row) = true)
    (a11 : PySem.W.nsIn K mainGlobals "_law_whole" = some (some (.ref x_l_whole)))
    (l11 : K.lookup x_l_whole = some ⟨oc11, od11, .func (PySem.W.fnOf "_law_whole" "_law_whole" (defArgs s_l_whole) (defBody s_l_whole) (defScope s_l_whole) .none kV11 dc11 pm11 an11 cd11 ct11), sl11⟩)
    (c11 : PySem.W.codeIn K cd11 "_law_whole" = true)
    (k11 : PySem.W.keepIn K (.ref x_l_whole) = true)
    (a12 : PySem.W.nsIn K mainGlobals "_law_numbers" = some (some (.ref x_l_numbers)))
    (l12 : K.lookup x_l_numbers = some ⟨oc12, od12, .func (PySem.W.fnOf "_law_numbers" "_law_numbers" (defArgs s_l_numbers) (defBody s_l_numbers) (defScope s_l_numbers) .none kV12 dc12 pm12 an12 cd12 ct12), sl12⟩)
    (c12 : PySem.W.codeIn K cd12 "_law_numbers" = true)
    (k12 : PySem.W.keepIn K (.ref x_l_numbers) = true)
    (a13 : PySem.W.nsIn K mainGlobals "_law_stretched" = some (some (.ref x_l_stretched)))
    (l13 : K.lookup x_l_stretched = some ⟨oc13, od13, .func (PySem.W.fnOf "_law_stretched" "_law_stretched" (defArgs s_l_stretched) (defBody s_l_stretched) (defScope s_l_stretched) .none kV13 dc13 pm13 an13 cd13 ct13), sl13⟩)
    (c13 : PySem.W.codeIn K cd13 "_law_stretched" = true)
    (k13 : PySem.W.keepIn K (.ref x_l_stretched) = true)
    (a14 : PySem.W.nsIn K mainGlobals "_law_picked" = some (some (.ref x_l_picked)))
    (l14 : K.lookup x_l_picked = some ⟨oc14, od14, .func (PySem.W.fnOf "_law_picked" "_law_picked" (defArgs s_l_picked) (defBody s_l_picked) (defScope s_l_picked) .none kV14 dc14 pm14 an14 cd14 ct14), sl14⟩)
    (c14 : PySem.W.codeIn K cd14 "_law_picked" = true)
    (k14 : PySem.W.keepIn K (.ref x_l_picked) = true)
    (a15 : PySem.W.nsIn K mainGlobals "_law_bad_count" = some (some (.ref x_l_bad_count)))
    (l15 : K.lookup x_l_bad_count = some ⟨oc15, od15, .func (PySem.W.fnOf "_law_bad_count" "_law_bad_count" (defArgs s_l_bad_count) (defBody s_l_bad_count) (defScope s_l_bad_count) .none kV15 dc15 pm15 an15 cd15 ct15), sl15⟩)
    (c15 : PySem.W.codeIn K cd15 "_law_bad_count" = true)
    (k15 : PySem.W.keepIn K (.ref x_l_bad_count) = true)
    (a16 : PySem.W.nsIn K mainGlobals "law" = some (some (.ref x_law)))
    (l16 : K.lookup x_law = some ⟨oc16, od16, .func (PySem.W.fnOf "law" "law" (defArgs s_law) (defBody s_law) (defScope s_law) .none kV16 dc16 pm16 an16 cd16 ct16), sl16⟩)
    (c16 : PySem.W.codeIn K cd16 "law" = true)
    (k16 : PySem.W.keepIn K (.ref x_law) = true)
    (z_isinstance : PySem.W.nsIn K mainGlobals "isinstance" = some none)
    (z_int : PySem.W.nsIn K mainGlobals "int" = some none)
    (z_bool : PySem.W.nsIn K mainGlobals "bool" = some none)
    (z_list : PySem.W.nsIn K mainGlobals "list" = some none)
    (z_all : PySem.W.nsIn K mainGlobals "all" = some none)
    (z_enumerate : PySem.W.nsIn K mainGlobals "enumerate" = some none)
    (z_len : PySem.W.nsIn K mainGlobals "len" = some none)
    (z_sorted : PySem.W.nsIn K mainGlobals "sorted" = some none)
    (z_range : PySem.W.nsIn K mainGlobals "range" = some none)
    (z_sum : PySem.W.nsIn K mainGlobals "sum" = some none)
    (z_tuple : PySem.W.nsIn K mainGlobals "tuple" = some none)
    (z_any : PySem.W.nsIn K mainGlobals "any" = some none)
    (z_ValueError : PySem.W.nsIn K mainGlobals "ValueError" = some none)
    (v_GREATEST : PySem.W.nsIn K mainGlobals "GREATEST" = some (some (.int 1000000 tk_GREATEST)))
    (hn : PySem.W.specialIn K (.builtin "object.__class__") "__get__" = some (some (.builtin "getset_descriptor.__get__")))
    (htk : PySem.W.takesIn K (.builtin "object.__class__") = some true)
    (sb_RestError : PySem.W.subIn K (.ref y_RestError) (.type "BaseException") = some true)
    (ty_RestError : PySem.W.typeIn K (.ref y_RestError) = some (.type "type"))
    (hd_RestError : PySem.W.hasDictIn K y_RestError = true)
    (sb_BadCount : PySem.W.subIn K (.ref y_BadCount) (.type "BaseException") = some true)
    (ty_BadCount : PySem.W.typeIn K (.ref y_BadCount) = some (.type "type"))
    (ex_BadCount : PySem.W.excIn K y_BadCount [.type "ValueError", .type "Exception", .type "BaseException", .type "object"] "ValueError.__new__" = true)
    (ke_BadCount : PySem.W.keepIn K (.ref y_BadCount) = true)
    (su_BadCount_RestError : PySem.W.subIn K (.ref y_BadCount) (.ref y_RestError) = some true)
    (hg_BadCount : PySem.W.findIn K (.ref y_BadCount) "__getattribute__" = some (some (.builtin "BaseException.__getattribute__")))
    (hk_BadCount : PySem.W.findIn K (.ref y_BadCount) "__getattr__" = some none)
    (hx_BadCount : PySem.W.hasDictIn K y_BadCount = true)
    (ha_BadCount : PySem.W.findIn K (.ref y_BadCount) "__class__" = some (some (.builtin "object.__class__")))
    (hm_BadCount : PySem.W.mroIn K y_BadCount (.type "object") = some true)
    (kq_BadCount_BadRests : PySem.W.kitOne K (.ref y_BadCount) (.ref y_BadRests) = some false)
    (kq_BadCount_BadNumbers : PySem.W.kitOne K (.ref y_BadCount) (.ref y_BadNumbers) = some false)
    (kq_BadCount_BadRound : PySem.W.kitOne K (.ref y_BadCount) (.ref y_BadRound) = some false)
    (kq_BadCount_BadRest : PySem.W.kitOne K (.ref y_BadCount) (.ref y_BadRest) = some false)
    (kq_BadCount_BadCount : PySem.W.kitOne K (.ref y_BadCount) (.ref y_BadCount) = some true)
    (kq_BadCount_BadText : PySem.W.kitOne K (.ref y_BadCount) (.ref y_BadText) = some false)
    (kq_BadCount_ValueError : PySem.W.kitOne K (.ref y_BadCount) (.type "ValueError") = some true) :
    ∃ fd : FuncData, (∀ (s : Shared) (v : Value), BindsTo s fd ⟨[v], []⟩ [("_law_script", v)]) ∧ ∀ base : Heap, K.In base → base.Ns mainGlobals mg → FnOk l.prog w K mg base CX0 10 fa fd ["_law_script"] (sp_law K) := by
  have e := hfa.symm.trans (PySem.W.mg_of X G a16)
  cases e
  have T : Txt K mg ⟨x_is_whole, x_is_number, x_check_numbers, x_stretch, x_least_prime, x_by_prime, x_by_count, x_chosen, x_l_cell_at, x_l_draw, x_l_row, x_l_whole, x_l_numbers, x_l_stretched, x_l_picked, x_l_bad_count, fa, y_RestError, y_BadRests, y_BadNumbers, y_BadRound, y_BadRest, y_BadCount, y_BadText⟩ := {
    g_RestError := PySem.W.mg_of X G yRestError,
    g_BadRests := PySem.W.mg_of X G yBadRests,
    g_BadNumbers := PySem.W.mg_of X G yBadNumbers,
    g_BadRound := PySem.W.mg_of X G yBadRound,
    g_BadRest := PySem.W.mg_of X G yBadRest,
    g_BadCount := PySem.W.mg_of X G yBadCount,
    g_BadText := PySem.W.mg_of X G yBadText,
    F_is_whole := ⟨_, fun_mk (st := s_is_whole) l0 c0 k0, (fun_mk (st := s_is_whole) l0 c0 k0).binds fun _ _ _ _ _ _ us hl => match us, hl with | [_], _ => rfl⟩,
    g_is_whole := PySem.W.mg_of X G a0,
    F_is_number := ⟨_, fun_mk (st := s_is_number) l1 c1 k1, (fun_mk (st := s_is_number) l1 c1 k1).binds fun _ _ _ _ _ _ us hl => match us, hl with | [_], _ => rfl⟩,
    g_is_number := PySem.W.mg_of X G a1,
    F_check_numbers := ⟨_, fun_mk (st := s_check_numbers) l2 c2 k2, (fun_mk (st := s_check_numbers) l2 c2 k2).binds fun _ _ _ _ _ _ us hl => match us, hl with | [_], _ => rfl⟩,
    g_check_numbers := PySem.W.mg_of X G a2,
    F_stretch := ⟨_, fun_mk (st := s_stretch) l3 c3 k3, (fun_mk (st := s_stretch) l3 c3 k3).binds fun _ _ _ _ _ _ us hl => match us, hl with | [_], _ => rfl⟩,
    g_stretch := PySem.W.mg_of X G a3,
    F_least_prime := ⟨_, fun_mk (st := s_least_prime) l4 c4 k4, (fun_mk (st := s_least_prime) l4 c4 k4).binds fun _ _ _ _ _ _ us hl => match us, hl with | [_], _ => rfl⟩,
    g_least_prime := PySem.W.mg_of X G a4,
    F_by_prime := ⟨_, fun_mk (st := s_by_prime) l5 c5 k5, (fun_mk (st := s_by_prime) l5 c5 k5).binds fun _ _ _ _ _ _ us hl => match us, hl with | [_, _], _ => rfl⟩,
    g_by_prime := PySem.W.mg_of X G a5,
    F_by_count := ⟨_, fun_mk (st := s_by_count) l6 c6 k6, (fun_mk (st := s_by_count) l6 c6 k6).binds fun _ _ _ _ _ _ us hl => match us, hl with | [_, _], _ => rfl⟩,
    g_by_count := PySem.W.mg_of X G a6,
    F_chosen := ⟨_, fun_mk (st := s_chosen) l7 c7 k7, (fun_mk (st := s_chosen) l7 c7 k7).binds fun _ _ _ _ _ _ us hl => match us, hl with | [_], _ => rfl⟩,
    g_chosen := PySem.W.mg_of X G a7,
    F_l_cell_at := ⟨_, fun_mk (st := s_l_cell_at) l8 c8 k8, (fun_mk (st := s_l_cell_at) l8 c8 k8).binds fun _ _ _ _ _ _ us hl => match us, hl with | [_, _], _ => rfl⟩,
    g_l_cell_at := PySem.W.mg_of X G a8,
    F_l_draw := ⟨_, fun_mk (st := s_l_draw) l9 c9 k9, (fun_mk (st := s_l_draw) l9 c9 k9).binds fun _ _ _ _ _ _ us hl => match us, hl with | [_, _, _], _ => rfl⟩,
    g_l_draw := PySem.W.mg_of X G a9,
    F_l_row := ⟨_, fun_mk (st := s_l_row) l10 c10 k10, (fun_mk (st := s_l_row) l10 c10 k10).binds fun _ _ _ _ _ _ us hl => match us, hl with | [_], _ => rfl⟩,
    g_l_row := PySem.W.mg_of X G a10,
    F_l_whole := ⟨_, fun_mk (st := s_l_whole) l11 c11 k11, (fun_mk (st := s_l_whole) l11 c11 k11).binds fun _ _ _ _ _ _ us hl => match us, hl with | [_], _ => rfl⟩,
    g_l_whole := PySem.W.mg_of X G a11,
    F_l_numbers := ⟨_, fun_mk (st := s_l_numbers) l12 c12 k12, (fun_mk (st := s_l_numbers) l12 c12 k12).binds fun _ _ _ _ _ _ us hl => match us, hl with | [_], _ => rfl⟩,
    g_l_numbers := PySem.W.mg_of X G a12,
    F_l_stretched := ⟨_, fun_mk (st := s_l_stretched) l13 c13 k13, (fun_mk (st := s_l_stretched) l13 c13 k13).binds fun _ _ _ _ _ _ us hl => match us, hl with | [_, _], _ => rfl⟩,
    g_l_stretched := PySem.W.mg_of X G a13,
    F_l_picked := ⟨_, fun_mk (st := s_l_picked) l14 c14 k14, (fun_mk (st := s_l_picked) l14 c14 k14).binds fun _ _ _ _ _ _ us hl => match us, hl with | [_, _], _ => rfl⟩,
    g_l_picked := PySem.W.mg_of X G a14,
    F_l_bad_count := ⟨_, fun_mk (st := s_l_bad_count) l15 c15 k15, (fun_mk (st := s_l_bad_count) l15 c15 k15).binds fun _ _ _ _ _ _ us hl => match us, hl with | [_, _], _ => rfl⟩,
    g_l_bad_count := PySem.W.mg_of X G a15,
    F_law := ⟨_, fun_mk (st := s_law) l16 c16 k16, (fun_mk (st := s_law) l16 c16 k16).binds fun _ _ _ _ _ _ us hl => match us, hl with | [_], _ => rfl⟩,
    g_law := PySem.W.mg_of X G a16,
    z_isinstance := PySem.W.mg_none_of X G z_isinstance,
    z_int := PySem.W.mg_none_of X G z_int,
    z_bool := PySem.W.mg_none_of X G z_bool,
    z_list := PySem.W.mg_none_of X G z_list,
    z_all := PySem.W.mg_none_of X G z_all,
    z_enumerate := PySem.W.mg_none_of X G z_enumerate,
    z_len := PySem.W.mg_none_of X G z_len,
    z_sorted := PySem.W.mg_none_of X G z_sorted,
    z_range := PySem.W.mg_none_of X G z_range,
    z_sum := PySem.W.mg_none_of X G z_sum,
    z_tuple := PySem.W.mg_none_of X G z_tuple,
    z_any := PySem.W.mg_none_of X G z_any,
    z_ValueError := PySem.W.mg_none_of X G z_ValueError,
    k_GREATEST := ⟨_, PySem.W.mg_of X G v_GREATEST⟩,
    sb_RestError := sb_RestError,
    ty_RestError := ty_RestError,
    sb_BadCount := sb_BadCount,
    ty_BadCount := ty_BadCount,
    ex_BadCount := ex_BadCount,
    ke_BadCount := ke_BadCount,
    em_BadCount_RestError := PySem.W.exm_ref sb_RestError hd_RestError ty_RestError su_BadCount_RestError,
    xc_BadCount := ⟨hg_BadCount, hk_BadCount, sb_BadCount, hx_BadCount, ha_BadCount, hn, htk, hm_BadCount⟩,
    kq_BadCount_BadRests := kq_BadCount_BadRests,
    kq_BadCount_BadNumbers := kq_BadCount_BadNumbers,
    kq_BadCount_BadRound := kq_BadCount_BadRound,
    kq_BadCount_BadRest := kq_BadCount_BadRest,
    kq_BadCount_BadCount := kq_BadCount_BadCount,
    kq_BadCount_BadText := kq_BadCount_BadText,
    kq_BadCount_ValueError := kq_BadCount_ValueError }
  refine ⟨PySem.W.fnOf "law" "law" (defArgs s_law) (defBody s_law) (defScope s_law) .none kV16 dc16 pm16 an16 cd16 ct16, fun s v => .of_eq rfl, fun base _ _ => ?_⟩
  exact ok_law T (fun_mk (st := s_law) l16 c16 k16)
end Wl
open PySem PySem.W PyProof.Rows in
set_option maxHeartbeats 0 in
theorem PySem.Challenge.cw_wheelrow_k05_sums_holds : PySem.Challenge.rw_wheelrow_k05_sums.Holds := by
  w_on; o_law; k_head; (case hw => w_witness2)
  k_fill
  refine L2.walk_of (l := PySem.Challenge.rw_wheelrow_k05_sums) (n := 63) (k := 10) (x := "_law_script") (CX := fun _ => L2.CX0) (sp := fun w => Wl.sp_law _) rfl (by decide) rfl ⟨rfl, by decide, by decide⟩ (fun w h Y => PySem.W.kIn_of Y) ?F (fun _ _ a ns hl _ hS => ⟨_, ns, rfl, ⟨a, rfl, hS, hl⟩, fun _ => rfl⟩) (fun _ _ _ _ _ h => h)
  case F =>
    intro w mg fa h KX G hmg
    refine' Wl.all_mk KX G hmg ?yRestError ?yBadRests ?yBadNumbers ?yBadRound ?yBadRest ?yBadCount ?yBadText ?a0 ?l0 ?c0 ?k0 ?a1 ?l1 ?c1 ?k1 ?a2 ?l2 ?c2 ?k2 ?a3 ?l3 ?c3 ?k3 ?a4 ?l4 ?c4 ?k4 ?a5 ?l5 ?c5 ?k5 ?a6 ?l6 ?c6 ?k6 ?a7 ?l7 ?c7 ?k7 ?a8 ?l8 ?c8 ?k8 ?a9 ?l9 ?c9 ?k9 ?a10 ?l10 ?c10 ?k10 ?a11 ?l11 ?c11 ?k11 ?a12 ?l12 ?c12 ?k12 ?a13 ?l13 ?c13 ?k13 ?a14 ?l14 ?c14 ?k14 ?a15 ?l15 ?c15 ?k15 ?a16 ?l16 ?c16 ?k16 ?z_isinstance ?z_int ?z_bool ?z_list ?z_all ?z_enumerate ?z_len ?z_sorted ?z_range ?z_sum ?z_tuple ?z_any ?z_ValueError ?v_GREATEST ?hn ?htk ?sb_RestError ?ty_RestError ?hd_RestError ?sb_BadCount ?ty_BadCount ?ex_BadCount ?ke_BadCount ?su_BadCount_RestError ?hg_BadCount ?hk_BadCount ?hx_BadCount ?ha_BadCount ?hm_BadCount ?kq_BadCount_BadRests ?kq_BadCount_BadNumbers ?kq_BadCount_BadRound ?kq_BadCount_BadRest ?kq_BadCount_BadCount ?kq_BadCount_BadText ?kq_BadCount_ValueError
    (case yRestError => k_is)
    (case yBadRests => k_is)
    (case yBadNumbers => k_is)
    (case yBadRound => k_is)
    (case yBadRest => k_is)
    (case yBadCount => k_is)
    (case yBadText => k_is)
    (case a0 => k_is)
    (case l0 => k_is)
    (case c0 => k_is)
    (case k0 => k_is)
    (case a1 => k_is)
    (case l1 => k_is)
    (case c1 => k_is)
    (case k1 => k_is)
    (case a2 => k_is)
    (case l2 => k_is)
    (case c2 => k_is)
    (case k2 => k_is)
    (case a3 => k_is)
    (case l3 => k_is)
    (case c3 => k_is)
    (case k3 => k_is)
    (case a4 => k_is)
    (case l4 => k_is)
    (case c4 => k_is)
    (case k4 => k_is)
    (case a5 => k_is)
    (case l5 => k_is)
    (case c5 => k_is)
    (case k5 => k_is)
    (case a6 => k_is)
    (case l6 => k_is)
    (case c6 => k_is)
    (case k6 => k_is)
    (case a7 => k_is)
    (case l7 => k_is)
    (case c7 => k_is)
    (case k7 => k_is)
    (case a8 => k_is)
    (case l8 => k_is)
    (case c8 => k_is)
    (case k8 => k_is)
    (case a9 => k_is)
    (case l9 => k_is)
    (case c9 => k_is)
    (case k9 => k_is)
    (case a10 => k_is)
    (case l10 => k_is)
    (case c10 => k_is)
    (case k10 => k_is)
    (case a11 => k_is)
    (case l11 => k_is)
    (case c11 => k_is)
    (case k11 => k_is)
    (case a12 => k_is)
    (case l12 => k_is)
    (case c12 => k_is)
    (case k12 => k_is)
    (case a13 => k_is)
    (case l13 => k_is)
    (case c13 => k_is)
    (case k13 => k_is)
    (case a14 => k_is)
    (case l14 => k_is)
    (case c14 => k_is)
    (case k14 => k_is)
    (case a15 => k_is)
    (case l15 => k_is)
    (case c15 => k_is)
    (case k15 => k_is)
    (case a16 => k_is)
    (case l16 => k_is)
    (case c16 => k_is)
    (case k16 => k_is)
    (case z_isinstance => k_is)
    (case z_int => k_is)
    (case z_bool => k_is)
    (case z_list => k_is)
    (case z_all => k_is)
    (case z_enumerate => k_is)
    (case z_len => k_is)
    (case z_sorted => k_is)
    (case z_range => k_is)
    (case z_sum => k_is)
    (case z_tuple => k_is)
    (case z_any => k_is)
    (case z_ValueError => k_is)
    (case v_GREATEST => k_is)
    (case hn => first | k_is | rfl)
    (case htk => first | k_is | rfl)
    (case sb_RestError => first | k_is | rfl)
    (case ty_RestError => k_is)
    (case hd_RestError => first | k_is | rfl)
    (case sb_BadCount => first | k_is | rfl)
    (case ty_BadCount => k_is)
    (case ex_BadCount => k_exc)
    (case ke_BadCount => k_is)
    (case su_BadCount_RestError => first | k_is | rfl)
    (case hg_BadCount => first | k_is | rfl)
    (case hk_BadCount => first | k_is | rfl)
    (case hx_BadCount => first | k_is | rfl)
    (case ha_BadCount => first | k_is | rfl)
    (case hm_BadCount => first | k_is | rfl)
    (case kq_BadCount_BadRests => first | k_is | rfl)
    (case kq_BadCount_BadNumbers => first | k_is | rfl)
    (case kq_BadCount_BadRound => first | k_is | rfl)
    (case kq_BadCount_BadRest => first | k_is | rfl)
    (case kq_BadCount_BadCount => first | k_is | rfl)
    (case kq_BadCount_BadText => first | k_is | rfl)
    (case kq_BadCount_ValueError => first | k_is | rfl)
