import PyProof.Rows.All
import Wide.All
import OpenK.AllK
import Wide.FinOn
import HandS.ForMost
import HandS.ForExc
import HandS.Evl
import HandS.IsInst
import HandS.Wide
import HandS.Style
import HandS.Steps
import HandS.ExcCtx
import HandS.HotCalls
import HandS.ExcIs
import HandS.CallLocal
import HandS.SuiteRaise
import HandS.WordsExc
import HandS.Conv
import HandS.Codes
import HandS.Text
import HandS.StrMore
import HandS.Strs
import HandS.SortRule
import HandS.SortInts
import HandS.More
import PySem.Challenge.RW_wheelrow_k04_whole_back
set_option Elab.async false
set_option linter.all false
set_option maxRecDepth 100000
set_option maxHeartbeats 4000000
namespace Wl
/-- the part that goes into both -/
def pt (a b : Int) : Int := (Int.gcd a b : Int)
theorem pt_step (a b : Int) : pt b (a % b) = pt a b := by
  unfold pt
  have h : a % b = a - (a / b) * b := by
    have := Int.emod_add_mul_ediv a b
    rw [Int.mul_comm (a / b) b]; omega
  rw [h, Int.gcd_sub_mul_right_right, Int.gcd_comm]
theorem pt_zero (a : Int) (h : 0 ≤ a) : pt a 0 = a := by
  unfold pt
  rw [Int.gcd_zero_right]
  omega
theorem pt_abs (a b : Int) : pt (if a < 0 then -a else a) (if b < 0 then -b else b) = pt a b := by
  unfold pt
  split <;> split <;> simp
theorem pt_nn (a b : Int) : 0 ≤ pt a b := Int.natCast_nonneg _
theorem pt_dvd_l (a b : Int) : pt a b ∣ a := Int.gcd_dvd_left ..
theorem pt_dvd_r (a b : Int) : pt a b ∣ b := Int.gcd_dvd_right ..
theorem dvd_pt {a b c : Int} (h1 : c ∣ a) (h2 : c ∣ b) : c ∣ pt a b := Int.dvd_coe_gcd h1 h2
theorem pt_pos_r (a : Int) {b : Int} (h : 0 < b) : 0 < pt a b := by
  have h1 := pt_nn a b
  have h2 := pt_dvd_r a b
  have : pt a b ≠ 0 := by
    intro e
    rw [e] at h2
    have := Int.zero_dvd.mp h2
    omega
  omega
theorem pt_le_r (a : Int) {b : Int} (h : 0 < b) : pt a b ≤ b := Int.le_of_dvd h (pt_dvd_r a b)
theorem fmod_eq (a b : Int) : a.fmod b = a - a.fdiv b * b := by
  rw [Int.fmod_def, Int.mul_comm]
theorem pt_stepF (a b : Int) : pt b (a - a.fdiv b * b) = pt a b := by
  unfold pt
  rw [Int.gcd_sub_mul_right_right, Int.gcd_comm]
/-- the state of shares_of: here = (a, x, y), there = (b, u, v) -/
structure Sh (one other a x y b u v : Int) : Prop where
  ha : a = x * one + y * other
  hb : b = u * one + v * other
  hg : pt a b = pt one other
  hs : (a = one ∧ x = 1 ∧ y = 0 ∧ b = other ∧ u = 0 ∧ v = 1) ∨
    (a.natAbs ≤ other.natAbs ∧ b.natAbs < a.natAbs ∧ ((0 ≤ a ∧ 0 ≤ b) ∨ (a ≤ 0 ∧ b ≤ 0)) ∧ x.natAbs ≤ other.natAbs ∧ x.natAbs * b.natAbs + u.natAbs * a.natAbs ≤ other.natAbs)
theorem Sh.start (one other : Int) : Sh one other one 1 0 other 0 1 := ⟨by omega, by omega, rfl, .inl ⟨rfl, rfl, rfl, rfl, rfl, rfl⟩⟩
theorem mod_lt {a b : Int} (hb : b ≠ 0) : (a - a.fdiv b * b).natAbs < b.natAbs ∧ ((0 ≤ b ∧ 0 ≤ a - a.fdiv b * b) ∨ (b ≤ 0 ∧ a - a.fdiv b * b ≤ 0)) := by
  rw [← fmod_eq]
  by_cases h : 0 < b
  · have h1 := Int.fmod_lt_of_pos a h
    have h2 := Int.fmod_nonneg_of_pos a h
    omega
  · have hn : 0 < -b := by omega
    have h1 := Int.fmod_lt_of_pos (-a) hn
    have h2 := Int.fmod_nonneg_of_pos (-a) hn
    rw [Int.neg_fmod_neg] at h1 h2
    omega
theorem div_abs {a b : Int} (hb : b ≠ 0) (s : (0 ≤ a ∧ 0 ≤ b) ∨ (a ≤ 0 ∧ b ≤ 0)) : (a - a.fdiv b * b).natAbs + (a.fdiv b).natAbs * b.natAbs = a.natAbs := by
  have ⟨h1, h2⟩ := mod_lt (a := a) hb
  have hq : 0 ≤ a.fdiv b := by
    rcases s with ⟨p, q⟩ | ⟨p, q⟩
    · exact Int.fdiv_nonneg p q
    · rw [← Int.neg_fdiv_neg]
      exact Int.fdiv_nonneg (by omega) (by omega)
  generalize hr : a - a.fdiv b * b = r at *
  generalize a.fdiv b = q at *
  have e : q.natAbs * b.natAbs = (q * b).natAbs := (Int.natAbs_mul q b).symm
  rw [e]
  have hs : (0 ≤ b → 0 ≤ q * b) ∧ (b ≤ 0 → q * b ≤ 0) := ⟨fun z => Int.mul_nonneg hq z, fun z => Int.mul_nonpos_of_nonneg_of_nonpos hq z⟩
  generalize q * b = m at *
  omega
theorem Sh.step {one other a x y b u v : Int} (h : Sh one other a x y b u v) (hb : b ≠ 0) :
    Sh one other b u v (a - a.fdiv b * b) (x - a.fdiv b * u) (y - a.fdiv b * v) ∧ (a - a.fdiv b * b).natAbs < b.natAbs := by
  have ⟨h1, h2⟩ := mod_lt (a := a) hb
  refine ⟨⟨h.hb, ?_, ?_, .inr ⟨?_, h1, h2, ?_, ?_⟩⟩, h1⟩
  · have e1 := h.ha
    have e2 := h.hb
    generalize a.fdiv b = q
    subst e1 e2
    grind
  · rw [pt_stepF, h.hg]
  · rcases h.hs with ⟨_, _, _, e, _, _⟩ | ⟨e1, e2, _⟩
    · rw [e]; omega
    · omega
  · rcases h.hs with ⟨_, _, _, e, e5, _⟩ | ⟨e1, e2, e3, e4, e5⟩
    · rw [e5]; simp
    · have : u.natAbs * 1 ≤ u.natAbs * a.natAbs := Nat.mul_le_mul_left _ (by omega)
      omega
  · rcases h.hs with ⟨_, ex, _, e, eu, _⟩ | ⟨e1, e2, e3, e4, e5⟩
    · rw [eu, ex, e]; simp
    · have e := div_abs hb e3
      have e6 : (x - a.fdiv b * u).natAbs ≤ x.natAbs + (a.fdiv b).natAbs * u.natAbs := by
        rw [← Int.natAbs_mul]
        omega
      have e7 : (x - a.fdiv b * u).natAbs * b.natAbs ≤ (x.natAbs + (a.fdiv b).natAbs * u.natAbs) * b.natAbs := Nat.mul_le_mul_right _ e6
      generalize (a - a.fdiv b * b).natAbs = R at *
      generalize (a.fdiv b).natAbs = Qn at *
      generalize (x - a.fdiv b * u).natAbs = Y at *
      have e8 : u.natAbs * a.natAbs = u.natAbs * R + u.natAbs * (Qn * b.natAbs) := by rw [← Nat.mul_add, e]
      have e9 : (x.natAbs + Qn * u.natAbs) * b.natAbs = x.natAbs * b.natAbs + u.natAbs * (Qn * b.natAbs) := by
        rw [Nat.add_mul, Nat.mul_comm Qn u.natAbs, Nat.mul_assoc]
      omega
/-- what shares_of tells -/
structure Shares (one other g x y : Int) : Prop where
  eq : g = pt one other
  lin : g = x * one + y * other
  sm : x.natAbs ≤ other.natAbs + 1
theorem Sh.done {one other a x y u v : Int} (h : Sh one other a x y 0 u v) : (¬ a < 0 → Shares one other a x y) ∧ (a < 0 → Shares one other (-a) (-x) (-y)) := by
  have e := h.hg
  have hx : x.natAbs ≤ other.natAbs + 1 := by
    rcases h.hs with ⟨_, ex, _⟩ | ⟨_, _, _, z, _⟩
    · rw [ex]; simp
    · omega
  have ha := h.ha
  refine ⟨fun p => ⟨?_, ha, hx⟩, fun p => ⟨?_, ?_, ?_⟩⟩
  · rw [← e, pt_zero a (by omega)]
  · rw [← e]
    unfold pt
    rw [Int.gcd_zero_right]
    omega
  · rw [ha]; grind
  · omega
end Wl
namespace Wl
/-! ### back -/
def barsF (g n t : Int) : Bool := decide (1 < g) && (decide (n % g = 0) && decide (t % g = 0))
def backF (r n t : Int) : Bool := (decide (0 ≤ r) && decide (r < t)) && decide ((r * n - 1) % t = 0)
def backD (r n t : Int) : Bool := (decide (0 ≤ r) && decide (r < t)) && decide (r * n % t = 1 % t)
theorem backD_eq (r n t : Int) : backD r n t = backF r n t := by
  unfold backD backF
  rw [decide_eq_decide.mpr (Int.emod_eq_emod_iff_emod_sub_eq_zero (m := r * n) (n := t) (k := 1))]
def BarOk (g n t : Int) : Prop := 1 < g ∧ g ∣ n ∧ g ∣ t
def BackOk (r n t : Int) : Prop := 0 ≤ r ∧ r < t ∧ t ∣ r * n - 1
theorem Shares.bar {n t g x y : Int} (s : Shares n t g x y) (h : 1 < g) : BarOk g n t := by
  rw [s.eq] at h ⊢
  exact ⟨h, pt_dvd_l n t, pt_dvd_r n t⟩
theorem Shares.back {n t g x y : Int} (s : Shares n t g x y) (h : g ≤ 1) (ht : 1 ≤ t) : BackOk (x % t) n t := by
  have h1 := pt_pos_r n (b := t) (by omega)
  have hg : g = 1 := by have := s.eq; omega
  refine ⟨Int.emod_nonneg _ (by omega), Int.emod_lt_of_pos _ (by omega), ?_⟩
  have hl := s.lin
  rw [hg] at hl
  have e : x % t = x - t * (x / t) := Int.emod_def x t
  refine ⟨-(x / t) * n - y, ?_⟩
  rw [e]
  grind
theorem BarOk.F {g n t : Int} (h : BarOk g n t) : barsF g n t = true := by
  unfold barsF
  rw [decide_eq_true h.1, decide_eq_true (Int.emod_eq_zero_of_dvd h.2.1), decide_eq_true (Int.emod_eq_zero_of_dvd h.2.2)]
  rfl
theorem BarOk.far {g n t : Int} (h : BarOk g n t) (c : Int) : BarOk g (n + c * t) t := ⟨h.1, Int.dvd_add h.2.1 (Int.dvd_mul_of_dvd_right h.2.2), h.2.2⟩
theorem BackOk.F {r n t : Int} (h : BackOk r n t) : backF r n t = true := by
  unfold backF
  rw [decide_eq_true h.1, decide_eq_true h.2.1, decide_eq_true (Int.emod_eq_zero_of_dvd h.2.2)]
  rfl
theorem BackOk.far {r n t : Int} (h : BackOk r n t) (c : Int) : BackOk r (n + c * t) t := by
  refine ⟨h.1, h.2.1, ?_⟩
  obtain ⟨k, hk⟩ := h.2.2
  exact ⟨k + r * c, by rw [Int.mul_add]; grind⟩
end Wl
namespace Wl
/-! ### common parts -/
def dot : List Int → List Int → Int
  | n :: ns, t :: ts => n * t + dot ns ts
  | _, _ => 0
theorem dot_snoc : ∀ {ns ts : List Int} (n t : Int), ns.length = ts.length → dot (ns ++ [n]) (ts ++ [t]) = dot ns ts + n * t
  | [], [], n, t, _ => by simp [dot]
  | a :: ns, b :: ts, n, t, h => by
    have ih := dot_snoc (ns := ns) (ts := ts) n t (by simpa using h)
    simp only [List.cons_append, dot, ih]
    omega
  | [], _ :: _, _, _, h => by simp at h
  | _ :: _, [], _, _, h => by simp at h
theorem dot_mul : ∀ (ns ts : List Int) (x : Int), dot ns (ts.map (· * x)) = dot ns ts * x
  | [], _, x => by simp [dot]
  | _ :: _, [], x => by simp [dot]
  | a :: ns, b :: ts, x => by
    simp only [List.map_cons, dot, dot_mul ns ts x, Int.add_mul, Int.mul_assoc]
theorem dot_range : ∀ {ns ts : List Int}, ns.length = ts.length → ((List.range ns.length).map fun k => ns.getD k 0 * ts.getD k 0).sum = dot ns ts
  | [], [], _ => rfl
  | a :: ns, b :: ts, h => by
    have ih := dot_range (ns := ns) (ts := ts) (by simpa using h)
    rw [List.length_cons, List.range_succ_eq_map, List.map_cons, List.map_map, List.sum_cons]
    simp only [dot, ← ih]
    rfl
  | [], _ :: _, h => by simp at h
  | _ :: _, [], h => by simp at h
/-- a common part p of ns, and how often each makes it -/
structure CommonOk (p : Int) (ts ns : List Int) : Prop where
  nn : 0 ≤ p
  len : ts.length = ns.length
  sum : dot ns ts = p
  dvd : ∀ n ∈ ns, p ∣ n
def dueC (p : Int) (ts ns : List Int) : Bool := !(decide (p < 0) || !decide (ts.length = ns.length)) && (decide (dot ns ts = p) && ns.all fun n => if p = 0 then decide (n = 0) else decide (n % p = 0))
theorem CommonOk.due {p : Int} {ts ns : List Int} (h : CommonOk p ts ns) : dueC p ts ns = true := by
  have h1 : ¬ p < 0 := by have := h.nn; omega
  unfold dueC
  rw [decide_eq_false h1, decide_eq_true h.len, decide_eq_true h.sum]
  simp only [Bool.not_true, Bool.or_self, Bool.not_false, Bool.true_and, List.all_eq_true]
  intro n hn
  have hd := h.dvd n hn
  split
  · rename_i e
    rw [e] at hd
    exact decide_eq_true (Int.zero_dvd.mp hd)
  · exact decide_eq_true (Int.emod_eq_zero_of_dvd hd)
theorem CommonOk.nil : CommonOk 0 [] [] := ⟨Int.le_refl _, rfl, rfl, fun _ h => nomatch h⟩
theorem CommonOk.more {p n g x y : Int} {ts ns : List Int} (h : CommonOk p ts ns) (s : Shares p n g x y) : CommonOk g (ts.map (· * x) ++ [y]) (ns ++ [n]) := by
  refine ⟨by rw [s.eq]; exact pt_nn _ _, by simp [h.len], ?_, fun m hm => ?_⟩
  · rw [dot_snoc _ _ (by simp [h.len]), dot_mul, h.sum, s.lin, Int.mul_comm p x, Int.mul_comm n y]
  · rcases List.mem_append.mp hm with hm | hm
    · rw [s.eq]
      exact Int.dvd_trans (pt_dvd_l p n) (h.dvd m hm)
    · rw [List.mem_singleton.mp hm, s.eq]
      exact pt_dvd_r p n
theorem CommonOk.same {p n g x y : Int} {ts ns : List Int} (h : CommonOk p ts ns) (s : Shares p n g x y) (e : g = p) : CommonOk p (ts ++ [0]) (ns ++ [n]) := by
  refine ⟨h.nn, by simp [h.len], ?_, fun m hm => ?_⟩
  · rw [dot_snoc _ _ h.len.symm, h.sum]
    omega
  · rcases List.mem_append.mp hm with hm | hm
    · exact h.dvd m hm
    · rw [List.mem_singleton.mp hm, ← e, s.eq]
      exact pt_dvd_r p n
theorem pt_le {p n b : Int} (h0 : 0 ≤ p) (hp : p ≤ b) (hn : n.natAbs ≤ b.natAbs) (hb : 0 ≤ b) : pt p n ≤ b := by
  by_cases e : n = 0
  · rw [e, pt_zero p h0]
    exact hp
  · have h := pt_dvd_r p n
    have h2 : pt p n ∣ (n.natAbs : Int) := Int.dvd_natAbs.mpr h
    have := Int.le_of_dvd (by omega) h2
    omega
theorem CommonOk.far {p : Int} {ts ns : List Int} (h : CommonOk p ts ns) : dueC p (ts ++ [0]) ns = false := by
  unfold dueC
  have : ¬ (ts ++ [0]).length = ns.length := by
    rw [List.length_append, h.len]
    simp
  rw [decide_eq_false this]
  simp
end Wl
namespace Wl
open PySem PySem.Spec PyProof.Rows L2 Evl
/-! ### a def that keeps a promise -/
/-- a promise by data: Pre of the arguments, Post of the heap ahead, the value, the heap behind -/
def spX {α : Type} (Pre : α → List V → Hp → Prop) (Post : α → Hp → V → Hp → Prop) : Sp := fun vs H Q _ => ∃ d, Pre d vs H ∧ ∀ v H', Ex H H' → Post d H v H' → Q v H'
structure Ok (P : Program) (w : World) (K : PySem.W.Frag) (mg : Str → Option Value) (base : Heap) (k : Nat) (f : Addr) (fd : FuncData) (ps : List Str) (sp : Sp) : Prop where
  (ok : FnOk P w K mg base CX0 k f fd ps sp) (bi : Binds K fd ps []) (kp : PySem.W.keepIn K (.ref f) = true)
abbrev Okk (P : Program) (w : World) (K : PySem.W.Frag) (mg : Str → Option Value) (base : Heap) (k : Nat) (f : Addr) (ps : List Str) (sp : Sp) : Prop := ∃ fd, Ok P w K mg base k f fd ps sp
/-- its body walked, wherever it is called: nothing is let out -/
abbrev BodyIn (P : Program) (w : World) (K : PySem.W.Frag) (mg : Str → Option Value) (base : Heap) (N : List Str) (qual : Str) (st : Stmt) (f : Addr) (k : Nat) (sp : Sp) : Prop :=
  ∀ (cd : Value) (B : Around) (out : List Env) (s : Shared) (H : Hp) (vs : List V) (Q : VK) (E : XK), Room k (B.deeper (envOfC qual (defScope st) s.heap.objs.size f cd)) → sp vs H Q E →
    ∃ t, PSs (cxOf CX0 P w K mg base N qual (defScope st) f cd B out s H E).nox (defBody st) t ∧ t { nx := fun _ H' => Q .non H', rt := Q } (start N vs) H
theorem okk {P : Program} {w : World} {K : PySem.W.Frag} {mg : Str → Option Value} {base : Heap} {x qual : Str} {st : Stmt} {f : Addr} {N ps : List Str} {k : Nat} {sp : Sp}
    (F : ∃ fd, Fun K x qual st f fd ∧ Binds K fd ps []) (S : FnScope N ps (defScope st)) (len : ∀ vs H Q E, sp vs H Q E → vs.length = ps.length) (body : BodyIn P w K mg base N qual st f k sp) : Okk P w K mg base (k + 1) f ps sp :=
  match F with
  | ⟨fd, F, b⟩ => ⟨fd, F.ok S len body, b, F.kp⟩

/-! ### what evaluates to what, with facts of the heap behind -/
def EvR (te : TE) (σ : L2.St) (H : Hp) (R : V → Hp → Prop) : Prop := ∀ H1, Ex H H1 → ∀ Q : VK, (∀ v H2, Ex H1 H2 → R v H2 → Q v H2) → te σ H1 Q
def EvAR (ta : TA) (σ : L2.St) (H : Hp) (R : List V → Hp → Prop) : Prop := ∀ H1, Ex H H1 → ∀ Q : List V → Hp → Prop, (∀ v H2, Ex H1 H2 → R v H2 → Q v H2) → ta σ H1 Q
section
variable {K : PySem.W.Frag} {σ : L2.St} {H H' : Hp} {ta tb tc te tx : TE} {t u : TT} {x y z v : V} {r r' : R2} {R R' S : V → Hp → Prop} {D : Ends} {tu tw tz : TS} {g : TG}
theorem EvR.mono (e : Ex H H') (h : EvR te σ H R) : EvR te σ H' R := fun H1 a Q q => h H1 (e.trans a) Q q
theorem EvR.imp (h : EvR te σ H R) (hi : ∀ v H2, Ex H H2 → R v H2 → R' v H2) : EvR te σ H R' := fun H1 a Q q => h H1 a Q fun v H2 e p => q v H2 e (hi v H2 (a.trans e) p)
theorem evr (h : Ev te σ H v) : EvR te σ H (fun x _ => x = v) := fun H1 a Q q => h H1 a Q fun H2 e => q v H2 e rfl
theorem EvR.ev (h : EvR te σ H R) (hi : ∀ x H2, Ex H H2 → R x H2 → x = v) : Ev te σ H v := fun H1 a Q q => h H1 a Q fun x H2 e p => by rw [hi x H2 (a.trans e) p]; exact q H2 e
theorem elr {xs : List V} (h : EvL te σ H xs) : EvR te σ H (fun v H2 => ∃ p, v = .ref p ∧ H p = none ∧ H2 p = some (.lst xs)) := fun H1 a Q q => h H1 a Q fun p H2 hp e h2 => q _ H2 e ⟨p, rfl, fresh_back a hp, h2⟩
theorem eur {xs : List V} (h : EvU te σ H xs) : EvR te σ H (fun v H2 => ∃ p, v = .ref p ∧ H p = none ∧ H2 p = some (.tup xs)) := fun H1 a Q q => h H1 a Q fun p H2 hp e h2 => q _ H2 e ⟨p, rfl, fresh_back a hp, h2⟩
/-- x, then whatever needs it -/
theorem er_op {Ra : V → Hp → Prop} {Rb : V → V → Hp → Prop} (ha : EvR ta σ H Ra) (hb : ∀ x H1, Ex H H1 → Ra x H1 → EvR tb σ H1 (Rb x))
    (hr : ∀ x y H1 H2, Ex H H1 → Ra x H1 → Ex H1 H2 → Rb x y H2 → ∀ Q : VK, (∀ v H3, Ex H2 H3 → R v H3 → Q v H3) → r x y H2 Q) : EvR (tOp r ta tb) σ H R := fun H1 e Q q =>
  ha H1 e _ fun x H2 e2 p => hb x H2 (e.trans e2) p H2 (Ex.refl _) _ fun y H3 e3 p3 => hr x y H2 H3 (e.trans e2) p e3 p3 Q fun v H4 e4 p4 => q v H4 ((e2.trans e3).trans e4) p4
/-- the first operand's value by facts, the second plain -/
theorem ev_opR {Ra : V → Hp → Prop} (ha : EvR ta σ H Ra) (hb : Ev tb σ H y) (hr : ∀ x H1, Ex H H1 → Ra x H1 → RV r x y H1 z) : Ev (tOp r ta tb) σ H z := fun H1 e Q q =>
  ha H1 e _ fun x H2 e2 p => hb H2 (e.trans e2) _ fun H3 e3 => hr x H2 (e.trans e2) p H3 e3 Q fun H4 e4 => q H4 ((e2.trans e3).trans e4)
/-- the second by facts -/
theorem ev_opR2 {Rb : V → Hp → Prop} (ha : Ev ta σ H x) (hb : EvR tb σ H Rb) (hr : ∀ y H1, Ex H H1 → Rb y H1 → RV r x y H1 z) : Ev (tOp r ta tb) σ H z := fun H1 e Q q =>
  ha H1 e _ fun H2 e2 => hb H2 (e.trans e2) _ fun y H3 e3 p => hr y H3 ((e.trans e2).trans e3) p H3 (Ex.refl _) Q fun H4 e4 => q H4 ((e2.trans e3).trans e4)
/-- both by facts -/
theorem ev_opRR {Ra Rb : V → Hp → Prop} (ha : EvR ta σ H Ra) (hb : EvR tb σ H Rb) (hr : ∀ x y H1 H2, Ex H H1 → Ra x H1 → Ex H1 H2 → Rb y H2 → RV r x y H2 z) : Ev (tOp r ta tb) σ H z := fun H1 e Q q =>
  ha H1 e _ fun x H2 e2 p => hb H2 (e.trans e2) _ fun y H3 e3 p3 => hr x y H2 H3 (e.trans e2) p e3 p3 H3 (Ex.refl _) Q fun H4 e4 => q H4 ((e2.trans e3).trans e4)
/-- a new list by two plain values (xs + ys, ..) -/
theorem er_opR {Ra Rb : V → Hp → Prop} (ha : EvR ta σ H Ra) (hb : EvR tb σ H Rb) (hr : ∀ x y H1 H2, Ex H H1 → Ra x H1 → Ex H1 H2 → Rb y H2 → ∀ Q : VK, (∀ v H3, Ex H2 H3 → R v H3 → Q v H3) → r x y H2 Q) : EvR (tOp r ta tb) σ H R :=
  er_op ha (fun _ _ e _ => hb.mono e) hr
theorem ev_chain {a b : Bool} (ha : Ev ta σ H x) (hb : Ev tb σ H y) (h1 : RV r x y H (.bl a)) (hc : a = true → Ev tc σ H z) (h2 : a = true → RV r' y z H (.bl b)) : Ev (tChain r r' ta tb tc) σ H (.bl (a && b)) := fun H1 e Q q =>
  ha H1 e _ fun H2 e2 => hb H2 (e.trans e2) _ fun H3 e3 => h1 H3 ((e.trans e2).trans e3) _ fun H4 e4 => ⟨a, rfl, by
    cases a with
    | false => exact q H4 ((e2.trans e3).trans e4)
    | true => exact hc rfl H4 (((e.trans e2).trans e3).trans e4) _ fun H5 e5 => h2 rfl H5 ((((e.trans e2).trans e3).trans e4).trans e5) Q fun H6 e6 => q H6 ((((e2.trans e3).trans e4).trans e5).trans e6)⟩
/-- fields -/
theorem ev_fld {a C dx : Addr} {fs : List (Str × V)} {f : Str} (ha : Ev ta σ H (.ref a)) (ho : H a = some (.ins C dx fs)) (c : Cls K C) (n : NoAttr K C f) (hl : fs.lookup f = some v) : Ev (tFld K ta f) σ H v := fun H1 e Q q =>
  ha H1 e _ fun H2 e2 => ⟨a, C, dx, fs, v, rfl, (e.trans e2) a _ ho, c, n, hl, q H2 e2⟩
theorem ev_fldR {C : Addr} {f : Str} (ha : EvR ta σ H R) (h : ∀ x H1, Ex H H1 → R x H1 → ∃ a dx fs, x = .ref a ∧ H1 a = some (.ins C dx fs) ∧ fs.lookup f = some v) (c : Cls K C) (n : NoAttr K C f) : Ev (tFld K ta f) σ H v := fun H1 e Q q =>
  ha H1 e _ fun x H2 e2 p => by
    obtain ⟨a, dx, fs, hx, ho, hl⟩ := h x H2 (e.trans e2) p
    exact ⟨a, C, dx, fs, v, hx, ho, c, n, hl, q H2 e2⟩
/-- arguments -/
theorem ear {vs : List V} {ta : TA} (h : EvA ta σ H vs) : EvAR ta σ H (fun x _ => x = vs) := fun H1 a Q q => h H1 a Q fun H2 e => q vs H2 e rfl
theorem ear_nil : EvAR tNil σ H (fun x _ => x = []) := ear ea_nil
theorem ear_cons {tr : TA} {T : List V → Hp → Prop} (h : EvR te σ H R) (hr : ∀ x H1, Ex H H1 → R x H1 → EvAR tr σ H1 (fun vs H2 => T (x :: vs) H2)) : EvAR (tCons te tr) σ H T := fun H1 e Q q =>
  h H1 e _ fun x H2 e2 p => hr x H2 (e.trans e2) p H2 (Ex.refl _) _ fun vs H3 e3 p3 => q _ H3 (e2.trans e3) p3
/-- one argument by facts -/
theorem ear_one (h : EvR te σ H R) : EvAR (tCons te tNil) σ H (fun vs H2 => ∃ x, vs = [x] ∧ R x H2) := fun H1 e Q q => h H1 e _ fun x H2 e2 p => q [x] H2 e2 ⟨x, rfl, p⟩
/-! built-ins -/
theorem er_cb {rr : List V → Hp → VK → Prop} {ta : TA} {T : List V → Hp → Prop} (h : EvAR ta σ H T) (hr : ∀ vs H1, Ex H H1 → T vs H1 → ∀ Q : VK, (∀ v H2, Ex H1 H2 → R v H2 → Q v H2) → rr vs H1 Q) : EvR (tCB rr ta) σ H R := fun H1 e Q q =>
  h H1 e _ fun vs H2 e2 p => hr vs H2 (e.trans e2) p Q fun v H3 e3 p3 => q v H3 (e2.trans e3) p3
theorem ev_cbR {rr : List V → Hp → VK → Prop} {ta : TA} {T : List V → Hp → Prop} (h : EvAR ta σ H T) (hr : ∀ vs H1, Ex H H1 → T vs H1 → ∀ Q : VK, Q z H1 → rr vs H1 Q) : Ev (tCB rr ta) σ H z := fun H1 e Q q =>
  h H1 e _ fun vs H2 e2 p => hr vs H2 (e.trans e2) p Q (q H2 e2)
theorem rc_abs {i : Int} : RC (fun xs H Q => ∃ i, xs = [V.int i] ∧ Q (.int (if i < 0 then -i else i)) H) [.int i] H (.int (if i < 0 then -i else i)) := fun H1 _ _ q => ⟨i, rfl, q H1 (Ex.refl H1)⟩
theorem rc_len {p : Addr} {xs : List V} (h : SqL K H p xs) : RC (fun xs H Q => ∃ p ys, xs = [V.ref p] ∧ (SqL K H p ys ∨ SqT K H p ys) ∧ Q (.int ys.length) H) [.ref p] H (.int (xs.length : Int)) := fun H1 e _ q => ⟨p, xs, rfl, .inl (ex_l e h), q H1 (Ex.refl H1)⟩
theorem rc_sum {p : Addr} {ns : List Int} (h : SqL K H p (ns.map V.int)) : RC (rSum K) [.ref p] H (.int ns.sum) := fun H1 e _ q => ⟨p, ns, rfl, ex_l e h, q H1 (Ex.refl H1)⟩
theorem ev_sumL {ns : List Int} {xs : List V} (h : EvL te σ H xs) (hx : xs = ns.map V.int) : Ev (tCB (rSum K) (tCons te tNil)) σ H (.int ns.sum) := fun H1 e Q q =>
  h H1 e _ fun p H2 _ e2 h2 => ⟨p, ns, rfl, by rw [← hx]; exact sq_of h2, q H2 e2⟩
theorem ev_allL {bs : List Bool} {xs : List V} (h : EvL te σ H xs) (hx : xs = bs.map V.bl) : Ev (tCB (rAll K) (tCons te tNil)) σ H (.bl (bs.all id)) := fun H1 e Q q =>
  h H1 e _ fun p H2 _ e2 h2 => ⟨p, bs, rfl, by rw [← hx]; exact sq_of h2, q H2 e2⟩
theorem ev_anyL {bs : List Bool} {xs : List V} (h : EvL te σ H xs) (hx : xs = bs.map V.bl) : Ev (tCB (rAny K) (tCons te tNil)) σ H (.bl (bs.any id)) := fun H1 e Q q =>
  h H1 e _ fun p H2 _ e2 h2 => ⟨p, bs, rfl, by rw [← hx]; exact sq_of h2, q H2 e2⟩
theorem ev_any {bs : List Bool} {p : Addr} (h : Ev te σ H (.ref p)) (hx : SqL K H p (bs.map V.bl)) : Ev (tCB (rAny K) (tCons te tNil)) σ H (.bl (bs.any id)) := fun H1 e Q q =>
  h H1 e _ fun H2 e2 => ⟨p, bs, rfl, ex_l (e.trans e2) hx, q H2 e2⟩
abbrev rTupOf (K : PySem.W.Frag) : List V → Hp → VK → Prop := fun xs H Q => ∃ p ys, xs = [.ref p] ∧ ((SqL K H p ys ∧ ∀ l, H l = none → Q (.ref l) (upd H l (.tup ys))) ∨ (SqT K H p ys ∧ Q (.ref p) H))
theorem eu_tupL {xs : List V} (h : EvL te σ H xs) : EvU (tCB (rTupOf K) (tCons te tNil)) σ H xs := fun H1 e Q q =>
  h H1 e _ fun p H2 _ e2 h2 => ⟨p, xs, rfl, .inl ⟨sq_of h2, fun l hl => q l _ (fresh_back e2 hl) (e2.trans (Ex.new hl)) upd_same⟩⟩
/-! isinstance -/
theorem tyx_up {tt : Value} (e : Ex H H') (h : TyX K H x tt) : TyX K H' x tt := by
  cases h with
  | base b =>
    refine .base ?_
    cases b with
    | non => exact .non
    | bl y => exact .bl y
    | int i => exact .int i
    | str y => exact .str y
    | flt y => exact .flt y
    | lst ea => exact .lst (e _ _ ea)
    | frz ea => exact .frz (e _ _ ea)
    | tup ea => exact .tup (e _ _ ea)
    | dK ea => exact .dK (e _ _ ea)
    | dT ea => exact .dT (e _ _ ea)
    | ins ea cl ha hn htk hm => exact .ins (e _ _ ea) cl ha hn htk hm
  | byt y => exact .byt y
  | set ea => exact .set (e _ _ ea)
  | kList ea c => exact .kList ea c
  | kTuple ea c => exact .kTuple ea c
  | kDict ea c => exact .kDict ea c
  | fTuple ea => exact .fTuple (e _ _ ea)
  | fDict ea => exact .fDict (e _ _ ea)
theorem ev_isi {c : V} {u tt : Value} {b : Bool} (ha : Ev ta σ H x) (hb : Ev tb σ H c) (hc : ClsV c u) (ht : TyX K H x tt) (hk : PySem.W.kitOne K tt u = some b) : Ev (tCB (rIsi K) (tCons ta (tCons tb tNil))) σ H (.bl b) := fun H1 e Q q =>
  ha H1 e _ fun H2 e2 => hb H2 (e.trans e2) _ fun H3 e3 => ⟨x, c, tt, u, b, rfl, hc, tyx_up ((e.trans e2).trans e3) ht, hk, q H3 (e2.trans e3)⟩
theorem ev_isiR {c : V} {u tt : Value} {b : Bool} (ha : EvR ta σ H R) (ht : ∀ x H1, Ex H H1 → R x H1 → TyX K H1 x tt) (hb : Ev tb σ H c) (hc : ClsV c u) (hk : PySem.W.kitOne K tt u = some b) : Ev (tCB (rIsi K) (tCons ta (tCons tb tNil))) σ H (.bl b) := fun H1 e Q q =>
  ha H1 e _ fun x H2 e2 p => hb H2 (e.trans e2) _ fun H3 e3 => ⟨x, c, tt, u, b, rfl, hc, tyx_up e3 (ht x H2 (e.trans e2) p), hk, q H3 (e2.trans e3)⟩
/-- what isinstance asks of a class of one's own -/
structure IsC (K : PySem.W.Frag) (C : Addr) : Prop where
  (cl : Cls K C) (ha : PySem.W.findIn K (.ref C) "__class__" = some (some (.builtin "object.__class__"))) (hm : PySem.W.mroIn K C (.type "object") = some true)
structure IsG (K : PySem.W.Frag) : Prop where
  (hn : PySem.W.specialIn K (.builtin "object.__class__") "__get__" = some (some (.builtin "getset_descriptor.__get__"))) (htk : PySem.W.takesIn K (.builtin "object.__class__") = some true)
theorem tyx_ins {a C dx : Addr} {fs : List (Str × V)} (ho : H a = some (.ins C dx fs)) (c : IsC K C) (g : IsG K) : TyX K H (.ref a) (.ref C) := .base (.ins ho c.cl c.ha g.hn g.htk c.hm)
/-! calls of defs -/
theorem er_callS {sp : Sp} {dvs : List V} {E : XK} {ta : TA} {T : List V → Hp → Prop} (h : EvAR ta σ H T) (hs : ∀ vs H1, Ex H H1 → T vs H1 → ∀ Q : VK, (∀ v H2, Ex H1 H2 → R v H2 → Q v H2) → sp (vs ++ dvs) H1 Q E) : EvR (tCall sp dvs E ta) σ H R := fun H1 e Q q =>
  h H1 e _ fun vs H2 e2 p => hs vs H2 (e.trans e2) p Q fun v H3 e3 p3 => q v H3 (e2.trans e3) p3
theorem er_call {α : Type} {Pre : α → List V → Hp → Prop} {Post : α → Hp → V → Hp → Prop} {E : XK} {ta : TA} {vs : List V} (d : α) (h : EvA ta σ H vs) (hm : ∀ H1, Ex H H1 → Pre d vs H1) (hp : ∀ H1 v H2, Ex H H1 → Ex H1 H2 → Post d H1 v H2 → R v H2) :
    EvR (tCall (spX Pre Post) [] E ta) σ H R := fun H1 e Q q =>
  h H1 e _ fun H2 e2 => ⟨d, by rw [List.append_nil]; exact hm H2 (e.trans e2), fun v H3 e3 p3 => q v H3 (e2.trans e3) (hp H2 v H3 (e.trans e2) e3 p3)⟩
theorem ev_call0 {α : Type} {Pre : α → List V → Hp → Prop} {Post : α → Hp → V → Hp → Prop} {E : XK} {ta : TA} {vs : List V} (d : α) (h : EvA ta σ H vs) (hm : ∀ H1, Ex H H1 → Pre d vs H1) (hp : ∀ H1 v H2, Post d H1 v H2 → v = z) :
    Ev (tCall (spX Pre Post) [] E ta) σ H z := (er_call (R := fun x _ => x = z) d h hm fun H1 v H2 _ _ p => hp H1 v H2 p).ev fun _ _ _ p => p
theorem er_meth {α : Type} {Pre : α → List V → Hp → Prop} {Post : α → Hp → V → Hp → Prop} {E : XK} {tm : TA} {vs : List V} {a C dx : Addr} {fs : List (Str × V)} {m : Str} (d : α) (ha : Ev ta σ H (.ref a)) (ho : H a = some (.ins C dx fs)) (hl : fs.lookup m = none) (h : EvA tm σ H vs)
    (hm : ∀ H1, Ex H H1 → Pre d (.ref a :: vs) H1) (hp : ∀ H1 v H2, Ex H H1 → Ex H1 H2 → Post d H1 v H2 → R v H2) : EvR (tMeth C m (spX Pre Post) [] E ta tm) σ H R := fun H1 e Q q =>
  ha H1 e _ fun H2 e2 => ⟨a, dx, fs, rfl, (e.trans e2) a _ ho, hl, h H2 (e.trans e2) _ fun H3 e3 => ⟨d, by rw [List.append_nil]; exact hm H3 ((e.trans e2).trans e3), fun v H4 e4 p4 => q v H4 ((e2.trans e3).trans e4) (hp H3 v H4 ((e.trans e2).trans e3) e4 p4)⟩⟩
theorem ev_meth {α : Type} {Pre : α → List V → Hp → Prop} {Post : α → Hp → V → Hp → Prop} {E : XK} {tm : TA} {vs : List V} {a C dx : Addr} {fs : List (Str × V)} {m : Str} (d : α) (ha : Ev ta σ H (.ref a)) (ho : H a = some (.ins C dx fs)) (hl : fs.lookup m = none) (h : EvA tm σ H vs)
    (hm : ∀ H1, Ex H H1 → Pre d (.ref a :: vs) H1) (hp : ∀ H1 v H2, Post d H1 v H2 → v = z) : Ev (tMeth C m (spX Pre Post) [] E ta tm) σ H z := (er_meth (R := fun x _ => x = z) d ha ho hl h hm fun H1 v H2 _ _ p => hp H1 v H2 p).ev fun _ _ _ p => p
/-- C(..): __init__ leaves an instance with fields fs, of the arguments -/
def spI (C : Addr) (Pre : List V → Hp → Prop) (Post : List V → Hp → Hp → List (Str × V) → Prop) : Sp := fun vs H Q _ => ∃ x dx us, vs = .ref x :: us ∧ H x = some (.ins C dx []) ∧ Pre us H ∧
  ∀ H' fs, (∀ b o, b ≠ x → H b = some o → H' b = some o) → H' x = some (.ins C dx fs) → Post us H H' fs → Q .non H'
theorem er_make {C : Addr} {Pre : List V → Hp → Prop} {Post : List V → Hp → Hp → List (Str × V) → Prop} {E : XK} {ta : TA} {T : List V → Hp → Prop} (h : EvAR ta σ H T)
    (hm : ∀ us H1 H2, Ex H H1 → T us H1 → Ex H1 H2 → Pre us H2) (hR : ∀ us H1 H2 H3 fs x dx, Ex H H1 → T us H1 → Ex H1 H2 → Ex H1 H3 → H1 x = none → H3 x = some (.ins C dx fs) → Post us H2 H3 fs → R (.ref x) H3) :
    EvR (tMake C (spI C Pre Post) [] E ta) σ H R := fun H1 e Q q =>
  h H1 e _ fun us H2 e2 p x dx hx hd hn => by
    have eA : Ex H2 (upd (upd H2 dx (.own x)) x (.ins C dx [])) := (Ex.new hd).mut hx
    refine ⟨x, dx, us, by rw [List.append_nil], upd_same, hm us H2 _ (e.trans e2) p eA, fun H' fs hk hi hp => ⟨rfl, ?_⟩⟩
    have e3 : Ex H2 H' := fun b o hb => hk b o (fun z => by rw [z, hx] at hb; cases hb) (eA b o hb)
    exact q _ _ (e2.trans e3) (hR us H2 _ H' fs x dx (e.trans e2) p eA e3 hx hi hp)
/-! ### statements -/
theorem s_asgR {i : Nat} (h : EvR te σ H R) (k : ∀ v H1, Ex H H1 → R v H1 → D.nx (σ.set i (some v)) H1) : tAsg te (gName i) D σ H := h H (Ex.refl H) _ fun v H1 e p => k v H1 e p
theorem q_asgR {i : Nat} (h : EvR te σ H R) (k : ∀ v H1, Ex H H1 → R v H1 → tz D (σ.set i (some v)) H1) : tSeq (tAsg te (gName i)) tz D σ H := s_asgR (D := { D with nx := tz D }) h k
theorem s_retR (h : EvR te σ H R) (k : ∀ v H1, Ex H H1 → R v H1 → D.rt v H1) : tRet te D σ H := h H (Ex.refl H) _ k
theorem s_asgG (h : EvR te σ H R) (k : ∀ v H1, Ex H H1 → R v H1 → g v σ H1 D.nx) : tAsg te g D σ H := h H (Ex.refl H) _ fun v H1 e p => k v H1 e p
theorem q_asgG (h : EvR te σ H R) (k : ∀ v H1, Ex H H1 → R v H1 → g v σ H1 (tz D)) : tSeq (tAsg te g) tz D σ H := s_asgG (D := { D with nx := tz D }) h k
theorem s_dropR (h : EvR te σ H R) (k : ∀ v H1, Ex H H1 → R v H1 → D.nx σ H1) : tDrop te D σ H := h H (Ex.refl H) _ k
theorem q_dropR (h : EvR te σ H R) (k : ∀ v H1, Ex H H1 → R v H1 → tz D σ H1) : tSeq (tDrop te) tz D σ H := s_dropR (D := { D with nx := tz D }) h k
theorem s_par {i j : Nat} {ta : TA} {vs : List V} {v w : V} (h : EvA ta σ H vs) (hv : vs = [v, w]) (k : ∀ H1, Ex H H1 → D.nx ((σ.set i (some v)).set j (some w)) H1) : tPar i j ta D σ H := h H (Ex.refl H) _ fun H1 e => ⟨v, w, hv, k H1 e⟩
theorem q_par {i j : Nat} {ta : TA} {vs : List V} {v w : V} (h : EvA ta σ H vs) (hv : vs = [v, w]) (k : ∀ H1, Ex H H1 → tz D ((σ.set i (some v)).set j (some w)) H1) : tSeq (tPar i j ta) tz D σ H := s_par (D := { D with nx := tz D }) h hv k
/-- a, b, .. = a tuple -/
theorem g_tup2 {i j : Nat} {a : Addr} {p q : V} {Q : L2.St → Hp → Prop} (h : SqT K H a [p, q]) (k : Q ((σ.set i (some p)).set j (some q)) H) : gTup K 2 (gCons (gName i) (gCons (gName j) gNil)) (.ref a) σ H Q := ⟨a, [p, q], rfl, h, rfl, p, [q], rfl, q, [], rfl, rfl, k⟩
theorem g_tup3 {i j l : Nat} {a : Addr} {p q s : V} {Q : L2.St → Hp → Prop} (h : SqT K H a [p, q, s]) (k : Q (((σ.set i (some p)).set j (some q)).set l (some s)) H) : gTup K 3 (gCons (gName i) (gCons (gName j) (gCons (gName l) gNil))) (.ref a) σ H Q := ⟨a, [p, q, s], rfl, h, rfl, p, [q, s], rfl, q, [s], rfl, s, [], rfl, rfl, k⟩
theorem seq_i (h : tu { D with nx := tz D } σ H) : tSeq tu tz D σ H := h
theorem s_next (h : D.nx σ H) : tNext D σ H := h
end
/-! ### pieces -/
theorem vint_inj {i j : Int} : (V.int i = V.int j) ↔ i = j := ⟨fun h => V.int.inj h, fun h => by rw [h]⟩
theorem vbl_inj {i j : Bool} : (V.bl i = V.bl j) ↔ i = j := ⟨fun h => V.bl.inj h, fun h => by rw [h]⟩
theorem given_all {n : Nat} {v : Nat → V} : given n (fun _ => true) v = (List.range n).map v := by
  unfold given
  rw [List.filter_eq_self.mpr (fun _ _ => rfl)]
end Wl
namespace Wl
open PySem PySem.Spec PyProof.Rows L2 Evl
theorem ev_self {te : TE} {σ : L2.St} {H : Hp} {v : V} (h : Ev te σ H v) : Ev te σ H v := h
theorem et_self {t : TT} {σ : L2.St} {H : Hp} {b : Bool} (h : EvT t σ H b) : EvT t σ H b := h
theorem eb_i {b c : Bool} {P : Prop} (h : b = c → P) : b = c → P := h
end Wl
namespace Wl
open PySem PySem.Spec PyProof.Rows L2 Evl
/-! ### comprehensions -/
/-- what a made item tells leans on no list -/
def Stb (R : Nat → V → Hp → Prop) : Prop := ∀ j y H1 H2, R j y H1 → (∀ b o, H1 b = some o → (∀ zs, o ≠ .lst zs) → H2 b = some o) → R j y H2
theorem stb_val {v : Nat → V} : Stb (fun j y _ => y = v j) := fun _ _ _ _ h _ => h
theorem stb_tup {v : Nat → List V} : Stb (fun j y H => ∃ t, y = .ref t ∧ H t = some (.tup (v j))) := fun j y H1 H2 ⟨t, e, h⟩ k => ⟨t, e, k t _ h fun zs z => nomatch z⟩
def Lw (H : Hp) (R : Nat → V → Hp → Prop) (Dl : Addr) (i : Nat) (H' : Hp) : Prop := H Dl = none ∧ Ex H H' ∧ ∃ ys, H' Dl = some (.lst ys) ∧ ys.length = i ∧ ∀ j y, ys[j]? = some y → R j y H'
section
variable {K : PySem.W.Frag} {σ : L2.St} {H H' : Hp} {ta tb tc te tx : TE} {t u : TT} {x y z v : V} {D : Ends} {tu tw tz : TS} {g : TG}
theorem et_yes : EvT tYes σ H true := fun H1 _ _ q => q H1 (Ex.refl H1)
theorem lw_turn {R : Nat → V → Hp → Prop} {Dl : Addr} {i : Nat} {σ2 : L2.St} (p : Lw H R Dl i H') (hi : i < 50000) (hst : Stb R) (he : EvR te σ2 H (R i)) :
    te σ2 H' fun y H4 => ∃ acc, H4 Dl = some (.lst acc) ∧ acc.length < sizeLine ∧ Lw H R Dl (i + 1) (upd H4 Dl (.lst (acc ++ [y]))) := by
  obtain ⟨p1, p2, ys, p3, p4, p5⟩ := p
  refine he H' p2 _ fun y H4 e4 py => ⟨ys, e4 Dl _ p3, sz_lt (by omega), p1, Ex.mut (p2.trans e4) p1, ys ++ [y], upd_same, by simp [p4], fun j z hz => ?_⟩
  have keep : ∀ b o, H4 b = some o → (∀ zs, o ≠ .lst zs) → upd H4 Dl (.lst (ys ++ [y])) b = some o := fun b o hb hn => by
    rw [upd_ne (fun e => ?_)]
    · exact hb
    · subst e
      rw [e4 _ _ p3] at hb
      exact hn ys (Option.some.inj hb).symm
  by_cases hj : j < ys.length
  · rw [List.getElem?_append_left hj] at hz
    exact hst j z H4 _ (hst j z H' H4 (p5 j z hz) fun b o hb _ => e4 b o hb) keep
  · rw [List.getElem?_append_right (by omega)] at hz
    have hj2 : j - ys.length = 0 := by
      have := (List.getElem?_eq_some_iff.mp hz).1
      simp at this
      omega
    rw [hj2] at hz
    have e : y = z := Option.some.inj hz
    have ej : j = i := by omega
    subst e ej
    exact hst _ y H4 _ py keep
abbrev LcR (n : Nat) (R : Nat → V → Hp → Prop) (H : Hp) : V → Hp → Prop := fun v H2 => ∃ D ys, v = .ref D ∧ H D = none ∧ H2 D = some (.lst ys) ∧ ys.length = n ∧ ∀ j y, ys[j]? = some y → R j y H2
/-- over a list, its target any -/
theorem er_lcL {a : Addr} {xs : List V} {tl : TE} {vs : List Nat} (R : Nat → V → Hp → Prop) (hst : Stb R) (h : Ev tl σ H (.ref a)) (hx : SqL K H a xs) (hz : xs.length ≤ 40000)
    (hg : ∀ i x, xs[i]? = some x → ∃ σ2, wipe σ2 vs = wipe σ vs ∧ EvR te σ2 H (R i) ∧ ∀ H', Ex H H' → ∀ Q : L2.St → Hp → Prop, Q σ2 H' → g x (wipe σ vs) H' Q) :
    EvR (tLc (iList K tl) g tYes te vs) σ H (LcR xs.length R H) := fun H0 e Q q => h H0 e _ fun H1 e1 => ⟨a, rfl, ⟨xs, ex_l (e.trans e1) hx⟩, fun Dl hD =>
  lc_list (xs := xs) (Lw H1 R Dl) ⟨hD, Ex.new hD, [], upd_same, rfl, fun j y hy => by simp at hy⟩ (fun i H' _ p => ex_l ((e.trans e1).trans p.2.1) hx) (fun i x H' hi p => by
    obtain ⟨σ2, hw, he, hq⟩ := hg i x hi
    refine hq H' ((e.trans e1).trans p.2.1) _ ⟨hw, ?_⟩
    exact lw_turn p (by have := (List.getElem?_eq_some_iff.mp hi).1; omega) hst (he.mono (e.trans e1))) (fun H' p => by
    obtain ⟨p1, p2, ys, p3, p4, p5⟩ := p
    exact q _ H' (e1.trans p2) ⟨Dl, ys, rfl, fresh_back (e.trans e1) p1, p3, p4, p5⟩)⟩
/-- over a new list -/
theorem er_lcNL {xs : List V} {tl : TE} {vs : List Nat} (S : V → Hp → Prop) (R : Nat → V → Hp → Prop) (hst : Stb R) (h : EvR tl σ H S) (hS : ∀ v H1, Ex H H1 → S v H1 → ∃ a, v = .ref a ∧ SqL K H1 a xs) (hz : xs.length ≤ 40000)
    (hg : ∀ v H1, Ex H H1 → S v H1 → ∀ i x, xs[i]? = some x → ∃ σ2, wipe σ2 vs = wipe σ vs ∧ EvR te σ2 H1 (R i) ∧ ∀ H', Ex H1 H' → ∀ Q : L2.St → Hp → Prop, Q σ2 H' → g x (wipe σ vs) H' Q) :
    EvR (tLc (iList K tl) g tYes te vs) σ H (LcR xs.length R H) := fun H0 e Q q => h H0 e _ fun v H1 e1 hv => by
  obtain ⟨a, rfl, hx⟩ := hS v H1 (e.trans e1) hv
  refine ⟨a, rfl, ⟨xs, hx⟩, fun Dl hD =>
    lc_list (xs := xs) (Lw H1 R Dl) ⟨hD, Ex.new hD, [], upd_same, rfl, fun j y hy => by simp at hy⟩ (fun i H' _ p => ex_l p.2.1 hx) (fun i x H' hi p => ?_) (fun H' p => ?_)⟩
  · obtain ⟨σ2, hw, he, hq⟩ := hg _ H1 (e.trans e1) hv i x hi
    refine hq H' p.2.1 _ ⟨hw, ?_⟩
    exact lw_turn p (by have := (List.getElem?_eq_some_iff.mp hi).1; omega) hst he
  · obtain ⟨p1, p2, ys, p3, p4, p5⟩ := p
    exact q _ H' (e1.trans p2) ⟨Dl, ys, rfl, fresh_back (e.trans e1) p1, p3, p4, p5⟩
/-- over a tuple -/
theorem er_lcT {a : Addr} {xs : List V} {tl : TE} {vs : List Nat} (R : Nat → V → Hp → Prop) (hst : Stb R) (h : Ev tl σ H (.ref a)) (hx : SqT K H a xs) (hz : xs.length ≤ 40000)
    (hg : ∀ i x, xs[i]? = some x → ∃ σ2, wipe σ2 vs = wipe σ vs ∧ EvR te σ2 H (R i) ∧ ∀ H', Ex H H' → ∀ Q : L2.St → Hp → Prop, Q σ2 H' → g x (wipe σ vs) H' Q) :
    EvR (tLc (iTup K tl) g tYes te vs) σ H (LcR xs.length R H) := fun H0 e Q q => h H0 e _ fun H1 e1 => ⟨a, rfl, ⟨xs, ex_t (e.trans e1) hx⟩, fun Dl hD =>
  lc_tup (xs := xs) (Lw H1 R Dl) ⟨hD, Ex.new hD, [], upd_same, rfl, fun j y hy => by simp at hy⟩ (fun i H' _ p => ex_t ((e.trans e1).trans p.2.1) hx) (fun i x H' hi p => by
    obtain ⟨σ2, hw, he, hq⟩ := hg i x hi
    refine hq H' ((e.trans e1).trans p.2.1) _ ⟨hw, ?_⟩
    exact lw_turn p (by have := (List.getElem?_eq_some_iff.mp hi).1; omega) hst (he.mono (e.trans e1))) (fun H' p => by
    obtain ⟨p1, p2, ys, p3, p4, p5⟩ := p
    exact q _ H' (e1.trans p2) ⟨Dl, ys, rfl, fresh_back (e.trans e1) p1, p3, p4, p5⟩)⟩
/-- over range(n) -/
theorem er_lcR {ta : TA} {n : Nat} {j : Nat} {vs : List Nat} (R : Nat → V → Hp → Prop) (hst : Stb R) (h : EvA ta σ H [.int (n : Int)]) (hz : n ≤ 40000) (hw : ∀ x, wipe ((wipe σ vs).set j (some x)) vs = wipe σ vs)
    (hg : ∀ i, i < n → EvR te ((wipe σ vs).set j (some (.int (i : Int)))) H (R i)) :
    EvR (tLc (iRng1 ta) (gName j) tYes te vs) σ H (LcR n R H) := fun H0 e Q q => h H0 e _ fun H1 e1 => ⟨n, rfl, by omega, by omega, fun Dl hD => by
  have en : ((n : Int)).toNat = n := by omega
  rw [en]
  refine lc_range (lo := 0) (n := n) (Lw H1 R Dl) ⟨hD, Ex.new hD, [], upd_same, rfl, fun j y hy => by simp at hy⟩ (fun i H' hi p => ?_) (fun H' p => ?_)
  · have e0 : (0 : Int) + (i : Int) = (i : Int) := Int.zero_add _
    rw [e0]
    refine ⟨hw _, ?_⟩
    exact lw_turn p (by omega) hst ((hg i hi).mono (e.trans e1))
  · obtain ⟨p1, p2, ys, p3, p4, p5⟩ := p
    exact q _ H' (e1.trans p2) ⟨Dl, ys, rfl, fresh_back (e.trans e1) p1, p3, p4, p5⟩⟩
/-- the made list, its items known -/
theorem lc_is {n : Nat} {f : Nat → V} {ys : List V} (hl : ys.length = n) (h : ∀ j y, ys[j]? = some y → y = f j) : ys = (List.range n).map f := by
  apply List.ext_getElem?
  intro i
  cases e : ys[i]? with
  | none =>
    have := List.getElem?_eq_none_iff.mp e
    exact (List.getElem?_eq_none_iff.mpr (by rw [List.length_map, List.length_range]; omega)).symm
  | some y =>
    have hi := (List.getElem?_eq_some_iff.mp e).1
    rw [List.getElem?_map, List.getElem?_range (by omega), h i y e]
    rfl
/-- the list's items known -/
theorem LcR.sq {n : Nat} {f : Nat → V} {v : V} {H1 : Hp} (h : LcR n (fun j y _ => y = f j) H v H1) : ∃ a, v = .ref a ∧ SqL K H1 a ((List.range n).map f) := by
  obtain ⟨D, ys, rfl, _, h3, h4, h5⟩ := h
  rw [lc_is h4 h5] at h3
  exact ⟨D, rfl, sq_of h3⟩
theorem ev_sumR {S : V → Hp → Prop} {ns : List Int} (h : EvR te σ H S) (hS : ∀ v H1, Ex H H1 → S v H1 → ∃ a, v = .ref a ∧ SqL K H1 a (ns.map V.int)) : Ev (tCB (rSum K) (tCons te tNil)) σ H (.int ns.sum) := fun H1 e Q q =>
  h H1 e _ fun x H2 e2 p => by
    obtain ⟨a, rfl, hx⟩ := hS x H2 (e.trans e2) p
    exact ⟨a, ns, rfl, hx, q H2 e2⟩
theorem ev_allR {S : V → Hp → Prop} {bs : List Bool} (h : EvR te σ H S) (hS : ∀ v H1, Ex H H1 → S v H1 → ∃ a, v = .ref a ∧ SqL K H1 a (bs.map V.bl)) : Ev (tCB (rAll K) (tCons te tNil)) σ H (.bl (bs.all id)) := fun H1 e Q q =>
  h H1 e _ fun x H2 e2 p => by
    obtain ⟨a, rfl, hx⟩ := hS x H2 (e.trans e2) p
    exact ⟨a, bs, rfl, hx, q H2 e2⟩
theorem ev_anyR {S : V → Hp → Prop} {bs : List Bool} (h : EvR te σ H S) (hS : ∀ v H1, Ex H H1 → S v H1 → ∃ a, v = .ref a ∧ SqL K H1 a (bs.map V.bl)) : Ev (tCB (rAny K) (tCons te tNil)) σ H (.bl (bs.any id)) := fun H1 e Q q =>
  h H1 e _ fun x H2 e2 p => by
    obtain ⟨a, rfl, hx⟩ := hS x H2 (e.trans e2) p
    exact ⟨a, bs, rfl, hx, q H2 e2⟩
/-- tuple(a list) -/
theorem er_tupR {S : V → Hp → Prop} {xs : List V} (h : EvR te σ H S) (hS : ∀ v H1, Ex H H1 → S v H1 → ∃ a, v = .ref a ∧ SqL K H1 a xs) : EvR (tCB (rTupOf K) (tCons te tNil)) σ H (fun v H2 => ∃ p, v = .ref p ∧ H p = none ∧ H2 p = some (.tup xs)) := fun H1 e Q q =>
  h H1 e _ fun x H2 e2 p => by
    obtain ⟨a, rfl, hx⟩ := hS x H2 (e.trans e2) p
    exact ⟨a, xs, rfl, .inl ⟨hx, fun l hl => q _ _ (e2.trans (Ex.new hl)) ⟨l, rfl, fresh_back (e.trans e2) hl, upd_same⟩⟩⟩
/-- list(a list) -/
theorem er_listL {a : Addr} {xs : List V} (h : Ev te σ H (.ref a)) (hx : SqL K H a xs) : EvR (tCB (fun xs H Q => ∃ p ys, xs = [V.ref p] ∧ (SqL K H p ys ∨ SqT K H p ys) ∧ ∀ l, H l = none → Q (.ref l) (upd H l (.lst ys))) (tCons te tNil)) σ H (fun v H2 => ∃ p, v = .ref p ∧ H p = none ∧ H2 p = some (.lst xs)) := fun H1 e Q q =>
  h H1 e _ fun H2 e2 => ⟨a, xs, rfl, .inl (ex_l (e.trans e2) hx), fun l hl => q _ _ (e2.trans (Ex.new hl)) ⟨l, rfl, fresh_back (e.trans e2) hl, upd_same⟩⟩
/-- (a, b, ..) of anything -/
theorem er_tup {ta : TA} {T : List V → Hp → Prop} (h : EvAR ta σ H T) (hl : ∀ vs H1, T vs H1 → vs.length ≤ 100000) : EvR (tTup ta) σ H (fun v H2 => ∃ p vs H1, v = .ref p ∧ H p = none ∧ Ex H1 H2 ∧ T vs H1 ∧ H2 p = some (.tup vs)) := fun H1 e Q q =>
  h H1 e _ fun vs H2 e2 p => ⟨sz_of (hl vs H2 p), fun l hl => q _ _ (e2.trans (Ex.new hl)) ⟨l, vs, H2, rfl, fresh_back (e.trans e2) hl, Ex.new hl, p, upd_same⟩⟩
theorem er_lst {ta : TA} {T : List V → Hp → Prop} (h : EvAR ta σ H T) (hl : ∀ vs H1, T vs H1 → vs.length ≤ 100000) : EvR (tLst ta) σ H (fun v H2 => ∃ p vs H1, v = .ref p ∧ H p = none ∧ Ex H1 H2 ∧ T vs H1 ∧ H2 p = some (.lst vs)) := fun H1 e Q q =>
  h H1 e _ fun vs H2 e2 p => ⟨sz_of (hl vs H2 p), fun l hl => q _ _ (e2.trans (Ex.new hl)) ⟨l, vs, H2, rfl, fresh_back (e.trans e2) hl, Ex.new hl, p, upd_same⟩⟩
end
end Wl
namespace Wl
open PySem PySem.Spec PyProof.Rows L2 Evl
theorem EvAR.imp {ta : TA} {σ : L2.St} {H : Hp} {R R' : List V → Hp → Prop} (h : EvAR ta σ H R) (hi : ∀ v H2, Ex H H2 → R v H2 → R' v H2) : EvAR ta σ H R' := fun H1 a Q q => h H1 a Q fun v H2 e p => q v H2 e (hi v H2 (a.trans e) p)
end Wl
namespace Wl
open PySem PySem.Spec PyProof.Rows L2 Evl
/-! ### rules with K named (within a comprehension K is hidden in the context) -/
section
variable {X : Cx} (K : PySem.W.Frag)
theorem ix_tupK (h : X.K = K := by rfl) : IxR X (rIxT K) := by subst h; exact ix_tup
theorem ix_listK (h : X.K = K := by rfl) : IxR X (rIxL K) := by subst h; exact ix_list
abbrev rLenQ (K : PySem.W.Frag) : List V → Hp → VK → Prop := fun xs H Q => ∃ p ys, xs = [.ref p] ∧ (SqL K H p ys ∨ SqT K H p ys) ∧ Q (.int ys.length) H
abbrev rListQ (K : PySem.W.Frag) : List V → Hp → VK → Prop := fun xs H Q => ∃ p ys, xs = [.ref p] ∧ (SqL K H p ys ∨ SqT K H p ys) ∧ ∀ l, H l = none → Q (.ref l) (upd H l (.lst ys))
theorem len_seqK (h : X.K = K := by rfl) : CallR X (.builtin "len") (rLenQ K) := by subst h; exact call_len_seq
theorem allK (hc : X.calm = true) (h : X.K = K := by rfl) : CallR X (.builtin "all") (rAll K) := by subst h; exact cr_all hc
theorem anyK (hc : X.calm = true) (h : X.K = K := by rfl) : CallR X (.builtin "any") (rAny K) := by subst h; exact cr_any hc
theorem sumK (hc : X.calm = true) (h : X.K = K := by rfl) : CallR X (.builtin "sum") (rSum K) := by subst h; exact cr_sum hc
theorem isiK (h : X.K = K := by rfl) : CallR X (.builtin "isinstance") (rIsi K) := by subst h; exact call_isi
theorem list_ofK (h : X.K = K := by rfl) : CallR X (.type "list") (rListQ K) := by subst h; exact call_list_of
theorem tuple_ofK (h : X.K = K := by rfl) : CallR X (.type "tuple") (rTupOf K) := by subst h; exact call_tuple_of
theorem eqDK (hu : X.A.units + 64 < cLine) (h : X.K = K := by rfl) : OpR X (compareOp .Eq) (rEqD K) := by subst h; exact op_eqD hu
theorem neDK (hu : X.A.units + 64 < cLine) (h : X.K = K := by rfl) : OpR X (compareOp .NotEq) (rNeD K) := by subst h; exact op_neD hu
theorem pe_fldK {e : Expr} {f : Str} {pos : Pos} {ta : TE} (he : PE X e ta) (hb : attributeBase e f X.env (eval e X.env) = eval e X.env) (h : X.K = K := by rfl) : PE X (.Attribute e f pos) (tFld K ta f) := by subst h; exact pe_fld he hb
theorem pg_tupK {es : List Expr} {k : Nat} {pos : Pos} {t : TGs} {n : Nat} (hc : X.calm = true) (ht : PGs X es t)
    (hn : (assignEach es X.env).length = n := by rfl) (hst : (assignEach es X.env).findIdx? (·.1) = none := by rfl) (h : X.K = K := by rfl) : PG X (.Tuple es k pos) (gTup K n t) := by subst h; exact pg_tup hc ht hn hst
theorem pi_listK {tg l : Expr} {tl : TE} (hl : PE X l tl) (h : X.K = K := by rfl) : PI X tg l (iList K tl) := by subst h; exact pi_list hl
theorem pi_tupK {tg l : Expr} {tl : TE} (hl : PE X l tl) (h : X.K = K := by rfl) : PI X tg l (iTup K tl) := by subst h; exact pi_tup hl
end
end Wl
namespace Wl
open PySem PySem.Spec PyProof.Rows L2 Evl
section
variable {K : PySem.W.Frag} {σ : L2.St} {H H' : Hp} {te : TE}
/-- the target a name -/
theorem er_lcLn {a : Addr} {xs : List V} {tl : TE} {vs : List Nat} {j : Nat} (R : Nat → V → Hp → Prop) (hst : Stb R) (h : Ev tl σ H (.ref a)) (hx : SqL K H a xs) (hz : xs.length ≤ 40000) (hw : ∀ x, wipe ((wipe σ vs).set j (some x)) vs = wipe σ vs)
    (hg : ∀ i x, xs[i]? = some x → EvR te ((wipe σ vs).set j (some x)) H (R i)) : EvR (tLc (iList K tl) (gName j) tYes te vs) σ H (LcR xs.length R H) :=
  er_lcL R hst h hx hz fun i x hi => ⟨_, hw x, hg i x hi, fun _ _ _ q => q⟩
theorem er_lcTn {a : Addr} {xs : List V} {tl : TE} {vs : List Nat} {j : Nat} (R : Nat → V → Hp → Prop) (hst : Stb R) (h : Ev tl σ H (.ref a)) (hx : SqT K H a xs) (hz : xs.length ≤ 40000) (hw : ∀ x, wipe ((wipe σ vs).set j (some x)) vs = wipe σ vs)
    (hg : ∀ i x, xs[i]? = some x → EvR te ((wipe σ vs).set j (some x)) H (R i)) : EvR (tLc (iTup K tl) (gName j) tYes te vs) σ H (LcR xs.length R H) :=
  er_lcT R hst h hx hz fun i x hi => ⟨_, hw x, hg i x hi, fun _ _ _ q => q⟩
/-- the target a pair of names, the items pairs -/
theorem er_lcLp {a : Addr} {xs : List V} {tl : TE} {vs : List Nat} {j l : Nat} (R : Nat → V → Hp → Prop) (hst : Stb R) (h : Ev tl σ H (.ref a)) (hx : SqL K H a xs) (hz : xs.length ≤ 40000) (hw : ∀ x y, wipe (((wipe σ vs).set j (some x)).set l (some y)) vs = wipe σ vs)
    (hg : ∀ i x, xs[i]? = some x → ∃ t p q, x = .ref t ∧ SqT K H t [p, q] ∧ EvR te (((wipe σ vs).set j (some p)).set l (some q)) H (R i)) : EvR (tLc (iList K tl) (gTup K 2 (gCons (gName j) (gCons (gName l) gNil))) tYes te vs) σ H (LcR xs.length R H) :=
  er_lcL R hst h hx hz fun i x hi => by
    obtain ⟨t, p, q, rfl, ht, he⟩ := hg i x hi
    exact ⟨_, hw p q, he, fun _ e _ k => g_tup2 (ex_t e ht) k⟩
end
end Wl
namespace Wl
open PySem PySem.Spec PyProof.Rows L2 Evl
section
variable {K : PySem.W.Frag} {σ : L2.St} {H H' : Hp} {te ti : TE} {ta : TA}
theorem dec_vint {i j : Int} : decide (V.int i = V.int j) = decide (i = j) := decide_eq_decide.mpr vint_inj
theorem dec_vbl {i j : Bool} : decide (V.bl i = V.bl j) = decide (i = j) := decide_eq_decide.mpr vbl_inj
theorem rv_eqI {i j : Int} : RV rEq (.int i) (.int j) H (.bl (decide (i = j))) := fun H1 _ _ q => ⟨rfl, by rw [dec_vint]; exact q H1 (Ex.refl H1)⟩
theorem rv_neI {i j : Int} : RV rNe (.int i) (.int j) H (.bl (!decide (i = j))) := fun H1 _ _ q => ⟨rfl, by rw [dec_vint]; exact q H1 (Ex.refl H1)⟩
theorem rv_eqB {i j : Bool} : RV rEq (.bl i) (.bl j) H (.bl (decide (i = j))) := fun H1 _ _ q => ⟨rfl, by rw [dec_vbl]; exact q H1 (Ex.refl H1)⟩
theorem rv_neB {i j : Bool} : RV rNe (.bl i) (.bl j) H (.bl (!decide (i = j))) := fun H1 _ _ q => ⟨rfl, by rw [dec_vbl]; exact q H1 (Ex.refl H1)⟩
theorem rv_isB {i j : Bool} : RV rIsB (.bl i) (.bl j) H (.bl (decide (i = j))) := fun H1 _ _ q => ⟨i, j, rfl, rfl, q H1 (Ex.refl H1)⟩
theorem rv_notB {i j : Bool} : RV rNotB (.bl i) (.bl j) H (.bl (!decide (i = j))) := fun H1 _ _ q => ⟨i, j, rfl, rfl, q H1 (Ex.refl H1)⟩
theorem atI_map {l : List Int} {i : Int} (h0 : 0 ≤ i) (h1 : i < l.length) : atI (l.map V.int) i = some (.int (l.getD i.toNat 0)) := by
  refine at_of (j := i.toNat) (by omega) ?_
  rw [List.getElem?_map, List.getD_eq_getElem?_getD, List.getElem?_eq_getElem (by omega)]
  rfl
/-- an item of a written tuple of ints -/
theorem ev_pick {l : List Int} {i : Int} {vs : List V} (h : EvA ta σ H vs) (hi : Ev ti σ H (.int i)) (hv : vs = l.map V.int) (h0 : 0 ≤ i) (h1 : i < l.length) (hl : l.length ≤ 100000) : Ev (tOp (rIxT K) (tTup ta) ti) σ H (.int (l.getD i.toNat 0)) :=
  ev_opR (eur (eu_tup h (by rw [hv, List.length_map]; exact hl))) hi fun x H1 e ⟨p, hx, _, hp⟩ => by
    subst hx
    rw [hv] at hp
    exact rv_ixT (st_of hp) (atI_map h0 h1)
theorem getD_all {l : List Int} {i : Nat} {a b : Int} (h : (l.all fun x => decide (a ≤ x) && decide (x ≤ b)) = true) (hi : i < l.length) : a ≤ l.getD i 0 ∧ l.getD i 0 ≤ b := by
  rw [List.getD_eq_getElem?_getD, List.getElem?_eq_getElem hi]
  have := List.all_eq_true.mp h _ (List.getElem_mem hi)
  simp only [Bool.and_eq_true, decide_eq_true_eq] at this
  exact this
theorem ev_lenL {p : Addr} {xs : List V} (ha : Ev te σ H (.ref p)) (h : SqL K H p xs) : Ev (tCB (rLenQ K) (tCons te tNil)) σ H (.int (xs.length : Int)) := fun H1 e Q q =>
  ha H1 e _ fun H2 e2 => ⟨p, xs, rfl, .inl (ex_l (e.trans e2) h), q H2 e2⟩
end
end Wl
namespace Wl
open PySem PySem.Spec PyProof.Rows L2 Evl
theorem lk0 {f g : Str} {x : V} (h : (g == f) = false := by decide +kernel) : List.lookup g [(f, x)] = none := by simp [List.lookup, h]
theorem lk00 {f f2 g : Str} {x x2 : V} (h : (g == f) = false := by decide +kernel) (h2 : (g == f2) = false := by decide +kernel) : List.lookup g [(f, x), (f2, x2)] = none := by simp [List.lookup, h, h2]
theorem lk21 {f f2 : Str} {x x2 : V} : List.lookup f [(f, x), (f2, x2)] = some x := by simp [List.lookup]
theorem lk22 {f f2 : Str} {x x2 : V} (h : (f2 == f) = false := by decide +kernel) : List.lookup f2 [(f, x), (f2, x2)] = some x2 := by simp [List.lookup, h]
section
variable {K : PySem.W.Frag} {σ : L2.St} {H H' : Hp} {te ti : TE} {ta : TA} {D : Ends} {tu tz : TS} {g : TG}
/-- over a new tuple, the target a name -/
theorem s_forTR {xs : List V} {tl : TE} {j : Nat} (h : EvR tl σ H (fun v H1 => ∃ a, v = .ref a ∧ SqT K H1 a xs)) (Pv : Addr → Nat → L2.St → Hp → Prop) (h0 : ∀ a H1, Ex H H1 → SqT K H1 a xs → Pv a 0 σ H1) (hl : ∀ a i σ' H', i ≤ xs.length → Pv a i σ' H' → SqT K H' a xs)
    (hs : ∀ a i x σ' H', xs[i]? = some x → Pv a i σ' H' → tu { D with nx := Pv a (i + 1), ct := Pv a (i + 1), bk := D.nx } (σ'.set j (some x)) H') (hd : ∀ a σ' H', Pv a xs.length σ' H' → D.nx σ' H') : tFor (iTup K tl) (gName j) tu D σ H :=
  h H (Ex.refl H) _ fun v H1 e ⟨a, hv, hx⟩ => ⟨a, hv, ⟨xs, hx⟩, for_tup (Pv a) (h0 a H1 e hx) (hl a) (hs a) (hd a)⟩
theorem q_forTR {xs : List V} {tl : TE} {j : Nat} (h : EvR tl σ H (fun v H1 => ∃ a, v = .ref a ∧ SqT K H1 a xs)) (Pv : Addr → Nat → L2.St → Hp → Prop) (h0 : ∀ a H1, Ex H H1 → SqT K H1 a xs → Pv a 0 σ H1) (hl : ∀ a i σ' H', i ≤ xs.length → Pv a i σ' H' → SqT K H' a xs)
    (hs : ∀ a i x σ' H', xs[i]? = some x → Pv a i σ' H' → tu { D with nx := Pv a (i + 1), ct := Pv a (i + 1), bk := tz D } (σ'.set j (some x)) H') (hd : ∀ a σ' H', Pv a xs.length σ' H' → tz D σ' H') : tSeq (tFor (iTup K tl) (gName j) tu) tz D σ H :=
  s_forTR (D := { D with nx := tz D }) h Pv h0 hl hs hd
theorem ert_tup {vs : List V} (h : EvA ta σ H vs) (hl : vs.length ≤ 100000) : EvR (tTup ta) σ H (fun v H1 => ∃ a, v = .ref a ∧ SqT K H1 a vs) := (eur (eu_tup h hl)).imp fun _ _ _ ⟨p, e, _, hp⟩ => ⟨p, e, st_of hp⟩
theorem rv_pow {i j : Int} (h : CPow i j) : RV (rI CPow fun i j => .int (i ^ j.toNat)) (.int i) (.int j) H (.int (i ^ j.toNat)) := rv_I h
theorem atI_ints {l : List Int} {i : Nat} (h : i < l.length) : atI (l.map V.int) (i : Int) = some (.int (l.getD i 0)) := by
  refine atI_nat ?_
  rw [List.getElem?_map, List.getD_eq_getElem?_getD, List.getElem?_eq_getElem h]
  rfl
theorem getD_mem {l : List Int} {i : Nat} (h : i < l.length) : l.getD i 0 ∈ l := by
  rw [List.getD_eq_getElem?_getD, List.getElem?_eq_getElem h]
  exact List.getElem_mem h
end
end Wl
namespace Wl
open PySem PySem.Spec PyProof.Rows L2 Evl
/-! ### lists: made, cut, joined, walked, compared -/
abbrev NewL (xs : List V) (H : Hp) : V → Hp → Prop := fun v H2 => ∃ p, v = .ref p ∧ H p = none ∧ H2 p = some (.lst xs)
abbrev LstAt (xs : List V) : V → Hp → Prop := fun v H2 => ∃ p, v = .ref p ∧ H2 p = some (.lst xs)
theorem LstAt.up {xs : List V} {v : V} {H H' : Hp} (e : Ex H H') (h : LstAt xs v H) : LstAt xs v H' := by
  obtain ⟨p, r, h⟩ := h
  exact ⟨p, r, e _ _ h⟩
abbrev iv (ns : List Int) : List V := ns.map V.int
section
variable {K : PySem.W.Frag} {σ : L2.St} {H H' : Hp} {ta tb tc te tl : TE} {x y z v : V} {D : Ends} {tu tz : TS} {g : TG}
theorem er_new {ta : TA} {xs : List V} (h : EvA ta σ H xs) (hl : xs.length ≤ 100000) : EvR (tLst ta) σ H (NewL xs H) := elr (el_lst h hl)
theorem er_cat {xs ys : List V} (ha : EvR ta σ H (LstAt xs)) (hb : EvR tb σ H (LstAt ys)) (hl : xs.length + ys.length ≤ 100000) : EvR (tOp rCat ta tb) σ H (NewL (xs ++ ys) H) := fun H1 e Q q =>
  ha H1 e _ fun x H2 e2 ⟨p, hx, hp⟩ => hb H2 (e.trans e2) _ fun y H3 e3 ⟨r, hy, hr⟩ => ⟨p, r, xs, ys, hx, hy, e3 _ _ hp, hr, sz_of hl, fun l hn => q _ _ ((e2.trans e3).trans (Ex.new hn)) ⟨l, rfl, fresh_back ((e.trans e2).trans e3) hn, upd_same⟩⟩
theorem er_rev {xs : List V} {a : Addr} (h : Ev ta σ H (.ref a)) (hx : SqL K H a xs) : EvR (tRevL K ta) σ H (NewL xs.reverse H) := fun H1 e Q q =>
  h H1 e _ fun H2 e2 => ⟨a, xs, rfl, ex_l (e.trans e2) hx, fun l hn => q _ _ (e2.trans (Ex.new hn)) ⟨l, rfl, fresh_back (e.trans e2) hn, upd_same⟩⟩
theorem er_sl {xs : List V} {a : Addr} {t1 t2 : TO} {lo hi : Option Int} (h : Ev ta σ H (.ref a)) (h1 : EvO t1 σ H lo) (h2 : EvO t2 σ H hi) (hx : SqL K H a xs) : EvR (tSl (rSlL K) ta t1 t2) σ H (NewL (cutV xs lo hi) H) := elr (el_sl h h1 h2 hx)
theorem er_list {a : Addr} {xs : List V} (h : Ev te σ H (.ref a)) (hx : SqL K H a xs) : EvR (tCB (rListQ K) (tCons te tNil)) σ H (NewL xs H) := er_listL h hx
theorem cut_from1 (xs : List V) : cutV xs (some 1) none = xs.drop 1 := by
  unfold cutV
  rw [show HT.sIx xs.length 0 (some 1) = min 1 xs.length from HT.sIx_nat xs.length 0 1, HT.sIx_none]
  cases xs with
  | nil => rfl
  | cons x r =>
    rw [show min 1 (x :: r).length = 1 by
      rw [List.length_cons]
      omega]
    show (List.take ((x :: r).length - 1) r) = r
    rw [List.length_cons, Nat.add_sub_cancel]
    exact List.take_length
/-- [F n for n in ns] -/
theorem range_items {α β : Type} (f : α → β) (d : α) (l : List α) : (List.range l.length).map (fun j => f (l.getD j d)) = l.map f := by
  apply List.ext_getElem?
  intro i
  by_cases h : i < l.length
  · have e : l.getD i d = l[i] := by rw [List.getD_eq_getElem?_getD, List.getElem?_eq_getElem h]; rfl
    rw [List.getElem?_map, List.getElem?_range h, List.getElem?_map, List.getElem?_eq_getElem h]
    show some (f (l.getD i d)) = some (f l[i])
    rw [e]
  · rw [List.getElem?_eq_none (by simpa using h), List.getElem?_eq_none (by simpa using h)]
theorem LcR.new {n : Nat} {f : Nat → V} {v : V} {H1 : Hp} (h : LcR n (fun j y _ => y = f j) H v H1) : NewL ((List.range n).map f) H v H1 := by
  obtain ⟨D, ys, rfl, h2, h3, h4, h5⟩ := h
  rw [lc_is h4 h5] at h3
  exact ⟨D, rfl, h2, h3⟩
theorem er_lcI {a : Addr} {ns : List Int} {vs : List Nat} {j : Nat} (F : Int → V) (h : Ev tl σ H (.ref a)) (hx : SqL K H a (iv ns)) (hz : ns.length ≤ 40000) (hw : ∀ x, wipe ((wipe σ vs).set j (some x)) vs = wipe σ vs)
    (hg : ∀ n, n ∈ ns → Ev te ((wipe σ vs).set j (some (.int n))) H (F n)) : EvR (tLc (iList K tl) (gName j) tYes te vs) σ H (NewL (ns.map F) H) :=
  (er_lcLn (fun i y _ => y = F (ns.getD i 0)) stb_val h hx (by rw [List.length_map]; exact hz) hw fun i x hi => by
    rw [List.getElem?_map] at hi
    cases e : ns[i]? with
    | none => rw [e] at hi; cases hi
    | some n =>
      rw [e] at hi
      cases hi
      have hd : ns.getD i 0 = n := by rw [List.getD_eq_getElem?_getD, e]; rfl
      rw [hd]
      exact evr (hg n (List.mem_of_getElem? e))).imp fun v H2 _ p => by
    have q := LcR.new p
    rw [List.length_map, range_items F 0 ns] at q
    exact q
/-- [F k for k in range(n)] -/
theorem er_lcRI {ta : TA} {n : Nat} {vs : List Nat} {j : Nat} (F : Nat → V) (h : EvA ta σ H [.int (n : Int)]) (hz : n ≤ 40000) (hw : ∀ x, wipe ((wipe σ vs).set j (some x)) vs = wipe σ vs)
    (hg : ∀ i, i < n → Ev te ((wipe σ vs).set j (some (.int (i : Int)))) H (F i)) : EvR (tLc (iRng1 ta) (gName j) tYes te vs) σ H (NewL ((List.range n).map F) H) :=
  (er_lcR (fun i y _ => y = F i) stb_val h hz hw fun i hi => evr (hg i hi)).imp fun v H2 _ p => LcR.new p
/-- [.. for x, y in zip(xs, ys)] -/
theorem er_lcZ {ta : TA} {a b : Addr} {xs ys : List V} {vs : List Nat} {j l : Nat} (F : Nat → V) (h : EvA ta σ H [.ref a, .ref b]) (hx : SqL K H a xs) (hy : SqL K H b ys) (hxy : xs.length = ys.length) (hz : xs.length ≤ 40000) (hw : ∀ x y, wipe (((wipe σ vs).set j (some x)).set l (some y)) vs = wipe σ vs)
    (hg : ∀ i x y, xs[i]? = some x → ys[i]? = some y → Ev te (((wipe σ vs).set j (some x)).set l (some y)) H (F i)) :
    EvR (tLc (iZip K ta) (gTup K 2 (gCons (gName j) (gCons (gName l) gNil))) tYes te vs) σ H (NewL ((List.range xs.length).map F) H) := fun H0 e Q q => h H0 e _ fun H1 e1 => ⟨a, b, xs, ys, rfl, ex_l (e.trans e1) hx, ex_l (e.trans e1) hy, fun Dl hD => by
  refine ⟨fun i m H' => m = xs.length - i ∧ i ≤ xs.length ∧ Lw H1 (fun i y _ => y = F i) Dl i H', ⟨_, rfl, Nat.zero_le _, hD, Ex.new hD, [], upd_same, rfl, fun j y hy => by simp at hy⟩, ?_⟩
  rintro i m H' ⟨rfl, hi, p⟩
  have qx := ex_l ((e.trans e1).trans p.2.1) hx
  have qy := ex_l ((e.trans e1).trans p.2.1) hy
  by_cases hlt : i < xs.length
  · have hlt2 : i < ys.length := by omega
    have ex : xs[i]? = some xs[i] := List.getElem?_eq_getElem hlt
    have ey : ys[i]? = some ys[i] := List.getElem?_eq_getElem hlt2
    refine .inr ⟨⟨xs, ys, _, _, qx, qy, ex, ey⟩, Lw H1 (fun i y _ => y = F i) Dl (i + 1), fun H2 p2 => ⟨xs.length - (i + 1), by omega, rfl, hlt, p2⟩, fun v H2 hyld => ?_⟩
    obtain ⟨T, x', y', rfl, hT, rfl, f1, f2⟩ := hyld
    have e1' : x' = xs[i] := Option.some.inj ((f1 _ qx).symm.trans ex)
    have e2' : y' = ys[i] := Option.some.inj ((f2 _ qy).symm.trans ey)
    subst e1' e2'
    refine g_tup2 (st_of upd_same) ⟨hw _ _, ?_⟩
    have p' : Lw H1 (fun i y _ => y = F i) Dl i (upd H' T (.tup [xs[i], ys[i]])) := by
      obtain ⟨p1, p2, zs, p3, p4, p5⟩ := p
      exact ⟨p1, p2.trans (Ex.new hT), zs, by rw [upd_ne (ne_of_none p3 hT)]; exact p3, p4, p5⟩
    exact lw_turn p' (by omega) stb_val ((evr (hg i _ _ ex ey)).mono (e.trans e1))
  · have ei : i = xs.length := by omega
    subst ei
    obtain ⟨p1, p2, zs, p3, p4, p5⟩ := p
    rw [lc_is p4 p5] at p3
    exact .inl ⟨⟨xs, ys, qx, qy, .inl (Nat.le_refl _)⟩, q _ H' (e1.trans p2) ⟨Dl, rfl, fresh_back (e.trans e1) p1, p3⟩⟩⟩
theorem ev_sumN {ns : List Int} {H0 : Hp} (h : EvR te σ H (NewL (iv ns) H0)) : Ev (tCB (rSum K) (tCons te tNil)) σ H (.int ns.sum) := ev_sumR h fun v H1 _ ⟨p, e, _, hp⟩ => ⟨p, e, sq_of hp⟩
theorem ev_allN {bs : List Bool} {H0 : Hp} (h : EvR te σ H (NewL (bs.map V.bl) H0)) : Ev (tCB (rAll K) (tCons te tNil)) σ H (.bl (bs.all id)) := ev_allR h fun v H1 _ ⟨p, e, _, hp⟩ => ⟨p, e, sq_of hp⟩
theorem ev_anyN {bs : List Bool} {H0 : Hp} (h : EvR te σ H (NewL (bs.map V.bl) H0)) : Ev (tCB (rAny K) (tCons te tNil)) σ H (.bl (bs.any id)) := ev_anyR h fun v H1 _ ⟨p, e, _, hp⟩ => ⟨p, e, sq_of hp⟩
/-- for x in (a, b, ..) of anything -/
theorem s_forTU {j : Nat} {R : V → Hp → Prop} (h : EvR tl σ H R) (k : ∀ v H1, Ex H H1 → R v H1 → ∃ a xs, v = .ref a ∧ SqT K H1 a xs ∧ ∃ Pv : Nat → L2.St → Hp → Prop, Pv 0 σ H1 ∧ (∀ i σ' H', i ≤ xs.length → Pv i σ' H' → SqT K H' a xs) ∧
    (∀ i x σ' H', xs[i]? = some x → Pv i σ' H' → tu { D with nx := Pv (i + 1), ct := Pv (i + 1), bk := D.nx } (σ'.set j (some x)) H') ∧ (∀ σ' H', Pv xs.length σ' H' → D.nx σ' H')) : tFor (iTup K tl) (gName j) tu D σ H :=
  h H (Ex.refl H) _ fun v H1 e p => by
    obtain ⟨a, xs, hv, hx, Pv, h0, hl, hs, hd⟩ := k v H1 e p
    exact ⟨a, hv, ⟨xs, hx⟩, for_tup Pv h0 hl hs hd⟩
theorem q_forTU {j : Nat} {R : V → Hp → Prop} (h : EvR tl σ H R) (k : ∀ v H1, Ex H H1 → R v H1 → ∃ a xs, v = .ref a ∧ SqT K H1 a xs ∧ ∃ Pv : Nat → L2.St → Hp → Prop, Pv 0 σ H1 ∧ (∀ i σ' H', i ≤ xs.length → Pv i σ' H' → SqT K H' a xs) ∧
    (∀ i x σ' H', xs[i]? = some x → Pv i σ' H' → tu { D with nx := Pv (i + 1), ct := Pv (i + 1), bk := tz D } (σ'.set j (some x)) H') ∧ (∀ σ' H', Pv xs.length σ' H' → tz D σ' H')) : tSeq (tFor (iTup K tl) (gName j) tu) tz D σ H :=
  s_forTU (D := { D with nx := tz D }) h k
/-! equality of data -/
mutual
theorem dp_up (e : Ex H H') : ∀ (d : PyData) (v : V), Dp K H v d → Dp K H' v d
  | .none, _, h => by cases h; exact .non
  | .bool b, _, h => by cases h; exact .bl b
  | .int i, _, h => by cases h; exact .int i
  | .str x, _, h => by cases h; exact .str x
  | .list ds, _, h => by
    cases h with
    | lst hs ha => exact .lst (ex_l e hs) (dpa_up e ds _ ha)
  | .tuple ds, _, h => by
    cases h with
    | tup hs ha => exact .tup (ex_t e hs) (dpa_up e ds _ ha)
  | .dict _, _, h => by cases h
theorem dpa_up (e : Ex H H') : ∀ (ds : List PyData) (vs : List V), DpAll K H vs ds → DpAll K H' vs ds
  | [], _, h => by cases h; exact .nil
  | d :: ds, _, h => by
    cases h with
    | cons h1 h2 => exact .cons (dp_up e d _ h1) (dpa_up e ds _ h2)
end
def dInts (ns : List Int) : PyData := .list (ns.map .int)
theorem dpa_ints : ∀ ns : List Int, DpAll K H (iv ns) (ns.map .int)
  | [] => .nil
  | n :: r => .cons (.int n) (dpa_ints r)
theorem dp_ints {a : Addr} {ns : List Int} (h : SqL K H a (iv ns)) : Dp K H (.ref a) (dInts ns) := .lst h (dpa_ints ns)
theorem sh_all : ∀ ds : List PyData, (∀ d ∈ ds, d.canLay0 = true) → PyData.canLayAll0 ds = true
  | [], _ => rfl
  | d :: ds, h => by
    show (d.canLay0 && PyData.canLayAll0 ds) = true
    rw [h d List.mem_cons_self, sh_all ds fun x hx => h x (List.mem_cons_of_mem _ hx)]
    rfl
theorem sh_dep {n : Nat} : ∀ ds : List PyData, (∀ d ∈ ds, PyData.depth d ≤ n) → PyData.depthAll ds ≤ n
  | [], _ => Nat.zero_le _
  | d :: ds, h => by
    show max (PyData.depth d) (PyData.depthAll ds) ≤ n
    have h1 := h d List.mem_cons_self
    have h2 := sh_dep ds fun x hx => h x (List.mem_cons_of_mem _ hx)
    omega
theorem sh_ints (ns : List Int) : SeqAt.shaped (dInts ns) = true := by
  unfold SeqAt.shaped dInts
  rw [Bool.and_eq_true, decide_eq_true_eq]
  refine ⟨sh_all _ fun d hd => ?_, ?_⟩
  · obtain ⟨i, _, rfl⟩ := List.mem_map.mp hd
    rfl
  · have := sh_dep (n := 1) (ns.map .int) fun d hd => by
      obtain ⟨i, _, rfl⟩ := List.mem_map.mp hd
      show PyData.depth (.int i) ≤ 1
      simp [PyData.depth]
    show PyData.depthAll (ns.map .int) + 1 ≤ 64
    omega
theorem can_of {d : PyData} (h : SeqAt.shaped d = true) : d.canLay0 = true := (Bool.and_eq_true_iff.mp h).1
theorem rv_neD {d e : PyData} {b : Bool} (hd : Dp K H x d) (he : Dp K H y e) (sd : SeqAt.shaped d = true) (se : SeqAt.shaped e = true) (hb : (!PyData.eqv d e) = b) : RV (rNeD K) x y H (.bl b) := fun H1 e1 Q q => ⟨d, e, dp_up e1 _ _ hd, dp_up e1 _ _ he, sd, se, by rw [hb]; exact q H1 (Ex.refl _)⟩
theorem rv_eqD {d e : PyData} {b : Bool} (hd : Dp K H x d) (he : Dp K H y e) (sd : SeqAt.shaped d = true) (se : SeqAt.shaped e = true) (hb : PyData.eqv d e = b) : RV (rEqD K) x y H (.bl b) := fun H1 e1 Q q => ⟨d, e, dp_up e1 _ _ hd, dp_up e1 _ _ he, sd, se, by rw [hb]; exact q H1 (Ex.refl _)⟩
theorem rv_neSame {d : PyData} (hd : Dp K H x d) (he : Dp K H y d) (sd : SeqAt.shaped d = true) : RV (rNeD K) x y H (.bl false) := rv_neD hd he sd sd (by rw [SeqAt.eqv_refl d (can_of sd)]; rfl)
theorem rv_eqSame {d : PyData} (hd : Dp K H x d) (he : Dp K H y d) (sd : SeqAt.shaped d = true) : RV (rEqD K) x y H (.bl true) := rv_eqD hd he sd sd (SeqAt.eqv_refl d (can_of sd))
end
section
variable {X : Cx} (K : PySem.W.Frag)
theorem pe_revLK {e : Expr} {te : TE} {k : Nat} {p1 p2 p3 pos : Pos} (he : PE X e te) (h : X.K = K := by rfl) : PE X (.Subscript e (.Slice none none (some (.UnaryOp .USub (.Constant (.int 1) k p1) p2)) p3) pos) (tRevL K te) := by subst h; exact pe_revL he
theorem sl_listK (h : X.K = K := by rfl) : SlR X (rSlL K) := by subst h; exact sl_list
theorem pi_zipK {e e2 : Expr} {ta : TA} {p pos tpos : Pos} {elts : List Expr} {kk : Nat} (hg : Gl X "zip") (hm : X.mg "zip" = none) (ha : PA X [e, e2] ta) (h : X.K = K := by rfl)
    (hs : starEach [e, e2] X.env = (false, eval e X.env) :: starEach [e2] X.env := by rfl) (hpl : (backTo pos (starEach [e2] X.env)).any (·.1) = false := by rfl) :
    PI X (.Tuple elts kk tpos) (.Call (.Name "zip" p) [e, e2] [] pos) (iZip K ta) := by subst h; exact pi_zip hg hm ha hs hpl
end
end Wl
namespace Wl
open PySem PySem.Spec PyProof.Rows L2 Evl
section
variable {K : PySem.W.Frag} {σ : L2.St} {H H' : Hp} {ta tb tc te tl : TE} {t : TT} {x y z v : V} {D : Ends} {tu tw tz : TS} {g : TG}
/-- a, b = x, y, told by facts -/
theorem q_parR {i j : Nat} {ta : TA} {R : List V → Hp → Prop} (h : EvAR ta σ H R) (hv : ∀ vs H1, R vs H1 → ∃ v w, vs = [v, w]) (k : ∀ v w H1, Ex H H1 → R [v, w] H1 → tz D ((σ.set i (some v)).set j (some w)) H1) : tSeq (tPar i j ta) tz D σ H :=
  h H (Ex.refl H) _ fun vs H1 e p => by
    obtain ⟨v, w, rfl⟩ := hv vs H1 p
    exact ⟨v, w, rfl, k v w H1 e p⟩
/-- a test of which nothing is known -/
def EvQ (t : TT) (σ : L2.St) (H : Hp) : Prop := ∀ H1, Ex H H1 → ∀ Q : Bool → Hp → Prop, (∀ b H2, Ex H1 H2 → Q b H2) → t σ H1 Q
theorem er_test {r : R2} {R : V → Hp → Prop} (ha : EvR ta σ H R) (hb : Ev tb σ H y) (hr : ∀ x H1, Ex H H1 → R x H1 → ∀ Q : VK, (∀ b, Q (.bl b) H1) → r x y H1 Q) (hR : ∀ x H1 H2, Ex H1 H2 → R x H1 → R x H2 := by intros; assumption) : EvQ (tTest (tOp r ta tb)) σ H := fun H1 e Q q =>
  ha H1 e _ fun x H2 e2 p => hb H2 (e.trans e2) _ fun H3 e3 => hr x H3 ((e.trans e2).trans e3) (hR x H2 H3 e3 p) _ fun b => ⟨b, rfl, q b H3 (e2.trans e3)⟩
theorem q_if_R (h : EvQ t σ H) (h1 : ∀ H1, Ex H H1 → tu { D with nx := tz D } σ H1) (h2 : ∀ H1, Ex H H1 → tw { D with nx := tz D } σ H1) : tSeq (tIfS t tu tw) tz D σ H := h H (Ex.refl H) _ fun b H1 e => by
  cases b with
  | true => exact h1 H1 e
  | false => exact h2 H1 e
end
end Wl
namespace Wl
open PySem PySem.Spec PyProof.Rows L2 Evl
section
variable {X : Cx} (K : PySem.W.Frag)
theorem inK (h : X.K = K := by rfl) : OpR X (compareOp .In) (rIn K false) := by subst h; exact op_in_seq
theorem notinK (h : X.K = K := by rfl) : OpR X (compareOp .NotIn) (rIn K true) := by subst h; exact op_notIn_seq
end
end Wl
namespace Wl
open PySem
theorem iv_append (a b : List Int) : iv (a ++ b) = iv a ++ iv b := List.map_append
theorem iv_map {α : Type} (f : α → Int) (l : List α) : iv (l.map f) = l.map (fun n => L2.V.int (f n)) := List.map_map
theorem iv_len (l : List Int) : (iv l).length = l.length := List.length_map ..
end Wl
namespace Wl
open PySem PySem.Spec PyProof.Rows L2 Evl
section
variable {K : PySem.W.Frag} {σ : L2.St} {H H' : Hp} {ta tb tc te tl : TE} {t : TT} {x y z v : V} {D : Ends} {tu tw tz : TS} {g : TG}
/-- a call whose one argument is told by facts -/
theorem er_call1 {α : Type} {Pre : α → List V → Hp → Prop} {Post : α → Hp → V → Hp → Prop} {E : XK} {R S : V → Hp → Prop} (h : EvR te σ H R) (hd : ∀ x H1, Ex H H1 → R x H1 → ∃ d, Pre d [x] H1 ∧ ∀ v H2, Ex H1 H2 → Post d H1 v H2 → S v H2) : EvR (tCall (spX Pre Post) [] E (tCons te tNil)) σ H S := fun H1 e Q q =>
  h H1 e _ fun x H2 e2 p => by
    obtain ⟨d, h1, h2⟩ := hd x H2 (e.trans e2) p
    exact ⟨d, h1, fun v H3 e3 p3 => q v H3 (e2.trans e3) (h2 v H3 e3 p3)⟩
theorem ev_call1 {α : Type} {Pre : α → List V → Hp → Prop} {Post : α → Hp → V → Hp → Prop} {E : XK} {R : V → Hp → Prop} (h : EvR te σ H R) (hd : ∀ x H1, Ex H H1 → R x H1 → ∃ d, Pre d [x] H1 ∧ ∀ v H2, Ex H1 H2 → Post d H1 v H2 → v = z) : Ev (tCall (spX Pre Post) [] E (tCons te tNil)) σ H z :=
  (er_call1 (S := fun v _ => v = z) h hd).ev fun _ _ _ p => p
/-- an object's list, grown: told at a word of one's own -/
theorem q_appF {l : Addr} {xs : List V} (hl : H l = some (.lst xs)) (ha : Ev ta σ H (.ref l)) (h : Ev te σ H v) (hz : xs.length < 100000) (k : ∀ H1, Ex H H1 → tz D σ (upd H1 l (.lst (xs ++ [v])))) :
    tSeq (tDrop (tBM K "list" rAppend ta (tCons te tNil))) tz D σ H := q_app hl ha h hz k
theorem iv_get {ns : List Int} {i : Nat} {x : V} (h : (iv ns)[i]? = some x) : i < ns.length ∧ x = .int (ns.getD i 0) := by
  rw [List.getElem?_map] at h
  cases e : ns[i]? with
  | none => rw [e] at h; cases h
  | some n =>
    rw [e] at h
    refine ⟨(List.getElem?_eq_some_iff.mp e).1, ?_⟩
    rw [List.getD_eq_getElem?_getD, e]
    exact (Option.some.inj h).symm
end
end Wl
namespace Wl
open PySem
theorem iv_reverse (l : List Int) : (iv l).reverse = iv l.reverse := List.map_reverse.symm
theorem iv_drop (n : Nat) (l : List Int) : (iv l).drop n = iv (l.drop n) := List.map_drop.symm
theorem iv_take (n : Nat) (l : List Int) : (iv l).take n = iv (l.take n) := List.map_take.symm
end Wl
namespace Wl
open PySem PySem.Spec PyProof.Rows L2 Evl
/-- one of two readings -/
def tAlt (t u : TE) : TE := fun σ H Q => t σ H Q ∨ u σ H Q
theorem pe_alt {X : Cx} {e : Expr} {t u : TE} (h1 : PE X e t) (h2 : PE X e u) : PE X e (tAlt t u) := ⟨fun pins s σ H Q I h => h.elim (h1.run pins s σ H Q I) (h2.run pins s σ H Q I)⟩
section
variable {K : PySem.W.Frag} {σ : L2.St} {H H' : Hp} {ta tb tc te tl : TE} {t : TT} {x y z v : V} {D : Ends} {tu tw tz : TS} {g : TG} {R : V → Hp → Prop}
theorem ev_altL (h : Ev ta σ H v) : Ev (tAlt ta tb) σ H v := fun H1 e Q q => .inl (h H1 e Q q)
theorem ev_altR (h : Ev tb σ H v) : Ev (tAlt ta tb) σ H v := fun H1 e Q q => .inr (h H1 e Q q)
theorem er_if {b : Bool} (h : EvT t σ H b) (h1 : b = true → EvR ta σ H R) (h2 : b = false → EvR tb σ H R) : EvR (tIf t ta tb) σ H R := fun H1 e Q q => h H1 e _ fun H2 e2 => by
  cases b with
  | true => exact h1 rfl H2 (e.trans e2) Q fun v H3 e3 p => q v H3 (e2.trans e3) p
  | false => exact h2 rfl H2 (e.trans e2) Q fun v H3 e3 p => q v H3 (e2.trans e3) p
/-- for x in a new list -/
theorem s_forLU {j : Nat} (h : EvR tl σ H R) (k : ∀ v H1, Ex H H1 → R v H1 → ∃ a xs, v = .ref a ∧ SqL K H1 a xs ∧ ∃ Pv : Nat → L2.St → Hp → Prop, Pv 0 σ H1 ∧ (∀ i σ' H', i ≤ xs.length → Pv i σ' H' → SqL K H' a xs) ∧
    (∀ i x σ' H', xs[i]? = some x → Pv i σ' H' → tu { D with nx := Pv (i + 1), ct := Pv (i + 1), bk := D.nx } (σ'.set j (some x)) H') ∧ (∀ σ' H', Pv xs.length σ' H' → D.nx σ' H')) : tFor (iList K tl) (gName j) tu D σ H :=
  h H (Ex.refl H) _ fun v H1 e p => by
    obtain ⟨a, xs, hv, hx, Pv, h0, hl, hs, hd⟩ := k v H1 e p
    exact ⟨a, hv, ⟨xs, hx⟩, for_list Pv h0 hl hs hd⟩
theorem q_forLU {j : Nat} (h : EvR tl σ H R) (k : ∀ v H1, Ex H H1 → R v H1 → ∃ a xs, v = .ref a ∧ SqL K H1 a xs ∧ ∃ Pv : Nat → L2.St → Hp → Prop, Pv 0 σ H1 ∧ (∀ i σ' H', i ≤ xs.length → Pv i σ' H' → SqL K H' a xs) ∧
    (∀ i x σ' H', xs[i]? = some x → Pv i σ' H' → tu { D with nx := Pv (i + 1), ct := Pv (i + 1), bk := tz D } (σ'.set j (some x)) H') ∧ (∀ σ' H', Pv xs.length σ' H' → tz D σ' H')) : tSeq (tFor (iList K tl) (gName j) tu) tz D σ H :=
  s_forLU (D := { D with nx := tz D }) h k
end
/-! xs[lo:hi:st] of a list, all three parts told -/
def pickV {α : Type} (xs : List α) (lo hi st : Option Int) : List α := (sliceRange (sliceBounds lo hi st xs.length).1 (sliceBounds lo hi st xs.length).2.1 (sliceBounds lo hi st xs.length).2.2).filterMap (xs[·]?)
theorem pickV_map {α β : Type} (f : α → β) (xs : List α) (lo hi st : Option Int) : pickV (xs.map f) lo hi st = (pickV xs lo hi st).map f := by
  unfold pickV
  rw [List.length_map, List.map_filterMap]
  exact congrArg (fun g => List.filterMap g _) (funext fun i => List.getElem?_map)
theorem vals_fm {xs : List V} {its : List Value} (r : Vals xs its) : ∀ l : List Nat, Vals (l.filterMap (xs[·]?)) (l.filterMap (its[·]?))
  | [] => .nil
  | i :: l => by
    have ih := vals_fm r l
    cases e : xs[i]? with
    | none =>
      rw [List.filterMap_cons_none (by exact e), List.filterMap_cons_none (by exact r.none_of e)]
      exact ih
    | some x =>
      obtain ⟨u, h1, h2⟩ := r.get e
      rw [List.filterMap_cons_some (by exact e), List.filterMap_cons_some (by exact h1)]
      exact .cons h2 ih
theorem vals_pick {xs : List V} {its : List Value} (r : Vals xs its) (lo hi st : Option Int) : Vals (pickV xs lo hi st) (slicePick its.toArray lo hi st).toList := by
  have z := vals_fm r (sliceRange (sliceBounds lo hi st xs.length).1 (sliceBounds lo hi st xs.length).2.1 (sliceBounds lo hi st xs.length).2.2)
  rw [r.length] at z
  simpa only [pickV, slicePick, r.length, List.size_toArray, List.getElem?_toArray] using z
/-- the reading: the list, then the parts in their order -/
def tSl3 (K : PySem.W.Frag) (te : TE) (t1 t2 t3 : TO) : TE := fun σ H Q => te σ H fun x H1 => t1 σ H1 fun lo H2 => t2 σ H2 fun hi H3 => t3 σ H3 fun st H4 =>
  ∃ a xs, x = .ref a ∧ SqL K H4 a xs ∧ st ≠ some 0 ∧ ∀ p, H4 p = none → Q (.ref p) (upd H4 p (.lst (pickV xs lo hi st)))
theorem pe_sl3 {X : Cx} (K : PySem.W.Frag) {e : Expr} {e1 e2 e3 : Option Expr} {te : TE} {t1 t2 t3 : TO} {p3 pos : Pos} (he : PE X e te) (h1 : PO X e1 t1) (h2 : PO X e2 t2) (h3 : PO X e3 t3) (hK : X.K = K := by rfl)
    (plain : ∀ u v, subscripted (.Slice e1 e2 e3 p3) false u v = operate [u, v] (getItem u v) := by intro u v; with_unfolding_all rfl) : PE X (.Subscript e (.Slice e1 e2 e3 p3) pos) (tSl3 K te t1 t2 t3) := by
  subst hK
  constructor
  intro pins s σ H Q I h
  refine Subscript_ (thn (he.run pins s σ H _ I h) ?_)
  rintro v s1 ⟨x, H1, I1, rx, h⟩
  refine wpAny_Slice (thn (h1.run pins s1 σ H1 _ I1 h) ?_)
  rintro vl s2 ⟨lo, H2, I2, pl, h⟩
  refine thn (h2.run pins s2 σ H2 _ I2 h) ?_
  rintro vu s3 ⟨hi, H3, I3, pu, h⟩
  refine thn (h3.run pins s3 σ H3 _ I3 h) ?_
  rintro vs s4 ⟨st, H4, I4, ps, a, xs, rfl, list, nz, q⟩
  cases rx
  have J : Inv X pins σ H4 { s4 with heap := s4.heap.push { cls := .type "slice", data := .fields #[vl, vu, vs] } } := I4.kept (t' := s4.toks) fun b o z => Heap.get?_push_of_some _ z
  rcases J.list list with ⟨its, vals, cells, small⟩
  have picked := vals_pick vals lo hi st
  have fits : (pickV xs lo hi st).length ≤ xs.length := by
    rw [picked.length, Array.length_toList, vals.length]
    exact slicePick_size_le its.toArray lo hi st
  refine tail_any cells.isList.typeIs PySem.slot_list_getitem.lookup (wpAny_getItem_list_slice cells.isList (Heap.IsSliceOf.new _ vl vu vs) pl pu ps nz ?_ (by rw [List.size_toArray, ← vals.length]; exact small)) (plain _ _)
  exact ⟨.ref _, _, J.laid (t' := s4.toks) (o := .lst (pickV xs lo hi st)) (fun b o z => Heap.get?_push_of_some _ z) (Nat.le_refl _) ⟨Nat.le_trans fits small, _, 0, picked, Heap.get?_push_size _ rfl⟩, rfl, q _ (J.hok.fresh (Nat.le_refl _))⟩
def stepP {α : Type} (xs : List α) : List α := pickV xs none none (some 2)
theorem stepP_iv (ns : List Int) : stepP (iv ns) = iv (stepP ns) := pickV_map V.int ns _ _ _
def tStepL (K : PySem.W.Frag) (te : TE) : TE := tSl3 K te tNoPart tNoPart (tPart (tC (.int 2)))
theorem pe_stepLK {X : Cx} (K : PySem.W.Frag) {e : Expr} {te : TE} {k : Nat} {p1 p3 pos : Pos} (he : PE X e te) (hK : X.K = K := by rfl) : PE X (.Subscript e (.Slice none none (some (.Constant (.int 2) k p1)) p3) pos) (tStepL K te) := pe_sl3 K he po_none po_none (po_some pe_int) hK
theorem er_step {K : PySem.W.Frag} {σ : L2.St} {H : Hp} {ta : TE} {xs : List V} {a : Addr} (h : Ev ta σ H (.ref a)) (hx : SqL K H a xs) : EvR (tStepL K ta) σ H (NewL (stepP xs) H) := fun H1 e Q q =>
  h H1 e _ fun H2 e2 => ⟨2, rfl, a, xs, rfl, ex_l (e.trans e2) hx, by decide, fun l hn => q _ _ (e2.trans (Ex.new hn)) ⟨l, rfl, fresh_back (e.trans e2) hn, upd_same⟩⟩
end Wl
namespace Wl
open PySem L2
theorem cut_last (xs : List V) : cutV xs none (some (-1)) = xs.dropLast := by
  unfold cutV
  rw [HT.sIx_none, List.drop_zero]
  rw [show HT.sIx xs.length xs.length (some (-1)) = ((-1 : Int) + (xs.length : Int)).toNat from rfl, List.dropLast_eq_take]
  congr 1
  omega
theorem iv_dropLast (l : List Int) : (iv l).dropLast = iv l.dropLast := by
  rw [List.dropLast_eq_take, List.dropLast_eq_take, iv_len, iv_take]
end Wl
namespace Wl
open PySem PySem.Spec PyProof.Rows L2 Evl
/-- [F n for n in a new list] -/
theorem er_lcNI {K : PySem.W.Frag} {σ : L2.St} {H : Hp} {tl te : TE} {ns : List Int} {vs : List Nat} {j : Nat} {S : V → Hp → Prop} (F : Int → V) (h : EvR tl σ H S) (hS : ∀ v H1, Ex H H1 → S v H1 → ∃ a, v = .ref a ∧ SqL K H1 a (iv ns)) (hz : ns.length ≤ 40000) (hw : ∀ x, wipe ((wipe σ vs).set j (some x)) vs = wipe σ vs)
    (hg : ∀ H1, Ex H H1 → ∀ n, n ∈ ns → Ev te ((wipe σ vs).set j (some (.int n))) H1 (F n)) : EvR (tLc (iList K tl) (gName j) tYes te vs) σ H (NewL (ns.map F) H) :=
  (er_lcNL S (fun i y _ => y = F (ns.getD i 0)) stb_val h hS (by rw [iv_len]; exact hz) fun v H1 e hv i x hi => by
    obtain ⟨hi', rfl⟩ := iv_get hi
    exact ⟨_, hw _, evr (hg H1 e _ (getD_mem hi')), fun _ _ _ q => q⟩).imp fun v H2 _ p => by
    have q := LcR.new p
    rw [iv_len, range_items F 0 ns] at q
    exact q
end Wl
namespace Wl
open PySem PySem.Spec PyProof.Rows L2 Evl
section
variable {K : PySem.W.Frag} {σ : L2.St} {H H' : Hp} {ta te ti : TE} {D : Ends} {tz : TS} {R : V → Hp → Prop}
/-- xs.append of what is told by facts -/
theorem q_appR {l : Addr} {xs : List V} (hl : H l = some (.lst xs)) (ha : Ev ta σ H (.ref l)) (h : EvR te σ H R) (hz : xs.length < 100000) (k : ∀ v H1, Ex H H1 → R v H1 → tz D σ (upd H1 l (.lst (xs ++ [v])))) :
    tSeq (tDrop (tBM K "list" rAppend ta (tCons te tNil))) tz D σ H := ha H (Ex.refl H) _ fun H1 e1 =>
  ⟨Or.inl ⟨rfl, xs, sq_of (e1 l _ hl)⟩, h H1 e1 _ fun v H2 e2 p => ⟨l, xs, v, rfl, rfl, e2 l _ (e1 l _ hl), sz_lt hz, k v H2 (e1.trans e2) p⟩⟩
theorem ev_pickR {l : List Int} {ta : TA} {vs : List V} (h : EvA ta σ H vs) (hi : EvR ti σ H (fun v _ => ∃ i : Int, v = .int i ∧ 0 ≤ i ∧ i < l.length)) (hv : vs = l.map V.int) (hl : l.length ≤ 100000) : EvR (tOp (rIxT K) (tTup ta) ti) σ H (fun v _ => ∃ i : Int, 0 ≤ i ∧ i < l.length ∧ v = .int (l.getD i.toNat 0)) :=
  er_op (eur (eu_tup h (by rw [hv, List.length_map]; exact hl))) (fun x H1 e _ => hi.mono e) (fun x y H1 H2 e ⟨p, hx, _, hp⟩ e2 ⟨i, hy, h0, h1⟩ Q q => by
    subst hx hy
    rw [hv] at hp
    exact rv_ixT (st_of (e2 _ _ hp)) (atI_map h0 h1) H2 (Ex.refl _) Q fun H3 e3 => q _ H3 e3 ⟨i, h0, h1, rfl⟩)
end
end Wl
namespace Wl
open PySem PySem.Spec PyProof.Rows L2 Evl
/-! ### a < b < c < d: chains of any length, operand by operand -/
/-- what stands behind an operand whose value is x -/
def PCh (X : Cx) (ops : List CmpOp) (es : List Expr) (t : V → TE) : Prop :=
  ∀ pins s σ H x v Q pos, Inv X pins σ H s → RelV x v → t x σ H Q → wpAny (model X.prog X.w) X.A (compareChain pos v ops (evalEach es X.env)) (EP X pins σ Q) X.xe s
/-- .. where a test is asked for -/
def PTh (X : Cx) (ops : List CmpOp) (es : List Expr) (t : V → TE) : Prop :=
  ∀ pins s σ H x v Q pos, Inv X pins σ H s → RelV x v → tTest (t x) σ H Q → wpAny (model X.prog X.w) X.A (testChain pos v ops (evalEach es X.env)) (TP X pins σ Q) X.xe s
def tLast (r : R2) (tb : TE) (x : V) : TE := fun σ H Q => tb σ H fun y H1 => r x y H1 Q
def tMore (r : R2) (tb : TE) (t : V → TE) (x : V) : TE := fun σ H Q => tb σ H fun y H1 => r x y H1 fun z H2 => ∃ k, z = .bl k ∧ (if k = true then t y σ H2 Q else Q (.bl false) H2)
def tChain3 (r r' r2 : R2) (ta tb tc td : TE) : TE := fun σ H Q => ta σ H fun x H1 => tMore r tb (tMore r' tc (tLast r2 td)) x σ H1 Q
section
variable {X : Cx} {a b c d e' : Expr} {es : List Expr} {ta tb tc td : TE} {t : V → TE} {pos : Pos} {op op' op2 : CmpOp} {ops : List CmpOp} {r r' r2 : R2}
theorem pch_last (ho : OpR X (compareOp op) r) (hb : PE X b tb) : PCh X [op] [b] (tLast r tb) := fun pins s σ H x v Q _ I rx q => by
  refine chain_last (thn (hb.run pins s σ H _ I q) ?_)
  rintro u s1 ⟨y, H1, J, ry, q⟩
  exact ho pins s1 σ H1 x y v u Q J rx ry q
theorem pth_last (ho : OpR X (compareOp op) r) (hb : PE X b tb) : PTh X [op] [b] (tLast r tb) := fun pins s σ H x v Q _ I rx q => by
  refine test_last (thn (hb.run pins s σ H _ I q) ?_)
  rintro u s1 ⟨y, H1, J, ry, q⟩
  refine thn (ho pins s1 σ H1 x y v u _ J rx ry q) ?_
  rintro _ s2 ⟨z, H2, J2, rz, k, rfl, q⟩
  cases rz
  exact wpAny_truthy_bool ⟨H2, J2, q⟩
theorem pch_more (ho : OpR X (compareOp op) r) (hb : PE X b tb) (rest : PCh X (op' :: ops) (e' :: es) t) : PCh X (op :: op' :: ops) (b :: e' :: es) (tMore r tb t) := fun pins s σ H x v Q pos I rx q => by
  refine chain_link (thn (hb.run pins s σ H _ I q) ?_)
  rintro u s1 ⟨y, H1, J, ry, q⟩
  refine thn (ho pins s1 σ H1 x y v u _ J rx ry q) ?_
  rintro _ s2 ⟨z, H2, J2, rz, k, rfl, q⟩
  cases rz
  cases k with
  | false => exact wpAny_truthy_bool (ite_ff ⟨.bl false, H2, J2, rfl, q⟩)
  | true => exact wpAny_truthy_bool (ite_tt (rest pins s2 σ H2 y u Q pos J2 ry q))
theorem pth_more (ho : OpR X (compareOp op) r) (hb : PE X b tb) (rest : PTh X (op' :: ops) (e' :: es) t) : PTh X (op :: op' :: ops) (b :: e' :: es) (tMore r tb t) := fun pins s σ H x v Q pos I rx q => by
  refine test_link (thn (hb.run pins s σ H _ I q) ?_)
  rintro u s1 ⟨y, H1, J, ry, q⟩
  refine thn (ho pins s1 σ H1 x y v u _ J rx ry q) ?_
  rintro _ s2 ⟨z, H2, J2, rz, k, rfl, q⟩
  cases rz
  cases k with
  | false =>
    obtain ⟨_, same, q⟩ : ∃ k, V.bl false = .bl k ∧ Q k H2 := q
    cases same
    exact wpAny_truthy_bool (ite_ff ⟨H2, J2, q⟩)
  | true => exact wpAny_truthy_bool (ite_tt (rest pins s2 σ H2 y u Q pos J2 ry q))
theorem pe_chain3 (ho : OpR X (compareOp op) r) (ho' : OpR X (compareOp op') r') (ho2 : OpR X (compareOp op2) r2) (ha : PE X a ta) (hb : PE X b tb) (hc : PE X c tc) (hd : PE X d td)
    (hm : lastMarks [op, op', op2] [b, c, d] = false := by with_unfolding_all rfl) : PE X (.Compare a [op, op', op2] [b, c, d] pos) (tChain3 r r' r2 ta tb tc td) :=
  ⟨fun pins s σ H Q I h => Compare_chain (thn (ha.run pins s σ H _ I h) fun v s1 ⟨x, H1, J, rx, q⟩ => pch_more ho hb (pch_more ho' hc (pch_last ho2 hd)) pins s1 σ H1 x v Q _ J rx q) hm⟩
theorem pt_chain3 (ho : OpR X (compareOp op) r) (ho' : OpR X (compareOp op') r') (ho2 : OpR X (compareOp op2) r2) (ha : PE X a ta) (hb : PE X b tb) (hc : PE X c tc) (hd : PE X d td)
    (hm : lastMarks [op, op', op2] [b, c, d] = false := by with_unfolding_all rfl) : PT X (.Compare a [op, op', op2] [b, c, d] pos) (tTest (tChain3 r r' r2 ta tb tc td)) :=
  ⟨fun pins s σ H Q I h => isTrue_chain (thn (ha.run pins s σ H _ I h) fun v s1 ⟨x, H1, J, rx, q⟩ => pth_more ho hb (pth_more ho' hc (pth_last ho2 hd)) pins s1 σ H1 x v Q _ J rx q) hm⟩
end
theorem ev_chain3 {σ : L2.St} {H : Hp} {r r' r2 : R2} {ta tb tc td : TE} {x y z u : V} {a b c : Bool} (ha : Ev ta σ H x) (hb : Ev tb σ H y) (h1 : RV r x y H (.bl a)) (hc : a = true → Ev tc σ H z) (h2 : a = true → RV r' y z H (.bl b)) (hd : a = true → b = true → Ev td σ H u) (h3 : a = true → b = true → RV r2 z u H (.bl c)) :
    Ev (tChain3 r r' r2 ta tb tc td) σ H (.bl (a && (b && c))) := fun H1 e Q q =>
  ha H1 e _ fun H2 e2 => hb H2 (e.trans e2) _ fun H3 e3 => h1 H3 ((e.trans e2).trans e3) _ fun H4 e4 => ⟨a, rfl, by
    cases a with
    | false => exact q H4 ((e2.trans e3).trans e4)
    | true => exact hc rfl H4 (((e.trans e2).trans e3).trans e4) _ fun H5 e5 => h2 rfl H5 ((((e.trans e2).trans e3).trans e4).trans e5) _ fun H6 e6 => ⟨b, rfl, by
        have e26 := (((e2.trans e3).trans e4).trans e5).trans e6
        cases b with
        | false => exact q H6 e26
        | true => exact hd rfl rfl H6 (e.trans e26) _ fun H7 e7 => h3 rfl rfl H7 (e.trans (e26.trans e7)) Q fun H8 e8 => q H8 (e26.trans (e7.trans e8))⟩⟩
end Wl
namespace Wl
open PySem PySem.Spec PyProof.Rows L2 Evl
local macro_rules | `(tactic| walk_at "e1") => `(tactic| with_reducible (apply et_self; assumption))
local macro_rules | `(tactic| walk_at "e1") => `(tactic| with_reducible (apply ev_self; assumption))
local macro_rules | `(tactic| walk_at "e1") => `(tactic| with_reducible refine (fun (hbb : (_ : Bool) = _) => ?_))
local macro_rules | `(tactic| walk_at "e1") => `(tactic| with_reducible apply ev_if)
local macro_rules | `(tactic| walk_at "e1") => `(tactic| with_reducible apply ev_notV)
local macro_rules | `(tactic| walk_at "e1") => `(tactic| with_reducible apply ev_orV)
local macro_rules | `(tactic| walk_at "e1") => `(tactic| with_reducible apply ev_andV)
local macro_rules | `(tactic| walk_at "e1") => `(tactic| with_reducible apply ev_chain)
local macro_rules | `(tactic| walk_at "e1") => `(tactic| with_reducible apply et_not)
local macro_rules | `(tactic| walk_at "e1") => `(tactic| with_reducible apply et_or)
local macro_rules | `(tactic| walk_at "e1") => `(tactic| with_reducible apply et_and)
local macro_rules | `(tactic| walk_at "e1") => `(tactic| with_reducible apply et_B)
local macro_rules | `(tactic| walk_at "e1") => `(tactic| with_reducible apply et_test)
local macro_rules | `(tactic| walk_at "e1") => `(tactic| with_reducible apply rv_ixT)
local macro_rules | `(tactic| walk_at "e1") => `(tactic| with_reducible apply rv_ixL)
local macro_rules | `(tactic| walk_at "e1") => `(tactic| with_reducible apply rv_I)
local macro_rules | `(tactic| walk_at "e1") => `(tactic| ((with_reducible apply rv_ne); exact rfl))
local macro_rules | `(tactic| walk_at "e1") => `(tactic| ((with_reducible apply rv_eq); exact rfl))
local macro_rules | `(tactic| walk_at "e1") => `(tactic| with_reducible exact rv_I0)
local macro_rules | `(tactic| walk_at "e1") => `(tactic| with_reducible exact ru_neg)
local macro_rules | `(tactic| walk_at "e1") => `(tactic| with_reducible apply ev_un)
local macro_rules | `(tactic| walk_at "e1") => `(tactic| with_reducible apply ea_cons)
local macro_rules | `(tactic| walk_at "e1") => `(tactic| with_reducible exact ea_nil)
local macro_rules | `(tactic| walk_at "e1") => `(tactic| with_reducible apply ev_op)
local macro_rules | `(tactic| walk_at "e1") => `(tactic| ((with_reducible apply ev_var); exact rfl))
local macro_rules | `(tactic| walk_at "e1") => `(tactic| with_reducible exact ev_c)
local macro_rules | `(tactic| walk_at "sq") => `(tactic| first | with_reducible assumption | exact st_of (by assumption) | exact sq_of (by assumption) | exact st_of ((by assumption : Ex _ _) _ _ (by assumption)) | exact sq_of ((by assumption : Ex _ _) _ _ (by assumption)) | exact ex_t (by assumption) (by assumption) | exact ex_l (by assumption) (by assumption))
local macro_rules | `(tactic| walk_at "e1") => `(tactic| ((with_reducible apply rv_ixL) <;> first | walk_at "sq" | exact rfl))
local macro_rules | `(tactic| walk_at "e1") => `(tactic| ((with_reducible apply rv_ixT) <;> first | walk_at "sq" | exact rfl))
local macro_rules | `(tactic| walk_at "sz") => `(tactic| exact Nat.le_of_ble_eq_true rfl)
local macro_rules | `(tactic| walk_at "e1") => `(tactic| with_reducible exact rv_neB)
local macro_rules | `(tactic| walk_at "e1") => `(tactic| with_reducible exact rv_eqB)
local macro_rules | `(tactic| walk_at "e1") => `(tactic| with_reducible exact rv_neI)
local macro_rules | `(tactic| walk_at "e1") => `(tactic| with_reducible exact rv_eqI)
local macro_rules | `(tactic| walk_at "ev") => `(tactic| (repeat' walk_at "e1"))
def topS (i : Nat) : Stmt := PySem.Challenge.pw_wheelrow_k04_whole_back.main.body.getD i (.Pass ⟨0, 0, 0, 0⟩)
abbrev s_is_whole : Stmt := topS 6
abbrev s_is_number : Stmt := topS 7
abbrev s_is_turn : Stmt := topS 8
abbrev s_check_turn : Stmt := topS 9
abbrev s_shares_of : Stmt := topS 11
abbrev s_Bar_init : Stmt := inClass (topS 20) 0
abbrev s_Bar_bars : Stmt := inClass (topS 20) 2
abbrev s_Back_init : Stmt := inClass (topS 21) 0
abbrev s_Back_shows : Stmt := inClass (topS 21) 1
abbrev s_back : Stmt := topS 23
abbrev s_l_cell_at : Stmt := topS 25
abbrev s_l_draw : Stmt := topS 26
abbrev s_l_turns : Stmt := topS 27
abbrev s_l_whole : Stmt := topS 30
abbrev s_l_due : Stmt := topS 32
abbrev s_l_word : Stmt := topS 33
abbrev s_law : Stmt := topS 34
theorem sc_is_whole : FnScope ["thing"] ["thing"] (defScope s_is_whole) := ⟨rfl, rfl, rfl, by decide +kernel, rfl, by decide +kernel, by decide +kernel⟩
theorem sc_is_number : FnScope ["thing"] ["thing"] (defScope s_is_number) := ⟨rfl, rfl, rfl, by decide +kernel, rfl, by decide +kernel, by decide +kernel⟩
theorem sc_is_turn : FnScope ["thing"] ["thing"] (defScope s_is_turn) := ⟨rfl, rfl, rfl, by decide +kernel, rfl, by decide +kernel, by decide +kernel⟩
theorem sc_check_turn : FnScope ["turn"] ["turn"] (defScope s_check_turn) := ⟨rfl, rfl, rfl, by decide +kernel, rfl, by decide +kernel, by decide +kernel⟩
theorem sc_shares_of : FnScope ["one", "other", "here", "there", "times", "part", "k"] ["one", "other"] (defScope s_shares_of) := ⟨rfl, rfl, rfl, by decide +kernel, rfl, by decide +kernel, by decide +kernel⟩
theorem sc_Bar_init : FnScope ["self", "part"] ["self", "part"] (defScope s_Bar_init) := ⟨rfl, rfl, rfl, by decide +kernel, rfl, by decide +kernel, by decide +kernel⟩
theorem sc_Bar_bars : FnScope ["self", "number", "turn"] ["self", "number", "turn"] (defScope s_Bar_bars) := ⟨rfl, rfl, rfl, by decide +kernel, rfl, by decide +kernel, by decide +kernel⟩
theorem sc_Back_init : FnScope ["self", "rest"] ["self", "rest"] (defScope s_Back_init) := ⟨rfl, rfl, rfl, by decide +kernel, rfl, by decide +kernel, by decide +kernel⟩
theorem sc_Back_shows : FnScope ["self", "number", "turn"] ["self", "number", "turn"] (defScope s_Back_shows) := ⟨rfl, rfl, rfl, by decide +kernel, rfl, by decide +kernel, by decide +kernel⟩
theorem sc_back : FnScope ["number", "turn", "part", "mine", "theirs"] ["number", "turn"] (defScope s_back) := ⟨rfl, rfl, rfl, by decide +kernel, rfl, by decide +kernel, by decide +kernel⟩
theorem sc_l_cell_at : FnScope ["_law_script", "_law_k"] ["_law_script", "_law_k"] (defScope s_l_cell_at) := ⟨rfl, rfl, rfl, by decide +kernel, rfl, by decide +kernel, by decide +kernel⟩
theorem sc_l_draw : FnScope ["_law_cell", "_law_k", "_law_many", "_law_primes"] ["_law_cell", "_law_k", "_law_many"] (defScope s_l_draw) := ⟨rfl, rfl, rfl, by decide +kernel, rfl, by decide +kernel, by decide +kernel⟩
theorem sc_l_turns : FnScope ["_law_script", "_law_kind", "_law_found", "_law_k", "_law_turn"] ["_law_script"] (defScope s_l_turns) := ⟨rfl, rfl, rfl, by decide +kernel, rfl, by decide +kernel, by decide +kernel⟩
theorem sc_l_whole : FnScope ["_law_number"] ["_law_number"] (defScope s_l_whole) := ⟨rfl, rfl, rfl, by decide +kernel, rfl, by decide +kernel, by decide +kernel⟩
theorem sc_l_due : FnScope ["_law_number", "_law_turn", "_law_found"] ["_law_number", "_law_turn", "_law_found"] (defScope s_l_due) := ⟨rfl, rfl, rfl, by decide +kernel, rfl, by decide +kernel, by decide +kernel⟩
theorem sc_l_word : FnScope ["_law_number", "_law_turn", "_law_found"] ["_law_number", "_law_turn", "_law_found"] (defScope s_l_word) := ⟨rfl, rfl, rfl, by decide +kernel, rfl, by decide +kernel, by decide +kernel⟩
theorem sc_law : FnScope ["_law_script", "_law_turns_here", "_law_k", "_law_number", "_law_some", "_law_found"] ["_law_script"] (defScope s_law) := ⟨rfl, rfl, rfl, by decide +kernel, rfl, by decide +kernel, by decide +kernel⟩
structure Ad where
  a_is_whole : Addr
  a_is_number : Addr
  a_is_turn : Addr
  a_check_turn : Addr
  a_shares_of : Addr
  a_Bar_init : Addr
  a_Bar_bars : Addr
  a_Back_init : Addr
  a_Back_shows : Addr
  a_back : Addr
  a_l_cell_at : Addr
  a_l_draw : Addr
  a_l_turns : Addr
  a_l_whole : Addr
  a_l_due : Addr
  a_l_word : Addr
  a_law : Addr
  c_RestError : Addr
  c_BadNumbers : Addr
  c_BadRound : Addr
  c_Answer : Addr
  c_Number : Addr
  c_Clash : Addr
  c_Common : Addr
  c_Times : Addr
  c_Bar : Addr
  c_Back : Addr
structure Txt (K : PySem.W.Frag) (mg : Str → Option Value) (A : Ad) : Prop where
  F_is_whole : ∃ fd, Fun K "is_whole" "is_whole" s_is_whole A.a_is_whole fd ∧ Binds K fd ["thing"] []
  g_is_whole : mg "is_whole" = some (.ref A.a_is_whole)
  F_is_number : ∃ fd, Fun K "is_number" "is_number" s_is_number A.a_is_number fd ∧ Binds K fd ["thing"] []
  g_is_number : mg "is_number" = some (.ref A.a_is_number)
  F_is_turn : ∃ fd, Fun K "is_turn" "is_turn" s_is_turn A.a_is_turn fd ∧ Binds K fd ["thing"] []
  g_is_turn : mg "is_turn" = some (.ref A.a_is_turn)
  F_check_turn : ∃ fd, Fun K "check_turn" "check_turn" s_check_turn A.a_check_turn fd ∧ Binds K fd ["turn"] []
  g_check_turn : mg "check_turn" = some (.ref A.a_check_turn)
  F_shares_of : ∃ fd, Fun K "shares_of" "shares_of" s_shares_of A.a_shares_of fd ∧ Binds K fd ["one", "other"] []
  g_shares_of : mg "shares_of" = some (.ref A.a_shares_of)
  F_Bar_init : ∃ fd, Fun K "__init__" "Bar.__init__" s_Bar_init A.a_Bar_init fd ∧ Binds K fd ["self", "part"] []
  F_Bar_bars : ∃ fd, Fun K "bars" "Bar.bars" s_Bar_bars A.a_Bar_bars fd ∧ Binds K fd ["self", "number", "turn"] []
  F_Back_init : ∃ fd, Fun K "__init__" "Back.__init__" s_Back_init A.a_Back_init fd ∧ Binds K fd ["self", "rest"] []
  F_Back_shows : ∃ fd, Fun K "shows" "Back.shows" s_Back_shows A.a_Back_shows fd ∧ Binds K fd ["self", "number", "turn"] []
  F_back : ∃ fd, Fun K "back" "back" s_back A.a_back fd ∧ Binds K fd ["number", "turn"] []
  g_back : mg "back" = some (.ref A.a_back)
  F_l_cell_at : ∃ fd, Fun K "_law_cell_at" "_law_cell_at" s_l_cell_at A.a_l_cell_at fd ∧ Binds K fd ["_law_script", "_law_k"] []
  g_l_cell_at : mg "_law_cell_at" = some (.ref A.a_l_cell_at)
  F_l_draw : ∃ fd, Fun K "_law_draw" "_law_draw" s_l_draw A.a_l_draw fd ∧ Binds K fd ["_law_cell", "_law_k", "_law_many"] []
  g_l_draw : mg "_law_draw" = some (.ref A.a_l_draw)
  F_l_turns : ∃ fd, Fun K "_law_turns" "_law_turns" s_l_turns A.a_l_turns fd ∧ Binds K fd ["_law_script"] []
  g_l_turns : mg "_law_turns" = some (.ref A.a_l_turns)
  F_l_whole : ∃ fd, Fun K "_law_whole" "_law_whole" s_l_whole A.a_l_whole fd ∧ Binds K fd ["_law_number"] []
  g_l_whole : mg "_law_whole" = some (.ref A.a_l_whole)
  F_l_due : ∃ fd, Fun K "_law_due" "_law_due" s_l_due A.a_l_due fd ∧ Binds K fd ["_law_number", "_law_turn", "_law_found"] []
  g_l_due : mg "_law_due" = some (.ref A.a_l_due)
  F_l_word : ∃ fd, Fun K "_law_word" "_law_word" s_l_word A.a_l_word fd ∧ Binds K fd ["_law_number", "_law_turn", "_law_found"] []
  g_l_word : mg "_law_word" = some (.ref A.a_l_word)
  F_law : ∃ fd, Fun K "law" "law" s_law A.a_law fd ∧ Binds K fd ["_law_script"] []
  g_law : mg "law" = some (.ref A.a_law)
  z_isinstance : mg "isinstance" = none
  z_int : mg "int" = none
  z_bool : mg "bool" = none
  z_tuple : mg "tuple" = none
  z_range : mg "range" = none
  z_len : mg "len" = none
  k_GREATEST : ∃ t, mg "GREATEST" = some (.int 1000000 t)
  g_RestError : mg "RestError" = some (.ref A.c_RestError)
  g_BadNumbers : mg "BadNumbers" = some (.ref A.c_BadNumbers)
  g_BadRound : mg "BadRound" = some (.ref A.c_BadRound)
  g_Answer : mg "Answer" = some (.ref A.c_Answer)
  cl_Answer : Cls K A.c_Answer
  i_Answer : IsC K A.c_Answer
  g_Number : mg "Number" = some (.ref A.c_Number)
  cl_Number : Cls K A.c_Number
  n_Number_number : NoAttr K A.c_Number "number"
  n_Number_turn : NoAttr K A.c_Number "turn"
  i_Number : IsC K A.c_Number
  g_Clash : mg "Clash" = some (.ref A.c_Clash)
  cl_Clash : Cls K A.c_Clash
  n_Clash_one : NoAttr K A.c_Clash "one"
  n_Clash_other : NoAttr K A.c_Clash "other"
  i_Clash : IsC K A.c_Clash
  g_Common : mg "Common" = some (.ref A.c_Common)
  cl_Common : Cls K A.c_Common
  n_Common_part : NoAttr K A.c_Common "part"
  n_Common_times : NoAttr K A.c_Common "times"
  i_Common : IsC K A.c_Common
  g_Times : mg "Times" = some (.ref A.c_Times)
  cl_Times : Cls K A.c_Times
  n_Times_times : NoAttr K A.c_Times "times"
  i_Times : IsC K A.c_Times
  g_Bar : mg "Bar" = some (.ref A.c_Bar)
  cl_Bar : Cls K A.c_Bar
  mk_Bar : Mk K A.c_Bar A.a_Bar_init
  m_Bar_bars : Meth K A.c_Bar "bars" A.a_Bar_bars
  n_Bar_part : NoAttr K A.c_Bar "part"
  i_Bar : IsC K A.c_Bar
  g_Back : mg "Back" = some (.ref A.c_Back)
  cl_Back : Cls K A.c_Back
  mk_Back : Mk K A.c_Back A.a_Back_init
  m_Back_shows : Meth K A.c_Back "shows" A.a_Back_shows
  n_Back_rest : NoAttr K A.c_Back "rest"
  i_Back : IsC K A.c_Back
  isg : IsG K
  q_Bar_Answer : PySem.W.kitOne K (.ref A.c_Bar) (.ref A.c_Answer) = some true
  q_Bar_Number : PySem.W.kitOne K (.ref A.c_Bar) (.ref A.c_Number) = some false
  q_Bar_Clash : PySem.W.kitOne K (.ref A.c_Bar) (.ref A.c_Clash) = some false
  q_Bar_Common : PySem.W.kitOne K (.ref A.c_Bar) (.ref A.c_Common) = some false
  q_Bar_Times : PySem.W.kitOne K (.ref A.c_Bar) (.ref A.c_Times) = some false
  q_Bar_Bar : PySem.W.kitOne K (.ref A.c_Bar) (.ref A.c_Bar) = some true
  q_Bar_Back : PySem.W.kitOne K (.ref A.c_Bar) (.ref A.c_Back) = some false
  q_Back_Answer : PySem.W.kitOne K (.ref A.c_Back) (.ref A.c_Answer) = some true
  q_Back_Number : PySem.W.kitOne K (.ref A.c_Back) (.ref A.c_Number) = some false
  q_Back_Clash : PySem.W.kitOne K (.ref A.c_Back) (.ref A.c_Clash) = some false
  q_Back_Common : PySem.W.kitOne K (.ref A.c_Back) (.ref A.c_Common) = some false
  q_Back_Times : PySem.W.kitOne K (.ref A.c_Back) (.ref A.c_Times) = some false
  q_Back_Bar : PySem.W.kitOne K (.ref A.c_Back) (.ref A.c_Bar) = some false
  q_Back_Back : PySem.W.kitOne K (.ref A.c_Back) (.ref A.c_Back) = some true
/-! ### is_whole, is_number, is_turn, check_turn -/
abbrev bt : List String := ["NoneType", "bool", "int", "str", "list", "tuple", "dict"]
theorem kit_int {K : PySem.W.Frag} {n : String} (h : n ∈ bt) : PySem.W.kitOne K (.type n) (.type "int") = some (n == "int" || n == "bool") := by
  simp only [List.mem_cons, List.not_mem_nil, or_false] at h
  rcases h with h | h | h | h | h | h | h <;> subst h <;> exact kit_ty (by decide +kernel)
theorem kit_bool {K : PySem.W.Frag} {n : String} (h : n ∈ bt) : PySem.W.kitOne K (.type n) (.type "bool") = some (n == "bool") := by
  simp only [List.mem_cons, List.not_mem_nil, or_false] at h
  rcases h with h | h | h | h | h | h | h <;> subst h <;> exact kit_ty (by decide +kernel)
/-- whether it is an int -/
def isI : V → Bool
  | .int _ => true
  | _ => false
theorem isI_ty {K : PySem.W.Frag} {H : Hp} {x : V} {n : String} (h : TyX K H x (.type n)) : isI x = (n == "int") := by
  generalize ht : Value.type n = t at h
  cases h with
  | base b => cases b <;> first | (cases ht; rfl) | cases ht
  | _ => first | (cases ht; rfl) | cases ht
/-- whether it is a number within the bounds, a round -/
def isNum : V → Bool
  | .int i => decide (-1000000 ≤ i) && decide (i ≤ 1000000)
  | _ => false
def isTurn : V → Bool
  | .int i => decide (1 ≤ i) && decide (i ≤ 1000000)
  | _ => false
/-- a plain thing of a known type -/
def PlainV (K : PySem.W.Frag) (H : Hp) (x : V) : Prop := ∃ n, TyX K H x (.type n) ∧ n ∈ bt
theorem PlainV.up {K : PySem.W.Frag} {H H' : Hp} {x : V} (e : Ex H H') (h : PlainV K H x) : PlainV K H' x := by
  obtain ⟨n, h, m⟩ := h
  exact ⟨n, tyx_up e h, m⟩
theorem plain_int {K : PySem.W.Frag} {H : Hp} {i : Int} : PlainV K H (.int i) := ⟨"int", .base (.int i), by decide⟩
def sp_is_whole (K : PySem.W.Frag) : Sp := spX (fun (d : V) vs H => vs = [d] ∧ PlainV K H d) (fun d _ v _ => v = .bl (isI d))
def sp_is_number (K : PySem.W.Frag) : Sp := spX (fun (d : V) vs H => vs = [d] ∧ PlainV K H d) (fun d _ v _ => v = .bl (isNum d))
def sp_is_turn (K : PySem.W.Frag) : Sp := spX (fun (d : V) vs H => vs = [d] ∧ PlainV K H d) (fun d _ v _ => v = .bl (isTurn d))
section
variable {P : Program} {w : World} {K : PySem.W.Frag} {mg : Str → Option Value} {base : Heap} {A : Ad}
theorem ok_is_whole (T : Txt K mg A) : Okk P w K mg base 1 A.a_is_whole ["thing"] (sp_is_whole K) := by
  refine okk T.F_is_whole sc_is_whole (fun vs H Q E h => ?_) (fun cdv Ar outer s H vs Q E hr h => ?_)
  · obtain ⟨d, ⟨rfl, _⟩, _⟩ := h
    rfl
  · obtain ⟨d, ⟨rfl, n, ht, hn⟩, k⟩ := h
    refine ⟨_, (pss_one (ps_ret (pe_and (pe_callB call_isi (by rfl) T.z_isinstance (by decide +kernel) (pa_cons (pv 0) (pa_cons (pe_bltn (v := .ty "int") (by rfl) T.z_int (by decide +kernel) rfl) pa_nil))) (pe_one (pe_not (pe_callB call_isi (by rfl) T.z_isinstance (by decide +kernel) (pa_cons (pv 0) (pa_cons (pe_bltn (v := .ty "bool") (by rfl) T.z_bool (by decide +kernel) rfl) pa_nil)))))))), ?_⟩
    refine s_ret (ev_andV (ev_isi (ev_var rfl) ev_c (.ty _) ht (kit_int hn)) (fun _ => ev_notV (ev_isi (ev_var rfl) ev_c (.ty _) ht (kit_bool hn)))) fun H1 e1 => k _ _ e1 ?_
    show V.bl _ = V.bl (isI d)
    rw [isI_ty ht]
    simp only [List.mem_cons, List.not_mem_nil, or_false] at hn
    rcases hn with h | h | h | h | h | h | h <;> subst h <;> decide +kernel
theorem ok_is_number (T : Txt K mg A) : Okk P w K mg base 2 A.a_is_number ["thing"] (sp_is_number K) := by
  obtain ⟨_, G_is_whole, b_is_whole, k_is_whole⟩ := ok_is_whole (P := P) (w := w) (base := base) T
  obtain ⟨_, kG⟩ := T.k_GREATEST
  refine okk T.F_is_number sc_is_number (fun vs H Q E h => ?_) (fun cdv Ar outer s H vs Q E hr h => ?_)
  · obtain ⟨d, ⟨rfl, _⟩, _⟩ := h
    rfl
  · obtain ⟨d, ⟨rfl, hp⟩, k⟩ := h
    have hr_is_whole : Room 1 _ := hr.mono (by decide)
    refine ⟨_, (pss_one (ps_ret (pe_and (pe_call G_is_whole hr_is_whole (by rfl) T.g_is_whole k_is_whole b_is_whole .nil pass0 (pa_cons (pv 0) pa_nil)) (pe_one (pe_chain op_le op_le (pe_un un_neg (pe_glob (v := .int 1000000) (by rfl) kG ⟨_, rfl⟩)) (pv 0) (pe_glob (v := .int 1000000) (by rfl) kG ⟨_, rfl⟩)))))), ?_⟩
    refine s_ret (v := .bl (isNum d)) ?_ fun H1 e1 => k _ _ e1 rfl
    have h1 : Ev (tCall (sp_is_whole K) [] E0 (tCons (tVar 0) tNil)) [some d] H (.bl (isI d)) := ev_call0 d (by walk_at "ev") (fun H1 e => ⟨rfl, hp.up e⟩) fun _ _ _ p => p
    cases d with
    | int i => exact ev_is (ev_andV h1 fun _ => by walk_at "ev") rfl
    | _ => exact ev_andV (b := false) h1 fun z => nomatch z
theorem ok_is_turn (T : Txt K mg A) : Okk P w K mg base 2 A.a_is_turn ["thing"] (sp_is_turn K) := by
  obtain ⟨_, G_is_whole, b_is_whole, k_is_whole⟩ := ok_is_whole (P := P) (w := w) (base := base) T
  obtain ⟨_, kG⟩ := T.k_GREATEST
  refine okk T.F_is_turn sc_is_turn (fun vs H Q E h => ?_) (fun cdv Ar outer s H vs Q E hr h => ?_)
  · obtain ⟨d, ⟨rfl, _⟩, _⟩ := h
    rfl
  · obtain ⟨d, ⟨rfl, hp⟩, k⟩ := h
    have hr_is_whole : Room 1 _ := hr.mono (by decide)
    refine ⟨_, (pss_one (ps_ret (pe_and (pe_call G_is_whole hr_is_whole (by rfl) T.g_is_whole k_is_whole b_is_whole .nil pass0 (pa_cons (pv 0) pa_nil)) (pe_one (pe_chain op_le op_le pe_int (pv 0) (pe_glob (v := .int 1000000) (by rfl) kG ⟨_, rfl⟩)))))), ?_⟩
    refine s_ret (v := .bl (isTurn d)) ?_ fun H1 e1 => k _ _ e1 rfl
    have h1 : Ev (tCall (sp_is_whole K) [] E0 (tCons (tVar 0) tNil)) [some d] H (.bl (isI d)) := ev_call0 d (by walk_at "ev") (fun H1 e => ⟨rfl, hp.up e⟩) fun _ _ _ p => p
    cases d with
    | int i => exact ev_is (ev_andV h1 fun _ => by walk_at "ev") rfl
    | _ => exact ev_andV (b := false) h1 fun z => nomatch z
/-- a round is let through -/
def sp_check_turn (K : PySem.W.Frag) : Sp := spX (fun (d : Int) vs _ => vs = [.int d] ∧ 1 ≤ d ∧ d ≤ 1000000) (fun _ _ v _ => v = .non)
theorem ok_check_turn (T : Txt K mg A) : Okk P w K mg base 3 A.a_check_turn ["turn"] (sp_check_turn K) := by
  obtain ⟨_, G_is_turn, b_is_turn, k_is_turn⟩ := ok_is_turn (P := P) (w := w) (base := base) T
  refine okk T.F_check_turn sc_check_turn (fun vs H Q E h => ?_) (fun cdv Ar outer s H vs Q E hr h => ?_)
  · obtain ⟨d, ⟨rfl, _⟩, _⟩ := h
    rfl
  · obtain ⟨d, ⟨rfl, d1, d2⟩, k⟩ := h
    have hr_is_turn : Room 2 _ := hr.mono (by decide)
    refine ⟨_, (pss_one (ps_if (pt_not (pt_val (pe_call G_is_turn hr_is_turn (by rfl) T.g_is_turn k_is_turn b_is_turn .nil pass0 (pa_cons (pv 0) pa_nil)))) (pss_one ps_never) pss_nil)), ?_⟩
    have h1 : Ev (tCall (sp_is_turn K) [] E0 (tCons (tVar 0) tNil)) [some (.int d)] H (.bl true) := ev_call0 (.int d) (by walk_at "ev") (fun H1 e => ⟨rfl, plain_int⟩) fun _ v _ p => by
      rw [p]
      simp only [isTurn, decide_eq_true d1, decide_eq_true d2, Bool.and_self]
    exact s_when (et_not (et_B h1)) (fun z => nomatch z) fun _ H1 e1 => k _ _ e1 rfl
end
/-! ### shares_of -/
def sp_shares_of (_ : PySem.W.Frag) : Sp := spX (fun (d : Int × Int) vs _ => vs = [.int d.1, .int d.2] ∧ d.2.natAbs ≤ 1000000)
  (fun d _ v H' => ∃ p g x y, v = .ref p ∧ H' p = some (.tup [.int g, .int x, .int y]) ∧ Shares d.1 d.2 g x y)
theorem t3_at {i : Nat} {p q r : V} (hi : i < 3) : atI [p, q, r] (i : Int) = some ([p, q, r].getD i .non) := by
  refine atI_nat ?_
  rcases i with _ | _ | _ | i
  · rfl
  · rfl
  · rfl
  · omega
theorem r3 (f : Nat → V) : (List.range 3).map f = [f 0, f 1, f 2] := rfl
section
variable {P : Program} {w : World} {K : PySem.W.Frag} {mg : Str → Option Value} {base : Heap} {A : Ad}
theorem ok_shares_of (T : Txt K mg A) : Okk P w K mg base 1 A.a_shares_of ["one", "other"] (sp_shares_of K) := by
  refine okk T.F_shares_of sc_shares_of (fun vs H Q E h => ?_) (fun cdv Ar outer s H vs Q E hr h => ?_)
  · obtain ⟨d, ⟨rfl, _⟩, _⟩ := h
    rfl
  · obtain ⟨⟨one, other⟩, ⟨rfl, hd⟩, k⟩ := h
    refine ⟨_, (pss_cons (ps_set (i := 2) sc_shares_of.nd rfl (.inr rfl) (pe_tup (pa_cons (pv 0) (pa_cons pe_int (pa_cons pe_int pa_nil)))))
      (pss_cons (ps_set (i := 3) sc_shares_of.nd rfl (.inr rfl) (pe_tup (pa_cons (pv 1) (pa_cons pe_int (pa_cons pe_int pa_nil)))))
      (pss_cons (ps_while PassesOwn.never (pt_cmpR op_ne (pe_ix (ix_tupK K) (pv 3) pe_int (fun _ _ => rfl)) pe_int (nomark _)) (pss_cons (ps_set (i := 4) sc_shares_of.nd rfl (.inr rfl) (pe_op op_fdivN (pe_ix (ix_tupK K) (pv 2) pe_int (fun _ _ => rfl)) (pe_ix (ix_tupK K) (pv 3) pe_int (fun _ _ => rfl))))
      (pss_one (ps_asg (pe_tup (pa_cons (pv 3) (pa_cons (pe_callTy (tuple_ofK K) (by rfl) T.z_tuple (by decide +kernel) (pa_cons (pe_lc (own := [("k", 6)]) rfl sc_shares_of.nd (pi_range1 (by rfl) T.z_range (pa_cons pe_int pa_nil)) (blkOk_by (N := ["one", "other", "here", "there", "times", "part", "k"]) (sc := defScope s_shares_of) (by decide +kernel)) (fun _ _ _ _ _ => (pg_name (i := 6) sc_shares_of.nd rfl (Or.inl rfl))) (fun _ _ _ _ _ => pts_nil) (fun _ _ _ _ _ => (pe_op op_sub (pe_ix (ix_tupK K) (pv 2) (pv 6) (fun _ _ => rfl)) (pe_op op_mul (pv 4) (pe_ix (ix_tupK K) (pv 3) (pv 6) (fun _ _ => rfl)))))) pa_nil)) pa_nil))) (pg_tupK K rfl (pgs_cons (pg_name (i := 2) sc_shares_of.nd rfl (Or.inr rfl)) (pgs_cons (pg_name (i := 3) sc_shares_of.nd rfl (Or.inr rfl)) pgs_nil)))))))
      (pss_cons (ps_if (pt_cmpR op_lt (pe_ix (ix_tupK K) (pv 2) pe_int (fun _ _ => rfl)) pe_int (nomark _)) (pss_one (ps_set (i := 2) sc_shares_of.nd rfl (.inr rfl) (pe_callTy (tuple_ofK K) (by rfl) T.z_tuple (by decide +kernel) (pa_cons (pe_lc (own := [("part", 5)]) rfl sc_shares_of.nd (pi_tupK K (pv 2)) (blkOk_by (N := ["one", "other", "here", "there", "times", "part", "k"]) (sc := defScope s_shares_of) (by decide +kernel)) (fun _ _ _ _ _ => (pg_name (i := 5) sc_shares_of.nd rfl (Or.inl rfl))) (fun _ _ _ _ _ => pts_nil) (fun _ _ _ _ _ => (pe_un un_neg (pv 5)))) pa_nil)))) pss_nil)
      (pss_one (ps_ret (pv 2))))))), ?_⟩
    refine q_asgU (eu_tup (by walk_at "ev") (by walk_at "sz")) fun p H1 hp e1 h1 => ?_
    refine q_asgU (eu_tup (by walk_at "ev") (by walk_at "sz")) fun q H2 hq e2 h2 => ?_
    refine q_while (fun m σ H' => ∃ p q a x y b u v s4 s5 s6, m = b.natAbs ∧ σ = [some (.int one), some (.int other), some (.ref p), some (.ref q), s4, s5, s6] ∧ Ex H H' ∧
      H' p = some (.tup [.int a, .int x, .int y]) ∧ H' q = some (.tup [.int b, .int u, .int v]) ∧ Sh one other a x y b u v) other.natAbs
      ⟨p, q, one, 1, 0, other, 0, 1, none, none, none, rfl, rfl, e1.trans e2, e2 _ _ h1, h2, Sh.start one other⟩ ?_
    rintro m σ H3 ⟨p, q, a, x, y, b, u, v, s4, s5, s6, rfl, rfl, e3, hp3, hq3, sh⟩
    have hb30 : b.natAbs ≤ 1000000 := by
      rcases sh.hs with ⟨_, _, _, e, _⟩ | ⟨h1, h2, _⟩
      · rw [e]; exact hd
      · have : other.natAbs ≤ 1000000 := hd
        omega
    refine ⟨_, (by walk_at "ev"), fun hb H4 e4 => ?_, fun hb H4 e4 => ?_⟩
    · have hb0 : b ≠ 0 := by simpa using hb
      refine ⟨_, fun _ _ n => n, ?_⟩
      have hp4 := e4 _ _ hp3
      have hq4 := e4 _ _ hq3
      refine q_asg (v := .int (a.fdiv b)) (by walk_at "ev" <;> exact ⟨hb0, by omega⟩) fun H5 e5 => ?_
      have hp5 := e5 _ _ hp4
      have hq5 := e5 _ _ hq4
      refine s_asgG (er_tup (T := fun vs H6 => ∃ q2, vs = [.ref q, .ref q2] ∧ H6 q2 = some (.tup [.int (a - a.fdiv b * b), .int (x - a.fdiv b * u), .int (y - a.fdiv b * v)]))
        (ear_cons (evr (ev_var rfl)) fun z1 H6 e6 hz1 => ?_) fun vs H6 h => ?_) fun z H6 e6 hz => ?_
      · subst hz1
        refine ear_cons (er_tupR (xs := [.int (a - a.fdiv b * b), .int (x - a.fdiv b * u), .int (y - a.fdiv b * v)]) (S := LcR 3 (fun j z _ => z = .int ([a, x, y].getD j 0 - a.fdiv b * [b, u, v].getD j 0)) H6)
          (er_lcR (n := 3) _ stb_val (ea_cons ev_c ea_nil) (by decide) (fun _ => rfl) fun i hi => ?_) fun z H7 e7 hz => ?_) fun z2 H7 e7 hz2 => ?_
        · refine evr (v := .int ([a, x, y].getD i 0 - a.fdiv b * [b, u, v].getD i 0)) ?_
          have g1 : ([V.int a, .int x, .int y].getD i .non) = .int ([a, x, y].getD i 0) := by
            rcases i with _ | _ | _ | i <;> first | rfl | omega
          have g2 : ([V.int b, .int u, .int v].getD i .non) = .int ([b, u, v].getD i 0) := by
            rcases i with _ | _ | _ | i <;> first | rfl | omega
          refine ev_op (ev_op (ev_var rfl) (ev_var rfl) (rv_ixT (st_of (e6 _ _ hp5)) ((t3_at hi).trans (by rw [g1])))) (ev_op (ev_var rfl) (ev_op (ev_var rfl) (ev_var rfl) (rv_ixT (st_of (e6 _ _ hq5)) ((t3_at hi).trans (by rw [g2])))) (rv_I ?_)) rv_I0
          rcases sh.hs with ⟨_, _, _, _, eu, ev⟩ | ⟨h1, h2, h3, _⟩
          · right
            subst eu ev
            rcases i with _ | _ | _ | i
            · show -(2 ^ 64) < b ∧ b < 2 ^ 64
              omega
            · show -(2 ^ 64) < (0 : Int) ∧ (0 : Int) < 2 ^ 64
              decide
            · show -(2 ^ 64) < (1 : Int) ∧ (1 : Int) < 2 ^ 64
              decide
            · omega
          · left
            have h5 := div_abs hb0 h3
            have h6 : (a.fdiv b).natAbs * 1 ≤ (a.fdiv b).natAbs * b.natAbs := Nat.mul_le_mul_left _ (by omega)
            have h7 : other.natAbs ≤ 1000000 := hd
            omega
        · obtain ⟨a1, rfl, h⟩ := hz.sq
          exact ⟨a1, rfl, h⟩
        · obtain ⟨q2, rfl, _, h⟩ := hz2
          exact (ear ea_nil).imp fun vs H8 e8 hv => by
            subst hv
            exact ⟨q2, rfl, e8 _ _ h⟩
      · obtain ⟨_, rfl, _⟩ := h
        show 2 ≤ 100000
        decide
      · obtain ⟨t, vs, H7, rfl, _, e7, ⟨q2, rfl, hq2⟩, ht⟩ := hz
        refine g_tup2 (st_of ht) ?_
        have ⟨sh', hlt⟩ := sh.step hb0
        exact ⟨_, hlt, q, q2, _, _, _, _, _, _, _, _, _, rfl, rfl, (e3.trans e4).trans (e5.trans e6), e6 _ _ hq5, e7 _ _ hq2, sh'⟩
    · have hb0 : b = 0 := by simpa using hb
      subst hb0
      have hp4 := e4 _ _ hp3
      have ⟨d1, d2⟩ := sh.done
      refine q_when (by walk_at "ev") (fun ha H5 e5 => ?_) (fun ha H5 e5 => ?_)
      · have ha0 : a < 0 := by simpa using ha
        have hp5 := e5 _ _ hp4
        refine s_asgR (er_tupR (xs := [.int (-a), .int (-x), .int (-y)]) (S := LcR 3 (fun j z _ => z = .int (-[a, x, y].getD j 0)) H5)
          (er_lcTn _ stb_val (ev_var rfl) (st_of hp5) (by show 3 ≤ 40000; decide) (fun _ => rfl) fun i z hz => ?_) fun z H7 e7 hz => ?_) fun z H6 e6 hz => ?_
        · have g : z = .int ([a, x, y].getD i 0) := by
            rcases i with _ | _ | _ | i
            · exact (Option.some.inj hz).symm
            · exact (Option.some.inj hz).symm
            · exact (Option.some.inj hz).symm
            · simp at hz
          subst g
          exact evr (by walk_at "ev")
        · obtain ⟨a1, rfl, h⟩ := hz.sq
          exact ⟨a1, rfl, h⟩
        · obtain ⟨p2, rfl, _, hp2⟩ := hz
          refine s_ret (ev_var rfl) fun H7 e7 => k _ _ (((e3.trans e4).trans (e5.trans e6)).trans e7) ?_
          exact ⟨p2, _, _, _, rfl, e7 _ _ hp2, d2 ha0⟩
      · have ha0 : ¬ a < 0 := by simpa using ha
        refine s_ret (ev_var rfl) fun H6 e6 => k _ _ (((e3.trans e4).trans e5).trans e6) ?_
        exact ⟨p, _, _, _, rfl, e6 _ _ (e5 _ _ hp4), d1 ha0⟩
end
/-! ### a cell of the script, a draw, rounds -/
/-- a script at a: ns -/
def Scr (K : PySem.W.Frag) (H : Hp) (v : V) (ns : List Int) : Prop := ∃ a, v = .ref a ∧ SqL K H a (ns.map V.int) ∧ ns.length ≤ 63
theorem Scr.up {K : PySem.W.Frag} {H H' : Hp} {v : V} {ns : List Int} (e : Ex H H') (h : Scr K H v ns) : Scr K H' v ns := by
  obtain ⟨a, r, h, l⟩ := h
  exact ⟨a, r, ex_l e h, l⟩
def sp_l_cell_at (K : PySem.W.Frag) : Sp := spX (fun (d : V × List Int × Nat) vs H => vs = [d.1, .int d.2.2] ∧ Scr K H d.1 d.2.1) (fun d _ v _ => v = .int (d.2.1.getD d.2.2 0))
def sp_l_draw (_ : PySem.W.Frag) : Sp := spX (fun (d : Int × Int × Int) vs _ => vs = [.int d.1, .int d.2.1, .int d.2.2] ∧ 0 ≤ d.2.1 ∧ 0 < d.2.2) (fun d _ v _ => ∃ r, v = .int r ∧ 0 ≤ r ∧ r < d.2.2)
section
variable {P : Program} {w : World} {K : PySem.W.Frag} {mg : Str → Option Value} {base : Heap} {A : Ad}
theorem ok_l_cell_at (T : Txt K mg A) : Okk P w K mg base 1 A.a_l_cell_at ["_law_script", "_law_k"] (sp_l_cell_at K) := by
  refine okk T.F_l_cell_at sc_l_cell_at (fun vs H Q E h => ?_) (fun cdv Ar outer s H vs Q E hr h => ?_)
  · obtain ⟨d, ⟨rfl, _⟩, _⟩ := h
    rfl
  · obtain ⟨⟨_, ns, j⟩, ⟨rfl, a, rfl, hS, hl⟩, k⟩ := h
    refine ⟨_, (pss_cons (ps_if (pt_cmpR op_lt (pv 1) (pe_callB (len_seqK K) (by rfl) T.z_len (by decide +kernel) (pa_cons (pv 0) pa_nil)) (nomark _)) (pss_one (ps_ret (pe_ix (ix_listK K) (pv 0) (pv 1) (fun _ _ => rfl)))) pss_nil)
      (pss_one (ps_ret pe_int))), ?_⟩
    have e0 : ((ns.map V.int).length : Int) = (ns.length : Int) := by rw [List.length_map]
    refine q_when (b := decide ((j : Int) < (ns.length : Int))) ?_ (fun hb H1 e1 => ?_) (fun hb H1 e1 => ?_)
    · rw [← e0]
      exact et_test (ev_op (ev_var rfl) (ev_lenL (ev_var rfl) hS) rv_I0)
    · have hj : j < ns.length := by
        have := of_decide_eq_true hb
        omega
      refine s_ret (v := .int (ns.getD j 0)) (ev_op (ev_var rfl) (ev_var rfl) (rv_ixL (ex_l e1 hS) ?_)) fun H2 e2 => k _ _ (e1.trans e2) rfl
      refine atI_nat ?_
      rw [List.getElem?_map, List.getD_eq_getElem?_getD, List.getElem?_eq_getElem hj]
      rfl
    · have hj : ¬ j < ns.length := fun z => by
        have := of_decide_eq_false hb
        omega
      refine s_ret (v := .int (ns.getD j 0)) ?_ fun H2 e2 => k _ _ (e1.trans e2) rfl
      rw [List.getD_eq_getElem?_getD, List.getElem?_eq_none (by omega)]
      exact ev_c
abbrev prms : List Int := [1000003, 1000033, 1000037, 1000039, 1000081, 1000099, 1000117, 1000121, 1000133, 1000151, 1000159, 1000171, 1000183, 1000187, 1000193, 1000199]
theorem ok_l_draw (T : Txt K mg A) : Okk P w K mg base 1 A.a_l_draw ["_law_cell", "_law_k", "_law_many"] (sp_l_draw K) := by
  refine okk T.F_l_draw sc_l_draw (fun vs H Q E h => ?_) (fun cdv Ar outer s H vs Q E hr h => ?_)
  · obtain ⟨d, ⟨rfl, _⟩, _⟩ := h
    rfl
  · obtain ⟨⟨c, j, m⟩, ⟨rfl, hj, hm⟩, k⟩ := h
    refine ⟨_, (pss_cons (ps_set (i := 3) sc_l_draw.nd rfl (.inl rfl) (pe_tup (pa_cons pe_int (pa_cons pe_int (pa_cons pe_int (pa_cons pe_int (pa_cons pe_int (pa_cons pe_int (pa_cons pe_int (pa_cons pe_int (pa_cons pe_int (pa_cons pe_int (pa_cons pe_int (pa_cons pe_int (pa_cons pe_int (pa_cons pe_int (pa_cons pe_int (pa_cons pe_int pa_nil))))))))))))))))))
      (pss_one (ps_ret (pe_op op_mod (pe_op op_mod (pe_op op_add (pe_op op_mul (pv 0) pe_int) (pe_op op_mul (pv 1) pe_int)) (pe_ix (ix_tupK K) (pv 3) (pe_op op_mod (pv 1) pe_int) (fun _ _ => rfl))) (pv 2))))), ?_⟩
    refine q_asgU (eu_tup (by walk_at "ev") (by walk_at "sz")) fun p H1 hp e1 h1 => ?_
    have k0 : 0 ≤ j % 16 := Int.emod_nonneg _ (by decide)
    have k1 : j % 16 < 16 := Int.emod_lt_of_pos _ (by decide)
    have hg := getD_all (l := prms) (i := (j % 16).toNat) (a := 1) (b := 2000000) (by decide) (by show (j % 16).toNat < 16; omega)
    have hg1 : 0 < prms.getD (j % 16).toNat 0 := by
      have := hg.1
      omega
    refine s_ret (v := .int ((c * 48271 + j * 69621) % prms.getD (j % 16).toNat 0 % m)) ?_ fun H2 e2 => k _ _ (e1.trans e2) ⟨_, rfl, Int.emod_nonneg _ (Int.ne_of_gt hm), Int.emod_lt_of_pos _ hm⟩
    refine ev_op (ev_op (ev_op (ev_op (ev_var rfl) ev_c (rv_I (.inr (by decide)))) (ev_op (ev_var rfl) ev_c (rv_I (.inr (by decide)))) rv_I0) (ev_op (ev_var rfl) (ev_op (ev_var rfl) ev_c (rv_I (by decide))) (rv_ixT (st_of (show H1 p = some (.tup (prms.map V.int)) from h1)) (atI_map (l := prms) k0 (by show j % 16 < 16; exact k1)))) (rv_I hg1)) (ev_var rfl) (rv_I hm)
theorem ev_cell {σ : L2.St} {H : Hp} {ta tb : TE} {v : V} {ns : List Int} {j : Nat} {E : XK} (h : Ev ta σ H v) (hj : Ev tb σ H (.int (j : Int))) (hS : Scr K H v ns) : Ev (tCall (sp_l_cell_at K) [] E (tCons ta (tCons tb tNil))) σ H (.int (ns.getD j 0)) :=
  ev_call0 (v, ns, j) (ea_cons h (ea_cons hj ea_nil)) (fun H1 e => ⟨rfl, hS.up e⟩) fun _ _ _ p => p
theorem er_draw {σ : L2.St} {H : Hp} {ta tb tc : TE} {c k m : Int} {E : XK} (h : Ev ta σ H (.int c)) (h2 : Ev tb σ H (.int k)) (h3 : Ev tc σ H (.int m)) (hk : 0 ≤ k) (hm : 0 < m) : EvR (tCall (sp_l_draw K) [] E (tCons ta (tCons tb (tCons tc tNil)))) σ H (fun v _ => ∃ r, v = .int r ∧ 0 ≤ r ∧ r < m) :=
  er_call (c, k, m) (ea_cons h (ea_cons h2 (ea_cons h3 ea_nil))) (fun H1 e => ⟨rfl, hk, hm⟩) fun _ _ _ _ _ p => p
end
/-! ### rounds -/
/-- a new list of n rounds -/
def TurnsAt (n : Nat) (H : Hp) (v : V) (H' : Hp) : Prop := ∃ (p : Addr) (ts : List Int), v = .ref p ∧ H p = none ∧ H' p = some (.lst (ts.map V.int)) ∧ ts.length = n ∧ ∀ t ∈ ts, 1 ≤ t ∧ t ≤ 1000000
def sp_l_turns (K : PySem.W.Frag) : Sp := spX (fun (d : V × List Int) vs H => vs = [d.1] ∧ Scr K H d.1 d.2) (fun d H v H' => TurnsAt d.2.length H v H')
section
variable {P : Program} {w : World} {K : PySem.W.Frag} {mg : Str → Option Value} {base : Heap} {A : Ad}
theorem ok_l_turns (T : Txt K mg A) : Okk P w K mg base 2 A.a_l_turns ["_law_script"] (sp_l_turns K) := by
  obtain ⟨_, G_l_cell_at, b_l_cell_at, k_l_cell_at⟩ := ok_l_cell_at (P := P) (w := w) (base := base) T
  obtain ⟨_, G_l_draw, b_l_draw, k_l_draw⟩ := ok_l_draw (P := P) (w := w) (base := base) T
  refine okk T.F_l_turns sc_l_turns (fun vs H Q E h => ?_) (fun cdv Ar outer s H vs Q E hr h => ?_)
  · obtain ⟨d, ⟨rfl, _⟩, _⟩ := h
    rfl
  · obtain ⟨⟨_, ns⟩, ⟨rfl, a, rfl, hS, hl⟩, k⟩ := h
    have hr_l_cell_at : Room 1 _ := hr.mono (by decide)
    have hr_l_draw : Room 1 _ := hr.mono (by decide)
    refine ⟨_, (pss_cons (ps_set (i := 1) sc_l_turns.nd rfl (.inl rfl) (pe_call G_l_draw hr_l_draw (by rfl) T.g_l_draw k_l_draw b_l_draw .nil pass0 (pa_cons (pe_call G_l_cell_at hr_l_cell_at (by rfl) T.g_l_cell_at k_l_cell_at b_l_cell_at .nil pass0 (pa_cons (pv 0) (pa_cons pe_int pa_nil))) (pa_cons pe_int (pa_cons pe_int pa_nil)))))
      (pss_cons (ps_set (i := 2) sc_l_turns.nd rfl (.inl rfl) (pe_lst pa_nil))
      (pss_cons (ps_for PassesOwn.never rfl (pi_range1 (by rfl) T.z_range (pa_cons (pe_callB (len_seqK K) (by rfl) T.z_len (by decide +kernel) (pa_cons (pv 0) pa_nil)) pa_nil)) (pg_name (i := 3) sc_l_turns.nd rfl (Or.inl rfl)) (pss_cons (ps_set (i := 4) sc_l_turns.nd rfl (.inl rfl) (pe_op op_add pe_int (pe_call G_l_draw hr_l_draw (by rfl) T.g_l_draw k_l_draw b_l_draw .nil pass0 (pa_cons (pe_ix (ix_listK K) (pv 0) (pv 3) (fun _ _ => rfl)) (pa_cons (pe_op op_add (pe_op op_mod (pv 3) pe_int) pe_int) (pa_cons (pe_ix (ix_tupK K) (pe_tup (pa_cons pe_int (pa_cons pe_int (pa_cons pe_int (pa_cons pe_int pa_nil))))) (pv 1) (fun _ _ => rfl)) pa_nil))))))
      (pss_cons (ps_if (pt_cmpR op_eq (pv 1) pe_int (nomark _)) (pss_one (ps_set (i := 4) sc_l_turns.nd rfl (.inl rfl) (pe_ix (ix_tupK K) (pe_tup (pa_cons pe_int (pa_cons pe_int (pa_cons pe_int (pa_cons pe_int (pa_cons pe_int (pa_cons pe_int (pa_cons pe_int (pa_cons pe_int (pa_cons pe_int (pa_cons pe_int (pa_cons pe_int (pa_cons pe_int (pa_cons pe_int (pa_cons pe_int (pa_cons pe_int pa_nil)))))))))))))))) (pe_op op_mod (pv 4) pe_int) (fun _ _ => rfl)))) pss_nil)
      (pss_one (ps_expr (pe_bm PySem.F.plainAttrs_list PySem.F.slot_list_append PySem.F.type_list_append mt_append (pv 2) (pa_cons (pv 4) pa_nil)))))))
      (pss_one (ps_ret (pv 2)))))), ?_⟩
    dsimp only at hS hl
    have hsc : Scr K H (.ref a) ns := ⟨a, rfl, hS, hl⟩
    have e0 : ((ns.map V.int).length : Int) = (ns.length : Int) := by rw [List.length_map]
    refine q_asgR (er_draw (ev_cell (j := 0) (ev_var rfl) ev_c hsc) ev_c ev_c (by decide) (by decide)) fun v1 H1 e1 h1 => ?_
    obtain ⟨kind, rfl, k0, k1⟩ := h1
    refine q_asgL (xs := []) (el_lst ea_nil (by decide)) fun p H2 hp e2 h2 => ?_
    have hS2 := ex_l (e1.trans e2) hS
    refine q_forR1 (n := (ns.length : Int)) (ea_cons (by rw [← e0]; exact ev_lenL (ev_var rfl) hS2) ea_nil) (by omega) (fun i σ' H' => ∃ s3 s4 : Option V, ∃ ts : List Int, σ' = [some (.ref a), some (.int kind), some (.ref p), s3, s4] ∧ Ex H1 H' ∧ H' p = some (.lst (ts.map V.int)) ∧ ts.length = i ∧ ∀ t ∈ ts, 1 ≤ t ∧ t ≤ 1000000)
      (fun H3 e3 => ⟨_, _, [], rfl, e2.trans e3, e3 _ _ h2, rfl, fun t ht => nomatch ht⟩) (fun i σ' H' hi hP => ?_) (fun σ' H' hP => ?_)
    · obtain ⟨s3, s4, ts, rfl, e3, hp3, hlen, hts⟩ := hP
      have hi' : i < ns.length := by omega
      have hS3 : SqL K H' a (ns.map V.int) := ex_l (e1.trans e3) hS
      have hgm := getD_all (l := [12, 200, 1000000, 30]) (i := kind.toNat) (a := 1) (b := 1000000) (by decide) (by show kind.toNat < 4; omega)
      refine q_asgR (R := fun v _ => ∃ t, v = .int t ∧ 1 ≤ t ∧ t ≤ 1000000) (er_op (evr ev_c) (fun x H4 e4 hx => er_draw (c := ns.getD i 0) (k := (i : Int) % 5 + 1) (m := ([12, 200, 1000000, 30] : List Int).getD kind.toNat 0)
        (ev_op (ev_var rfl) (ev_var rfl) (rv_ixL (ex_l e4 hS3) ?_)) (ev_op (ev_op (ev_var rfl) ev_c (rv_I (by decide))) ev_c rv_I0) (ev_pick (l := [12, 200, 1000000, 30]) (by walk_at "ev") (ev_var rfl) (by rfl) k0 (by show kind < 4; exact k1) (by walk_at "sz")) (by omega) (by omega)) ?_) fun v4 H4 e4 h4 => ?_
      · refine atI_nat ?_
        rw [List.getElem?_map, List.getD_eq_getElem?_getD, List.getElem?_eq_getElem hi']
        rfl
      · rintro x y H4 H5 e4 rfl e5 ⟨r, rfl, r0, r1⟩ Q q
        exact ⟨1, r, rfl, rfl, q _ _ (Ex.refl _) ⟨_, rfl, by omega, by omega⟩⟩
      · obtain ⟨t, rfl, t0, t1⟩ := h4
        have fin : ∀ H5 t, Ex H' H5 → 1 ≤ t → t ≤ 1000000 → tDrop (tBM K "list" rAppend (tVar 2) (tCons (tVar 4) tNil)) { nx := fun σ' H' => ∃ s3 s4 : Option V, ∃ ts : List Int, σ' = [some (.ref a), some (.int kind), some (.ref p), s3, s4] ∧ Ex H1 H' ∧ H' p = some (.lst (ts.map V.int)) ∧ ts.length = i + 1 ∧ ∀ t ∈ ts, 1 ≤ t ∧ t ≤ 1000000, rt := Q, bk := fun σ' H' => tRet (tVar 2) { nx := fun _ H' => Q .non H', rt := Q } σ' H', ct := fun σ' H' => ∃ s3 s4 : Option V, ∃ ts : List Int, σ' = [some (.ref a), some (.int kind), some (.ref p), s3, s4] ∧ Ex H1 H' ∧ H' p = some (.lst (ts.map V.int)) ∧ ts.length = i + 1 ∧ ∀ t ∈ ts, 1 ≤ t ∧ t ≤ 1000000 } [some (.ref a), some (.int kind), some (.ref p), some (.int (i : Int)), some (.int t)] H5 := fun H5 t e5 a0 a1 =>
          s_app (e5 _ _ hp3) (ev_var rfl) (ev_var rfl) (by rw [List.length_map]; omega) fun H6 e6 => ⟨_, _, ts ++ [t], rfl, Ex.mut ((e3.trans e5).trans e6) hp, by rw [upd_same, List.map_append]; rfl, by simp [hlen], fun z hz => by
            rcases List.mem_append.mp hz with h | h
            · exact hts z h
            · rw [List.mem_singleton.mp h]
              exact ⟨a0, a1⟩⟩
        refine q_when (et_test (ev_op (ev_var rfl) ev_c rv_eqI)) (fun hb H5 e5 => ?_) (fun hb H5 e5 => ?_)
        · have g0 : 0 ≤ t % 15 := Int.emod_nonneg _ (by decide)
          have g1 : t % 15 < 15 := Int.emod_lt_of_pos _ (by decide)
          have hgm2 := getD_all (l := [1, 2, 4, 8, 3, 9, 27, 6, 12, 18, 36, 5, 10, 20, 60]) (i := (t % 15).toNat) (a := 1) (b := 1000000) (by decide) (by show (t % 15).toNat < 15; omega)
          refine s_asg (ev_pick (l := [1, 2, 4, 8, 3, 9, 27, 6, 12, 18, 36, 5, 10, 20, 60]) (by walk_at "ev") (ev_op (ev_var rfl) ev_c (rv_I (by decide))) (by rfl) g0 (by show t % 15 < 15; exact g1) (by walk_at "sz")) fun H6 e6 => ?_
          exact fin H6 _ ((e4.trans e5).trans e6) hgm2.1 hgm2.2
        · exact fin H5 _ (e4.trans e5) t0 t1
    · obtain ⟨s3, s4, ts, rfl, e3, hp3, hlen, hts⟩ := hP
      refine s_ret (ev_var rfl) fun H3 e4 => k _ _ ((e1.trans e3).trans e4) ⟨p, ts, rfl, fresh_back e1 hp, e4 _ _ hp3, by show ts.length = ns.length; omega, hts⟩
end
/-! ### Bar, Back: made, asked; back -/
/-- one field, stored by __init__ -/
def spI1 (C : Addr) (f : Str) : Sp := spI C (fun us _ => ∃ x, us = [x]) (fun us _ _ fs => ∃ x, us = [x] ∧ fs = [(f, x)])
def BarAt (A : Ad) (H : Hp) (v : V) (g : Int) : Prop := ∃ a dx, v = .ref a ∧ H a = some (.ins A.c_Bar dx [("part", .int g)])
def BackAt (A : Ad) (H : Hp) (v : V) (r : Int) : Prop := ∃ a dx, v = .ref a ∧ H a = some (.ins A.c_Back dx [("rest", .int r)])
theorem BarAt.up {A : Ad} {H H' : Hp} {v : V} {g : Int} (e : Ex H H') (h : BarAt A H v g) : BarAt A H' v g := by
  obtain ⟨a, dx, r, h⟩ := h
  exact ⟨a, dx, r, e _ _ h⟩
theorem BackAt.up {A : Ad} {H H' : Hp} {v : V} {g : Int} (e : Ex H H') (h : BackAt A H v g) : BackAt A H' v g := by
  obtain ⟨a, dx, r, h⟩ := h
  exact ⟨a, dx, r, e _ _ h⟩
theorem lk1 {f : Str} {x : V} : List.lookup f [(f, x)] = some x := by simp [List.lookup]
theorem er_make1 {σ : L2.St} {H : Hp} {ta : TE} {C : Addr} {f : Str} {E : XK} {x : V} (h : Ev ta σ H x) : EvR (tMake C (spI1 C f) [] E (tCons ta tNil)) σ H (fun v H2 => ∃ a dx, v = .ref a ∧ H a = none ∧ H2 a = some (.ins C dx [(f, x)])) :=
  er_make (ear (ea_cons h ea_nil)) (fun us H1 H2 _ p _ => ⟨_, p⟩) fun us H1 H2 H3 fs a dx e p _ _ ha hi ⟨y, hy, hf⟩ => by
    subst hf
    rw [p] at hy
    cases hy
    exact ⟨a, dx, rfl, fresh_back e ha, hi⟩
def sp_Bar_bars (A : Ad) : Sp := spX (fun (d : V × Int × Int × Int) vs H => vs = [d.1, .int d.2.2.1, .int d.2.2.2] ∧ BarAt A H d.1 d.2.1) (fun d _ v _ => v = .bl (barsF d.2.1 d.2.2.1 d.2.2.2))
def sp_Back_shows (A : Ad) : Sp := spX (fun (d : V × Int × Int × Int) vs H => vs = [d.1, .int d.2.2.1, .int d.2.2.2] ∧ BackAt A H d.1 d.2.1 ∧ 0 < d.2.2.2 ∧ d.2.2.2 ≤ 1000000) (fun d _ v _ => v = .bl (backF d.2.1 d.2.2.1 d.2.2.2))
def BackRes (A : Ad) (n t : Int) (v : V) (H : Hp) : Prop := (∃ g, BarAt A H v g ∧ BarOk g n t) ∨ (∃ r, BackAt A H v r ∧ BackOk r n t)
def sp_back (A : Ad) : Sp := spX (fun (d : Int × Int) vs _ => vs = [.int d.1, .int d.2] ∧ -1000000 ≤ d.1 ∧ d.1 ≤ 1000000 ∧ 1 ≤ d.2 ∧ d.2 ≤ 1000000) (fun d _ v H' => BackRes A d.1 d.2 v H')
section
variable {P : Program} {w : World} {K : PySem.W.Frag} {mg : Str → Option Value} {base : Heap} {A : Ad}
theorem ok_Bar_init (T : Txt K mg A) : Okk P w K mg base 1 A.a_Bar_init ["self", "part"] (spI1 A.c_Bar "part") := by
  refine okk T.F_Bar_init sc_Bar_init (fun vs H Q E h => ?_) (fun cdv Ar outer s H vs Q E hr h => ?_)
  · obtain ⟨x, dx, us, rfl, _, ⟨y, rfl⟩, _⟩ := h
    rfl
  · obtain ⟨x, dx, us, rfl, hx, ⟨y, rfl⟩, k⟩ := h
    refine ⟨_, (pss_one (ps_fld (pv 0) (pv 1) rfl)), ?_⟩
    exact ⟨_, rfl, _, rfl, x, A.c_Bar, dx, _, rfl, hx, T.cl_Bar, T.n_Bar_part, (by decide), k _ _ (fun b o hb h => by rw [upd_ne hb]; exact h) upd_same ⟨y, rfl, rfl⟩⟩
theorem ok_Back_init (T : Txt K mg A) : Okk P w K mg base 1 A.a_Back_init ["self", "rest"] (spI1 A.c_Back "rest") := by
  refine okk T.F_Back_init sc_Back_init (fun vs H Q E h => ?_) (fun cdv Ar outer s H vs Q E hr h => ?_)
  · obtain ⟨x, dx, us, rfl, _, ⟨y, rfl⟩, _⟩ := h
    rfl
  · obtain ⟨x, dx, us, rfl, hx, ⟨y, rfl⟩, k⟩ := h
    refine ⟨_, (pss_one (ps_fld (pv 0) (pv 1) rfl)), ?_⟩
    exact ⟨_, rfl, _, rfl, x, A.c_Back, dx, _, rfl, hx, T.cl_Back, T.n_Back_rest, (by decide), k _ _ (fun b o hb h => by rw [upd_ne hb]; exact h) upd_same ⟨y, rfl, rfl⟩⟩
theorem ok_Bar_bars (T : Txt K mg A) : Okk P w K mg base 1 A.a_Bar_bars ["self", "number", "turn"] (sp_Bar_bars A) := by
  refine okk T.F_Bar_bars sc_Bar_bars (fun vs H Q E h => ?_) (fun cdv Ar outer s H vs Q E hr h => ?_)
  · obtain ⟨d, ⟨rfl, _⟩, _⟩ := h
    rfl
  · obtain ⟨⟨_, g, n, t⟩, ⟨rfl, a, dx, rfl, ho⟩, k⟩ := h
    refine ⟨_, (pss_one (ps_ret (pe_and (pe_cmpR op_gt (pe_fldK K (pv 0) rfl) pe_int (nomark _)) (pe_and (pe_cmpR op_eq (pe_op op_mod (pv 1) (pe_fldK K (pv 0) rfl)) pe_int (nomark _)) (pe_one (pe_cmpR op_eq (pe_op op_mod (pv 2) (pe_fldK K (pv 0) rfl)) pe_int (nomark _))))))), ?_⟩
    have hf := ev_fld (K := K) (σ := [some (.ref a), some (.int n), some (.int t)]) (H := H) (ev_var (i := 0) rfl) ho T.cl_Bar T.n_Bar_part lk1
    refine s_ret (v := .bl (barsF g n t)) (ev_andV (ev_op hf ev_c rv_I0) fun hb => ?_) fun H1 e1 => k _ _ e1 rfl
    have hg : 0 < g := by
      have := of_decide_eq_true hb
      omega
    exact ev_andV (ev_op (ev_op (ev_var rfl) hf (rv_I hg)) ev_c rv_eqI) fun _ => ev_op (ev_op (ev_var rfl) hf (rv_I hg)) ev_c rv_eqI
theorem ok_Back_shows (T : Txt K mg A) : Okk P w K mg base 1 A.a_Back_shows ["self", "number", "turn"] (sp_Back_shows A) := by
  refine okk T.F_Back_shows sc_Back_shows (fun vs H Q E h => ?_) (fun cdv Ar outer s H vs Q E hr h => ?_)
  · obtain ⟨d, ⟨rfl, _⟩, _⟩ := h
    rfl
  · obtain ⟨⟨_, r, n, t⟩, ⟨rfl, ⟨a, dx, rfl, ho⟩, ht, ht2⟩, k⟩ := h
    dsimp only at ht ht2
    refine ⟨_, (pss_one (ps_ret (pe_and (pe_chain op_le op_lt pe_int (pe_fldK K (pv 0) rfl) (pv 2)) (pe_one (pe_cmpR op_eq (pe_op op_mod (pe_op op_sub (pe_op op_mul (pe_fldK K (pv 0) rfl) (pv 1)) pe_int) (pv 2)) pe_int (nomark _)))))), ?_⟩
    have hf := ev_fld (K := K) (σ := [some (.ref a), some (.int n), some (.int t)]) (H := H) (ev_var (i := 0) rfl) ho T.cl_Back T.n_Back_rest lk1
    refine s_ret (v := .bl (backF r n t)) (ev_andV (ev_chain ev_c hf rv_I0 (fun _ => ev_var rfl) fun _ => rv_I0) fun hb => ?_) fun H1 e1 => k _ _ e1 rfl
    rw [Bool.and_eq_true, decide_eq_true_eq, decide_eq_true_eq] at hb
    exact ev_op (ev_op (ev_op (ev_op hf (ev_var rfl) (rv_I (.inl (by show -(2 ^ 64) < r ∧ r < 2 ^ 64; omega)))) ev_c rv_I0) (ev_var rfl) (rv_I ht)) ev_c rv_eqI
theorem ok_back (T : Txt K mg A) : Okk P w K mg base 4 A.a_back ["number", "turn"] (sp_back A) := by
  obtain ⟨_, G_Back_init, b_Back_init, k_Back_init⟩ := ok_Back_init (P := P) (w := w) (base := base) T
  obtain ⟨_, G_Bar_init, b_Bar_init, k_Bar_init⟩ := ok_Bar_init (P := P) (w := w) (base := base) T
  obtain ⟨_, G_check_turn, b_check_turn, k_check_turn⟩ := ok_check_turn (P := P) (w := w) (base := base) T
  obtain ⟨_, G_is_number, b_is_number, k_is_number⟩ := ok_is_number (P := P) (w := w) (base := base) T
  obtain ⟨_, G_shares_of, b_shares_of, k_shares_of⟩ := ok_shares_of (P := P) (w := w) (base := base) T
  refine okk T.F_back sc_back (fun vs H Q E h => ?_) (fun cdv Ar outer s H vs Q E hr h => ?_)
  · obtain ⟨d, ⟨rfl, _⟩, _⟩ := h
    rfl
  · obtain ⟨⟨n, t⟩, ⟨rfl, n0, n1, t0, t1⟩, k⟩ := h
    dsimp only at n0 n1 t0 t1
    have hr_Back_init : Room 2 _ := hr.mono (by decide)
    have hr_Bar_init : Room 2 _ := hr.mono (by decide)
    have hr_check_turn : Room 3 _ := hr.mono (by decide)
    have hr_is_number : Room 2 _ := hr.mono (by decide)
    have hr_shares_of : Room 1 _ := hr.mono (by decide)
    refine ⟨_, (pss_cons (ps_if (pt_not (pt_val (pe_call G_is_number hr_is_number (by rfl) T.g_is_number k_is_number b_is_number .nil pass0 (pa_cons (pv 0) pa_nil)))) (pss_one ps_never) pss_nil)
      (pss_cons (ps_expr (pe_call G_check_turn hr_check_turn (by rfl) T.g_check_turn k_check_turn b_check_turn .nil pass0 (pa_cons (pv 1) pa_nil)))
      (pss_cons (ps_asg (pe_call G_shares_of hr_shares_of (by rfl) T.g_shares_of k_shares_of b_shares_of .nil pass0 (pa_cons (pv 0) (pa_cons (pv 1) pa_nil))) (pg_tupK (n := 3) K rfl (pgs_cons (pg_name (i := 2) sc_back.nd rfl (Or.inl rfl)) (pgs_cons (pg_name (i := 3) sc_back.nd rfl (Or.inl rfl)) (pgs_cons (pg_name (i := 4) sc_back.nd rfl (Or.inl rfl)) pgs_nil)))))
      (pss_cons (ps_if (pt_cmpR op_gt (pv 2) pe_int (nomark _)) (pss_one (ps_ret (pe_make T.mk_Bar G_Bar_init hr_Bar_init (by rfl) T.g_Bar b_Bar_init .nil pass0 (pa_cons (pv 2) pa_nil)))) pss_nil)
      (pss_one (ps_ret (pe_make T.mk_Back G_Back_init hr_Back_init (by rfl) T.g_Back b_Back_init .nil pass0 (pa_cons (pe_op op_mod (pv 3) (pv 1)) pa_nil)))))))), ?_⟩
    have h1 : Ev (tCall (sp_is_number K) [] E0 (tCons (tVar 0) tNil)) [some (.int n), some (.int t), none, none, none] H (.bl true) := ev_call0 (.int n) (by walk_at "ev") (fun H1 e => ⟨rfl, plain_int⟩) fun _ v _ p => by
      rw [p]
      simp only [isNum, decide_eq_true n0, decide_eq_true n1, Bool.and_self]
    refine q_when (et_not (et_B h1)) (fun z => nomatch z) fun _ H1 e1 => ?_
    refine q_drop (v := .non) (ev_call0 t (ea_cons (ev_var rfl) ea_nil) (fun H2 e2 => ⟨rfl, t0, t1⟩) fun _ v _ p => p) fun H2 e2 => ?_
    refine q_asgG (er_call (n, t) (ea_cons (ev_var rfl) (ea_cons (ev_var rfl) ea_nil)) (fun H3 e3 => ⟨rfl, by show t.natAbs ≤ 1000000; omega⟩) fun _ v H3 _ _ p => p) fun v H3 e3 h3 => ?_
    obtain ⟨p, g, x, y, rfl, hp, sh⟩ := h3
    dsimp only at sh
    refine g_tup3 (st_of hp) ?_
    refine q_when (et_test (ev_op (ev_var rfl) ev_c rv_I0)) (fun hb H4 e4 => ?_) fun hb H4 e4 => ?_
    · refine s_retR (er_make1 (ev_var rfl)) fun v H5 e5 h5 => k _ _ ((e1.trans e2).trans ((e3.trans e4).trans e5)) (.inl ⟨g, ?_, ?_⟩)
      · obtain ⟨a, dx, rfl, _, h⟩ := h5
        exact ⟨a, dx, rfl, h⟩
      · have := of_decide_eq_true hb
        exact sh.bar (by omega)
    · refine s_retR (er_make1 (ev_op (ev_var rfl) (ev_var rfl) (rv_I t0))) fun v H5 e5 h5 => k _ _ ((e1.trans e2).trans ((e3.trans e4).trans e5)) (.inr ⟨x % t, ?_, ?_⟩)
      · obtain ⟨a, dx, rfl, _, h⟩ := h5
        exact ⟨a, dx, rfl, h⟩
      · have := of_decide_eq_false hb
        exact sh.back (by omega) t0
end
/-! ### the law's own words -/
def sp_l_whole (K : PySem.W.Frag) : Sp := spX (fun (d : V) vs H => vs = [d] ∧ PlainV K H d) (fun d _ v _ => v = .bl (isI d))
def BBAt (A : Ad) (H : Hp) (v : V) : Int ⊕ Int → Prop
  | .inl g => BarAt A H v g
  | .inr r => BackAt A H v r
theorem BBAt.up {A : Ad} {H H' : Hp} {v : V} (e : Ex H H') : ∀ {d : Int ⊕ Int}, BBAt A H v d → BBAt A H' v d
  | .inl _, h => BarAt.up e h
  | .inr _, h => BackAt.up e h
def bbF : Int ⊕ Int → Int → Int → Bool
  | .inl g, n, t => barsF g n t
  | .inr r, n, t => backF r n t
def bbC (A : Ad) : Int ⊕ Int → Addr
  | .inl _ => A.c_Bar
  | .inr _ => A.c_Back
def bbV : Int ⊕ Int → Int
  | .inl g => g
  | .inr r => r
def bbL : Int ⊕ Int → Bool
  | .inl _ => true
  | .inr _ => false
def bbOk : Int ⊕ Int → Int → Int → Prop
  | .inl g, n, t => BarOk g n t
  | .inr r, n, t => BackOk r n t
theorem bbOk.F : ∀ {d : Int ⊕ Int} {n t : Int}, bbOk d n t → bbF d n t = true
  | .inl _, _, _, h => BarOk.F h
  | .inr _, _, _, h => BackOk.F h
theorem bbOk.far : ∀ {d : Int ⊕ Int} {n t : Int}, bbOk d n t → ∀ c : Int, bbOk d (n + c * t) t
  | .inl _, _, _, h, c => BarOk.far h c
  | .inr _, _, _, h, c => BackOk.far h c
def sp_l_due (A : Ad) : Sp := spX (fun (d : V × Int × Int × (Int ⊕ Int)) vs H => vs = [.int d.2.1, .int d.2.2.1, d.1] ∧ 0 < d.2.2.1 ∧ d.2.2.1 ≤ 1000000 ∧ BBAt A H d.1 d.2.2.2)
  (fun d _ v _ => v = .bl (bbF d.2.2.2 d.2.1 d.2.2.1))
def sp_l_word (A : Ad) : Sp := spX (fun (d : V × Int × Int × (Int ⊕ Int)) vs H => vs = [.int d.2.1, .int d.2.2.1, d.1] ∧ 0 < d.2.2.1 ∧ d.2.2.1 ≤ 1000000 ∧ BBAt A H d.1 d.2.2.2)
  (fun d _ v _ => v = .bl (bbF d.2.2.2 d.2.1 d.2.2.1))
def sp_law (K : PySem.W.Frag) : Sp := fun vs H Q _ => ∃ v ns, vs = [v] ∧ Scr K H v ns ∧ ∀ H', Q (.bl true) H'
section
variable {P : Program} {w : World} {K : PySem.W.Frag} {mg : Str → Option Value} {base : Heap} {A : Ad}
theorem ok_l_whole (T : Txt K mg A) : Okk P w K mg base 1 A.a_l_whole ["_law_number"] (sp_l_whole K) := by
  refine okk T.F_l_whole sc_l_whole (fun vs H Q E h => ?_) (fun cdv Ar outer s H vs Q E hr h => ?_)
  · obtain ⟨d, ⟨rfl, _⟩, _⟩ := h
    rfl
  · obtain ⟨d, ⟨rfl, n, ht, hn⟩, k⟩ := h
    refine ⟨_, (pss_one (ps_ret (pe_and (pe_callB (isiK K) (by rfl) T.z_isinstance (by decide +kernel) (pa_cons (pv 0) (pa_cons (pe_bltn (v := .ty "int") (by rfl) T.z_int (by decide +kernel) rfl) pa_nil))) (pe_one (pe_not (pe_callB (isiK K) (by rfl) T.z_isinstance (by decide +kernel) (pa_cons (pv 0) (pa_cons (pe_bltn (v := .ty "bool") (by rfl) T.z_bool (by decide +kernel) rfl) pa_nil)))))))), ?_⟩
    refine s_ret (ev_andV (ev_isi (ev_var rfl) ev_c (.ty _) ht (kit_int hn)) (fun _ => ev_notV (ev_isi (ev_var rfl) ev_c (.ty _) ht (kit_bool hn)))) fun H1 e1 => k _ _ e1 ?_
    show V.bl _ = V.bl (isI d)
    rw [isI_ty ht]
    simp only [List.mem_cons, List.not_mem_nil, or_false] at hn
    rcases hn with h | h | h | h | h | h | h <;> subst h <;> decide +kernel
theorem ok_l_due (T : Txt K mg A) : Okk P w K mg base 1 A.a_l_due ["_law_number", "_law_turn", "_law_found"] (sp_l_due A) := by
  refine okk T.F_l_due sc_l_due (fun vs H Q E h => ?_) (fun cdv Ar outer s H vs Q E hr h => ?_)
  · obtain ⟨d, ⟨rfl, _⟩, _⟩ := h
    rfl
  · obtain ⟨⟨_, n, t, d⟩, ⟨rfl, ht, ht2, hd⟩, k⟩ := h
    dsimp only at ht ht2 hd
    refine ⟨_, (pss_cons (ps_if (pt_val (pe_callB (isiK K) (by rfl) T.z_isinstance (by decide +kernel) (pa_cons (pv 2) (pa_cons (pe_glob (v := .ref A.c_Bar) (by rfl) T.g_Bar rfl) pa_nil)))) (pss_one (ps_ret (pe_and (pe_cmpR op_gt (pe_fldK K (pv 2) rfl) pe_int (nomark _)) (pe_and (pe_cmpR op_eq (pe_op op_mod (pv 0) (pe_fldK K (pv 2) rfl)) pe_int (nomark _)) (pe_one (pe_cmpR op_eq (pe_op op_mod (pv 1) (pe_fldK K (pv 2) rfl)) pe_int (nomark _))))))) pss_nil)
      (pss_one (ps_ret (pe_and (pe_chain op_le op_lt pe_int (pe_fldK K (pv 2) rfl) (pv 1)) (pe_one (pe_cmpR op_eq (pe_op op_mod (pe_op op_mul (pe_fldK K (pv 2) rfl) (pv 0)) (pv 1)) (pe_op op_mod pe_int (pv 1)) (nomark _))))))), ?_⟩
    rcases d with g | r
    · obtain ⟨a, dx, rfl, ho⟩ := hd
      have hf := ev_fld (K := K) (σ := [some (.int n), some (.int t), some (.ref a)]) (H := H) (ev_var (i := 2) rfl) ho T.cl_Bar T.n_Bar_part lk1
      refine q_when (et_B (ev_isi (ev_var rfl) ev_c (.own _) (tyx_ins ho T.i_Bar T.isg) T.q_Bar_Bar)) (fun _ H1 e1 => ?_) fun z => nomatch z
      have hf := hf.mono e1
      refine s_ret (v := .bl (barsF g n t)) (ev_andV (ev_op hf ev_c rv_I0) fun hb => ?_) fun H2 e2 => k _ _ (e1.trans e2) rfl
      have hg : 0 < g := by
        have := of_decide_eq_true hb
        omega
      exact ev_andV (ev_op (ev_op (ev_var rfl) hf (rv_I hg)) ev_c rv_eqI) fun _ => ev_op (ev_op (ev_var rfl) hf (rv_I hg)) ev_c rv_eqI
    · obtain ⟨a, dx, rfl, ho⟩ := hd
      have hf := ev_fld (K := K) (σ := [some (.int n), some (.int t), some (.ref a)]) (H := H) (ev_var (i := 2) rfl) ho T.cl_Back T.n_Back_rest lk1
      refine q_when (et_B (ev_isi (ev_var rfl) ev_c (.own _) (tyx_ins ho T.i_Back T.isg) T.q_Back_Bar)) (fun z => nomatch z) fun _ H1 e1 => ?_
      have hf := hf.mono e1
      refine s_ret (v := .bl (backD r n t)) (ev_andV (ev_chain ev_c hf rv_I0 (fun _ => ev_var rfl) fun _ => rv_I0) fun hb => ?_) fun H2 e2 => k _ _ (e1.trans e2) (by rw [backD_eq] <;> rfl)
      rw [Bool.and_eq_true, decide_eq_true_eq, decide_eq_true_eq] at hb
      exact ev_op (ev_op (ev_op hf (ev_var rfl) (rv_I (.inl (by show -(2 ^ 64) < r ∧ r < 2 ^ 64; omega)))) (ev_var rfl) (rv_I ht)) (ev_op ev_c (ev_var rfl) (rv_I ht)) rv_eqI
theorem ok_l_word (T : Txt K mg A) : Okk P w K mg base 2 A.a_l_word ["_law_number", "_law_turn", "_law_found"] (sp_l_word A) := by
  obtain ⟨_, G_Back_shows, b_Back_shows, k_Back_shows⟩ := ok_Back_shows (P := P) (w := w) (base := base) T
  obtain ⟨_, G_Bar_bars, b_Bar_bars, k_Bar_bars⟩ := ok_Bar_bars (P := P) (w := w) (base := base) T
  refine okk T.F_l_word sc_l_word (fun vs H Q E h => ?_) (fun cdv Ar outer s H vs Q E hr h => ?_)
  · obtain ⟨d, ⟨rfl, _⟩, _⟩ := h
    rfl
  · obtain ⟨⟨_, n, t, d⟩, ⟨rfl, ht, ht2, hd⟩, k⟩ := h
    dsimp only at ht ht2 hd
    have hr_Back_shows : Room 1 _ := hr.mono (by decide)
    have hr_Bar_bars : Room 1 _ := hr.mono (by decide)
    refine ⟨_, (pss_one (ps_ret (pe_ifExp (pt_val (pe_callB (isiK K) (by rfl) T.z_isinstance (by decide +kernel) (pa_cons (pv 2) (pa_cons (pe_glob (v := .ref A.c_Bar) (by rfl) T.g_Bar rfl) pa_nil)))) (pe_meth (pv 2) T.cl_Bar T.m_Bar_bars G_Bar_bars hr_Bar_bars b_Bar_bars .nil pass0 (pa_cons (pv 0) (pa_cons (pv 1) pa_nil))) (pe_meth (pv 2) T.cl_Back T.m_Back_shows G_Back_shows hr_Back_shows b_Back_shows .nil pass0 (pa_cons (pv 0) (pa_cons (pv 1) pa_nil)))))), ?_⟩
    rcases d with g | r
    · obtain ⟨a, dx, rfl, ho⟩ := hd
      refine s_ret (ev_if (et_B (ev_isi (ev_var rfl) ev_c (.own _) (tyx_ins ho T.i_Bar T.isg) T.q_Bar_Bar)) (fun _ => ?_) (fun z => nomatch z)) fun H1 e1 => k _ _ e1 rfl
      exact ev_meth (V.ref a, g, n, t) (ev_var rfl) ho lk0 (ea_cons (ev_var rfl) (ea_cons (ev_var rfl) ea_nil)) (fun H1 e => ⟨rfl, a, dx, rfl, e _ _ ho⟩) fun _ _ _ p => p
    · obtain ⟨a, dx, rfl, ho⟩ := hd
      refine s_ret (ev_if (et_B (ev_isi (ev_var rfl) ev_c (.own _) (tyx_ins ho T.i_Back T.isg) T.q_Back_Bar)) (fun z => nomatch z) (fun _ => ?_)) fun H1 e1 => k _ _ e1 rfl
      exact ev_meth (V.ref a, r, n, t) (ev_var rfl) ho lk0 (ea_cons (ev_var rfl) (ea_cons (ev_var rfl) ea_nil)) (fun H1 e => ⟨rfl, ⟨a, dx, rfl, e _ _ ho⟩, ht, ht2⟩) fun _ _ _ p => p

theorem bb_ty (T : Txt K mg A) {H : Hp} {v : V} : ∀ {d : Int ⊕ Int}, BBAt A H v d → TyX K H v (.ref (bbC A d))
  | .inl _, ⟨_, _, e, h⟩ => by subst e; exact tyx_ins h T.i_Bar T.isg
  | .inr _, ⟨_, _, e, h⟩ => by subst e; exact tyx_ins h T.i_Back T.isg
theorem ok_law (T : Txt K mg A) {fd : FuncData} (F : Fun K "law" "law" s_law A.a_law fd) : FnOk P w K mg base CX0 5 A.a_law fd ["_law_script"] (sp_law K) := by
  obtain ⟨_, G_l_draw, b_l_draw, k_l_draw⟩ := ok_l_draw (P := P) (w := w) (base := base) T
  obtain ⟨_, G_l_due, b_l_due, k_l_due⟩ := ok_l_due (P := P) (w := w) (base := base) T
  obtain ⟨_, G_l_turns, b_l_turns, k_l_turns⟩ := ok_l_turns (P := P) (w := w) (base := base) T
  obtain ⟨_, G_l_whole, b_l_whole, k_l_whole⟩ := ok_l_whole (P := P) (w := w) (base := base) T
  obtain ⟨_, G_l_word, b_l_word, k_l_word⟩ := ok_l_word (P := P) (w := w) (base := base) T
  obtain ⟨_, G_back, b_back, k_back⟩ := ok_back (P := P) (w := w) (base := base) T
  refine F.ok sc_law (fun vs H Q E h => ?_) (fun cdv Ar outer s H vs Q E hr h => ?_)
  · obtain ⟨_, _, rfl, _⟩ := h
    rfl
  · obtain ⟨_, ns, rfl, ⟨a, rfl, hS, hl⟩, k⟩ := h
    have hr_l_draw : Room 1 _ := hr.mono (by decide)
    have hr_l_due : Room 1 _ := hr.mono (by decide)
    have hr_l_turns : Room 2 _ := hr.mono (by decide)
    have hr_l_whole : Room 1 _ := hr.mono (by decide)
    have hr_l_word : Room 2 _ := hr.mono (by decide)
    have hr_back : Room 4 _ := hr.mono (by decide)
    refine ⟨_, (pss_cons (ps_set (i := 1) sc_law.nd rfl (.inl rfl) (pe_call G_l_turns hr_l_turns (by rfl) T.g_l_turns k_l_turns b_l_turns .nil pass0 (pa_cons (pv 0) pa_nil)))
      (pss_cons (ps_for PassesOwn.never rfl (pi_range1 (by rfl) T.z_range (pa_cons (pe_callB (len_seqK K) (by rfl) T.z_len (by decide +kernel) (pa_cons (pv 0) pa_nil)) pa_nil)) (pg_name (i := 2) sc_law.nd rfl (Or.inl rfl)) (pss_cons (ps_set (i := 3) sc_law.nd rfl (.inl rfl) (pe_call G_l_draw hr_l_draw (by rfl) T.g_l_draw k_l_draw b_l_draw .nil pass0 (pa_cons (pe_ix (ix_listK K) (pv 0) (pv 2) (fun _ _ => rfl)) (pa_cons (pe_op op_add (pe_op op_mod (pv 2) pe_int) pe_int) (pa_cons pe_int pa_nil)))))
      (pss_cons (ps_if (pt_cmpR op_eq (pe_op op_mod (pv 2) pe_int) pe_int (nomark _)) (pss_one (ps_set (i := 3) sc_law.nd rfl (.inl rfl) (pe_op op_sub (pe_op op_mod (pv 3) (pe_ix (ix_listK K) (pv 1) (pv 2) (fun _ _ => rfl))) (pe_op op_fdiv (pe_ix (ix_listK K) (pv 1) (pv 2) (fun _ _ => rfl)) pe_int)))) pss_nil)
      (pss_one (ps_for PassesOwn.never rfl (pi_tupK K (pe_tup (pa_cons (pv 3) (pa_cons (pe_un un_neg (pv 3)) (pa_cons (pv 3) pa_nil))))) (pg_name (i := 4) sc_law.nd rfl (Or.inl rfl)) (pss_cons (ps_set (i := 5) sc_law.nd rfl (.inl rfl) (pe_call G_back hr_back (by rfl) T.g_back k_back b_back .nil pass0 (pa_cons (pv 4) (pa_cons (pe_ix (ix_listK K) (pv 1) (pv 2) (fun _ _ => rfl)) pa_nil))))
      (pss_cons (ps_if (PW.pt (pw_or (pt_not (pt_val (pe_callB (isiK K) (by rfl) T.z_isinstance (by decide +kernel) (pa_cons (pv 5) (pa_cons (pe_glob (v := .ref A.c_Answer) (by rfl) T.g_Answer rfl) pa_nil))))) (pw_or1 (pt_cmpR op_eq (pe_callB (isiK K) (by rfl) T.z_isinstance (by decide +kernel) (pa_cons (pv 5) (pa_cons (pe_glob (v := .ref A.c_Back) (by rfl) T.g_Back rfl) pa_nil))) (pe_callB (isiK K) (by rfl) T.z_isinstance (by decide +kernel) (pa_cons (pv 5) (pa_cons (pe_glob (v := .ref A.c_Bar) (by rfl) T.g_Bar rfl) pa_nil))) (nomark _))))) (pss_one (ps_ret pe_bl)) pss_nil)
      (pss_cons (ps_if (PW.pt (pw_or (pt_val (pe_callB (isiK K) (by rfl) T.z_isinstance (by decide +kernel) (pa_cons (pv 5) (pa_cons (pe_glob (v := .ref A.c_Number) (by rfl) T.g_Number rfl) pa_nil)))) (pw_or (pt_val (pe_callB (isiK K) (by rfl) T.z_isinstance (by decide +kernel) (pa_cons (pv 5) (pa_cons (pe_glob (v := .ref A.c_Clash) (by rfl) T.g_Clash rfl) pa_nil)))) (pw_or1 (pt_val (pe_callB (isiK K) (by rfl) T.z_isinstance (by decide +kernel) (pa_cons (pv 5) (pa_cons (pe_glob (v := .ref A.c_Common) (by rfl) T.g_Common rfl) pa_nil)))))))) (pss_one (ps_ret pe_bl)) pss_nil)
      (pss_cons (ps_if (PW.pt (pw_or (pt_val (pe_callB (isiK K) (by rfl) T.z_isinstance (by decide +kernel) (pa_cons (pv 5) (pa_cons (pe_glob (v := .ref A.c_Times) (by rfl) T.g_Times rfl) pa_nil)))) (pw_or1 (pt_not (pt_val (pe_call G_l_whole hr_l_whole (by rfl) T.g_l_whole k_l_whole b_l_whole .nil pass0 (pa_cons (pe_ifExp (pt_val (pe_callB (isiK K) (by rfl) T.z_isinstance (by decide +kernel) (pa_cons (pv 5) (pa_cons (pe_glob (v := .ref A.c_Bar) (by rfl) T.g_Bar rfl) pa_nil)))) (pe_fldK K (pv 5) rfl) (pe_fldK K (pv 5) rfl)) pa_nil))))))) (pss_one (ps_ret pe_bl)) pss_nil)
      (pss_cons (ps_if (PW.pt (pw_or (pt_not (pt_val (pe_call G_l_due hr_l_due (by rfl) T.g_l_due k_l_due b_l_due .nil pass0 (pa_cons (pv 4) (pa_cons (pe_ix (ix_listK K) (pv 1) (pv 2) (fun _ _ => rfl)) (pa_cons (pv 5) pa_nil)))))) (pw_or1 (pt_cmpR op_notBl (pe_call G_l_word hr_l_word (by rfl) T.g_l_word k_l_word b_l_word .nil pass0 (pa_cons (pv 4) (pa_cons (pe_ix (ix_listK K) (pv 1) (pv 2) (fun _ _ => rfl)) (pa_cons (pv 5) pa_nil)))) pe_bl (nomark _))))) (pss_one (ps_ret pe_bl)) pss_nil)
      (pss_cons (ps_if (pt_cmpR op_ne (pe_call G_l_word hr_l_word (by rfl) T.g_l_word k_l_word b_l_word .nil pass0 (pa_cons (pe_op op_add (pv 4) pe_int) (pa_cons (pe_ix (ix_listK K) (pv 1) (pv 2) (fun _ _ => rfl)) (pa_cons (pv 5) pa_nil)))) (pe_call G_l_due hr_l_due (by rfl) T.g_l_due k_l_due b_l_due .nil pass0 (pa_cons (pe_op op_add (pv 4) pe_int) (pa_cons (pe_ix (ix_listK K) (pv 1) (pv 2) (fun _ _ => rfl)) (pa_cons (pv 5) pa_nil)))) (nomark _)) (pss_one (ps_ret pe_bl)) pss_nil)
      (pss_one (ps_if (pt_cmpR op_notBl (pe_call G_l_word hr_l_word (by rfl) T.g_l_word k_l_word b_l_word .nil pass0 (pa_cons (pe_op op_add (pv 4) (pe_op op_mul (pe_op op_pow pe_int pe_int) (pe_ix (ix_listK K) (pv 1) (pv 2) (fun _ _ => rfl)))) (pa_cons (pe_ix (ix_listK K) (pv 1) (pv 2) (fun _ _ => rfl)) (pa_cons (pv 5) pa_nil)))) pe_bl (nomark _)) (pss_one (ps_ret pe_bl)) pss_nil)))))))))))))
      (pss_one (ps_ret (pe_and (pe_callB (isiK K) (by rfl) T.z_isinstance (by decide +kernel) (pa_cons (pe_call G_back hr_back (by rfl) T.g_back k_back b_back .nil pass0 (pa_cons pe_int (pa_cons pe_int pa_nil))) (pa_cons (pe_glob (v := .ref A.c_Back) (by rfl) T.g_Back rfl) pa_nil))) (pe_and (pe_callB (isiK K) (by rfl) T.z_isinstance (by decide +kernel) (pa_cons (pe_call G_back hr_back (by rfl) T.g_back k_back b_back .nil pass0 (pa_cons pe_int (pa_cons pe_int pa_nil))) (pa_cons (pe_glob (v := .ref A.c_Bar) (by rfl) T.g_Bar rfl) pa_nil))) (pe_one (pe_cmpR op_eq (pe_fldK K (pe_call G_back hr_back (by rfl) T.g_back k_back b_back .nil pass0 (pa_cons (pe_un un_neg pe_int) (pa_cons pe_int pa_nil))) rfl) pe_int (nomark _))))))))), ?_⟩
    have e0 : ((ns.map V.int).length : Int) = (ns.length : Int) := by rw [List.length_map]
    refine q_asgR (er_call (R := fun v H2 => ∃ (p : Addr) (ts : List Int), v = .ref p ∧ H2 p = some (.lst (ts.map V.int)) ∧ ts.length = ns.length ∧ ∀ t ∈ ts, 1 ≤ t ∧ t ≤ 1000000) (V.ref a, ns) (ea_cons (ev_var rfl) ea_nil) (fun H1 e => ⟨rfl, a, rfl, ex_l e hS, hl⟩)
      fun H1 v H2 _ _ p => by
        obtain ⟨p, ts, rfl, _, h⟩ := p
        exact ⟨p, ts, rfl, h⟩) fun v1 H1 e1 h1 => ?_
    obtain ⟨p, ts, rfl, hp, hlen, hts⟩ := h1
    have hS1 := ex_l e1 hS
    refine q_forR1 (n := (ns.length : Int)) (ea_cons (by rw [← e0]; exact ev_lenL (ev_var rfl) hS1) ea_nil) (by omega) (fun i σ' H' => ∃ s2 s3 s4 s5 : Option V, σ' = [some (.ref a), some (.ref p), s2, s3, s4, s5] ∧ Ex H1 H')
      (fun H3 e3 => ⟨_, _, _, _, rfl, e3⟩) (fun i σ' H' hi hP => ?_) (fun σ' H' hP => ?_)
    · obtain ⟨s2, s3, s4, s5, rfl, e2⟩ := hP
      have hi' : i < ns.length := by omega
      have hS2 := ex_l e2 hS1
      have hp2 : SqL K H' p (ts.map V.int) := sq_of (e2 _ _ hp)
      have ht := hts _ (getD_mem (l := ts) (i := i) (by omega))
      generalize hteq : ts.getD i 0 = t at ht
      have hat : atI (ts.map V.int) (i : Int) = some (.int t) := by rw [← hteq]; exact atI_ints (by omega)
      refine q_asgR (er_draw (c := ns.getD i 0) (k := (i : Int) % 3 + 8) (m := 1000001) (ev_op (ev_var rfl) (ev_var rfl) (rv_ixL hS2 (atI_ints hi'))) (ev_op (ev_op (ev_var rfl) ev_c (rv_I (by decide))) ev_c rv_I0) ev_c (by omega) (by decide)) fun v3 H3 e3 h3 => ?_
      obtain ⟨n0, rfl, n00, n01⟩ := h3
      have hn : ∃ n : Int, (-1000000 ≤ n ∧ n ≤ 1000000) ∧ (decide ((i : Int) % 3 = 0) = true → n = n0 % t - t / 2) ∧ (decide ((i : Int) % 3 = 0) = false → n = n0) := by
        by_cases hm : (i : Int) % 3 = 0
        · have g0 : 0 ≤ n0 % t := Int.emod_nonneg _ (by omega)
          have g1 : n0 % t < t := Int.emod_lt_of_pos _ (by omega)
          exact ⟨n0 % t - t / 2, by omega, fun _ => rfl, fun z => by simp [hm] at z⟩
        · exact ⟨n0, by omega, fun z => by simp [hm] at z, fun _ => rfl⟩
      obtain ⟨n, ⟨hn0, hn1⟩, hnt, hnf⟩ := hn
      refine q_ifAsg (v := .int n) (et_test (ev_op (ev_op (ev_var rfl) ev_c (rv_I (by decide))) ev_c rv_eqI)) (fun hb => ?_) (fun hb => ?_) fun H4 e4 => ?_
      · rw [hnt hb]
        have hp3 := ex_l e3 hp2
        exact ev_op (ev_op (ev_var rfl) (ev_op (ev_var rfl) (ev_var rfl) (rv_ixL hp3 hat)) (rv_I (by omega))) (ev_op (ev_op (ev_var rfl) (ev_var rfl) (rv_ixL hp3 hat)) ev_c (rv_I ⟨by decide, by decide⟩)) rv_I0
      · rw [hnf hb]
        rfl
      refine s_forTR (xs := [.int n, .int (-n), .int n]) (ert_tup (by walk_at "ev") (by walk_at "sz")) (fun q i2 σ' H' => ∃ s4 s5 : Option V, σ' = [some (.ref a), some (.ref p), some (.int (i : Int)), some (.int n), s4, s5] ∧ Ex H4 H' ∧ SqT K H' q [.int n, .int (-n), .int n])
        (fun q H5 e5 hq => ⟨_, _, rfl, e5, hq⟩) (fun q i2 σ' H5 _ ⟨_, _, _, _, hq⟩ => hq) (fun q i2 x σ' H5 hx hP => ?_) (fun q σ' H5 hP => ?_)
      · obtain ⟨s4, s5, rfl, e5, hq⟩ := hP
        obtain ⟨m, rfl, hm0, hm1⟩ : ∃ m : Int, x = .int m ∧ -1000000 ≤ m ∧ m ≤ 1000000 := by
          rcases i2 with _ | _ | _ | i2
          · exact ⟨n, (Option.some.inj hx).symm, hn0, hn1⟩
          · exact ⟨-n, (Option.some.inj hx).symm, by omega, by omega⟩
          · exact ⟨n, (Option.some.inj hx).symm, hn0, hn1⟩
          · simp at hx
        have hp5 : SqL K H5 p (ts.map V.int) := ex_l ((e3.trans e4).trans e5) hp2
        refine q_asgR (er_call (R := fun v H2 => ∃ d, BBAt A H2 v d ∧ bbOk d m t) (m, t) (ea_cons (ev_var rfl) (ea_cons (ev_op (ev_var rfl) (ev_var rfl) (rv_ixL hp5 hat)) ea_nil)) (fun H6 _ => ⟨rfl, hm0, hm1, ht.1, ht.2⟩) fun H6 v H7 _ _ h => ?_) fun v H6 e6 h6 => ?_
        · rcases h with ⟨g, h, ok⟩ | ⟨r, h, ok⟩
          · exact ⟨.inl g, h, ok⟩
          · exact ⟨.inr r, h, ok⟩
        obtain ⟨d, hd, ok⟩ := h6
        have hty := bb_ty T hd
        have kA : PySem.W.kitOne K (.ref (bbC A d)) (.ref A.c_Answer) = some true := by cases d; exact T.q_Bar_Answer; exact T.q_Back_Answer
        have kB : PySem.W.kitOne K (.ref (bbC A d)) (.ref A.c_Bar) = some (bbL d) := by cases d; exact T.q_Bar_Bar; exact T.q_Back_Bar
        have kK : PySem.W.kitOne K (.ref (bbC A d)) (.ref A.c_Back) = some (!bbL d) := by cases d; exact T.q_Bar_Back; exact T.q_Back_Back
        have kN : PySem.W.kitOne K (.ref (bbC A d)) (.ref A.c_Number) = some false := by cases d; exact T.q_Bar_Number; exact T.q_Back_Number
        have kC : PySem.W.kitOne K (.ref (bbC A d)) (.ref A.c_Clash) = some false := by cases d; exact T.q_Bar_Clash; exact T.q_Back_Clash
        have kO : PySem.W.kitOne K (.ref (bbC A d)) (.ref A.c_Common) = some false := by cases d; exact T.q_Bar_Common; exact T.q_Back_Common
        have kT : PySem.W.kitOne K (.ref (bbC A d)) (.ref A.c_Times) = some false := by cases d; exact T.q_Bar_Times; exact T.q_Back_Times
        have isi : ∀ H' C b, Ex H6 H' → PySem.W.kitOne K (.ref (bbC A d)) (.ref C) = some b → Ev (tCB (rIsi K) (tCons (tVar 5) (tCons (tC (.ref C)) tNil))) [some (.ref a), some (.ref p), some (.int (i : Int)), some (.int n), some (.int m), some v] H' (.bl b) :=
          fun H' C b e h => ev_isi (ev_var rfl) ev_c (.own _) (tyx_up e hty) h
        refine q_when (b := false) ?_ (fun z => nomatch z) fun _ H7 e7 => ?_
        · refine et_is (et_or (et_not (et_B (isi _ _ _ (Ex.refl _) kA))) fun _ => et_test (ev_op (isi _ _ _ (Ex.refl _) kK) (isi _ _ _ (Ex.refl _) kB) rv_eqB)) ?_
          cases d <;> rfl
        refine q_when (b := false) ?_ (fun z => nomatch z) fun _ H8 e8 => ?_
        · exact et_is (et_or (et_B (isi _ _ _ e7 kN)) fun _ => et_or (et_B (isi _ _ _ e7 kC)) fun _ => et_B (isi _ _ _ e7 kO)) rfl
        have e78 := e7.trans e8
        refine q_when (b := false) ?_ (fun z => nomatch z) fun _ H9 e9 => ?_
        · refine et_is (et_or (et_B (isi _ _ _ e78 kT)) fun _ => et_not (et_B (ev_call0 (V.int (bbV d)) (z := .bl true) (ea_cons (ev_if (et_B (isi _ _ _ e78 kB)) (fun hb => ?_) fun hb => ?_) ea_nil) (fun H1 e => ⟨rfl, plain_int⟩) fun _ _ _ p => p))) rfl
          · cases d with
            | inl g =>
              obtain ⟨o, dx, rfl, ho⟩ := hd
              exact ev_fld (ev_var rfl) (e78 _ _ ho) T.cl_Bar T.n_Bar_part lk1
            | inr r => exact nomatch hb
          · cases d with
            | inr g =>
              obtain ⟨o, dx, rfl, ho⟩ := hd
              exact ev_fld (ev_var rfl) (e78 _ _ ho) T.cl_Back T.n_Back_rest lk1
            | inl r => exact nomatch hb
        have due : ∀ H' te m, Ex H6 H' → Ev te [some (.ref a), some (.ref p), some (.int (i : Int)), some (.int n), some (.int m), some v] H' (.int m) → True := fun _ _ _ _ _ => trivial
        clear due
        have e79 := e78.trans e9
        have hp9 := ex_l (e6.trans e79) hp5
        have tur : ∀ H', Ex H9 H' → Ev (tOp (rIxL K) (tVar 1) (tVar 2)) [some (.ref a), some (.ref p), some (.int (i : Int)), some (.int n), some (.int m), some v] H' (.int t) := fun H' e => ev_op (ev_var rfl) (ev_var rfl) (rv_ixL (ex_l e hp9) hat)
        have due : ∀ H' te z, Ex H9 H' → Ev te [some (.ref a), some (.ref p), some (.int (i : Int)), some (.int n), some (.int m), some v] H' (.int z) → Ev (tCall (sp_l_due A) [] E0 (tCons te (tCons (tOp (rIxL K) (tVar 1) (tVar 2)) (tCons (tVar 5) tNil)))) [some (.ref a), some (.ref p), some (.int (i : Int)), some (.int n), some (.int m), some v] H' (.bl (bbF d z t)) :=
          fun H' te z e h => ev_call0 (v, z, t, d) (ea_cons h (ea_cons (tur H' e) (ea_cons (ev_var rfl) ea_nil))) (fun H1 e1 => ⟨rfl, by show 0 < t; omega, ht.2, hd.up (e79.trans (e.trans e1))⟩) fun _ _ _ p => p
        have word : ∀ H' te z, Ex H9 H' → Ev te [some (.ref a), some (.ref p), some (.int (i : Int)), some (.int n), some (.int m), some v] H' (.int z) → Ev (tCall (sp_l_word A) [] E0 (tCons te (tCons (tOp (rIxL K) (tVar 1) (tVar 2)) (tCons (tVar 5) tNil)))) [some (.ref a), some (.ref p), some (.int (i : Int)), some (.int n), some (.int m), some v] H' (.bl (bbF d z t)) :=
          fun H' te z e h => ev_call0 (v, z, t, d) (ea_cons h (ea_cons (tur H' e) (ea_cons (ev_var rfl) ea_nil))) (fun H1 e1 => ⟨rfl, by show 0 < t; omega, ht.2, hd.up (e79.trans (e.trans e1))⟩) fun _ _ _ p => p
        refine q_when (b := false) ?_ (fun z => nomatch z) fun _ H10 e10 => ?_
        · refine et_is (et_or (et_not (et_B (due _ _ m (Ex.refl _) (ev_var rfl)))) fun _ => et_test (ev_op (word _ _ m (Ex.refl _) (ev_var rfl)) ev_c rv_notB)) ?_
          rw [ok.F]
          rfl
        refine q_when (b := false) ?_ (fun z => nomatch z) fun _ H11 e11 => ?_
        · refine et_is (et_test (ev_op (word _ _ (m + 1) e10 (ev_op (ev_var rfl) ev_c rv_I0)) (due _ _ (m + 1) e10 (ev_op (ev_var rfl) ev_c rv_I0)) rv_neB)) ?_
          simp
        refine s_when (b := false) ?_ (fun z => nomatch z) fun _ H12 e12 => ?_
        · refine et_is (et_test (ev_op (word _ _ (m + 10 ^ (12 : Int).toNat * t) (e10.trans e11) (ev_op (ev_var rfl) (ev_op (ev_op ev_c ev_c (rv_pow ⟨by decide, by decide, by decide⟩)) (tur _ (e10.trans e11)) (rv_I (.inl (by decide)))) rv_I0)) ev_c rv_notB)) ?_
          rw [(ok.far _).F]
          rfl
        have e69 := e6.trans (e79.trans (e10.trans (e11.trans e12)))
        exact ⟨_, _, rfl, e5.trans e69, ex_t e69 hq⟩
      · obtain ⟨s4, s5, rfl, e5, hq⟩ := hP
        exact ⟨_, _, _, _, rfl, (e2.trans e3).trans (e4.trans e5)⟩
    · obtain ⟨s2, s3, s4, s5, rfl, e2⟩ := hP
      have bk : ∀ H' (ta tb : TE) (n t : Int), Ex H1 H' → Ev ta [some (.ref a), some (.ref p), s2, s3, s4, s5] H' (.int n) → Ev tb [some (.ref a), some (.ref p), s2, s3, s4, s5] H' (.int t) → -1000000 ≤ n → n ≤ 1000000 → 1 ≤ t → t ≤ 1000000 →
          EvR (tCall (sp_back A) [] E0 (tCons ta (tCons tb tNil))) [some (.ref a), some (.ref p), s2, s3, s4, s5] H' (fun v H2 => BackRes A n t v H2) := fun H' ta tb n t e h1 h2 a1 a2 a3 a4 =>
        er_call (n, t) (ea_cons h1 (ea_cons h2 ea_nil)) (fun H6 _ => ⟨rfl, a1, a2, a3, a4⟩) fun H6 v H7 _ _ h => h
      refine s_ret (v := .bl true) (ev_andV (a := true) (b := true) (ev_isiR (bk H' _ _ 0 1 e2 ev_c ev_c (by decide) (by decide) (by decide) (by decide)) (fun v H2 _ h => ?_) ev_c (.own _) T.q_Back_Back)
        fun _ => ev_andV (a := true) (b := true) (ev_isiR (bk H' _ _ 0 5 e2 ev_c ev_c (by decide) (by decide) (by decide) (by decide)) (fun v H2 _ h => ?_) ev_c (.own _) T.q_Bar_Bar)
        fun _ => ev_is (ev_op (ev_fldR (v := .int 6) (bk H' _ _ (-1) 7 e2 (ev_un ev_c ru_neg) ev_c (by decide) (by decide) (by decide) (by decide)) (fun v H2 _ h => ?_) T.cl_Back T.n_Back_rest) ev_c rv_eqI) rfl) fun H3 e3 => k _
      · rcases h with ⟨g, h, ok⟩ | ⟨r, ⟨o, dx, rfl, ho⟩, ok⟩
        · have := Int.le_of_dvd (by decide) ok.2.2
          have := ok.1
          omega
        · exact tyx_ins ho T.i_Back T.isg
      · rcases h with ⟨g, ⟨o, dx, rfl, ho⟩, ok⟩ | ⟨r, h, ok⟩
        · exact tyx_ins ho T.i_Bar T.isg
        · have := ok.2.2
          rw [Int.mul_zero] at this
          exact absurd this (by decide)
      · rcases h with ⟨g, h, ok⟩ | ⟨r, ⟨o, dx, rfl, ho⟩, ok⟩
        · have h1 : g ∣ 1 := Int.dvd_neg.mp ok.2.1
          have := Int.le_of_dvd (by decide) h1
          have := ok.1
          omega
        · have h6 : r = 6 := by
            obtain ⟨h0, h1, h2⟩ := ok
            omega
          subst h6
          exact ⟨o, dx, _, rfl, ho, lk1⟩
end
theorem all_mk {l : PySem.W.OpenLaw} {w : World} {K : PySem.W.Frag} {h : Heap} {mg : Str → Option Value} {fa : Addr} {x_is_whole x_is_number x_is_turn x_check_turn x_shares_of x_Bar_init x_Bar_bars x_Back_init x_Back_shows x_back x_l_cell_at x_l_draw x_l_turns x_l_whole x_l_due x_l_word x_law y_RestError y_BadNumbers y_BadRound y_Answer y_Number y_Clash y_Common y_Times y_Bar y_Back : Addr} (X : K.In h) (G : h.Ns mainGlobals mg) (hfa : mg "law" = some (.ref fa))
    {od0 an0 : Option Addr} {sl0 : Array (Option Value)} {oc0 kV0 dc0 pm0 cd0 ct0 : Value}
    {od1 an1 : Option Addr} {sl1 : Array (Option Value)} {oc1 kV1 dc1 pm1 cd1 ct1 : Value}
    {od2 an2 : Option Addr} {sl2 : Array (Option Value)} {oc2 kV2 dc2 pm2 cd2 ct2 : Value}
    {od3 an3 : Option Addr} {sl3 : Array (Option Value)} {oc3 kV3 dc3 pm3 cd3 ct3 : Value}
    {od4 an4 : Option Addr} {sl4 : Array (Option Value)} {oc4 kV4 dc4 pm4 cd4 ct4 : Value}
    {od5 an5 : Option Addr} {sl5 : Array (Option Value)} {oc5 kV5 dc5 pm5 cd5 ct5 : Value}
    {od6 an6 : Option Addr} {sl6 : Array (Option Value)} {oc6 kV6 dc6 pm6 cd6 ct6 : Value}
    {od7 an7 : Option Addr} {sl7 : Array (Option Value)} {oc7 kV7 dc7 pm7 cd7 ct7 : Value}
    {od8 an8 : Option Addr} {sl8 : Array (Option Value)} {oc8 kV8 dc8 pm8 cd8 ct8 : Value}
    {od9 an9 : Option Addr} {sl9 : Array (Option Value)} {oc9 kV9 dc9 pm9 cd9 ct9 : Value}
    {od10 an10 : Option Addr} {sl10 : Array (Option Value)} {oc10 kV10 dc10 pm10 cd10 ct10 : Value}
    {od11 an11 : Option Addr} {sl11 : Array (Option Value)} {oc11 kV11 dc11 pm11 cd11 ct11 : Value}
    {od12 an12 : Option Addr} {sl12 : Array (Option Value)} {oc12 kV12 dc12 pm12 cd12 ct12 : Value}
    {od13 an13 : Option Addr} {sl13 : Array (Option Value)} {oc13 kV13 dc13 pm13 cd13 ct13 : Value}
    {od14 an14 : Option Addr} {sl14 : Array (Option Value)} {oc14 kV14 dc14 pm14 cd14 ct14 : Value}
    {od15 an15 : Option Addr} {sl15 : Array (Option Value)} {oc15 kV15 dc15 pm15 cd15 ct15 : Value}
    {od16 an16 : Option Addr} {sl16 : Array (Option Value)} {oc16 kV16 dc16 pm16 cd16 ct16 : Value}
    {tk_GREATEST : Tok}
    (yRestError : PySem.W.nsIn K mainGlobals "RestError" = some (some (.ref y_RestError)))
    (yBadNumbers : PySem.W.nsIn K mainGlobals "BadNumbers" = some (some (.ref y_BadNumbers)))
    (yBadRound : PySem.W.nsIn K mainGlobals "BadRound" = some (some (.ref y_BadRound)))
    (yAnswer : PySem.W.nsIn K mainGlobals "Answer" = some (some (.ref y_Answer)))
    (yNumber : PySem.W.nsIn K mainGlobals "Number" = some (some (.ref y_Number)))
    (yClash : PySem.W.nsIn K mainGlobals "Clash" = some (some (.ref y_Clash)))
    (yCommon : PySem.W.nsIn K mainGlobals "Common" = some (some (.ref y_Common)))
    (yTimes : PySem.W.nsIn K mainGlobals "Times" = some (some (.ref y_Times)))
    (yBar : PySem.W.nsIn K mainGlobals "Bar" = some (some (.ref y_Bar)))
    (yBack : PySem.W.nsIn K mainGlobals "Back" = some (some (.ref y_Back)))
    (a0 : PySem.W.nsIn K mainGlobals "is_whole" = some (some (.ref x_is_whole)))
    (l0 : K.lookup x_is_whole = some ⟨oc0, od0, .func (PySem.W.fnOf "is_whole" "is_whole" (defArgs s_is_whole) (defBody s_is_whole) (defScope s_is_whole) .none kV0 dc0 pm0 an0 cd0 ct0), sl0⟩)
    (c0 : PySem.W.codeIn K cd0 "is_whole" = true)
    (k0 : PySem.W.keepIn K (.ref x_is_whole) = true)
    (a1 : PySem.W.nsIn K mainGlobals "is_number" = some (some (.ref x_is_number)))
    (l1 : K.lookup x_is_number = some ⟨oc1, od1, .func (PySem.W.fnOf "is_number" "is_number" (defArgs s_is_number) (defBody s_is_number) (defScope s_is_number) .none kV1 dc1 pm1 an1 cd1 ct1), sl1⟩)
    (c1 : PySem.W.codeIn K cd1 "is_number" = true)
    (k1 : PySem.W.keepIn K (.ref x_is_number) = true)
    (a2 : PySem.W.nsIn K mainGlobals "is_turn" = some (some (.ref x_is_turn)))
    (l2 : K.lookup x_is_turn = some ⟨oc2, od2, .func (PySem.W.fnOf "is_turn" "is_turn" (defArgs s_is_turn) (defBody s_is_turn) (defScope s_is_turn) .none kV2 dc2 pm2 an2 cd2 ct2), sl2⟩)
    (c2 : PySem.W.codeIn K cd2 "is_turn" = true)
    (k2 : PySem.W.keepIn K (.ref x_is_turn) = true)
    (a3 : PySem.W.nsIn K mainGlobals "check_turn" = some (some (.ref x_check_turn)))
    (l3 : K.lookup x_check_turn = some ⟨oc3, od3, .func (PySem.W.fnOf "check_turn" "check_turn" (defArgs s_check_turn) (defBody s_check_turn) (defScope s_check_turn) .none kV3 dc3 pm3 an3 cd3 ct3), sl3⟩)
    (c3 : PySem.W.codeIn K cd3 "check_turn" = true)
    (k3 : PySem.W.keepIn K (.ref x_check_turn) = true)
    (a4 : PySem.W.nsIn K mainGlobals "shares_of" = some (some (.ref x_shares_of)))
    (l4 : K.lookup x_shares_of = some ⟨oc4, od4, .func (PySem.W.fnOf "shares_of" "shares_of" (defArgs s_shares_of) (defBody s_shares_of) (defScope s_shares_of) .none kV4 dc4 pm4 an4 cd4 ct4), sl4⟩)
    (c4 : PySem.W.codeIn K cd4 "shares_of" = true)
    (k4 : PySem.W.keepIn K (.ref x_shares_of) = true)
    (a5 : PySem.W.findIn K (.ref y_Bar) "__init__" = some (some (.ref x_Bar_init)))
    (i5 : PySem.W.isFn K (.ref x_Bar_init) = true)
    (l5 : K.lookup x_Bar_init = some ⟨oc5, od5, .func (PySem.W.fnOf "__init__" "Bar.__init__" (defArgs s_Bar_init) (defBody s_Bar_init) (defScope s_Bar_init) .none kV5 dc5 pm5 an5 cd5 ct5), sl5⟩)
    (c5 : PySem.W.codeIn K cd5 "Bar.__init__" = true)
    (k5 : PySem.W.keepIn K (.ref x_Bar_init) = true)
    (a6 : PySem.W.findIn K (.ref y_Bar) "bars" = some (some (.ref x_Bar_bars)))
    (i6 : PySem.W.isFn K (.ref x_Bar_bars) = true)
    (l6 : K.lookup x_Bar_bars = some ⟨oc6, od6, .func (PySem.W.fnOf "bars" "Bar.bars" (defArgs s_Bar_bars) (defBody s_Bar_bars) (defScope s_Bar_bars) .none kV6 dc6 pm6 an6 cd6 ct6), sl6⟩)
    (c6 : PySem.W.codeIn K cd6 "Bar.bars" = true)
    (k6 : PySem.W.keepIn K (.ref x_Bar_bars) = true)
    (a7 : PySem.W.findIn K (.ref y_Back) "__init__" = some (some (.ref x_Back_init)))
    (i7 : PySem.W.isFn K (.ref x_Back_init) = true)
    (l7 : K.lookup x_Back_init = some ⟨oc7, od7, .func (PySem.W.fnOf "__init__" "Back.__init__" (defArgs s_Back_init) (defBody s_Back_init) (defScope s_Back_init) .none kV7 dc7 pm7 an7 cd7 ct7), sl7⟩)
    (c7 : PySem.W.codeIn K cd7 "Back.__init__" = true)
    (k7 : PySem.W.keepIn K (.ref x_Back_init) = true)
    (a8 : PySem.W.findIn K (.ref y_Back) "shows" = some (some (.ref x_Back_shows)))
    (i8 : PySem.W.isFn K (.ref x_Back_shows) = true)
    (l8 : K.lookup x_Back_shows = some ⟨oc8, od8, .func (PySem.W.fnOf "shows" "Back.shows" (defArgs s_Back_shows) (defBody s_Back_shows) (defScope s_Back_shows) .none kV8 dc8 pm8 an8 cd8 ct8), sl8⟩)
    (c8 : PySem.W.codeIn K cd8 "Back.shows" = true)
    (k8 : PySem.W.keepIn K (.ref x_Back_shows) = true)
    (a9 : PySem.W.nsIn K mainGlobals "back" = some (some (.ref x_back)))
    (l9 : K.lookup x_back = some ⟨oc9, od9, .func (PySem.W.fnOf "back" "back" (defArgs s_back) (defBody s_back) (defScope s_back) .none kV9 dc9 pm9 an9 cd9 ct9), sl9⟩)
    (c9 : PySem.W.codeIn K cd9 "back" = true)
    (k9 : PySem.W.keepIn K (.ref x_back) = true)
    (a10 : PySem.W.nsIn K mainGlobals "_law_cell_at" = some (some (.ref x_l_cell_at)))
    (l10 : K.lookup x_l_cell_at = some ⟨oc10, od10, .func (PySem.W.fnOf "_law_cell_at" "_law_cell_at" (defArgs s_l_cell_at) (defBody s_l_cell_at) (defScope s_l_cell_at) .none kV10 dc10 pm10 an10 cd10 ct10), sl10⟩)
    (c10 : PySem.W.codeIn K cd10 "_law_cell_at" = true)
    (k10 : PySem.W.keepIn K (.ref x_l_cell_at) = true)
    (a11 : PySem.W.nsIn K mainGlobals "_law_draw" = some (some (.ref x_l_draw)))
    (l11 : K.lookup x_l_draw = some ⟨oc11, od11, .func (PySem.W.fnOf "_law_draw" "_law_draw" (defArgs s_l_draw) (defBody s_l_draw) (defScope s_l_draw) .none kV11 dc11 pm11 an11 cd11 ct11), sl11⟩)
    (c11 : PySem.W.codeIn K cd11 "_law_draw" = true)
    (k11 : PySem.W.keepIn K (.ref x_l_draw) = true)
    (a12 : PySem.W.nsIn K mainGlobals "_law_turns" = some (some (.ref x_l_turns)))
    (l12 : K.lookup x_l_turns = some ⟨oc12, od12, .func (PySem.W.fnOf "_law_turns" "_law_turns" (defArgs s_l_turns) (defBody s_l_turns) (defScope s_l_turns) .none kV12 dc12 pm12 an12 cd12 ct12), sl12⟩)
    (c12 : PySem.W.codeIn K cd12 "_law_turns" = true)
    (k12 : PySem.W.keepIn K (.ref x_l_turns) = true)
    (a13 : PySem.W.nsIn K mainGlobals "_law_whole" = some (some (.ref x_l_whole)))
    (l13 : K.lookup x_l_whole = some ⟨oc13, od13, .func (PySem.W.fnOf "_law_whole" "_law_whole" (defArgs s_l_whole) (defBody s_l_whole) (defScope s_l_whole) .none kV13 dc13 pm13 an13 cd13 ct13), sl13⟩)
    (c13 : PySem.W.codeIn K cd13 "_law_whole" = true)
    (k13 : PySem.W.keepIn K (.ref x_l_whole) = true)
    (a14 : PySem.W.nsIn K mainGlobals "_law_due" = some (some (.ref x_l_due)))
    (l14 : K.lookup x_l_due = some ⟨oc14, od14, .func (PySem.W.fnOf "_law_due" "_law_due" (defArgs s_l_due) (defBody s_l_due) (defScope s_l_due) .none kV14 dc14 pm14 an14 cd14 ct14), sl14⟩)
    (c14 : PySem.W.codeIn K cd14 "_law_due" = true)
    (k14 : PySem.W.keepIn K (.ref x_l_due) = true)
    (a15 : PySem.W.nsIn K mainGlobals "_law_word" = some (some (.ref x_l_word)))
    (l15 : K.lookup x_l_word = some ⟨oc15, od15, .func (PySem.W.fnOf "_law_word" "_law_word" (defArgs s_l_word) (defBody s_l_word) (defScope s_l_word) .none kV15 dc15 pm15 an15 cd15 ct15), sl15⟩)
    (c15 : PySem.W.codeIn K cd15 "_law_word" = true)
    (k15 : PySem.W.keepIn K (.ref x_l_word) = true)
    (a16 : PySem.W.nsIn K mainGlobals "law" = some (some (.ref x_law)))
    (l16 : K.lookup x_law = some ⟨oc16, od16, .func (PySem.W.fnOf "law" "law" (defArgs s_law) (defBody s_law) (defScope s_law) .none kV16 dc16 pm16 an16 cd16 ct16), sl16⟩)
    (c16 : PySem.W.codeIn K cd16 "law" = true)
    (k16 : PySem.W.keepIn K (.ref x_law) = true)
    (z_isinstance : PySem.W.nsIn K mainGlobals "isinstance" = some none)
    (z_int : PySem.W.nsIn K mainGlobals "int" = some none)
    (z_bool : PySem.W.nsIn K mainGlobals "bool" = some none)
    (z_tuple : PySem.W.nsIn K mainGlobals "tuple" = some none)
    (z_range : PySem.W.nsIn K mainGlobals "range" = some none)
    (z_len : PySem.W.nsIn K mainGlobals "len" = some none)
    (v_GREATEST : PySem.W.nsIn K mainGlobals "GREATEST" = some (some (.int 1000000 tk_GREATEST)))
    (pg_Answer : PySem.W.plainGet K y_Answer Str.empty = true)
    (hd_Answer : PySem.W.hasDictIn K y_Answer = true)
    (po_Answer : PySem.W.plainOver K y_Answer = true)
    (sa_Answer : PySem.W.findIn K (.ref y_Answer) "__setattr__" = some (some (.builtin "object.__setattr__")))
    (ha_Answer : PySem.W.findIn K (.ref y_Answer) "__class__" = some (some (.builtin "object.__class__")))
    (hm_Answer : PySem.W.mroIn K y_Answer (.type "object") = some true)
    (pg_Number : PySem.W.plainGet K y_Number Str.empty = true)
    (hd_Number : PySem.W.hasDictIn K y_Number = true)
    (po_Number : PySem.W.plainOver K y_Number = true)
    (sa_Number : PySem.W.findIn K (.ref y_Number) "__setattr__" = some (some (.builtin "object.__setattr__")))
    (n_Number_number : PySem.W.findIn K (.ref y_Number) "number" = some none)
    (n_Number_turn : PySem.W.findIn K (.ref y_Number) "turn" = some none)
    (ha_Number : PySem.W.findIn K (.ref y_Number) "__class__" = some (some (.builtin "object.__class__")))
    (hm_Number : PySem.W.mroIn K y_Number (.type "object") = some true)
    (pg_Clash : PySem.W.plainGet K y_Clash Str.empty = true)
    (hd_Clash : PySem.W.hasDictIn K y_Clash = true)
    (po_Clash : PySem.W.plainOver K y_Clash = true)
    (sa_Clash : PySem.W.findIn K (.ref y_Clash) "__setattr__" = some (some (.builtin "object.__setattr__")))
    (n_Clash_one : PySem.W.findIn K (.ref y_Clash) "one" = some none)
    (n_Clash_other : PySem.W.findIn K (.ref y_Clash) "other" = some none)
    (ha_Clash : PySem.W.findIn K (.ref y_Clash) "__class__" = some (some (.builtin "object.__class__")))
    (hm_Clash : PySem.W.mroIn K y_Clash (.type "object") = some true)
    (pg_Common : PySem.W.plainGet K y_Common Str.empty = true)
    (hd_Common : PySem.W.hasDictIn K y_Common = true)
    (po_Common : PySem.W.plainOver K y_Common = true)
    (sa_Common : PySem.W.findIn K (.ref y_Common) "__setattr__" = some (some (.builtin "object.__setattr__")))
    (n_Common_part : PySem.W.findIn K (.ref y_Common) "part" = some none)
    (n_Common_times : PySem.W.findIn K (.ref y_Common) "times" = some none)
    (ha_Common : PySem.W.findIn K (.ref y_Common) "__class__" = some (some (.builtin "object.__class__")))
    (hm_Common : PySem.W.mroIn K y_Common (.type "object") = some true)
    (pg_Times : PySem.W.plainGet K y_Times Str.empty = true)
    (hd_Times : PySem.W.hasDictIn K y_Times = true)
    (po_Times : PySem.W.plainOver K y_Times = true)
    (sa_Times : PySem.W.findIn K (.ref y_Times) "__setattr__" = some (some (.builtin "object.__setattr__")))
    (n_Times_times : PySem.W.findIn K (.ref y_Times) "times" = some none)
    (ha_Times : PySem.W.findIn K (.ref y_Times) "__class__" = some (some (.builtin "object.__class__")))
    (hm_Times : PySem.W.mroIn K y_Times (.type "object") = some true)
    (pg_Bar : PySem.W.plainGet K y_Bar Str.empty = true)
    (hd_Bar : PySem.W.hasDictIn K y_Bar = true)
    (po_Bar : PySem.W.plainOver K y_Bar = true)
    (sa_Bar : PySem.W.findIn K (.ref y_Bar) "__setattr__" = some (some (.builtin "object.__setattr__")))
    (mi_Bar : PySem.W.makesIn K y_Bar = true)
    (kc_Bar : PySem.W.keepIn K (.ref y_Bar) = true)
    (n_Bar_part : PySem.W.findIn K (.ref y_Bar) "part" = some none)
    (ha_Bar : PySem.W.findIn K (.ref y_Bar) "__class__" = some (some (.builtin "object.__class__")))
    (hm_Bar : PySem.W.mroIn K y_Bar (.type "object") = some true)
    (pg_Back : PySem.W.plainGet K y_Back Str.empty = true)
    (hd_Back : PySem.W.hasDictIn K y_Back = true)
    (po_Back : PySem.W.plainOver K y_Back = true)
    (sa_Back : PySem.W.findIn K (.ref y_Back) "__setattr__" = some (some (.builtin "object.__setattr__")))
    (mi_Back : PySem.W.makesIn K y_Back = true)
    (kc_Back : PySem.W.keepIn K (.ref y_Back) = true)
    (n_Back_rest : PySem.W.findIn K (.ref y_Back) "rest" = some none)
    (ha_Back : PySem.W.findIn K (.ref y_Back) "__class__" = some (some (.builtin "object.__class__")))
    (hm_Back : PySem.W.mroIn K y_Back (.type "object") = some true)
    (hn : PySem.W.specialIn K (.builtin "object.__class__") "__get__" = some (some (.builtin "getset_descriptor.__get__")))
    (htk : PySem.W.takesIn K (.builtin "object.__class__") = some true)
    (q_Bar_Answer : PySem.W.kitOne K (.ref y_Bar) (.ref y_Answer) = some true)
    (q_Bar_Number : PySem.W.kitOne K (.ref y_Bar) (.ref y_Number) = some false)
    (q_Bar_Clash : PySem.W.kitOne K (.ref y_Bar) (.ref y_Clash) = some false)
    (q_Bar_Common : PySem.W.kitOne K (.ref y_Bar) (.ref y_Common) = some false)
    (q_Bar_Times : PySem.W.kitOne K (.ref y_Bar) (.ref y_Times) = some false)
    (q_Bar_Bar : PySem.W.kitOne K (.ref y_Bar) (.ref y_Bar) = some true)
    (q_Bar_Back : PySem.W.kitOne K (.ref y_Bar) (.ref y_Back) = some false)
    (q_Back_Answer : PySem.W.kitOne K (.ref y_Back) (.ref y_Answer) = some true)
    (q_Back_Number : PySem.W.kitOne K (.ref y_Back) (.ref y_Number) = some false)
    (q_Back_Clash : PySem.W.kitOne K (.ref y_Back) (.ref y_Clash) = some false)
    (q_Back_Common : PySem.W.kitOne K (.ref y_Back) (.ref y_Common) = some false)
    (q_Back_Times : PySem.W.kitOne K (.ref y_Back) (.ref y_Times) = some false)
    (q_Back_Bar : PySem.W.kitOne K (.ref y_Back) (.ref y_Bar) = some false)
    (q_Back_Back : PySem.W.kitOne K (.ref y_Back) (.ref y_Back) = some true) :
    ∃ fd : FuncData, (∀ (s : Shared) (v : Value), BindsTo s fd ⟨[v], []⟩ [("_law_script", v)]) ∧ ∀ base : Heap, K.In base → base.Ns mainGlobals mg → FnOk l.prog w K mg base CX0 5 fa fd ["_law_script"] (sp_law K) := by
  have e := hfa.symm.trans (PySem.W.mg_of X G a16)
  cases e
  have T : Txt K mg ⟨x_is_whole, x_is_number, x_is_turn, x_check_turn, x_shares_of, x_Bar_init, x_Bar_bars, x_Back_init, x_Back_shows, x_back, x_l_cell_at, x_l_draw, x_l_turns, x_l_whole, x_l_due, x_l_word, fa, y_RestError, y_BadNumbers, y_BadRound, y_Answer, y_Number, y_Clash, y_Common, y_Times, y_Bar, y_Back⟩ := {
    g_RestError := PySem.W.mg_of X G yRestError,
    g_BadNumbers := PySem.W.mg_of X G yBadNumbers,
    g_BadRound := PySem.W.mg_of X G yBadRound,
    g_Answer := PySem.W.mg_of X G yAnswer,
    g_Number := PySem.W.mg_of X G yNumber,
    g_Clash := PySem.W.mg_of X G yClash,
    g_Common := PySem.W.mg_of X G yCommon,
    g_Times := PySem.W.mg_of X G yTimes,
    g_Bar := PySem.W.mg_of X G yBar,
    g_Back := PySem.W.mg_of X G yBack,
    F_is_whole := ⟨_, fun_mk (st := s_is_whole) l0 c0 k0, (fun_mk (st := s_is_whole) l0 c0 k0).binds fun _ _ _ _ _ _ us hl => match us, hl with | [_], _ => rfl⟩,
    g_is_whole := PySem.W.mg_of X G a0,
    F_is_number := ⟨_, fun_mk (st := s_is_number) l1 c1 k1, (fun_mk (st := s_is_number) l1 c1 k1).binds fun _ _ _ _ _ _ us hl => match us, hl with | [_], _ => rfl⟩,
    g_is_number := PySem.W.mg_of X G a1,
    F_is_turn := ⟨_, fun_mk (st := s_is_turn) l2 c2 k2, (fun_mk (st := s_is_turn) l2 c2 k2).binds fun _ _ _ _ _ _ us hl => match us, hl with | [_], _ => rfl⟩,
    g_is_turn := PySem.W.mg_of X G a2,
    F_check_turn := ⟨_, fun_mk (st := s_check_turn) l3 c3 k3, (fun_mk (st := s_check_turn) l3 c3 k3).binds fun _ _ _ _ _ _ us hl => match us, hl with | [_], _ => rfl⟩,
    g_check_turn := PySem.W.mg_of X G a3,
    F_shares_of := ⟨_, fun_mk (st := s_shares_of) l4 c4 k4, (fun_mk (st := s_shares_of) l4 c4 k4).binds fun _ _ _ _ _ _ us hl => match us, hl with | [_, _], _ => rfl⟩,
    g_shares_of := PySem.W.mg_of X G a4,
    F_Bar_init := ⟨_, fun_mk (st := s_Bar_init) l5 c5 k5, (fun_mk (st := s_Bar_init) l5 c5 k5).binds fun _ _ _ _ _ _ us hl => match us, hl with | [_, _], _ => rfl⟩,
    F_Bar_bars := ⟨_, fun_mk (st := s_Bar_bars) l6 c6 k6, (fun_mk (st := s_Bar_bars) l6 c6 k6).binds fun _ _ _ _ _ _ us hl => match us, hl with | [_, _, _], _ => rfl⟩,
    F_Back_init := ⟨_, fun_mk (st := s_Back_init) l7 c7 k7, (fun_mk (st := s_Back_init) l7 c7 k7).binds fun _ _ _ _ _ _ us hl => match us, hl with | [_, _], _ => rfl⟩,
    F_Back_shows := ⟨_, fun_mk (st := s_Back_shows) l8 c8 k8, (fun_mk (st := s_Back_shows) l8 c8 k8).binds fun _ _ _ _ _ _ us hl => match us, hl with | [_, _, _], _ => rfl⟩,
    F_back := ⟨_, fun_mk (st := s_back) l9 c9 k9, (fun_mk (st := s_back) l9 c9 k9).binds fun _ _ _ _ _ _ us hl => match us, hl with | [_, _], _ => rfl⟩,
    g_back := PySem.W.mg_of X G a9,
    F_l_cell_at := ⟨_, fun_mk (st := s_l_cell_at) l10 c10 k10, (fun_mk (st := s_l_cell_at) l10 c10 k10).binds fun _ _ _ _ _ _ us hl => match us, hl with | [_, _], _ => rfl⟩,
    g_l_cell_at := PySem.W.mg_of X G a10,
    F_l_draw := ⟨_, fun_mk (st := s_l_draw) l11 c11 k11, (fun_mk (st := s_l_draw) l11 c11 k11).binds fun _ _ _ _ _ _ us hl => match us, hl with | [_, _, _], _ => rfl⟩,
    g_l_draw := PySem.W.mg_of X G a11,
    F_l_turns := ⟨_, fun_mk (st := s_l_turns) l12 c12 k12, (fun_mk (st := s_l_turns) l12 c12 k12).binds fun _ _ _ _ _ _ us hl => match us, hl with | [_], _ => rfl⟩,
    g_l_turns := PySem.W.mg_of X G a12,
    F_l_whole := ⟨_, fun_mk (st := s_l_whole) l13 c13 k13, (fun_mk (st := s_l_whole) l13 c13 k13).binds fun _ _ _ _ _ _ us hl => match us, hl with | [_], _ => rfl⟩,
    g_l_whole := PySem.W.mg_of X G a13,
    F_l_due := ⟨_, fun_mk (st := s_l_due) l14 c14 k14, (fun_mk (st := s_l_due) l14 c14 k14).binds fun _ _ _ _ _ _ us hl => match us, hl with | [_, _, _], _ => rfl⟩,
    g_l_due := PySem.W.mg_of X G a14,
    F_l_word := ⟨_, fun_mk (st := s_l_word) l15 c15 k15, (fun_mk (st := s_l_word) l15 c15 k15).binds fun _ _ _ _ _ _ us hl => match us, hl with | [_, _, _], _ => rfl⟩,
    g_l_word := PySem.W.mg_of X G a15,
    F_law := ⟨_, fun_mk (st := s_law) l16 c16 k16, (fun_mk (st := s_law) l16 c16 k16).binds fun _ _ _ _ _ _ us hl => match us, hl with | [_], _ => rfl⟩,
    g_law := PySem.W.mg_of X G a16,
    z_isinstance := PySem.W.mg_none_of X G z_isinstance,
    z_int := PySem.W.mg_none_of X G z_int,
    z_bool := PySem.W.mg_none_of X G z_bool,
    z_tuple := PySem.W.mg_none_of X G z_tuple,
    z_range := PySem.W.mg_none_of X G z_range,
    z_len := PySem.W.mg_none_of X G z_len,
    k_GREATEST := ⟨_, PySem.W.mg_of X G v_GREATEST⟩,
    cl_Answer := ⟨pg_Answer, hd_Answer, po_Answer, sa_Answer⟩,
    i_Answer := ⟨⟨pg_Answer, hd_Answer, po_Answer, sa_Answer⟩, ha_Answer, hm_Answer⟩,
    cl_Number := ⟨pg_Number, hd_Number, po_Number, sa_Number⟩,
    n_Number_number := n_Number_number,
    n_Number_turn := n_Number_turn,
    i_Number := ⟨⟨pg_Number, hd_Number, po_Number, sa_Number⟩, ha_Number, hm_Number⟩,
    cl_Clash := ⟨pg_Clash, hd_Clash, po_Clash, sa_Clash⟩,
    n_Clash_one := n_Clash_one,
    n_Clash_other := n_Clash_other,
    i_Clash := ⟨⟨pg_Clash, hd_Clash, po_Clash, sa_Clash⟩, ha_Clash, hm_Clash⟩,
    cl_Common := ⟨pg_Common, hd_Common, po_Common, sa_Common⟩,
    n_Common_part := n_Common_part,
    n_Common_times := n_Common_times,
    i_Common := ⟨⟨pg_Common, hd_Common, po_Common, sa_Common⟩, ha_Common, hm_Common⟩,
    cl_Times := ⟨pg_Times, hd_Times, po_Times, sa_Times⟩,
    n_Times_times := n_Times_times,
    i_Times := ⟨⟨pg_Times, hd_Times, po_Times, sa_Times⟩, ha_Times, hm_Times⟩,
    cl_Bar := ⟨pg_Bar, hd_Bar, po_Bar, sa_Bar⟩,
    mk_Bar := ⟨mi_Bar, a5, i5, kc_Bar⟩,
    m_Bar_bars := ⟨a6, i6, k6⟩,
    n_Bar_part := n_Bar_part,
    i_Bar := ⟨⟨pg_Bar, hd_Bar, po_Bar, sa_Bar⟩, ha_Bar, hm_Bar⟩,
    cl_Back := ⟨pg_Back, hd_Back, po_Back, sa_Back⟩,
    mk_Back := ⟨mi_Back, a7, i7, kc_Back⟩,
    m_Back_shows := ⟨a8, i8, k8⟩,
    n_Back_rest := n_Back_rest,
    i_Back := ⟨⟨pg_Back, hd_Back, po_Back, sa_Back⟩, ha_Back, hm_Back⟩,
    isg := ⟨hn, htk⟩,
    q_Bar_Answer := q_Bar_Answer,
    q_Bar_Number := q_Bar_Number,
    q_Bar_Clash := q_Bar_Clash,
    q_Bar_Common := q_Bar_Common,
    q_Bar_Times := q_Bar_Times,
    q_Bar_Bar := q_Bar_Bar,
    q_Bar_Back := q_Bar_Back,
    q_Back_Answer := q_Back_Answer,
    q_Back_Number := q_Back_Number,
    q_Back_Clash := q_Back_Clash,
    q_Back_Common := q_Back_Common,
    q_Back_Times := q_Back_Times,
    q_Back_Bar := q_Back_Bar,
    q_Back_Back := q_Back_Back }
  refine ⟨PySem.W.fnOf "law" "law" (defArgs s_law) (defBody s_law) (defScope s_law) .none kV16 dc16 pm16 an16 cd16 ct16, fun s v => .of_eq rfl, fun base _ _ => ?_⟩
  exact ok_law T (fun_mk (st := s_law) l16 c16 k16)
end Wl
open PySem PySem.W PyProof.Rows in
set_option maxHeartbeats 0 in
theorem PySem.Challenge.cw_wheelrow_k04_whole_back_holds : PySem.Challenge.rw_wheelrow_k04_whole_back.Holds := by
  w_on; o_law; k_head; (case hw => w_witness2)
  k_fill
  refine L2.walk_of (l := PySem.Challenge.rw_wheelrow_k04_whole_back) (n := 63) (k := 5) (x := "_law_script") (CX := fun _ => L2.CX0) (sp := fun w => Wl.sp_law _) rfl (by decide) rfl ⟨rfl, by decide, by decide⟩ (fun w h Y => PySem.W.kIn_of Y) ?F (fun _ _ a ns hl _ hS => ⟨_, ns, rfl, ⟨a, rfl, hS, hl⟩, fun _ => rfl⟩) (fun _ _ _ _ _ h => h)
  case F =>
    intro w mg fa h KX G hmg
    refine' Wl.all_mk KX G hmg ?yRestError ?yBadNumbers ?yBadRound ?yAnswer ?yNumber ?yClash ?yCommon ?yTimes ?yBar ?yBack ?a0 ?l0 ?c0 ?k0 ?a1 ?l1 ?c1 ?k1 ?a2 ?l2 ?c2 ?k2 ?a3 ?l3 ?c3 ?k3 ?a4 ?l4 ?c4 ?k4 ?a5 ?i5 ?l5 ?c5 ?k5 ?a6 ?i6 ?l6 ?c6 ?k6 ?a7 ?i7 ?l7 ?c7 ?k7 ?a8 ?i8 ?l8 ?c8 ?k8 ?a9 ?l9 ?c9 ?k9 ?a10 ?l10 ?c10 ?k10 ?a11 ?l11 ?c11 ?k11 ?a12 ?l12 ?c12 ?k12 ?a13 ?l13 ?c13 ?k13 ?a14 ?l14 ?c14 ?k14 ?a15 ?l15 ?c15 ?k15 ?a16 ?l16 ?c16 ?k16 ?z_isinstance ?z_int ?z_bool ?z_tuple ?z_range ?z_len ?v_GREATEST ?pg_Answer ?hd_Answer ?po_Answer ?sa_Answer ?ha_Answer ?hm_Answer ?pg_Number ?hd_Number ?po_Number ?sa_Number ?n_Number_number ?n_Number_turn ?ha_Number ?hm_Number ?pg_Clash ?hd_Clash ?po_Clash ?sa_Clash ?n_Clash_one ?n_Clash_other ?ha_Clash ?hm_Clash ?pg_Common ?hd_Common ?po_Common ?sa_Common ?n_Common_part ?n_Common_times ?ha_Common ?hm_Common ?pg_Times ?hd_Times ?po_Times ?sa_Times ?n_Times_times ?ha_Times ?hm_Times ?pg_Bar ?hd_Bar ?po_Bar ?sa_Bar ?mi_Bar ?kc_Bar ?n_Bar_part ?ha_Bar ?hm_Bar ?pg_Back ?hd_Back ?po_Back ?sa_Back ?mi_Back ?kc_Back ?n_Back_rest ?ha_Back ?hm_Back ?hn ?htk ?q_Bar_Answer ?q_Bar_Number ?q_Bar_Clash ?q_Bar_Common ?q_Bar_Times ?q_Bar_Bar ?q_Bar_Back ?q_Back_Answer ?q_Back_Number ?q_Back_Clash ?q_Back_Common ?q_Back_Times ?q_Back_Bar ?q_Back_Back
    (case yRestError => k_is)
    (case yBadNumbers => k_is)
    (case yBadRound => k_is)
    (case yAnswer => k_is)
    (case yNumber => k_is)
    (case yClash => k_is)
    (case yCommon => k_is)
    (case yTimes => k_is)
    (case yBar => k_is)
    (case yBack => k_is)
    (case a0 => k_is)
    (case l0 => k_is)
    (case c0 => k_is)
    (case k0 => k_is)
    (case a1 => k_is)
    (case l1 => k_is)
    (case c1 => k_is)
    (case k1 => k_is)
    (case a2 => k_is)
    (case l2 => k_is)
    (case c2 => k_is)
    (case k2 => k_is)
    (case a3 => k_is)
    (case l3 => k_is)
    (case c3 => k_is)
    (case k3 => k_is)
    (case a4 => k_is)
    (case l4 => k_is)
    (case c4 => k_is)
    (case k4 => k_is)
    (case a5 => k_is)
    (case i5 => k_is)
    (case l5 => k_is)
    (case c5 => k_is)
    (case k5 => k_is)
    (case a6 => k_is)
    (case i6 => k_is)
    (case l6 => k_is)
    (case c6 => k_is)
    (case k6 => k_is)
    (case a7 => k_is)
    (case i7 => k_is)
    (case l7 => k_is)
    (case c7 => k_is)
    (case k7 => k_is)
    (case a8 => k_is)
    (case i8 => k_is)
    (case l8 => k_is)
    (case c8 => k_is)
    (case k8 => k_is)
    (case a9 => k_is)
    (case l9 => k_is)
    (case c9 => k_is)
    (case k9 => k_is)
    (case a10 => k_is)
    (case l10 => k_is)
    (case c10 => k_is)
    (case k10 => k_is)
    (case a11 => k_is)
    (case l11 => k_is)
    (case c11 => k_is)
    (case k11 => k_is)
    (case a12 => k_is)
    (case l12 => k_is)
    (case c12 => k_is)
    (case k12 => k_is)
    (case a13 => k_is)
    (case l13 => k_is)
    (case c13 => k_is)
    (case k13 => k_is)
    (case a14 => k_is)
    (case l14 => k_is)
    (case c14 => k_is)
    (case k14 => k_is)
    (case a15 => k_is)
    (case l15 => k_is)
    (case c15 => k_is)
    (case k15 => k_is)
    (case a16 => k_is)
    (case l16 => k_is)
    (case c16 => k_is)
    (case k16 => k_is)
    (case z_isinstance => k_is)
    (case z_int => k_is)
    (case z_bool => k_is)
    (case z_tuple => k_is)
    (case z_range => k_is)
    (case z_len => k_is)
    (case v_GREATEST => k_is)
    (case pg_Answer => k_is)
    (case hd_Answer => first | k_is | rfl)
    (case po_Answer => k_is)
    (case sa_Answer => k_is)
    (case ha_Answer => first | k_is | rfl)
    (case hm_Answer => first | k_is | rfl)
    (case pg_Number => k_is)
    (case hd_Number => first | k_is | rfl)
    (case po_Number => k_is)
    (case sa_Number => k_is)
    (case n_Number_number => k_is)
    (case n_Number_turn => k_is)
    (case ha_Number => first | k_is | rfl)
    (case hm_Number => first | k_is | rfl)
    (case pg_Clash => k_is)
    (case hd_Clash => first | k_is | rfl)
    (case po_Clash => k_is)
    (case sa_Clash => k_is)
    (case n_Clash_one => k_is)
    (case n_Clash_other => k_is)
    (case ha_Clash => first | k_is | rfl)
    (case hm_Clash => first | k_is | rfl)
    (case pg_Common => k_is)
    (case hd_Common => first | k_is | rfl)
    (case po_Common => k_is)
    (case sa_Common => k_is)
    (case n_Common_part => k_is)
    (case n_Common_times => k_is)
    (case ha_Common => first | k_is | rfl)
    (case hm_Common => first | k_is | rfl)
    (case pg_Times => k_is)
    (case hd_Times => first | k_is | rfl)
    (case po_Times => k_is)
    (case sa_Times => k_is)
    (case n_Times_times => k_is)
    (case ha_Times => first | k_is | rfl)
    (case hm_Times => first | k_is | rfl)
    (case pg_Bar => k_is)
    (case hd_Bar => first | k_is | rfl)
    (case po_Bar => k_is)
    (case sa_Bar => k_is)
    (case mi_Bar => k_is)
    (case kc_Bar => k_is)
    (case n_Bar_part => k_is)
    (case ha_Bar => first | k_is | rfl)
    (case hm_Bar => first | k_is | rfl)
    (case pg_Back => k_is)
    (case hd_Back => first | k_is | rfl)
    (case po_Back => k_is)
    (case sa_Back => k_is)
    (case mi_Back => k_is)
    (case kc_Back => k_is)
    (case n_Back_rest => k_is)
    (case ha_Back => first | k_is | rfl)
    (case hm_Back => first | k_is | rfl)
    (case hn => first | k_is | rfl)
    (case htk => first | k_is | rfl)
    (case q_Bar_Answer => first | k_is | rfl)
    (case q_Bar_Number => first | k_is | rfl)
    (case q_Bar_Clash => first | k_is | rfl)
    (case q_Bar_Common => first | k_is | rfl)
    (case q_Bar_Times => first | k_is | rfl)
    (case q_Bar_Bar => first | k_is | rfl)
    (case q_Bar_Back => first | k_is | rfl)
    (case q_Back_Answer => first | k_is | rfl)
    (case q_Back_Number => first | k_is | rfl)
    (case q_Back_Clash => first | k_is | rfl)
    (case q_Back_Common => first | k_is | rfl)
    (case q_Back_Times => first | k_is | rfl)
    (case q_Back_Bar => first | k_is | rfl)
    (case q_Back_Back => first | k_is | rfl)
