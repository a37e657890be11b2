import PyProof.Rows.All
import Wide.All
import OpenK.AllK
import Wide.FinOn
import KE.KStateDown
import KE.KMathG
import KE.HD3
import Lean
import Flt.RightSqrt
import HandS.ForMost
import HandS.Defaults
import HandS.Head0
import HandS.Head1
import HandS.Head2
import HandS.HeadEnd
import HandS.HeadHook1
import HandS.HeadHook2
import HandS.Evl
import HandS.Flow
import HandS.Style
import HandS.Deep
import HandS.IsInst
import HandS.Wide
import HandS.Gcd
import HandS.TupSets
import PySem.Challenge.RW_wholeconic_k16_whole_self_changes
import KE.DataMinMax
import KE.SortData
set_option Elab.async false
set_option linter.all false
set_option maxRecDepth 100000
set_option maxHeartbeats 8000000
namespace WM
/-- a form; a matrix -/
structure Fm where
  a : Int
  b : Int
  c : Int
  deriving DecidableEq
structure Mt where
  p : Int
  q : Int
  r : Int
  s : Int
  deriving DecidableEq
def disc (f : Fm) : Int := f.b * f.b - 4 * f.a * f.c
def worth (f : Fm) (x y : Int) : Int := f.a * x * x + f.b * x * y + f.c * y * y
def act (f : Fm) (m : Mt) : Fm := ⟨worth f m.p m.r, 2 * f.a * m.p * m.q + f.b * (m.p * m.s + m.q * m.r) + 2 * f.c * m.r * m.s, worth f m.q m.s⟩
def mul (m n : Mt) : Mt := ⟨m.p * n.p + m.q * n.r, m.p * n.q + m.q * n.s, m.r * n.p + m.s * n.r, m.r * n.q + m.s * n.s⟩
def det (m : Mt) : Int := m.p * m.s - m.q * m.r
def one : Mt := ⟨1, 0, 0, 1⟩
def neg (m : Mt) : Mt := ⟨-m.p, -m.q, -m.r, -m.s⟩
def inv (m : Mt) : Mt := ⟨m.s, -m.q, -m.r, m.p⟩
def scal (f : Fm) (k : Int) : Fm := ⟨f.a * k, f.b * k, f.c * k⟩
theorem Fm.eq {f g : Fm} (h1 : f.a = g.a) (h2 : f.b = g.b) (h3 : f.c = g.c) : f = g := by
  cases f; cases g; simp_all
theorem Mt.eq {m n : Mt} (h1 : m.p = n.p) (h2 : m.q = n.q) (h3 : m.r = n.r) (h4 : m.s = n.s) : m = n := by
  cases m; cases n; simp_all
theorem act_mul (f : Fm) (m n : Mt) : act f (mul m n) = act (act f m) n := by
  apply Fm.eq <;> simp only [act, mul, worth] <;> grind
theorem mul_assoc (m n k : Mt) : mul (mul m n) k = mul m (mul n k) := by
  apply Mt.eq <;> simp only [mul] <;> grind
theorem det_mul (m n : Mt) : det (mul m n) = det m * det n := by
  simp only [det, mul]; grind
theorem disc_act (f : Fm) (m : Mt) : disc (act f m) = disc f * (det m * det m) := by
  simp only [disc, act, det, worth]; grind
theorem act_one (f : Fm) : act f one = f := by
  apply Fm.eq <;> simp only [act, one, worth] <;> grind
theorem one_mul (m : Mt) : mul one m = m := by
  apply Mt.eq <;> simp only [mul, one] <;> grind
theorem mul_one (m : Mt) : mul m one = m := by
  apply Mt.eq <;> simp only [mul, one] <;> grind
theorem det_one : det one = 1 := by decide
theorem det_neg (m : Mt) : det (neg m) = det m := by simp only [det, neg]; grind
theorem det_inv (m : Mt) : det (inv m) = det m := by simp only [det, inv]; grind
theorem act_neg (f : Fm) (m : Mt) : act f (neg m) = act f m := by
  apply Fm.eq <;> simp only [act, neg, worth] <;> grind
theorem mul_inv {m : Mt} (h : det m = 1) : mul m (inv m) = one := by
  simp only [det] at h
  apply Mt.eq <;> simp only [mul, inv, one] <;> grind
theorem inv_mul {m : Mt} (h : det m = 1) : mul (inv m) m = one := by
  simp only [det] at h
  apply Mt.eq <;> simp only [mul, inv, one] <;> grind
theorem neg_neg (m : Mt) : neg (neg m) = m := by
  apply Mt.eq <;> simp only [neg] <;> grind
theorem mul_neg (m n : Mt) : mul m (neg n) = neg (mul m n) := by
  apply Mt.eq <;> simp only [neg, mul] <;> grind
theorem neg_mul (m n : Mt) : mul (neg m) n = neg (mul m n) := by
  apply Mt.eq <;> simp only [neg, mul] <;> grind
theorem act_back {f g : Fm} {m : Mt} (h : det m = 1) (e : act f m = g) : act g (inv m) = f := by
  rw [← e, ← act_mul, mul_inv h, act_one]
theorem act_scal (f : Fm) (k : Int) (m : Mt) : act (scal f k) m = scal (act f m) k := by
  apply Fm.eq <;> simp only [act, scal, worth] <;> grind
theorem disc_scal (f : Fm) (k : Int) : disc (scal f k) = disc f * (k * k) := by
  simp only [disc, scal]; grind
theorem inv_inv (m : Mt) : inv (inv m) = m := by
  apply Mt.eq <;> simp only [inv] <;> grind
/-- elementary changes -/
def eT (t : Int) : Mt := ⟨1, t, 0, 1⟩
def eL (t : Int) : Mt := ⟨1, 0, t, 1⟩
def eS : Mt := ⟨0, -1, 1, 0⟩
end WM
namespace WM
def RedP (f : Fm) : Prop := -f.a < f.b ∧ f.b ≤ f.a ∧ f.a ≤ f.c ∧ (0 ≤ f.b ∨ f.a < f.c)
instance (f : Fm) : Decidable (RedP f) := by unfold RedP; infer_instance
def selfs1 (f : Fm) : List Mt := [one] ++ (if f.a = f.c ∧ f.b = 0 then [⟨0, -1, 1, 0⟩] else []) ++ (if f.a = f.b ∧ f.b = f.c then [⟨0, -1, 1, 1⟩, ⟨1, 1, -1, 0⟩] else [])
def selfs (f : Fm) : List Mt := selfs1 f ++ (selfs1 f).map neg
theorem sq_nn (x : Int) : 0 ≤ x * x := by
  rcases Int.le_total 0 x with h | h
  · exact Int.mul_nonneg h h
  · exact Int.mul_nonneg_of_nonpos_of_nonpos h h
theorem sq_ge4 {x : Int} (h : 2 ≤ x ∨ x ≤ -2) : 4 ≤ x * x := by
  rcases h with h | h
  · have := Int.mul_nonneg (show 0 ≤ x - 2 by omega) (show 0 ≤ x - 2 by omega)
    grind
  · have := Int.mul_nonneg (show 0 ≤ -2 - x by omega) (show 0 ≤ -2 - x by omega)
    grind
theorem sq_pos {x : Int} (h : x ≠ 0) : 1 ≤ x * x := by
  rcases Int.lt_or_gt_of_ne h with h | h
  · have := Int.mul_pos_of_neg_of_neg h h
    omega
  · have := Int.mul_pos h h
    omega
theorem q_pos {x y : Int} (h : ¬ (x = 0 ∧ y = 0)) : 1 ≤ x * x - x * y + y * y := by
  by_cases hy : y = 0
  · subst hy
    have := sq_pos (x := x) (fun e => h ⟨e, rfl⟩)
    simp only [Int.mul_zero]; omega
  · have h1 := sq_pos hy
    have h2 := sq_nn (2 * x - y)
    grind
theorem worth_ge {f : Fm} (ha : 0 < f.a) (h : RedP f) {x y : Int} (hn : ¬ (x = 0 ∧ y = 0)) : f.a ≤ worth f x y := by
  obtain ⟨h1, h2, h3, _⟩ := h
  have k1 := Int.mul_nonneg (show 0 ≤ f.c - f.a by omega) (sq_nn y)
  simp only [worth]
  rcases Int.le_total 0 (x * y) with h | h
  · have k2 := Int.mul_nonneg (show 0 ≤ f.a + f.b by omega) h
    have k3 := Int.mul_nonneg (show 0 ≤ f.a by omega) (show 0 ≤ x * x - x * y + y * y - 1 by have := q_pos hn; omega)
    grind
  · have k2 := Int.mul_nonneg_of_nonpos_of_nonpos (show f.b - f.a ≤ 0 by omega) h
    have h5 := q_pos (x := x) (y := -y) (fun e => hn ⟨e.1, by omega⟩)
    have k3 := Int.mul_nonneg (show 0 ≤ f.a by omega) (show 0 ≤ x * x - x * -y + -y * -y - 1 by omega)
    grind
theorem det_nz1 {m : Mt} (h : det m = 1) : ¬ (m.p = 0 ∧ m.r = 0) := fun e => by
  simp only [det, e.1, e.2] at h; omega
theorem selfs_neg {f : Fm} {m : Mt} (h : neg m ∈ selfs f) : m ∈ selfs f := by
  simp only [selfs, List.mem_append, List.mem_map] at h ⊢
  rcases h with h | ⟨x, h, e⟩
  · exact .inr ⟨neg m, h, neg_neg m⟩
  · left
    have : m = x := by rw [← neg_neg m, ← e, neg_neg]
    rw [this]; exact h
theorem r_small {a b c p r : Int} (ha : 0 < a) (h1 : -a < b) (h2 : b ≤ a) (h3 : a ≤ c) (e : a * p * p + b * p * r + c * r * r = a) : -1 ≤ r ∧ r ≤ 1 := by
  refine Classical.byContradiction fun hn => ?_
  have hr : 4 ≤ r * r := sq_ge4 (by omega)
  have k1 := sq_nn (2 * a * p + b * r)
  have k2 := Int.mul_nonneg (show 0 ≤ a - b by omega) (show 0 ≤ a + b by omega)
  have k3 := Int.mul_nonneg (show 0 ≤ a by omega) (show 0 ≤ c - a by omega)
  have k5 := Int.mul_pos ha ha
  have k4 := Int.mul_nonneg (show 0 ≤ 4 * a * c - b * b by grind) (show 0 ≤ r * r - 4 by omega)
  have k6 : 4 * a * (a * p * p + b * p * r + c * r * r) = 4 * a * a := by rw [e]
  grind
theorem unit_mul {p s : Int} (h : p * s = 1) : p = 1 ∧ s = 1 ∨ p = -1 ∧ s = -1 := by
  have hp : p ≠ 0 := fun e => by subst e; simp at h
  have hs : s ≠ 0 := fun e => by subst e; simp at h
  have h1 := sq_pos hp
  have h2 := sq_pos hs
  have h3 : (p * p) * (s * s) = 1 := by
    have : (p * p) * (s * s) = (p * s) * (p * s) := by grind
    rw [this, h]; rfl
  have h4 : p * p = 1 := by
    have k := Int.mul_nonneg (show 0 ≤ p * p - 1 by omega) (show 0 ≤ s * s - 1 by omega)
    have e : (p * p - 1) * (s * s - 1) = 2 - p * p - s * s := by grind
    omega
  have h5 : p = 1 ∨ p = -1 := by
    have h6 : p ≤ 1 ∧ -1 ≤ p := by
      refine Classical.byContradiction fun hn => ?_
      have := sq_ge4 (x := p) (by omega)
      omega
    omega
  rcases h5 with rfl | rfl <;> omega
/-- r = 1 -/
theorem red_core {f : Fm} {m : Mt} (ha : 0 < f.a) (hf : RedP f) (hd : det m = 1) (hg : RedP (act f m)) (e : (act f m).a = f.a) (hr : m.r = 1) : act f m = f ∧ m ∈ selfs f := by
  obtain ⟨a, b, c⟩ := f
  obtain ⟨p, q, r, s⟩ := m
  obtain ⟨h1, h2, h3, h4⟩ := hf
  obtain ⟨g1, g2, g3, g4⟩ := hg
  simp only [act, worth, det] at *
  subst hr
  have hp : -1 ≤ p ∧ p ≤ 1 := by
    refine Classical.byContradiction fun hn => ?_
    have hp4 : 4 ≤ p * p := sq_ge4 (by omega)
    rcases Int.le_total 0 p with h | h
    · have k1 := Int.mul_nonneg (show 0 ≤ a + b by omega) h
      have k2 := Int.mul_nonneg (show 0 ≤ a by omega) (show 0 ≤ p * p - p - 2 by have := Int.mul_nonneg (show 0 ≤ p - 2 by omega) (show 0 ≤ p + 1 by omega); grind)
      grind
    · have k1 := Int.mul_nonneg_of_nonpos_of_nonpos (show b - a ≤ 0 by omega) h
      have k2 := Int.mul_nonneg (show 0 ≤ a by omega) (show 0 ≤ p * p + p - 2 by have := Int.mul_nonneg (show 0 ≤ -p - 2 by omega) (show 0 ≤ 1 - p by omega); grind)
      grind
  have hp3 : p = -1 ∨ p = 0 ∨ p = 1 := by omega
  rcases hp3 with rfl | rfl | rfl
  · have hb : b = c := by grind
    have hab : a = b := by omega
    subst hb; subst hab
    have hs : s = -1 - q := by omega
    subst hs
    have hq : q = -1 := by
      rcases Int.lt_trichotomy q (-1) with h | h | h
      · have := Int.mul_nonneg (show 0 ≤ a by omega) (show 0 ≤ -2 - q by omega)
        grind
      · exact h
      · have := Int.mul_nonneg (show 0 ≤ a by omega) (show 0 ≤ q by omega)
        grind
    subst hq
    refine ⟨?_, ?_⟩
    · simp only [Fm.mk.injEq]; grind
    · simp [selfs, selfs1, neg]
  · have hc : c = a := by omega
    subst hc
    have hq : q = -1 := by omega
    subst hq
    have hs : s = 0 ∨ s = 1 := by
      rcases Int.lt_trichotomy s 0 with h | h | h
      · have := Int.mul_nonneg (show 0 ≤ c by omega) (show 0 ≤ -1 - s by omega)
        grind
      · exact .inl h
      · right
        rcases Int.lt_trichotomy s 1 with h' | h' | h'
        · omega
        · exact h'
        · have := Int.mul_nonneg (show 0 ≤ c by omega) (show 0 ≤ s - 2 by omega)
          grind
    rcases hs with rfl | rfl
    · have hb : b = 0 := by grind
      subst hb
      refine ⟨?_, ?_⟩
      · simp only [Fm.mk.injEq]; grind
      · simp [selfs, selfs1, neg]
    · have hb : b = c := by grind
      subst hb
      refine ⟨?_, ?_⟩
      · simp only [Fm.mk.injEq]; grind
      · simp [selfs, selfs1, neg]
  · grind
theorem red_unique {f : Fm} {m : Mt} (ha : 0 < f.a) (hf : RedP f) (hd : det m = 1) (hg : RedP (act f m)) : act f m = f ∧ m ∈ selfs f := by
  have ga : f.a ≤ (act f m).a := worth_ge ha hf (det_nz1 hd)
  have e : (act f m).a = f.a := by
    have h2 := worth_ge (show 0 < (act f m).a by omega) hg (det_nz1 (m := inv m) (by rw [det_inv]; exact hd))
    have h3 : worth (act f m) (inv m).p (inv m).r = f.a := congrArg Fm.a (act_back hd rfl)
    omega
  have hr := r_small (p := m.p) (r := m.r) ha hf.1 hf.2.1 hf.2.2.1 e
  have h3 : m.r = 0 ∨ m.r = 1 ∨ m.r = -1 := by omega
  rcases h3 with h0 | h1 | h1
  · obtain ⟨a, b, c⟩ := f
    obtain ⟨p, q, r, s⟩ := m
    obtain ⟨h1, h2, h3, h4⟩ := hf
    obtain ⟨g1, g2, g3, g4⟩ := hg
    simp only [act, worth, det] at *
    subst h0
    have hps : p * s = 1 := by omega
    have e2 : p = 1 ∧ s = 1 ∨ p = -1 ∧ s = -1 := unit_mul hps
    rcases e2 with ⟨rfl, rfl⟩ | ⟨rfl, rfl⟩
    · have hq : q = 0 := by
        rcases Int.lt_trichotomy q 0 with h | h | h
        · have := Int.mul_nonneg (show 0 ≤ a by omega) (show 0 ≤ -1 - q by omega)
          grind
        · exact h
        · have := Int.mul_nonneg (show 0 ≤ a by omega) (show 0 ≤ q - 1 by omega)
          grind
      subst hq
      refine ⟨?_, ?_⟩
      · simp only [Fm.mk.injEq]; grind
      · simp [selfs, selfs1, neg, one]
    · have hq : q = 0 := by
        rcases Int.lt_trichotomy q 0 with h | h | h
        · have := Int.mul_nonneg (show 0 ≤ a by omega) (show 0 ≤ -1 - q by omega)
          grind
        · exact h
        · have := Int.mul_nonneg (show 0 ≤ a by omega) (show 0 ≤ q - 1 by omega)
          grind
      subst hq
      refine ⟨?_, ?_⟩
      · simp only [Fm.mk.injEq]; grind
      · simp [selfs, selfs1, neg, one]
  · exact red_core ha hf hd hg e h1
  · have e2 := act_neg f m
    obtain ⟨k1, k2⟩ := red_core (m := neg m) ha hf (by rw [det_neg]; exact hd) (by rw [e2]; exact hg) (by rw [e2]; exact e) (by show -m.r = 1; omega)
    exact ⟨by rw [← e2]; exact k1, selfs_neg k2⟩
end WM
namespace WM
def ab (x : Int) : Int := if x < 0 then -x else x
theorem ab_nn (x : Int) : 0 ≤ ab x := by unfold ab; omega
theorem ab_pos {x : Int} (h : x ≠ 0) : 1 ≤ ab x := by unfold ab; omega
theorem ab_mul (x y : Int) : ab (x * y) = ab x * ab y := by
  unfold ab
  rcases Int.lt_or_le x 0 with hx | hx <;> rcases Int.lt_or_le y 0 with hy | hy
  · have := Int.mul_pos_of_neg_of_neg hx hy
    rw [if_neg (by omega), if_pos hx, if_pos hy]; grind
  · have := Int.mul_nonpos_of_nonpos_of_nonneg (Int.le_of_lt hx) hy
    rw [if_pos hx, if_neg (by omega : ¬ y < 0)]
    rw [Int.neg_mul]; split <;> omega
  · have := Int.mul_nonpos_of_nonneg_of_nonpos hx (Int.le_of_lt hy)
    rw [if_neg (by omega : ¬ x < 0), if_pos hy]
    rw [Int.mul_neg]; split <;> omega
  · have := Int.mul_nonneg hx hy
    rw [if_neg (by omega), if_neg (by omega : ¬ x < 0), if_neg (by omega : ¬ y < 0)]
theorem sq_mono {x y : Int} (h0 : 0 ≤ x) (h : x ≤ y) : x * x ≤ y * y := Int.mul_le_mul h h h0 (by omega)
theorem ab_sq (x : Int) : ab x * ab x = x * x := by unfold ab; split <;> grind
theorem no_sq {x r : Int} (h0 : 0 ≤ r) (h1 : r * r < x * x) (h2 : x * x < (r + 1) * (r + 1)) : False := by
  rw [← ab_sq x] at h1 h2
  rcases Int.lt_or_le r (ab x) with h | h
  · have := sq_mono (show 0 ≤ r + 1 by omega) (show r + 1 ≤ ab x by omega)
    omega
  · have := sq_mono (ab_nn x) h
    omega
/-! ### the step -/
def topI (r c : Int) : Int := if ab c > r then ab c else r
def midI (r b c : Int) : Int := topI r c - (topI r c + b) % (2 * ab c)
def stN (r b c : Int) : Int := (b + midI r b c).fdiv (2 * c)
def stM (r : Int) (f : Fm) : Mt := ⟨0, -1, 1, stN r f.b f.c⟩
def stp (r : Int) (f : Fm) : Fm := act f (stM r f)
def Win (t c m : Int) : Prop := t - 2 * ab c < m ∧ m ≤ t
theorem mid_spec {r b c : Int} (hc : c ≠ 0) : ∃ n, midI r b c = 2 * c * n - b ∧ stN r b c = n ∧ Win (topI r c) c (2 * c * n - b) := by
  have h0 := ab_pos hc
  have h1 := Int.emod_add_mul_ediv (topI r c + b) (2 * ab c)
  have h2 := Int.emod_nonneg (topI r c + b) (show 2 * ab c ≠ 0 by omega)
  have h3 := Int.emod_lt_of_pos (topI r c + b) (show 0 < 2 * ab c by omega)
  have key : ∃ n, 2 * ab c * ((topI r c + b) / (2 * ab c)) = 2 * c * n := by
    by_cases hn : c < 0
    · refine ⟨-((topI r c + b) / (2 * ab c)), ?_⟩
      have : ab c = -c := by unfold ab; rw [if_pos hn]
      rw [this]; grind
    · refine ⟨(topI r c + b) / (2 * ab c), ?_⟩
      have : ab c = c := by unfold ab; rw [if_neg hn]
      rw [this]
  obtain ⟨n, hn⟩ := key
  have e : midI r b c = 2 * c * n - b := by unfold midI; omega
  refine ⟨n, e, ?_, ?_⟩
  · unfold stN
    rw [e, show b + (2 * c * n - b) = 2 * c * n by omega]
    exact Int.mul_fdiv_cancel_left n (by omega)
  · unfold Win; omega
theorem win_unique {t c b n k : Int} (h1 : Win t c (2 * c * n - b)) (h2 : Win t c (2 * c * k - b)) : n = k := by
  obtain ⟨a1, a2⟩ := h1
  obtain ⟨b1, b2⟩ := h2
  have key : ∀ i j : Int, i < j → t - 2 * ab c < 2 * c * i - b → 2 * c * i - b ≤ t → t - 2 * ab c < 2 * c * j - b → 2 * c * j - b ≤ t → False := by
    intro i j hij c1 c2 c3 c4
    have h := Int.mul_nonneg (ab_nn c) (show 0 ≤ j - i - 1 by omega)
    unfold ab at *
    split at h <;> grind
  rcases Int.lt_trichotomy n k with h | h | h
  · exact (key n k h a1 a2 b1 b2).elim
  · exact h
  · exact (key k n h b1 b2 a1 a2).elim
theorem act_st (f : Fm) (n : Int) : act f ⟨0, -1, 1, n⟩ = ⟨f.c, 2 * f.c * n - f.b, f.a - f.b * n + f.c * n * n⟩ := by
  apply Fm.eq <;> simp only [act, worth] <;> grind
theorem stM_spec {r : Int} {f : Fm} (hc : f.c ≠ 0) : ∃ n, stM r f = ⟨0, -1, 1, n⟩ ∧ Win (topI r f.c) f.c (2 * f.c * n - f.b) := by
  obtain ⟨n, _, h2, h3⟩ := mid_spec (r := r) (b := f.b) hc
  exact ⟨n, by unfold stM; rw [h2], h3⟩
theorem stM_of {r : Int} {f : Fm} {n : Int} (hc : f.c ≠ 0) (h : Win (topI r f.c) f.c (2 * f.c * n - f.b)) : stM r f = ⟨0, -1, 1, n⟩ := by
  obtain ⟨k, h1, h2⟩ := stM_spec (r := r) hc
  rw [h1, win_unique h h2]
theorem stp_spec {r : Int} {f : Fm} (hc : f.c ≠ 0) : ∃ n, stp r f = ⟨f.c, 2 * f.c * n - f.b, f.a - f.b * n + f.c * n * n⟩ ∧ Win (topI r f.c) f.c (2 * f.c * n - f.b) := by
  obtain ⟨n, h1, h2⟩ := stM_spec (r := r) hc
  exact ⟨n, by unfold stp; rw [h1, act_st], h2⟩
theorem stp_of {r : Int} {f : Fm} {n : Int} (hc : f.c ≠ 0) (h : Win (topI r f.c) f.c (2 * f.c * n - f.b)) : stp r f = act f ⟨0, -1, 1, n⟩ := by
  unfold stp; rw [stM_of hc h]
/-! ### indefinite forms with the root r -/
structure Ind (r : Int) (f : Fm) : Prop where
  lo : r * r < disc f
  hi : disc f < (r + 1) * (r + 1)
  r1 : 1 ≤ r
theorem Ind.c0 {r : Int} {f : Fm} (h : Ind r f) : f.c ≠ 0 := fun e => by
  have h1 := h.lo
  have h2 := h.hi
  simp only [disc, e, Int.mul_zero, Int.sub_zero] at h1 h2
  exact no_sq (by have := h.r1; omega) h1 h2
theorem Ind.a0 {r : Int} {f : Fm} (h : Ind r f) : f.a ≠ 0 := fun e => by
  have h1 := h.lo
  have h2 := h.hi
  simp only [disc, e, Int.mul_zero, Int.zero_mul, Int.sub_zero] at h1 h2
  exact no_sq (by have := h.r1; omega) h1 h2
theorem Ind.act {r : Int} {f : Fm} {m : Mt} (h : Ind r f) (hd : det m = 1) : Ind r (act f m) := by
  have e : disc (WM.act f m) = disc f := by rw [disc_act, hd]; omega
  exact ⟨by rw [e]; exact h.lo, by rw [e]; exact h.hi, h.r1⟩
theorem det_stM (r : Int) (f : Fm) : det (stM r f) = 1 := by simp only [det, stM]; omega
theorem Ind.stp {r : Int} {f : Fm} (h : Ind r f) : Ind r (stp r f) := h.act (det_stM r f)
def RedI (r : Int) (f : Fm) : Prop := 0 < f.b ∧ f.b ≤ r ∧ r - f.b < 2 * ab f.a ∧ 2 * ab f.a ≤ r + f.b
instance (r : Int) (f : Fm) : Decidable (RedI r f) := by unfold RedI; infer_instance
theorem ac_neg {r : Int} {f : Fm} (h : Ind r f) (h1 : ab f.b ≤ r) : f.a * f.c < 0 := by
  have := sq_mono (ab_nn f.b) h1
  rw [ab_sq] at this
  have := h.lo
  unfold disc at this
  grind
theorem four_ac {r : Int} {f : Fm} (h : Ind r f) (h1 : ab f.b ≤ r) : (2 * ab f.a) * (2 * ab f.c) = disc f - f.b * f.b := by
  have h2 := ac_neg h h1
  have h3 := ab_mul f.a f.c
  have h4 : ab (f.a * f.c) = -(f.a * f.c) := by unfold ab; rw [if_pos h2]
  unfold disc
  grind
theorem ab_b {r : Int} {f : Fm} (h : RedI r f) : ab f.b = f.b := by
  obtain ⟨h1, _⟩ := h
  unfold ab; rw [if_neg (by omega)]
theorem red_c {r : Int} {f : Fm} (h : Ind r f) (hr : RedI r f) : r - f.b < 2 * ab f.c ∧ 2 * ab f.c ≤ r + f.b := by
  have e := four_ac h (by rw [ab_b hr]; exact hr.2.1)
  obtain ⟨b0, b1, a1, a2⟩ := hr
  have lo := h.lo
  have hi := h.hi
  refine ⟨Classical.byContradiction fun hn => ?_, Classical.byContradiction fun hn => ?_⟩
  · have := Int.mul_le_mul a2 (show 2 * ab f.c ≤ r - f.b by omega) (by have := ab_nn f.c; omega) (by omega)
    grind
  · have := Int.mul_le_mul (show r - f.b + 1 ≤ 2 * ab f.a by omega) (show r + f.b + 1 ≤ 2 * ab f.c by omega) (by omega) (by have := ab_nn f.a; omega)
    grind
theorem top_small {r c : Int} (h : ab c ≤ r) : topI r c = r := by unfold topI; rw [if_neg (by omega)]
theorem top_big {r c : Int} (h : r < ab c) : topI r c = ab c := by unfold topI; rw [if_pos h]
theorem cn_abs (c n : Int) : ∃ k, 2 * c * n = 2 * ab c * k := by
  by_cases h : c < 0
  · exact ⟨-n, by unfold ab; rw [if_pos h]; grind⟩
  · exact ⟨n, by unfold ab; rw [if_neg h]⟩
theorem red_stp {r : Int} {f : Fm} (h : Ind r f) (hr : RedI r f) : RedI r (stp r f) := by
  obtain ⟨c1, c2⟩ := red_c h hr
  obtain ⟨b0, b1, a1, a2⟩ := hr
  obtain ⟨n, e, w⟩ := stp_spec (r := r) h.c0
  rw [top_small (by omega)] at w
  obtain ⟨w1, w2⟩ := w
  have hp := ab_pos h.c0
  obtain ⟨k, hk⟩ := cn_abs f.c n
  rw [hk] at w1 w2 e
  have hk1 : 1 ≤ k := by
    refine Classical.byContradiction fun hn => ?_
    have := Int.mul_nonneg (ab_nn f.c) (show 0 ≤ -k by omega)
    grind
  have hk2 := Int.mul_nonneg (ab_nn f.c) (show 0 ≤ k - 1 by omega)
  have hk3 : ab f.c ≤ ab f.c * k := by grind
  unfold RedI
  rw [e]
  dsimp only
  have e2 : 2 * ab f.c * k = 2 * (ab f.c * k) := by grind
  rw [e2] at w1 w2 ⊢
  refine ⟨?_, ?_, ?_, ?_⟩ <;> omega
theorem red_inj {r : Int} {f g : Fm} (hf : Ind r f) (hg : Ind r g) (rf : RedI r f) (rg : RedI r g) (hd : disc f = disc g) (e : stp r f = stp r g) : f = g := by
  obtain ⟨c1, c2⟩ := red_c hf rf
  obtain ⟨d1, d2⟩ := red_c hg rg
  obtain ⟨n, e1, _⟩ := stp_spec (r := r) hf.c0
  obtain ⟨k, e2, _⟩ := stp_spec (r := r) hg.c0
  rw [e1, e2] at e
  simp only [Fm.mk.injEq] at e
  obtain ⟨ec, eb, _⟩ := e
  obtain ⟨b0, b1, _, _⟩ := rf
  obtain ⟨g0, g1, _, _⟩ := rg
  have w1 : Win r f.c (2 * f.c * 0 - (-f.b)) := by unfold Win; omega
  have w2 : Win r f.c (2 * f.c * (k - n) - (-f.b)) := by
    have : 2 * f.c * (k - n) - (-f.b) = g.b := by rw [ec] at eb ⊢; grind
    rw [this]; unfold Win; rw [ec]; omega
  have hkn := win_unique w1 w2
  have hkn' : k = n := by omega
  subst hkn'
  have hb : f.b = g.b := by rw [ec] at eb; omega
  refine Fm.eq ?_ hb ec
  unfold disc at hd
  rw [hb, ec] at hd
  have h4 : g.c * (f.a - g.a) = 0 := by grind
  rcases Int.mul_eq_zero.mp h4 with h | h
  · exact absurd h hg.c0
  · omega
/-! ### how far -/
theorem stp_c {r : Int} {f : Fm} (h : Ind r f) : (stp r f).a = f.c := by
  obtain ⟨n, e, _⟩ := stp_spec (r := r) h.c0
  rw [e]
theorem far {r : Int} {f : Fm} (h : Ind r f) (hc : r < ab f.c) : 4 * ab (stp r f).c ≤ ab f.c ∧ ab (stp r f).b ≤ ab f.c := by
  obtain ⟨n, e, w⟩ := stp_spec (r := r) h.c0
  rw [top_big hc] at w
  have hd := h.stp.lo
  have hd2 := h.stp.hi
  have hp := ab_pos h.c0
  rw [e] at hd hd2 ⊢
  generalize 2 * f.c * n - f.b = m at *
  generalize f.a - f.b * n + f.c * n * n = g at *
  obtain ⟨w1, w2⟩ := w
  unfold disc at hd hd2
  dsimp only at *
  have hm : ab m ≤ ab f.c := by unfold ab at *; omega
  refine ⟨?_, hm⟩
  have s1 := sq_mono (ab_nn m) hm
  rw [ab_sq m] at s1
  have s2 := sq_mono (show 0 ≤ r + 1 by have := h.r1; omega) (show r + 1 ≤ ab f.c by omega)
  have s3 := sq_nn m
  have s4 := sq_nn r
  have e3 := ab_mul f.c g
  refine Classical.byContradiction fun hn => ?_
  have s5 := Int.mul_le_mul_of_nonneg_left (show ab f.c + 1 ≤ 4 * ab g by omega) (ab_nn f.c)
  have s6 : ab (f.c * g) = f.c * g ∨ ab (f.c * g) = -(f.c * g) := by unfold ab; split <;> simp
  rcases s6 with s6 | s6 <;> grind
theorem near {r : Int} {f : Fm} (h : Ind r f) (hc : ab f.c ≤ r) : ab (stp r f).b ≤ r ∧ (stp r f).a * (stp r f).c < 0 ∧ (2 * ab f.c ≤ r → RedI r (stp r f)) ∧ (r < 2 * ab f.c → 2 * ab (stp r f).c ≤ r) := by
  obtain ⟨n, e, w⟩ := stp_spec (r := r) h.c0
  rw [top_small hc] at w
  have hb : ab (stp r f).b ≤ r := by
    rw [e]
    obtain ⟨w1, w2⟩ := w
    dsimp only
    generalize 2 * f.c * n - f.b = m at *
    unfold ab at *; omega
  refine ⟨hb, ac_neg h.stp hb, fun h2 => ?_, fun h2 => ?_⟩
  · rw [e]
    obtain ⟨w1, w2⟩ := w
    unfold RedI
    dsimp only
    have hp := ab_pos h.c0
    omega
  · have h4 := four_ac h.stp hb
    rw [stp_c h] at h4
    have hi := h.stp.hi
    have s := sq_nn (stp r f).b
    refine Classical.byContradiction fun hn => ?_
    have := Int.mul_le_mul (show r + 1 ≤ 2 * ab f.c by omega) (show r + 1 ≤ 2 * ab (stp r f).c by omega) (by have := h.r1; omega) (by have := ab_nn f.c; omega)
    omega
def it (r : Int) : Nat → Fm → Fm
  | 0, f => f
  | n + 1, f => stp r (it r n f)
theorem it_add (r : Int) (m : Nat) (f : Fm) : ∀ n, it r n (it r m f) = it r (m + n) f
  | 0 => rfl
  | n + 1 => by
    show stp r (it r n (it r m f)) = stp r (it r (m + n) f)
    rw [it_add r m f n]
theorem it_succ (r : Int) (n : Nat) (f : Fm) : it r n (stp r f) = it r (n + 1) f := by
  have := it_add r 1 f n
  rw [show 1 + n = n + 1 by omega] at this
  exact this
theorem Ind.it {r : Int} {f : Fm} (h : Ind r f) : ∀ n, Ind r (it r n f)
  | 0 => h
  | n + 1 => (Ind.it h n).stp
theorem red_it {r : Int} {f : Fm} (h : Ind r f) (hr : RedI r f) : ∀ n, RedI r (it r n f)
  | 0 => hr
  | n + 1 => red_stp (h.it n) (red_it h hr n)
theorem disc_stp (r : Int) (f : Fm) : disc (stp r f) = disc f := by
  unfold stp; rw [disc_act, det_stM]; omega
theorem disc_it (r : Int) (f : Fm) : ∀ n, disc (it r n f) = disc f
  | 0 => rfl
  | n + 1 => by show disc (stp r (it r n f)) = _; rw [disc_stp, disc_it r f n]
theorem reach {r : Int} : ∀ (k : Nat) (f : Fm), Ind r f → ab f.c ≤ r * 4 ^ k → ∃ n, n ≤ k + 2 ∧ RedI r (it r n f) := by
  have base : ∀ f : Fm, Ind r f → ab f.c ≤ r → ∃ n, n ≤ 2 ∧ RedI r (it r n f) := by
    intro f h hc
    obtain ⟨_, _, h3, h4⟩ := near h hc
    by_cases h2 : 2 * ab f.c ≤ r
    · exact ⟨1, by omega, h3 h2⟩
    · have h5 := h4 (by omega)
      have h6 := (near h.stp (by have := ab_nn (stp r f).c; omega)).2.2.1 h5
      exact ⟨2, by omega, h6⟩
  intro k
  induction k with
  | zero =>
    intro f h hc
    obtain ⟨n, h1, h2⟩ := base f h (by simpa using hc)
    exact ⟨n, by omega, h2⟩
  | succ k ih =>
    intro f h hc
    by_cases h1 : ab f.c ≤ r
    · obtain ⟨n, h1, h2⟩ := base f h h1
      exact ⟨n, by omega, h2⟩
    · have h2 := (far h (by omega)).1
      have h3 : ab (stp r f).c ≤ r * 4 ^ k := by
        have e : r * 4 ^ (k + 1) = 4 * (r * 4 ^ k) := by rw [Int.pow_succ]; grind
        omega
      obtain ⟨n, h4, h5⟩ := ih (stp r f) h.stp h3
      exact ⟨n + 1, by omega, by rw [← it_succ]; exact h5⟩
end WM
namespace WM
theorem pigeon : ∀ (N : Nat) (u : Nat → Nat), (∀ i, i ≤ N → u i < N) → ∃ i j, i < j ∧ j ≤ N ∧ u i = u j
  | 0, u, h => absurd (h 0 (Nat.le_refl 0)) (Nat.not_lt_zero _)
  | N + 1, u, h => by
    by_cases hx : ∃ i, i ≤ N ∧ u i = u (N + 1)
    · obtain ⟨i, h1, h2⟩ := hx
      exact ⟨i, N + 1, by omega, Nat.le_refl _, h2⟩
    · have hv := h (N + 1) (Nat.le_refl _)
      have hne : ∀ i, i ≤ N → u i ≠ u (N + 1) := fun i hi e => hx ⟨i, hi, e⟩
      obtain ⟨i, j, h1, h2, h3⟩ := pigeon N (fun i => if u i > u (N + 1) then u i - 1 else u i) (fun i hi => by
        have h1 := h i (by omega)
        have h2 := hne i hi
        split <;> omega)
      refine ⟨i, j, h1, by omega, ?_⟩
      have n1 := hne i (by omega)
      have n2 := hne j h2
      split at h3 <;> split at h3 <;> omega
/-- a number for a reduced form -/
def code (r : Int) (f : Fm) : Nat := (f.a + r).toNat * (r.toNat + 1) + f.b.toNat
def many (r : Int) : Nat := (2 * r.toNat + 1) * (r.toNat + 1)
theorem code_lt {r : Int} {f : Fm} (h : 1 ≤ r) (hr : RedI r f) : code r f < many r := by
  obtain ⟨b0, b1, a1, a2⟩ := hr
  have ha : (f.a + r).toNat ≤ 2 * r.toNat := by unfold ab at *; omega
  have hb : f.b.toNat ≤ r.toNat := by omega
  unfold code many
  have := Nat.mul_le_mul_right (r.toNat + 1) ha
  have e : (2 * r.toNat + 1) * (r.toNat + 1) = 2 * r.toNat * (r.toNat + 1) + (r.toNat + 1) := by rw [Nat.add_mul, Nat.one_mul]
  omega
theorem code_inj {r : Int} {f g : Fm} (hf : Ind r f) (hr : RedI r f) (hg : RedI r g) (hd : disc f = disc g) (e : code r f = code r g) : f = g := by
  obtain ⟨b0, b1, a1, a2⟩ := hr
  obtain ⟨d0, d1, c1, c2⟩ := hg
  unfold code at e
  have h1 : f.b.toNat < r.toNat + 1 := by omega
  have h2 : g.b.toNat < r.toNat + 1 := by omega
  have e1 : f.b.toNat = g.b.toNat := by
    have := congrArg (· % (r.toNat + 1)) e
    simp only [Nat.mul_add_mod', Nat.mod_eq_of_lt h1, Nat.mod_eq_of_lt h2] at this
    exact this
  have e2 : (f.a + r).toNat = (g.a + r).toNat := by
    rw [e1] at e
    exact Nat.eq_of_mul_eq_mul_right (by omega : 0 < r.toNat + 1) (by omega)
  have ea : f.a = g.a := by unfold ab at *; omega
  have eb : f.b = g.b := by omega
  refine Fm.eq ea eb ?_
  unfold disc at hd
  rw [ea, eb] at hd
  have h4 : g.a * (f.c - g.c) = 0 := by grind
  rcases Int.mul_eq_zero.mp h4 with h | h
  · exact absurd (ea.trans h) hf.a0
  · omega
theorem it_back {r : Int} {f : Fm} (h : Ind r f) (hr : RedI r f) : ∀ (i j : Nat), it r i f = it r (i + j) f → f = it r j f
  | 0, j, e => by rw [Nat.zero_add] at e; exact e
  | i + 1, j, e => by
    have h1 := red_it h hr i
    have h2 := red_it h hr (i + j)
    refine it_back h hr i j (red_inj (h.it i) (h.it (i + j)) h1 h2 (by rw [disc_it, disc_it]) ?_)
    show it r (i + 1) f = it r (i + j + 1) f
    rw [e]
    congr 1
    omega
theorem closes {r : Int} {f : Fm} (h : Ind r f) (hr : RedI r f) : ∃ n, 1 ≤ n ∧ n ≤ many r ∧ it r n f = f := by
  obtain ⟨i, j, h1, h2, h3⟩ := pigeon (many r) (fun i => code r (it r i f)) (fun i _ => code_lt h.r1 (red_it h hr i))
  have e := code_inj (h.it i) (red_it h hr i) (red_it h hr j) (by rw [disc_it, disc_it]) h3
  rw [show j = i + (j - i) by omega] at e
  exact ⟨j - i, by omega, by omega, (it_back h hr i (j - i) e).symm⟩
/-- the first return -/
theorem first_back {r : Int} {f : Fm} (h : Ind r f) (hr : RedI r f) : ∃ n, 1 ≤ n ∧ n ≤ many r ∧ it r n f = f ∧ ∀ k, 1 ≤ k → k < n → it r k f ≠ f := by
  obtain ⟨n, h1, h2, h3⟩ := closes h hr
  have key : ∀ n : Nat, 1 ≤ n → it r n f = f → ∃ k, 1 ≤ k ∧ k ≤ n ∧ it r k f = f ∧ ∀ j, 1 ≤ j → j < k → it r j f ≠ f := by
    intro n
    induction n using Nat.strongRecOn with
    | _ n ih =>
      intro h1 h3
      by_cases hx : ∃ k, 1 ≤ k ∧ k < n ∧ it r k f = f
      · obtain ⟨k, k1, k2, k3⟩ := hx
        obtain ⟨j, a, b, c, d⟩ := ih k k2 k1 k3
        exact ⟨j, a, by omega, c, d⟩
      · exact ⟨n, h1, Nat.le_refl _, h3, fun k k1 k2 k3 => hx ⟨k, k1, k2, k3⟩⟩
  obtain ⟨k, a, b, c, d⟩ := key n h1 h3
  exact ⟨k, a, by omega, c, d⟩
theorem it_mult {r : Int} {f : Fm} {n : Nat} (h : it r n f = f) : ∀ k, it r (n * k) f = f
  | 0 => rfl
  | k + 1 => by
    rw [Nat.mul_add, Nat.mul_one, Nat.add_comm, ← it_add, h]
    exact it_mult h k
/-- from any place of the cycle back -/
theorem cyc_back {r : Int} {f : Fm} (h : Ind r f) (hr : RedI r f) (m : Nat) : ∃ k, it r k (it r m f) = f := by
  obtain ⟨n, h1, _, h3⟩ := closes h hr
  refine ⟨n * m - m + 0, ?_⟩
  rw [it_add]
  have : m ≤ n * m := Nat.le_mul_of_pos_left m h1
  rw [show m + (n * m - m + 0) = n * m by omega]
  exact it_mult h3 m
/-! ### what a form leads to -/
def E (r : Int) (f g : Fm) : Prop := ∃ n, it r n f = g ∧ RedI r g
theorem E.ex {r : Int} {f : Fm} (h : Ind r f) : ∃ g, E r f g := by
  obtain ⟨n, _, h2⟩ := reach (r := r) (ab f.c).toNat f h (by
    have h1 := h.r1
    have h3 : ∀ k : Nat, (k : Int) + 1 ≤ 4 ^ k := fun k => by
      induction k with
      | zero => simp
      | succ k ih => rw [Int.pow_succ]; omega
    have h4 := h3 (ab f.c).toNat
    have h5 := ab_nn f.c
    have h6 := Int.mul_le_mul_of_nonneg_right h1 (show (0 : Int) ≤ 4 ^ (ab f.c).toNat by omega)
    omega)
  exact ⟨_, n, rfl, h2⟩
theorem E.ind {r : Int} {f g : Fm} (h : Ind r f) (e : E r f g) : Ind r g := by
  obtain ⟨n, rfl, _⟩ := e
  exact h.it n
theorem E.next {r : Int} {f g : Fm} (e : E r (stp r f) g) : E r f g := by
  obtain ⟨n, h1, h2⟩ := e
  exact ⟨n + 1, by rw [← it_succ]; exact h1, h2⟩
/-- two ends of one form lie on one cycle -/
theorem E.both {r : Int} {f g k : Fm} (h : Ind r f) (e1 : E r f g) (e2 : E r f k) : ∃ n, it r n g = k := by
  obtain ⟨n, rfl, r1⟩ := e1
  obtain ⟨m, rfl, r2⟩ := e2
  rcases Nat.le_total n m with hl | hl
  · exact ⟨m - n, by rw [it_add]; congr 1; omega⟩
  · have := cyc_back (h.it m) r2 (n - m)
    obtain ⟨j, hj⟩ := this
    refine ⟨j, ?_⟩
    have e : it r (n - m) (it r m f) = it r n f := by rw [it_add]; congr 1; omega
    rw [e] at hj
    exact hj
def Al (r : Int) (f g : Fm) : Prop := ∃ h, E r f h ∧ E r g h
theorem Al.refl {r : Int} {f : Fm} (h : Ind r f) : Al r f f := by
  obtain ⟨g, e⟩ := E.ex h
  exact ⟨g, e, e⟩
theorem Al.symm {r : Int} {f g : Fm} (a : Al r f g) : Al r g f := by
  obtain ⟨h, e1, e2⟩ := a
  exact ⟨h, e2, e1⟩
theorem E.more {r : Int} {f g : Fm} {n : Nat} (h : Ind r f) (e : E r f g) : E r f (it r n g) := by
  obtain ⟨m, rfl, hr⟩ := e
  exact ⟨m + n, (it_add r m f n).symm, red_it (h.it m) hr n⟩
theorem Al.sub {r : Int} {f g k : Fm} (hf : Ind r f) (hg : Ind r g) (a : Al r f g) (e : E r f k) : E r g k := by
  obtain ⟨h, e1, e2⟩ := a
  obtain ⟨n, hn⟩ := E.both hf e1 e
  rw [← hn]
  exact E.more hg e2
theorem Al.trans {r : Int} {f g k : Fm} (hf : Ind r f) (hg : Ind r g) (hk : Ind r k) (a : Al r f g) (b : Al r g k) : Al r f k := by
  obtain ⟨h, e1, e2⟩ := a
  exact ⟨h, e1, b.sub hg hk e2⟩
theorem Al.stp {r : Int} {f : Fm} (h : Ind r f) : Al r f (stp r f) := by
  obtain ⟨g, e⟩ := E.ex h.stp
  exact ⟨g, e.next, e⟩
theorem Al.of_stp {r : Int} {f g : Fm} (h : Ind r f) (e : WM.stp r f = WM.stp r g) : Al r f g := by
  obtain ⟨k, e1⟩ := E.ex h.stp
  exact ⟨k, e1.next, by rw [e] at e1; exact e1.next⟩
theorem det_eT (t : Int) : det (eT t) = 1 := by simp only [det, eT]; omega
theorem det_eL (t : Int) : det (eL t) = 1 := by simp only [det, eL]; omega
theorem det_eS : det eS = 1 := by decide
theorem act_eL (f : Fm) (t : Int) : act f (eL t) = ⟨f.a + f.b * t + f.c * t * t, f.b + 2 * f.c * t, f.c⟩ := by
  apply Fm.eq <;> simp only [act, worth, eL] <;> grind
theorem act_eT (f : Fm) (t : Int) : act f (eT t) = ⟨f.a, f.b + 2 * f.a * t, f.a * t * t + f.b * t + f.c⟩ := by
  apply Fm.eq <;> simp only [act, worth, eT] <;> grind
theorem act_eS (f : Fm) : act f eS = ⟨f.c, -f.b, f.a⟩ := by
  apply Fm.eq <;> simp only [act, worth, eS] <;> grind
/-- the step does not see a change of the first row -/
theorem stp_eL {r : Int} {f : Fm} (h : Ind r f) (t : Int) : stp r (act f (eL t)) = stp r f := by
  obtain ⟨n, h1, w⟩ := stM_spec (r := r) h.c0
  have e := act_eL f t
  have hc : (act f (eL t)).c = f.c := by rw [e]
  have hb : (act f (eL t)).b = f.b + 2 * f.c * t := by rw [e]
  have w2 : Win (topI r (act f (eL t)).c) (act f (eL t)).c (2 * (act f (eL t)).c * (n + t) - (act f (eL t)).b) := by
    rw [hc, hb]
    have : 2 * f.c * (n + t) - (f.b + 2 * f.c * t) = 2 * f.c * n - f.b := by grind
    rw [this]; exact w
  rw [stp_of (by rw [hc]; exact h.c0) w2, stp_of h.c0 w, act_st, act_st, hc, hb]
  rw [e]
  dsimp only
  simp only [Fm.mk.injEq]
  refine ⟨trivial, ?_, ?_⟩ <;> grind
theorem Al.eL {r : Int} {f : Fm} (h : Ind r f) (t : Int) : Al r f (act f (eL t)) := Al.of_stp h (stp_eL h t).symm
/-- the step is the turn where -b is the right number -/
theorem stp_turn {r : Int} {f : Fm} (h : Ind r f) (w : Win (topI r f.c) f.c (-f.b)) : stp r f = act f eS := by
  have w2 : Win (topI r f.c) f.c (2 * f.c * 0 - f.b) := by
    rw [show 2 * f.c * 0 - f.b = -f.b by omega]; exact w
  rw [stp_of h.c0 w2]
  rfl
theorem turn_turn (f : Fm) : act (act f eS) eS = f := by
  rw [act_eS, act_eS]
  obtain ⟨a, b, c⟩ := f
  simp
/-- across the river -/
theorem Al.river {r : Int} {f : Fm} (h : Ind r f) (hn : f.a * f.c < 0) : Al r f (act f eS) := by
  have hg := h.act det_eS
  have e := act_eS f
  -- |b| <= r
  have hb : ab f.b ≤ r := by
    refine Classical.byContradiction fun hx => ?_
    have s := sq_mono (show 0 ≤ r + 1 by have := h.r1; omega) (show r + 1 ≤ ab f.b by omega)
    rw [ab_sq] at s
    have := h.hi
    unfold disc at this
    grind
  by_cases hc : r < ab f.c
  · have w : Win (topI r f.c) f.c (-f.b) := by
      rw [top_big hc]; unfold Win; unfold ab at *; omega
    have := Al.stp h
    rw [stp_turn h w] at this
    exact this
  by_cases ha : r < ab f.a
  · have w : Win (topI r (act f eS).c) (act f eS).c (-(act f eS).b) := by
      rw [e]; dsimp only; rw [top_big ha]; unfold Win; unfold ab at *; omega
    have := Al.stp hg
    rw [stp_turn hg w, turn_turn] at this
    exact this.symm
  by_cases h1 : r < -f.b + 2 * ab f.c
  · have w : Win (topI r f.c) f.c (-f.b) := by
      rw [top_small (by omega)]; unfold Win; unfold ab at *; omega
    have := Al.stp h
    rw [stp_turn h w] at this
    exact this
  · have h4 := four_ac h hb
    have lo := h.lo
    have h2 : r < f.b + 2 * ab f.a := by
      refine Classical.byContradiction fun hx => ?_
      have := Int.mul_le_mul (show 2 * ab f.a ≤ r - f.b by omega) (show 2 * ab f.c ≤ r + f.b by omega) (by have := ab_nn f.c; omega) (by unfold ab at hb; omega)
      grind
    have w : Win (topI r (act f eS).c) (act f eS).c (-(act f eS).b) := by
      rw [e]; dsimp only; rw [top_small (by omega)]; unfold Win; unfold ab at *; omega
    have := Al.stp hg
    rw [stp_turn hg w, turn_turn] at this
    exact this.symm
end WM
namespace WM
theorem hill_core {r : Int} {f : Fm} (h : Ind r f) (ih : ∀ g : Fm, Ind r g → 0 < g.a * g.c → ab g.a + ab g.c < ab f.a + ab f.c → Al r g (act g eS))
    {s d : Int} (hs : s = 1 ∨ s = -1) (hd : d = 1 ∨ d = -1) (hA : 0 < s * f.a) (hC : 0 < s * f.c) (hB : s * f.b * d < 0) (hAC : s * f.a ≤ s * f.c) : Al r f (act f eS) := by
  have hh := h.act (det_eT d)
  have hk := h.act (det_eL d)
  have hf := h.act det_eS
  have hhS := hh.act det_eS
  have hkS := hk.act det_eS
  have d2 : d * d = 1 := by rcases hd with rfl | rfl <;> rfl
  have s2 : s * s = 1 := by rcases hs with rfl | rfl <;> rfl
  -- fS ~ hS
  have e1 : act (act f eS) (eL (-d)) = act (act f (eT d)) eS := by
    rw [act_eT, act_eS, act_eS, act_eL]
    simp only [Fm.mk.injEq]
    refine ⟨?_, ?_, ?_⟩ <;> grind
  have a1 : Al r (act f eS) (act (act f (eT d)) eS) := by
    rw [← e1]; exact Al.eL hf (-d)
  -- h ~ kS
  have e2 : act (act f (eT d)) (eL (-d)) = act (act f (eL d)) eS := by
    rw [act_eT, act_eL, act_eL, act_eS]
    simp only [Fm.mk.injEq]
    refine ⟨?_, ?_, ?_⟩ <;> grind
  have a2 : Al r (act f (eT d)) (act (act f (eL d)) eS) := by
    rw [← e2]; exact Al.eL hh (-d)
  -- f ~ k
  have a3 : Al r f (act f (eL d)) := Al.eL h d
  have ea : (act f (eT d)).a = f.a := by rw [act_eT]
  have ec : (act f (eT d)).c = f.a * d * d + f.b * d + f.c := by rw [act_eT]
  have ka : (act f (eL d)).a = f.a + f.b * d + f.c * d * d := by rw [act_eL]
  have kc : (act f (eL d)).c = f.c := by rw [act_eL]
  have e0 : f.a + f.b * d + f.c ≠ 0 := fun z => hh.c0 (by rw [ec]; grind)
  have ec2 : (act f (eT d)).c = f.a + f.b * d + f.c := by rw [ec]; grind
  have ka2 : (act f (eL d)).a = f.a + f.b * d + f.c := by rw [ka]; grind
  -- A, C, B
  have hD := h.lo
  have hr := h.r1
  unfold disc at hD
  have eA : ab f.a = s * f.a := by unfold ab; rcases hs with rfl | rfl <;> split <;> omega
  have eC : ab f.c = s * f.c := by unfold ab; rcases hs with rfl | rfl <;> split <;> omega
  have b2 : (s * f.b * d) * (s * f.b * d) = f.b * f.b := by grind
  generalize hb : -(s * f.b * d) = B at *
  have hB0 : 0 < B := by omega
  have hBd : s * f.b * d = -B := by omega
  have bB : B * B = f.b * f.b := by rw [← b2, hBd]; grind
  generalize hA' : s * f.a = A at *
  generalize hC' : s * f.c = C at *
  have ac : A * C = f.a * f.c := by rw [← hA', ← hC']; grind
  have rr := sq_nn r
  have hB2 : 2 * A < B := by
    refine Classical.byContradiction fun hx => ?_
    have k1 := sq_mono (by omega) (show B ≤ 2 * A by omega)
    have k2 := Int.mul_le_mul_of_nonneg_left hAC (show 0 ≤ A by omega)
    grind
  have se : s * (f.a + f.b * d + f.c) = A + C - B := by grind
  rcases Int.lt_or_le 0 (A + C - B) with he | he
  · -- e beside a and c
    have hac : 0 < (act f (eT d)).a * (act f (eT d)).c := by
      rw [ea, ec2]
      have : f.a * (f.a + f.b * d + f.c) = A * (A + C - B) := by rw [← se, ← hA']; grind
      rw [this]; exact Int.mul_pos hA he
    have a4 : Al r (act f (eT d)) (act (act f (eT d)) eS) := by
      refine ih _ hh hac ?_
      rw [ea, ec2, eA, eC]
      have : ab (f.a + f.b * d + f.c) = A + C - B := by
        unfold ab; rcases hs with rfl | rfl <;> split <;> omega
      omega
    have hCr : r < C := by
      refine Classical.byContradiction fun hx => ?_
      have k1 := Int.mul_pos he (show 0 < A + C + B by omega)
      have k2 := sq_mono (by omega) (show C ≤ r by omega)
      have k3 := Int.mul_nonneg (show 0 ≤ A by omega) (show 0 ≤ 2 * C - A by omega)
      grind
    have top : topI r f.c = C := by rw [top_big (by omega)]; exact eC
    by_cases hw : Win (topI r f.c) f.c (-f.b)
    · have := Al.stp h
      rw [stp_turn h hw] at this
      exact this
    · have w : Win (topI r f.c) f.c (2 * f.c * (-d) - f.b) := by
        rw [top] at hw ⊢
        unfold Win at hw ⊢
        rw [eC] at hw ⊢
        rcases hs with rfl | rfl <;> rcases hd with rfl | rfl <;> omega
      have a5 := Al.stp h
      rw [stp_of h.c0 w] at a5
      have e5 : act f ⟨0, -1, 1, -d⟩ = act (act f (eL d)) eS := by
        rw [← act_mul]; congr 1
        simp only [mul, eL, eS, Mt.mk.injEq]; omega
      rw [e5] at a5
      exact ((a5.trans h hkS hh a2.symm).trans h hh hhS a4).trans h hhS hf a1.symm
  · have hne : A + C - B ≠ 0 := fun z => e0 (by
      rw [z] at se
      rcases Int.mul_eq_zero.mp se with z | z
      · rcases hs with rfl | rfl <;> omega
      · exact z)
    have n1 : (act f (eT d)).a * (act f (eT d)).c < 0 := by
      rw [ea, ec2]
      have : f.a * (f.a + f.b * d + f.c) = A * (A + C - B) := by rw [← se, ← hA']; grind
      rw [this]; exact Int.mul_neg_of_pos_of_neg hA (by omega)
    have n2 : (act f (eL d)).a * (act f (eL d)).c < 0 := by
      rw [ka2, kc]
      have : (f.a + f.b * d + f.c) * f.c = C * (A + C - B) := by rw [← se, ← hC']; grind
      rw [this]; exact Int.mul_neg_of_pos_of_neg hC (by omega)
    exact (((a3.trans h hk hkS (Al.river hk n2)).trans h hkS hh a2.symm).trans h hh hhS (Al.river hh n1)).trans h hhS hf a1.symm
theorem Al.hill {r : Int} : ∀ (n : Nat) (f : Fm), Ind r f → 0 < f.a * f.c → ab f.a + ab f.c ≤ n → Al r f (act f eS)
  | 0, f, h, hp, hn => by
    have := ab_pos h.a0
    have := ab_pos h.c0
    omega
  | n + 1, f, h, hp, hn => by
    have ih : ∀ g : Fm, Ind r g → 0 < g.a * g.c → ab g.a + ab g.c < ab f.a + ab f.c → Al r g (act g eS) := fun g hg hp hl => Al.hill n g hg hp (by omega)
    have core : ∀ f : Fm, Ind r f → 0 < f.a * f.c → ab f.a ≤ ab f.c → (∀ g : Fm, Ind r g → 0 < g.a * g.c → ab g.a + ab g.c < ab f.a + ab f.c → Al r g (act g eS)) → Al r f (act f eS) := by
      intro f h hp hle ih
      have b0 : f.b ≠ 0 := fun z => by
        have := h.lo
        have := sq_nn r
        unfold disc at *
        rw [z] at *
        grind
      have sg : (0 < f.a ∧ 0 < f.c) ∨ (f.a < 0 ∧ f.c < 0) := by
        rcases Int.lt_or_gt_of_ne h.a0 with ha | ha
        · right
          refine ⟨ha, ?_⟩
          refine Classical.byContradiction fun hx => ?_
          have := Int.mul_nonpos_of_nonpos_of_nonneg (Int.le_of_lt ha) (show 0 ≤ f.c by omega)
          omega
        · left
          refine ⟨ha, ?_⟩
          refine Classical.byContradiction fun hx => ?_
          have := Int.mul_nonpos_of_nonneg_of_nonpos (Int.le_of_lt ha) (show f.c ≤ 0 by omega)
          omega
      unfold ab at hle
      rcases sg with ⟨ha, hc⟩ | ⟨ha, hc⟩ <;> rcases Int.lt_or_gt_of_ne b0 with hb | hb
      · exact hill_core (s := 1) (d := 1) h ih (by omega) (by omega) (by omega) (by omega) (by omega) (by omega)
      · exact hill_core (s := 1) (d := -1) h ih (by omega) (by omega) (by omega) (by omega) (by omega) (by omega)
      · exact hill_core (s := -1) (d := -1) h ih (by omega) (by omega) (by omega) (by omega) (by omega) (by omega)
      · exact hill_core (s := -1) (d := 1) h ih (by omega) (by omega) (by omega) (by omega) (by omega) (by omega)
    rcases Int.le_total (ab f.a) (ab f.c) with hle | hle
    · exact core f h hp hle ih
    · have e := act_eS f
      have := core (act f eS) (h.act det_eS) (by rw [e]; dsimp only; rw [Int.mul_comm]; exact hp) (by rw [e]; exact hle) (by
        intro g hg hp hl
        refine ih g hg hp ?_
        rw [e] at hl
        dsimp only at hl
        omega)
      rw [turn_turn] at this
      exact this.symm
theorem Al.eS {r : Int} {f : Fm} (h : Ind r f) : Al r f (act f eS) := by
  rcases Int.lt_trichotomy (f.a * f.c) 0 with hn | hn | hn
  · exact Al.river h hn
  · rcases Int.mul_eq_zero.mp hn with z | z
    · exact absurd z h.a0
    · exact absurd z h.c0
  · exact Al.hill (ab f.a + ab f.c).toNat f h hn (by omega)
theorem Al.eT {r : Int} {f : Fm} (h : Ind r f) (t : Int) : Al r f (act f (eT t)) := by
  have hf := h.act det_eS
  have h2 := hf.act (det_eL (-t))
  have h3 := h2.act det_eS
  have a := ((Al.eS h).trans h hf h2 (Al.eL hf (-t))).trans h h2 h3 (Al.eS h2)
  have e : act (act (act f WM.eS) (WM.eL (-t))) WM.eS = act f (WM.eT t) := by
    rw [← act_mul, ← act_mul, ← act_neg f (WM.eT t)]
    congr 1
    simp only [mul, WM.eL, WM.eS, WM.eT, neg, Mt.mk.injEq]
    refine ⟨?_, ?_, ?_, ?_⟩ <;> omega
  rw [e] at a
  exact a
/-- products of elementary changes -/
inductive Gen : Mt → Prop
  | one : Gen one
  | t {m : Mt} (k : Int) : Gen m → Gen (mul m (eT k))
  | l {m : Mt} (k : Int) : Gen m → Gen (mul m (eL k))
  | s {m : Mt} : Gen m → Gen (mul m eS)
theorem Gen.det {m : Mt} (g : Gen m) : WM.det m = 1 := by
  induction g with
  | one => exact det_one
  | t k _ ih => rw [det_mul, ih, det_eT]; rfl
  | l k _ ih => rw [det_mul, ih, det_eL]; rfl
  | s _ ih => rw [det_mul, ih, det_eS]; rfl
theorem Al.gen {r : Int} {f : Fm} (h : Ind r f) {m : Mt} (g : Gen m) : Al r f (act f m) := by
  induction g with
  | one => rw [act_one]; exact Al.refl h
  | t k g ih =>
    rw [act_mul]
    have h1 := h.act g.det
    exact ih.trans h h1 (h1.act (det_eT k)) (Al.eT h1 k)
  | l k g ih =>
    rw [act_mul]
    have h1 := h.act g.det
    exact ih.trans h h1 (h1.act (det_eL k)) (Al.eL h1 k)
  | s g ih =>
    rw [act_mul]
    have h1 := h.act g.det
    exact ih.trans h h1 (h1.act det_eS) (Al.eS h1)
/-! ### the least one -/
def flt (f g : Fm) : Prop := f.a < g.a ∨ (f.a = g.a ∧ (f.b < g.b ∨ (f.b = g.b ∧ f.c < g.c)))
instance (f g : Fm) : Decidable (flt f g) := by unfold flt; infer_instance
def IsCan (r : Int) (f k : Fm) : Prop := E r f k ∧ ∀ g, E r f g → ¬ flt g k
theorem can_unique {r : Int} {f g k l : Fm} (hf : Ind r f) (hg : Ind r g) (a : Al r f g) (c1 : IsCan r f k) (c2 : IsCan r g l) : k = l := by
  have h1 := c2.2 k (a.sub hf hg c1.1)
  have h2 := c1.2 l (a.symm.sub hg hf c2.1)
  unfold flt at h1 h2
  apply Fm.eq <;> omega
end WM
namespace WM
/-! ### powers of a matrix of determinant 1 -/
def pw (G : Mt) : Nat → Mt
  | 0 => one
  | n + 1 => mul (pw G n) G
def sq (t : Int) : Nat → Int
  | 0 => 0
  | 1 => 1
  | n + 2 => t * sq t (n + 1) - sq t n
theorem sq_up {t : Int} (h : 2 ≤ t) : ∀ n, 0 ≤ sq t n ∧ sq t n + 1 ≤ sq t (n + 1)
  | 0 => ⟨Int.le_refl 0, by show (0 : Int) + 1 ≤ 1; omega⟩
  | n + 1 => by
    obtain ⟨h1, h2⟩ := sq_up h n
    have h3 := Int.mul_nonneg (show 0 ≤ t - 2 by omega) (show 0 ≤ sq t (n + 1) by omega)
    refine ⟨by omega, ?_⟩
    show sq t (n + 1) + 1 ≤ t * sq t (n + 1) - sq t n
    grind
theorem sq_lt {t : Int} (h : 2 ≤ t) {m n : Nat} (hm : m < n) : sq t m < sq t n := by
  induction n with
  | zero => omega
  | succ n ih =>
    have := (sq_up h n).2
    by_cases e : m = n
    · subst e; omega
    · have := ih (by omega); omega
theorem pw_eq {G : Mt} (hd : det G = 1) : ∀ n, pw G (n + 1) = ⟨sq (G.p + G.s) (n + 1) * G.p - sq (G.p + G.s) n, sq (G.p + G.s) (n + 1) * G.q, sq (G.p + G.s) (n + 1) * G.r, sq (G.p + G.s) (n + 1) * G.s - sq (G.p + G.s) n⟩
  | 0 => by
    show mul one G = _
    rw [one_mul]
    apply Mt.eq <;> simp [sq]
  | n + 1 => by
    show mul (pw G (n + 1)) G = _
    rw [pw_eq hd n]
    have e : sq (G.p + G.s) (n + 2) = (G.p + G.s) * sq (G.p + G.s) (n + 1) - sq (G.p + G.s) n := rfl
    unfold det at hd
    apply Mt.eq <;> simp only [mul, e] <;> grind
theorem inv_tr (G : Mt) : (inv G).p + (inv G).s = G.p + G.s := by simp only [inv]; omega
theorem pw_det {G : Mt} (hd : det G = 1) : ∀ n, det (pw G n) = 1
  | 0 => det_one
  | n + 1 => by show det (mul (pw G n) G) = 1; rw [det_mul, pw_det hd n, hd]; rfl
theorem pw_act {f : Fm} {G : Mt} (h : act f G = f) : ∀ n, act f (pw G n) = f
  | 0 => act_one f
  | n + 1 => by show act f (mul (pw G n) G) = f; rw [act_mul, pw_act h n, h]
/-- all powers -/
def zp (G : Mt) (k : Int) : Mt := if 0 ≤ k then pw G k.toNat else pw (inv G) (-k).toNat
/-- s of a whole number -/
def zs (t k : Int) : Int := if 0 ≤ k then sq t k.toNat else -sq t (-k).toNat
theorem zs_inj {t : Int} (h : 2 ≤ t) {j k : Int} (e : zs t j = zs t k) : j = k := by
  unfold zs at e
  have nn : ∀ n, 0 ≤ sq t n := fun n => (sq_up h n).1
  have z : ∀ n : Nat, 0 < n → 0 < sq t n := fun n hn => by have := sq_lt h hn; have e0 : sq t 0 = 0 := rfl; omega
  by_cases hj : 0 ≤ j <;> by_cases hk : 0 ≤ k
  · rw [if_pos hj, if_pos hk] at e
    rcases Nat.lt_trichotomy j.toNat k.toNat with h1 | h1 | h1
    · have := sq_lt h h1; omega
    · omega
    · have := sq_lt h h1; omega
  · rw [if_pos hj, if_neg hk] at e
    have := nn j.toNat; have := z (-k).toNat (by omega); omega
  · rw [if_neg hj, if_pos hk] at e
    have := nn k.toNat; have := z (-j).toNat (by omega); omega
  · rw [if_neg hj, if_neg hk] at e
    rcases Nat.lt_trichotomy (-j).toNat (-k).toNat with h1 | h1 | h1
    · have := sq_lt h h1; omega
    · omega
    · have := sq_lt h h1; omega
theorem zp_qr {G : Mt} (hd : det G = 1) (k : Int) : (zp G k).q = zs (G.p + G.s) k * G.q ∧ (zp G k).r = zs (G.p + G.s) k * G.r := by
  unfold zp zs
  by_cases hk : 0 ≤ k
  · rw [if_pos hk, if_pos hk]
    cases k.toNat with
    | zero => simp [pw, one, sq]
    | succ n => rw [pw_eq hd n]; exact ⟨rfl, rfl⟩
  · rw [if_neg hk, if_neg hk]
    obtain ⟨n, hn⟩ : ∃ n, (-k).toNat = n + 1 := ⟨(-k).toNat - 1, by omega⟩
    rw [hn, pw_eq (by rw [det_inv]; exact hd) n, inv_tr]
    simp only [inv]
    constructor <;> grind
theorem pw_tr {G : Mt} (hd : det G = 1) (ht : 2 ≤ G.p + G.s) : ∀ n, 0 < (pw G n).p + (pw G n).s
  | 0 => by show (0 : Int) < 1 + 1; omega
  | n + 1 => by
    rw [pw_eq hd n]
    dsimp only
    have h1 := sq_up ht n
    have h2 := sq_up ht (n + 1)
    have h3 : sq (G.p + G.s) (n + 1 + 1) = (G.p + G.s) * sq (G.p + G.s) (n + 1) - sq (G.p + G.s) n := rfl
    grind
theorem zp_tr {G : Mt} (hd : det G = 1) (ht : 2 ≤ G.p + G.s) (k : Int) : 0 < (zp G k).p + (zp G k).s := by
  unfold zp
  split
  · exact pw_tr hd ht _
  · exact pw_tr (by rw [det_inv]; exact hd) (by rw [inv_tr]; exact ht) _
/-- a power or its negative -/
def gz (G : Mt) (x : Bool × Int) : Mt := if x.1 then zp G x.2 else neg (zp G x.2)
theorem gz_inj {G : Mt} (hd : det G = 1) (ht : 2 ≤ G.p + G.s) (hn : G.q ≠ 0 ∨ G.r ≠ 0) {x y : Bool × Int} (e : gz G x = gz G y) : x = y := by
  obtain ⟨a, j⟩ := x
  obtain ⟨b, k⟩ := y
  have t1 := zp_tr hd ht j
  have t2 := zp_tr hd ht k
  obtain ⟨q1, r1⟩ := zp_qr hd j
  obtain ⟨q2, r2⟩ := zp_qr hd k
  have same : zp G j = zp G k → j = k := fun e => by
    have eq : zs (G.p + G.s) j * G.q = zs (G.p + G.s) k * G.q := by rw [← q1, ← q2, e]
    have er : zs (G.p + G.s) j * G.r = zs (G.p + G.s) k * G.r := by rw [← r1, ← r2, e]
    rcases hn with h | h
    · exact zs_inj ht (Int.eq_of_mul_eq_mul_right h eq)
    · exact zs_inj ht (Int.eq_of_mul_eq_mul_right h er)
  cases a <;> cases b <;> simp only [gz] at e
  · have e2 : zp G j = zp G k := by
      have := congrArg neg e
      simp only [Bool.false_eq_true, if_false, neg_neg] at this
      exact this
    rw [same e2]
  · simp only [Bool.false_eq_true, if_false, if_true] at e
    rw [← e] at t2
    simp only [neg] at t2
    omega
  · simp only [Bool.false_eq_true, if_false, if_true] at e
    rw [e] at t1
    simp only [neg] at t1
    omega
  · simp only [if_true] at e
    rw [same e]
/-! ### the law's list -/
/-- n turns from a (ahead) and b (back) -/
def turns (G : Mt) : Nat → Mt → Mt → List Mt
  | 0, _, _ => []
  | n + 1, a, b => mul a G :: mul b (inv G) :: turns G n (mul a G) (mul b (inv G))
def made (grp : List Mt) (G : Mt) : List Mt := grp ++ grp.flatMap fun m => turns G 9 m m
def idx1 (e : Bool) : List (Bool × Int) := [(e, 1), (e, -1), (e, 2), (e, -2), (e, 3), (e, -3), (e, 4), (e, -4), (e, 5), (e, -5), (e, 6), (e, -6), (e, 7), (e, -7), (e, 8), (e, -8), (e, 9), (e, -9)]
def idx : List (Bool × Int) := [(true, 0), (false, 0)] ++ (idx1 true ++ idx1 false)
theorem made_eq (G : Mt) : made [one, neg one] G = idx.map (gz G) := by
  have hn : ∀ m n : Mt, mul (neg m) n = neg (mul m n) := neg_mul
  simp only [made, turns, idx, idx1, List.flatMap_cons, List.flatMap_nil, List.append_nil, List.cons_append, List.nil_append, List.map_cons, List.map_nil, hn]
  rfl
theorem idx_nodup : idx.Nodup := by decide
theorem made_nodup {G : Mt} (hd : det G = 1) (ht : 2 ≤ G.p + G.s) (hn : G.q ≠ 0 ∨ G.r ≠ 0) : (made [one, neg one] G).Nodup := by
  rw [made_eq]
  exact List.Pairwise.map _ (fun a b hab e => hab (gz_inj hd ht hn e)) idx_nodup
theorem gz_ok {f : Fm} {G : Mt} (hd : det G = 1) (h : act f G = f) (x : Bool × Int) : det (gz G x) = 1 ∧ act f (gz G x) = f := by
  have z : ∀ k, det (zp G k) = 1 ∧ act f (zp G k) = f := fun k => by
    unfold zp
    split
    · exact ⟨pw_det hd _, pw_act h _⟩
    · exact ⟨pw_det (by rw [det_inv]; exact hd) _, pw_act (act_back hd h) _⟩
  unfold gz
  split
  · exact z x.2
  · rw [det_neg, act_neg]; exact z x.2
theorem made_ok {f : Fm} {G : Mt} (hd : det G = 1) (h : act f G = f) {m : Mt} (hm : m ∈ made [one, neg one] G) : det m = 1 ∧ act f m = f := by
  rw [made_eq] at hm
  obtain ⟨x, _, rfl⟩ := List.mem_map.mp hm
  exact gz_ok hd h x
theorem made_mem {G : Mt} {e : Bool} {k : Int} (h1 : -9 ≤ k) (h2 : k ≤ 9) : gz G (e, k) ∈ made [one, neg one] G := by
  rw [made_eq]
  refine List.mem_map.mpr ⟨(e, k), ?_, rfl⟩
  have : k = -9 ∨ k = -8 ∨ k = -7 ∨ k = -6 ∨ k = -5 ∨ k = -4 ∨ k = -3 ∨ k = -2 ∨ k = -1 ∨ k = 0 ∨ k = 1 ∨ k = 2 ∨ k = 3 ∨ k = 4 ∨ k = 5 ∨ k = 6 ∨ k = 7 ∨ k = 8 ∨ k = 9 := by omega
  cases e <;> rcases this with rfl | rfl | rfl | rfl | rfl | rfl | rfl | rfl | rfl | rfl | rfl | rfl | rfl | rfl | rfl | rfl | rfl | rfl | rfl <;> decide
end WM
namespace WM
/-! ### self-changes of an indefinite form -/
/-- without a common measure -/
def Prim (f : Fm) : Prop := ∃ x y z : Int, x * f.a + y * f.b + z * f.c = 1
theorem auto_eqs {f : Fm} {m : Mt} (hd : det m = 1) (h : act f m = f) : f.a * (m.s - m.p) = f.b * m.r ∧ f.a * m.q = -(f.c * m.r) ∧ f.c * (m.s - m.p) = -(f.b * m.q) := by
  have h1 := congrArg Fm.a h
  have h2 := congrArg Fm.b h
  have h3 := congrArg Fm.c h
  simp only [act, worth, det] at h1 h2 h3 hd
  obtain ⟨a, b, c⟩ := f
  obtain ⟨p, q, r, s⟩ := m
  simp only at *
  have k1 : (2 * a * p + b * r) * (p * s - q * r) = 2 * s * (a * p * p + b * p * r + c * r * r) - r * (2 * a * p * q + b * (p * s + q * r) + 2 * c * r * s) := by grind
  have k2 : (b * p + 2 * c * r) * (p * s - q * r) = p * (2 * a * p * q + b * (p * s + q * r) + 2 * c * r * s) - 2 * q * (a * p * p + b * p * r + c * r * r) := by grind
  have k3 : (b * q + 2 * c * s) * (p * s - q * r) = 2 * p * (a * q * q + b * q * s + c * s * s) - q * (2 * a * p * q + b * (p * s + q * r) + 2 * c * r * s) := by grind
  rw [hd, h1, h2] at k1 k2
  rw [hd, h2, h3] at k3
  refine ⟨?_, ?_, ?_⟩ <;> grind
theorem auto_form {f : Fm} {m : Mt} (hp : Prim f) (ha : f.a ≠ 0) (hd : det m = 1) (h : act f m = f) : ∃ u, m.r = f.a * u ∧ m.q = -(f.c * u) ∧ m.s - m.p = f.b * u ∧ (m.p + m.s) * (m.p + m.s) - disc f * (u * u) = 4 := by
  obtain ⟨x, y, z, e⟩ := hp
  obtain ⟨h1, h2, h3⟩ := auto_eqs hd h
  have hr : m.r = f.a * (x * m.r + y * (m.s - m.p) - z * m.q) := by
    have : m.r = (x * f.a + y * f.b + z * f.c) * m.r := by rw [e]; omega
    grind
  generalize x * m.r + y * (m.s - m.p) - z * m.q = u at hr
  have hs : m.s - m.p = f.b * u := by
    refine Int.eq_of_mul_eq_mul_left ha ?_
    rw [h1, hr]; grind
  have hq : m.q = -(f.c * u) := by
    refine Int.eq_of_mul_eq_mul_left ha ?_
    rw [h2, hr]; grind
  refine ⟨u, hr, hq, hs, ?_⟩
  unfold det at hd
  unfold disc
  have : (m.p + m.s) * (m.p + m.s) - (f.b * f.b - 4 * f.a * f.c) * (u * u) = (m.s - m.p) * (m.s - m.p) + 4 * (m.p * m.s) - (f.b * u) * (f.b * u) - 4 * ((f.a * u) * -(f.c * u)) := by grind
  rw [this, ← hs, ← hr, ← hq]
  grind
/-- the matrix of a pair -/
def scM (f : Fm) (t u : Int) : Mt := ⟨(t - f.b * u).fdiv 2, -f.c * u, f.a * u, (t + f.b * u).fdiv 2⟩
theorem scM_eq {f : Fm} {t u : Int} (h : t * t - disc f * (u * u) = 4) : ∃ p s, scM f t u = ⟨p, -f.c * u, f.a * u, s⟩ ∧ p + s = t ∧ s - p = f.b * u := by
  have hev : ∃ p, t - f.b * u = 2 * p := by
    have h1 : (t - f.b * u) * (t + f.b * u) = 4 - 4 * (f.a * f.c * (u * u)) := by unfold disc at h; grind
    have h2 : (t - f.b * u) % 2 = 0 := by
      rcases Int.emod_two_eq (t - f.b * u) with h2 | h2
      · exact h2
      · exfalso
        have h3 : (t + f.b * u) % 2 = 1 := by omega
        have h4 : ((t - f.b * u) * (t + f.b * u)) % 2 = 1 := by rw [Int.mul_emod, h2, h3]; rfl
        omega
    exact ⟨(t - f.b * u) / 2, by omega⟩
  obtain ⟨p, hp⟩ := hev
  refine ⟨p, p + f.b * u, ?_, by omega, by omega⟩
  unfold scM
  rw [hp, show t + f.b * u = 2 * (p + f.b * u) by omega, Int.mul_fdiv_cancel_left _ (by omega), Int.mul_fdiv_cancel_left _ (by omega)]
theorem scM_ok {f : Fm} {t u : Int} (h : t * t - disc f * (u * u) = 4) : det (scM f t u) = 1 ∧ act f (scM f t u) = f := by
  obtain ⟨p, s, e, h1, h2⟩ := scM_eq h
  rw [e]
  unfold disc at h
  obtain ⟨a, b, c⟩ := f
  simp only at *
  subst h1
  have hd : p * s - -c * u * (a * u) = 1 := by grind
  refine ⟨hd, ?_⟩
  simp only [act, worth, Fm.mk.injEq]
  refine ⟨?_, ?_, ?_⟩ <;> grind
/-! ### least units, by evaluation -/
def rtN (d : Nat) : Nat → Nat
  | 0 => 0
  | n + 1 => if (n + 1) * (n + 1) ≤ d then n + 1 else rtN d n
def rt (d : Int) : Int := (rtN d.toNat 12 : Nat)
def redF (r : Int) : Nat → Fm → Option Fm
  | 0, _ => none
  | n + 1, f => if RedI r f then some f else redF r n (stp r f)
def arF (r : Int) (g : Fm) : Nat → Fm → Mt → Option Mt
  | 0, _, _ => none
  | n + 1, x, m => if stp r x = g then some (mul m (stM r x)) else arF r g n (stp r x) (mul m (stM r x))
def f0 (d : Int) : Fm := ⟨1, d % 2, (d % 2 - d) / 4⟩
def luO (d : Int) : Option (Int × Int) := match redF (rt d) 60 (f0 d) with
  | some g => (match arF (rt d) g 60 g one with
    | some m => some (ab (m.p + m.s), ab (m.r.fdiv g.a))
    | none => none)
  | none => none
def lu (d : Int) : Int × Int := (luO d).getD (0, 0)
/-- all small solutions are powers -/
def smallOk (d t0 u0 : Int) : Bool := (List.range 17).all fun i => (List.range 17).all fun j =>
  let t : Int := (i : Int) - 8
  let u : Int := (j : Int) - 8
  !(decide (t * t - d * (u * u) = 4)) || (decide (t = 2 ∧ u = 0) || decide (t = -2 ∧ u = 0) || decide (t = t0 ∧ u = u0) || decide (t = t0 ∧ u = -u0) || decide (t = -t0 ∧ u = u0) || decide (t = -t0 ∧ u = -u0) ||
    decide (t = t0 * t0 - 2 ∧ u = t0 * u0) || decide (t = t0 * t0 - 2 ∧ u = -(t0 * u0)) || decide (t = -(t0 * t0 - 2) ∧ u = t0 * u0) || decide (t = -(t0 * t0 - 2) ∧ u = -(t0 * u0)))
def nonSq (d : Int) : Bool := decide (rt d * rt d < d)
def luOk (d : Int) : Bool := (luO d).isSome && (decide (3 ≤ (lu d).1) && (decide (1 ≤ (lu d).2) && (decide ((lu d).1 * (lu d).1 - d * ((lu d).2 * (lu d).2) = 4) && (smallOk d (lu d).1 (lu d).2 && decide ((lu d).1 < 2 ^ 64) && decide ((lu d).2 < 2 ^ 64)))))
def luAll : Bool := (List.range 137).all fun n => !(nonSq (n : Int) && (decide ((n : Int) % 4 = 0) || decide ((n : Int) % 4 = 1))) || luOk (n : Int)
theorem luAll_ok : luAll = true := by decide +kernel
end WM
namespace WM
def itM (r : Int) : Nat → Fm → Mt
  | 0, _ => one
  | n + 1, f => mul (itM r n f) (stM r (it r n f))
theorem itM_ok (r : Int) (f : Fm) : ∀ n, det (itM r n f) = 1 ∧ act f (itM r n f) = it r n f
  | 0 => ⟨det_one, act_one f⟩
  | n + 1 => by
    obtain ⟨h1, h2⟩ := itM_ok r f n
    refine ⟨?_, ?_⟩
    · show det (mul (itM r n f) (stM r (it r n f))) = 1
      rw [det_mul, h1, det_stM]; rfl
    · show act f (mul (itM r n f) (stM r (it r n f))) = stp r (it r n f)
      rw [act_mul, h2]; rfl
theorem redF_ok {r : Int} : ∀ (n : Nat) (f g : Fm), redF r n f = some g → ∃ k, g = it r k f ∧ RedI r g ∧ ∀ j, j < k → ¬ RedI r (it r j f)
  | 0, f, g, h => by cases h
  | n + 1, f, g, h => by
    unfold redF at h
    by_cases hr : RedI r f
    · rw [if_pos hr] at h
      cases h
      exact ⟨0, rfl, hr, fun j hj => absurd hj (Nat.not_lt_zero j)⟩
    · rw [if_neg hr] at h
      obtain ⟨k, h1, h2, h3⟩ := redF_ok n (stp r f) g h
      refine ⟨k + 1, by rw [h1, it_succ], h2, fun j hj => ?_⟩
      cases j with
      | zero => exact hr
      | succ j => rw [← it_succ]; exact h3 j (by omega)
theorem arF_ok {r : Int} {g : Fm} : ∀ (fuel i : Nat) (m : Mt), arF r g fuel (it r i g) (itM r i g) = some m → ∃ n, i < n ∧ m = itM r n g ∧ it r n g = g ∧ ∀ j, i < j → j < n → it r j g ≠ g
  | 0, i, m, h => by cases h
  | fuel + 1, i, m, h => by
    unfold arF at h
    by_cases hr : stp r (it r i g) = g
    · rw [if_pos hr] at h
      cases h
      exact ⟨i + 1, by omega, rfl, hr, fun j h1 h2 => by omega⟩
    · rw [if_neg hr] at h
      obtain ⟨n, h1, h2, h3, h4⟩ := arF_ok fuel (i + 1) m h
      refine ⟨n, by omega, h2, h3, fun j j1 j2 => ?_⟩
      by_cases e : j = i + 1
      · subst e; exact hr
      · exact h4 j (by omega) j2
/-- what the program reckons is lu -/
theorem lu_of {d : Int} {k n : Nat} (hok : (luO d).isSome = true) (h1 : RedI (rt d) (it (rt d) k (f0 d))) (h2 : ∀ j, j < k → ¬ RedI (rt d) (it (rt d) j (f0 d)))
    (h3 : 1 ≤ n) (h4 : it (rt d) n (it (rt d) k (f0 d)) = it (rt d) k (f0 d)) (h5 : ∀ j, 1 ≤ j → j < n → it (rt d) j (it (rt d) k (f0 d)) ≠ it (rt d) k (f0 d)) :
    lu d = (ab ((itM (rt d) n (it (rt d) k (f0 d))).p + (itM (rt d) n (it (rt d) k (f0 d))).s), ab ((itM (rt d) n (it (rt d) k (f0 d))).r.fdiv (it (rt d) k (f0 d)).a)) := by
  unfold luO at hok
  unfold lu luO
  cases e : redF (rt d) 60 (f0 d) with
  | none => rw [e] at hok; cases hok
  | some g =>
    rw [e] at hok
    dsimp only at hok ⊢
    obtain ⟨k', g1, g2, g3⟩ := redF_ok 60 _ _ e
    have ek : k' = k := by
      rcases Nat.lt_trichotomy k' k with h | h | h
      · exact absurd (g1 ▸ g2) (h2 k' h)
      · exact h
      · exact absurd h1 (g3 k h)
    subst ek
    cases e2 : arF (rt d) g 60 g one with
    | none => rw [e2] at hok; cases hok
    | some m =>
      dsimp only
      obtain ⟨n', m1, m2, m3, m4⟩ := arF_ok 60 0 m e2
      have en : n' = n := by
        rw [← g1] at h4 h5
        rcases Nat.lt_trichotomy n' n with h | h | h
        · exact absurd m3 (h5 n' (by omega) h)
        · exact h
        · exact absurd h4 (m4 n (by omega) h)
      subst en
      rw [m2, g1]; rfl
def rtAll : Bool := (List.range 137).all fun n => decide (rt n * rt n ≤ n) && (decide ((n : Int) < (rt n + 1) * (rt n + 1)) && decide (0 ≤ rt n))
theorem rtAll_ok : rtAll = true := by decide +kernel
theorem rt_ok {d : Int} (h0 : 0 ≤ d) (h1 : d ≤ 136) : rt d * rt d ≤ d ∧ d < (rt d + 1) * (rt d + 1) ∧ 0 ≤ rt d := by
  have h := List.all_eq_true.mp rtAll_ok d.toNat (List.mem_range.mpr (by omega))
  rw [show ((d.toNat : Nat) : Int) = d by omega] at h
  simp only [Bool.and_eq_true, decide_eq_true_eq] at h
  exact ⟨h.1, h.2.1, h.2.2⟩
theorem root_unique {d r s : Int} (hr : 0 ≤ r) (hs : 0 ≤ s) (h1 : r * r ≤ d) (h2 : d < (r + 1) * (r + 1)) (h3 : s * s ≤ d) (h4 : d < (s + 1) * (s + 1)) : r = s := by
  rcases Int.lt_trichotomy r s with h | h | h
  · have := sq_mono (show 0 ≤ r + 1 by omega) (show r + 1 ≤ s by omega); omega
  · exact h
  · have := sq_mono (show 0 ≤ s + 1 by omega) (show s + 1 ≤ r by omega); omega
theorem luOk_of {d : Int} (h0 : 0 < d) (h1 : d ≤ 136) (h2 : rt d * rt d < d) (h3 : d % 4 = 0 ∨ d % 4 = 1) : luOk d = true := by
  have h := List.all_eq_true.mp luAll_ok d.toNat (List.mem_range.mpr (by omega))
  rw [show ((d.toNat : Nat) : Int) = d by omega] at h
  simp only [Bool.or_eq_true, Bool.not_eq_true', Bool.and_eq_false_iff, nonSq, decide_eq_false_iff_not, Bool.or_eq_false_iff] at h
  rcases h with (h | h) | h
  · exact absurd h2 h
  · rcases h3 with h3 | h3
    · exact absurd h3 h.1
    · exact absurd h3 h.2
  · exact h
structure LuOk (d t u : Int) : Prop where
  some : (luO d).isSome = true
  t3 : 3 ≤ t
  u1 : 1 ≤ u
  eq : t * t - d * (u * u) = 4
  small : smallOk d t u = true
  t64 : t < 2 ^ 64
  u64 : u < 2 ^ 64
theorem lu_ok {d : Int} (h0 : 0 < d) (h1 : d ≤ 136) (h2 : rt d * rt d < d) (h3 : d % 4 = 0 ∨ d % 4 = 1) : LuOk d (lu d).1 (lu d).2 := by
  have h := luOk_of h0 h1 h2 h3
  simp only [luOk, Bool.and_eq_true, decide_eq_true_eq] at h
  obtain ⟨k1, k2, k3, k4, ⟨k5, k6⟩, k7⟩ := h
  exact ⟨k1, k2, k3, k4, k5, k6, k7⟩
theorem zp1 {G : Mt} (hd : det G = 1) : zp G 1 = G := by
  show mul one G = G
  exact one_mul G
theorem zp0 (G : Mt) : zp G 0 = one := rfl
theorem zpm1 (G : Mt) : zp G (-1) = inv G := by
  show mul one (inv G) = inv G
  exact one_mul _
theorem zp2 {G : Mt} (hd : det G = 1) : zp G 2 = ⟨(G.p + G.s) * G.p - 1, (G.p + G.s) * G.q, (G.p + G.s) * G.r, (G.p + G.s) * G.s - 1⟩ := by
  show pw G 2 = _
  rw [pw_eq hd 1]
  simp [sq]
theorem zpm2 {G : Mt} (hd : det G = 1) : zp G (-2) = ⟨(G.p + G.s) * G.s - 1, -((G.p + G.s) * G.q), -((G.p + G.s) * G.r), (G.p + G.s) * G.p - 1⟩ := by
  show pw (inv G) 2 = _
  rw [pw_eq (by rw [det_inv]; exact hd) 1, inv_tr]
  simp only [inv, sq]
  apply Mt.eq <;> dsimp only <;> grind
/-- the small self-changes of an indefinite form stand in the list -/
theorem small_made {f : Fm} {t u : Int} (hp : Prim f) (ha : f.a ≠ 0) (h5 : 5 ≤ disc f) (hu : t * t - disc f * (u * u) = 4) (hs : smallOk (disc f) t u = true) {m : Mt} (hd : det m = 1) (h : act f m = f)
    (b1 : -4 ≤ m.p ∧ m.p ≤ 4) (b2 : -4 ≤ m.s ∧ m.s ≤ 4) : m ∈ made [one, neg one] (scM f t u) := by
  obtain ⟨v, hr, hq, hsp, he⟩ := auto_form hp ha hd h
  obtain ⟨p, s, eG, e1, e2⟩ := scM_eq hu
  have dG := (scM_ok hu).1
  -- v is small
  have hv : -8 ≤ v ∧ v ≤ 8 := by
    refine Classical.byContradiction fun hn => ?_
    have k1 : 64 ≤ v * v := by
      have := sq_mono (show (0 : Int) ≤ 8 by omega) (show 8 ≤ ab v by unfold ab; omega)
      rw [ab_sq] at this; omega
    have k2 := Int.mul_nonneg (show 0 ≤ disc f - 5 by omega) (show 0 ≤ v * v by omega)
    have k3 : (m.p + m.s) * (m.p + m.s) ≤ 64 := by
      have := sq_mono (ab_nn (m.p + m.s)) (show ab (m.p + m.s) ≤ 8 by unfold ab; omega)
      rw [ab_sq] at this; omega
    grind
  have hall := List.all_eq_true.mp (List.all_eq_true.mp hs (m.p + m.s + 8).toNat (List.mem_range.mpr (by omega))) (v + 8).toNat (List.mem_range.mpr (by omega))
  rw [show (((m.p + m.s + 8).toNat : Nat) : Int) - 8 = m.p + m.s by omega, show (((v + 8).toNat : Nat) : Int) - 8 = v by omega] at hall
  simp only [Bool.or_eq_true, Bool.not_eq_true', decide_eq_false_iff_not, decide_eq_true_eq] at hall
  have Gp : (scM f t u).p = p := by rw [eG]
  have Gs : (scM f t u).s = s := by rw [eG]
  have Gq : (scM f t u).q = -f.c * u := by rw [eG]
  have Gr : (scM f t u).r = f.a * u := by rw [eG]
  have mem : ∀ (e : Bool) (k : Int), -9 ≤ k → k ≤ 9 → m = gz (scM f t u) (e, k) → m ∈ made [one, neg one] (scM f t u) := fun e k a b c => by
    rw [c]; exact made_mem a b
  have bb : f.b * (t * u) = t * (s - p) := by rw [e2]; grind
  rcases hall with hall | hall
  · exact absurd he hall
  rcases hall with ((((((((hall | hall) | hall) | hall) | hall) | hall) | hall) | hall) | hall) | hall
  · obtain ⟨h1, h2⟩ := hall
    subst h2
    refine mem true 0 (by omega) (by omega) ?_
    simp only [gz, if_true]; rw [zp0]
    apply Mt.eq <;> simp only [one] <;> simp at * <;> omega
  · obtain ⟨h1, h2⟩ := hall
    subst h2
    refine mem false 0 (by omega) (by omega) ?_
    simp only [gz, Bool.false_eq_true, if_false]; rw [zp0]
    apply Mt.eq <;> simp only [neg, one] <;> simp at * <;> omega
  · obtain ⟨h1, h2⟩ := hall
    subst h2
    refine mem true 1 (by omega) (by omega) ?_
    simp only [gz, if_true]; rw [zp1 dG]
    apply Mt.eq <;> simp only [Gp, Gq, Gr, Gs] <;> grind
  · obtain ⟨h1, h2⟩ := hall
    subst h2
    refine mem true (-1) (by omega) (by omega) ?_
    simp only [gz, if_true]; rw [zpm1]
    apply Mt.eq <;> simp only [inv, Gp, Gq, Gr, Gs] <;> grind
  · obtain ⟨h1, h2⟩ := hall
    subst h2
    refine mem false (-1) (by omega) (by omega) ?_
    simp only [gz, Bool.false_eq_true, if_false]; rw [zpm1]
    apply Mt.eq <;> simp only [neg, inv, Gp, Gq, Gr, Gs] <;> grind
  · obtain ⟨h1, h2⟩ := hall
    subst h2
    refine mem false 1 (by omega) (by omega) ?_
    simp only [gz, Bool.false_eq_true, if_false]; rw [zp1 dG]
    apply Mt.eq <;> simp only [neg, Gp, Gq, Gr, Gs] <;> grind
  · obtain ⟨h1, h2⟩ := hall
    subst h2
    refine mem true 2 (by omega) (by omega) ?_
    simp only [gz, if_true]; rw [zp2 dG]
    apply Mt.eq <;> simp only [Gp, Gq, Gr, Gs] <;> grind
  · obtain ⟨h1, h2⟩ := hall
    subst h2
    refine mem true (-2) (by omega) (by omega) ?_
    simp only [gz, if_true]; rw [zpm2 dG]
    apply Mt.eq <;> simp only [Gp, Gq, Gr, Gs] <;> grind
  · obtain ⟨h1, h2⟩ := hall
    subst h2
    refine mem false (-2) (by omega) (by omega) ?_
    simp only [gz, Bool.false_eq_true, if_false]; rw [zpm2 dG]
    apply Mt.eq <;> simp only [neg, Gp, Gq, Gr, Gs] <;> grind
  · obtain ⟨h1, h2⟩ := hall
    subst h2
    refine mem false 2 (by omega) (by omega) ?_
    simp only [gz, Bool.false_eq_true, if_false]; rw [zp2 dG]
    apply Mt.eq <;> simp only [neg, Gp, Gq, Gr, Gs] <;> grind
end WM
namespace WM
/-! ### common measures -/
theorem bez (a b : Int) : ∃ x y : Int, x * a + y * b = (Int.gcd a b : Int) := by
  have nat : ∀ m n : Nat, ∃ x y : Int, x * m + y * n = (Nat.gcd m n : Int) := by
    intro m n
    induction m, n using Nat.gcd.induction with
    | H0 n => exact ⟨0, 1, by simp⟩
    | H1 m n hm ih =>
      obtain ⟨x, y, h⟩ := ih
      refine ⟨y - x * (n / m : Nat), x, ?_⟩
      rw [Nat.gcd_rec, ← h]
      have e : (n : Int) = m * (n / m : Nat) + (n % m : Nat) := by
        have := Nat.div_add_mod n m
        rw [← Int.natCast_mul, ← Int.natCast_add, this]
      generalize ((n / m : Nat) : Int) = k at *
      generalize ((n % m : Nat) : Int) = l at *
      rw [e]; grind
  obtain ⟨x, y, h⟩ := nat a.natAbs b.natAbs
  refine ⟨if a < 0 then -x else x, if b < 0 then -y else y, ?_⟩
  have ha : (if a < 0 then -x else x) * a = x * (a.natAbs : Int) := by
    split
    · rw [show (a.natAbs : Int) = -a by omega]; grind
    · rw [show (a.natAbs : Int) = a by omega]
  have hb : (if b < 0 then -y else y) * b = y * (b.natAbs : Int) := by
    split
    · rw [show (b.natAbs : Int) = -b by omega]; grind
    · rw [show (b.natAbs : Int) = b by omega]
  rw [ha, hb]; exact h
def cont (f : Fm) : Int := (Int.gcd (Int.gcd f.a f.b) f.c : Nat)
theorem cont_nn (f : Fm) : 0 ≤ cont f := by unfold cont; omega
theorem cont_dvd (f : Fm) : cont f ∣ f.a ∧ cont f ∣ f.b ∧ cont f ∣ f.c := by
  have h1 : cont f ∣ ((Int.gcd f.a f.b : Nat) : Int) := Int.gcd_dvd_left _ _
  exact ⟨Int.dvd_trans h1 (Int.gcd_dvd_left _ _), Int.dvd_trans h1 (Int.gcd_dvd_right _ _), Int.gcd_dvd_right _ _⟩
theorem dvd_cont {f : Fm} {d : Int} (h1 : d ∣ f.a) (h2 : d ∣ f.b) (h3 : d ∣ f.c) : d ∣ cont f := Int.dvd_coe_gcd (Int.dvd_coe_gcd h1 h2) h3
theorem cont_comb (f : Fm) : ∃ x y z : Int, x * f.a + y * f.b + z * f.c = cont f := by
  obtain ⟨x, y, h⟩ := bez f.a f.b
  obtain ⟨u, v, h2⟩ := bez (Int.gcd f.a f.b) f.c
  refine ⟨u * x, u * y, v, ?_⟩
  unfold cont
  rw [← h2, ← h]; grind
theorem cont_unique {f : Fm} {g : Int} (h0 : 0 ≤ g) (h1 : g ∣ f.a) (h2 : g ∣ f.b) (h3 : g ∣ f.c) (h4 : ∃ x y z : Int, x * f.a + y * f.b + z * f.c = g) : cont f = g := by
  have a := dvd_cont h1 h2 h3
  obtain ⟨x, y, z, e⟩ := h4
  obtain ⟨d1, d2, d3⟩ := cont_dvd f
  have b : cont f ∣ g := by
    rw [← e]
    exact Int.dvd_add (Int.dvd_add (Int.dvd_trans d1 (Int.dvd_mul_left _ _)) (Int.dvd_trans d2 (Int.dvd_mul_left _ _))) (Int.dvd_trans d3 (Int.dvd_mul_left _ _))
  exact Int.dvd_antisymm (cont_nn f) h0 b a
theorem cont_act_dvd (f : Fm) (m : Mt) : cont f ∣ cont (act f m) := by
  obtain ⟨⟨a, ha⟩, ⟨b, hb⟩, ⟨c, hc⟩⟩ := cont_dvd f
  generalize cont f = g at *
  refine dvd_cont ⟨worth ⟨a, b, c⟩ m.p m.r, ?_⟩ ⟨2 * a * m.p * m.q + b * (m.p * m.s + m.q * m.r) + 2 * c * m.r * m.s, ?_⟩ ⟨worth ⟨a, b, c⟩ m.q m.s, ?_⟩ <;> simp only [act, worth, ha, hb, hc] <;> grind
theorem cont_act {f : Fm} {m : Mt} (hd : det m = 1) : cont (act f m) = cont f := by
  refine Int.dvd_antisymm (cont_nn _) (cont_nn _) ?_ (cont_act_dvd f m)
  have := cont_act_dvd (act f m) (inv m)
  rw [act_back hd rfl] at this
  exact this
def zero : Fm := ⟨0, 0, 0⟩
theorem cont_pos {f : Fm} (h : f ≠ zero) : 0 < cont f := by
  have := cont_nn f
  rcases Int.lt_or_eq_of_le this with h1 | h1
  · exact h1
  · exfalso
    obtain ⟨d1, d2, d3⟩ := cont_dvd f
    rw [← h1] at d1 d2 d3
    exact h (Fm.eq (Int.zero_dvd.mp d1) (Int.zero_dvd.mp d2) (Int.zero_dvd.mp d3))
def divd (f : Fm) (g : Int) : Fm := ⟨f.a.fdiv g, f.b.fdiv g, f.c.fdiv g⟩
theorem divd_cont {f : Fm} (h : f ≠ zero) : scal (divd f (cont f)) (cont f) = f ∧ Prim (divd f (cont f)) := by
  have hp := cont_pos h
  obtain ⟨⟨a, ha⟩, ⟨b, hb⟩, ⟨c, hc⟩⟩ := cont_dvd f
  obtain ⟨x, y, z, e⟩ := cont_comb f
  have ea : f.a.fdiv (cont f) = a := by rw [ha]; exact Int.mul_fdiv_cancel_left a (by omega)
  have eb : f.b.fdiv (cont f) = b := by rw [hb]; exact Int.mul_fdiv_cancel_left b (by omega)
  have ec : f.c.fdiv (cont f) = c := by rw [hc]; exact Int.mul_fdiv_cancel_left c (by omega)
  unfold divd
  rw [ea, eb, ec]
  refine ⟨?_, x, y, z, ?_⟩
  · apply Fm.eq <;> simp only [scal] <;> grind
  · have h2 : cont f * (x * a + y * b + z * c) = cont f * 1 := by
      rw [ha, hb, hc] at e
      generalize cont f = g at *
      grind
    exact Int.eq_of_mul_eq_mul_left (by omega) h2
theorem cont_scal {f : Fm} {g : Int} (h0 : 0 ≤ g) (hp : Prim f) : cont (scal f g) = g := by
  obtain ⟨x, y, z, e⟩ := hp
  refine cont_unique h0 (Int.dvd_mul_left _ _) (Int.dvd_mul_left _ _) (Int.dvd_mul_left _ _) ⟨x, y, z, ?_⟩
  simp only [scal]
  have : x * (f.a * g) + y * (f.b * g) + z * (f.c * g) = (x * f.a + y * f.b + z * f.c) * g := by grind
  rw [this, e]; omega
theorem prim_act {f : Fm} {m : Mt} (hp : Prim f) (hd : det m = 1) : Prim (act f m) := by
  have h1 : cont f = 1 := by
    have := cont_scal (f := f) (g := 1) (by omega) hp
    have e : scal f 1 = f := by apply Fm.eq <;> simp only [scal] <;> omega
    rw [e] at this; exact this
  obtain ⟨x, y, z, e⟩ := cont_comb (act f m)
  rw [cont_act hd, h1] at e
  exact ⟨x, y, z, e⟩
theorem scal_inj {f h : Fm} {g : Int} (hg : g ≠ 0) (e : scal f g = scal h g) : f = h := by
  simp only [scal, Fm.mk.injEq] at e
  obtain ⟨a, b, c⟩ := e
  exact Fm.eq (Int.eq_of_mul_eq_mul_right hg a) (Int.eq_of_mul_eq_mul_right hg b) (Int.eq_of_mul_eq_mul_right hg c)
/-! ### definite forms: the group -/
theorem selfs_ok {h : Fm} {o : Mt} (ho : o ∈ selfs h) : det o = 1 ∧ act h o = h := by
  have one_ok : det one = 1 ∧ act h one = h := ⟨det_one, act_one h⟩
  have h1 : ∀ k, k ∈ selfs1 h → det k = 1 ∧ act h k = h := by
    clear ho
    intro k hk
    unfold selfs1 at hk
    simp only [List.mem_append, List.mem_singleton] at hk
    rcases hk with (hk | hk) | hk
    · rw [hk]; exact one_ok
    · split at hk
      · rename_i hc
        simp only [List.mem_singleton] at hk
        subst hk
        refine ⟨by decide, ?_⟩
        obtain ⟨h1, h2⟩ := hc
        apply Fm.eq <;> simp only [act, worth] <;> omega
      · cases hk
    · split at hk
      · rename_i hc
        obtain ⟨h1, h2⟩ := hc
        simp only [List.mem_cons, List.not_mem_nil, or_false] at hk
        rcases hk with rfl | rfl
        · refine ⟨by decide, ?_⟩
          apply Fm.eq <;> simp only [act, worth] <;> omega
        · refine ⟨by decide, ?_⟩
          apply Fm.eq <;> simp only [act, worth] <;> omega
      · cases hk
  unfold selfs at ho
  rcases List.mem_append.mp ho with ho | ho
  · exact h1 o ho
  · obtain ⟨x, hx, rfl⟩ := List.mem_map.mp ho
    rw [det_neg, act_neg]; exact h1 x hx
theorem selfs_nodup (h : Fm) (ha : 0 < h.a) : (selfs h).Nodup := by
  unfold selfs selfs1
  by_cases h1 : h.a = h.c ∧ h.b = 0 <;> by_cases h2 : h.a = h.b ∧ h.b = h.c
  · omega
  · rw [if_pos h1, if_neg h2]; decide
  · rw [if_neg h1, if_pos h2]; decide
  · rw [if_neg h1, if_neg h2]; decide
theorem selfs_len {h h0 : Fm} {g : Int} (ha : 0 < h.a) (hr : RedP h) (hg : 0 < g) (hp : Prim h0) (e : h = scal h0 g) :
    ((selfs h).length : Int) = if disc h = -3 * g * g then 6 else if disc h = -4 * g * g then 4 else 2 := by
  obtain ⟨r1, r2, r3, r4⟩ := hr
  obtain ⟨a, b, c⟩ := h0
  obtain ⟨x, y, z, ep⟩ := hp
  have ea : h.a = a * g := by rw [e]; rfl
  have eb : h.b = b * g := by rw [e]; rfl
  have ec : h.c = c * g := by rw [e]; rfl
  dsimp only at ep
  rw [ea, eb] at r1 r2
  rw [ea, ec] at r3
  rw [ea] at ha
  have a0 : 0 < a := Int.pos_of_mul_pos_left ha (by omega)
  have s1 : -a < b := by
    have : -a * g < b * g := by rw [Int.neg_mul]; exact r1
    exact Int.lt_of_mul_lt_mul_right this (by omega)
  have s2 : b ≤ a := Int.le_of_mul_le_mul_right r2 hg
  have s3 : a ≤ c := Int.le_of_mul_le_mul_right r3 hg
  have gg := Int.mul_pos hg hg
  have e4 : disc h = (b * b - 4 * a * c) * (g * g) := by unfold disc; rw [ea, eb, ec]; grind
  have k1 : (disc h = -3 * g * g) ↔ (a = b ∧ b = c) := by
    rw [e4, show -3 * g * g = -3 * (g * g) by grind]
    constructor
    · intro hh
      have h3 : b * b - 4 * a * c = -3 := Int.eq_of_mul_eq_mul_right (by omega) hh
      have k2 := Int.mul_nonneg (show 0 ≤ a - b by omega) (show 0 ≤ a + b by omega)
      have k3 := Int.mul_nonneg (show 0 ≤ a by omega) (show 0 ≤ c - a by omega)
      have ha1 : a = 1 := by
        refine Classical.byContradiction fun hn => ?_
        have := sq_ge4 (x := a) (by omega)
        grind
      subst ha1
      have hb : b = 0 ∨ b = 1 := by omega
      rcases hb with rfl | rfl <;> omega
    · rintro ⟨rfl, rfl⟩
      have : a = 1 := by
        have hx : (x + y + z) * a = 1 := by grind
        rcases unit_mul hx with ⟨_, h⟩ | ⟨_, h⟩ <;> omega
      subst this; omega
  have k4 : (disc h = -4 * g * g) ↔ (a = c ∧ b = 0) := by
    rw [e4, show -4 * g * g = -4 * (g * g) by grind]
    constructor
    · intro hh
      have h3 : b * b - 4 * a * c = -4 := Int.eq_of_mul_eq_mul_right (by omega) hh
      have k2 := Int.mul_nonneg (show 0 ≤ a - b by omega) (show 0 ≤ a + b by omega)
      have k3 := Int.mul_nonneg (show 0 ≤ a by omega) (show 0 ≤ c - a by omega)
      have ha1 : a = 1 := by
        refine Classical.byContradiction fun hn => ?_
        have := sq_ge4 (x := a) (by omega)
        grind
      subst ha1
      have hb : b = 0 ∨ b = 1 := by omega
      rcases hb with rfl | rfl <;> omega
    · rintro ⟨rfl, rfl⟩
      have : a = 1 := by
        have hx : (x + z) * a = 1 := by grind
        rcases unit_mul hx with ⟨_, h⟩ | ⟨_, h⟩ <;> omega
      subst this; omega
  have c1 : (h.a = h.b ∧ h.b = h.c) ↔ (a = b ∧ b = c) := by
    rw [ea, eb, ec]
    constructor
    · rintro ⟨h1, h2⟩; exact ⟨Int.eq_of_mul_eq_mul_right (by omega) h1, Int.eq_of_mul_eq_mul_right (by omega) h2⟩
    · rintro ⟨rfl, rfl⟩; exact ⟨rfl, rfl⟩
  have c2 : (h.a = h.c ∧ h.b = 0) ↔ (a = c ∧ b = 0) := by
    rw [ea, eb, ec]
    constructor
    · rintro ⟨h1, h2⟩
      refine ⟨Int.eq_of_mul_eq_mul_right (by omega) h1, ?_⟩
      rcases Int.mul_eq_zero.mp h2 with h | h
      · exact h
      · omega
    · rintro ⟨rfl, rfl⟩; simp
  unfold selfs selfs1
  by_cases h1 : a = b ∧ b = c
  · rw [if_pos (k1.mpr h1), if_pos (c1.mpr h1), if_neg (fun z => by have := c2.mp z; omega)]
    rfl
  · rw [if_neg (fun z => h1 (k1.mp z)), if_neg (fun z => h1 (c1.mp z))]
    by_cases h2 : a = c ∧ b = 0
    · rw [if_pos (k4.mpr h2), if_pos (c2.mpr h2)]; rfl
    · rw [if_neg (fun z => h2 (k4.mp z)), if_neg (fun z => h2 (c2.mp z))]; rfl
def conj (m o : Mt) : Mt := mul (mul m o) (inv m)
theorem conj_inj {m a b : Mt} (hd : det m = 1) (e : conj m a = conj m b) : a = b := by
  have key : ∀ o, mul (mul (inv m) (conj m o)) m = o := fun o => by
    unfold conj
    rw [← mul_assoc, ← mul_assoc, inv_mul hd, one_mul, mul_assoc, inv_mul hd, mul_one]
  rw [← key a, e, key b]
theorem conj_back {m M : Mt} (hd : det m = 1) : conj m (mul (mul (inv m) M) m) = M := by
  unfold conj
  rw [← mul_assoc, ← mul_assoc, mul_inv hd, one_mul, mul_assoc, mul_inv hd, mul_one]
/-- the group of a definite form: σh = ± reduced -/
theorem grp_def {f h : Fm} {m : Mt} {k : Int} (hk : k = 1 ∨ k = -1) (hd : det m = 1) (e : act f m = scal h k) (ha : 0 < h.a) (hr : RedP h) :
    ((selfs h).map (conj m)).Nodup ∧ (∀ M ∈ (selfs h).map (conj m), det M = 1 ∧ act f M = f) ∧ ∀ M, det M = 1 → act f M = f → M ∈ (selfs h).map (conj m) := by
  have k0 : k ≠ 0 := by omega
  have back := act_back hd e
  refine ⟨List.Pairwise.map _ (fun a b hab z => hab (conj_inj hd z)) (selfs_nodup h ha), fun M hM => ?_, fun M hM ha' => ?_⟩
  · obtain ⟨o, ho, rfl⟩ := List.mem_map.mp hM
    obtain ⟨h1, h2⟩ := selfs_ok ho
    refine ⟨?_, ?_⟩
    · unfold conj; rw [det_mul, det_mul, det_inv, hd, h1]; rfl
    · unfold conj; rw [act_mul, act_mul, e, act_scal, h2, back]
  · have hdo : det (mul (mul (inv m) M) m) = 1 := by rw [det_mul, det_mul, det_inv, hd, hM]; rfl
    have hac : act h (mul (mul (inv m) M) m) = h := by
      refine scal_inj k0 ?_
      rw [← act_scal, act_mul, act_mul, back, ha', e]
    obtain ⟨_, h2⟩ := red_unique ha hr hdo (by rw [hac]; exact hr)
    exact List.mem_map.mpr ⟨_, h2, conj_back hd⟩
end WM
namespace WM
/-! ### flat forms -/
def flF (G P Q : Int) : Fm := ⟨G * P * P, 2 * G * P * Q, G * Q * Q⟩
def Cop (P Q : Int) : Prop := ∃ x y : Int, x * P + y * Q = 1
theorem flF_act (G P Q : Int) (m : Mt) : act (flF G P Q) m = flF G (P * m.p + Q * m.r) (P * m.q + Q * m.s) := by
  apply Fm.eq <;> simp only [act, worth, flF] <;> grind
theorem flF_disc (G P Q : Int) : disc (flF G P Q) = 0 := by simp only [disc, flF]; grind
theorem flF_scal (G P Q g : Int) : scal (flF G P Q) g = flF (G * g) P Q := by
  apply Fm.eq <;> simp only [scal, flF] <;> grind
theorem cop_act {P Q : Int} {m : Mt} (h : Cop P Q) (hd : det m = 1) : Cop (P * m.p + Q * m.r) (P * m.q + Q * m.s) := by
  obtain ⟨x, y, e⟩ := h
  unfold det at hd
  refine ⟨x * m.s - y * m.q, y * m.p - x * m.r, ?_⟩
  have : (x * m.s - y * m.q) * (P * m.p + Q * m.r) + (y * m.p - x * m.r) * (P * m.q + Q * m.s) = (x * P + y * Q) * (m.p * m.s - m.q * m.r) := by grind
  rw [this, e, hd]; rfl
theorem flF_cont {G P Q : Int} (h : Cop P Q) : cont (flF G P Q) = ab G := by
  obtain ⟨x, y, e⟩ := h
  have hG : ∃ k, ab G = k * G ∧ G = k * ab G ∧ k * k = 1 := by
    unfold ab
    split
    · exact ⟨-1, by omega, by omega, rfl⟩
    · exact ⟨1, by omega, by omega, rfl⟩
  obtain ⟨k, k1, k2, k3⟩ := hG
  refine cont_unique (ab_nn G) ⟨k * (P * P), ?_⟩ ⟨k * (2 * P * Q), ?_⟩ ⟨k * (Q * Q), ?_⟩ ⟨k * (x * x), k * (x * y), k * (y * y), ?_⟩
  · simp only [flF]; rw [k1]; grind
  · simp only [flF]; rw [k1]; grind
  · simp only [flF]; rw [k1]; grind
  · simp only [flF]; rw [k1]
    have : k * (x * x) * (G * P * P) + k * (x * y) * (2 * G * P * Q) + k * (y * y) * (G * Q * Q) = k * G * ((x * P + y * Q) * (x * P + y * Q)) := by grind
    rw [this, e]; omega
/-- any pair but (0, 0), over its measure -/
theorem fl_norm {G P Q : Int} (hn : ¬ (P = 0 ∧ Q = 0)) : ∃ d P' Q', 0 < d ∧ P = d * P' ∧ Q = d * Q' ∧ Cop P' Q' ∧ flF G P Q = flF (G * d * d) P' Q' := by
  obtain ⟨x, y, e⟩ := bez P Q
  obtain ⟨p, hp⟩ := Int.gcd_dvd_left P Q
  obtain ⟨q, hq⟩ := Int.gcd_dvd_right P Q
  have h0 : (0 : Int) < (Int.gcd P Q : Int) := by
    have : (Int.gcd P Q : Int) ≠ 0 := fun z => by rw [z] at hp hq; exact hn ⟨by omega, by omega⟩
    omega
  generalize (Int.gcd P Q : Int) = d at *
  refine ⟨d, p, q, h0, hp, hq, ⟨x, y, ?_⟩, ?_⟩
  · refine Int.eq_of_mul_eq_mul_left (show d ≠ 0 by omega) ?_
    rw [hp, hq] at e; grind
  · subst hp; subst hq
    apply Fm.eq <;> simp only [flF] <;> grind
def shear (P Q : Int) : Mt := ⟨1 - P * Q, -(Q * Q), P * P, 1 + P * Q⟩
theorem shear_ok (G P Q : Int) : det (shear P Q) = 1 ∧ act (flF G P Q) (shear P Q) = flF G P Q ∧ (shear P Q).p + (shear P Q).s = 2 := by
  refine ⟨by simp only [det, shear]; grind, ?_, by simp only [shear]; omega⟩
  rw [flF_act]
  have e1 : P * (shear P Q).p + Q * (shear P Q).r = P := by simp only [shear]; grind
  have e2 : P * (shear P Q).q + Q * (shear P Q).s = Q := by simp only [shear]; grind
  rw [e1, e2]
theorem sq2 : ∀ n : Nat, sq 2 n = n ∧ sq 2 (n + 1) = n + 1
  | 0 => ⟨rfl, rfl⟩
  | n + 1 => by
    obtain ⟨h1, h2⟩ := sq2 n
    refine ⟨by rw [h2]; omega, ?_⟩
    show 2 * sq 2 (n + 1) - sq 2 n = _
    rw [h1, h2]; omega
theorem shear_pw (P Q : Int) : ∀ n : Nat, pw (shear P Q) n = ⟨1 - n * (P * Q), -(n * (Q * Q)), n * (P * P), 1 + n * (P * Q)⟩
  | 0 => by show one = _; simp [one]
  | n + 1 => by
    rw [pw_eq (shear_ok 1 P Q).1 n, (shear_ok 1 P Q).2.2, (sq2 n).1, (sq2 n).2]
    have e : ((n + 1 : Nat) : Int) = (n : Int) + 1 := by omega
    rw [e]
    generalize (n : Int) = k
    apply Mt.eq <;> simp only [shear] <;> grind
theorem shear_inv_pw (P Q : Int) : ∀ n : Nat, pw (inv (shear P Q)) n = ⟨1 + n * (P * Q), n * (Q * Q), -(n * (P * P)), 1 - n * (P * Q)⟩
  | 0 => by show one = _; simp [one]
  | n + 1 => by
    rw [pw_eq (by rw [det_inv]; exact (shear_ok 1 P Q).1) n, inv_tr, (shear_ok 1 P Q).2.2, (sq2 n).1, (sq2 n).2]
    have e : ((n + 1 : Nat) : Int) = (n : Int) + 1 := by omega
    rw [e]
    generalize (n : Int) = k
    apply Mt.eq <;> simp only [inv, shear] <;> grind
theorem shear_zp (P Q k : Int) : zp (shear P Q) k = ⟨1 - k * (P * Q), -(k * (Q * Q)), k * (P * P), 1 + k * (P * Q)⟩ := by
  unfold zp
  split
  · rw [shear_pw]
    rw [show ((k.toNat : Nat) : Int) = k by omega]
  · rw [shear_inv_pw]
    rw [show (((-k).toNat : Nat) : Int) = -k by omega]
    apply Mt.eq <;> dsimp only <;> grind
theorem fl_auto1 {P Q : Int} {m : Mt} (h : Cop P Q) (hd : det m = 1) (h1 : P * m.p + Q * m.r = P) (h2 : P * m.q + Q * m.s = Q) : ∃ n, m = zp (shear P Q) n := by
  obtain ⟨x, y, e⟩ := h
  unfold det at hd
  obtain ⟨p, q, r, s⟩ := m
  simp only at *
  -- p - 1 = -Q k, r = P k; q = -Q l, s - 1 = P l
  have k1 : r = P * (x * r - y * (p - 1)) := by
    have : r = (x * P + y * Q) * r := by rw [e]; omega
    grind
  have k2 : p - 1 = -(Q * (x * r - y * (p - 1))) := by
    have : p - 1 = (x * P + y * Q) * (p - 1) := by rw [e]; omega
    grind
  have l1 : s - 1 = P * (x * (s - 1) - y * q) := by
    have : s - 1 = (x * P + y * Q) * (s - 1) := by rw [e]; omega
    grind
  have l2 : q = -(Q * (x * (s - 1) - y * q)) := by
    have : q = (x * P + y * Q) * q := by rw [e]; omega
    grind
  generalize x * r - y * (p - 1) = k at *
  generalize x * (s - 1) - y * q = l at *
  have hp : p = 1 - Q * k := by omega
  have hs : s = 1 + P * l := by omega
  have pl : P * l = Q * k := by rw [hp, hs, k1, l2] at hd; grind
  have n1 : k = P * (x * k + y * l) := by
    have : k = (x * P + y * Q) * k := by rw [e]; omega
    grind
  have n2 : l = Q * (x * k + y * l) := by
    have : l = (x * P + y * Q) * l := by rw [e]; omega
    grind
  generalize x * k + y * l = n at *
  refine ⟨n, ?_⟩
  rw [shear_zp]
  apply Mt.eq <;> dsimp only <;> grind
theorem fl_auto {G P Q : Int} {m : Mt} (hG : G ≠ 0) (h : Cop P Q) (hd : det m = 1) (e : act (flF G P Q) m = flF G P Q) : ∃ x : Bool × Int, m = gz (shear P Q) x := by
  rw [flF_act] at e
  simp only [flF, Fm.mk.injEq] at e
  obtain ⟨e1, e2, e3⟩ := e
  have a1 : (P * m.p + Q * m.r) * (P * m.p + Q * m.r) = P * P := by
    refine Int.eq_of_mul_eq_mul_left hG ?_
    rw [← Int.mul_assoc, ← Int.mul_assoc]; exact e1
  have a2 : (P * m.p + Q * m.r) * (P * m.q + Q * m.s) = P * Q := by
    refine Int.eq_of_mul_eq_mul_left (show 2 * G ≠ 0 by omega) ?_
    rw [← Int.mul_assoc, ← Int.mul_assoc]; exact e2
  have a3 : (P * m.q + Q * m.s) * (P * m.q + Q * m.s) = Q * Q := by
    refine Int.eq_of_mul_eq_mul_left hG ?_
    rw [← Int.mul_assoc, ← Int.mul_assoc]; exact e3
  have sg : (P * m.p + Q * m.r = P ∧ P * m.q + Q * m.s = Q) ∨ (P * m.p + Q * m.r = -P ∧ P * m.q + Q * m.s = -Q) := by
    generalize P * m.p + Q * m.r = A at *
    generalize P * m.q + Q * m.s = B at *
    have fA : (A - P) * (A + P) = 0 := by grind
    have fB : (B - Q) * (B + Q) = 0 := by grind
    rcases Int.mul_eq_zero.mp fA with hA | hA <;> rcases Int.mul_eq_zero.mp fB with hB | hB
    · left; omega
    · have z1 : A = P := by omega
      have z2 : B = -Q := by omega
      subst z1; subst z2
      have : A * Q = 0 := by grind
      rcases Int.mul_eq_zero.mp this with z | z
      · right; omega
      · left; omega
    · have z1 : A = -P := by omega
      have z2 : B = Q := by omega
      subst z1; subst z2
      have : P * B = 0 := by grind
      rcases Int.mul_eq_zero.mp this with z | z
      · left; omega
      · right; omega
    · right; omega
  rcases sg with ⟨s1, s2⟩ | ⟨s1, s2⟩
  · obtain ⟨n, hn⟩ := fl_auto1 h hd s1 s2
    exact ⟨(true, n), by simp only [gz, if_true]; exact hn⟩
  · obtain ⟨n, hn⟩ := fl_auto1 (m := neg m) h (by rw [det_neg]; exact hd) (by simp only [neg]; grind) (by simp only [neg]; grind)
    refine ⟨(false, n), ?_⟩
    simp only [gz, Bool.false_eq_true, if_false]
    rw [← hn, neg_neg]
theorem cop_nz {P Q : Int} (h : Cop P Q) : ¬ (P = 0 ∧ Q = 0) := by
  rintro ⟨rfl, rfl⟩
  obtain ⟨x, y, e⟩ := h
  simp at e
theorem fl_small {G P Q : Int} {m : Mt} (hG : G ≠ 0) (h : Cop P Q) (hd : det m = 1) (e : act (flF G P Q) m = flF G P Q) (b1 : -4 ≤ m.q ∧ m.q ≤ 4) (b2 : -4 ≤ m.r ∧ m.r ≤ 4) : m ∈ made [one, neg one] (shear P Q) := by
  obtain ⟨⟨b, n⟩, hx⟩ := fl_auto hG h hd e
  have key : -9 ≤ n ∧ n ≤ 9 := by
    have e1 : m.q = -(n * (Q * Q)) ∨ m.q = n * (Q * Q) := by
      rw [hx]; unfold gz; split
      · rw [shear_zp]; left; rfl
      · rw [shear_zp]; right; simp only [neg]; omega
    have e2 : m.r = n * (P * P) ∨ m.r = -(n * (P * P)) := by
      rw [hx]; unfold gz; split
      · rw [shear_zp]; left; rfl
      · rw [shear_zp]; right; simp only [neg]
    have bnd : ∀ k : Int, 1 ≤ k → -4 ≤ n * k → n * k ≤ 4 → -9 ≤ n ∧ n ≤ 9 := by
      intro k hk h1 h2
      refine ⟨Classical.byContradiction fun hn => ?_, Classical.byContradiction fun hn => ?_⟩
      · have := Int.mul_nonneg (show 0 ≤ -n - 5 by omega) (show 0 ≤ k by omega)
        grind
      · have := Int.mul_nonneg (show 0 ≤ n - 5 by omega) (show 0 ≤ k by omega)
        grind
    by_cases hP : P = 0
    · have hQ : Q ≠ 0 := fun z => cop_nz h ⟨hP, z⟩
      exact bnd (Q * Q) (sq_pos hQ) (by omega) (by omega)
    · exact bnd (P * P) (sq_pos hP) (by omega) (by omega)
  rw [hx]
  exact made_mem key.1 key.2
theorem shear_nodup {P Q : Int} (h : Cop P Q) : (made [one, neg one] (shear P Q)).Nodup := by
  refine made_nodup (shear_ok 1 P Q).1 (by rw [(shear_ok 1 P Q).2.2]; omega) ?_
  by_cases hP : P = 0
  · have hQ : Q ≠ 0 := fun z => cop_nz h ⟨hP, z⟩
    have := sq_pos hQ
    left; simp only [shear]; omega
  · have := sq_pos hP
    right; simp only [shear]; omega
/-! ### split forms -/
theorem split_core {k c c' : Int} {m : Mt} (hk : 0 < k) (hd : det m = 1) (e : act ⟨0, k, c⟩ m = ⟨0, k, c'⟩) : ∃ n, (m = ⟨1, n, 0, 1⟩ ∨ m = ⟨-1, -n, 0, -1⟩) ∧ c' = c + k * n := by
  obtain ⟨p, q, r, s⟩ := m
  simp only [act, worth, det, Fm.mk.injEq] at *
  obtain ⟨e1, e2, e3⟩ := e
  have f1 : r * (k * p + c * r) = 0 := by grind
  rcases Int.mul_eq_zero.mp f1 with hr | hr
  · subst hr
    rcases unit_mul (show p * s = 1 by omega) with ⟨rfl, rfl⟩ | ⟨rfl, rfl⟩
    · exact ⟨q, .inl rfl, by grind⟩
    · refine ⟨-q, .inr ?_, by grind⟩
      simp
  · exfalso
    have : k * (q * r - p * s) = k := by grind
    have h2 : k * (q * r - p * s) = k * (-1) := by rw [show q * r - p * s = -1 by omega]
    omega
theorem split_unique {k c c' : Int} {m : Mt} (hk : 0 < k) (hd : det m = 1) (e : act ⟨0, k, c⟩ m = ⟨0, k, c'⟩) (h1 : 0 ≤ c) (h2 : c < k) (h3 : 0 ≤ c') (h4 : c' < k) : c = c' := by
  obtain ⟨n, _, hc⟩ := split_core hk hd e
  rcases Int.lt_trichotomy n 0 with h | h | h
  · have := Int.mul_nonneg (show 0 ≤ k by omega) (show 0 ≤ -1 - n by omega)
    grind
  · subst h; omega
  · have := Int.mul_nonneg (show 0 ≤ k by omega) (show 0 ≤ n - 1 by omega)
    grind
theorem split_auto {f : Fm} {m M : Mt} {k c : Int} (hk : 0 < k) (hd : det m = 1) (e : act f m = ⟨0, k, c⟩) (hM : det M = 1) (h : act f M = f) : M = one ∨ M = neg one := by
  have back := act_back hd e
  have hdo : det (mul (mul (inv m) M) m) = 1 := by rw [det_mul, det_mul, det_inv, hd, hM]; rfl
  have hac : act ⟨0, k, c⟩ (mul (mul (inv m) M) m) = ⟨0, k, c⟩ := by
    rw [act_mul, act_mul, back, h, e]
  obtain ⟨n, h1, h2⟩ := split_core hk hdo hac
  have hn : n = 0 := by
    have : k * n = 0 := by omega
    rcases Int.mul_eq_zero.mp this with z | z
    · omega
    · exact z
  subst hn
  rcases h1 with h1 | h1
  · left
    have := conj_back (M := M) hd
    rw [h1] at this
    rw [← this]
    show mul (mul m one) (inv m) = one
    rw [mul_one, mul_inv hd]
  · right
    have := conj_back (M := M) hd
    rw [h1] at this
    rw [← this]
    show mul (mul m (neg one)) (inv m) = neg one
    rw [mul_neg, mul_one, neg_mul, mul_inv hd]
/-- a direction at which the form is 0 -/
def Dir (f : Fm) (k x y : Int) : Prop := 2 * f.a * x + f.b * y = -(k * y) ∧ f.b * x + 2 * f.c * y = k * x
theorem Dir.act {f : Fm} {k x y u v : Int} (h : Dir f k x y) (e : u * x + v * y = 1) : (act f ⟨x, -v, y, u⟩).a = 0 ∧ (act f ⟨x, -v, y, u⟩).b = k ∧ det ⟨x, -v, y, u⟩ = 1 := by
  obtain ⟨h1, h2⟩ := h
  obtain ⟨a, b, c⟩ := f
  simp only [WM.act, worth, det] at *
  refine ⟨?_, ?_, ?_⟩
  · have : 2 * (a * x * x + b * x * y + c * y * y) = x * (2 * a * x + b * y) + y * (b * x + 2 * c * y) := by grind
    rw [h1, h2] at this; grind
  · have : 2 * a * x * -v + b * (x * u + -v * y) + 2 * c * y * u = u * (b * x + 2 * c * y) - v * (2 * a * x + b * y) := by grind
    rw [this, h1, h2]; grind
  · grind
theorem Dir.cancel {f : Fm} {k x y e : Int} (he : e ≠ 0) (h : Dir f k (e * x) (e * y)) : Dir f k x y := by
  obtain ⟨h1, h2⟩ := h
  refine ⟨Int.eq_of_mul_eq_mul_left he ?_, Int.eq_of_mul_eq_mul_left he ?_⟩ <;> grind
theorem dir1 {f : Fm} {k : Int} (h : disc f = k * k) : Dir f (-k) (k - f.b) (2 * f.a) := by
  unfold disc at h
  unfold Dir
  constructor <;> grind
theorem dir2 {f : Fm} {k : Int} (h : disc f = k * k) : Dir f k (-k - f.b) (2 * f.a) := by
  unfold disc at h
  unfold Dir
  constructor <;> grind
theorem dir3 {f : Fm} {k : Int} (ha : f.a = 0) (hb : f.b = k) : Dir f k 1 0 := by
  unfold Dir; constructor <;> rw [hb] <;> omega
theorem dir4 {f : Fm} {k : Int} (ha : f.a = 0) (hb : f.b = -k) : Dir f k (-f.c) f.b := by
  unfold Dir; constructor <;> rw [hb] <;> grind
theorem sq_eq {b k : Int} (hk : 0 < k) (h : b * b = k * k) : b = k ∨ b = -k := by
  have : (b - k) * (b + k) = 0 := by grind
  rcases Int.mul_eq_zero.mp this with h | h <;> omega
theorem split_step {f : Fm} {m : Mt} {k c : Int} (hk : 0 < k) (e : act f m = ⟨0, k, c⟩) : act f (mul m ⟨1, -(c.fdiv k), 0, 1⟩) = ⟨0, k, c % k⟩ ∧ 0 ≤ c % k ∧ c % k < k := by
  refine ⟨?_, Int.emod_nonneg c (by omega), Int.emod_lt_of_pos c hk⟩
  rw [act_mul, e]
  have h := Int.emod_add_mul_ediv c k
  rw [Int.fdiv_eq_ediv_of_nonneg c (by omega)]
  generalize c / k = n at *
  generalize c % k = l at *
  apply Fm.eq <;> simp only [act, worth] <;> grind
end WM
namespace WM
theorem fdiv_spec {x y : Int} (hy : y ≠ 0) : ∃ r, x = y * x.fdiv y + r ∧ (0 < y → 0 ≤ r ∧ r < y) ∧ (y < 0 → y < r ∧ r ≤ 0) := by
  rcases Int.lt_or_gt_of_ne hy with h | h
  · have e := Int.neg_fdiv_neg x y
    rw [← e, Int.fdiv_eq_ediv_of_nonneg (-x) (show 0 ≤ -y by omega)]
    have h1 := Int.emod_add_mul_ediv (-x) (-y)
    have h2 := Int.emod_nonneg (-x) (show -y ≠ 0 by omega)
    have h3 := Int.emod_lt_of_pos (-x) (show 0 < -y by omega)
    refine ⟨-((-x) % (-y)), ?_, fun h => by omega, fun _ => by omega⟩
    generalize -x / -y = q at *
    grind
  · rw [Int.fdiv_eq_ediv_of_nonneg x (show 0 ≤ y by omega)]
    have h1 := Int.emod_add_mul_ediv x y
    have h2 := Int.emod_nonneg x (show y ≠ 0 by omega)
    have h3 := Int.emod_lt_of_pos x (show 0 < y by omega)
    exact ⟨x % y, by omega, fun _ => ⟨h2, h3⟩, fun h => by omega⟩
theorem fdiv_ab {x y : Int} (hy : y ≠ 0) : ab (x.fdiv y) ≤ ab x + 1 := by
  obtain ⟨r, h1, h2, h3⟩ := fdiv_spec (x := x) hy
  have hp := ab_pos hy
  have e := ab_mul y (x.fdiv y)
  refine Classical.byContradiction fun hn => ?_
  have k2 := Int.mul_nonneg (show 0 ≤ ab y - 1 by omega) (show 0 ≤ ab (x.fdiv y) - 1 by have := ab_nn x; omega)
  have k3 : ab (y * x.fdiv y) ≤ ab x + ab y - 1 := by
    rcases Int.lt_or_gt_of_ne hy with h | h
    · have := h3 h; unfold ab at *; omega
    · have := h2 h; unfold ab at *; omega
  rw [e] at k3
  have := ab_nn x
  grind
structure BI (a b low lu lv high hu hv : Int) : Prop where
  el : lu * a + lv * b = low
  eh : hu * a + hv * b = high
  g : Int.gcd low high = Int.gcd a b
  st : (lu = 1 ∧ lv = 0 ∧ hu = 0 ∧ hv = 1) ∨ (((0 < low ∧ 0 ≤ high ∧ high < low) ∨ (low < 0 ∧ high ≤ 0 ∧ low < high)) ∧ ((lu ≤ 0 ∧ 0 ≤ hu) ∨ (0 ≤ lu ∧ hu ≤ 0)) ∧ ab lu * ab high + ab hu * ab low = ab b ∧ ab lu ≤ ab b)
  lw : ab low ≤ ab a + ab b
  hw : ab high ≤ ab b
theorem BI.start (a b : Int) : BI a b a 1 0 b 0 1 := ⟨by omega, by omega, rfl, .inl ⟨rfl, rfl, rfl, rfl⟩, by have := ab_nn b; omega, Int.le_refl _⟩
theorem BI.step {a b low lu lv high hu hv : Int} (h : BI a b low lu lv high hu hv) (hz : high ≠ 0) :
    BI a b high hu hv (low - low.fdiv high * high) (lu - low.fdiv high * hu) (lv - low.fdiv high * hv) ∧ (low - low.fdiv high * high).natAbs < high.natAbs := by
  obtain ⟨el, eh, g, st, lw, hw⟩ := h
  obtain ⟨r, h1, h2, h3⟩ := fdiv_spec (x := low) hz
  have er : low - low.fdiv high * high = r := by grind
  have hr : r.natAbs < high.natAbs := by
    rcases Int.lt_or_gt_of_ne hz with h | h
    · have := h3 h; omega
    · have := h2 h; omega
  rw [er]
  refine ⟨⟨eh, by rw [← er]; grind, ?_, ?_, by have := ab_nn a; omega, by unfold ab at *; omega⟩, hr⟩
  · rw [← er, Int.gcd_sub_mul_right_right, Int.gcd_comm]; exact g
  · right
    have sgn : (0 < high ∧ 0 ≤ r ∧ r < high) ∨ (high < 0 ∧ r ≤ 0 ∧ high < r) := by
      rcases Int.lt_or_gt_of_ne hz with h | h
      · have := h3 h; omega
      · have := h2 h; omega
    refine ⟨sgn, ?_⟩
    generalize hp : low.fdiv high = part at *
    rcases st with ⟨rfl, rfl, rfl, rfl⟩ | ⟨s1, s2, s3, s4⟩
    · simp only [Int.mul_zero, Int.sub_zero, Int.zero_mul, Int.zero_add, Int.one_mul] at *
      refine ⟨.inl ⟨by omega, by omega⟩, ?_, ?_⟩
      · rw [← eh]; unfold ab; simp
      · unfold ab; simp; split <;> omega
    · have hpart : 1 ≤ part := by
        refine Classical.byContradiction fun hn => ?_
        rcases s1 with s1 | s1
        · have := Int.mul_nonneg (show 0 ≤ high by omega) (show 0 ≤ -part by omega)
          grind
        · have := Int.mul_nonneg (show 0 ≤ -high by omega) (show 0 ≤ -part by omega)
          grind
      have q1 := Int.mul_nonneg (show 0 ≤ part by omega) (ab_nn hu)
      have ahu : ab hu ≤ ab b := by
        have k1 := Int.mul_nonneg (ab_nn lu) (ab_nn high)
        have k2 := Int.mul_nonneg (ab_nn hu) (show 0 ≤ ab low - 1 by unfold ab; omega)
        grind
      have asub : ab (lu - part * hu) = ab lu + part * ab hu := by
        rcases s2 with ⟨a1, a2⟩ | ⟨a1, a2⟩
        · have := Int.mul_nonneg (show 0 ≤ part by omega) a2
          unfold ab
          rw [if_neg (show ¬ hu < 0 by omega)]
          split <;> split <;> omega
        · have := Int.mul_nonneg (show 0 ≤ part by omega) (show 0 ≤ -hu by omega)
          have e2 : part * -hu = -(part * hu) := by grind
          by_cases hh : hu < 0
          · unfold ab; rw [if_pos hh, e2]
            split <;> split <;> omega
          · have : hu = 0 := by omega
            subst this
            unfold ab; simp
      have ar : ab r = ab low - part * ab high := by
        have e3 : r = low - high * part := by omega
        rcases s1 with s1 | s1
        · unfold ab
          rw [if_neg (show ¬ r < 0 by omega), if_neg (show ¬ low < 0 by omega), if_neg (show ¬ high < 0 by omega)]; grind
        · rcases sgn with s | s
          · omega
          · unfold ab
            rw [if_pos (show low < 0 by omega), if_pos (show high < 0 by omega)]
            by_cases hh : r < 0
            · rw [if_pos hh]; grind
            · rw [if_neg hh]; grind
      refine ⟨?_, ?_, ahu⟩
      · rcases s2 with ⟨a1, a2⟩ | ⟨a1, a2⟩
        · right
          have := Int.mul_nonneg (show 0 ≤ part by omega) a2
          omega
        · left
          have := Int.mul_nonneg (show 0 ≤ part by omega) (show 0 ≤ -hu by omega)
          have e2 : part * -hu = -(part * hu) := by grind
          omega
      · rw [asub, ar]; grind
theorem BI.done {a b low lu lv hu hv : Int} (h : BI a b low lu lv 0 hu hv) : ab low = (Int.gcd a b : Int) ∧ ab lu ≤ ab b + 1 ∧ ab lv ≤ ab a + 1 := by
  obtain ⟨el, eh, g, st, _, _⟩ := h
  have eg : ab low = (Int.gcd a b : Int) := by
    rw [Int.gcd_zero_right] at g
    rw [← g]; unfold ab; split <;> omega
  have hu' : ab lu ≤ ab b + 1 := by
    rcases st with ⟨rfl, rfl, rfl, rfl⟩ | ⟨s1, s2, s3, s4⟩
    · have := ab_nn b
      have : ab (1 : Int) = 1 := rfl
      omega
    · omega
  refine ⟨eg, hu', ?_⟩
  rcases st with ⟨rfl, rfl, rfl, rfl⟩ | ⟨s1, s2, s3, s4⟩
  · have := ab_nn a
    have : ab (0 : Int) = 0 := rfl
    omega
  · by_cases hb : b = 0
    · subst hb
      have h1 : ab hu * ab low = 0 := by
        have : ab (0 : Int) = 0 := rfl
        rw [this, Int.mul_zero] at s3; omega
      have h2 : ab lu = 0 := by have := ab_nn lu; have : ab (0 : Int) = 0 := rfl; omega
      have h3 : lu = 0 := by unfold ab at h2; omega
      subst h3
      have : low = 0 := by omega
      omega
    · -- |lv| |b| <= |low| + |lu| |a| <= |b| + |b| |a|
      have hp := ab_pos hb
      have l1 : ab low ≤ ab b := by
        rw [eg]
        have := Int.gcd_dvd_right a b
        have h2 := Int.le_of_dvd (show 0 < ab b by omega) (show (Int.gcd a b : Int) ∣ ab b by unfold ab; split; exact Int.dvd_neg.mpr this; exact this)
        exact h2
      have e1 : lv * b = low - lu * a := by omega
      have e2 : ab (lv * b) ≤ ab low + ab (lu * a) := by rw [e1]; unfold ab; omega
      rw [ab_mul, ab_mul] at e2
      have k := Int.mul_nonneg (show 0 ≤ ab b - ab lu by omega) (ab_nn a)
      refine Classical.byContradiction fun hn => ?_
      have k2 := Int.mul_nonneg (show 0 ≤ ab lv - ab a - 2 by omega) (ab_nn b)
      grind
end WM
namespace WM
structure PosD (f : Fm) : Prop where
  a : 0 < f.a
  d : disc f < 0
theorem PosD.c {f : Fm} (h : PosD f) : 0 < f.c := by
  obtain ⟨h1, h2⟩ := h
  unfold disc at h2
  have := sq_nn f.b
  refine Classical.byContradiction fun hn => ?_
  have := Int.mul_nonneg (show 0 ≤ f.a by omega) (show 0 ≤ -f.c by omega)
  grind
def dm (f : Fm) : Int := 4 * f.a + (if -f.a < f.b ∧ f.b ≤ f.a then 0 else 2) + (if f.a = f.c ∧ f.b < 0 then 1 else 0)
def dturn (f : Fm) : Prop := f.c < f.a ∨ (f.a = f.c ∧ f.b < 0)
instance (f : Fm) : Decidable (dturn f) := by unfold dturn; infer_instance
theorem dm_turn {f : Fm} (h : PosD f) (ht : dturn f) : PosD (act f eS) ∧ dm (act f eS) < dm f ∧ (act f eS).a ≤ f.a ∧ (act f eS).a = f.c ∧ (act f eS).c = f.a := by
  have hc := h.c
  have ha := h.a
  have hd : disc (act f eS) = disc f := by rw [disc_act]; rw [det_eS]; omega
  have e := act_eS f
  refine ⟨⟨by rw [e]; exact hc, by rw [hd]; exact h.d⟩, ?_, ?_, by rw [e], by rw [e]⟩
  · rw [e]
    unfold dm dturn at *
    dsimp only
    split <;> split <;> split <;> split <;> omega
  · rw [e]; unfold dturn at ht; dsimp only; omega
theorem tnum {a b : Int} (ha : 0 < a) : -a < b + 2 * a * (a - b).fdiv (2 * a) ∧ b + 2 * a * (a - b).fdiv (2 * a) ≤ a := by
  obtain ⟨r, h1, h2, _⟩ := fdiv_spec (x := a - b) (y := 2 * a) (by omega)
  have := h2 (by omega)
  omega
theorem dm_shift {f : Fm} (h : PosD f) (hn : ¬ RedP f) (ht : ¬ dturn f) : PosD (act f (eT ((f.a - f.b).fdiv (2 * f.a)))) ∧ dm (act f (eT ((f.a - f.b).fdiv (2 * f.a)))) < dm f ∧ (act f (eT ((f.a - f.b).fdiv (2 * f.a)))).a = f.a ∧ (act f (eT ((f.a - f.b).fdiv (2 * f.a)))).c ≤ f.c := by
  have ha := h.a
  obtain ⟨t1, t2⟩ := tnum (b := f.b) ha
  generalize ht' : (f.a - f.b).fdiv (2 * f.a) = t at *
  have hd : disc (act f (eT t)) = disc f := by rw [disc_act]; rw [det_eT]; omega
  have e := act_eT f t
  have ea : (act f (eT t)).a = f.a := by rw [e]
  have eb : (act f (eT t)).b = f.b + 2 * f.a * t := by rw [e]
  have nb : ¬ (-f.a < f.b ∧ f.b ≤ f.a) := by unfold RedP dturn at *; omega
  refine ⟨⟨by rw [ea]; exact ha, by rw [hd]; exact h.d⟩, ?_, ea, ?_⟩
  · unfold dm
    rw [ea, eb, if_neg nb, if_pos ⟨t1, t2⟩]
    split <;> split <;> omega
  · unfold disc at hd
    rw [ea] at hd
    have s : (act f (eT t)).b * (act f (eT t)).b ≤ f.b * f.b := by
      rw [eb]
      have := sq_mono (ab_nn (f.b + 2 * f.a * t)) (show ab (f.b + 2 * f.a * t) ≤ ab f.b by unfold ab; omega)
      rw [ab_sq, ab_sq] at this
      exact this
    refine Classical.byContradiction fun hx => ?_
    have := Int.mul_nonneg (show 0 ≤ f.a by omega) (show 0 ≤ (act f (eT t)).c - f.c - 1 by omega)
    generalize (act f (eT t)).c = c' at *
    generalize (act f (eT t)).b = b' at *
    grind
theorem RedP_noturn {f : Fm} (h : RedP f) : ¬ dturn f := by unfold RedP dturn at *; omega
/-- the numbers of a change between two positive forms -/
theorem ent {f : Fm} {x y v B : Int} (h : PosD f) (ha : f.a ≤ B) (hc : f.c ≤ B) (e : worth f x y = v) (hv : v ≤ B) (hB : 0 ≤ B) : ab x ≤ 2 * B ∧ ab y ≤ 2 * B := by
  have a0 := h.a
  have c0 := h.c
  have d0 := h.d
  unfold disc at d0
  unfold worth at e
  have key : ∀ (p z w : Int), 0 < p → p ≤ B → z * z ≤ 4 * p * v → ab z ≤ 2 * B := by
    intro p z w hp hpB hz
    refine Classical.byContradiction fun hn => ?_
    have k1 := sq_mono (show 0 ≤ 2 * B + 1 by omega) (show 2 * B + 1 ≤ ab z by omega)
    rw [ab_sq] at k1
    have k2 : p * v ≤ B * B := by
      rcases Int.lt_or_le v 0 with hv0 | hv0
      · have := Int.mul_nonneg (show 0 ≤ p by omega) (show 0 ≤ -v by omega)
        have := sq_nn B
        grind
      · exact Int.mul_le_mul hpB hv hv0 hB
    grind
  refine ⟨key f.c x 0 c0 hc ?_, key f.a y 0 a0 ha ?_⟩
  · have k1 := sq_nn (2 * f.c * y + f.b * x)
    have k2 := Int.mul_nonneg (show 0 ≤ 4 * f.a * f.c - f.b * f.b - 1 by omega) (sq_nn x)
    rw [← e]; grind
  · have k1 := sq_nn (2 * f.a * x + f.b * y)
    have k2 := Int.mul_nonneg (show 0 ≤ 4 * f.a * f.c - f.b * f.b - 1 by omega) (sq_nn y)
    rw [← e]; grind
theorem posd_b {f : Fm} {B : Int} (h : PosD f) (ha : f.a ≤ B) (hc : f.c ≤ B) (hB : 0 ≤ B) : ab f.b ≤ 2 * B := by
  have a0 := h.a
  have c0 := h.c
  have d0 := h.d
  unfold disc at d0
  refine Classical.byContradiction fun hn => ?_
  have k1 := sq_mono (show 0 ≤ 2 * B + 1 by omega) (show 2 * B + 1 ≤ ab f.b by omega)
  rw [ab_sq] at k1
  have := Int.mul_le_mul ha hc (by omega) hB
  grind
/-- the loop's word -/
structure DI (f0 f : Fm) (m : Mt) (B : Int) : Prop where
  d : det m = 1
  e : act f0 m = f
  p : PosD f
  a : f.a ≤ B
  c : f.c ≤ B
theorem DI.start {f0 : Fm} {B : Int} (h : PosD f0) (ha : f0.a ≤ B) (hc : f0.c ≤ B) : DI f0 f0 one B := ⟨det_one, act_one f0, h, ha, hc⟩
theorem DI.turn {f0 f : Fm} {m : Mt} {B : Int} (h : DI f0 f m B) (ht : dturn f) : DI f0 (act f eS) (mul m eS) B ∧ dm (act f eS) < dm f := by
  obtain ⟨k1, k2, k3, k4, k5⟩ := dm_turn h.p ht
  exact ⟨⟨by rw [det_mul, h.d, det_eS]; rfl, by rw [act_mul, h.e], k1, by rw [k4]; exact h.c, by rw [k5]; exact h.a⟩, k2⟩
theorem DI.shift {f0 f : Fm} {m : Mt} {B : Int} (h : DI f0 f m B) (hn : ¬ RedP f) (ht : ¬ dturn f) :
    DI f0 (act f (eT ((f.a - f.b).fdiv (2 * f.a)))) (mul m (eT ((f.a - f.b).fdiv (2 * f.a)))) B ∧ dm (act f (eT ((f.a - f.b).fdiv (2 * f.a)))) < dm f := by
  obtain ⟨k1, k2, k3, k4⟩ := dm_shift h.p hn ht
  exact ⟨⟨by rw [det_mul, h.d, det_eT]; rfl, by rw [act_mul, h.e], k1, by rw [k3]; exact h.a, Int.le_trans k4 h.c⟩, k2⟩
theorem DI.ent {f0 f : Fm} {m : Mt} {B : Int} (h0 : PosD f0) (ha : f0.a ≤ B) (hc : f0.c ≤ B) (hB : 0 ≤ B) (h : DI f0 f m B) : ab m.p ≤ 2 * B ∧ ab m.q ≤ 2 * B ∧ ab m.r ≤ 2 * B ∧ ab m.s ≤ 2 * B := by
  have e1 : worth f0 m.p m.r = f.a := congrArg Fm.a h.e
  have e2 : worth f0 m.q m.s = f.c := congrArg Fm.c h.e
  obtain ⟨k1, k2⟩ := WM.ent h0 ha hc e1 h.a hB
  obtain ⟨k3, k4⟩ := WM.ent h0 ha hc e2 h.c hB
  exact ⟨k1, k3, k2, k4⟩
theorem dm_nn {f : Fm} (h : PosD f) : 0 ≤ dm f := by
  have := h.a
  unfold dm
  split <;> split <;> omega
end WM
namespace WM
/-! ### sizes along the steps -/
structure Bd (B : Int) (f : Fm) : Prop where
  a : ab f.a ≤ B
  b : ab f.b ≤ B
  c : ab f.c ≤ B
theorem r_sq {r : Int} (h : 1 ≤ r) : r ≤ (r + 1) * (r + 1) := by
  have := Int.mul_le_mul_of_nonneg_left (show 1 ≤ r + 1 by omega) (show 0 ≤ r + 1 by omega)
  omega
theorem Bd.stp {r B : Int} {f : Fm} (h : Ind r f) (hB : (r + 1) * (r + 1) ≤ B) (d : Bd B f) : Bd B (stp r f) := by
  have r1 := h.r1
  have hr := r_sq r1
  have ea := stp_c h
  have hi := h.stp
  have a0 := ab_pos hi.a0
  rcases Int.lt_or_le r (ab f.c) with hc | hc
  · obtain ⟨h1, h2⟩ := far h hc
    have := d.c
    have := ab_nn (WM.stp r f).c
    exact ⟨by rw [ea]; exact d.c, by omega, by omega⟩
  · obtain ⟨h1, _⟩ := near h hc
    have e := four_ac hi h1
    have s := sq_nn (WM.stp r f).b
    have hh := hi.hi
    have nc := ab_nn (WM.stp r f).c
    have := Int.mul_le_mul (show 2 ≤ 2 * ab (WM.stp r f).a by omega) (Int.le_refl (2 * ab (WM.stp r f).c)) (by omega) (by omega)
    exact ⟨by rw [ea]; exact d.c, by omega, by omega⟩
theorem Bd.it {r B : Int} {f : Fm} (h : Ind r f) (hB : (r + 1) * (r + 1) ≤ B) (d : Bd B f) : ∀ n, Bd B (it r n f)
  | 0 => d
  | n + 1 => Bd.stp (h.it n) hB (Bd.it h hB d n)
theorem stN_ab {r B : Int} {f : Fm} (h : Ind r f) (hr : r ≤ B) (d : Bd B f) : ab (stN r f.b f.c) ≤ 2 * B := by
  obtain ⟨n, h1, h2, w1, w2⟩ := mid_spec (r := r) (b := f.b) h.c0
  rw [h2]
  have c1 := ab_pos h.c0
  have dc := d.c
  have db := d.b
  have r1 := h.r1
  have t1 : topI r f.c ≤ B := by unfold topI; split <;> omega
  have t0 : 0 ≤ topI r f.c := by unfold topI; split <;> omega
  have e := ab_mul (2 * f.c) n
  have e2 : ab (2 * f.c) = 2 * ab f.c := by unfold ab; omega
  rw [e2] at e
  have n0 := ab_nn n
  have := Int.mul_le_mul_of_nonneg_right (show 2 ≤ 2 * ab f.c by omega) n0
  have : ab (2 * f.c * n) ≤ 3 * B := by unfold ab at *; omega
  omega
theorem natAbs_ab (x : Int) : (x.natAbs : Int) = ab x := by unfold ab; omega
theorem grow {x y s : Int} {M C : Nat} (hx : x.natAbs ≤ M) (hy : y.natAbs ≤ M) (hs : s.natAbs + 1 ≤ C) : (x * -1 + y * s).natAbs ≤ M * C := by
  have h1 : (x * -1 + y * s).natAbs ≤ (x * -1).natAbs + (y * s).natAbs := Int.natAbs_add_le _ _
  have h2 : (y * s).natAbs = y.natAbs * s.natAbs := Int.natAbs_mul _ _
  have h3 := Nat.mul_le_mul hy (Nat.le_refl s.natAbs)
  have h4 := Nat.mul_le_mul (Nat.le_refl M) hs
  rw [Nat.mul_add, Nat.mul_one] at h4
  omega
structure MN (n : Nat) (m : Mt) : Prop where
  p : m.p.natAbs ≤ n
  q : m.q.natAbs ≤ n
  r : m.r.natAbs ≤ n
  s : m.s.natAbs ≤ n
theorem MN.le {n k : Nat} {m : Mt} (h : MN n m) (hk : n ≤ k) : MN k m := ⟨Nat.le_trans h.p hk, Nat.le_trans h.q hk, Nat.le_trans h.r hk, Nat.le_trans h.s hk⟩
theorem MN.one : MN 1 one := ⟨by decide, by decide, by decide, by decide⟩
theorem MN.step {M C : Nat} {m : Mt} {s : Int} (h : MN M m) (hC : s.natAbs + 1 ≤ C) : MN (M * C) (mul m ⟨0, -1, 1, s⟩) := by
  have hM : M ≤ M * C := Nat.le_mul_of_pos_right M (by omega)
  refine ⟨?_, grow h.p h.q hC, ?_, grow h.r h.s hC⟩
  · show (m.p * 0 + m.q * 1).natAbs ≤ _
    rw [Int.mul_zero, Int.zero_add, Int.mul_one]
    exact Nat.le_trans h.q hM
  · show (m.r * 0 + m.s * 1).natAbs ≤ _
    rw [Int.mul_zero, Int.zero_add, Int.mul_one]
    exact Nat.le_trans h.s hM
theorem itM_size {r B : Int} {f : Fm} {C : Nat} (h : Ind r f) (hB : (r + 1) * (r + 1) ≤ B) (d : Bd B f) (hC : 2 * B + 1 ≤ C) : ∀ n, MN (C ^ n) (itM r n f)
  | 0 => by rw [Nat.pow_zero]; exact MN.one
  | n + 1 => by
    have r1 := h.r1
    have hr := r_sq r1
    have b := stN_ab (h.it n) (by omega) (Bd.it h hB d n)
    rw [Nat.pow_succ]
    refine MN.step (itM_size h hB d hC n) ?_
    have := natAbs_ab (stN r (it r n f).b (it r n f).c)
    omega
/-- the first reduced form -/
theorem first_red {r : Int} {f : Fm} {N : Nat} (h : RedI r (it r N f)) : ∃ n, n ≤ N ∧ RedI r (it r n f) ∧ ∀ j, j < n → ¬ RedI r (it r j f) := by
  induction N using Nat.strongRecOn with
  | ind N ih =>
    by_cases e : ∃ j, j < N ∧ RedI r (it r j f)
    · obtain ⟨j, hj, hr⟩ := e
      obtain ⟨n, h1, h2, h3⟩ := ih j hj hr
      exact ⟨n, by omega, h2, h3⟩
    · exact ⟨N, Nat.le_refl _, h, fun j hj hr => e ⟨j, hj, hr⟩⟩
/-- the forms of a cycle differ -/
theorem cyc_ne {r : Int} {f : Fm} {N : Nat} (h : Ind r f) (hr : RedI r f) (hn : ∀ k, 1 ≤ k → k < N → it r k f ≠ f) {i j : Nat} (hi : i < j) (hj : j < N) : it r i f ≠ it r j f := fun e => by
  have := it_back h hr i (j - i) (by rw [show i + (j - i) = j by omega]; exact e)
  exact hn (j - i) (by omega) (by omega) this.symm
/-- every form that the steps reach lies on the first round -/
theorem cyc_mod {r : Int} {f : Fm} {N : Nat} (hN : 1 ≤ N) (hb : it r N f = f) : ∀ n, ∃ j, j < N ∧ it r n f = it r j f
  | 0 => ⟨0, by omega, rfl⟩
  | n + 1 => by
    obtain ⟨j, hj, e⟩ := cyc_mod hN hb n
    by_cases hl : j + 1 < N
    · exact ⟨j + 1, hl, congrArg (stp r) e⟩
    · refine ⟨0, by omega, ?_⟩
      have : j + 1 = N := by omega
      show stp r (it r n f) = f
      rw [e]
      show it r (j + 1) f = f
      rw [this]; exact hb
/-- the least of the cycle is the canonical form -/
theorem can_of {r : Int} {f : Fm} {n N i : Nat} (h : Ind r f) (hr : RedI r (it r n f)) (hN : 1 ≤ N) (hb : it r N (it r n f) = it r n f) (hmin : ∀ j, j < N → ¬ flt (it r j (it r n f)) (it r i (it r n f))) : IsCan r f (it r i (it r n f)) := by
  have hi := h.it n
  refine ⟨⟨n + i, (it_add r n f i).symm, red_it hi hr i⟩, fun g hg => ?_⟩
  have e0 : E r f (it r n f) := ⟨n, rfl, hr⟩
  obtain ⟨m, hm⟩ := E.both h e0 hg
  obtain ⟨j, hj, e⟩ := cyc_mod hN hb m
  rw [← hm, e]
  exact hmin j hj
end WM
namespace WM
theorem fdiv_exact {g x : Int} (hg : g ≠ 0) (h : g ∣ x) : x = g * x.fdiv g := by
  obtain ⟨y, rfl⟩ := h
  rw [Int.mul_fdiv_cancel_left y hg]
theorem cop_gcd {x y : Int} (h : Cop x y) : (Int.gcd x y : Int) = 1 := by
  obtain ⟨u, v, e⟩ := h
  have h1 := Int.gcd_dvd_left x y
  have h2 := Int.gcd_dvd_right x y
  have h3 : (Int.gcd x y : Int) ∣ 1 := by
    rw [← e]
    exact Int.dvd_add (Int.dvd_trans h1 (Int.dvd_mul_left _ _)) (Int.dvd_trans h2 (Int.dvd_mul_left _ _))
  have h4 := Int.le_of_dvd (by decide) h3
  have h5 : Int.gcd x y ≠ 0 := fun e0 => by
    rw [e0] at h3
    obtain ⟨k, hk⟩ := h3
    omega
  omega
/-- the parts by their divisor -/
theorem prim_parts {x y : Int} (h : ¬ (x = 0 ∧ y = 0)) : (Int.gcd x y : Int) ≠ 0 ∧ x = (Int.gcd x y : Int) * x.fdiv (Int.gcd x y) ∧ y = (Int.gcd x y : Int) * y.fdiv (Int.gcd x y) ∧ Cop (x.fdiv (Int.gcd x y)) (y.fdiv (Int.gcd x y)) := by
  have g0 : (Int.gcd x y : Int) ≠ 0 := fun e => by
    have : Int.gcd x y = 0 := by omega
    exact h (Int.gcd_eq_zero_iff.mp this)
  have h1 := fdiv_exact g0 (Int.gcd_dvd_left x y)
  have h2 := fdiv_exact g0 (Int.gcd_dvd_right x y)
  refine ⟨g0, h1, h2, ?_⟩
  obtain ⟨u, v, e⟩ := bez x y
  refine ⟨u, v, ?_⟩
  generalize x.fdiv (Int.gcd x y) = X at *
  generalize y.fdiv (Int.gcd x y) = Y at *
  generalize (Int.gcd x y : Int) = g at *
  subst h1 h2
  have : g * (u * X + v * Y) = g * 1 := by grind
  exact Int.eq_of_mul_eq_mul_left g0 this
theorem Cop.neg {x y : Int} (h : Cop x y) : Cop (-x) (-y) := by
  obtain ⟨u, v, e⟩ := h
  exact ⟨-u, -v, by grind⟩
theorem mul_ab_le {e x : Int} (he : e ≠ 0) : ab x ≤ ab (e * x) := by
  rw [ab_mul]
  have := ab_pos he
  have := Int.mul_le_mul_of_nonneg_right this (ab_nn x)
  omega
theorem sqabs {P r : Int} (h0 : 0 ≤ r) (h1 : r * r ≤ P * P) (h2 : P * P < (r + 1) * (r + 1)) : r = ab P := by
  refine root_unique h0 (ab_nn P) h1 h2 (by rw [ab_sq]; omega) ?_
  have e := ab_sq P
  have := ab_nn P
  grind
/-- what flat_parts finds -/
theorem flat_found {G P Q p q s : Int} (hG : G ≠ 0) (hc : Cop P Q) (hs : s = 1 ∧ 0 < G ∨ s = -1 ∧ G < 0) (hp : p = ab P) (hq : q = if P * Q < 0 then -ab Q else ab Q) : flF (s * ab G) p q = flF G P Q ∧ Cop p q := by
  have e : s * ab G = G := by
    rcases hs with ⟨h1, h2⟩ | ⟨h1, h2⟩
    · rw [h1]; unfold ab; omega
    · rw [h1]; unfold ab; omega
  rw [e]
  have key : (p = P ∧ q = Q) ∨ (p = -P ∧ q = -Q) := by
    rcases Int.lt_trichotomy P 0 with h1 | h1 | h1
    · rcases Int.lt_trichotomy Q 0 with h2 | h2 | h2
      · have := Int.mul_pos_of_neg_of_neg h1 h2
        rw [if_neg (by omega)] at hq
        unfold ab at hp hq; omega
      · subst h2
        rw [Int.mul_zero, if_neg (by omega)] at hq
        unfold ab at hp hq; omega
      · have := Int.mul_neg_of_neg_of_pos h1 h2
        rw [if_pos (by omega)] at hq
        unfold ab at hp hq; omega
    · subst h1
      rw [Int.zero_mul, if_neg (by omega)] at hq
      unfold ab at hp hq; omega
    · rcases Int.lt_trichotomy Q 0 with h2 | h2 | h2
      · have := Int.mul_neg_of_pos_of_neg h1 h2
        rw [if_pos (by omega)] at hq
        unfold ab at hp hq; omega
      · subst h2
        rw [Int.mul_zero, if_neg (by omega)] at hq
        unfold ab at hp hq; omega
      · have := Int.mul_pos h1 h2
        rw [if_neg (by omega)] at hq
        unfold ab at hp hq; omega
  rcases key with ⟨rfl, rfl⟩ | ⟨rfl, rfl⟩
  · exact ⟨rfl, hc⟩
  · refine ⟨?_, hc.neg⟩
    unfold flF
    apply Fm.eq <;> dsimp only <;> grind
theorem flF_divd {G P Q : Int} (hG : G ≠ 0) (hc : Cop P Q) : cont (flF G P Q) = ab G ∧ divd (flF G P Q) (ab G) = flF (if G < 0 then -1 else 1) P Q := by
  have h1 := flF_cont (G := G) hc
  have a0 : ab G ≠ 0 := by have := ab_pos hG; omega
  refine ⟨h1, ?_⟩
  have e : G = ab G * (if G < 0 then -1 else 1) := by unfold ab; split <;> omega
  generalize (if G < 0 then (-1 : Int) else 1) = s at *
  generalize ab G = g at *
  subst e
  unfold divd flF
  apply Fm.eq <;> dsimp only
  · rw [show g * s * P * P = g * (s * P * P) by grind, Int.mul_fdiv_cancel_left _ a0]
  · rw [show 2 * (g * s) * P * Q = g * (2 * s * P * Q) by grind, Int.mul_fdiv_cancel_left _ a0]
  · rw [show g * s * Q * Q = g * (s * Q * Q) by grind, Int.mul_fdiv_cancel_left _ a0]
theorem flF_inj {G P Q G' P' Q' : Int} (hc : Cop P Q) (hc' : Cop P' Q') (e : flF G P Q = flF G' P' Q') : G = G' := by
  have h1 := flF_cont (G := G) hc
  have h2 := flF_cont (G := G') hc'
  rw [e, h2] at h1
  have ea : G * P * P = G' * P' * P' := congrArg Fm.a e
  have ec : G * Q * Q = G' * Q' * Q' := congrArg Fm.c e
  by_cases hg : G = G'
  · exact hg
  · have : G = -G' := by unfold ab at h1; omega
    subst this
    exfalso
    have g0 : G' ≠ 0 := by omega
    have k1 : G' * (P * P + P' * P') = 0 := by grind
    have k2 : G' * (Q * Q + Q' * Q') = 0 := by grind
    have k1 := (Int.mul_eq_zero.mp k1).resolve_left g0
    have k2 := (Int.mul_eq_zero.mp k2).resolve_left g0
    have z1 := sq_nn P
    have z2 := sq_nn P'
    have z3 := sq_nn Q
    have z4 := sq_nn Q'
    have p0 : P = 0 := Classical.byContradiction fun n => by have := sq_pos n; omega
    have q0 : Q = 0 := Classical.byContradiction fun n => by have := sq_pos n; omega
    exact cop_nz hc ⟨p0, q0⟩
/-- the generator of a flat form -/
theorem flat_gen {p q u v : Int} (h : u * p + v * q = 1) : det ⟨u, -q, v, p⟩ = 1 ∧ mul (mul ⟨u, -q, v, p⟩ ⟨1, 0, 1, 1⟩) (inv ⟨u, -q, v, p⟩) = shear p q := by
  refine ⟨by simp only [det]; grind, ?_⟩
  unfold mul inv shear
  apply Mt.eq <;> dsimp only <;> grind
theorem flat_act {G p q u v : Int} (h : u * p + v * q = 1) : act (flF G p q) ⟨u, -q, v, p⟩ = ⟨G, 0, 0⟩ := by
  rw [flF_act]
  have e1 : p * u + q * v = 1 := by grind
  have e2 : p * -q + q * p = 0 := by grind
  dsimp only
  rw [e1, e2]
  unfold flF
  apply Fm.eq <;> dsimp only <;> omega
end WM
namespace WM
/-! ### the law's root -/
structure RI (n : Int) (i : Nat) (lo hi : Int) : Prop where
  a : lo * lo ≤ n
  b : n < hi * hi
  c : 0 ≤ lo
  d : lo < hi
  e : (hi - lo - 1) * 2 ^ i ≤ n
  f : hi ≤ n + 1
theorem RI.start {n : Int} (h : 0 ≤ n) : RI n 0 0 (n + 1) := by
  refine ⟨by omega, ?_, by omega, by omega, by rw [Int.pow_zero]; omega, Int.le_refl _⟩
  have := Int.mul_le_mul_of_nonneg_left (show 1 ≤ n + 1 by omega) (show 0 ≤ n + 1 by omega)
  omega
theorem RI.lo {n : Int} {i : Nat} {lo hi : Int} (h : RI n i lo hi) (hg : 1 < hi - lo) (hm : ((lo + hi) / 2) * ((lo + hi) / 2) ≤ n) : RI n (i + 1) ((lo + hi) / 2) hi := by
  have hc := h.c
  refine ⟨hm, h.b, by omega, by omega, ?_, h.f⟩
  have e := h.e
  rw [Int.pow_succ]
  have p : (0 : Int) ≤ 2 ^ i := Int.le_of_lt (Int.pow_pos (by decide))
  have := Int.mul_le_mul_of_nonneg_right (show (hi - (lo + hi) / 2 - 1) * 2 ≤ hi - lo - 1 by omega) p
  generalize (2 : Int) ^ i = W at *
  generalize hi - (lo + hi) / 2 - 1 = x at *
  have : x * (W * 2) = x * 2 * W := by grind
  omega
theorem RI.hi {n : Int} {i : Nat} {lo hi : Int} (h : RI n i lo hi) (hg : 1 < hi - lo) (hm : n < ((lo + hi) / 2) * ((lo + hi) / 2)) : RI n (i + 1) lo ((lo + hi) / 2) := by
  have hc := h.c
  have hf := h.f
  refine ⟨h.a, hm, hc, by omega, ?_, by omega⟩
  have e := h.e
  rw [Int.pow_succ]
  have p : (0 : Int) ≤ 2 ^ i := Int.le_of_lt (Int.pow_pos (by decide))
  have := Int.mul_le_mul_of_nonneg_right (show ((lo + hi) / 2 - lo - 1) * 2 ≤ hi - lo - 1 by omega) p
  generalize (2 : Int) ^ i = W at *
  generalize (lo + hi) / 2 - lo - 1 = x at *
  have : x * (W * 2) = x * 2 * W := by grind
  omega
theorem RI.small {n : Int} {lo hi : Int} {i : Nat} (h : RI n i lo hi) (hn : n < 2 ^ 60) (hi60 : 60 ≤ i) : hi - lo ≤ 1 := by
  refine Classical.byContradiction fun hg => ?_
  have e := h.e
  have p : (2 : Int) ^ 60 ≤ 2 ^ i := by
    obtain ⟨k, rfl⟩ : ∃ k, i = 60 + k := ⟨i - 60, by omega⟩
    rw [Int.pow_add]
    have : (0 : Int) < 2 ^ k := Int.pow_pos (by decide)
    omega
  have := Int.mul_le_mul_of_nonneg_right (show 1 ≤ hi - lo - 1 by omega) (show (0 : Int) ≤ 2 ^ i by omega)
  omega
/-! ### the law's measure -/
structure GI (a b : Int) (i : Nat) (x y : Int) : Prop where
  g : (Int.gcd x y : Int) = Int.gcd a b
  x0 : 0 ≤ x
  y0 : 0 ≤ y
  x1 : x < 2 ^ 30
  y1 : y < 2 ^ 30
  s : i = 0 ∨ ∃ k, i = k + 1 ∧ y < x ∧ x * y * 2 ^ k ≤ 2 ^ 60
theorem GI.start {a b : Int} (ha : a.natAbs < 2 ^ 30) (hb : b.natAbs < 2 ^ 30) : GI a b 0 (ab a) (ab b) := by
  refine ⟨?_, ab_nn a, ab_nn b, by unfold ab; omega, by unfold ab; omega, .inl rfl⟩
  have e1 : (ab a).natAbs = a.natAbs := by unfold ab; omega
  have e2 : (ab b).natAbs = b.natAbs := by unfold ab; omega
  unfold Int.gcd
  rw [e1, e2]
theorem GI.step {a b : Int} {i : Nat} {x y : Int} (h : GI a b i x y) (hy : y ≠ 0) : GI a b (i + 1) y (x % y) := by
  have y0 := h.y0
  have x0 := h.x0
  have m0 := Int.emod_nonneg x hy
  have m1 := Int.emod_lt_of_pos x (show 0 < y by omega)
  have hy1 := h.y1
  refine ⟨?_, y0, m0, hy1, by omega, .inr ⟨i, rfl, m1, ?_⟩⟩
  · rw [← h.g, Int.gcd_comm y (x % y)]
    rw [show x % y = x - y * (x / y) from Int.emod_def x y]
    have := Int.gcd_sub_mul_left_left y x (x / y)
    first
    | rw [this]
    | (rw [Int.mul_comm]; simp)
  · rcases h.s with h0 | ⟨k, hk, hlt, hp⟩
    · rw [h0, Int.pow_zero, Int.mul_one]
      have := Int.mul_le_mul (show y ≤ 2 ^ 30 by omega) (show x % y ≤ 2 ^ 30 by omega) m0 (by decide)
      exact this
    · have e : x % y + y * (x / y) = x := Int.emod_add_mul_ediv x y
      have q1 : 1 ≤ x / y := by
        refine Classical.byContradiction fun hn => ?_
        have := Int.mul_le_mul_of_nonneg_left (show x / y ≤ 0 by omega) y0
        omega
      have := Int.mul_le_mul_of_nonneg_left q1 y0
      have h2 : x % y * 2 ≤ x := by omega
      have h3 := Int.mul_le_mul_of_nonneg_left h2 y0
      rw [hk, Int.pow_succ]
      have p : (0 : Int) ≤ 2 ^ k := Int.le_of_lt (Int.pow_pos (by decide))
      have h4 := Int.mul_le_mul_of_nonneg_right h3 p
      generalize (2 : Int) ^ k = W at *
      generalize x % y = z at *
      have a1 : y * z * (W * 2) = y * (z * 2) * W := by grind
      have a2 : x * y * W = y * x * W := by grind
      omega
theorem GI.done {a b : Int} {i : Nat} {x : Int} (h : GI a b i x 0) : x = (Int.gcd a b : Int) := by
  rw [← h.g, Int.gcd_zero_right]
  have := h.x0
  omega
theorem GI.end {a b : Int} {i : Nat} {x y : Int} (h : GI a b i x y) (hi : 62 ≤ i) : y = 0 := by
  refine Classical.byContradiction fun hn => ?_
  rcases h.s with h0 | ⟨k, hk, hlt, hp⟩
  · omega
  · have y0 := h.y0
    have p : (2 : Int) ^ 61 ≤ 2 ^ k := by
      obtain ⟨j, rfl⟩ : ∃ j, k = 61 + j := ⟨k - 61, by omega⟩
      rw [Int.pow_add]
      have : (0 : Int) < 2 ^ j := Int.pow_pos (by decide)
      omega
    have q1 := Int.mul_le_mul (show 1 ≤ x by omega) (show 1 ≤ y by omega) (by decide) (by omega)
    have q2 := Int.mul_le_mul_of_nonneg_right q1 (show (0 : Int) ≤ 2 ^ k by omega)
    omega
/-! ### the law's act -/
theorem act_by (f : Fm) (m : Mt) : worth f (m.p + m.q) (m.r + m.s) - worth f m.p m.r - worth f m.q m.s = (act f m).b := by
  unfold worth act; grind
theorem shear_abs {P Q p q : Int} (hp : p = ab P) (hq : q = if P * Q < 0 then -ab Q else ab Q) : shear p q = shear P Q := by
  have e1 : p * p = P * P := by rw [hp, ab_sq]
  have e2 : q * q = Q * Q := by rw [hq]; split <;> rw [← ab_sq Q] <;> grind
  have e3 : p * q = P * Q := by
    have h := ab_mul P Q
    rw [hp, hq]
    split
    · next hh => have : ab (P * Q) = -(P * Q) := by unfold ab; rw [if_pos hh]
                 grind
    · next hh => have : ab (P * Q) = P * Q := by unfold ab; rw [if_neg hh]
                 grind
  unfold shear
  rw [e1, e2, e3]
theorem sgn_b {G P Q : Int} (hG : G ≠ 0) (hn : ¬ (P = 0 ∧ Q = 0)) : 2 * G * P * Q * (G * P * P + G * Q * Q) < 0 ↔ P * Q < 0 := by
  have g := sq_pos hG
  have k : 1 ≤ P * P + Q * Q := by
    by_cases hp : P = 0
    · have := sq_pos (x := Q) fun e => hn ⟨hp, e⟩
      have := sq_nn P; omega
    · have := sq_pos hp
      have := sq_nn Q; omega
  have e : 2 * G * P * Q * (G * P * P + G * Q * Q) = 2 * ((G * G) * (P * P + Q * Q)) * (P * Q) := by grind
  have hw : 1 ≤ (G * G) * (P * P + Q * Q) := by
    have := Int.mul_le_mul g k (by decide) (by omega); omega
  rw [e]
  generalize (G * G) * (P * P + Q * Q) = w at *
  generalize P * Q = x at *
  constructor
  · intro h
    refine Classical.byContradiction fun hx => ?_
    have := Int.mul_nonneg (show 0 ≤ 2 * w by omega) (show 0 ≤ x by omega)
    omega
  · intro h
    have := Int.mul_le_mul_of_nonneg_left (show x ≤ -1 by omega) (show 0 ≤ 2 * w by omega)
    omega
/-! ### the law's made list, as the loop builds it -/
def pre (G : Mt) : Nat → Mt → Mt → List Mt × Mt × Mt
  | 0, a, b => ([], a, b)
  | n + 1, a, b => ((pre G n a b).1 ++ [mul (pre G n a b).2.1 G, mul (pre G n a b).2.2 (inv G)], mul (pre G n a b).2.1 G, mul (pre G n a b).2.2 (inv G))
theorem pre_nine (G m : Mt) : (pre G 9 m m).1 = turns G 9 m m := by
  simp only [pre, turns, List.nil_append, List.cons_append]
theorem pre_len (G a b : Mt) : ∀ n, (pre G n a b).1.length = 2 * n
  | 0 => rfl
  | n + 1 => by
    show ((pre G n a b).1 ++ [_, _]).length = _
    rw [List.length_append, pre_len G a b n]; simp; omega
end WM
namespace WM
/-! ### how the law draws -/
theorem mn_step {M : Nat} {m st : Mt} {t : Int} (h : MN M m) (ht : t.natAbs ≤ 2) (hst : st = eT t ∨ st = eL t ∨ st = eS) : MN (3 * M) (mul m st) := by
  have hp := h.p
  have hq := h.q
  have hr := h.r
  have hs := h.s
  have key : ∀ x y : Int, x.natAbs ≤ M → y.natAbs ≤ M → (x * t + y).natAbs ≤ 3 * M ∧ (x + y * t).natAbs ≤ 3 * M := by
    intro x y hx hy
    have e1 : (x * t).natAbs = x.natAbs * t.natAbs := Int.natAbs_mul _ _
    have e2 : (y * t).natAbs = y.natAbs * t.natAbs := Int.natAbs_mul _ _
    have k1 := Nat.mul_le_mul hx ht
    have k2 := Nat.mul_le_mul hy ht
    have a1 := Int.natAbs_add_le (x * t) y
    have a2 := Int.natAbs_add_le x (y * t)
    omega
  rcases hst with rfl | rfl | rfl
  · refine ⟨?_, ?_, ?_, ?_⟩
    · show (m.p * 1 + m.q * 0).natAbs ≤ _; rw [Int.mul_one, Int.mul_zero, Int.add_zero]; omega
    · show (m.p * t + m.q * 1).natAbs ≤ _; rw [Int.mul_one]; exact (key _ _ hp hq).1
    · show (m.r * 1 + m.s * 0).natAbs ≤ _; rw [Int.mul_one, Int.mul_zero, Int.add_zero]; omega
    · show (m.r * t + m.s * 1).natAbs ≤ _; rw [Int.mul_one]; exact (key _ _ hr hs).1
  · refine ⟨?_, ?_, ?_, ?_⟩
    · show (m.p * 1 + m.q * t).natAbs ≤ _; rw [Int.mul_one]; exact (key _ _ hp hq).2
    · show (m.p * 0 + m.q * 1).natAbs ≤ _; rw [Int.mul_zero, Int.zero_add, Int.mul_one]; omega
    · show (m.r * 1 + m.s * t).natAbs ≤ _; rw [Int.mul_one]; exact (key _ _ hr hs).2
    · show (m.r * 0 + m.s * 1).natAbs ≤ _; rw [Int.mul_zero, Int.zero_add, Int.mul_one]; omega
  · refine ⟨?_, ?_, ?_, ?_⟩
    · show (m.p * 0 + m.q * 1).natAbs ≤ _; rw [Int.mul_zero, Int.zero_add, Int.mul_one]; omega
    · show (m.p * -1 + m.q * 0).natAbs ≤ _; rw [Int.mul_zero, Int.add_zero]; omega
    · show (m.r * 0 + m.s * 1).natAbs ≤ _; rw [Int.mul_zero, Int.zero_add, Int.mul_one]; omega
    · show (m.r * -1 + m.s * 0).natAbs ≤ _; rw [Int.mul_zero, Int.add_zero]; omega
theorem gen_step {m st : Mt} {t : Int} (h : Gen m) (hst : st = eT t ∨ st = eL t ∨ st = eS) : Gen (mul m st) := by
  rcases hst with rfl | rfl | rfl
  · exact .t t h
  · exact .l t h
  · exact .s h
/-- the sum of a form's numbers -/
def nf (f : Fm) : Int := ab f.a + ab f.b + ab f.c
theorem ab_add (x y : Int) : ab (x + y) ≤ ab x + ab y := by unfold ab; omega
theorem ab3 {a x y : Int} {M : Nat} (hx : x.natAbs ≤ M) (hy : y.natAbs ≤ M) : ab (a * x * y) ≤ ab a * (M * M) := by
  rw [Int.mul_assoc, ab_mul, ab_mul]
  have h1 : ab x ≤ M := by unfold ab; omega
  have h2 : ab y ≤ M := by unfold ab; omega
  exact Int.mul_le_mul_of_nonneg_left (Int.mul_le_mul h1 h2 (ab_nn y) (by omega)) (ab_nn a)
theorem nf_worth {f : Fm} {x y : Int} {M : Nat} (hx : x.natAbs ≤ M) (hy : y.natAbs ≤ M) : ab (worth f x y) ≤ nf f * (M * M) := by
  unfold worth nf
  have h1 := ab3 (a := f.a) hx hx
  have h2 := ab3 (a := f.b) hx hy
  have h3 := ab3 (a := f.c) hy hy
  have h4 := ab_add (f.a * x * x + f.b * x * y) (f.c * y * y)
  have h5 := ab_add (f.a * x * x) (f.b * x * y)
  have e : (ab f.a + ab f.b + ab f.c) * ((M : Int) * M) = ab f.a * (M * M) + ab f.b * (M * M) + ab f.c * (M * M) := by grind
  omega
theorem nf_mid {f : Fm} {m : Mt} {M : Nat} (h : MN M m) : ab (act f m).b ≤ 2 * (nf f * (M * M)) := by
  have e0 : (act f m).b = f.a * m.p * m.q + f.a * m.p * m.q + (f.b * m.p * m.s + f.b * m.q * m.r) + (f.c * m.r * m.s + f.c * m.r * m.s) := by
    unfold act; dsimp only; grind
  have h1 := ab3 (a := f.a) h.p h.q
  have h2 := ab3 (a := f.b) h.p h.s
  have h3 := ab3 (a := f.b) h.q h.r
  have h4 := ab3 (a := f.c) h.r h.s
  have k1 := ab_add (f.a * m.p * m.q + f.a * m.p * m.q + (f.b * m.p * m.s + f.b * m.q * m.r)) (f.c * m.r * m.s + f.c * m.r * m.s)
  have k2 := ab_add (f.a * m.p * m.q + f.a * m.p * m.q) (f.b * m.p * m.s + f.b * m.q * m.r)
  have k3 := ab_add (f.a * m.p * m.q) (f.a * m.p * m.q)
  have k4 := ab_add (f.b * m.p * m.s) (f.b * m.q * m.r)
  have k5 := ab_add (f.c * m.r * m.s) (f.c * m.r * m.s)
  have e : nf f * ((M : Int) * M) = ab f.a * (M * M) + ab f.b * (M * M) + ab f.c * (M * M) := by unfold nf; grind
  rw [e0]
  omega
theorem nf_act {f : Fm} {m : Mt} {M : Nat} (h : MN M m) : Bd (2 * (nf f * (M * M))) (act f m) ∧ nf (act f m) ≤ 4 * (nf f * (M * M)) := by
  have h1 : ab (act f m).a ≤ _ := nf_worth (f := f) h.p h.r
  have h2 := nf_mid (f := f) h
  have h3 : ab (act f m).c ≤ _ := nf_worth (f := f) h.q h.s
  have := ab_nn (act f m).a
  refine ⟨⟨by omega, h2, by omega⟩, ?_⟩
  unfold nf at *
  omega
theorem nf_scal {f : Fm} {g : Int} (hg : 0 ≤ g) : nf (scal f g) = nf f * g := by
  unfold nf scal
  have e : ab g = g := by unfold ab; omega
  dsimp only
  rw [ab_mul, ab_mul, ab_mul, e]; grind
theorem split_disc (g p q r s : Int) : disc ⟨g * p * r, g * (p * s + q * r), g * q * s⟩ = g * (p * s - q * r) * (g * (p * s - q * r)) := by
  unfold disc; grind
end WM
namespace WM
theorem cont_zero : cont zero = 0 := by decide
theorem cont_scal_any {f : Fm} {g : Int} (hg : 0 ≤ g) : cont (scal f g) = cont f * g := by
  obtain ⟨d1, d2, d3⟩ := cont_dvd f
  obtain ⟨x, y, z, e⟩ := cont_comb f
  refine cont_unique (Int.mul_nonneg (cont_nn f) hg) ?_ ?_ ?_ ⟨x, y, z, ?_⟩
  · exact Int.mul_dvd_mul_right g d1
  · exact Int.mul_dvd_mul_right g d2
  · exact Int.mul_dvd_mul_right g d3
  · show x * (f.a * g) + y * (f.b * g) + z * (f.c * g) = _
    rw [← e]; grind
theorem cont_neg (f : Fm) : cont (scal f (-1)) = cont f := by
  obtain ⟨d1, d2, d3⟩ := cont_dvd f
  obtain ⟨x, y, z, e⟩ := cont_comb f
  refine cont_unique (cont_nn f) ?_ ?_ ?_ ⟨-x, -y, -z, ?_⟩
  · show cont f ∣ f.a * -1
    rw [Int.mul_neg, Int.mul_one]; exact Int.dvd_neg.mpr d1
  · show cont f ∣ f.b * -1
    rw [Int.mul_neg, Int.mul_one]; exact Int.dvd_neg.mpr d2
  · show cont f ∣ f.c * -1
    rw [Int.mul_neg, Int.mul_one]; exact Int.dvd_neg.mpr d3
  · show -x * (f.a * -1) + -y * (f.b * -1) + -z * (f.c * -1) = _
    rw [← e]; grind
/-- a form that a square's root cuts has a matrix to its split shape -/
theorem split_ex {f : Fm} {k : Int} (hk : 0 < k) (h : disc f = k * k) : ∃ m c, det m = 1 ∧ act f m = ⟨0, k, c⟩ := by
  have use : ∀ x y : Int, ¬ (x = 0 ∧ y = 0) → Dir f k x y → ∃ m c, det m = 1 ∧ act f m = ⟨0, k, c⟩ := by
    intro x y hn hd
    obtain ⟨g0, ex, ey, u, v, e⟩ := prim_parts hn
    generalize x.fdiv (Int.gcd x y) = X at *
    generalize y.fdiv (Int.gcd x y) = Y at *
    generalize (Int.gcd x y : Int) = g at *
    rw [ex, ey] at hd
    have hd := Dir.cancel g0 hd
    obtain ⟨h1, h2, h3⟩ := Dir.act hd e
    exact ⟨_, _, h3, Fm.eq h1 h2 rfl⟩
  by_cases ha : f.a = 0
  · have hb2 : f.b = k ∨ f.b = -k := sq_eq hk (by rw [← h]; unfold disc; rw [ha]; grind)
    rcases hb2 with q | q
    · exact use 1 0 (by omega) (dir3 ha q)
    · exact use (-f.c) f.b (by omega) (dir4 ha q)
  · exact use (-k - f.b) (2 * f.a) (by omega) (dir2 h)
theorem split_all {f : Fm} {k : Int} (hk : 0 < k) (h : disc f = k * k) {M : Mt} (hM : det M = 1) (e : act f M = f) : M = one ∨ M = neg one := by
  obtain ⟨m, c, h1, h2⟩ := split_ex hk h
  exact split_auto hk h1 h2 hM e
theorem pre_mem {G a b : Mt} : ∀ n m, m ∈ (pre G n a b).1 → ∃ j, 1 ≤ j ∧ j ≤ n ∧ (m = (pre G j a b).2.1 ∨ m = (pre G j a b).2.2)
  | 0, m, h => by cases h
  | n + 1, m, h => by
    have h : m ∈ (pre G n a b).1 ++ [mul (pre G n a b).2.1 G, mul (pre G n a b).2.2 (inv G)] := h
    rcases List.mem_append.mp h with h | h
    · obtain ⟨j, h1, h2, h3⟩ := pre_mem n m h
      exact ⟨j, h1, by omega, h3⟩
    · rcases List.mem_cons.mp h with h | h
      · exact ⟨n + 1, by omega, by omega, .inl h⟩
      · exact ⟨n + 1, by omega, by omega, .inr (List.mem_singleton.mp h)⟩
theorem disc_mod (f : Fm) : disc f % 4 = 0 ∨ disc f % 4 = 1 := by
  unfold disc
  have e : f.b * f.b - 4 * f.a * f.c = f.b * f.b - 4 * (f.a * f.c) := by grind
  rw [e]
  obtain ⟨k, hk⟩ : ∃ k, f.b = 2 * k ∨ f.b = 2 * k + 1 := ⟨f.b / 2, by omega⟩
  rcases hk with hk | hk
  · have : f.b * f.b = 4 * (k * k) := by rw [hk]; grind
    omega
  · have : f.b * f.b = 4 * (k * k + k) + 1 := by rw [hk]; grind
    omega
theorem divd_scal {f : Fm} {g : Int} (hg : g ≠ 0) : divd (scal f g) g = f := by
  unfold divd scal
  apply Fm.eq <;> dsimp only <;> rw [Int.mul_comm, Int.mul_fdiv_cancel_left _ hg]
/-- the primitive part of a form -/
theorem prim_part {F : Fm} (h : F ≠ zero) : ∃ F0, divd F (cont F) = F0 ∧ scal F0 (cont F) = F ∧ Prim F0 ∧ disc F = disc F0 * (cont F * cont F) := by
  obtain ⟨h1, h2⟩ := divd_cont h
  refine ⟨_, rfl, h1, h2, ?_⟩
  have := disc_scal (divd F (cont F)) (cont F)
  rw [h1] at this
  exact this
theorem act_divd {F F0 : Fm} {c : Int} (hc : c ≠ 0) (e : scal F0 c = F) {m : Mt} : act F m = F ↔ act F0 m = F0 := by
  subst e
  rw [act_scal]
  exact ⟨fun h => scal_inj hc h, fun h => by rw [h]⟩
end WM
namespace WC
open PySem PySem.Spec PyProof.Rows L2
def topS (i : Nat) : Stmt := PySem.Challenge.pw_wholeconic_k16_whole_self_changes.main.body.getD i (.Pass ⟨0, 0, 0, 0⟩)
abbrev sBezout : Stmt := topS 2
abbrev sMeasure : Stmt := topS 3
abbrev sFloorRoot : Stmt := topS 4
abbrev sIsSquare : Stmt := topS 5
abbrev sDiscriminant : Stmt := topS 7
abbrev sContent : Stmt := topS 8
abbrev sWorth : Stmt := topS 9
abbrev sAct : Stmt := topS 10
abbrev sScaled : Stmt := topS 11
abbrev sDivided : Stmt := topS 12
abbrev sKind : Stmt := topS 13
abbrev sMultiply : Stmt := topS 16
abbrev sDeterminant : Stmt := topS 17
abbrev sInverse : Stmt := topS 18
abbrev sNegative : Stmt := topS 19
abbrev sIsReducedDefinite : Stmt := topS 21
abbrev sReducePositive : Stmt := topS 23
abbrev sReduceDefinite : Stmt := topS 24
abbrev sSelfChanges : Stmt := topS 25
abbrev sIsReducedIndefinite : Stmt := topS 27
abbrev sStepOf : Stmt := topS 29
abbrev sReduceIndefinite : Stmt := topS 30
abbrev sCycle : Stmt := topS 31
abbrev sAround : Stmt := topS 32
abbrev sCanonical : Stmt := topS 33
abbrev sLeastUnit : Stmt := topS 34
abbrev sSelfChange : Stmt := topS 35
abbrev sPrimitive : Stmt := topS 37
abbrev sZeroLines : Stmt := topS 38
abbrev sLeading : Stmt := topS 39
abbrev sCanonicalSplit : Stmt := topS 40
abbrev sFlatParts : Stmt := topS 41
abbrev sCanonicalFlat : Stmt := topS 42
abbrev sCanonicalForm : Stmt := topS 45
abbrev sSelfGroup : Stmt := topS 46
abbrev sProperChange : Stmt := topS 47
abbrev sLawCell : Stmt := topS 49
abbrev sLawNumbers : Stmt := topS 50
abbrev sLawState : Stmt := topS 51
abbrev sLawNext : Stmt := topS 52
abbrev sLawRoot : Stmt := topS 54
abbrev sLawMeasure : Stmt := topS 55
abbrev sLawMul : Stmt := topS 56
abbrev sLawWorth : Stmt := topS 58
abbrev sLawAct : Stmt := topS 59
abbrev sLawChange : Stmt := topS 60
abbrev sLawSquare : Stmt := topS 61
abbrev sLawKind : Stmt := topS 62
abbrev sLawSplit : Stmt := topS 63
abbrev sLawFlat : Stmt := topS 64
abbrev sLawForm : Stmt := topS 65
abbrev sLawSmall : Stmt := topS 66
abbrev sLawMade : Stmt := topS 67
abbrev sLawShear : Stmt := topS 68
abbrev sLaw : Stmt := topS 69
abbrev FnP (K : PySem.W.Frag) (x : Str) (st : Stmt) (f : Addr) (fd : FuncData) : Prop := FunD K x x (defArgs st) (defBody st) (defScope st) [] [] f fd
/-- what the walk asks of the top -/
structure Tx (K : PySem.W.Frag) (mg : Str → Option Value) : Prop where
  fBezout : ∃ f fd, mg "bezout" = some (.ref f) ∧ FnP K "bezout" sBezout f fd
  fMeasure : ∃ f fd, mg "measure" = some (.ref f) ∧ FnP K "measure" sMeasure f fd
  fFloorRoot : ∃ f fd, mg "floor_root" = some (.ref f) ∧ FnP K "floor_root" sFloorRoot f fd
  fIsSquare : ∃ f fd, mg "is_square" = some (.ref f) ∧ FnP K "is_square" sIsSquare f fd
  fDiscriminant : ∃ f fd, mg "discriminant" = some (.ref f) ∧ FnP K "discriminant" sDiscriminant f fd
  fContent : ∃ f fd, mg "content" = some (.ref f) ∧ FnP K "content" sContent f fd
  fWorth : ∃ f fd, mg "worth" = some (.ref f) ∧ FnP K "worth" sWorth f fd
  fAct : ∃ f fd, mg "act" = some (.ref f) ∧ FnP K "act" sAct f fd
  fScaled : ∃ f fd, mg "scaled" = some (.ref f) ∧ FnP K "scaled" sScaled f fd
  fDivided : ∃ f fd, mg "divided" = some (.ref f) ∧ FnP K "divided" sDivided f fd
  fKind : ∃ f fd, mg "kind" = some (.ref f) ∧ FnP K "kind" sKind f fd
  fMultiply : ∃ f fd, mg "multiply" = some (.ref f) ∧ FnP K "multiply" sMultiply f fd
  fDeterminant : ∃ f fd, mg "determinant" = some (.ref f) ∧ FnP K "determinant" sDeterminant f fd
  fInverse : ∃ f fd, mg "inverse" = some (.ref f) ∧ FnP K "inverse" sInverse f fd
  fNegative : ∃ f fd, mg "negative" = some (.ref f) ∧ FnP K "negative" sNegative f fd
  fIsReducedDefinite : ∃ f fd, mg "is_reduced_definite" = some (.ref f) ∧ FnP K "is_reduced" sIsReducedDefinite f fd
  fReducePositive : ∃ f fd, mg "reduce_positive" = some (.ref f) ∧ FnP K "reduce_positive" sReducePositive f fd
  fReduceDefinite : ∃ f fd, mg "reduce_definite" = some (.ref f) ∧ FnP K "reduce_definite" sReduceDefinite f fd
  fSelfChanges : ∃ f fd, mg "self_changes" = some (.ref f) ∧ FnP K "self_changes" sSelfChanges f fd
  fIsReducedIndefinite : ∃ f fd, mg "is_reduced_indefinite" = some (.ref f) ∧ FnP K "is_reduced" sIsReducedIndefinite f fd
  fStepOf : ∃ f fd, mg "step_of" = some (.ref f) ∧ FnP K "step_of" sStepOf f fd
  fReduceIndefinite : ∃ f fd, mg "reduce_indefinite" = some (.ref f) ∧ FnP K "reduce_indefinite" sReduceIndefinite f fd
  fCycle : ∃ f fd, mg "cycle" = some (.ref f) ∧ FnP K "cycle" sCycle f fd
  fAround : ∃ f fd, mg "around" = some (.ref f) ∧ FnP K "around" sAround f fd
  fCanonical : ∃ f fd, mg "canonical" = some (.ref f) ∧ FnP K "canonical" sCanonical f fd
  fLeastUnit : ∃ f fd, mg "least_unit" = some (.ref f) ∧ FnP K "least_unit" sLeastUnit f fd
  fSelfChange : ∃ f fd, mg "self_change" = some (.ref f) ∧ FnP K "self_change" sSelfChange f fd
  fPrimitive : ∃ f fd, mg "primitive" = some (.ref f) ∧ FnP K "primitive" sPrimitive f fd
  fZeroLines : ∃ f fd, mg "zero_lines" = some (.ref f) ∧ FnP K "zero_lines" sZeroLines f fd
  fLeading : ∃ f fd, mg "leading" = some (.ref f) ∧ FnP K "leading" sLeading f fd
  fCanonicalSplit : ∃ f fd, mg "canonical_split" = some (.ref f) ∧ FnP K "canonical_split" sCanonicalSplit f fd
  fFlatParts : ∃ f fd, mg "flat_parts" = some (.ref f) ∧ FnP K "flat_parts" sFlatParts f fd
  fCanonicalFlat : ∃ f fd, mg "canonical_flat" = some (.ref f) ∧ FnP K "canonical_flat" sCanonicalFlat f fd
  fCanonicalForm : ∃ f fd, mg "canonical_form" = some (.ref f) ∧ FnP K "canonical_form" sCanonicalForm f fd
  fSelfGroup : ∃ f fd, mg "self_group" = some (.ref f) ∧ FnP K "self_group" sSelfGroup f fd
  fProperChange : ∃ f fd, mg "proper_change" = some (.ref f) ∧ FnP K "proper_change" sProperChange f fd
  fLawCell : ∃ f fd, mg "_law_cell" = some (.ref f) ∧ FnP K "_law_cell" sLawCell f fd
  fLawNumbers : ∃ f fd, mg "_law_numbers" = some (.ref f) ∧ FnP K "_law_numbers" sLawNumbers f fd
  fLawState : ∃ f fd, mg "_law_state" = some (.ref f) ∧ FnP K "_law_state" sLawState f fd
  fLawNext : ∃ f fd, mg "_law_next" = some (.ref f) ∧ FnP K "_law_next" sLawNext f fd
  fLawRoot : ∃ f fd, mg "_law_root" = some (.ref f) ∧ FnP K "_law_root" sLawRoot f fd
  fLawMeasure : ∃ f fd, mg "_law_measure" = some (.ref f) ∧ FnP K "_law_measure" sLawMeasure f fd
  fLawMul : ∃ f fd, mg "_law_mul" = some (.ref f) ∧ FnP K "_law_mul" sLawMul f fd
  fLawWorth : ∃ f fd, mg "_law_worth" = some (.ref f) ∧ FnP K "_law_worth" sLawWorth f fd
  fLawAct : ∃ f fd, mg "_law_act" = some (.ref f) ∧ FnP K "_law_act" sLawAct f fd
  fLawChange : ∃ f fd, mg "_law_change" = some (.ref f) ∧ FnP K "_law_change" sLawChange f fd
  fLawSquare : ∃ f fd, mg "_law_square" = some (.ref f) ∧ FnP K "_law_square" sLawSquare f fd
  fLawKind : ∃ f fd, mg "_law_kind" = some (.ref f) ∧ FnP K "_law_kind" sLawKind f fd
  fLawSplit : ∃ f fd, mg "_law_split" = some (.ref f) ∧ FnP K "_law_split" sLawSplit f fd
  fLawFlat : ∃ f fd, mg "_law_flat" = some (.ref f) ∧ FnP K "_law_flat" sLawFlat f fd
  fLawForm : ∃ f fd, mg "_law_form" = some (.ref f) ∧ FnP K "_law_form" sLawForm f fd
  fLawSmall : ∃ f fd, mg "_law_small" = some (.ref f) ∧ FnP K "_law_small" sLawSmall f fd
  fLawMade : ∃ f fd, mg "_law_made" = some (.ref f) ∧ FnP K "_law_made" sLawMade f fd
  fLawShear : ∃ f fd, mg "_law_shear" = some (.ref f) ∧ FnP K "_law_shear" sLawShear f fd
  bLen : mg "len" = none
  bAbs : mg "abs" = none
  bInt : mg "int" = none
  bRange : mg "range" = none
  bTuple : mg "tuple" = none
  bList : mg "list" = none
  bMin : mg "min" = none
  bSorted : mg "sorted" = none
  bIsinstance : mg "isinstance" = none
  cUnit : ∃ a, mg "UNIT" = some (.ref a) ∧ ∀ H, SqT K H a [.int 1, .int 0, .int 0, .int 1]
  cShear : ∃ a, mg "SHEAR" = some (.ref a) ∧ ∀ H, SqT K H a [.int 1, .int 0, .int 1, .int 1]
  cIsqrt : mg "isqrt" = some (.builtin "math.isqrt")
end WC
namespace WH
open WC
open PySem PySem.Spec PyProof.Rows L2
def dBezout : He.DefD := ⟨("bezout", none), "bezout", "bezout", defArgs sBezout, defBody sBezout, defScope sBezout, [], []⟩
def dMeasure : He.DefD := ⟨("measure", none), "measure", "measure", defArgs sMeasure, defBody sMeasure, defScope sMeasure, [], []⟩
def dFloorRoot : He.DefD := ⟨("floor_root", none), "floor_root", "floor_root", defArgs sFloorRoot, defBody sFloorRoot, defScope sFloorRoot, [], []⟩
def dIsSquare : He.DefD := ⟨("is_square", none), "is_square", "is_square", defArgs sIsSquare, defBody sIsSquare, defScope sIsSquare, [], []⟩
def dDiscriminant : He.DefD := ⟨("discriminant", none), "discriminant", "discriminant", defArgs sDiscriminant, defBody sDiscriminant, defScope sDiscriminant, [], []⟩
def dContent : He.DefD := ⟨("content", none), "content", "content", defArgs sContent, defBody sContent, defScope sContent, [], []⟩
def dWorth : He.DefD := ⟨("worth", none), "worth", "worth", defArgs sWorth, defBody sWorth, defScope sWorth, [], []⟩
def dAct : He.DefD := ⟨("act", none), "act", "act", defArgs sAct, defBody sAct, defScope sAct, [], []⟩
def dScaled : He.DefD := ⟨("scaled", none), "scaled", "scaled", defArgs sScaled, defBody sScaled, defScope sScaled, [], []⟩
def dDivided : He.DefD := ⟨("divided", none), "divided", "divided", defArgs sDivided, defBody sDivided, defScope sDivided, [], []⟩
def dKind : He.DefD := ⟨("kind", none), "kind", "kind", defArgs sKind, defBody sKind, defScope sKind, [], []⟩
def dMultiply : He.DefD := ⟨("multiply", none), "multiply", "multiply", defArgs sMultiply, defBody sMultiply, defScope sMultiply, [], []⟩
def dDeterminant : He.DefD := ⟨("determinant", none), "determinant", "determinant", defArgs sDeterminant, defBody sDeterminant, defScope sDeterminant, [], []⟩
def dInverse : He.DefD := ⟨("inverse", none), "inverse", "inverse", defArgs sInverse, defBody sInverse, defScope sInverse, [], []⟩
def dNegative : He.DefD := ⟨("negative", none), "negative", "negative", defArgs sNegative, defBody sNegative, defScope sNegative, [], []⟩
def dIsReducedDefinite : He.DefD := ⟨("is_reduced_definite", none), "is_reduced", "is_reduced", defArgs sIsReducedDefinite, defBody sIsReducedDefinite, defScope sIsReducedDefinite, [], []⟩
def dReducePositive : He.DefD := ⟨("reduce_positive", none), "reduce_positive", "reduce_positive", defArgs sReducePositive, defBody sReducePositive, defScope sReducePositive, [], []⟩
def dReduceDefinite : He.DefD := ⟨("reduce_definite", none), "reduce_definite", "reduce_definite", defArgs sReduceDefinite, defBody sReduceDefinite, defScope sReduceDefinite, [], []⟩
def dSelfChanges : He.DefD := ⟨("self_changes", none), "self_changes", "self_changes", defArgs sSelfChanges, defBody sSelfChanges, defScope sSelfChanges, [], []⟩
def dIsReducedIndefinite : He.DefD := ⟨("is_reduced_indefinite", none), "is_reduced", "is_reduced", defArgs sIsReducedIndefinite, defBody sIsReducedIndefinite, defScope sIsReducedIndefinite, [], []⟩
def dStepOf : He.DefD := ⟨("step_of", none), "step_of", "step_of", defArgs sStepOf, defBody sStepOf, defScope sStepOf, [], []⟩
def dReduceIndefinite : He.DefD := ⟨("reduce_indefinite", none), "reduce_indefinite", "reduce_indefinite", defArgs sReduceIndefinite, defBody sReduceIndefinite, defScope sReduceIndefinite, [], []⟩
def dCycle : He.DefD := ⟨("cycle", none), "cycle", "cycle", defArgs sCycle, defBody sCycle, defScope sCycle, [], []⟩
def dAround : He.DefD := ⟨("around", none), "around", "around", defArgs sAround, defBody sAround, defScope sAround, [], []⟩
def dCanonical : He.DefD := ⟨("canonical", none), "canonical", "canonical", defArgs sCanonical, defBody sCanonical, defScope sCanonical, [], []⟩
def dLeastUnit : He.DefD := ⟨("least_unit", none), "least_unit", "least_unit", defArgs sLeastUnit, defBody sLeastUnit, defScope sLeastUnit, [], []⟩
def dSelfChange : He.DefD := ⟨("self_change", none), "self_change", "self_change", defArgs sSelfChange, defBody sSelfChange, defScope sSelfChange, [], []⟩
def dPrimitive : He.DefD := ⟨("primitive", none), "primitive", "primitive", defArgs sPrimitive, defBody sPrimitive, defScope sPrimitive, [], []⟩
def dZeroLines : He.DefD := ⟨("zero_lines", none), "zero_lines", "zero_lines", defArgs sZeroLines, defBody sZeroLines, defScope sZeroLines, [], []⟩
def dLeading : He.DefD := ⟨("leading", none), "leading", "leading", defArgs sLeading, defBody sLeading, defScope sLeading, [], []⟩
def dCanonicalSplit : He.DefD := ⟨("canonical_split", none), "canonical_split", "canonical_split", defArgs sCanonicalSplit, defBody sCanonicalSplit, defScope sCanonicalSplit, [], []⟩
def dFlatParts : He.DefD := ⟨("flat_parts", none), "flat_parts", "flat_parts", defArgs sFlatParts, defBody sFlatParts, defScope sFlatParts, [], []⟩
def dCanonicalFlat : He.DefD := ⟨("canonical_flat", none), "canonical_flat", "canonical_flat", defArgs sCanonicalFlat, defBody sCanonicalFlat, defScope sCanonicalFlat, [], []⟩
def dCanonicalForm : He.DefD := ⟨("canonical_form", none), "canonical_form", "canonical_form", defArgs sCanonicalForm, defBody sCanonicalForm, defScope sCanonicalForm, [], []⟩
def dSelfGroup : He.DefD := ⟨("self_group", none), "self_group", "self_group", defArgs sSelfGroup, defBody sSelfGroup, defScope sSelfGroup, [], []⟩
def dProperChange : He.DefD := ⟨("proper_change", none), "proper_change", "proper_change", defArgs sProperChange, defBody sProperChange, defScope sProperChange, [], []⟩
def dLawCell : He.DefD := ⟨("_law_cell", none), "_law_cell", "_law_cell", defArgs sLawCell, defBody sLawCell, defScope sLawCell, [], []⟩
def dLawNumbers : He.DefD := ⟨("_law_numbers", none), "_law_numbers", "_law_numbers", defArgs sLawNumbers, defBody sLawNumbers, defScope sLawNumbers, [], []⟩
def dLawState : He.DefD := ⟨("_law_state", none), "_law_state", "_law_state", defArgs sLawState, defBody sLawState, defScope sLawState, [], []⟩
def dLawNext : He.DefD := ⟨("_law_next", none), "_law_next", "_law_next", defArgs sLawNext, defBody sLawNext, defScope sLawNext, [], []⟩
def dLawRoot : He.DefD := ⟨("_law_root", none), "_law_root", "_law_root", defArgs sLawRoot, defBody sLawRoot, defScope sLawRoot, [], []⟩
def dLawMeasure : He.DefD := ⟨("_law_measure", none), "_law_measure", "_law_measure", defArgs sLawMeasure, defBody sLawMeasure, defScope sLawMeasure, [], []⟩
def dLawMul : He.DefD := ⟨("_law_mul", none), "_law_mul", "_law_mul", defArgs sLawMul, defBody sLawMul, defScope sLawMul, [], []⟩
def dLawWorth : He.DefD := ⟨("_law_worth", none), "_law_worth", "_law_worth", defArgs sLawWorth, defBody sLawWorth, defScope sLawWorth, [], []⟩
def dLawAct : He.DefD := ⟨("_law_act", none), "_law_act", "_law_act", defArgs sLawAct, defBody sLawAct, defScope sLawAct, [], []⟩
def dLawChange : He.DefD := ⟨("_law_change", none), "_law_change", "_law_change", defArgs sLawChange, defBody sLawChange, defScope sLawChange, [], []⟩
def dLawSquare : He.DefD := ⟨("_law_square", none), "_law_square", "_law_square", defArgs sLawSquare, defBody sLawSquare, defScope sLawSquare, [], []⟩
def dLawKind : He.DefD := ⟨("_law_kind", none), "_law_kind", "_law_kind", defArgs sLawKind, defBody sLawKind, defScope sLawKind, [], []⟩
def dLawSplit : He.DefD := ⟨("_law_split", none), "_law_split", "_law_split", defArgs sLawSplit, defBody sLawSplit, defScope sLawSplit, [], []⟩
def dLawFlat : He.DefD := ⟨("_law_flat", none), "_law_flat", "_law_flat", defArgs sLawFlat, defBody sLawFlat, defScope sLawFlat, [], []⟩
def dLawForm : He.DefD := ⟨("_law_form", none), "_law_form", "_law_form", defArgs sLawForm, defBody sLawForm, defScope sLawForm, [], []⟩
def dLawSmall : He.DefD := ⟨("_law_small", none), "_law_small", "_law_small", defArgs sLawSmall, defBody sLawSmall, defScope sLawSmall, [], []⟩
def dLawMade : He.DefD := ⟨("_law_made", none), "_law_made", "_law_made", defArgs sLawMade, defBody sLawMade, defScope sLawMade, [], []⟩
def dLawShear : He.DefD := ⟨("_law_shear", none), "_law_shear", "_law_shear", defArgs sLawShear, defBody sLawShear, defScope sLawShear, [], []⟩
def dLaw : He.DefD := ⟨("law", none), "law", "law", defArgs sLaw, defBody sLaw, defScope sLaw, [], []⟩
def fn : List He.DefD := [dBezout, dMeasure, dFloorRoot, dIsSquare, dDiscriminant, dContent, dWorth, dAct, dScaled, dDivided, dKind, dMultiply, dDeterminant, dInverse, dNegative, dIsReducedDefinite, dReducePositive, dReduceDefinite, dSelfChanges, dIsReducedIndefinite, dStepOf, dReduceIndefinite, dCycle, dAround, dCanonical, dLeastUnit, dSelfChange, dPrimitive, dZeroLines, dLeading]
def fn2 : List He.DefD := [dCanonicalSplit, dFlatParts, dCanonicalFlat, dCanonicalForm, dSelfGroup, dProperChange, dLawCell, dLawNumbers, dLawState, dLawNext, dLawRoot, dLawMeasure, dLawMul, dLawWorth, dLawAct, dLawChange, dLawSquare, dLawKind, dLawSplit, dLawFlat, dLawForm, dLawSmall, dLawMade, dLawShear, dLaw]
def fa1 : List He.Fa := [.glo "bezout", .glo "measure", .glo "floor_root", .glo "is_square", .glo "discriminant", .glo "content", .glo "worth", .glo "act", .glo "scaled", .glo "divided", .glo "kind", .glo "multiply", .glo "determinant", .glo "inverse", .glo "negative", .glo "is_reduced_definite", .glo "reduce_positive", .glo "reduce_definite", .glo "self_changes", .glo "is_reduced_indefinite", .glo "step_of", .glo "reduce_indefinite", .glo "cycle", .glo "around", .glo "canonical", .glo "least_unit", .glo "self_change", .glo "primitive", .glo "zero_lines", .glo "leading"]
def fa2 : List He.Fa := [.glo "canonical_split", .glo "flat_parts", .glo "canonical_flat", .glo "canonical_form", .glo "self_group", .glo "proper_change", .glo "_law_cell", .glo "_law_numbers", .glo "_law_state", .glo "_law_next", .glo "_law_root", .glo "_law_measure", .glo "_law_mul", .glo "_law_worth", .glo "_law_act", .glo "_law_change", .glo "_law_square", .glo "_law_kind", .glo "_law_split", .glo "_law_flat", .glo "_law_form", .glo "_law_small", .glo "_law_made", .glo "_law_shear", .glo "law", .free "len", .free "abs", .free "int", .free "range", .free "tuple", .free "list", .free "min", .free "sorted", .free "isinstance", .glo "UNIT", .glo "SHEAR"]
def nm1 : List PySem.Str := ["bezout", "measure", "floor_root", "is_square", "discriminant", "content", "worth", "act", "scaled", "divided", "kind", "UNIT", "multiply", "determinant", "inverse", "negative", "is_reduced", "is_reduced_definite", "reduce_positive", "reduce_definite", "self_changes", "is_reduced_indefinite", "step_of", "reduce_indefinite", "cycle", "around", "canonical", "least_unit", "self_change", "primitive", "zero_lines", "leading"]
def nm2 : List PySem.Str := ["canonical_split", "flat_parts", "canonical_flat", "SHEAR", "canonical_form", "self_group", "proper_change", "_law_cell", "_law_numbers", "_law_state", "_law_next", "_law_wide", "_law_root", "_law_measure", "_law_mul", "_law_at", "_law_worth", "_law_act", "_law_change", "_law_square", "_law_kind", "_law_split", "_law_flat", "_law_form", "_law_small", "_law_made", "_law_shear"]
def fnA : List He.DefD := fn ++ fn2
def fa : List He.Fa := fa1 ++ fa2
def nm : List PySem.Str := nm1 ++ nm2
/-- the constants -/
def exB (K : PySem.W.Frag) : Bool := He.tupB K "UNIT" [.int 1, .int 0, .int 0, .int 1] && (He.tupB K "SHEAR" [.int 1, .int 0, .int 1, .int 1] && He.eqO (PySem.W.nsIn K mainGlobals "isqrt") (some (some (.builtin "math.isqrt"))))
abbrev AlY : Type := He.AlD × Bool
def obsY (n : Nat) (fa : List He.Fa) (fn : List He.DefD) (ex : PySem.W.Frag → Bool) (g : Addr → Option Obj) : AlY := (He.obsD fa fn (He.frG g (He.asD g n)), ex (He.frG g (He.asD g n)))
def hookY (n : Nat) (fa : List He.Fa) (fn : List He.DefD) (ex : PySem.W.Frag → Bool) : PySem.W.Hook where
  α := AlY
  obs := fun s => obsY n fa fn ex s.heap.get?
  val := fun _ => (He.valD fn, true)
  says := fun _ h => ∃ K : PySem.W.Frag, K.In h ∧ He.SaysD fa fn K ∧ ex K = true
  of := fun _ _ e => ⟨_, He.frG_in, congrArg (fun z : AlY => z.1) e, congrArg (fun z : AlY => z.2) e⟩
  keeps := fun _ _ _ ⟨K, hK, c⟩ k => ⟨K, PySem.W.Frag.In.keeps hK k, c⟩
theorem obsY_eq {n : Nat} {fa : List He.Fa} {fn : List He.DefD} {ex : PySem.W.Frag → Bool} {g : Addr → Option Obj} {s : Shared} (h : ∀ a, g a = s.heap.get? a) : obsY n fa fn ex g = (hookY n fa fn ex).obs s := by
  have e : g = s.heap.get? := funext h
  rw [e] <;> rfl
abbrev R : PySem.W.OpenRow := PySem.W.OpenLaw.row PySem.Challenge.rw_wholeconic_k16_whole_self_changes
abbrev hk : PySem.W.Hook := hookY 4 fa fnA exB
def ob (s : PySem.W.SharedT) : AlY := obsY 4 fa fnA exB (HeadRun.getT s)
theorem ob_eq (s : PySem.W.SharedT) : ob s = hk.obs s.abs := obsY_eq (HeadRun.getT_eq s)
theorem run (w : World) : HeadRun.RunEqI R (PySem.W.view R.prog [0, 69]) hk ob 4000 nm w := by
  unfold HeadRun.RunEqI
  kernel_rfl
end WH

namespace WH
open WC
open PySem PySem.Spec PyProof.Rows L2
theorem tx {K : PySem.W.Frag} {h : Heap} {mg : Str → Option Value} (X : K.In h) (G : h.Ns mainGlobals mg) (c : He.SaysD fa fnA K) (x : exB K = true) : Tx K mg := by
  obtain ⟨x1, x2⟩ := He.ba x
  obtain ⟨x2, x3⟩ := He.ba x2
  exact {
    fBezout := (c.def_ 0 (d := dBezout) rfl).elim fun fd F => ⟨_, fd, He.glo_ok X G (c.fact 0 (f := .glo "bezout") rfl), F⟩
    fMeasure := (c.def_ 1 (d := dMeasure) rfl).elim fun fd F => ⟨_, fd, He.glo_ok X G (c.fact 1 (f := .glo "measure") rfl), F⟩
    fFloorRoot := (c.def_ 2 (d := dFloorRoot) rfl).elim fun fd F => ⟨_, fd, He.glo_ok X G (c.fact 2 (f := .glo "floor_root") rfl), F⟩
    fIsSquare := (c.def_ 3 (d := dIsSquare) rfl).elim fun fd F => ⟨_, fd, He.glo_ok X G (c.fact 3 (f := .glo "is_square") rfl), F⟩
    fDiscriminant := (c.def_ 4 (d := dDiscriminant) rfl).elim fun fd F => ⟨_, fd, He.glo_ok X G (c.fact 4 (f := .glo "discriminant") rfl), F⟩
    fContent := (c.def_ 5 (d := dContent) rfl).elim fun fd F => ⟨_, fd, He.glo_ok X G (c.fact 5 (f := .glo "content") rfl), F⟩
    fWorth := (c.def_ 6 (d := dWorth) rfl).elim fun fd F => ⟨_, fd, He.glo_ok X G (c.fact 6 (f := .glo "worth") rfl), F⟩
    fAct := (c.def_ 7 (d := dAct) rfl).elim fun fd F => ⟨_, fd, He.glo_ok X G (c.fact 7 (f := .glo "act") rfl), F⟩
    fScaled := (c.def_ 8 (d := dScaled) rfl).elim fun fd F => ⟨_, fd, He.glo_ok X G (c.fact 8 (f := .glo "scaled") rfl), F⟩
    fDivided := (c.def_ 9 (d := dDivided) rfl).elim fun fd F => ⟨_, fd, He.glo_ok X G (c.fact 9 (f := .glo "divided") rfl), F⟩
    fKind := (c.def_ 10 (d := dKind) rfl).elim fun fd F => ⟨_, fd, He.glo_ok X G (c.fact 10 (f := .glo "kind") rfl), F⟩
    fMultiply := (c.def_ 11 (d := dMultiply) rfl).elim fun fd F => ⟨_, fd, He.glo_ok X G (c.fact 11 (f := .glo "multiply") rfl), F⟩
    fDeterminant := (c.def_ 12 (d := dDeterminant) rfl).elim fun fd F => ⟨_, fd, He.glo_ok X G (c.fact 12 (f := .glo "determinant") rfl), F⟩
    fInverse := (c.def_ 13 (d := dInverse) rfl).elim fun fd F => ⟨_, fd, He.glo_ok X G (c.fact 13 (f := .glo "inverse") rfl), F⟩
    fNegative := (c.def_ 14 (d := dNegative) rfl).elim fun fd F => ⟨_, fd, He.glo_ok X G (c.fact 14 (f := .glo "negative") rfl), F⟩
    fIsReducedDefinite := (c.def_ 15 (d := dIsReducedDefinite) rfl).elim fun fd F => ⟨_, fd, He.glo_ok X G (c.fact 15 (f := .glo "is_reduced_definite") rfl), F⟩
    fReducePositive := (c.def_ 16 (d := dReducePositive) rfl).elim fun fd F => ⟨_, fd, He.glo_ok X G (c.fact 16 (f := .glo "reduce_positive") rfl), F⟩
    fReduceDefinite := (c.def_ 17 (d := dReduceDefinite) rfl).elim fun fd F => ⟨_, fd, He.glo_ok X G (c.fact 17 (f := .glo "reduce_definite") rfl), F⟩
    fSelfChanges := (c.def_ 18 (d := dSelfChanges) rfl).elim fun fd F => ⟨_, fd, He.glo_ok X G (c.fact 18 (f := .glo "self_changes") rfl), F⟩
    fIsReducedIndefinite := (c.def_ 19 (d := dIsReducedIndefinite) rfl).elim fun fd F => ⟨_, fd, He.glo_ok X G (c.fact 19 (f := .glo "is_reduced_indefinite") rfl), F⟩
    fStepOf := (c.def_ 20 (d := dStepOf) rfl).elim fun fd F => ⟨_, fd, He.glo_ok X G (c.fact 20 (f := .glo "step_of") rfl), F⟩
    fReduceIndefinite := (c.def_ 21 (d := dReduceIndefinite) rfl).elim fun fd F => ⟨_, fd, He.glo_ok X G (c.fact 21 (f := .glo "reduce_indefinite") rfl), F⟩
    fCycle := (c.def_ 22 (d := dCycle) rfl).elim fun fd F => ⟨_, fd, He.glo_ok X G (c.fact 22 (f := .glo "cycle") rfl), F⟩
    fAround := (c.def_ 23 (d := dAround) rfl).elim fun fd F => ⟨_, fd, He.glo_ok X G (c.fact 23 (f := .glo "around") rfl), F⟩
    fCanonical := (c.def_ 24 (d := dCanonical) rfl).elim fun fd F => ⟨_, fd, He.glo_ok X G (c.fact 24 (f := .glo "canonical") rfl), F⟩
    fLeastUnit := (c.def_ 25 (d := dLeastUnit) rfl).elim fun fd F => ⟨_, fd, He.glo_ok X G (c.fact 25 (f := .glo "least_unit") rfl), F⟩
    fSelfChange := (c.def_ 26 (d := dSelfChange) rfl).elim fun fd F => ⟨_, fd, He.glo_ok X G (c.fact 26 (f := .glo "self_change") rfl), F⟩
    fPrimitive := (c.def_ 27 (d := dPrimitive) rfl).elim fun fd F => ⟨_, fd, He.glo_ok X G (c.fact 27 (f := .glo "primitive") rfl), F⟩
    fZeroLines := (c.def_ 28 (d := dZeroLines) rfl).elim fun fd F => ⟨_, fd, He.glo_ok X G (c.fact 28 (f := .glo "zero_lines") rfl), F⟩
    fLeading := (c.def_ 29 (d := dLeading) rfl).elim fun fd F => ⟨_, fd, He.glo_ok X G (c.fact 29 (f := .glo "leading") rfl), F⟩
    fCanonicalSplit := (c.def_ 30 (d := dCanonicalSplit) rfl).elim fun fd F => ⟨_, fd, He.glo_ok X G (c.fact 30 (f := .glo "canonical_split") rfl), F⟩
    fFlatParts := (c.def_ 31 (d := dFlatParts) rfl).elim fun fd F => ⟨_, fd, He.glo_ok X G (c.fact 31 (f := .glo "flat_parts") rfl), F⟩
    fCanonicalFlat := (c.def_ 32 (d := dCanonicalFlat) rfl).elim fun fd F => ⟨_, fd, He.glo_ok X G (c.fact 32 (f := .glo "canonical_flat") rfl), F⟩
    fCanonicalForm := (c.def_ 33 (d := dCanonicalForm) rfl).elim fun fd F => ⟨_, fd, He.glo_ok X G (c.fact 33 (f := .glo "canonical_form") rfl), F⟩
    fSelfGroup := (c.def_ 34 (d := dSelfGroup) rfl).elim fun fd F => ⟨_, fd, He.glo_ok X G (c.fact 34 (f := .glo "self_group") rfl), F⟩
    fProperChange := (c.def_ 35 (d := dProperChange) rfl).elim fun fd F => ⟨_, fd, He.glo_ok X G (c.fact 35 (f := .glo "proper_change") rfl), F⟩
    fLawCell := (c.def_ 36 (d := dLawCell) rfl).elim fun fd F => ⟨_, fd, He.glo_ok X G (c.fact 36 (f := .glo "_law_cell") rfl), F⟩
    fLawNumbers := (c.def_ 37 (d := dLawNumbers) rfl).elim fun fd F => ⟨_, fd, He.glo_ok X G (c.fact 37 (f := .glo "_law_numbers") rfl), F⟩
    fLawState := (c.def_ 38 (d := dLawState) rfl).elim fun fd F => ⟨_, fd, He.glo_ok X G (c.fact 38 (f := .glo "_law_state") rfl), F⟩
    fLawNext := (c.def_ 39 (d := dLawNext) rfl).elim fun fd F => ⟨_, fd, He.glo_ok X G (c.fact 39 (f := .glo "_law_next") rfl), F⟩
    fLawRoot := (c.def_ 40 (d := dLawRoot) rfl).elim fun fd F => ⟨_, fd, He.glo_ok X G (c.fact 40 (f := .glo "_law_root") rfl), F⟩
    fLawMeasure := (c.def_ 41 (d := dLawMeasure) rfl).elim fun fd F => ⟨_, fd, He.glo_ok X G (c.fact 41 (f := .glo "_law_measure") rfl), F⟩
    fLawMul := (c.def_ 42 (d := dLawMul) rfl).elim fun fd F => ⟨_, fd, He.glo_ok X G (c.fact 42 (f := .glo "_law_mul") rfl), F⟩
    fLawWorth := (c.def_ 43 (d := dLawWorth) rfl).elim fun fd F => ⟨_, fd, He.glo_ok X G (c.fact 43 (f := .glo "_law_worth") rfl), F⟩
    fLawAct := (c.def_ 44 (d := dLawAct) rfl).elim fun fd F => ⟨_, fd, He.glo_ok X G (c.fact 44 (f := .glo "_law_act") rfl), F⟩
    fLawChange := (c.def_ 45 (d := dLawChange) rfl).elim fun fd F => ⟨_, fd, He.glo_ok X G (c.fact 45 (f := .glo "_law_change") rfl), F⟩
    fLawSquare := (c.def_ 46 (d := dLawSquare) rfl).elim fun fd F => ⟨_, fd, He.glo_ok X G (c.fact 46 (f := .glo "_law_square") rfl), F⟩
    fLawKind := (c.def_ 47 (d := dLawKind) rfl).elim fun fd F => ⟨_, fd, He.glo_ok X G (c.fact 47 (f := .glo "_law_kind") rfl), F⟩
    fLawSplit := (c.def_ 48 (d := dLawSplit) rfl).elim fun fd F => ⟨_, fd, He.glo_ok X G (c.fact 48 (f := .glo "_law_split") rfl), F⟩
    fLawFlat := (c.def_ 49 (d := dLawFlat) rfl).elim fun fd F => ⟨_, fd, He.glo_ok X G (c.fact 49 (f := .glo "_law_flat") rfl), F⟩
    fLawForm := (c.def_ 50 (d := dLawForm) rfl).elim fun fd F => ⟨_, fd, He.glo_ok X G (c.fact 50 (f := .glo "_law_form") rfl), F⟩
    fLawSmall := (c.def_ 51 (d := dLawSmall) rfl).elim fun fd F => ⟨_, fd, He.glo_ok X G (c.fact 51 (f := .glo "_law_small") rfl), F⟩
    fLawMade := (c.def_ 52 (d := dLawMade) rfl).elim fun fd F => ⟨_, fd, He.glo_ok X G (c.fact 52 (f := .glo "_law_made") rfl), F⟩
    fLawShear := (c.def_ 53 (d := dLawShear) rfl).elim fun fd F => ⟨_, fd, He.glo_ok X G (c.fact 53 (f := .glo "_law_shear") rfl), F⟩
    bLen := He.free_ok X G (c.fact 55 (f := .free "len") rfl)
    bAbs := He.free_ok X G (c.fact 56 (f := .free "abs") rfl)
    bInt := He.free_ok X G (c.fact 57 (f := .free "int") rfl)
    bRange := He.free_ok X G (c.fact 58 (f := .free "range") rfl)
    bTuple := He.free_ok X G (c.fact 59 (f := .free "tuple") rfl)
    bList := He.free_ok X G (c.fact 60 (f := .free "list") rfl)
    bMin := He.free_ok X G (c.fact 61 (f := .free "min") rfl)
    bSorted := He.free_ok X G (c.fact 62 (f := .free "sorted") rfl)
    bIsinstance := He.free_ok X G (c.fact 63 (f := .free "isinstance") rfl)
    cUnit := ⟨_, He.glo_ok X G (c.fact 64 (f := .glo "UNIT") rfl), fun H => He.tupB_ok x1 H⟩
    cShear := ⟨_, He.glo_ok X G (c.fact 65 (f := .glo "SHEAR") rfl), fun H => He.tupB_ok x2 H⟩
    cIsqrt := PySem.W.mg_of X G (He.eqO_ok x3) }
def lvl : Nat := 16
/-- the law's promise: handed a list of at most 63 ints, True comes out -/
def spLaw (K : PySem.W.Frag) : Sp := fun vs H Q _ => ∃ (a : Addr) (ns : List Int), vs = [.ref a] ∧ SqL K H a (ns.map V.int) ∧ ns.length ≤ 63 ∧ ∀ H', Q (.bl true) H'
end WH
open PySem PySem.W PySem.Calls PyProof.Rows
theorem WH.holds_of (hF : ∀ {P : Program} {w : World} {K : PySem.W.Frag} {mg : PySem.Str → Option Value} {base : Heap} {f : Addr} {fd : FuncData}, WC.Tx K mg → WC.FnP K "law" WC.sLaw f fd → L2.FnOk P w K mg base L2.CX0 WH.lvl f fd ["_law_script"] (WH.spLaw K)) : PySem.Challenge.rw_wholeconic_k16_whole_self_changes.Holds := by
  w_on; o_law
  refine HeadRun.head_imp (r := OpenLaw.row PySem.Challenge.rw_wholeconic_k16_whole_self_changes) (q := view (OpenLaw.row PySem.Challenge.rw_wholeconic_k16_whole_self_changes).prog [0, 69]) (H := WH.hk) (ob := WH.ob) (M := 4000) (loose := WH.nm) (d := HeadRun.topDef (OpenLaw.row PySem.Challenge.rw_wholeconic_k16_whole_self_changes).prog 69) (kwd := []) WH.ob_eq WH.run (by kernel_rfl) (by kernel_rfl) (by kernel_rfl) (by rfl) (by first | assumption | decide +kernel) (by decide +kernel) ⟨rfl, rfl, rfl, rfl, rfl, by decide +kernel⟩ ?hw ?hc
  case hw => w_witness2
  case hc =>
    refine L2.walk_ofE (l := PySem.Challenge.rw_wholeconic_k16_whole_self_changes) (n := 63) (k := WH.lvl) (x := "_law_script") (CX := L2.CX0) rfl (by decide) (by kernel_rfl) ⟨rfl, by decide, by decide⟩ ?F (fun _ _ _ _ z => z)
    intro w mg fa h Y G hmg0
    obtain ⟨K, KX, c, x⟩ := Y
    have hmg : mg ("law" : PySem.Str) = some (.ref fa) := by
      have e : (HeadRun.topDef (OpenLaw.row PySem.Challenge.rw_wholeconic_k16_whole_self_changes).prog 69).name = ("law" : PySem.Str) := by kernel_rfl
      rw [← e]
      exact hmg0
    obtain ⟨fd, F⟩ := He.SaysD.def_ c 54 (d := WH.dLaw) rfl
    have e := hmg.symm.trans (He.glo_ok KX G (He.SaysD.fact c 54 (f := .glo "law") rfl))
    cases e
    have b := L2.FunD.bindsA (ps := ["_law_script"]) F fun _ _ _ _ _ _ us hl => match us, hl with | [_], _ => rfl
    exact ⟨K, fd, WH.spLaw K, KX, fun s v => b s [v] rfl, fun H a ns hl _ hS => ⟨a, ns, rfl, hS, hl, fun _ => rfl⟩, fun base _ _ => hF (WH.tx KX G c x) F⟩
namespace WC
open PySem PySem.Spec PyProof.Rows L2
open Evl (Ex)
/-! ### data -/
mutual
theorem dpm {K : PySem.W.Frag} {H H' : Hp} (e : Ex H H') : ∀ (d : PyData) (v : V), Dp K H v d → Dp K H' v d
  | .none, _, h => by cases h; exact .non
  | .bool b, _, h => by cases h; exact .bl b
  | .int i, _, h => by cases h; exact .int i
  | .str x, _, h => by cases h; exact .str x
  | .list ds, _, h => by
    cases h with
    | lst hs ha => exact .lst (Evl.ex_l e hs) (dpma e ds _ ha)
  | .tuple ds, _, h => by
    cases h with
    | tup hs ha => exact .tup (Evl.ex_t e hs) (dpma e ds _ ha)
  | .dict _, _, h => by cases h
theorem dpma {K : PySem.W.Frag} {H H' : Hp} (e : Ex H H') : ∀ (ds : List PyData) (vs : List V), DpAll K H vs ds → DpAll K H' vs ds
  | [], _, h => by cases h; exact .nil
  | d :: ds, _, h => by
    cases h with
    | cons h1 h2 => exact .cons (dpm e d _ h1) (dpma e ds _ h2)
end
end WC
namespace L2
open PySem PySem.Spec PyProof.Rows
open Evl (Ex)
theorem Dp.up {K : PySem.W.Frag} {H H' : Hp} {v : V} {d : PyData} (h : Dp K H v d) (e : Ex H H') : Dp K H' v d := WC.dpm e d v h
theorem DpAll.up {K : PySem.W.Frag} {H H' : Hp} {vs : List V} {ds : List PyData} (h : DpAll K H vs ds) (e : Ex H H') : DpAll K H' vs ds := WC.dpma e ds vs h
theorem DpAll.get {K : PySem.W.Frag} {H : Hp} : ∀ {vs : List V} {ds : List PyData}, DpAll K H vs ds → ∀ {i : Nat} {d : PyData}, ds[i]? = some d → ∃ v, vs[i]? = some v ∧ Dp K H v d
  | _, _, .nil, _, _, h => by simp at h
  | _, _, .cons h1 h2, 0, d, h => by
    simp at h; subst h
    exact ⟨_, rfl, h1⟩
  | _, _, .cons h1 h2, i + 1, d, h => by
    obtain ⟨v, e1, e2⟩ := DpAll.get h2 (i := i) (d := d) (by simpa using h)
    exact ⟨v, by simpa using e1, e2⟩
theorem DpAll.len {K : PySem.W.Frag} {H : Hp} : ∀ {vs : List V} {ds : List PyData}, DpAll K H vs ds → vs.length = ds.length
  | _, _, .nil => rfl
  | _, _, .cons _ h2 => congrArg Nat.succ (DpAll.len h2)
theorem DpAll.app {K : PySem.W.Frag} {H : Hp} : ∀ {vs ws : List V} {ds es : List PyData}, DpAll K H vs ds → DpAll K H ws es → DpAll K H (vs ++ ws) (ds ++ es)
  | _, _, _, _, .nil, h => h
  | _, _, _, _, .cons h1 h2, h => .cons h1 (DpAll.app h2 h)
end L2
namespace WC
open PySem PySem.Spec PyProof.Rows L2
open Evl (Ex)
theorem _root_.L2.Dp.int_eq {K : PySem.W.Frag} {H : Hp} {v : V} {i : Int} (h : Dp K H v (.int i)) : v = .int i := by cases h; rfl
theorem _root_.L2.Dp.bl_eq {K : PySem.W.Frag} {H : Hp} {v : V} {i : Bool} (h : Dp K H v (.bool i)) : v = .bl i := by cases h; rfl
theorem _root_.L2.Dp.str_eq {K : PySem.W.Frag} {H : Hp} {v : V} {i : Str} (h : Dp K H v (.str i)) : v = .str i := by cases h; rfl
theorem _root_.L2.Dp.non_eq {K : PySem.W.Frag} {H : Hp} {v : V} (h : Dp K H v .none) : v = .non := by cases h; rfl
/-! ### what a reading gives -/
def EvR (te : TE) (σ : L2.St) (H : Hp) (P : V → Hp → Prop) : Prop := ∀ H1, Ex H H1 → ∀ Q : VK, (∀ v H2, Ex H1 H2 → P v H2 → Q v H2) → te σ H1 Q
abbrev EvD (K : PySem.W.Frag) (te : TE) (σ : L2.St) (H : Hp) (d : PyData) : Prop := EvR te σ H fun v H2 => Dp K H2 v d
def EvAR (ta : TA) (σ : L2.St) (H : Hp) (P : List V → Hp → Prop) : Prop := ∀ H1, Ex H H1 → ∀ Q : List V → Hp → Prop, (∀ vs H2, Ex H1 H2 → P vs H2 → Q vs H2) → ta σ H1 Q
abbrev EvDA (K : PySem.W.Frag) (ta : TA) (σ : L2.St) (H : Hp) (ds : List PyData) : Prop := EvAR ta σ H fun vs H2 => DpAll K H2 vs ds
def EvB (tt : TT) (σ : L2.St) (H : Hp) (b : Bool) : Prop := ∀ H1, Ex H H1 → ∀ Q : Bool → Hp → Prop, (∀ H2, Ex H1 H2 → Q b H2) → tt σ H1 Q
section
variable {K : PySem.W.Frag} {σ : L2.St} {H H' : Hp} {ta tb tc te : TE} {t u : TT} {d d' : PyData} {P : V → Hp → Prop}
theorem EvR.up (e : Ex H H') (h : EvR te σ H P) : EvR te σ H' P := fun H1 a Q q => h H1 (e.trans a) Q q
theorem EvB.up {b : Bool} (e : Ex H H') (h : EvB t σ H b) : EvB t σ H' b := fun H1 a Q q => h H1 (e.trans a) Q q
theorem ed_var {i : Nat} {v : V} (h : σ[i]? = some (some v)) (hd : Dp K H v d) : EvD K (tVar i) σ H d := fun H1 e Q q => ⟨v, h, q v H1 (Ex.refl H1) (hd.up e)⟩
theorem er_var {i : Nat} {v : V} (h : σ[i]? = some (some v)) : EvR (tVar i) σ H (fun u _ => u = v) := fun H1 e Q q => ⟨v, h, q v H1 (Ex.refl H1) rfl⟩
theorem ed_int {i : Int} : EvD K (tC (.int i)) σ H (.int i) := fun H1 _ _ q => q _ H1 (Ex.refl H1) (.int i)
theorem ed_str {i : Str} : EvD K (tC (.str i)) σ H (.str i) := fun H1 _ _ q => q _ H1 (Ex.refl H1) (.str i)
theorem ed_bl {i : Bool} : EvD K (tC (.bl i)) σ H (.bool i) := fun H1 _ _ q => q _ H1 (Ex.refl H1) (.bl i)
theorem ed_non : EvD K (tC .non) σ H .none := fun H1 _ _ q => q _ H1 (Ex.refl H1) .non
theorem ed_op {r : R2} {R : V → Hp → Prop} (ha : EvD K ta σ H d) (hb : EvD K tb σ H d') (hr : ∀ x y H1, Ex H H1 → Dp K H1 x d → Dp K H1 y d' → ∀ Q : VK, (∀ v H2, Ex H1 H2 → R v H2 → Q v H2) → r x y H1 Q) : EvR (tOp r ta tb) σ H R := fun H1 e Q q =>
  ha H1 e _ fun x H2 e2 hx => hb H2 (e.trans e2) _ fun y H3 e3 hy => hr x y H3 ((e.trans e2).trans e3) (hx.up e3) hy Q fun v H4 e4 hv => q v H4 ((e2.trans e3).trans e4) hv
theorem ed_un {r : V → Hp → VK → Prop} {R : V → Hp → Prop} (ha : EvD K ta σ H d) (hr : ∀ x H1, Ex H H1 → Dp K H1 x d → ∀ Q : VK, (∀ v H2, Ex H1 H2 → R v H2 → Q v H2) → r x H1 Q) : EvR (tUn r ta) σ H R := fun H1 e Q q =>
  ha H1 e _ fun x H2 e2 hx => hr x H2 (e.trans e2) hx Q fun v H4 e4 hv => q v H4 (e2.trans e4) hv
theorem ed_I0 {g : Int → Int → Int} {i j : Int} (ha : EvD K ta σ H (.int i)) (hb : EvD K tb σ H (.int j)) : EvD K (tOp (rI0 fun i j => .int (g i j)) ta tb) σ H (.int (g i j)) :=
  ed_op ha hb fun x y H1 _ hx hy Q q => ⟨i, j, hx.int_eq, hy.int_eq, q _ H1 (Ex.refl H1) (.int _)⟩
theorem ed_I {C : Int → Int → Prop} {g : Int → Int → Int} {i j : Int} (ha : EvD K ta σ H (.int i)) (hb : EvD K tb σ H (.int j)) (hc : C i j) : EvD K (tOp (rI C fun i j => .int (g i j)) ta tb) σ H (.int (g i j)) :=
  ed_op ha hb fun x y H1 _ hx hy Q q => ⟨i, j, hx.int_eq, hy.int_eq, hc, q _ H1 (Ex.refl H1) (.int _)⟩
theorem ed_B0 {g : Int → Int → Bool} {i j : Int} (ha : EvD K ta σ H (.int i)) (hb : EvD K tb σ H (.int j)) : EvD K (tOp (rI0 fun i j => .bl (g i j)) ta tb) σ H (.bool (g i j)) :=
  ed_op ha hb fun x y H1 _ hx hy Q q => ⟨i, j, hx.int_eq, hy.int_eq, q _ H1 (Ex.refl H1) (.bl _)⟩
theorem ed_U {g : Int → Int} {i : Int} (ha : EvD K ta σ H (.int i)) : EvD K (tUn (rU fun i => .int (g i)) ta) σ H (.int (g i)) :=
  ed_un ha fun x H1 _ hx Q q => ⟨i, hx.int_eq, q _ H1 (Ex.refl H1) (.int _)⟩
theorem ed_ixT {ds : List PyData} {k : Int} {j : Nat} (ha : EvD K ta σ H (.tuple ds)) (hb : EvD K tb σ H (.int k)) (hk : k = (j : Int)) (hj : ds[j]? = some d) : EvD K (tOp (rIxT K) ta tb) σ H d :=
  ed_op ha hb fun x y H1 _ hx hy Q q => by
    cases hx with
    | tup hs hall =>
      obtain ⟨v, e1, e2⟩ := DpAll.get hall hj
      exact ⟨_, _, k, v, rfl, hy.int_eq, hs, by rw [hk]; exact atI_nat e1, q v H1 (Ex.refl H1) e2⟩
theorem ed_ixL {ds : List PyData} {k : Int} {j : Nat} (ha : EvD K ta σ H (.list ds)) (hb : EvD K tb σ H (.int k)) (hk : k = (j : Int)) (hj : ds[j]? = some d) : EvD K (tOp (rIxL K) ta tb) σ H d :=
  ed_op ha hb fun x y H1 _ hx hy Q q => by
    cases hx with
    | lst hs hall =>
      obtain ⟨v, e1, e2⟩ := DpAll.get hall hj
      exact ⟨_, _, k, v, rfl, hy.int_eq, hs, by rw [hk]; exact atI_nat e1, q v H1 (Ex.refl H1) e2⟩
theorem eda_nil : EvDA K tNil σ H [] := fun H1 _ _ q => q [] H1 (Ex.refl H1) .nil
theorem eda_cons {tr : TA} {ds : List PyData} (h : EvD K ta σ H d) (hr : EvDA K tr σ H ds) : EvDA K (tCons ta tr) σ H (d :: ds) := fun H1 e _ q =>
  h H1 e _ fun v H2 e2 hv => hr H2 (e.trans e2) _ fun vs H3 e3 hvs => q _ H3 (e2.trans e3) (.cons (hv.up e3) hvs)
theorem ed_tup {tr : TA} {ds : List PyData} (h : EvDA K tr σ H ds) (hl : ds.length ≤ 100000) : EvD K (tTup tr) σ H (.tuple ds) := fun H1 e _ q =>
  h H1 e _ fun vs H2 e2 hvs => ⟨Evl.sz_of (by rw [hvs.len]; exact hl), fun p hp => q _ _ (e2.trans (Ex.new hp)) (.tup (Evl.st_of upd_same) (hvs.up (Ex.new hp)))⟩
theorem ed_lst {tr : TA} {ds : List PyData} (h : EvDA K tr σ H ds) (hl : ds.length ≤ 100000) : EvD K (tLst tr) σ H (.list ds) := fun H1 e _ q =>
  h H1 e _ fun vs H2 e2 hvs => ⟨Evl.sz_of (by rw [hvs.len]; exact hl), fun p hp => q _ _ (e2.trans (Ex.new hp)) (.lst (Evl.sq_of upd_same) (hvs.up (Ex.new hp)))⟩
/-- a new list, tracked as its own -/
theorem er_lst {tr : TA} {P : List V → Hp → Prop} (h : EvAR tr σ H P) (hl : ∀ vs H1, P vs H1 → vs.length ≤ 100000) : EvR (tLst tr) σ H (fun v H2 => ∃ p vs H1, v = .ref p ∧ H1 p = none ∧ Ex H H1 ∧ P vs H1 ∧ H2 = upd H1 p (.lst vs)) := fun H1 e _ q =>
  h H1 e _ fun vs H2 e2 hvs => ⟨Evl.sz_of (hl vs H2 hvs), fun p hp => q _ _ (e2.trans (Ex.new hp)) ⟨p, vs, H2, rfl, hp, e.trans e2, hvs, rfl⟩⟩
theorem ed_callR {sp : Sp} {E : XK} {tr : TA} {ds : List PyData} {R : V → Hp → Prop} (h : EvDA K tr σ H ds) (hs : ∀ vs H1, Ex H H1 → DpAll K H1 vs ds → ∀ Q : VK, (∀ v H2, Ex H1 H2 → R v H2 → Q v H2) → sp vs H1 Q E) : EvR (tCall sp [] E tr) σ H R := fun H1 e Q q =>
  h H1 e _ fun vs H2 e2 hvs => by
    show sp (vs ++ []) H2 Q E
    rw [List.append_nil]
    exact hs vs H2 (e.trans e2) hvs Q fun v H3 e3 hv => q v H3 (e2.trans e3) hv
theorem ed_cb {r : List V → Hp → VK → Prop} {tr : TA} {ds : List PyData} {R : V → Hp → Prop} (h : EvDA K tr σ H ds) (hs : ∀ vs H1, Ex H H1 → DpAll K H1 vs ds → ∀ Q : VK, (∀ v H2, Ex H1 H2 → R v H2 → Q v H2) → r vs H1 Q) : EvR (tCB r tr) σ H R := fun H1 e Q q =>
  h H1 e _ fun vs H2 e2 hvs => hs vs H2 (e.trans e2) hvs Q fun v H3 e3 hv => q v H3 (e2.trans e3) hv
theorem ed_andV {a b : Bool} (h1 : EvD K ta σ H (.bool a)) (h2 : a = true → EvD K tb σ H (.bool b)) : EvD K (tAndV ta tb) σ H (.bool (a && b)) := fun H1 e Q q => h1 H1 e _ fun v H2 e2 hv => ⟨a, hv.bl_eq, by
  cases a with
  | true => exact h2 rfl H2 (e.trans e2) Q fun v H3 e3 hv => q v H3 (e2.trans e3) hv
  | false => exact q _ H2 e2 (.bl false)⟩
theorem ed_orV {a b : Bool} (h1 : EvD K ta σ H (.bool a)) (h2 : a = false → EvD K tb σ H (.bool b)) : EvD K (tOrV ta tb) σ H (.bool (a || b)) := fun H1 e Q q => h1 H1 e _ fun v H2 e2 hv => ⟨a, hv.bl_eq, by
  cases a with
  | true => exact q _ H2 e2 (.bl true)
  | false => exact h2 rfl H2 (e.trans e2) Q fun v H3 e3 hv => q v H3 (e2.trans e3) hv⟩
theorem ed_if {b : Bool} {R : V → Hp → Prop} (h : EvB t σ H b) (h1 : b = true → EvR ta σ H R) (h2 : b = false → EvR tb σ H R) : EvR (tIf t ta tb) σ H R := fun H1 e Q q => h H1 e _ fun H2 e2 => by
  cases b with
  | true => exact h1 rfl H2 (e.trans e2) Q fun v H3 e3 hv => q v H3 (e2.trans e3) hv
  | false => exact h2 rfl H2 (e.trans e2) Q fun v H3 e3 hv => q v H3 (e2.trans e3) hv
theorem ed_chain {r r' : R2} {g g' : Int → Int → Bool} {i j l : Int} (hr : r = rI0 fun i j => .bl (g i j)) (hr' : r' = rI0 fun i j => .bl (g' i j)) (ha : EvD K ta σ H (.int i)) (hb : EvD K tb σ H (.int j)) (hc : EvD K tc σ H (.int l)) : EvD K (tChain r r' ta tb tc) σ H (.bool (g i j && g' j l)) := fun H1 e Q q =>
  ha H1 e _ fun x H2 e2 hx => hb H2 (e.trans e2) _ fun y H3 e3 hy => by
    subst hr hr'
    refine ⟨i, j, hx.int_eq, hy.int_eq, g i j, rfl, ?_⟩
    cases hg : g i j with
    | true =>
      rw [if_pos rfl]
      refine hc H3 ((e.trans e2).trans e3) _ fun z H4 e4 hz => ⟨j, l, hy.int_eq, hz.int_eq, ?_⟩
      have := q (.bl (g' j l)) H4 ((e2.trans e3).trans e4) (by rw [hg, Bool.true_and]; exact .bl _)
      exact this
    | false =>
      rw [if_neg Bool.false_ne_true]
      exact q (.bl false) H3 (e2.trans e3) (by rw [hg, Bool.false_and]; exact .bl _)
/-! tests -/
theorem eb_test {b : Bool} (h : EvD K te σ H (.bool b)) : EvB (tTest te) σ H b := fun H1 e _ q => h H1 e _ fun v H2 e2 hv => ⟨b, hv.bl_eq, q H2 e2⟩
theorem eb_B {b : Bool} (h : EvD K te σ H (.bool b)) : EvB (tB te) σ H b := fun H1 e _ q => h H1 e _ fun v H2 e2 hv => ⟨b, hv.bl_eq, q H2 e2⟩
theorem eb_not {b : Bool} (h : EvB t σ H b) : EvB (tNot t) σ H (!b) := fun H1 e _ q => h H1 e _ fun H2 e2 => q H2 e2
theorem eb_and {a b : Bool} (h1 : EvB t σ H a) (h2 : a = true → EvB u σ H b) : EvB (tAnd t u) σ H (a && b) := fun H1 e Q q => h1 H1 e _ fun H2 e2 => by
  cases a with
  | true => exact h2 rfl H2 (e.trans e2) Q fun H3 e3 => q H3 (e2.trans e3)
  | false => exact q H2 e2
theorem eb_or {a b : Bool} (h1 : EvB t σ H a) (h2 : a = false → EvB u σ H b) : EvB (tOr t u) σ H (a || b) := fun H1 e Q q => h1 H1 e _ fun H2 e2 => by
  cases a with
  | true => exact q H2 e2
  | false => exact h2 rfl H2 (e.trans e2) Q fun H3 e3 => q H3 (e2.trans e3)
end
/-! ### a piece of syntax at a state -/
def wE (X : Cx) (e : Expr) : TE := fun σ H Q => ∀ pins s, Inv X pins σ H s → wpAny (model X.prog X.w) X.A (eval e X.env) (EP X pins σ Q) X.xe s
def wA (X : Cx) (es : List Expr) : TA := fun σ H Q => ∀ pos pins s, Inv X pins σ H s → wpAny (model X.prog X.w) X.A (spliced (backTo pos (starEach es X.env))) (AP X pins σ Q) X.xe s
def wT (X : Cx) (e : Expr) : TT := fun σ H Q => ∀ pins s, Inv X pins σ H s → wpAny (model X.prog X.w) X.A (isTrue e X.env (eval e X.env)) (TP X pins σ Q) X.xe s
def wW (X : Cx) (e : Expr) : TT := fun σ H Q => ∀ whole pins s, Inv X pins σ H s → wpAny (model X.prog X.w) X.A (isTrue e X.env whole) (TP X pins σ Q) X.xe s
def wS (X : Cx) (st : List Stmt) : TS := fun D σ H => ∀ pins s, Inv X pins σ H s → wpAny (model X.prog X.w) X.A (execs st X.env) (SP X pins D) X.xe s
theorem pw {X : Cx} {e : Expr} : PE X e (wE X e) := ⟨fun pins s σ H Q I h => h pins s I⟩
theorem pwa {X : Cx} {es : List Expr} : PA X es (wA X es) := ⟨fun pos pins s σ H Q I h => h pos pins s I⟩
theorem pwt {X : Cx} {e : Expr} : PT X e (wT X e) := ⟨fun pins s σ H Q I h => h pins s I⟩
theorem pww {X : Cx} {e : Expr} : PW X e (wW X e) := ⟨fun w pins s σ H Q I h => h w pins s I⟩
theorem pws {X : Cx} {st : List Stmt} : PSs X st (wS X st) := ⟨fun pins s σ H D I h => h pins s I⟩
abbrev CR (X : Cx) (e : Expr) (σ : L2.St) (H : Hp) (P : V → Hp → Prop) : Prop := EvR (wE X e) σ H P
abbrev CD (X : Cx) (e : Expr) (σ : L2.St) (H : Hp) (d : PyData) : Prop := EvD X.K (wE X e) σ H d
abbrev CDA (X : Cx) (es : List Expr) (σ : L2.St) (H : Hp) (ds : List PyData) : Prop := EvDA X.K (wA X es) σ H ds
abbrev CAR (X : Cx) (es : List Expr) (σ : L2.St) (H : Hp) (P : List V → Hp → Prop) : Prop := EvAR (wA X es) σ H P
abbrev CT (X : Cx) (e : Expr) (σ : L2.St) (H : Hp) (b : Bool) : Prop := EvB (wT X e) σ H b
abbrev CW (X : Cx) (e : Expr) (σ : L2.St) (H : Hp) (b : Bool) : Prop := EvB (wW X e) σ H b
section
variable {X : Cx} {σ : L2.St} {H : Hp} {a b c e : Expr} {es : List Expr} {pos : Pos} {d d' : PyData} {P : V → Hp → Prop}
theorem of_pe {t : TE} (h : PE X e t) (ev : EvR t σ H P) : CR X e σ H P := fun H1 e1 Q q pins s I => h.run pins s σ H1 Q I (ev H1 e1 Q q)
theorem of_pa {t : TA} {P : List V → Hp → Prop} (h : PA X es t) (ev : EvAR t σ H P) : CAR X es σ H P := fun H1 e1 Q q pos pins s I => h.run pos pins s σ H1 Q I (ev H1 e1 Q q)
theorem of_pt {t : TT} {b : Bool} (h : PT X e t) (ev : EvB t σ H b) : CT X e σ H b := fun H1 e1 Q q pins s I => h.run pins s σ H1 Q I (ev H1 e1 Q q)
theorem of_pw {t : TT} {b : Bool} (h : PW X e t) (ev : EvB t σ H b) : CW X e σ H b := fun H1 e1 Q q w pins s I => h.run w pins s σ H1 Q I (ev H1 e1 Q q)
theorem ct_w {b : Bool} (h : CW X e σ H b) : CT X e σ H b := of_pt pww.pt h
/-! expressions -/
theorem c_var (i : Nat) {x : Str} {v : V} (hs : σ[i]? = some (some v)) (hd : Dp X.K H v d) (hN : X.N[i]? = some x := by rfl) (hv : Vis X.env.scope x := by first | exact Or.inl rfl | exact Or.inr (Or.inl rfl) | exact Or.inr (Or.inr rfl)) (hdb : (x == ("__debug__" : Str)) = false := by decide)
    (hcd : (x == ("__classdict__" : Str)) = false := by decide) : CD X (.Name x pos) σ H d := of_pe (pe_var (i := i) hN hv hdb hcd) (ed_var hs hd)
theorem c_varR (i : Nat) {x : Str} {v : V} (hs : σ[i]? = some (some v)) (hN : X.N[i]? = some x := by rfl) (hv : Vis X.env.scope x := by first | exact Or.inl rfl | exact Or.inr (Or.inl rfl) | exact Or.inr (Or.inr rfl)) (hdb : (x == ("__debug__" : Str)) = false := by decide)
    (hcd : (x == ("__classdict__" : Str)) = false := by decide) : CR X (.Name x pos) σ H (fun u _ => u = v) := of_pe (pe_var (i := i) hN hv hdb hcd) (er_var hs)
theorem c_int {i j} : CD X (.Constant (.int i) j pos) σ H (.int i) := of_pe pe_int ed_int
theorem c_str {i j} : CD X (.Constant (.str i) j pos) σ H (.str i) := of_pe pe_str ed_str
theorem c_bl {i j} : CD X (.Constant (.bool i) j pos) σ H (.bool i) := of_pe pe_bl ed_bl
theorem c_non {j} : CD X (.Constant .none j pos) σ H .none := of_pe pe_non ed_non
theorem c_add {i j : Int} (ha : CD X a σ H (.int i)) (hb : CD X b σ H (.int j)) : CD X (.BinOp a .Add b pos) σ H (.int (i + j)) := of_pe (pe_op op_add pw pw) (ed_I0 ha hb)
theorem c_sub {i j : Int} (ha : CD X a σ H (.int i)) (hb : CD X b σ H (.int j)) : CD X (.BinOp a .Sub b pos) σ H (.int (i - j)) := of_pe (pe_op op_sub pw pw) (ed_I0 ha hb)
theorem c_mul {i j : Int} (ha : CD X a σ H (.int i)) (hb : CD X b σ H (.int j)) (hc : CMulW i j) : CD X (.BinOp a .Mult b pos) σ H (.int (i * j)) := of_pe (pe_op op_mulW pw pw) (ed_I ha hb hc)
theorem c_fdiv {i j : Int} (ha : CD X a σ H (.int i)) (hb : CD X b σ H (.int j)) (hc : CDivN i j) : CD X (.BinOp a .FloorDiv b pos) σ H (.int (i.fdiv j)) := of_pe (pe_op op_fdivN pw pw) (ed_I ha hb hc)
theorem c_mod {i j : Int} (ha : CD X a σ H (.int i)) (hb : CD X b σ H (.int j)) (hc : 0 < j) : CD X (.BinOp a .Mod b pos) σ H (.int (i % j)) := of_pe (pe_op op_mod pw pw) (ed_I ha hb hc)
theorem c_neg {i : Int} (ha : CD X a σ H (.int i)) : CD X (.UnaryOp .USub a pos) σ H (.int (-i)) := of_pe (pe_un un_neg pw) (ed_U ha)
theorem c_ixT {ds : List PyData} {k : Int} (j : Nat) (ha : CD X a σ H (.tuple ds)) (hb : CD X b σ H (.int k)) (hj : ds[j]? = some d) (hk : k = (j : Int)) (hs : PlainIx b) : CD X (.Subscript a b pos) σ H d := of_pe (pe_ix ix_tup pw pw hs) (ed_ixT ha hb hk hj)
theorem c_ixL {ds : List PyData} {k : Int} (j : Nat) (ha : CD X a σ H (.list ds)) (hb : CD X b σ H (.int k)) (hj : ds[j]? = some d) (hk : k = (j : Int)) (hs : PlainIx b) : CD X (.Subscript a b pos) σ H d := of_pe (pe_ix ix_list pw pw hs) (ed_ixL ha hb hk hj)
theorem ca_nil : CDA X [] σ H [] := of_pa pa_nil eda_nil
theorem ca_cons {ds : List PyData} (h : CD X e σ H d) (hr : CDA X es σ H ds) (hs : starEach (e :: es) X.env = (false, eval e X.env) :: starEach es X.env := by rfl) : CDA X (e :: es) σ H (d :: ds) := of_pa (pa_cons pw pwa hs) (eda_cons h hr)
theorem c_tup {ds : List PyData} {k} (h : CDA X es σ H ds) (hl : ds.length ≤ 100000 := by first | decide | (simp only [List.length_cons, List.length_nil]; omega)) : CD X (.Tuple es k pos) σ H (.tuple ds) := of_pe (pe_tup pwa) (ed_tup h hl)
theorem c_lst {ds : List PyData} (h : CDA X es σ H ds) (hl : ds.length ≤ 100000 := by first | decide | (simp only [List.length_cons, List.length_nil]; omega)) : CD X (.List es pos) σ H (.list ds) := of_pe (pe_lst pwa) (ed_lst h hl)
theorem c_abs {i : Int} (ha : CD X a σ H (.int i)) (hm : X.mg "abs" = none) (hg : Gl X "abs" := by rfl) (he : starEach [a] X.env = (false, eval a X.env) :: starEach [] X.env := by rfl) {p : Pos} : CD X (.Call (.Name "abs" p) [a] [] pos) σ H (.int (if i < 0 then -i else i)) :=
  of_pe (pe_callB call_abs hg hm (by decide +kernel) (pa_cons pw pa_nil he) (by decide) (by decide) he (by rfl)) (ed_cb (eda_cons ha eda_nil) fun vs H1 _ hv Q q => by
    cases hv with
    | cons h1 h2 =>
      cases h2; cases h1
      exact ⟨i, rfl, q _ H1 (Ex.refl H1) (.int _)⟩)
theorem c_intc {i : Int} (ha : CD X a σ H (.int i)) (hm : X.mg "int" = none) (hg : Gl X "int" := by rfl) (he : starEach [a] X.env = (false, eval a X.env) :: starEach [] X.env := by rfl) {p : Pos} : CD X (.Call (.Name "int" p) [a] [] pos) σ H (.int i) :=
  of_pe (pe_callTy call_int1 hg hm (by decide +kernel) (pa_cons pw pa_nil he) (by decide) (by decide) he (by rfl)) (ed_cb (eda_cons ha eda_nil) fun vs H1 _ hv Q q => by
    cases hv with
    | cons h1 h2 =>
      cases h2; cases h1
      exact .inl ⟨i, rfl, q _ H1 (Ex.refl H1) (.int _)⟩)
theorem c_intb {i : Bool} (ha : CD X a σ H (.bool i)) (hm : X.mg "int" = none) (hg : Gl X "int" := by rfl) (he : starEach [a] X.env = (false, eval a X.env) :: starEach [] X.env := by rfl) {p : Pos} : CD X (.Call (.Name "int" p) [a] [] pos) σ H (.int (if i then 1 else 0)) :=
  of_pe (pe_callTy call_int1 hg hm (by decide +kernel) (pa_cons pw pa_nil he) (by decide) (by decide) he (by rfl)) (ed_cb (eda_cons ha eda_nil) fun vs H1 _ hv Q q => by
    cases hv with
    | cons h1 h2 =>
      cases h2; cases h1
      exact .inr ⟨i, rfl, q _ H1 (Ex.refl H1) (.int _)⟩)
/-! comparisons of ints as tests, as values -/
theorem t_lt {i j : Int} (ha : CD X a σ H (.int i)) (hb : CD X b σ H (.int j)) : CT X (.Compare a [.Lt] [b] pos) σ H (decide (i < j)) := of_pt (pt_cmpR op_lt pw pw (nomark _)) (eb_test (ed_B0 ha hb))
theorem t_le {i j : Int} (ha : CD X a σ H (.int i)) (hb : CD X b σ H (.int j)) : CT X (.Compare a [.LtE] [b] pos) σ H (decide (i ≤ j)) := of_pt (pt_cmpR op_le pw pw (nomark _)) (eb_test (ed_B0 ha hb))
theorem t_gt {i j : Int} (ha : CD X a σ H (.int i)) (hb : CD X b σ H (.int j)) : CT X (.Compare a [.Gt] [b] pos) σ H (decide (j < i)) := of_pt (pt_cmpR op_gt pw pw (nomark _)) (eb_test (ed_B0 ha hb))
theorem t_ge {i j : Int} (ha : CD X a σ H (.int i)) (hb : CD X b σ H (.int j)) : CT X (.Compare a [.GtE] [b] pos) σ H (decide (j ≤ i)) := of_pt (pt_cmpR op_ge pw pw (nomark _)) (eb_test (ed_B0 ha hb))
theorem ed_eqI {ta tb : TE} {K : PySem.W.Frag} {i j : Int} (ha : EvD K ta σ H (.int i)) (hb : EvD K tb σ H (.int j)) : EvD K (tOp rEq ta tb) σ H (.bool (decide (i = j))) :=
  ed_op ha hb fun x y H1 _ hx hy Q q => by
    cases hx; cases hy
    refine ⟨rfl, q _ H1 (Ex.refl H1) ?_⟩
    have : decide (V.int i = V.int j) = decide (i = j) := decide_eq_decide.mpr ⟨V.int.inj, congrArg _⟩
    rw [this]; exact .bl _
theorem ed_neI {ta tb : TE} {K : PySem.W.Frag} {i j : Int} (ha : EvD K ta σ H (.int i)) (hb : EvD K tb σ H (.int j)) : EvD K (tOp rNe ta tb) σ H (.bool (!decide (i = j))) :=
  ed_op ha hb fun x y H1 _ hx hy Q q => by
    cases hx; cases hy
    refine ⟨rfl, q _ H1 (Ex.refl H1) ?_⟩
    have : decide (V.int i = V.int j) = decide (i = j) := decide_eq_decide.mpr ⟨V.int.inj, congrArg _⟩
    rw [this]; exact .bl _
theorem ed_eqS {ta tb : TE} {K : PySem.W.Frag} {i j : Str} (ha : EvD K ta σ H (.str i)) (hb : EvD K tb σ H (.str j)) : EvD K (tOp rEq ta tb) σ H (.bool (decide (i = j))) :=
  ed_op ha hb fun x y H1 _ hx hy Q q => by
    cases hx; cases hy
    refine ⟨rfl, q _ H1 (Ex.refl H1) ?_⟩
    have : decide (V.str i = V.str j) = decide (i = j) := decide_eq_decide.mpr ⟨V.str.inj, congrArg _⟩
    rw [this]; exact .bl _
theorem ed_neS {ta tb : TE} {K : PySem.W.Frag} {i j : Str} (ha : EvD K ta σ H (.str i)) (hb : EvD K tb σ H (.str j)) : EvD K (tOp rNe ta tb) σ H (.bool (!decide (i = j))) :=
  ed_op ha hb fun x y H1 _ hx hy Q q => by
    cases hx; cases hy
    refine ⟨rfl, q _ H1 (Ex.refl H1) ?_⟩
    have : decide (V.str i = V.str j) = decide (i = j) := decide_eq_decide.mpr ⟨V.str.inj, congrArg _⟩
    rw [this]; exact .bl _
theorem ed_neB {ta tb : TE} {K : PySem.W.Frag} {i j : Bool} (ha : EvD K ta σ H (.bool i)) (hb : EvD K tb σ H (.bool j)) : EvD K (tOp rNe ta tb) σ H (.bool (!decide (i = j))) :=
  ed_op ha hb fun x y H1 _ hx hy Q q => by
    cases hx; cases hy
    refine ⟨rfl, q _ H1 (Ex.refl H1) ?_⟩
    have : decide (V.bl i = V.bl j) = decide (i = j) := decide_eq_decide.mpr ⟨V.bl.inj, congrArg _⟩
    rw [this]; exact .bl _
theorem t_eqI {i j : Int} (ha : CD X a σ H (.int i)) (hb : CD X b σ H (.int j)) : CT X (.Compare a [.Eq] [b] pos) σ H (decide (i = j)) := of_pt (pt_cmpR op_eq pw pw (nomark _)) (eb_test (ed_eqI ha hb))
theorem t_neI {i j : Int} (ha : CD X a σ H (.int i)) (hb : CD X b σ H (.int j)) : CT X (.Compare a [.NotEq] [b] pos) σ H (!decide (i = j)) := of_pt (pt_cmpR op_ne pw pw (nomark _)) (eb_test (ed_neI ha hb))
theorem t_eqS {i j : Str} (ha : CD X a σ H (.str i)) (hb : CD X b σ H (.str j)) : CT X (.Compare a [.Eq] [b] pos) σ H (decide (i = j)) := of_pt (pt_cmpR op_eq pw pw (nomark _)) (eb_test (ed_eqS ha hb))
theorem t_neS {i j : Str} (ha : CD X a σ H (.str i)) (hb : CD X b σ H (.str j)) : CT X (.Compare a [.NotEq] [b] pos) σ H (!decide (i = j)) := of_pt (pt_cmpR op_ne pw pw (nomark _)) (eb_test (ed_neS ha hb))
theorem t_neB {i j : Bool} (ha : CD X a σ H (.bool i)) (hb : CD X b σ H (.bool j)) : CT X (.Compare a [.NotEq] [b] pos) σ H (!decide (i = j)) := of_pt (pt_cmpR op_ne pw pw (nomark _)) (eb_test (ed_neB ha hb))
theorem v_lt {i j : Int} (ha : CD X a σ H (.int i)) (hb : CD X b σ H (.int j)) : CD X (.Compare a [.Lt] [b] pos) σ H (.bool (decide (i < j))) := of_pe (pe_cmpR op_lt pw pw (nomark _)) (ed_B0 ha hb)
theorem v_ge {i j : Int} (ha : CD X a σ H (.int i)) (hb : CD X b σ H (.int j)) : CD X (.Compare a [.GtE] [b] pos) σ H (.bool (decide (j ≤ i))) := of_pe (pe_cmpR op_ge pw pw (nomark _)) (ed_B0 ha hb)
theorem v_gt {i j : Int} (ha : CD X a σ H (.int i)) (hb : CD X b σ H (.int j)) : CD X (.Compare a [.Gt] [b] pos) σ H (.bool (decide (j < i))) := of_pe (pe_cmpR op_gt pw pw (nomark _)) (ed_B0 ha hb)
theorem v_eqI {i j : Int} (ha : CD X a σ H (.int i)) (hb : CD X b σ H (.int j)) : CD X (.Compare a [.Eq] [b] pos) σ H (.bool (decide (i = j))) := of_pe (pe_cmpR op_eq pw pw (nomark _)) (ed_eqI ha hb)
theorem v_eqS {i j : Str} (ha : CD X a σ H (.str i)) (hb : CD X b σ H (.str j)) : CD X (.Compare a [.Eq] [b] pos) σ H (.bool (decide (i = j))) := of_pe (pe_cmpR op_eq pw pw (nomark _)) (ed_eqS ha hb)
/-- two tuples of data -/
theorem ed_eqD {ta tb : TE} {K : PySem.W.Frag} (ha : EvD K ta σ H d) (hb : EvD K tb σ H d') (h1 : SeqAt.shaped d = true) (h2 : SeqAt.shaped d' = true) : EvD K (tOp (rEqD K) ta tb) σ H (.bool (PyData.eqv d d')) :=
  ed_op ha hb fun x y H1 _ hx hy Q q => ⟨d, d', hx, hy, h1, h2, q _ H1 (Ex.refl H1) (.bl _)⟩
theorem ed_neD {ta tb : TE} {K : PySem.W.Frag} (ha : EvD K ta σ H d) (hb : EvD K tb σ H d') (h1 : SeqAt.shaped d = true) (h2 : SeqAt.shaped d' = true) : EvD K (tOp (rNeD K) ta tb) σ H (.bool (!PyData.eqv d d')) :=
  ed_op ha hb fun x y H1 _ hx hy Q q => ⟨d, d', hx, hy, h1, h2, q _ H1 (Ex.refl H1) (.bl _)⟩
theorem t_eqD (hu : X.A.units + 64 < cLine) (ha : CD X a σ H d) (hb : CD X b σ H d') (h1 : SeqAt.shaped d = true) (h2 : SeqAt.shaped d' = true) : CT X (.Compare a [.Eq] [b] pos) σ H (PyData.eqv d d') := of_pt (pt_cmpR (op_eqD hu) pw pw (nomark _)) (eb_test (ed_eqD ha hb h1 h2))
theorem t_neD (hu : X.A.units + 64 < cLine) (ha : CD X a σ H d) (hb : CD X b σ H d') (h1 : SeqAt.shaped d = true) (h2 : SeqAt.shaped d' = true) : CT X (.Compare a [.NotEq] [b] pos) σ H (!PyData.eqv d d') := of_pt (pt_cmpR (op_neD hu) pw pw (nomark _)) (eb_test (ed_neD ha hb h1 h2))
theorem v_eqD (hu : X.A.units + 64 < cLine) (ha : CD X a σ H d) (hb : CD X b σ H d') (h1 : SeqAt.shaped d = true) (h2 : SeqAt.shaped d' = true) : CD X (.Compare a [.Eq] [b] pos) σ H (.bool (PyData.eqv d d')) := of_pe (pe_cmpR (op_eqD hu) pw pw (nomark _)) (ed_eqD ha hb h1 h2)
/-! and, or, not -/
theorem t_and {rest : List Expr} {p q : Bool} (ha : CT X a σ H p) (hb : p = true → CW X (.BoolOp .And (b :: rest) pos) σ H q) : CW X (.BoolOp .And (a :: b :: rest) pos) σ H (p && q) := of_pw (pw_and pwt pww) (eb_and ha hb)
theorem t_and1 {p : Bool} (ha : CT X a σ H p) : CW X (.BoolOp .And [a] pos) σ H p := of_pw (pw_and1 pwt) ha
theorem t_or {rest : List Expr} {p q : Bool} (ha : CT X a σ H p) (hb : p = false → CW X (.BoolOp .Or (b :: rest) pos) σ H q) : CW X (.BoolOp .Or (a :: b :: rest) pos) σ H (p || q) := of_pw (pw_or pwt pww) (eb_or ha hb)
theorem t_or1 {p : Bool} (ha : CT X a σ H p) : CW X (.BoolOp .Or [a] pos) σ H p := of_pw (pw_or1 pwt) ha
theorem t_not {p : Bool} (ha : CT X a σ H p) : CT X (.UnaryOp .Not a pos) σ H (!p) := of_pt (pt_not pwt) (eb_not ha)
theorem t_val {p : Bool} (ha : CD X a σ H (.bool p)) (he : ∀ whole, isTrue a X.env whole = (do let v ← whole; standAt a.pos; holding [v] (truthy v)) := by intro _; rfl) : CT X a σ H p := of_pt (pt_val pw he) (eb_B ha)
theorem v_and {rest : List Expr} {p q : Bool} (ha : CD X a σ H (.bool p)) (hb : p = true → CD X (.BoolOp .And (b :: rest) pos) σ H (.bool q)) : CD X (.BoolOp .And (a :: b :: rest) pos) σ H (.bool (p && q)) := of_pe (pe_and pw pw) (ed_andV ha hb)
theorem v_or {rest : List Expr} {p q : Bool} (ha : CD X a σ H (.bool p)) (hb : p = false → CD X (.BoolOp .Or (b :: rest) pos) σ H (.bool q)) : CD X (.BoolOp .Or (a :: b :: rest) pos) σ H (.bool (p || q)) := of_pe (pe_or pw pw) (ed_orV ha hb)
theorem v_one {op} (ha : CD X a σ H d) : CD X (.BoolOp op [a] pos) σ H d := of_pe (pe_one pw) ha
theorem c_if {p : Bool} (hc : CT X c σ H p) (ha : p = true → CR X a σ H P) (hb : p = false → CR X b σ H P) : CR X (.IfExp c a b pos) σ H P := of_pe (pe_ifExp pwt pw pw) (ed_if hc ha hb)
end
end WC
namespace WC
open PySem PySem.Spec PyProof.Rows L2
open Evl (Ex)
/-- a block from a state on, whatever is laid besides -/
def WS (X : Cx) (st : List Stmt) (D : Ends) (σ : L2.St) (H : Hp) : Prop := ∀ H1, Ex H H1 → wS X st D σ H1
section
variable {X : Cx} {σ : L2.St} {H H' : Hp} {a b c e : Expr} {es : List Expr} {pos : Pos} {d d' : PyData} {P : V → Hp → Prop} {D : Ends} {rest body orelse : List Stmt}
theorem WS.up (x : Ex H H') (h : WS X rest D σ H) : WS X rest D σ H' := fun H1 e => h H1 (x.trans e)
theorem ws_of {st : Stmt} {t : TS} (h : PS X st t) (ht : ∀ H1, Ex H H1 → t { D with nx := wS X rest D } σ H1) : WS X (st :: rest) D σ H := fun H1 e pins s I =>
  (pss_cons h pws).run pins s σ H1 D I (ht H1 e)
theorem ws_pss {st : List Stmt} {t : TS} (h : PSs X st t) (ht : ∀ H1, Ex H H1 → t D σ H1) : WS X st D σ H := fun H1 e pins s I => h.run pins s σ H1 D I (ht H1 e)
theorem r_nil (h : ∀ H1, Ex H H1 → D.nx σ H1) : WS X [] D σ H := ws_pss pss_nil h
theorem r_asg (i : Nat) {x : Str} {p' : Pos} (hN : X.N.Nodup) (he : CR X e σ H P) (k : ∀ v H1, Ex H H1 → P v H1 → WS X rest D (σ.set i (some v)) H1) (hi : X.N[i]? = some x := by rfl) (hx : Loc X.env.scope x := by first | exact Or.inl rfl | exact Or.inr rfl)
    (hs : swapsWith e (some (.Name x p')) pos.line X.env = pure false := by rfl) (hf : X.fn x = true ∨ X.env.scope.names.lookup x = some .local := by first | exact .inl rfl | exact .inr rfl) : WS X (.Assign [.Name x p'] e pos :: rest) D σ H :=
  ws_of (ps_set hN hi hx pw hs hf) fun H1 e1 => he H1 e1 _ fun v H2 e2 hv => k v H2 (e1.trans e2) hv H2 (Ex.refl H2)
/-- a value that needs no heap -/
theorem r_asgV (i : Nat) {x : Str} {p' : Pos} {v : V} (hN : X.N.Nodup) (he : CR X e σ H fun u _ => u = v) (k : WS X rest D (σ.set i (some v)) H) (hi : X.N[i]? = some x := by rfl) (hx : Loc X.env.scope x := by first | exact Or.inl rfl | exact Or.inr rfl)
    (hs : swapsWith e (some (.Name x p')) pos.line X.env = pure false := by rfl) (hf : X.fn x = true ∨ X.env.scope.names.lookup x = some .local := by first | exact .inl rfl | exact .inr rfl) : WS X (.Assign [.Name x p'] e pos :: rest) D σ H :=
  ws_of (ps_set hN hi hx pw hs hf) fun H1 e1 => he H1 e1 _ fun u H2 e2 hv => by
    subst hv
    exact k H2 (e1.trans e2)
theorem CR.int {i : Int} (h : CD X e σ H (.int i)) : CR X e σ H fun u _ => u = .int i := fun H1 e1 Q q => h H1 e1 Q fun v H2 e2 hv => q v H2 e2 hv.int_eq
theorem CR.bl {i : Bool} (h : CD X e σ H (.bool i)) : CR X e σ H fun u _ => u = .bl i := fun H1 e1 Q q => h H1 e1 Q fun v H2 e2 hv => q v H2 e2 hv.bl_eq
theorem CR.str {i : Str} (h : CD X e σ H (.str i)) : CR X e σ H fun u _ => u = .str i := fun H1 e1 Q q => h H1 e1 Q fun v H2 e2 hv => q v H2 e2 hv.str_eq
theorem CR.imp {P' : V → Hp → Prop} (h : CR X e σ H P) (hi : ∀ v H1, Ex H H1 → P v H1 → P' v H1) : CR X e σ H P' := fun H1 e1 Q q => h H1 e1 Q fun v H2 e2 hv => q v H2 e2 (hi v H2 (e1.trans e2) hv)
theorem r_asgI (i : Nat) {x : Str} {p' : Pos} {n : Int} (hN : X.N.Nodup) (he : CD X e σ H (.int n)) (k : WS X rest D (σ.set i (some (.int n))) H) (hi : X.N[i]? = some x := by rfl) (hx : Loc X.env.scope x := by first | exact Or.inl rfl | exact Or.inr rfl)
    (hs : swapsWith e (some (.Name x p')) pos.line X.env = pure false := by rfl) (hf : X.fn x = true ∨ X.env.scope.names.lookup x = some .local := by first | exact .inl rfl | exact .inr rfl) : WS X (.Assign [.Name x p'] e pos :: rest) D σ H :=
  r_asgV i hN (CR.int he) k hi hx hs hf
theorem r_ret (he : CR X e σ H P) (k : ∀ v H1, Ex H H1 → P v H1 → D.rt v H1) : WS X (.Return (some e) pos :: rest) D σ H :=
  ws_of (ps_ret pw) fun H1 e1 => he H1 e1 _ fun v H2 e2 hv => k v H2 (e1.trans e2) hv
theorem r_expr (he : CR X e σ H P) (k : ∀ v H1, Ex H H1 → P v H1 → WS X rest D σ H1) (hs : swapsWith e none pos.line X.env = pure false := by rfl) : WS X (.Expr e pos :: rest) D σ H :=
  ws_of (ps_expr pw hs) fun H1 e1 => he H1 e1 _ fun v H2 e2 hv => k v H2 (e1.trans e2) hv H2 (Ex.refl H2)
theorem r_if {p : Bool} (hc : CT X c σ H p) (h1 : p = true → WS X body { D with nx := wS X rest D } σ H) (h2 : p = false → WS X orelse { D with nx := wS X rest D } σ H) : WS X (.If c body orelse pos :: rest) D σ H :=
  ws_of (ps_if pwt pws pws) fun H1 e1 => hc H1 e1 _ fun H2 e2 => by
    cases p with
    | true => exact h1 rfl H2 (e1.trans e2)
    | false => exact h2 rfl H2 (e1.trans e2)
/-- an if whose else is empty -/
theorem r_if0 {p : Bool} (hc : CT X c σ H p) (h1 : p = true → WS X body { D with nx := wS X rest D } σ H) (h2 : p = false → WS X rest D σ H) : WS X (.If c body [] pos :: rest) D σ H :=
  r_if hc h1 fun h => r_nil (h2 h)
/-- an if, what follows told once -/
theorem r_ifM {p : Bool} (Mid : L2.St → Hp → Prop) (hc : CT X c σ H p) (h1 : p = true → WS X body { D with nx := Mid } σ H) (h2 : p = false → WS X orelse { D with nx := Mid } σ H) (k : ∀ σ' H', Mid σ' H' → WS X rest D σ' H') : WS X (.If c body orelse pos :: rest) D σ H := fun H1 e1 pins s I =>
  (Evl.pss_cut (ps_if pwt pws pws) pws).run pins s σ H1 D I ⟨Mid, hc H1 e1 _ fun H2 e2 => by
    cases p with
    | true => exact h1 rfl H2 (e1.trans e2)
    | false => exact h2 rfl H2 (e1.trans e2), fun σ' H' hm => k σ' H' hm H' (Ex.refl H')⟩
/-- a, b = e -/
theorem r_unp2 (i j : Nat) {x y : Str} {px py pt : Pos} {kt : Nat} (hc : X.calm = true) (hN : X.N.Nodup) (he : CD X e σ H (.tuple [d, d'])) (k : ∀ v w H1, Ex H H1 → Dp X.K H1 v d → Dp X.K H1 w d' → WS X rest D ((σ.set i (some v)).set j (some w)) H1)
    (hi : X.N[i]? = some x := by rfl) (hj : X.N[j]? = some y := by rfl) (hx : Loc X.env.scope x := by first | exact Or.inl rfl | exact Or.inr rfl) (hy : Loc X.env.scope y := by first | exact Or.inl rfl | exact Or.inr rfl)
    (hfx : X.fn x = true ∨ X.env.scope.names.lookup x = some .local := by first | exact .inl rfl | exact .inr rfl) (hfy : X.fn y = true ∨ X.env.scope.names.lookup y = some .local := by first | exact .inl rfl | exact .inr rfl)
    (hs : swapsWithSole [.Tuple [.Name x px, .Name y py] kt pt] e pos.line X.env = pure false := by rfl) (hw : swappedStores [.Tuple [.Name x px, .Name y py] kt pt] e X.env = pure none := by rfl) :
    WS X (.Assign [.Tuple [.Name x px, .Name y py] kt pt] e pos :: rest) D σ H :=
  ws_of (ps_asg pw (pg_tup hc (pgs_cons (pg_name hN hi hx hfx) (pgs_cons (pg_name hN hj hy hfy) pgs_nil))) hs hw) fun H1 e1 => he H1 e1 _ fun v H2 e2 hv => by
    cases hv with
    | tup hq hall =>
      cases hall with
      | cons h1 hall =>
        cases hall with
        | cons h2 hall =>
          cases hall
          exact ⟨_, _, rfl, hq, rfl, _, _, rfl, _, _, rfl, rfl, k _ _ H2 (e1.trans e2) h1 h2 H2 (Ex.refl H2)⟩
theorem r_unp3 (i j l : Nat) {d1 d2 d3 : PyData} {x y z : Str} {px py pz pt : Pos} {kt : Nat} (hc : X.calm = true) (hN : X.N.Nodup) (he : CD X e σ H (.tuple [d1, d2, d3])) (k : ∀ u v w H1, Ex H H1 → Dp X.K H1 u d1 → Dp X.K H1 v d2 → Dp X.K H1 w d3 → WS X rest D (((σ.set i (some u)).set j (some v)).set l (some w)) H1)
    (hi : X.N[i]? = some x := by rfl) (hj : X.N[j]? = some y := by rfl) (hl : X.N[l]? = some z := by rfl) (hx : Loc X.env.scope x := by first | exact Or.inl rfl | exact Or.inr rfl) (hy : Loc X.env.scope y := by first | exact Or.inl rfl | exact Or.inr rfl) (hz : Loc X.env.scope z := by first | exact Or.inl rfl | exact Or.inr rfl)
    (hfx : X.fn x = true ∨ X.env.scope.names.lookup x = some .local := by first | exact .inl rfl | exact .inr rfl) (hfy : X.fn y = true ∨ X.env.scope.names.lookup y = some .local := by first | exact .inl rfl | exact .inr rfl) (hfz : X.fn z = true ∨ X.env.scope.names.lookup z = some .local := by first | exact .inl rfl | exact .inr rfl)
    (hs : swapsWithSole [.Tuple [.Name x px, .Name y py, .Name z pz] kt pt] e pos.line X.env = pure false := by rfl) (hw : swappedStores [.Tuple [.Name x px, .Name y py, .Name z pz] kt pt] e X.env = pure none := by rfl) :
    WS X (.Assign [.Tuple [.Name x px, .Name y py, .Name z pz] kt pt] e pos :: rest) D σ H :=
  ws_of (ps_asg pw (pg_tup hc (pgs_cons (pg_name hN hi hx hfx) (pgs_cons (pg_name hN hj hy hfy) (pgs_cons (pg_name hN hl hz hfz) pgs_nil)))) hs hw) fun H1 e1 => he H1 e1 _ fun v H2 e2 hv => by
    cases hv with
    | tup hq hall =>
      cases hall with
      | cons h1 hall =>
        cases hall with
        | cons h2 hall =>
          cases hall with
          | cons h3 hall =>
            cases hall
            exact ⟨_, _, rfl, hq, rfl, _, _, rfl, _, _, rfl, _, _, rfl, rfl, k _ _ _ H2 (e1.trans e2) h1 h2 h3 H2 (Ex.refl H2)⟩
theorem r_unp2R (i j : Nat) {β : Type} {post : β → Prop} {f1 f2 : β → PyData} {x y : Str} {px py pt : Pos} {kt : Nat} (hc : X.calm = true) (hN : X.N.Nodup) (he : CR X e σ H fun v H2 => ∃ z, post z ∧ Dp X.K H2 v (.tuple [f1 z, f2 z])) (k : ∀ z v w H1, Ex H H1 → post z → Dp X.K H1 v (f1 z) → Dp X.K H1 w (f2 z) → WS X rest D ((σ.set i (some v)).set j (some w)) H1)
    (hi : X.N[i]? = some x := by rfl) (hj : X.N[j]? = some y := by rfl) (hx : Loc X.env.scope x := by first | exact Or.inl rfl | exact Or.inr rfl) (hy : Loc X.env.scope y := by first | exact Or.inl rfl | exact Or.inr rfl)
    (hfx : X.fn x = true ∨ X.env.scope.names.lookup x = some .local := by first | exact .inl rfl | exact .inr rfl) (hfy : X.fn y = true ∨ X.env.scope.names.lookup y = some .local := by first | exact .inl rfl | exact .inr rfl)
    (hs : swapsWithSole [.Tuple [.Name x px, .Name y py] kt pt] e pos.line X.env = pure false := by rfl) (hw : swappedStores [.Tuple [.Name x px, .Name y py] kt pt] e X.env = pure none := by rfl) :
    WS X (.Assign [.Tuple [.Name x px, .Name y py] kt pt] e pos :: rest) D σ H :=
  ws_of (ps_asg pw (pg_tup hc (pgs_cons (pg_name hN hi hx hfx) (pgs_cons (pg_name hN hj hy hfy) pgs_nil))) hs hw) fun H1 e1 => he H1 e1 _ fun v H2 e2 hv => by
    obtain ⟨z, hz, hv⟩ := hv
    cases hv with
    | tup hq hall =>
      cases hall with
      | cons h1 hall =>
        cases hall with
        | cons h2 hall =>
          cases hall
          exact ⟨_, _, rfl, hq, rfl, _, _, rfl, _, _, rfl, rfl, k z _ _ H2 (e1.trans e2) hz h1 h2 H2 (Ex.refl H2)⟩
theorem r_unp3R (i j l : Nat) {β : Type} {post : β → Prop} {f1 f2 f3 : β → PyData} {x y z : Str} {px py pz pt : Pos} {kt : Nat} (hc : X.calm = true) (hN : X.N.Nodup) (he : CR X e σ H fun v H2 => ∃ z, post z ∧ Dp X.K H2 v (.tuple [f1 z, f2 z, f3 z])) (k : ∀ t u v w H1, Ex H H1 → post t → Dp X.K H1 u (f1 t) → Dp X.K H1 v (f2 t) → Dp X.K H1 w (f3 t) → WS X rest D (((σ.set i (some u)).set j (some v)).set l (some w)) H1)
    (hi : X.N[i]? = some x := by rfl) (hj : X.N[j]? = some y := by rfl) (hl : X.N[l]? = some z := by rfl) (hx : Loc X.env.scope x := by first | exact Or.inl rfl | exact Or.inr rfl) (hy : Loc X.env.scope y := by first | exact Or.inl rfl | exact Or.inr rfl) (hz : Loc X.env.scope z := by first | exact Or.inl rfl | exact Or.inr rfl)
    (hfx : X.fn x = true ∨ X.env.scope.names.lookup x = some .local := by first | exact .inl rfl | exact .inr rfl) (hfy : X.fn y = true ∨ X.env.scope.names.lookup y = some .local := by first | exact .inl rfl | exact .inr rfl) (hfz : X.fn z = true ∨ X.env.scope.names.lookup z = some .local := by first | exact .inl rfl | exact .inr rfl)
    (hs : swapsWithSole [.Tuple [.Name x px, .Name y py, .Name z pz] kt pt] e pos.line X.env = pure false := by rfl) (hw : swappedStores [.Tuple [.Name x px, .Name y py, .Name z pz] kt pt] e X.env = pure none := by rfl) :
    WS X (.Assign [.Tuple [.Name x px, .Name y py, .Name z pz] kt pt] e pos :: rest) D σ H :=
  ws_of (ps_asg pw (pg_tup hc (pgs_cons (pg_name hN hi hx hfx) (pgs_cons (pg_name hN hj hy hfy) (pgs_cons (pg_name hN hl hz hfz) pgs_nil)))) hs hw) fun H1 e1 => he H1 e1 _ fun v H2 e2 hv => by
    obtain ⟨t, ht, hv⟩ := hv
    cases hv with
    | tup hq hall =>
      cases hall with
      | cons h1 hall =>
        cases hall with
        | cons h2 hall =>
          cases hall with
          | cons h3 hall =>
            cases hall
            exact ⟨_, _, rfl, hq, rfl, _, _, rfl, _, _, rfl, _, _, rfl, rfl, k t _ _ _ H2 (e1.trans e2) ht h1 h2 h3 H2 (Ex.refl H2)⟩
theorem r_unp4 (i j l m : Nat) {d1 d2 d3 d4 : PyData} {x y z w : Str} {px py pz pq pt : Pos} {kt : Nat} (hc : X.calm = true) (hN : X.N.Nodup) (he : CD X e σ H (.tuple [d1, d2, d3, d4])) (k : ∀ t u v w H1, Ex H H1 → Dp X.K H1 t d1 → Dp X.K H1 u d2 → Dp X.K H1 v d3 → Dp X.K H1 w d4 → WS X rest D ((((σ.set i (some t)).set j (some u)).set l (some v)).set m (some w)) H1)
    (hi : X.N[i]? = some x := by rfl) (hj : X.N[j]? = some y := by rfl) (hl : X.N[l]? = some z := by rfl) (hm : X.N[m]? = some w := by rfl)
    (hx : Loc X.env.scope x := by first | exact Or.inl rfl | exact Or.inr rfl) (hy : Loc X.env.scope y := by first | exact Or.inl rfl | exact Or.inr rfl) (hz : Loc X.env.scope z := by first | exact Or.inl rfl | exact Or.inr rfl) (hq : Loc X.env.scope w := by first | exact Or.inl rfl | exact Or.inr rfl)
    (hfx : X.fn x = true ∨ X.env.scope.names.lookup x = some .local := by first | exact .inl rfl | exact .inr rfl) (hfy : X.fn y = true ∨ X.env.scope.names.lookup y = some .local := by first | exact .inl rfl | exact .inr rfl) (hfz : X.fn z = true ∨ X.env.scope.names.lookup z = some .local := by first | exact .inl rfl | exact .inr rfl) (hfw : X.fn w = true ∨ X.env.scope.names.lookup w = some .local := by first | exact .inl rfl | exact .inr rfl)
    (hs : swapsWithSole [.Tuple [.Name x px, .Name y py, .Name z pz, .Name w pq] kt pt] e pos.line X.env = pure false := by rfl) (hw : swappedStores [.Tuple [.Name x px, .Name y py, .Name z pz, .Name w pq] kt pt] e X.env = pure none := by rfl) :
    WS X (.Assign [.Tuple [.Name x px, .Name y py, .Name z pz, .Name w pq] kt pt] e pos :: rest) D σ H :=
  ws_of (ps_asg pw (pg_tup hc (pgs_cons (pg_name hN hi hx hfx) (pgs_cons (pg_name hN hj hy hfy) (pgs_cons (pg_name hN hl hz hfz) (pgs_cons (pg_name hN hm hq hfw) pgs_nil))))) hs hw) fun H1 e1 => he H1 e1 _ fun v H2 e2 hv => by
    cases hv with
    | tup hq hall =>
      cases hall with
      | cons h1 hall =>
        cases hall with
        | cons h2 hall =>
          cases hall with
          | cons h3 hall =>
            cases hall with
            | cons h4 hall =>
              cases hall
              exact ⟨_, _, rfl, hq, rfl, _, _, rfl, _, _, rfl, _, _, rfl, _, _, rfl, rfl, k _ _ _ _ H2 (e1.trans e2) h1 h2 h3 h4 H2 (Ex.refl H2)⟩
/-- a, b = x, y and a, b, c = x, y, z of plain locals -/
theorem r_par2 (i j : Nat) {x y : Str} {px py pt : Pos} {kt k2 : Nat} {pt2 : Pos} (hc : X.calm = true) (hN : X.N.Nodup) (hij : i ≠ j) (ha : CDA X [a, b] σ H [d, d']) (k : ∀ v w H1, Ex H H1 → Dp X.K H1 v d → Dp X.K H1 w d' → WS X rest D ((σ.set i (some v)).set j (some w)) H1)
    (hi : X.N[i]? = some x := by rfl) (hj : X.N[j]? = some y := by rfl) (hx : X.env.scope.names.lookup x = some .local := by rfl) (hy : X.env.scope.names.lookup y = some .local := by rfl)
    (hw : swappedStores [.Tuple [.Name x px, .Name y py] kt pt] (.Tuple [a, b] k2 pt2) X.env = pure (some [x, y]) := by rfl) (hs : swapsWithSole [.Tuple [.Name x px, .Name y py] kt pt] (.Tuple [a, b] k2 pt2) pos.line X.env = pure false := by rfl) :
    WS X (.Assign [.Tuple [.Name x px, .Name y py] kt pt] (.Tuple [a, b] k2 pt2) pos :: rest) D σ H :=
  ws_of (ps_par hc hN hi hj hij hx hy pwa hw hs) fun H1 e1 => ha H1 e1 _ fun vs H2 e2 hv => by
    cases hv with
    | cons h1 hv =>
      cases hv with
      | cons h2 hv =>
        cases hv
        exact ⟨_, _, rfl, k _ _ H2 (e1.trans e2) h1 h2 H2 (Ex.refl H2)⟩
theorem r_par3 (i j l : Nat) {d1 d2 d3 : PyData} {x y z : Str} {px py pz pt : Pos} {kt k2 : Nat} {pt2 : Pos} (hc : X.calm = true) (hN : X.N.Nodup) (hij : i ≠ j) (hil : i ≠ l) (hjl : j ≠ l) (ha : CDA X [a, b, c] σ H [d1, d2, d3])
    (k : ∀ u v w H1, Ex H H1 → Dp X.K H1 u d1 → Dp X.K H1 v d2 → Dp X.K H1 w d3 → WS X rest D (((σ.set i (some u)).set j (some v)).set l (some w)) H1)
    (hi : X.N[i]? = some x := by rfl) (hj : X.N[j]? = some y := by rfl) (hl : X.N[l]? = some z := by rfl) (hx : X.env.scope.names.lookup x = some .local := by rfl) (hy : X.env.scope.names.lookup y = some .local := by rfl) (hz : X.env.scope.names.lookup z = some .local := by rfl)
    (hw : swappedStores [.Tuple [.Name x px, .Name y py, .Name z pz] kt pt] (.Tuple [a, b, c] k2 pt2) X.env = pure (some [x, y, z]) := by rfl) (hs : swapsWithSole [.Tuple [.Name x px, .Name y py, .Name z pz] kt pt] (.Tuple [a, b, c] k2 pt2) pos.line X.env = pure false := by rfl) :
    WS X (.Assign [.Tuple [.Name x px, .Name y py, .Name z pz] kt pt] (.Tuple [a, b, c] k2 pt2) pos :: rest) D σ H :=
  ws_of (ps_par3 hc hN hi hj hl hij hil hjl hx hy hz pwa hw hs) fun H1 e1 => ha H1 e1 _ fun vs H2 e2 hv => by
    cases hv with
    | cons h1 hv =>
      cases hv with
      | cons h2 hv =>
        cases hv with
        | cons h3 hv =>
          cases hv
          exact ⟨_, _, _, rfl, k _ _ _ H2 (e1.trans e2) h1 h2 h3 H2 (Ex.refl H2)⟩
/-- while -/
theorem r_while (hp : PassesOwn (model X.prog X.w) X.A X.env X.xe) (Pv : Nat → L2.St → Hp → Prop) (m0 : Nat) (h0 : ∀ H1, Ex H H1 → Pv m0 σ H1)
    (turn : ∀ m σ' H', Pv m σ' H' → ∃ p, CT X c σ' H' p ∧ (p = true → WS X body { D with nx := fun σ2 H2 => ∃ m', m' < m ∧ Pv m' σ2 H2, ct := fun σ2 H2 => ∃ m', m' < m ∧ Pv m' σ2 H2, bk := wS X rest D } σ' H') ∧ (p = false → WS X rest D σ' H')) :
    WS X (.While c body [] pos :: rest) D σ H :=
  ws_of (ps_while hp pwt pws) fun H1 e1 => ⟨Pv, ⟨m0, h0 H1 e1⟩, fun m σ' H' hw => by
    obtain ⟨p, hc, h1, h2⟩ := turn m σ' H' hw
    refine hc H' (Ex.refl H') _ fun H2 e2 => ?_
    cases p with
    | true => exact ⟨_, fun _ _ z => z, h1 rfl H2 e2⟩
    | false => exact h2 rfl H2 e2⟩
/-- for x in range(n) -/
theorem r_forR (j : Nat) {x : Str} {px p p2 : Pos} {n : Int} (hp : PassesOwn (model X.prog X.w) X.A X.env X.xe) (hc : X.calm = true) (hN : X.N.Nodup) (hm : X.mg "range" = none) (he : CD X e σ H (.int n)) (hn : 0 ≤ n ∧ n ≤ 100000)
    (Pv : Nat → L2.St → Hp → Prop) (h0 : ∀ H1, Ex H H1 → Pv 0 σ H1)
    (turn : ∀ (i : Nat) σ' H', (i : Int) < n → Pv i σ' H' → WS X body { D with nx := Pv (i + 1), ct := Pv (i + 1), bk := wS X rest D } (σ'.set j (some (.int (i : Int)))) H') (done : ∀ σ' H', Pv n.toNat σ' H' → WS X rest D σ' H')
    (hj : X.N[j]? = some x := by rfl) (hx : Loc X.env.scope x := by first | exact Or.inl rfl | exact Or.inr rfl) (hf : X.fn x = true ∨ X.env.scope.names.lookup x = some .local := by first | exact .inl rfl | exact .inr rfl) (hg : Gl X "range" := by rfl)
    (hst : starEach [e] X.env = [(false, eval e X.env)] := by rfl) (hst2 : starEach [e] X.env = (false, eval e X.env) :: starEach [] X.env := by rfl) (hfs : ∀ y, foldedSetIterable (.Call (.Name "range" p) [e] [] p2) X.env y = pure y := by intro _; rfl) :
    WS X (.For (.Name x px) (.Call (.Name "range" p) [e] [] p2) body [] pos :: rest) D σ H :=
  ws_of (ps_for hp hc (pi_range1 hg hm (pa_cons pw pa_nil hst2) hst) (pg_name hN hj hx hf) pws hfs) fun H1 e1 => he H1 e1 _ fun v H2 e2 hv => ⟨n, by rw [hv.int_eq], by omega, by omega,
    for_range (lo := 0) (n := n.toNat) Pv (h0 H2 (e1.trans e2)) (fun i σ' H' hi pv => by
      have e0 : (0 : Int) + (i : Int) = (i : Int) := Int.zero_add _
      show wS X body _ (σ'.set j (some (.int ((0 : Int) + (i : Int))))) H'
      rw [e0]
      exact turn i σ' H' (by omega) pv H' (Ex.refl H')) (fun σ' H' pv => done σ' H' pv H' (Ex.refl H'))⟩
/-- for x in range(lo, n) -/
theorem r_forR2 (j : Nat) {x : Str} {px p p2 : Pos} {lo n : Int} (hp : PassesOwn (model X.prog X.w) X.A X.env X.xe) (hc : X.calm = true) (hN : X.N.Nodup) (hm : X.mg "range" = none) (ha : CD X a σ H (.int lo)) (hb : CD X b σ H (.int n)) (hn : -100000 ≤ lo ∧ lo ≤ 100000 ∧ -100000 ≤ n ∧ n ≤ 100000)
    (Pv : Nat → L2.St → Hp → Prop) (h0 : ∀ H1, Ex H H1 → Pv 0 σ H1)
    (turn : ∀ (i : Nat) σ' H', lo + (i : Int) < n → Pv i σ' H' → WS X body { D with nx := Pv (i + 1), ct := Pv (i + 1), bk := wS X rest D } (σ'.set j (some (.int (lo + (i : Int))))) H') (done : ∀ σ' H', Pv (n - lo).toNat σ' H' → WS X rest D σ' H')
    (hj : X.N[j]? = some x := by rfl) (hx : Loc X.env.scope x := by first | exact Or.inl rfl | exact Or.inr rfl) (hf : X.fn x = true ∨ X.env.scope.names.lookup x = some .local := by first | exact .inl rfl | exact .inr rfl) (hg : Gl X "range" := by rfl)
    (hst : starEach [a, b] X.env = [(false, eval a X.env), (false, eval b X.env)] := by rfl) (hst2 : starEach [b] X.env = [(false, eval b X.env)] := by rfl) (hst3 : starEach [a, b] X.env = (false, eval a X.env) :: starEach [b] X.env := by rfl) (hst4 : starEach [b] X.env = (false, eval b X.env) :: starEach [] X.env := by rfl)
    (hfs : ∀ y, foldedSetIterable (.Call (.Name "range" p) [a, b] [] p2) X.env y = pure y := by intro _; rfl) :
    WS X (.For (.Name x px) (.Call (.Name "range" p) [a, b] [] p2) body [] pos :: rest) D σ H :=
  ws_of (ps_for hp hc (pi_range2 hg hm (pa_cons pw (pa_cons pw pa_nil hst4) hst3) hst hst2) (pg_name hN hj hx hf) pws hfs) fun H1 e1 => ha H1 e1 _ fun v H2 e2 hv => hb H2 (e1.trans e2) _ fun u H3 e3 hu => ⟨lo, n, by rw [hv.int_eq, hu.int_eq], ⟨by omega, by omega, by omega, by omega⟩,
    for_range (lo := lo) (n := (n - lo).toNat) Pv (h0 H3 ((e1.trans e2).trans e3)) (fun i σ' H' hi pv => turn i σ' H' (by omega) pv H' (Ex.refl H')) (fun σ' H' pv => done σ' H' pv H' (Ex.refl H'))⟩
/-- for x in a list that stands -/
theorem r_forL (j : Nat) {x : Str} {px : Pos} {l : Addr} {xs : List V} (hp : PassesOwn (model X.prog X.w) X.A X.env X.xe) (hc : X.calm = true) (hN : X.N.Nodup) (he : CR X e σ H fun v H2 => v = .ref l) (hl : SqL X.K H l xs)
    (Pv : Nat → L2.St → Hp → Prop) (h0 : ∀ H1, Ex H H1 → Pv 0 σ H1) (hq : ∀ i σ' H', i ≤ xs.length → Pv i σ' H' → SqL X.K H' l xs)
    (turn : ∀ i v σ' H', xs[i]? = some v → Pv i σ' H' → WS X body { D with nx := Pv (i + 1), ct := Pv (i + 1), bk := wS X rest D } (σ'.set j (some v)) H') (done : ∀ σ' H', Pv xs.length σ' H' → WS X rest D σ' H')
    (hj : X.N[j]? = some x := by rfl) (hx : Loc X.env.scope x := by first | exact Or.inl rfl | exact Or.inr rfl) (hf : X.fn x = true ∨ X.env.scope.names.lookup x = some .local := by first | exact .inl rfl | exact .inr rfl) (hfs : ∀ y, foldedSetIterable e X.env y = pure y := by intro _; rfl) :
    WS X (.For (.Name x px) e body [] pos :: rest) D σ H :=
  ws_of (ps_for hp hc (pi_list pw) (pg_name hN hj hx hf) pws hfs) fun H1 e1 => he H1 e1 _ fun v H2 e2 hv => ⟨l, hv, ⟨xs, Evl.ex_l (e1.trans e2) hl⟩,
    for_list Pv (h0 H2 (e1.trans e2)) hq (fun i v σ' H' hi pv => turn i v σ' H' hi pv H' (Ex.refl H')) (fun σ' H' pv => done σ' H' pv H' (Ex.refl H'))⟩
/-- for x in a tuple -/
theorem r_forT (j : Nat) {x : Str} {px : Pos} {l : Addr} {xs : List V} (hp : PassesOwn (model X.prog X.w) X.A X.env X.xe) (hc : X.calm = true) (hN : X.N.Nodup) (he : CR X e σ H fun v H2 => v = .ref l) (hl : SqT X.K H l xs)
    (Pv : Nat → L2.St → Hp → Prop) (h0 : ∀ H1, Ex H H1 → Pv 0 σ H1) (hq : ∀ i σ' H', i ≤ xs.length → Pv i σ' H' → SqT X.K H' l xs)
    (turn : ∀ i v σ' H', xs[i]? = some v → Pv i σ' H' → WS X body { D with nx := Pv (i + 1), ct := Pv (i + 1), bk := wS X rest D } (σ'.set j (some v)) H') (done : ∀ σ' H', Pv xs.length σ' H' → WS X rest D σ' H')
    (hj : X.N[j]? = some x := by rfl) (hx : Loc X.env.scope x := by first | exact Or.inl rfl | exact Or.inr rfl) (hf : X.fn x = true ∨ X.env.scope.names.lookup x = some .local := by first | exact .inl rfl | exact .inr rfl) (hfs : ∀ y, foldedSetIterable e X.env y = pure y := by intro _; rfl) :
    WS X (.For (.Name x px) e body [] pos :: rest) D σ H :=
  ws_of (ps_for hp hc (pi_tup pw) (pg_name hN hj hx hf) pws hfs) fun H1 e1 => he H1 e1 _ fun v H2 e2 hv => ⟨l, hv, ⟨xs, Evl.ex_t (e1.trans e2) hl⟩,
    for_tup Pv (h0 H2 (e1.trans e2)) hq (fun i v σ' H' hi pv => turn i v σ' H' hi pv H' (Ex.refl H')) (fun σ' H' pv => done σ' H' pv H' (Ex.refl H'))⟩
/-! match of texts -/
def MC (X : Cx) (cs : List MatchCase) (z : Str) (D : Ends) (σ : L2.St) (H : Hp) : Prop := ∀ H1, Ex H H1 → ∀ (first : Bool) (t : Tok) pins s, Inv X pins σ H1 s → wpAny (model X.prog X.w) X.A (matchCases cs X.env (.str z t) first) (SP X pins D) X.xe s
theorem m_nil {z : Str} (h : ∀ H1, Ex H H1 → D.nx σ H1) : MC X [] z D σ H := fun H1 e first t pins s I => wpAny_matchCases_nil ⟨σ, H1, I, h H1 e⟩
theorem m_case {z y : Str} {cs : List MatchCase} {p1 p2 : Pos} {k : Nat} (h1 : z = y → WS X body D σ H) (h2 : z ≠ y → MC X cs z D σ H) : MC X (⟨.MatchValue (.Constant (.str y) k p1) p2, none, body⟩ :: cs) z D σ H := fun H1 e first t pins s I => by
  refine wpAny_matchCases_cons (wpAny_matchPattern_Value (Calls.Constant_str ?_))
  refine eq_str (wpAny_truthy_bool ?_)
  have I2 : Inv X pins σ H1 { s with toks := s.toks + 1 } := I.tok _
  by_cases hz : z = y
  · rw [show (z == y) = true from beq_iff_eq.mpr hz]
    show wpAny _ _ (assignInOrder [] []) _ _ _
    exact wpAny_assignInOrder_none (h1 hz H1 e pins _ I2)
  · rw [show (z == y) = false from beq_eq_false_iff_ne.mpr hz]
    exact h2 hz H1 e false t pins _ I2
theorem r_match {z : Str} {cs : List MatchCase} (he : CD X e σ H (.str z)) (h : MC X cs z { D with nx := wS X rest D } σ H) : WS X (.Match e cs pos :: rest) D σ H := by
  have ps : PS X (.Match e cs pos) (fun D σ H => wE X e σ H fun v H1 => v = .str z ∧ ∀ (first : Bool) (t : Tok) pins s, Inv X pins σ H1 s → wpAny (model X.prog X.w) X.A (matchCases cs X.env (.str z t) first) (SP X pins D) X.xe s) := ⟨fun pins s σ H D I h => by
    refine wpAny_Match (thn (h pins s I) fun v s1 ⟨x, H1, I1, r1, e1, q⟩ => ?_)
    subst e1
    obtain ⟨t, rfl⟩ := r1
    exact q true t pins s1 I1⟩
  exact ws_of ps fun H1 e1 => he H1 e1 _ fun v H2 e2 hv => ⟨hv.str_eq, h H2 (e1.trans e2)⟩
end
/-! ### a def that keeps its promise -/
def Ok (P : Program) (w : World) (K : PySem.W.Frag) (mg : Str → Option Value) (base : Heap) (x : Str) (ps : List Str) (k : Nat) (sp : Sp) : Prop :=
  ∃ f fd, mg x = some (.ref f) ∧ PySem.W.keepIn K (.ref f) = true ∧ Binds K fd ps [] ∧ FnOk P w K mg base CX0 k f fd ps sp
abbrev OkX (X : Cx) (x : Str) (ps : List Str) (k : Nat) (sp : Sp) : Prop := Ok X.prog X.w X.K X.mg X.base x ps k sp
theorem body_of {P : Program} {w : World} {K : PySem.W.Frag} {mg : Str → Option Value} {base : Heap} {n : Str} {st : Stmt} {f : Addr} {fd : FuncData} {N ps : List Str} {k : Nat} {sp : Sp} (F : FnP K n st f fd) (S : FnScope N ps (defScope st))
    (len : ∀ vs H Q E, sp vs H Q E → vs.length = ps.length)
    (body : ∀ (cdv : Value) (A : Around) (outer : List Env) (s : Shared) (H0 : Hp) (E : XK) (vs : List V) (H : Hp) (Q : VK), Room k (A.deeper (envOfC n (defScope st) s.heap.objs.size f cdv)) → sp vs H Q E →
      WS (cxOf CX0 P w K mg base N n (defScope st) f cdv A outer s H0 E).nox (defBody st) { nx := fun _ H' => Q .non H', rt := Q } (start N vs) H) : FnOk P w K mg base CX0 (k + 1) f fd ps sp := by
  refine F.ok S len fun cdv A outer s H vs Q E hr h => ⟨wS _ (defBody st), PSs.nox pws, ?_⟩
  exact body cdv A outer s H E vs H Q hr h H (Ex.refl H)
theorem ok_of {P : Program} {w : World} {K : PySem.W.Frag} {mg : Str → Option Value} {base : Heap} {x n : Str} {st : Stmt} {N ps : List Str} {k : Nat} {sp : Sp} (hT : ∃ f fd, mg x = some (.ref f) ∧ FnP K n st f fd) (S : FnScope N ps (defScope st))
    (hb : ∀ (kV doc pm : Value) (an : Option Addr) (cdv ct : Value) (us : List Value), us.length = ps.length → bindArgs (PySem.W.fnOf n n (defArgs st) (defBody st) (defScope st) .none kV doc pm an cdv ct) ⟨us, []⟩ = pure (ps.zip us))
    (len : ∀ vs H Q E, sp vs H Q E → vs.length = ps.length)
    (body : ∀ (f : Addr) (cdv : Value) (A : Around) (outer : List Env) (s : Shared) (H0 : Hp) (E : XK) (vs : List V) (H : Hp) (Q : VK), Room k (A.deeper (envOfC n (defScope st) s.heap.objs.size f cdv)) → sp vs H Q E →
      WS (cxOf CX0 P w K mg base N n (defScope st) f cdv A outer s H0 E).nox (defBody st) { nx := fun _ H' => Q .non H', rt := Q } (start N vs) H) : Ok P w K mg base x ps (k + 1) sp := by
  obtain ⟨f, fd, hf, F⟩ := hT
  exact ⟨f, fd, hf, F.kp, FunD.bindsN F hb, body_of F S len (body f)⟩
section
variable {X : Cx} {σ : L2.St} {H H' : Hp} {a b c e : Expr} {es : List Expr} {pos : Pos} {d d' : PyData} {P : V → Hp → Prop}
theorem c_call {x : Str} {ps : List Str} {k : Nat} {sp : Sp} {p : Pos} {ds : List PyData} (G : OkX X x ps k sp) (hr : Room k X.A) (ha : CDA X (e :: es) σ H ds)
    (hs : ∀ vs H1, Ex H H1 → DpAll X.K H1 vs ds → ∀ Q : VK, (∀ v H2, Ex H1 H2 → P v H2 → Q v H2) → sp vs H1 Q E0)
    (hg : Gl X x := by rfl) (hdb : (x == ("__debug__" : Str)) = false := by decide) (he : starEach (e :: es) X.env = (false, eval e X.env) :: starEach es X.env := by rfl) (hpl : (backTo pos (starEach es X.env)).any (·.1) = false := by rfl) : CR X (.Call (.Name x p) (e :: es) [] pos) σ H P := by
  obtain ⟨f, fd, hm, hk, hb, F⟩ := G
  exact of_pe (pe_call F hr hg hm hk hb .nil pass0 pwa hdb he hpl) (ed_callR ha hs)
/-- the arguments by a word of one's own -/
theorem c_callA {x : Str} {ps : List Str} {k : Nat} {sp : Sp} {p : Pos} {Pa : List V → Hp → Prop} (G : OkX X x ps k sp) (hr : Room k X.A) (ha : CAR X (e :: es) σ H Pa)
    (hs : ∀ vs H1, Ex H H1 → Pa vs H1 → ∀ Q : VK, (∀ v H2, Ex H1 H2 → P v H2 → Q v H2) → sp vs H1 Q E0)
    (hg : Gl X x := by rfl) (hdb : (x == ("__debug__" : Str)) = false := by decide) (he : starEach (e :: es) X.env = (false, eval e X.env) :: starEach es X.env := by rfl) (hpl : (backTo pos (starEach es X.env)).any (·.1) = false := by rfl) : CR X (.Call (.Name x p) (e :: es) [] pos) σ H P := by
  obtain ⟨f, fd, hm, hk, hb, F⟩ := G
  refine of_pe (pe_call F hr hg hm hk hb .nil pass0 pwa hdb he hpl) fun H1 e1 Q q => ha H1 e1 _ fun vs H2 e2 hv => ?_
  show sp (vs ++ []) H2 Q E0
  rw [List.append_nil]
  exact hs vs H2 (e1.trans e2) hv Q fun v H3 e3 hv => q v H3 (e2.trans e3) hv
end
/-! ### promises over data -/
/-- a function of data -/
def SpF (K : PySem.W.Frag) {α : Type} (args : α → List PyData) (pre : α → Prop) (res : α → PyData) : Sp := fun vs H Q _ => ∃ a, DpAll K H vs (args a) ∧ pre a ∧ ∀ v H', Ex H H' → Dp K H' v (res a) → Q v H'
/-- a relation -/
def SpR (K : PySem.W.Frag) {α β : Type} (args : α → List PyData) (pre : α → Prop) (post : α → β → Prop) (res : β → PyData) : Sp := fun vs H Q _ => ∃ a, DpAll K H vs (args a) ∧ pre a ∧ ∀ b v H', post a b → Ex H H' → Dp K H' v (res b) → Q v H'
theorem spF_len {K : PySem.W.Frag} {α : Type} {args : α → List PyData} {pre : α → Prop} {res : α → PyData} {n : Nat} (h : ∀ a, (args a).length = n) : ∀ vs H Q E, SpF K args pre res vs H Q E → vs.length = n := fun vs H Q E ⟨a, hv, _⟩ => hv.len.trans (h a)
theorem spR_len {K : PySem.W.Frag} {α β : Type} {args : α → List PyData} {pre : α → Prop} {post : α → β → Prop} {res : β → PyData} {n : Nat} (h : ∀ a, (args a).length = n) : ∀ vs H Q E, SpR K args pre post res vs H Q E → vs.length = n := fun vs H Q E ⟨a, hv, _⟩ => hv.len.trans (h a)
section
variable {X : Cx} {σ : L2.St} {H H' : Hp} {a b c e : Expr} {es : List Expr} {pos : Pos} {d d' : PyData} {P : V → Hp → Prop}
theorem c_callF {x : Str} {ps : List Str} {k : Nat} {p : Pos} {α : Type} {args : α → List PyData} {pre : α → Prop} {res : α → PyData} (y : α) (G : OkX X x ps k (SpF X.K args pre res)) (hr : Room k X.A) (ha : CDA X (e :: es) σ H (args y)) (hp : pre y)
    (hg : Gl X x := by rfl) (hdb : (x == ("__debug__" : Str)) = false := by decide) (he : starEach (e :: es) X.env = (false, eval e X.env) :: starEach es X.env := by rfl) (hpl : (backTo pos (starEach es X.env)).any (·.1) = false := by rfl) : CD X (.Call (.Name x p) (e :: es) [] pos) σ H (res y) :=
  c_call G hr ha (fun vs H1 _ hv Q q => ⟨y, hv, hp, fun v H2 e2 h2 => q v H2 e2 h2⟩) hg hdb he hpl
theorem c_callRel {x : Str} {ps : List Str} {k : Nat} {p : Pos} {α β : Type} {args : α → List PyData} {pre : α → Prop} {post : α → β → Prop} {res : β → PyData} (y : α) (G : OkX X x ps k (SpR X.K args pre post res)) (hr : Room k X.A) (ha : CDA X (e :: es) σ H (args y)) (hp : pre y)
    (hg : Gl X x := by rfl) (hdb : (x == ("__debug__" : Str)) = false := by decide) (he : starEach (e :: es) X.env = (false, eval e X.env) :: starEach es X.env := by rfl) (hpl : (backTo pos (starEach es X.env)).any (·.1) = false := by rfl) : CR X (.Call (.Name x p) (e :: es) [] pos) σ H (fun v H2 => ∃ z, post y z ∧ Dp X.K H2 v (res z)) :=
  c_call G hr ha (fun vs H1 _ hv Q q => ⟨y, hv, hp, fun z v H2 hz e2 h2 => q v H2 e2 ⟨z, hz, h2⟩⟩) hg hdb he hpl
/-- math.isqrt -/
theorem c_isqrt {x : Str} {p : Pos} {n : Int} (ha : CD X a σ H (.int n)) (hn : 0 ≤ n ∧ n < 2 ^ 64) (hm : X.mg x = some (.builtin "math.isqrt")) (hg : Gl X x := by rfl) (hdb : (x == ("__debug__" : Str)) = false := by decide) (he : starEach [a] X.env = (false, eval a X.env) :: starEach [] X.env := by rfl) :
    CD X (.Call (.Name x p) [a] [] pos) σ H (.int ((PySem.Float64.isqrt n.toNat : Nat) : Int)) := by
  have cr : CallR X (.builtin "math.isqrt") (fun vs H Q => ∃ n : Int, vs = [.int n] ∧ (0 ≤ n ∧ n < 2 ^ 64) ∧ Q (.int ((PySem.Float64.isqrt n.toNat : Nat) : Int)) H) := by
    intro pins s σ H vs us Q I r h
    obtain ⟨n, rfl, ⟨h0, h1⟩, q⟩ := h
    obtain ⟨u, rfl, t, rfl⟩ := vals1 r
    exact PySem.W.mg_isqrt h0 h1 ⟨.int _, H, I.tok _, ⟨_, rfl⟩, q⟩
  exact of_pe (pe_callBfun cr hg hm (pa_cons pw pa_nil he) hdb he (by rfl)) (ed_cb (eda_cons ha eda_nil) fun vs H1 _ hv Q q => by
    cases hv with
    | cons h1 h2 =>
      cases h2; cases h1
      exact ⟨n, rfl, hn, q _ H1 (Ex.refl H1) (.int _)⟩)
end
end WC
namespace WC
open PySem PySem.Spec PyProof.Rows L2
open Evl (Ex)
open WM (Fm Mt)
/-! ### data of the program -/
abbrev fD (f : Fm) : PyData := .tuple [.int f.a, .int f.b, .int f.c]
abbrev mD (m : Mt) : PyData := .tuple [.int m.p, .int m.q, .int m.r, .int m.s]
abbrev pD (x y : Int) : PyData := .tuple [.int x, .int y]
/-! ### sizes -/
class Bt (n : outParam Nat) (x : Int) : Prop where
  h : x.natAbs < 2 ^ n

instance bt0 : Bt 1 0 := ⟨by decide⟩
instance bt1 : Bt 2 1 := ⟨by decide⟩
instance bt2 : Bt 2 2 := ⟨by decide⟩
instance bt3 : Bt 2 3 := ⟨by decide⟩
instance bt4 : Bt 3 4 := ⟨by decide⟩
instance btm1 : Bt 2 (-1) := ⟨by decide⟩
theorem bt_le {n m : Nat} {x : Int} (h : x.natAbs < 2 ^ n) (hm : n ≤ m) : x.natAbs < 2 ^ m := Nat.lt_of_lt_of_le h (Nat.pow_le_pow_right (by decide) hm)
instance btMul {n m : Nat} {x y : Int} [a : Bt n x] [b : Bt m y] : Bt (n + m) (x * y) := ⟨wide_lt a.h b.h⟩
instance btAdd {n m : Nat} {x y : Int} [a : Bt n x] [b : Bt m y] : Bt (n + m + 1) (x + y) := ⟨by
  have h1 := bt_le a.h (show n ≤ n + m by omega)
  have h2 := bt_le b.h (show m ≤ n + m by omega)
  rw [Nat.pow_succ]; omega⟩
instance btSub {n m : Nat} {x y : Int} [a : Bt n x] [b : Bt m y] : Bt (n + m + 1) (x - y) := ⟨by
  have h1 := bt_le a.h (show n ≤ n + m by omega)
  have h2 := bt_le b.h (show m ≤ n + m by omega)
  rw [Nat.pow_succ]; omega⟩
instance btNeg {n : Nat} {x : Int} [a : Bt n x] : Bt n (-x) := ⟨by have := a.h; omega⟩
instance btAb {n : Nat} {x : Int} [a : Bt n x] : Bt n (if x < 0 then -x else x) := ⟨by have := a.h; split <;> omega⟩
theorem cmw {n m : Nat} {x y : Int} [a : Bt n x] [b : Bt m y] (h : n + m + 2 ≤ 1000000 := by decide) : CMulW x y :=
  wide_mul (a := n + 1) (b := m + 1) (bt_le a.h (by omega)) (bt_le b.h (by omega)) (by omega) (by omega) (by omega)
def big : Nat := 120000
theorem big_val : big = 120000 := rfl
structure MB (k : Nat) (m : Mt) : Prop where
  p : m.p.natAbs < 2 ^ k
  q : m.q.natAbs < 2 ^ k
  r : m.r.natAbs < 2 ^ k
  s : m.s.natAbs < 2 ^ k
structure FB (k : Nat) (f : Fm) : Prop where
  a : f.a.natAbs < 2 ^ k
  b : f.b.natAbs < 2 ^ k
  c : f.c.natAbs < 2 ^ k
theorem MB.le {j k : Nat} {m : Mt} (h : MB j m) (hk : j ≤ k) : MB k m := ⟨bt_le h.p hk, bt_le h.q hk, bt_le h.r hk, bt_le h.s hk⟩
theorem FB.le {j k : Nat} {m : Fm} (h : FB j m) (hk : j ≤ k) : FB k m := ⟨bt_le h.a hk, bt_le h.b hk, bt_le h.c hk⟩
theorem hu64 {A : Around} {k : Nat} (hr : Room k A) : A.units + 64 < cLine := by have := hr.un; omega
section
variable {X : Cx} {σ : L2.St} {H H' : Hp} {a b c e : Expr} {es : List Expr} {pos : Pos} {d d' : PyData} {P : V → Hp → Prop}
theorem v_chain {g g' : Int → Int → Bool} {i j l : Int} {op op' : CmpOp} {r r' : R2} (ho : OpR X (compareOp op) r) (ho' : OpR X (compareOp op') r') (hr : r = rI0 fun i j => .bl (g i j)) (hr' : r' = rI0 fun i j => .bl (g' i j)) (ha : CD X a σ H (.int i)) (hb : CD X b σ H (.int j)) (hc : CD X c σ H (.int l))
    (hm : lastMarks [op, op'] [b, c] = false := by with_unfolding_all rfl) : CD X (.Compare a [op, op'] [b, c] pos) σ H (.bool (g i j && g' j l)) := of_pe (pe_chain ho ho' pw pw pw hm) (ed_chain hr hr' ha hb hc)
theorem c_mulS {i j : Int} (ha : CD X a σ H (.int i)) (hb : CD X b σ H (.int j)) (hc : CMul i j) : CD X (.BinOp a .Mult b pos) σ H (.int (i * j)) := of_pe (pe_op op_mul pw pw) (ed_I ha hb hc)
theorem c_ixP {k : Int} (j : Nat) (ha : CR X a σ H fun v H2 => ∃ ds : List PyData, Dp X.K H2 v (.tuple ds) ∧ ds[j]? = some d) (hb : CD X b σ H (.int k)) (hk : k = (j : Int)) (hs : PlainIx b) : CD X (.Subscript a b pos) σ H d :=
  of_pe (pe_ix ix_tup pw pw hs) fun H1 e1 Q q => ha H1 e1 _ fun v H2 e2 hv => by
    obtain ⟨ds, hd, hj⟩ := hv
    refine hb H2 (e1.trans e2) _ fun u H3 e3 hu => ?_
    have hd := hd.up e3
    cases hd with
    | tup hs3 hall3 =>
      obtain ⟨v0, k1, k2⟩ := hall3.get hj
      exact ⟨_, _, k, v0, rfl, hu.int_eq, hs3, by rw [hk]; exact atI_nat k1, q v0 H3 (e2.trans e3) k2⟩
theorem CD.to (h : CD X e σ H d) (hd : d = d') : CD X e σ H d' := hd ▸ h
end
end WC
namespace WC
open PySem PySem.Spec PyProof.Rows L2
open Evl (Ex)
open WM (Fm Mt)
section
variable {P : Program} {w : World} {K : PySem.W.Frag} {mg : Str → Option Value} {base : Heap}
variable {X : Cx} {σ : L2.St} {H : Hp} {e : Expr} {es : List Expr}
/-! ### forms -/
theorem sc_discriminant : FnScope ["form"] ["form"] (defScope sDiscriminant) := ⟨rfl, rfl, rfl, by decide +kernel, rfl, by decide +kernel, by decide +kernel⟩
theorem ok_discriminant (T : Tx K mg) : Ok P w K mg base "discriminant" ["form"] 1 (SpF K (fun f : Fm => [fD f]) (FB big) (fun f => .int (WM.disc f))) := by
  refine ok_of T.fDiscriminant sc_discriminant (fun _ _ _ _ _ _ us hl => match us, hl with | [_], _ => rfl) (spF_len fun _ => rfl) fun f cdv A outer s H0 E vs H Q hr h => ?_
  obtain ⟨f, hv, ⟨ha, hb, hc⟩, k⟩ := h
  dsimp only at hv k
  obtain _ | ⟨h1, _ | _⟩ := hv
  have : Bt big f.a := ⟨ha⟩
  have : Bt big f.b := ⟨hb⟩
  have : Bt big f.c := ⟨hc⟩
  exact r_ret (c_sub (c_mul (c_ixT 1 (c_var 0 rfl (by assumption)) c_int rfl rfl (fun _ _ => rfl)) (c_ixT 1 (c_var 0 rfl (by assumption)) c_int rfl rfl (fun _ _ => rfl)) (by exact cmw)) (c_mul (c_mul c_int (c_ixT 0 (c_var 0 rfl (by assumption)) c_int rfl rfl (fun _ _ => rfl)) (by exact cmw)) (c_ixT 2 (c_var 0 rfl (by assumption)) c_int rfl rfl (fun _ _ => rfl)) (by exact cmw))) fun v H1 e1 hv => k v H1 e1 hv
theorem cc_discriminant {k : Nat} {f : Fm} {p pos : Pos} (T : Tx X.K X.mg) (hr : Room k X.A) (ha : CDA X (e :: es) σ H [fD f]) (h0 : FB big f := by assumption) (hk : 1 ≤ k := by decide) (hg : Gl X "discriminant" := by rfl) (he : starEach (e :: es) X.env = (false, eval e X.env) :: starEach es X.env := by rfl) (hpl : (backTo pos (starEach es X.env)).any (·.1) = false := by rfl) : CD X (.Call (.Name "discriminant" p) (e :: es) [] pos) σ H (.int (WM.disc f)) :=
  c_callF f (ok_discriminant T) (hr.mono hk) ha h0 hg (by decide) he hpl
theorem sc_worth : FnScope ["form", "point", "x", "y"] ["form", "point"] (defScope sWorth) := ⟨rfl, rfl, rfl, by decide +kernel, rfl, by decide +kernel, by decide +kernel⟩
theorem ok_worth (T : Tx K mg) : Ok P w K mg base "worth" ["form", "point"] 1 (SpF K (fun x : Fm × Int × Int => [fD x.1, pD x.2.1 x.2.2]) (fun x => FB big x.1 ∧ x.2.1.natAbs < 2 ^ big ∧ x.2.2.natAbs < 2 ^ big) (fun x => .int (WM.worth x.1 x.2.1 x.2.2))) := by
  refine ok_of T.fWorth sc_worth (fun _ _ _ _ _ _ us hl => match us, hl with | [_, _], _ => rfl) (spF_len fun _ => rfl) fun f cdv A outer s H0 E vs H Q hr h => ?_
  obtain ⟨⟨f, x, y⟩, hv, ⟨⟨ha, hb, hc⟩, hx, hy⟩, k⟩ := h
  dsimp only at hv k
  obtain _ | ⟨h1, _ | ⟨h2, _ | _⟩⟩ := hv
  have : Bt big f.a := ⟨ha⟩
  have : Bt big f.b := ⟨hb⟩
  have : Bt big f.c := ⟨hc⟩
  have : Bt big x := ⟨hx⟩
  have : Bt big y := ⟨hy⟩
  refine r_unp2 2 3 rfl sc_worth.nd (c_var 1 rfl (by assumption)) fun v w H1 e1 hx hy => ?_
  cases hx; cases hy
  have h1 := h1.up e1
  exact r_ret (c_add (c_add (c_mul (c_mul (c_ixT 0 (c_var 0 rfl (by assumption)) c_int rfl rfl (fun _ _ => rfl)) (c_var 2 rfl (.int _)) (by exact cmw)) (c_var 2 rfl (.int _)) (by exact cmw)) (c_mul (c_mul (c_ixT 1 (c_var 0 rfl (by assumption)) c_int rfl rfl (fun _ _ => rfl)) (c_var 2 rfl (.int _)) (by exact cmw)) (c_var 3 rfl (.int _)) (by exact cmw))) (c_mul (c_mul (c_ixT 2 (c_var 0 rfl (by assumption)) c_int rfl rfl (fun _ _ => rfl)) (c_var 3 rfl (.int _)) (by exact cmw)) (c_var 3 rfl (.int _)) (by exact cmw))) fun v H2 e2 hv => k v H2 (e1.trans e2) hv
theorem cc_worth {k : Nat} {f : Fm} {x y : Int} {p pos : Pos} (T : Tx X.K X.mg) (hr : Room k X.A) (ha : CDA X (e :: es) σ H [fD f, pD x y]) (h0 : FB big f := by assumption) (h1 : x.natAbs < 2 ^ big := by assumption) (h2 : y.natAbs < 2 ^ big := by assumption) (hk : 1 ≤ k := by decide) (hg : Gl X "worth" := by rfl) (he : starEach (e :: es) X.env = (false, eval e X.env) :: starEach es X.env := by rfl) (hpl : (backTo pos (starEach es X.env)).any (·.1) = false := by rfl) : CD X (.Call (.Name "worth" p) (e :: es) [] pos) σ H (.int (WM.worth f x y)) :=
  c_callF (f, x, y) (ok_worth T) (hr.mono hk) ha ⟨h0, h1, h2⟩ hg (by decide) he hpl
theorem sc_act : FnScope ["form", "m", "p", "q", "r", "s", "middle"] ["form", "m"] (defScope sAct) := ⟨rfl, rfl, rfl, by decide +kernel, rfl, by decide +kernel, by decide +kernel⟩
theorem ok_act (T : Tx K mg) : Ok P w K mg base "act" ["form", "m"] 2 (SpF K (fun x : Fm × Mt => [fD x.1, mD x.2]) (fun x => FB big x.1 ∧ MB big x.2) (fun x => fD (WM.act x.1 x.2))) := by
  refine ok_of T.fAct sc_act (fun _ _ _ _ _ _ us hl => match us, hl with | [_, _], _ => rfl) (spF_len fun _ => rfl) fun f cdv A outer s H0 E vs H Q hr h => ?_
  obtain ⟨⟨f, m⟩, hv, ⟨hf, hm⟩, k⟩ := h
  dsimp only at hv k
  obtain _ | ⟨h1, _ | ⟨h2, _ | _⟩⟩ := hv
  have : Bt big f.a := ⟨hf.a⟩
  have : Bt big f.b := ⟨hf.b⟩
  have : Bt big f.c := ⟨hf.c⟩
  have : Bt big m.p := ⟨hm.p⟩
  have : Bt big m.q := ⟨hm.q⟩
  have : Bt big m.r := ⟨hm.r⟩
  have : Bt big m.s := ⟨hm.s⟩
  have hp := hm.p
  have hq := hm.q
  have hr' := hm.r
  have hs := hm.s
  dsimp only at hf
  refine r_unp4 2 3 4 5 rfl sc_act.nd (c_var 1 rfl (by assumption)) fun v1 v2 v3 v4 H1 e1 hp hq hr hs => ?_
  cases hp; cases hq; cases hr; cases hs
  have h1 := h1.up e1
  refine r_asgI 6 sc_act.nd (c_add (c_add (c_mul (c_mul (c_mul c_int (c_ixT 0 (c_var 0 rfl (by assumption)) c_int rfl rfl (fun _ _ => rfl)) (by exact cmw)) (c_var 2 rfl (.int _)) (by exact cmw)) (c_var 3 rfl (.int _)) (by exact cmw)) (c_mul (c_ixT 1 (c_var 0 rfl (by assumption)) c_int rfl rfl (fun _ _ => rfl)) (c_add (c_mul (c_var 2 rfl (.int _)) (c_var 5 rfl (.int _)) (by exact cmw)) (c_mul (c_var 3 rfl (.int _)) (c_var 4 rfl (.int _)) (by exact cmw))) (by exact cmw))) (c_mul (c_mul (c_mul c_int (c_ixT 2 (c_var 0 rfl (by assumption)) c_int rfl rfl (fun _ _ => rfl)) (by exact cmw)) (c_var 4 rfl (.int _)) (by exact cmw)) (c_var 5 rfl (.int _)) (by exact cmw))) ?_
  exact r_ret (c_tup (ca_cons (cc_worth T hr (ca_cons (c_var 0 rfl (by assumption)) (ca_cons (c_tup (ca_cons (c_var 2 rfl (.int _)) (ca_cons (c_var 4 rfl (.int _)) ca_nil))) ca_nil))) (ca_cons (c_var 6 rfl (.int _)) (ca_cons (cc_worth T hr (ca_cons (c_var 0 rfl (by assumption)) (ca_cons (c_tup (ca_cons (c_var 3 rfl (.int _)) (ca_cons (c_var 5 rfl (.int _)) ca_nil))) ca_nil))) ca_nil)))) fun v H2 e2 hv => k v H2 (e1.trans e2) hv
theorem cc_act {k : Nat} {f : Fm} {m : Mt} {p pos : Pos} (T : Tx X.K X.mg) (hr : Room k X.A) (ha : CDA X (e :: es) σ H [fD f, mD m]) (h0 : FB big f := by assumption) (h1 : MB big m := by assumption) (hk : 2 ≤ k := by decide) (hg : Gl X "act" := by rfl) (he : starEach (e :: es) X.env = (false, eval e X.env) :: starEach es X.env := by rfl) (hpl : (backTo pos (starEach es X.env)).any (·.1) = false := by rfl) : CD X (.Call (.Name "act" p) (e :: es) [] pos) σ H (fD (WM.act f m)) :=
  c_callF (f, m) (ok_act T) (hr.mono hk) ha ⟨h0, h1⟩ hg (by decide) he hpl
theorem sc_scaled : FnScope ["form", "number"] ["form", "number"] (defScope sScaled) := ⟨rfl, rfl, rfl, by decide +kernel, rfl, by decide +kernel, by decide +kernel⟩
theorem ok_scaled (T : Tx K mg) : Ok P w K mg base "scaled" ["form", "number"] 1 (SpF K (fun x : Fm × Int => [fD x.1, .int x.2]) (fun x => FB big x.1 ∧ x.2.natAbs < 2 ^ big) (fun x => fD (WM.scal x.1 x.2))) := by
  refine ok_of T.fScaled sc_scaled (fun _ _ _ _ _ _ us hl => match us, hl with | [_, _], _ => rfl) (spF_len fun _ => rfl) fun f cdv A outer s H0 E vs H Q hr h => ?_
  obtain ⟨⟨f, n⟩, hv, ⟨hf, hn⟩, k⟩ := h
  dsimp only at hv k
  obtain _ | ⟨h1, _ | ⟨h2, _ | _⟩⟩ := hv
  cases h2
  have : Bt big f.a := ⟨hf.a⟩
  have : Bt big f.b := ⟨hf.b⟩
  have : Bt big f.c := ⟨hf.c⟩
  have : Bt big n := ⟨hn⟩
  exact r_ret (c_tup (ca_cons (c_mul (c_ixT 0 (c_var 0 rfl (by assumption)) c_int rfl rfl (fun _ _ => rfl)) (c_var 1 rfl (.int _)) (by exact cmw)) (ca_cons (c_mul (c_ixT 1 (c_var 0 rfl (by assumption)) c_int rfl rfl (fun _ _ => rfl)) (c_var 1 rfl (.int _)) (by exact cmw)) (ca_cons (c_mul (c_ixT 2 (c_var 0 rfl (by assumption)) c_int rfl rfl (fun _ _ => rfl)) (c_var 1 rfl (.int _)) (by exact cmw)) ca_nil)))) fun v H1 e1 hv => k v H1 e1 hv
theorem cc_scaled {k : Nat} {f : Fm} {n : Int} {p pos : Pos} (T : Tx X.K X.mg) (hr : Room k X.A) (ha : CDA X (e :: es) σ H [fD f, .int n]) (h0 : FB big f := by assumption) (h1 : n.natAbs < 2 ^ big := by assumption) (hk : 1 ≤ k := by decide) (hg : Gl X "scaled" := by rfl) (he : starEach (e :: es) X.env = (false, eval e X.env) :: starEach es X.env := by rfl) (hpl : (backTo pos (starEach es X.env)).any (·.1) = false := by rfl) : CD X (.Call (.Name "scaled" p) (e :: es) [] pos) σ H (fD (WM.scal f n)) :=
  c_callF (f, n) (ok_scaled T) (hr.mono hk) ha ⟨h0, h1⟩ hg (by decide) he hpl
theorem sc_divided : FnScope ["form", "number"] ["form", "number"] (defScope sDivided) := ⟨rfl, rfl, rfl, by decide +kernel, rfl, by decide +kernel, by decide +kernel⟩
theorem ok_divided (T : Tx K mg) : Ok P w K mg base "divided" ["form", "number"] 1 (SpF K (fun x : Fm × Int => [fD x.1, .int x.2]) (fun x => x.2 ≠ 0 ∧ x.2.natAbs < 1073741824) (fun x => fD (WM.divd x.1 x.2))) := by
  refine ok_of T.fDivided sc_divided (fun _ _ _ _ _ _ us hl => match us, hl with | [_, _], _ => rfl) (spF_len fun _ => rfl) fun f cdv A outer s H0 E vs H Q hr h => ?_
  obtain ⟨⟨f, n⟩, hv, hn, k⟩ := h
  dsimp only at hv k
  obtain _ | ⟨h1, _ | ⟨h2, _ | _⟩⟩ := hv
  cases h2
  exact r_ret (c_tup (ca_cons (c_fdiv (c_ixT 0 (c_var 0 rfl (by assumption)) c_int rfl rfl (fun _ _ => rfl)) (c_var 1 rfl (.int _)) (hn)) (ca_cons (c_fdiv (c_ixT 1 (c_var 0 rfl (by assumption)) c_int rfl rfl (fun _ _ => rfl)) (c_var 1 rfl (.int _)) (hn)) (ca_cons (c_fdiv (c_ixT 2 (c_var 0 rfl (by assumption)) c_int rfl rfl (fun _ _ => rfl)) (c_var 1 rfl (.int _)) (hn)) ca_nil)))) fun v H1 e1 hv => k v H1 e1 hv
theorem cc_divided {k : Nat} {f : Fm} {n : Int} {p pos : Pos} (T : Tx X.K X.mg) (hr : Room k X.A) (ha : CDA X (e :: es) σ H [fD f, .int n]) (h0 : n ≠ 0 ∧ n.natAbs < 1073741824 := by assumption) (hk : 1 ≤ k := by decide) (hg : Gl X "divided" := by rfl) (he : starEach (e :: es) X.env = (false, eval e X.env) :: starEach es X.env := by rfl) (hpl : (backTo pos (starEach es X.env)).any (·.1) = false := by rfl) : CD X (.Call (.Name "divided" p) (e :: es) [] pos) σ H (fD (WM.divd f n)) :=
  c_callF (f, n) (ok_divided T) (hr.mono hk) ha h0 hg (by decide) he hpl
/-! ### matrices -/
theorem sc_multiply : FnScope ["m", "n"] ["m", "n"] (defScope sMultiply) := ⟨rfl, rfl, rfl, by decide +kernel, rfl, by decide +kernel, by decide +kernel⟩
theorem ok_multiply (T : Tx K mg) : Ok P w K mg base "multiply" ["m", "n"] 1 (SpF K (fun x : Mt × Mt => [mD x.1, mD x.2]) (fun x => MB big x.1 ∧ MB big x.2) (fun x => mD (WM.mul x.1 x.2))) := by
  refine ok_of T.fMultiply sc_multiply (fun _ _ _ _ _ _ us hl => match us, hl with | [_, _], _ => rfl) (spF_len fun _ => rfl) fun f cdv A outer s H0 E vs H Q hr h => ?_
  obtain ⟨⟨m, n⟩, hv, ⟨hm, hn⟩, k⟩ := h
  dsimp only at hv k
  obtain _ | ⟨h1, _ | ⟨h2, _ | _⟩⟩ := hv
  have : Bt big m.p := ⟨hm.p⟩
  have : Bt big m.q := ⟨hm.q⟩
  have : Bt big m.r := ⟨hm.r⟩
  have : Bt big m.s := ⟨hm.s⟩
  have : Bt big n.p := ⟨hn.p⟩
  have : Bt big n.q := ⟨hn.q⟩
  have : Bt big n.r := ⟨hn.r⟩
  have : Bt big n.s := ⟨hn.s⟩
  exact r_ret (c_tup (ca_cons (c_add (c_mul (c_ixT 0 (c_var 0 rfl (by assumption)) c_int rfl rfl (fun _ _ => rfl)) (c_ixT 0 (c_var 1 rfl (by assumption)) c_int rfl rfl (fun _ _ => rfl)) (by exact cmw)) (c_mul (c_ixT 1 (c_var 0 rfl (by assumption)) c_int rfl rfl (fun _ _ => rfl)) (c_ixT 2 (c_var 1 rfl (by assumption)) c_int rfl rfl (fun _ _ => rfl)) (by exact cmw))) (ca_cons (c_add (c_mul (c_ixT 0 (c_var 0 rfl (by assumption)) c_int rfl rfl (fun _ _ => rfl)) (c_ixT 1 (c_var 1 rfl (by assumption)) c_int rfl rfl (fun _ _ => rfl)) (by exact cmw)) (c_mul (c_ixT 1 (c_var 0 rfl (by assumption)) c_int rfl rfl (fun _ _ => rfl)) (c_ixT 3 (c_var 1 rfl (by assumption)) c_int rfl rfl (fun _ _ => rfl)) (by exact cmw))) (ca_cons (c_add (c_mul (c_ixT 2 (c_var 0 rfl (by assumption)) c_int rfl rfl (fun _ _ => rfl)) (c_ixT 0 (c_var 1 rfl (by assumption)) c_int rfl rfl (fun _ _ => rfl)) (by exact cmw)) (c_mul (c_ixT 3 (c_var 0 rfl (by assumption)) c_int rfl rfl (fun _ _ => rfl)) (c_ixT 2 (c_var 1 rfl (by assumption)) c_int rfl rfl (fun _ _ => rfl)) (by exact cmw))) (ca_cons (c_add (c_mul (c_ixT 2 (c_var 0 rfl (by assumption)) c_int rfl rfl (fun _ _ => rfl)) (c_ixT 1 (c_var 1 rfl (by assumption)) c_int rfl rfl (fun _ _ => rfl)) (by exact cmw)) (c_mul (c_ixT 3 (c_var 0 rfl (by assumption)) c_int rfl rfl (fun _ _ => rfl)) (c_ixT 3 (c_var 1 rfl (by assumption)) c_int rfl rfl (fun _ _ => rfl)) (by exact cmw))) ca_nil))))) fun v H1 e1 hv => k v H1 e1 hv
theorem cc_multiply {k : Nat} {m n : Mt} {p pos : Pos} (T : Tx X.K X.mg) (hr : Room k X.A) (ha : CDA X (e :: es) σ H [mD m, mD n]) (h0 : MB big m := by assumption) (h1 : MB big n := by assumption) (hk : 1 ≤ k := by decide) (hg : Gl X "multiply" := by rfl) (he : starEach (e :: es) X.env = (false, eval e X.env) :: starEach es X.env := by rfl) (hpl : (backTo pos (starEach es X.env)).any (·.1) = false := by rfl) : CD X (.Call (.Name "multiply" p) (e :: es) [] pos) σ H (mD (WM.mul m n)) :=
  c_callF (m, n) (ok_multiply T) (hr.mono hk) ha ⟨h0, h1⟩ hg (by decide) he hpl
theorem sc_determinant : FnScope ["m"] ["m"] (defScope sDeterminant) := ⟨rfl, rfl, rfl, by decide +kernel, rfl, by decide +kernel, by decide +kernel⟩
theorem ok_determinant (T : Tx K mg) : Ok P w K mg base "determinant" ["m"] 1 (SpF K (fun m : Mt => [mD m]) (MB big) (fun m => .int (WM.det m))) := by
  refine ok_of T.fDeterminant sc_determinant (fun _ _ _ _ _ _ us hl => match us, hl with | [_], _ => rfl) (spF_len fun _ => rfl) fun f cdv A outer s H0 E vs H Q hr h => ?_
  obtain ⟨m, hv, hm, k⟩ := h
  dsimp only at hv k
  obtain _ | ⟨h1, _ | _⟩ := hv
  have : Bt big m.p := ⟨hm.p⟩
  have : Bt big m.q := ⟨hm.q⟩
  have : Bt big m.r := ⟨hm.r⟩
  have : Bt big m.s := ⟨hm.s⟩
  exact r_ret (c_sub (c_mul (c_ixT 0 (c_var 0 rfl (by assumption)) c_int rfl rfl (fun _ _ => rfl)) (c_ixT 3 (c_var 0 rfl (by assumption)) c_int rfl rfl (fun _ _ => rfl)) (by exact cmw)) (c_mul (c_ixT 1 (c_var 0 rfl (by assumption)) c_int rfl rfl (fun _ _ => rfl)) (c_ixT 2 (c_var 0 rfl (by assumption)) c_int rfl rfl (fun _ _ => rfl)) (by exact cmw))) fun v H1 e1 hv => k v H1 e1 hv
theorem cc_determinant {k : Nat} {m : Mt} {p pos : Pos} (T : Tx X.K X.mg) (hr : Room k X.A) (ha : CDA X (e :: es) σ H [mD m]) (h0 : MB big m := by assumption) (hk : 1 ≤ k := by decide) (hg : Gl X "determinant" := by rfl) (he : starEach (e :: es) X.env = (false, eval e X.env) :: starEach es X.env := by rfl) (hpl : (backTo pos (starEach es X.env)).any (·.1) = false := by rfl) : CD X (.Call (.Name "determinant" p) (e :: es) [] pos) σ H (.int (WM.det m)) :=
  c_callF m (ok_determinant T) (hr.mono hk) ha h0 hg (by decide) he hpl
theorem sc_inverse : FnScope ["m", "sign"] ["m"] (defScope sInverse) := ⟨rfl, rfl, rfl, by decide +kernel, rfl, by decide +kernel, by decide +kernel⟩
theorem ok_inverse (T : Tx K mg) : Ok P w K mg base "inverse" ["m"] 2 (SpF K (fun m : Mt => [mD m]) (fun m => MB big m ∧ WM.det m = 1) (fun m => mD (WM.inv m))) := by
  refine ok_of T.fInverse sc_inverse (fun _ _ _ _ _ _ us hl => match us, hl with | [_], _ => rfl) (spF_len fun _ => rfl) fun f cdv A outer s H0 E vs H Q hr h => ?_
  obtain ⟨m, hv, ⟨hm, hd⟩, k⟩ := h
  dsimp only at hv k
  obtain _ | ⟨h1, _ | _⟩ := hv
  have : Bt big m.p := ⟨hm.p⟩
  have : Bt big m.q := ⟨hm.q⟩
  have : Bt big m.r := ⟨hm.r⟩
  have : Bt big m.s := ⟨hm.s⟩
  refine r_asgI 1 (n := 1) sc_inverse.nd (CD.to (cc_determinant T hr (ca_cons (c_var 0 rfl (by assumption)) ca_nil)) (by rw [hd])) ?_
  refine r_ret (CD.to (d' := mD (WM.inv m)) (c_tup (ca_cons (c_mul (c_var 1 rfl (.int _)) (c_ixT 3 (c_var 0 rfl (by assumption)) c_int rfl rfl (fun _ _ => rfl)) (by exact cmw)) (ca_cons (c_mul (c_neg (c_var 1 rfl (.int _))) (c_ixT 1 (c_var 0 rfl (by assumption)) c_int rfl rfl (fun _ _ => rfl)) (by exact cmw)) (ca_cons (c_mul (c_neg (c_var 1 rfl (.int _))) (c_ixT 2 (c_var 0 rfl (by assumption)) c_int rfl rfl (fun _ _ => rfl)) (by exact cmw)) (ca_cons (c_mul (c_var 1 rfl (.int _)) (c_ixT 0 (c_var 0 rfl (by assumption)) c_int rfl rfl (fun _ _ => rfl)) (by exact cmw)) ca_nil))))) ?_) fun v H1 e1 hv => k v H1 e1 hv
  simp [WM.inv]
theorem cc_inverse {k : Nat} {m : Mt} {p pos : Pos} (T : Tx X.K X.mg) (hr : Room k X.A) (ha : CDA X (e :: es) σ H [mD m]) (h0 : MB big m := by assumption) (h1 : WM.det m = 1 := by assumption) (hk : 2 ≤ k := by decide) (hg : Gl X "inverse" := by rfl) (he : starEach (e :: es) X.env = (false, eval e X.env) :: starEach es X.env := by rfl) (hpl : (backTo pos (starEach es X.env)).any (·.1) = false := by rfl) : CD X (.Call (.Name "inverse" p) (e :: es) [] pos) σ H (mD (WM.inv m)) :=
  c_callF m (ok_inverse T) (hr.mono hk) ha ⟨h0, h1⟩ hg (by decide) he hpl
theorem sc_negative : FnScope ["m"] ["m"] (defScope sNegative) := ⟨rfl, rfl, rfl, by decide +kernel, rfl, by decide +kernel, by decide +kernel⟩
theorem ok_negative (T : Tx K mg) : Ok P w K mg base "negative" ["m"] 1 (SpF K (fun m : Mt => [mD m]) (fun _ => True) (fun m => mD (WM.neg m))) := by
  refine ok_of T.fNegative sc_negative (fun _ _ _ _ _ _ us hl => match us, hl with | [_], _ => rfl) (spF_len fun _ => rfl) fun f cdv A outer s H0 E vs H Q hr h => ?_
  obtain ⟨m, hv, _, k⟩ := h
  dsimp only at hv k
  obtain _ | ⟨h1, _ | _⟩ := hv
  exact r_ret (c_tup (ca_cons (c_neg (c_ixT 0 (c_var 0 rfl (by assumption)) c_int rfl rfl (fun _ _ => rfl))) (ca_cons (c_neg (c_ixT 1 (c_var 0 rfl (by assumption)) c_int rfl rfl (fun _ _ => rfl))) (ca_cons (c_neg (c_ixT 2 (c_var 0 rfl (by assumption)) c_int rfl rfl (fun _ _ => rfl))) (ca_cons (c_neg (c_ixT 3 (c_var 0 rfl (by assumption)) c_int rfl rfl (fun _ _ => rfl))) ca_nil))))) fun v H1 e1 hv => k v H1 e1 hv
/-! ### numbers -/
def sqrtI (n : Int) : Int := ((PySem.Float64.isqrt n.toNat : Nat) : Int)
theorem sqrtI_spec {n : Int} (h : 0 ≤ n) : 0 ≤ sqrtI n ∧ sqrtI n * sqrtI n ≤ n ∧ n < (sqrtI n + 1) * (sqrtI n + 1) := by
  have h1 := PySem.Float64.isqrt_spec n.toNat
  unfold sqrtI
  generalize PySem.Float64.isqrt n.toNat = r at *
  refine ⟨by omega, ?_, ?_⟩
  · have : ((r * r : Nat) : Int) ≤ (n.toNat : Int) := Int.ofNat_le.mpr h1.1
    rw [Int.natCast_mul] at this; omega
  · have : ((n.toNat : Nat) : Int) < (((r + 1) * (r + 1) : Nat) : Int) := Int.ofNat_lt.mpr h1.2
    rw [Int.natCast_mul, Int.natCast_add] at this
    have e : ((1 : Nat) : Int) = 1 := rfl
    rw [e] at this; omega
theorem sc_floor_root : FnScope ["n"] ["n"] (defScope sFloorRoot) := ⟨rfl, rfl, rfl, by decide +kernel, rfl, by decide +kernel, by decide +kernel⟩
theorem ok_floor_root (T : Tx K mg) : Ok P w K mg base "floor_root" ["n"] 1 (SpF K (fun n : Int => [.int n]) (fun n => 0 ≤ n ∧ n < 2 ^ 64) (fun n => .int (sqrtI n))) := by
  refine ok_of T.fFloorRoot sc_floor_root (fun _ _ _ _ _ _ us hl => match us, hl with | [_], _ => rfl) (spF_len fun _ => rfl) fun f cdv A outer s H0 E vs H Q hr h => ?_
  obtain ⟨n, hv, hn, k⟩ := h
  dsimp only at hv k
  obtain _ | ⟨h1, _ | _⟩ := hv
  cases h1
  exact r_ret (c_isqrt (c_var 0 rfl (.int _)) (by assumption) T.cIsqrt) fun v H1 e1 hv => k v H1 e1 hv
theorem cc_floor_root {k : Nat} {n : Int} {p pos : Pos} (T : Tx X.K X.mg) (hr : Room k X.A) (ha : CDA X (e :: es) σ H [.int n]) (h0 : 0 ≤ n ∧ n < 2 ^ 64 := by assumption) (hk : 1 ≤ k := by decide) (hg : Gl X "floor_root" := by rfl) (he : starEach (e :: es) X.env = (false, eval e X.env) :: starEach es X.env := by rfl) (hpl : (backTo pos (starEach es X.env)).any (·.1) = false := by rfl) : CD X (.Call (.Name "floor_root" p) (e :: es) [] pos) σ H (.int (sqrtI n)) :=
  c_callF n (ok_floor_root T) (hr.mono hk) ha h0 hg (by decide) he hpl
def isSq (n : Int) : Bool := decide (sqrtI n * sqrtI n = n)
theorem sc_is_square : FnScope ["n"] ["n"] (defScope sIsSquare) := ⟨rfl, rfl, rfl, by decide +kernel, rfl, by decide +kernel, by decide +kernel⟩
theorem ok_is_square (T : Tx K mg) : Ok P w K mg base "is_square" ["n"] 1 (SpF K (fun n : Int => [.int n]) (fun n => 0 ≤ n ∧ n < 2 ^ 64) (fun n => .bool (isSq n))) := by
  refine ok_of T.fIsSquare sc_is_square (fun _ _ _ _ _ _ us hl => match us, hl with | [_], _ => rfl) (spF_len fun _ => rfl) fun f cdv A outer s H0 E vs H Q hr h => ?_
  obtain ⟨n, hv, hn, k⟩ := h
  dsimp only at hv k
  obtain _ | ⟨h1, _ | _⟩ := hv
  cases h1
  have b : Bt 128 (sqrtI n) := ⟨by
    have := sqrtI_spec hn.1
    refine Nat.lt_of_le_of_lt ?_ (show (2 ^ 64 : Nat) < 2 ^ 128 by decide)
    have h2 : sqrtI n ≤ n := by
      rcases Int.lt_or_le (sqrtI n) 1 with h | h
      · omega
      · have := Int.mul_le_mul_of_nonneg_left h (show 0 ≤ sqrtI n by omega)
        omega
    omega⟩
  have : Bt 128 ((PySem.Float64.isqrt n.toNat : Nat) : Int) := b
  refine r_ret (CD.to (v_and (v_ge (c_var 0 rfl (.int _)) c_int) fun hb => (v_one (v_eqI (c_mul (c_isqrt (c_var 0 rfl (.int _)) (by assumption) T.cIsqrt) (c_isqrt (c_var 0 rfl (.int _)) (by assumption) T.cIsqrt) (by exact cmw)) (c_var 0 rfl (.int _))))) (by rw [decide_eq_true hn.1]; rfl)) fun v H1 e1 hv => k v H1 e1 hv
theorem cc_is_square {k : Nat} {n : Int} {p pos : Pos} (T : Tx X.K X.mg) (hr : Room k X.A) (ha : CDA X (e :: es) σ H [.int n]) (h0 : 0 ≤ n ∧ n < 2 ^ 64 := by assumption) (hk : 1 ≤ k := by decide) (hg : Gl X "is_square" := by rfl) (he : starEach (e :: es) X.env = (false, eval e X.env) :: starEach es X.env := by rfl) (hpl : (backTo pos (starEach es X.env)).any (·.1) = false := by rfl) : CD X (.Call (.Name "is_square" p) (e :: es) [] pos) σ H (.bool (isSq n)) :=
  c_callF n (ok_is_square T) (hr.mono hk) ha h0 hg (by decide) he hpl
def kindS (f : Fm) : Str := if WM.disc f < 0 then "definite" else if WM.disc f = 0 then "flat" else if isSq (WM.disc f) then "split" else "indefinite"
theorem sc_kind : FnScope ["form", "d"] ["form"] (defScope sKind) := ⟨rfl, rfl, rfl, by decide +kernel, rfl, by decide +kernel, by decide +kernel⟩
theorem ok_kind (T : Tx K mg) : Ok P w K mg base "kind" ["form"] 2 (SpF K (fun f : Fm => [fD f]) (fun f => FB big f ∧ WM.disc f < 2 ^ 64) (fun f => .str (kindS f))) := by
  refine ok_of T.fKind sc_kind (fun _ _ _ _ _ _ us hl => match us, hl with | [_], _ => rfl) (spF_len fun _ => rfl) fun f cdv A outer s H0 E vs H Q hr h => ?_
  obtain ⟨f, hv, ⟨hf, hd⟩, k⟩ := h
  dsimp only at hv k
  obtain _ | ⟨h1, _ | _⟩ := hv
  refine r_asgI 1 sc_kind.nd (cc_discriminant T hr (ca_cons (c_var 0 rfl (by assumption)) ca_nil)) ?_
  refine r_if0 (t_lt (c_var 1 rfl (.int _)) c_int) (fun h => ?_) fun h => ?_
  · have h := of_decide_eq_true h
    refine r_ret c_str fun v H1 e1 hv => k v H1 e1 ?_
    have e : kindS f = "definite" := by unfold kindS; rw [if_pos h]
    rw [e]; exact hv
  have h := of_decide_eq_false h
  refine r_if0 (t_eqI (c_var 1 rfl (.int _)) c_int) (fun h2 => ?_) fun h2 => ?_
  · have h2 := of_decide_eq_true h2
    refine r_ret c_str fun v H1 e1 hv => k v H1 e1 ?_
    have e : kindS f = "flat" := by unfold kindS; rw [if_neg h, if_pos h2]
    rw [e]; exact hv
  have h2 := of_decide_eq_false h2
  have hd2 : 0 ≤ WM.disc f ∧ WM.disc f < 2 ^ 64 := ⟨by omega, hd⟩
  refine r_ret (P := fun v H1 => Dp K H1 v (.str (kindS f))) (c_if (t_val (cc_is_square T hr (ca_cons (c_var 1 rfl (.int _)) ca_nil))) (fun h3 => ?_) fun h3 => ?_) fun v H1 e1 hv => k v H1 e1 hv
  · have e : kindS f = "split" := by unfold kindS; rw [if_neg h, if_neg h2, if_pos h3]
    rw [e]; exact c_str
  · have e : kindS f = "indefinite" := by unfold kindS; rw [if_neg h, if_neg h2, h3]; rfl
    rw [e]; exact c_str
theorem cc_kind {k : Nat} {f : Fm} {p pos : Pos} (T : Tx X.K X.mg) (hr : Room k X.A) (ha : CDA X (e :: es) σ H [fD f]) (h0 : FB big f := by assumption) (h1 : WM.disc f < 2 ^ 64 := by assumption) (hk : 2 ≤ k := by decide) (hg : Gl X "kind" := by rfl) (he : starEach (e :: es) X.env = (false, eval e X.env) :: starEach es X.env := by rfl) (hpl : (backTo pos (starEach es X.env)).any (·.1) = false := by rfl) : CD X (.Call (.Name "kind" p) (e :: es) [] pos) σ H (.str (kindS f)) :=
  c_callF f (ok_kind T) (hr.mono hk) ha ⟨h0, h1⟩ hg (by decide) he hpl
end
end WC
namespace WC
open PySem PySem.Spec PyProof.Rows L2
open Evl (Ex)
open WM (Fm Mt)
section
variable {P : Program} {w : World} {K : PySem.W.Frag} {mg : Str → Option Value} {base : Heap}
variable {X : Cx} {σ : L2.St} {H : Hp} {e : Expr} {es : List Expr}
theorem nox_own {X : Cx} : PassesOwn (model X.nox.prog X.nox.w) X.nox.A X.nox.env X.nox.xe := PassesOwn.never
/-! ### bezout -/
structure BezOk (a b : Int) (z : Int × Int × Int) : Prop where
  g : z.1 = (Int.gcd a b : Int)
  e : z.2.1 * a + z.2.2 * b = z.1
  u : WM.ab z.2.1 ≤ WM.ab b + 1
  v : WM.ab z.2.2 ≤ WM.ab a + 1
abbrev bzD (z : Int × Int × Int) : PyData := .tuple [.int z.1, .int z.2.1, .int z.2.2]
def bezPre (x : Int × Int) : Prop := x.1.natAbs < 2 ^ 60 ∧ x.2.natAbs < 2 ^ 30
theorem sc_bezout : FnScope ["a", "b", "low", "low_u", "low_v", "high", "high_u", "high_v", "part"] ["a", "b"] (defScope sBezout) := ⟨rfl, rfl, rfl, by decide +kernel, rfl, by decide +kernel, by decide +kernel⟩
theorem ok_bezout (T : Tx K mg) : Ok P w K mg base "bezout" ["a", "b"] 1 (SpR K (fun x : Int × Int => [.int x.1, .int x.2]) bezPre (fun x z => BezOk x.1 x.2 z) bzD) := by
  refine ok_of T.fBezout sc_bezout (fun _ _ _ _ _ _ us hl => match us, hl with | [_, _], _ => rfl) (spR_len fun _ => rfl) fun f cdv A outer s H0 E vs H Q hr h => ?_
  obtain ⟨⟨a, b⟩, hv, ⟨ha, hb⟩, k⟩ := h
  dsimp only at hv k ha hb
  obtain _ | ⟨h1, _ | ⟨h2, _ | _⟩⟩ := hv
  cases h1; cases h2
  refine r_par3 2 3 4 rfl sc_bezout.nd (by decide) (by decide) (by decide) (ca_cons (c_var 0 rfl (.int _)) (ca_cons c_int (ca_cons c_int ca_nil))) fun u v w H1 e1 hu hv hw => ?_
  cases hu; cases hv; cases hw
  refine r_par3 5 6 7 rfl sc_bezout.nd (by decide) (by decide) (by decide) (ca_cons (c_var 1 rfl (.int _)) (ca_cons c_int (ca_cons c_int ca_nil))) fun u v w H2 e2 hu hv hw => ?_
  cases hu; cases hv; cases hw
  refine r_while nox_own (fun n σ' H' => ∃ low lu lv high hu hv p, σ' = [some (.int a), some (.int b), some (.int low), some (.int lu), some (.int lv), some (.int high), some (.int hu), some (.int hv), p] ∧ WM.BI a b low lu lv high hu hv ∧ n = high.natAbs ∧ Ex H H') b.natAbs
    (fun H3 e3 => ⟨a, 1, 0, b, 0, 1, none, rfl, WM.BI.start a b, rfl, (e1.trans e2).trans e3⟩) fun n σ' H' hP => ?_
  obtain ⟨low, lu, lv, high, hu, hv, p, rfl, I, rfl, ex⟩ := hP
  refine ⟨_, (t_neI (c_var 5 rfl (.int _)) c_int), fun hz => ?_, fun hz => ?_⟩
  · have hz : high ≠ 0 := fun z => by rw [z] at hz; exact Bool.false_ne_true hz
    have hdv : CDivN low high := ⟨hz, by have := I.hw; unfold WM.ab at this; omega⟩
    have hp := WM.fdiv_ab (x := low) hz
    have hc : ∀ j, CMul (low.fdiv high) j := fun j => .inl (by have := I.lw; unfold WM.ab at *; omega)
    obtain ⟨I2, hlt⟩ := I.step hz
    refine r_asgI 8 sc_bezout.nd (c_fdiv (c_var 2 rfl (.int _)) (c_var 5 rfl (.int _)) (hdv)) ?_
    refine r_par2 2 5 rfl sc_bezout.nd (by decide) (ca_cons (c_var 5 rfl (.int _)) (ca_cons (c_sub (c_var 2 rfl (.int _)) (c_mulS (c_var 8 rfl (.int _)) (c_var 5 rfl (.int _)) (hc _))) ca_nil)) fun u v H1 e1 hu hv => ?_
    cases hu; cases hv
    refine r_par2 3 6 rfl sc_bezout.nd (by decide) (ca_cons (c_var 6 rfl (.int _)) (ca_cons (c_sub (c_var 3 rfl (.int _)) (c_mulS (c_var 8 rfl (.int _)) (c_var 6 rfl (.int _)) (hc _))) ca_nil)) fun u v H2 e2 hu hv => ?_
    cases hu; cases hv
    refine r_par2 4 7 rfl sc_bezout.nd (by decide) (ca_cons (c_var 7 rfl (.int _)) (ca_cons (c_sub (c_var 4 rfl (.int _)) (c_mulS (c_var 8 rfl (.int _)) (c_var 7 rfl (.int _)) (hc _))) ca_nil)) fun u v H3 e3 hu hv => ?_
    cases hu; cases hv
    exact r_nil fun H4 e4 => ⟨_, hlt, _, _, _, _, _, _, _, rfl, I2, rfl, (((ex.trans e1).trans e2).trans e3).trans e4⟩
  · have hz : high = 0 := by
      by_cases q : high = 0
      · exact q
      · rw [decide_eq_false q] at hz; cases hz
    subst hz
    obtain ⟨d1, d2, d3⟩ := I.done
    have el := I.el
    refine r_if0 (t_lt (c_var 2 rfl (.int _)) c_int) (fun hl => ?_) fun hl => ?_
    · have hl := of_decide_eq_true hl
      refine r_ret (c_tup (ca_cons (c_neg (c_var 2 rfl (.int _))) (ca_cons (c_neg (c_var 3 rfl (.int _))) (ca_cons (c_neg (c_var 4 rfl (.int _))) ca_nil)))) fun v H1 e1 hv => k (-low, -lu, -lv) v H1 ⟨?_, ?_, ?_, ?_⟩ (ex.trans e1) hv
      · rw [← d1]; unfold WM.ab; rw [if_pos hl]
      · dsimp only; grind
      · dsimp only; unfold WM.ab at *; omega
      · dsimp only; unfold WM.ab at *; omega
    · have hl := of_decide_eq_false hl
      refine r_ret (c_tup (ca_cons (c_var 2 rfl (.int _)) (ca_cons (c_var 3 rfl (.int _)) (ca_cons (c_var 4 rfl (.int _)) ca_nil)))) fun v H1 e1 hv => k (low, lu, lv) v H1 ⟨?_, el, d2, d3⟩ (ex.trans e1) hv
      rw [← d1]; unfold WM.ab; rw [if_neg hl]
/-! ### measure -/
def gcdL (ns : List Int) : Int := ns.foldl (fun g n => (Int.gcd g n : Int)) 0
abbrev isD (ns : List Int) : PyData := .tuple (ns.map .int)
theorem sc_measure : FnScope ["numbers", "found", "number"] ["numbers"] (defScope sMeasure) := ⟨rfl, rfl, rfl, by decide +kernel, rfl, by decide +kernel, by decide +kernel⟩
theorem ok_measure (T : Tx K mg) : Ok P w K mg base "measure" ["numbers"] 2 (SpF K (fun ns : List Int => [isD ns]) (fun ns => ∀ n ∈ ns, n.natAbs < 2 ^ 30) (fun ns => .int (gcdL ns))) := by
  refine ok_of T.fMeasure sc_measure (fun _ _ _ _ _ _ us hl => match us, hl with | [_], _ => rfl) (spF_len fun _ => rfl) fun f cdv A outer s H0 E vs H Q hr h => ?_
  obtain ⟨ns, hv, hns, k⟩ := h
  dsimp only at hv k
  obtain _ | ⟨h1, _ | _⟩ := hv
  obtain _ | _ | _ | _ | _ | ⟨hs, hall⟩ := h1
  rename_i a xs
  have hlen : xs.length = ns.length := by have := hall.len; rw [List.length_map] at this; exact this
  refine r_asgI 1 sc_measure.nd c_int ?_
  have fold_le : ∀ (l : List Int) (g : Int), 0 ≤ g → g.natAbs < 2 ^ 30 → (∀ n ∈ l, n.natAbs < 2 ^ 30) → 0 ≤ l.foldl (fun g n => (Int.gcd g n : Int)) g ∧ (l.foldl (fun g n => (Int.gcd g n : Int)) g).natAbs < 2 ^ 30 := by
    intro l
    induction l with
    | nil => intro g h0 h1 _; exact ⟨h0, h1⟩
    | cons n l ih =>
      intro g h0 h1 h2
      have hn0 := h2 n List.mem_cons_self
      refine ih (Int.gcd g n : Int) (by omega) ?_ fun x hx => h2 x (List.mem_cons_of_mem _ hx)
      have hn := h2 n List.mem_cons_self
      by_cases hz : n = 0
      · subst hz; rw [Int.gcd_zero_right]; omega
      · have : Int.gcd g n ≤ n.natAbs := Nat.le_of_dvd (by omega) (by
          have := Int.gcd_dvd_right g n
          exact Int.ofNat_dvd_left.mp this)
        omega
  refine r_forT 2 nox_own rfl sc_measure.nd (c_varR 0 rfl) hs (fun i σ' H' => ∃ p, σ' = [some (.ref a), some (.int (gcdL (ns.take i))), p] ∧ Ex H H') (fun H1 e1 => ⟨none, rfl, e1⟩) (fun i σ' H' hi hP => ?_) (fun i v σ' H' hi hP => ?_) fun σ' H' hP => ?_
  · obtain ⟨p, _, ex⟩ := hP
    exact Evl.ex_t ex hs
  · obtain ⟨p, rfl, ex⟩ := hP
    have hi2 : i < ns.length := by have := (List.getElem?_eq_some_iff.mp hi).1; omega
    obtain ⟨v', e1, e2⟩ := hall.get (i := i) (d := .int ns[i]) (by rw [List.getElem?_map, List.getElem?_eq_getElem hi2]; rfl)
    rw [hi] at e1
    cases e1
    cases e2
    have htake : ns.take (i + 1) = ns.take i ++ [ns[i]] := by rw [List.take_add_one, List.getElem?_eq_getElem hi2]; rfl
    have hstep : gcdL (ns.take (i + 1)) = (Int.gcd (gcdL (ns.take i)) ns[i] : Int) := by unfold gcdL; rw [htake, List.foldl_append]; rfl
    have hb := fold_le (ns.take i) 0 (by omega) (by decide) fun n hn => hns n (List.mem_of_mem_take hn)
    have hn := hns ns[i] (List.getElem_mem hi2)
    have hpre : bezPre (gcdL (ns.take i), ns[i]) := ⟨Nat.lt_of_lt_of_le hb.2 (by decide), hn⟩
    refine r_asgI 1 (n := gcdL (ns.take (i + 1))) sc_measure.nd (c_ixP 0 (CR.imp (c_callRel (gcdL (ns.take i), ns[i]) (ok_bezout T) (hr.mono (by decide)) (ca_cons (c_var 1 rfl (.int _)) (ca_cons (c_var 2 rfl (.int _)) ca_nil)) hpre) fun v H1 _ hv => ?_) c_int rfl (fun _ _ => rfl)) (r_nil fun H1 e1 => ⟨_, rfl, ex.trans e1⟩)
    obtain ⟨z, hz, hd⟩ := hv
    exact ⟨_, hd, by rw [hstep, ← hz.g]; rfl⟩
  · obtain ⟨p, rfl, ex⟩ := hP
    rw [hlen, List.take_length]
    exact r_ret (c_var 1 rfl (.int _)) fun v H1 e1 hv => k v H1 (ex.trans e1) hv
theorem gcdL_form (f : Fm) : gcdL [f.a, f.b, f.c] = WM.cont f := by
  unfold gcdL WM.cont
  simp only [List.foldl_cons, List.foldl_nil, Int.gcd_zero_left]
  have : Int.gcd ((f.a.natAbs : Nat) : Int) f.b = Int.gcd f.a f.b := by simp [Int.gcd]
  rw [this]
theorem sc_content : FnScope ["form"] ["form"] (defScope sContent) := ⟨rfl, rfl, rfl, by decide +kernel, rfl, by decide +kernel, by decide +kernel⟩
theorem ok_content (T : Tx K mg) : Ok P w K mg base "content" ["form"] 3 (SpF K (fun f : Fm => [fD f]) (FB 30) (fun f => .int (WM.cont f))) := by
  refine ok_of T.fContent sc_content (fun _ _ _ _ _ _ us hl => match us, hl with | [_], _ => rfl) (spF_len fun _ => rfl) fun f cdv A outer s H0 E vs H Q hr h => ?_
  obtain ⟨f, hv, hf, k⟩ := h
  dsimp only at hv k
  obtain _ | ⟨h1, _ | _⟩ := hv
  refine r_ret (c_callF [f.a, f.b, f.c] (ok_measure T) (hr.mono (by decide)) (ca_cons (c_var 0 rfl (by assumption)) ca_nil) (fun n hn => ?_)) fun v H1 e1 hv => k v H1 e1 (by rw [gcdL_form] at hv; exact hv)
  simp only [List.mem_cons, List.not_mem_nil, or_false] at hn
  rcases hn with rfl | rfl | rfl
  · exact hf.a
  · exact hf.b
  · exact hf.c
theorem cc_content {k : Nat} {f : Fm} {p pos : Pos} (T : Tx X.K X.mg) (hr : Room k X.A) (ha : CDA X (e :: es) σ H [fD f]) (h0 : FB 30 f := by assumption) (hk : 3 ≤ k := by decide) (hg : Gl X "content" := by rfl) (he : starEach (e :: es) X.env = (false, eval e X.env) :: starEach es X.env := by rfl) (hpl : (backTo pos (starEach es X.env)).any (·.1) = false := by rfl) : CD X (.Call (.Name "content" p) (e :: es) [] pos) σ H (.int (WM.cont f)) :=
  c_callF f (ok_content T) (hr.mono hk) ha h0 hg (by decide) he hpl
end
end WC
namespace WC
open PySem PySem.Spec PyProof.Rows L2
open Evl (Ex)
open WM (Fm Mt)
section
variable {X : Cx} {σ : L2.St} {H H' : Hp} {a b c d e : Expr} {es : List Expr} {pos : Pos} {P : V → Hp → Prop}
theorem CD.run {i : Int} {pins : List (Addr × Obj)} {s : Shared} (h : CD X e σ H (.int i)) (x : Ex H H') (I : Inv X pins σ H' s) : wpAny (model X.prog X.w) X.A (eval e X.env) (fun v s' => ∃ H2 t, v = Value.int i t ∧ Inv X pins σ H2 s' ∧ Ex H' H2) X.xe s :=
  thn (h H' x (fun v H2 => v = .int i ∧ Ex H' H2) (fun v H2 e2 hv => ⟨hv.int_eq, e2⟩) pins s I) fun u s' ⟨v, H2, I2, r, e1, e2⟩ => by
    subst e1
    obtain ⟨t, rfl⟩ := r
    exact ⟨H2, t, rfl, I2, e2⟩
/-- a < b <= c <= d as a test -/
theorem t_chain3 {i j l m : Int} (ha : CD X a σ H (.int i)) (hb : CD X b σ H (.int j)) (hc : CD X c σ H (.int l)) (hd : CD X d σ H (.int m)) (hm : lastMarks [CmpOp.Lt, .LtE, .LtE] [b, c, d] = false := by with_unfolding_all rfl) :
    CT X (.Compare a [.Lt, .LtE, .LtE] [b, c, d] pos) σ H (decide (i < j) && (decide (j ≤ l) && decide (l ≤ m))) := fun H1 e1 Q q pins s I => by
  refine isTrue_chain (thn (ha.run e1 I) fun v s1 ⟨H2, t, ev, I2, e2⟩ => ?_) hm
  subst ev
  refine test_link (thn (hb.run (e1.trans e2) I2) fun v s2 ⟨H3, u, ev, I3, e3⟩ => ?_)
  subst ev
  refine lt_int (wpAny_truthy_bool ?_)
  cases h1 : decide (i < j) with
  | false =>
    rw [h1, Bool.false_and] at q
    exact ite_ff ⟨H3, I3, q H3 (e2.trans e3)⟩
  | true =>
    rw [h1, Bool.true_and] at q
    refine ite_tt (test_link (thn (hc.run ((e1.trans e2).trans e3) I3) fun v s3 ⟨H4, u2, ev, I4, e4⟩ => ?_))
    subst ev
    refine le_int (wpAny_truthy_bool ?_)
    cases h2 : decide (j ≤ l) with
    | false =>
      rw [h2, Bool.false_and] at q
      exact ite_ff ⟨H4, I4, q H4 ((e2.trans e3).trans e4)⟩
    | true =>
      rw [h2, Bool.true_and] at q
      refine ite_tt (test_last (thn (hd.run (((e1.trans e2).trans e3).trans e4) I4) fun v s4 ⟨H5, u3, ev, I5, e5⟩ => ?_))
      subst ev
      exact le_int (wpAny_truthy_bool ⟨H5, I5, q H5 (((e2.trans e3).trans e4).trans e5)⟩)
end
section
variable {P : Program} {w : World} {K : PySem.W.Frag} {mg : Str → Option Value} {base : Heap}
variable {X : Cx} {σ : L2.St} {H : Hp} {e : Expr} {es : List Expr}
theorem sc_is_reduced_definite : FnScope ["form", "a", "b", "c"] ["form"] (defScope sIsReducedDefinite) := ⟨rfl, rfl, rfl, by decide +kernel, rfl, by decide +kernel, by decide +kernel⟩
theorem ok_is_reduced_definite (T : Tx K mg) : Ok P w K mg base "is_reduced_definite" ["form"] 1 (SpF K (fun f : Fm => [fD f]) (fun _ => True) (fun f => .bool (decide (WM.RedP f)))) := by
  refine ok_of T.fIsReducedDefinite sc_is_reduced_definite (fun _ _ _ _ _ _ us hl => match us, hl with | [_], _ => rfl) (spF_len fun _ => rfl) fun f cdv A outer s H0 E vs H Q hr h => ?_
  obtain ⟨f, hv, _, k⟩ := h
  dsimp only at hv k
  obtain _ | ⟨h1, _ | _⟩ := hv
  refine r_unp3 1 2 3 rfl sc_is_reduced_definite.nd (c_var 0 rfl (by assumption)) fun u v w H1 e1 hu hv hw => ?_
  cases hu; cases hv; cases hw
  refine r_if0 (t_not (t_chain3 (c_neg (c_var 1 rfl (.int _))) (c_var 2 rfl (.int _)) (c_var 1 rfl (.int _)) (c_var 3 rfl (.int _)))) (fun hb => ?_) fun hb => ?_
  · refine r_ret c_bl fun v H2 e2 hv => k v H2 (e1.trans e2) ?_
    have : decide (WM.RedP f) = false := by
      rw [Bool.not_eq_true'] at hb
      refine decide_eq_false fun hr => ?_
      obtain ⟨a1, a2, a3, _⟩ := hr
      rw [decide_eq_true a1, decide_eq_true a2, decide_eq_true a3] at hb
      cases hb
    rw [this]; exact hv
  · refine r_ret (v_or (v_ge (c_var 2 rfl (.int _)) c_int) fun hb => (v_one (v_lt (c_var 1 rfl (.int _)) (c_var 3 rfl (.int _))))) fun v H2 e2 hv => k v H2 (e1.trans e2) ?_
    have : decide (WM.RedP f) = (decide (0 ≤ f.b) || decide (f.a < f.c)) := by
      rw [Bool.not_eq_false', Bool.and_eq_true, Bool.and_eq_true, decide_eq_true_eq, decide_eq_true_eq, decide_eq_true_eq] at hb
      rw [← Bool.decide_or]
      refine decide_eq_decide.mpr ⟨fun h => h.2.2.2, fun h => ⟨hb.1, hb.2.1, hb.2.2, h⟩⟩
    rw [this]; exact hv
theorem cc_is_reduced_definite {k : Nat} {f : Fm} {p pos : Pos} (T : Tx X.K X.mg) (hr : Room k X.A) (ha : CDA X (e :: es) σ H [fD f])  (hk : 1 ≤ k := by decide) (hg : Gl X "is_reduced_definite" := by rfl) (he : starEach (e :: es) X.env = (false, eval e X.env) :: starEach es X.env := by rfl) (hpl : (backTo pos (starEach es X.env)).any (·.1) = false := by rfl) : CD X (.Call (.Name "is_reduced_definite" p) (e :: es) [] pos) σ H (.bool (decide (WM.RedP f))) :=
  c_callF f (ok_is_reduced_definite T) (hr.mono hk) ha trivial hg (by decide) he hpl
theorem c_glob_UNIT {p : Pos} (T : Tx X.K X.mg) (hg : Gl X "UNIT" := by rfl) : CD X (.Name "UNIT" p) σ H (mD WM.one) := by
  obtain ⟨a, ha, hs⟩ := T.cUnit
  refine of_pe (pe_glob (v := .ref a) hg ha rfl) fun H1 e1 Q q => q _ H1 (Ex.refl H1) (.tup (hs H1) (.cons (.int _) (.cons (.int _) (.cons (.int _) (.cons (.int _) .nil)))))
theorem c_glob_SHEAR {p : Pos} (T : Tx X.K X.mg) (hg : Gl X "SHEAR" := by rfl) : CD X (.Name "SHEAR" p) σ H (mD ⟨1, 0, 1, 1⟩) := by
  obtain ⟨a, ha, hs⟩ := T.cShear
  refine of_pe (pe_glob (v := .ref a) hg ha rfl) fun H1 e1 Q q => q _ H1 (Ex.refl H1) (.tup (hs H1) (.cons (.int _) (.cons (.int _) (.cons (.int _) (.cons (.int _) .nil)))))
/-! ### reduction of positive forms -/
def B40 : Int := 2 ^ 28
structure RPre (f : Fm) : Prop where
  p : WM.PosD f
  a : f.a ≤ B40
  c : f.c ≤ B40
structure RPost (f : Fm) (z : Fm × Mt) : Prop where
  d : WM.det z.2 = 1
  e : WM.act f z.2 = z.1
  r : WM.RedP z.1
  p : WM.PosD z.1
  m : MB 42 z.2
  f : FB 42 z.1
abbrev fmD (z : Fm × Mt) : PyData := .tuple [fD z.1, mD z.2]
theorem ab42 {x : Int} (h : WM.ab x ≤ 2 * B40) : x.natAbs < 2 ^ 42 := by unfold B40 WM.ab at *; omega
theorem DI.mb {f0 f : Fm} {m : Mt} (h0 : RPre f0) (h : WM.DI f0 f m B40) : MB 42 m := by
  obtain ⟨a, b, c, d⟩ := WM.DI.ent h0.p h0.a h0.c (by decide) h
  exact ⟨ab42 a, ab42 b, ab42 c, ab42 d⟩
theorem DI.fb {f0 f : Fm} {m : Mt} (h : WM.DI f0 f m B40) : FB 42 f := by
  have hc := h.p.c
  have ha := h.p.a
  have := WM.posd_b h.p h.a h.c (by decide)
  have h1 := h.a
  have h2 := h.c
  exact ⟨ab42 (by unfold WM.ab; omega), ab42 this, ab42 (by unfold WM.ab; omega)⟩
theorem sc_reduce_positive : FnScope ["form", "m", "a", "b", "c", "step"] ["form"] (defScope sReducePositive) := ⟨rfl, rfl, rfl, by decide +kernel, rfl, by decide +kernel, by decide +kernel⟩
theorem ok_reduce_positive (T : Tx K mg) : Ok P w K mg base "reduce_positive" ["form"] 3 (SpR K (fun f : Fm => [fD f]) RPre RPost fmD) := by
  refine ok_of T.fReducePositive sc_reduce_positive (fun _ _ _ _ _ _ us hl => match us, hl with | [_], _ => rfl) (spR_len fun _ => rfl) fun f cdv A outer s H0 E vs H Q hr h => ?_
  obtain ⟨f0, hv, hp, k⟩ := h
  dsimp only at hv k
  obtain _ | ⟨h1, _ | _⟩ := hv
  rename_i vf
  refine r_asg 1 sc_reduce_positive.nd (c_glob_UNIT T) fun v H1 e1 hm => ?_
  refine r_while nox_own (fun n σ' H' => ∃ f m vf vm p1 p2 p3 p4, σ' = [some vf, some vm, p1, p2, p3, p4] ∧ Dp K H' vf (fD f) ∧ Dp K H' vm (mD m) ∧ WM.DI f0 f m B40 ∧ n = (WM.dm f).toNat ∧ Ex H H') (WM.dm f0).toNat
    (fun H2 e2 => ⟨f0, WM.one, vf, v, none, none, none, none, rfl, (h1.up e1).up e2, hm.up e2, WM.DI.start hp.p hp.a hp.c, rfl, e1.trans e2⟩) fun n σ' H' hP => ?_
  obtain ⟨f, m, vf, vm, p1, p2, p3, p4, rfl, hf, hm, I, rfl, ex⟩ := hP
  have mb := (DI.mb hp I).le (show 42 ≤ big by decide)
  have fb := (DI.fb I).le (show 42 ≤ big by decide)
  have sb : ∀ t : Int, t.natAbs < 2 ^ 42 → MB big (WM.eT t) := fun t ht => ⟨bt_le (n := 1) (by show (1 : Int).natAbs < _; decide) (by decide), bt_le ht (by decide), bt_le (n := 1) (by show (0 : Int).natAbs < _; decide) (by decide), bt_le (n := 1) (by show (1 : Int).natAbs < _; decide) (by decide)⟩
  have sS : MB big WM.eS := (show MB 1 WM.eS from ⟨by decide, by decide, by decide, by decide⟩).le (by decide)
  refine ⟨_, t_not (t_val (cc_is_reduced_definite T hr (ca_cons (c_var 0 rfl (by assumption)) ca_nil))), fun hz => ?_, fun hz => ?_⟩
  · have hn : ¬ WM.RedP f := fun q => by rw [decide_eq_true q] at hz; cases hz
    refine r_unp3 2 3 4 rfl sc_reduce_positive.nd (c_var 0 rfl (by assumption)) fun u v w H1 e1 hu hv hw => ?_
    cases hu; cases hv; cases hw
    have hf := hf.up e1
    have hm := hm.up e1
    have ia := I.a
    have pa := I.p.a
    have ba := WM.posd_b I.p I.a I.c (by decide)
    have : Bt 42 f.a := ⟨(DI.fb I).a⟩
    have two : CDivN (f.a - f.b) (2 * f.a) := ⟨by omega, by unfold B40 at *; omega⟩
    refine r_ifM (fun σ2 H2 => ∃ st vs, σ2 = [some vf, some vm, some (.int f.a), some (.int f.b), some (.int f.c), some vs] ∧ Dp K H2 vs (mD st) ∧ MB big st ∧ WM.DI f0 (WM.act f st) (WM.mul m st) B40 ∧ WM.dm (WM.act f st) < WM.dm f ∧ Ex H1 H2) (ct_w (t_or (t_gt (c_var 2 rfl (.int _)) (c_var 4 rfl (.int _))) fun hb => (t_or1 (ct_w (t_and (t_eqI (c_var 2 rfl (.int _)) (c_var 4 rfl (.int _))) fun hb => (t_and1 (t_lt (c_var 3 rfl (.int _)) c_int))))))) (fun hb => ?_) (fun hb => ?_) fun σ2 H2 hM => ?_
    · have ht : WM.dturn f := by
        rw [Bool.or_eq_true, Bool.and_eq_true, decide_eq_true_eq, decide_eq_true_eq, decide_eq_true_eq] at hb
        exact hb
      obtain ⟨I2, hlt⟩ := I.turn ht
      refine r_asg 5 sc_reduce_positive.nd (c_tup (ca_cons c_int (ca_cons (c_neg c_int) (ca_cons c_int (ca_cons c_int ca_nil))))) fun vs H2 e2 hs => r_nil fun H3 e3 => ⟨WM.eS, vs, rfl, hs.up e3, sS, I2, hlt, e2.trans e3⟩
    · have ht : ¬ WM.dturn f := by
        rw [Bool.or_eq_false_iff, Bool.and_eq_false_iff, decide_eq_false_iff_not, decide_eq_false_iff_not, decide_eq_false_iff_not] at hb
        unfold WM.dturn; omega
      obtain ⟨I2, hlt⟩ := I.shift hn ht
      have tb : ((f.a - f.b).fdiv (2 * f.a)).natAbs < 2 ^ 42 := by
        have := WM.fdiv_ab (x := f.a - f.b) (y := 2 * f.a) (by omega)
        unfold B40 WM.ab at *; omega
      refine r_asg 5 sc_reduce_positive.nd (c_tup (ca_cons c_int (ca_cons (c_fdiv (c_sub (c_var 2 rfl (.int _)) (c_var 3 rfl (.int _))) (c_mul c_int (c_var 2 rfl (.int _)) (by exact cmw)) (two)) (ca_cons c_int (ca_cons c_int ca_nil))))) fun vs H2 e2 hs => r_nil fun H3 e3 => ⟨WM.eT _, vs, rfl, hs.up e3, sb _ tb, I2, hlt, e2.trans e3⟩
    · obtain ⟨st, vs, rfl, hs, ms, I2, hlt, e2⟩ := hM
      have hf := hf.up e2
      have hm := hm.up e2
      refine r_asg 0 sc_reduce_positive.nd (cc_act T hr (ca_cons (c_var 0 rfl (by assumption)) (ca_cons (c_var 5 rfl (by assumption)) ca_nil))) fun v1 H3 e3 hf3 => ?_
      have hm := hm.up e3
      have hs := hs.up e3
      refine r_asg 1 sc_reduce_positive.nd (cc_multiply T hr (ca_cons (c_var 1 rfl (by assumption)) (ca_cons (c_var 5 rfl (by assumption)) ca_nil))) fun v2 H4 e4 hm4 => r_nil fun H5 e5 => ?_
      have := WM.dm_nn I2.p
      exact ⟨_, by omega, _, _, _, _, _, _, _, _, rfl, (hf3.up e4).up e5, hm4.up e5, I2, rfl, ((((ex.trans e1).trans e2).trans e3).trans e4).trans e5⟩
  · have hn : WM.RedP f := of_decide_eq_true (by rw [Bool.not_eq_false'] at hz; exact hz)
    exact r_ret (c_tup (ca_cons (c_var 0 rfl (by assumption)) (ca_cons (c_var 1 rfl (by assumption)) ca_nil))) fun v H1 e1 hv => k (f, m) v H1 ⟨I.d, I.e, hn, I.p, DI.mb hp I, DI.fb I⟩ (ex.trans e1) hv
/-! ### definite forms -/
structure DefPre (f : Fm) : Prop where
  d : WM.disc f < 0
  a : WM.ab f.a ≤ B40
  b : WM.ab f.b ≤ B40
  c : WM.ab f.c ≤ B40
theorem DefPre.fb {f : Fm} (h : DefPre f) : FB big f := (show FB 42 f from ⟨ab42 (by have := h.a; unfold B40 at *; omega), ab42 (by have := h.b; unfold B40 at *; omega), ab42 (by have := h.c; unfold B40 at *; omega)⟩).le (by decide)
theorem DefPre.a0 {f : Fm} (h : DefPre f) : f.a ≠ 0 := fun z => by
  have := h.d
  have := WM.sq_nn f.b
  unfold WM.disc at *
  rw [z] at *
  simp only [Int.mul_zero, Int.zero_mul, Int.sub_zero] at *
  omega
theorem DefPre.pos {f : Fm} (h : DefPre f) (ha : 0 < f.a) : RPre f := ⟨⟨ha, h.d⟩, by have := h.a; unfold WM.ab at this; omega, by have := h.c; unfold WM.ab at this; omega⟩
theorem DefPre.neg {f : Fm} (h : DefPre f) (ha : ¬ 0 < f.a) : RPre (WM.scal f (-1)) := by
  have a0 := h.a0
  refine ⟨⟨by simp only [WM.scal]; omega, by rw [WM.disc_scal]; have := h.d; omega⟩, ?_, ?_⟩
  · have := h.a; unfold WM.ab at this; simp only [WM.scal]; omega
  · have := h.c; unfold WM.ab at this; simp only [WM.scal]; omega
/-- the reduced form h, or its negative -/
structure DefPost (f : Fm) (z : Fm × Mt) : Prop where
  d : WM.det z.2 = 1
  e : WM.act f z.2 = z.1
  m : MB 42 z.2
  hf : FB 42 z.1
  r : (0 < f.a ∧ WM.RedP z.1 ∧ 0 < z.1.a) ∨ (f.a < 0 ∧ z.1.a < 0 ∧ WM.RedP (WM.scal z.1 (-1)))
theorem sc_reduce_definite : FnScope ["form", "reduced", "m"] ["form"] (defScope sReduceDefinite) := ⟨rfl, rfl, rfl, by decide +kernel, rfl, by decide +kernel, by decide +kernel⟩
theorem scal_neg_neg (f : Fm) : WM.scal (WM.scal f (-1)) (-1) = f := by
  apply Fm.eq <;> simp only [WM.scal] <;> omega
theorem ok_reduce_definite (T : Tx K mg) : Ok P w K mg base "reduce_definite" ["form"] 4 (SpR K (fun f : Fm => [fD f]) DefPre DefPost fmD) := by
  refine ok_of T.fReduceDefinite sc_reduce_definite (fun _ _ _ _ _ _ us hl => match us, hl with | [_], _ => rfl) (spR_len fun _ => rfl) fun f cdv A outer s H0 E vs H Q hr h => ?_
  obtain ⟨f, hv, hp, k⟩ := h
  dsimp only at hv k
  obtain _ | ⟨h1, _ | _⟩ := hv
  refine r_if0 (t_gt (c_ixT 0 (c_var 0 rfl (by assumption)) c_int rfl rfl (fun _ _ => rfl)) c_int) (fun hb => ?_) fun hb => ?_
  · have hb := of_decide_eq_true hb
    refine r_ret (c_callRel f (ok_reduce_positive T) (hr.mono (by decide)) (ca_cons (c_var 0 rfl (by assumption)) ca_nil) (hp.pos hb)) fun v H1 e1 hv => ?_
    obtain ⟨z, hz, hd⟩ := hv
    exact k z v H1 ⟨hz.d, hz.e, hz.m, hz.f, .inl ⟨hb, hz.r, hz.p.a⟩⟩ e1 hd
  · have hb := of_decide_eq_false hb
    have a0 := hp.a0
    have fb := hp.fb
    have m1 : (-1 : Int).natAbs < 2 ^ big := bt_le (n := 1) (by decide) (by decide)
    refine r_unp2R 1 2 rfl sc_reduce_definite.nd (CR.imp (c_callRel (WM.scal f (-1)) (ok_reduce_positive T) (hr.mono (by decide)) (ca_cons (cc_scaled T hr (ca_cons (c_var 0 rfl (by assumption)) (ca_cons (c_neg c_int) ca_nil))) ca_nil) (hp.neg hb)) fun v H1 _ hv => hv) fun z v w H1 e1 hz hv hw => ?_
    have f1 := hz.f.le (show 42 ≤ big by decide)
    refine r_ret (c_tup (ca_cons (cc_scaled T hr (ca_cons (c_var 1 rfl (by assumption)) (ca_cons (c_neg c_int) ca_nil))) (ca_cons (c_var 2 rfl (by assumption)) ca_nil))) fun u H2 e2 hu => k (WM.scal z.1 (-1), z.2) u H2 ⟨hz.d, ?_, hz.m, ?_, .inr ⟨by omega, ?_, ?_⟩⟩ (e1.trans e2) hu
    · show WM.act f z.2 = WM.scal z.1 (-1)
      rw [← hz.e, WM.act_scal, scal_neg_neg]
    · have := hz.f
      exact ⟨by have := this.a; simp only [WM.scal]; omega, by have := this.b; simp only [WM.scal]; omega, by have := this.c; simp only [WM.scal]; omega⟩
    · have := hz.p.a; simp only [WM.scal]; omega
    · rw [scal_neg_neg]; exact hz.r
/-! ### their self-changes -/
abbrev msD (ms : List Mt) : PyData := .list (ms.map mD)
end
end WC
namespace WC
open PySem PySem.Spec PyProof.Rows L2
open Evl (Ex)
open WM (Fm Mt)
/-! ### data without lists stays where a list changes -/
mutual
def lfree : PyData → Bool
  | .list _ => false
  | .dict _ => false
  | .tuple ds => lfreeAll ds
  | _ => true
def lfreeAll : List PyData → Bool
  | [] => true
  | d :: ds => lfree d && lfreeAll ds
end
def Et (H H' : Hp) : Prop := ∀ a u, H a = some u → (∀ xs, u ≠ .lst xs) → H' a = some u
theorem Et.refl (H : Hp) : Et H H := fun _ _ h _ => h
theorem Et.trans {H H1 H2 : Hp} (a : Et H H1) (b : Et H1 H2) : Et H H2 := fun x u h n => b x u (a x u h n) n
theorem Et.of {H H' : Hp} (e : Ex H H') : Et H H' := fun a u h _ => e a u h
theorem Et.lst {H : Hp} {p : Addr} {vs : List V} {o : HO} (h : H p = some (.lst vs)) : Et H (upd H p o) := fun a u e n => by
  by_cases hp : a = p
  · subst hp; rw [h] at e; cases e; exact absurd rfl (n vs)
  · rw [upd_ne hp]; exact e
mutual
theorem dpt {K : PySem.W.Frag} {H H' : Hp} (e : Et H H') : ∀ (d : PyData) (v : V), lfree d = true → Dp K H v d → Dp K H' v d
  | .none, _, _, h => by cases h; exact .non
  | .bool b, _, _, h => by cases h; exact .bl b
  | .int i, _, _, h => by cases h; exact .int i
  | .str x, _, _, h => by cases h; exact .str x
  | .list ds, _, f, h => by cases f
  | .tuple ds, _, f, h => by
    cases h with
    | tup hs ha =>
      refine .tup ?_ (dpta e ds _ f ha)
      rcases hs with (hs | ⟨o, hs⟩) | hs
      · exact .inl (.inl (e _ _ hs (by intro xs z; cases z)))
      · exact .inl (.inr ⟨o, e _ _ hs (by intro xs z; cases z)⟩)
      · exact .inr hs
  | .dict _, _, f, h => by cases f
theorem dpta {K : PySem.W.Frag} {H H' : Hp} (e : Et H H') : ∀ (ds : List PyData) (vs : List V), lfreeAll ds = true → DpAll K H vs ds → DpAll K H' vs ds
  | [], _, _, h => by cases h; exact .nil
  | d :: ds, _, f, h => by
    have f2 : lfree d = true ∧ lfreeAll ds = true := Bool.and_eq_true_iff.mp f
    cases h with
    | cons h1 h2 => exact .cons (dpt e d _ f2.1 h1) (dpta e ds _ f2.2 h2)
end
theorem lfreeAll_map {α : Type} {f : α → PyData} (h : ∀ x, lfree (f x) = true) : ∀ l : List α, lfreeAll (l.map f) = true
  | [] => rfl
  | x :: l => by
    show (lfree (f x) && lfreeAll (l.map f)) = true
    rw [h x, lfreeAll_map h l]; rfl
/-! ### lists that are tracked as such -/
def IsL (K : PySem.W.Frag) (ds : List PyData) (v : V) (H : Hp) : Prop := ∃ p vs, v = .ref p ∧ H p = some (.lst vs) ∧ DpAll K H vs ds
theorem IsL.up {K : PySem.W.Frag} {ds : List PyData} {v : V} {H H' : Hp} (h : IsL K ds v H) (e : Ex H H') : IsL K ds v H' := by
  obtain ⟨p, vs, h1, h2, h3⟩ := h
  exact ⟨p, vs, h1, e _ _ h2, h3.up e⟩
theorem IsL.dp {K : PySem.W.Frag} {ds : List PyData} {v : V} {H : Hp} (h : IsL K ds v H) : Dp K H v (.list ds) := by
  obtain ⟨p, vs, rfl, h2, h3⟩ := h
  exact .lst (Evl.sq_of h2) h3
section
variable {X : Cx} {σ : L2.St} {H H' : Hp} {a b c e : Expr} {es : List Expr} {pos : Pos} {d d' : PyData} {P : V → Hp → Prop} {D : Ends} {rest : List Stmt} {ds ds' : List PyData}
theorem c_varL (i : Nat) {x : Str} {v : V} (hs : σ[i]? = some (some v)) (hd : IsL X.K ds v H) (hN : X.N[i]? = some x := by rfl) (hv : Vis X.env.scope x := by first | exact Or.inl rfl | exact Or.inr (Or.inl rfl) | exact Or.inr (Or.inr rfl)) (hdb : (x == ("__debug__" : Str)) = false := by decide)
    (hcd : (x == ("__classdict__" : Str)) = false := by decide) : CR X (.Name x pos) σ H (IsL X.K ds) := of_pe (pe_var (i := i) hN hv hdb hcd) fun H1 e1 Q q => ⟨v, hs, q v H1 (Ex.refl H1) (hd.up e1)⟩
theorem c_lstL (h : CDA X es σ H ds) (hl : ds.length ≤ 100000 := by first | decide | (simp only [List.length_cons, List.length_nil]; omega)) : CR X (.List es pos) σ H (IsL X.K ds) := of_pe (pe_lst pwa) fun H1 e1 Q q =>
  h H1 e1 _ fun vs H2 e2 hvs => ⟨Evl.sz_of (by rw [hvs.len]; exact hl), fun p hp => q _ _ (e2.trans (Ex.new hp)) ⟨p, vs, rfl, upd_same, hvs.up (Ex.new hp)⟩⟩
theorem er_cat {ta tb : TE} {K : PySem.W.Frag} (ha : EvR ta σ H (IsL K ds)) (hb : EvR tb σ H (IsL K ds')) (hz : ds.length + ds'.length ≤ 100000) : EvR (tOp rCat ta tb) σ H (IsL K (ds ++ ds')) := fun H1 e1 Q q =>
  ha H1 e1 _ fun v H2 e2 hv => hb H2 (e1.trans e2) _ fun u H3 e3 hu => by
    obtain ⟨p, vs, rfl, h1, h2⟩ := hv.up e3
    obtain ⟨p', vs', rfl, h1', h2'⟩ := hu
    exact ⟨p, p', vs, vs', rfl, rfl, h1, h1', Evl.sz_of (by rw [h2.len, h2'.len]; exact hz), fun l hl => q _ _ ((e2.trans e3).trans (Ex.new hl)) ⟨l, _, rfl, upd_same, (h2.app h2').up (Ex.new hl)⟩⟩
theorem c_cat (ha : CR X a σ H (IsL X.K ds)) (hb : CR X b σ H (IsL X.K ds')) (hz : ds.length + ds'.length ≤ 100000) : CR X (.BinOp a .Add b pos) σ H (IsL X.K (ds ++ ds')) := of_pe (pe_op op_cat pw pw) (er_cat ha hb hz)
theorem CR.dp (h : CR X e σ H (IsL X.K ds)) : CD X e σ H (.list ds) := CR.imp h fun v H1 _ hv => hv.dp
/-- tuple(a list) -/
theorem c_tupleOf {p : Pos} (ha : CD X a σ H (.list ds)) (hm : X.mg "tuple" = none) (hg : Gl X "tuple" := by rfl) (he : starEach [a] X.env = (false, eval a X.env) :: starEach [] X.env := by rfl) : CD X (.Call (.Name "tuple" p) [a] [] pos) σ H (.tuple ds) :=
  of_pe (pe_callTy call_tuple_of hg hm (by decide +kernel) (pa_cons pw pa_nil he) (by decide) (by decide) he (by rfl)) (ed_cb (eda_cons ha eda_nil) fun vs H1 _ hv Q q => by
    cases hv with
    | cons h1 h2 =>
      cases h2
      cases h1 with
      | lst hs hall => exact ⟨_, _, rfl, .inl ⟨hs, fun l hl => q _ _ (Ex.new hl) (.tup (Evl.st_of upd_same) (hall.up (Ex.new hl)))⟩⟩)
/-- list(a list) -/
theorem c_listOf {p : Pos} (ha : CD X a σ H (.list ds)) (hm : X.mg "list" = none) (hg : Gl X "list" := by rfl) (he : starEach [a] X.env = (false, eval a X.env) :: starEach [] X.env := by rfl) : CR X (.Call (.Name "list" p) [a] [] pos) σ H (IsL X.K ds) :=
  of_pe (pe_callTy call_list_of hg hm (by decide +kernel) (pa_cons pw pa_nil he) (by decide) (by decide) he (by rfl)) (ed_cb (eda_cons ha eda_nil) fun vs H1 _ hv Q q => by
    cases hv with
    | cons h1 h2 =>
      cases h2
      cases h1 with
      | lst hs hall => exact ⟨_, _, rfl, .inl hs, fun l hl => q _ _ (Ex.new hl) ⟨l, _, rfl, upd_same, hall.up (Ex.new hl)⟩⟩)
/-- len(a list) -/
theorem c_lenL {p : Pos} (ha : CD X a σ H (.list ds)) (hm : X.mg "len" = none) (hg : Gl X "len" := by rfl) (he : starEach [a] X.env = (false, eval a X.env) :: starEach [] X.env := by rfl) : CD X (.Call (.Name "len" p) [a] [] pos) σ H (.int ds.length) :=
  of_pe (pe_callB call_len_seq hg hm (by decide +kernel) (pa_cons pw pa_nil he) (by decide) (by decide) he (by rfl)) (ed_cb (eda_cons ha eda_nil) fun vs H1 _ hv Q q => by
    cases hv with
    | cons h1 h2 =>
      cases h2
      cases h1 with
      | lst hs hall => exact ⟨_, _, rfl, .inl hs, q _ _ (Ex.refl _) (by rw [hall.len]; exact .int _)⟩)
/-- xs.append(e) -/
theorem r_app (i : Nat) {x : Str} {p : Addr} {vs : List V} {px p2 p3 : Pos} (hs : σ[i]? = some (some (.ref p))) (hl : H p = some (.lst vs)) (hz : vs.length < 100000) (he : CR X e σ H P) (k : ∀ v H2, Ex H H2 → P v H2 → WS X rest D σ (upd H2 p (.lst (vs ++ [v]))))
    (hN : X.N[i]? = some x := by rfl) (hv : Vis X.env.scope x := by first | exact Or.inl rfl | exact Or.inr (Or.inl rfl) | exact Or.inr (Or.inr rfl)) (hdb : (x == ("__debug__" : Str)) = false := by decide) (hcd : (x == ("__classdict__" : Str)) = false := by decide)
    (hpe : PE X (.Call (.Attribute (.Name x px) "append" p2) [e] [] p3) (tBM X.K "list" rAppend (tVar i) (tCons (wE X e) tNil)))
    (hsw : swapsWith (.Call (.Attribute (.Name x px) "append" p2) [e] [] p3) none pos.line X.env = pure false := by rfl) : WS X (.Expr (.Call (.Attribute (.Name x px) "append" p2) [e] [] p3) pos :: rest) D σ H :=
  ws_of (ps_expr hpe hsw) fun H1 e1 => ⟨_, hs, .inl ⟨rfl, vs, Evl.sq_of (e1 _ _ hl)⟩, he H1 e1 _ fun v H2 e2 hv => ⟨p, vs, v, rfl, rfl, (e1.trans e2) _ _ hl, Evl.sz_lt hz, k v H2 (e1.trans e2) hv _ (Ex.refl _)⟩⟩
end
/-! ### comprehensions over a list, an element a new piece of data -/
/-- a list that is one's own: new since H0 -/
structure Own (K : PySem.W.Frag) (H0 : Hp) (p : Addr) (ds : List PyData) (H : Hp) : Prop where
  fr : H0 p = none
  ex : Ex H0 H
  at_ : ∃ vs, H p = some (.lst vs) ∧ DpAll K H vs ds
theorem Own.up {K : PySem.W.Frag} {H0 H H' : Hp} {p : Addr} {ds : List PyData} (h : Own K H0 p ds H) (e : Ex H H') : Own K H0 p ds H' := by
  obtain ⟨vs, h1, h2⟩ := h.at_
  exact ⟨h.fr, h.ex.trans e, vs, e _ _ h1, h2.up e⟩
theorem Own.is {K : PySem.W.Frag} {H0 H : Hp} {p : Addr} {ds : List PyData} (h : Own K H0 p ds H) : IsL K ds (.ref p) H := by
  obtain ⟨vs, h1, h2⟩ := h.at_
  exact ⟨p, vs, rfl, h1, h2⟩
theorem Own.frs {H0 H1 : Hp} {p : Addr} (e : Ex H0 H1) (h : H1 p = none) : H0 p = none := by
  cases hp : H0 p with
  | none => rfl
  | some o => have := e _ _ hp; rw [h] at this; cases this
theorem Own.low {K : PySem.W.Frag} {H0 H1 H : Hp} {p : Addr} {ds : List PyData} (e : Ex H0 H1) (h : Own K H1 p ds H) : Own K H0 p ds H := by
  refine ⟨?_, e.trans h.ex, h.at_⟩
  cases hp : H0 p with
  | none => rfl
  | some o => have := e _ _ hp; rw [h.fr] at this; cases this
section
variable {X : Cx} {σ : L2.St} {H H0 H' : Hp} {a b c e : Expr} {es : List Expr} {pos : Pos} {d d' : PyData} {P : V → Hp → Prop} {D : Ends} {rest : List Stmt} {ds ds' : List PyData}
/-- a list display, the list one's own -/
theorem c_lstN (h : CDA X es σ H ds) (hl : ds.length ≤ 100000 := by first | decide | (simp only [List.length_cons, List.length_nil]; omega)) : CR X (.List es pos) σ H (fun v H2 => ∃ p, v = .ref p ∧ Own X.K H p ds H2) := of_pe (pe_lst pwa) fun H1 e1 Q q =>
  h H1 e1 _ fun vs H2 e2 hvs => ⟨Evl.sz_of (by rw [hvs.len]; exact hl), fun p hp => q _ _ (e2.trans (Ex.new hp)) ⟨p, rfl, Own.frs (e1.trans e2) hp, (e1.trans e2).trans (Ex.new hp), vs, upd_same, hvs.up (Ex.new hp)⟩⟩
/-- xs.append(e), the list one's own -/
theorem r_appO (i : Nat) {x : Str} {p : Addr} {px p2 p3 : Pos} (hs : σ[i]? = some (some (.ref p))) (hl : Own X.K H0 p ds H) (hz : ds.length < 100000) (he : CD X e σ H d) (hf : lfreeAll ds = true) (hd : lfree d = true) (k : ∀ H2, Et H H2 → Own X.K H0 p (ds ++ [d]) H2 → WS X rest D σ H2)
    (hN : X.N[i]? = some x := by rfl) (hv : Vis X.env.scope x := by first | exact Or.inl rfl | exact Or.inr (Or.inl rfl) | exact Or.inr (Or.inr rfl)) (hdb : (x == ("__debug__" : Str)) = false := by decide) (hcd : (x == ("__classdict__" : Str)) = false := by decide)
    (hsw : swapsWith (.Call (.Attribute (.Name x px) "append" p2) [e] [] p3) none pos.line X.env = pure false := by rfl) (hbase : attributeBase (.Name x px) "append" X.env (eval (.Name x px) X.env) = eval (.Name x px) X.env := by rfl)
    (hfew : ((backTo p3 (starEach [e] X.env)).all (fun x => !x.1) && (backToKw p3 (keywordEach [] X.env)).all (fun x => x.1.isSome)
      && decide ([e].length + ([] : List Keyword).length + (if ([] : List Keyword).isEmpty then 0 else 1) < 30)) = true := by rfl)
    (hline : (p2.endLine == p3.line) = true := by rfl) (hst : starEach [e] X.env = (false, eval e X.env) :: starEach [] X.env := by rfl) : WS X (.Expr (.Call (.Attribute (.Name x px) "append" p2) [e] [] p3) pos :: rest) D σ H := by
  obtain ⟨vs, h1, h2⟩ := hl.at_
  refine r_app (P := fun v H2 => Dp X.K H2 v d) i hs h1 (by rw [h2.len]; exact hz) he (fun v H2 e2 hv => ?_) hN hv hdb hcd (hpe := pe_bm PySem.F.plainAttrs_list PySem.F.slot_list_append PySem.F.type_list_append mt_append (pv i hN hv hdb hcd) (pa_cons pw pa_nil hst) hbase hfew hline hst rfl) hsw
  have et := Et.lst (o := .lst (vs ++ [v])) (e2 _ _ h1)
  exact k _ ((Et.of e2).trans et) ⟨hl.fr, Ex.mut (hl.ex.trans e2) hl.fr, _, upd_same, (dpta et _ _ hf (h2.up e2)).app (.cons (dpt et _ _ hd hv) .nil)⟩
/-- [e for x in a list], e a piece of data -/
def wB (X : Cx) (scope : Scope) (elt : Expr) : TE := fun σ H Q => ∀ (s : Shared) (H1 : Hp) (C : Addr) (cl : List (Str × Addr)) (fp : List Addr), wE (X.blk s H1 scope (compEnvC scope cl C X.env) fp) elt σ H Q
theorem pwb {X : Cx} {scope : Scope} {elt : Expr} (s : Shared) (H1 : Hp) (C : Addr) (cl : List (Str × Addr)) (fp : List Addr) : PE (X.blk s H1 scope (compEnvC scope cl C X.env) fp) elt (wB X scope elt) := ⟨fun pins s' σ H Q I h => h s H1 C cl fp pins s' I⟩
theorem wipe_one (σ : L2.St) (j : Nat) (x : Option V) : wipe ((wipe σ [j]).set j x) [j] = wipe σ [j] := by
  show ((σ.set j none).set j x).set j none = σ.set j none
  rw [List.set_set, List.set_set]
theorem c_lcL {α : Type} (j : Nat) {x : Str} {px : Pos} {iter elt : Expr} {scope : Scope} {l : List α} {cD gD : α → PyData} (hc : X.calm = true) (hN : X.N.Nodup) (hi : CR X iter σ H (IsL X.K (l.map cD))) (hz : l.length ≤ 40000)
    (he : ∀ (s : Shared) (H0 : Hp) (C : Addr) (cl : List (Str × Addr)) (fp : List Addr) y v H1, y ∈ l → Ex H H1 → Dp X.K H1 v (cD y) → CD (X.blk s H0 scope (compEnvC scope cl C X.env) fp) elt ((σ.set j none).set j (some v)) H1 (gD y)) (hf : ∀ y, lfree (gD y) = true)
    (ok : BlkOk X.N X.env.scope scope [(x, j)]) (hj : X.N[j]? = some x := by rfl) (hx : ∀ (C : Addr) (cl : List (Str × Addr)), Loc (compEnvC scope cl C X.env).scope x := by first | exact fun _ _ => Or.inl rfl | exact fun _ _ => Or.inr rfl)
    (hl : ∀ (C : Addr) (cl : List (Str × Addr)), (scope.names.lookup x == some .cell) = true ∨ (compEnvC scope cl C X.env).scope.names.lookup x = some .local := by first | exact fun _ _ => .inl rfl | exact fun _ _ => .inr rfl) (hs : ∀ x, foldedSetIterable iter X.env x = pure x := by intro _; rfl) :
    CR X (.ListComp elt [⟨.Name x px, iter, [], 0⟩] scope pos) σ H (IsL X.K (l.map gD)) := by
  refine of_pe (pe_lc (own := [(x, j)]) (g := gName j) (tt := tYes) hc hN (pi_list pw) ok (fun s H C cl fp => pg_name hN hj (hx C cl) (hl C cl)) (fun _ _ _ _ _ => pts_nil) pwb hs) fun H0 e0 Q q => ?_
  refine hi H0 e0 _ fun v H1 e1 hv => ?_
  obtain ⟨p, xs, rfl, hp, hall⟩ := hv
  have hlen : xs.length = l.length := by have := hall.len; rw [List.length_map] at this; exact this
  refine ⟨p, rfl, ⟨xs, Evl.sq_of hp⟩, fun Dl hD => ?_⟩
  refine lc_list (xs := xs) (fun i H' => Ex H1 H' ∧ ∃ ys, H' Dl = some (.lst ys) ∧ DpAll X.K H' ys ((l.take i).map gD)) ⟨Ex.new hD, [], upd_same, .nil⟩ (fun i H' _ hP => Evl.sq_of (hP.1 _ _ hp)) (fun i x H' hi hP => ?_) fun H' hP => ?_
  · obtain ⟨ex, ys, hy, hyall⟩ := hP
    have hi2 : i < l.length := by have := (List.getElem?_eq_some_iff.mp hi).1; omega
    obtain ⟨x', k1, k2⟩ := hall.get (i := i) (d := cD l[i]) (by rw [List.getElem?_map, List.getElem?_eq_getElem hi2]; rfl)
    rw [hi] at k1; cases k1
    refine ⟨wipe_one _ _ _, ?_⟩
    intro s H2 C cl fp
    refine he s H2 C cl fp l[i] x H' (List.getElem_mem hi2) ((e0.trans e1).trans ex) (k2.up ex) H' (Ex.refl H') _ fun y H4 e4 hd => ?_
    have h4 := e4 _ _ hy
    have hl2 := hyall.len
    rw [List.length_map, List.length_take] at hl2
    refine ⟨ys, h4, Evl.sz_lt (by omega), Ex.mut (ex.trans e4) hD, _, upd_same, ?_⟩
    have et := Et.lst (o := .lst (ys ++ [y])) h4
    have htake : l.take (i + 1) = l.take i ++ [l[i]] := by rw [List.take_add_one, List.getElem?_eq_getElem hi2]; rfl
    rw [htake, List.map_append]
    exact (dpta et _ _ (lfreeAll_map hf _) (hyall.up e4)).app (.cons (dpt et _ _ (hf _) hd) .nil)
  · obtain ⟨ex, ys, hy, hyall⟩ := hP
    refine q _ _ (e1.trans ex) ⟨Dl, ys, rfl, hy, ?_⟩
    rw [hlen, List.take_length] at hyall
    exact hyall
end
section
variable {P : Program} {w : World} {K : PySem.W.Frag} {mg : Str → Option Value} {base : Heap}
variable {X : Cx} {σ : L2.St} {H : Hp} {e : Expr} {es : List Expr}
theorem cc_negative {k : Nat} {m : Mt} {p pos : Pos} (T : Tx X.K X.mg) (hr : Room k X.A) (ha : CDA X (e :: es) σ H [mD m])  (hk : 1 ≤ k := by decide) (hg : Gl X "negative" := by rfl) (he : starEach (e :: es) X.env = (false, eval e X.env) :: starEach es X.env := by rfl) (hpl : (backTo pos (starEach es X.env)).any (·.1) = false := by rfl) : CD X (.Call (.Name "negative" p) (e :: es) [] pos) σ H (mD (WM.neg m)) :=
  c_callF m (ok_negative T) (hr.mono hk) ha trivial hg (by decide) he hpl
theorem sc_self_changes : FnScope ["form", "a", "b", "c", "found", "m"] ["form"] (defScope sSelfChanges) := ⟨rfl, rfl, rfl, by decide +kernel, rfl, by decide +kernel, by decide +kernel⟩
theorem mD_lfree (m : Mt) : lfree (mD m) = true := rfl
theorem ok_self_changes (T : Tx K mg) : Ok P w K mg base "self_changes" ["form"] 2 (SpF K (fun f : Fm => [fD f]) (fun _ => True) (fun f => msD (WM.selfs f))) := by
  refine ok_of T.fSelfChanges sc_self_changes (fun _ _ _ _ _ _ us hl => match us, hl with | [_], _ => rfl) (spF_len fun _ => rfl) fun f cdv A outer s H0 E vs H Q hr h => ?_
  obtain ⟨f, hv, _, k⟩ := h
  dsimp only at hv k
  obtain _ | ⟨h1, _ | _⟩ := hv
  rename_i vf
  refine r_unp3 1 2 3 rfl sc_self_changes.nd (c_var 0 rfl (by assumption)) fun u v w H1 e1 hu hv hw => ?_
  cases hu; cases hv; cases hw
  refine r_asg 4 sc_self_changes.nd (c_lstN (ds := [WM.one].map mD) (ca_cons (c_glob_UNIT T) ca_nil)) fun v H2 e2 hl => ?_
  obtain ⟨p, rfl, ho⟩ := hl
  have ho := ho.low e1
  have S : ∀ (ms : List Mt), lfreeAll (ms.map mD) = true := fun ms => lfreeAll_map mD_lfree ms
  refine r_ifM (fun σ' H' => σ' = [some vf, some (.int f.a), some (.int f.b), some (.int f.c), some (.ref p), none] ∧ Own K H p (([WM.one] ++ (if f.a = f.c ∧ f.b = 0 then [(⟨0, -1, 1, 0⟩ : Mt)] else [])).map mD) H') (ct_w (t_and (t_eqI (c_var 1 rfl (.int _)) (c_var 3 rfl (.int _))) fun hb => (t_and1 (t_eqI (c_var 2 rfl (.int _)) c_int)))) (fun hb => ?_) (fun hb => ?_) fun σ' H' hM => ?_
  · rw [Bool.and_eq_true, decide_eq_true_eq, decide_eq_true_eq] at hb
    rw [if_pos hb]
    exact r_appO 4 rfl ho (by decide) (c_tup (ca_cons c_int (ca_cons (c_neg c_int) (ca_cons c_int (ca_cons c_int ca_nil))))) (S _) rfl fun H3 e3 h3 => r_nil fun H4 e4 => ⟨rfl, h3.up e4⟩
  · rw [Bool.and_eq_false_iff, decide_eq_false_iff_not, decide_eq_false_iff_not] at hb
    rw [if_neg (by omega)]
    exact r_nil fun H4 e4 => ⟨rfl, ho.up e4⟩
  obtain ⟨rfl, ho⟩ := hM
  generalize hms : [WM.one] ++ (if f.a = f.c ∧ f.b = 0 then [(⟨0, -1, 1, 0⟩ : Mt)] else []) = ms at ho
  have hms2 : ms.length ≤ 2 := by rw [← hms]; split <;> decide
  refine r_ifM (fun σ' H' => σ' = [some vf, some (.int f.a), some (.int f.b), some (.int f.c), some (.ref p), none] ∧ Own K H p ((ms ++ (if f.a = f.b ∧ f.b = f.c then [(⟨0, -1, 1, 1⟩ : Mt), ⟨1, 1, -1, 0⟩] else [])).map mD) H') (ct_w (t_and (t_eqI (c_var 1 rfl (.int _)) (c_var 2 rfl (.int _))) fun hb => (t_and1 (t_eqI (c_var 2 rfl (.int _)) (c_var 3 rfl (.int _)))))) (fun hb => ?_) (fun hb => ?_) fun σ' H' hM => ?_
  · rw [Bool.and_eq_true, decide_eq_true_eq, decide_eq_true_eq] at hb
    rw [if_pos hb]
    refine r_appO 4 rfl ho (by rw [List.length_map]; omega) (c_tup (ca_cons c_int (ca_cons (c_neg c_int) (ca_cons c_int (ca_cons c_int ca_nil))))) (S _) rfl fun H3 e3 h3 => ?_
    refine r_appO (ds := (ms ++ [(⟨0, -1, 1, 1⟩ : Mt)]).map mD) (d := mD ⟨1, 1, -1, 0⟩) 4 rfl (by rw [List.map_append]; exact h3) (by rw [List.length_map, List.length_append]; have : [(⟨0, -1, 1, 1⟩ : Mt)].length = 1 := rfl; omega) (c_tup (ca_cons c_int (ca_cons c_int (ca_cons (c_neg c_int) (ca_cons c_int ca_nil))))) (S _) rfl fun H3 e3 h3 => r_nil fun H4 e4 => ⟨rfl, ?_⟩
    have := h3.up e4
    rw [show ms ++ [(⟨0, -1, 1, 1⟩ : Mt), ⟨1, 1, -1, 0⟩] = (ms ++ [⟨0, -1, 1, 1⟩]) ++ [⟨1, 1, -1, 0⟩] by rw [List.append_assoc]; rfl, List.map_append]
    exact this
  · rw [Bool.and_eq_false_iff, decide_eq_false_iff_not, decide_eq_false_iff_not] at hb
    rw [if_neg (by omega), List.append_nil]
    exact r_nil fun H4 e4 => ⟨rfl, ho.up e4⟩
  obtain ⟨rfl, ho⟩ := hM
  have hfin : ms ++ (if f.a = f.b ∧ f.b = f.c then [(⟨0, -1, 1, 1⟩ : Mt), ⟨1, 1, -1, 0⟩] else []) = WM.selfs1 f := by rw [← hms]; rfl
  rw [hfin] at ho
  have hlen : (WM.selfs1 f).length ≤ 4 := by
    rw [← hfin, List.length_append]
    have : (if f.a = f.b ∧ f.b = f.c then [(⟨0, -1, 1, 1⟩ : Mt), ⟨1, 1, -1, 0⟩] else []).length ≤ 2 := by split <;> decide
    omega
  refine r_ret (CR.dp (c_cat (c_varL 4 rfl ho.is) (c_lcL (l := WM.selfs1 f) (cD := mD) (gD := fun m => mD (WM.neg m)) 5 (x := "m") rfl sc_self_changes.nd (c_varL 4 rfl ho.is) (by omega) (fun s H3 C cl fp m v H4 _ e4 hv => ?_) (fun m => rfl) (blkOk_by (N := ["form", "a", "b", "c", "found", "m"]) (sc := defScope sSelfChanges) (by decide +kernel))) (by rw [List.length_map, List.length_map]; omega))) fun v H1 e1 hv => k v H1 (ho.ex.trans e1) ?_
  · exact (cc_negative T hr (ca_cons (c_var 5 rfl (by assumption)) ca_nil))
  · have : msD (WM.selfs f) = .list ((WM.selfs1 f).map mD ++ (WM.selfs1 f).map fun m => mD (WM.neg m)) := by
      show PyData.list _ = _
      unfold WM.selfs
      rw [List.map_append, List.map_map]; rfl
    rw [this]; exact hv
end
end WC
namespace WC
open PySem PySem.Spec PyProof.Rows L2
open Evl (Ex)
open WM (Fm Mt)
/-! ### the least of a list of pairs of a form and a matrix -/
theorem lexI (x y : Int) (xs ys : List (Int ⊕ List Nat)) : PyProof.Rows.lexLt PyProof.Rows.itemOrd (.inl x :: xs) (.inl y :: ys) = (decide (x < y) || (decide (x = y) && PyProof.Rows.lexLt PyProof.Rows.itemOrd xs ys)) := by
  rw [PyProof.Rows.lex_cons]
  show (decide (x < y) || (!decide (y < x) && _)) = _
  by_cases h1 : x < y
  · rw [decide_eq_true h1]; rfl
  · by_cases h2 : y < x
    · rw [decide_eq_false h1, decide_eq_true h2, decide_eq_false (show ¬ x = y by omega)]; rfl
    · rw [decide_eq_false h1, decide_eq_false h2, decide_eq_true (show x = y by omega)]; rfl
theorem lexP {x y : Int} {xs ys : List (Int ⊕ List Nat)} : PyProof.Rows.lexLt PyProof.Rows.itemOrd (.inl x :: xs) (.inl y :: ys) = true ↔ x < y ∨ (x = y ∧ PyProof.Rows.lexLt PyProof.Rows.itemOrd xs ys = true) := by
  rw [lexI, Bool.or_eq_true, Bool.and_eq_true, decide_eq_true_eq, decide_eq_true_eq]
theorem lexQ {x : Int} {xs ys : List (Int ⊕ List Nat)} : PyProof.Rows.lexLt PyProof.Rows.itemOrd (.inl x :: xs) (.inl x :: ys) = true ↔ PyProof.Rows.lexLt PyProof.Rows.itemOrd xs ys = true := by
  rw [lexP]; exact ⟨fun h => by rcases h with h | h; omega; exact h.2, fun h => .inr ⟨rfl, h⟩⟩
theorem lex6 {a b c a' b' c' : Int} {xs ys : List (Int ⊕ List Nat)} : PyProof.Rows.lexLt PyProof.Rows.itemOrd (.inl 1 :: .inl 1 :: .inl a :: .inl 1 :: .inl b :: .inl 1 :: .inl c :: xs) (.inl 1 :: .inl 1 :: .inl a' :: .inl 1 :: .inl b' :: .inl 1 :: .inl c' :: ys) = true ↔
    a < a' ∨ (a = a' ∧ (b < b' ∨ (b = b' ∧ (c < c' ∨ (c = c' ∧ PyProof.Rows.lexLt PyProof.Rows.itemOrd xs ys = true))))) := by
  rw [lexQ, lexQ, lexP, lexQ, lexP, lexQ, lexP]
theorem lt_fm {z w : Fm × Mt} (h : PySem.W.dataLt (fmD z) (fmD w) = true) : ¬ WM.flt w.1 z.1 := by
  have h := lex6.mp h
  unfold WM.flt
  omega
theorem lt_mf {z w : Fm × Mt} (h : WM.flt z.1 w.1) : PySem.W.dataLt (fmD z) (fmD w) = true := by
  refine lex6.mpr ?_
  unfold WM.flt at h
  omega
theorem alike_fm (z w : Fm × Mt) : PySem.W.alike (fmD z) (fmD w) = true := rfl
theorem alikes_fm (zs : List (Fm × Mt)) : PySem.W.AlikeAll (zs.map fmD) := by
  refine ⟨fun x hx y hy => ?_, fun x hx => ?_⟩
  · obtain ⟨z, _, rfl⟩ := List.mem_map.mp hx
    obtain ⟨w, _, rfl⟩ := List.mem_map.mp hy
    exact alike_fm z w
  · obtain ⟨z, _, rfl⟩ := List.mem_map.mp hx
    exact fun e => by cases e
theorem flt_trans {f g h : Fm} (a : WM.flt f g) (b : WM.flt g h) : WM.flt f h := by unfold WM.flt at *; omega
theorem flt_tri {f g : Fm} (h : ¬ WM.flt f g) : WM.flt g f ∨ f = g := by
  by_cases e : f = g
  · exact .inr e
  · refine .inl ?_
    by_cases e1 : f.a = g.a
    · by_cases e2 : f.b = g.b
      · by_cases e3 : f.c = g.c
        · exact absurd (WM.Fm.eq e1 e2 e3) e
        · unfold WM.flt at *; omega
      · unfold WM.flt at *; omega
    · unfold WM.flt at *; omega
theorem minD_fm : ∀ (zs : List (Fm × Mt)) (z : Fm × Mt), ∃ m, PySem.W.minD (fmD z) (zs.map fmD) = fmD m ∧ m ∈ z :: zs ∧ ∀ y ∈ z :: zs, ¬ WM.flt y.1 m.1
  | [], z => ⟨z, rfl, List.mem_cons_self, fun y hy => by
    rw [List.mem_singleton.mp hy]; unfold WM.flt; omega⟩
  | w :: zs, z => by
    show ∃ m, PySem.W.minD (if PySem.W.dataLt (fmD w) (fmD z) then fmD w else fmD z) (zs.map fmD) = fmD m ∧ _
    by_cases h : PySem.W.dataLt (fmD w) (fmD z) = true
    · rw [if_pos h]
      obtain ⟨m, h1, h2, h3⟩ := minD_fm zs w
      refine ⟨m, h1, List.mem_cons_of_mem _ h2, fun y hy => ?_⟩
      rcases List.mem_cons.mp hy with rfl | hy
      · intro hf
        rcases flt_tri (lt_fm h) with q | q
        · exact h3 w List.mem_cons_self (flt_trans q hf)
        · exact h3 w List.mem_cons_self (q ▸ hf)
      · exact h3 y hy
    · rw [if_neg h]
      obtain ⟨m, h1, h2, h3⟩ := minD_fm zs z
      refine ⟨m, h1, ?_, fun y hy => ?_⟩
      · rcases List.mem_cons.mp h2 with rfl | h2
        · exact List.mem_cons_self
        · exact List.mem_cons_of_mem _ (List.mem_cons_of_mem _ h2)
      · rcases List.mem_cons.mp hy with rfl | hy
        · exact h3 _ List.mem_cons_self
        · rcases List.mem_cons.mp hy with rfl | hy
          · intro hf
            have hz : ¬ WM.flt y.1 z.1 := fun q => h (lt_mf q)
            rcases flt_tri hz with q | q
            · exact h3 z List.mem_cons_self (flt_trans q hf)
            · exact h3 z List.mem_cons_self (q ▸ hf)
          · exact h3 y (List.mem_cons_of_mem _ hy)
theorem depth_fm (z : Fm × Mt) : (fmD z).depth ≤ 4 := by
  show PyData.depth (.tuple [.tuple [.int _, .int _, .int _], .tuple [.int _, .int _, .int _, .int _]]) ≤ 4
  simp [PyData.depth, PyData.depthAll]
theorem depths_fm : ∀ zs : List (Fm × Mt), PyData.depthAll (zs.map fmD) ≤ 4
  | [] => by simp [PyData.depthAll]
  | z :: zs => by
    show max (fmD z).depth (PyData.depthAll (zs.map fmD)) ≤ 4
    exact Nat.max_le.mpr ⟨depth_fm z, depths_fm zs⟩
def rMinF (K : PySem.W.Frag) : List V → Hp → VK → Prop := fun vs H Q => ∃ a xs z zs, vs = [.ref a] ∧ SqL K H a xs ∧ DpAll K H xs ((z :: zs).map fmD) ∧ ∀ m v, m ∈ z :: zs → (∀ y ∈ z :: zs, ¬ WM.flt y.1 m.1) → Dp K H v (fmD m) → Q v H
theorem cr_minF {X : Cx} (hc : X.calm = true) (hu : X.A.units + 64 < cLine) : CallR X (.builtin "min") (rMinF X.K) := by
  intro pins s σ H vs us Q I r h
  obtain ⟨a, xs, z, zs, rfl, hs, hall, q⟩ := h
  obtain ⟨its, rv, hl, _⟩ := I.list hs
  rw [Vals.ref1 r]
  obtain ⟨as, hr⟩ := Dp.readsAll I _ xs its hall rv
  obtain ⟨m, hm, hmem, hmin⟩ := minD_fm zs z
  refine PySem.W.min_list_data (x := fmD z) (xs := zs.map fmD) (as := as) (I.ok.hd hc) hl.isList (by simpa using hr) (alikes_fm (z :: zs)) (by have := depths_fm (z :: zs); rw [List.map_cons] at this; omega) fun i v h' tk bs hv hrd hk => ?_
  have hv' : its[i]? = some v := by simpa using hv
  have hi : i < xs.length := by have := rv.length; have := (List.getElem?_eq_some_iff.mp hv').1; omega
  obtain ⟨u, hu1, hu2⟩ := rv.get (i := i) (List.getElem?_eq_getElem hi)
  rw [hv'] at hu1; cases hu1
  have hlen := hall.len
  have hi2 : i < ((z :: zs).map fmD).length := by omega
  obtain ⟨x', k1, k2⟩ := hall.get (i := i) (List.getElem?_eq_getElem hi2)
  rw [List.getElem?_eq_getElem hi] at k1; cases k1
  obtain ⟨as2, hr2⟩ := Dp.reads I _ _ _ k2 hu2
  have he := PySem.SeqAt.Reads.unique _ _ _ _ _ (by rw [hm]; rfl) hrd (PySem.W.reads_keeps hk hr2)
  rw [hm] at he
  rw [← he] at k2
  exact ⟨xs[i], H, I.kept hk, hu2, q m _ hmem hmin k2⟩
section
variable {X : Cx} {σ : L2.St} {H H0 H' : Hp} {a b c e : Expr} {es : List Expr} {pos : Pos} {d d' : PyData} {P : V → Hp → Prop} {D : Ends} {rest : List Stmt} {ds ds' : List PyData}
theorem c_minF {p : Pos} {α : Type} {post : α → Prop} {zs : α → List (Fm × Mt)} (hc : X.calm = true) (hu : X.A.units + 64 < cLine) (ha : CR X a σ H fun v H2 => ∃ y, post y ∧ Dp X.K H2 v (.list ((zs y).map fmD))) (hne : ∀ y, post y → zs y ≠ []) (hm : X.mg "min" = none) (hg : Gl X "min" := by rfl) (he : starEach [a] X.env = (false, eval a X.env) :: starEach [] X.env := by rfl) :
    CR X (.Call (.Name "min" p) [a] [] pos) σ H fun v H2 => ∃ m, (∃ y, post y ∧ m ∈ zs y ∧ ∀ w ∈ zs y, ¬ WM.flt w.1 m.1) ∧ Dp X.K H2 v (.tuple [fD m.1, mD m.2]) :=
  of_pe (pe_callB (cr_minF hc hu) hg hm (by decide +kernel) (pa_cons pw pa_nil he) (by decide) (by decide) he (by rfl)) fun H1 e1 Q q => ha H1 e1 _ fun v H2 e2 hv => by
    obtain ⟨y, hy, hv⟩ := hv
    have hn := hne y hy
    cases hz : zs y with
    | nil => exact absurd hz hn
    | cons z zr =>
      rw [hz] at hv
      obtain _ | _ | _ | _ | ⟨hs, hall⟩ | _ := hv
      exact ⟨_, _, z, zr, rfl, hs, hall, fun m v hm hmin hd => q v H2 e2 ⟨m, ⟨y, hy, by rw [hz]; exact hm, by rw [hz]; exact hmin⟩, hd⟩⟩
end
end WC
namespace WC
open PySem PySem.Spec PyProof.Rows L2
open Evl (Ex)
open WM (Fm Mt)
/-! ### indefinite forms -/
theorem eqv_i (i j : Int) : PyData.eqv (.int i) (.int j) = decide (i = j) := by
  show (i == j) = _
  by_cases h : i = j
  · rw [decide_eq_true h]; exact beq_iff_eq.mpr h
  · rw [decide_eq_false h]; exact beq_eq_false_iff_ne.mpr h
theorem eqv_f (f g : Fm) : PyData.eqv (fD f) (fD g) = decide (f = g) := by
  show (PyData.eqv (.int f.a) (.int g.a) && (PyData.eqv (.int f.b) (.int g.b) && (PyData.eqv (.int f.c) (.int g.c) && true))) = _
  rw [eqv_i, eqv_i, eqv_i, Bool.and_true, ← Bool.decide_and, ← Bool.decide_and]
  exact decide_eq_decide.mpr ⟨fun h => WM.Fm.eq h.1 h.2.1 h.2.2, fun h => by rw [h]; exact ⟨rfl, rfl, rfl⟩⟩
structure IPre (x : Int × Fm) : Prop where
  i : WM.Ind x.1 x.2
  r : x.1 ≤ 35
  d : WM.Bd B40 x.2
theorem IPre.sq {r : Int} {f : Fm} (h : IPre (r, f)) : (r + 1) * (r + 1) ≤ 1296 := by
  have h1 := h.i.r1
  have h2 := h.r
  dsimp only at h1 h2
  exact Int.mul_le_mul (show r + 1 ≤ 36 by omega) (show r + 1 ≤ 36 by omega) (by omega) (by omega)
theorem IPre.pos {r : Int} {f : Fm} (h : IPre (r, f)) : 0 ≤ WM.disc f ∧ WM.disc f < 2 ^ 64 := by
  have := h.sq
  have := h.i.hi
  have := h.i.lo
  have := WM.sq_nn r
  dsimp only at *
  exact ⟨by omega, by omega⟩
theorem IPre.root {r : Int} {f : Fm} (h : IPre (r, f)) : sqrtI (WM.disc f) = r := by
  obtain ⟨h1, h2, h3⟩ := sqrtI_spec h.pos.1
  have := h.i.r1
  have := h.i.lo
  have := h.i.hi
  dsimp only at *
  exact WM.root_unique h1 (by omega) h2 h3 (by omega) (by omega)
theorem fb_of {B : Int} {f : Fm} (h : WM.Bd B f) (hB : B ≤ B40) : FB 29 f := by
  have := h.a
  have := h.b
  have := h.c
  unfold B40 WM.ab at *
  exact ⟨by omega, by omega, by omega⟩
theorem IPre.fb {r : Int} {f : Fm} (h : IPre (r, f)) : FB big f := (fb_of h.d (Int.le_refl _)).le (by decide)
theorem IPre.it {r : Int} {f : Fm} (h : IPre (r, f)) (n : Nat) : IPre (r, WM.it r n f) := ⟨h.i.it n, h.r, WM.Bd.it h.i (by have := h.sq; unfold B40; dsimp only; omega) h.d n⟩
theorem IPre.stM {r : Int} {f : Fm} (h : IPre (r, f)) : MB 31 (WM.stM r f) := by
  have := WM.stN_ab (B := B40) h.i (by have := h.r; unfold B40; dsimp only at *; omega) h.d
  refine ⟨by show (0 : Int).natAbs < _; decide, by show (-1 : Int).natAbs < _; decide, by show (1 : Int).natAbs < _; decide, ?_⟩
  show (WM.stN r f.b f.c).natAbs < 2 ^ 31
  unfold B40 WM.ab at this; dsimp only at this; omega
theorem IPre.itM {r : Int} {f : Fm} (h : IPre (r, f)) (n : Nat) : MB (30 * n + 1) (WM.itM r n f) := by
  have := WM.itM_size (C := 2 ^ 30) h.i (by have := h.sq; unfold B40; dsimp only; omega) h.d (by unfold B40; decide) n
  rw [← Nat.pow_mul] at this
  have e : 2 ^ (30 * n) < 2 ^ (30 * n + 1) := Nat.pow_lt_pow_right (by decide) (by omega)
  exact ⟨Nat.lt_of_le_of_lt this.p e, Nat.lt_of_le_of_lt this.q e, Nat.lt_of_le_of_lt this.r e, Nat.lt_of_le_of_lt this.s e⟩
theorem many_le {r : Int} (h : r ≤ 35) : WM.many r ≤ 2556 := by
  unfold WM.many
  have : r.toNat ≤ 35 := by omega
  exact Nat.mul_le_mul (show 2 * r.toNat + 1 ≤ 71 by omega) (show r.toNat + 1 ≤ 36 by omega)
theorem IPre.itB {r : Int} {f : Fm} (h : IPre (r, f)) {n : Nat} (hn : n ≤ 2556) : MB big (WM.itM r n f) := (h.itM n).le (by rw [big_val]; omega)
theorem add_lt {a b : Int} {n : Nat} (ha : a.natAbs < 2 ^ n) (hb : b.natAbs < 2 ^ n) : (a + b).natAbs < 2 ^ (n + 1) := by
  rw [Nat.pow_succ]
  have := Int.natAbs_add_le a b
  omega
theorem MB.mul {a b : Nat} {m n : Mt} (h : MB a m) (k : MB b n) : MB (a + b + 1) (WM.mul m n) :=
  ⟨add_lt (wide_lt h.p k.p) (wide_lt h.q k.r), add_lt (wide_lt h.p k.q) (wide_lt h.q k.s), add_lt (wide_lt h.r k.p) (wide_lt h.s k.r), add_lt (wide_lt h.r k.q) (wide_lt h.s k.s)⟩
theorem MB.inv {a : Nat} {m : Mt} (h : MB a m) : MB a (WM.inv m) := by
  have := h.p
  have := h.q
  have := h.r
  have := h.s
  exact ⟨h.s, by show (-m.q).natAbs < _; omega, by show (-m.r).natAbs < _; omega, h.p⟩
theorem dpLast {K : PySem.W.Frag} {H : Hp} {d : PyData} : ∀ {ds : List PyData} {vs : List V}, DpAll K H vs (ds ++ [d]) → ∃ ws v, vs = ws ++ [v] ∧ Dp K H v d
  | [], _, h => by
    obtain _ | ⟨h1, _ | _⟩ := h
    exact ⟨[], _, rfl, h1⟩
  | _ :: ds, _, h => by
    obtain _ | ⟨h1, h2⟩ := h
    obtain ⟨ws, v, e, hd⟩ := dpLast h2
    subst e
    exact ⟨_ :: ws, v, rfl, hd⟩
section
variable {X : Cx} {σ : L2.St} {H H0 H' : Hp} {a b c e : Expr} {es : List Expr} {pos : Pos} {d d' : PyData} {P : V → Hp → Prop} {D : Ends} {rest : List Stmt} {ds ds' : List PyData}
theorem c_ixLast {α : Type} {post : α → Prop} {ds : α → List PyData} {g : α → PyData} (ha : CR X a σ H fun v H2 => ∃ y, post y ∧ Dp X.K H2 v (.list (ds y))) (hb : CD X b σ H (.int (-1))) (hl : ∀ y, post y → ∃ i, ds y = i ++ [g y]) (hs : PlainIx b) :
    CR X (.Subscript a b pos) σ H fun v H2 => ∃ y, post y ∧ Dp X.K H2 v (g y) :=
  of_pe (pe_ix ix_list pw pw hs) fun H1 e1 Q q => ha H1 e1 _ fun v H2 e2 hv => by
    obtain ⟨y, hy, hd⟩ := hv
    obtain ⟨i, hi⟩ := hl y hy
    rw [hi] at hd
    refine hb H2 (e1.trans e2) _ fun u H3 e3 hu => ?_
    have hd := hd.up e3
    obtain _ | _ | _ | _ | ⟨hs3, hall3⟩ | _ := hd
    obtain ⟨ws, v0, rfl, k2⟩ := dpLast hall3
    exact ⟨_, _, (-1 : Int), v0, rfl, hu.int_eq, hs3, atI_last _ _, q v0 H3 (e2.trans e3) ⟨y, hy, k2⟩⟩
end
section
variable {P : Program} {w : World} {K : PySem.W.Frag} {mg : Str → Option Value} {base : Heap}
variable {X : Cx} {σ : L2.St} {H : Hp} {e : Expr} {es : List Expr}
theorem sc_is_reduced_indefinite : FnScope ["form", "a", "b", "_", "root"] ["form"] (defScope sIsReducedIndefinite) := ⟨rfl, rfl, rfl, by decide +kernel, rfl, by decide +kernel, by decide +kernel⟩
theorem ok_is_reduced_indefinite (T : Tx K mg) : Ok P w K mg base "is_reduced_indefinite" ["form"] 2 (SpF K (fun x : Int × Fm => [fD x.2]) IPre (fun x => .bool (decide (WM.RedI x.1 x.2)))) := by
  refine ok_of T.fIsReducedIndefinite sc_is_reduced_indefinite (fun _ _ _ _ _ _ us hl => match us, hl with | [_], _ => rfl) (spF_len fun _ => rfl) fun f cdv A outer s H0 E vs H Q hr h => ?_
  obtain ⟨⟨r, f⟩, hv, hI, k⟩ := h
  dsimp only at hv k
  obtain _ | ⟨h1, _ | _⟩ := hv
  have fb := hI.fb
  have dp := hI.pos
  refine r_unp3 1 2 3 rfl sc_is_reduced_indefinite.nd (c_var 0 rfl (by assumption)) fun u v w H1 e1 hu hv hw => ?_
  cases hu; cases hv; cases hw
  have h1 := h1.up e1
  refine r_asgI 4 (n := r) sc_is_reduced_indefinite.nd (CD.to (cc_floor_root T hr (ca_cons (cc_discriminant T hr (ca_cons (c_var 0 rfl (by assumption)) ca_nil)) ca_nil)) (by rw [hI.root])) ?_
  have : Bt 29 f.a := ⟨(fb_of hI.d (Int.le_refl _)).a⟩
  refine r_ret (v_and (v_chain op_lt op_le rfl rfl c_int (c_var 2 rfl (.int _)) (c_var 4 rfl (.int _))) fun hb => (v_one (v_chain op_lt op_le rfl rfl (c_sub (c_var 4 rfl (.int _)) (c_var 2 rfl (.int _))) (c_mul c_int (c_abs (c_var 1 rfl (.int _)) T.bAbs) (by exact cmw)) (c_add (c_var 4 rfl (.int _)) (c_var 2 rfl (.int _)))))) fun v H2 e2 hv => k v H2 (e1.trans e2) ?_
  have e : decide (WM.RedI r f) = ((decide (0 < f.b) && decide (f.b ≤ r)) && (decide (r - f.b < 2 * WM.ab f.a) && decide (2 * WM.ab f.a ≤ r + f.b))) := by
    rw [← Bool.decide_and, ← Bool.decide_and, ← Bool.decide_and]
    exact decide_eq_decide.mpr ⟨fun h => ⟨⟨h.1, h.2.1⟩, h.2.2.1, h.2.2.2⟩, fun h => ⟨h.1.1, h.1.2, h.2.1, h.2.2⟩⟩
  rw [e]; exact hv
theorem cc_is_reduced_indefinite {k : Nat} {r : Int} {f : Fm} {p pos : Pos} (T : Tx X.K X.mg) (hr : Room k X.A) (ha : CDA X (e :: es) σ H [fD f]) (h0 : IPre (r, f) := by assumption) (hk : 2 ≤ k := by decide) (hg : Gl X "is_reduced_indefinite" := by rfl) (he : starEach (e :: es) X.env = (false, eval e X.env) :: starEach es X.env := by rfl) (hpl : (backTo pos (starEach es X.env)).any (·.1) = false := by rfl) : CD X (.Call (.Name "is_reduced_indefinite" p) (e :: es) [] pos) σ H (.bool (decide (WM.RedI r f))) :=
  c_callF (r, f) (ok_is_reduced_indefinite T) (hr.mono hk) ha h0 hg (by decide) he hpl
theorem sc_step_of : FnScope ["form", "_", "b", "c", "root", "top", "middle"] ["form"] (defScope sStepOf) := ⟨rfl, rfl, rfl, by decide +kernel, rfl, by decide +kernel, by decide +kernel⟩
theorem ok_step_of (T : Tx K mg) : Ok P w K mg base "step_of" ["form"] 2 (SpF K (fun x : Int × Fm => [fD x.2]) IPre (fun x => mD (WM.stM x.1 x.2))) := by
  refine ok_of T.fStepOf sc_step_of (fun _ _ _ _ _ _ us hl => match us, hl with | [_], _ => rfl) (spF_len fun _ => rfl) fun f cdv A outer s H0 E vs H Q hr h => ?_
  obtain ⟨⟨r, f⟩, hv, hI, k⟩ := h
  dsimp only at hv k
  obtain _ | ⟨h1, _ | _⟩ := hv
  rename_i vf
  have fb := hI.fb
  have dp := hI.pos
  refine r_unp3 1 2 3 rfl sc_step_of.nd (c_var 0 rfl (by assumption)) fun u v w H1 e1 hu hv hw => ?_
  cases hu; cases hv; cases hw
  have h1 := h1.up e1
  refine r_asgI 4 (n := r) sc_step_of.nd (CD.to (cc_floor_root T hr (ca_cons (cc_discriminant T hr (ca_cons (c_var 0 rfl (by assumption)) ca_nil)) ca_nil)) (by rw [hI.root])) ?_
  have : Bt 29 f.c := ⟨(fb_of hI.d (Int.le_refl _)).c⟩
  have c0 := WM.ab_pos hI.i.c0
  have cb := hI.d.c
  dsimp only at c0 cb
  have ec : (if f.c < 0 then -f.c else f.c) = WM.ab f.c := rfl
  have : Bt 29 (WM.ab f.c) := ⟨by have := (fb_of hI.d (Int.le_refl _)).c; unfold WM.ab; dsimp only at this; omega⟩
  refine r_ifM (fun σ' H' => σ' = [some vf, some (.int f.a), some (.int f.b), some (.int f.c), some (.int r), some (.int (WM.topI r f.c)), none] ∧ Ex H1 H') (t_gt (c_abs (c_var 3 rfl (.int _)) T.bAbs) (c_var 4 rfl (.int _))) (fun hb => ?_) (fun hb => ?_) fun σ' H' hM => ?_
  · have hb : r < WM.ab f.c := of_decide_eq_true hb
    have e : WM.topI r f.c = WM.ab f.c := WM.top_big hb
    rw [e]
    exact r_asgI 5 sc_step_of.nd (c_abs (c_var 3 rfl (.int _)) T.bAbs) (r_nil fun H2 e2 => ⟨rfl, e2⟩)
  · have hb : ¬ r < WM.ab f.c := of_decide_eq_false hb
    have e : WM.topI r f.c = r := WM.top_small (by omega)
    rw [e]
    exact r_asgI 5 sc_step_of.nd (c_var 4 rfl (.int _)) (r_nil fun H2 e2 => ⟨rfl, e2⟩)
  · obtain ⟨rfl, e2⟩ := hM
    have pos2 : (0 : Int) < 2 * (if f.c < 0 then -f.c else f.c) := by rw [ec]; omega
    have dv : CDivN (f.b + WM.midI r f.b f.c) (2 * f.c) := ⟨by unfold WM.ab at c0; omega, by unfold B40 WM.ab at *; omega⟩
    refine r_asgI 6 (n := WM.midI r f.b f.c) sc_step_of.nd (c_sub (c_var 5 rfl (.int _)) (c_mod (c_add (c_var 5 rfl (.int _)) (c_var 2 rfl (.int _))) (c_mul c_int (c_abs (c_var 3 rfl (.int _)) T.bAbs) (by exact cmw)) (pos2))) ?_
    exact r_ret (CD.to (d' := mD (WM.stM r f)) (c_tup (ca_cons c_int (ca_cons (c_neg c_int) (ca_cons c_int (ca_cons (c_fdiv (c_add (c_var 2 rfl (.int _)) (c_var 6 rfl (.int _))) (c_mul c_int (c_var 3 rfl (.int _)) (by exact cmw)) (dv)) ca_nil))))) rfl) fun v H3 e3 hv => k v H3 ((e1.trans e2).trans e3) hv
theorem cc_step_of {k : Nat} {r : Int} {f : Fm} {p pos : Pos} (T : Tx X.K X.mg) (hr : Room k X.A) (ha : CDA X (e :: es) σ H [fD f]) (h0 : IPre (r, f) := by assumption) (hk : 2 ≤ k := by decide) (hg : Gl X "step_of" := by rfl) (he : starEach (e :: es) X.env = (false, eval e X.env) :: starEach es X.env := by rfl) (hpl : (backTo pos (starEach es X.env)).any (·.1) = false := by rfl) : CD X (.Call (.Name "step_of" p) (e :: es) [] pos) σ H (mD (WM.stM r f)) :=
  c_callF (r, f) (ok_step_of T) (hr.mono hk) ha h0 hg (by decide) he hpl
structure RiPost (x : Int × Fm) (z : Fm × Mt) : Prop where
  x : ∃ n, n ≤ 16 ∧ z = (WM.it x.1 n x.2, WM.itM x.1 n x.2) ∧ WM.RedI x.1 (WM.it x.1 n x.2) ∧ ∀ j, j < n → ¬ WM.RedI x.1 (WM.it x.1 j x.2)
theorem sc_reduce_indefinite : FnScope ["form", "m", "step"] ["form"] (defScope sReduceIndefinite) := ⟨rfl, rfl, rfl, by decide +kernel, rfl, by decide +kernel, by decide +kernel⟩
theorem ok_reduce_indefinite (T : Tx K mg) : Ok P w K mg base "reduce_indefinite" ["form"] 3 (SpR K (fun x : Int × Fm => [fD x.2]) IPre RiPost fmD) := by
  refine ok_of T.fReduceIndefinite sc_reduce_indefinite (fun _ _ _ _ _ _ us hl => match us, hl with | [_], _ => rfl) (spR_len fun _ => rfl) fun f cdv A outer s H0 E vs H Q hr h => ?_
  obtain ⟨⟨r, f⟩, hv, hI, k⟩ := h
  dsimp only at hv k
  obtain _ | ⟨h1, _ | _⟩ := hv
  rename_i vf
  obtain ⟨N0, hN0, hr0⟩ := WM.reach 14 f hI.i (by
    have := hI.d.c
    have := hI.i.r1
    unfold B40 at *
    dsimp only at *
    omega)
  obtain ⟨N, hN, hrN, hmin⟩ := WM.first_red hr0
  refine r_asg 1 sc_reduce_indefinite.nd (c_glob_UNIT T) fun v H1 e1 hm => ?_
  refine r_while nox_own (fun n σ' H' => ∃ i vf vm p, i ≤ N ∧ σ' = [some vf, some vm, p] ∧ Dp K H' vf (fD (WM.it r i f)) ∧ Dp K H' vm (mD (WM.itM r i f)) ∧ n = N - i ∧ Ex H H') N
    (fun H2 e2 => ⟨0, vf, v, none, Nat.zero_le _, rfl, (h1.up e1).up e2, hm.up e2, rfl, e1.trans e2⟩) fun n σ' H' hP => ?_
  obtain ⟨i, vf, vm, p, hi, rfl, hf, hm, rfl, ex⟩ := hP
  have hJ := hI.it i
  have fb := hJ.fb
  have mb := hI.itB (n := i) (by omega)
  have sb := hJ.stM.le (show 31 ≤ big by decide)
  refine ⟨_, t_not (t_val (cc_is_reduced_indefinite T hr (ca_cons (c_var 0 rfl (by assumption)) ca_nil))), fun hz => ?_, fun hz => ?_⟩
  · have hn : ¬ WM.RedI r (WM.it r i f) := fun q => by rw [decide_eq_true q] at hz; cases hz
    have hlt : i < N := by
      rcases Nat.lt_or_ge i N with q | q
      · exact q
      · have : i = N := by omega
        subst this; exact absurd hrN hn
    refine r_asg 2 sc_reduce_indefinite.nd (cc_step_of T hr (ca_cons (c_var 0 rfl (by assumption)) ca_nil)) fun vs H1 e1 hs => ?_
    have hf := hf.up e1
    have hm := hm.up e1
    refine r_asg 0 sc_reduce_indefinite.nd (cc_act T hr (ca_cons (c_var 0 rfl (by assumption)) (ca_cons (c_var 2 rfl (by assumption)) ca_nil))) fun v1 H3 e3 hf3 => ?_
    have hm := hm.up e3
    have hs := hs.up e3
    refine r_asg 1 sc_reduce_indefinite.nd (cc_multiply T hr (ca_cons (c_var 1 rfl (by assumption)) (ca_cons (c_var 2 rfl (by assumption)) ca_nil))) fun v2 H4 e4 hm4 => r_nil fun H5 e5 => ?_
    exact ⟨_, (by omega : N - (i + 1) < N - i), i + 1, _, _, _, hlt, rfl, (hf3.up e4).up e5, hm4.up e5, rfl, (((ex.trans e1).trans e3).trans e4).trans e5⟩
  · have hn : WM.RedI r (WM.it r i f) := of_decide_eq_true (by rw [Bool.not_eq_false'] at hz; exact hz)
    exact r_ret (c_tup (ca_cons (c_var 0 rfl (by assumption)) (ca_cons (c_var 1 rfl (by assumption)) ca_nil))) fun v H1 e1 hv => k (WM.it r i f, WM.itM r i f) v H1 ⟨i, by omega, rfl, hn, fun j hj => hmin j (by omega)⟩ (ex.trans e1) hv
def cyc (r : Int) (f : Fm) (N : Nat) : List (Fm × Mt) := (List.range N).map fun j => (WM.it r j f, WM.itM r j f)
structure CyPre (x : Int × Fm) : Prop where
  i : IPre x
  r : WM.RedI x.1 x.2
structure CyPost (x : Int × Fm) (zs : List (Fm × Mt)) : Prop where
  x : ∃ N, 1 ≤ N ∧ N ≤ 2556 ∧ zs = cyc x.1 x.2 N ∧ WM.it x.1 N x.2 = x.2 ∧ ∀ k, 1 ≤ k → k < N → WM.it x.1 k x.2 ≠ x.2
theorem cyc_succ (r : Int) (f : Fm) (N : Nat) : cyc r f (N + 1) = cyc r f N ++ [(WM.it r N f, WM.itM r N f)] := by
  unfold cyc; rw [List.range_succ, List.map_append]; rfl
theorem cyc_len (r : Int) (f : Fm) (N : Nat) : (cyc r f N).length = N := by unfold cyc; rw [List.length_map, List.length_range]
theorem fm_lfree (zs : List (Fm × Mt)) : lfreeAll (zs.map fmD) = true := lfreeAll_map (fun _ => rfl) zs
theorem sc_cycle : FnScope ["form", "found", "m", "neighbour", "step"] ["form"] (defScope sCycle) := ⟨rfl, rfl, rfl, by decide +kernel, rfl, by decide +kernel, by decide +kernel⟩
theorem ok_cycle (T : Tx K mg) : Ok P w K mg base "cycle" ["form"] 3 (SpR K (fun x : Int × Fm => [fD x.2]) CyPre CyPost (fun zs : List (Fm × Mt) => .list (zs.map fmD))) := by
  refine ok_of T.fCycle sc_cycle (fun _ _ _ _ _ _ us hl => match us, hl with | [_], _ => rfl) (spR_len fun _ => rfl) fun f cdv A outer s H0 E vs H Q hr h => ?_
  obtain ⟨⟨r, f⟩, hv, ⟨hI, hR⟩, k⟩ := h
  dsimp only at hv k hR
  obtain _ | ⟨h1, _ | _⟩ := hv
  rename_i vf
  obtain ⟨N, hN1, hN2, hb, hmin⟩ := WM.first_back hI.i hR
  have hN3 : N ≤ 2556 := Nat.le_trans hN2 (many_le hI.r)
  have sb0 := hI.stM.le (show 31 ≤ big by decide)
  have fb0 := hI.fb
  have S0 : ∀ i, MB big (WM.stM r (WM.it r i f)) := fun i => (hI.it i).stM.le (by decide)
  refine r_asg 1 sc_cycle.nd (c_lstN (ds := (cyc r f 1).map fmD) (ca_cons (c_tup (ca_cons (c_var 0 rfl (by assumption)) (ca_cons (c_glob_UNIT T) ca_nil))) ca_nil) (by rw [List.length_map, cyc_len]; decide)) fun v H1 e1 hl => ?_
  obtain ⟨p, rfl, ho⟩ := hl
  have h1 := h1.up e1
  refine r_asg 2 sc_cycle.nd (cc_step_of T hr (ca_cons (c_var 0 rfl (by assumption)) ca_nil)) fun vm H2 e2 hm => ?_
  have h1 := h1.up e2
  have ho := ho.up e2
  refine r_asg 3 sc_cycle.nd (cc_act T hr (ca_cons (c_var 0 rfl (by assumption)) (ca_cons (c_var 2 rfl (by assumption)) ca_nil))) fun vn H3 e3 hn => ?_
  have h1 := h1.up e3
  have ho := ho.up e3
  have hm := hm.up e3
  have em : WM.itM r 1 f = WM.stM r f := WM.one_mul _
  refine r_while nox_own (fun n σ' H' => ∃ i vm vn q, 1 ≤ i ∧ i ≤ N ∧ σ' = [some vf, some (.ref p), some vm, some vn, q] ∧ Dp K H' vf (fD f) ∧ Dp K H' vm (mD (WM.itM r i f)) ∧ Dp K H' vn (fD (WM.it r i f)) ∧ Own K H p ((cyc r f i).map fmD) H' ∧ n = N - i) (N - 1)
    (fun H4 e4 => ⟨1, vm, vn, none, Nat.le_refl _, hN1, rfl, h1.up e4, by rw [em]; exact hm.up e4, hn.up e4, ho.up e4, rfl⟩) fun n σ' H' hP => ?_
  obtain ⟨i, vm, vn, q, hi1, hi, rfl, hf, hm, hn, ho, rfl⟩ := hP
  have hJ := hI.it i
  have fbi := hJ.fb
  have mbi := hI.itB (n := i) (by omega)
  have sbi := hJ.stM.le (show 31 ≤ big by decide)
  refine ⟨_, (t_neD (hu64 hr) (c_var 3 rfl (by assumption)) (c_var 0 rfl (by assumption)) rfl rfl), fun hz => ?_, fun hz => ?_⟩
  · rw [eqv_f] at hz
    have hne : WM.it r i f ≠ f := fun q => by rw [decide_eq_true q] at hz; cases hz
    have hlt : i < N := by
      rcases Nat.lt_or_ge i N with q | q
      · exact q
      · have : i = N := by omega
        subst this; exact absurd hb hne
    refine r_appO (d := fmD (WM.it r i f, WM.itM r i f)) 1 rfl ho (by rw [List.length_map, cyc_len]; omega) (c_tup (ca_cons (c_var 3 rfl (by assumption)) (ca_cons (c_var 2 rfl (by assumption)) ca_nil))) (fm_lfree _) rfl fun H4 et ho => ?_
    have hf := dpt et _ _ rfl hf
    have hm := dpt et _ _ rfl hm
    have hn := dpt et _ _ rfl hn
    rw [show (cyc r f i).map fmD ++ [fmD (WM.it r i f, WM.itM r i f)] = (cyc r f (i + 1)).map fmD by rw [cyc_succ, List.map_append]; rfl] at ho
    refine r_asg 4 sc_cycle.nd (cc_step_of T hr (ca_cons (c_var 3 rfl (by assumption)) ca_nil)) fun vs H5 e5 hs => ?_
    have hf := hf.up e5
    have hm := hm.up e5
    have hn := hn.up e5
    have ho := ho.up e5
    refine r_asg 3 sc_cycle.nd (cc_act T hr (ca_cons (c_var 3 rfl (by assumption)) (ca_cons (c_var 4 rfl (by assumption)) ca_nil))) fun v1 H6 e6 hn2 => ?_
    have hf := hf.up e6
    have hm := hm.up e6
    have hs := hs.up e6
    have ho := ho.up e6
    refine r_asg 2 sc_cycle.nd (cc_multiply T hr (ca_cons (c_var 2 rfl (by assumption)) (ca_cons (c_var 4 rfl (by assumption)) ca_nil))) fun v2 H7 e7 hm2 => r_nil fun H8 e8 => ?_
    exact ⟨_, (by omega : N - (i + 1) < N - i), i + 1, _, _, _, by omega, hlt, rfl, (hf.up e7).up e8, hm2.up e8, (hn2.up e7).up e8, (ho.up e7).up e8, rfl⟩
  · rw [eqv_f, Bool.not_eq_false', decide_eq_true_eq] at hz
    have e : i = N := by
      rcases Nat.lt_or_ge i N with q | q
      · exact absurd hz (hmin i hi1 q)
      · omega
    subst e
    exact r_ret (CR.dp (c_varL 1 rfl ho.is)) fun v H1 e1 hv => k _ v H1 ⟨i, hN1, hN3, rfl, hb, hmin⟩ (ho.ex.trans e1) hv
end
end WC
namespace WC
open PySem PySem.Spec PyProof.Rows L2
open Evl (Ex)
open WM (Fm Mt)
structure ArOk (r : Int) (f : Fm) (N : Nat) : Prop where
  n1 : 1 ≤ N
  n2 : N ≤ 2556
  b : WM.it r N f = f
  m : ∀ k, 1 ≤ k → k < N → WM.it r k f ≠ f
structure ArPost (x : Int × Fm) (m : Mt) : Prop where
  x : ∃ N, ArOk x.1 x.2 N ∧ m = WM.itM x.1 N x.2
structure CanPost (x : Int × Fm) (z : Fm × Mt) : Prop where
  d : WM.det z.2 = 1
  e : WM.act x.2 z.2 = z.1
  c : WM.IsCan x.1 x.2 z.1
  m : MB 78000 z.2
  f : FB 29 z.1
structure LuPre (d : Int) : Prop where
  p : 0 < d
  l : d ≤ 136
  n : WM.rt d * WM.rt d < d
  m : d % 4 = 0 ∨ d % 4 = 1
theorem disc_f0 {d : Int} (h : LuPre d) : WM.disc (WM.f0 d) = d := by
  unfold WM.disc WM.f0
  dsimp only
  rcases h.m with h | h
  · have e : d % 2 = 0 := by omega
    rw [e]; omega
  · have e : d % 2 = 1 := by omega
    rw [e]; omega
theorem LuPre.ipre {d : Int} (h : LuPre d) : IPre (WM.rt d, WM.f0 d) := by
  have hp := h.p
  have hl := h.l
  obtain ⟨h1, h2, h3⟩ := WM.rt_ok (Int.le_of_lt hp) hl
  have r1 : 1 ≤ WM.rt d := by
    rcases Int.lt_or_le (WM.rt d) 1 with q | q
    · have : WM.rt d = 0 := by omega
      rw [this] at h2; omega
    · exact q
  refine ⟨⟨by show _ < WM.disc (WM.f0 d); rw [disc_f0 h]; exact h.n, by show WM.disc (WM.f0 d) < _; rw [disc_f0 h]; exact h2, r1⟩, ?_, ?_⟩
  · show WM.rt d ≤ 35
    rcases Int.lt_or_le 35 (WM.rt d) with q | q
    · have := Int.mul_le_mul (show 36 ≤ WM.rt d by omega) (show 36 ≤ WM.rt d by omega) (by omega) (by omega)
      omega
    · exact q
  · refine ⟨?_, ?_, ?_⟩
    · show WM.ab 1 ≤ B40; decide
    · show WM.ab (d % 2) ≤ B40; unfold WM.ab B40; omega
    · show WM.ab ((d % 2 - d) / 4) ≤ B40; unfold WM.ab B40; omega
theorem LuPre.lu {d : Int} (h : LuPre d) : WM.LuOk d (WM.lu d).1 (WM.lu d).2 := WM.lu_ok h.p h.l h.n h.m
abbrev luD (d : Int) : PyData := .tuple [.int (WM.lu d).1, .int (WM.lu d).2]
structure ScPre (f : Fm) : Prop where
  b : FB 29 f
  a : f.a ≠ 0
  d : LuPre (WM.disc (WM.divd f (WM.cont f)))
abbrev genM (f : Fm) : Mt := WM.scM (WM.divd f (WM.cont f)) (WM.lu (WM.disc (WM.divd f (WM.cont f)))).1 (WM.lu (WM.disc (WM.divd f (WM.cont f)))).2
theorem cont_bd {f : Fm} {k : Nat} (h : FB k f) (ha : f.a ≠ 0) : WM.cont f ≠ 0 ∧ (WM.cont f).natAbs < 2 ^ k := by
  have h0 : f ≠ WM.zero := fun e => ha (by rw [e]; rfl)
  have h1 := WM.cont_pos h0
  refine ⟨by omega, ?_⟩
  have h2 := (WM.cont_dvd f).1
  have h3 := Int.natAbs_dvd_natAbs.mpr h2
  have := Nat.le_of_dvd (by omega) h3
  have := h.a
  omega
section
variable {P : Program} {w : World} {K : PySem.W.Frag} {mg : Str → Option Value} {base : Heap}
variable {X : Cx} {σ : L2.St} {H : Hp} {e : Expr} {es : List Expr}
theorem sc_around : FnScope ["form", "last", "m"] ["form"] (defScope sAround) := ⟨rfl, rfl, rfl, by decide +kernel, rfl, by decide +kernel, by decide +kernel⟩
theorem ok_around (T : Tx K mg) : Ok P w K mg base "around" ["form"] 4 (SpR K (fun x : Int × Fm => [fD x.2]) CyPre ArPost mD) := by
  refine ok_of T.fAround sc_around (fun _ _ _ _ _ _ us hl => match us, hl with | [_], _ => rfl) (spR_len fun _ => rfl) fun f cdv A outer s H0 E vs H Q hr h => ?_
  obtain ⟨⟨r, f⟩, hv, hC, k⟩ := h
  dsimp only at hv k
  obtain _ | ⟨h1, _ | _⟩ := hv
  have hI := hC.i
  refine r_unp2R (post := ArOk r f) (f1 := fun N => fD (WM.it r (N - 1) f)) (f2 := fun N => mD (WM.itM r (N - 1) f)) 1 2 rfl sc_around.nd (c_ixLast (ds := fun N => (cyc r f N).map fmD) (CR.imp (c_callRel (r, f) (ok_cycle T) (hr.mono (by decide)) (ca_cons (c_var 0 rfl (by assumption)) ca_nil) hC) fun v H1 _ hv => ?_) (c_neg c_int) (fun N hN => ?_) (fun _ _ => rfl)) fun N v w H1 e1 hN hv hw => ?_
  · obtain ⟨zs, ⟨N, n1, n2, rfl, n4, n5⟩, hd⟩ := hv
    exact ⟨N, ⟨n1, n2, n4, n5⟩, hd⟩
  · have := hN.n1
    obtain ⟨M, rfl⟩ : ∃ M, N = M + 1 := ⟨N - 1, by omega⟩
    exact ⟨(cyc r f M).map fmD, by rw [cyc_succ, List.map_append]; rfl⟩
  · have n1 := hN.n1
    have n2 := hN.n2
    obtain ⟨M, rfl⟩ : ∃ M, N = M + 1 := ⟨N - 1, by omega⟩
    dsimp only [Nat.add_sub_cancel] at hv hw
    have hJ := hI.it M
    have mb := hI.itB (n := M) (by omega)
    have sb := hJ.stM.le (show 31 ≤ big by decide)
    exact r_ret (cc_multiply T hr (ca_cons (c_var 2 rfl (by assumption)) (ca_cons (cc_step_of T hr (ca_cons (c_var 1 rfl (by assumption)) ca_nil)) ca_nil))) fun v H2 e2 hv => k (WM.itM r (M + 1) f) v H2 ⟨M + 1, hN, rfl⟩ (e1.trans e2) hv
theorem sc_canonical : FnScope ["form", "reduced", "m", "least", "step"] ["form"] (defScope sCanonical) := ⟨rfl, rfl, rfl, by decide +kernel, rfl, by decide +kernel, by decide +kernel⟩
theorem ok_canonical (T : Tx K mg) : Ok P w K mg base "canonical" ["form"] 4 (SpR K (fun x : Int × Fm => [fD x.2]) IPre CanPost fmD) := by
  refine ok_of T.fCanonical sc_canonical (fun _ _ _ _ _ _ us hl => match us, hl with | [_], _ => rfl) (spR_len fun _ => rfl) fun f cdv A outer s H0 E vs H Q hr h => ?_
  obtain ⟨⟨r, f⟩, hv, hI, k⟩ := h
  dsimp only at hv k
  obtain _ | ⟨h1, _ | _⟩ := hv
  refine r_unp2R 1 2 rfl sc_canonical.nd (CR.imp (c_callRel (r, f) (ok_reduce_indefinite T) (hr.mono (by decide)) (ca_cons (c_var 0 rfl (by assumption)) ca_nil) hI) fun v H1 _ hv => hv) fun z vg vm H1 e1 hz hg hm => ?_
  obtain ⟨n, hn, rfl, hR, hmin⟩ := hz
  dsimp only at hg hm hR
  have hJ := hI.it n
  refine r_unp2R 3 4 rfl sc_canonical.nd (c_minF (zs := fun y => y) rfl (hu64 hr) (c_callRel (r, WM.it r n f) (ok_cycle T) (hr.mono (by decide)) (ca_cons (c_var 1 rfl (by assumption)) ca_nil) ⟨hJ, hR⟩) (fun y hy => ?_) T.bMin) fun z vl vs H2 e2 hz hl hs => ?_
  · obtain ⟨N, n1, n2, rfl, _⟩ := hy
    intro e
    have := cyc_len r (WM.it r n f) N
    dsimp only at e
    rw [e] at this
    rw [List.length_nil] at this; omega
  · obtain ⟨y, ⟨N, n1, n2, rfl, n4, n5⟩, hmem, hleast⟩ := hz
    dsimp only at hmem hleast n4 n5
    obtain ⟨i, hi, rfl⟩ := List.mem_map.mp hmem
    rw [List.mem_range] at hi
    dsimp only at hl hs hleast
    have hm := hm.up e2
    have mb := hI.itB (n := n) (by omega)
    have sb := hJ.itB (n := i) (by omega)
    have d1 := WM.itM_ok r f n
    have d2 := WM.itM_ok r (WM.it r n f) i
    refine r_ret (c_tup (ca_cons (c_var 3 rfl (by assumption)) (ca_cons (cc_multiply T hr (ca_cons (c_var 2 rfl (by assumption)) (ca_cons (c_var 4 rfl (by assumption)) ca_nil))) ca_nil))) fun v H3 e3 hv => k (WM.it r i (WM.it r n f), WM.mul (WM.itM r n f) (WM.itM r i (WM.it r n f))) v H3 ⟨?_, ?_, ?_, ?_, ?_⟩ ((e1.trans e2).trans e3) hv
    · show WM.det (WM.mul _ _) = 1
      rw [WM.det_mul, d1.1, d2.1]; rfl
    · show WM.act f (WM.mul _ _) = _
      rw [WM.act_mul, d1.2, d2.2]
    · refine WM.can_of hI.i hR n1 n4 fun j hj => ?_
      exact hleast (WM.it r j (WM.it r n f), WM.itM r j (WM.it r n f)) (List.mem_map.mpr ⟨j, List.mem_range.mpr hj, rfl⟩)
    · exact (MB.mul (hI.itM n) (hJ.itM i)).le (by omega)
    · exact fb_of (hJ.it i).d (Int.le_refl _)
theorem sc_least_unit : FnScope ["d", "middle", "reduced", "_", "m"] ["d"] (defScope sLeastUnit) := ⟨rfl, rfl, rfl, by decide +kernel, rfl, by decide +kernel, by decide +kernel⟩
theorem ok_least_unit (T : Tx K mg) : Ok P w K mg base "least_unit" ["d"] 5 (SpF K (fun d : Int => [.int d]) LuPre luD) := by
  refine ok_of T.fLeastUnit sc_least_unit (fun _ _ _ _ _ _ us hl => match us, hl with | [_], _ => rfl) (spF_len fun _ => rfl) fun f cdv A outer s H0 E vs H Q hr h => ?_
  obtain ⟨d, hv, hL, k⟩ := h
  dsimp only at hv k
  obtain _ | ⟨h1, _ | _⟩ := hv
  cases h1
  have hI := hL.ipre
  refine r_asgI 1 sc_least_unit.nd (c_mod (c_var 0 rfl (.int _)) c_int (by decide)) ?_
  refine r_unp2R 2 3 rfl sc_least_unit.nd (CR.imp (c_callRel (WM.rt d, WM.f0 d) (ok_reduce_indefinite T) (hr.mono (by decide)) (ca_cons (CD.to (d' := fD (WM.f0 d)) (c_tup (ca_cons c_int (ca_cons (c_var 1 rfl (.int _)) (ca_cons (c_fdiv (c_sub (c_var 1 rfl (.int _)) (c_var 0 rfl (.int _))) c_int ⟨by decide, by decide⟩) ca_nil)))) (by rw [Int.fdiv_eq_ediv_of_nonneg _ (by decide)]; rfl)) ca_nil) hI) fun v H1 _ hv => hv) fun z vg vm H1 e1 hz hg hm => ?_
  obtain ⟨n, hn, rfl, hR, hmin⟩ := hz
  dsimp only at hg hm hR hmin
  have hJ := hI.it n
  refine r_asg 4 sc_least_unit.nd (CR.imp (c_callRel (WM.rt d, WM.it (WM.rt d) n (WM.f0 d)) (ok_around T) (hr.mono (by decide)) (ca_cons (c_var 2 rfl (by assumption)) ca_nil) ⟨hJ, hR⟩) fun v H1 _ hv => hv) fun vm H2 e2 hv => ?_
  obtain ⟨m, ⟨N, ⟨n1, n2, n3, n4⟩, rfl⟩, hm⟩ := hv
  dsimp only at hm n3 n4
  have hg := hg.up e2
  have hlu := WM.lu_of (d := d) (k := n) (n := N) (by
    have := WM.luOk_of hL.p hL.l hL.n hL.m
    unfold WM.luOk at this
    rw [Bool.and_eq_true] at this
    exact this.1) hR hmin n1 n3 n4
  have a0 := hJ.i.a0
  have ab := (fb_of hJ.d (Int.le_refl _)).a
  dsimp only at a0 ab
  have dv : CDivN (WM.itM (WM.rt d) N (WM.it (WM.rt d) n (WM.f0 d))).r (WM.it (WM.rt d) n (WM.f0 d)).a := ⟨a0, by omega⟩
  refine r_ret (CD.to (d' := luD d) (c_tup (ca_cons (c_abs (c_add (c_ixT 0 (c_var 4 rfl (by assumption)) c_int rfl rfl (fun _ _ => rfl)) (c_ixT 3 (c_var 4 rfl (by assumption)) c_int rfl rfl (fun _ _ => rfl))) T.bAbs) (ca_cons (c_abs (c_fdiv (c_ixT 2 (c_var 4 rfl (by assumption)) c_int rfl rfl (fun _ _ => rfl)) (c_ixT 0 (c_var 2 rfl (by assumption)) c_int rfl rfl (fun _ _ => rfl)) (dv)) T.bAbs) ca_nil))) ?_) fun v H3 e3 hv => k v H3 ((e1.trans e2).trans e3) hv
  show _ = PyData.tuple [.int (WM.lu d).1, .int (WM.lu d).2]
  rw [hlu]; rfl
theorem cc_least_unit {k : Nat} {d : Int} {p pos : Pos} (T : Tx X.K X.mg) (hr : Room k X.A) (ha : CDA X (e :: es) σ H [.int d]) (h0 : LuPre d := by assumption) (hk : 5 ≤ k := by decide) (hg : Gl X "least_unit" := by rfl) (he : starEach (e :: es) X.env = (false, eval e X.env) :: starEach es X.env := by rfl) (hpl : (backTo pos (starEach es X.env)).any (·.1) = false := by rfl) : CD X (.Call (.Name "least_unit" p) (e :: es) [] pos) σ H (luD d) :=
  c_callF d (ok_least_unit T) (hr.mono hk) ha h0 hg (by decide) he hpl
theorem sc_self_change : FnScope ["form", "g", "a", "b", "c", "t", "u"] ["form"] (defScope sSelfChange) := ⟨rfl, rfl, rfl, by decide +kernel, rfl, by decide +kernel, by decide +kernel⟩
theorem ok_self_change (T : Tx K mg) : Ok P w K mg base "self_change" ["form"] 6 (SpF K (fun f : Fm => [fD f]) ScPre (fun f => mD (genM f))) := by
  refine ok_of T.fSelfChange sc_self_change (fun _ _ _ _ _ _ us hl => match us, hl with | [_], _ => rfl) (spF_len fun _ => rfl) fun f cdv A outer s H0 E vs H Q hr h => ?_
  obtain ⟨f, hv, hS, k⟩ := h
  dsimp only at hv k
  obtain _ | ⟨h1, _ | _⟩ := hv
  have hb := hS.b.le (show 29 ≤ 30 by decide)
  have cb := cont_bd hb hS.a
  have hL := hS.d
  have lb := hL.lu
  refine r_asgI 1 sc_self_change.nd (cc_content T hr (ca_cons (c_var 0 rfl (by assumption)) ca_nil)) ?_
  refine r_unp3 2 3 4 rfl sc_self_change.nd (cc_divided T hr (ca_cons (c_var 0 rfl (by assumption)) (ca_cons (c_var 1 rfl (.int _)) ca_nil))) fun u v w H1 e1 hu hv hw => ?_
  have hdb : FB 30 (WM.divd f (WM.cont f)) := by
    have q := hS.b
    have ba := WM.fdiv_ab (x := f.a) cb.1
    have bb := WM.fdiv_ab (x := f.b) cb.1
    have bc := WM.fdiv_ab (x := f.c) cb.1
    have qa := q.a
    have qb := q.b
    have qc := q.c
    refine ⟨?_, ?_, ?_⟩
    · show (f.a.fdiv (WM.cont f)).natAbs < _
      unfold WM.ab at *; omega
    · show (f.b.fdiv (WM.cont f)).natAbs < _
      unfold WM.ab at *; omega
    · show (f.c.fdiv (WM.cont f)).natAbs < _
      unfold WM.ab at *; omega
  unfold genM at k
  generalize WM.divd f (WM.cont f) = h at *
  cases hu; cases hv; cases hw
  have fb := hdb.le (show 30 ≤ big by decide)
  have : Bt 30 h.a := ⟨hdb.a⟩
  have : Bt 30 h.b := ⟨hdb.b⟩
  have : Bt 30 h.c := ⟨hdb.c⟩
  have : Bt 64 (WM.lu (WM.disc h)).1 := ⟨by have := lb.t64; have := lb.t3; omega⟩
  have : Bt 64 (WM.lu (WM.disc h)).2 := ⟨by have := lb.u64; have := lb.u1; omega⟩
  refine r_unp2 5 6 rfl sc_self_change.nd (cc_least_unit T hr (ca_cons (cc_discriminant T hr (ca_cons (c_tup (ca_cons (c_var 2 rfl (.int _)) (ca_cons (c_var 3 rfl (.int _)) (ca_cons (c_var 4 rfl (.int _)) ca_nil)))) ca_nil)) ca_nil)) fun v w H2 e2 hv hw => ?_
  cases hv; cases hw
  exact r_ret (CD.to (d' := mD (WM.scM h (WM.lu (WM.disc h)).1 (WM.lu (WM.disc h)).2)) (c_tup (ca_cons (c_fdiv (c_sub (c_var 5 rfl (.int _)) (c_mul (c_var 3 rfl (.int _)) (c_var 6 rfl (.int _)) (by exact cmw))) c_int ⟨by decide, by decide⟩) (ca_cons (c_mul (c_neg (c_var 4 rfl (.int _))) (c_var 6 rfl (.int _)) (by exact cmw)) (ca_cons (c_mul (c_var 2 rfl (.int _)) (c_var 6 rfl (.int _)) (by exact cmw)) (ca_cons (c_fdiv (c_add (c_var 5 rfl (.int _)) (c_mul (c_var 3 rfl (.int _)) (c_var 6 rfl (.int _)) (by exact cmw))) c_int ⟨by decide, by decide⟩) ca_nil))))) rfl) fun v H3 e3 hv => k v H3 ((e1.trans e2).trans e3) hv
theorem cc_self_change {k : Nat} {f : Fm} {p pos : Pos} (T : Tx X.K X.mg) (hr : Room k X.A) (ha : CDA X (e :: es) σ H [fD f]) (h0 : ScPre f := by assumption) (hk : 6 ≤ k := by decide) (hg : Gl X "self_change" := by rfl) (he : starEach (e :: es) X.env = (false, eval e X.env) :: starEach es X.env := by rfl) (hpl : (backTo pos (starEach es X.env)).any (·.1) = false := by rfl) : CD X (.Call (.Name "self_change" p) (e :: es) [] pos) σ H (mD (genM f)) :=
  c_callF f (ok_self_change T) (hr.mono hk) ha h0 hg (by decide) he hpl
end
end WC
namespace WC
open PySem PySem.Spec PyProof.Rows L2
open Evl (Ex)
open WM (Fm Mt)
section
variable {X : Cx} {σ : L2.St} {H H0 H' : Hp} {a b c e : Expr} {es : List Expr} {pos : Pos} {d d' : PyData} {P : V → Hp → Prop} {D : Ends} {rest body : List Stmt} {ds ds' : List PyData}
/-- for x in a list that an expression gives, told by what the states are -/
theorem r_forLD {α : Type} {post : α → Prop} {ds : α → List PyData} (j : Nat) {x : Str} {px : Pos} (hp : PassesOwn (model X.prog X.w) X.A X.env X.xe) (hc : X.calm = true) (hN : X.N.Nodup) (he : CR X e σ H fun v H2 => ∃ y, post y ∧ Dp X.K H2 v (.list (ds y)))
    (k : ∀ y xs H1, post y → Ex H H1 → DpAll X.K H1 xs (ds y) → ∃ Pv : Nat → L2.St → Prop, Pv 0 σ ∧ (∀ i v σ' H', xs[i]? = some v → Ex H1 H' → Pv i σ' → WS X body { D with nx := fun σ2 H2 => Pv (i + 1) σ2 ∧ Ex H1 H2, ct := fun σ2 H2 => Pv (i + 1) σ2 ∧ Ex H1 H2, bk := wS X rest D } (σ'.set j (some v)) H') ∧ (∀ σ' H', Ex H1 H' → Pv xs.length σ' → WS X rest D σ' H'))
    (hj : X.N[j]? = some x := by rfl) (hx : Loc X.env.scope x := by first | exact Or.inl rfl | exact Or.inr rfl) (hf : X.fn x = true ∨ X.env.scope.names.lookup x = some .local := by first | exact .inl rfl | exact .inr rfl) (hfs : ∀ y, foldedSetIterable e X.env y = pure y := by intro _; rfl) :
    WS X (.For (.Name x px) e body [] pos :: rest) D σ H :=
  ws_of (ps_for hp hc (pi_list pw) (pg_name hN hj hx hf) pws hfs) fun H1 e1 => he H1 e1 _ fun v H2 e2 hv => by
    obtain ⟨y, hy, hv⟩ := hv
    obtain _ | _ | _ | _ | ⟨hs, hall⟩ | _ := hv
    rename_i l xs
    obtain ⟨Pv, h0, turn, done⟩ := k y xs H2 hy (e1.trans e2) hall
    exact ⟨l, rfl, ⟨xs, hs⟩, for_list (fun i σ' H' => Pv i σ' ∧ Ex H2 H') ⟨h0, Ex.refl _⟩ (fun i σ' H' _ hP => Evl.ex_l hP.2 hs) (fun i v σ' H' hi hP => turn i v σ' H' hi hP.2 hP.1 H' (Ex.refl H')) fun σ' H' hP => done σ' H' hP.2 hP.1 H' (Ex.refl H')⟩
end
/-! ### split forms -/
structure PrimPre (x : Int × Int) : Prop where
  z : ¬ (x.1 = 0 ∧ x.2 = 0)
  a : x.1.natAbs < 2 ^ 30
  b : x.2.natAbs < 2 ^ 30
structure PrimPost (x z : Int × Int) : Prop where
  x : ∃ e, e ≠ 0 ∧ x.1 = e * z.1 ∧ x.2 = e * z.2
  c : WM.Cop z.1 z.2
  a : z.1.natAbs < 2 ^ 30
  b : z.2.natAbs < 2 ^ 30
abbrev ppD (z : Int × Int) : PyData := pD z.1 z.2
theorem gcdL_pair (x y : Int) : gcdL [x, y] = (Int.gcd x y : Int) := by
  unfold gcdL
  simp only [List.foldl_cons, List.foldl_nil, Int.gcd_zero_left]
  simp [Int.gcd]
theorem nat_le_mul {e x : Int} (he : e ≠ 0) : x.natAbs ≤ (e * x).natAbs := by
  rw [Int.natAbs_mul]
  exact Nat.le_mul_of_pos_left _ (by omega)
section
variable {P : Program} {w : World} {K : PySem.W.Frag} {mg : Str → Option Value} {base : Heap}
variable {X : Cx} {σ : L2.St} {H : Hp} {e : Expr} {es : List Expr}
theorem sc_primitive : FnScope ["x", "y", "g"] ["x", "y"] (defScope sPrimitive) := ⟨rfl, rfl, rfl, by decide +kernel, rfl, by decide +kernel, by decide +kernel⟩
theorem ok_primitive (T : Tx K mg) : Ok P w K mg base "primitive" ["x", "y"] 3 (SpR K (fun x : Int × Int => [.int x.1, .int x.2]) PrimPre PrimPost ppD) := by
  refine ok_of T.fPrimitive sc_primitive (fun _ _ _ _ _ _ us hl => match us, hl with | [_, _], _ => rfl) (spR_len fun _ => rfl) fun f cdv A outer s H0 E vs H Q hr h => ?_
  obtain ⟨⟨x, y⟩, hv, hP, k⟩ := h
  dsimp only at hv k
  obtain _ | ⟨h1, _ | ⟨h2, _ | _⟩⟩ := hv
  cases h1; cases h2
  have ha := hP.a
  have hb := hP.b
  obtain ⟨g0, ex, ey, hc⟩ := WM.prim_parts hP.z
  dsimp only at ha hb g0 ex ey hc
  refine r_asgI 2 (n := (Int.gcd x y : Int)) sc_primitive.nd (CD.to (c_callF [x, y] (ok_measure T) (hr.mono (by decide)) (ca_cons (CD.to (d := pD x y) (c_tup (ca_cons (c_var 0 rfl (.int _)) (ca_cons (c_var 1 rfl (.int _)) ca_nil))) rfl) ca_nil) (fun n hn => ?_)) (by rw [gcdL_pair])) ?_
  · simp only [List.mem_cons, List.not_mem_nil, or_false] at hn
    rcases hn with rfl | rfl
    · exact ha
    · exact hb
  have gb : (Int.gcd x y : Int).natAbs < 2 ^ 30 := by
    rcases Classical.em (x = 0) with q | q
    · have hy : y ≠ 0 := fun q2 => hP.z ⟨q, q2⟩
      have := Nat.le_of_dvd (by omega) (Int.natAbs_dvd_natAbs.mpr (Int.gcd_dvd_right x y))
      omega
    · have := Nat.le_of_dvd (by omega) (Int.natAbs_dvd_natAbs.mpr (Int.gcd_dvd_left x y))
      omega
  have dx : CDivN x (Int.gcd x y : Int) := ⟨g0, gb⟩
  have dy : CDivN y (Int.gcd x y : Int) := ⟨g0, gb⟩
  refine r_asgI 0 sc_primitive.nd (c_fdiv (c_var 0 rfl (.int _)) (c_var 2 rfl (.int _)) (dx)) ?_
  refine r_asgI 1 sc_primitive.nd (c_fdiv (c_var 1 rfl (.int _)) (c_var 2 rfl (.int _)) (dy)) ?_
  generalize (Int.gcd x y : Int) = g at *
  generalize x.fdiv g = X' at *
  generalize y.fdiv g = Y' at *
  have bx := nat_le_mul (x := X') g0
  have bY := nat_le_mul (x := Y') g0
  rw [← ex] at bx
  rw [← ey] at bY
  refine r_if0 (ct_w (t_or (t_lt (c_var 0 rfl (.int _)) c_int) fun hb => (t_or1 (ct_w (t_and (t_eqI (c_var 0 rfl (.int _)) c_int) fun hb => (t_and1 (t_lt (c_var 1 rfl (.int _)) c_int))))))) (fun hb => ?_) fun hb => ?_
  · exact r_ret (c_tup (ca_cons (c_neg (c_var 0 rfl (.int _))) (ca_cons (c_neg (c_var 1 rfl (.int _))) ca_nil))) fun v H1 e1 hv => k (-X', -Y') v H1 ⟨⟨-g, by omega, by dsimp only; rw [ex]; grind, by dsimp only; rw [ey]; grind⟩, hc.neg, by dsimp only; omega, by dsimp only; omega⟩ e1 hv
  · exact r_ret (c_tup (ca_cons (c_var 0 rfl (.int _)) (ca_cons (c_var 1 rfl (.int _)) ca_nil))) fun v H1 e1 hv => k (X', Y') v H1 ⟨⟨g, g0, ex, ey⟩, hc, by dsimp only; omega, by dsimp only; omega⟩ e1 hv
structure LeadPost (x : Int × Int) (m : Mt) : Prop where
  x : ∃ u v, m = ⟨x.1, -v, x.2, u⟩ ∧ u * x.1 + v * x.2 = 1
  m : MB 32 m
theorem sc_leading : FnScope ["point", "_", "u", "v"] ["point"] (defScope sLeading) := ⟨rfl, rfl, rfl, by decide +kernel, rfl, by decide +kernel, by decide +kernel⟩
theorem ok_leading (T : Tx K mg) : Ok P w K mg base "leading" ["point"] 2 (SpR K (fun x : Int × Int => [ppD x]) (fun x => WM.Cop x.1 x.2 ∧ x.1.natAbs < 2 ^ 30 ∧ x.2.natAbs < 2 ^ 30) LeadPost mD) := by
  refine ok_of T.fLeading sc_leading (fun _ _ _ _ _ _ us hl => match us, hl with | [_], _ => rfl) (spR_len fun _ => rfl) fun f cdv A outer s H0 E vs H Q hr h => ?_
  obtain ⟨⟨x, y⟩, hv, ⟨hc, hx, hy⟩, k⟩ := h
  dsimp only at hv k hc hx hy
  obtain _ | ⟨h1, _ | _⟩ := hv
  have hpre : bezPre (x, y) := ⟨Nat.lt_of_lt_of_le hx (by decide), hy⟩
  refine r_unp3R 1 2 3 rfl sc_leading.nd (c_callRel (x, y) (ok_bezout T) (hr.mono (by decide)) (ca_cons (c_ixT 0 (c_var 0 rfl (by assumption)) c_int rfl rfl (fun _ _ => rfl)) (ca_cons (c_ixT 1 (c_var 0 rfl (by assumption)) c_int rfl rfl (fun _ _ => rfl)) ca_nil)) hpre) fun z u v w H1 e1 hz hu hv hw => ?_
  cases hu; cases hv; cases hw
  have h1 := h1.up e1
  have he := hz.e
  have hg := hz.g
  have hub := hz.u
  have hvb := hz.v
  dsimp only at he hg hub hvb
  rw [hg, WM.cop_gcd hc] at he
  refine r_ret (c_tup (ca_cons (c_ixT 0 (c_var 0 rfl (by assumption)) c_int rfl rfl (fun _ _ => rfl)) (ca_cons (c_neg (c_var 3 rfl (.int _))) (ca_cons (c_ixT 1 (c_var 0 rfl (by assumption)) c_int rfl rfl (fun _ _ => rfl)) (ca_cons (c_var 2 rfl (.int _)) ca_nil))))) fun v H2 e2 hv => k ⟨x, -z.2.2, y, z.2.1⟩ v H2 ⟨⟨z.2.1, z.2.2, rfl, he⟩, ?_⟩ (e1.trans e2) hv
  unfold WM.ab at *
  exact ⟨by dsimp only; omega, by dsimp only; omega, by dsimp only; omega, by dsimp only; omega⟩
structure SPre (x : Int × Fm) : Prop where
  k : 0 < x.1
  l : x.1 ≤ 1000
  d : WM.disc x.2 = x.1 * x.1
  b : WM.Bd B40 x.2
theorem SPre.pos {k : Int} {f : Fm} (h : SPre (k, f)) : 0 ≤ WM.disc f ∧ WM.disc f < 2 ^ 64 := by
  have hk := h.k
  have hl := h.l
  have hd := h.d
  dsimp only at *
  have := Int.mul_le_mul (show k ≤ 1000 by omega) (show k ≤ 1000 by omega) (by omega) (by omega)
  have := WM.sq_nn k
  rw [hd]
  exact ⟨by omega, by omega⟩
theorem SPre.root {k : Int} {f : Fm} (h : SPre (k, f)) : sqrtI (WM.disc f) = k := by
  obtain ⟨h1, h2, h3⟩ := sqrtI_spec h.pos.1
  have hk := h.k
  have hd := h.d
  dsimp only at *
  refine WM.root_unique h1 (by omega) h2 h3 (by omega) ?_
  rw [hd]; grind
theorem SPre.fb {k : Int} {f : Fm} (h : SPre (k, f)) : FB 29 f := fb_of h.b (Int.le_refl _)
structure ZlPost (x : Int × Fm) (zs : List (Int × Int)) : Prop where
  a : ∀ z ∈ zs, WM.Cop z.1 z.2 ∧ z.1.natAbs < 2 ^ 30 ∧ z.2.natAbs < 2 ^ 30 ∧ (WM.Dir x.2 x.1 z.1 z.2 ∨ WM.Dir x.2 (-x.1) z.1 z.2)
  e : ∃ z ∈ zs, WM.Dir x.2 x.1 z.1 z.2
theorem dir_prim {f : Fm} {k : Int} {x z : Int × Int} (h : PrimPost x z) (hd : WM.Dir f k x.1 x.2) : WM.Dir f k z.1 z.2 := by
  obtain ⟨e, e0, e1, e2⟩ := h.x
  rw [e1, e2] at hd
  exact WM.Dir.cancel e0 hd
theorem sc_zero_lines : FnScope ["form", "a", "b", "c", "k"] ["form"] (defScope sZeroLines) := ⟨rfl, rfl, rfl, by decide +kernel, rfl, by decide +kernel, by decide +kernel⟩
theorem ok_zero_lines (T : Tx K mg) : Ok P w K mg base "zero_lines" ["form"] 4 (SpR K (fun x : Int × Fm => [fD x.2]) SPre ZlPost (fun zs : List (Int × Int) => .list (zs.map ppD))) := by
  refine ok_of T.fZeroLines sc_zero_lines (fun _ _ _ _ _ _ us hl => match us, hl with | [_], _ => rfl) (spR_len fun _ => rfl) fun f cdv A outer s H0 E vs H Q hr h => ?_
  obtain ⟨⟨kk, f⟩, hv, hS, k⟩ := h
  dsimp only at hv k
  obtain _ | ⟨h1, _ | _⟩ := hv
  have fb : FB 29 f := hS.fb
  have fbb := fb.le (show 29 ≤ big by decide)
  have dp := hS.pos
  have hk := hS.k
  have hkl := hS.l
  have hd := hS.d
  dsimp only at hk hd hkl
  refine r_unp3 1 2 3 rfl sc_zero_lines.nd (c_var 0 rfl (by assumption)) fun u v w H1 e1 hu hv hw => ?_
  cases hu; cases hv; cases hw
  have h1 := h1.up e1
  refine r_asgI 4 (n := kk) sc_zero_lines.nd (CD.to (cc_floor_root T hr (ca_cons (cc_discriminant T hr (ca_cons (c_var 0 rfl (by assumption)) ca_nil)) ca_nil)) (by rw [hS.root])) ?_
  have fa := fb.a
  have fb' := fb.b
  have fc := fb.c
  have : Bt 29 f.a := ⟨fa⟩
  refine r_if0 (t_eqI (c_var 1 rfl (.int _)) c_int) (fun hz => ?_) fun hz => ?_
  · have hz : f.a = 0 := of_decide_eq_true hz
    have hb2 : f.b = kk ∨ f.b = -kk := WM.sq_eq hk (by rw [← hd]; unfold WM.disc; rw [hz]; grind)
    have hp : PrimPre (-f.c, f.b) := ⟨by dsimp only; omega, by dsimp only; omega, by dsimp only; omega⟩
    refine r_ret (P := fun v H2 => ∃ z, PrimPost (-f.c, f.b) z ∧ Dp K H2 v (.list ([(1, 0), z].map ppD))) (of_pe (pe_lst (pa_cons pw (pa_cons pw pa_nil rfl) rfl)) fun H2 e2 Q q => ?_) fun v H2 e2 hv => ?_
    · refine ((c_tup (ca_cons c_int (ca_cons c_int ca_nil))) : CD _ _ _ H1 (ppD (1, 0))) H2 e2 _ fun v3 H3 e3 h3 => ?_
      refine (c_callRel (-f.c, f.b) (ok_primitive T) (hr.mono (by decide)) (ca_cons (c_neg (c_var 3 rfl (.int _))) (ca_cons (c_var 2 rfl (.int _)) ca_nil)) hp) H3 (e2.trans e3) _ fun v4 H4 e4 h4 => ?_
      obtain ⟨z, hz1, hz2⟩ := h4
      exact ⟨Evl.sz_of (by show 2 ≤ 100000; decide), fun p hp => q _ _ ((e3.trans e4).trans (Ex.new hp)) ⟨z, hz1, .lst (Evl.sq_of upd_same) (.cons ((h3.up e4).up (Ex.new hp)) (.cons (hz2.up (Ex.new hp)) .nil))⟩⟩
    · obtain ⟨z, hz1, hz2⟩ := hv
      refine k [(1, 0), z] v H2 ⟨fun y hy => ?_, ?_⟩ (e1.trans e2) hz2
      · rcases List.mem_cons.mp hy with rfl | hy
        · refine ⟨⟨1, 0, by decide⟩, by decide, by decide, ?_⟩
          rcases hb2 with q | q
          · exact .inl (WM.dir3 hz q)
          · exact .inr (WM.dir3 hz q)
        · rw [List.mem_singleton.mp hy]
          refine ⟨hz1.c, hz1.a, hz1.b, ?_⟩
          rcases hb2 with q | q
          · exact .inr (dir_prim hz1 (WM.dir4 hz (show f.b = -(-kk) by omega)))
          · exact .inl (dir_prim hz1 (WM.dir4 hz q))
      · rcases hb2 with q | q
        · exact ⟨(1, 0), List.mem_cons_self, WM.dir3 hz q⟩
        · exact ⟨z, List.mem_cons_of_mem _ List.mem_cons_self, dir_prim hz1 (WM.dir4 hz q)⟩
  · have hz : ¬ f.a = 0 := of_decide_eq_false hz
    have hp1 : PrimPre (kk - f.b, 2 * f.a) := ⟨by dsimp only; omega, by dsimp only; omega, by dsimp only; omega⟩
    have hp2 : PrimPre (-kk - f.b, 2 * f.a) := ⟨by dsimp only; omega, by dsimp only; omega, by dsimp only; omega⟩
    refine r_ret (P := fun v H2 => ∃ y z, PrimPost (kk - f.b, 2 * f.a) y ∧ PrimPost (-kk - f.b, 2 * f.a) z ∧ Dp K H2 v (.list ([y, z].map ppD))) (of_pe (pe_lst (pa_cons pw (pa_cons pw pa_nil rfl) rfl)) fun H2 e2 Q q => ?_) fun v H2 e2 hv => ?_
    · refine (c_callRel (kk - f.b, 2 * f.a) (ok_primitive T) (hr.mono (by decide)) (ca_cons (c_sub (c_var 4 rfl (.int _)) (c_var 2 rfl (.int _))) (ca_cons (c_mul c_int (c_var 1 rfl (.int _)) (by exact cmw)) ca_nil)) hp1 : CR _ _ _ H1 _) H2 e2 _ fun v3 H3 e3 h3 => ?_
      refine (c_callRel (-kk - f.b, 2 * f.a) (ok_primitive T) (hr.mono (by decide)) (ca_cons (c_sub (c_neg (c_var 4 rfl (.int _))) (c_var 2 rfl (.int _))) (ca_cons (c_mul c_int (c_var 1 rfl (.int _)) (by exact cmw)) ca_nil)) hp2) H3 (e2.trans e3) _ fun v4 H4 e4 h4 => ?_
      obtain ⟨y, hy1, hy2⟩ := h3
      obtain ⟨z, hz1, hz2⟩ := h4
      exact ⟨Evl.sz_of (by show 2 ≤ 100000; decide), fun p hp => q _ _ ((e3.trans e4).trans (Ex.new hp)) ⟨y, z, hy1, hz1, .lst (Evl.sq_of upd_same) (.cons ((hy2.up e4).up (Ex.new hp)) (.cons (hz2.up (Ex.new hp)) .nil))⟩⟩
    · obtain ⟨y, z, hy1, hz1, hz2⟩ := hv
      have q1 := dir_prim hy1 (WM.dir1 hd)
      have q2 := dir_prim hz1 (WM.dir2 hd)
      refine k [y, z] v H2 ⟨fun u hu => ?_, z, List.mem_cons_of_mem _ List.mem_cons_self, q2⟩ (e1.trans e2) hz2
      rcases List.mem_cons.mp hu with rfl | hu
      · exact ⟨hy1.c, hy1.a, hy1.b, .inr q1⟩
      · rw [List.mem_singleton.mp hu]
        exact ⟨hz1.c, hz1.a, hz1.b, .inl q2⟩
structure SplPost (x : Int × Fm) (z : Fm × Mt) : Prop where
  d : WM.det z.2 = 1
  e : WM.act x.2 z.2 = z.1
  c : ∃ c, z.1 = ⟨0, x.1, c⟩ ∧ 0 ≤ c ∧ c < x.1
  m : MB 2000 z.2
theorem btu {n : Nat} {x : Int} [h : Bt n x] {m : Nat} (hm : n ≤ m := by decide) : x.natAbs < 2 ^ m := bt_le h.h hm
theorem act_fb {f : Fm} {m : Mt} (hf : FB 29 f) (hm : MB 32 m) : FB 1000 (WM.act f m) := by
  have : Bt 29 f.a := ⟨hf.a⟩
  have : Bt 29 f.b := ⟨hf.b⟩
  have : Bt 29 f.c := ⟨hf.c⟩
  have : Bt 32 m.p := ⟨hm.p⟩
  have : Bt 32 m.q := ⟨hm.q⟩
  have : Bt 32 m.r := ⟨hm.r⟩
  have : Bt 32 m.s := ⟨hm.s⟩
  refine ⟨?_, ?_, ?_⟩
  · show (f.a * m.p * m.p + f.b * m.p * m.r + f.c * m.r * m.r).natAbs < _
    exact btu
  · show (2 * f.a * m.p * m.q + f.b * (m.p * m.s + m.q * m.r) + 2 * f.c * m.r * m.s).natAbs < _
    exact btu
  · show (f.a * m.q * m.q + f.b * m.q * m.s + f.c * m.s * m.s).natAbs < _
    exact btu
theorem sc_canonical_split : FnScope ["form", "k", "direction", "m", "_", "b", "c", "step"] ["form"] (defScope sCanonicalSplit) := ⟨rfl, rfl, rfl, by decide +kernel, rfl, by decide +kernel, by decide +kernel⟩
theorem ok_canonical_split (T : Tx K mg) : Ok P w K mg base "canonical_split" ["form"] 5 (SpR K (fun x : Int × Fm => [fD x.2]) SPre SplPost fmD) := by
  refine ok_of T.fCanonicalSplit sc_canonical_split (fun _ _ _ _ _ _ us hl => match us, hl with | [_], _ => rfl) (spR_len fun _ => rfl) fun f cdv A outer s H0 E vs H Q hr h => ?_
  obtain ⟨⟨kk, f⟩, hv, hS, k⟩ := h
  dsimp only at hv k
  obtain _ | ⟨h1, _ | _⟩ := hv
  rename_i vf
  have fb : FB 29 f := hS.fb
  have fbb := fb.le (show 29 ≤ big by decide)
  have dp := hS.pos
  have hk := hS.k
  have hkl := hS.l
  have hd := hS.d
  dsimp only at hk hd hkl
  refine r_asgI 1 (n := kk) sc_canonical_split.nd (CD.to (cc_floor_root T hr (ca_cons (cc_discriminant T hr (ca_cons (c_var 0 rfl (by assumption)) ca_nil)) ca_nil)) (by rw [hS.root])) ?_
  refine r_forLD 2 nox_own rfl sc_canonical_split.nd (c_callRel (kk, f) (ok_zero_lines T) (hr.mono (by decide)) (ca_cons (c_var 0 rfl (by assumption)) ca_nil) hS) fun zs xs H1 hz e1 hall => ?_
  have hlen : xs.length = zs.length := by have := hall.len; rw [List.length_map] at this; exact this
  refine ⟨fun i σ' => (∃ p1 p2 p3 p4 p5 p6, σ' = [some vf, some (.int kk), p1, p2, p3, p4, p5, p6]) ∧ ∀ j (z : Int × Int), j < i → zs[j]? = some z → ¬ WM.Dir f kk z.1 z.2, ⟨⟨_, _, _, _, _, _, rfl⟩, fun j z hj => absurd hj (Nat.not_lt_zero _)⟩, fun i v σ' H2 hi e2 hP => ?_, fun σ' H2 e2 hP => ?_⟩
  · obtain ⟨⟨p1, p2, p3, p4, p5, p6, rfl⟩, hno⟩ := hP
    have hi2 : i < zs.length := by have := (List.getElem?_eq_some_iff.mp hi).1; omega
    obtain ⟨v', k1, hvd⟩ := hall.get (i := i) (d := ppD zs[i]) (by rw [List.getElem?_map, List.getElem?_eq_getElem hi2]; rfl)
    rw [hi] at k1; cases k1
    have hvd := hvd.up e2
    have h1 := (h1.up e1).up e2
    obtain ⟨cc, ca, cb, cdir⟩ := hz.a zs[i] (List.getElem_mem hi2)
    refine r_asg 3 sc_canonical_split.nd (c_callRel zs[i] (ok_leading T) (hr.mono (by decide)) (ca_cons (c_var 2 rfl (by assumption)) ca_nil) ⟨cc, ca, cb⟩) fun vm H3 e3 hm => ?_
    obtain ⟨m, ⟨⟨u, w, em, eu⟩, mb⟩, hm⟩ := hm
    have h1 := h1.up e3
    have mbb := mb.le (show 32 ≤ big by decide)
    refine r_unp3 4 5 6 rfl sc_canonical_split.nd (cc_act T hr (ca_cons (c_var 0 rfl (by assumption)) (ca_cons (c_var 3 rfl (by assumption)) ca_nil))) fun u1 u2 u3 H4 e4 hu1 hu2 hu3 => ?_
    cases hu1; cases hu2; cases hu3
    have h1 := h1.up e4
    have hm := hm.up e4
    have fbm := act_fb fb mb
    refine r_if0 (t_eqI (c_var 5 rfl (.int _)) (c_var 1 rfl (.int _))) (fun hb => ?_) fun hb => ?_
    · have hb : (WM.act f m).b = kk := of_decide_eq_true hb
      have hdm : WM.det m = 1 := by rw [em]; simp only [WM.det]; grind
      have ha : (WM.act f m).a = 0 := by
        rcases cdir with q | q
        · rw [em]; exact (WM.Dir.act q eu).1
        · rw [em]; exact (WM.Dir.act q eu).1
      have eact : WM.act f m = ⟨0, kk, (WM.act f m).c⟩ := WM.Fm.eq ha hb rfl
      obtain ⟨s1, s2, s3⟩ := WM.split_step hk eact
      have dv : CDivN (WM.act f m).c kk := ⟨by omega, by omega⟩
      have ab1 := WM.fdiv_ab (x := (WM.act f m).c) (y := kk) (by omega)
      have cbb := fbm.c
      have sb : MB 1002 (⟨1, -((WM.act f m).c.fdiv kk), 0, 1⟩ : Mt) := ⟨bt_le (n := 1) (by show (1 : Int).natAbs < _; decide) (by decide), by
        have : (2 : Nat) ^ 1002 = 4 * 2 ^ 1000 := by rw [show 1002 = 1000 + 2 by rfl, Nat.pow_add]; omega
        dsimp only
        generalize (2 : Nat) ^ 1000 = B at *
        unfold WM.ab at ab1
        omega, bt_le (n := 1) (by show (0 : Int).natAbs < _; decide) (by decide), bt_le (n := 1) (by show (1 : Int).natAbs < _; decide) (by decide)⟩
      have sbb := sb.le (show 1002 ≤ big by decide)
      refine r_asg 7 sc_canonical_split.nd (c_tup (ds := [.int 1, .int (-((WM.act f m).c.fdiv kk)), .int 0, .int 1]) (ca_cons c_int (ca_cons (c_neg (c_fdiv (c_var 6 rfl (.int _)) (c_var 1 rfl (.int _)) (dv))) (ca_cons c_int (ca_cons c_int ca_nil))))) fun vs H5 e5 hs => ?_
      have h1 := h1.up e5
      have hm := hm.up e5
      have hs : Dp K H5 vs (mD ⟨1, -((WM.act f m).c.fdiv kk), 0, 1⟩) := hs
      have hst : WM.det (⟨1, -((WM.act f m).c.fdiv kk), 0, 1⟩ : Mt) = 1 := by
        unfold WM.det; dsimp only; rw [Int.mul_zero]; rfl
      generalize (⟨1, -((WM.act f m).c.fdiv kk), 0, 1⟩ : Mt) = st at *
      have pb := MB.mul mb sb
      have pbb := pb.le (show 32 + 1002 + 1 ≤ big by decide)
      refine r_asg 3 sc_canonical_split.nd (cc_multiply T hr (ca_cons (c_var 3 rfl (by assumption)) (ca_cons (c_var 7 rfl (by assumption)) ca_nil))) fun vm2 H6 e6 hm2 => ?_
      have h1 := h1.up e6
      have hds : WM.det (WM.mul m st) = 1 := by rw [WM.det_mul, hdm, hst]; rfl
      refine r_ret (c_tup (ca_cons (cc_act T hr (ca_cons (c_var 0 rfl (by assumption)) (ca_cons (c_var 3 rfl (by assumption)) ca_nil))) (ca_cons (c_var 3 rfl (by assumption)) ca_nil))) fun v H7 e7 hv => k (WM.act f (WM.mul m st), WM.mul m st) v H7 ⟨hds, rfl, ⟨_, s1, s2, s3⟩, pb.le (by decide)⟩ ((((((e1.trans e2).trans e3).trans e4).trans e5).trans e6).trans e7) hv
    · have hb : ¬ (WM.act f m).b = kk := of_decide_eq_false hb
      refine r_nil fun H5 e5 => ⟨⟨⟨_, _, _, _, _, _, rfl⟩, fun j z hj hz2 => ?_⟩, ((e2.trans e3).trans e4).trans e5⟩
      rcases Nat.lt_or_ge j i with q | q
      · exact hno j z q hz2
      · have : j = i := by omega
        subst this
        rw [List.getElem?_eq_getElem hi2] at hz2
        cases hz2
        intro hdir
        refine hb ?_
        rw [em]
        exact (WM.Dir.act hdir eu).2.1
  · exfalso
    obtain ⟨z, hz1, hz2⟩ := hz.e
    obtain ⟨j, hj, e⟩ := List.mem_iff_getElem.mp hz1
    exact hP.2 j z (by omega) (by rw [List.getElem?_eq_getElem hj, e]) hz2
end
end WC
namespace WC
open PySem PySem.Spec PyProof.Rows L2
open Evl (Ex)
open WM (Fm Mt)
/-! ### flat forms -/
structure FlPre (f : Fm) : Prop where
  b : WM.Bd B40 f
  x : f = WM.zero ∨ ∃ G P Q, G ≠ 0 ∧ WM.Cop P Q ∧ f = WM.flF G P Q
structure FpPost (f : Fm) (z : Int × Int × Int) : Prop where
  e : f = WM.flF z.1 z.2.1 z.2.2
  c : WM.Cop z.2.1 z.2.2
  n : z.1 = 0 ↔ f = WM.zero
  a : z.1.natAbs < 2 ^ 30
  p : z.2.1.natAbs < 2 ^ 30
  q : z.2.2.natAbs < 2 ^ 30
theorem ab_le_sq (x : Int) : WM.ab x ≤ x * x := by
  have h := WM.ab_sq x
  have h0 := WM.ab_nn x
  rcases Int.lt_or_le (WM.ab x) 1 with q | q
  · have := WM.sq_nn x; omega
  · have := Int.mul_le_mul_of_nonneg_left q h0; omega
theorem flat_sizes {G P Q : Int} (hG : G ≠ 0) (hc : WM.Cop P Q) (h : WM.Bd B40 (WM.flF G P Q)) : P * P ≤ B40 ∧ Q * Q ≤ B40 ∧ WM.ab G ≤ B40 := by
  have ha : WM.ab (G * P * P) ≤ B40 := h.a
  have hq : WM.ab (G * Q * Q) ≤ B40 := h.c
  have g1 := WM.ab_pos hG
  have e1 : WM.ab (G * P * P) = WM.ab G * (P * P) := by rw [Int.mul_assoc, WM.ab_mul, WM.ab_mul P P, WM.ab_sq]
  have e2 : WM.ab (G * Q * Q) = WM.ab G * (Q * Q) := by rw [Int.mul_assoc, WM.ab_mul, WM.ab_mul Q Q, WM.ab_sq]
  have p0 := WM.sq_nn P
  have q0 := WM.sq_nn Q
  have k1 := Int.mul_le_mul_of_nonneg_right g1 p0
  have k2 := Int.mul_le_mul_of_nonneg_right g1 q0
  refine ⟨by omega, by omega, ?_⟩
  by_cases hp : P = 0
  · have hq0 : Q ≠ 0 := fun e => WM.cop_nz hc ⟨hp, e⟩
    have := WM.sq_pos hq0
    have := Int.mul_le_mul_of_nonneg_left this (WM.ab_nn G)
    omega
  · have := WM.sq_pos hp
    have := Int.mul_le_mul_of_nonneg_left this (WM.ab_nn G)
    omega
theorem sqrt_sq (P : Int) : sqrtI (P * P) = WM.ab P := by
  obtain ⟨h1, h2, h3⟩ := sqrtI_spec (WM.sq_nn P)
  exact WM.sqabs h1 h2 h3
abbrev gpqD (z : Int × Int × Int) : PyData := .tuple [.int z.1, .int z.2.1, .int z.2.2]
section
variable {P : Program} {w : World} {K : PySem.W.Frag} {mg : Str → Option Value} {base : Heap}
variable {X : Cx} {σ : L2.St} {H : Hp} {e : Expr} {es : List Expr}
theorem sc_flat_parts : FnScope ["form", "g", "a", "b", "c", "sign", "p", "q"] ["form"] (defScope sFlatParts) := ⟨rfl, rfl, rfl, by decide +kernel, rfl, by decide +kernel, by decide +kernel⟩
theorem ok_flat_parts (T : Tx K mg) : Ok P w K mg base "flat_parts" ["form"] 4 (SpR K (fun f : Fm => [fD f]) FlPre FpPost gpqD) := by
  refine ok_of T.fFlatParts sc_flat_parts (fun _ _ _ _ _ _ us hl => match us, hl with | [_], _ => rfl) (spR_len fun _ => rfl) fun f cdv A outer s H0 E vs H Q hr h => ?_
  obtain ⟨f, hv, hF, k⟩ := h
  dsimp only at hv k
  obtain _ | ⟨h1, _ | _⟩ := hv
  rename_i vf
  have fb : FB 30 f := (fb_of hF.b (Int.le_refl _)).le (by decide)
  refine r_asgI 1 (n := WM.cont f) sc_flat_parts.nd (cc_content T hr (ca_cons (c_var 0 rfl (by assumption)) ca_nil)) ?_
  rcases hF.x with hz | ⟨G, P', Q', hG, hc, rfl⟩
  · have c0 : WM.cont f = 0 := by rw [hz]; decide
    refine r_if0 (t_eqI (c_var 1 rfl (.int _)) c_int) (fun _ => ?_) fun hn => ?_
    · refine r_ret (c_tup (ca_cons c_int (ca_cons c_int (ca_cons c_int ca_nil)))) fun v H1 e1 hv => k (0, 1, 0) v H1 ⟨by rw [hz]; decide, ⟨1, 0, by decide⟩, ⟨fun _ => hz, fun _ => rfl⟩, by decide, by decide, by decide⟩ e1 hv
    · exact absurd c0 (of_decide_eq_false hn)
  obtain ⟨hcont, hdiv⟩ := WM.flF_divd hG hc
  obtain ⟨pB, qB, gB⟩ := flat_sizes hG hc hF.b
  have g1 := WM.ab_pos hG
  have hnz : WM.flF G P' Q' ≠ WM.zero := fun e => by rw [e] at hcont; rw [show WM.cont WM.zero = 0 by decide] at hcont; omega
  rw [hcont]
  refine r_if0 (t_eqI (c_var 1 rfl (.int _)) c_int) (fun hn => ?_) fun hn => ?_
  · have := of_decide_eq_true hn; omega
  have dv : WM.ab G ≠ 0 ∧ (WM.ab G).natAbs < 1073741824 := ⟨by omega, by unfold B40 at gB; omega⟩
  refine r_unp3 2 3 4 rfl sc_flat_parts.nd (cc_divided T hr (ca_cons (c_var 0 rfl (by assumption)) (ca_cons (c_var 1 rfl (.int _)) ca_nil))) fun u v w H1 e1 hu hv hw => ?_
  rw [hdiv] at hu hv hw
  have hs : ∃ s : Int, (if G < 0 then (-1 : Int) else 1) = s ∧ (s = 1 ∧ 0 < G ∨ s = -1 ∧ G < 0) := by
    by_cases q : G < 0
    · exact ⟨-1, if_pos q, .inr ⟨rfl, q⟩⟩
    · exact ⟨1, if_neg q, .inl ⟨rfl, by omega⟩⟩
  obtain ⟨s', es, hs⟩ := hs
  rw [es] at hu hv hw
  cases hu; cases hv; cases hw
  have pp := WM.sq_nn P'
  have qq := WM.sq_nn Q'
  have ea : s' * P' * P' = s' * (P' * P') := Int.mul_assoc _ _ _
  have ec : s' * Q' * Q' = s' * (Q' * Q') := Int.mul_assoc _ _ _
  have one : 1 ≤ P' * P' ∨ 1 ≤ Q' * Q' := by
    by_cases hp : P' = 0
    · exact .inr (WM.sq_pos fun e => WM.cop_nz hc ⟨hp, e⟩)
    · exact .inl (WM.sq_pos hp)
  refine r_asgI 5 (n := 1) sc_flat_parts.nd c_int ?_
  refine r_ifM (fun σ' H' => σ' = [some vf, some (.int (WM.ab G)), some (.int (s' * P' * P')), some (.int (2 * s' * P' * Q')), some (.int (s' * Q' * Q')), some (.int s'), none, none] ∧ Ex H1 H') (ct_w (t_or (t_lt (c_var 2 rfl (.int _)) c_int) fun hb => (t_or1 (t_lt (c_var 4 rfl (.int _)) c_int)))) (fun hb => ?_) (fun hb => ?_) fun σ' H' hM => ?_
  · have hb : s' * P' * P' < 0 ∨ s' * Q' * Q' < 0 := by rw [Bool.or_eq_true, decide_eq_true_eq, decide_eq_true_eq] at hb; exact hb
    have e : s' = -1 := by
      rcases hs with ⟨q, _⟩ | ⟨q, _⟩
      · rw [q] at hb ea ec; omega
      · exact q
    subst e
    exact r_asgI 5 (n := -1) sc_flat_parts.nd (c_neg c_int) (r_nil fun H2 e2 => ⟨rfl, e2⟩)
  · have hb : ¬ (s' * P' * P' < 0 ∨ s' * Q' * Q' < 0) := by rw [Bool.or_eq_false_iff, decide_eq_false_iff_not, decide_eq_false_iff_not] at hb; exact fun q => by rcases q with q | q; exact hb.1 q; exact hb.2 q
    have e : s' = 1 := by
      rcases hs with ⟨q, _⟩ | ⟨q, _⟩
      · exact q
      · rw [q] at hb ea ec; omega
    subst e
    exact r_nil fun H2 e2 => ⟨rfl, e2⟩
  obtain ⟨rfl, e2⟩ := hM
  have aP : (if s' * P' * P' < 0 then -(s' * P' * P') else s' * P' * P') = P' * P' := by
    rw [ea]
    rcases hs with ⟨q, _⟩ | ⟨q, _⟩ <;> rw [q] <;> split <;> omega
  have aQ : (if s' * Q' * Q' < 0 then -(s' * Q' * Q') else s' * Q' * Q') = Q' * Q' := by
    rw [ec]
    rcases hs with ⟨q, _⟩ | ⟨q, _⟩ <;> rw [q] <;> split <;> omega
  have bP : 0 ≤ P' * P' ∧ P' * P' < 2 ^ 64 := ⟨pp, by unfold B40 at pB; omega⟩
  have bQ : 0 ≤ Q' * Q' ∧ Q' * Q' < 2 ^ 64 := ⟨qq, by unfold B40 at qB; omega⟩
  refine r_asgI 6 (n := WM.ab P') sc_flat_parts.nd (CD.to (c_callF (P' * P') (ok_floor_root T) (hr.mono (by decide)) (ca_cons (CD.to (c_abs (c_var 2 rfl (.int _)) T.bAbs) (by rw [aP])) ca_nil) bP) (by rw [sqrt_sq])) ?_
  refine r_asgI 7 (n := WM.ab Q') sc_flat_parts.nd (CD.to (c_callF (Q' * Q') (ok_floor_root T) (hr.mono (by decide)) (ca_cons (CD.to (c_abs (c_var 4 rfl (.int _)) T.bAbs) (by rw [aQ])) ca_nil) bQ) (by rw [sqrt_sq])) ?_
  have aPs := ab_le_sq P'
  have aQs := ab_le_sq Q'
  have : Bt 30 P' := ⟨by unfold B40 WM.ab at *; omega⟩
  have : Bt 30 Q' := ⟨by unfold B40 WM.ab at *; omega⟩
  have : Bt 2 s' := ⟨by rcases hs with ⟨q, _⟩ | ⟨q, _⟩ <;> rw [q] <;> decide⟩
  have : Bt 30 (WM.ab G) := ⟨by unfold B40 at *; omega⟩
  have eb : 2 * s' * P' * Q' * s' = 2 * (P' * Q') := by
    rcases hs with ⟨q, _⟩ | ⟨q, _⟩ <;> rw [q] <;> grind
  refine r_ifM (fun σ2 H2 => σ2 = [some vf, some (.int (WM.ab G)), some (.int (s' * P' * P')), some (.int (2 * s' * P' * Q')), some (.int (s' * Q' * Q')), some (.int s'), some (.int (WM.ab P')), some (.int (if P' * Q' < 0 then -WM.ab Q' else WM.ab Q'))] ∧ Ex H' H2) (t_lt (c_mul (c_var 3 rfl (.int _)) (c_var 5 rfl (.int _)) (by exact cmw)) c_int) (fun hb => ?_) (fun hb => ?_) fun σ' H' hM => ?_
  · have hb : 2 * s' * P' * Q' * s' < 0 := of_decide_eq_true hb
    rw [if_pos (by omega)]
    exact r_asgI 7 sc_flat_parts.nd (c_neg (c_var 7 rfl (.int _))) (r_nil fun H3 e3 => ⟨rfl, e3⟩)
  · have hb : ¬ 2 * s' * P' * Q' * s' < 0 := of_decide_eq_false hb
    rw [if_neg (by omega)]
    exact r_nil fun H3 e3 => ⟨rfl, e3⟩
  obtain ⟨rfl, e3⟩ := hM
  obtain ⟨r1, r2⟩ := WM.flat_found hG hc hs (p := WM.ab P') (q := if P' * Q' < 0 then -WM.ab Q' else WM.ab Q') rfl rfl
  have gs : s' * WM.ab G = G := by rcases hs with ⟨q, q2⟩ | ⟨q, q2⟩ <;> rw [q] <;> unfold WM.ab <;> omega
  have bq : (if P' * Q' < 0 then -WM.ab Q' else WM.ab Q').natAbs < 2 ^ 30 := by unfold B40 WM.ab at *; split <;> omega
  have bp : (WM.ab P').natAbs < 2 ^ 30 := by unfold B40 WM.ab at *; omega
  have bg : (s' * WM.ab G).natAbs < 2 ^ 30 := by rw [gs]; unfold B40 WM.ab at *; omega
  refine r_ret (c_tup (ca_cons (c_mul (c_var 5 rfl (.int _)) (c_var 1 rfl (.int _)) (by exact cmw)) (ca_cons (c_var 6 rfl (.int _)) (ca_cons (c_var 7 rfl (.int _)) ca_nil)))) fun v H4 e4 hv => k (s' * WM.ab G, WM.ab P', if P' * Q' < 0 then -WM.ab Q' else WM.ab Q') v H4 ⟨r1.symm, r2, ⟨fun e => ?_, fun e => absurd e hnz⟩, bg, bp, bq⟩ (((e1.trans e2).trans e3).trans e4) hv
  have e : s' * WM.ab G = 0 := e
  omega
structure FlcPost (f : Fm) (z : Fm × Mt) : Prop where
  d : WM.det z.2 = 1
  e : WM.act f z.2 = z.1
  m : MB 40 z.2
  b : FB 30 z.1
  c : ∃ G p q, f = WM.flF G p q ∧ WM.Cop p q ∧ z.1 = ⟨G, 0, 0⟩ ∧ (G ≠ 0 → WM.mul (WM.mul z.2 ⟨1, 0, 1, 1⟩) (WM.inv z.2) = WM.shear p q)
theorem sc_canonical_flat : FnScope ["form", "g", "p", "q", "_", "u", "v"] ["form"] (defScope sCanonicalFlat) := ⟨rfl, rfl, rfl, by decide +kernel, rfl, by decide +kernel, by decide +kernel⟩
theorem ok_canonical_flat (T : Tx K mg) : Ok P w K mg base "canonical_flat" ["form"] 5 (SpR K (fun f : Fm => [fD f]) FlPre FlcPost fmD) := by
  refine ok_of T.fCanonicalFlat sc_canonical_flat (fun _ _ _ _ _ _ us hl => match us, hl with | [_], _ => rfl) (spR_len fun _ => rfl) fun f cdv A outer s H0 E vs H Q hr h => ?_
  obtain ⟨f, hv, hF, k⟩ := h
  dsimp only at hv k
  obtain _ | ⟨h1, _ | _⟩ := hv
  have fb : FB 30 f := (fb_of hF.b (Int.le_refl _)).le (by decide)
  refine r_unp3R 1 2 3 rfl sc_canonical_flat.nd (c_callRel f (ok_flat_parts T) (hr.mono (by decide)) (ca_cons (c_var 0 rfl (by assumption)) ca_nil) hF) fun z u v w H1 e1 hz hu hv hw => ?_
  cases hu; cases hv; cases hw
  have h1 := h1.up e1
  obtain ⟨G, p, q⟩ := z
  obtain ⟨z1, z2, z3, z4, z5, z6⟩ := hz
  dsimp only at z1 z2 z3 z4 z5 z6
  refine r_if0 (t_eqI (c_var 1 rfl (.int _)) c_int) (fun hb => ?_) fun hb => ?_
  · have hb : G = 0 := of_decide_eq_true hb
    have fz := z3.mp hb
    refine r_ret (c_tup (ca_cons (c_var 0 rfl (by assumption)) (ca_cons (c_tup (ca_cons c_int (ca_cons c_int (ca_cons c_int (ca_cons c_int ca_nil))))) ca_nil))) fun v H2 e2 hv => k (f, WM.one) v H2 ⟨WM.det_one, WM.act_one f, (show MB 1 WM.one from ⟨by decide, by decide, by decide, by decide⟩).le (by decide), fb, G, p, q, z1, z2, by rw [fz, hb]; rfl, fun n => absurd hb n⟩ (e1.trans e2) hv
  · have hb : ¬ G = 0 := of_decide_eq_false hb
    have hpre : bezPre (p, q) := ⟨Nat.lt_of_lt_of_le z5 (by decide), z6⟩
    refine r_unp3R 4 5 6 rfl sc_canonical_flat.nd (c_callRel (p, q) (ok_bezout T) (hr.mono (by decide)) (ca_cons (c_var 2 rfl (.int _)) (ca_cons (c_var 3 rfl (.int _)) ca_nil)) hpre) fun b u v w H2 e2 hz hu hv hw => ?_
    cases hu; cases hv; cases hw
    have he := hz.e
    have hg := hz.g
    have hub := hz.u
    have hvb := hz.v
    dsimp only at he hg hub hvb
    rw [hg, WM.cop_gcd z2] at he
    obtain ⟨q1, q2⟩ := WM.flat_gen he
    refine r_ret (c_tup (ca_cons (c_tup (ca_cons (c_var 1 rfl (.int _)) (ca_cons c_int (ca_cons c_int ca_nil)))) (ca_cons (c_tup (ca_cons (c_var 5 rfl (.int _)) (ca_cons (c_neg (c_var 3 rfl (.int _))) (ca_cons (c_var 6 rfl (.int _)) (ca_cons (c_var 2 rfl (.int _)) ca_nil))))) ca_nil))) fun x H3 e3 hv => k (⟨G, 0, 0⟩, ⟨b.2.1, -q, b.2.2, p⟩) x H3 ⟨q1, by rw [z1]; exact WM.flat_act he, ?_, ⟨z4, by show (0 : Int).natAbs < _; decide, by show (0 : Int).natAbs < _; decide⟩, G, p, q, z1, z2, rfl, fun _ => q2⟩ ((e1.trans e2).trans e3) hv
    unfold WM.ab at *
    exact ⟨by dsimp only; omega, by dsimp only; omega, by dsimp only; omega, by dsimp only; omega⟩
end
end WC
namespace WC
open PySem PySem.Spec PyProof.Rows L2
open Evl (Ex)
open WM (Fm Mt)
/-! ### the four kinds -/
inductive Kd where
  | de
  | ind (r : Int)
  | sp (k : Int)
  | fl
def CPre : Kd × Fm → Prop
  | (.de, f) => DefPre f
  | (.ind r, f) => IPre (r, f)
  | (.sp k, f) => SPre (k, f)
  | (.fl, f) => FlPre f
def CPost : Kd × Fm → Fm × Mt → Prop
  | (.de, f), z => DefPost f z
  | (.ind r, f), z => CanPost (r, f) z
  | (.sp k, f), z => SplPost (k, f) z
  | (.fl, f), z => FlcPost f z
structure CG (f : Fm) (z : Fm × Mt) : Prop where
  d : WM.det z.2 = 1
  e : WM.act f z.2 = z.1
  m : MB 78000 z.2
  b : FB 42 z.1
theorem spl_fb {k : Int} {f : Fm} {z : Fm × Mt} (h : SPre (k, f)) (p : SplPost (k, f) z) : FB 42 z.1 := by
  obtain ⟨c, e, h1, h2⟩ := p.c
  have hk := h.k
  have hl := h.l
  dsimp only at e h1 h2 hk hl
  rw [e]
  exact ⟨by show (0 : Int).natAbs < _; decide, by dsimp only; omega, by dsimp only; omega⟩
theorem cpost_g : ∀ {x : Kd × Fm} {z : Fm × Mt}, CPre x → CPost x z → CG x.2 z
  | (.de, f), z, _, p => ⟨DefPost.d p, DefPost.e p, (DefPost.m p).le (by decide), DefPost.hf p⟩
  | (.ind r, f), z, _, p => ⟨CanPost.d p, CanPost.e p, CanPost.m p, (CanPost.f p).le (by decide)⟩
  | (.sp k, f), z, h, p => ⟨SplPost.d p, SplPost.e p, (SplPost.m p).le (by decide), spl_fb h p⟩
  | (.fl, f), z, _, p => ⟨FlcPost.d p, FlcPost.e p, (FlcPost.m p).le (by decide), (FlcPost.b p).le (by decide)⟩
def Kd.name : Kd → Str
  | .de => "definite"
  | .ind _ => "indefinite"
  | .sp _ => "split"
  | .fl => "flat"
theorem ne_id : ("indefinite" : Str) ≠ "definite" := by decide
theorem ne_sd : ("split" : Str) ≠ "definite" := by decide
theorem ne_si : ("split" : Str) ≠ "indefinite" := by decide
theorem ne_fd : ("flat" : Str) ≠ "definite" := by decide
theorem ne_fi : ("flat" : Str) ≠ "indefinite" := by decide
theorem ne_fs : ("flat" : Str) ≠ "split" := by decide
theorem fl_disc {f : Fm} (h : FlPre f) : WM.disc f = 0 := by
  rcases h.x with h | ⟨G, P, Q, _, _, h⟩
  · rw [h]; decide
  · rw [h]; exact WM.flF_disc _ _ _
theorem cpre_kind : ∀ {x : Kd × Fm}, CPre x → kindS x.2 = x.1.name ∧ FB big x.2 ∧ WM.disc x.2 < 2 ^ 64
  | (.de, f), h => by
    have hd := DefPre.d h
    refine ⟨?_, DefPre.fb h, Int.lt_trans hd (by decide)⟩
    show kindS f = "definite"
    unfold kindS; rw [if_pos hd]
  | (.ind r, f), h => by
    have h : IPre (r, f) := h
    have h2 := h.pos
    have h3 := h.root
    have h4 := h.i.lo
    have h5 := WM.sq_nn r
    have h6 := h.i.r1
    refine ⟨?_, h.fb, h2.2⟩
    show kindS f = "indefinite"
    dsimp only at h4 h6
    unfold kindS isSq
    rw [h3, if_neg (by omega), if_neg (by omega), decide_eq_false (by omega)]; rfl
  | (.sp k, f), h => by
    have h : SPre (k, f) := h
    have h2 := h.pos
    have h3 := h.root
    have h4 := h.d
    have h5 := WM.sq_pos (x := k) (by have := h.k; dsimp only at this; omega)
    refine ⟨?_, h.fb.le (by decide), h2.2⟩
    show kindS f = "split"
    dsimp only at h4
    unfold kindS isSq
    rw [h3, if_neg (by omega), if_neg (by omega), decide_eq_true h4.symm]; rfl
  | (.fl, f), h => by
    have h : FlPre f := h
    have h2 := fl_disc h
    refine ⟨?_, (fb_of h.b (Int.le_refl _)).le (by decide), by show WM.disc f < _; rw [h2]; decide⟩
    show kindS f = "flat"
    unfold kindS
    rw [h2]; rfl
/-- equivalent forms have one canonical form -/
theorem can_same : ∀ {kd : Kd} {f : Fm} {M : Mt} {z w : Fm × Mt}, WM.Gen M → CPre (kd, f) → CPre (kd, WM.act f M) → CPost (kd, f) z → CPost (kd, WM.act f M) w → z.1 = w.1
  | .de, f, M, z, w, hM, h, h', p, q => by
    have p : DefPost f z := p
    have q : DefPost (WM.act f M) w := q
    have back := WM.act_back p.d p.e
    have key : w.1 = WM.act z.1 (WM.mul (WM.inv z.2) (WM.mul M w.2)) := by
      rw [WM.act_mul, back, WM.act_mul, q.e]
    have hd : WM.det (WM.mul (WM.inv z.2) (WM.mul M w.2)) = 1 := by rw [WM.det_mul, WM.det_mul, WM.det_inv, p.d, hM.det, q.d]; rfl
    generalize WM.mul (WM.inv z.2) (WM.mul M w.2) = m at *
    have nz := WM.det_nz1 hd
    rcases p.r with ⟨_, p1, p2⟩ | ⟨_, p1, p2⟩ <;> rcases q.r with ⟨_, q1, q2⟩ | ⟨_, q1, q2⟩
    · rw [key] at q1
      rw [key, (WM.red_unique p2 p1 hd q1).1]
    · exfalso
      have := WM.worth_ge p2 p1 nz
      rw [key] at q1
      have q1 : WM.worth z.1 m.p m.r < 0 := q1
      omega
    · exfalso
      have p3 : 0 < (WM.scal z.1 (-1)).a := by simp only [WM.scal]; omega
      have := WM.worth_ge p3 p2 nz
      have e : (WM.act (WM.scal z.1 (-1)) m).a = -(w.1.a) := by rw [WM.act_scal, ← key]; simp only [WM.scal]; omega
      have e : WM.worth (WM.scal z.1 (-1)) m.p m.r = -(w.1.a) := e
      omega
    · have p3 : 0 < (WM.scal z.1 (-1)).a := by simp only [WM.scal]; omega
      have e : WM.act (WM.scal z.1 (-1)) m = WM.scal w.1 (-1) := by rw [WM.act_scal, ← key]
      rw [← e] at q2
      have := (WM.red_unique p3 p2 hd q2).1
      rw [e] at this
      exact (WM.scal_inj (by decide) this).symm
  | .ind r, f, M, z, w, hM, h, h', p, q => by
    have h : IPre (r, f) := h
    have h' : IPre (r, WM.act f M) := h'
    have p : CanPost (r, f) z := p
    have q : CanPost (r, WM.act f M) w := q
    exact WM.can_unique h.i h'.i (WM.Al.gen h.i hM) p.c q.c
  | .sp k, f, M, z, w, hM, h, h', p, q => by
    have h : SPre (k, f) := h
    have p : SplPost (k, f) z := p
    have q : SplPost (k, WM.act f M) w := q
    have hk := h.k
    obtain ⟨c, e1, c1, c2⟩ := p.c
    obtain ⟨c', e2, c3, c4⟩ := q.c
    dsimp only at hk e1 c1 c2 e2 c3 c4
    have back := WM.act_back p.d p.e
    dsimp only at back
    have key : w.1 = WM.act z.1 (WM.mul (WM.inv z.2) (WM.mul M w.2)) := by
      rw [WM.act_mul, back, WM.act_mul, q.e]
    have hd : WM.det (WM.mul (WM.inv z.2) (WM.mul M w.2)) = 1 := by rw [WM.det_mul, WM.det_mul, WM.det_inv, p.d, hM.det, q.d]; rfl
    rw [e1, e2] at key
    rw [e1, e2, WM.split_unique hk hd key.symm c1 c2 c3 c4]
  | .fl, f, M, z, w, hM, h, h', p, q => by
    have p : FlcPost f z := p
    have q : FlcPost (WM.act f M) w := q
    obtain ⟨G, a, b, e1, c1, e2, _⟩ := p.c
    obtain ⟨G', a', b', e3, c2, e4, _⟩ := q.c
    rw [e1, WM.flF_act] at e3
    have := WM.flF_inj (WM.cop_act c1 hM.det) c2 e3
    rw [e2, e4, this]
structure PcPre (x : Kd × Fm × Mt) : Prop where
  g : WM.Gen x.2.2
  a : CPre (x.1, x.2.1)
  b : CPre (x.1, WM.act x.2.1 x.2.2)
structure PcPost (x : Kd × Fm × Mt) (m : Mt) : Prop where
  d : WM.det m = 1
  e : WM.act x.2.1 m = WM.act x.2.1 x.2.2
  m : MB 156001 m
section
variable {P : Program} {w : World} {K : PySem.W.Frag} {mg : Str → Option Value} {base : Heap}
variable {X : Cx} {σ : L2.St} {H : Hp} {e : Expr} {es : List Expr}
theorem sc_canonical_form : FnScope ["form"] ["form"] (defScope sCanonicalForm) := ⟨rfl, rfl, rfl, by decide +kernel, rfl, by decide +kernel, by decide +kernel⟩
theorem ok_canonical_form (T : Tx K mg) : Ok P w K mg base "canonical_form" ["form"] 6 (SpR K (fun x : Kd × Fm => [fD x.2]) CPre CPost fmD) := by
  refine ok_of T.fCanonicalForm sc_canonical_form (fun _ _ _ _ _ _ us hl => match us, hl with | [_], _ => rfl) (spR_len fun _ => rfl) fun f cdv A outer s H0 E vs H Q hr h => ?_
  obtain ⟨⟨kd, f⟩, hv, hC, k⟩ := h
  dsimp only at hv k
  obtain _ | ⟨h1, _ | _⟩ := hv
  obtain ⟨hk, fb, hd⟩ := cpre_kind hC
  dsimp only at hk fb hd
  refine r_match (z := kd.name) (CD.to (cc_kind T hr (ca_cons (c_var 0 rfl (by assumption)) ca_nil)) (by rw [hk])) ?_
  cases kd with
  | de =>
    refine m_case (fun _ => ?_) fun n => absurd rfl n
    exact r_ret (c_callRel f (ok_reduce_definite T) (hr.mono (by decide)) (ca_cons (c_var 0 rfl (by assumption)) ca_nil) hC) fun v H1 e1 ⟨z, hz, hv⟩ => k z v H1 hz e1 hv
  | ind r =>
    refine m_case (fun n => absurd n ne_id) fun _ => m_case (fun _ => ?_) fun n => absurd rfl n
    exact r_ret (c_callRel (r, f) (ok_canonical T) (hr.mono (by decide)) (ca_cons (c_var 0 rfl (by assumption)) ca_nil) hC) fun v H1 e1 ⟨z, hz, hv⟩ => k z v H1 hz e1 hv
  | sp kk =>
    refine m_case (fun n => absurd n ne_sd) fun _ => m_case (fun n => absurd n ne_si) fun _ => m_case (fun _ => ?_) fun n => absurd rfl n
    exact r_ret (c_callRel (kk, f) (ok_canonical_split T) (hr.mono (by decide)) (ca_cons (c_var 0 rfl (by assumption)) ca_nil) hC) fun v H1 e1 ⟨z, hz, hv⟩ => k z v H1 hz e1 hv
  | fl =>
    refine m_case (fun n => absurd n ne_fd) fun _ => m_case (fun n => absurd n ne_fi) fun _ => m_case (fun n => absurd n ne_fs) fun _ => m_nil ?_
    exact r_ret (c_callRel f (ok_canonical_flat T) (hr.mono (by decide)) (ca_cons (c_var 0 rfl (by assumption)) ca_nil) hC) fun v H1 e1 ⟨z, hz, hv⟩ => k z v H1 hz e1 hv
theorem sc_proper_change : FnScope ["form", "other", "first", "m", "second", "n"] ["form", "other"] (defScope sProperChange) := ⟨rfl, rfl, rfl, by decide +kernel, rfl, by decide +kernel, by decide +kernel⟩
theorem ok_proper_change (T : Tx K mg) : Ok P w K mg base "proper_change" ["form", "other"] 7 (SpR K (fun x : Kd × Fm × Mt => [fD x.2.1, fD (WM.act x.2.1 x.2.2)]) PcPre PcPost mD) := by
  refine ok_of T.fProperChange sc_proper_change (fun _ _ _ _ _ _ us hl => match us, hl with | [_, _], _ => rfl) (spR_len fun _ => rfl) fun f cdv A outer s H0 E vs H Q hr h => ?_
  obtain ⟨⟨kd, f, M⟩, hv, ⟨hM, ha, hb⟩, k⟩ := h
  dsimp only at hv k hM ha hb
  obtain _ | ⟨h1, _ | ⟨h2, _ | _⟩⟩ := hv
  refine r_unp2R 2 3 rfl sc_proper_change.nd (c_callRel (kd, f) (ok_canonical_form T) (hr.mono (by decide)) (ca_cons (c_var 0 rfl (by assumption)) ca_nil) ha) fun z v1 v2 H1 e1 hz hz1 hz2 => ?_
  have h2 := h2.up e1
  refine r_unp2R 4 5 rfl sc_proper_change.nd (c_callRel (kd, WM.act f M) (ok_canonical_form T) (hr.mono (by decide)) (ca_cons (c_var 1 rfl (by assumption)) ca_nil) hb) fun y v3 v4 H2 e2 hy hy1 hy2 => ?_
  have hz1 := hz1.up e2
  have hz2 := hz2.up e2
  have hs := can_same hM ha hb hz hy
  have gz := cpost_g ha hz
  have gy := cpost_g hb hy
  refine r_if0 (t_neD (hu64 hr) (c_var 2 rfl (by assumption)) (c_var 4 rfl (by assumption)) rfl rfl) (fun hn => ?_) fun _ => ?_
  · rw [eqv_f, hs, decide_eq_true rfl] at hn; cases hn
  · have m1 := gz.m.le (show 78000 ≤ big by decide)
    have m2 := gy.m.le (show 78000 ≤ big by decide)
    have m3 := MB.inv m2
    have dy := gy.d
    refine r_ret (cc_multiply T hr (ca_cons (c_var 3 rfl (by assumption)) (ca_cons (cc_inverse T hr (ca_cons (c_var 5 rfl (by assumption)) ca_nil)) ca_nil))) fun v H3 e3 hv => k (WM.mul z.2 (WM.inv y.2)) v H3 ⟨?_, ?_, (MB.mul gz.m (MB.inv gy.m)).le (by decide)⟩ ((e1.trans e2).trans e3) hv
    · rw [WM.det_mul, WM.det_inv, gz.d, gy.d]; rfl
    · show WM.act f (WM.mul z.2 (WM.inv y.2)) = WM.act f M
      have := gz.e
      dsimp only at this
      rw [WM.act_mul, this, hs]
      exact WM.act_back gy.d gy.e
end
end WC
namespace WC
open PySem PySem.Spec PyProof.Rows L2
open Evl (Ex)
open WM (Fm Mt)
section
variable {X : Cx} {σ : L2.St} {H H0 H' : Hp} {a b c e : Expr} {es : List Expr} {pos : Pos} {d d' : PyData} {P : V → Hp → Prop} {D : Ends} {rest : List Stmt} {ds ds' : List PyData}
/-- [e for x in a list], the list one's own -/
theorem c_lcN {α : Type} (j : Nat) {x : Str} {px : Pos} {iter elt : Expr} {scope : Scope} {l : List α} {cD gD : α → PyData} (hc : X.calm = true) (hN : X.N.Nodup) (hi : CD X iter σ H (.list (l.map cD))) (hz : l.length ≤ 40000)
    (he : ∀ (s : Shared) (H0 : Hp) (C : Addr) (cl : List (Str × Addr)) (fp : List Addr) y v H1, y ∈ l → Ex H H1 → Dp X.K H1 v (cD y) → CD (X.blk s H0 scope (compEnvC scope cl C X.env) fp) elt ((σ.set j none).set j (some v)) H1 (gD y)) (hf : ∀ y, lfree (gD y) = true)
    (ok : BlkOk X.N X.env.scope scope [(x, j)]) (hj : X.N[j]? = some x := by rfl) (hx : ∀ (C : Addr) (cl : List (Str × Addr)), Loc (compEnvC scope cl C X.env).scope x := by first | exact fun _ _ => Or.inl rfl | exact fun _ _ => Or.inr rfl)
    (hl : ∀ (C : Addr) (cl : List (Str × Addr)), (scope.names.lookup x == some .cell) = true ∨ (compEnvC scope cl C X.env).scope.names.lookup x = some .local := by first | exact fun _ _ => .inl rfl | exact fun _ _ => .inr rfl) (hs : ∀ x, foldedSetIterable iter X.env x = pure x := by intro _; rfl) :
    CR X (.ListComp elt [⟨.Name x px, iter, [], 0⟩] scope pos) σ H (fun v H2 => ∃ p, v = .ref p ∧ Own X.K H p (l.map gD) H2) := by
  refine of_pe (pe_lc (own := [(x, j)]) (g := gName j) (tt := tYes) hc hN (pi_list pw) ok (fun s H C cl fp => pg_name hN hj (hx C cl) (hl C cl)) (fun _ _ _ _ _ => pts_nil) pwb hs) fun H0 e0 Q q => ?_
  refine hi H0 e0 _ fun v H1 e1 hv => ?_
  obtain _ | _ | _ | _ | ⟨hp, hall⟩ | _ := hv
  rename_i p xs
  have hlen : xs.length = l.length := by have := hall.len; rw [List.length_map] at this; exact this
  refine ⟨p, rfl, ⟨xs, hp⟩, fun Dl hD => ?_⟩
  refine lc_list (xs := xs) (fun i H' => Ex H1 H' ∧ ∃ ys, H' Dl = some (.lst ys) ∧ DpAll X.K H' ys ((l.take i).map gD)) ⟨Ex.new hD, [], upd_same, .nil⟩ (fun i H' _ hP => Evl.ex_l hP.1 hp) (fun i x H' hi hP => ?_) fun H' hP => ?_
  · obtain ⟨ex, ys, hy, hyall⟩ := hP
    have hi2 : i < l.length := by have := (List.getElem?_eq_some_iff.mp hi).1; omega
    obtain ⟨x', k1, k2⟩ := hall.get (i := i) (d := cD l[i]) (by rw [List.getElem?_map, List.getElem?_eq_getElem hi2]; rfl)
    rw [hi] at k1; cases k1
    refine ⟨wipe_one _ _ _, ?_⟩
    intro s H2 C cl fp
    refine he s H2 C cl fp l[i] x H' (List.getElem_mem hi2) ((e0.trans e1).trans ex) (k2.up ex) H' (Ex.refl H') _ fun y H4 e4 hd => ?_
    have h4 := e4 _ _ hy
    have hl2 := hyall.len
    rw [List.length_map, List.length_take] at hl2
    refine ⟨ys, h4, Evl.sz_lt (by omega), Ex.mut (ex.trans e4) hD, _, upd_same, ?_⟩
    have et := Et.lst (o := .lst (ys ++ [y])) h4
    have htake : l.take (i + 1) = l.take i ++ [l[i]] := by rw [List.take_add_one, List.getElem?_eq_getElem hi2]; rfl
    rw [htake, List.map_append]
    exact (dpta et _ _ (lfreeAll_map hf _) (hyall.up e4)).app (.cons (dpt et _ _ (hf _) hd) .nil)
  · obtain ⟨ex, ys, hy, hyall⟩ := hP
    rw [hlen, List.take_length] at hyall
    exact q _ _ (e1.trans ex) ⟨Dl, rfl, Own.frs (e0.trans e1) hD, (e0.trans e1).trans ex, ys, hy, hyall⟩

theorem m_hit {z y : Str} {body : List Stmt} {cs : List MatchCase} {p1 p2 : Pos} {k : Nat} (e : z = y) (h : WS X body D σ H) : MC X (⟨.MatchValue (.Constant (.str y) k p1) p2, none, body⟩ :: cs) z D σ H := m_case (fun _ => h) (fun n => absurd e n)
theorem m_miss {z y : Str} {body : List Stmt} {cs : List MatchCase} {p1 p2 : Pos} {k : Nat} (e : z ≠ y) (h : MC X cs z D σ H) : MC X (⟨.MatchValue (.Constant (.str y) k p1) p2, none, body⟩ :: cs) z D σ H := m_case (fun n => absurd n e) (fun _ => h)
/-- (xs, e), the list one's own -/
def Pair (K : PySem.W.Frag) (H0 : Hp) (ds : List PyData) (d : PyData) (v : V) (H : Hp) : Prop := ∃ t p g, v = .ref t ∧ SqT K H t [.ref p, g] ∧ Own K H0 p ds H ∧ Dp K H g d
theorem Pair.up {K : PySem.W.Frag} {H0 H H' : Hp} {ds : List PyData} {d : PyData} {v : V} (h : Pair K H0 ds d v H) (e : Ex H H') : Pair K H0 ds d v H' := by
  obtain ⟨t, p, g, h1, h2, h3, h4⟩ := h
  exact ⟨t, p, g, h1, Evl.ex_t e h2, h3.up e, h4.up e⟩
theorem Pair.low {K : PySem.W.Frag} {H0 H1 H : Hp} {ds : List PyData} {d : PyData} {v : V} (e : Ex H0 H1) (h : Pair K H1 ds d v H) : Pair K H0 ds d v H := by
  obtain ⟨t, p, g, h1, h2, h3, h4⟩ := h
  exact ⟨t, p, g, h1, h2, h3.low e, h4⟩
theorem c_pair {k} (ha : CR X a σ H fun v H2 => ∃ p, v = .ref p ∧ Own X.K H p ds H2) (hb : CD X b σ H d) (hs : starEach [a, b] X.env = (false, eval a X.env) :: starEach [b] X.env := by rfl) (hs2 : starEach [b] X.env = (false, eval b X.env) :: starEach [] X.env := by rfl) :
    CR X (.Tuple [a, b] k pos) σ H (Pair X.K H ds d) := of_pe (pe_tup (pa_cons pw (pa_cons pw pa_nil hs2) hs)) fun H1 e1 Q q =>
  ha H1 e1 _ fun v H2 e2 hv => by
    obtain ⟨p, rfl, ho⟩ := hv
    refine hb H2 (e1.trans e2) _ fun g H3 e3 hg => ?_
    exact ⟨Evl.sz_of (by show 2 ≤ 100000; decide), fun t ht => q _ _ ((e2.trans e3).trans (Ex.new ht)) ⟨t, p, g, rfl, Evl.st_of upd_same, (ho.up e3).up (Ex.new ht), hg.up (Ex.new ht)⟩⟩
end
/-! ### the group of self-changes -/
abbrev gD : Option Mt → PyData
  | none => .none
  | some m => mD m
abbrev twoM : List Mt := [WM.one, WM.neg WM.one]
abbrev twoD : List PyData := [mD ⟨1, 0, 0, 1⟩, mD ⟨-1, 0, 0, -1⟩]
def SgPost : Kd × Fm → List Mt → Option Mt → Prop
  | (.de, f), grp, gen => (∃ h m k, (k = 1 ∨ k = -1) ∧ WM.det m = 1 ∧ WM.act f m = WM.scal h k ∧ 0 < h.a ∧ WM.RedP h ∧ MB 42 m ∧ grp = (WM.selfs h).map (WM.conj m)) ∧ gen = none
  | (.ind _, f), grp, gen => grp = twoM ∧ gen = some (genM f)
  | (.sp _, _), grp, gen => grp = twoM ∧ gen = none
  | (.fl, f), grp, gen => grp = twoM ∧ ∃ G p q, f = WM.flF G p q ∧ WM.Cop p q ∧ G ≠ 0 ∧ gen = some (WM.shear p q)
def SgPre : Kd × Fm → Prop
  | (.ind r, f) => IPre (r, f) ∧ ScPre f
  | x => CPre x
theorem SgPre.c : ∀ {x : Kd × Fm}, SgPre x → CPre x
  | (.de, _), h => h
  | (.ind _, _), h => h.1
  | (.sp _, _), h => h
  | (.fl, _), h => h
def SpSg (K : PySem.W.Frag) : Sp := fun vs H Q _ => ∃ x : Kd × Fm, DpAll K H vs [fD x.2] ∧ SgPre x ∧ (x.2 = WM.zero → ∀ H', Ex H H' → Q .non H') ∧ (x.2 ≠ WM.zero → ∀ v grp gen H', Ex H H' → Pair K H (grp.map mD) (gD gen) v H' → SgPost x grp gen → Q v H')
theorem spSg_len {K : PySem.W.Frag} : ∀ vs H Q E, SpSg K vs H Q E → vs.length = 1 := fun vs H Q E ⟨a, hv, _⟩ => hv.len
theorem selfs_small {h : Fm} {o : Mt} (ho : o ∈ WM.selfs h) : MB 2 o := by
  have key : ∀ o ∈ WM.selfs1 h, MB 2 o := by
    intro o ho
    unfold WM.selfs1 at ho
    simp only [List.mem_append] at ho
    rcases ho with (ho | ho) | ho
    · rw [List.mem_singleton.mp ho]; exact ⟨by decide, by decide, by decide, by decide⟩
    · split at ho
      · rw [List.mem_singleton.mp ho]; exact ⟨by decide, by decide, by decide, by decide⟩
      · cases ho
    · split at ho
      · simp only [List.mem_cons, List.not_mem_nil, or_false] at ho
        rcases ho with rfl | rfl
        · exact ⟨by decide, by decide, by decide, by decide⟩
        · exact ⟨by decide, by decide, by decide, by decide⟩
      · cases ho
  unfold WM.selfs at ho
  rcases List.mem_append.mp ho with ho | ho
  · exact key o ho
  · obtain ⟨o', h1, rfl⟩ := List.mem_map.mp ho
    have := key o' h1
    have a1 := this.p
    have a2 := this.q
    have a3 := this.r
    have a4 := this.s
    exact ⟨by show (-o'.p).natAbs < _; omega, by show (-o'.q).natAbs < _; omega, by show (-o'.r).natAbs < _; omega, by show (-o'.s).natAbs < _; omega⟩
theorem selfs_le (h : Fm) : (WM.selfs h).length ≤ 10 := by
  have key : (WM.selfs1 h).length ≤ 4 := by
    unfold WM.selfs1
    rw [List.length_append, List.length_append]
    have a : (if h.a = h.c ∧ h.b = 0 then [(⟨0, -1, 1, 0⟩ : Mt)] else []).length ≤ 1 := by split <;> decide
    have b : (if h.a = h.b ∧ h.b = h.c then [(⟨0, -1, 1, 1⟩ : Mt), ⟨1, 1, -1, 0⟩] else []).length ≤ 2 := by split <;> decide
    have : [WM.one].length = 1 := rfl
    omega
  unfold WM.selfs
  rw [List.length_append, List.length_map]
  omega
section
variable {P : Program} {w : World} {K : PySem.W.Frag} {mg : Str → Option Value} {base : Heap}
variable {X : Cx} {σ : L2.St} {H : Hp} {e : Expr} {es : List Expr}
theorem sc_self_group : FnScope ["form", "reduced", "m", "back", "positive", "one"] ["form"] (defScope sSelfGroup) := ⟨rfl, rfl, rfl, by decide +kernel, rfl, by decide +kernel, by decide +kernel⟩
theorem ok_self_group (T : Tx K mg) : Ok P w K mg base "self_group" ["form"] 7 (SpSg K) := by
  refine ok_of T.fSelfGroup sc_self_group (fun _ _ _ _ _ _ us hl => match us, hl with | [_], _ => rfl) spSg_len fun f cdv A outer s H0 E vs H Q hr h => ?_
  obtain ⟨⟨kd, f⟩, hv, hC, kz, k⟩ := h
  dsimp only at hv k kz
  obtain _ | ⟨h1, _ | _⟩ := hv
  rename_i vf
  obtain ⟨hk, fb, hd⟩ := cpre_kind hC.c
  dsimp only at hk fb hd
  refine r_unp2R 1 2 rfl sc_self_group.nd (c_callRel (kd, f) (ok_canonical_form T) (hr.mono (by decide)) (ca_cons (c_var 0 rfl (by assumption)) ca_nil) hC.c) fun z v1 v2 H1 e1 hz hz1 hz2 => ?_
  have h1 := h1.up e1
  have gz := cpost_g hC.c hz
  have m1 := gz.m.le (show 78000 ≤ big by decide)
  have d1 := gz.d
  refine r_asg 3 sc_self_group.nd (cc_inverse T hr (ca_cons (c_var 2 rfl (by assumption)) ca_nil)) fun v3 H2 e2 hb => ?_
  have h1 := h1.up e2
  have hz1 := hz1.up e2
  have hz2 := hz2.up e2
  cases kd with
  | de =>
    have hk : kindS f = "definite" := hk
    refine r_match (z := "definite") (CD.to (cc_kind T hr (ca_cons (c_var 0 rfl (by assumption)) ca_nil)) (by rw [hk])) ?_
    refine m_hit rfl ?_
    have hz : DefPost f z := hz
    have hpos : ∃ h k', (k' = 1 ∨ k' = -1) ∧ WM.act f z.2 = WM.scal h k' ∧ 0 < h.a ∧ WM.RedP h ∧ h = (if z.1.a < 0 then WM.scal z.1 (-1) else z.1) := by
      rcases hz.r with ⟨_, q1, q2⟩ | ⟨_, q1, q2⟩
      · refine ⟨z.1, 1, .inl rfl, ?_, q2, q1, by rw [if_neg (by omega)]⟩
        rw [hz.e]; apply Fm.eq <;> simp only [WM.scal] <;> omega
      · refine ⟨WM.scal z.1 (-1), -1, .inr rfl, ?_, by simp only [WM.scal]; omega, q2, by rw [if_pos q1]⟩
        rw [hz.e, scal_neg_neg]
    obtain ⟨h, k', p1, p2, p3, p4, p5⟩ := hpos
    have zb := gz.b.le (show 42 ≤ big by decide)
    have mm1 : (-1 : Int).natAbs < 2 ^ big := bt_le (n := 1) (by decide) (by decide)
    refine r_asg 4 sc_self_group.nd (c_var 1 rfl (by assumption)) fun v4 H3 e3 hp => ?_
    have hz1 := hz1.up e3
    have hz2 := hz2.up e3
    have hb := hb.up e3
    refine r_ifM (fun σ' H' => ∃ v5, σ' = [some vf, some v1, some v2, some v3, some v5, none] ∧ Dp K H' v5 (fD h) ∧ Ex H3 H') (t_lt (c_ixT 0 (c_var 1 rfl (by assumption)) c_int rfl rfl (fun _ _ => rfl)) c_int) (fun hc => ?_) (fun hc => ?_) fun σ' H' hM => ?_
    · have hc : z.1.a < 0 := of_decide_eq_true hc
      rw [if_pos hc] at p5
      rw [p5]
      exact r_asg 4 sc_self_group.nd (cc_scaled T hr (ca_cons (c_var 1 rfl (by assumption)) (ca_cons (c_neg c_int) ca_nil))) fun v5 H4 e4 h5 => r_nil fun H5 e5 => ⟨v5, rfl, h5.up e5, e4.trans e5⟩
    · have hc : ¬ z.1.a < 0 := of_decide_eq_false hc
      rw [if_neg hc] at p5
      rw [p5]
      exact r_nil fun H5 e5 => ⟨v4, rfl, hp.up e5, e5⟩
    · obtain ⟨v5, rfl, h5, e5⟩ := hM
      have hz2 := hz2.up e5
      have hb := hb.up e5
      refine r_ret (P := Pair K H' ((WM.selfs h).map fun o => mD (WM.conj z.2 o)) .none) (c_pair (c_lcN (l := WM.selfs h) (cD := mD) (gD := fun o => mD (WM.conj z.2 o)) 5 (x := "one") rfl sc_self_group.nd ?_ (by have := selfs_le h; omega) (fun s H6 C cl fp o v H7 ho e7 hv => ?_) (fun _ => rfl) (blkOk_by (N := ["form", "reduced", "m", "back", "positive", "one"]) (sc := defScope sSelfGroup) (by decide +kernel))) ?_) fun v H6 e6 hv => ?_
      · exact c_callF h (ok_self_changes T) (hr.mono (by decide)) (ca_cons (c_var 4 rfl (by assumption)) ca_nil) trivial
      · have hz2 := hz2.up e7
        have hb := hb.up e7
        have ob := (selfs_small ho).le (show 2 ≤ big by decide)
        have mb : MB big (WM.mul z.2 o) := (MB.mul gz.m (selfs_small ho)).le (by decide)
        have ib := MB.inv m1
        exact (cc_multiply T hr (ca_cons (cc_multiply T hr (ca_cons (c_var 2 rfl (by assumption)) (ca_cons (c_var 5 rfl (by assumption)) ca_nil))) (ca_cons (c_var 3 rfl (by assumption)) ca_nil)))
      · exact c_non
      · have ex := (((e1.trans e2).trans e3).trans e5)
        refine k (fun e => ?_) v _ none H6 (ex.trans e6) ((Pair.low ex) (by rw [List.map_map]; exact hv)) ⟨⟨h, z.2, k', p1, gz.d, p2, p3, p4, hz.m, rfl⟩, rfl⟩
        have := hC.c
        have := DefPre.d this
        rw [e] at this
        exact absurd this (by decide)
  | ind r =>
    obtain ⟨hI, hS⟩ := (show IPre (r, f) ∧ ScPre f from hC)
    have hk : kindS f = "indefinite" := hk
    refine r_match (z := "indefinite") (CD.to (cc_kind T hr (ca_cons (c_var 0 rfl (by assumption)) ca_nil)) (by rw [hk])) ?_
    refine m_miss ne_id (m_hit rfl ?_)
    refine r_ret (P := Pair K H2 twoD (mD (genM f))) ?_ ?_
    · refine c_pair ?_ ?_
      · refine c_lstN (ds := twoD) ?_
        exact (ca_cons (c_tup (ca_cons c_int (ca_cons c_int (ca_cons c_int (ca_cons c_int ca_nil))))) (ca_cons (c_tup (ca_cons (c_neg c_int) (ca_cons c_int (ca_cons c_int (ca_cons (c_neg c_int) ca_nil))))) ca_nil))
      exact (cc_self_change T hr (ca_cons (c_var 0 rfl (by assumption)) ca_nil))
    intro v H6 e6 hv
    refine k (fun e => ?_) v twoM (some (genM f)) H6 ((e1.trans e2).trans e6) (Pair.low (e1.trans e2) hv) ⟨rfl, rfl⟩
    exact hS.a (by rw [e]; rfl)
  | sp kk =>
    have hS : SPre (kk, f) := hC
    have hk : kindS f = "split" := hk
    refine r_match (z := "split") (CD.to (cc_kind T hr (ca_cons (c_var 0 rfl (by assumption)) ca_nil)) (by rw [hk])) ?_
    refine m_miss ne_sd (m_miss ne_si (m_hit rfl ?_))
    refine r_ret (P := Pair K H2 twoD .none) ?_ ?_
    · refine c_pair ?_ ?_
      · refine c_lstN (ds := twoD) ?_
        exact (ca_cons (c_tup (ca_cons c_int (ca_cons c_int (ca_cons c_int (ca_cons c_int ca_nil))))) (ca_cons (c_tup (ca_cons (c_neg c_int) (ca_cons c_int (ca_cons c_int (ca_cons (c_neg c_int) ca_nil))))) ca_nil))
      exact c_non
    intro v H6 e6 hv
    refine k (fun e => ?_) v twoM none H6 ((e1.trans e2).trans e6) (Pair.low (e1.trans e2) hv) ⟨rfl, rfl⟩
    have h4 := hS.d
    have h5 := WM.sq_pos (x := kk) (by have := hS.k; dsimp only at this; omega)
    dsimp only at h4
    rw [e] at h4
    rw [show WM.disc WM.zero = 0 by decide] at h4
    omega
  | fl =>
    have hF : FlPre f := hC
    have hk : kindS f = "flat" := hk
    refine r_match (z := "flat") (CD.to (cc_kind T hr (ca_cons (c_var 0 rfl (by assumption)) ca_nil)) (by rw [hk])) ?_
    refine m_miss ne_fd (m_miss ne_fi (m_miss ne_fs (m_nil ?_)))
    have hz : FlcPost f z := hz
    obtain ⟨G, p, q, q1, q2, q3, q4⟩ := hz.c
    refine r_if0 (t_eqD (hu64 hr) (c_var 1 rfl (by assumption)) (c_tup (ca_cons c_int (ca_cons c_int (ca_cons c_int ca_nil)))) rfl rfl) (fun hc => ?_) fun hc => ?_
    · have hc : PyData.eqv (fD z.1) (fD WM.zero) = true := hc
      rw [eqv_f, decide_eq_true_eq] at hc
      refine r_ret c_non fun v H3 e3 hv => ?_
      rw [hv.non_eq]
      refine kz ?_ H3 ((e1.trans e2).trans e3)
      rw [hc] at q3
      have : G = 0 := (congrArg Fm.a q3).symm
      rw [q1, this]
      unfold WM.flF WM.zero
      apply Fm.eq <;> dsimp only <;> omega
    · have hc : PyData.eqv (fD z.1) (fD WM.zero) = false := hc
      rw [eqv_f, decide_eq_false_iff_not] at hc
      have hG : G ≠ 0 := fun e => hc (by rw [q3, e]; rfl)
      have sb : MB big (⟨1, 0, 1, 1⟩ : Mt) := (show MB 1 _ from ⟨by decide, by decide, by decide, by decide⟩).le (by decide)
      have mb : MB big (WM.mul z.2 ⟨1, 0, 1, 1⟩) := (MB.mul (b := 1) gz.m ⟨by decide, by decide, by decide, by decide⟩).le (by decide)
      have ib := MB.inv m1
      refine r_ret (P := Pair K H2 twoD (mD (WM.shear p q))) ?_ ?_
      · refine c_pair ?_ ?_
        · refine c_lstN (ds := twoD) ?_
          exact (ca_cons (c_tup (ca_cons c_int (ca_cons c_int (ca_cons c_int (ca_cons c_int ca_nil))))) (ca_cons (c_tup (ca_cons (c_neg c_int) (ca_cons c_int (ca_cons c_int (ca_cons (c_neg c_int) ca_nil))))) ca_nil))
        refine CD.to (d := mD (WM.mul (WM.mul z.2 ⟨1, 0, 1, 1⟩) (WM.inv z.2))) ?_ (by rw [q4 hG])
        exact (cc_multiply T hr (ca_cons (cc_multiply T hr (ca_cons (c_var 2 rfl (by assumption)) (ca_cons (c_glob_SHEAR T) ca_nil))) (ca_cons (c_var 3 rfl (by assumption)) ca_nil)))
      intro v H6 e6 hv
      refine k (fun e => ?_) v twoM (some (WM.shear p q)) H6 ((e1.trans e2).trans e6) (Pair.low (e1.trans e2) hv) ⟨rfl, G, p, q, q1, q2, hG, rfl⟩
      rw [e] at q1
      refine hG (WM.flF_inj (P' := 1) (Q' := 0) q2 ⟨1, 0, by decide⟩ (q1.symm.trans ?_))
      decide
end
end WC
namespace WC
open PySem PySem.Spec PyProof.Rows L2
open Evl (Ex)
open WM (Fm Mt)
/-! ### parts that change the law's state -/
/-- as CR, the heap left to P -/
def CM (X : Cx) (e : Expr) (σ : L2.St) (H : Hp) (P : V → Hp → Prop) : Prop := ∀ Q : VK, (∀ v H2, P v H2 → Q v H2) → wE X e σ H Q
/-- all but what v names stays -/
def Mu (v : V) (H H' : Hp) : Prop := ∀ a u, .ref a ≠ v → H a = some u → H' a = some u
theorem Mu.refl (v : V) (H : Hp) : Mu v H H := fun _ _ _ h => h
theorem Mu.trans {v : V} {H H1 H2 : Hp} (a : Mu v H H1) (b : Mu v H1 H2) : Mu v H H2 := fun x u n h => b x u n (a x u n h)
theorem Mu.of {v : V} {H H' : Hp} (e : Ex H H') : Mu v H H' := fun a u _ h => e a u h
/-- the law's state -/
structure Sta (K : PySem.W.Frag) (n : Nat) (v : V) (H : Hp) : Prop where
  x : ∃ (p l : Addr) (ns : List Int) (t : Nat), v = .ref p ∧ H p = some (.lst [.ref l, .int t]) ∧ SqL K H l (ns.map V.int) ∧ p ≠ l ∧ ns.length = 120 ∧ (∀ i ∈ ns, 0 ≤ i ∧ i < 1000) ∧ t ≤ n
theorem Sta.up {K : PySem.W.Frag} {n : Nat} {v : V} {H H' : Hp} (h : Sta K n v H) (e : Ex H H') : Sta K n v H' := by
  obtain ⟨p, l, ns, t, h1, h2, h3, h4⟩ := h.x
  exact ⟨p, l, ns, t, h1, e _ _ h2, Evl.ex_l e h3, h4⟩
theorem Sta.le {K : PySem.W.Frag} {n m : Nat} {v : V} {H : Hp} (h : Sta K n v H) (hm : n ≤ m) : Sta K m v H := by
  obtain ⟨p, l, ns, t, h1, h2, h3, h4, h5, h6, h7⟩ := h.x
  exact ⟨p, l, ns, t, h1, h2, h3, h4, h5, h6, Nat.le_trans h7 hm⟩
theorem Sta.et {K : PySem.W.Frag} {n : Nat} {v : V} {H H' : Hp} (h : Sta K n v H) (m : Mu v H H') : Et H H' := fun a u e nl => by
  obtain ⟨p, l, ns, t, h1, h2, _⟩ := h.x
  refine m a u (fun e2 => ?_) e
  rw [h1] at e2
  cases e2
  rw [h2] at e
  cases e
  exact nl _ rfl
theorem Sta.old {K : PySem.W.Frag} {n : Nat} {v : V} {H : Hp} {a : Addr} (h : Sta K n v H) (ha : H a = none) : .ref a ≠ v := fun e => by
  obtain ⟨p, l, ns, t, h1, h2, _⟩ := h.x
  rw [h1] at e; cases e
  rw [h2] at ha; cases ha
theorem muLst {v : V} {K : PySem.W.Frag} {ds : List PyData} {l : Addr} {vs : List V} {H H' : Hp} {n : Nat} (hs : Sta K n v H) (m : Mu v H H') (hn : .ref l ≠ v) (h : H l = some (.lst vs)) (hd : DpAll K H vs ds) (hf : lfreeAll ds = true) : H' l = some (.lst vs) ∧ DpAll K H' vs ds := ⟨m _ _ hn h, dpta (hs.et m) _ _ hf hd⟩
section
variable {X : Cx} {σ : L2.St} {H H0 H' : Hp} {a b c e idx : Expr} {es : List Expr} {pos : Pos} {d d' : PyData} {P Pa : V → Hp → Prop} {D : Ends} {rest : List Stmt} {ds ds' : List PyData}
theorem of_peM {t : TE} (h : PE X e t) (ev : ∀ Q : VK, (∀ v H2, P v H2 → Q v H2) → t σ H Q) : CM X e σ H P := fun Q q pins s I => h.run pins s σ H Q I (ev Q q)
theorem CM.imp {P' : V → Hp → Prop} (h : CM X e σ H P) (hi : ∀ v H1, P v H1 → P' v H1) : CM X e σ H P' := fun Q q => h Q fun v H2 hv => q v H2 (hi v H2 hv)
theorem CR.m (h : CR X e σ H P) : CM X e σ H (fun v H2 => Ex H H2 ∧ P v H2) := fun Q q => h H (Ex.refl H) Q fun v H2 e2 hv => q v H2 ⟨e2, hv⟩
theorem cm_op {op : Operator} {r : R2} (ho : OpR X (binaryOp op) r) (ha : CM X a σ H Pa) (hb : ∀ v H2, Pa v H2 → CM X b σ H2 fun u H3 => ∀ Q : VK, (∀ w H4, P w H4 → Q w H4) → r v u H3 Q) : CM X (.BinOp a op b pos) σ H P :=
  of_peM (pe_op ho pw pw) fun Q q => ha _ fun v H2 hv => hb v H2 hv _ fun u H3 hu => hu Q q
theorem mr_asg (i : Nat) {x : Str} {p' : Pos} (hN : X.N.Nodup) (he : ∀ H1, Ex H H1 → CM X e σ H1 P) (k : ∀ v H1, P v H1 → WS X rest D (σ.set i (some v)) H1) (hi : X.N[i]? = some x := by rfl) (hx : Loc X.env.scope x := by first | exact Or.inl rfl | exact Or.inr rfl)
    (hs : swapsWith e (some (.Name x p')) pos.line X.env = pure false := by rfl) (hf : X.fn x = true ∨ X.env.scope.names.lookup x = some .local := by first | exact .inl rfl | exact .inr rfl) : WS X (.Assign [.Name x p'] e pos :: rest) D σ H :=
  ws_of (ps_set hN hi hx pw hs hf) fun H1 e1 => he H1 e1 _ fun v H2 hv => k v H2 hv H2 (Ex.refl H2)
theorem mr_ret (he : ∀ H1, Ex H H1 → CM X e σ H1 P) (k : ∀ v H1, P v H1 → D.rt v H1) : WS X (.Return (some e) pos :: rest) D σ H :=
  ws_of (ps_ret pw) fun H1 e1 => he H1 e1 _ fun v H2 hv => k v H2 hv
theorem cm_call {x : Str} {ps : List Str} {k : Nat} {sp : Sp} {p : Pos} {Pv : List V → Hp → Prop} (G : OkX X x ps k sp) (hr : Room k X.A) (ha : ∀ Q : List V → Hp → Prop, (∀ vs H1, Pv vs H1 → Q vs H1) → wA X (e :: es) σ H Q)
    (hs : ∀ vs H1, Pv vs H1 → ∀ Q : VK, (∀ v H2, P v H2 → Q v H2) → sp vs H1 Q E0)
    (hg : Gl X x := by rfl) (hdb : (x == ("__debug__" : Str)) = false := by decide) (he : starEach (e :: es) X.env = (false, eval e X.env) :: starEach es X.env := by rfl) (hpl : (backTo pos (starEach es X.env)).any (·.1) = false := by rfl) : CM X (.Call (.Name x p) (e :: es) [] pos) σ H P := by
  obtain ⟨f, fd, hm, hk, hb, F⟩ := G
  refine of_peM (pe_call F hr hg hm hk hb .nil pass0 pwa hdb he hpl) fun Q q => ha _ fun vs H2 hv => ?_
  show sp (vs ++ []) H2 Q E0
  rw [List.append_nil]
  exact hs vs H2 hv Q q
/-- the arguments of the state's functions: the state, and a number -/
theorem wa_st {K : PySem.W.Frag} {n : Nat} {vs : V} {m : Int} (i : Nat) {x : Str} {px : Pos} (hi : σ[i]? = some (some vs)) (hm : CD X b σ H (.int m)) (hN : X.N[i]? = some x := by rfl) (hv : Vis X.env.scope x := by first | exact Or.inl rfl | exact Or.inr (Or.inl rfl) | exact Or.inr (Or.inr rfl)) (hdb : (x == ("__debug__" : Str)) = false := by decide)
    (hcd : (x == ("__classdict__" : Str)) = false := by decide) (hs1 : starEach [.Name x px, b] X.env = (false, eval (.Name x px) X.env) :: starEach [b] X.env := by rfl) (hs2 : starEach [b] X.env = (false, eval b X.env) :: starEach [] X.env := by rfl) :
    ∀ Q : List V → Hp → Prop, (∀ ws H1, (ws = [vs, .int m] ∧ Ex H H1) → Q ws H1) → wA X [.Name x px, b] σ H Q := fun Q q pos pins s I =>
  (pa_cons (pv i hN hv hdb hcd) (pa_cons pw pa_nil hs2) hs1).run pos pins s σ H Q I ⟨vs, hi, hm H (Ex.refl H) _ fun v H2 e2 hv => by
    rw [hv.int_eq]
    exact q _ _ ⟨rfl, e2⟩⟩
theorem wa_st1 {vs : V} (i : Nat) {x : Str} {px : Pos} (hi : σ[i]? = some (some vs)) (hN : X.N[i]? = some x := by rfl) (hv : Vis X.env.scope x := by first | exact Or.inl rfl | exact Or.inr (Or.inl rfl) | exact Or.inr (Or.inr rfl)) (hdb : (x == ("__debug__" : Str)) = false := by decide)
    (hcd : (x == ("__classdict__" : Str)) = false := by decide) (hs1 : starEach [.Name x px] X.env = (false, eval (.Name x px) X.env) :: starEach [] X.env := by rfl) :
    ∀ Q : List V → Hp → Prop, (∀ ws H1, (ws = [vs] ∧ Ex H H1) → Q ws H1) → wA X [.Name x px] σ H Q := fun Q q pos pins s I =>
  (pa_cons (pv i hN hv hdb hcd) pa_nil hs1).run pos pins s σ H Q I ⟨vs, hi, q _ _ ⟨rfl, Ex.refl H⟩⟩
/-- a display of data, indexed by what a part that changes the state gives -/
theorem cm_ixLit {K : PySem.W.Frag} {n : Nat} {vs : V} {R : Nat → Hp → Prop} {p2 : Pos} (hs : Sta X.K n vs H) (he : CDA X es σ H ds) (hz : ds.length ≤ 1000) (hf : lfreeAll ds = true) (hi : ∀ H2, Ex H H2 → CM X idx σ H2 fun v H3 => ∃ r : Nat, v = .int r ∧ r < ds.length ∧ Mu vs H2 H3 ∧ R r H3) (hp : PlainIx idx) :
    CM X (.Subscript (.List es p2) idx pos) σ H (fun v H3 => ∃ (r : Nat) (h : r < ds.length), Dp X.K H3 v ds[r] ∧ Mu vs H H3 ∧ R r H3) :=
  of_peM (pe_ix ix_list (pe_lst pwa) pw hp) fun Q q => he H (Ex.refl H) _ fun ws H1 e1 hws => ⟨Evl.sz_of (by rw [hws.len]; omega), fun p hp => by
    refine hi _ (e1.trans (Ex.new hp)) _ fun v H3 hv => ?_
    obtain ⟨r, rfl, hr, hm, hR⟩ := hv
    have hs2 := hs.up (e1.trans (Ex.new (o := .lst ws) hp))
    obtain ⟨k1, k2⟩ := muLst (l := p) (vs := ws) hs2 hm (fun e => (hs.up e1).old hp e) upd_same (hws.up (Ex.new hp)) hf
    obtain ⟨v0, k3, k4⟩ := k2.get (i := r) (d := ds[r]) (List.getElem?_eq_getElem hr)
    exact ⟨p, ws, (r : Int), v0, rfl, rfl, Evl.sq_of k1, atI_nat k3, q v0 H3 ⟨r, hr, k4, (Mu.of (e1.trans (Ex.new hp))).trans hm, hR⟩⟩⟩
end
/-! ### the law's numbers -/
def SpNx (K : PySem.W.Frag) : Sp := fun vs H Q _ => ∃ v n, ∃ many : Int, vs = [v, .int many] ∧ Sta K n v H ∧ n ≤ 100000 ∧ 0 < many ∧ many ≤ 1000 ∧ ∀ (r : Int) H', 0 ≤ r → r < many → Sta K (n + 1) v H' → Mu v H H' → Q (.int r) H'
theorem spNx_len {K : PySem.W.Frag} : ∀ vs H Q E, SpNx K vs H Q E → vs.length = 2 := fun vs H Q E ⟨_, _, _, h, _⟩ => by rw [h]; rfl
section
variable {P : Program} {w : World} {K : PySem.W.Frag} {mg : Str → Option Value} {base : Heap}
variable {X : Cx} {σ : L2.St} {H : Hp} {e : Expr} {es : List Expr}
theorem c_pow {X : Cx} {σ : L2.St} {H : Hp} {a b : Expr} {pos : Pos} {i j : Int} (ha : CD X a σ H (.int i)) (hb : CD X b σ H (.int j)) (hc : CPow i j) : CD X (.BinOp a .Pow b pos) σ H (.int (i ^ j.toNat)) := of_pe (pe_op op_pow pw pw) (ed_I ha hb hc)
/-- a promise with a word of its own -/
def SpX (K : PySem.W.Frag) {α : Type} (args : α → List PyData) (pre : α → Prop) (post : α → Hp → V → Hp → Prop) : Sp := fun vs H Q _ => ∃ a, DpAll K H vs (args a) ∧ pre a ∧ ∀ v H', Ex H H' → post a H v H' → Q v H'
theorem spX_len {K : PySem.W.Frag} {α : Type} {args : α → List PyData} {pre : α → Prop} {post : α → Hp → V → Hp → Prop} {n : Nat} (h : ∀ a, (args a).length = n) : ∀ vs H Q E, SpX K args pre post vs H Q E → vs.length = n := fun vs H Q E ⟨a, hv, _⟩ => hv.len.trans (h a)
theorem c_callX {X : Cx} {σ : L2.St} {H : Hp} {e : Expr} {es : List Expr} {pos : Pos} {x : Str} {ps : List Str} {k : Nat} {p : Pos} {α : Type} {args : α → List PyData} {pre : α → Prop} {post : α → Hp → V → Hp → Prop} (y : α) (G : OkX X x ps k (SpX X.K args pre post)) (hr : Room k X.A) (ha : CDA X (e :: es) σ H (args y)) (hp : pre y)
    (hg : Gl X x := by rfl) (hdb : (x == ("__debug__" : Str)) = false := by decide) (he : starEach (e :: es) X.env = (false, eval e X.env) :: starEach es X.env := by rfl) (hpl : (backTo pos (starEach es X.env)).any (·.1) = false := by rfl) : CR X (.Call (.Name x p) (e :: es) [] pos) σ H (fun v H2 => ∃ H1, Ex H H1 ∧ post y H1 v H2) :=
  c_call G hr ha (fun vs H1 e1 hv Q q => ⟨y, hv, hp, fun v H2 e2 h2 => q v H2 e2 ⟨H1, e1, h2⟩⟩) hg hdb he hpl
theorem sc_law_cell : FnScope ["_law_script", "_law_k"] ["_law_script", "_law_k"] (defScope sLawCell) := ⟨rfl, rfl, rfl, by decide +kernel, rfl, by decide +kernel, by decide +kernel⟩
theorem ok_law_cell (T : Tx K mg) : Ok P w K mg base "_law_cell" ["_law_script", "_law_k"] 1 (SpF K (fun x : List Int × Nat => [.list (x.1.map .int), .int (x.2 : Int)]) (fun _ => True) (fun x => .int (x.1.getD x.2 0))) := by
  refine ok_of T.fLawCell sc_law_cell (fun _ _ _ _ _ _ us hl => match us, hl with | [_, _], _ => rfl) (spF_len fun _ => rfl) fun f cdv A outer s H0 E vs H Q hr h => ?_
  obtain ⟨⟨ns, kk⟩, hv, hn, k⟩ := h
  dsimp only at hv k
  obtain _ | ⟨h1, _ | ⟨h2, _ | _⟩⟩ := hv
  cases h2
  refine r_if0 (t_lt (c_var 1 rfl (.int _)) (c_lenL (c_var 0 rfl (by assumption)) T.bLen)) (fun hb => ?_) fun hb => ?_
  · have hb : (kk : Int) < ((ns.map PyData.int).length : Nat) := of_decide_eq_true hb
    rw [List.length_map] at hb
    have hb : kk < ns.length := by omega
    have e : ns.getD kk 0 = ns[kk] := by rw [List.getD_eq_getElem?_getD, List.getElem?_eq_getElem hb]; rfl
    rw [e] at k
    exact r_ret (c_ixL (d := .int ns[kk]) kk (c_var 0 rfl (by assumption)) (c_var 1 rfl (.int _)) (by rw [List.getElem?_map, List.getElem?_eq_getElem hb]; rfl) rfl (fun _ _ => rfl)) fun v H1 e1 hv => k v H1 e1 hv
  · have hb : ¬ (kk : Int) < ((ns.map PyData.int).length : Nat) := of_decide_eq_false hb
    rw [List.length_map] at hb
    have hb : ns.length ≤ kk := by omega
    have e : ns.getD kk 0 = 0 := by rw [List.getD_eq_getElem?_getD, List.getElem?_eq_none hb]; rfl
    rw [e] at k
    exact r_ret c_int fun v H1 e1 hv => k v H1 e1 hv
theorem cc_law_cell {k : Nat} {ns : List Int} {kk : Nat} {p pos : Pos} (T : Tx X.K X.mg) (hr : Room k X.A) (ha : CDA X (e :: es) σ H [.list (ns.map .int), .int (kk : Int)])  (hk : 1 ≤ k := by decide) (hg : Gl X "_law_cell" := by rfl) (he : starEach (e :: es) X.env = (false, eval e X.env) :: starEach es X.env := by rfl) (hpl : (backTo pos (starEach es X.env)).any (·.1) = false := by rfl) : CD X (.Call (.Name "_law_cell" p) (e :: es) [] pos) σ H (.int (ns.getD kk 0)) :=
  c_callF (ns, kk) (ok_law_cell T) (hr.mono hk) ha trivial hg (by decide) he hpl
def Nums (n : Nat) (zs : List Int) : Prop := zs.length = n ∧ ∀ z ∈ zs, 0 ≤ z ∧ z < 1000
theorem Nums.add {n : Nat} {zs : List Int} {z : Int} (h : Nums n zs) (h0 : 0 ≤ z) (h1 : z < 1000) : Nums (n + 1) (zs ++ [z]) := ⟨by rw [List.length_append, h.1]; rfl, fun y hy => by
  rcases List.mem_append.mp hy with hy | hy
  · exact h.2 y hy
  · rw [List.mem_singleton.mp hy]; exact ⟨h0, h1⟩⟩
theorem int_lfree (zs : List Int) : lfreeAll (zs.map PyData.int) = true := lfreeAll_map (fun _ => rfl) zs
theorem sc_law_numbers : FnScope ["_law_cell_here", "_law_many", "_law_rest", "_law_span", "_law_numbers_here", "_law_k", "_law_mixed"] ["_law_cell_here", "_law_many"] (defScope sLawNumbers) := ⟨rfl, rfl, rfl, by decide +kernel, rfl, by decide +kernel, by decide +kernel⟩
theorem ok_law_numbers (T : Tx K mg) : Ok P w K mg base "_law_numbers" ["_law_cell_here", "_law_many"] 1 (SpX K (fun c : Int => [.int c, .int 40]) (fun _ => True) (fun _ H v H' => ∃ p zs, Nums 40 zs ∧ v = .ref p ∧ Own K H p (zs.map .int) H')) := by
  refine ok_of T.fLawNumbers sc_law_numbers (fun _ _ _ _ _ _ us hl => match us, hl with | [_, _], _ => rfl) (spX_len fun _ => rfl) fun f cdv A outer s H0 E vs H Q hr h => ?_
  obtain ⟨c, hv, _, k⟩ := h
  dsimp only at hv k
  obtain _ | ⟨h1, _ | ⟨h2, _ | _⟩⟩ := hv
  cases h1; cases h2
  refine r_asgI 2 sc_law_numbers.nd (c_abs (c_var 0 rfl (.int _)) T.bAbs) ?_
  refine r_asgI 3 sc_law_numbers.nd (c_var 2 rfl (.int _)) ?_
  refine r_asg 4 sc_law_numbers.nd (c_lstN ca_nil) fun v H1 e1 hl => ?_
  obtain ⟨p, rfl, ho⟩ := hl
  refine r_forR 5 nox_own rfl sc_law_numbers.nd T.bRange (c_var 1 rfl (.int _)) ⟨by decide, by decide⟩ (fun i σ' H' => ∃ rest span q1 q2 zs, σ' = [some (.int c), some (.int 40), some (.int rest), some (.int span), some (.ref p), q1, q2] ∧ Nums i zs ∧ Own K H p (zs.map .int) H')
    (fun H2 e2 => ⟨_, _, none, none, [], rfl, ⟨rfl, fun z hz => by cases hz⟩, ho.up e2⟩) (fun i σ' H' hi hP => ?_) fun σ' H' hP => ?_
  · obtain ⟨rest, span, q1, q2, zs, rfl, hz, ho⟩ := hP
    have hzl : (zs.map PyData.int).length < 100000 := by rw [List.length_map, hz.1]; omega
    refine r_if (ct_w (t_and (t_ge (c_var 3 rfl (.int _)) (c_pow c_int c_int ⟨by decide, by decide, by decide⟩)) fun hb => (t_and1 (t_gt (c_var 2 rfl (.int _)) c_int)))) (fun hb => ?_) fun hb => ?_
    · refine r_appO (d := .int (rest % 1000)) 4 rfl ho hzl (c_mod (c_intc (c_var 2 rfl (.int _)) T.bInt) c_int (by decide)) (int_lfree _) rfl fun H2 et ho => ?_
      refine r_asgI 2 sc_law_numbers.nd (c_fdiv (c_var 2 rfl (.int _)) c_int ⟨by decide, by decide⟩) ?_
      exact r_nil (r_nil fun H3 e3 => ⟨_, _, _, _, zs ++ [rest % 1000], rfl, hz.add (by omega) (by omega), by rw [List.map_append]; exact ho.up e3⟩)
    · refine r_asg 6 sc_law_numbers.nd (c_mod (c_intc (c_add (c_add (c_mulS (c_var 3 rfl (.int _)) c_int (by first | exact .inr ⟨by decide, by decide⟩ | exact .inl ⟨by decide, by decide⟩ | exact hmm)) (c_mulS (c_var 5 rfl (.int _)) c_int (by first | exact .inr ⟨by decide, by decide⟩ | exact .inl ⟨by decide, by decide⟩ | exact hmm))) c_int) T.bInt) c_int (by decide)) fun v H2 e2 hv => ?_
      have ho := ho.up e2
      cases hv
      have hmm : ∀ y : Int, CMul ((span * 48271 + (i : Int) * 69621 + 11) % 2147483647) y := fun y => .inl ⟨by omega, by omega⟩
      have hmm := hmm ((span * 48271 + (i : Int) * 69621 + 11) % 2147483647)
      refine r_asg 6 sc_law_numbers.nd (c_mod (c_intc (c_add (c_add (c_mulS (c_var 6 rfl (.int _)) (c_var 6 rfl (.int _)) (by first | exact .inr ⟨by decide, by decide⟩ | exact .inl ⟨by decide, by decide⟩ | exact hmm)) (c_mulS c_int (c_var 5 rfl (.int _)) (by first | exact .inr ⟨by decide, by decide⟩ | exact .inl ⟨by decide, by decide⟩ | exact hmm))) c_int) T.bInt) c_int (by decide)) fun v H2 e2 hv => ?_
      have ho := ho.up e2
      cases hv
      generalize ((span * 48271 + (i : Int) * 69621 + 11) % 2147483647 * ((span * 48271 + (i : Int) * 69621 + 11) % 2147483647) + 40692 * (i : Int) + 3) % 2147483629 = mx
      refine r_appO (d := .int (mx.fdiv 7 % 1000)) 4 rfl ho hzl (c_mod (c_intc (c_fdiv (c_var 6 rfl (.int _)) c_int ⟨by decide, by decide⟩) T.bInt) c_int (by decide)) (int_lfree _) rfl fun H3 et ho => ?_
      exact r_nil (r_nil fun H3 e3 => ⟨_, _, _, _, zs ++ [mx.fdiv 7 % 1000], rfl, hz.add (by omega) (by omega), by rw [List.map_append]; exact ho.up e3⟩)
  · obtain ⟨rest, span, q1, q2, zs, rfl, hz, ho⟩ := hP
    exact r_ret (c_varR 4 rfl) fun v H2 e2 hv => k v H2 (ho.ex.trans e2) ⟨p, zs, hz, hv, ho.up e2⟩
theorem sc_law_state : FnScope ["_law_script", "_law_numbers_here", "_law_k"] ["_law_script"] (defScope sLawState) := ⟨rfl, rfl, rfl, by decide +kernel, rfl, by decide +kernel, by decide +kernel⟩
theorem ok_law_state (T : Tx K mg) : Ok P w K mg base "_law_state" ["_law_script"] 2 (SpX K (fun ns : List Int => [.list (ns.map .int)]) (fun _ => True) (fun _ H v H' => Sta K 0 v H')) := by
  refine ok_of T.fLawState sc_law_state (fun _ _ _ _ _ _ us hl => match us, hl with | [_], _ => rfl) (spX_len fun _ => rfl) fun f cdv A outer s H0 E vs H Q hr h => ?_
  obtain ⟨ns, hv, _, k⟩ := h
  dsimp only at hv k
  obtain _ | ⟨h1, _ | _⟩ := hv
  rename_i vs
  refine r_asg 1 sc_law_state.nd (c_lstN ca_nil) fun v H1 e1 hl => ?_
  obtain ⟨p, rfl, ho⟩ := hl
  have h1 := h1.up e1
  have ho := ho.is
  refine r_forR 2 nox_own rfl sc_law_state.nd T.bRange c_int ⟨by decide, by decide⟩ (fun i σ' H' => ∃ vl q1 zs, σ' = [some vs, some vl, q1] ∧ Nums (40 * i) zs ∧ IsL K (zs.map .int) vl H' ∧ Ex H1 H')
    (fun H2 e2 => ⟨_, none, [], rfl, ⟨rfl, fun z hz => by cases hz⟩, ho.up e2, e2⟩) (fun i σ' H' hi hP => ?_) fun σ' H' hP => ?_
  · obtain ⟨vl, q1, zs, rfl, hz, ho, ex⟩ := hP
    have h1 := h1.up ex
    refine r_asg (P := fun v H2 => ∃ ys, Nums 40 ys ∧ IsL K ((zs ++ ys).map .int) v H2) 1 sc_law_state.nd (of_pe (pe_op op_cat pw pw) fun H2 e2 Q q => ?_) fun v H2 e2 hv => ?_
    · refine (c_varL 1 rfl ho) H2 e2 _ fun v H3 e3 hv => (c_callX _ (ok_law_numbers T) (hr.mono (by decide)) (ca_cons (c_add (c_abs (cc_law_cell T hr (ca_cons (c_var 0 rfl (by assumption)) (ca_cons (c_var 2 rfl (.int _)) ca_nil))) T.bAbs) (c_mulS c_int (c_var 2 rfl (.int _)) (by first | exact .inr ⟨by decide, by decide⟩ | exact .inl ⟨by decide, by decide⟩ | exact hmm))) (ca_cons c_int ca_nil)) trivial) H3 (e2.trans e3) _ fun u H4 e4 hu => ?_
      obtain ⟨H5, e5, p', ys, hy, rfl, hoy⟩ := hu
      obtain ⟨p1, vs1, rfl, k1, k2⟩ := hv.up e4
      obtain ⟨p2, vs2, k0, k3, k4⟩ := hoy.is
      cases k0
      have l1 := k2.len
      have l2 := k4.len
      rw [List.length_map] at l1 l2
      have y1 := hy.1
      have z1 := hz.1
      exact ⟨p1, p', vs1, vs2, rfl, rfl, k1, k3, Evl.sz_of (by omega), fun l hl => q _ _ ((e3.trans e4).trans (Ex.new hl)) ⟨ys, hy, l, _, rfl, upd_same, by rw [List.map_append]; exact (k2.app k4).up (Ex.new hl)⟩⟩
    · obtain ⟨ys, hy, hl⟩ := hv
      refine r_nil fun H3 e3 => ⟨_, _, zs ++ ys, rfl, ⟨by rw [List.length_append, hz.1, hy.1]; omega, fun z hm => ?_⟩, hl.up e3, (ex.trans e2).trans e3⟩
      rcases List.mem_append.mp hm with hm | hm
      · exact hz.2 z hm
      · exact hy.2 z hm
  · obtain ⟨vl, q1, zs, rfl, hz, ho, ex⟩ := hP
    refine r_ret (P := fun v H2 => Sta K 0 v H2) (of_pe (pe_lst (pa_cons pw (pa_cons pw pa_nil rfl) rfl)) fun H2 e2 Q q => ?_) fun v H2 e2 hv => k v H2 ((e1.trans ex).trans e2) hv
    refine (c_varL 1 rfl ho) H2 e2 _ fun v H3 e3 hv => (c_int : CD _ _ _ H3 (.int 0)) H3 (Ex.refl H3) _ fun u H4 e4 hu => ?_
    obtain ⟨p1, vs1, rfl, k1, k2⟩ := hv.up e4
    have hvs : vs1 = zs.map V.int := by
      have : ∀ (zs : List Int) (vs : List V), DpAll K H4 vs (zs.map .int) → vs = zs.map V.int := by
        intro zs
        induction zs with
        | nil => intro vs h; cases h; rfl
        | cons z zs ih =>
          intro vs h
          obtain _ | ⟨h1, h2⟩ := h
          rw [h1.int_eq, ih _ h2]; rfl
      exact this zs vs1 k2
    rw [hu.int_eq]
    refine ⟨Evl.sz_of (by show 2 ≤ 100000; decide), fun l hl => q _ _ ((e3.trans e4).trans (Ex.new hl)) ⟨l, p1, zs, 0, rfl, upd_same, ?_, ?_, hz.1, hz.2, Nat.le_refl _⟩⟩
    · rw [← hvs]; exact Evl.ex_l (Ex.new hl) (Evl.sq_of k1)
    · intro e; rw [e, k1] at hl; cases hl
theorem sc_law_next : FnScope ["_law_state_here", "_law_many", "_law_number"] ["_law_state_here", "_law_many"] (defScope sLawNext) := ⟨rfl, rfl, rfl, by decide +kernel, rfl, by decide +kernel, by decide +kernel⟩
theorem ok_law_next (T : Tx K mg) : Ok P w K mg base "_law_next" ["_law_state_here", "_law_many"] 1 (SpNx K) := by
  refine ok_of T.fLawNext sc_law_next (fun _ _ _ _ _ _ us hl => match us, hl with | [_, _], _ => rfl) spNx_len fun f cdv A outer s H0 E vs H Q hr h => ?_
  obtain ⟨v, n, many, rfl, hS, hn, hm0, hm1, k⟩ := h
  obtain ⟨p, l, ns, t, rfl, hp, hl, hpl, hlen, hns, ht⟩ := hS.x
  refine ws_of (ps_asg (pe_op op_add (pe_ix ix_list (pv 0) pe_int (fun _ _ => rfl)) pe_int) (pg_sub (pv 0) pe_int set_list)) fun H1 e1 => ?_
  have hp1 := e1 _ _ hp
  have hl1 := Evl.ex_l e1 hl
  refine ⟨_, rfl, p, _, 1, .int t, rfl, rfl, Evl.sq_of hp1, rfl, t, 1, rfl, rfl, _, rfl, p, _, 1, 1, rfl, rfl, hp1, rfl, ?_⟩
  generalize hH2 : upd H1 p (.lst ([.ref l, .int (t : Int)].set 1 (.int ((t : Int) + 1)))) = H2
  have hp2 : H2 p = some (.lst [.ref l, .int ((t + 1 : Nat) : Int)]) := by rw [← hH2]; exact upd_same
  have hl2 : SqL K H2 l (ns.map V.int) := by
    have e : H2 l = H1 l := by rw [← hH2, upd_ne (Ne.symm hpl)]
    rcases hl1 with (h | ⟨o, h⟩) | h
    · exact .inl (.inl (e.trans h))
    · exact .inl (.inr ⟨o, e.trans h⟩)
    · exact .inr h
  have mu2 : Mu (.ref p) H1 H2 := fun a u n h => by
    rw [← hH2, upd_ne (fun e => n (by rw [e]))]; exact h
  show wS _ _ _ _ H2
  refine (?_ : WS _ _ _ _ H2) _ (Ex.refl _)
  have allI : ∀ (zs : List Int), DpAll K H2 (zs.map V.int) (zs.map .int) := by
    intro zs
    induction zs with
    | nil => exact .nil
    | cons z zs ih => exact .cons (.int z) ih
  have hd : Dp K H2 (.ref p) (.list [.list (ns.map .int), .int ((t + 1 : Nat) : Int)]) := .lst (Evl.sq_of hp2) (.cons (.lst hl2 (allI ns)) (.cons (.int _) .nil))
  obtain ⟨t', ht'⟩ : ∃ t', t' = t + 1 := ⟨_, rfl⟩
  rw [← ht'] at hp2 hd
  have len : (((ns.map PyData.int).length : Nat) : Int) = 120 := by rw [List.length_map, hlen]; rfl
  have lp : (0 : Int) < (((ns.map PyData.int).length : Nat) : Int) := by omega
  have dv : CDivN (t' : Int) (((ns.map PyData.int).length : Nat) : Int) := ⟨by omega, by omega⟩
  have hidx : ((t' : Int) * 7 % (((ns.map PyData.int).length : Nat) : Int)).toNat < ns.length := by rw [len, hlen]; omega
  have hj : (ns.map PyData.int)[((t' : Int) * 7 % (((ns.map PyData.int).length : Nat) : Int)).toNat]? = some (.int ns[((t' : Int) * 7 % (((ns.map PyData.int).length : Nat) : Int)).toNat]) := by rw [List.getElem?_map, List.getElem?_eq_getElem hidx]; rfl
  have hmm : CMul (13 * (t' : Int)) (1 + (t' : Int).fdiv (((ns.map PyData.int).length : Nat) : Int)) := .inl ⟨by omega, by omega⟩
  have hmm2 : ∀ y, CMul (t' : Int) y := fun y => .inl ⟨by omega, by omega⟩
  refine r_asg 2 sc_law_next.nd (c_add (c_ixL _ (c_ixL 0 (c_var 0 rfl (by assumption)) c_int rfl rfl (fun _ _ => rfl)) (c_mod (c_intc (c_mulS (c_ixL 1 (c_var 0 rfl (by assumption)) c_int rfl rfl (fun _ _ => rfl)) c_int (by first | exact .inr ⟨by decide, by decide⟩ | exact .inl ⟨by decide, by decide⟩ | exact hmm)) T.bInt) (c_lenL (c_ixL 0 (c_var 0 rfl (by assumption)) c_int rfl rfl (fun _ _ => rfl)) T.bLen) (lp)) hj (by rw [len]; omega) (fun _ _ => rfl)) (c_mulS (c_mulS c_int (c_ixL 1 (c_var 0 rfl (by assumption)) c_int rfl rfl (fun _ _ => rfl)) (by first | exact .inr ⟨by decide, by decide⟩ | exact .inl ⟨by decide, by decide⟩ | exact hmm)) (c_add c_int (c_fdiv (c_ixL 1 (c_var 0 rfl (by assumption)) c_int rfl rfl (fun _ _ => rfl)) (c_lenL (c_ixL 0 (c_var 0 rfl (by assumption)) c_int rfl rfl (fun _ _ => rfl)) T.bLen) (dv))) (by first | exact .inr ⟨by decide, by decide⟩ | exact .inl ⟨by decide, by decide⟩ | exact hmm))) fun v H3 e3 hv => ?_
  cases hv
  refine r_ret (CR.int (c_mod (c_intc (c_var 2 rfl (.int _)) T.bInt) (c_var 1 rfl (.int _)) (hm0))) fun v H4 e4 hv => ?_
  rw [hv]
  refine k _ H4 (Int.emod_nonneg _ (by omega)) (Int.emod_lt_of_pos _ hm0) ⟨p, l, ns, t', rfl, e4 _ _ (e3 _ _ hp2), Evl.ex_l (e3.trans e4) hl2, hpl, hlen, hns, by omega⟩ ?_
  exact ((Mu.of e1).trans mu2).trans (Mu.of (e3.trans e4))
end
end WC
namespace WC
open PySem PySem.Spec PyProof.Rows L2
open Evl (Ex)
open WM (Fm Mt)
section
variable {P : Program} {w : World} {K : PySem.W.Frag} {mg : Str → Option Value} {base : Heap}
variable {X : Cx} {σ : L2.St} {H : Hp} {e : Expr} {es : List Expr}
theorem sc_law_root : FnScope ["_law_n", "_law_low", "_law_high", "_law_k", "_law_middle"] ["_law_n"] (defScope sLawRoot) := ⟨rfl, rfl, rfl, by decide +kernel, rfl, by decide +kernel, by decide +kernel⟩
theorem ok_law_root (T : Tx K mg) : Ok P w K mg base "_law_root" ["_law_n"] 1 (SpF K (fun n : Int => [.int n]) (fun n => 0 ≤ n ∧ n < 2 ^ 60) (fun n => .int (sqrtI n))) := by
  refine ok_of T.fLawRoot sc_law_root (fun _ _ _ _ _ _ us hl => match us, hl with | [_], _ => rfl) (spF_len fun _ => rfl) fun f cdv A outer s H0 E vs H Q hr h => ?_
  obtain ⟨n, hv, hn, k⟩ := h
  dsimp only at hv k
  obtain _ | ⟨h1, _ | _⟩ := hv
  cases h1
  have root : ∀ lo hi i, WM.RI n i lo hi → hi - lo ≤ 1 → lo = sqrtI n := by
    intro lo hi i h hg
    obtain ⟨q1, q2, q3⟩ := sqrtI_spec hn.1
    have hd := h.d
    have : hi = lo + 1 := by omega
    have hb := h.b
    rw [this] at hb
    exact WM.root_unique h.c q1 h.a hb q2 q3
  refine r_asgI 1 sc_law_root.nd c_int ?_
  refine r_asgI 2 sc_law_root.nd (c_add (c_var 0 rfl (.int _)) c_int) ?_
  refine r_forR 3 nox_own rfl sc_law_root.nd T.bRange c_int ⟨by decide, by decide⟩ (fun i σ' H' => ∃ lo hi q1 q2, σ' = [some (.int n), some (.int lo), some (.int hi), q1, q2] ∧ WM.RI n i lo hi ∧ Ex H H') (fun H1 e1 => ⟨_, _, none, none, rfl, WM.RI.start hn.1, e1⟩) (fun i σ' H' hi hP => ?_) fun σ' H' hP => ?_
  · obtain ⟨lo, hi, q1, q2, rfl, hR, ex⟩ := hP
    refine r_if0 (t_le (c_sub (c_var 2 rfl (.int _)) (c_var 1 rfl (.int _))) c_int) (fun hb => ?_) fun hb => ?_
    · have hb := of_decide_eq_true hb
      refine r_ret (c_var 1 rfl (.int _)) fun v H1 e1 hv => k v H1 (ex.trans e1) (by rw [← root lo hi i hR hb]; exact hv)
    · have hb : ¬ hi - lo ≤ 1 := of_decide_eq_false hb
      have hc := hR.c
      have ha := hR.a
      have hd := hR.d
      refine r_asgI 4 (n := (lo + hi) / 2) sc_law_root.nd (CD.to (c_fdiv (c_add (c_var 1 rfl (.int _)) (c_var 2 rfl (.int _))) c_int ⟨by decide, by decide⟩) (by rw [Int.fdiv_eq_ediv_of_nonneg _ (by decide)])) ?_
      have hin := hR.f
      have hmm : CMul ((lo + hi) / 2) ((lo + hi) / 2) := .inl ⟨by omega, by omega⟩
      refine r_if (t_le (c_mulS (c_var 4 rfl (.int _)) (c_var 4 rfl (.int _)) hmm) (c_var 0 rfl (.int _))) (fun hb2 => ?_) fun hb2 => ?_
      · have hb2 := of_decide_eq_true hb2
        exact r_asgI 1 sc_law_root.nd (c_var 4 rfl (.int _)) (r_nil (r_nil fun H1 e1 => ⟨_, _, _, _, rfl, hR.lo (by omega) hb2, ex.trans e1⟩))
      · have hb2 := of_decide_eq_false hb2
        exact r_asgI 2 sc_law_root.nd (c_var 4 rfl (.int _)) (r_nil (r_nil fun H1 e1 => ⟨_, _, _, _, rfl, hR.hi (by omega) (by omega), ex.trans e1⟩))
  · obtain ⟨lo, hi, q1, q2, rfl, hR, ex⟩ := hP
    refine r_ret (c_var 1 rfl (.int _)) fun v H1 e1 hv => k v H1 (ex.trans e1) ?_
    have hR : WM.RI n 2000 lo hi := hR
    rw [← root lo hi 2000 hR (hR.small hn.2 (by decide))]; exact hv
theorem cc_law_root {k : Nat} {n : Int} {p pos : Pos} (T : Tx X.K X.mg) (hr : Room k X.A) (ha : CDA X (e :: es) σ H [.int n]) (h0 : 0 ≤ n ∧ n < 2 ^ 60 := by assumption) (hk : 1 ≤ k := by decide) (hg : Gl X "_law_root" := by rfl) (he : starEach (e :: es) X.env = (false, eval e X.env) :: starEach es X.env := by rfl) (hpl : (backTo pos (starEach es X.env)).any (·.1) = false := by rfl) : CD X (.Call (.Name "_law_root" p) (e :: es) [] pos) σ H (.int (sqrtI n)) :=
  c_callF n (ok_law_root T) (hr.mono hk) ha h0 hg (by decide) he hpl
theorem sc_law_measure : FnScope ["_law_a", "_law_b", "_law_k"] ["_law_a", "_law_b"] (defScope sLawMeasure) := ⟨rfl, rfl, rfl, by decide +kernel, rfl, by decide +kernel, by decide +kernel⟩
theorem ok_law_measure (T : Tx K mg) : Ok P w K mg base "_law_measure" ["_law_a", "_law_b"] 1 (SpF K (fun x : Int × Int => [.int x.1, .int x.2]) (fun x => x.1.natAbs < 2 ^ 30 ∧ x.2.natAbs < 2 ^ 30) (fun x => .int (Int.gcd x.1 x.2 : Nat))) := by
  refine ok_of T.fLawMeasure sc_law_measure (fun _ _ _ _ _ _ us hl => match us, hl with | [_, _], _ => rfl) (spF_len fun _ => rfl) fun f cdv A outer s H0 E vs H Q hr h => ?_
  obtain ⟨⟨a, b⟩, hv, ⟨ha, hb⟩, k⟩ := h
  dsimp only at hv k ha hb
  obtain _ | ⟨h1, _ | ⟨h2, _ | _⟩⟩ := hv
  cases h1; cases h2
  refine r_asgI 0 (n := WM.ab a) sc_law_measure.nd (c_abs (c_var 0 rfl (.int _)) T.bAbs) ?_
  refine r_asgI 1 (n := WM.ab b) sc_law_measure.nd (c_abs (c_var 1 rfl (.int _)) T.bAbs) ?_
  refine r_forR 2 nox_own rfl sc_law_measure.nd T.bRange c_int ⟨by decide, by decide⟩ (fun i σ' H' => ∃ x y q1, σ' = [some (.int x), some (.int y), q1] ∧ WM.GI a b i x y ∧ Ex H H') (fun H1 e1 => ⟨_, _, none, rfl, WM.GI.start ha hb, e1⟩) (fun i σ' H' hi hP => ?_) fun σ' H' hP => ?_
  · obtain ⟨x, y, q1, rfl, hG, ex⟩ := hP
    refine r_if0 (t_eqI (c_var 1 rfl (.int _)) c_int) (fun hz => ?_) fun hz => ?_
    · have hz : y = 0 := of_decide_eq_true hz
      subst hz
      exact r_ret (c_var 0 rfl (.int _)) fun v H1 e1 hv => k v H1 (ex.trans e1) (by rw [hG.done] at hv; exact hv)
    · have hz : ¬ y = 0 := of_decide_eq_false hz
      have y0 := hG.y0
      have hy : 0 < y := by omega
      refine r_par2 0 1 rfl sc_law_measure.nd (by decide) (ca_cons (c_var 1 rfl (.int _)) (ca_cons (c_mod (c_var 0 rfl (.int _)) (c_var 1 rfl (.int _)) (hy)) ca_nil)) fun u v H1 e1 hu hv => ?_
      cases hu; cases hv
      exact r_nil fun H2 e2 => ⟨_, _, _, rfl, hG.step hz, (ex.trans e1).trans e2⟩
  · obtain ⟨x, y, q1, rfl, hG, ex⟩ := hP
    have hG : WM.GI a b 5000 x y := hG
    have := hG.end (by decide)
    subst this
    exact r_ret (c_var 0 rfl (.int _)) fun v H1 e1 hv => k v H1 (ex.trans e1) (by rw [hG.done] at hv; exact hv)
theorem cc_law_measure {k : Nat} {a b : Int} {p pos : Pos} (T : Tx X.K X.mg) (hr : Room k X.A) (ha : CDA X (e :: es) σ H [.int a, .int b]) (h0 : a.natAbs < 2 ^ 30 := by assumption) (h1 : b.natAbs < 2 ^ 30 := by assumption) (hk : 1 ≤ k := by decide) (hg : Gl X "_law_measure" := by rfl) (he : starEach (e :: es) X.env = (false, eval e X.env) :: starEach es X.env := by rfl) (hpl : (backTo pos (starEach es X.env)).any (·.1) = false := by rfl) : CD X (.Call (.Name "_law_measure" p) (e :: es) [] pos) σ H (.int (Int.gcd a b : Nat)) :=
  c_callF (a, b) (ok_law_measure T) (hr.mono hk) ha ⟨h0, h1⟩ hg (by decide) he hpl
/-! ### matrices and forms of the law -/
def ms4 (m n : Mt) : List PyData := [.int (m.p * n.p + m.q * n.r), .int (m.p * n.q + m.q * n.s)]
theorem sc_law_mul : FnScope ["_law_m", "_law_n", "_law_top"] ["_law_m", "_law_n"] (defScope sLawMul) := ⟨rfl, rfl, rfl, by decide +kernel, rfl, by decide +kernel, by decide +kernel⟩
theorem ok_law_mul (T : Tx K mg) : Ok P w K mg base "_law_mul" ["_law_m", "_law_n"] 1 (SpF K (fun x : Mt × Mt => [mD x.1, mD x.2]) (fun x => MB big x.1 ∧ MB big x.2) (fun x => mD (WM.mul x.1 x.2))) := by
  refine ok_of T.fLawMul sc_law_mul (fun _ _ _ _ _ _ us hl => match us, hl with | [_, _], _ => rfl) (spF_len fun _ => rfl) fun f cdv A outer s H0 E vs H Q hr h => ?_
  obtain ⟨⟨m, n⟩, hv, ⟨hm, hn⟩, k⟩ := h
  dsimp only at hv k
  obtain _ | ⟨h1, _ | ⟨h2, _ | _⟩⟩ := hv
  have : Bt big m.p := ⟨hm.p⟩
  have : Bt big m.q := ⟨hm.q⟩
  have : Bt big m.r := ⟨hm.r⟩
  have : Bt big m.s := ⟨hm.s⟩
  have : Bt big n.p := ⟨hn.p⟩
  have : Bt big n.q := ⟨hn.q⟩
  have : Bt big n.r := ⟨hn.r⟩
  have : Bt big n.s := ⟨hn.s⟩
  refine r_asg 2 sc_law_mul.nd (c_lstL (ca_cons (c_add (c_mul (c_ixT 0 (c_var 0 rfl (by assumption)) c_int rfl rfl (fun _ _ => rfl)) (c_ixT 0 (c_var 1 rfl (by assumption)) c_int rfl rfl (fun _ _ => rfl)) (by exact cmw)) (c_mul (c_ixT 1 (c_var 0 rfl (by assumption)) c_int rfl rfl (fun _ _ => rfl)) (c_ixT 2 (c_var 1 rfl (by assumption)) c_int rfl rfl (fun _ _ => rfl)) (by exact cmw))) (ca_cons (c_add (c_mul (c_ixT 0 (c_var 0 rfl (by assumption)) c_int rfl rfl (fun _ _ => rfl)) (c_ixT 1 (c_var 1 rfl (by assumption)) c_int rfl rfl (fun _ _ => rfl)) (by exact cmw)) (c_mul (c_ixT 1 (c_var 0 rfl (by assumption)) c_int rfl rfl (fun _ _ => rfl)) (c_ixT 3 (c_var 1 rfl (by assumption)) c_int rfl rfl (fun _ _ => rfl)) (by exact cmw))) ca_nil))) fun v H1 e1 hl => ?_
  have h1 := h1.up e1
  have h2 := h2.up e1
  refine r_ret (c_tupleOf (CR.dp (c_cat (c_varL 2 rfl hl) (c_lstL (ca_cons (c_add (c_mul (c_ixT 2 (c_var 0 rfl (by assumption)) c_int rfl rfl (fun _ _ => rfl)) (c_ixT 0 (c_var 1 rfl (by assumption)) c_int rfl rfl (fun _ _ => rfl)) (by exact cmw)) (c_mul (c_ixT 3 (c_var 0 rfl (by assumption)) c_int rfl rfl (fun _ _ => rfl)) (c_ixT 2 (c_var 1 rfl (by assumption)) c_int rfl rfl (fun _ _ => rfl)) (by exact cmw))) (ca_cons (c_add (c_mul (c_ixT 2 (c_var 0 rfl (by assumption)) c_int rfl rfl (fun _ _ => rfl)) (c_ixT 1 (c_var 1 rfl (by assumption)) c_int rfl rfl (fun _ _ => rfl)) (by exact cmw)) (c_mul (c_ixT 3 (c_var 0 rfl (by assumption)) c_int rfl rfl (fun _ _ => rfl)) (c_ixT 3 (c_var 1 rfl (by assumption)) c_int rfl rfl (fun _ _ => rfl)) (by exact cmw))) ca_nil))) (by show 2 + 2 ≤ 100000; decide))) T.bTuple) fun v H2 e2 hv => k v H2 (e1.trans e2) hv
theorem cc_law_mul {k : Nat} {m n : Mt} {p pos : Pos} (T : Tx X.K X.mg) (hr : Room k X.A) (ha : CDA X (e :: es) σ H [mD m, mD n]) (h0 : MB big m := by assumption) (h1 : MB big n := by assumption) (hk : 1 ≤ k := by decide) (hg : Gl X "_law_mul" := by rfl) (he : starEach (e :: es) X.env = (false, eval e X.env) :: starEach es X.env := by rfl) (hpl : (backTo pos (starEach es X.env)).any (·.1) = false := by rfl) : CD X (.Call (.Name "_law_mul" p) (e :: es) [] pos) σ H (mD (WM.mul m n)) :=
  c_callF (m, n) (ok_law_mul T) (hr.mono hk) ha ⟨h0, h1⟩ hg (by decide) he hpl
theorem sc_law_worth : FnScope ["_law_form_here", "_law_x", "_law_y"] ["_law_form_here", "_law_x", "_law_y"] (defScope sLawWorth) := ⟨rfl, rfl, rfl, by decide +kernel, rfl, by decide +kernel, by decide +kernel⟩
theorem ok_law_worth (T : Tx K mg) : Ok P w K mg base "_law_worth" ["_law_form_here", "_law_x", "_law_y"] 1 (SpF K (fun x : Fm × Int × Int => [fD x.1, .int x.2.1, .int x.2.2]) (fun x => FB 30 x.1 ∧ x.2.1.natAbs < 2 ^ 200000 ∧ x.2.2.natAbs < 2 ^ 200000) (fun x => .int (WM.worth x.1 x.2.1 x.2.2))) := by
  refine ok_of T.fLawWorth sc_law_worth (fun _ _ _ _ _ _ us hl => match us, hl with | [_, _, _], _ => rfl) (spF_len fun _ => rfl) fun f cdv A outer s H0 E vs H Q hr h => ?_
  obtain ⟨⟨f, x, y⟩, hv, ⟨hf, hx, hy⟩, k⟩ := h
  dsimp only at hv k hf hx hy
  obtain _ | ⟨h1, _ | ⟨h2, _ | ⟨h3, _ | _⟩⟩⟩ := hv
  cases h2; cases h3
  have : Bt 30 f.a := ⟨hf.a⟩
  have : Bt 30 f.b := ⟨hf.b⟩
  have : Bt 30 f.c := ⟨hf.c⟩
  have : Bt 200000 x := ⟨hx⟩
  have : Bt 200000 y := ⟨hy⟩
  exact r_ret (c_add (c_add (c_mul (c_mul (c_ixT 0 (c_var 0 rfl (by assumption)) c_int rfl rfl (fun _ _ => rfl)) (c_var 1 rfl (.int _)) (by exact cmw)) (c_var 1 rfl (.int _)) (by exact cmw)) (c_mul (c_mul (c_ixT 1 (c_var 0 rfl (by assumption)) c_int rfl rfl (fun _ _ => rfl)) (c_var 1 rfl (.int _)) (by exact cmw)) (c_var 2 rfl (.int _)) (by exact cmw))) (c_mul (c_mul (c_ixT 2 (c_var 0 rfl (by assumption)) c_int rfl rfl (fun _ _ => rfl)) (c_var 2 rfl (.int _)) (by exact cmw)) (c_var 2 rfl (.int _)) (by exact cmw))) fun v H1 e1 hv => k v H1 e1 hv
theorem cc_law_worth {k : Nat} {f : Fm} {x y : Int} {p pos : Pos} (T : Tx X.K X.mg) (hr : Room k X.A) (ha : CDA X (e :: es) σ H [fD f, .int x, .int y]) (h0 : FB 30 f) (h1 : x.natAbs < 2 ^ 200000) (h2 : y.natAbs < 2 ^ 200000) (hk : 1 ≤ k := by decide) (hg : Gl X "_law_worth" := by rfl)
    (he : starEach (e :: es) X.env = (false, eval e X.env) :: starEach es X.env := by rfl) (hpl : (backTo pos (starEach es X.env)).any (·.1) = false := by rfl) : CD X (.Call (.Name "_law_worth" p) (e :: es) [] pos) σ H (.int (WM.worth f x y)) :=
  c_callF (f, x, y) (ok_law_worth T) (hr.mono hk) ha ⟨h0, h1, h2⟩ hg (by decide) he hpl
theorem sc_law_act : FnScope ["_law_form_here", "_law_m", "_law_first", "_law_last"] ["_law_form_here", "_law_m"] (defScope sLawAct) := ⟨rfl, rfl, rfl, by decide +kernel, rfl, by decide +kernel, by decide +kernel⟩
theorem ok_law_act (T : Tx K mg) : Ok P w K mg base "_law_act" ["_law_form_here", "_law_m"] 2 (SpF K (fun x : Fm × Mt => [fD x.1, mD x.2]) (fun x => FB 30 x.1 ∧ MB 160000 x.2) (fun x => fD (WM.act x.1 x.2))) := by
  refine ok_of T.fLawAct sc_law_act (fun _ _ _ _ _ _ us hl => match us, hl with | [_, _], _ => rfl) (spF_len fun _ => rfl) fun f cdv A outer s H0 E vs H Q hr h => ?_
  obtain ⟨⟨f, m⟩, hv, ⟨hf, hm⟩, k⟩ := h
  dsimp only at hv k hf hm
  obtain _ | ⟨h1, _ | ⟨h2, _ | _⟩⟩ := hv
  have up : ∀ {x : Int}, x.natAbs < 2 ^ 160001 → x.natAbs < 2 ^ 200000 := fun h => bt_le h (by decide)
  have lift : ∀ {x : Int}, x.natAbs < 2 ^ 160000 → x.natAbs < 2 ^ 200000 := fun h => bt_le h (by decide)
  refine r_asgI 2 (n := WM.worth f m.p m.r) sc_law_act.nd (cc_law_worth T hr (ca_cons (c_var 0 rfl (by assumption)) (ca_cons (c_ixT 0 (c_var 1 rfl (by assumption)) c_int rfl rfl (fun _ _ => rfl)) (ca_cons (c_ixT 2 (c_var 1 rfl (by assumption)) c_int rfl rfl (fun _ _ => rfl)) ca_nil))) hf (lift hm.p) (lift hm.r)) ?_
  refine r_asgI 3 (n := WM.worth f m.q m.s) sc_law_act.nd (cc_law_worth T hr (ca_cons (c_var 0 rfl (by assumption)) (ca_cons (c_ixT 1 (c_var 1 rfl (by assumption)) c_int rfl rfl (fun _ _ => rfl)) (ca_cons (c_ixT 3 (c_var 1 rfl (by assumption)) c_int rfl rfl (fun _ _ => rfl)) ca_nil))) hf (lift hm.q) (lift hm.s)) ?_
  refine r_ret (CD.to (d := .tuple [.int (WM.worth f m.p m.r), .int (WM.worth f (m.p + m.q) (m.r + m.s) - WM.worth f m.p m.r - WM.worth f m.q m.s), .int (WM.worth f m.q m.s)]) (d' := fD (WM.act f m)) (c_tup (ca_cons (c_var 2 rfl (.int _)) (ca_cons (c_sub (c_sub (cc_law_worth T hr (ca_cons (c_var 0 rfl (by assumption)) (ca_cons (c_add (c_ixT 0 (c_var 1 rfl (by assumption)) c_int rfl rfl (fun _ _ => rfl)) (c_ixT 1 (c_var 1 rfl (by assumption)) c_int rfl rfl (fun _ _ => rfl))) (ca_cons (c_add (c_ixT 2 (c_var 1 rfl (by assumption)) c_int rfl rfl (fun _ _ => rfl)) (c_ixT 3 (c_var 1 rfl (by assumption)) c_int rfl rfl (fun _ _ => rfl))) ca_nil))) hf (up (add_lt hm.p hm.q)) (up (add_lt hm.r hm.s))) (c_var 2 rfl (.int _))) (c_var 3 rfl (.int _))) (ca_cons (c_var 3 rfl (.int _)) ca_nil)))) (by rw [WM.act_by]; rfl)) fun v H1 e1 hv => k v H1 e1 hv
theorem cc_law_act {k : Nat} {f : Fm} {m : Mt} {p pos : Pos} (T : Tx X.K X.mg) (hr : Room k X.A) (ha : CDA X (e :: es) σ H [fD f, mD m]) (h0 : FB 30 f := by assumption) (h1 : MB 160000 m := by assumption) (hk : 2 ≤ k := by decide) (hg : Gl X "_law_act" := by rfl) (he : starEach (e :: es) X.env = (false, eval e X.env) :: starEach es X.env := by rfl) (hpl : (backTo pos (starEach es X.env)).any (·.1) = false := by rfl) : CD X (.Call (.Name "_law_act" p) (e :: es) [] pos) σ H (fD (WM.act f m)) :=
  c_callF (f, m) (ok_law_act T) (hr.mono hk) ha ⟨h0, h1⟩ hg (by decide) he hpl
theorem sc_law_square : FnScope ["_law_n"] ["_law_n"] (defScope sLawSquare) := ⟨rfl, rfl, rfl, by decide +kernel, rfl, by decide +kernel, by decide +kernel⟩
theorem ok_law_square (T : Tx K mg) : Ok P w K mg base "_law_square" ["_law_n"] 2 (SpF K (fun n : Int => [.int n]) (fun n => 0 ≤ n ∧ n < 2 ^ 60) (fun n => .bool (isSq n))) := by
  refine ok_of T.fLawSquare sc_law_square (fun _ _ _ _ _ _ us hl => match us, hl with | [_], _ => rfl) (spF_len fun _ => rfl) fun f cdv A outer s H0 E vs H Q hr h => ?_
  obtain ⟨n, hv, hn, k⟩ := h
  dsimp only at hv k
  obtain _ | ⟨h1, _ | _⟩ := hv
  cases h1
  have : Bt 128 (sqrtI n) := ⟨by
    have := sqrtI_spec hn.1
    have h2 := ab_le_sq (sqrtI n)
    unfold WM.ab at h2
    omega⟩
  refine r_ret (CD.to (v_and (v_ge (c_var 0 rfl (.int _)) c_int) fun hb => (v_one (v_eqI (c_mul (cc_law_root T hr (ca_cons (c_var 0 rfl (.int _)) ca_nil)) (cc_law_root T hr (ca_cons (c_var 0 rfl (.int _)) ca_nil)) (by exact cmw)) (c_var 0 rfl (.int _))))) (by rw [decide_eq_true hn.1]; rfl)) fun v H1 e1 hv => k v H1 e1 hv
theorem cc_law_square {k : Nat} {n : Int} {p pos : Pos} (T : Tx X.K X.mg) (hr : Room k X.A) (ha : CDA X (e :: es) σ H [.int n]) (h0 : 0 ≤ n ∧ n < 2 ^ 60 := by assumption) (hk : 2 ≤ k := by decide) (hg : Gl X "_law_square" := by rfl) (he : starEach (e :: es) X.env = (false, eval e X.env) :: starEach es X.env := by rfl) (hpl : (backTo pos (starEach es X.env)).any (·.1) = false := by rfl) : CD X (.Call (.Name "_law_square" p) (e :: es) [] pos) σ H (.bool (isSq n)) :=
  c_callF n (ok_law_square T) (hr.mono hk) ha h0 hg (by decide) he hpl
theorem sc_law_kind : FnScope ["_law_form_here", "_law_d"] ["_law_form_here"] (defScope sLawKind) := ⟨rfl, rfl, rfl, by decide +kernel, rfl, by decide +kernel, by decide +kernel⟩
theorem ok_law_kind (T : Tx K mg) : Ok P w K mg base "_law_kind" ["_law_form_here"] 3 (SpF K (fun f : Fm => [fD f]) (FB 20) (fun f => .str (kindS f))) := by
  refine ok_of T.fLawKind sc_law_kind (fun _ _ _ _ _ _ us hl => match us, hl with | [_], _ => rfl) (spF_len fun _ => rfl) fun f cdv A outer s H0 E vs H Q hr h => ?_
  obtain ⟨f, hv, hf, k⟩ := h
  dsimp only at hv k
  obtain _ | ⟨h1, _ | _⟩ := hv
  have : Bt 20 f.a := ⟨hf.a⟩
  have : Bt 20 f.b := ⟨hf.b⟩
  have : Bt 20 f.c := ⟨hf.c⟩
  refine r_asgI 1 (n := WM.disc f) sc_law_kind.nd (c_sub (c_mul (c_ixT 1 (c_var 0 rfl (by assumption)) c_int rfl rfl (fun _ _ => rfl)) (c_ixT 1 (c_var 0 rfl (by assumption)) c_int rfl rfl (fun _ _ => rfl)) (by exact cmw)) (c_mul (c_mul c_int (c_ixT 0 (c_var 0 rfl (by assumption)) c_int rfl rfl (fun _ _ => rfl)) (by exact cmw)) (c_ixT 2 (c_var 0 rfl (by assumption)) c_int rfl rfl (fun _ _ => rfl)) (by exact cmw))) ?_
  refine r_if0 (t_lt (c_var 1 rfl (.int _)) c_int) (fun h => ?_) fun h => ?_
  · have h := of_decide_eq_true h
    refine r_ret c_str fun v H1 e1 hv => k v H1 e1 ?_
    have e : kindS f = "definite" := by unfold kindS; rw [if_pos h]
    rw [e]; exact hv
  have h := of_decide_eq_false h
  refine r_if0 (t_eqI (c_var 1 rfl (.int _)) c_int) (fun h2 => ?_) fun h2 => ?_
  · have h2 := of_decide_eq_true h2
    refine r_ret c_str fun v H1 e1 hv => k v H1 e1 ?_
    have e : kindS f = "flat" := by unfold kindS; rw [if_neg h, if_pos h2]
    rw [e]; exact hv
  have h2 := of_decide_eq_false h2
  have hd2 : 0 ≤ WM.disc f ∧ WM.disc f < 2 ^ 60 := by
    have b : (f.b * f.b - 4 * f.a * f.c).natAbs < 2 ^ 100 := btu
    have k1 := wide_lt hf.b hf.b
    have k2 := wide_lt (wide_lt (show (4 : Int).natAbs < 2 ^ 3 by decide) hf.a) hf.c
    unfold WM.disc at *
    omega
  cases hq : isSq (WM.disc f) with
  | true =>
    have e : kindS f = "split" := by unfold kindS; rw [if_neg h, if_neg h2, hq]; rfl
    rw [e] at k
    refine r_ret (c_ixL (d := .str "split") 1 (c_lst (ca_cons c_str (ca_cons c_str ca_nil))) (CD.to (c_intb (cc_law_square T hr (ca_cons (c_var 1 rfl (.int _)) ca_nil)) T.bInt) (by rw [hq]; rfl)) rfl rfl (fun _ _ => rfl)) fun v H1 e1 hv => k v H1 e1 hv
  | false =>
    have e : kindS f = "indefinite" := by unfold kindS; rw [if_neg h, if_neg h2, hq]; rfl
    rw [e] at k
    refine r_ret (c_ixL (d := .str "indefinite") 0 (c_lst (ca_cons c_str (ca_cons c_str ca_nil))) (CD.to (c_intb (cc_law_square T hr (ca_cons (c_var 1 rfl (.int _)) ca_nil)) T.bInt) (by rw [hq]; rfl)) rfl rfl (fun _ _ => rfl)) fun v H1 e1 hv => k v H1 e1 hv
theorem cc_law_kind {k : Nat} {f : Fm} {p pos : Pos} (T : Tx X.K X.mg) (hr : Room k X.A) (ha : CDA X (e :: es) σ H [fD f]) (h0 : FB 20 f := by assumption) (hk : 3 ≤ k := by decide) (hg : Gl X "_law_kind" := by rfl) (he : starEach (e :: es) X.env = (false, eval e X.env) :: starEach es X.env := by rfl) (hpl : (backTo pos (starEach es X.env)).any (·.1) = false := by rfl) : CD X (.Call (.Name "_law_kind" p) (e :: es) [] pos) σ H (.str (kindS f)) :=
  c_callF f (ok_law_kind T) (hr.mono hk) ha h0 hg (by decide) he hpl
end
end WC
namespace WC
open PySem PySem.Spec PyProof.Rows L2
open Evl (Ex)
open WM (Fm Mt)
section
variable {X : Cx} {σ : L2.St} {H H0 H' : Hp} {a b c e : Expr} {es : List Expr} {pos : Pos} {d d' : PyData} {P : V → Hp → Prop} {D : Ends} {rest body : List Stmt} {ds ds' : List PyData}
theorem r_forLH {α : Type} {post : α → Prop} {ds : α → List PyData} (j : Nat) {x : Str} {px : Pos} (hp : PassesOwn (model X.prog X.w) X.A X.env X.xe) (hc : X.calm = true) (hN : X.N.Nodup) (he : CR X e σ H fun v H2 => ∃ y, post y ∧ Dp X.K H2 v (.list (ds y)))
    (k : ∀ y xs H1, post y → Ex H H1 → DpAll X.K H1 xs (ds y) → ∃ Pv : Nat → L2.St → Hp → Prop, Pv 0 σ H1 ∧ (∀ i v σ' H', xs[i]? = some v → Ex H1 H' → Pv i σ' H' → WS X body { D with nx := fun σ2 H2 => Pv (i + 1) σ2 H2 ∧ Ex H1 H2, ct := fun σ2 H2 => Pv (i + 1) σ2 H2 ∧ Ex H1 H2, bk := wS X rest D } (σ'.set j (some v)) H') ∧ (∀ σ' H', Ex H1 H' → Pv xs.length σ' H' → WS X rest D σ' H'))
    (hj : X.N[j]? = some x := by rfl) (hx : Loc X.env.scope x := by first | exact Or.inl rfl | exact Or.inr rfl) (hf : X.fn x = true ∨ X.env.scope.names.lookup x = some .local := by first | exact .inl rfl | exact .inr rfl) (hfs : ∀ y, foldedSetIterable e X.env y = pure y := by intro _; rfl) :
    WS X (.For (.Name x px) e body [] pos :: rest) D σ H :=
  ws_of (ps_for hp hc (pi_list pw) (pg_name hN hj hx hf) pws hfs) fun H1 e1 => he H1 e1 _ fun v H2 e2 hv => by
    obtain ⟨y, hy, hv⟩ := hv
    obtain _ | _ | _ | _ | ⟨hs, hall⟩ | _ := hv
    rename_i l xs
    obtain ⟨Pv, h0, turn, done⟩ := k y xs H2 hy (e1.trans e2) hall
    exact ⟨l, rfl, ⟨xs, hs⟩, for_list (fun i σ' H' => Pv i σ' H' ∧ Ex H2 H') ⟨h0, Ex.refl _⟩ (fun i σ' H' _ hP => Evl.ex_l hP.2 hs) (fun i v σ' H' hi hP => turn i v σ' H' hi hP.2 hP.1 H' (Ex.refl H')) fun σ' H' hP => done σ' H' hP.2 hP.1 H' (Ex.refl H')⟩
theorem t_isN {j : Nat} {p2 : Pos} (ha : CD X a σ H .none) : CT X (.Compare a [.Is] [.Constant .none j p2] pos) σ H true := of_pt (pt_cmpR op_isN pw pe_non (nomark _)) fun H1 e1 Q q => ha H1 e1 _ fun v H2 e2 hv => ⟨rfl, true, by rw [hv.non_eq]; rfl, q H2 e2⟩
theorem t_isT {j : Nat} {p2 : Pos} {ds : List PyData} (ha : CD X a σ H (.tuple ds)) : CT X (.Compare a [.Is] [.Constant .none j p2] pos) σ H false := of_pt (pt_cmpR op_isN pw pe_non (nomark _)) fun H1 e1 Q q => ha H1 e1 _ fun v H2 e2 hv => ⟨rfl, false, by
  obtain _ | _ | _ | _ | _ | _ := hv
  rfl, q H2 e2⟩
end
theorem gcd_bd {a b : Int} {k : Nat} (ha : a.natAbs < 2 ^ k) (hb : b.natAbs < 2 ^ k) : ((Int.gcd a b : Nat) : Int).natAbs < 2 ^ k := by
  show Int.gcd a b < 2 ^ k
  by_cases h : a = 0
  · subst h
    rw [Int.gcd_zero_left]; exact hb
  · have := Nat.le_of_dvd (by omega) (Int.natAbs_dvd_natAbs.mpr (Int.gcd_dvd_left a b))
    have e : ((Int.gcd a b : Nat) : Int).natAbs = Int.gcd a b := rfl
    omega
structure ShPre (x : Int × Int × Int) : Prop where
  g : x.1 ≠ 0
  c : WM.Cop x.2.1 x.2.2
  b : WM.Bd B40 (WM.flF x.1 x.2.1 x.2.2)
structure SmallM (f : Fm) (z : Mt) : Prop where
  d : WM.det z = 1
  e : WM.act f z = f
  p : -4 ≤ z.p ∧ z.p ≤ 4
  q : -4 ≤ z.q ∧ z.q ≤ 4
  r : -4 ≤ z.r ∧ z.r ≤ 4
  s : -4 ≤ z.s ∧ z.s ≤ 4
def Sm (K : PySem.W.Frag) (f : Fm) (H0 : Hp) (p : Addr) (n : Nat) (H : Hp) : Prop := ∃ zs : List Mt, zs.length ≤ n ∧ (∀ z ∈ zs, SmallM f z) ∧ Own K H0 p (zs.map mD) H
theorem Sm.up {K : PySem.W.Frag} {f : Fm} {H0 H H' : Hp} {p : Addr} {n m : Nat} (h : Sm K f H0 p n H) (e : Ex H H') (hm : n ≤ m) : Sm K f H0 p m H' := by
  obtain ⟨zs, h1, h2, h3⟩ := h
  exact ⟨zs, Nat.le_trans h1 hm, h2, h3.up e⟩
def madeO (grp : List Mt) : Option Mt → List Mt
  | none => grp
  | some G => WM.made grp G
structure MdPre (x : List Mt × Option Mt) : Prop where
  l : x.1.length ≤ 12
  g : ∀ G, x.2 = some G → MB 200 G ∧ ∀ m ∈ x.1, MB 200 m
theorem pre_mb {G m : Mt} (hG : MB 200 G) (hm : MB 200 m) : ∀ j, MB (200 + 201 * j) (WM.pre G j m m).2.1 ∧ MB (200 + 201 * j) (WM.pre G j m m).2.2
  | 0 => ⟨hm, hm⟩
  | j + 1 => by
    obtain ⟨h1, h2⟩ := pre_mb hG hm j
    exact ⟨(MB.mul h1 hG).le (by omega), (MB.mul h2 (MB.inv hG)).le (by omega)⟩
theorem ms_lfree (ms : List Mt) : lfreeAll (ms.map mD) = true := lfreeAll_map (fun _ => rfl) ms
section
variable {P : Program} {w : World} {K : PySem.W.Frag} {mg : Str → Option Value} {base : Heap}
variable {X : Cx} {σ : L2.St} {H : Hp} {e : Expr} {es : List Expr}
theorem sc_law_shear : FnScope ["_law_form_here", "_law_g", "_law_p", "_law_q"] ["_law_form_here"] (defScope sLawShear) := ⟨rfl, rfl, rfl, by decide +kernel, rfl, by decide +kernel, by decide +kernel⟩
theorem ok_law_shear (T : Tx K mg) : Ok P w K mg base "_law_shear" ["_law_form_here"] 2 (SpF K (fun x : Int × Int × Int => [fD (WM.flF x.1 x.2.1 x.2.2)]) ShPre (fun x => mD (WM.shear x.2.1 x.2.2))) := by
  refine ok_of T.fLawShear sc_law_shear (fun _ _ _ _ _ _ us hl => match us, hl with | [_], _ => rfl) (spF_len fun _ => rfl) fun f cdv A outer s H0 E vs H Q hr h => ?_
  obtain ⟨⟨G, P', Q'⟩, hv, ⟨hG, hc, hB⟩, k⟩ := h
  dsimp only at hv k hG hc hB
  obtain _ | ⟨h1, _ | _⟩ := hv
  have fb : FB 29 (WM.flF G P' Q') := fb_of hB (Int.le_refl _)
  have b1 := bt_le fb.a (show 29 ≤ 30 by decide)
  have b2 := bt_le fb.b (show 29 ≤ 30 by decide)
  have b3 := bt_le fb.c (show 29 ≤ 30 by decide)
  have b4 := gcd_bd b1 b2
  obtain ⟨pB, qB, gB⟩ := flat_sizes hG hc hB
  have g1 := WM.ab_pos hG
  have hcont := (WM.flF_divd hG hc).1
  refine r_asgI 1 (n := WM.ab G) sc_law_shear.nd (CD.to (cc_law_measure T hr (ca_cons (cc_law_measure T hr (ca_cons (c_ixT 0 (c_var 0 rfl (by assumption)) c_int rfl rfl (fun _ _ => rfl)) (ca_cons (c_ixT 1 (c_var 0 rfl (by assumption)) c_int rfl rfl (fun _ _ => rfl)) ca_nil))) (ca_cons (c_ixT 2 (c_var 0 rfl (by assumption)) c_int rfl rfl (fun _ _ => rfl)) ca_nil))) (by rw [← hcont]; rfl)) ?_
  have pp := WM.sq_nn P'
  have qq := WM.sq_nn Q'
  have a0 : WM.ab G ≠ 0 := by omega
  have ea : (if (WM.flF G P' Q').a < 0 then -(WM.flF G P' Q').a else (WM.flF G P' Q').a) = WM.ab G * (P' * P') := by
    show WM.ab (G * P' * P') = _
    rw [Int.mul_assoc, WM.ab_mul, WM.ab_mul P' P', WM.ab_sq]
  have ec : (if (WM.flF G P' Q').c < 0 then -(WM.flF G P' Q').c else (WM.flF G P' Q').c) = WM.ab G * (Q' * Q') := by
    show WM.ab (G * Q' * Q') = _
    rw [Int.mul_assoc, WM.ab_mul, WM.ab_mul Q' Q', WM.ab_sq]
  have dv : ∀ i, CDivN i (WM.ab G) := fun i => ⟨a0, by unfold B40 at gB; omega⟩
  have bP : 0 ≤ P' * P' ∧ P' * P' < 2 ^ 60 := ⟨pp, by unfold B40 at pB; omega⟩
  have bQ : 0 ≤ Q' * Q' ∧ Q' * Q' < 2 ^ 60 := ⟨qq, by unfold B40 at qB; omega⟩
  refine r_asgI 2 (n := WM.ab P') sc_law_shear.nd (CD.to (c_callF (P' * P') (ok_law_root T) (hr.mono (by decide)) (ca_cons (CD.to (c_fdiv (c_abs (c_ixT 0 (c_var 0 rfl (by assumption)) c_int rfl rfl (fun _ _ => rfl)) T.bAbs) (c_var 1 rfl (.int _)) (dv _)) (by rw [ea, Int.mul_fdiv_cancel_left _ a0])) ca_nil) bP) (by rw [sqrt_sq])) ?_
  refine r_asgI 3 (n := WM.ab Q') sc_law_shear.nd (CD.to (c_callF (Q' * Q') (ok_law_root T) (hr.mono (by decide)) (ca_cons (CD.to (c_fdiv (c_abs (c_ixT 2 (c_var 0 rfl (by assumption)) c_int rfl rfl (fun _ _ => rfl)) T.bAbs) (c_var 1 rfl (.int _)) (dv _)) (by rw [ec, Int.mul_fdiv_cancel_left _ a0])) ca_nil) bQ) (by rw [sqrt_sq])) ?_
  have aPs := ab_le_sq P'
  have aQs := ab_le_sq Q'
  have i1 : Bt 30 (WM.flF G P' Q').a := ⟨b1⟩
  have i2 : Bt 30 (WM.flF G P' Q').b := ⟨b2⟩
  have i3 : Bt 30 (WM.flF G P' Q').c := ⟨b3⟩
  have sg := WM.sgn_b hG (WM.cop_nz hc)
  have i4 : Bt 30 (WM.ab P') := ⟨by unfold B40 WM.ab at *; omega⟩
  have i5 : Bt 30 (WM.ab Q') := ⟨by unfold B40 WM.ab at *; omega⟩
  rename_i vf
  refine r_ifM (fun σ2 H2 => σ2 = [some vf, some (.int (WM.ab G)), some (.int (WM.ab P')), some (.int (if P' * Q' < 0 then -WM.ab Q' else WM.ab Q'))] ∧ Ex H H2) (t_lt (c_mul (c_ixT 1 (c_var 0 rfl (by assumption)) c_int rfl rfl (fun _ _ => rfl)) (c_add (c_ixT 0 (c_var 0 rfl (by assumption)) c_int rfl rfl (fun _ _ => rfl)) (c_ixT 2 (c_var 0 rfl (by assumption)) c_int rfl rfl (fun _ _ => rfl))) (by exact cmw)) c_int) (fun hb => ?_) (fun hb => ?_) fun σ2 H2 hM => ?_
  · have hb : 2 * G * P' * Q' * (G * P' * P' + G * Q' * Q') < 0 := of_decide_eq_true hb
    rw [if_pos (sg.mp hb)]
    exact r_asgI 3 sc_law_shear.nd (c_neg (c_var 3 rfl (.int _))) (r_nil fun H3 e3 => ⟨rfl, e3⟩)
  · have hb : ¬ 2 * G * P' * Q' * (G * P' * P' + G * Q' * Q') < 0 := of_decide_eq_false hb
    rw [if_neg (fun q => hb (sg.mpr q))]
    exact r_nil fun H3 e3 => ⟨rfl, e3⟩
  obtain ⟨rfl, e2⟩ := hM
  have es := WM.shear_abs (P := P') (Q := Q') rfl rfl
  have i6 : Bt 30 (if P' * Q' < 0 then -WM.ab Q' else WM.ab Q') := ⟨by have := i5.h; split <;> omega⟩
  rw [← es] at k
  generalize (if P' * Q' < 0 then -WM.ab Q' else WM.ab Q') = q at *
  generalize WM.ab P' = p at *
  refine r_ret (CD.to (d' := mD (WM.shear p q)) (c_tup (ca_cons (c_sub c_int (c_mul (c_var 2 rfl (.int _)) (c_var 3 rfl (.int _)) (by exact cmw))) (ca_cons (c_mul (c_neg (c_var 3 rfl (.int _))) (c_var 3 rfl (.int _)) (by exact cmw)) (ca_cons (c_mul (c_var 2 rfl (.int _)) (c_var 2 rfl (.int _)) (by exact cmw)) (ca_cons (c_add c_int (c_mul (c_var 2 rfl (.int _)) (c_var 3 rfl (.int _)) (by exact cmw))) ca_nil))))) ?_) fun v H3 e3 hv => k v H3 (e2.trans e3) hv
  show _ = PyData.tuple [.int (1 - p * q), .int (-(q * q)), .int (p * p), .int (1 + p * q)]
  rw [Int.neg_mul]
theorem cc_law_shear {k : Nat} {G A B : Int} {p pos : Pos} (T : Tx X.K X.mg) (hr : Room k X.A) (ha : CDA X (e :: es) σ H [fD (WM.flF G A B)]) (h0 : ShPre (G, A, B) := by assumption) (hk : 2 ≤ k := by decide) (hg : Gl X "_law_shear" := by rfl) (he : starEach (e :: es) X.env = (false, eval e X.env) :: starEach es X.env := by rfl) (hpl : (backTo pos (starEach es X.env)).any (·.1) = false := by rfl) : CD X (.Call (.Name "_law_shear" p) (e :: es) [] pos) σ H (mD (WM.shear A B)) :=
  c_callF (G, A, B) (ok_law_shear T) (hr.mono hk) ha h0 hg (by decide) he hpl
theorem sc_law_made : FnScope ["_law_group", "_law_generator", "_law_found", "_law_m", "_law_ahead", "_law_back", "_law_turn", "_law_k"] ["_law_group", "_law_generator"] (defScope sLawMade) := ⟨rfl, rfl, rfl, by decide +kernel, rfl, by decide +kernel, by decide +kernel⟩
theorem ok_law_made (T : Tx K mg) : Ok P w K mg base "_law_made" ["_law_group", "_law_generator"] 2 (SpF K (fun x : List Mt × Option Mt => [msD x.1, gD x.2]) MdPre (fun x => msD (madeO x.1 x.2))) := by
  refine ok_of T.fLawMade sc_law_made (fun _ _ _ _ _ _ us hl => match us, hl with | [_, _], _ => rfl) (spF_len fun _ => rfl) fun f cdv A outer s H0 E vs H Q hr h => ?_
  obtain ⟨⟨grp, gen⟩, hv, hP, k⟩ := h
  dsimp only at hv k
  obtain _ | ⟨h1, _ | ⟨h2, _ | _⟩⟩ := hv
  rename_i vg ve
  refine r_asg 2 sc_law_made.nd (c_listOf (c_var 0 rfl (by assumption)) T.bList) fun vl H1 e1 hl => ?_
  have h1 := h1.up e1
  have h2 := h2.up e1
  cases gen with
  | none =>
    have h2 : Dp K H1 ve .none := h2
    refine r_if0 (t_isN (c_var 1 rfl (by assumption))) (fun _ => ?_) fun n => absurd n (by decide)
    exact r_ret (CR.dp (c_varL 2 rfl hl)) fun v H2 e2 hv => k v H2 (e1.trans e2) hv
  | some G =>
    have h2 : Dp K H1 ve (mD G) := h2
    obtain ⟨gb, mbs⟩ := hP.g G rfl
    have hlen := hP.l
    dsimp only at mbs hlen
    refine r_if0 (t_isT (c_var 1 rfl (by assumption))) (fun n => absurd n (by decide)) fun _ => ?_
    refine r_forLH (α := Unit) (post := fun _ => True) (ds := fun _ => grp.map mD) 3 nox_own rfl sc_law_made.nd (CR.imp (c_var 0 rfl (by assumption)) fun v H2 _ hv => ⟨(), trivial, hv⟩) fun _ xs H2 _ e2 hall => ?_
    have hxl : xs.length = grp.length := by have := hall.len; rw [List.length_map] at this; exact this
    refine ⟨fun i σ' H' => ∃ vl q3 q4 q5 q6 q7, σ' = [some vg, some ve, some vl, q3, q4, q5, q6, q7] ∧ IsL K ((grp ++ (grp.take i).flatMap fun m => WM.turns G 9 m m).map mD) vl H', ⟨vl, none, none, none, none, none, rfl, ?_⟩, fun i v σ' H3 hi e3 hP => ?_, fun σ' H3 e3 hP => ?_⟩
    · rw [List.take_zero, List.flatMap_nil, List.append_nil]
      exact hl.up e2
    · obtain ⟨vl, q3, q4, q5, q6, q7, rfl, hl⟩ := hP
      have hi2 : i < grp.length := by have := (List.getElem?_eq_some_iff.mp hi).1; omega
      obtain ⟨v', k1, k2⟩ := hall.get (i := i) (d := mD grp[i]) (by rw [List.getElem?_map, List.getElem?_eq_getElem hi2]; rfl)
      rw [hi] at k1; cases k1
      have mb := mbs grp[i] (List.getElem_mem hi2)
      have hm := k2.up e3
      have h2 := (h2.up e2).up e3
      generalize hbase : grp ++ (grp.take i).flatMap (fun m => WM.turns G 9 m m) = fs at *
      have hfs : fs.length ≤ 400 := by
        have : ((grp.take i).flatMap fun m => WM.turns G 9 m m).length ≤ 18 * i := by
          have key : ∀ l : List Mt, (l.flatMap fun m => WM.turns G 9 m m).length = 18 * l.length := by
            intro l
            induction l with
            | nil => rfl
            | cons x l ih =>
              rw [List.flatMap_cons, List.length_append, ih, ← WM.pre_nine, WM.pre_len]
              simp only [List.length_cons]; omega
          rw [key, List.length_take]; omega
        rw [← hbase, List.length_append]; omega
      generalize hgm : grp[i] = m at *
      refine r_asg 4 sc_law_made.nd (c_var 3 rfl (by assumption)) fun v4 H4 e4 hm4 => ?_
      have hm := hm.up e4
      have h2 := h2.up e4
      refine r_asg 5 sc_law_made.nd (c_var 3 rfl (by assumption)) fun v5 H5 e5 hm5 => ?_
      have hm4 := hm4.up e5
      have h2 := h2.up e5
      have : Bt 200 G.p := ⟨gb.p⟩
      refine r_asg 6 sc_law_made.nd (c_tup (ca_cons (c_ixT 3 (c_var 1 rfl (by assumption)) c_int rfl rfl (fun _ _ => rfl)) (ca_cons (c_neg (c_ixT 1 (c_var 1 rfl (by assumption)) c_int rfl rfl (fun _ _ => rfl))) (ca_cons (c_neg (c_ixT 2 (c_var 1 rfl (by assumption)) c_int rfl rfl (fun _ _ => rfl))) (ca_cons (c_ixT 0 (c_var 1 rfl (by assumption)) c_int rfl rfl (fun _ _ => rfl)) ca_nil))))) fun v6 H6 e6 hm6 => ?_
      have hm4 := hm4.up e6
      have hm5 := hm5.up e6
      have h2 := h2.up e6
      have hl := ((hl.up e4).up e5).up e6
      have hm6 : Dp K H6 v6 (mD (WM.inv G)) := hm6
      have gbb := gb.le (show 200 ≤ big by decide)
      have gib := MB.inv gbb
      refine r_forR 7 nox_own rfl sc_law_made.nd T.bRange c_int ⟨by decide, by decide⟩ (fun j σ' H' => ∃ vl va vb q7, σ' = [some vg, some ve, some vl, some v, some va, some vb, some v6, q7] ∧ IsL K ((fs ++ (WM.pre G j m m).1).map mD) vl H' ∧ Dp K H' va (mD (WM.pre G j m m).2.1) ∧ Dp K H' vb (mD (WM.pre G j m m).2.2) ∧ Ex H6 H')
        (fun H7 e7 => ⟨vl, v4, v5, _, rfl, by show IsL K ((fs ++ []).map mD) vl H7; rw [List.append_nil]; exact hl.up e7, hm4.up e7, hm5.up e7, e7⟩) (fun j σ' H7 hj hP => ?_) fun σ' H7 hP => ?_
      · obtain ⟨vl, va, vb, q7, rfl, hl, ha, hb, e7⟩ := hP
        have hj9 : j < 9 := by omega
        obtain ⟨s1, s2⟩ := pre_mb gb mb j
        have s1 := s1.le (show 200 + 201 * j ≤ big by rw [big_val]; omega)
        have s2 := s2.le (show 200 + 201 * j ≤ big by rw [big_val]; omega)
        have h2 := h2.up e7
        have hm6 := hm6.up e7
        refine r_asg 4 sc_law_made.nd (cc_law_mul T hr (ca_cons (c_var 4 rfl (by assumption)) (ca_cons (c_var 1 rfl (by assumption)) ca_nil))) fun v8 H8 e8 ha8 => ?_
        have hb := hb.up e8
        have hm6 := hm6.up e8
        refine r_asg 5 sc_law_made.nd (cc_law_mul T hr (ca_cons (c_var 5 rfl (by assumption)) (ca_cons (c_var 6 rfl (by assumption)) ca_nil))) fun v9 H9 e9 hb9 => ?_
        have ha9 := ha8.up e9
        have hl := (hl.up e8).up e9
        refine r_asg 2 sc_law_made.nd (c_cat (c_varL 2 rfl hl) (c_lstL (ca_cons (c_var 4 rfl (by assumption)) (ca_cons (c_var 5 rfl (by assumption)) ca_nil))) ?_) fun v10 H10 e10 hl10 => ?_
        · rw [List.length_map, List.length_append, WM.pre_len]
          show _ + 2 ≤ 100000
          omega
        · refine r_nil fun H11 e11 => ⟨v10, v8, v9, _, rfl, ?_, (ha9.up e10).up e11, (hb9.up e10).up e11, (((e7.trans e8).trans e9).trans e10).trans e11⟩
          have := hl10.up e11
          show IsL K ((fs ++ ((WM.pre G j m m).1 ++ [WM.mul (WM.pre G j m m).2.1 G, WM.mul (WM.pre G j m m).2.2 (WM.inv G)])).map mD) v10 H11
          rw [← List.append_assoc, List.map_append]
          exact this
      · obtain ⟨vl, va, vb, q7, rfl, hl, ha, hb, e7⟩ := hP
        have hl : IsL K ((fs ++ (WM.pre G 9 m m).1).map mD) vl H7 := hl
        refine r_nil fun H8 e8 => ⟨⟨vl, _, _, _, _, _, rfl, ?_⟩, ((((e3.trans e4).trans e5).trans e6).trans e7).trans e8⟩
        have hl := hl.up e8
        rw [WM.pre_nine, ← hbase, ← hgm] at hl
        have ht : grp.take (i + 1) = grp.take i ++ [grp[i]] := by rw [List.take_add_one, List.getElem?_eq_getElem hi2]; rfl
        rw [ht, List.flatMap_append, List.flatMap_cons, List.flatMap_nil, List.append_nil, ← List.append_assoc]
        exact hl
    · obtain ⟨vl, q3, q4, q5, q6, q7, rfl, hl⟩ := hP
      rw [hxl, List.take_length] at hl
      exact r_ret (CR.dp (c_varL 2 rfl hl)) fun v H4 e4 hv => k v H4 (((e1.trans e2).trans e3).trans e4) hv
end
end WC
namespace WC
open PySem PySem.Spec PyProof.Rows L2
open Evl (Ex)
open WM (Fm Mt)
section
variable {P : Program} {w : World} {K : PySem.W.Frag} {mg : Str → Option Value} {base : Heap}
variable {X : Cx} {σ : L2.St} {H : Hp} {e : Expr} {es : List Expr}
structure SmsPost (f : Fm) (zs : List Mt) : Prop where
  l : zs.length ≤ 7000
  x : ∀ z ∈ zs, SmallM f z
theorem sc_law_small : FnScope ["_law_form_here", "_law_found", "_law_p", "_law_q", "_law_r", "_law_s"] ["_law_form_here"] (defScope sLawSmall) := ⟨rfl, rfl, rfl, by decide +kernel, rfl, by decide +kernel, by decide +kernel⟩
theorem ok_law_small (T : Tx K mg) : Ok P w K mg base "_law_small" ["_law_form_here"] 3 (SpR K (fun f : Fm => [fD f]) (FB 30) SmsPost msD) := by
  refine ok_of T.fLawSmall sc_law_small (fun _ _ _ _ _ _ us hl => match us, hl with | [_], _ => rfl) (spR_len fun _ => rfl) fun f cdv A outer s H0 E vs H Q hr h => ?_
  obtain ⟨f, hv, hf, k⟩ := h
  dsimp only at hv k hf
  obtain _ | ⟨h1, _ | _⟩ := hv
  rename_i vf
  refine r_asg 1 sc_law_small.nd (c_lstN ca_nil) fun v H1 e1 hl => ?_
  obtain ⟨p, rfl, ho⟩ := hl
  have h0 : Sm K f H p 0 H1 := ⟨[], Nat.le_refl _, fun z hz => (by cases hz), ho⟩
  refine r_forR2 2 nox_own rfl sc_law_small.nd T.bRange (c_neg c_int) c_int ⟨by decide, by decide, by decide, by decide⟩ (fun i σ' H' => ∃ a b c d, σ' = [some vf, some (.ref p), a, b, c, d] ∧ Sm K f H p (729 * i) H')
    (fun H2 e2 => ⟨none, none, none, none, rfl, h0.up e2 (by omega)⟩) (fun i σ' H' hi hP => ?_) fun σ' H' hP => ?_
  · obtain ⟨a, b, c, d, rfl, hS⟩ := hP
    refine r_forR2 3 nox_own rfl sc_law_small.nd T.bRange (c_neg c_int) c_int ⟨by decide, by decide, by decide, by decide⟩ (fun j σ' H' => ∃ b c d, σ' = [some vf, some (.ref p), some (.int (-4 + (i : Int))), b, c, d] ∧ Sm K f H p (729 * i + 81 * j) H')
      (fun H2 e2 => ⟨_, _, _, rfl, hS.up e2 (by omega)⟩) (fun j σ' H' hj hP => ?_) fun σ' H' hP => ?_
    · obtain ⟨b, c, d, rfl, hS⟩ := hP
      refine r_forR2 4 nox_own rfl sc_law_small.nd T.bRange (c_neg c_int) c_int ⟨by decide, by decide, by decide, by decide⟩ (fun k σ' H' => ∃ c d, σ' = [some vf, some (.ref p), some (.int (-4 + (i : Int))), some (.int (-4 + (j : Int))), c, d] ∧ Sm K f H p (729 * i + 81 * j + 9 * k) H')
        (fun H2 e2 => ⟨_, _, rfl, hS.up e2 (by omega)⟩) (fun kk σ' H' hk hP => ?_) fun σ' H' hP => ?_
      · obtain ⟨c, d, rfl, hS⟩ := hP
        refine r_forR2 5 nox_own rfl sc_law_small.nd T.bRange (c_neg c_int) c_int ⟨by decide, by decide, by decide, by decide⟩ (fun l σ' H' => ∃ d, σ' = [some vf, some (.ref p), some (.int (-4 + (i : Int))), some (.int (-4 + (j : Int))), some (.int (-4 + (kk : Int))), d] ∧ Sm K f H p (729 * i + 81 * j + 9 * kk + l) H')
          (fun H2 e2 => ⟨_, rfl, hS.up e2 (by omega)⟩) (fun l σ' H' hl hP => ?_) fun σ' H' hP => ?_
        · obtain ⟨d, rfl, zs, hz1, hz2, ho⟩ := hP
          have h1 := h1.up ho.ex
          have b1 : (-4 + (i : Int)).natAbs < 2 ^ 3 := by omega
          have b2 : (-4 + (j : Int)).natAbs < 2 ^ 3 := by omega
          have b3 : (-4 + (kk : Int)).natAbs < 2 ^ 3 := by omega
          have b4 : (-4 + (l : Int)).natAbs < 2 ^ 3 := by omega
          have mb : MB 160000 (⟨-4 + (i : Int), -4 + (j : Int), -4 + (kk : Int), -4 + (l : Int)⟩ : Mt) := (show MB 3 _ from ⟨b1, b2, b3, b4⟩).le (by decide)
          have r1 : -4 ≤ -4 + (i : Int) ∧ -4 + (i : Int) ≤ 4 := ⟨by omega, by omega⟩
          have r2 : -4 ≤ -4 + (j : Int) ∧ -4 + (j : Int) ≤ 4 := ⟨by omega, by omega⟩
          have r3 : -4 ≤ -4 + (kk : Int) ∧ -4 + (kk : Int) ≤ 4 := ⟨by omega, by omega⟩
          have r4 : -4 ≤ -4 + (l : Int) ∧ -4 + (l : Int) ≤ 4 := ⟨by omega, by omega⟩
          show WS _ _ _ [some vf, some (.ref p), some (.int (-4 + (i : Int))), some (.int (-4 + (j : Int))), some (.int (-4 + (kk : Int))), some (.int (-4 + (l : Int)))] H'
          have len : 729 * i + 81 * j + 9 * kk + l < 7000 := by omega
          generalize -4 + (i : Int) = P' at *
          generalize -4 + (j : Int) = Q' at *
          generalize -4 + (kk : Int) = R' at *
          generalize -4 + (l : Int) = S' at *
          have : Bt 3 P' := ⟨b1⟩
          have : Bt 3 Q' := ⟨b2⟩
          have : Bt 3 R' := ⟨b3⟩
          have : Bt 3 S' := ⟨b4⟩
          refine r_if0 (ct_w (t_and (t_eqI (c_sub (c_mul (c_var 2 rfl (.int _)) (c_var 5 rfl (.int _)) (by exact cmw)) (c_mul (c_var 3 rfl (.int _)) (c_var 4 rfl (.int _)) (by exact cmw))) c_int) fun hb => t_and1 (t_eqD (hu64 hr) (c_callF (f, ⟨P', Q', R', S'⟩) (ok_law_act T) (hr.mono (by decide)) (ca_cons (c_var 0 rfl (by assumption)) (ca_cons (c_tup (ca_cons (c_var 2 rfl (.int _)) (ca_cons (c_var 3 rfl (.int _)) (ca_cons (c_var 4 rfl (.int _)) (ca_cons (c_var 5 rfl (.int _)) ca_nil))))) ca_nil)) ⟨hf, mb⟩) (c_var 0 rfl (by assumption)) rfl rfl))) (fun hb => ?_) fun hb => ?_
          · rw [eqv_f, Bool.and_eq_true, decide_eq_true_eq, decide_eq_true_eq] at hb
            refine r_appO (d := mD ⟨P', Q', R', S'⟩) 1 rfl ho (by rw [List.length_map]; omega) (c_tup (ca_cons (c_var 2 rfl (.int _)) (ca_cons (c_var 3 rfl (.int _)) (ca_cons (c_var 4 rfl (.int _)) (ca_cons (c_var 5 rfl (.int _)) ca_nil))))) (ms_lfree _) rfl fun H2 et ho => ?_
            refine r_nil (r_nil fun H3 e3 => ⟨_, rfl, zs ++ [⟨P', Q', R', S'⟩], by rw [List.length_append]; show _ + 1 ≤ _; omega, fun z hz => ?_, by rw [List.map_append]; exact ho.up e3⟩)
            rcases List.mem_append.mp hz with hz | hz
            · exact hz2 z hz
            · rw [List.mem_singleton.mp hz]
              exact ⟨hb.1, hb.2, r1, r2, r3, r4⟩
          · exact r_nil fun H3 e3 => ⟨_, rfl, zs, by omega, hz2, ho.up e3⟩
        · obtain ⟨d, rfl, hS⟩ := hP
          exact r_nil fun H2 e2 => ⟨_, _, rfl, hS.up e2 (by show _ + 9 ≤ _; omega)⟩
      · obtain ⟨c, d, rfl, hS⟩ := hP
        exact r_nil fun H2 e2 => ⟨_, _, _, rfl, hS.up e2 (by show _ + 9 * 9 ≤ _; omega)⟩
    · obtain ⟨b, c, d, rfl, hS⟩ := hP
      exact r_nil fun H2 e2 => ⟨_, _, _, _, rfl, hS.up e2 (by show _ + 81 * 9 ≤ _; omega)⟩
  · obtain ⟨a, b, c, d, rfl, zs, hz1, hz2, ho⟩ := hP
    exact r_ret (CR.dp (c_varL 1 rfl ho.is)) fun v H2 e2 hv => k zs v H2 ⟨by have : zs.length ≤ 729 * 9 := hz1; omega, hz2⟩ (ho.ex.trans e2) hv
end
end WC
namespace WC
open PySem PySem.Spec PyProof.Rows L2
open Evl (Ex)
open WM (Fm Mt)
/-- what a draw leaves -/
def Nx (K : PySem.W.Frag) (vs : V) (n : Nat) (many : Int) (H : Hp) (v : V) (H2 : Hp) : Prop := ∃ r : Int, v = .int r ∧ 0 ≤ r ∧ r < many ∧ Sta K (n + 1) vs H2 ∧ Mu vs H H2
section
variable {X : Cx} {σ : L2.St} {H H0 H' : Hp} {a b c e idx : Expr} {es : List Expr} {pos : Pos} {d d' : PyData} {P Pa : V → Hp → Prop} {D : Ends} {rest body : List Stmt} {ds ds' : List PyData}
theorem cm_next {k n : Nat} {many : Int} {vs : V} {p px : Pos} (i : Nat) (T : Tx X.K X.mg) (hr : Room k X.A) (hs : σ[i]? = some (some vs)) (hS : Sta X.K n vs H) (hm : CD X b σ H (.int many)) (hb : n ≤ 100000 ∧ 0 < many ∧ many ≤ 1000) (hk : 1 ≤ k := by decide)
    (hN : X.N[i]? = some "_law_state_here" := by rfl) (hv : Vis X.env.scope "_law_state_here" := by first | exact Or.inl rfl | exact Or.inr (Or.inl rfl) | exact Or.inr (Or.inr rfl)) (hg : Gl X "_law_next" := by rfl)
    (hs1 : starEach [.Name "_law_state_here" px, b] X.env = (false, eval (.Name "_law_state_here" px) X.env) :: starEach [b] X.env := by rfl) (hs2 : starEach [b] X.env = (false, eval b X.env) :: starEach [] X.env := by rfl) (hpl : (backTo pos (starEach [b] X.env)).any (·.1) = false := by rfl) :
    CM X (.Call (.Name "_law_next" p) [.Name "_law_state_here" px, b] [] pos) σ H (Nx X.K vs n many H) :=
  cm_call (ok_law_next T) (hr.mono hk) (wa_st (K := X.K) (n := n) i hs hm hN hv (by decide) (by decide) hs1 hs2) (fun ws H1 hw Q q => ⟨vs, n, many, hw.1, hS.up hw.2, hb.1, hb.2.1, hb.2.2, fun r H2 r0 r1 hS2 hM => q _ _ ⟨r, rfl, r0, r1, hS2, (Mu.of hw.2).trans hM⟩⟩) hg (by decide) hs1 hpl
theorem cm_int {i : Int} {j : Nat} : CM X (.Constant (.int i) j pos) σ H (fun v H2 => v = .int i ∧ H2 = H) := of_peM pe_int fun Q q => q _ _ ⟨rfl, rfl⟩
theorem cm_cd {i : Int} (h : CD X e σ H (.int i)) : CM X e σ H (fun v H2 => v = .int i ∧ Ex H H2) := fun Q q => h H (Ex.refl H) Q fun v H2 e2 hv => q v H2 ⟨hv.int_eq, e2⟩
/-- a - c, c + a of a draw and a number -/
theorem cm_subc {c : Int} {j : Nat} {p2 : Pos} {R : Int → Hp → Prop} (ha : CM X a σ H fun v H2 => ∃ r : Int, v = .int r ∧ R r H2) : CM X (.BinOp a .Sub (.Constant (.int c) j p2) pos) σ H (fun v H2 => ∃ r : Int, v = .int (r - c) ∧ R r H2) :=
  cm_op op_sub ha fun v H2 ⟨r, e1, hr⟩ => cm_int.imp fun u H3 ⟨e2, e3⟩ Q q => ⟨r, c, e1, e2, q _ _ ⟨r, rfl, e3 ▸ hr⟩⟩
theorem cm_addc {c : Int} {j : Nat} {p2 : Pos} {R : Int → Hp → Prop} (ha : CM X a σ H fun v H2 => ∃ r : Int, v = .int r ∧ R r H2) : CM X (.BinOp (.Constant (.int c) j p2) .Add a pos) σ H (fun v H2 => ∃ r : Int, v = .int (c + r) ∧ R r H2) :=
  cm_op (Pa := fun v H2 => v = .int c ∧ H2 = H) op_add cm_int fun v H2 ⟨e1, e3⟩ => (e3 ▸ ha : CM X a σ H2 fun v H2 => ∃ r : Int, v = .int r ∧ R r H2).imp fun u H3 ⟨r, e2, hr⟩ Q q => ⟨c, r, e1, e2, q _ _ ⟨r, rfl, hr⟩⟩
theorem cm_fdivc {c : Int} {j : Nat} {p2 : Pos} {R : Int → Hp → Prop} (ha : CM X a σ H fun v H2 => ∃ r : Int, v = .int r ∧ R r H2) (hc : c ≠ 0 ∧ c.natAbs < 1073741824) : CM X (.BinOp a .FloorDiv (.Constant (.int c) j p2) pos) σ H (fun v H2 => ∃ q : Int, v = .int q ∧ ∃ r : Int, q = r.fdiv c ∧ R r H2) :=
  cm_op op_fdivN ha fun v H2 ⟨r, e1, hr⟩ => cm_int.imp fun u H3 ⟨e2, e3⟩ Q q => ⟨r, c, e1, e2, hc, q _ _ ⟨_, rfl, r, rfl, e3 ▸ hr⟩⟩
/-- a draw as an index -/
theorem cm_idx {K : PySem.W.Frag} {vs : V} {n : Nat} {many : Int} {m : Nat} (hm : many = (m : Int)) (h : CM X e σ H (Nx K vs n many H)) : CM X e σ H fun v H3 => ∃ r : Nat, v = .int r ∧ r < m ∧ Mu vs H H3 ∧ Sta K (n + 1) vs H3 :=
  h.imp fun v H3 ⟨r, e1, r0, r1, hS, hM⟩ => ⟨r.toNat, by rw [e1, Int.toNat_of_nonneg r0], by omega, hM, hS⟩
/-- for x in range(a part that changes the state) -/
theorem mr_forR (j : Nat) {x : Str} {px p p2 : Pos} {R : Int → Hp → Prop} (hp : PassesOwn (model X.prog X.w) X.A X.env X.xe) (hc : X.calm = true) (hN : X.N.Nodup) (hm : X.mg "range" = none) (he : ∀ H1, Ex H H1 → CM X e σ H1 fun v H2 => ∃ n : Int, v = .int n ∧ 0 ≤ n ∧ n ≤ 100000 ∧ R n H2)
    (k : ∀ n H2, 0 ≤ n → R n H2 → ∃ Pv : Nat → L2.St → Hp → Prop, Pv 0 σ H2 ∧ (∀ (i : Nat) σ' H', (i : Int) < n → Pv i σ' H' → WS X body { D with nx := Pv (i + 1), ct := Pv (i + 1), bk := wS X rest D } (σ'.set j (some (.int (i : Int)))) H') ∧ (∀ σ' H', Pv n.toNat σ' H' → WS X rest D σ' H'))
    (hj : X.N[j]? = some x := by rfl) (hx : Loc X.env.scope x := by first | exact Or.inl rfl | exact Or.inr rfl) (hf : X.fn x = true ∨ X.env.scope.names.lookup x = some .local := by first | exact .inl rfl | exact .inr rfl) (hg : Gl X "range" := by rfl)
    (hst : starEach [e] X.env = [(false, eval e X.env)] := by rfl) (hst2 : starEach [e] X.env = (false, eval e X.env) :: starEach [] X.env := by rfl) (hfs : ∀ y, foldedSetIterable (.Call (.Name "range" p) [e] [] p2) X.env y = pure y := by intro _; rfl) :
    WS X (.For (.Name x px) (.Call (.Name "range" p) [e] [] p2) body [] pos :: rest) D σ H :=
  ws_of (ps_for hp hc (pi_range1 hg hm (pa_cons pw pa_nil hst2) hst) (pg_name hN hj hx hf) pws hfs) fun H1 e1 => he H1 e1 _ fun v H2 hv => by
    obtain ⟨n, rfl, h0, h1, hR⟩ := hv
    obtain ⟨Pv, hP, turn, done⟩ := k n H2 h0 hR
    exact ⟨n, rfl, by omega, by omega, for_range (lo := 0) (n := n.toNat) Pv hP (fun i σ' H' hi pv => by
      have e0 : (0 : Int) + (i : Int) = (i : Int) := Int.zero_add _
      show wS X body _ (σ'.set j (some (.int ((0 : Int) + (i : Int))))) H'
      rw [e0]
      exact turn i σ' H' (by omega) pv H' (Ex.refl H')) (fun σ' H' pv => done σ' H' pv H' (Ex.refl H'))⟩
/-- a local and a part that changes the state as arguments -/
theorem wa_dm {vm : V} {Pb : V → Hp → Prop} (i : Nat) {x : Str} {px : Pos} (hi : σ[i]? = some (some vm)) (hm : CM X b σ H Pb) (hN : X.N[i]? = some x := by rfl) (hv : Vis X.env.scope x := by first | exact Or.inl rfl | exact Or.inr (Or.inl rfl) | exact Or.inr (Or.inr rfl)) (hdb : (x == ("__debug__" : Str)) = false := by decide)
    (hcd : (x == ("__classdict__" : Str)) = false := by decide) (hs1 : starEach [.Name x px, b] X.env = (false, eval (.Name x px) X.env) :: starEach [b] X.env := by rfl) (hs2 : starEach [b] X.env = (false, eval b X.env) :: starEach [] X.env := by rfl) :
    ∀ Q : List V → Hp → Prop, (∀ ws H1, (∃ u, ws = [vm, u] ∧ Pb u H1) → Q ws H1) → wA X [.Name x px, b] σ H Q := fun Q q pos pins s I =>
  (pa_cons (pv i hN hv hdb hcd) (pa_cons pw pa_nil hs2) hs1).run pos pins s σ H Q I ⟨vm, hi, hm _ fun v H2 hv => q _ _ ⟨v, rfl, hv⟩⟩
end
def SpCh (K : PySem.W.Frag) : Sp := fun vs H Q _ => ∃ v n, ∃ many : Nat, vs = [v, .int many] ∧ Sta K n v H ∧ n ≤ 50000 ∧ many ≤ 3 ∧ ∀ m u H', WM.Gen m → WM.MN (3 ^ many) m → Dp K H' u (mD m) → Sta K (n + 7) v H' → Mu v H H' → Q u H'
theorem spCh_len {K : PySem.W.Frag} : ∀ vs H Q E, SpCh K vs H Q E → vs.length = 2 := fun vs H Q E ⟨_, _, _, h, _⟩ => by rw [h]; rfl
def SpFl (K : PySem.W.Frag) (post : Fm → Prop) : Sp := fun vs H Q _ => ∃ v n, vs = [v] ∧ Sta K n v H ∧ n ≤ 50000 ∧ ∀ f u H', post f → Dp K H' u (fD f) → Sta K (n + 7) v H' → Mu v H H' → Q u H'
theorem spFl_len {K : PySem.W.Frag} {post : Fm → Prop} : ∀ vs H Q E, SpFl K post vs H Q E → vs.length = 1 := fun vs H Q E ⟨_, _, h, _⟩ => by rw [h]; rfl
def FlatOk (f : Fm) : Prop := WM.nf f ≤ 108 ∧ ∃ G A B, f = WM.flF G A B ∧ G ≠ 0 ∧ ¬ (A = 0 ∧ B = 0)
def SplitOk (f : Fm) : Prop := WM.nf f ≤ 108 ∧ ∃ k, 0 < k ∧ k ≤ 36 ∧ WM.disc f = k * k
section
variable {P : Program} {w : World} {K : PySem.W.Frag} {mg : Str → Option Value} {base : Heap}
variable {X : Cx} {σ : L2.St} {H : Hp} {e : Expr} {es : List Expr}
theorem sc_law_change : FnScope ["_law_state_here", "_law_many", "_law_m", "_law_k", "_law_t"] ["_law_state_here", "_law_many"] (defScope sLawChange) := ⟨rfl, rfl, rfl, by decide +kernel, rfl, by decide +kernel, by decide +kernel⟩
theorem ok_law_change (T : Tx K mg) : Ok P w K mg base "_law_change" ["_law_state_here", "_law_many"] 2 (SpCh K) := by
  refine ok_of T.fLawChange sc_law_change (fun _ _ _ _ _ _ us hl => match us, hl with | [_, _], _ => rfl) spCh_len fun f cdv A outer s H0 E vs H Q hr h => ?_
  obtain ⟨v, n, many, rfl, hS, hn, hm, k⟩ := h
  refine r_asg 2 sc_law_change.nd (c_tup (ca_cons c_int (ca_cons c_int (ca_cons c_int (ca_cons c_int ca_nil))))) fun vm H1 e1 hvm => ?_
  have hvm : Dp K H1 vm (mD WM.one) := hvm
  have hS1 := hS.up e1
  refine mr_forR (R := fun r H2 => r < many + 1 ∧ Sta K (n + 1) v H2 ∧ Mu v H1 H2) 3 nox_own rfl sc_law_change.nd T.bRange (fun H2 e2 => (cm_next 0 T hr rfl (hS1.up e2) (c_add (c_var 1 rfl (.int _)) c_int) ⟨by omega, by omega, by omega⟩).imp fun u H3 hu => ?_) fun r H2 r0 hR => ?_
  · obtain ⟨r, e3, q0, q1, q2, q3⟩ := hu
    exact ⟨r, e3, q0, by omega, q1, q2, (Mu.of e2).trans q3⟩
  obtain ⟨rm, hS2, mu2⟩ := hR
  have hvm := dpt (hS1.et mu2) _ _ rfl hvm
  refine ⟨fun i σ' H' => ∃ m u q3 q4, σ' = [some v, some (.int many), some u, q3, q4] ∧ WM.Gen m ∧ WM.MN (3 ^ i) m ∧ Dp K H' u (mD m) ∧ Sta K (n + 1 + 2 * i) v H' ∧ Mu v H H', ⟨WM.one, vm, none, none, rfl, .one, WM.MN.one, hvm, hS2, (Mu.of e1).trans mu2⟩, fun i σ' H' hi hP => ?_, fun σ' H' hP => ?_⟩
  · obtain ⟨m, u, q3, q4, rfl, hg, hmn, hd, hS, hM⟩ := hP
    have hi3 : i ≤ 2 := by omega
    refine mr_asg 4 (P := fun v4 H2 => ∃ t : Int, v4 = .int (t - 2) ∧ 0 ≤ t ∧ t < 5 ∧ Sta K (n + 1 + 2 * i + 1) v H2 ∧ Mu v H' H2) sc_law_change.nd (fun H2 e2 => (cm_subc (cm_next 0 T hr rfl (hS.up e2) c_int ⟨by omega, by omega, by omega⟩)).imp fun v4 H3 hv => ?_) fun v4 H2 hv => ?_
    · obtain ⟨t, q0, q1, q2, q3, q4⟩ := hv
      exact ⟨t, q0, q1, q2, q3, (Mu.of e2).trans q4⟩
    obtain ⟨t, rfl, t0, t5, hS3, mu3⟩ := hv
    have hd := dpt (hS.et mu3) _ _ rfl hd
    have mbm : MB big m := by
      have : (3 : Nat) ^ i ≤ 27 := Nat.le_trans (Nat.pow_le_pow_right (by decide) (show i ≤ 3 by omega)) (by decide)
      have h := hmn.le this
      have hp := h.p
      have hq := h.q
      have hr' := h.r
      have hs := h.s
      exact (show MB 5 m from ⟨by omega, by omega, by omega, by omega⟩).le (by decide)
    refine mr_asg 2 (P := fun v5 H3 => ∃ st, (st = WM.eT (t - 2) ∨ st = WM.eL (t - 2) ∨ st = WM.eS) ∧ Dp K H3 v5 (mD (WM.mul m st)) ∧ Sta K (n + 1 + 2 * i + 2) v H3 ∧ Mu v H2 H3) sc_law_change.nd (fun H3 e3 => ?_) fun v5 H3 hv => ?_
    · have hd := hd.up e3
      refine cm_call (ok_law_mul T) (hr.mono (by decide)) (wa_dm 2 rfl (cm_ixLit (K := K) (n := n + 1 + 2 * i + 1) (vs := v) (ds := [mD (WM.eT (t - 2)), mD (WM.eL (t - 2)), mD WM.eS]) (R := fun _ H4 => Sta K (n + 1 + 2 * i + 1 + 1) v H4) (hS3.up e3) ?_ (by show 3 ≤ 1000; decide) rfl (fun H4 e4 => ?_) (fun _ _ => rfl))) fun ws H4 hw Q q => ?_
      · exact (ca_cons (c_tup (ca_cons c_int (ca_cons (c_var 4 rfl (.int _)) (ca_cons c_int (ca_cons c_int ca_nil))))) (ca_cons (c_tup (ca_cons c_int (ca_cons c_int (ca_cons (c_var 4 rfl (.int _)) (ca_cons c_int ca_nil))))) (ca_cons (c_tup (ca_cons c_int (ca_cons (c_neg c_int) (ca_cons c_int (ca_cons c_int ca_nil))))) ca_nil)))
      · exact cm_idx (m := 3) rfl (cm_next 0 T hr rfl ((hS3.up e3).up e4) c_int ⟨by omega, by omega, by omega⟩)
      · obtain ⟨u5, rfl, r, hr3, hd5, mu5, hS5⟩ := hw
        have hd := dpt ((hS3.up e3).et mu5) _ _ rfl hd
        have fin : ∀ st, (st = WM.eT (t - 2) ∨ st = WM.eL (t - 2) ∨ st = WM.eS) → MB 3 st → Dp K H4 u5 (mD st) → SpF K (fun x : Mt × Mt => [mD x.1, mD x.2]) (fun x => MB big x.1 ∧ MB big x.2) (fun x => mD (WM.mul x.1 x.2)) [u, u5] H4 Q E0 := fun st hst sb hd5 =>
          ⟨(m, st), .cons hd (.cons hd5 .nil), ⟨mbm, sb.le (by decide)⟩, fun v6 H6 e6 hd6 => q _ _ ⟨st, hst, hd6, hS5.up e6, ((Mu.of e3).trans mu5).trans (Mu.of e6)⟩⟩
        have tb : (t - 2).natAbs < 2 ^ 3 := by omega
        match r, hr3, hd5 with
        | 0, _, hd5 => exact fin _ (.inl rfl) ⟨by show (1 : Int).natAbs < _; decide, tb, by show (0 : Int).natAbs < _; decide, by show (1 : Int).natAbs < _; decide⟩ hd5
        | 1, _, hd5 => exact fin _ (.inr (.inl rfl)) ⟨by show (1 : Int).natAbs < _; decide, by show (0 : Int).natAbs < _; decide, tb, by show (1 : Int).natAbs < _; decide⟩ hd5
        | 2, _, hd5 => exact fin _ (.inr (.inr rfl)) ⟨by decide, by decide, by decide, by decide⟩ hd5
        | r + 3, h, _ => exact absurd h (by show ¬ r + 3 < 3; omega)
    · obtain ⟨st, hst, hd5, hS5, mu5⟩ := hv
      refine r_nil fun H4 e4 => ⟨WM.mul m st, v5, _, _, rfl, WM.gen_step hg hst, ?_, hd5.up e4, (hS5.up e4).le (by omega), ((hM.trans mu3).trans mu5).trans (Mu.of e4)⟩
      rw [Nat.pow_succ, Nat.mul_comm]
      exact WM.mn_step hmn (by omega) hst
  · obtain ⟨m, u, q3, q4, rfl, hg, hmn, hd, hS, hM⟩ := hP
    refine r_ret (c_varR 2 rfl) fun v' H3 e3 hv => ?_
    rw [hv]
    exact k m u H3 hg (hmn.le (Nat.pow_le_pow_right (by decide) (by omega))) (hd.up e3) ((hS.up e3).le (by omega)) (hM.trans (Mu.of e3))
theorem sc_law_flat : FnScope ["_law_state_here", "_law_p", "_law_q", "_law_g"] ["_law_state_here"] (defScope sLawFlat) := ⟨rfl, rfl, rfl, by decide +kernel, rfl, by decide +kernel, by decide +kernel⟩
theorem ok_law_flat (T : Tx K mg) : Ok P w K mg base "_law_flat" ["_law_state_here"] 2 (SpFl K FlatOk) := by
  refine ok_of T.fLawFlat sc_law_flat (fun _ _ _ _ _ _ us hl => match us, hl with | [_], _ => rfl) spFl_len fun f cdv A outer s H0 E vs H Q hr h => ?_
  obtain ⟨v, n, rfl, hS, hn, k⟩ := h
  refine mr_asg 1 (P := fun u H3 => ∃ t : Int, u = .int (t - 3) ∧ 0 ≤ t ∧ t < 7 ∧ Sta K (n + 1) v H3 ∧ Mu v H H3) sc_law_flat.nd (fun H2 e2 => (cm_subc (cm_next 0 T hr rfl (hS.up e2) c_int ⟨by omega, by omega, by omega⟩)).imp fun u H3 hu => ?_) fun v1 H2 hv => ?_
  · obtain ⟨t, q0, q1, q2, q3, q4⟩ := hu
    exact ⟨t, q0, q1, q2, q3, (Mu.of e2).trans q4⟩
  obtain ⟨t1, rfl, a0, a1, hS1, mu1⟩ := hv
  refine mr_asg 2 (P := fun u H3 => ∃ t : Int, u = .int (t - 3) ∧ 0 ≤ t ∧ t < 7 ∧ Sta K (n + 2) v H3 ∧ Mu v H2 H3) sc_law_flat.nd (fun H2 e2 => (cm_subc (cm_next 0 T hr rfl (hS1.up e2) c_int ⟨by omega, by omega, by omega⟩)).imp fun u H3 hu => ?_) fun v2 H3 hv => ?_
  · obtain ⟨t, q0, q1, q2, q3, q4⟩ := hu
    exact ⟨t, q0, q1, q2, q3, (Mu.of e2).trans q4⟩
  obtain ⟨t2, rfl, b0, b1, hS2, mu2⟩ := hv
  refine mr_asg 3 (P := fun u H4 => ∃ g : Int, u = .int g ∧ g ≠ 0 ∧ -3 ≤ g ∧ g ≤ 3 ∧ Sta K (n + 3) v H4 ∧ Mu v H3 H4) sc_law_flat.nd (fun H4 e4 => ?_) fun v3 H4 hv => ?_
  · refine (cm_ixLit (K := K) (n := n + 2) (vs := v) (ds := [.int 1, .int 1, .int (-1), .int 2, .int (-3)]) (R := fun _ H4 => Sta K (n + 2 + 1) v H4) (hS2.up e4) ?_ (by show 5 ≤ 1000; decide) rfl (fun H5 e5 => ?_) (fun _ _ => rfl)).imp fun u H5 hu => ?_
    · exact (ca_cons c_int (ca_cons c_int (ca_cons (c_neg c_int) (ca_cons c_int (ca_cons (c_neg c_int) ca_nil)))))
    · exact cm_idx (m := 5) rfl (cm_next 0 T hr rfl ((hS2.up e4).up e5) c_int ⟨by omega, by omega, by omega⟩)
    · obtain ⟨r, hr5, hd5, mu5, hS5⟩ := hu
      have fin : ∀ g : Int, g ≠ 0 → -3 ≤ g → g ≤ 3 → Dp K H5 u (.int g) → ∃ g : Int, u = .int g ∧ g ≠ 0 ∧ -3 ≤ g ∧ g ≤ 3 ∧ Sta K (n + 3) v H5 ∧ Mu v H3 H5 := fun g g0 g1 g2 hd => ⟨g, hd.int_eq, g0, g1, g2, hS5, (Mu.of e4).trans mu5⟩
      match r, hr5, hd5 with
      | 0, _, hd5 => exact fin 1 (by decide) (by decide) (by decide) hd5
      | 1, _, hd5 => exact fin 1 (by decide) (by decide) (by decide) hd5
      | 2, _, hd5 => exact fin (-1) (by decide) (by decide) (by decide) hd5
      | 3, _, hd5 => exact fin 2 (by decide) (by decide) (by decide) hd5
      | 4, _, hd5 => exact fin (-3) (by decide) (by decide) (by decide) hd5
      | r + 5, h, _ => exact absurd h (by show ¬ r + 5 < 5; omega)
  obtain ⟨g, rfl, g0, g1, g2, hS4, mu4⟩ := hv
  have r1 : -3 ≤ t1 - 3 ∧ t1 - 3 ≤ 3 := by omega
  have r2 : -3 ≤ t2 - 3 ∧ t2 - 3 ≤ 3 := by omega
  show WS _ _ _ [some v, some (.int (t1 - 3)), some (.int (t2 - 3)), some (.int g)] H4
  generalize t1 - 3 = A' at *
  generalize t2 - 3 = B' at *
  have hM4 := (mu1.trans mu2).trans mu4
  refine r_ifM (fun σ' H' => ∃ B'', σ' = [some v, some (.int A'), some (.int B''), some (.int g)] ∧ -3 ≤ B'' ∧ B'' ≤ 3 ∧ ¬ (A' = 0 ∧ B'' = 0) ∧ Ex H4 H') (ct_w (t_and (t_eqI (c_var 1 rfl (.int _)) c_int) fun hb => (t_and1 (t_eqI (c_var 2 rfl (.int _)) c_int)))) (fun hb => ?_) (fun hb => ?_) fun σ' H' hP => ?_
  · rw [Bool.and_eq_true, decide_eq_true_eq, decide_eq_true_eq] at hb
    exact r_asgI 2 sc_law_flat.nd c_int (r_nil fun H5 e5 => ⟨1, rfl, by decide, by decide, by omega, e5⟩)
  · rw [Bool.and_eq_false_iff, decide_eq_false_iff_not, decide_eq_false_iff_not] at hb
    exact r_nil fun H5 e5 => ⟨B', rfl, r2.1, r2.2, by omega, e5⟩
  obtain ⟨C', rfl, c1, c2, hnz, e5⟩ := hP
  have : Bt 3 A' := ⟨by omega⟩
  have : Bt 3 C' := ⟨by omega⟩
  have : Bt 3 g := ⟨by omega⟩
  refine r_ret (CD.to (d' := fD (WM.flF g A' C')) (c_tup (ca_cons (c_mul (c_mul (c_var 3 rfl (.int _)) (c_var 1 rfl (.int _)) (by exact cmw)) (c_var 1 rfl (.int _)) (by exact cmw)) (ca_cons (c_mul (c_mul (c_mul c_int (c_var 3 rfl (.int _)) (by exact cmw)) (c_var 1 rfl (.int _)) (by exact cmw)) (c_var 2 rfl (.int _)) (by exact cmw)) (ca_cons (c_mul (c_mul (c_var 3 rfl (.int _)) (c_var 2 rfl (.int _)) (by exact cmw)) (c_var 2 rfl (.int _)) (by exact cmw)) ca_nil)))) rfl) fun u H6 e6 hu => ?_
  refine k (WM.flF g A' C') u H6 ⟨?_, g, A', C', rfl, g0, hnz⟩ hu ((hS4.up (e5.trans e6)).le (by omega)) (hM4.trans (Mu.of (e5.trans e6)))
  have ba : WM.ab A' ≤ 3 := by unfold WM.ab; omega
  have bc : WM.ab C' ≤ 3 := by unfold WM.ab; omega
  have bg : WM.ab g ≤ 3 := by unfold WM.ab; omega
  have a0 := WM.ab_nn A'
  have c0 := WM.ab_nn C'
  have g00 := WM.ab_nn g
  have k1 := Int.mul_le_mul ba ba a0 (by decide)
  have k2 := Int.mul_le_mul ba bc c0 (by decide)
  have k3 := Int.mul_le_mul bc bc c0 (by decide)
  have p1 := Int.mul_nonneg a0 a0
  have p2 := Int.mul_nonneg a0 c0
  have p3 := Int.mul_nonneg c0 c0
  have l1 := Int.mul_le_mul bg k1 p1 (by decide)
  have l2 := Int.mul_le_mul bg k2 p2 (by decide)
  have l3 := Int.mul_le_mul bg k3 p3 (by decide)
  show WM.ab (g * A' * A') + WM.ab (2 * g * A' * C') + WM.ab (g * C' * C') ≤ 108
  have e1 : WM.ab (g * A' * A') = WM.ab g * (WM.ab A' * WM.ab A') := by rw [Int.mul_assoc, WM.ab_mul, WM.ab_mul]
  have e2 : WM.ab (2 * g * A' * C') = 2 * (WM.ab g * (WM.ab A' * WM.ab C')) := by rw [Int.mul_assoc, WM.ab_mul, WM.ab_mul, WM.ab_mul A' C', show WM.ab 2 = 2 by decide, Int.mul_assoc]
  have e3 : WM.ab (g * C' * C') = WM.ab g * (WM.ab C' * WM.ab C') := by rw [Int.mul_assoc, WM.ab_mul, WM.ab_mul]
  rw [e1, e2, e3]
  omega
end
end WC
namespace WC
open PySem PySem.Spec PyProof.Rows L2
open Evl (Ex)
open WM (Fm Mt)
structure Four (a b c d : Int) : Prop where
  ha : -5 ≤ a ∧ a ≤ 5
  hb : -5 ≤ b ∧ b ≤ 5
  hc : -5 ≤ c ∧ c ≤ 5
  hd : -5 ≤ d ∧ d ≤ 5
  z : a * d - b * c ≠ 0
  k : WM.ab (a * d - b * c) ≤ 18
  n : WM.ab (a * c) + WM.ab (a * d + b * c) + WM.ab (b * d) ≤ 36
theorem ab_le3 {x y : Int} (hx : -3 ≤ x ∧ x ≤ 3) (hy : -3 ≤ y ∧ y ≤ 3) : WM.ab (x * y) ≤ 9 := by
  rw [WM.ab_mul]
  exact Int.mul_le_mul (show WM.ab x ≤ 3 by unfold WM.ab; omega) (show WM.ab y ≤ 3 by unfold WM.ab; omega) (WM.ab_nn y) (by decide)
theorem four3 {a b c d : Int} (ha : -3 ≤ a ∧ a ≤ 3) (hb : -3 ≤ b ∧ b ≤ 3) (hc : -3 ≤ c ∧ c ≤ 3) (hd : -3 ≤ d ∧ d ≤ 3) (h : a * d ≠ b * c) : Four a b c d := by
  have k1 := ab_le3 ha hd
  have k2 := ab_le3 hb hc
  have k3 := ab_le3 ha hc
  have k4 := ab_le3 hb hd
  refine ⟨by omega, by omega, by omega, by omega, by omega, ?_, ?_⟩
  · unfold WM.ab at *; omega
  · have := WM.ab_add (a * d) (b * c); omega
theorem four1 {b d : Int} (hb : 0 ≤ b ∧ b < 3) (hd : 3 ≤ d ∧ d < 6) : Four 1 b 1 d := by
  have e : WM.ab (b * d) ≤ 10 := by
    rw [WM.ab_mul]
    exact Int.mul_le_mul (show WM.ab b ≤ 2 by unfold WM.ab; omega) (show WM.ab d ≤ 5 by unfold WM.ab; omega) (WM.ab_nn d) (by decide)
  refine ⟨by omega, by omega, by omega, by omega, by omega, ?_, ?_⟩
  · unfold WM.ab; omega
  · unfold WM.ab at *; omega
theorem four_ok {g a b c d : Int} (hg : g = 1 ∨ g = 2) (h : Four a b c d) : SplitOk ⟨g * a * c, g * (a * d + b * c), g * b * d⟩ := by
  have hn := h.n
  have hk := h.k
  have eg : WM.ab g = g := by unfold WM.ab; omega
  refine ⟨?_, WM.ab (g * (a * d - b * c)), ?_, ?_, ?_⟩
  · show WM.ab (g * a * c) + WM.ab (g * (a * d + b * c)) + WM.ab (g * b * d) ≤ 108
    rw [Int.mul_assoc g a c, Int.mul_assoc g b d, WM.ab_mul g, WM.ab_mul g, WM.ab_mul g, eg]
    rcases hg with rfl | rfl <;> omega
  · have := WM.ab_pos h.z
    rw [WM.ab_mul, eg]
    rcases hg with rfl | rfl <;> omega
  · rw [WM.ab_mul, eg]
    rcases hg with rfl | rfl <;> omega
  · rw [WM.split_disc, WM.ab_sq]
def nmS : Nat → Str
  | 0 => "definite"
  | 1 => "indefinite"
  | 2 => "split"
  | _ => "flat"
structure FoOk (i : Nat) (f : Fm) : Prop where
  n : WM.nf f ≤ 108
  h0 : i = 0 → WM.disc f < 0
  h1 : i = 1 → kindS f = "indefinite" ∧ WM.disc f ≤ 136
  h2 : i = 2 → SplitOk f
  h3 : 3 ≤ i → FlatOk f
def SpFo (K : PySem.W.Frag) : Sp := fun vs H Q _ => ∃ v n i, vs = [v, .str (nmS i)] ∧ i < 4 ∧ Sta K n v H ∧ n ≤ 40000 ∧ ∀ f u H', FoOk i f → Dp K H' u (fD f) → Sta K (n + 160) v H' → Mu v H H' → Q u H'
theorem spFo_len {K : PySem.W.Frag} : ∀ vs H Q E, SpFo K vs H Q E → vs.length = 2 := fun vs H Q E ⟨_, _, _, h, _⟩ => by rw [h]; rfl
section
variable {P : Program} {w : World} {K : PySem.W.Frag} {mg : Str → Option Value} {base : Heap}
variable {X : Cx} {σ : L2.St} {H : Hp} {e : Expr} {es : List Expr}
theorem sc_law_split : FnScope ["_law_state_here", "_law_p", "_law_q", "_law_r", "_law_s", "_law_g", "_law_k"] ["_law_state_here"] (defScope sLawSplit) := ⟨rfl, rfl, rfl, by decide +kernel, rfl, by decide +kernel, by decide +kernel⟩
theorem ok_law_split (T : Tx K mg) : Ok P w K mg base "_law_split" ["_law_state_here"] 2 (SpFl K SplitOk) := by
  refine ok_of T.fLawSplit sc_law_split (fun _ _ _ _ _ _ us hl => match us, hl with | [_], _ => rfl) spFl_len fun f cdv A outer s H0 E vs H Q hr h => ?_
  obtain ⟨v, n, rfl, hS, hn, k⟩ := h
  have nd := sc_law_split.nd
  refine ws_of (ps_asg (pe_lc (own := [("_law_k", 6)]) (g := gName 6) (tt := tYes) rfl nd (pi_range1 rfl T.bRange (pa_cons pw pa_nil rfl) rfl) (blkOk_by (N := ["_law_state_here", "_law_p", "_law_q", "_law_r", "_law_s", "_law_g", "_law_k"]) (sc := defScope sLawSplit) (by decide +kernel)) (fun _ _ _ _ _ => pg_name (i := 6) nd rfl (Or.inl rfl)) (fun _ _ _ _ _ => pts_nil) pwb)
    (pg_unl rfl (pgs_cons (pg_name (i := 1) nd rfl (by first | exact Or.inl rfl | exact Or.inr rfl)) (pgs_cons (pg_name (i := 2) nd rfl (by first | exact Or.inl rfl | exact Or.inr rfl)) (pgs_cons (pg_name (i := 3) nd rfl (by first | exact Or.inl rfl | exact Or.inr rfl)) (pgs_cons (pg_name (i := 4) nd rfl (by first | exact Or.inl rfl | exact Or.inr rfl)) pgs_nil)))))) fun H1 e1 => ?_
  refine (c_int : CD _ _ _ H1 (.int 4)) H1 (Ex.refl H1) _ fun v4 H2 e2 hv4 => ?_
  rw [hv4.int_eq]
  refine ⟨4, rfl, by decide, by decide, fun Dl hD => ?_⟩
  have hS2 := (hS.up e1).up e2
  have hDv := hS2.old hD
  refine lc_range (lo := 0) (n := 4) (fun i H' => Sta K (n + i) v H' ∧ Mu v H2 H' ∧ ∃ ns : List Int, H' Dl = some (.lst (ns.map V.int)) ∧ ns.length = i ∧ ∀ z ∈ ns, -3 ≤ z ∧ z ≤ 3) ⟨hS2.up (Ex.new hD), Mu.of (Ex.new hD), [], upd_same, rfl, fun z hz => by cases hz⟩ (fun i H' hi hP => ?_) fun H' hP => ?_
  · obtain ⟨hSi, hMi, ns, hns, hl, hb⟩ := hP
    refine ⟨wipe_one _ _ _, ?_⟩
    intro s0 H3 C cl fp
    refine (cm_subc (cm_next 0 T hr rfl hSi c_int ⟨by omega, by omega, by omega⟩)) _ fun u H4 hu => ?_
    obtain ⟨t, rfl, t0, t7, hS4, hM4⟩ := hu
    have h4 := hM4 _ _ hDv hns
    obtain ⟨p, l, nn, tt, rfl, q2, q3, q4⟩ := hS4.x
    have hpD : p ≠ Dl := fun e => hDv (by rw [e])
    refine ⟨ns.map V.int, h4, Evl.sz_lt (by rw [List.length_map]; omega), ⟨⟨p, l, nn, tt, rfl, (upd_ne hpD).trans q2, ?_, q4⟩⟩, fun a u na h => ?_, ns ++ [t - 3], by rw [List.map_append]; exact upd_same, by rw [List.length_append, hl]; rfl, fun z hz => ?_⟩
    · by_cases hlD : l = Dl
      · subst hlD
        rcases q3 with (q3 | ⟨o, q3⟩) | q3
        · rw [h4] at q3
          exfalso
          have e := congrArg List.length (HO.lst.inj (Option.some.inj q3))
          rw [List.length_map, List.length_map] at e
          have := q4.2.1
          omega
        · rw [h4] at q3; cases q3
        · exact .inr q3
      · rcases q3 with (q3 | ⟨o, q3⟩) | q3
        · exact .inl (.inl ((upd_ne hlD).trans q3))
        · exact .inl (.inr ⟨o, (upd_ne hlD).trans q3⟩)
        · exact .inr q3
    · have haD : a ≠ Dl := fun e => by subst e; rw [hD] at h; cases h
      exact (upd_ne haD).trans (hM4 _ _ na (hMi _ _ na h))
    · rcases List.mem_append.mp hz with hz | hz
      · exact hb z hz
      · rw [List.mem_singleton.mp hz]; omega
  · obtain ⟨hS4, hM4, ns, hns, hl, hb⟩ := hP
    match ns, hl, hb, hns with
    | [a, b, c, d], _, hb, hns =>
      refine ⟨Dl, _, rfl, Evl.sq_of hns, rfl, _, _, rfl, _, _, rfl, _, _, rfl, _, _, rfl, rfl, ?_⟩
      have ha := hb a (by simp)
      have hbb := hb b (by simp)
      have hc := hb c (by simp)
      have hd := hb d (by simp)
      show wS _ _ _ [some v, some (.int a), some (.int b), some (.int c), some (.int d), none, none] H'
      refine (?_ : WS _ _ _ [some v, some (.int a), some (.int b), some (.int c), some (.int d), none, none] H') _ (Ex.refl _)
      have hM := (Mu.of (v := v) (e1.trans e2)).trans hM4
      have i1 : Bt 3 a := ⟨by omega⟩
      have i2 : Bt 3 b := ⟨by omega⟩
      have i3 : Bt 3 c := ⟨by omega⟩
      have i4 : Bt 3 d := ⟨by omega⟩
      have hS4 : Sta K (n + 4) v H' := hS4
      refine r_ifM (fun σ2 H2 => ∃ a b c d, σ2 = [some v, some (.int a), some (.int b), some (.int c), some (.int d), none, none] ∧ Four a b c d ∧ Sta K (n + 6) v H2 ∧ Mu v H H2) (t_eqI (c_mul (c_var 1 rfl (.int _)) (c_var 4 rfl (.int _)) (by exact cmw)) (c_mul (c_var 2 rfl (.int _)) (c_var 3 rfl (.int _)) (by exact cmw))) (fun hb2 => ?_) (fun hb2 => ?_) fun σ2 H3 hM3 => ?_
      · refine ws_of (ps_asg (pe_tup (pa_cons pe_int (pa_cons pw (pa_cons pe_int (pa_cons pw pa_nil rfl) rfl) rfl) rfl)) (pg_tup rfl (pgs_cons (pg_name (i := 1) nd rfl (by first | exact Or.inl rfl | exact Or.inr rfl)) (pgs_cons (pg_name (i := 2) nd rfl (by first | exact Or.inl rfl | exact Or.inr rfl)) (pgs_cons (pg_name (i := 3) nd rfl (by first | exact Or.inl rfl | exact Or.inr rfl)) (pgs_cons (pg_name (i := 4) nd rfl (by first | exact Or.inl rfl | exact Or.inr rfl)) pgs_nil)))))) fun H3 e3 => ?_
        refine (cm_next 0 T hr rfl (hS4.up e3) c_int ⟨by omega, by omega, by omega⟩) _ fun u1 H5 hu1 => ?_
        obtain ⟨x, rfl, x0, x3, hS5, hM5⟩ := hu1
        refine (cm_addc (cm_next 0 T hr rfl hS5 c_int ⟨by omega, by omega, by omega⟩)) _ fun u2 H6 hu2 => ?_
        obtain ⟨y, rfl, y0, y3, hS6, hM6⟩ := hu2
        refine ⟨Evl.sz_of (by show 4 ≤ 100000; decide), fun q hq => ⟨q, _, rfl, Evl.st_of upd_same, rfl, _, _, rfl, _, _, rfl, _, _, rfl, _, _, rfl, rfl, ?_⟩⟩
        show wS _ _ _ [some v, some (.int 1), some (.int x), some (.int 1), some (.int (3 + y)), none, none] _
        refine (?_ : WS _ _ _ [some v, some (.int 1), some (.int x), some (.int 1), some (.int (3 + y)), none, none] _) _ (Ex.refl _)
        exact r_nil fun H7 e7 => ⟨1, x, 1, 3 + y, rfl, four1 ⟨x0, x3⟩ ⟨by omega, by omega⟩, hS6.up ((Ex.new hq).trans e7), ((hM.trans (Mu.of e3)).trans (hM5.trans hM6)).trans (Mu.of ((Ex.new hq).trans e7))⟩
      · have hb2 : ¬ a * d = b * c := of_decide_eq_false hb2
        exact r_nil fun H7 e7 => ⟨a, b, c, d, rfl, four3 ha hbb hc hd hb2, (hS4.up e7).le (by omega), hM.trans (Mu.of e7)⟩
      · obtain ⟨a, b, c, d, rfl, h4, hS6, hM6⟩ := hM3
        have i1 : Bt 3 a := ⟨by have := h4.ha; omega⟩
        have i2 : Bt 3 b := ⟨by have := h4.hb; omega⟩
        have i3 : Bt 3 c := ⟨by have := h4.hc; omega⟩
        have i4 : Bt 3 d := ⟨by have := h4.hd; omega⟩
        refine mr_asg 5 (P := fun u H8 => ∃ g : Int, u = .int g ∧ (g = 1 ∨ g = 2) ∧ Sta K (n + 7) v H8 ∧ Mu v H3 H8) nd (fun H7 e7 => (cm_addc (cm_fdivc (cm_next 0 T hr rfl (hS6.up e7) c_int ⟨by omega, by omega, by omega⟩) ⟨by decide, by decide⟩)).imp fun u H8 hu => ?_) fun u H8 hu => ?_
        · obtain ⟨q, rfl, r, rfl, r0, r4, hS8, hM8⟩ := hu
          have : r.fdiv 3 = 0 ∨ r.fdiv 3 = 1 := by rw [Int.fdiv_eq_ediv_of_nonneg _ (by decide)]; omega
          exact ⟨_, rfl, by omega, hS8, (Mu.of e7).trans hM8⟩
        · obtain ⟨g, rfl, hg, hS8, hM8⟩ := hu
          have i5 : Bt 3 g := ⟨by omega⟩
          refine r_ret (CD.to (d' := fD ⟨g * a * c, g * (a * d + b * c), g * b * d⟩) (c_tup (ca_cons (c_mul (c_mul (c_var 5 rfl (.int _)) (c_var 1 rfl (.int _)) (by exact cmw)) (c_var 3 rfl (.int _)) (by exact cmw)) (ca_cons (c_mul (c_var 5 rfl (.int _)) (c_add (c_mul (c_var 1 rfl (.int _)) (c_var 4 rfl (.int _)) (by exact cmw)) (c_mul (c_var 2 rfl (.int _)) (c_var 3 rfl (.int _)) (by exact cmw))) (by exact cmw)) (ca_cons (c_mul (c_mul (c_var 5 rfl (.int _)) (c_var 2 rfl (.int _)) (by exact cmw)) (c_var 4 rfl (.int _)) (by exact cmw)) ca_nil)))) rfl) fun u H9 e9 hu => ?_
          exact k _ u H9 (four_ok hg h4) hu (hS8.up e9) ((hM6.trans hM8).trans (Mu.of e9))
theorem ns_ds : ("definite" : Str) ≠ "split" := by decide
theorem ns_is : ("indefinite" : Str) ≠ "split" := by decide
theorem ns_df : ("definite" : Str) ≠ "flat" := by decide
theorem ns_if : ("indefinite" : Str) ≠ "flat" := by decide
theorem ns_sf : ("split" : Str) ≠ "flat" := by decide
theorem nm_ne2 {i : Nat} (h : i ≠ 2) : nmS i ≠ "split" := by
  match i, h with
  | 0, _ => exact ns_ds
  | 1, _ => exact ns_is
  | 2, h => exact absurd rfl h
  | i + 3, _ => exact ne_fs
theorem nm_ne3 {i : Nat} (h : i < 3) : nmS i ≠ "flat" := by
  match i, h with
  | 0, _ => exact ns_df
  | 1, _ => exact ns_if
  | 2, _ => exact ns_sf
  | i + 3, h => omega
theorem nm_of3 {i : Nat} (h : 3 ≤ i) : nmS i = "flat" := by
  match i, h with
  | i + 3, _ => rfl
theorem isq8 : isSq 8 = false := by
  obtain ⟨h1, h2, h3⟩ := sqrtI_spec (show (0 : Int) ≤ 8 by decide)
  unfold isSq
  refine decide_eq_false fun e => ?_
  have := WM.root_unique (d := 8) (s := 2) h1 (by decide) h2 h3 (by decide) (by decide)
  rw [this] at e
  exact absurd e (by decide)
theorem sc_law_form : FnScope ["_law_state_here", "_law_sort", "_law_k", "_law_a", "_law_c", "_law_form_here"] ["_law_state_here", "_law_sort"] (defScope sLawForm) := ⟨rfl, rfl, rfl, by decide +kernel, rfl, by decide +kernel, by decide +kernel⟩
theorem ok_law_form (T : Tx K mg) : Ok P w K mg base "_law_form" ["_law_state_here", "_law_sort"] 4 (SpFo K) := by
  refine ok_of T.fLawForm sc_law_form (fun _ _ _ _ _ _ us hl => match us, hl with | [_, _], _ => rfl) spFo_len fun f cdv A outer s H0 E vs H Q hr h => ?_
  obtain ⟨v, n, i, rfl, hi4, hS, hn, k⟩ := h
  have nd := sc_law_form.nd
  refine r_if0 (t_eqS (c_var 1 rfl (.str _)) c_str) (fun hb => ?_) fun hb => ?_
  · have hb : nmS i = "split" := of_decide_eq_true hb
    have e : i = 2 := Classical.byContradiction fun q => nm_ne2 q hb
    refine mr_ret (P := fun u H3 => ∃ f, SplitOk f ∧ Dp K H3 u (fD f) ∧ Sta K (n + 7) v H3 ∧ Mu v H H3) ?_ ?_
    · intro H2 e2
      refine cm_call (ok_law_split T) (hr.mono (by decide)) (wa_st1 0 rfl) ?_
      intro ws H3 hw Q' q
      exact ⟨v, n, hw.1, hS.up (e2.trans hw.2), by omega, fun f u H4 hf hd hS4 hM4 => q _ _ ⟨f, hf, hd, hS4, (Mu.of (e2.trans hw.2)).trans hM4⟩⟩
    intro u H3 hu
    obtain ⟨f, hf, hd, hS3, hM3⟩ := hu
    exact k f u H3 ⟨hf.1, fun q => by omega, fun q => by omega, fun _ => hf, fun q => by omega⟩ hd (hS3.le (by omega)) hM3
  have hb : ¬ nmS i = "split" := of_decide_eq_false hb
  have i2 : i ≠ 2 := fun q => by subst q; exact hb rfl
  refine r_if0 (t_eqS (c_var 1 rfl (.str _)) c_str) (fun hb => ?_) fun hb => ?_
  · have hb : nmS i = "flat" := of_decide_eq_true hb
    have e : 3 ≤ i := by
      rcases Nat.lt_or_ge i 3 with q | q
      · exact absurd hb (nm_ne3 q)
      · exact q
    refine mr_ret (P := fun u H3 => ∃ f, FlatOk f ∧ Dp K H3 u (fD f) ∧ Sta K (n + 7) v H3 ∧ Mu v H H3) ?_ ?_
    · intro H2 e2
      refine cm_call (ok_law_flat T) (hr.mono (by decide)) (wa_st1 0 rfl) ?_
      intro ws H3 hw Q' q
      exact ⟨v, n, hw.1, hS.up (e2.trans hw.2), by omega, fun f u H4 hf hd hS4 hM4 => q _ _ ⟨f, hf, hd, hS4, (Mu.of (e2.trans hw.2)).trans hM4⟩⟩
    intro u H3 hu
    obtain ⟨f, hf, hd, hS3, hM3⟩ := hu
    exact k f u H3 ⟨hf.1, fun q => by omega, fun q => by omega, fun q => by omega, fun _ => hf⟩ hd (hS3.le (by omega)) hM3
  have hb : ¬ nmS i = "flat" := of_decide_eq_false hb
  have i3 : i < 2 := by
    rcases Nat.lt_or_ge i 3 with q | q
    · omega
    · exact absurd (nm_of3 q) hb
  refine r_forR 2 nox_own rfl nd T.bRange c_int ⟨by decide, by decide⟩ (fun j σ' H' => ∃ q2 q3 q4 q5, σ' = [some v, some (.str (nmS i)), q2, q3, q4, q5] ∧ Sta K (n + 5 * j) v H' ∧ Mu v H H') (fun H1 e1 => ⟨none, none, none, none, rfl, hS.up e1, Mu.of e1⟩) (fun j σ' H' hj hP => ?_) fun σ' H' hP => ?_
  · obtain ⟨q2, q3, q4, q5, rfl, hS, hM⟩ := hP
    refine mr_asg 3 (P := fun u H3 => ∃ x : Int, u = .int x ∧ -5 ≤ x ∧ x ≤ 5 ∧ Sta K (n + 5 * j + 2) v H3 ∧ Mu v H' H3) nd (fun H2 e2 => cm_op op_mul (cm_addc (cm_next 0 T hr rfl (hS.up e2) c_int ⟨by omega, by omega, by omega⟩)) fun u1 H3 hu1 => ?_) fun u H3 hu => ?_
    · obtain ⟨r, rfl, r0, r5, hS3, hM3⟩ := hu1
      refine (cm_ixLit (K := K) (n := n + 5 * j + 1) (vs := v) (ds := [.int 1, .int (-1)]) (R := fun _ H4 => Sta K (n + 5 * j + 1 + 1) v H4) hS3 ?_ (by show 2 ≤ 1000; decide) rfl (fun H5 e5 => ?_) (fun _ _ => rfl)).imp fun u H5 hu Q' q => ?_
      · exact (ca_cons c_int (ca_cons (c_neg c_int) ca_nil))
      · exact cm_idx (m := 2) rfl (cm_next 0 T hr rfl (hS3.up e5) c_int ⟨by omega, by omega, by omega⟩)
      · obtain ⟨s, hs2, hd5, mu5, hS5⟩ := hu
        have fin : ∀ g : Int, (g = 1 ∨ g = -1) → u = .int g → rI CMul (fun i j => .int (i * j)) (.int (1 + r)) u H5 Q' := fun g hg eu => by
          subst eu
          exact ⟨1 + r, g, rfl, rfl, .inl ⟨by omega, by omega⟩, q _ _ ⟨_, rfl, by rcases hg with rfl | rfl <;> omega, by rcases hg with rfl | rfl <;> omega, hS5, ((Mu.of e2).trans hM3).trans mu5⟩⟩
        match s, hs2, hd5 with
        | 0, _, hd5 => exact fin 1 (.inl rfl) hd5.int_eq
        | 1, _, hd5 => exact fin (-1) (.inr rfl) hd5.int_eq
        | s + 2, h, _ => exact absurd h (by show ¬ s + 2 < 2; omega)
    obtain ⟨a, rfl, a0, a5, hS3, hM3⟩ := hu
    refine mr_asg 4 (P := fun u H4 => ∃ x : Int, u = .int x ∧ -5 ≤ x ∧ x ≤ 5 ∧ Sta K (n + 5 * j + 4) v H4 ∧ Mu v H3 H4) nd (fun H2 e2 => cm_op op_mul (cm_addc (cm_next 0 T hr rfl (hS3.up e2) c_int ⟨by omega, by omega, by omega⟩)) fun u1 H4 hu1 => ?_) fun u H4 hu => ?_
    · obtain ⟨r, rfl, r0, r5, hS4, hM4⟩ := hu1
      refine (cm_ixLit (K := K) (n := n + 5 * j + 3) (vs := v) (ds := [.int 1, .int (-1)]) (R := fun _ H4 => Sta K (n + 5 * j + 3 + 1) v H4) hS4 ?_ (by show 2 ≤ 1000; decide) rfl (fun H5 e5 => ?_) (fun _ _ => rfl)).imp fun u H5 hu Q' q => ?_
      · exact (ca_cons c_int (ca_cons (c_neg c_int) ca_nil))
      · exact cm_idx (m := 2) rfl (cm_next 0 T hr rfl (hS4.up e5) c_int ⟨by omega, by omega, by omega⟩)
      · obtain ⟨s, hs2, hd5, mu5, hS5⟩ := hu
        have fin : ∀ g : Int, (g = 1 ∨ g = -1) → u = .int g → rI CMul (fun i j => .int (i * j)) (.int (1 + r)) u H5 Q' := fun g hg eu => by
          subst eu
          exact ⟨1 + r, g, rfl, rfl, .inl ⟨by omega, by omega⟩, q _ _ ⟨_, rfl, by rcases hg with rfl | rfl <;> omega, by rcases hg with rfl | rfl <;> omega, hS5, ((Mu.of e2).trans hM4).trans mu5⟩⟩
        match s, hs2, hd5 with
        | 0, _, hd5 => exact fin 1 (.inl rfl) hd5.int_eq
        | 1, _, hd5 => exact fin (-1) (.inr rfl) hd5.int_eq
        | s + 2, h, _ => exact absurd h (by show ¬ s + 2 < 2; omega)
    obtain ⟨c, rfl, c0, c5, hS4, hM4⟩ := hu
    refine mr_asg 5 (P := fun u H5 => ∃ f : Fm, f.a = a ∧ f.c = c ∧ -6 ≤ f.b ∧ f.b ≤ 6 ∧ Dp K H5 u (fD f) ∧ Sta K (n + 5 * j + 5) v H5 ∧ Mu v H4 H5) nd (fun H2 e2 => of_peM (pe_tup (pa_cons (pv 3) (pa_cons pw (pa_cons (pv 4) pa_nil rfl) rfl) rfl)) fun Q' q => ⟨_, rfl, ?_⟩) fun u H5 hu => ?_
    · refine (cm_subc (cm_next 0 T hr rfl (hS4.up e2) c_int ⟨by omega, by omega, by omega⟩)) _ fun u H5 hu => ?_
      obtain ⟨t, rfl, t0, t13, hS5, hM5⟩ := hu
      refine ⟨_, rfl, Evl.sz_of (by show 3 ≤ 100000; decide), fun p hp => q _ _ ⟨⟨a, t - 6, c⟩, rfl, rfl, by dsimp only; omega, by dsimp only; omega, .tup (Evl.st_of upd_same) (.cons (.int _) (.cons (.int _) (.cons (.int _) .nil))), hS5.up (Ex.new hp), ((Mu.of e2).trans hM5).trans (Mu.of (Ex.new hp))⟩⟩
    obtain ⟨f, fa, fc, fb0, fb1, hd, hS5, hM5⟩ := hu
    have fb : FB 20 f := ⟨by rw [fa]; omega, by omega, by rw [fc]; omega⟩
    have hM6 := ((hM.trans hM3).trans hM4).trans hM5
    refine r_if0 (t_eqS (cc_law_kind T hr (ca_cons (c_var 5 rfl (by assumption)) ca_nil)) (c_var 1 rfl (.str _))) (fun hb => ?_) fun hb => ?_
    · have hb : kindS f = nmS i := of_decide_eq_true hb
      refine r_ret (CR.imp (c_var 5 rfl (by assumption)) fun _ _ _ h => h) fun u H6 e6 hu => ?_
      have ac : -25 ≤ f.a * f.c := by
        rw [fa, fc]
        rcases Int.le_total 0 a with h | h
        · have := Int.mul_le_mul_of_nonneg_left c0 h
          omega
        · have := Int.mul_le_mul_of_nonneg_left (show c ≤ 5 by omega) (show 0 ≤ -a by omega)
          rw [Int.neg_mul] at this
          omega
      have bb : f.b * f.b ≤ 36 := by
        have := WM.ab_sq f.b
        have := Int.mul_le_mul (show WM.ab f.b ≤ 6 by unfold WM.ab; omega) (show WM.ab f.b ≤ 6 by unfold WM.ab; omega) (WM.ab_nn _) (by decide)
        omega
      refine k f u H6 ⟨?_, fun q => ?_, fun q => ?_, fun q => absurd q i2, fun q => by omega⟩ hu ((hS5.up e6).le (by omega)) (hM6.trans (Mu.of e6))
      · unfold WM.nf WM.ab; omega
      · subst q
        unfold kindS at hb
        by_cases q : WM.disc f < 0
        · exact q
        · rw [if_neg q] at hb
          split at hb
          · exact absurd hb ne_fd
          · split at hb
            · exact absurd hb ne_sd
            · exact absurd hb ne_id
      · subst q
        refine ⟨hb, ?_⟩
        unfold WM.disc
        rw [Int.mul_assoc]
        omega
    · exact r_nil fun H6 e6 => ⟨_, _, _, _, rfl, hS5.up e6, hM6.trans (Mu.of e6)⟩
  · obtain ⟨q2, q3, q4, q5, rfl, hS, hM⟩ := hP
    have hS : Sta K (n + 5 * 30) v H' := hS
    match i, i3 with
    | 0, _ =>
      refine r_ret (c_ixL (d := fD ⟨1, 1, 2⟩) 0 (c_lst (ca_cons (c_tup (ca_cons c_int (ca_cons c_int (ca_cons c_int ca_nil)))) (ca_cons (c_tup (ca_cons c_int (ca_cons c_int (ca_cons (c_neg c_int) ca_nil)))) ca_nil))) (CD.to (c_intb (v_eqS (c_var 1 rfl (.str _)) c_str) T.bInt) rfl) rfl rfl (fun _ _ => rfl)) fun u H6 e6 hu => ?_
      exact k ⟨1, 1, 2⟩ u H6 ⟨by decide, fun _ => by decide, fun q => by omega, fun q => by omega, fun q => by omega⟩ hu ((hS.up e6).le (by omega)) (hM.trans (Mu.of e6))
    | 1, _ =>
      refine r_ret (c_ixL (d := fD ⟨1, 0, -2⟩) 1 (c_lst (ca_cons (c_tup (ca_cons c_int (ca_cons c_int (ca_cons c_int ca_nil)))) (ca_cons (c_tup (ca_cons c_int (ca_cons c_int (ca_cons (c_neg c_int) ca_nil)))) ca_nil))) (CD.to (c_intb (v_eqS (c_var 1 rfl (.str _)) c_str) T.bInt) rfl) rfl rfl (fun _ _ => rfl)) fun u H6 e6 hu => ?_
      exact k ⟨1, 0, -2⟩ u H6 ⟨by decide, fun q => by omega, fun _ => ⟨by unfold kindS; rw [show WM.disc ⟨1, 0, -2⟩ = 8 by decide, isq8]; rfl, by decide⟩, fun q => by omega, fun q => by omega⟩ hu ((hS.up e6).le (by omega)) (hM.trans (Mu.of e6))
end
end WC
namespace WC
open PySem PySem.Spec PyProof.Rows L2
open Evl (Ex)
open WM (Fm Mt)
/-! ### what the law asks of a form's group -/
def manyF (F : Fm) : Int := if WM.disc F = -3 * WM.cont F * WM.cont F then 6 else if WM.disc F = -4 * WM.cont F * WM.cont F then 4 else 2
structure LawF (i : Nat) (F : Fm) (grp : List Mt) (gen : Option Mt) : Prop where
  nd : (madeO grp gen).Nodup
  ok : ∀ m ∈ madeO grp gen, WM.det m = 1 ∧ WM.act F m = F
  mb : ∀ m ∈ madeO grp gen, MB 2200 m
  sm : ∀ z, SmallM F z → z ∈ madeO grp gen
  len : (grp.length : Int) = manyF F
  two : i ≠ 0 → grp = twoM
  md : MdPre (grp, gen)
  gn : gen = none ↔ i = 0 ∨ i = 2
  g1 : i = 1 → gen = some (genM F)
  g3 : 3 ≤ i → ∃ G p q, F = WM.flF G p q ∧ ShPre (G, p, q) ∧ gen = some (WM.shear p q)
theorem made_mb {grp : List Mt} {gen : Option Mt} (h : MdPre (grp, gen)) (hb : ∀ m ∈ grp, MB 200 m) : ∀ m ∈ madeO grp gen, MB 2200 m := by
  cases gen with
  | none => exact fun m hm => (hb m hm).le (by decide)
  | some G =>
    obtain ⟨gb, _⟩ := h.g G rfl
    intro m hm
    have hm : m ∈ grp ++ grp.flatMap fun m => WM.turns G 9 m m := hm
    rcases List.mem_append.mp hm with hm | hm
    · exact (hb m hm).le (by decide)
    · obtain ⟨o, ho, hm⟩ := List.mem_flatMap.mp hm
      rw [← WM.pre_nine] at hm
      obtain ⟨j, _, hj, e⟩ := WM.pre_mem _ _ hm
      obtain ⟨p1, p2⟩ := pre_mb gb (hb o ho) j
      rcases e with rfl | rfl
      · exact p1.le (by omega)
      · exact p2.le (by omega)
theorem two_mb : ∀ m ∈ twoM, MB 2 m := by
  intro m hm
  simp only [List.mem_cons, List.not_mem_nil, or_false] at hm
  rcases hm with rfl | rfl
  · exact ⟨by decide, by decide, by decide, by decide⟩
  · exact ⟨by decide, by decide, by decide, by decide⟩
theorem many_two {F : Fm} (h : 0 ≤ WM.disc F) (hz : F ≠ WM.zero) : manyF F = 2 := by
  have hc := WM.cont_pos hz
  have := Int.mul_pos hc hc
  unfold manyF
  rw [if_neg, if_neg]
  · rw [Int.mul_assoc]; omega
  · rw [Int.mul_assoc]; omega
/-- definite -/
theorem lawF_de {F : Fm} {grp : List Mt} {gen : Option Mt} (h : DefPre F) (p : SgPost (.de, F) grp gen) : LawF 0 F grp gen := by
  obtain ⟨⟨k, m, σ, hσ, hd, he, ha, hr, mb, rfl⟩, rfl⟩ := p
  obtain ⟨g1, g2, g3⟩ := WM.grp_def hσ hd he ha hr
  have hk0 : k ≠ WM.zero := fun e => by rw [e] at ha; exact absurd ha (by decide)
  have hbs : ∀ o ∈ (WM.selfs k).map (WM.conj m), MB 200 o := by
    intro o ho
    obtain ⟨o', h1, rfl⟩ := List.mem_map.mp ho
    exact (MB.mul (MB.mul mb (selfs_small h1)) (MB.inv mb)).le (by decide)
  have hmd : MdPre ((WM.selfs k).map (WM.conj m), none) := ⟨by rw [List.length_map]; have := selfs_le k; omega, fun G e => by cases e⟩
  refine ⟨g1, g2, made_mb hmd hbs, fun z hz => g3 z hz.d hz.e, ?_, fun n => absurd rfl n, hmd, ⟨fun _ => .inl rfl, fun _ => rfl⟩, fun n => by omega, fun n => by omega⟩
  obtain ⟨k0, _, e1, e2, _⟩ := WM.prim_part hk0
  have hc := WM.cont_pos hk0
  have hl := WM.selfs_len ha hr hc e2 e1.symm
  have ec : WM.cont F = WM.cont k := by
    rw [← WM.cont_act hd, he]
    rcases hσ with rfl | rfl
    · congr 1; apply Fm.eq <;> simp only [WM.scal] <;> omega
    · exact WM.cont_neg k
  have ed : WM.disc F = WM.disc k := by
    have := WM.disc_act F m
    rw [he, hd, WM.disc_scal] at this
    rcases hσ with rfl | rfl <;> omega
  rw [List.length_map, hl]
  unfold manyF
  rw [ec, ed]
/-- split -/
theorem lawF_sp {k : Int} {F : Fm} {grp : List Mt} {gen : Option Mt} (h : SPre (k, F)) (p : SgPost (.sp k, F) grp gen) : LawF 2 F grp gen := by
  obtain ⟨rfl, rfl⟩ := p
  have hk := h.k
  have hd := h.d
  dsimp only at hk hd
  have hp := WM.sq_pos (x := k) (by omega)
  have hz : F ≠ WM.zero := fun e => by rw [e, show WM.disc WM.zero = 0 by decide] at hd; omega
  have hmd : MdPre (twoM, none) := ⟨by decide, fun G e => by cases e⟩
  refine ⟨by decide, fun m hm => ?_, made_mb hmd fun m hm => (two_mb m hm).le (by decide), fun z hz => ?_, ?_, fun _ => rfl, hmd, ⟨fun _ => .inr rfl, fun _ => rfl⟩, fun n => by omega, fun n => by omega⟩
  · simp only [madeO, List.mem_cons, List.not_mem_nil, or_false] at hm
    rcases hm with rfl | rfl
    · exact ⟨WM.det_one, WM.act_one F⟩
    · exact ⟨by rw [WM.det_neg]; exact WM.det_one, by rw [WM.act_neg]; exact WM.act_one F⟩
  · rcases WM.split_all hk hd hz.d hz.e with rfl | rfl
    · exact List.mem_cons_self
    · exact List.mem_cons_of_mem _ List.mem_cons_self
  · rw [many_two (by omega) hz]; rfl
/-- flat -/
theorem lawF_fl {F : Fm} {grp : List Mt} {gen : Option Mt} (h : FlPre F) (p : SgPost (.fl, F) grp gen) : LawF 3 F grp gen := by
  obtain ⟨rfl, G, a, b, e, hc, hG, rfl⟩ := p
  have hb := h.b
  rw [e] at hb
  obtain ⟨s1, s2, s3⟩ := flat_sizes hG hc hb
  have hz : F ≠ WM.zero := fun q => by
    rw [e] at q
    have := (WM.flF_divd hG hc).1
    rw [q, WM.cont_zero] at this
    have := WM.ab_pos hG
    omega
  have aa := ab_le_sq a
  have bb := ab_le_sq b
  have qa : a.natAbs < 2 ^ 30 := by unfold B40 WM.ab at *; omega
  have qb : b.natAbs < 2 ^ 30 := by unfold B40 WM.ab at *; omega
  have gmb : MB 200 (WM.shear a b) := by
    have : Bt 30 a := ⟨qa⟩
    have : Bt 30 b := ⟨qb⟩
    exact ⟨by show (1 - a * b).natAbs < _; exact btu, by show (-(b * b)).natAbs < _; exact btu, by show (a * a).natAbs < _; exact btu, by show (1 + a * b).natAbs < _; exact btu⟩
  have hmd : MdPre (twoM, some (WM.shear a b)) := ⟨by show 2 ≤ 12; decide, fun G' e' => by cases e'; exact ⟨gmb, fun m hm => (two_mb m hm).le (by decide)⟩⟩
  obtain ⟨k1, k2, k3⟩ := WM.shear_ok G a b
  refine ⟨WM.shear_nodup hc, fun m hm => ?_, made_mb hmd fun m hm => (two_mb m hm).le (by decide), fun z hz => ?_, ?_, fun _ => rfl, hmd, ⟨fun q => (by cases q), fun q => (by omega)⟩, fun n => (by omega), fun _ => ⟨G, a, b, e, ⟨hG, hc, hb⟩, rfl⟩⟩
  · rw [e]; exact WM.made_ok k1 k2 hm
  · have h1 := hz.e
    rw [e] at h1
    exact WM.fl_small hG hc hz.d h1 hz.q hz.r
  · rw [many_two (by rw [fl_disc h]; omega) hz]; rfl
/-- indefinite -/
theorem lawF_in {r : Int} {F : Fm} {grp : List Mt} {gen : Option Mt} (h : IPre (r, F)) (s : ScPre F) (p : SgPost (.ind r, F) grp gen) : LawF 1 F grp gen := by
  obtain ⟨rfl, rfl⟩ := p
  have hz : F ≠ WM.zero := fun e => s.a (by rw [e]; rfl)
  have hc := WM.cont_pos hz
  obtain ⟨F0, e0, e1, e2, e3⟩ := WM.prim_part hz
  have hL := s.d
  rw [e0] at hL
  have lu := hL.lu
  have eg : genM F = WM.scM F0 (WM.lu (WM.disc F0)).1 (WM.lu (WM.disc F0)).2 := by show WM.scM (WM.divd F (WM.cont F)) _ _ = _; rw [e0]
  have a0 : F0.a ≠ 0 := fun q => s.a (by rw [← e1]; show F0.a * _ = 0; rw [q, Int.zero_mul])
  obtain ⟨k1, k2⟩ := WM.scM_ok lu.eq
  obtain ⟨p', s', k3, k4, k5⟩ := WM.scM_eq lu.eq
  have t3 := lu.t3
  have u1 := lu.u1
  have db := cont_bd s.b s.a
  have hdb : FB 30 F0 := by
    have q := s.b
    have ba := WM.fdiv_ab (x := F.a) db.1
    have bb := WM.fdiv_ab (x := F.b) db.1
    have bc := WM.fdiv_ab (x := F.c) db.1
    have qa := q.a
    have qb := q.b
    have qc := q.c
    rw [← e0]
    refine ⟨?_, ?_, ?_⟩
    · show (F.a.fdiv (WM.cont F)).natAbs < _
      unfold WM.ab at *; omega
    · show (F.b.fdiv (WM.cont F)).natAbs < _
      unfold WM.ab at *; omega
    · show (F.c.fdiv (WM.cont F)).natAbs < _
      unfold WM.ab at *; omega
  have gmb : MB 200 (genM F) := by
    rw [eg, k3]
    have hbu := wide_lt hdb.b (show (WM.lu (WM.disc F0)).2.natAbs < 2 ^ 64 by have := lu.u64; omega)
    have hcu := wide_lt (show (-F0.c).natAbs < 2 ^ 30 by have := hdb.c; omega) (show (WM.lu (WM.disc F0)).2.natAbs < 2 ^ 64 by have := lu.u64; omega)
    have hau := wide_lt hdb.a (show (WM.lu (WM.disc F0)).2.natAbs < 2 ^ 64 by have := lu.u64; omega)
    have t64 := lu.t64
    refine (show MB 100 _ from ⟨?_, ?_, ?_, ?_⟩).le (by decide) <;> dsimp only <;> omega
  have hmd : MdPre (twoM, some (genM F)) := ⟨by show 2 ≤ 12; decide, fun G' e' => by cases e'; exact ⟨gmb, fun m hm => (two_mb m hm).le (by decide)⟩⟩
  have d5 : 5 ≤ WM.disc F0 := by
    have q0 := hL.p
    have q1 := hL.n
    have q2 := hL.m
    generalize WM.disc F0 = d at *
    refine Classical.byContradiction fun hn => ?_
    have : d = 1 ∨ d = 4 := by omega
    rcases this with rfl | rfl
    · exact absurd q1 (by decide)
    · exact absurd q1 (by decide)
  have hG1 : WM.det (genM F) = 1 := by rw [eg]; exact k1
  have hG2 : 2 ≤ (genM F).p + (genM F).s := by rw [eg, k3]; dsimp only; omega
  have hG3 : (genM F).r ≠ 0 := by
    rw [eg, k3]
    dsimp only
    intro q
    rcases Int.mul_eq_zero.mp q with q | q
    · exact a0 q
    · omega
  have c0 : WM.cont F ≠ 0 := by omega
  refine ⟨WM.made_nodup hG1 hG2 (.inr hG3), fun m hm => ?_, made_mb hmd fun m hm => (two_mb m hm).le (by decide), fun z hz => ?_, ?_, fun _ => rfl, hmd, ⟨fun q => (by cases q), fun q => (by omega)⟩, fun _ => rfl, fun n => (by omega)⟩
  · have := WM.made_ok hG1 (f := F0) (by rw [eg]; exact k2) hm
    exact ⟨this.1, (WM.act_divd c0 e1).mpr this.2⟩
  · have h1 := (WM.act_divd c0 e1).mp hz.e
    show z ∈ WM.made twoM (genM F)
    rw [eg]
    exact WM.small_made e2 a0 d5 lu.eq lu.small hz.d h1 hz.p hz.s
  · have := h.pos
    rw [many_two this.1 hz]; rfl
end WC
namespace WC
open PySem PySem.Spec PyProof.Rows L2
open Evl (Ex)
open WM (Fm Mt)
structure Fix (i : Nat) (F : Fm) : Prop where
  kd : ∃ kd : Kd, SgPre (kd, F) ∧ (∀ N, WM.Gen N → WM.MN 27 N → CPre (kd, WM.act F N)) ∧ ∀ grp gen, SgPost (kd, F) grp gen → LawF i F grp gen
  nz : F ≠ WM.zero
  fb : FB 29 F
  sc : i = 1 → ScPre F
theorem sq_cancel {g s d : Int} (hg : 1 ≤ g ∧ g ≤ 3) (h : d * (g * g) = s * s) : ∃ x, d = x * x := by
  have hg : g = 1 ∨ g = 2 ∨ g = 3 := by omega
  rcases hg with rfl | rfl | rfl
  · exact ⟨s, by omega⟩
  · obtain ⟨k, hk⟩ : ∃ k, s = 2 * k ∨ s = 2 * k + 1 := ⟨s / 2, by omega⟩
    rcases hk with hk | hk
    · refine ⟨k, ?_⟩
      have : s * s = 4 * (k * k) := by rw [hk]; grind
      omega
    · exfalso
      have : s * s = 4 * (k * k + k) + 1 := by rw [hk]; grind
      omega
  · obtain ⟨k, hk⟩ : ∃ k, s = 3 * k ∨ s = 3 * k + 1 ∨ s = 3 * k + 2 := ⟨s / 3, by omega⟩
    rcases hk with hk | hk | hk
    · refine ⟨k, ?_⟩
      have : s * s = 9 * (k * k) := by rw [hk]; grind
      omega
    · exfalso
      have : s * s = 3 * (3 * (k * k) + 2 * k) + 1 := by rw [hk]; grind
      omega
    · exfalso
      have : s * s = 3 * (3 * (k * k) + 4 * k + 1) + 1 := by rw [hk]; grind
      omega
theorem isq_of {x : Int} : isSq (x * x) = true := by
  unfold isSq
  rw [sqrt_sq, WM.ab_sq]; exact decide_eq_true rfl
theorem kind_ind {f : Fm} (h : kindS f = "indefinite") : 0 < WM.disc f ∧ isSq (WM.disc f) = false := by
  unfold kindS at h
  by_cases h1 : WM.disc f < 0
  · rw [if_pos h1] at h; exact absurd h.symm ne_id
  · rw [if_neg h1] at h
    by_cases h2 : WM.disc f = 0
    · rw [if_pos h2] at h; exact absurd h ne_fi
    · rw [if_neg h2] at h
      cases h3 : isSq (WM.disc f) with
      | true => rw [h3] at h; exact absurd h ne_si
      | false => exact ⟨by omega, rfl⟩
theorem bd_nf {f : Fm} {B : Int} (h : WM.nf f ≤ B) : WM.Bd B f := by
  have a := WM.ab_nn f.a
  have b := WM.ab_nn f.b
  have c := WM.ab_nn f.c
  unfold WM.nf at h
  exact ⟨by omega, by omega, by omega⟩
theorem bd_le {f : Fm} {B C : Int} (h : WM.Bd B f) (hB : B ≤ C) : WM.Bd C f := ⟨Int.le_trans h.a hB, Int.le_trans h.b hB, Int.le_trans h.c hB⟩
theorem def_of {f : Fm} (h : WM.Bd B40 f) (hd : WM.disc f < 0) : DefPre f := ⟨hd, h.a, h.b, h.c⟩
theorem fix_of {i : Nat} {f : Fm} {M : Mt} {g : Int} (hi : i < 4) (h : FoOk i f) (hM : WM.Gen M) (hb : WM.MN 9 M) (hg : 1 ≤ g ∧ g ≤ 3) : Fix i (WM.scal (WM.act f M) g) := by
  have hn := h.n
  have n1 := (WM.nf_act (f := f) hb).2
  have n2 : WM.nf (WM.scal (WM.act f M) g) ≤ 104976 := by
    rw [WM.nf_scal (by omega)]
    have := Int.mul_le_mul (show WM.nf (WM.act f M) ≤ 34992 by omega) hg.2 (by omega) (by decide)
    omega
  have bF : WM.Bd B40 (WM.scal (WM.act f M) g) := bd_le (bd_nf n2) (by decide)
  have hdet := hM.det
  have dF : WM.disc (WM.scal (WM.act f M) g) = WM.disc f * (g * g) := by rw [WM.disc_scal, WM.disc_act, hdet]; grind
  have bN : ∀ N, WM.MN 27 N → WM.Bd B40 (WM.act (WM.scal (WM.act f M) g) N) := fun N hN => bd_le (WM.nf_act (f := WM.scal (WM.act f M) g) hN).1 (by
    have : (27 : Nat) * 27 = 729 := rfl
    unfold B40
    generalize WM.nf (WM.scal (WM.act f M) g) = n at *
    omega)
  have dN : ∀ N, WM.Gen N → WM.disc (WM.act (WM.scal (WM.act f M) g) N) = WM.disc f * (g * g) := fun N hN => by rw [WM.disc_act, hN.det, dF]; grind
  have gg : 1 ≤ g * g := by
    have := Int.mul_le_mul hg.1 hg.1 (by decide) (by omega); omega
  have gg9 : g * g ≤ 9 := Int.mul_le_mul hg.2 hg.2 (by omega) (by decide)
  have nz_of : WM.disc f ≠ 0 → WM.scal (WM.act f M) g ≠ WM.zero := fun hd e => by
    rw [e, show WM.disc WM.zero = 0 by decide] at dF
    rcases Int.mul_eq_zero.mp dF.symm with q | q
    · exact hd q
    · omega
  have cF : WM.cont (WM.scal (WM.act f M) g) = WM.cont f * g := by rw [WM.cont_scal_any (by omega), WM.cont_act hdet]
  have fb := fb_of bF (Int.le_refl _)
  match i, hi with
  | 0, _ =>
    have hd := h.h0 rfl
    have neg : WM.disc f * (g * g) < 0 := Int.mul_neg_of_neg_of_pos hd (by omega)
    have p : DefPre (WM.scal (WM.act f M) g) := def_of bF (by rw [dF]; exact neg)
    exact ⟨⟨.de, p, fun N hN hb => def_of (bN N hb) (by rw [dN N hN]; exact neg), fun grp gen q => lawF_de p q⟩, nz_of (by omega), fb, fun q => by omega⟩
  | 1, _ =>
    obtain ⟨hk, h136⟩ := h.h1 rfl
    obtain ⟨hpos, hsq⟩ := kind_ind hk
    have posF : 0 < WM.disc f * (g * g) := Int.mul_pos hpos (by omega)
    have nz := nz_of (by omega)
    have leF : WM.disc f * (g * g) ≤ 1224 := by
      have := Int.mul_le_mul h136 gg9 (by omega) (by decide); omega
    obtain ⟨r0, r1, r2⟩ := sqrtI_spec (show 0 ≤ WM.disc f * (g * g) by omega)
    have rne : sqrtI (WM.disc f * (g * g)) * sqrtI (WM.disc f * (g * g)) ≠ WM.disc f * (g * g) := fun e => by
      obtain ⟨x, hx⟩ := sq_cancel hg e.symm
      rw [hx, isq_of] at hsq; cases hsq
    generalize sqrtI (WM.disc f * (g * g)) = r at *
    have rl : r ≤ 35 := by
      refine Classical.byContradiction fun hn => ?_
      have := Int.mul_le_mul (show 36 ≤ r by omega) (show 36 ≤ r by omega) (by decide) r0
      omega
    have rp : 1 ≤ r := by
      refine Classical.byContradiction fun hn => ?_
      have : r = 0 := by omega
      rw [this] at r2
      omega
    have hI : WM.Ind r (WM.scal (WM.act f M) g) := ⟨by rw [dF]; omega, by rw [dF]; exact r2, rp⟩
    have hS : ScPre (WM.scal (WM.act f M) g) := by
      refine ⟨fb, hI.a0, ?_⟩
      obtain ⟨F0, e0, e1, e2, e3⟩ := WM.prim_part nz
      rw [e0]
      have fz : f ≠ WM.zero := fun e => by rw [e, show WM.disc WM.zero = 0 by decide] at hpos; omega
      have c1 := WM.cont_pos fz
      have key : WM.disc F0 * (WM.cont f * WM.cont f) = WM.disc f := by
        rw [dF, cF] at e3
        have : (g * g) * (WM.disc F0 * (WM.cont f * WM.cont f)) = (g * g) * WM.disc f := by grind
        exact Int.eq_of_mul_eq_mul_left (by omega) this
      have cc : 1 ≤ WM.cont f * WM.cont f := by
        have := Int.mul_le_mul (show 1 ≤ WM.cont f by omega) (show 1 ≤ WM.cont f by omega) (by decide) (by omega); omega
      have d0 : 0 < WM.disc F0 := by
        refine Classical.byContradiction fun hn => ?_
        have := Int.mul_le_mul_of_nonneg_right (show WM.disc F0 ≤ 0 by omega) (show 0 ≤ WM.cont f * WM.cont f by omega)
        omega
      have dl : WM.disc F0 ≤ 136 := by
        have := Int.mul_le_mul_of_nonneg_left cc (show 0 ≤ WM.disc F0 by omega)
        omega
      obtain ⟨q1, q2, q3⟩ := WM.rt_ok (Int.le_of_lt d0) dl
      refine ⟨d0, dl, ?_, WM.disc_mod F0⟩
      have ne : WM.rt (WM.disc F0) * WM.rt (WM.disc F0) ≠ WM.disc F0 := fun e => by
        have : WM.disc f = (WM.rt (WM.disc F0) * WM.cont f) * (WM.rt (WM.disc F0) * WM.cont f) := by
          rw [← key]
          generalize WM.rt (WM.disc F0) = t at *
          rw [← e]; grind
        rw [this, isq_of] at hsq; cases hsq
      omega
    have p : IPre (r, WM.scal (WM.act f M) g) := ⟨hI, rl, bF⟩
    exact ⟨⟨.ind r, ⟨p, hS⟩, fun N hN hb => ⟨hI.act hN.det, rl, bN N hb⟩, fun grp gen q => lawF_in p hS q⟩, nz, fb, fun _ => hS⟩
  | 2, _ =>
    obtain ⟨_, k, k0, k36, hd⟩ := h.h2 rfl
    have kp := Int.mul_pos k0 k0
    have e : WM.disc f * (g * g) = (k * g) * (k * g) := by rw [hd]; grind
    have kg : 0 < k * g := Int.mul_pos k0 (by omega)
    have kl : k * g ≤ 108 := by
      have := Int.mul_le_mul k36 hg.2 (by omega) (by decide); omega
    have p : SPre (k * g, WM.scal (WM.act f M) g) := ⟨kg, by dsimp only; omega, by rw [dF]; exact e, bF⟩
    exact ⟨⟨.sp (k * g), p, fun N hN hb => ⟨kg, by dsimp only; omega, by rw [dN N hN]; exact e, bN N hb⟩, fun grp gen q => lawF_sp p q⟩, nz_of (by omega), fb, fun q => by omega⟩
  | 3, _ =>
    obtain ⟨_, G, A, B, rfl, hG, hn0⟩ := h.h3 (by decide)
    obtain ⟨d, P', Q', d0, _, _, hc, e⟩ := WM.fl_norm (G := G) hn0
    have hc1 := WM.cop_act hc hdet
    have eF : WM.scal (WM.act (WM.flF G A B) M) g = WM.flF (G * d * d * g) (P' * M.p + Q' * M.r) (P' * M.q + Q' * M.s) := by rw [e, WM.flF_act, WM.flF_scal]
    have g0 : G * d * d * g ≠ 0 := fun q => by
      rcases Int.mul_eq_zero.mp q with q | q
      · rcases Int.mul_eq_zero.mp q with q | q
        · rcases Int.mul_eq_zero.mp q with q | q
          · exact hG q
          · omega
        · omega
      · omega
    have p : FlPre (WM.scal (WM.act (WM.flF G A B) M) g) := ⟨bF, .inr ⟨_, _, _, g0, hc1, eF⟩⟩
    refine ⟨⟨.fl, p, fun N hN hb => ⟨bN N hb, .inr ⟨_, _, _, g0, WM.cop_act hc1 hN.det, ?_⟩⟩, fun grp gen q => lawF_fl p q⟩, fun q => ?_, fb, fun q => by omega⟩
    · rw [eF, WM.flF_act]
    · rw [eF] at q
      have := (WM.flF_divd g0 hc1).1
      rw [q, WM.cont_zero] at this
      have := WM.ab_pos g0
      omega
end WC
namespace WC
open PySem PySem.Spec PyProof.Rows L2
open Evl (Ex)
open WM (Fm Mt)
theorem le_two1 : PySem.W.dataLe false mD WM.one (WM.neg WM.one) = false := by decide +kernel
theorem sort_two : twoM.mergeSort (PySem.W.dataLe false mD) = [WM.neg WM.one, WM.one] := by
  show [WM.one, WM.neg WM.one].mergeSort (PySem.W.dataLe false mD) = _
  simp [List.mergeSort, List.MergeSort.Internal.splitInTwo, List.merge, le_two1]
def rSort2 (K : PySem.W.Frag) : List V → Hp → VK → Prop := fun vs H Q => ∃ a xs, vs = [.ref a] ∧ SqL K H a xs ∧ DpAll K H xs (twoM.map mD) ∧ ∀ p ys, H p = none → DpAll K H ys ([WM.neg WM.one, WM.one].map mD) → Q (.ref p) (upd H p (.lst ys))
theorem cr_sort2 {X : Cx} (hu : X.A.units + 64 < cLine) : CallR X (.builtin "sorted") (rSort2 X.K) := by
  intro pins s σ H vs us Q I r h
  obtain ⟨a, xs, rfl, hs, hall, q⟩ := h
  obtain ⟨its, rv, hl, hz⟩ := I.list hs
  rw [Vals.ref1 r]
  obtain _ | ⟨h1, _ | ⟨h2, _ | _⟩⟩ := hall
  rename_i x1 x2
  obtain ⟨u1, u2, rfl, r1, r2⟩ := vals2 rv
  obtain ⟨as1, d1⟩ := Dp.reads I _ _ _ h1 r1
  obtain ⟨as2, d2⟩ := Dp.reads I _ _ _ h2 r2
  refine PySem.W.sorted_data (bs := twoM) (enc := mD) (R := fun v m => ∃ x, RelV x v ∧ Dp X.K H x (mD m)) hl.isList (.cons ⟨x1, r1, h1⟩ (.cons ⟨x2, r2, h2⟩ .nil)) (.cons ⟨as1, d1⟩ (.cons ⟨as2, d2⟩ .nil)) (PySem.W.AllAlike.of fun _ _ => rfl) (PySem.W.Sortable.tuples fun b => ⟨_, _, rfl⟩) (by rw [sizeLine_eq]; decide) (fun b _ => ?_) fun out hlen hout => ?_
  · have : (mD b).depth ≤ 4 := by
      show PyData.depth (.tuple [.int _, .int _, .int _, .int _]) ≤ 4
      simp [PyData.depth, PyData.depthAll]
    omega
  · rw [sort_two] at hout
    obtain _ | ⟨⟨y1, q1, k1⟩, _ | ⟨⟨y2, q2, k2⟩, _ | _⟩⟩ := hout
    rename_i w1 w2
    obtain ⟨ep, he'⟩ := PyProof.Rows.sortedAll_at s.heap [u1, u2] (List.toArray [w1, w2])
    exact ⟨.ref _, upd H (s.heap.objs.size + 1) (.lst [y1, y2]), I.laid (t' := s.toks) (fun _ _ => PyProof.Rows.sortedAll_old) (Nat.le_succ _) ⟨by rw [sizeLine_eq]; show 2 ≤ _; decide, [w1, w2], ep, .cons q1 (.cons q2 .nil), he'⟩, rfl, q _ _ (I.hok.fresh (Nat.le_succ _)) (.cons k1 (.cons k2 .nil))⟩
section
variable {X : Cx} {σ : L2.St} {H H0 H' : Hp} {a b c e : Expr} {es : List Expr} {pos : Pos} {d d' : PyData} {P : V → Hp → Prop} {D : Ends} {rest body : List Stmt} {ds ds' : List PyData}
theorem c_sort2 {p : Pos} (hu : X.A.units + 64 < cLine) (ha : CD X a σ H (.list (twoM.map mD))) (hm : X.mg "sorted" = none) (hg : Gl X "sorted" := by rfl) (he : starEach [a] X.env = (false, eval a X.env) :: starEach [] X.env := by rfl) : CD X (.Call (.Name "sorted" p) [a] [] pos) σ H (.list ([WM.neg WM.one, WM.one].map mD)) :=
  of_pe (pe_callB (cr_sort2 hu) hg hm (by decide +kernel) (pa_cons pw pa_nil he) (by decide) (by decide) he (by rfl)) (ed_cb (eda_cons ha eda_nil) fun vs H1 _ hv Q q => by
    obtain _ | ⟨h1, _ | _⟩ := hv
    obtain _ | _ | _ | _ | ⟨hs, hall⟩ | _ := h1
    exact ⟨_, _, rfl, hs, hall, fun p ys hp hy => q _ _ (Ex.new hp) (.lst (Evl.sq_of upd_same) (hy.up (Ex.new hp)))⟩)
/-- isinstance(x, tuple), isinstance(x, list): yes -/
theorem c_isi {n : String} {x : Str} {p p2 : Pos} (ha : CR X a σ H P) (hP : ∀ v H2, P v H2 → TyX X.K H2 v (.type n)) (hx : bootBuiltins x = some (.type n)) (hm : X.mg "isinstance" = none) (hm2 : X.mg x = none) (hk : kitB n n = some true) (hg : Gl X "isinstance" := by rfl) (hg2 : Gl X x := by rfl) (hn : x ≠ "__name__" := by decide) (hd : (x == ("__debug__" : Str)) = false := by decide)
    (he : starEach [a, .Name x p2] X.env = (false, eval a X.env) :: starEach [.Name x p2] X.env := by rfl) (he2 : starEach [.Name x p2] X.env = (false, eval (.Name x p2) X.env) :: starEach [] X.env := by rfl) : CD X (.Call (.Name "isinstance" p) [a, .Name x p2] [] pos) σ H (.bool true) :=
  of_pe (pe_callB call_isi hg hm (by decide +kernel) (pa_cons pw (pa_cons (pe_bltn (v := .ty n) hg2 hm2 hx rfl hn hd) pa_nil he2) he) (by decide) (by decide) he (by rfl)) fun H1 e1 Q q => ha H1 e1 _ fun v H2 e2 hv => by
    exact ⟨v, .ty n, .type n, .type n, true, rfl, .ty n, hP v H2 hv, kit_ty hk, q _ H2 e2 (.bl true)⟩
theorem pair_ty {K : PySem.W.Frag} {H0 H : Hp} {v : V} (h : Pair K H0 ds d v H) : TyX K H v (.type "tuple") := by
  obtain ⟨t, p, g, rfl, hs, _, _⟩ := h
  rcases hs with (hs | ⟨o, hs⟩) | hs
  · exact .base (.tup hs)
  · exact .fTuple hs
  · obtain ⟨o, its, n, k1, k2, _⟩ := hs
    exact .kTuple k1 k2
theorem own_ty {K : PySem.W.Frag} {H0 H : Hp} {p : Addr} (h : Own K H0 p ds H) : TyX K H (.ref p) (.type "list") := by
  obtain ⟨vs, h1, _⟩ := h.at_
  exact .base (.lst h1)
theorem t_inN {ds : List PyData} (hu : X.A.units + 65 < cLine) (ha : CD X a σ H d) (hb : CD X b σ H (.list ds)) (h1 : SeqAt.shaped d = true) (h2 : SeqAt.shaped (.list ds) = true) (hm : lastMarks [CmpOp.NotIn] [b] = false := by with_unfolding_all rfl) : CT X (.Compare a [.NotIn] [b] pos) σ H (!ds.any fun z => PyData.eqv z d) :=
  of_pt (pt_cmpR (op_notInD hu) pw pw hm) (eb_test (K := X.K) (ed_op ha hb fun x y H1 _ hx hy Q q => ⟨d, ds, hx, hy, h1, h2, q _ H1 (Ex.refl H1) (.bl _)⟩))
theorem v_in {ds : List PyData} (hu : X.A.units + 65 < cLine) (ha : CD X a σ H d) (hb : CD X b σ H (.list ds)) (h1 : SeqAt.shaped d = true) (h2 : SeqAt.shaped (.list ds) = true) (hm : lastMarks [CmpOp.In] [b] = false := by with_unfolding_all rfl) : CD X (.Compare a [.In] [b] pos) σ H (.bool (ds.any fun z => PyData.eqv z d)) :=
  of_pe (pe_cmpR (op_inD hu) pw pw hm) (ed_op ha hb fun x y H1 _ hx hy Q q => ⟨d, ds, hx, hy, h1, h2, q _ H1 (Ex.refl H1) (.bl _)⟩)
theorem t_notNone {j : Nat} {p2 : Pos} (ha : CR X a σ H fun v _ => v = .non) : CT X (.Compare a [.IsNot] [.Constant .none j p2] pos) σ H false := of_pt (pt_cmpR op_notN pw pe_non (nomark _)) fun H1 e1 Q q => ha H1 e1 _ fun v H2 e2 hv => ⟨rfl, false, by rw [hv]; rfl, q H2 e2⟩
theorem v_isN {j : Nat} {p2 : Pos} {g : Option Mt} (ha : CD X a σ H (gD g)) : CD X (.Compare a [.Is] [.Constant .none j p2] pos) σ H (.bool (decide (g = none))) := of_pe (pe_cmpR op_isN pw pe_non (nomark _)) fun H1 e1 Q q => ha H1 e1 _ fun v H2 e2 hv => ⟨rfl, q _ H2 e2 (by
  cases g with
  | none =>
    rw [hv.non_eq]; exact .bl true
  | some m =>
    obtain _ | _ | _ | _ | _ | _ := hv
    exact .bl false)⟩
theorem v_notT {j : Nat} {p2 : Pos} {ds : List PyData} (ha : CD X a σ H (.tuple ds)) : CD X (.Compare a [.IsNot] [.Constant .none j p2] pos) σ H (.bool true) := of_pe (pe_cmpR op_notN pw pe_non (nomark _)) fun H1 e1 Q q => ha H1 e1 _ fun v H2 e2 hv => ⟨rfl, q _ H2 e2 (by
  obtain _ | _ | _ | _ | _ | _ := hv
  exact .bl true)⟩
theorem c_sg {k : Nat} {p : Pos} (x : Kd × Fm) (T : Tx X.K X.mg) (hr : Room k X.A) (ha : CDA X (e :: es) σ H [fD x.2]) (hp : SgPre x) (hk : 7 ≤ k := by decide) (hg : Gl X "self_group" := by rfl) (he : starEach (e :: es) X.env = (false, eval e X.env) :: starEach es X.env := by rfl) (hpl : (backTo pos (starEach es X.env)).any (·.1) = false := by rfl) :
    CR X (.Call (.Name "self_group" p) (e :: es) [] pos) σ H (fun v H2 => (x.2 = WM.zero ∧ v = .non) ∨ (x.2 ≠ WM.zero ∧ ∃ grp gen, Pair X.K H (grp.map mD) (gD gen) v H2 ∧ SgPost x grp gen)) :=
  c_call (ok_self_group T) (hr.mono hk) ha (fun vs H1 e1 hv Q q => ⟨x, hv, hp, fun hz H2 e2 => q _ H2 e2 (.inl ⟨hz, rfl⟩), fun hz v grp gen H2 e2 hP hS => q _ H2 e2 (.inr ⟨hz, grp, gen, hP.low e1, hS⟩)⟩) hg (by decide) he hpl
end
theorem lay_ms : ∀ ms : List Mt, PyData.canLayAll0 (ms.map mD) = true
  | [] => rfl
  | m :: ms => by
    show ((mD m).canLay0 && PyData.canLayAll0 (ms.map mD)) = true
    rw [lay_ms ms]; rfl
theorem depth_ms : ∀ ms : List Mt, PyData.depthAll (ms.map mD) ≤ 4
  | [] => by simp [PyData.depthAll]
  | m :: ms => by
    show max (mD m).depth (PyData.depthAll (ms.map mD)) ≤ 4
    refine Nat.max_le.mpr ⟨?_, depth_ms ms⟩
    show PyData.depth (.tuple [.int _, .int _, .int _, .int _]) ≤ 4
    simp [PyData.depth, PyData.depthAll]
theorem shaped_ms (ms : List Mt) : SeqAt.shaped (msD ms) = true := by
  show (PyData.canLay0 (.list (ms.map mD)) && decide (PyData.depth (.list (ms.map mD)) ≤ 64)) = true
  rw [show PyData.canLay0 (.list (ms.map mD)) = PyData.canLayAll0 (ms.map mD) by simp [PyData.canLay0], lay_ms, show PyData.depth (.list (ms.map mD)) = PyData.depthAll (ms.map mD) + 1 by simp [PyData.depth, Nat.add_comm]]
  have := depth_ms ms
  rw [decide_eq_true (by omega)]; rfl
theorem eqv_m (m n : Mt) : PyData.eqv (mD m) (mD n) = decide (m = n) := by
  show (PyData.eqv (.int m.p) (.int n.p) && (PyData.eqv (.int m.q) (.int n.q) && (PyData.eqv (.int m.r) (.int n.r) && (PyData.eqv (.int m.s) (.int n.s) && true)))) = _
  rw [eqv_i, eqv_i, eqv_i, eqv_i, Bool.and_true, ← Bool.decide_and, ← Bool.decide_and, ← Bool.decide_and]
  exact decide_eq_decide.mpr ⟨fun h => WM.Mt.eq h.1 h.2.1 h.2.2.1 h.2.2.2, fun h => by rw [h]; exact ⟨rfl, rfl, rfl, rfl⟩⟩
theorem any_ms (ms : List Mt) (m : Mt) : ((ms.map mD).any fun z => PyData.eqv z (mD m)) = decide (m ∈ ms) := by
  induction ms with
  | nil => simp
  | cons x ms ih =>
    rw [List.map_cons, List.any_cons, ih, eqv_m, ← Bool.decide_or]
    exact decide_eq_decide.mpr ⟨fun h => by
      rcases h with h | h
      · rw [h]; exact List.mem_cons_self
      · exact List.mem_cons_of_mem _ h, fun h => by
      rcases List.mem_cons.mp h with h | h
      · exact .inl h.symm
      · exact .inr h⟩
theorem hu65 {A : Around} {k : Nat} (hr : Room k A) : A.units + 65 < cLine := by have := hr.un; omega
end WC
namespace WC
open PySem PySem.Spec PyProof.Rows L2
open Evl (Ex)
open WM (Fm Mt)
section
variable {X : Cx} {σ : L2.St} {H H0 H' : Hp} {a b c e : Expr} {es : List Expr} {pos : Pos} {d d' : PyData} {P : V → Hp → Prop} {D : Ends} {rest body : List Stmt} {ds ds' : List PyData}
theorem wa_sd {vs : V} (i : Nat) {x : Str} {px : Pos} (hi : σ[i]? = some (some vs)) (hm : CD X b σ H d) (hN : X.N[i]? = some x := by rfl) (hv : Vis X.env.scope x := by first | exact Or.inl rfl | exact Or.inr (Or.inl rfl) | exact Or.inr (Or.inr rfl)) (hdb : (x == ("__debug__" : Str)) = false := by decide)
    (hcd : (x == ("__classdict__" : Str)) = false := by decide) (hs1 : starEach [.Name x px, b] X.env = (false, eval (.Name x px) X.env) :: starEach [b] X.env := by rfl) (hs2 : starEach [b] X.env = (false, eval b X.env) :: starEach [] X.env := by rfl) :
    ∀ Q : List V → Hp → Prop, (∀ ws H1, (∃ u, ws = [vs, u] ∧ Dp X.K H1 u d ∧ Ex H H1) → Q ws H1) → wA X [.Name x px, b] σ H Q := fun Q q pos pins s I =>
  (pa_cons (pv i hN hv hdb hcd) (pa_cons pw pa_nil hs2) hs1).run pos pins s σ H Q I ⟨vs, hi, hm H (Ex.refl H) _ fun v H2 e2 hv => q _ _ ⟨v, rfl, hv, e2⟩⟩
theorem wa_two {Pa : V → Hp → Prop} {Pb : V → V → Hp → Prop} (ha : CM X a σ H Pa) (hb : ∀ v H2, Pa v H2 → CM X b σ H2 (Pb v)) (hs1 : starEach [a, b] X.env = (false, eval a X.env) :: starEach [b] X.env := by rfl) (hs2 : starEach [b] X.env = (false, eval b X.env) :: starEach [] X.env := by rfl) :
    ∀ Q : List V → Hp → Prop, (∀ ws H1, (∃ v u, ws = [v, u] ∧ Pb v u H1) → Q ws H1) → wA X [a, b] σ H Q := fun Q q pos pins s I =>
  (pa_cons pw (pa_cons pw pa_nil hs2) hs1).run pos pins s σ H Q I (ha _ fun v H2 hv => hb v H2 hv _ fun u H3 hu => q _ _ ⟨v, u, rfl, hu⟩)
theorem cm_form {k n i : Nat} {vs : V} {p px : Pos} (T : Tx X.K X.mg) (hr : Room k X.A) (hs : σ[1]? = some (some vs)) (hS : Sta X.K n vs H) (hm : CD X b σ H (.str (nmS i))) (hb : n ≤ 40000 ∧ i < 4) (hk : 4 ≤ k := by decide)
    (hN : X.N[1]? = some ("_law_state_here" : Str) := by rfl) (hv : Vis X.env.scope "_law_state_here" := by first | exact Or.inl rfl | exact Or.inr (Or.inl rfl) | exact Or.inr (Or.inr rfl)) (hg : Gl X "_law_form" := by rfl)
    (hs1 : starEach [.Name "_law_state_here" px, b] X.env = (false, eval (.Name "_law_state_here" px) X.env) :: starEach [b] X.env := by rfl) (hs2 : starEach [b] X.env = (false, eval b X.env) :: starEach [] X.env := by rfl) (hpl : (backTo pos (starEach [b] X.env)).any (·.1) = false := by rfl) :
    CM X (.Call (.Name "_law_form" p) [.Name "_law_state_here" px, b] [] pos) σ H (fun u H2 => ∃ f, FoOk i f ∧ Dp X.K H2 u (fD f) ∧ Sta X.K (n + 160) vs H2 ∧ Mu vs H H2) :=
  cm_call (ok_law_form T) (hr.mono hk) (wa_sd 1 hs hm hN hv (by decide) (by decide) hs1 hs2) (fun ws H1 hw Q q => by
    obtain ⟨u, e1, hu, e2⟩ := hw
    rw [hu.str_eq] at e1
    exact ⟨vs, n, i, e1, hb.2, hS.up e2, hb.1, fun f u2 H2 hf hd hS2 hM => q _ _ ⟨f, hf, hd, hS2, (Mu.of e2).trans hM⟩⟩) hg (by decide) hs1 hpl
theorem cm_change {k n many : Nat} {vs : V} {p px : Pos} (T : Tx X.K X.mg) (hr : Room k X.A) (hs : σ[1]? = some (some vs)) (hS : Sta X.K n vs H) (hm : CD X b σ H (.int (many : Int))) (hb : n ≤ 50000 ∧ many ≤ 3) (hk : 2 ≤ k := by decide)
    (hN : X.N[1]? = some ("_law_state_here" : Str) := by rfl) (hv : Vis X.env.scope "_law_state_here" := by first | exact Or.inl rfl | exact Or.inr (Or.inl rfl) | exact Or.inr (Or.inr rfl)) (hg : Gl X "_law_change" := by rfl)
    (hs1 : starEach [.Name "_law_state_here" px, b] X.env = (false, eval (.Name "_law_state_here" px) X.env) :: starEach [b] X.env := by rfl) (hs2 : starEach [b] X.env = (false, eval b X.env) :: starEach [] X.env := by rfl) (hpl : (backTo pos (starEach [b] X.env)).any (·.1) = false := by rfl) :
    CM X (.Call (.Name "_law_change" p) [.Name "_law_state_here" px, b] [] pos) σ H (fun u H2 => ∃ m, WM.Gen m ∧ WM.MN (3 ^ many) m ∧ Dp X.K H2 u (mD m) ∧ Sta X.K (n + 7) vs H2 ∧ Mu vs H H2) :=
  cm_call (ok_law_change T) (hr.mono hk) (wa_sd 1 hs hm hN hv (by decide) (by decide) hs1 hs2) (fun ws H1 hw Q q => by
    obtain ⟨u, e1, hu, e2⟩ := hw
    rw [hu.int_eq] at e1
    exact ⟨vs, n, many, e1, hS.up e2, hb.1, hb.2, fun m u2 H2 hg hn hd hS2 hM => q _ _ ⟨m, hg, hn, hd, hS2, (Mu.of e2).trans hM⟩⟩) hg (by decide) hs1 hpl
end
theorem mn_mb {n k : Nat} {m : Mt} (h : WM.MN n m) (hk : n < 2 ^ k) : MB k m := ⟨Nat.lt_of_le_of_lt h.p hk, Nat.lt_of_le_of_lt h.q hk, Nat.lt_of_le_of_lt h.r hk, Nat.lt_of_le_of_lt h.s hk⟩
theorem nf_fb {f : Fm} {B : Int} {k : Nat} (h : WM.nf f ≤ B) (hk : B < 2 ^ k) : FB k f := by
  have b := bd_nf h
  have h1 := b.a
  have h2 := b.b
  have h3 := b.c
  have e : ((2 ^ k : Nat) : Int) = 2 ^ k := by simp
  refine ⟨?_, ?_, ?_⟩
  · have := WM.natAbs_ab f.a; omega
  · have := WM.natAbs_ab f.b; omega
  · have := WM.natAbs_ab f.c; omega
section
variable {P : Program} {w : World} {K : PySem.W.Frag} {mg : Str → Option Value} {base : Heap}
variable {X : Cx} {σ : L2.St} {H : Hp} {e : Expr} {es : List Expr}
theorem shaped_nm {i : Nat} (h : i < 4) : SeqAt.shaped (.str (nmS i)) = true := by
  match i, h with
  | 0, _ => decide +kernel
  | 1, _ => decide +kernel
  | 2, _ => decide +kernel
  | 3, _ => decide +kernel
theorem shaped_ds : SeqAt.shaped (.list [.str "definite", .str "split"]) = true := by decide +kernel
theorem any_nm {i : Nat} (h : i < 4) : ([PyData.str "definite", .str "split"].any fun z => PyData.eqv z (.str (nmS i))) = decide (i = 0 ∨ i = 2) := by
  match i, h with
  | 0, _ => decide +kernel
  | 1, _ => decide +kernel
  | 2, _ => decide +kernel
  | 3, _ => decide +kernel
theorem c_varE {X : Cx} {σ : L2.St} {H : Hp} {pos : Pos} (i : Nat) {x : Str} {v : V} (hs : σ[i]? = some (some v)) (hN : X.N[i]? = some x := by rfl) (hv : Vis X.env.scope x := by first | exact Or.inl rfl | exact Or.inr (Or.inl rfl) | exact Or.inr (Or.inr rfl)) (hdb : (x == ("__debug__" : Str)) = false := by decide)
    (hcd : (x == ("__classdict__" : Str)) = false := by decide) : CR X (.Name x pos) σ H (fun u H2 => u = v ∧ Ex H H2) := of_pe (pe_var (i := i) hN hv hdb hcd) fun H1 e Q q => ⟨v, hs, q v H1 (Ex.refl H1) ⟨rfl, e⟩⟩
theorem dpTake {K : PySem.W.Frag} {H : Hp} : ∀ {vs : List V} {ds : List PyData} (k : Nat), DpAll K H vs ds → DpAll K H (vs.take k) (ds.take k)
  | _, _, 0, _ => by rw [List.take_zero, List.take_zero]; exact .nil
  | _, _, k + 1, .nil => by rw [List.take_nil, List.take_nil]; exact .nil
  | _, _, k + 1, .cons h1 h2 => .cons h1 (dpTake k h2)
theorem c_cut {X : Cx} {σ : L2.St} {H : Hp} {a b : Expr} {pos p2 : Pos} {ds : List PyData} {k : Nat} (ha : CD X a σ H (.list ds)) (hb : CD X b σ H (.int (k : Int))) : CD X (.Subscript a (.Slice none (some b) none p2) pos) σ H (.list (ds.take k)) :=
  of_pe (pe_slice sl_list pw po_none (po_some pw)) fun H1 e1 Q q => ha H1 e1 _ fun v H2 e2 hv => hb H2 (e1.trans e2) _ fun u H3 e3 hu => by
    have hv := hv.up e3
    obtain _ | _ | _ | _ | ⟨hs, hall⟩ | _ := hv
    rename_i l xs
    rw [hu.int_eq]
    refine ⟨_, rfl, l, xs, rfl, hs, fun p hp => q _ _ ((e2.trans e3).trans (Ex.new hp)) (.lst (Evl.sq_of upd_same) ?_)⟩
    have e : cutV xs none (some (k : Int)) = xs.take k := by
      unfold cutV
      rw [show HT.sIx xs.length 0 none = 0 from rfl, HT.sIx_nat, List.drop_zero, Nat.sub_zero]
      rcases Nat.le_total k xs.length with h | h
      · rw [Nat.min_eq_left h]
      · rw [Nat.min_eq_right h, List.take_length, List.take_of_length_le h]
    rw [e]
    exact (dpTake k hall).up (Ex.new hp)
def wTB (X : Cx) (scope : Scope) (e : Expr) : TT := fun σ H Q => ∀ (s : Shared) (H1 : Hp) (C : Addr) (cl : List (Str × Addr)) (fp : List Addr), wT (X.blk s H1 scope (compEnvC scope cl C X.env) fp) e σ H Q
theorem pwtb {X : Cx} {scope : Scope} {e : Expr} (s : Shared) (H1 : Hp) (C : Addr) (cl : List (Str × Addr)) (fp : List Addr) : PT (X.blk s H1 scope (compEnvC scope cl C X.env) fp) e (wTB X scope e) := ⟨fun pins s' σ H Q I h => h s H1 C cl fp pins s' I⟩
theorem made_len (grp : List Mt) (gen : Option Mt) : (madeO grp gen).length ≤ 19 * grp.length := by
  cases gen with
  | none => show grp.length ≤ _; omega
  | some G =>
    have key : ∀ l : List Mt, (l.flatMap fun m => WM.turns G 9 m m).length = 18 * l.length := by
      intro l
      induction l with
      | nil => rfl
      | cons x l ih =>
        rw [List.flatMap_cons, List.length_append, ih, ← WM.pre_nine, WM.pre_len]
        simp only [List.length_cons]; omega
    show (grp ++ grp.flatMap fun m => WM.turns G 9 m m).length ≤ _
    rw [List.length_append, key]; omega
theorem nd_take {ms : List Mt} (h : ms.Nodup) {i : Nat} (hi : i < ms.length) : ms[i] ∉ ms.take i := fun hm => by
  obtain ⟨j, hj, e⟩ := List.mem_iff_getElem.mp hm
  rw [List.length_take] at hj
  rw [List.getElem_take] at e
  exact List.pairwise_iff_getElem.mp h j i (by omega) hi (by omega) e
theorem CT.to {X : Cx} {σ : L2.St} {H : Hp} {e : Expr} {p q : Bool} (h : CT X e σ H p) (hq : p = q) : CT X e σ H q := hq ▸ h
theorem fl_zero : SgPre (.fl, WM.zero) := ⟨⟨by decide, by decide, by decide⟩, .inl rfl⟩
theorem sc_law : FnScope ["_law_script", "_law_state_here", "_law_name", "_law_g", "_law_form_here", "_law_group", "_law_generator", "_law_made_here", "_law_m", "_law_low", "_law_many", "_law_other", "_law_part", "_law_k"] ["_law_script"] (defScope sLaw) := ⟨rfl, rfl, rfl, by decide +kernel, rfl, by decide +kernel, by decide +kernel⟩
def spLawX (K : PySem.W.Frag) : Sp := fun vs H Q _ => ∃ (a : Addr) (ns : List Int), vs = [.ref a] ∧ SqL K H a (ns.map V.int) ∧ ns.length ≤ 63 ∧ ∀ H', Q (.bl true) H'
theorem allI {K : PySem.W.Frag} {H : Hp} (zs : List Int) : DpAll K H (zs.map V.int) (zs.map .int) := by
  induction zs with
  | nil => exact .nil
  | cons z zs ih => exact .cons (.int z) ih
/-- the law from its form on -/
theorem law_rest {f : Addr} {cdv : Value} {A : Around} {outer : List Env} {s : Shared} {H0 : Hp} {E : XK} {Q : VK} (T : Tx K mg) (hr : Room 15 (A.deeper (envOfC "law" (defScope sLaw) s.heap.objs.size f cdv))) {i n : Nat} {F : Fm} {g : Int} {va v vf : V} {H : Hp} (hi : i < 4) (hF : Fix i F) (hd : Dp K H vf (fD F)) (hS : Sta K n v H) (hn : n ≤ 1000) (k : ∀ H', Q (.bl true) H') :
    WS (cxOf CX0 P w K mg base ["_law_script", "_law_state_here", "_law_name", "_law_g", "_law_form_here", "_law_group", "_law_generator", "_law_made_here", "_law_m", "_law_low", "_law_many", "_law_other", "_law_part", "_law_k"] "law" (defScope sLaw) f cdv A outer s H0 E).nox ((defBody sLaw).drop 4) { nx := fun _ H' => Q .non H', rt := Q } [some va, some v, some (.str (nmS i)), some (.int g), some vf, none, none, none, none, none, none, none, none, none] H := by
  obtain ⟨kd, hG, hN, hL⟩ := hF.kd
  have fb := hF.fb
  have nz := hF.nz
  have nd := sc_law.nd
  refine r_if0 (t_notNone (CR.imp (c_sg (.fl, WM.zero) T hr (ca_cons (c_tup (ca_cons c_int (ca_cons c_int (ca_cons c_int ca_nil)))) ca_nil) fl_zero) fun v H1 _ hv => ?_)) (fun n => absurd n (by decide)) fun _ => ?_
  · rcases hv with ⟨_, h⟩ | ⟨h, _⟩
    · exact h
    · exact absurd rfl h
  refine ws_of (ps_expr (pe_bm PySem.F.plainAttrs_list PySem.F.slot_list_append PySem.F.type_list_append mt_append (pe_ix ix_tup pw pe_int (fun _ _ => rfl)) (pa_cons pw pa_nil rfl)) rfl) fun H1 e1 => ?_
  refine (c_sg (kd, F) T hr ((ca_cons (c_var 4 rfl (by assumption)) ca_nil) : CDA _ _ _ H [fD F]) hG) H1 e1 _ fun v1 H2 e2 hv => ?_
  rcases hv with ⟨h, _⟩ | ⟨_, grp, gen, ⟨t, p, gg, rfl, q2, q3, q4⟩, hsg0⟩
  · exact absurd h nz
  obtain ⟨vs0, q5, q6⟩ := q3.at_
  have l0 := (hL grp gen hsg0).md.l
  have l1 := q6.len
  rw [List.length_map] at l1
  dsimp only at l0
  refine ⟨t, _, 0, _, rfl, rfl, q2, rfl, .inl ⟨rfl, vs0, Evl.sq_of q5⟩, ?_⟩
  refine ((c_tup (ca_cons c_int (ca_cons c_int (ca_cons c_int (ca_cons c_int ca_nil))))) : CD _ _ _ H2 (mD ⟨0, 0, 0, 0⟩)) H2 (Ex.refl H2) _ fun v3 H3 e3 h3 => ?_
  refine ⟨p, vs0, v3, rfl, rfl, e3 _ _ q5, Evl.sz_lt (by omega), ?_⟩
  have ex4 : Ex H (upd H3 p (.lst (vs0 ++ [v3]))) := Ex.mut (q3.ex.trans e3) q3.fr
  generalize upd H3 p (.lst (vs0 ++ [v3])) = H4 at *
  have hd := hd.up ex4
  have hS := hS.up ex4
  show wS _ _ _ _ H4
  refine (?_ : WS _ _ _ _ H4) _ (Ex.refl _)
  clear q4 q6 q5 q3 q2 h3 e3 e2 e1 l0 l1 hsg0
  refine ws_of (ps_asg pw (pg_tup rfl (pgs_cons (pg_name (i := 5) nd rfl (by first | exact Or.inl rfl | exact Or.inr rfl)) (pgs_cons (pg_name (i := 6) nd rfl (by first | exact Or.inl rfl | exact Or.inr rfl)) pgs_nil)))) fun H5 e5 => ?_
  refine (c_sg (kd, F) T hr ((ca_cons (c_var 4 rfl (by assumption)) ca_nil) : CDA _ _ _ H4 [fD F]) hG) H5 e5 _ fun v1 H6 e6 hv => ?_
  rcases hv with ⟨h, _⟩ | ⟨_, grp, gen, ⟨t, p, gg, rfl, q2, q3, q4⟩, hsg⟩
  · exact absurd h nz
  have lf := hL grp gen hsg
  refine ⟨t, _, rfl, q2, rfl, _, _, rfl, _, _, rfl, rfl, ?_⟩
  show wS _ _ _ [some va, some v, some (.str (nmS i)), some (.int g), some vf, some (.ref p), some gg, none, none, none, none, none, none, none] H6
  refine (?_ : WS _ _ _ [some va, some v, some (.str (nmS i)), some (.int g), some vf, some (.ref p), some gg, none, none, none, none, none, none, none] H6) _ (Ex.refl _)
  have hd := hd.up q3.ex
  have hS := hS.up q3.ex
  have hgrp : Dp K H6 (.ref p) (msD grp) := q3.is.dp
  refine r_if0 (p := false) ?_ (fun n => absurd n (by decide)) fun _ => ?_
  · refine ct_w (t_or (p := false) (q := false) ?_ fun _ => t_or (p := false) (q := false) ?_ fun _ => t_or1 (p := false) ?_)
    · refine CT.to (t_not (t_val (c_isi (n := "tuple") (c_sg (kd, F) T hr (ca_cons (c_var 4 rfl (by assumption)) ca_nil) hG) (fun v H7 hv => ?_) rfl T.bIsinstance T.bTuple (by decide +kernel)))) rfl
      rcases hv with ⟨h, _⟩ | ⟨_, grp, gen, hp, _⟩
      · exact absurd h nz
      · exact pair_ty hp
    · refine CT.to (t_not (t_val (c_isi (n := "list") (P := fun v H7 => v = .ref p ∧ Ex H6 H7) (c_varE 5 rfl) (fun v H7 hv => ?_) rfl T.bIsinstance T.bList (by decide +kernel)))) rfl
      obtain ⟨rfl, e7⟩ := hv
      exact own_ty (q3.up e7)
    · refine CT.to (ct_w (t_and (p := !decide (nmS i = "definite")) (q := false) ?_ fun hb => t_and1 (p := false) ?_)) (Bool.and_false _)
      · exact (t_neS (c_var 2 rfl (.str _)) c_str)
      · have i0 : i ≠ 0 := fun e => by
          subst e
          rw [show nmS 0 = "definite" from rfl, decide_eq_true rfl] at hb; cases hb
        have e2 := lf.two i0
        rw [e2] at hgrp
        refine CT.to (t_neD (hu64 hr) (c_sort2 (hu64 hr) (c_var 5 rfl (by assumption)) T.bSorted) (c_lst (ca_cons (c_tup (ca_cons (c_neg c_int) (ca_cons c_int (ca_cons c_int (ca_cons (c_neg c_int) ca_nil))))) (ca_cons (c_tup (ca_cons c_int (ca_cons c_int (ca_cons c_int (ca_cons c_int ca_nil))))) ca_nil))) (shaped_ms _) rfl) rfl
  have hgen : Dp K H6 gg (gD gen) := q4
  refine r_asg 7 nd (c_callF (grp, gen) (ok_law_made T) (hr.mono (by decide)) (ca_cons (c_var 5 rfl (by assumption)) (ca_cons (c_var 6 rfl (by assumption)) ca_nil)) lf.md) fun vm H7 e7 hmade => ?_
  have hmade : Dp K H7 vm (msD (madeO grp gen)) := hmade
  have hd := hd.up e7
  have hS := hS.up e7
  have hgrp := hgrp.up e7
  have hgen := hgen.up e7
  refine r_if0 (p := false) ?_ (fun n => absurd n (by decide)) fun _ => ?_
  · refine CT.to (t_neB (v_isN (g := gen) (c_var 6 rfl (by assumption))) (v_in (hu65 hr) (c_var 2 rfl (.str _)) (c_lst (ca_cons c_str (ca_cons c_str ca_nil))) (shaped_nm hi) shaped_ds)) ?_
    rw [any_nm hi, decide_eq_true (decide_eq_decide.mpr lf.gn)]; rfl
  refine r_if0 (p := false) ?_ (fun n => absurd n (by decide)) fun _ => ?_
  · refine ct_w (t_or (p := false) (q := false) ?_ fun _ => t_or1 (p := false) ?_)
    · refine CT.to (ct_w (t_and (p := decide (nmS i = "indefinite")) (q := false) ?_ fun hb => t_and1 (p := false) ?_)) (Bool.and_false _)
      · exact (t_eqS (c_var 2 rfl (.str _)) c_str)
      · have hb : nmS i = "indefinite" := of_decide_eq_true hb
        have i1 : i = 1 := by
          match i, hi with
          | 0, _ => exact absurd hb.symm ne_id
          | 1, _ => rfl
          | 2, _ => exact absurd hb ne_si
          | 3, _ => exact absurd hb ne_fi
        have sc := hF.sc i1
        rw [lf.g1 i1] at hgen
        refine CT.to (t_neD (d := mD (genM F)) (d' := mD (genM F)) (hu64 hr) (c_var 6 rfl (by assumption)) (cc_self_change T hr (ca_cons (c_var 4 rfl (by assumption)) ca_nil)) rfl rfl) ?_
        rw [eqv_m, decide_eq_true rfl]; rfl
    · refine CT.to (ct_w (t_and (p := decide (nmS i = "flat")) (q := false) ?_ fun hb => t_and1 (p := false) ?_)) (Bool.and_false _)
      · exact (t_eqS (c_var 2 rfl (.str _)) c_str)
      · have hb : nmS i = "flat" := of_decide_eq_true hb
        have i3 : 3 ≤ i := by
          rcases Nat.lt_or_ge i 3 with q | q
          · exact absurd hb (nm_ne3 q)
          · exact q
        obtain ⟨G, a, b, eF, hsh, eg⟩ := lf.g3 i3
        rw [eg] at hgen
        rw [eF] at hd
        refine CT.to (t_neD (d := mD (WM.shear a b)) (d' := mD (WM.shear a b)) (hu64 hr) (c_var 6 rfl (by assumption)) (c_callF (G, a, b) (ok_law_shear T) (hr.mono (by decide)) (ca_cons (c_var 4 rfl (by assumption)) ca_nil) hsh) rfl rfl) ?_
        rw [eqv_m, decide_eq_true rfl]; rfl
  generalize hms : madeO grp gen = ms at *
  have f30 := fb.le (show 29 ≤ 30 by decide)
  refine r_forLD (α := Unit) (post := fun _ => True) (ds := fun _ => ms.map mD) 8 nox_own rfl nd (CR.imp (c_var 7 rfl (by assumption)) fun v H2 _ hv => ⟨(), trivial, hv⟩) fun _ xs H8 _ e8 hall => ?_
  refine ⟨fun j σ' => ∃ q8, σ' = [some va, some v, some (.str (nmS i)), some (.int g), some vf, some (.ref p), some gg, some vm, q8, none, none, none, none, none], ⟨none, rfl⟩, fun j u σ' H9 hj e9 hP => ?_, fun σ' H9 e9 hP => ?_⟩
  · obtain ⟨q8, rfl⟩ := hP
    have hlen := hall.len
    rw [List.length_map] at hlen
    have hj2 : j < ms.length := by have := (List.getElem?_eq_some_iff.mp hj).1; omega
    obtain ⟨u', k1, k2⟩ := hall.get (i := j) (d := mD ms[j]) (by rw [List.getElem?_map, List.getElem?_eq_getElem hj2]; rfl)
    rw [hj] at k1; cases k1
    have hm := k2.up e9
    have hd := (hd.up e8).up e9
    have hok := lf.ok ms[j] (by rw [hms]; exact List.getElem_mem hj2)
    have hmb := lf.mb ms[j] (by rw [hms]; exact List.getElem_mem hj2)
    generalize ms[j] = m at *
    have i1 : Bt 2200 m.p := ⟨hmb.p⟩
    have i2 : Bt 2200 m.q := ⟨hmb.q⟩
    have i3 : Bt 2200 m.r := ⟨hmb.r⟩
    have i4 : Bt 2200 m.s := ⟨hmb.s⟩
    have mb16 := hmb.le (show 2200 ≤ 160000 by decide)
    refine r_if0 (p := false) ?_ (fun n => absurd n (by decide)) fun _ => r_nil fun H10 e10 => ⟨⟨_, rfl⟩, e9.trans e10⟩
    refine ct_w (t_or (p := false) (q := false) ?_ fun _ => t_or1 (p := false) ?_)
    · refine CT.to (t_neI (c_sub (c_mul (c_ixT 0 (c_var 8 rfl (by assumption)) c_int rfl rfl (fun _ _ => rfl)) (c_ixT 3 (c_var 8 rfl (by assumption)) c_int rfl rfl (fun _ _ => rfl)) (by exact cmw)) (c_mul (c_ixT 1 (c_var 8 rfl (by assumption)) c_int rfl rfl (fun _ _ => rfl)) (c_ixT 2 (c_var 8 rfl (by assumption)) c_int rfl rfl (fun _ _ => rfl)) (by exact cmw))) c_int) ?_
      have := hok.1
      unfold WM.det at this
      rw [decide_eq_true this]; rfl
    · refine CT.to (t_neD (d := fD (WM.act F m)) (d' := fD F) (hu64 hr) (cc_law_act T hr (ca_cons (c_var 4 rfl (by assumption)) (ca_cons (c_var 8 rfl (by assumption)) ca_nil))) (c_var 4 rfl (by assumption)) rfl rfl) ?_
      rw [hok.2, eqv_f, decide_eq_true rfl]; rfl
  obtain ⟨q8, rfl⟩ := hP
  have ex9 := e8.trans e9
  have hd := hd.up ex9
  have hS := hS.up ex9
  have hgrp := hgrp.up ex9
  have hgen := hgen.up ex9
  have hmade := hmade.up ex9
  clear hall
  refine r_forLD (α := List Mt) (post := SmsPost F) (ds := fun zs => zs.map mD) 8 nox_own rfl nd (CR.imp (c_callRel F (ok_law_small T) (hr.mono (by decide)) (ca_cons (c_var 4 rfl (by assumption)) ca_nil) f30) fun v H2 _ hv => hv) fun zs xs H10 hz e10 hall => ?_
  refine ⟨fun j σ' => ∃ q8, σ' = [some va, some v, some (.str (nmS i)), some (.int g), some vf, some (.ref p), some gg, some vm, q8, none, none, none, none, none], ⟨_, rfl⟩, fun j u σ' H11 hj e11 hP => ?_, fun σ' H11 e11 hP => ?_⟩
  · obtain ⟨q8, rfl⟩ := hP
    have hlen := hall.len
    rw [List.length_map] at hlen
    have hj2 : j < zs.length := by have := (List.getElem?_eq_some_iff.mp hj).1; omega
    obtain ⟨u', k1, k2⟩ := hall.get (i := j) (d := mD zs[j]) (by rw [List.getElem?_map, List.getElem?_eq_getElem hj2]; rfl)
    rw [hj] at k1; cases k1
    have hm := k2.up e11
    have hmade := (hmade.up e10).up e11
    have hin := lf.sm zs[j] (hz.x _ (List.getElem_mem hj2))
    rw [hms] at hin
    refine r_if0 (p := false) ?_ (fun n => absurd n (by decide)) fun _ => r_nil fun H12 e12 => ⟨⟨_, rfl⟩, e11.trans e12⟩
    refine CT.to (t_inN (d := mD zs[j]) (ds := ms.map mD) (hu65 hr) (c_var 8 rfl (by assumption)) (c_var 7 rfl (by assumption)) rfl (shaped_ms ms)) ?_
    rw [any_ms, decide_eq_true hin]; rfl
  obtain ⟨q8', rfl⟩ := hP
  have ex11 := e10.trans e11
  have hd := hd.up ex11
  have hS := hS.up ex11
  have hgrp := hgrp.up ex11
  have hgen := hgen.up ex11
  have hmade := hmade.up ex11
  clear hall
  have i1 : Bt 29 F.a := ⟨fb.a⟩
  have i2 : Bt 29 F.b := ⟨fb.b⟩
  have i3 : Bt 29 F.c := ⟨fb.c⟩
  have b1 := f30.a
  have b2 := f30.b
  have b3 := f30.c
  have b4 := gcd_bd b1 b2
  refine r_asgI 9 (n := WM.disc F) nd (c_sub (c_mul (c_ixT 1 (c_var 4 rfl (by assumption)) c_int rfl rfl (fun _ _ => rfl)) (c_ixT 1 (c_var 4 rfl (by assumption)) c_int rfl rfl (fun _ _ => rfl)) (by exact cmw)) (c_mul (c_mul c_int (c_ixT 0 (c_var 4 rfl (by assumption)) c_int rfl rfl (fun _ _ => rfl)) (by exact cmw)) (c_ixT 2 (c_var 4 rfl (by assumption)) c_int rfl rfl (fun _ _ => rfl)) (by exact cmw))) ?_
  refine r_asgI 3 (n := WM.cont F) nd (CD.to (cc_law_measure T hr (ca_cons (cc_law_measure T hr (ca_cons (c_ixT 0 (c_var 4 rfl (by assumption)) c_int rfl rfl (fun _ _ => rfl)) (ca_cons (c_ixT 1 (c_var 4 rfl (by assumption)) c_int rfl rfl (fun _ _ => rfl)) ca_nil))) (ca_cons (c_ixT 2 (c_var 4 rfl (by assumption)) c_int rfl rfl (fun _ _ => rfl)) ca_nil))) rfl) ?_
  refine r_asgI 10 nd c_int ?_
  have i4 : Bt 30 (WM.cont F) := ⟨gcd_bd b4 b3⟩
  generalize hvm8 : q8' = v8
  show WS _ _ _ [some va, some v, some (.str (nmS i)), some (.int (WM.cont F)), some vf, some (.ref p), some gg, some vm, v8, some (.int (WM.disc F)), some (.int 2), none, none, none] H11
  refine r_ifM (fun σ2 H2 => σ2 = [some va, some v, some (.str (nmS i)), some (.int (WM.cont F)), some vf, some (.ref p), some gg, some vm, v8, some (.int (WM.disc F)), some (.int (if WM.disc F = -4 * WM.cont F * WM.cont F then 4 else 2)), none, none, none] ∧ Ex H11 H2) (t_eqI (c_var 9 rfl (.int _)) (c_mul (c_mul (c_neg c_int) (c_var 3 rfl (.int _)) (by exact cmw)) (c_var 3 rfl (.int _)) (by exact cmw))) (fun hb => ?_) (fun hb => ?_) fun σ2 H12 hM => ?_
  · have hb := of_decide_eq_true hb
    rw [if_pos hb]
    exact r_asgI 10 nd c_int (r_nil fun H2 e2 => ⟨rfl, e2⟩)
  · have hb := of_decide_eq_false hb
    rw [if_neg hb]
    exact r_nil fun H2 e2 => ⟨rfl, e2⟩
  obtain ⟨rfl, e12⟩ := hM
  refine r_ifM (fun σ2 H2 => σ2 = [some va, some v, some (.str (nmS i)), some (.int (WM.cont F)), some vf, some (.ref p), some gg, some vm, v8, some (.int (WM.disc F)), some (.int (manyF F)), none, none, none] ∧ Ex H12 H2) (t_eqI (c_var 9 rfl (.int _)) (c_mul (c_mul (c_neg c_int) (c_var 3 rfl (.int _)) (by exact cmw)) (c_var 3 rfl (.int _)) (by exact cmw))) (fun hb => ?_) (fun hb => ?_) fun σ2 H13 hM => ?_
  · have hb := of_decide_eq_true hb
    unfold manyF
    rw [if_pos hb]
    exact r_asgI 10 nd c_int (r_nil fun H2 e2 => ⟨rfl, e2⟩)
  · have hb := of_decide_eq_false hb
    unfold manyF
    rw [if_neg hb]
    exact r_nil fun H2 e2 => ⟨rfl, e2⟩
  obtain ⟨rfl, e13⟩ := hM
  have ex13 := e12.trans e13
  have hd := hd.up ex13
  have hS := hS.up ex13
  have hgrp := hgrp.up ex13
  have hmade := hmade.up ex13
  have hnd := lf.nd
  rw [hms] at hnd
  refine r_if0 (p := false) ?_ (fun n => absurd n (by decide)) fun _ => ?_
  · refine ct_w (t_or (p := false) (q := false) ?_ fun _ => t_or1 (p := false) ?_)
    · refine CT.to (t_neI (c_lenL (c_var 5 rfl (by assumption)) T.bLen) (c_var 10 rfl (.int _))) ?_
      rw [List.length_map, decide_eq_true lf.len]; rfl
    · refine CT.to (t_neI (i := (ms.length : Int)) (j := (ms.length : Int)) (CD.to (c_lenL (c_var 7 rfl (by assumption)) T.bLen) (by rw [List.length_map])) (CD.to (c_lenL (ds := (List.range ms.length).map fun j : Nat => PyData.int (j : Int)) ?_ T.bLen) (by rw [List.length_map, List.length_range]))) ?_
      · refine of_pe (pe_lc (own := [("_law_k", 13)]) (g := gName 13) (tt := wTB _ _ _) rfl nd (pi_range1 rfl T.bRange (pa_cons pw pa_nil rfl) rfl) (blkOk_by (N := ["_law_script", "_law_state_here", "_law_name", "_law_g", "_law_form_here", "_law_group", "_law_generator", "_law_made_here", "_law_m", "_law_low", "_law_many", "_law_other", "_law_part", "_law_k"]) (sc := defScope sLaw) (by decide +kernel)) (fun _ _ _ _ _ => pg_name (i := 13) nd rfl (Or.inl rfl)) (fun _ _ _ _ _ => pts_one (pwtb _ _ _ _ _)) pwb) fun H14 e14 Q2 q2 => ?_
        refine ((c_lenL (c_var 7 rfl (by assumption)) T.bLen) : CD _ _ _ H13 (.int ((ms.map mD).length : Nat))) H14 e14 _ fun v15 H15 e15 hv15 => ?_
        have hmade := (hmade.up e14).up e15
        have ml := made_len grp gen
        rw [hms] at ml
        have gl := lf.md.l
        dsimp only at gl
        have el : (((ms.map mD).length : Nat) : Int) = (ms.length : Int) := by rw [List.length_map]
        rw [hv15.int_eq, el]
        refine ⟨_, rfl, by omega, by omega, fun Dl hD => ?_⟩
        refine lc_range (lo := 0) (n := ms.length) (fun j H' => Ex H15 H' ∧ H' Dl = some (.lst ((List.range j).map fun j : Nat => V.int (j : Int)))) ⟨Ex.new hD, upd_same⟩ (fun j H' hj hP => ?_) fun H' hP => ?_
        · obtain ⟨ex, hy⟩ := hP
          refine ⟨wipe_one _ _ _, ?_⟩
          have hmade := hmade.up ex
          have e0 : (0 : Int) + (j : Int) = (j : Int) := Int.zero_add _
          rw [e0]
          intro s0 H8 C cl fp
          refine (CT.to (q := true) (t_inN (d := mD ms[j]) (ds := (ms.map mD).take j) (hu65 hr) (c_ixL j (c_var 7 rfl hmade) (c_var 13 rfl (.int _)) ?_ rfl (fun _ _ => rfl)) (c_cut (c_var 7 rfl hmade) (c_var 13 rfl (.int _))) rfl ?_) ?_) H' (Ex.refl H') _ fun H16 e16 => ?_
          · rw [List.getElem?_map, List.getElem?_eq_getElem hj]; rfl
          · rw [← List.map_take]; exact shaped_ms _
          · rw [← List.map_take, any_ms, decide_eq_false (nd_take hnd hj)]; rfl
          · intro s1 H18 C1 cl1 fp1
            refine (c_var 13 rfl (.int (j : Int)) : CD _ _ _ H16 _) H16 (Ex.refl H16) _ fun u H17 e17 hu => ?_
            rw [hu.int_eq]
            have h9 := e17 _ _ (e16 _ _ hy)
            refine ⟨_, h9, Evl.sz_lt (by rw [List.length_map, List.length_range]; omega), Ex.mut (ex.trans (e16.trans e17)) hD, ?_⟩
            rw [List.range_succ, List.map_append]
            exact upd_same
        · obtain ⟨ex, hy⟩ := hP
          have key : ∀ (l : List Nat), DpAll K H' (l.map fun j : Nat => V.int (j : Int)) (l.map fun j : Nat => PyData.int (j : Int)) := by
            intro l
            induction l with
            | nil => exact .nil
            | cons x l ih => exact .cons (.int _) ih
          exact q2 _ _ (e15.trans ex) (.lst (Evl.sq_of hy) (key _))
      · rw [decide_eq_true rfl]; rfl
  have f30b := f30
  refine mr_asg 11 (P := fun u H15 => ∃ N, WM.Gen N ∧ WM.MN 27 N ∧ Dp K H15 u (fD (WM.act F N)) ∧ Dp K H15 vf (fD F)) nd (fun H14 e14 => ?_) fun vo H15 ho => ?_
  · refine cm_call (ok_law_act T) (hr.mono (by decide)) (wa_dm 4 rfl (cm_change (many := 3) T hr rfl (hS.up e14) c_int ⟨by omega, by omega⟩)) fun ws H15 hw Q2 q2 => ?_
    obtain ⟨u, rfl, N, n1, n2, n3, n4, n5⟩ := hw
    have hd := dpt ((hS.up e14).et n5) _ _ rfl (hd.up e14)
    exact ⟨(F, N), .cons hd (.cons n3 .nil), ⟨f30, (mn_mb (k := 5) n2 (by decide)).le (by decide)⟩, fun v8 H8 e8 h8 => q2 _ _ ⟨N, n1, n2, h8, hd.up e8⟩⟩
  obtain ⟨N, n1, n2, hoth, hd⟩ := ho
  refine r_asg 8 nd (c_callRel (kd, F, N) (ok_proper_change T) (hr.mono (by decide)) (ca_cons (c_var 4 rfl (by assumption)) (ca_cons (c_var 11 rfl (by assumption)) ca_nil)) ⟨n1, hG.c, hN N n1 n2⟩) fun vr H16 e16 hv => ?_
  obtain ⟨m, ⟨m1, m2, m3⟩, hm⟩ := hv
  dsimp only at m1 m2 m3
  have hd := hd.up e16
  have hoth := hoth.up e16
  have j1 : Bt 156001 m.p := ⟨m3.p⟩
  have j2 : Bt 156001 m.q := ⟨m3.q⟩
  have j3 : Bt 156001 m.r := ⟨m3.r⟩
  have j4 : Bt 156001 m.s := ⟨m3.s⟩
  have mb16 := m3.le (show 156001 ≤ 160000 by decide)
  refine r_ret (P := fun u _ => u = .bl true) ?_ ?_
  · refine CR.bl (CD.to (v_and (p := true) (q := true) (v_notT (c_var 8 rfl (by assumption))) fun _ => v_and (p := true) (q := true) ?_ fun _ => v_one ?_) rfl)
    · refine CD.to (v_eqI (c_sub (c_mul (c_ixT 0 (c_var 8 rfl (by assumption)) c_int rfl rfl (fun _ _ => rfl)) (c_ixT 3 (c_var 8 rfl (by assumption)) c_int rfl rfl (fun _ _ => rfl)) (by exact cmw)) (c_mul (c_ixT 1 (c_var 8 rfl (by assumption)) c_int rfl rfl (fun _ _ => rfl)) (c_ixT 2 (c_var 8 rfl (by assumption)) c_int rfl rfl (fun _ _ => rfl)) (by exact cmw))) c_int) ?_
      unfold WM.det at m1
      rw [decide_eq_true m1]
    · refine CD.to (v_eqD (d := fD (WM.act F m)) (d' := fD (WM.act F N)) (hu64 hr) (cc_law_act T hr (ca_cons (c_var 4 rfl (by assumption)) (ca_cons (c_var 8 rfl (by assumption)) ca_nil))) (c_var 11 rfl (by assumption)) rfl rfl) ?_
      rw [m2, eqv_f, decide_eq_true rfl]
  · intro u H17 e17 hu
    rw [hu]
    exact k H17
theorem ok_law {f : Addr} {fd : FuncData} (T : Tx K mg) (F : FnP K "law" sLaw f fd) : FnOk P w K mg base CX0 16 f fd ["_law_script"] (spLawX K) := by
  refine body_of F sc_law (fun vs H Q E h => ?_) fun cdv A outer s H0 E vs H Q hr h => ?_
  · obtain ⟨a, ns, rfl, _⟩ := h; rfl
  obtain ⟨a, ns, rfl, hs, hl, k⟩ := h
  have nd := sc_law.nd
  have hsd : Dp K H (.ref a) (.list (ns.map .int)) := .lst hs (allI ns)
  refine r_asg 1 nd (c_callX ns (ok_law_state T) (hr.mono (by decide)) (ca_cons (c_var 0 rfl (by assumption)) ca_nil) trivial) fun v H1 e1 hv => ?_
  obtain ⟨_, _, hS⟩ := hv
  refine mr_asg 2 (P := fun u H3 => ∃ i, i < 4 ∧ u = .str (nmS i) ∧ Sta K 1 v H3) nd (fun H2 e2 => ?_) fun u H3 hu => ?_
  · refine (cm_ixLit (K := K) (n := 0) (vs := v) (ds := [.str "definite", .str "indefinite", .str "split", .str "flat"]) (R := fun _ H4 => Sta K 1 v H4) (hS.up e2) ?_ (by show 4 ≤ 1000; decide) rfl (fun H5 e5 => ?_) (fun _ _ => rfl)).imp fun u H5 hu => ?_
    · exact (ca_cons c_str (ca_cons c_str (ca_cons c_str (ca_cons c_str ca_nil))))
    · exact cm_idx (m := 4) rfl (cm_next 1 T hr rfl ((hS.up e2).up e5) c_int ⟨by omega, by omega, by omega⟩)
    · obtain ⟨r, hr5, hd5, mu5, hS5⟩ := hu
      match r, hr5, hd5 with
      | 0, _, hd5 => exact ⟨0, by decide, hd5.str_eq, hS5⟩
      | 1, _, hd5 => exact ⟨1, by decide, hd5.str_eq, hS5⟩
      | 2, _, hd5 => exact ⟨2, by decide, hd5.str_eq, hS5⟩
      | 3, _, hd5 => exact ⟨3, by decide, hd5.str_eq, hS5⟩
      | r + 4, h, _ => exact absurd h (by show ¬ r + 4 < 4; omega)
  obtain ⟨i, hi, rfl, hS⟩ := hu
  refine mr_asg 3 (P := fun u H4 => ∃ g : Int, u = .int g ∧ 1 ≤ g ∧ g ≤ 3 ∧ Sta K 2 v H4) nd (fun H2 e2 => (cm_addc (cm_next 1 T hr rfl (hS.up e2) c_int ⟨by omega, by omega, by omega⟩)).imp fun u H4 hu => ?_) fun u H4 hu => ?_
  · obtain ⟨r, rfl, r0, r3, hS4, _⟩ := hu
    exact ⟨_, rfl, by omega, by omega, hS4⟩
  obtain ⟨g, rfl, g1, g3, hS⟩ := hu
  refine mr_asg 4 (P := fun u H5 => ∃ F, Fix i F ∧ Dp K H5 u (fD F) ∧ Sta K 200 v H5) nd (fun H2 e2 => ?_) fun u H5 hu => ?_
  · refine of_peM (pe_callTy call_tuple_of rfl T.bTuple (by decide +kernel) (pa_cons (pe_lc (own := [("_law_part", 12)]) (g := gName 12) (tt := tYes) rfl nd (pi_tup pw) (blkOk_by (N := ["_law_script", "_law_state_here", "_law_name", "_law_g", "_law_form_here", "_law_group", "_law_generator", "_law_made_here", "_law_m", "_law_low", "_law_many", "_law_other", "_law_part", "_law_k"]) (sc := defScope sLaw) (by decide +kernel)) (fun _ _ _ _ _ => pg_name (i := 12) nd rfl (Or.inl rfl)) (fun _ _ _ _ _ => pts_nil) pwb) pa_nil rfl) (by decide) (by decide) rfl rfl) fun Q' q => ?_
    refine (cm_call (P := fun u H3 => ∃ f M, FoOk i f ∧ WM.Gen M ∧ WM.MN 9 M ∧ Dp K H3 u (fD (WM.act f M)) ∧ Sta K 200 v H3) (ok_law_act T) (hr.mono (by decide)) (wa_two (cm_form T hr rfl (hS.up e2) (c_var 2 rfl (.str _)) ⟨by omega, hi⟩) fun uf H3 hf => (?_ : CM _ _ _ H3 fun um H6 => ∃ f M, FoOk i f ∧ WM.Gen M ∧ WM.MN 9 M ∧ Dp K H6 uf (fD f) ∧ Dp K H6 um (mD M) ∧ Sta K 200 v H6)) fun ws H6 hw Q2 q2 => ?_) _ fun uF H7 hF => ?_
    · obtain ⟨ff, hfo, hfd, hS3, _⟩ := hf
      refine (cm_change (many := 2) T hr rfl hS3 c_int ⟨by omega, by omega⟩).imp fun um H6 hm => ?_
      obtain ⟨M, m1, m2, m3, m4, m5⟩ := hm
      exact ⟨ff, M, hfo, m1, m2, dpt (hS3.et m5) _ _ rfl hfd, m3, m4.le (by omega)⟩
    · obtain ⟨x1, x2, rfl, ff, M, hfo, m1, m2, m3, m4, m5⟩ := hw
      exact ⟨(ff, M), .cons m3 (.cons m4 .nil), ⟨nf_fb hfo.n (by decide), (mn_mb (k := 4) m2 (by decide)).le (by decide)⟩, fun v8 H8 e8 h8 => q2 _ _ ⟨ff, M, hfo, m1, m2, h8, m5.up e8⟩⟩
    · obtain ⟨ff, M, hfo, m1, m2, m3, m5⟩ := hF
      have fb : FB 30 (WM.act ff M) := by
        have := (WM.nf_act (f := ff) m2).2
        have hn := hfo.n
        have e : (9 : Nat) * 9 = 81 := rfl
        exact nf_fb (B := 34992) (by omega) (by decide)
      obtain ⟨fa, fbb, fc⟩ := fb
      have fixF := fix_of hi hfo m1 m2 ⟨g1, g3⟩
      have efF : fD (WM.scal (WM.act ff M) g) = .tuple [.int ((WM.act ff M).a * g), .int ((WM.act ff M).b * g), .int ((WM.act ff M).c * g)] := rfl
      generalize WM.scal (WM.act ff M) g = FF at *
      generalize WM.act ff M = F0 at *
      obtain _ | _ | _ | _ | _ | ⟨hst, hall⟩ := m3
      obtain _ | ⟨k1, _ | ⟨k2, _ | ⟨k3, _ | _⟩⟩⟩ := hall
      cases k1; cases k2; cases k3
      rename_i pt
      refine ⟨pt, rfl, ⟨_, hst⟩, fun Dl hD => ?_⟩
      refine lc_tup (xs := [F0.a, F0.b, F0.c].map V.int) (fun j H' => Ex H7 H' ∧ H' Dl = some (.lst ((([F0.a, F0.b, F0.c].take j).map fun z => g * z).map V.int))) ⟨Ex.new hD, upd_same⟩ (fun j H' _ hP => Evl.ex_t hP.1 hst) (fun j x H' hj hP => ?_) fun H' hP => ?_
      · obtain ⟨ex, hy⟩ := hP
        refine ⟨wipe_one _ _ _, ?_⟩
        intro s0 H8 C cl fp
        have hj3 : j < 3 := (List.getElem?_eq_some_iff.mp hj).1
        have hx : ∃ z, x = .int z ∧ [F0.a, F0.b, F0.c][j]? = some z ∧ z.natAbs < 2 ^ 30 := by
          match j, hj3, hj with
          | 0, _, hj => exact ⟨F0.a, (Option.some.inj hj).symm, rfl, fa⟩
          | 1, _, hj => exact ⟨F0.b, (Option.some.inj hj).symm, rfl, fbb⟩
          | 2, _, hj => exact ⟨F0.c, (Option.some.inj hj).symm, rfl, fc⟩
          | j + 3, h, _ => omega
        obtain ⟨z, rfl, hz, zb⟩ := hx
        have i1 : Bt 3 g := ⟨by omega⟩
        have i2 : Bt 30 z := ⟨zb⟩
        refine (c_mul (c_var 3 rfl (.int g)) (c_var 12 rfl (.int z)) (by exact cmw)) H' (Ex.refl H') _ fun u H9 e9 hu => ?_
        rw [hu.int_eq]
        have h9 := e9 _ _ hy
        refine ⟨_, h9, Evl.sz_lt (by rw [List.length_map, List.length_map, List.length_take]; omega), Ex.mut (ex.trans e9) hD, ?_⟩
        rw [List.take_add_one, hz, List.map_append, List.map_append]
        exact upd_same
      · obtain ⟨ex, hy⟩ := hP
        have hy : H' Dl = some (.lst [.int (g * F0.a), .int (g * F0.b), .int (g * F0.c)]) := hy
        refine ⟨_, _, rfl, .inl ⟨Evl.sq_of hy, fun l hl => q _ _ ⟨FF, fixF, ?_, (m5.up ex).up (Ex.new hl)⟩⟩⟩
        rw [efF, Int.mul_comm F0.a, Int.mul_comm F0.b, Int.mul_comm F0.c]
        exact .tup (Evl.st_of upd_same) (.cons (.int _) (.cons (.int _) (.cons (.int _) .nil)))
  · obtain ⟨F, hF, hd, hS⟩ := hu
    exact law_rest T hr hi hF hd hS (by decide) k
end
end WC
theorem PySem.Challenge.cw_wholeconic_k16_whole_self_changes_holds : PySem.Challenge.rw_wholeconic_k16_whole_self_changes.Holds := by
  exact WH.holds_of fun T F => WC.ok_law T F
