import PyProof.Rows.All
import Wide.All
import OpenK.AllK
import Wide.FinOn
import KE.KStateDown
import Lean
import HandS.ForMost
import HandS.Exc
import HandS.ExcInit
import HandS.ExcField
import HandS.ExcIs
import HandS.Property
import HandS.Defaults
import HandS.Head0
import HandS.Head1
import HandS.Head2
import HandS.HeadEnd
import HandS.HeadHook1
import HandS.HeadHook2
import HandS.HeadNt
import KE.KIsAll
import KE.KTryMore
import HandS.ExcOwn
import HandS.TryMany
import HandS.ExcCtx
import HandS.Hot
import HandS.HotCalls
import HandS.SuiteRaise
import HandS.IsInst
import HandS.Style
import HandS.Wide
import KE.BitLaws
import HandS.Text
import HandS.WordsExc
import HandS.CallSlots
import HandS.ExcInitHot
import PySem.Challenge.RW_noisebound_k37_whole_fast_products
set_option Elab.async false
set_option linter.all false
set_option maxRecDepth 100000
set_option maxHeartbeats 4000000
/-! Noisebound k37: the mathematics, in plain Lean (no program in sight). -/
namespace Kx
/-! ### congruences -/
def Cg (q a b : Int) : Prop := ∃ k, a = b + q * k
theorem Cg.refl (q a : Int) : Cg q a a := ⟨0, by grind⟩
theorem Cg.of_eq {q a b : Int} (h : a = b) : Cg q a b := ⟨0, by grind⟩
theorem Cg.symm {q a b : Int} : Cg q a b → Cg q b a := fun ⟨k, h⟩ => ⟨-k, by grind⟩
theorem Cg.trans {q a b c : Int} : Cg q a b → Cg q b c → Cg q a c := fun ⟨k, h⟩ ⟨l, h'⟩ => ⟨k + l, by grind⟩
theorem Cg.add {q a b c d : Int} : Cg q a b → Cg q c d → Cg q (a + c) (b + d) := fun ⟨k, h⟩ ⟨l, h'⟩ => ⟨k + l, by grind⟩
theorem Cg.sub {q a b c d : Int} : Cg q a b → Cg q c d → Cg q (a - c) (b - d) := fun ⟨k, h⟩ ⟨l, h'⟩ => ⟨k - l, by grind⟩
theorem Cg.neg {q a b : Int} : Cg q a b → Cg q (-a) (-b) := fun ⟨k, h⟩ => ⟨-k, by grind⟩
theorem Cg.mul {q a b c d : Int} : Cg q a b → Cg q c d → Cg q (a * c) (b * d) := fun ⟨k, h⟩ ⟨l, h'⟩ => ⟨b * l + k * d + q * k * l, by grind⟩
theorem Cg.mod (q a : Int) : Cg q (a % q) a := ⟨-(a / q), by have := Int.emod_add_mul_ediv a q; grind⟩
theorem Cg.eq_mod {q a b : Int} (h : Cg q a b) : a % q = b % q := by
  obtain ⟨k, rfl⟩ := h
  exact Int.add_mul_emod_self_left b q k
theorem Cg.of_mod {q a b : Int} (h : a % q = b % q) : Cg q a b := (Cg.mod q a).symm.trans ((Cg.of_eq h).trans (Cg.mod q b))
theorem Cg.pow {q a b : Int} (h : Cg q a b) : ∀ k : Nat, Cg q (a ^ k) (b ^ k)
  | 0 => Cg.of_eq (by rw [Int.pow_zero, Int.pow_zero])
  | k + 1 => by
    rw [Int.pow_succ, Int.pow_succ]
    exact (Cg.pow h k).mul h
theorem Cg.eq_of {q a b : Int} (h : Cg q a b) (h0 : 0 ≤ b) (h1 : b < q) : a % q = b := by
  rw [h.eq_mod]
  exact Int.emod_eq_of_lt h0 h1
theorem res_eq {q a : Int} (h0 : 0 ≤ a) (h1 : a < q) : a % q = a := Int.emod_eq_of_lt h0 h1
/-! ### pairs modulo X^2 - g -/
def CgP (q : Int) (x y : Int × Int) : Prop := Cg q x.1 y.1 ∧ Cg q x.2 y.2
theorem CgP.refl (q : Int) (x : Int × Int) : CgP q x x := ⟨.refl _ _, .refl _ _⟩
theorem CgP.of_eq {q : Int} {x y : Int × Int} (h : x = y) : CgP q x y := h ▸ .refl _ _
theorem CgP.symm {q : Int} {x y : Int × Int} (h : CgP q x y) : CgP q y x := ⟨h.1.symm, h.2.symm⟩
theorem CgP.trans {q : Int} {x y z : Int × Int} (h : CgP q x y) (h' : CgP q y z) : CgP q x z := ⟨h.1.trans h'.1, h.2.trans h'.2⟩
def addp (x y : Int × Int) : Int × Int := (x.1 + y.1, x.2 + y.2)
def smul (c : Int) (x : Int × Int) : Int × Int := (c * x.1, c * x.2)
def mulp (g : Int) (x y : Int × Int) : Int × Int := (x.1 * y.1 + g * (x.2 * y.2), x.1 * y.2 + x.2 * y.1)
theorem CgP.addp {q : Int} {x y z w : Int × Int} (h : CgP q x y) (h' : CgP q z w) : CgP q (addp x z) (addp y w) := ⟨h.1.add h'.1, h.2.add h'.2⟩
theorem CgP.smul {q : Int} {c d : Int} {x y : Int × Int} (hc : Cg q c d) (h : CgP q x y) : CgP q (smul c x) (smul d y) := ⟨hc.mul h.1, hc.mul h.2⟩
theorem CgP.mulp {q g : Int} {x y z w : Int × Int} (h : CgP q x y) (h' : CgP q z w) : CgP q (mulp g x z) (mulp g y w) :=
  ⟨(h.1.mul h'.1).add ((Cg.refl q g).mul (h.2.mul h'.2)), (h.1.mul h'.2).add (h.2.mul h'.1)⟩
/-- X ^ k -/
def xp (g : Int) : Nat → Int × Int
  | 0 => (1, 0)
  | k + 1 => (g * (xp g k).2, (xp g k).1)
theorem xp_even (g : Int) : ∀ k : Nat, xp g (2 * k) = (g ^ k, 0)
  | 0 => by
    rw [Int.pow_zero]
    rfl
  | k + 1 => by
    show (g * (xp g (2 * k)).1, g * (xp g (2 * k)).2) = _
    rw [xp_even g k]
    simp only [Int.pow_succ, Prod.mk.injEq]
    grind
/-- the value of a_0 + a_1 X + .. + a_{n-1} X^{n-1} -/
def E (g : Int) : Nat → (Nat → Int) → Int × Int
  | 0, _ => (0, 0)
  | n + 1, a => (a 0 + g * (E g n fun i => a (i + 1)).2, (E g n fun i => a (i + 1)).1)
theorem E_congr {g : Int} : ∀ {n : Nat} {a b : Nat → Int}, (∀ i, i < n → a i = b i) → E g n a = E g n b
  | 0, _, _, _ => rfl
  | n + 1, a, b, h => by
    have e := E_congr (g := g) (n := n) (a := fun i => a (i + 1)) (b := fun i => b (i + 1)) fun i hi => h (i + 1) (by omega)
    show (a 0 + g * (E g n fun i => a (i + 1)).2, (E g n fun i => a (i + 1)).1) = (b 0 + g * (E g n fun i => b (i + 1)).2, (E g n fun i => b (i + 1)).1)
    rw [e, h 0 (by omega)]
theorem E_cg {g q : Int} : ∀ {n : Nat} {a b : Nat → Int}, (∀ i, i < n → Cg q (a i) (b i)) → CgP q (E g n a) (E g n b)
  | 0, _, _, _ => .refl _ _
  | n + 1, a, b, h => by
    have e := E_cg (g := g) (n := n) (a := fun i => a (i + 1)) (b := fun i => b (i + 1)) fun i hi => h (i + 1) (by omega)
    exact ⟨(h 0 (by omega)).add ((Cg.refl q g).mul e.2), e.1⟩
theorem E_add {g : Int} : ∀ {n : Nat} (a b : Nat → Int), E g n (fun i => a i + b i) = addp (E g n a) (E g n b)
  | 0, _, _ => rfl
  | n + 1, a, b => by
    have e := E_add (g := g) (n := n) (fun i => a (i + 1)) fun i => b (i + 1)
    show (a 0 + b 0 + g * (E g n fun i => a (i + 1) + b (i + 1)).2, (E g n fun i => a (i + 1) + b (i + 1)).1) = addp (a 0 + g * (E g n fun i => a (i + 1)).2, (E g n fun i => a (i + 1)).1) (b 0 + g * (E g n fun i => b (i + 1)).2, (E g n fun i => b (i + 1)).1)
    rw [e]
    simp only [addp, Prod.mk.injEq]
    grind
theorem E_smul {g : Int} (c : Int) : ∀ {n : Nat} (a : Nat → Int), E g n (fun i => c * a i) = smul c (E g n a)
  | 0, _ => by simp [E, smul]
  | n + 1, a => by
    have e := E_smul (g := g) c (n := n) fun i => a (i + 1)
    show (c * a 0 + g * (E g n fun i => c * a (i + 1)).2, (E g n fun i => c * a (i + 1)).1) = smul c (a 0 + g * (E g n fun i => a (i + 1)).2, (E g n fun i => a (i + 1)).1)
    rw [e]
    simp only [smul, Prod.mk.injEq]
    grind
theorem E_zero {g : Int} : ∀ {n : Nat}, E g n (fun _ => 0) = (0, 0)
  | 0 => rfl
  | n + 1 => by
    show (0 + g * (E g n fun _ => 0).2, (E g n fun _ => 0).1) = _
    rw [E_zero]
    simp
/-- m first ones, k behind them -/
theorem E_split {g : Int} (k : Nat) : ∀ (m : Nat) (a : Nat → Int), E g (m + k) a = addp (E g m a) (mulp g (xp g m) (E g k fun i => a (i + m)))
  | 0, a => by
    rw [Nat.zero_add]
    show E g k a = addp (0, 0) (mulp g (1, 0) (E g k fun i => a (i + 0)))
    have e : (fun i => a (i + 0)) = a := rfl
    rw [e]
    generalize E g k a = y
    obtain ⟨y1, y2⟩ := y
    simp only [addp, mulp, Prod.mk.injEq]
    grind
  | m + 1, a => by
    have e := E_split (g := g) k m fun i => a (i + 1)
    have e2 : (fun i => a (i + m + 1)) = fun i => a (i + (m + 1)) := by
      funext i
      rw [Nat.add_assoc]
    rw [show m + 1 + k = m + k + 1 by omega]
    show (a 0 + g * (E g (m + k) fun i => a (i + 1)).2, (E g (m + k) fun i => a (i + 1)).1) = addp (a 0 + g * (E g m fun i => a (i + 1)).2, (E g m fun i => a (i + 1)).1) (mulp g (g * (xp g m).2, (xp g m).1) (E g k fun i => a (i + (m + 1))))
    rw [e, e2]
    generalize (E g k fun i => a (i + (m + 1))) = y
    generalize xp g m = z
    generalize (E g m fun i => a (i + 1)) = w
    obtain ⟨y1, y2⟩ := y
    obtain ⟨z1, z2⟩ := z
    obtain ⟨w1, w2⟩ := w
    simp only [addp, mulp, Prod.mk.injEq]
    grind
theorem E_one {g : Int} (a : Nat → Int) : E g 1 a = (a 0, 0) := by
  show (a 0 + g * 0, 0) = _
  rw [Int.mul_zero, Int.add_zero]
theorem E_two {g : Int} (a : Nat → Int) : E g 2 a = (a 0, a 1) := by
  show (a 0 + g * 0, a 1 + g * 0) = _
  rw [Int.mul_zero, Int.add_zero, Int.add_zero]
theorem E_snoc {g : Int} (m : Nat) (a : Nat → Int) : E g (m + 1) a = addp (E g m a) (smul (a m) (xp g m)) := by
  rw [E_split 1 m a, E_one]
  show addp (E g m a) (mulp g (xp g m) (a (0 + m), 0)) = _
  rw [Nat.zero_add]
  generalize xp g m = z
  obtain ⟨z1, z2⟩ := z
  simp only [addp, mulp, smul, Prod.mk.injEq]
  grind
/-! ### the product with X^n = -1 -/
/-- the factor of f_i in item t -/
def sg (h : Nat → Int) (n t i : Nat) : Int := if i ≤ t then h (t - i) else -h (n + t - i)
/-- the sum of the first k -/
def sm (f : Nat → Int) : Nat → Int
  | 0 => 0
  | k + 1 => sm f k + f k
def conv (f h : Nat → Int) (n t : Nat) : Int := sm (fun i => f i * sg h n t i) n
theorem sm_congr {f h : Nat → Int} : ∀ {k : Nat}, (∀ i, i < k → f i = h i) → sm f k = sm h k
  | 0, _ => rfl
  | k + 1, e => by
    show sm f k + f k = sm h k + h k
    rw [sm_congr fun i hi => e i (by omega), e k (by omega)]
theorem sg_succ {h : Nat → Int} {m i : Nat} (hi : i < m + 1) : ∀ t, t < m + 1 → sg h (m + 1) t (i + 1) = if t = 0 then -sg h (m + 1) m i else sg h (m + 1) (t - 1) i := by
  intro t ht
  unfold sg
  by_cases h0 : t = 0
  · subst h0
    rw [if_neg (by omega), if_pos rfl, if_pos (by omega)]
    rw [show m + 1 + 0 - (i + 1) = m - i by omega]
  · rw [if_neg h0]
    by_cases h1 : i + 1 ≤ t
    · rw [if_pos h1, if_pos (by omega), show t - (i + 1) = t - 1 - i by omega]
    · rw [if_neg h1, if_neg (by omega), show m + 1 + t - (i + 1) = m + 1 + (t - 1) - i by omega]
theorem E_rot {g q : Int} {h : Nat → Int} {m : Nat} (hX : CgP q (xp g (m + 1)) (-1, 0)) {i : Nat} (hi : i < m + 1) :
    CgP q (E g (m + 1) fun t => sg h (m + 1) t (i + 1)) (g * (E g (m + 1) fun t => sg h (m + 1) t i).2, (E g (m + 1) fun t => sg h (m + 1) t i).1) := by
  have e : (E g (m + 1) fun t => sg h (m + 1) t (i + 1)) = (-sg h (m + 1) m i + g * (E g m fun t => sg h (m + 1) t i).2, (E g m fun t => sg h (m + 1) t i).1) := by
    have e1 : (E g m fun t => sg h (m + 1) (t + 1) (i + 1)) = E g m fun t => sg h (m + 1) t i := E_congr fun t ht => by
      rw [sg_succ hi (t + 1) (by omega), if_neg (by omega), Nat.add_sub_cancel]
    show (sg h (m + 1) 0 (i + 1) + g * (E g m fun t => sg h (m + 1) (t + 1) (i + 1)).2, (E g m fun t => sg h (m + 1) (t + 1) (i + 1)).1) = _
    rw [e1, sg_succ hi 0 (by omega), if_pos rfl]
  rw [e, E_snoc m fun t => sg h (m + 1) t i]
  obtain ⟨⟨k, hk⟩, ⟨l, hl⟩⟩ := hX
  have hk' : g * (xp g m).2 = -1 + q * k := hk
  have hl' : (xp g m).1 = 0 + q * l := hl
  generalize (E g m fun t => sg h (m + 1) t i) = y
  generalize sg h (m + 1) m i = s
  revert hk' hl'
  generalize xp g m = z
  intro hk' hl'
  obtain ⟨y1, y2⟩ := y
  obtain ⟨z1, z2⟩ := z
  simp only at hk' hl'
  refine ⟨⟨-(k * s), ?_⟩, ⟨-(l * s), ?_⟩⟩
  · show -s + g * y2 = g * (y2 + s * z2) + q * -(k * s)
    have : g * (y2 + s * z2) = g * y2 + s * (g * z2) := by grind
    rw [this, hk']
    grind
  · show y1 = y1 + s * z1 + q * -(l * s)
    rw [hl']
    grind
theorem E_sg {g q : Int} {h : Nat → Int} {m : Nat} (hX : CgP q (xp g (m + 1)) (-1, 0)) : ∀ i, i ≤ m + 1 → CgP q (E g (m + 1) fun t => sg h (m + 1) t i) (mulp g (xp g i) (E g (m + 1) h))
  | 0, _ => by
    have e : (fun t => sg h (m + 1) t 0) = h := by
      funext t
      unfold sg
      rw [if_pos (Nat.zero_le _), Nat.sub_zero]
    rw [e]
    refine .of_eq ?_
    show _ = mulp g (1, 0) _
    generalize E g (m + 1) h = y
    obtain ⟨y1, y2⟩ := y
    simp only [mulp, Prod.mk.injEq]
    grind
  | i + 1, hi => by
    refine (E_rot hX (by omega)).trans ?_
    have ih := E_sg (h := h) hX i (by omega)
    refine CgP.trans (y := (g * (mulp g (xp g i) (E g (m + 1) h)).2, (mulp g (xp g i) (E g (m + 1) h)).1)) ⟨(Cg.refl q g).mul ih.2, ih.1⟩ (.of_eq ?_)
    show _ = mulp g (g * (xp g i).2, (xp g i).1) _
    generalize E g (m + 1) h = y
    generalize xp g i = z
    obtain ⟨y1, y2⟩ := y
    obtain ⟨z1, z2⟩ := z
    simp only [mulp, Prod.mk.injEq]
    grind
theorem E_conv_part {g q : Int} {f h : Nat → Int} {m : Nat} (hX : CgP q (xp g (m + 1)) (-1, 0)) : ∀ k, k ≤ m + 1 → CgP q (E g (m + 1) fun t => sm (fun i => f i * sg h (m + 1) t i) k) (mulp g (E g k f) (E g (m + 1) h))
  | 0, _ => by
    refine .of_eq ?_
    show (E g (m + 1) fun _ => 0) = mulp g (0, 0) _
    rw [E_zero]
    simp [mulp]
  | k + 1, hk => by
    show CgP q (E g (m + 1) fun t => sm (fun i => f i * sg h (m + 1) t i) k + f k * sg h (m + 1) t k) _
    rw [E_add, E_smul, show E g (k + 1) f = _ from E_snoc k f]
    refine ((E_conv_part hX k (by omega)).addp (CgP.smul (Cg.refl q (f k)) (E_sg hX k (by omega)))).trans (.of_eq ?_)
    generalize E g (m + 1) h = y
    generalize xp g k = z
    generalize E g k f = w
    obtain ⟨y1, y2⟩ := y
    obtain ⟨z1, z2⟩ := z
    obtain ⟨w1, w2⟩ := w
    simp only [mulp, addp, smul, Prod.mk.injEq]
    grind
/-- the value of the product is the product of the values -/
theorem E_conv {g q : Int} {f h : Nat → Int} {n : Nat} (h0 : 0 < n) (hX : CgP q (xp g n) (-1, 0)) : CgP q (E g n (conv f h n)) (mulp g (E g n f) (E g n h)) := by
  obtain ⟨m, rfl⟩ : ∃ m, n = m + 1 := ⟨n - 1, by omega⟩
  exact E_conv_part hX (m + 1) (Nat.le_refl _)
end Kx
set_option Elab.async false
set_option linter.all false
set_option maxRecDepth 100000
set_option maxHeartbeats 4000000
/-! Powers by squaring; roots. -/
namespace Kx
theorem pow_two (a : Int) (m : Nat) : a ^ (2 * m) = (a * a) ^ m := by
  induction m with
  | zero => rw [Nat.mul_zero, Int.pow_zero, Int.pow_zero]
  | succ m ih =>
    rw [show 2 * (m + 1) = 2 * m + 1 + 1 by omega, Int.pow_succ, Int.pow_succ, ih, Int.pow_succ, Int.mul_assoc]
theorem half_odd {q r s z : Int} {l : Nat} (h : Cg q (r * s ^ l) z) (o : l % 2 = 1) : Cg q (r * s % q * (s * s % q) ^ (l / 2)) z := by
  refine ((Cg.mod q (r * s)).mul ((Cg.mod q (s * s)).pow (l / 2))).trans (Cg.trans (.of_eq ?_) h)
  rw [← pow_two, show s ^ l = s ^ (2 * (l / 2)) * s by rw [← Int.pow_succ]; exact congrArg (fun n => s ^ n) (by omega)]
  generalize s ^ (2 * (l / 2)) = y
  grind
theorem half_even {q r s z : Int} {l : Nat} (h : Cg q (r * s ^ l) z) (o : l % 2 = 0) : Cg q (r * (s * s % q) ^ (l / 2)) z := by
  refine ((Cg.refl q r).mul ((Cg.mod q (s * s)).pow (l / 2))).trans (Cg.trans (.of_eq ?_) h)
  rw [← pow_two, show 2 * (l / 2) = l by omega]
theorem half_start {q b : Int} (e : Nat) : Cg q (1 % q * (b % q) ^ e) (b ^ e) := by
  refine ((Cg.mod q 1).mul ((Cg.mod q b).pow e)).trans (.of_eq ?_)
  rw [Int.one_mul]
theorem half_end {q r s z : Int} (h : Cg q (r * s ^ 0) z) (h0 : 0 ≤ r) (h1 : r < q) : r = z % q := by
  rw [Int.pow_zero, Int.mul_one] at h
  exact (h.symm.eq_of h0 h1).symm
/-- a root: x ^ m is -1 -/
def Rt (m : Nat) (q x : Int) : Prop := 0 ≤ x ∧ x < q ∧ Cg q (x ^ m) (-1)
theorem Rt.iff_mod {m : Nat} {q x : Int} (h2 : 2 ≤ q) : x ^ m % q = q - 1 ↔ Cg q (x ^ m) (-1) := by
  constructor
  · intro h
    refine (Cg.mod q (x ^ m)).symm.trans ?_
    rw [h]
    exact ⟨1, by grind⟩
  · intro h
    have e : Cg q (x ^ m) (q - 1) := h.trans ⟨-1, by grind⟩
    exact e.eq_of (by omega) (by omega)
theorem Rt.pos {m : Nat} {q x : Int} (h2 : 3 ≤ q) (hm : 0 < m) (h : Rt m q x) : 1 ≤ x := by
  obtain ⟨h0, h1, hc⟩ := h
  by_cases e : x = 0
  · subst e
    obtain ⟨k, rfl⟩ : ∃ k, m = k + 1 := ⟨m - 1, by omega⟩
    rw [Int.pow_succ, Int.mul_zero] at hc
    have z := hc.symm.eq_of (by omega) (by omega)
    have z2 : (-1 : Int) % q = q - 1 := by
      have e : (-1 + q) % q = -1 % q := by rw [Int.add_emod_right]
      rw [← e, Int.emod_eq_of_lt (by omega) (by omega)]
      omega
    omega
  · omega
theorem pow_mul_comm (x y : Int) (m : Nat) : (x * y) ^ m = x ^ m * y ^ m := by
  induction m with
  | zero => rw [Int.pow_zero, Int.pow_zero, Int.pow_zero, Int.mul_one]
  | succ m ih =>
    rw [Int.pow_succ, Int.pow_succ, Int.pow_succ, ih]
    grind
theorem pow_pow (x : Int) (a : Nat) : ∀ b : Nat, (x ^ a) ^ b = x ^ (a * b)
  | 0 => by rw [Int.pow_zero, Nat.mul_zero, Int.pow_zero]
  | b + 1 => by rw [Int.pow_succ, pow_pow x a b, Nat.mul_succ, Int.pow_add]
theorem neg_one_odd (k : Nat) : (-1 : Int) ^ (2 * k + 1) = -1 := by
  rw [Int.pow_succ, pow_two, show (-1 : Int) * -1 = 1 by decide, Int.one_pow]
  decide
theorem neg_one_even (k : Nat) : (-1 : Int) ^ (2 * k) = 1 := by
  rw [pow_two, show (-1 : Int) * -1 = 1 by decide, Int.one_pow]
/-- odd powers of a root are roots -/
theorem Rt.odd {m : Nat} {q x : Int} (hq : 0 < q) (h : Rt m q x) (k : Nat) : Rt m q (x ^ (2 * k + 1) % q) := by
  refine ⟨Int.emod_nonneg _ (by omega), Int.emod_lt_of_pos _ hq, ?_⟩
  refine ((Cg.mod q _).pow m).trans ?_
  rw [pow_pow, Nat.mul_comm, ← pow_pow]
  exact (h.2.2.pow _).trans (.of_eq (neg_one_odd k))
theorem Rt.times_sq {m : Nat} {q x r s : Int} (hq : 0 < q) (h : Rt m q x) (hr : Rt m q r) (hs : Cg q s (r * r)) : Rt m q (x * s % q) := by
  refine ⟨Int.emod_nonneg _ (by omega), Int.emod_lt_of_pos _ hq, ?_⟩
  refine ((Cg.mod q _).pow m).trans ?_
  rw [pow_mul_comm]
  refine (h.2.2.mul (hs.pow m)).trans ?_
  rw [pow_mul_comm]
  refine ((Cg.refl q (-1)).mul (hr.2.2.mul hr.2.2)).trans (.of_eq (by decide))
theorem Rt.neg {k : Nat} {q x : Int} (hm : 0 < k) (h3 : 3 ≤ q) (h : Rt (2 * k) q x) : Rt (2 * k) q (q - x) := by
  have p := h.pos h3 (by omega)
  obtain ⟨h0, h1, hc⟩ := h
  refine ⟨by omega, by omega, ?_⟩
  refine Cg.trans (Cg.pow (b := -x) ⟨1, by grind⟩ _) (Cg.trans (.of_eq ?_) hc)
  rw [pow_two, pow_two, show -x * -x = x * x by grind]
theorem Rt.sq {k : Nat} {q x : Int} (hq : 0 < q) (h : Rt (2 * k) q x) : Rt k q (x * x % q) := by
  refine ⟨Int.emod_nonneg _ (by omega), Int.emod_lt_of_pos _ hq, ?_⟩
  refine ((Cg.mod q _).pow k).trans ?_
  rw [← pow_two]
  exact h.2.2
/-- base ^ ((q - 1) / n) is a root where base ^ ((q - 1) / 2) is -1 -/
theorem rt_of_base {m : Nat} {q b : Int} {t : Nat} (hq : 0 < q) (h : Cg q (b ^ (t * m)) (-1)) : Rt m q (b ^ t % q) := by
  refine ⟨Int.emod_nonneg _ (by omega), Int.emod_lt_of_pos _ hq, ?_⟩
  refine ((Cg.mod q _).pow m).trans ?_
  rw [pow_pow]
  exact h
/-! ### primes and roots, looked through -/
def prB (q : Nat) : Bool := (List.range 64).all fun d => Nat.blt d 2 || (Nat.blt q (d * d) || !(Nat.beq (q % d) 0))
def rootB (q : Nat) : Bool := (List.range 60).any fun b => Nat.ble 2 b && (Nat.blt b q && Nat.beq (b ^ ((q - 1) / 2) % q) (q - 1))
def allB : Bool := (List.range 512).all fun k => Nat.beq k 0 || (!(prB (8 * k + 1)) || rootB (8 * k + 1))
theorem all_ok : allB = true := by decide +kernel
end Kx
set_option Elab.async false
set_option linter.all false
set_option maxRecDepth 100000
set_option maxHeartbeats 0
/-! The facts of the top that the walk leans on. -/
namespace KxH
open PySem PySem.Spec PyProof.Rows L2
open He (ga ma eqO ba)
/-- the i-th statement of the top -/
def topS (i : Nat) : Stmt := PySem.Challenge.pw_noisebound_k37_whole_fast_products.main.body.getD i (.Pass ⟨0, 0, 0, 0⟩)
/-- the getter of a property -/
def gaP (K : PySem.W.Frag) (C f : Str) : Addr := match PySem.W.findIn K (.ref (ga K C)) f with
  | some (some (.ref p)) => (match PySem.W.recIn K p "property" with
    | some (.ref g :: _) => g
    | _ => 0)
  | _ => 0
def gd (x : Str) (i : Nat) : He5.DefA := ⟨fun K => ga K x, x, x, defArgs (topS i), defBody (topS i), defScope (topS i), [], []⟩
def md (C m q : Str) (i j : Nat) : He5.DefA := ⟨fun K => ma K (ga K C) m, m, q, defArgs (inClass (topS i) j), defBody (inClass (topS i) j), defScope (inClass (topS i) j), [], []⟩
def pd (C m q : Str) (i j : Nat) : He5.DefA := ⟨fun K => gaP K C m, m, q, defArgs (inClass (topS i) j), defBody (inClass (topS i) j), defScope (inClass (topS i) j), [], []⟩
/-! ### facts, each a Bool -/
def propB (C f : Str) (K : PySem.W.Frag) : Bool := match PySem.W.findIn K (.ref (ga K C)) f with
  | some (some (.ref p)) => eqO (PySem.W.specialIn K (.ref p) "__get__") (some (some (.builtin "property.__get__"))) && (decide (PySem.W.takesIn K (.ref p) = some true) && (match PySem.W.recIn K p "property" with
    | some (.ref g :: _) => true
    | _ => false))
  | _ => false
theorem propB_ok {C f : Str} {K : PySem.W.Frag} (h : propB C f K = true) : ∃ p, PropOf K (ga K C) f p (gaP K C f) := by
  unfold propB at h
  cases e : PySem.W.findIn K (.ref (ga K C)) f with
  | none => rw [e] at h; cases h
  | some o => cases o with
    | none => rw [e] at h; cases h
    | some v => cases v with
      | ref p =>
        rw [e] at h
        obtain ⟨h1, h2⟩ := ba h
        obtain ⟨h2, h3⟩ := ba h2
        cases r : PySem.W.recIn K p "property" with
        | none => rw [r] at h3; cases h3
        | some l => cases l with
          | nil => rw [r] at h3; cases h3
          | cons v l => cases v with
            | ref g =>
              have eg : gaP K C f = g := by
                unfold gaP
                rw [e]
                dsimp only
                rw [r]
              exact ⟨p, e, He.eqO_ok h1, of_decide_eq_true h2, l, by rw [r, eg]⟩
            | _ => rw [r] at h3; cases h3
      | _ => rw [e] at h; cases h
/-- an own exception class over ValueError -/
def oexB (x : Str) (K : PySem.W.Frag) : Bool := (match K.lookup (ga K x) with
  | some ⟨.type "type", _, .cls cd, sl⟩ => (match cd.mro, sl.toList with
    | .ref C' :: bm, [_, _, _, _, some (.builtin n), _] => decide (C' = ga K x) && (decide (n = "ValueError.__new__") && (!cd.hasDel && (cd.hasDict && PySem.HandSPX.refsVE bm)))
    | _, _ => false)
  | _ => false) && (eqO (PySem.W.findIn K (.ref (ga K x)) "__setattr__") (some (some (.builtin "object.__setattr__"))) && (decide (PySem.W.subIn K (.ref (ga K x)) (.type "BaseException") = some true) &&
    (decide (PySem.W.typeIn K (.ref (ga K x)) = some (.type "type")) && PySem.W.keepIn K (.ref (ga K x)))))
theorem oexB_ok {x : Str} {K : PySem.W.Frag} (h : oexB x K = true) : OexC K (ga K x) := by
  unfold oexB at h
  obtain ⟨q, h⟩ := ba h
  obtain ⟨h1, h⟩ := ba h
  obtain ⟨h2, h⟩ := ba h
  obtain ⟨h3, h4⟩ := ba h
  refine ⟨?_, He.eqO_ok h1, of_decide_eq_true h2, of_decide_eq_true h3, h4⟩
  split at q
  · rename_i dd cd sl ho
    split at q
    · rename_i C' bm k0 k1 k2 k3 n k5 hm hs
      obtain ⟨q1, q⟩ := ba q
      obtain ⟨q2, q⟩ := ba q
      obtain ⟨q3, q⟩ := ba q
      obtain ⟨q4, q5⟩ := ba q
      have e1 := of_decide_eq_true q1
      have e2 := of_decide_eq_true q2
      obtain ⟨nm, bs, mro, ns, qn, hd, sn, sub, ab, col, del⟩ := cd
      dsimp only at hm q3 q4
      have e3 : del = false := by
        cases del with
        | false => rfl
        | true => cases q3
      subst hm e1 e2 e3 q4
      have hsl : sl = #[k0, k1, k2, k3, some (.builtin "ValueError.__new__"), k5] := by
        obtain ⟨l⟩ := sl
        have hs2 : l = _ := hs
        rw [hs2]
      subst hsl
      exact ⟨nm, qn, ns, bs, bm, sn, sub, ab, col, dd, k0, k1, k2, k3, k5, ho, q5⟩
    · cases q
  · cases q
/-- its __init__ -/
def iniB (x : Str) (K : PySem.W.Frag) : Bool := eqO (PySem.W.findIn K (.ref (ga K x)) "__init__") (some (some (.ref (ma K (ga K x) "__init__")))) && decide (PySem.W.typeIn K (.ref (ma K (ga K x) "__init__")) = some (.type "function"))
/-- isinstance of its instances -/
def excB (x : Str) (K : PySem.W.Frag) : Bool := xfB K (ga K x) && (eqO (PySem.W.findIn K (.ref (ga K x)) "__class__") (some (some (.builtin "object.__class__"))) && (eqO (PySem.W.specialIn K (.builtin "object.__class__") "__get__") (some (some (.builtin "getset_descriptor.__get__"))) &&
  (decide (PySem.W.takesIn K (.builtin "object.__class__") = some true) && decide (PySem.W.mroIn K (ga K x) (.type "object") = some true))))
theorem excB_ok {x : Str} {K : PySem.W.Frag} (h : excB x K = true) : XfC K (ga K x) ∧ ExcC K (ga K x) := by
  unfold excB at h
  obtain ⟨h0, h⟩ := ba h
  obtain ⟨h1, h⟩ := ba h
  obtain ⟨h2, h⟩ := ba h
  obtain ⟨h3, h4⟩ := ba h
  have z := xfB_ok h0
  exact ⟨z, z.ga, z.gg, z.exC, z.hdC, He.eqO_ok h1, He.eqO_ok h2, of_decide_eq_true h3, of_decide_eq_true h4⟩
def kitB (x y : Str) (b : Bool) (K : PySem.W.Frag) : Bool := decide (PySem.W.kitOne K (.ref (ga K x)) (.ref (ga K y)) = some b)
def kitT (x : Str) (y : String) (b : Bool) (K : PySem.W.Frag) : Bool := decide (PySem.W.kitOne K (.ref (ga K x)) (.type y) = some b)
def fa (f : He.Fa) (K : PySem.W.Frag) : Bool := f.ok K

def fs0 : List (PySem.W.Frag → Bool) := [fa (.glo "whole"), fa (.glo "degree_fits"), fa (.glo "odd_prime_fits"), fa (.glo "smallest_factor"), fa (.glo "power_residue"), fa (.glo "root_fits"), fa (.glo "whole_between"), fa (.glo "check_residues"), fa (.glo "check_polynomial"), fa (.glo "layer_lengths"), fa (.glo "turned_numbers"), fa (.glo "root_powers"), fa (.glo "factor_roots"), fa (.glo "split_row"), fa (.glo "join_row"), fa (.glo "spectrum_row"), fa (.glo "polynomial_row"), fa (.glo "to_spectrum"), fa (.glo "times_pair"), fa (.glo "times_row"), fa (.glo "multiply_fast"), fa (.glo "check_poly"), fa (.glo "sum_items"), fa (.glo "product_items"), fa (.glo "add")]
def fs1 : List (PySem.W.Frag → Bool) := [fa (.glo "multiply_plain"), fa (.glo "ring_fault"), fa (.glo "_law_begin"), fa (.glo "_law_mixed"), fa (.glo "_law_take"), fa (.glo "_law_wide"), fa (.glo "_law_pick"), fa (.glo "_law_between"), fa (.glo "_law_other"), fa (.glo "_law_beyond"), fa (.glo "_law_same"), fa (.glo "_law_spoil"), fa (.glo "_law_kin"), fa (.glo "_law_prime"), fa (.glo "_law_power"), fa (.glo "_law_backward"), fa (.glo "_law_root"), fa (.glo "_law_item"), fa (.glo "_law_poly"), fa (.glo "_law_times"), fa (.glo "_law_log"), fa (.glo "_law_factor"), fa (.glo "_law_refused"), fa (.glo "_law_prime_for"), fa (.glo "_law_some_ring")]
def fs2 : List (PySem.W.Frag → Bool) := [fa (.glo "_law_two_rings"), fa (.glo "_law_spoilt"), fa (.glo "_law_rest"), fa (.glo "_law_rests"), fa (.glo "_law_joined"), fa (.glo "_law_sum"), fa (.glo "_law_pairs_times"), fa (.glo "_law_call"), fa (.glo "_law_product_holds"), fa (.glo "_law_spectra_hold"), fa (.glo "_law_refusals_hold"), fa (.glo "law"), fa (.glo "OutOfRange"), fa (.glo "BadItem"), fa (.glo "BadLength"), fa (.glo "BadText"), fa (.glo "BadPadding"), fa (.glo "WrongPhase"), fa (.glo "NotInvertible"), fa (.glo "BadRing"), fa (.glo "BadParameters"), fa (.glo "UnknownName"), fa (.glo "DifferentRings"), fa (.glo "BadKey"), fa (.glo "BadLetter")]
def fs3 : List (PySem.W.Frag → Bool) := [fa (.glo "BadKeyText"), fa (.glo "BadRecord"), fa (.glo "BadCommand"), fa (.glo "NoEntry"), fa (.glo "NothingLeft"), fa (.glo "NoiseboundError"), fa (.glo "Ring"), fa (.free "isinstance"), fa (.free "int"), fa (.free "bool"), fa (.free "str"), fa (.free "list"), fa (.free "tuple"), fa (.free "len"), fa (.free "range"), fa (.free "enumerate"), fa (.free "reversed"), fa (.free "zip"), fa (.free "sum"), fa (.free "max"), fa (.free "min"), fa (.free "ValueError"), fa (.int "LARGEST" 4095), fa (.glo "DEGREES"), fun K => He.tupB K "DEGREES" [.int 8, .int 16, .int 32, .int 64, .int 128, .int 256]]
def fs4 : List (PySem.W.Frag → Bool) := [fa (.cls "Ring"), fa (.mkr "Ring"), fa (.noat "Ring" "own_n"), fa (.noat "Ring" "own_q"), fa (.noat "Ring" "own_root"), propB "Ring" "n", propB "Ring" "q", propB "Ring" "root", oexB "BadItem", iniB "BadItem", excB "BadItem", kitB "BadItem" "OutOfRange" false, kitB "BadItem" "BadItem" true, kitB "BadItem" "BadLength" false, kitB "BadItem" "BadText" false, kitB "BadItem" "BadPadding" false, kitB "BadItem" "WrongPhase" false, kitB "BadItem" "NotInvertible" false, kitB "BadItem" "BadRing" false, kitB "BadItem" "BadParameters" false, kitB "BadItem" "UnknownName" false, kitB "BadItem" "DifferentRings" false, kitB "BadItem" "BadKey" false, kitB "BadItem" "BadLetter" false, kitB "BadItem" "BadKeyText" false]
def fs5 : List (PySem.W.Frag → Bool) := [kitB "BadItem" "BadRecord" false, kitB "BadItem" "BadCommand" false, kitB "BadItem" "NoEntry" false, kitB "BadItem" "NothingLeft" false, kitB "BadItem" "NoiseboundError" true, kitT "BadItem" "ValueError" true, fa (.exm "BadItem" "NoiseboundError" true), oexB "BadLength", iniB "BadLength", excB "BadLength", kitB "BadLength" "OutOfRange" false, kitB "BadLength" "BadItem" false, kitB "BadLength" "BadLength" true, kitB "BadLength" "BadText" false, kitB "BadLength" "BadPadding" false, kitB "BadLength" "WrongPhase" false, kitB "BadLength" "NotInvertible" false, kitB "BadLength" "BadRing" false, kitB "BadLength" "BadParameters" false, kitB "BadLength" "UnknownName" false, kitB "BadLength" "DifferentRings" false, kitB "BadLength" "BadKey" false, kitB "BadLength" "BadLetter" false, kitB "BadLength" "BadKeyText" false, kitB "BadLength" "BadRecord" false]
def fs6 : List (PySem.W.Frag → Bool) := [kitB "BadLength" "BadCommand" false, kitB "BadLength" "NoEntry" false, kitB "BadLength" "NothingLeft" false, kitB "BadLength" "NoiseboundError" true, kitT "BadLength" "ValueError" true, fa (.exm "BadLength" "NoiseboundError" true), fa (.noat "BadItem" "index"), fa (.noat "BadLength" "expected"), fa (.noat "BadLength" "found")]
def facts : List (PySem.W.Frag → Bool) := fs0 ++ fs1 ++ fs2 ++ fs3 ++ fs4 ++ fs5 ++ fs6
def ds0 : List He5.DefA := [gd "whole" 24, gd "degree_fits" 25, gd "odd_prime_fits" 26, gd "smallest_factor" 27, gd "power_residue" 28, gd "root_fits" 29, gd "whole_between" 31, gd "check_residues" 32, gd "check_polynomial" 33, gd "layer_lengths" 34, gd "turned_numbers" 35, gd "root_powers" 36, gd "factor_roots" 37, gd "split_row" 38, gd "join_row" 39, gd "spectrum_row" 40, gd "polynomial_row" 41, gd "to_spectrum" 42, gd "times_pair" 43, gd "times_row" 44, gd "multiply_fast" 45, gd "check_poly" 47, gd "sum_items" 48, gd "product_items" 49, gd "add" 50]
def ds1 : List He5.DefA := [gd "multiply_plain" 51, gd "ring_fault" 53, gd "_law_begin" 56, gd "_law_mixed" 57, gd "_law_take" 58, gd "_law_wide" 59, gd "_law_pick" 60, gd "_law_between" 61, gd "_law_other" 62, gd "_law_beyond" 63, gd "_law_same" 64, gd "_law_spoil" 65, gd "_law_kin" 66, gd "_law_prime" 67, gd "_law_power" 68, gd "_law_backward" 69, gd "_law_root" 70, gd "_law_item" 71, gd "_law_poly" 72, gd "_law_times" 73, gd "_law_log" 74, gd "_law_factor" 75, gd "_law_refused" 76, gd "_law_prime_for" 77, gd "_law_some_ring" 78]
def ds2 : List He5.DefA := [gd "_law_two_rings" 79, gd "_law_spoilt" 80, gd "_law_rest" 81, gd "_law_rests" 82, gd "_law_joined" 83, gd "_law_sum" 84, gd "_law_pairs_times" 85, gd "_law_call" 86, gd "_law_product_holds" 87, gd "_law_spectra_hold" 88, gd "_law_refusals_hold" 89, gd "law" 90, md "Ring" "__init__" "Ring.__init__" 54 0, pd "Ring" "n" "Ring.n" 54 2, pd "Ring" "q" "Ring.q" 54 3, pd "Ring" "root" "Ring.root" 54 4, md "BadItem" "__init__" "BadItem.__init__" 4 0, md "BadLength" "__init__" "BadLength.__init__" 5 0]
def defs : List He5.DefA := ds0 ++ ds1 ++ ds2
/-! ### what is looked at -/
def valsO (o : Obj) : List Addr := match o.data with
  | .dict es _ => es.toList.flatMap fun e => He.refV e.val
  | _ => []
def stepO (o : Obj) : List Addr := match o.data with
  | .func fd => He.refV fd.code
  | .cls cd => [cd.ns]
  | .fields vs => (match o.cls with
    | .type "property" => vs.toList.flatMap He.refV
    | _ => [])
  | .dict es _ => es.toList.flatMap fun e => He.refV e.val
  | _ => []
def stepG (g : Addr → Option Obj) (as : List Addr) : List Addr := as.flatMap fun a => match g a with
  | some o => stepO o
  | none => []
def fsL {α : Type} : List Addr → (List Addr → α) → α
  | [], k => k []
  | a :: r, k => HandSHeadRun.frNat a fun a => fsL r fun r => k (a :: r)
theorem fsL_eq {α : Type} : ∀ (l : List Addr) (k : List Addr → α), fsL l k = k l
  | [], _ => rfl
  | a :: r, k => by
    show HandSHeadRun.frNat a (fun a => fsL r fun r => k (a :: r)) = _
    rw [HandSHeadRun.frNat_eq, fsL_eq r]
def asK (g : Addr → Option Obj) : List Addr := fsL (stepG g [mainGlobals]) fun l1 => fsL (stepG g l1) fun l2 => fsL (stepG g l2) fun l3 => fsL (stepG g l3) fun l4 => fsL (stepG g l4) fun l5 => mainGlobals :: (l1 ++ (l2 ++ (l3 ++ (l4 ++ l5))))
/-! ### the Hook -/
abbrev Al : Type := Bool × List He.FnW
def obsK (K : PySem.W.Frag) : Al := ((facts.all fun f => f K) && defs.all fun d => d.ok K, defs.map fun d => He5.fnA K (d.at_ K))
def valK : Al := (true, defs.map He5.DefA.val)
def obsG (g : Addr → Option Obj) : Al := fsL (asK g) fun l => obsK (He.frG g l)
def Says (K : PySem.W.Frag) : Prop := obsK K = valK
def hk : PySem.W.Hook where
  α := Al
  obs := fun s => obsG s.heap.get?
  val := fun _ => valK
  says := fun _ h => ∃ K : PySem.W.Frag, K.In h ∧ Says K
  of := fun _ _ e => ⟨_, He.frG_in, by unfold obsG at e; rw [fsL_eq] at e; exact e⟩
  keeps := fun _ _ _ ⟨K, hK, c⟩ k => ⟨K, PySem.W.Frag.In.keeps hK k, c⟩
def ob (s : PySem.W.SharedT) : Al := obsG (HandSHeadRun.getT s)
theorem ob_eq (s : PySem.W.SharedT) : ob s = hk.obs s.abs := by
  have e : HandSHeadRun.getT s = s.abs.heap.get? := funext fun a => HandSHeadRun.getT_eq s a
  show obsG (HandSHeadRun.getT s) = obsG s.abs.heap.get?
  rw [e]
theorem Says.fact {K : PySem.W.Frag} (c : Says K) (i : Nat) {f : PySem.W.Frag → Bool} (h : facts[i]? = some f := by rfl) : f K = true := by
  have c1 := (ba (show ((facts.all fun f => f K) && defs.all fun d => d.ok K) = true from congrArg (fun z : Al => z.1) c)).1
  exact List.all_eq_true.mp c1 f (List.mem_of_getElem? h)
theorem Says.def_ {K : PySem.W.Frag} (c : Says K) (i : Nat) {d : He5.DefA} (h : defs[i]? = some d := by rfl) : ∃ fd, FunD K d.name d.qual d.params d.body d.scope (d.dvs K) (d.kws K) (d.at_ K) fd := by
  have c2 := (ba (show ((facts.all fun f => f K) && defs.all fun d => d.ok K) = true from congrArg (fun z : Al => z.1) c)).2
  have e : defs.map (fun d => He5.fnA K (d.at_ K)) = defs.map He5.DefA.val := congrArg (fun z : Al => z.2) c
  have e2 : (defs.map fun d => He5.fnA K (d.at_ K))[i]? = (defs.map He5.DefA.val)[i]? := by rw [e]
  rw [List.getElem?_map, List.getElem?_map, h] at e2
  exact He5.DefA.funD (Option.some.inj e2) (List.all_eq_true.mp c2 d (List.mem_of_getElem? h))
abbrev R : PySem.W.OpenRow := PySem.W.OpenLaw.row PySem.Challenge.rw_noisebound_k37_whole_fast_products
abbrev qv : Program := PySem.W.view R.prog [90]
def ns0 : List PySem.Str := ["_wall", "NoiseboundError", "OutOfRange", "BadItem", "BadLength", "BadText", "BadPadding", "WrongPhase", "NotInvertible", "BadRing", "BadParameters", "UnknownName", "DifferentRings", "BadKey", "BadLetter", "BadKeyText", "BadRecord", "BadCommand", "NoEntry", "NothingLeft", "DEGREES", "LARGEST", "whole", "degree_fits", "odd_prime_fits", "smallest_factor", "power_residue", "root_fits", "whole_between", "check_residues"]
def ns1 : List PySem.Str := ["check_polynomial", "layer_lengths", "turned_numbers", "root_powers", "factor_roots", "split_row", "join_row", "spectrum_row", "polynomial_row", "to_spectrum", "times_pair", "times_row", "multiply_fast", "check_poly", "sum_items", "product_items", "add", "multiply_plain", "ring_fault", "Ring", "_law_begin", "_law_mixed", "_law_take", "_law_wide", "_law_pick", "_law_between", "_law_other", "_law_beyond", "_law_same", "_law_spoil"]
def ns2 : List PySem.Str := ["_law_kin", "_law_prime", "_law_power", "_law_backward", "_law_root", "_law_item", "_law_poly", "_law_times", "_law_log", "_law_factor", "_law_refused", "_law_prime_for", "_law_some_ring", "_law_two_rings", "_law_spoilt", "_law_rest", "_law_rests", "_law_joined", "_law_sum", "_law_pairs_times", "_law_call", "_law_product_holds", "_law_spectra_hold", "_law_refusals_hold"]
def names : List PySem.Str := ns0 ++ ns1 ++ ns2
end KxH
set_option Elab.async false
set_option linter.all false
set_option maxRecDepth 100000
set_option maxHeartbeats 0
namespace KxH
open PySem PySem.Spec PyProof.Rows L2
theorem run (w : World) : HandSHeadRun.RunEq R qv hk ob 20000 names w := by
  intro os
  kernel_rfl
end KxH
set_option Elab.async false
set_option linter.all false
set_option maxRecDepth 100000
set_option maxHeartbeats 4000000
/-! Rules for what is done with a caught error: handed to a def, asked by isinstance, its fields read, a comprehension meanwhile. -/
namespace KxE
open PySem PySem.Spec PySem.Calls PyProof.Rows L2

/-! ### isinstance of an exception that has a dict of its own -/
section
variable {prog : Program} {w : World} {A : Around} {E : Value → Shared → Prop} {s : Shared} {K : PySem.W.Frag} {x D : Addr} {ox : Obj} {od : Option Obj}
theorem find_bind {name : Str} {a g : Value} (hc : (PySem.W.clsIn K D).isSome = true) (ha : PySem.W.findIn K (.ref D) name = some (some a)) (hg : PySem.W.specialIn K a "__get__" = some (some g))
    (ht : PySem.W.takesIn K a = some true) : PySem.W.findObj K D od name = some (.bind g a) := by
  obtain ⟨cd, hc⟩ := Option.isSome_iff_exists.mp hc
  unfold PySem.W.findObj
  rw [hc, Option.bind_some, ha, Option.bind_some]
  simp [hg, ht]
theorem class_read {Q : Option Value → Shared → Prop} (C : ExcC K D) (X : K.In s.heap) (I : PySem.W.InstAt s.heap x ox D od) (h : Q (some (.ref D)) { s with toks := s.toks + 1 }) :
    wpAny (model prog w) A (getAttr? (.ref x) "__class__") Q E s := by
  have hf : PySem.W.findObj K D od "__class__" = some (.bind (.builtin "getset_descriptor.__get__") (.builtin "object.__class__")) :=
    find_bind (by obtain ⟨cd, hc, _⟩ := PySem.W.any_some C.hd; rw [hc]; rfl) C.ha C.hn C.ht
  obtain ⟨hp, g, d, t, os⟩ := s
  have L0 := I.type (M := model prog w)
  have L1 := PySem.W.looks_findIn (M := model prog w) X C.hg
  have L2 := PySem.W.looks_findIn (M := model prog w) X C.hk
  have L3 := PySem.W.looks_find (M := model prog w) X I hf
  have sub : PySem.W.Looks (model prog w) hp (isInstance (.ref x) (.type "BaseException")) true := L0.andThen (PySem.W.looks_subIn X C.hs)
  have n0 : (false && onTheHeap (Value.builtin "BaseException.__getattribute__")) = false := rfl
  have n2 : (Value.builtin "BaseException.__getattribute__" == Value.builtin "object.__getattribute__") = false := by decide +kernel
  have n1 : (onTheHeap (Value.ref D) && Value.builtin "BaseException.__getattribute__" == Value.builtin "object.__getattribute__") = false := by
    rw [n2]; rfl
  unfold getAttr? getAttrBy? getAttrBy
  refine wpAny_bind (wpAny_mkText (wpAny_bind (wpAny_attempt (wpAny_holding (wpAny_bind (L0.at (wpAny_bind (L1.at ?_))))))))
  show wpAny _ _ (if (onTheHeap (Value.ref D) && Value.builtin "BaseException.__getattribute__" == Value.builtin "object.__getattribute__") = true then _ else _) _ _ _
  rw [n1, if_neg Bool.false_ne_true]
  unfold getAttrByItsOwn hookBefore
  refine wpAny_bind ?_
  rw [if_pos (show onTheHeap (Value.ref D) = true from rfl)]
  refine L2.at (wpAny_bind (wpAny_attempt (wpAny_holding ?_)))
  unfold callGetattribute
  rw [n0, if_neg Bool.false_ne_true]
  unfold boundAndCalled
  rw [PySem.F.excAttr_ValueError.ga.bind (.ref x)]
  refine wpAny_bind (wpAny_pure ?_)
  show wpAny _ _ (call (.builtin "BaseException.__getattribute__") [.ref x, .str "__class__" t]) _ _ _
  refine wpAny_call (codeAny_call_builtin PySem.F.excAttr_ValueError.ga.plain PySem.F.entry_bexc_ga ?_)
  refine @PySem.W.check_slot (model prog w) _ _ ⟨hp, g, d, t + 1, os⟩ "BaseException.__getattribute__" "BaseException" "__getattribute__" (.ref x) [.str "__class__" t] [] _ (by decide +kernel) (by decide +kernel) sub (PySem.F.args_bexc_ga (.ref x) (.str "__class__" t)) ?_
  unfold Builtin.«object.__getattribute__»
  refine wpAny_bind (wpAny_of_eq (a := ((Value.ref x : Value), [Value.str "__class__" t])) (by first | rfl | (simp only [slotArgs]; rfl)) ?_)
  refine wpAny_bind (wpAny_pure (wpAny_bind (L0.at (wpAny_bind (L3.at ?_)))))
  show wpAny _ _ (holding [Value.builtin "object.__class__"] (call (.builtin "getset_descriptor.__get__") [.builtin "object.__class__", .ref x, .ref D]) >>= ret) _ _ _
  refine wpAny_bind (wpAny_holding (wpAny_call (PySem.W.class_get (s := ⟨hp, g, d, t + 1, os⟩) (ox := ox) (od := od) X I C.hm ?_)))
  refine wpAny_pure ?_
  show wpAny _ _ (handedOut (.ref D)) _ _ _
  rw [PySem.W.handedOut_of (v := .ref D) rfl]
  first
    | exact wpAny_pure (wpAny_pure h)
    | exact wpAny_pure h
    | exact wpAny_pure (wpAny_bind (wpAny_pure (wpAny_pure h)))
theorem kit_exc (C : ExcC K D) : PySem.W.KitX K (.ref x) (.ref D) (fun h => PySem.W.InstAt h x ox D od) where
  ty := fun _ _ _ I => I.type
  it := fun _ _ X _ => by
    obtain ⟨cdD, hcD, _⟩ := PySem.W.any_some C.hd
    unfold PySem.W.clsIn at hcD
    split at hcD
    · rename_i c' d' cd' sl' ho
      intro A' Q' E' s' k q
      unfold isType loadHead
      exact wpAny_bind (wpAny_loadPart (k _ _ (X _ _ ho)) (wpAny_pure q))
    · cases hcD
  ne := fun h tp dd its n sl X htp => by
    obtain ⟨cdD, hcD, _⟩ := PySem.W.any_some C.hd
    refine Bool.eq_false_iff.mpr fun q => ?_
    have e : D = tp := Value.ref.inj (beq_iff_eq.mp q)
    subst e
    unfold PySem.W.clsIn at hcD
    split at hcD
    · rename_i c' d' cd' sl' ho
      have z := (X _ _ ho).symm.trans htp
      cases z
    · cases hcD
  ca := fun X I k => class_read C X I k
end
/-- isinstance(e, c): e the exception at a, of the class at D, its dict at dd -/
def rIsX (K : PySem.W.Frag) (D a dd : Addr) : List V → Hp → VK → Prop := fun xs H Q => ∃ (c : V) (cv : Value) (fs : List (Str × V)) (b : Bool), xs = [.ref a, c] ∧ ClsV c cv ∧ H dd = some (.xd fs) ∧ PySem.W.kitOne K (.ref D) cv = some b ∧ Q (.bl b) H
theorem inst_at {X : Cx} {pins : List (Addr × Obj)} {σ : L2.St} {H : Hp} {s : Shared} {p : Addr × Obj} {D dd : Addr} {fs : List (Str × V)} (I : Inv X pins σ H s) (hp : p ∈ X.pn) (hz : Zc (.ref D) (some dd) p.2) (hf : ∃ vs, p.2.data = .fields vs) (e : H dd = some (.xd fs)) :
    ∃ od, PySem.W.InstAt s.heap p.1 p.2 D (some od) ∧ ∀ f v, fs.lookup f = some v → ∃ u, PySem.W.lookIn f od = some (some u) ∧ RelV v u := by
  obtain ⟨ha, _⟩ := I.pin p (List.mem_append_left _ hp)
  obtain ⟨vs, hd⟩ := hf
  have hx : ObjOk X.prog X.w H s.heap dd (.xd fs) := I.hok dd _ e
  obtain ⟨mA, hns, hr⟩ := hx
  obtain ⟨od, ho, hl⟩ := lookIn_ns hns
  refine ⟨od, ⟨ha, hz.1, by unfold PySem.W.notCls; rw [hd] <;> rfl, by rw [hz.2]; exact ho⟩, fun f v l => ?_⟩
  obtain ⟨u, hu, ru⟩ := RelO.some_of (v := v) (o := mA f) (by rw [← l]; exact hr f)
  exact ⟨u, by rw [hl, hu], ru⟩
theorem call_isX {X : Cx} {D dd : Addr} {p : Addr × Obj} (C : ExcC X.K D) (hp : p ∈ X.pn) (hz : Zc (.ref D) (some dd) p.2) (hf : ∃ vs, p.2.data = .fields vs) : CallR X (.builtin "isinstance") (rIsX X.K D p.1 dd) := by
  intro pins s σ H xs us Q I r h
  obtain ⟨c, cv, fs, b, rfl, k, ed, e, q⟩ := h
  obtain ⟨u1, u2, rfl, r1, r2⟩ := vals2 r
  have e2 := k.eq r2
  subst e2
  cases (show u1 = Value.ref p.1 from r1)
  obtain ⟨od, J, _⟩ := inst_at I hp hz hf ed
  exact PySem.W.kia_one (kit_exc C) I.kIn J e (fun z => nomatch z) fun tk => ⟨.bl b, H, I.tok tk, rfl, q⟩

/-! ### e.f -/
def tXfX (p : Addr × Obj) (D dd : Addr) (f : Str) (te : TE) : TE := fun σ H Q => te σ H fun x H1 => x = .ref p.1 ∧ ∃ (fs : List (Str × V)) (v : V), H1 dd = some (.xd fs) ∧ fs.lookup f = some v ∧ Q v H1
theorem pe_xfX {X : Cx} {D dd : Addr} {p : Addr × Obj} {e : Expr} {te : TE} {pos : Pos} {n : Str} (T : XfC X.K D) (hno : PySem.W.findIn X.K (.ref D) n = some none) (hp : p ∈ X.pn) (hz : Zc (.ref D) (some dd) p.2) (hf : ∃ vs, p.2.data = .fields vs)
    (he : PE X e te) (hb : attributeBase e n X.env (eval e X.env) = eval e X.env := by rfl) : PE X (.Attribute e n pos) (tXfX p D dd n te) := by
  refine ⟨fun pins s σ H Q I h => ?_⟩
  refine attr_of hb (thn (he.run pins s σ H _ I h) fun u s1 ⟨x, H1, I1, rx, ex, fs, v, ed, l, q⟩ => ?_)
  subst ex
  obtain rfl : u = Value.ref p.1 := rx
  obtain ⟨od, J, lk⟩ := inst_at I1 hp hz hf ed
  obtain ⟨y, hy, ry⟩ := lk n v l
  exact HandSPX.exc_get I1.kIn J T.ga T.gg T.exC (PySem.W.findObj_own T.hdC hno rfl hy) (handed_of ry) ⟨v, H1, I1.tok _, ry, q⟩

/-! ### a def that is called while p is handled; its promise may speak of p -/
structure FnE (P : Program) (w : World) (K : PySem.W.Frag) (mg : Str → Option Value) (base : Heap) (k : Nat) (f : Addr) (fd : FuncData) (ps : List Str) (sp : Addr × Obj → Sp) : Prop where
  len : ∀ p vs H Q E, sp p vs H Q E → vs.length = ps.length
  run : ∀ (A : Around) (outer : List Env) (s : Shared) (H : Hp) (args : Args) (us : List Value) (vs : List V) (Q : VK) (E : XK) (p : Addr × Obj), L2H.RoomH k A → L2H.Hot1 A p → L2H.PinOk outer H s p → Env0 P w K mg base A outer s H → BindsTo s fd args (ps.zip us) →
    Vals vs us → sp p vs H Q E → codeAny (model P w) A (.call (.ref f) args) (CR CX0 outer P w H s Q E) s
theorem fn_ofE {P : Program} {w : World} {K : PySem.W.Frag} {mg : Str → Option Value} {base : Heap} {k : Nat} {f : Addr} {x qual : Str} {st : Stmt} {fd : FuncData} {N ps : List Str} {sp : Addr × Obj → Sp} (F : Fun K x qual st f fd) (S : FnScope N ps (defScope st))
    (len : ∀ p vs H Q E, sp p vs H Q E → vs.length = ps.length)
    (hbody : ∀ (cdv : Value) (A : Around) (outer : List Env) (s : Shared) (H : Hp) (vs : List V) (Q : VK) (E : XK) (p : Addr × Obj), L2H.Hot1 A p → L2H.RoomH k (A.deeper (envOfC qual (defScope st) s.heap.objs.size f cdv)) → sp p vs H Q E →
      ∃ t, PSs (L2H.cxH CX0 P w K mg base N qual (defScope st) f cdv A outer s H E p).nox (defBody st) t ∧ t { nx := fun _ H' => Q .non H', rt := Q } (start N vs) H) : FnE P w K mg base (k + 1) f fd ps sp := by
  refine ⟨len, fun A outer s H args us vs Q E p hr hot hpin e0 hb r hsp => ?_⟩
  obtain ⟨oc, od, kV, doc, pm, an, cdv, ct, osl, rfl, lk, hcd⟩ := F.ex
  have hl := len _ _ _ _ _ hsp
  have old : ∀ b o, base.get? b = some o → s.heap.get? b = some o := fun b o e => (e0.bs b o e).1
  have KX : K.In s.heap := e0.mod.kin.keeps old
  have hkind : ∀ y ∈ ps.zip us, (defScope st).names.lookup y.1 = some .local ∨ ((defScope st).names.lookup y.1 = some .cell ∧ ((cellsFrom (s.heap.objs.size + 1) (defScope st).names []).lookup y.1).isSome = true) := fun y hy =>
    (S.par y.1 (List.of_mem_zip (show (y.1, y.2) ∈ ps.zip us from hy)).1).imp id fun q => ⟨q, PySem.W.cellsFrom_some _ _ _ (.inl q)⟩
  refine codeAny_call_function hr.depth (KX _ _ lk) rfl S.co S.gen rfl (PySem.W.codeRec_of KX hcd) (hb _ _ _ _ (wpAny_newFunctionEnv_cells S.kind hkind fun env he s1 z => ?_))
  subst he
  refine ⟨(e0.mod.nolimit.keeps old).keeps z.toInCall.keep, codeAny_func ?_⟩
  obtain ⟨t, ht, hq⟩ := hbody cdv A outer s H vs Q E p hot (hr.deeper _) hsp
  have I := L2H.inv_startH (CX := CX0) (E := E) S hpin e0 hl r z
  refine wpAny_mono (ht.nox.run [] s1 (start N vs) H _ I hq) (fun fl s' hs => ?_) fun e s' hs => hs
  match fl, hs with
  | .ret u, ⟨v, σ', H', J, rv, q⟩ => exact ⟨v, H', J.os, J.bare, J.base, J.hok, rv, q⟩
  | .next, ⟨σ', H', J, q⟩ => exact ⟨V.non, H', J.os, J.bare, J.base, J.hok, rfl, q⟩
  | .brk, ⟨_, _, _, q⟩ => exact False.elim q
  | .cont, ⟨_, _, _, q⟩ => exact False.elim q
/-- f(e, ..) while p is handled -/
def tCallE (sp : Addr × Obj → Sp) (p : Addr × Obj) (t : TA) : TE := fun σ H Q => t σ H fun vs H1 => sp p vs H1 Q E0
theorem pe_callE {X : Cx} {k : Nat} {f : Addr} {fd : FuncData} {ps : List Str} {sp : Addr × Obj → Sp} {x : Str} {qs pos : Pos} {e : Expr} {es : List Expr} {t : TA} {p : Addr × Obj} (F : FnE X.prog X.w X.K X.mg X.base k f fd ps sp) (hr : L2H.RoomH k X.A) (hot : L2H.Hot1 X.A p) (hp : p ∈ X.pn)
    (hg : Gl X x) (hm : X.mg x = some (.ref f)) (hk : PySem.W.keepIn X.K (.ref f) = true) (hb : Binds X.K fd ps []) (ha : PA X (e :: es) t) (hdb : (x == ("__debug__" : Str)) = false := by decide)
    (he : starEach (e :: es) X.env = (false, eval e X.env) :: starEach es X.env := by rfl) (hpl : (backTo pos (starEach es X.env)).any (·.1) = false := by rfl) : PE X (.Call (.Name x qs) (e :: es) [] pos) (tCallE sp p t) := by
  refine ⟨fun pins s σ H Q I h => ?_⟩
  refine wpAny_Call_Name_kw (ld_glob I hg hm ?_ hdb)
  refine PySem.W.callWith_K (h₀ := X.base) I.ok.mod.kin hk (thn (ha.run pos pins s σ H _ I h) fun us s1 ⟨vs, H1, I1, r, q⟩ => ⟨I1.kIn, ?_⟩) he hpl
  have hl : us.length = ps.length := by rw [← r.length]; exact F.len _ _ _ _ _ q
  have b := hb s1 us I1.kIn (by rw [List.append_nil]; exact hl)
  rw [List.append_nil] at b
  have P1 := I1.pin p (List.mem_append_left _ hp)
  have hpin : L2H.PinOk X.stack H1 s1 p := ⟨P1.1, P1.2.1, fun hm => (List.mem_cons.mp (I1.stkSub p.1 hm)).elim P1.2.2.1 P1.2.2.2.1, P1.2.2.2.2⟩
  refine wpAny_call (codeAny_mono (F.run X.A X.stack s1 H1 ⟨us, []⟩ us vs Q E0 p hr hot hpin I1.env0 b r q) fun r s' hq => ?_)
  match r, hq with
  | .ok (.ret u), hq => exact I1.after hq
  | .error e, hq => exact False.elim hq
  | .ok .next, hq => exact False.elim hq
  | .ok .brk, hq => exact False.elim hq
  | .ok .cont, hq => exact False.elim hq
end KxE
set_option Elab.async false
set_option linter.all false
set_option maxRecDepth 100000
set_option maxHeartbeats 4000000
/-! A list comprehension over range(n) while an error is handled. -/
namespace KxE
open PySem PySem.Spec PySem.Calls PyProof.Rows L2
/-- the block's context: as the calm one's, p pinned -/
abbrev blkE (X : Cx) (p : Addr × Obj) (s : Shared) (H : Hp) (scope : Scope) (cenv : Env) (fp : List Addr) : Cx := (X.blk s H scope cenv fp).tr [p] (fun _ _ => False)
theorem pe_lcE {X : Cx} {p : Addr × Obj} {elt tg iter : Expr} {ifs : List Expr} {scope : Scope} {own : List (Str × Nat)} {pos : Pos} {wi : TI} {g : TG} {tt : TT} {te : TE} (hot : L2H.Hot1 X.A p) (hp : p ∈ X.pn) (hN : X.N.Nodup) (hi : L2H.PIH X tg iter wi) (ok : BlkOk X.N X.env.scope scope own)
    (hg : ∀ (s : Shared) (H : Hp) (C : Addr) (cl : List (Str × Addr)) (fp : List Addr), PG (blkE X p s H scope (compEnvC scope cl C X.env) fp) tg g)
    (ht : ∀ (s : Shared) (H : Hp) (C : Addr) (cl : List (Str × Addr)) (fp : List Addr), PTs (blkE X p s H scope (compEnvC scope cl C X.env) fp) ifs tt)
    (he : ∀ (s : Shared) (H : Hp) (C : Addr) (cl : List (Str × Addr)) (fp : List Addr), PE (blkE X p s H scope (compEnvC scope cl C X.env) fp) elt te) (hs : ∀ x, foldedSetIterable iter X.env x = pure x := by intro _; rfl) :
    PE X (.ListComp elt [⟨tg, iter, ifs, 0⟩] scope pos) (tLc wi g tt te (own.map (·.2))) := by
  refine ⟨fun pins s σ H Q I h => ?_⟩
  rw [eval_ListComp]
  have hfree : ∀ y ∈ scope.names, y.2 = .free → ∃ c, X.env.cells.lookup y.1 = some c := fun y hy e =>
    (ok.free y hy e).elim (fun k => I.ok.has _ (.inl k)) fun k => I.ok.has _ (.inr k)
  refine wpAny_comprehension_free (use := none) rfl hs (closure_ok hfree) ok.kind (fun y hy e => by rw [ok.uniq y hy, e])
    (thn (hi.run pins s σ H _ I h) fun xv s1 hx => thn hx fun itv s2 h2 => ?_)
  obtain ⟨it, fp, tn, J, H2, e, I2, T, st2, f2, q⟩ := h2
  subst e
  refine wpAny_newObj_type (newEnv_comp ?_) (by show 0 ≤ sizeLine; decide)
  generalize hD : s2.heap.objs.size = D
  have hDn : H2 D = none := I2.hok.fresh (Nat.le_of_eq hD)
  obtain ⟨W, ⟨m0, w0⟩, turn⟩ := q D hDn
  generalize hs3 : ({ s2 with heap := s2.heap.push { cls := .type "list", data := .seq ([] : List Value).toArray } } : Shared) = s3
  have I3 : Inv X pins σ (upd H2 D (.lst [])) s3 := by
    rw [← hs3]
    refine I2.laid (t' := s2.toks) (fun b o e => Heap.get?_push_of_some _ e) (Nat.le_of_eq hD) ⟨Nat.zero_le _, [], 0, .nil, ?_⟩
    rw [← hD]
    exact Heap.get?_push_size _ rfl
  have h3 : s3.heap = s2.heap.push { cls := .type "list", data := .seq ([] : List Value).toArray } := by rw [← hs3]
  have f3 : ∀ b ∈ fp, FpOk X pins (upd H2 D (.lst [])) b ∧ b < s3.heap.objs.size := fun b hb => by
    obtain ⟨o, e, _⟩ := T.obj _ _ st2 b hb
    have hlt := Heap.lt_size e
    refine ⟨⟨?_, (f2 b hb).2⟩, by rw [h3, Heap.size_push]; exact Nat.lt_succ_of_lt hlt⟩
    rw [upd_ne (by rw [← hD]; exact Nat.ne_of_lt hlt)]
    exact (f2 b hb).1
  have st3 : tn 0 s3.heap := T.keep _ _ _ st2 fun b _ o e => by rw [h3]; exact Heap.get?_push_of_some _ e
  have I4 := block_start I3 ok hN f3
  have pg := hg s3 (upd H2 D (.lst [])) s3.heap.objs.size (cellsFrom (s3.heap.objs.size + 1) scope.names (cloFrom X.env.cells scope.names [])) fp
  have pt := ht s3 (upd H2 D (.lst [])) s3.heap.objs.size (cellsFrom (s3.heap.objs.size + 1) scope.names (cloFrom X.env.cells scope.names [])) fp
  have pe := he s3 (upd H2 D (.lst [])) s3.heap.objs.size (cellsFrom (s3.heap.objs.size + 1) scope.names (cloFrom X.env.cells scope.names [])) fp
  show codeAny _ _ (.compStart (.ListComp elt [⟨tg, iter, ifs, 0⟩] scope pos) 0 (.ref it) (.ref D) (compEnvC scope (cellsFrom (s3.heap.objs.size + 1) scope.names (cloFrom X.env.cells scope.names [])) s3.heap.objs.size X.env))
    (compPost (model X.prog X.w) X.A X.xe none (EP X pins σ Q) (.ref D) s3.heap.objs.size) { s3 with heap := pushCells (s3.heap.push { cls := .type "dict", data := .dict #[] }) scope.names }
  have nfp : ∀ b ∈ fp, (upd H2 D (.lst [])) b = none := fun b hb => (f3 b hb).1.1
  generalize hce : compEnvC scope (cellsFrom (s3.heap.objs.size + 1) scope.names (cloFrom X.env.cells scope.names [])) s3.heap.objs.size X.env = ce at I4 pg pt pe ⊢
  have cL : ce.locals = s3.heap.objs.size := by subst hce; rfl
  generalize hH3 : upd H2 D (.lst []) = H3 at I3 I4 pg pt pe w0 nfp f3
  generalize hs4 : ({ s3 with heap := pushCells (s3.heap.push { cls := .type "dict", data := .dict #[] }) scope.names } : Shared) = s4 at I4 ⊢
  have kp4 : ∀ b o, s3.heap.get? b = some o → s4.heap.get? b = some o := fun b o e => by rw [← hs4]; exact pushCells_keeps _ _ _ _ (Heap.get?_push_of_some _ e)
  have st4 : tn 0 s4.heap := T.keep _ _ _ st3 fun b _ o e => kp4 b o e
  -- p is pinned in the block too
  have P3 := I3.pin p (List.mem_append_left _ hp)
  have I5 : Inv (blkE X p s3 H3 scope ce fp) [] (wipe σ (own.map (·.2))) H3 s4 := (I4.pins_of (pins' := [p]) fun r hr => by
    have er : r = p := by simpa using hr
    subst er
    refine ⟨kp4 _ _ P3.1, P3.2.1, ?_, fun hm => ?_, P3.2.2.2.2⟩
    · show r.1 ≠ ce.locals
      rw [cL]
      exact Nat.ne_of_lt (Heap.lt_size P3.1)
    · exact (List.mem_cons.mp (I3.stkSub r.1 hm)).elim P3.2.2.1 P3.2.2.2.1).toTry _
  have npf : ∀ b ∈ fp, p.1 ≠ b := fun b hb => (f3 b hb).1.2.2.2.2.2 p (List.mem_append_left _ hp)
  have stat : ∀ {σ' : L2.St} {H' : Hp} {s' : Shared}, Inv (blkE X p s3 H3 scope ce fp) [] σ' H' s' → (∀ b ∈ fp, H' b = none) → ∀ b ∈ fp, FpOk (blkE X p s3 H3 scope ce fp) [] H' b := fun {σ' H' s'} I' hn b hb =>
    ⟨hn b hb, (I'.ok.exf b hb).1, I'.ok.exfs b hb, .inl hb, fun x c e => (I'.ok.exf b hb).2 x c e, fun r hr => by
      have er : r = p := by simpa using (show r ∈ [p] ++ ([] : List (Addr × Obj)) from hr)
      subst er
      exact npf b hb⟩
  have hc : L2H.HotC (blkE X p s3 H3 scope ce fp) := ⟨p, hot, List.mem_cons_self⟩
  have loop : codeAny (model X.prog X.w) X.A (.compLoop (.ListComp elt [⟨tg, iter, ifs, 0⟩] scope pos) 0 (.ref it) (.ref D) ce) (compPost (model X.prog X.w) X.A X.xe none (EP X pins σ Q) (.ref D) s3.heap.objs.size) s4 := by
    refine compLoop_any (fun n s' => ∃ i H', Inv (blkE X p s3 H3 scope ce fp) [] (wipe σ (own.map (·.2))) H' s' ∧ tn i s'.heap ∧ (∀ b ∈ fp, H' b = none) ∧ W i n H') ?_ m0 ⟨0, H3, I5, st4, nfp, w0⟩
    rintro n s5 ⟨i, H5, I5, st5, n5, w5⟩
    rcases turn i n H5 w5 with ⟨stop, qq⟩ | ⟨go, Nx, hNx, step⟩
    · have td := T.done (blkE X p s3 H3 scope ce fp) rfl rfl rfl hc i [] s5 _ H5 (fun _ _ => False) I5 (stat I5 n5) st5 stop
      refine thnF td fun r s6 ⟨hr, I6⟩ => ?_
      subst hr
      have I7 : Inv X pins σ H5 s6 := I3.call' (ch := fp) I6.os I6.base I6.hok I6.bare fun b hb => ⟨(f3 b hb).1.2.2.2.1, (f3 b hb).1.2.1, (f3 b hb).1.2.2.2.2.1, (f3 b hb).1.2.2.2.2.2⟩
      have nC : H5 s3.heap.objs.size = none := by
        have z : H5 ce.locals = none := I6.free
        rw [cL] at z
        exact z
      obtain ⟨m, hn, _⟩ := I6.loc
      have hn : s6.heap.Ns ce.locals m := hn
      rw [cL] at hn
      obtain ⟨f0, f1, f2, f3, f4, f5⟩ := I3.fpOk (Nat.le_refl _) nC
      exact ⟨m, hn, fun h'' sb => ⟨.ref D, H5, I7.turned (t' := s6.toks) (fun b o hb e => (sb.2 b hb).trans e) f0 f1 f3 f4 f5, rfl, qq⟩⟩
    · have ti := T.item (blkE X p s3 H3 scope ce fp) rfl rfl rfl hc i [] s5 _ H5 (fun _ _ => False) I5 (stat I5 n5) st5 go
      refine thnF ti fun r s6 ⟨u, hr, h6⟩ => ?_
      subst hr
      refine thnF h6 fun _ s7 ⟨x, H7, I7, r7, y7, st7, n7⟩ => ?_
      have I7' := I7.pinned (stat I7 n7) (T.obj _ _ st7)
      refine thnF (pg.run _ s7 _ H7 x u _ I7' r7 (step x H7 y7)) fun _ s8 ⟨σ8, H8, I8, hw8, q8⟩ => ?_
      refine thnF (pt.run _ s8 σ8 H8 _ I8 q8) fun b s9 ⟨H9, I9, q9⟩ => ?_
      have fin : ∀ {s' : Shared} {H' : Hp}, Inv (blkE X p s3 H3 scope ce fp) ([] ++ pinsAt fp s7.heap) σ8 H' s' → Nx H' → ∃ m, m < n ∧ ∃ i H', Inv (blkE X p s3 H3 scope ce fp) [] (wipe σ (own.map (·.2))) H' s' ∧ tn i s'.heap ∧ (∀ b ∈ fp, H' b = none) ∧ W i m H' := fun {s' H'} I' nx => by
        obtain ⟨m', hm, w'⟩ := hNx H' nx
        have pin' : ∀ b ∈ fp, ∀ o, s7.heap.get? b = some o → s'.heap.get? b = some o ∧ H' b = none := fun b hb o e =>
          let z := I'.pin (b, o) (List.mem_append_right _ (List.mem_append_right _ (mem_pinsAt hb e)))
          ⟨z.1, z.2.1⟩
        have hl : (wipe σ (own.map (·.2))).length = σ8.length := by rw [← hw8, wipe_length]
        refine ⟨m', hm, i + 1, H', (I'.unpinned (pins := [])).weak hl (fun j v e => ?_), T.keep _ _ _ st7 fun b hb o e => (pin' b hb o e).1, fun b hb => ?_, w'⟩
        · rw [← hw8] at e
          exact (wipe_some e).1
        · obtain ⟨o, e, _⟩ := T.obj _ _ st7 b hb
          exact (pin' b hb o e).2
      cases b with
      | false =>
        simp only [Bool.false_eq_true, if_false] at q9 ⊢
        exact fin I9 q9
      | true =>
        simp only [if_true] at q9 ⊢
        refine thnF (pe.run _ s9 σ8 H9 _ I9 q9) fun z s10 ⟨yv, H10, I10, r10, acc, hD10, hz10, nx⟩ => ?_
        exact app_ok (X := blkE X p s3 H3 scope ce fp) I10 hD10 hz10 r10 fun s11 I11 => fin I11 nx
  exact codeAny_compStart_list loop (T.self X.A 0 _ _ _ st4 loop)
end KxE
set_option Elab.async false
set_option linter.all false
set_option maxRecDepth 100000
set_option maxHeartbeats 4000000
/-! raise C(e, ..), C's own __init__ walked, where nothing is handled; what leaves the def bears no context. -/
namespace KxE
open PySem PySem.Spec PySem.Calls PyProof.Rows L2
theorem pmk_oexN {X : Cx} {x : Str} {e : Expr} {es : List Expr} {ta : TA} {p pos : Pos} {C fI : Addr} {k : Nat} {fd : FuncData} {ps : List Str} {sp : Sp} (T : OexC X.K C) (iC : PySem.W.findIn X.K (.ref C) "__init__" = some (some (.ref fI)))
    (tI : PySem.W.typeIn X.K (.ref fI) = some (.type "function")) (F1 : FnOk X.prog X.w X.K X.mg X.base CX0 k fI fd ps sp) (hr : Room (k + 1) X.A) (hb : Binds X.K fd ps []) (hg : Gl X x) (hm : X.mg x = some (.ref C)) (ha : PA X (e :: es) ta)
    (hdb : (x == ("__debug__" : Str)) = false := by decide) (he : starEach (e :: es) X.env = (false, eval e X.env) :: starEach es X.env := by rfl) (hpl : (backTo pos (starEach es X.env)).any (·.1) = false := by rfl) :
    L2N.PMk X (.Call (.Name x p) (e :: es) [] pos) (tMkO C sp [] ta) := by
  intro pins s σ H Q I h
  obtain ⟨nm, q, N, bs, bm, sn, sub, ab, col, dd, k0, k1, k2, k3, k5, hC, hbm⟩ := T.cls
  refine wpAny_Call_Name_kw (ld_glob I hg hm ?_ hdb)
  refine PySem.W.callWith_K (h₀ := X.base) I.ok.mod.kin T.kC (thn (ha.run pos pins s σ H _ I h) fun us s1 ⟨vs, H1, I1, r1, hz, q1⟩ => ⟨I1.kIn, ?_⟩) he hpl
  show wpAny _ _ (call (.ref C) us) _ _ _
  obtain ⟨hp, g, dr, tk, os⟩ := s1
  have hsz : hp.objs.size ≤ hp.objs.size + 1 := Nat.le_succ _
  have hn : H1 (hp.objs.size + 1) = none := I1.hok.fresh hsz
  have hq := q1 (hp.objs.size + 1) hn
  rw [List.append_nil] at hq
  have kk : ∀ b o, hp.get? b = some o → ((hp.push (PySem.W.kdv_tup us)).push (PySem.HandSPX.excO C hp.objs.size)).get? b = some o := fun b o e => Heap.get?_push_of_some _ (Heap.get?_push_of_some _ e)
  have hget : ((hp.push (PySem.W.kdv_tup us)).push (PySem.HandSPX.excO C hp.objs.size)).get? (hp.objs.size + 1) = some (PySem.HandSPX.excO C hp.objs.size) := by heap_get
  have I2 : Inv X pins σ (upd H1 (hp.objs.size + 1) (exo (hp.objs.size + 1) C none)) ⟨(hp.push (PySem.W.kdv_tup us)).push (PySem.HandSPX.excO C hp.objs.size), g, dr, tk, os⟩ :=
    I1.laid (t' := tk) (a := hp.objs.size + 1) (o := exo (hp.objs.size + 1) C none) (h' := (hp.push (PySem.W.kdv_tup us)).push (PySem.HandSPX.excO C hp.objs.size)) kk hsz (exo_ok hget)
  have r2 : Vals (V.ref (hp.objs.size + 1) :: vs) (Value.ref (hp.objs.size + 1) :: us) := .cons rfl r1
  have hl : (Value.ref (hp.objs.size + 1) :: us ++ []).length = ps.length := by
    have e := r2.length
    rw [F1.len _ _ _ _ hq] at e
    rw [List.append_nil]
    exact e.symm
  have hus : us.length ≤ sizeLine := by
    rw [← Paired.length r1, sizeLine_eq]
    omega
  have b2 := hb _ (Value.ref (hp.objs.size + 1) :: us) I2.kIn hl
  rw [List.append_nil] at b2
  refine wpAny_call (PySem.HandSPX.call_own F.excBase_ValueError (fun Y => PySem.HandSPX.refsVE_contains Y bm hbm) (I1.kIn _ _ hC) (PySem.W.looks_findIn I1.kIn iC) (fun self => PySem.W.bind_fn I1.kIn self tI) hus
    (codeAny_mono (F1.run _ X.stack _ _ ⟨Value.ref (hp.objs.size + 1) :: us, []⟩ (Value.ref (hp.objs.size + 1) :: us) _ _ (fun _ _ _ => False) (hr.make C us []) (I2.env0.make C us []) b2 r2 hq) fun r s' hq' => ?_))
  match r, hq' with
  | .ok (.ret u), hq' =>
    obtain ⟨v, H2, os2, bare2, un2, hok2, rv, ev, d, fs, ea, ed, hd1, q2⟩ := hq'
    subst ev
    obtain ⟨h2, g2, d2, t2, os'⟩ := s'
    obtain ⟨t0, G, J, kG, ge, hoe, na⟩ := mk_end0 (d2 := d2) (t2 := t2) I1 hsz kk un2 hok2 os2 bare2 ea ed hd1
    refine ⟨rv, hp.objs.size + 1, _, _, ⟨G, g2, d2, t2, os'⟩, _, .ref C, some d, rfl, J, kG, ge, hoe, ⟨rfl, rfl, fun vs hv => ?_⟩, rfl, rfl, na, rfl, bare2, raises_own T.exC T.tyC, q2⟩
    cases hv
    rfl
  | .error er, hq' => exact False.elim hq'
  | .ok .next, hq' => exact False.elim hq'
  | .ok .brk, hq' => exact False.elim hq'
  | .ok .cont, hq' => exact False.elim hq'
end KxE
set_option Elab.async false
set_option linter.all false
set_option maxRecDepth 100000
set_option maxHeartbeats 4000000
/-! The text by names: statements, slots, scopes; what the top holds, by names. -/
namespace Kx
open PySem PySem.Spec PyProof.Rows L2
open KxH (topS)

abbrev s_whole : Stmt := topS 24
abbrev s_degree_fits : Stmt := topS 25
abbrev s_odd_prime_fits : Stmt := topS 26
abbrev s_smallest_factor : Stmt := topS 27
abbrev s_power_residue : Stmt := topS 28
abbrev s_root_fits : Stmt := topS 29
abbrev s_whole_between : Stmt := topS 31
abbrev s_check_residues : Stmt := topS 32
abbrev s_check_polynomial : Stmt := topS 33
abbrev s_layer_lengths : Stmt := topS 34
abbrev s_turned_numbers : Stmt := topS 35
abbrev s_root_powers : Stmt := topS 36
abbrev s_factor_roots : Stmt := topS 37
abbrev s_split_row : Stmt := topS 38
abbrev s_join_row : Stmt := topS 39
abbrev s_spectrum_row : Stmt := topS 40
abbrev s_polynomial_row : Stmt := topS 41
abbrev s_to_spectrum : Stmt := topS 42
abbrev s_times_pair : Stmt := topS 43
abbrev s_times_row : Stmt := topS 44
abbrev s_multiply_fast : Stmt := topS 45
abbrev s_check_poly : Stmt := topS 47
abbrev s_sum_items : Stmt := topS 48
abbrev s_product_items : Stmt := topS 49
abbrev s_add : Stmt := topS 50
abbrev s_multiply_plain : Stmt := topS 51
abbrev s_ring_fault : Stmt := topS 53
abbrev s__law_begin : Stmt := topS 56
abbrev s__law_mixed : Stmt := topS 57
abbrev s__law_take : Stmt := topS 58
abbrev s__law_wide : Stmt := topS 59
abbrev s__law_pick : Stmt := topS 60
abbrev s__law_between : Stmt := topS 61
abbrev s__law_other : Stmt := topS 62
abbrev s__law_beyond : Stmt := topS 63
abbrev s__law_same : Stmt := topS 64
abbrev s__law_spoil : Stmt := topS 65
abbrev s__law_kin : Stmt := topS 66
abbrev s__law_prime : Stmt := topS 67
abbrev s__law_power : Stmt := topS 68
abbrev s__law_backward : Stmt := topS 69
abbrev s__law_root : Stmt := topS 70
abbrev s__law_item : Stmt := topS 71
abbrev s__law_poly : Stmt := topS 72
abbrev s__law_times : Stmt := topS 73
abbrev s__law_log : Stmt := topS 74
abbrev s__law_factor : Stmt := topS 75
abbrev s__law_refused : Stmt := topS 76
abbrev s__law_prime_for : Stmt := topS 77
abbrev s__law_some_ring : Stmt := topS 78
abbrev s__law_two_rings : Stmt := topS 79
abbrev s__law_spoilt : Stmt := topS 80
abbrev s__law_rest : Stmt := topS 81
abbrev s__law_rests : Stmt := topS 82
abbrev s__law_joined : Stmt := topS 83
abbrev s__law_sum : Stmt := topS 84
abbrev s__law_pairs_times : Stmt := topS 85
abbrev s__law_call : Stmt := topS 86
abbrev s__law_product_holds : Stmt := topS 87
abbrev s__law_spectra_hold : Stmt := topS 88
abbrev s__law_refusals_hold : Stmt := topS 89
abbrev s_law : Stmt := topS 90
abbrev s_Ring_init : Stmt := inClass (topS 54) 0
abbrev s_Ring_n : Stmt := inClass (topS 54) 2
abbrev s_Ring_q : Stmt := inClass (topS 54) 3
abbrev s_Ring_root : Stmt := inClass (topS 54) 4
abbrev s_BadItem_init : Stmt := inClass (topS 4) 0
abbrev s_BadLength_init : Stmt := inClass (topS 5) 0
abbrev N_whole : List Str := ["value"]
theorem sc_whole : FnScope N_whole ["value"] (defScope s_whole) := ⟨rfl, rfl, rfl, by decide +kernel, rfl, by decide +kernel, by decide +kernel⟩
abbrev N_degree_fits : List Str := ["n"]
theorem sc_degree_fits : FnScope N_degree_fits ["n"] (defScope s_degree_fits) := ⟨rfl, rfl, rfl, by decide +kernel, rfl, by decide +kernel, by decide +kernel⟩
abbrev N_odd_prime_fits : List Str := ["q"]
theorem sc_odd_prime_fits : FnScope N_odd_prime_fits ["q"] (defScope s_odd_prime_fits) := ⟨rfl, rfl, rfl, by decide +kernel, rfl, by decide +kernel, by decide +kernel⟩
abbrev N_smallest_factor : List Str := ["value", "divisor"]
theorem sc_smallest_factor : FnScope N_smallest_factor ["value"] (defScope s_smallest_factor) := ⟨rfl, rfl, rfl, by decide +kernel, rfl, by decide +kernel, by decide +kernel⟩
abbrev N_power_residue : List Str := ["base", "exponent", "q", "result", "square", "left"]
theorem sc_power_residue : FnScope N_power_residue ["base", "exponent", "q"] (defScope s_power_residue) := ⟨rfl, rfl, rfl, by decide +kernel, rfl, by decide +kernel, by decide +kernel⟩
abbrev N_root_fits : List Str := ["n", "q", "value"]
theorem sc_root_fits : FnScope N_root_fits ["n", "q", "value"] (defScope s_root_fits) := ⟨rfl, rfl, rfl, by decide +kernel, rfl, by decide +kernel, by decide +kernel⟩
abbrev N_whole_between : List Str := ["value", "low", "high"]
theorem sc_whole_between : FnScope N_whole_between ["value", "low", "high"] (defScope s_whole_between) := ⟨rfl, rfl, rfl, by decide +kernel, rfl, by decide +kernel, by decide +kernel⟩
abbrev N_check_residues : List Str := ["q", "count", "row", "index", "item"]
theorem sc_check_residues : FnScope N_check_residues ["q", "count", "row"] (defScope s_check_residues) := ⟨rfl, rfl, rfl, by decide +kernel, rfl, by decide +kernel, by decide +kernel⟩
abbrev N_check_polynomial : List Str := ["ring", "poly"]
theorem sc_check_polynomial : FnScope N_check_polynomial ["ring", "poly"] (defScope s_check_polynomial) := ⟨rfl, rfl, rfl, by decide +kernel, rfl, by decide +kernel, by decide +kernel⟩
abbrev N_layer_lengths : List Str := ["n", "lengths", "length"]
theorem sc_layer_lengths : FnScope N_layer_lengths ["n"] (defScope s_layer_lengths) := ⟨rfl, rfl, rfl, by decide +kernel, rfl, by decide +kernel, by decide +kernel⟩
abbrev N_turned_numbers : List Str := ["n", "turned", "number"]
theorem sc_turned_numbers : FnScope N_turned_numbers ["n"] (defScope s_turned_numbers) := ⟨rfl, rfl, rfl, by decide +kernel, rfl, by decide +kernel, by decide +kernel⟩
abbrev N_root_powers : List Str := ["ring", "q", "root", "powers"]
theorem sc_root_powers : FnScope N_root_powers ["ring"] (defScope s_root_powers) := ⟨rfl, rfl, rfl, by decide +kernel, rfl, by decide +kernel, by decide +kernel⟩
abbrev N_factor_roots : List Str := ["ring", "powers", "number"]
theorem sc_factor_roots : FnScope N_factor_roots ["ring"] (defScope s_factor_roots) := ⟨rfl, rfl, rfl, by decide +kernel, rfl, by decide +kernel, by decide +kernel⟩
abbrev N_split_row : List Str := ["ring", "powers", "turned", "row", "length", "q", "blocks", "answer", "block", "z", "start", "at", "x", "y"]
theorem sc_split_row : FnScope N_split_row ["ring", "powers", "turned", "row", "length"] (defScope s_split_row) := ⟨rfl, rfl, rfl, by decide +kernel, rfl, by decide +kernel, by decide +kernel⟩
abbrev N_join_row : List Str := ["ring", "powers", "turned", "row", "length", "q", "half", "blocks", "answer", "block", "back", "start", "at", "x", "y"]
theorem sc_join_row : FnScope N_join_row ["ring", "powers", "turned", "row", "length"] (defScope s_join_row) := ⟨rfl, rfl, rfl, by decide +kernel, rfl, by decide +kernel, by decide +kernel⟩
abbrev N_spectrum_row : List Str := ["ring", "row", "powers", "turned", "answer", "length"]
theorem sc_spectrum_row : FnScope N_spectrum_row ["ring", "row"] (defScope s_spectrum_row) := ⟨rfl, rfl, rfl, by decide +kernel, rfl, by decide +kernel, by decide +kernel⟩
abbrev N_polynomial_row : List Str := ["ring", "row", "powers", "turned", "answer", "length"]
theorem sc_polynomial_row : FnScope N_polynomial_row ["ring", "row"] (defScope s_polynomial_row) := ⟨rfl, rfl, rfl, by decide +kernel, rfl, by decide +kernel, by decide +kernel⟩
abbrev N_to_spectrum : List Str := ["ring", "poly"]
theorem sc_to_spectrum : FnScope N_to_spectrum ["ring", "poly"] (defScope s_to_spectrum) := ⟨rfl, rfl, rfl, by decide +kernel, rfl, by decide +kernel, by decide +kernel⟩
abbrev N_times_pair : List Str := ["q", "root", "first", "second", "a", "b", "c", "d"]
theorem sc_times_pair : FnScope N_times_pair ["q", "root", "first", "second"] (defScope s_times_pair) := ⟨rfl, rfl, rfl, by decide +kernel, rfl, by decide +kernel, by decide +kernel⟩
abbrev N_times_row : List Str := ["q", "roots", "first", "second", "answer", "at", "root", "one", "two", "low", "high"]
theorem sc_times_row : FnScope N_times_row ["q", "roots", "first", "second"] (defScope s_times_row) := ⟨rfl, rfl, rfl, by decide +kernel, rfl, by decide +kernel, by decide +kernel⟩
abbrev N_multiply_fast : List Str := ["ring", "first", "second", "one", "two"]
theorem sc_multiply_fast : FnScope N_multiply_fast ["ring", "first", "second"] (defScope s_multiply_fast) := ⟨rfl, rfl, rfl, by decide +kernel, rfl, by decide +kernel, by decide +kernel⟩
abbrev N_check_poly : List Str := ["ring", "poly", "q", "index", "item"]
theorem sc_check_poly : FnScope N_check_poly ["ring", "poly"] (defScope s_check_poly) := ⟨rfl, rfl, rfl, by decide +kernel, rfl, by decide +kernel, by decide +kernel⟩
abbrev N_sum_items : List Str := ["q", "first", "second", "one", "two"]
theorem sc_sum_items : FnScope N_sum_items ["q", "first", "second"] (defScope s_sum_items) := ⟨rfl, rfl, rfl, by decide +kernel, rfl, by decide +kernel, by decide +kernel⟩
abbrev N_product_items : List Str := ["q", "first", "second", "n", "signed", "backward", "product_list", "place", "window", "total", "item", "one", "two"]
theorem sc_product_items : FnScope N_product_items ["q", "first", "second"] (defScope s_product_items) := ⟨rfl, rfl, rfl, by decide +kernel, rfl, by decide +kernel, by decide +kernel⟩
abbrev N_add : List Str := ["ring", "first", "second"]
theorem sc_add : FnScope N_add ["ring", "first", "second"] (defScope s_add) := ⟨rfl, rfl, rfl, by decide +kernel, rfl, by decide +kernel, by decide +kernel⟩
abbrev N_multiply_plain : List Str := ["ring", "first", "second"]
theorem sc_multiply_plain : FnScope N_multiply_plain ["ring", "first", "second"] (defScope s_multiply_plain) := ⟨rfl, rfl, rfl, by decide +kernel, rfl, by decide +kernel, by decide +kernel⟩
abbrev N_ring_fault : List Str := ["n", "q", "root"]
theorem sc_ring_fault : FnScope N_ring_fault ["n", "q", "root"] (defScope s_ring_fault) := ⟨rfl, rfl, rfl, by decide +kernel, rfl, by decide +kernel, by decide +kernel⟩
abbrev N__law_begin : List Str := ["_law_script"]
theorem sc__law_begin : FnScope N__law_begin ["_law_script"] (defScope s__law_begin) := ⟨rfl, rfl, rfl, by decide +kernel, rfl, by decide +kernel, by decide +kernel⟩
abbrev N__law_mixed : List Str := ["_law_seed", "_law_turn", "_law_number"]
theorem sc__law_mixed : FnScope N__law_mixed ["_law_seed", "_law_turn"] (defScope s__law_mixed) := ⟨rfl, rfl, rfl, by decide +kernel, rfl, by decide +kernel, by decide +kernel⟩
abbrev N__law_take : List Str := ["_law_store", "_law_many", "_law_limit", "_law_cell", "_law_rest_here"]
theorem sc__law_take : FnScope N__law_take ["_law_store", "_law_many"] (defScope s__law_take) := ⟨rfl, rfl, rfl, by decide +kernel, rfl, by decide +kernel, by decide +kernel⟩
abbrev N__law_wide : List Str := ["_law_store", "_law_many", "_law_limit", "_law_number", "_law_span", "_law_turn"]
theorem sc__law_wide : FnScope N__law_wide ["_law_store", "_law_many"] (defScope s__law_wide) := ⟨rfl, rfl, rfl, by decide +kernel, rfl, by decide +kernel, by decide +kernel⟩
abbrev N__law_pick : List Str := ["_law_store", "_law_row"]
theorem sc__law_pick : FnScope N__law_pick ["_law_store", "_law_row"] (defScope s__law_pick) := ⟨rfl, rfl, rfl, by decide +kernel, rfl, by decide +kernel, by decide +kernel⟩
abbrev N__law_between : List Str := ["_law_store", "_law_low", "_law_high", "_law_span"]
theorem sc__law_between : FnScope N__law_between ["_law_store", "_law_low", "_law_high"] (defScope s__law_between) := ⟨rfl, rfl, rfl, by decide +kernel, rfl, by decide +kernel, by decide +kernel⟩
abbrev N__law_other : List Str := ["_law_store"]
theorem sc__law_other : FnScope N__law_other ["_law_store"] (defScope s__law_other) := ⟨rfl, rfl, rfl, by decide +kernel, rfl, by decide +kernel, by decide +kernel⟩
abbrev N__law_beyond : List Str := ["_law_store", "_law_low", "_law_high", "_law_kind"]
theorem sc__law_beyond : FnScope N__law_beyond ["_law_store", "_law_low", "_law_high"] (defScope s__law_beyond) := ⟨rfl, rfl, rfl, by decide +kernel, rfl, by decide +kernel, by decide +kernel⟩
abbrev N__law_same : List Str := ["_law_actual", "_law_expected", "_law_at"]
theorem sc__law_same : FnScope N__law_same ["_law_actual", "_law_expected"] (defScope s__law_same) := ⟨rfl, rfl, rfl, by decide +kernel, rfl, by decide +kernel, by decide +kernel⟩
abbrev N__law_spoil : List Str := ["_law_thing", "_law_item_here"]
theorem sc__law_spoil : FnScope N__law_spoil ["_law_thing"] (defScope s__law_spoil) := ⟨rfl, rfl, rfl, by decide +kernel, rfl, by decide +kernel, by decide +kernel⟩
abbrev N__law_kin : List Str := ["_law_error", "_law_flags", "_law_words", "_law_at"]
theorem sc__law_kin : FnScope N__law_kin ["_law_error"] (defScope s__law_kin) := ⟨rfl, rfl, rfl, by decide +kernel, rfl, by decide +kernel, by decide +kernel⟩
abbrev N__law_prime : List Str := ["_law_number", "_law_divisor"]
theorem sc__law_prime : FnScope N__law_prime ["_law_number"] (defScope s__law_prime) := ⟨rfl, rfl, rfl, by decide +kernel, rfl, by decide +kernel, by decide +kernel⟩
abbrev N__law_power : List Str := ["_law_base", "_law_exponent", "_law_q", "_law_found", "_law_factor_here", "_law_turn"]
theorem sc__law_power : FnScope N__law_power ["_law_base", "_law_exponent", "_law_q"] (defScope s__law_power) := ⟨rfl, rfl, rfl, by decide +kernel, rfl, by decide +kernel, by decide +kernel⟩
abbrev N__law_backward : List Str := ["_law_number", "_law_count", "_law_found", "_law_bit"]
theorem sc__law_backward : FnScope N__law_backward ["_law_number", "_law_count"] (defScope s__law_backward) := ⟨rfl, rfl, rfl, by decide +kernel, rfl, by decide +kernel, by decide +kernel⟩
abbrev N__law_root : List Str := ["_law_store", "_law_n", "_law_q", "_law_found", "_law_base", "_law_odd", "_law_square", "_law_least", "_law_turn"]
theorem sc__law_root : FnScope N__law_root ["_law_store", "_law_n", "_law_q"] (defScope s__law_root) := ⟨rfl, rfl, rfl, by decide +kernel, rfl, by decide +kernel, by decide +kernel⟩
abbrev N__law_item : List Str := ["_law_store", "_law_q", "_law_low", "_law_near"]
theorem sc__law_item : FnScope N__law_item ["_law_store", "_law_q"] (defScope s__law_item) := ⟨rfl, rfl, rfl, by decide +kernel, rfl, by decide +kernel, by decide +kernel⟩
abbrev N__law_poly : List Str := ["_law_store", "_law_n", "_law_q", "_law_kind", "_law_row", "_law_one", "_law_turn"]
theorem sc__law_poly : FnScope N__law_poly ["_law_store", "_law_n", "_law_q"] (defScope s__law_poly) := ⟨rfl, rfl, rfl, by decide +kernel, rfl, by decide +kernel, by decide +kernel⟩
abbrev N__law_times : List Str := ["_law_one", "_law_other_here", "_law_q", "_law_n", "_law_sums", "_law_at", "_law_factor_here", "_law_place", "_law_item_here"]
theorem sc__law_times : FnScope N__law_times ["_law_one", "_law_other_here", "_law_q"] (defScope s__law_times) := ⟨rfl, rfl, rfl, by decide +kernel, rfl, by decide +kernel, by decide +kernel⟩
abbrev N__law_log : List Str := ["_law_many", "_law_count", "_law_turn"]
theorem sc__law_log : FnScope N__law_log ["_law_many"] (defScope s__law_log) := ⟨rfl, rfl, rfl, by decide +kernel, rfl, by decide +kernel, by decide +kernel⟩
abbrev N__law_factor : List Str := ["_law_n", "_law_q", "_law_root_here", "_law_index"]
theorem sc__law_factor : FnScope N__law_factor ["_law_n", "_law_q", "_law_root_here", "_law_index"] (defScope s__law_factor) := ⟨rfl, rfl, rfl, by decide +kernel, rfl, by decide +kernel, by decide +kernel⟩
abbrev N__law_refused : List Str := ["_law_error", "_law_kin_here"]
theorem sc__law_refused : FnScope N__law_refused ["_law_error"] (defScope s__law_refused) := ⟨rfl, rfl, rfl, by decide +kernel, rfl, by decide +kernel, by decide +kernel⟩
abbrev N__law_prime_for : List Str := ["_law_store", "_law_n", "_law_many", "_law_few", "_law_start", "_law_turn", "_law_at"]
theorem sc__law_prime_for : FnScope N__law_prime_for ["_law_store", "_law_n"] (defScope s__law_prime_for) := ⟨rfl, rfl, rfl, by decide +kernel, rfl, by decide +kernel, by decide +kernel⟩
abbrev N__law_some_ring : List Str := ["_law_store", "_law_n", "_law_q"]
theorem sc__law_some_ring : FnScope N__law_some_ring ["_law_store"] (defScope s__law_some_ring) := ⟨rfl, rfl, rfl, by decide +kernel, rfl, by decide +kernel, by decide +kernel⟩
abbrev N__law_two_rings : List Str := ["_law_store", "_law_one", "_law_other_here", "_law_kind"]
theorem sc__law_two_rings : FnScope N__law_two_rings ["_law_store"] (defScope s__law_two_rings) := ⟨rfl, rfl, rfl, by decide +kernel, rfl, by decide +kernel, by decide +kernel⟩
abbrev N__law_spoilt : List Str := ["_law_store", "_law_row", "_law_q", "_law_bad", "_law_at", "_law_kind", "_law_later"]
theorem sc__law_spoilt : FnScope N__law_spoilt ["_law_store", "_law_row", "_law_q"] (defScope s__law_spoilt) := ⟨rfl, rfl, rfl, by decide +kernel, rfl, by decide +kernel, by decide +kernel⟩
abbrev N__law_rest : List Str := ["_law_row", "_law_q", "_law_factor_here", "_law_left", "_law_at"]
theorem sc__law_rest : FnScope N__law_rest ["_law_row", "_law_q", "_law_factor_here"] (defScope s__law_rest) := ⟨rfl, rfl, rfl, by decide +kernel, rfl, by decide +kernel, by decide +kernel⟩
abbrev N__law_rests : List Str := ["_law_row", "_law_numbers", "_law_found", "_law_index"]
theorem sc__law_rests : FnScope N__law_rests ["_law_row", "_law_numbers"] (defScope s__law_rests) := ⟨rfl, rfl, rfl, by decide +kernel, rfl, by decide +kernel, by decide +kernel⟩
abbrev N__law_joined : List Str := ["_law_pairs", "_law_found", "_law_pair"]
theorem sc__law_joined : FnScope N__law_joined ["_law_pairs"] (defScope s__law_joined) := ⟨rfl, rfl, rfl, by decide +kernel, rfl, by decide +kernel, by decide +kernel⟩
abbrev N__law_sum : List Str := ["_law_one", "_law_other_here", "_law_q", "_law_at"]
theorem sc__law_sum : FnScope N__law_sum ["_law_one", "_law_other_here", "_law_q"] (defScope s__law_sum) := ⟨rfl, rfl, rfl, by decide +kernel, rfl, by decide +kernel, by decide +kernel⟩
abbrev N__law_pairs_times : List Str := ["_law_numbers", "_law_one", "_law_other_here", "_law_found", "_law_at", "_law_factor_here"]
theorem sc__law_pairs_times : FnScope N__law_pairs_times ["_law_numbers", "_law_one", "_law_other_here"] (defScope s__law_pairs_times) := ⟨rfl, rfl, rfl, by decide +kernel, rfl, by decide +kernel, by decide +kernel⟩
abbrev N__law_call : List Str := ["_law_ring", "_law_one", "_law_other_here", "e"]
theorem sc__law_call : FnScope N__law_call ["_law_ring", "_law_one", "_law_other_here"] (defScope s__law_call) := ⟨rfl, rfl, rfl, by decide +kernel, rfl, by decide +kernel, by decide +kernel⟩
abbrev N__law_product_holds : List Str := ["_law_ring", "_law_numbers", "_law_one", "_law_other_here", "_law_kept", "_law_due", "_law_told"]
theorem sc__law_product_holds : FnScope N__law_product_holds ["_law_ring", "_law_numbers", "_law_one", "_law_other_here"] (defScope s__law_product_holds) := ⟨rfl, rfl, rfl, by decide +kernel, rfl, by decide +kernel, by decide +kernel⟩
abbrev N__law_spectra_hold : List Str := ["_law_ring", "_law_numbers", "_law_one", "_law_other_here", "_law_first_due", "_law_other_due", "_law_total", "_law_product"]
theorem sc__law_spectra_hold : FnScope N__law_spectra_hold ["_law_ring", "_law_numbers", "_law_one", "_law_other_here"] (defScope s__law_spectra_hold) := ⟨rfl, rfl, rfl, by decide +kernel, rfl, by decide +kernel, by decide +kernel⟩
abbrev N__law_refusals_hold : List Str := ["_law_store", "_law_ring", "_law_numbers", "_law_one", "_law_other_here", "_law_bad", "_law_worse", "_law_kept", "_law_row"]
theorem sc__law_refusals_hold : FnScope N__law_refusals_hold ["_law_store", "_law_ring", "_law_numbers", "_law_one", "_law_other_here"] (defScope s__law_refusals_hold) := ⟨rfl, rfl, rfl, by decide +kernel, rfl, by decide +kernel, by decide +kernel⟩
abbrev N_law : List Str := ["_law_script", "_law_store", "_law_both", "_law_rings", "_law_rows", "_law_numbers", "_law_early", "_law_at", "_law_one", "_law_other_here", "_law_turn"]
theorem sc_law : FnScope N_law ["_law_script"] (defScope s_law) := ⟨rfl, rfl, rfl, by decide +kernel, rfl, by decide +kernel, by decide +kernel⟩
abbrev N_Ring_init : List Str := ["self", "n", "q", "root", "demand"]
theorem sc_Ring_init : FnScope N_Ring_init ["self", "n", "q", "root"] (defScope s_Ring_init) := ⟨rfl, rfl, rfl, by decide +kernel, rfl, by decide +kernel, by decide +kernel⟩
abbrev N_Ring_n : List Str := ["self"]
theorem sc_Ring_n : FnScope N_Ring_n ["self"] (defScope s_Ring_n) := ⟨rfl, rfl, rfl, by decide +kernel, rfl, by decide +kernel, by decide +kernel⟩
abbrev N_Ring_q : List Str := ["self"]
theorem sc_Ring_q : FnScope N_Ring_q ["self"] (defScope s_Ring_q) := ⟨rfl, rfl, rfl, by decide +kernel, rfl, by decide +kernel, by decide +kernel⟩
abbrev N_Ring_root : List Str := ["self"]
theorem sc_Ring_root : FnScope N_Ring_root ["self"] (defScope s_Ring_root) := ⟨rfl, rfl, rfl, by decide +kernel, rfl, by decide +kernel, by decide +kernel⟩
abbrev N_BadItem_init : List Str := ["self", "index"]
theorem sc_BadItem_init : FnScope N_BadItem_init ["self", "index"] (defScope s_BadItem_init) := ⟨rfl, rfl, rfl, by decide +kernel, rfl, by decide +kernel, by decide +kernel⟩
abbrev N_BadLength_init : List Str := ["self", "expected", "found"]
theorem sc_BadLength_init : FnScope N_BadLength_init ["self", "expected", "found"] (defScope s_BadLength_init) := ⟨rfl, rfl, rfl, by decide +kernel, rfl, by decide +kernel, by decide +kernel⟩
/-- the function object at f -/
def fdA (K : PySem.W.Frag) (f : Addr) : FuncData := match K.lookup f with
  | some ⟨_, _, .func fd, _⟩ => fd
  | _ => PySem.W.fnOf "" "" { posonlyargs := [], args := [], vararg := none, kwonlyargs := [], kw_defaults := [], kwarg := none, defaults := [] } [] { kind := .function, names := [], isGenerator := false, isCoroutine := false } .none .none .none .none none .none .none
/-- where the defs stand -/
abbrev A (K : PySem.W.Frag) (x : Str) : Addr := He.ga K x
structure TX (K : PySem.W.Frag) (mg : Str → Option Value) : Prop where
  says : KxH.Says K
  g : ∀ x v, PySem.W.nsIn K mainGlobals x = some (some v) → mg x = some v
  n : ∀ x, PySem.W.nsIn K mainGlobals x = some none → mg x = none
theorem TX.mk_of {K : PySem.W.Frag} {h : Heap} {mg : Str → Option Value} (c : KxH.Says K) (X : K.In h) (G : h.Ns mainGlobals mg) : TX K mg := ⟨c, fun _ _ e => PySem.W.mg_of X G e, fun _ e => PySem.W.mg_none_of X G e⟩
theorem fun_at {K : PySem.W.Frag} {x q : Str} {st : Stmt} {f : Addr} (h : ∃ fd, FunD K x q (defArgs st) (defBody st) (defScope st) [] [] f fd) : Fun K x q st f (fdA K f) := by
  obtain ⟨fd, F⟩ := h
  have G := He5.fun_of F
  obtain ⟨oc, od, kV, doc, pm, an, cdv, ct, osl, e, l, c⟩ := G.ex
  have e2 : fdA K f = fd := by
    unfold fdA
    rw [l]
  rw [e2]
  exact G
section
variable {K : PySem.W.Frag} {mg : Str → Option Value} (T : TX K mg)
include T
theorem TX.g_whole : mg "whole" = some (.ref (He.ga K "whole")) := T.g _ _ (He.eqO_ok (T.says.fact 0))
theorem TX.g_degree_fits : mg "degree_fits" = some (.ref (He.ga K "degree_fits")) := T.g _ _ (He.eqO_ok (T.says.fact 1))
theorem TX.g_odd_prime_fits : mg "odd_prime_fits" = some (.ref (He.ga K "odd_prime_fits")) := T.g _ _ (He.eqO_ok (T.says.fact 2))
theorem TX.g_smallest_factor : mg "smallest_factor" = some (.ref (He.ga K "smallest_factor")) := T.g _ _ (He.eqO_ok (T.says.fact 3))
theorem TX.g_power_residue : mg "power_residue" = some (.ref (He.ga K "power_residue")) := T.g _ _ (He.eqO_ok (T.says.fact 4))
theorem TX.g_root_fits : mg "root_fits" = some (.ref (He.ga K "root_fits")) := T.g _ _ (He.eqO_ok (T.says.fact 5))
theorem TX.g_whole_between : mg "whole_between" = some (.ref (He.ga K "whole_between")) := T.g _ _ (He.eqO_ok (T.says.fact 6))
theorem TX.g_check_residues : mg "check_residues" = some (.ref (He.ga K "check_residues")) := T.g _ _ (He.eqO_ok (T.says.fact 7))
theorem TX.g_check_polynomial : mg "check_polynomial" = some (.ref (He.ga K "check_polynomial")) := T.g _ _ (He.eqO_ok (T.says.fact 8))
theorem TX.g_layer_lengths : mg "layer_lengths" = some (.ref (He.ga K "layer_lengths")) := T.g _ _ (He.eqO_ok (T.says.fact 9))
theorem TX.g_turned_numbers : mg "turned_numbers" = some (.ref (He.ga K "turned_numbers")) := T.g _ _ (He.eqO_ok (T.says.fact 10))
theorem TX.g_root_powers : mg "root_powers" = some (.ref (He.ga K "root_powers")) := T.g _ _ (He.eqO_ok (T.says.fact 11))
theorem TX.g_factor_roots : mg "factor_roots" = some (.ref (He.ga K "factor_roots")) := T.g _ _ (He.eqO_ok (T.says.fact 12))
theorem TX.g_split_row : mg "split_row" = some (.ref (He.ga K "split_row")) := T.g _ _ (He.eqO_ok (T.says.fact 13))
theorem TX.g_join_row : mg "join_row" = some (.ref (He.ga K "join_row")) := T.g _ _ (He.eqO_ok (T.says.fact 14))
theorem TX.g_spectrum_row : mg "spectrum_row" = some (.ref (He.ga K "spectrum_row")) := T.g _ _ (He.eqO_ok (T.says.fact 15))
theorem TX.g_polynomial_row : mg "polynomial_row" = some (.ref (He.ga K "polynomial_row")) := T.g _ _ (He.eqO_ok (T.says.fact 16))
theorem TX.g_to_spectrum : mg "to_spectrum" = some (.ref (He.ga K "to_spectrum")) := T.g _ _ (He.eqO_ok (T.says.fact 17))
theorem TX.g_times_pair : mg "times_pair" = some (.ref (He.ga K "times_pair")) := T.g _ _ (He.eqO_ok (T.says.fact 18))
theorem TX.g_times_row : mg "times_row" = some (.ref (He.ga K "times_row")) := T.g _ _ (He.eqO_ok (T.says.fact 19))
theorem TX.g_multiply_fast : mg "multiply_fast" = some (.ref (He.ga K "multiply_fast")) := T.g _ _ (He.eqO_ok (T.says.fact 20))
theorem TX.g_check_poly : mg "check_poly" = some (.ref (He.ga K "check_poly")) := T.g _ _ (He.eqO_ok (T.says.fact 21))
theorem TX.g_sum_items : mg "sum_items" = some (.ref (He.ga K "sum_items")) := T.g _ _ (He.eqO_ok (T.says.fact 22))
theorem TX.g_product_items : mg "product_items" = some (.ref (He.ga K "product_items")) := T.g _ _ (He.eqO_ok (T.says.fact 23))
theorem TX.g_add : mg "add" = some (.ref (He.ga K "add")) := T.g _ _ (He.eqO_ok (T.says.fact 24))
theorem TX.g_multiply_plain : mg "multiply_plain" = some (.ref (He.ga K "multiply_plain")) := T.g _ _ (He.eqO_ok (T.says.fact 25))
theorem TX.g_ring_fault : mg "ring_fault" = some (.ref (He.ga K "ring_fault")) := T.g _ _ (He.eqO_ok (T.says.fact 26))
theorem TX.g__law_begin : mg "_law_begin" = some (.ref (He.ga K "_law_begin")) := T.g _ _ (He.eqO_ok (T.says.fact 27))
theorem TX.g__law_mixed : mg "_law_mixed" = some (.ref (He.ga K "_law_mixed")) := T.g _ _ (He.eqO_ok (T.says.fact 28))
theorem TX.g__law_take : mg "_law_take" = some (.ref (He.ga K "_law_take")) := T.g _ _ (He.eqO_ok (T.says.fact 29))
theorem TX.g__law_wide : mg "_law_wide" = some (.ref (He.ga K "_law_wide")) := T.g _ _ (He.eqO_ok (T.says.fact 30))
theorem TX.g__law_pick : mg "_law_pick" = some (.ref (He.ga K "_law_pick")) := T.g _ _ (He.eqO_ok (T.says.fact 31))
theorem TX.g__law_between : mg "_law_between" = some (.ref (He.ga K "_law_between")) := T.g _ _ (He.eqO_ok (T.says.fact 32))
theorem TX.g__law_other : mg "_law_other" = some (.ref (He.ga K "_law_other")) := T.g _ _ (He.eqO_ok (T.says.fact 33))
theorem TX.g__law_beyond : mg "_law_beyond" = some (.ref (He.ga K "_law_beyond")) := T.g _ _ (He.eqO_ok (T.says.fact 34))
theorem TX.g__law_same : mg "_law_same" = some (.ref (He.ga K "_law_same")) := T.g _ _ (He.eqO_ok (T.says.fact 35))
theorem TX.g__law_spoil : mg "_law_spoil" = some (.ref (He.ga K "_law_spoil")) := T.g _ _ (He.eqO_ok (T.says.fact 36))
theorem TX.g__law_kin : mg "_law_kin" = some (.ref (He.ga K "_law_kin")) := T.g _ _ (He.eqO_ok (T.says.fact 37))
theorem TX.g__law_prime : mg "_law_prime" = some (.ref (He.ga K "_law_prime")) := T.g _ _ (He.eqO_ok (T.says.fact 38))
theorem TX.g__law_power : mg "_law_power" = some (.ref (He.ga K "_law_power")) := T.g _ _ (He.eqO_ok (T.says.fact 39))
theorem TX.g__law_backward : mg "_law_backward" = some (.ref (He.ga K "_law_backward")) := T.g _ _ (He.eqO_ok (T.says.fact 40))
theorem TX.g__law_root : mg "_law_root" = some (.ref (He.ga K "_law_root")) := T.g _ _ (He.eqO_ok (T.says.fact 41))
theorem TX.g__law_item : mg "_law_item" = some (.ref (He.ga K "_law_item")) := T.g _ _ (He.eqO_ok (T.says.fact 42))
theorem TX.g__law_poly : mg "_law_poly" = some (.ref (He.ga K "_law_poly")) := T.g _ _ (He.eqO_ok (T.says.fact 43))
theorem TX.g__law_times : mg "_law_times" = some (.ref (He.ga K "_law_times")) := T.g _ _ (He.eqO_ok (T.says.fact 44))
theorem TX.g__law_log : mg "_law_log" = some (.ref (He.ga K "_law_log")) := T.g _ _ (He.eqO_ok (T.says.fact 45))
theorem TX.g__law_factor : mg "_law_factor" = some (.ref (He.ga K "_law_factor")) := T.g _ _ (He.eqO_ok (T.says.fact 46))
theorem TX.g__law_refused : mg "_law_refused" = some (.ref (He.ga K "_law_refused")) := T.g _ _ (He.eqO_ok (T.says.fact 47))
theorem TX.g__law_prime_for : mg "_law_prime_for" = some (.ref (He.ga K "_law_prime_for")) := T.g _ _ (He.eqO_ok (T.says.fact 48))
theorem TX.g__law_some_ring : mg "_law_some_ring" = some (.ref (He.ga K "_law_some_ring")) := T.g _ _ (He.eqO_ok (T.says.fact 49))
theorem TX.g__law_two_rings : mg "_law_two_rings" = some (.ref (He.ga K "_law_two_rings")) := T.g _ _ (He.eqO_ok (T.says.fact 50))
theorem TX.g__law_spoilt : mg "_law_spoilt" = some (.ref (He.ga K "_law_spoilt")) := T.g _ _ (He.eqO_ok (T.says.fact 51))
theorem TX.g__law_rest : mg "_law_rest" = some (.ref (He.ga K "_law_rest")) := T.g _ _ (He.eqO_ok (T.says.fact 52))
theorem TX.g__law_rests : mg "_law_rests" = some (.ref (He.ga K "_law_rests")) := T.g _ _ (He.eqO_ok (T.says.fact 53))
theorem TX.g__law_joined : mg "_law_joined" = some (.ref (He.ga K "_law_joined")) := T.g _ _ (He.eqO_ok (T.says.fact 54))
theorem TX.g__law_sum : mg "_law_sum" = some (.ref (He.ga K "_law_sum")) := T.g _ _ (He.eqO_ok (T.says.fact 55))
theorem TX.g__law_pairs_times : mg "_law_pairs_times" = some (.ref (He.ga K "_law_pairs_times")) := T.g _ _ (He.eqO_ok (T.says.fact 56))
theorem TX.g__law_call : mg "_law_call" = some (.ref (He.ga K "_law_call")) := T.g _ _ (He.eqO_ok (T.says.fact 57))
theorem TX.g__law_product_holds : mg "_law_product_holds" = some (.ref (He.ga K "_law_product_holds")) := T.g _ _ (He.eqO_ok (T.says.fact 58))
theorem TX.g__law_spectra_hold : mg "_law_spectra_hold" = some (.ref (He.ga K "_law_spectra_hold")) := T.g _ _ (He.eqO_ok (T.says.fact 59))
theorem TX.g__law_refusals_hold : mg "_law_refusals_hold" = some (.ref (He.ga K "_law_refusals_hold")) := T.g _ _ (He.eqO_ok (T.says.fact 60))
theorem TX.g_law : mg "law" = some (.ref (He.ga K "law")) := T.g _ _ (He.eqO_ok (T.says.fact 61))
theorem TX.g_OutOfRange : mg "OutOfRange" = some (.ref (He.ga K "OutOfRange")) := T.g _ _ (He.eqO_ok (T.says.fact 62))
theorem TX.g_BadItem : mg "BadItem" = some (.ref (He.ga K "BadItem")) := T.g _ _ (He.eqO_ok (T.says.fact 63))
theorem TX.g_BadLength : mg "BadLength" = some (.ref (He.ga K "BadLength")) := T.g _ _ (He.eqO_ok (T.says.fact 64))
theorem TX.g_BadText : mg "BadText" = some (.ref (He.ga K "BadText")) := T.g _ _ (He.eqO_ok (T.says.fact 65))
theorem TX.g_BadPadding : mg "BadPadding" = some (.ref (He.ga K "BadPadding")) := T.g _ _ (He.eqO_ok (T.says.fact 66))
theorem TX.g_WrongPhase : mg "WrongPhase" = some (.ref (He.ga K "WrongPhase")) := T.g _ _ (He.eqO_ok (T.says.fact 67))
theorem TX.g_NotInvertible : mg "NotInvertible" = some (.ref (He.ga K "NotInvertible")) := T.g _ _ (He.eqO_ok (T.says.fact 68))
theorem TX.g_BadRing : mg "BadRing" = some (.ref (He.ga K "BadRing")) := T.g _ _ (He.eqO_ok (T.says.fact 69))
theorem TX.g_BadParameters : mg "BadParameters" = some (.ref (He.ga K "BadParameters")) := T.g _ _ (He.eqO_ok (T.says.fact 70))
theorem TX.g_UnknownName : mg "UnknownName" = some (.ref (He.ga K "UnknownName")) := T.g _ _ (He.eqO_ok (T.says.fact 71))
theorem TX.g_DifferentRings : mg "DifferentRings" = some (.ref (He.ga K "DifferentRings")) := T.g _ _ (He.eqO_ok (T.says.fact 72))
theorem TX.g_BadKey : mg "BadKey" = some (.ref (He.ga K "BadKey")) := T.g _ _ (He.eqO_ok (T.says.fact 73))
theorem TX.g_BadLetter : mg "BadLetter" = some (.ref (He.ga K "BadLetter")) := T.g _ _ (He.eqO_ok (T.says.fact 74))
theorem TX.g_BadKeyText : mg "BadKeyText" = some (.ref (He.ga K "BadKeyText")) := T.g _ _ (He.eqO_ok (T.says.fact 75))
theorem TX.g_BadRecord : mg "BadRecord" = some (.ref (He.ga K "BadRecord")) := T.g _ _ (He.eqO_ok (T.says.fact 76))
theorem TX.g_BadCommand : mg "BadCommand" = some (.ref (He.ga K "BadCommand")) := T.g _ _ (He.eqO_ok (T.says.fact 77))
theorem TX.g_NoEntry : mg "NoEntry" = some (.ref (He.ga K "NoEntry")) := T.g _ _ (He.eqO_ok (T.says.fact 78))
theorem TX.g_NothingLeft : mg "NothingLeft" = some (.ref (He.ga K "NothingLeft")) := T.g _ _ (He.eqO_ok (T.says.fact 79))
theorem TX.g_NoiseboundError : mg "NoiseboundError" = some (.ref (He.ga K "NoiseboundError")) := T.g _ _ (He.eqO_ok (T.says.fact 80))
theorem TX.g_Ring : mg "Ring" = some (.ref (He.ga K "Ring")) := T.g _ _ (He.eqO_ok (T.says.fact 81))
theorem TX.n_isinstance : mg "isinstance" = none := T.n _ (He.eqO_ok (T.says.fact 82))
theorem TX.n_int : mg "int" = none := T.n _ (He.eqO_ok (T.says.fact 83))
theorem TX.n_bool : mg "bool" = none := T.n _ (He.eqO_ok (T.says.fact 84))
theorem TX.n_str : mg "str" = none := T.n _ (He.eqO_ok (T.says.fact 85))
theorem TX.n_list : mg "list" = none := T.n _ (He.eqO_ok (T.says.fact 86))
theorem TX.n_tuple : mg "tuple" = none := T.n _ (He.eqO_ok (T.says.fact 87))
theorem TX.n_len : mg "len" = none := T.n _ (He.eqO_ok (T.says.fact 88))
theorem TX.n_range : mg "range" = none := T.n _ (He.eqO_ok (T.says.fact 89))
theorem TX.n_enumerate : mg "enumerate" = none := T.n _ (He.eqO_ok (T.says.fact 90))
theorem TX.n_reversed : mg "reversed" = none := T.n _ (He.eqO_ok (T.says.fact 91))
theorem TX.n_zip : mg "zip" = none := T.n _ (He.eqO_ok (T.says.fact 92))
theorem TX.n_sum : mg "sum" = none := T.n _ (He.eqO_ok (T.says.fact 93))
theorem TX.n_max : mg "max" = none := T.n _ (He.eqO_ok (T.says.fact 94))
theorem TX.n_min : mg "min" = none := T.n _ (He.eqO_ok (T.says.fact 95))
theorem TX.n_ValueError : mg "ValueError" = none := T.n _ (He.eqO_ok (T.says.fact 96))
theorem TX.c_LARGEST : ∃ t, mg "LARGEST" = some (.int 4095 t) := by
  have c : (match PySem.W.nsIn K mainGlobals "LARGEST" with
    | some (some (.int j _)) => decide (j = 4095)
    | _ => false) = true := T.says.fact 97
  split at c
  · rename_i j t e
    have ej := of_decide_eq_true c
    subst ej
    exact ⟨t, T.g _ _ e⟩
  · cases c
theorem TX.g_DEGREES : mg "DEGREES" = some (.ref (He.ga K "DEGREES")) := T.g _ _ (He.eqO_ok (T.says.fact 98))
theorem TX.t_DEGREES (H : Hp) : SqT K H (He.ga K "DEGREES") [.int 8, .int 16, .int 32, .int 64, .int 128, .int 256] := He.tupB_ok (vs := [.int 8, .int 16, .int 32, .int 64, .int 128, .int 256]) (T.says.fact 99) H
theorem TX.clRing : Cls K (He.ga K "Ring") := He.cls_ok (T.says.fact 100)
theorem TX.mkRing : Mk K (He.ga K "Ring") (He.ma K (He.ga K "Ring") "__init__") := He.mkr_ok (T.says.fact 101)
theorem TX.no_Ring_own_n : NoAttr K (He.ga K "Ring") "own_n" := He.noat_ok (T.says.fact 102)
theorem TX.no_Ring_own_q : NoAttr K (He.ga K "Ring") "own_q" := He.noat_ok (T.says.fact 103)
theorem TX.no_Ring_own_root : NoAttr K (He.ga K "Ring") "own_root" := He.noat_ok (T.says.fact 104)
theorem TX.p_n : ∃ p, PropOf K (He.ga K "Ring") "n" p (KxH.gaP K "Ring" "n") := KxH.propB_ok (T.says.fact 105)
theorem TX.p_q : ∃ p, PropOf K (He.ga K "Ring") "q" p (KxH.gaP K "Ring" "q") := KxH.propB_ok (T.says.fact 106)
theorem TX.p_root : ∃ p, PropOf K (He.ga K "Ring") "root" p (KxH.gaP K "Ring" "root") := KxH.propB_ok (T.says.fact 107)
theorem TX.oex_BadItem : OexC K (He.ga K "BadItem") := KxH.oexB_ok (T.says.fact 108)
theorem TX.ini_BadItem : PySem.W.findIn K (.ref (He.ga K "BadItem")) "__init__" = some (some (.ref (He.ma K (He.ga K "BadItem") "__init__"))) := He.eqO_ok (He.ba (T.says.fact (f := KxH.iniB "BadItem") 109)).1
theorem TX.int_BadItem : PySem.W.typeIn K (.ref (He.ma K (He.ga K "BadItem") "__init__")) = some (.type "function") := of_decide_eq_true (He.ba (T.says.fact (f := KxH.iniB "BadItem") 109)).2
theorem TX.xf_BadItem : XfC K (He.ga K "BadItem") := (KxH.excB_ok (T.says.fact 110)).1
theorem TX.exc_BadItem : ExcC K (He.ga K "BadItem") := (KxH.excB_ok (T.says.fact 110)).2
theorem TX.kit_BadItem_OutOfRange : PySem.W.kitOne K (.ref (He.ga K "BadItem")) (.ref (He.ga K "OutOfRange")) = some false := of_decide_eq_true (T.says.fact 111)
theorem TX.kit_BadItem_BadItem : PySem.W.kitOne K (.ref (He.ga K "BadItem")) (.ref (He.ga K "BadItem")) = some true := of_decide_eq_true (T.says.fact 112)
theorem TX.kit_BadItem_BadLength : PySem.W.kitOne K (.ref (He.ga K "BadItem")) (.ref (He.ga K "BadLength")) = some false := of_decide_eq_true (T.says.fact 113)
theorem TX.kit_BadItem_BadText : PySem.W.kitOne K (.ref (He.ga K "BadItem")) (.ref (He.ga K "BadText")) = some false := of_decide_eq_true (T.says.fact 114)
theorem TX.kit_BadItem_BadPadding : PySem.W.kitOne K (.ref (He.ga K "BadItem")) (.ref (He.ga K "BadPadding")) = some false := of_decide_eq_true (T.says.fact 115)
theorem TX.kit_BadItem_WrongPhase : PySem.W.kitOne K (.ref (He.ga K "BadItem")) (.ref (He.ga K "WrongPhase")) = some false := of_decide_eq_true (T.says.fact 116)
theorem TX.kit_BadItem_NotInvertible : PySem.W.kitOne K (.ref (He.ga K "BadItem")) (.ref (He.ga K "NotInvertible")) = some false := of_decide_eq_true (T.says.fact 117)
theorem TX.kit_BadItem_BadRing : PySem.W.kitOne K (.ref (He.ga K "BadItem")) (.ref (He.ga K "BadRing")) = some false := of_decide_eq_true (T.says.fact 118)
theorem TX.kit_BadItem_BadParameters : PySem.W.kitOne K (.ref (He.ga K "BadItem")) (.ref (He.ga K "BadParameters")) = some false := of_decide_eq_true (T.says.fact 119)
theorem TX.kit_BadItem_UnknownName : PySem.W.kitOne K (.ref (He.ga K "BadItem")) (.ref (He.ga K "UnknownName")) = some false := of_decide_eq_true (T.says.fact 120)
theorem TX.kit_BadItem_DifferentRings : PySem.W.kitOne K (.ref (He.ga K "BadItem")) (.ref (He.ga K "DifferentRings")) = some false := of_decide_eq_true (T.says.fact 121)
theorem TX.kit_BadItem_BadKey : PySem.W.kitOne K (.ref (He.ga K "BadItem")) (.ref (He.ga K "BadKey")) = some false := of_decide_eq_true (T.says.fact 122)
theorem TX.kit_BadItem_BadLetter : PySem.W.kitOne K (.ref (He.ga K "BadItem")) (.ref (He.ga K "BadLetter")) = some false := of_decide_eq_true (T.says.fact 123)
theorem TX.kit_BadItem_BadKeyText : PySem.W.kitOne K (.ref (He.ga K "BadItem")) (.ref (He.ga K "BadKeyText")) = some false := of_decide_eq_true (T.says.fact 124)
theorem TX.kit_BadItem_BadRecord : PySem.W.kitOne K (.ref (He.ga K "BadItem")) (.ref (He.ga K "BadRecord")) = some false := of_decide_eq_true (T.says.fact 125)
theorem TX.kit_BadItem_BadCommand : PySem.W.kitOne K (.ref (He.ga K "BadItem")) (.ref (He.ga K "BadCommand")) = some false := of_decide_eq_true (T.says.fact 126)
theorem TX.kit_BadItem_NoEntry : PySem.W.kitOne K (.ref (He.ga K "BadItem")) (.ref (He.ga K "NoEntry")) = some false := of_decide_eq_true (T.says.fact 127)
theorem TX.kit_BadItem_NothingLeft : PySem.W.kitOne K (.ref (He.ga K "BadItem")) (.ref (He.ga K "NothingLeft")) = some false := of_decide_eq_true (T.says.fact 128)
theorem TX.kit_BadItem_NoiseboundError : PySem.W.kitOne K (.ref (He.ga K "BadItem")) (.ref (He.ga K "NoiseboundError")) = some true := of_decide_eq_true (T.says.fact 129)
theorem TX.kit_BadItem_ValueError : PySem.W.kitOne K (.ref (He.ga K "BadItem")) (.type "ValueError") = some true := of_decide_eq_true (T.says.fact 130)
theorem TX.exm_BadItem : PySem.W.exmOne K (.ref (He.ga K "BadItem")) (.ref (He.ga K "NoiseboundError")) = some true := He.exm_ok (T.says.fact 131)
theorem TX.oex_BadLength : OexC K (He.ga K "BadLength") := KxH.oexB_ok (T.says.fact 132)
theorem TX.ini_BadLength : PySem.W.findIn K (.ref (He.ga K "BadLength")) "__init__" = some (some (.ref (He.ma K (He.ga K "BadLength") "__init__"))) := He.eqO_ok (He.ba (T.says.fact (f := KxH.iniB "BadLength") 133)).1
theorem TX.int_BadLength : PySem.W.typeIn K (.ref (He.ma K (He.ga K "BadLength") "__init__")) = some (.type "function") := of_decide_eq_true (He.ba (T.says.fact (f := KxH.iniB "BadLength") 133)).2
theorem TX.xf_BadLength : XfC K (He.ga K "BadLength") := (KxH.excB_ok (T.says.fact 134)).1
theorem TX.exc_BadLength : ExcC K (He.ga K "BadLength") := (KxH.excB_ok (T.says.fact 134)).2
theorem TX.kit_BadLength_OutOfRange : PySem.W.kitOne K (.ref (He.ga K "BadLength")) (.ref (He.ga K "OutOfRange")) = some false := of_decide_eq_true (T.says.fact 135)
theorem TX.kit_BadLength_BadItem : PySem.W.kitOne K (.ref (He.ga K "BadLength")) (.ref (He.ga K "BadItem")) = some false := of_decide_eq_true (T.says.fact 136)
theorem TX.kit_BadLength_BadLength : PySem.W.kitOne K (.ref (He.ga K "BadLength")) (.ref (He.ga K "BadLength")) = some true := of_decide_eq_true (T.says.fact 137)
theorem TX.kit_BadLength_BadText : PySem.W.kitOne K (.ref (He.ga K "BadLength")) (.ref (He.ga K "BadText")) = some false := of_decide_eq_true (T.says.fact 138)
theorem TX.kit_BadLength_BadPadding : PySem.W.kitOne K (.ref (He.ga K "BadLength")) (.ref (He.ga K "BadPadding")) = some false := of_decide_eq_true (T.says.fact 139)
theorem TX.kit_BadLength_WrongPhase : PySem.W.kitOne K (.ref (He.ga K "BadLength")) (.ref (He.ga K "WrongPhase")) = some false := of_decide_eq_true (T.says.fact 140)
theorem TX.kit_BadLength_NotInvertible : PySem.W.kitOne K (.ref (He.ga K "BadLength")) (.ref (He.ga K "NotInvertible")) = some false := of_decide_eq_true (T.says.fact 141)
theorem TX.kit_BadLength_BadRing : PySem.W.kitOne K (.ref (He.ga K "BadLength")) (.ref (He.ga K "BadRing")) = some false := of_decide_eq_true (T.says.fact 142)
theorem TX.kit_BadLength_BadParameters : PySem.W.kitOne K (.ref (He.ga K "BadLength")) (.ref (He.ga K "BadParameters")) = some false := of_decide_eq_true (T.says.fact 143)
theorem TX.kit_BadLength_UnknownName : PySem.W.kitOne K (.ref (He.ga K "BadLength")) (.ref (He.ga K "UnknownName")) = some false := of_decide_eq_true (T.says.fact 144)
theorem TX.kit_BadLength_DifferentRings : PySem.W.kitOne K (.ref (He.ga K "BadLength")) (.ref (He.ga K "DifferentRings")) = some false := of_decide_eq_true (T.says.fact 145)
theorem TX.kit_BadLength_BadKey : PySem.W.kitOne K (.ref (He.ga K "BadLength")) (.ref (He.ga K "BadKey")) = some false := of_decide_eq_true (T.says.fact 146)
theorem TX.kit_BadLength_BadLetter : PySem.W.kitOne K (.ref (He.ga K "BadLength")) (.ref (He.ga K "BadLetter")) = some false := of_decide_eq_true (T.says.fact 147)
theorem TX.kit_BadLength_BadKeyText : PySem.W.kitOne K (.ref (He.ga K "BadLength")) (.ref (He.ga K "BadKeyText")) = some false := of_decide_eq_true (T.says.fact 148)
theorem TX.kit_BadLength_BadRecord : PySem.W.kitOne K (.ref (He.ga K "BadLength")) (.ref (He.ga K "BadRecord")) = some false := of_decide_eq_true (T.says.fact 149)
theorem TX.kit_BadLength_BadCommand : PySem.W.kitOne K (.ref (He.ga K "BadLength")) (.ref (He.ga K "BadCommand")) = some false := of_decide_eq_true (T.says.fact 150)
theorem TX.kit_BadLength_NoEntry : PySem.W.kitOne K (.ref (He.ga K "BadLength")) (.ref (He.ga K "NoEntry")) = some false := of_decide_eq_true (T.says.fact 151)
theorem TX.kit_BadLength_NothingLeft : PySem.W.kitOne K (.ref (He.ga K "BadLength")) (.ref (He.ga K "NothingLeft")) = some false := of_decide_eq_true (T.says.fact 152)
theorem TX.kit_BadLength_NoiseboundError : PySem.W.kitOne K (.ref (He.ga K "BadLength")) (.ref (He.ga K "NoiseboundError")) = some true := of_decide_eq_true (T.says.fact 153)
theorem TX.kit_BadLength_ValueError : PySem.W.kitOne K (.ref (He.ga K "BadLength")) (.type "ValueError") = some true := of_decide_eq_true (T.says.fact 154)
theorem TX.exm_BadLength : PySem.W.exmOne K (.ref (He.ga K "BadLength")) (.ref (He.ga K "NoiseboundError")) = some true := He.exm_ok (T.says.fact 155)
theorem TX.no_BadItem_index : NoAttr K (He.ga K "BadItem") "index" := He.noat_ok (T.says.fact 156)
theorem TX.no_BadLength_expected : NoAttr K (He.ga K "BadLength") "expected" := He.noat_ok (T.says.fact 157)
theorem TX.no_BadLength_found : NoAttr K (He.ga K "BadLength") "found" := He.noat_ok (T.says.fact 158)
theorem TX.F_whole : Fun K "whole" "whole" s_whole (He.ga K "whole") (fdA K (He.ga K "whole")) := fun_at (T.says.def_ 0)
theorem TX.b_whole : Binds K (fdA K (He.ga K "whole")) ["value"] [] := (T.F_whole).binds (ps := ["value"]) fun _ _ _ _ _ _ us hl => match us, hl with | [_], _ => rfl
theorem TX.F_degree_fits : Fun K "degree_fits" "degree_fits" s_degree_fits (He.ga K "degree_fits") (fdA K (He.ga K "degree_fits")) := fun_at (T.says.def_ 1)
theorem TX.b_degree_fits : Binds K (fdA K (He.ga K "degree_fits")) ["n"] [] := (T.F_degree_fits).binds (ps := ["n"]) fun _ _ _ _ _ _ us hl => match us, hl with | [_], _ => rfl
theorem TX.F_odd_prime_fits : Fun K "odd_prime_fits" "odd_prime_fits" s_odd_prime_fits (He.ga K "odd_prime_fits") (fdA K (He.ga K "odd_prime_fits")) := fun_at (T.says.def_ 2)
theorem TX.b_odd_prime_fits : Binds K (fdA K (He.ga K "odd_prime_fits")) ["q"] [] := (T.F_odd_prime_fits).binds (ps := ["q"]) fun _ _ _ _ _ _ us hl => match us, hl with | [_], _ => rfl
theorem TX.F_smallest_factor : Fun K "smallest_factor" "smallest_factor" s_smallest_factor (He.ga K "smallest_factor") (fdA K (He.ga K "smallest_factor")) := fun_at (T.says.def_ 3)
theorem TX.b_smallest_factor : Binds K (fdA K (He.ga K "smallest_factor")) ["value"] [] := (T.F_smallest_factor).binds (ps := ["value"]) fun _ _ _ _ _ _ us hl => match us, hl with | [_], _ => rfl
theorem TX.F_power_residue : Fun K "power_residue" "power_residue" s_power_residue (He.ga K "power_residue") (fdA K (He.ga K "power_residue")) := fun_at (T.says.def_ 4)
theorem TX.b_power_residue : Binds K (fdA K (He.ga K "power_residue")) ["base", "exponent", "q"] [] := (T.F_power_residue).binds (ps := ["base", "exponent", "q"]) fun _ _ _ _ _ _ us hl => match us, hl with | [_, _, _], _ => rfl
theorem TX.F_root_fits : Fun K "root_fits" "root_fits" s_root_fits (He.ga K "root_fits") (fdA K (He.ga K "root_fits")) := fun_at (T.says.def_ 5)
theorem TX.b_root_fits : Binds K (fdA K (He.ga K "root_fits")) ["n", "q", "value"] [] := (T.F_root_fits).binds (ps := ["n", "q", "value"]) fun _ _ _ _ _ _ us hl => match us, hl with | [_, _, _], _ => rfl
theorem TX.F_whole_between : Fun K "whole_between" "whole_between" s_whole_between (He.ga K "whole_between") (fdA K (He.ga K "whole_between")) := fun_at (T.says.def_ 6)
theorem TX.b_whole_between : Binds K (fdA K (He.ga K "whole_between")) ["value", "low", "high"] [] := (T.F_whole_between).binds (ps := ["value", "low", "high"]) fun _ _ _ _ _ _ us hl => match us, hl with | [_, _, _], _ => rfl
theorem TX.F_check_residues : Fun K "check_residues" "check_residues" s_check_residues (He.ga K "check_residues") (fdA K (He.ga K "check_residues")) := fun_at (T.says.def_ 7)
theorem TX.b_check_residues : Binds K (fdA K (He.ga K "check_residues")) ["q", "count", "row"] [] := (T.F_check_residues).binds (ps := ["q", "count", "row"]) fun _ _ _ _ _ _ us hl => match us, hl with | [_, _, _], _ => rfl
theorem TX.F_check_polynomial : Fun K "check_polynomial" "check_polynomial" s_check_polynomial (He.ga K "check_polynomial") (fdA K (He.ga K "check_polynomial")) := fun_at (T.says.def_ 8)
theorem TX.b_check_polynomial : Binds K (fdA K (He.ga K "check_polynomial")) ["ring", "poly"] [] := (T.F_check_polynomial).binds (ps := ["ring", "poly"]) fun _ _ _ _ _ _ us hl => match us, hl with | [_, _], _ => rfl
theorem TX.F_layer_lengths : Fun K "layer_lengths" "layer_lengths" s_layer_lengths (He.ga K "layer_lengths") (fdA K (He.ga K "layer_lengths")) := fun_at (T.says.def_ 9)
theorem TX.b_layer_lengths : Binds K (fdA K (He.ga K "layer_lengths")) ["n"] [] := (T.F_layer_lengths).binds (ps := ["n"]) fun _ _ _ _ _ _ us hl => match us, hl with | [_], _ => rfl
theorem TX.F_turned_numbers : Fun K "turned_numbers" "turned_numbers" s_turned_numbers (He.ga K "turned_numbers") (fdA K (He.ga K "turned_numbers")) := fun_at (T.says.def_ 10)
theorem TX.b_turned_numbers : Binds K (fdA K (He.ga K "turned_numbers")) ["n"] [] := (T.F_turned_numbers).binds (ps := ["n"]) fun _ _ _ _ _ _ us hl => match us, hl with | [_], _ => rfl
theorem TX.F_root_powers : Fun K "root_powers" "root_powers" s_root_powers (He.ga K "root_powers") (fdA K (He.ga K "root_powers")) := fun_at (T.says.def_ 11)
theorem TX.b_root_powers : Binds K (fdA K (He.ga K "root_powers")) ["ring"] [] := (T.F_root_powers).binds (ps := ["ring"]) fun _ _ _ _ _ _ us hl => match us, hl with | [_], _ => rfl
theorem TX.F_factor_roots : Fun K "factor_roots" "factor_roots" s_factor_roots (He.ga K "factor_roots") (fdA K (He.ga K "factor_roots")) := fun_at (T.says.def_ 12)
theorem TX.b_factor_roots : Binds K (fdA K (He.ga K "factor_roots")) ["ring"] [] := (T.F_factor_roots).binds (ps := ["ring"]) fun _ _ _ _ _ _ us hl => match us, hl with | [_], _ => rfl
theorem TX.F_split_row : Fun K "split_row" "split_row" s_split_row (He.ga K "split_row") (fdA K (He.ga K "split_row")) := fun_at (T.says.def_ 13)
theorem TX.b_split_row : Binds K (fdA K (He.ga K "split_row")) ["ring", "powers", "turned", "row", "length"] [] := (T.F_split_row).binds (ps := ["ring", "powers", "turned", "row", "length"]) fun _ _ _ _ _ _ us hl => match us, hl with | [_, _, _, _, _], _ => rfl
theorem TX.F_join_row : Fun K "join_row" "join_row" s_join_row (He.ga K "join_row") (fdA K (He.ga K "join_row")) := fun_at (T.says.def_ 14)
theorem TX.b_join_row : Binds K (fdA K (He.ga K "join_row")) ["ring", "powers", "turned", "row", "length"] [] := (T.F_join_row).binds (ps := ["ring", "powers", "turned", "row", "length"]) fun _ _ _ _ _ _ us hl => match us, hl with | [_, _, _, _, _], _ => rfl
theorem TX.F_spectrum_row : Fun K "spectrum_row" "spectrum_row" s_spectrum_row (He.ga K "spectrum_row") (fdA K (He.ga K "spectrum_row")) := fun_at (T.says.def_ 15)
theorem TX.b_spectrum_row : Binds K (fdA K (He.ga K "spectrum_row")) ["ring", "row"] [] := (T.F_spectrum_row).binds (ps := ["ring", "row"]) fun _ _ _ _ _ _ us hl => match us, hl with | [_, _], _ => rfl
theorem TX.F_polynomial_row : Fun K "polynomial_row" "polynomial_row" s_polynomial_row (He.ga K "polynomial_row") (fdA K (He.ga K "polynomial_row")) := fun_at (T.says.def_ 16)
theorem TX.b_polynomial_row : Binds K (fdA K (He.ga K "polynomial_row")) ["ring", "row"] [] := (T.F_polynomial_row).binds (ps := ["ring", "row"]) fun _ _ _ _ _ _ us hl => match us, hl with | [_, _], _ => rfl
theorem TX.F_to_spectrum : Fun K "to_spectrum" "to_spectrum" s_to_spectrum (He.ga K "to_spectrum") (fdA K (He.ga K "to_spectrum")) := fun_at (T.says.def_ 17)
theorem TX.b_to_spectrum : Binds K (fdA K (He.ga K "to_spectrum")) ["ring", "poly"] [] := (T.F_to_spectrum).binds (ps := ["ring", "poly"]) fun _ _ _ _ _ _ us hl => match us, hl with | [_, _], _ => rfl
theorem TX.F_times_pair : Fun K "times_pair" "times_pair" s_times_pair (He.ga K "times_pair") (fdA K (He.ga K "times_pair")) := fun_at (T.says.def_ 18)
theorem TX.b_times_pair : Binds K (fdA K (He.ga K "times_pair")) ["q", "root", "first", "second"] [] := (T.F_times_pair).binds (ps := ["q", "root", "first", "second"]) fun _ _ _ _ _ _ us hl => match us, hl with | [_, _, _, _], _ => rfl
theorem TX.F_times_row : Fun K "times_row" "times_row" s_times_row (He.ga K "times_row") (fdA K (He.ga K "times_row")) := fun_at (T.says.def_ 19)
theorem TX.b_times_row : Binds K (fdA K (He.ga K "times_row")) ["q", "roots", "first", "second"] [] := (T.F_times_row).binds (ps := ["q", "roots", "first", "second"]) fun _ _ _ _ _ _ us hl => match us, hl with | [_, _, _, _], _ => rfl
theorem TX.F_multiply_fast : Fun K "multiply_fast" "multiply_fast" s_multiply_fast (He.ga K "multiply_fast") (fdA K (He.ga K "multiply_fast")) := fun_at (T.says.def_ 20)
theorem TX.b_multiply_fast : Binds K (fdA K (He.ga K "multiply_fast")) ["ring", "first", "second"] [] := (T.F_multiply_fast).binds (ps := ["ring", "first", "second"]) fun _ _ _ _ _ _ us hl => match us, hl with | [_, _, _], _ => rfl
theorem TX.F_check_poly : Fun K "check_poly" "check_poly" s_check_poly (He.ga K "check_poly") (fdA K (He.ga K "check_poly")) := fun_at (T.says.def_ 21)
theorem TX.b_check_poly : Binds K (fdA K (He.ga K "check_poly")) ["ring", "poly"] [] := (T.F_check_poly).binds (ps := ["ring", "poly"]) fun _ _ _ _ _ _ us hl => match us, hl with | [_, _], _ => rfl
theorem TX.F_sum_items : Fun K "sum_items" "sum_items" s_sum_items (He.ga K "sum_items") (fdA K (He.ga K "sum_items")) := fun_at (T.says.def_ 22)
theorem TX.b_sum_items : Binds K (fdA K (He.ga K "sum_items")) ["q", "first", "second"] [] := (T.F_sum_items).binds (ps := ["q", "first", "second"]) fun _ _ _ _ _ _ us hl => match us, hl with | [_, _, _], _ => rfl
theorem TX.F_product_items : Fun K "product_items" "product_items" s_product_items (He.ga K "product_items") (fdA K (He.ga K "product_items")) := fun_at (T.says.def_ 23)
theorem TX.b_product_items : Binds K (fdA K (He.ga K "product_items")) ["q", "first", "second"] [] := (T.F_product_items).binds (ps := ["q", "first", "second"]) fun _ _ _ _ _ _ us hl => match us, hl with | [_, _, _], _ => rfl
theorem TX.F_add : Fun K "add" "add" s_add (He.ga K "add") (fdA K (He.ga K "add")) := fun_at (T.says.def_ 24)
theorem TX.b_add : Binds K (fdA K (He.ga K "add")) ["ring", "first", "second"] [] := (T.F_add).binds (ps := ["ring", "first", "second"]) fun _ _ _ _ _ _ us hl => match us, hl with | [_, _, _], _ => rfl
theorem TX.F_multiply_plain : Fun K "multiply_plain" "multiply_plain" s_multiply_plain (He.ga K "multiply_plain") (fdA K (He.ga K "multiply_plain")) := fun_at (T.says.def_ 25)
theorem TX.b_multiply_plain : Binds K (fdA K (He.ga K "multiply_plain")) ["ring", "first", "second"] [] := (T.F_multiply_plain).binds (ps := ["ring", "first", "second"]) fun _ _ _ _ _ _ us hl => match us, hl with | [_, _, _], _ => rfl
theorem TX.F_ring_fault : Fun K "ring_fault" "ring_fault" s_ring_fault (He.ga K "ring_fault") (fdA K (He.ga K "ring_fault")) := fun_at (T.says.def_ 26)
theorem TX.b_ring_fault : Binds K (fdA K (He.ga K "ring_fault")) ["n", "q", "root"] [] := (T.F_ring_fault).binds (ps := ["n", "q", "root"]) fun _ _ _ _ _ _ us hl => match us, hl with | [_, _, _], _ => rfl
theorem TX.F__law_begin : Fun K "_law_begin" "_law_begin" s__law_begin (He.ga K "_law_begin") (fdA K (He.ga K "_law_begin")) := fun_at (T.says.def_ 27)
theorem TX.b__law_begin : Binds K (fdA K (He.ga K "_law_begin")) ["_law_script"] [] := (T.F__law_begin).binds (ps := ["_law_script"]) fun _ _ _ _ _ _ us hl => match us, hl with | [_], _ => rfl
theorem TX.F__law_mixed : Fun K "_law_mixed" "_law_mixed" s__law_mixed (He.ga K "_law_mixed") (fdA K (He.ga K "_law_mixed")) := fun_at (T.says.def_ 28)
theorem TX.b__law_mixed : Binds K (fdA K (He.ga K "_law_mixed")) ["_law_seed", "_law_turn"] [] := (T.F__law_mixed).binds (ps := ["_law_seed", "_law_turn"]) fun _ _ _ _ _ _ us hl => match us, hl with | [_, _], _ => rfl
theorem TX.F__law_take : Fun K "_law_take" "_law_take" s__law_take (He.ga K "_law_take") (fdA K (He.ga K "_law_take")) := fun_at (T.says.def_ 29)
theorem TX.b__law_take : Binds K (fdA K (He.ga K "_law_take")) ["_law_store", "_law_many"] [] := (T.F__law_take).binds (ps := ["_law_store", "_law_many"]) fun _ _ _ _ _ _ us hl => match us, hl with | [_, _], _ => rfl
theorem TX.F__law_wide : Fun K "_law_wide" "_law_wide" s__law_wide (He.ga K "_law_wide") (fdA K (He.ga K "_law_wide")) := fun_at (T.says.def_ 30)
theorem TX.b__law_wide : Binds K (fdA K (He.ga K "_law_wide")) ["_law_store", "_law_many"] [] := (T.F__law_wide).binds (ps := ["_law_store", "_law_many"]) fun _ _ _ _ _ _ us hl => match us, hl with | [_, _], _ => rfl
theorem TX.F__law_pick : Fun K "_law_pick" "_law_pick" s__law_pick (He.ga K "_law_pick") (fdA K (He.ga K "_law_pick")) := fun_at (T.says.def_ 31)
theorem TX.b__law_pick : Binds K (fdA K (He.ga K "_law_pick")) ["_law_store", "_law_row"] [] := (T.F__law_pick).binds (ps := ["_law_store", "_law_row"]) fun _ _ _ _ _ _ us hl => match us, hl with | [_, _], _ => rfl
theorem TX.F__law_between : Fun K "_law_between" "_law_between" s__law_between (He.ga K "_law_between") (fdA K (He.ga K "_law_between")) := fun_at (T.says.def_ 32)
theorem TX.b__law_between : Binds K (fdA K (He.ga K "_law_between")) ["_law_store", "_law_low", "_law_high"] [] := (T.F__law_between).binds (ps := ["_law_store", "_law_low", "_law_high"]) fun _ _ _ _ _ _ us hl => match us, hl with | [_, _, _], _ => rfl
theorem TX.F__law_other : Fun K "_law_other" "_law_other" s__law_other (He.ga K "_law_other") (fdA K (He.ga K "_law_other")) := fun_at (T.says.def_ 33)
theorem TX.b__law_other : Binds K (fdA K (He.ga K "_law_other")) ["_law_store"] [] := (T.F__law_other).binds (ps := ["_law_store"]) fun _ _ _ _ _ _ us hl => match us, hl with | [_], _ => rfl
theorem TX.F__law_beyond : Fun K "_law_beyond" "_law_beyond" s__law_beyond (He.ga K "_law_beyond") (fdA K (He.ga K "_law_beyond")) := fun_at (T.says.def_ 34)
theorem TX.b__law_beyond : Binds K (fdA K (He.ga K "_law_beyond")) ["_law_store", "_law_low", "_law_high"] [] := (T.F__law_beyond).binds (ps := ["_law_store", "_law_low", "_law_high"]) fun _ _ _ _ _ _ us hl => match us, hl with | [_, _, _], _ => rfl
theorem TX.F__law_same : Fun K "_law_same" "_law_same" s__law_same (He.ga K "_law_same") (fdA K (He.ga K "_law_same")) := fun_at (T.says.def_ 35)
theorem TX.b__law_same : Binds K (fdA K (He.ga K "_law_same")) ["_law_actual", "_law_expected"] [] := (T.F__law_same).binds (ps := ["_law_actual", "_law_expected"]) fun _ _ _ _ _ _ us hl => match us, hl with | [_, _], _ => rfl
theorem TX.F__law_spoil : Fun K "_law_spoil" "_law_spoil" s__law_spoil (He.ga K "_law_spoil") (fdA K (He.ga K "_law_spoil")) := fun_at (T.says.def_ 36)
theorem TX.b__law_spoil : Binds K (fdA K (He.ga K "_law_spoil")) ["_law_thing"] [] := (T.F__law_spoil).binds (ps := ["_law_thing"]) fun _ _ _ _ _ _ us hl => match us, hl with | [_], _ => rfl
theorem TX.F__law_kin : Fun K "_law_kin" "_law_kin" s__law_kin (He.ga K "_law_kin") (fdA K (He.ga K "_law_kin")) := fun_at (T.says.def_ 37)
theorem TX.b__law_kin : Binds K (fdA K (He.ga K "_law_kin")) ["_law_error"] [] := (T.F__law_kin).binds (ps := ["_law_error"]) fun _ _ _ _ _ _ us hl => match us, hl with | [_], _ => rfl
theorem TX.F__law_prime : Fun K "_law_prime" "_law_prime" s__law_prime (He.ga K "_law_prime") (fdA K (He.ga K "_law_prime")) := fun_at (T.says.def_ 38)
theorem TX.b__law_prime : Binds K (fdA K (He.ga K "_law_prime")) ["_law_number"] [] := (T.F__law_prime).binds (ps := ["_law_number"]) fun _ _ _ _ _ _ us hl => match us, hl with | [_], _ => rfl
theorem TX.F__law_power : Fun K "_law_power" "_law_power" s__law_power (He.ga K "_law_power") (fdA K (He.ga K "_law_power")) := fun_at (T.says.def_ 39)
theorem TX.b__law_power : Binds K (fdA K (He.ga K "_law_power")) ["_law_base", "_law_exponent", "_law_q"] [] := (T.F__law_power).binds (ps := ["_law_base", "_law_exponent", "_law_q"]) fun _ _ _ _ _ _ us hl => match us, hl with | [_, _, _], _ => rfl
theorem TX.F__law_backward : Fun K "_law_backward" "_law_backward" s__law_backward (He.ga K "_law_backward") (fdA K (He.ga K "_law_backward")) := fun_at (T.says.def_ 40)
theorem TX.b__law_backward : Binds K (fdA K (He.ga K "_law_backward")) ["_law_number", "_law_count"] [] := (T.F__law_backward).binds (ps := ["_law_number", "_law_count"]) fun _ _ _ _ _ _ us hl => match us, hl with | [_, _], _ => rfl
theorem TX.F__law_root : Fun K "_law_root" "_law_root" s__law_root (He.ga K "_law_root") (fdA K (He.ga K "_law_root")) := fun_at (T.says.def_ 41)
theorem TX.b__law_root : Binds K (fdA K (He.ga K "_law_root")) ["_law_store", "_law_n", "_law_q"] [] := (T.F__law_root).binds (ps := ["_law_store", "_law_n", "_law_q"]) fun _ _ _ _ _ _ us hl => match us, hl with | [_, _, _], _ => rfl
theorem TX.F__law_item : Fun K "_law_item" "_law_item" s__law_item (He.ga K "_law_item") (fdA K (He.ga K "_law_item")) := fun_at (T.says.def_ 42)
theorem TX.b__law_item : Binds K (fdA K (He.ga K "_law_item")) ["_law_store", "_law_q"] [] := (T.F__law_item).binds (ps := ["_law_store", "_law_q"]) fun _ _ _ _ _ _ us hl => match us, hl with | [_, _], _ => rfl
theorem TX.F__law_poly : Fun K "_law_poly" "_law_poly" s__law_poly (He.ga K "_law_poly") (fdA K (He.ga K "_law_poly")) := fun_at (T.says.def_ 43)
theorem TX.b__law_poly : Binds K (fdA K (He.ga K "_law_poly")) ["_law_store", "_law_n", "_law_q"] [] := (T.F__law_poly).binds (ps := ["_law_store", "_law_n", "_law_q"]) fun _ _ _ _ _ _ us hl => match us, hl with | [_, _, _], _ => rfl
theorem TX.F__law_times : Fun K "_law_times" "_law_times" s__law_times (He.ga K "_law_times") (fdA K (He.ga K "_law_times")) := fun_at (T.says.def_ 44)
theorem TX.b__law_times : Binds K (fdA K (He.ga K "_law_times")) ["_law_one", "_law_other_here", "_law_q"] [] := (T.F__law_times).binds (ps := ["_law_one", "_law_other_here", "_law_q"]) fun _ _ _ _ _ _ us hl => match us, hl with | [_, _, _], _ => rfl
theorem TX.F__law_log : Fun K "_law_log" "_law_log" s__law_log (He.ga K "_law_log") (fdA K (He.ga K "_law_log")) := fun_at (T.says.def_ 45)
theorem TX.b__law_log : Binds K (fdA K (He.ga K "_law_log")) ["_law_many"] [] := (T.F__law_log).binds (ps := ["_law_many"]) fun _ _ _ _ _ _ us hl => match us, hl with | [_], _ => rfl
theorem TX.F__law_factor : Fun K "_law_factor" "_law_factor" s__law_factor (He.ga K "_law_factor") (fdA K (He.ga K "_law_factor")) := fun_at (T.says.def_ 46)
theorem TX.b__law_factor : Binds K (fdA K (He.ga K "_law_factor")) ["_law_n", "_law_q", "_law_root_here", "_law_index"] [] := (T.F__law_factor).binds (ps := ["_law_n", "_law_q", "_law_root_here", "_law_index"]) fun _ _ _ _ _ _ us hl => match us, hl with | [_, _, _, _], _ => rfl
theorem TX.F__law_refused : Fun K "_law_refused" "_law_refused" s__law_refused (He.ga K "_law_refused") (fdA K (He.ga K "_law_refused")) := fun_at (T.says.def_ 47)
theorem TX.b__law_refused : Binds K (fdA K (He.ga K "_law_refused")) ["_law_error"] [] := (T.F__law_refused).binds (ps := ["_law_error"]) fun _ _ _ _ _ _ us hl => match us, hl with | [_], _ => rfl
theorem TX.F__law_prime_for : Fun K "_law_prime_for" "_law_prime_for" s__law_prime_for (He.ga K "_law_prime_for") (fdA K (He.ga K "_law_prime_for")) := fun_at (T.says.def_ 48)
theorem TX.b__law_prime_for : Binds K (fdA K (He.ga K "_law_prime_for")) ["_law_store", "_law_n"] [] := (T.F__law_prime_for).binds (ps := ["_law_store", "_law_n"]) fun _ _ _ _ _ _ us hl => match us, hl with | [_, _], _ => rfl
theorem TX.F__law_some_ring : Fun K "_law_some_ring" "_law_some_ring" s__law_some_ring (He.ga K "_law_some_ring") (fdA K (He.ga K "_law_some_ring")) := fun_at (T.says.def_ 49)
theorem TX.b__law_some_ring : Binds K (fdA K (He.ga K "_law_some_ring")) ["_law_store"] [] := (T.F__law_some_ring).binds (ps := ["_law_store"]) fun _ _ _ _ _ _ us hl => match us, hl with | [_], _ => rfl
theorem TX.F__law_two_rings : Fun K "_law_two_rings" "_law_two_rings" s__law_two_rings (He.ga K "_law_two_rings") (fdA K (He.ga K "_law_two_rings")) := fun_at (T.says.def_ 50)
theorem TX.b__law_two_rings : Binds K (fdA K (He.ga K "_law_two_rings")) ["_law_store"] [] := (T.F__law_two_rings).binds (ps := ["_law_store"]) fun _ _ _ _ _ _ us hl => match us, hl with | [_], _ => rfl
theorem TX.F__law_spoilt : Fun K "_law_spoilt" "_law_spoilt" s__law_spoilt (He.ga K "_law_spoilt") (fdA K (He.ga K "_law_spoilt")) := fun_at (T.says.def_ 51)
theorem TX.b__law_spoilt : Binds K (fdA K (He.ga K "_law_spoilt")) ["_law_store", "_law_row", "_law_q"] [] := (T.F__law_spoilt).binds (ps := ["_law_store", "_law_row", "_law_q"]) fun _ _ _ _ _ _ us hl => match us, hl with | [_, _, _], _ => rfl
theorem TX.F__law_rest : Fun K "_law_rest" "_law_rest" s__law_rest (He.ga K "_law_rest") (fdA K (He.ga K "_law_rest")) := fun_at (T.says.def_ 52)
theorem TX.b__law_rest : Binds K (fdA K (He.ga K "_law_rest")) ["_law_row", "_law_q", "_law_factor_here"] [] := (T.F__law_rest).binds (ps := ["_law_row", "_law_q", "_law_factor_here"]) fun _ _ _ _ _ _ us hl => match us, hl with | [_, _, _], _ => rfl
theorem TX.F__law_rests : Fun K "_law_rests" "_law_rests" s__law_rests (He.ga K "_law_rests") (fdA K (He.ga K "_law_rests")) := fun_at (T.says.def_ 53)
theorem TX.b__law_rests : Binds K (fdA K (He.ga K "_law_rests")) ["_law_row", "_law_numbers"] [] := (T.F__law_rests).binds (ps := ["_law_row", "_law_numbers"]) fun _ _ _ _ _ _ us hl => match us, hl with | [_, _], _ => rfl
theorem TX.F__law_joined : Fun K "_law_joined" "_law_joined" s__law_joined (He.ga K "_law_joined") (fdA K (He.ga K "_law_joined")) := fun_at (T.says.def_ 54)
theorem TX.b__law_joined : Binds K (fdA K (He.ga K "_law_joined")) ["_law_pairs"] [] := (T.F__law_joined).binds (ps := ["_law_pairs"]) fun _ _ _ _ _ _ us hl => match us, hl with | [_], _ => rfl
theorem TX.F__law_sum : Fun K "_law_sum" "_law_sum" s__law_sum (He.ga K "_law_sum") (fdA K (He.ga K "_law_sum")) := fun_at (T.says.def_ 55)
theorem TX.b__law_sum : Binds K (fdA K (He.ga K "_law_sum")) ["_law_one", "_law_other_here", "_law_q"] [] := (T.F__law_sum).binds (ps := ["_law_one", "_law_other_here", "_law_q"]) fun _ _ _ _ _ _ us hl => match us, hl with | [_, _, _], _ => rfl
theorem TX.F__law_pairs_times : Fun K "_law_pairs_times" "_law_pairs_times" s__law_pairs_times (He.ga K "_law_pairs_times") (fdA K (He.ga K "_law_pairs_times")) := fun_at (T.says.def_ 56)
theorem TX.b__law_pairs_times : Binds K (fdA K (He.ga K "_law_pairs_times")) ["_law_numbers", "_law_one", "_law_other_here"] [] := (T.F__law_pairs_times).binds (ps := ["_law_numbers", "_law_one", "_law_other_here"]) fun _ _ _ _ _ _ us hl => match us, hl with | [_, _, _], _ => rfl
theorem TX.F__law_call : Fun K "_law_call" "_law_call" s__law_call (He.ga K "_law_call") (fdA K (He.ga K "_law_call")) := fun_at (T.says.def_ 57)
theorem TX.b__law_call : Binds K (fdA K (He.ga K "_law_call")) ["_law_ring", "_law_one", "_law_other_here"] [] := (T.F__law_call).binds (ps := ["_law_ring", "_law_one", "_law_other_here"]) fun _ _ _ _ _ _ us hl => match us, hl with | [_, _, _], _ => rfl
theorem TX.F__law_product_holds : Fun K "_law_product_holds" "_law_product_holds" s__law_product_holds (He.ga K "_law_product_holds") (fdA K (He.ga K "_law_product_holds")) := fun_at (T.says.def_ 58)
theorem TX.b__law_product_holds : Binds K (fdA K (He.ga K "_law_product_holds")) ["_law_ring", "_law_numbers", "_law_one", "_law_other_here"] [] := (T.F__law_product_holds).binds (ps := ["_law_ring", "_law_numbers", "_law_one", "_law_other_here"]) fun _ _ _ _ _ _ us hl => match us, hl with | [_, _, _, _], _ => rfl
theorem TX.F__law_spectra_hold : Fun K "_law_spectra_hold" "_law_spectra_hold" s__law_spectra_hold (He.ga K "_law_spectra_hold") (fdA K (He.ga K "_law_spectra_hold")) := fun_at (T.says.def_ 59)
theorem TX.b__law_spectra_hold : Binds K (fdA K (He.ga K "_law_spectra_hold")) ["_law_ring", "_law_numbers", "_law_one", "_law_other_here"] [] := (T.F__law_spectra_hold).binds (ps := ["_law_ring", "_law_numbers", "_law_one", "_law_other_here"]) fun _ _ _ _ _ _ us hl => match us, hl with | [_, _, _, _], _ => rfl
theorem TX.F__law_refusals_hold : Fun K "_law_refusals_hold" "_law_refusals_hold" s__law_refusals_hold (He.ga K "_law_refusals_hold") (fdA K (He.ga K "_law_refusals_hold")) := fun_at (T.says.def_ 60)
theorem TX.b__law_refusals_hold : Binds K (fdA K (He.ga K "_law_refusals_hold")) ["_law_store", "_law_ring", "_law_numbers", "_law_one", "_law_other_here"] [] := (T.F__law_refusals_hold).binds (ps := ["_law_store", "_law_ring", "_law_numbers", "_law_one", "_law_other_here"]) fun _ _ _ _ _ _ us hl => match us, hl with | [_, _, _, _, _], _ => rfl
theorem TX.F_law : Fun K "law" "law" s_law (He.ga K "law") (fdA K (He.ga K "law")) := fun_at (T.says.def_ 61)
theorem TX.b_law : Binds K (fdA K (He.ga K "law")) ["_law_script"] [] := (T.F_law).binds (ps := ["_law_script"]) fun _ _ _ _ _ _ us hl => match us, hl with | [_], _ => rfl
theorem TX.F_Ring_init : Fun K "__init__" "Ring.__init__" s_Ring_init (He.ma K (He.ga K "Ring") "__init__") (fdA K (He.ma K (He.ga K "Ring") "__init__")) := fun_at (T.says.def_ 62)
theorem TX.b_Ring_init : Binds K (fdA K (He.ma K (He.ga K "Ring") "__init__")) ["self", "n", "q", "root"] [] := (T.F_Ring_init).binds (ps := ["self", "n", "q", "root"]) fun _ _ _ _ _ _ us hl => match us, hl with | [_, _, _, _], _ => rfl
theorem TX.F_Ring_n : Fun K "n" "Ring.n" s_Ring_n (KxH.gaP K "Ring" "n") (fdA K (KxH.gaP K "Ring" "n")) := fun_at (T.says.def_ 63)
theorem TX.b_Ring_n : Binds K (fdA K (KxH.gaP K "Ring" "n")) ["self"] [] := (T.F_Ring_n).binds (ps := ["self"]) fun _ _ _ _ _ _ us hl => match us, hl with | [_], _ => rfl
theorem TX.F_Ring_q : Fun K "q" "Ring.q" s_Ring_q (KxH.gaP K "Ring" "q") (fdA K (KxH.gaP K "Ring" "q")) := fun_at (T.says.def_ 64)
theorem TX.b_Ring_q : Binds K (fdA K (KxH.gaP K "Ring" "q")) ["self"] [] := (T.F_Ring_q).binds (ps := ["self"]) fun _ _ _ _ _ _ us hl => match us, hl with | [_], _ => rfl
theorem TX.F_Ring_root : Fun K "root" "Ring.root" s_Ring_root (KxH.gaP K "Ring" "root") (fdA K (KxH.gaP K "Ring" "root")) := fun_at (T.says.def_ 65)
theorem TX.b_Ring_root : Binds K (fdA K (KxH.gaP K "Ring" "root")) ["self"] [] := (T.F_Ring_root).binds (ps := ["self"]) fun _ _ _ _ _ _ us hl => match us, hl with | [_], _ => rfl
theorem TX.F_BadItem_init : Fun K "__init__" "BadItem.__init__" s_BadItem_init (He.ma K (He.ga K "BadItem") "__init__") (fdA K (He.ma K (He.ga K "BadItem") "__init__")) := fun_at (T.says.def_ 66)
theorem TX.b_BadItem_init : Binds K (fdA K (He.ma K (He.ga K "BadItem") "__init__")) ["self", "index"] [] := (T.F_BadItem_init).binds (ps := ["self", "index"]) fun _ _ _ _ _ _ us hl => match us, hl with | [_, _], _ => rfl
theorem TX.F_BadLength_init : Fun K "__init__" "BadLength.__init__" s_BadLength_init (He.ma K (He.ga K "BadLength") "__init__") (fdA K (He.ma K (He.ga K "BadLength") "__init__")) := fun_at (T.says.def_ 67)
theorem TX.b_BadLength_init : Binds K (fdA K (He.ma K (He.ga K "BadLength") "__init__")) ["self", "expected", "found"] [] := (T.F_BadLength_init).binds (ps := ["self", "expected", "found"]) fun _ _ _ _ _ _ us hl => match us, hl with | [_, _, _], _ => rfl
end
end Kx
set_option Elab.async false
set_option linter.all false
set_option maxRecDepth 100000
set_option maxHeartbeats 4000000
/-! Small words of the walk: kinds of values, heaps, lists of ints. -/
namespace Kx
open PySem PySem.Spec PyProof.Rows L2
/-- the block of an if, a for, a while -/
def blk : Stmt → List Stmt
  | .If _ b _ _ => b
  | .For _ _ b _ _ => b
  | .While _ b _ _ => b
  | _ => []
def nth (l : List Stmt) (i : Nat) : Stmt := l.getD i (.Pass ⟨0, 0, 0, 0⟩)
/-! ### kinds -/
inductive Kd (H : Hp) : V → String → Prop
  | non : Kd H .non "NoneType"
  | bl (b : Bool) : Kd H (.bl b) "bool"
  | int (i : Int) : Kd H (.int i) "int"
  | str (z : Str) : Kd H (.str z) "str"
  | lst {a : Addr} {xs : List V} (e : H a = some (.lst xs)) : Kd H (.ref a) "list"
  | tup {a : Addr} {xs : List V} (e : H a = some (.tup xs)) : Kd H (.ref a) "tuple"
theorem Kd.ty {K : PySem.W.Frag} {H : Hp} {x : V} {t : String} (k : Kd H x t) : TyX K H x (.type t) := by
  cases k with
  | non => exact .base .non
  | bl b => exact .base (.bl b)
  | int i => exact .base (.int i)
  | str z => exact .base (.str z)
  | lst e => exact .base (.lst e)
  | tup e => exact .base (.tup e)
theorem isi_of {K : PySem.W.Frag} {H : Hp} {x : V} {t c : String} {b : Bool} {Q : VK} (k : Kd H x t) (h : kitB t c = some b) (q : Q (.bl b) H) : rIsi K [x, .ty c] H Q := ⟨x, .ty c, .type t, .type c, b, rfl, .ty c, k.ty, kit_ty h, q⟩
/-- an int that is no bool -/
def isI : V → Bool
  | .int _ => true
  | _ => false
/-! ### heaps -/
theorem same_upd {H : Hp} {p : Addr} {o : HO} (h : H p = none) : Same H (upd H p o) := fun b x e => by
  rw [upd_ne (ne_of_none e h)]
  exact e
theorem lq {K : PySem.W.Frag} {H : Hp} {a : Addr} {xs : List V} (h : H a = some (.lst xs)) : SqL K H a xs := .inl (.inl h)
theorem tq {K : PySem.W.Frag} {H : Hp} {a : Addr} {xs : List V} (h : H a = some (.tup xs)) : SqT K H a xs := .inl (.inl h)
/-- a list of ints -/
abbrev IL (l : List Int) : List V := l.map V.int
theorem il_get {l : List Int} {i : Nat} {z : Int} (h : l[i]? = some z) : (IL l)[i]? = some (.int z) := by
  rw [List.getElem?_map, h]
  rfl
theorem il_len (l : List Int) : (IL l).length = l.length := List.length_map _
theorem at_il {l : List Int} {z : Int} {j : Nat} {y : Int} (e : z = (j : Int)) (h : l[j]? = some y) : atI (IL l) z = some (.int y) := at_of e (il_get h)
theorem line_of {n : Nat} (h : n ≤ 100000) : n ≤ sizeLine := Nat.le_trans h (by decide)
theorem line_lt {n : Nat} (h : n ≤ 100000) : n < sizeLine := Nat.lt_of_le_of_lt h (by decide)
end Kx
set_option Elab.async false
set_option linter.all false
set_option maxRecDepth 100000
set_option maxHeartbeats 4000000
/-! modular.py's and transform.py's small defs. -/
namespace Kx
open PySem PySem.Spec PyProof.Rows L2
section
variable {P : Program} {w : World} {K : PySem.W.Frag} {mg : Str → Option Value} {base : Heap}
/-! ### whole -/
def sp_whole : Sp := fun vs H Q _ => ∃ x t, vs = [x] ∧ Kd H x t ∧ Q (.bl (isI x)) H
theorem ok_whole (T : TX K mg) : FnOk P w K mg base CX0 1 (A K "whole") (fdA K (A K "whole")) ["value"] sp_whole := by
  refine T.F_whole.ok sc_whole (fun vs H Q E h => ?_) (fun cdv A0 outer s H vs Q E hr h => ?_)
  · obtain ⟨x, t, rfl, _⟩ := h
    rfl
  · obtain ⟨x, t, rfl, k, q⟩ := h
    refine ⟨_, (pss_one (ps_ret (pe_and (pe_callB call_isi (by rfl) T.n_isinstance (by decide +kernel) (pa_cons (pv 0) (pa_cons (pe_bltn (v := .ty "int") (by rfl) T.n_int (by decide +kernel) rfl) pa_nil))) (pe_one (pe_not (pe_callB call_isi (by rfl) T.n_isinstance (by decide +kernel) (pa_cons (pv 0) (pa_cons (pe_bltn (v := .ty "bool") (by rfl) T.n_bool (by decide +kernel) rfl) pa_nil)))))))), ?_⟩
    refine ⟨_, rfl, _, _, _, _, decide (t = "bool" ∨ t = "int"), rfl, .ty _, k.ty, kit_ty (by cases k <;> decide +kernel), _, rfl, ?_⟩
    refine ite2 (fun e => ?_) fun e => ?_
    · refine ⟨_, rfl, _, _, _, _, decide (t = "bool"), rfl, .ty _, k.ty, kit_ty (by cases k <;> decide +kernel), _, rfl, ?_⟩
      cases k <;> first | exact q | (exfalso; revert e; decide)
    · cases k <;> first | exact q | (exfalso; revert e; decide)
/-! ### whole_between -/
def inR (lo hi : Int) : V → Bool
  | .int i => decide (lo ≤ i ∧ i ≤ hi)
  | _ => false
def sp_wb : Sp := fun vs H Q _ => ∃ x t lo hi, vs = [x, .int lo, .int hi] ∧ Kd H x t ∧ Q (.bl (inR lo hi x)) H
theorem ok_whole_between (T : TX K mg) : FnOk P w K mg base CX0 1 (A K "whole_between") (fdA K (A K "whole_between")) ["value", "low", "high"] sp_wb := by
  refine T.F_whole_between.ok sc_whole_between (fun vs H Q E h => ?_) (fun cdv A0 outer s H vs Q E hr h => ?_)
  · obtain ⟨x, t, lo, hi, rfl, _⟩ := h
    rfl
  · obtain ⟨x, t, lo, hi, rfl, k, q⟩ := h
    refine ⟨_, (pss_cons (ps_if (PW.pt (pw_or (pt_not (pt_val (pe_callB call_isi (by rfl) T.n_isinstance (by decide +kernel) (pa_cons (pv 0) (pa_cons (pe_bltn (v := .ty "int") (by rfl) T.n_int (by decide +kernel) rfl) pa_nil))))) (pw_or1 (pt_val (pe_callB call_isi (by rfl) T.n_isinstance (by decide +kernel) (pa_cons (pv 0) (pa_cons (pe_bltn (v := .ty "bool") (by rfl) T.n_bool (by decide +kernel) rfl) pa_nil))))))) (pss_one (ps_ret pe_bl)) pss_nil)
      (pss_one (ps_ret (pe_chain op_le op_le (pv 1) (pv 0) (pv 2))))), ?_⟩
    refine ⟨_, rfl, _, _, _, _, decide (t = "bool" ∨ t = "int"), rfl, .ty _, k.ty, kit_ty (by cases k <;> decide +kernel), _, rfl, ?_⟩
    cases k with
    | int i =>
      refine iteF ⟨_, rfl, _, _, _, _, false, rfl, .ty _, (Kd.int i).ty, kit_ty (by decide +kernel), _, rfl, iteF ?_⟩
      refine ⟨_, rfl, _, rfl, _, _, rfl, rfl, _, rfl, ite2 (fun e => ?_) fun e => ?_⟩
      · refine ⟨_, rfl, _, _, rfl, rfl, ?_⟩
        have e1 : lo ≤ i := of_decide_eq_true e
        have e2 : decide (i ≤ hi) = inR lo hi (.int i) := by
          show _ = decide (lo ≤ i ∧ i ≤ hi)
          simp [e1]
        show Q (.bl (decide (i ≤ hi))) H
        rw [e2]
        exact q
      · have e1 : ¬ lo ≤ i := fun z => e (decide_eq_true z)
        have e2 : false = inR lo hi (.int i) := by
          show _ = decide (lo ≤ i ∧ i ≤ hi)
          simp [e1]
        show Q (.bl false) H
        rw [e2]
        exact q
    | bl b =>
      refine iteF ⟨_, rfl, _, _, _, _, true, rfl, .ty _, (Kd.bl b).ty, kit_ty (by decide +kernel), _, rfl, iteT ?_⟩
      exact q
    | _ => exact iteT q
/-! ### smallest_factor -/
/-- no divisor from 2 to the square root -/
def NoDiv (v : Int) : Prop := ∀ d : Int, 2 ≤ d → d * d ≤ v → v % d ≠ 0
def sp_sf : Sp := fun vs H Q _ => ∃ v : Int, vs = [.int v] ∧ 2 ≤ v ∧ v ≤ 100000 ∧ NoDiv v ∧ Q (.int v) H
theorem ok_smallest_factor (T : TX K mg) : FnOk P w K mg base CX0 1 (A K "smallest_factor") (fdA K (A K "smallest_factor")) ["value"] sp_sf := by
  refine T.F_smallest_factor.ok sc_smallest_factor (fun vs H Q E h => ?_) (fun cdv A0 outer s H vs Q E hr h => ?_)
  · obtain ⟨v, rfl, _⟩ := h
    rfl
  · obtain ⟨v, rfl, h1, h2, nd, q⟩ := h
    refine ⟨_, (pss_cons (ps_set (i := 1) sc_smallest_factor.nd rfl (Or.inl rfl) pe_int)
      (pss_cons (ps_while PassesOwn.never (pt_cmpR op_le (pe_op op_mul (pv 1) (pv 1)) (pv 0) (nomark _)) (pss_cons (ps_if (pt_cmpR op_eq (pe_op op_mod (pv 0) (pv 1)) pe_int (nomark _)) (pss_one (ps_ret (pv 1))) pss_nil)
      (pss_one (ps_set (i := 1) sc_smallest_factor.nd rfl (Or.inl rfl) (pe_op op_add (pv 1) pe_int)))))
      (pss_one (ps_ret (pv 0))))), ?_⟩
    refine ⟨fun m σ H' => ∃ d : Int, σ = [some (.int v), some (.int d)] ∧ 2 ≤ d ∧ d ≤ v ∧ m = (v + 1 - d).toNat ∧ H' = H, ⟨_, 2, rfl, by omega, h1, rfl, rfl⟩, ?_⟩
    rintro m σ H' ⟨d, rfl, d1, d2, rfl, rfl⟩
    refine ⟨_, rfl, _, rfl, _, _, rfl, rfl, .inl ⟨by omega, by omega⟩, _, rfl, _, _, rfl, rfl, _, rfl, ite2 (fun e => ?_) fun e => ⟨_, rfl, q⟩⟩
    have e1 : d * d ≤ v := of_decide_eq_true e
    have e3 : d < v := by
      have z : 2 * d ≤ d * d := Int.mul_le_mul_of_nonneg_right d1 (by omega)
      omega
    refine ⟨fun σ' H'' => ∃ d' : Int, σ' = [some (.int v), some (.int d')] ∧ d' = d + 1 ∧ H'' = H', fun σ' H' z => ?_, ?_⟩
    · obtain ⟨d', rfl, rfl, rfl⟩ := z
      exact ⟨_, (by omega : (v + 1 - (d + 1)).toNat < _), d + 1, rfl, by omega, by omega, rfl, rfl⟩
    · refine ⟨_, rfl, _, rfl, _, _, rfl, rfl, by omega, rfl, _, rfl, ite2 (fun e => ?_) fun e => ?_⟩
      · exact absurd (V.int.inj (of_decide_eq_true e)) (nd d d1 e1)
      · exact ⟨_, rfl, _, _, rfl, rfl, d + 1, rfl, rfl, rfl⟩
end
end Kx
set_option Elab.async false
set_option linter.all false
set_option maxRecDepth 100000
set_option maxHeartbeats 4000000
/-! Powers, rings. -/
namespace Kx
open PySem PySem.Spec PyProof.Rows L2
section
variable {P : Program} {w : World} {K : PySem.W.Frag} {mg : Str → Option Value} {base : Heap}
theorem bit1 (l : Nat) : Builtin.bitAnd (l : Int) 1 = ((l % 2 : Nat) : Int) := by
  rw [PyProof.Rows.bitAnd_m1]
  omega
theorem shr1 (l : Nat) : (l : Int) / 2 ^ (1 : Int).toNat = ((l / 2 : Nat) : Int) := by
  show (l : Int) / 2 = _
  omega
/-! ### power_residue -/
def sp_pow : Sp := fun vs H Q _ => ∃ (b : Int) (e : Nat) (q : Int), vs = [.int b, .int e, .int q] ∧ 0 < q ∧ q < 5000 ∧ Q (.int (b ^ e % q)) H
theorem ok_power_residue (T : TX K mg) : FnOk P w K mg base CX0 1 (A K "power_residue") (fdA K (A K "power_residue")) ["base", "exponent", "q"] sp_pow := by
  refine T.F_power_residue.ok sc_power_residue (fun vs H Q E h => ?_) (fun cdv A0 outer s H vs Q E hr h => ?_)
  · obtain ⟨b, e, q, rfl, _⟩ := h
    rfl
  · obtain ⟨b, e, q, rfl, h1, h2, qq⟩ := h
    refine ⟨_, (pss_cons (ps_set (i := 3) sc_power_residue.nd rfl (Or.inl rfl) (pe_op op_mod pe_int (pv 2)))
      (pss_cons (ps_set (i := 4) sc_power_residue.nd rfl (Or.inl rfl) (pe_op op_mod (pv 0) (pv 2)))
      (pss_cons (ps_set (i := 5) sc_power_residue.nd rfl (Or.inl rfl) (pv 1))
      (pss_cons (ps_while PassesOwn.never (pt_cmpR op_gt (pv 5) pe_int (nomark _)) (pss_cons (ps_if (pt_truth (pe_op op_and (pv 5) pe_int) (by intro _; rfl)) (pss_one (ps_set (i := 3) sc_power_residue.nd rfl (Or.inl rfl) (pe_op op_mod (pe_op op_mul (pv 3) (pv 4)) (pv 2)))) pss_nil)
      (pss_cons (ps_set (i := 4) sc_power_residue.nd rfl (Or.inl rfl) (pe_op op_mod (pe_op op_mul (pv 4) (pv 4)) (pv 2)))
      (pss_one (ps_set (i := 5) sc_power_residue.nd rfl (Or.inl rfl) (pe_op op_shr (pv 5) pe_int))))))
      (pss_one (ps_ret (pv 3))))))), ?_⟩
    refine ⟨_, rfl, _, _, rfl, rfl, h1, ?_⟩
    refine ⟨_, rfl, _, rfl, _, _, rfl, rfl, h1, ?_⟩
    refine ⟨_, rfl, ?_⟩
    refine ⟨fun m σ H' => ∃ (r sq : Int) (l : Nat), σ = [some (.int b), some (.int e), some (.int q), some (.int r), some (.int sq), some (.int l)] ∧ 0 ≤ r ∧ r < q ∧ 0 ≤ sq ∧ sq < q ∧ Cg q (r * sq ^ l) (b ^ e) ∧ m = l ∧ H' = H,
      ⟨_, _, _, e, rfl, Int.emod_nonneg _ (by omega), Int.emod_lt_of_pos _ h1, Int.emod_nonneg _ (by omega), Int.emod_lt_of_pos _ h1, half_start e, rfl, rfl⟩, ?_⟩
    rintro m σ H' ⟨r, sq, l, rfl, r0, r1, s0, s1, inv, hm, rfl⟩
    subst hm
    refine ⟨_, rfl, _, _, rfl, rfl, _, rfl, ite2 (fun e0 => ?_) fun e0 => ?_⟩
    · have l0 : (0 : Int) < m := of_decide_eq_true e0
      refine ⟨fun σ' H'' => ∃ (r sq : Int), σ' = [some (.int b), some (.int e), some (.int q), some (.int r), some (.int sq), some (.int (m / 2 : Nat))] ∧ 0 ≤ r ∧ r < q ∧ 0 ≤ sq ∧ sq < q ∧ Cg q (r * sq ^ (m / 2)) (b ^ e) ∧ H'' = H', fun σ' H'' z => ?_, ?_⟩
      · obtain ⟨r', sq', rfl, a1, a2, a3, a4, a5, rfl⟩ := z
        exact ⟨m / 2, by omega, r', sq', m / 2, rfl, a1, a2, a3, a4, a5, rfl, rfl⟩
      · have sb : ∀ z : Int, 0 ≤ z → z < q → -(2 ^ 64) < z ∧ z < 2 ^ 64 := fun z z0 z1 => ⟨by omega, by omega⟩
        refine ⟨_, rfl, _, _, rfl, rfl, _, rfl, ?_⟩
        have eb : ((Builtin.bitAnd (m : Int) 1) != 0) = decide (m % 2 = 1) := by
          rw [bit1]
          by_cases o : m % 2 = 1
          · rw [o]
            simp
          · have o2 : m % 2 = 0 := by omega
            rw [o2]
            simp
        rw [eb]
        refine ite2 (fun o => ?_) fun o => ?_
        · have o1 := of_decide_eq_true o
          refine ⟨_, rfl, _, rfl, _, _, rfl, rfl, .inl (sb _ r0 r1), _, rfl, _, _, rfl, rfl, h1, ?_⟩
          refine ⟨_, rfl, _, rfl, _, _, rfl, rfl, .inl (sb _ s0 s1), _, rfl, _, _, rfl, rfl, h1, ?_⟩
          refine ⟨_, rfl, _, _, rfl, rfl, by show (0 : Int) ≤ 1; decide, ?_⟩
          refine ⟨_, _, ?_, Int.emod_nonneg _ (by omega), Int.emod_lt_of_pos _ h1, Int.emod_nonneg _ (by omega), Int.emod_lt_of_pos _ h1, half_odd inv o1, rfl⟩
          rw [← shr1]
          rfl
        · have o1 : m % 2 = 0 := by
            have : ¬ m % 2 = 1 := fun z => o (decide_eq_true z)
            omega
          refine ⟨_, rfl, _, rfl, _, _, rfl, rfl, .inl (sb _ s0 s1), _, rfl, _, _, rfl, rfl, h1, ?_⟩
          refine ⟨_, rfl, _, _, rfl, rfl, by show (0 : Int) ≤ 1; decide, ?_⟩
          refine ⟨_, _, ?_, r0, r1, Int.emod_nonneg _ (by omega), Int.emod_lt_of_pos _ h1, half_even inv o1, rfl⟩
          rw [← shr1]
          rfl
    · have l0 : m = 0 := by
        have : ¬ (0 : Int) < m := fun z => e0 (decide_eq_true z)
        omega
      subst l0
      refine ⟨_, rfl, ?_⟩
      rw [half_end inv r0 r1]
      exact qq
/-! ### root_fits -/
def sp_rf : Sp := fun vs H Q _ => ∃ (n : Nat) (q x : Int), vs = [.int n, .int q, .int x] ∧ 2 ≤ q ∧ q < 5000 ∧ Cg q (x ^ (n / 2)) (-1) ∧ Q (.bl true) H
theorem ok_root_fits (T : TX K mg) : FnOk P w K mg base CX0 2 (A K "root_fits") (fdA K (A K "root_fits")) ["n", "q", "value"] sp_rf := by
  refine T.F_root_fits.ok sc_root_fits (fun vs H Q E h => ?_) (fun cdv A0 outer s H vs Q E hr h => ?_)
  · obtain ⟨n, q, x, rfl, _⟩ := h
    rfl
  · obtain ⟨n, q, x, rfl, h1, h2, hx, qq⟩ := h
    refine ⟨_, (pss_one (ps_ret (pe_cmpR op_eq (pe_call (ok_power_residue T) (hr.mono (by decide)) (by rfl) T.g_power_residue T.F_power_residue.kp T.b_power_residue .nil pass0 (pa_cons (pv 2) (pa_cons (pe_op op_fdiv (pv 0) pe_int) (pa_cons (pv 1) pa_nil)))) (pe_op op_sub (pv 1) pe_int) (nomark _)))), ?_⟩
    refine ⟨_, rfl, _, rfl, _, _, rfl, rfl, ⟨by decide, by decide⟩, _, rfl, x, n / 2, q, ?_, by omega, h2, ?_⟩
    · rfl
    · refine ⟨_, rfl, _, _, rfl, rfl, rfl, ?_⟩
      have e : decide (V.int (x ^ (n / 2) % q) = V.int (q - 1)) = true := decide_eq_true (congrArg V.int ((Rt.iff_mod h1).mpr hx))
      show Q (.bl (decide (V.int (x ^ (n / 2) % q) = V.int (q - 1)))) H
      rw [e]
      exact qq
/-! ### degrees, moduli -/
def degs : List Int := [8, 16, 32, 64, 128, 256]
def sp_df : Sp := fun vs H Q _ => ∃ n : Int, vs = [.int n] ∧ n ∈ degs ∧ Q (.bl true) H
theorem ok_degree_fits (T : TX K mg) : FnOk P w K mg base CX0 2 (A K "degree_fits") (fdA K (A K "degree_fits")) ["n"] sp_df := by
  refine T.F_degree_fits.ok sc_degree_fits (fun vs H Q E h => ?_) (fun cdv A0 outer s H vs Q E hr h => ?_)
  · obtain ⟨n, rfl, _⟩ := h
    rfl
  · obtain ⟨n, rfl, hn, q⟩ := h
    refine ⟨_, (pss_one (ps_ret (pe_and (pe_call (ok_whole T) (hr.mono (by decide)) (by rfl) T.g_whole T.F_whole.kp T.b_whole .nil pass0 (pa_cons (pv 0) pa_nil)) (pe_one (pe_cmpR op_in_seq (pv 0) (pe_glob (v := .ref (He.ga _ "DEGREES")) rfl T.g_DEGREES rfl) (by rfl)))))), ?_⟩
    refine ⟨_, rfl, _, _, rfl, .int n, true, rfl, iteT ?_⟩
    refine ⟨_, rfl, _, _, rfl, .inr (T.t_DEGREES H), rfl, rfl, ?_⟩
    have e : inV (.int n) [.int 8, .int 16, .int 32, .int 64, .int 128, .int 256] = true := by
      unfold degs at hn
      simp only [List.mem_cons, List.not_mem_nil, or_false] at hn
      rcases hn with rfl | rfl | rfl | rfl | rfl | rfl <;> decide
    show Q (.bl (if false = true then _ else inV (.int n) [.int 8, .int 16, .int 32, .int 64, .int 128, .int 256])) H
    rw [e]
    exact q
def sp_opf : Sp := fun vs H Q _ => ∃ v : Int, vs = [.int v] ∧ 3 ≤ v ∧ v ≤ 4095 ∧ NoDiv v ∧ Q (.bl true) H
theorem ok_odd_prime_fits (T : TX K mg) : FnOk P w K mg base CX0 2 (A K "odd_prime_fits") (fdA K (A K "odd_prime_fits")) ["q"] sp_opf := by
  refine T.F_odd_prime_fits.ok sc_odd_prime_fits (fun vs H Q E h => ?_) (fun cdv A0 outer s H vs Q E hr h => ?_)
  · obtain ⟨n, rfl, _⟩ := h
    rfl
  · obtain ⟨v, rfl, h1, h2, nd, q⟩ := h
    refine ⟨_, (pss_one (ps_ret (pe_and (pe_call (ok_whole T) (hr.mono (by decide)) (by rfl) T.g_whole T.F_whole.kp T.b_whole .nil pass0 (pa_cons (pv 0) pa_nil)) (pe_and (pe_chain op_le op_le pe_int (pv 0) (pe_glob (v := .int 4095) rfl T.c_LARGEST.choose_spec ⟨_, rfl⟩)) (pe_one (pe_cmpR op_eq (pe_call (ok_smallest_factor T) (hr.mono (by decide)) (by rfl) T.g_smallest_factor T.F_smallest_factor.kp T.b_smallest_factor .nil pass0 (pa_cons (pv 0) pa_nil)) (pv 0) (nomark _))))))), ?_⟩
    refine ⟨_, rfl, _, _, rfl, .int v, true, rfl, iteT ?_⟩
    refine ⟨_, rfl, _, _, rfl, rfl, _, rfl, ?_⟩
    rw [decide_eq_true h1]
    refine iteT ⟨_, _, rfl, rfl, _, rfl, ?_⟩
    rw [decide_eq_true h2]
    refine iteT ⟨_, rfl, v, rfl, by omega, by omega, nd, _, rfl, rfl, ?_⟩
    show Q (.bl (decide (V.int v = V.int v))) H
    rw [decide_eq_true rfl]
    exact q
/-! ### rings -/
/-- a ring's numbers -/
structure Rg (c : Nat) (n : Nat) (q r : Int) : Prop where
  c0 : 2 ≤ c
  c1 : c ≤ 7
  n_eq : n = 2 ^ (c + 1)
  q0 : 17 ≤ q
  q1 : q ≤ 4095
  nd : NoDiv q
  qn : q % n = 1
  rt : Rt (2 ^ c) q r
theorem Rg.deg {c n : Nat} {q r : Int} (h : Rg c n q r) : (n : Int) ∈ degs := by
  have h0 := h.c0
  have h1 := h.c1
  have h2 := h.n_eq
  have : c = 2 ∨ c = 3 ∨ c = 4 ∨ c = 5 ∨ c = 6 ∨ c = 7 := by omega
  rcases this with rfl | rfl | rfl | rfl | rfl | rfl <;> subst h2 <;> decide
theorem Rg.half {c n : Nat} {q r : Int} (h : Rg c n q r) : n / 2 = 2 ^ c := by
  rw [h.n_eq, Nat.pow_succ]
  omega
theorem Rg.n_lo {c n : Nat} {q r : Int} (h : Rg c n q r) : 8 ≤ n := by
  have h0 := h.c0
  rw [h.n_eq]
  exact Nat.le_trans (by decide : 8 ≤ 2 ^ 3) (Nat.pow_le_pow_right (by decide) (by omega))
theorem Rg.n_hi {c n : Nat} {q r : Int} (h : Rg c n q r) : n ≤ 256 := by
  have h0 := h.c1
  rw [h.n_eq]
  exact Nat.le_trans (Nat.pow_le_pow_right (by decide) (by omega : c + 1 ≤ 8)) (by decide)
theorem Rg.r1 {c n : Nat} {q r : Int} (h : Rg c n q r) : 1 ≤ r := h.rt.pos (by have := h.q0; omega) (Nat.pow_pos (by decide))
theorem Rg.r2 {c n : Nat} {q r : Int} (h : Rg c n q r) : r < q := h.rt.2.1
def sp_fault : Sp := fun vs H Q _ => ∃ (c n : Nat) (q r : Int), vs = [.int n, .int q, .int r] ∧ Rg c n q r ∧ Q .non H
theorem ok_ring_fault (T : TX K mg) : FnOk P w K mg base CX0 3 (A K "ring_fault") (fdA K (A K "ring_fault")) ["n", "q", "root"] sp_fault := by
  refine T.F_ring_fault.ok sc_ring_fault (fun vs H Q E h => ?_) (fun cdv A0 outer s H vs Q E hr h => ?_)
  · obtain ⟨c, n, q, r, rfl, _⟩ := h
    rfl
  · obtain ⟨c, n, q, r, rfl, R, qq⟩ := h
    have q0 := R.q0
    have q1 := R.q1
    have r1 := R.r1
    have r2 := R.r2
    refine ⟨_, (pss_cons (ps_if (pt_not (pt_val (pe_call (ok_degree_fits T) (hr.mono (by decide)) (by rfl) T.g_degree_fits T.F_degree_fits.kp T.b_degree_fits .nil pass0 (pa_cons (pv 0) pa_nil)))) (pss_one (ps_ret pe_str)) pss_nil)
      (pss_cons (ps_if (pt_not (pt_val (pe_call (ok_odd_prime_fits T) (hr.mono (by decide)) (by rfl) T.g_odd_prime_fits T.F_odd_prime_fits.kp T.b_odd_prime_fits .nil pass0 (pa_cons (pv 1) pa_nil)))) (pss_one (ps_ret pe_str)) pss_nil)
      (pss_cons (ps_if (PW.pt (pw_or (pt_not (pt_val (pe_call (ok_whole T) (hr.mono (by decide)) (by rfl) T.g_whole T.F_whole.kp T.b_whole .nil pass0 (pa_cons (pv 2) pa_nil)))) (pw_or (pt_cmpR op_lt (pv 2) pe_int (nomark _)) (pw_or1 (pt_cmpR op_gt (pv 2) (pe_op op_sub (pv 1) pe_int) (nomark _)))))) (pss_one (ps_ret pe_str)) pss_nil)
      (pss_cons (ps_if (pt_not (pt_val (pe_call (ok_root_fits T) (hr.mono (by decide)) (by rfl) T.g_root_fits T.F_root_fits.kp T.b_root_fits .nil pass0 (pa_cons (pv 0) (pa_cons (pv 1) (pa_cons (pv 2) pa_nil)))))) (pss_one (ps_ret pe_str)) pss_nil)
      (pss_one (ps_ret pe_non)))))), ?_⟩
    refine ⟨_, rfl, _, rfl, R.deg, _, rfl, iteF ?_⟩
    refine ⟨_, rfl, q, rfl, by omega, by omega, R.nd, _, rfl, iteF ?_⟩
    refine ⟨_, rfl, _, _, rfl, .int r, _, rfl, iteF ?_⟩
    refine ⟨_, rfl, _, _, rfl, rfl, _, rfl, ?_⟩
    rw [decide_eq_false (by omega : ¬ r < 1)]
    refine iteF ⟨_, rfl, _, rfl, _, _, rfl, rfl, _, _, rfl, rfl, _, rfl, ?_⟩
    rw [decide_eq_false (by omega : ¬ q - 1 < r)]
    refine iteF ⟨_, rfl, _, rfl, _, rfl, n, q, r, rfl, by omega, by omega, ?_, _, rfl, iteF qq⟩
    rw [R.half]
    exact R.rt.2.2
/-- the ring at a -/
def RingAt (K : PySem.W.Frag) (H : Hp) (a : Addr) (n : Nat) (q r : Int) : Prop := ∃ dx, H a = some (.ins (A K "Ring") dx [("own_n", .int n), ("own_q", .int q), ("own_root", .int r)])
def sp_init (K : PySem.W.Frag) : Sp := fun vs H Q _ => ∃ (x dx : Addr) (c n : Nat) (q r : Int), vs = [.ref x, .int n, .int q, .int r] ∧ Rg c n q r ∧ H x = some (.ins (A K "Ring") dx []) ∧
  Q .non (upd H x (.ins (A K "Ring") dx [("own_n", .int n), ("own_q", .int q), ("own_root", .int r)]))
theorem ok_Ring_init (T : TX K mg) : FnOk P w K mg base CX0 4 (He.ma K (He.ga K "Ring") "__init__") (fdA K (He.ma K (He.ga K "Ring") "__init__")) ["self", "n", "q", "root"] (sp_init K) := by
  refine T.F_Ring_init.ok sc_Ring_init (fun vs H Q E h => ?_) (fun cdv A0 outer s H vs Q E hr h => ?_)
  · obtain ⟨x, dx, c, n, q, r, rfl, _⟩ := h
    rfl
  · obtain ⟨x, dx, c, n, q, r, rfl, R, hx, qq⟩ := h
    refine ⟨_, (pss_cons (ps_set (i := 4) sc_Ring_init.nd rfl (Or.inl rfl) (pe_call (ok_ring_fault T) (hr.mono (by decide)) (by rfl) T.g_ring_fault T.F_ring_fault.kp T.b_ring_fault .nil pass0 (pa_cons (pv 1) (pa_cons (pv 2) (pa_cons (pv 3) pa_nil)))))
      (pss_cons (ps_if (pt_cmpR op_notN (pv 4) pe_non (nomark _)) (pss_one ps_never) pss_nil)
      (pss_cons (ps_fld (pv 0) (pv 1) rfl)
      (pss_cons (ps_fld (pv 0) (pv 2) rfl)
      (pss_one (ps_fld (pv 0) (pv 3) rfl)))))), ?_⟩
    refine ⟨_, rfl, _, rfl, _, rfl, c, n, q, r, rfl, R, ?_⟩
    refine ⟨_, rfl, rfl, _, rfl, iteF ?_⟩
    refine ⟨_, rfl, _, rfl, x, _, dx, _, rfl, hx, T.clRing, T.no_Ring_own_n, (by show 0 < 1000; decide), ?_⟩
    refine ⟨_, rfl, _, rfl, x, _, dx, _, rfl, upd_same, T.clRing, T.no_Ring_own_q, (by show 1 < 1000; decide), ?_⟩
    refine ⟨_, rfl, _, rfl, x, _, dx, _, rfl, upd_same, T.clRing, T.no_Ring_own_root, (by show 2 < 1000; decide), ?_⟩
    rw [upd_upd, upd_upd]
    exact qq
def sp_get (K : PySem.W.Frag) (f : Str) : Sp := fun vs H Q _ => ∃ (a dx : Addr) (fs : List (Str × V)) (v : V), vs = [.ref a] ∧ H a = some (.ins (A K "Ring") dx fs) ∧ fs.lookup f = some v ∧ Q v H
theorem ok_Ring_n (T : TX K mg) : FnOk P w K mg base CX0 1 (KxH.gaP K "Ring" "n") (fdA K (KxH.gaP K "Ring" "n")) ["self"] (sp_get K "own_n") := by
  refine T.F_Ring_n.ok sc_Ring_n (fun vs H Q E h => ?_) (fun cdv A0 outer s H vs Q E hr h => ?_)
  · obtain ⟨a, dx, fs, v, rfl, _⟩ := h
    rfl
  · obtain ⟨a, dx, fs, v, rfl, ha, l, q⟩ := h
    exact ⟨_, (pss_one (ps_ret (pe_fld (pv 0) rfl))), _, rfl, a, _, dx, fs, v, rfl, ha, T.clRing, T.no_Ring_own_n, l, q⟩
theorem ok_Ring_q (T : TX K mg) : FnOk P w K mg base CX0 1 (KxH.gaP K "Ring" "q") (fdA K (KxH.gaP K "Ring" "q")) ["self"] (sp_get K "own_q") := by
  refine T.F_Ring_q.ok sc_Ring_q (fun vs H Q E h => ?_) (fun cdv A0 outer s H vs Q E hr h => ?_)
  · obtain ⟨a, dx, fs, v, rfl, _⟩ := h
    rfl
  · obtain ⟨a, dx, fs, v, rfl, ha, l, q⟩ := h
    exact ⟨_, (pss_one (ps_ret (pe_fld (pv 0) rfl))), _, rfl, a, _, dx, fs, v, rfl, ha, T.clRing, T.no_Ring_own_q, l, q⟩
theorem ok_Ring_root (T : TX K mg) : FnOk P w K mg base CX0 1 (KxH.gaP K "Ring" "root") (fdA K (KxH.gaP K "Ring" "root")) ["self"] (sp_get K "own_root") := by
  refine T.F_Ring_root.ok sc_Ring_root (fun vs H Q E h => ?_) (fun cdv A0 outer s H vs Q E hr h => ?_)
  · obtain ⟨a, dx, fs, v, rfl, _⟩ := h
    rfl
  · obtain ⟨a, dx, fs, v, rfl, ha, l, q⟩ := h
    exact ⟨_, (pss_one (ps_ret (pe_fld (pv 0) rfl))), _, rfl, a, _, dx, fs, v, rfl, ha, T.clRing, T.no_Ring_own_root, l, q⟩
end
end Kx
set_option Elab.async false
set_option linter.all false
set_option maxRecDepth 100000
set_option maxHeartbeats 4000000
/-! The law's draws. -/
namespace Kx
open PySem PySem.Spec PyProof.Rows L2
/-! ### what a draw leaves -/
/-- all but the store at l stands -/
def Kp (l : Addr) (H H' : Hp) : Prop := ∀ b o, b ≠ l → H b = some o → H' b = some o
theorem Kp.refl (l : Addr) (H : Hp) : Kp l H H := fun _ _ _ e => e
theorem Kp.trans {l : Addr} {H H1 H2 : Hp} (a : Kp l H H1) (b : Kp l H1 H2) : Kp l H H2 := fun c o n e => b c o n (a c o n e)
theorem Kp.of_same {l : Addr} {H H' : Hp} (s : Same H H') : Kp l H H' := fun b o _ e => s b o e
/-- the store: the script's copy at s, the draws' numbers -/
def Sto (H : Hp) (l s : Addr) : Prop := ∃ (a b c d e : Int) (ns : List Int), 0 ≤ a ∧ H l = some (.lst [.ref s, .int a, .int b, .int c, .int d, .int e]) ∧ H s = some (.lst (IL ns))
theorem Sto.ne {H : Hp} {l s : Addr} (h : Sto H l s) : s ≠ l := by
  obtain ⟨a, b, c, d, e, ns, _, h1, h2⟩ := h
  intro z
  rw [z, h1] at h2
  have h3 := HO.lst.inj (Option.some.inj h2)
  cases ns with
  | nil => cases h3
  | cons x r => cases h3
theorem Sto.same {H H' : Hp} {l s : Addr} (h : Sto H l s) (k : Same H H') : Sto H' l s := by
  obtain ⟨a, b, c, d, e, ns, h0, h1, h2⟩ := h
  exact ⟨a, b, c, d, e, ns, h0, k _ _ h1, k _ _ h2⟩
theorem Sto.some_l {H : Hp} {l s : Addr} (h : Sto H l s) : ∃ o, H l = some o := by
  obtain ⟨a, b, c, d, e, ns, _, h1, _⟩ := h
  exact ⟨_, h1⟩
theorem Sto.free {H H' : Hp} {l s p : Addr} (h : Sto H' l s) (k : Kp l H H') (n : H' p = none) : H p = none := by
  cases q : H p with
  | none => rfl
  | some o =>
    obtain ⟨u, hu⟩ := h.some_l
    have e := k p o (fun z => by rw [z, hu] at n; cases n) q
    rw [n] at e
    cases e
/-- what is wanted of a draw -/
def Dr (l s : Addr) (H : Hp) (G : V → Hp → Prop) (Q : VK) : Prop := ∀ v H', Kp l H H' → Sto H' l s → G v H' → Q v H'
theorem Dr.after {l s : Addr} {H H' : Hp} {G : V → Hp → Prop} {Q : VK} (h : Dr l s H G Q) (k : Kp l H H') : Dr l s H' G Q := fun v H2 k2 s2 g => h v H2 (k.trans k2) s2 g
/-- an int from 0, below m -/
def Below (m : Int) : V → Hp → Prop := fun v _ => ∃ i : Int, v = .int i ∧ 0 ≤ i ∧ i < m
def Betw (lo hi : Int) : V → Hp → Prop := fun v _ => ∃ i : Int, v = .int i ∧ lo ≤ i ∧ i ≤ hi
section
variable {P : Program} {w : World} {K : PySem.W.Frag} {mg : Str → Option Value} {base : Heap}
def sp_begin (K : PySem.W.Frag) : Sp := fun vs H Q _ => ∃ (a : Addr) (ns : List Int), vs = [.ref a] ∧ SqL K H a (IL ns) ∧ ns.length ≤ 1000 ∧ ∀ l s H', Same H H' → H l = none → Sto H' l s → Q (.ref l) H'
theorem ok__law_begin (T : TX K mg) : FnOk P w K mg base CX0 1 (A K "_law_begin") (fdA K (A K "_law_begin")) ["_law_script"] (sp_begin K) := by
  refine T.F__law_begin.ok sc__law_begin (fun vs H Q E h => ?_) (fun cdv A0 outer s H vs Q E hr h => ?_)
  · obtain ⟨a, ns, rfl, _⟩ := h
    rfl
  · obtain ⟨a, ns, rfl, hS, hl, q⟩ := h
    refine ⟨_, (pss_one (ps_ret (pe_lst (pa_cons (pe_callTy call_list_of (by rfl) T.n_list (by decide +kernel) (pa_cons (pv 0) pa_nil)) (pa_cons pe_int (pa_cons pe_int (pa_cons pe_int (pa_cons pe_int (pa_cons pe_int pa_nil))))))))), ?_⟩
    refine ⟨_, rfl, a, _, rfl, .inl hS, fun s hs => ?_⟩
    refine ⟨by show 6 ≤ sizeLine; decide, fun l hl => ?_⟩
    have hs0 : (upd H s (.lst (IL ns))) s = some (.lst (IL ns)) := upd_same
    have ns1 : s ≠ l := fun z => by rw [← z, hs0] at hl; cases hl
    have hl0 : H l = none := by
      rw [← upd_ne (H := H) (o := .lst (IL ns)) ns1.symm]
      exact hl
    refine q l s _ ((same_upd hs).trans (same_upd hl)) hl0 ⟨0, 0, 0, 0, 0, ns, by omega, upd_same, ?_⟩
    rw [upd_ne ns1]
    exact hs0
def sp_mixed : Sp := fun vs H Q _ => ∃ a b : Int, vs = [.int a, .int b] ∧ ∀ r : Int, Q (.int r) H
theorem ok__law_mixed (T : TX K mg) : FnOk P w K mg base CX0 1 (A K "_law_mixed") (fdA K (A K "_law_mixed")) ["_law_seed", "_law_turn"] sp_mixed := by
  refine T.F__law_mixed.ok sc__law_mixed (fun vs H Q E h => ?_) (fun cdv A0 outer s H vs Q E hr h => ?_)
  · obtain ⟨a, b, rfl, _⟩ := h
    rfl
  · obtain ⟨a, b, rfl, q⟩ := h
    refine ⟨_, (pss_cons (ps_set (i := 2) sc__law_mixed.nd rfl (Or.inl rfl) (pe_op op_add (pe_op op_mul (pe_op op_mod (pe_callTy call_int1 (by rfl) T.n_int (by decide +kernel) (pa_cons (pv 0) pa_nil)) pe_int) pe_int) (pe_op op_mul (pe_op op_mod (pe_callTy call_int1 (by rfl) T.n_int (by decide +kernel) (pa_cons (pv 1) pa_nil)) pe_int) pe_int)))
      (pss_cons (ps_set (i := 2) sc__law_mixed.nd rfl (Or.inl rfl) (pe_op op_mod (pe_callTy call_int1 (by rfl) T.n_int (by decide +kernel) (pa_cons (pe_op op_add (pv 2) pe_int) pa_nil)) pe_int))
      (pss_cons (ps_set (i := 2) sc__law_mixed.nd rfl (Or.inl rfl) (pe_op op_mul (pe_op op_xor (pv 2) (pe_op op_fdivW (pv 2) pe_int)) pe_int))
      (pss_cons (ps_set (i := 2) sc__law_mixed.nd rfl (Or.inl rfl) (pe_op op_mod (pe_callTy call_int1 (by rfl) T.n_int (by decide +kernel) (pa_cons (pv 2) pa_nil)) pe_int))
      (pss_cons (ps_set (i := 2) sc__law_mixed.nd rfl (Or.inl rfl) (pe_op op_mul (pe_op op_xor (pv 2) (pe_op op_fdivW (pv 2) pe_int)) pe_int))
      (pss_one (ps_ret (pe_op op_mod (pe_callTy call_int1 (by rfl) T.n_int (by decide +kernel) (pa_cons (pv 2) pa_nil)) pe_int)))))))), ?_⟩
    refine ⟨_, rfl, .inl ⟨_, rfl, _, _, rfl, rfl, by show (0 : Int) < 2305843009213693951; decide, _, _, rfl, rfl, .inr ⟨by decide, by decide⟩, ?_⟩⟩
    refine ⟨_, rfl, .inl ⟨_, rfl, _, _, rfl, rfl, by show (0 : Int) < 2305843009213693951; decide, _, _, rfl, rfl, .inr ⟨by decide, by decide⟩, _, _, rfl, rfl, ?_⟩⟩
    refine ⟨_, rfl, _, _, rfl, rfl, .inl ⟨_, rfl, _, _, rfl, rfl, by show (0 : Int) < 2305843009213693951; decide, ?_⟩⟩
    refine ⟨_, rfl, _, rfl, _, _, rfl, rfl, wide_div (b := 40) (by decide) (by decide) (by decide) (by decide), _, _, rfl, rfl, _, _, rfl, rfl, .inr ⟨by decide, by decide⟩, ?_⟩
    refine ⟨_, rfl, .inl ⟨_, rfl, _, _, rfl, rfl, by show (0 : Int) < 2305843009213693951; decide, ?_⟩⟩
    refine ⟨_, rfl, _, rfl, _, _, rfl, rfl, wide_div (b := 40) (by decide) (by decide) (by decide) (by decide), _, _, rfl, rfl, _, _, rfl, rfl, .inr ⟨by decide, by decide⟩, ?_⟩
    refine ⟨_, rfl, .inl ⟨_, rfl, _, _, rfl, rfl, by show (0 : Int) < 2305843009213693951; decide, ?_⟩⟩
    exact q _
/-! ### _law_take -/
def mx1 (m : Int) : Int := if m > 1 then m else 1
theorem mx1_pos (m : Int) : 1 ≤ mx1 m := by unfold mx1; split <;> omega
theorem mx1_le {m : Int} (h : 1 ≤ m) : mx1 m = m := by unfold mx1; split <;> omega
def sp_take : Sp := fun vs H Q _ => ∃ (l s : Addr) (m : Int), vs = [.ref l, .int m] ∧ m < 2 ^ 60 ∧ Sto H l s ∧ Dr l s H (Below (mx1 m)) Q
theorem ok__law_take (T : TX K mg) : FnOk P w K mg base CX0 2 (A K "_law_take") (fdA K (A K "_law_take")) ["_law_store", "_law_many"] sp_take := by
  refine T.F__law_take.ok sc__law_take (fun vs H Q E h => ?_) (fun cdv A0 outer s0 H vs Q E hr h => ?_)
  · obtain ⟨l, s, m, rfl, _⟩ := h
    rfl
  · obtain ⟨l, s, m, rfl, hm, S, q⟩ := h
    have nsl := S.ne
    obtain ⟨a, b, c, d, e, ns, h0, h1, h2⟩ := S
    have p1 := mx1_pos m
    have p2 : mx1 m < 2 ^ 60 := by
      unfold mx1
      split <;> omega
    -- any store of this form is fine from here on
    have fin : ∀ (H' : Hp) (a b c d e : Int) (r : Int), Kp l H H' → 0 ≤ a → 0 ≤ r → r < mx1 m → Q (.int r) (upd H' l (.lst [.ref s, .int a, .int b, .int c, .int d, .int e])) := fun H' a b c d e r k ha r0 r1 =>
      q _ _ (k.trans fun x o n z => by rw [upd_ne n]; exact z) ⟨a, b, c, d, e, ns, ha, upd_same, by rw [upd_ne nsl]; exact k _ _ nsl h2⟩ ⟨r, rfl, r0, r1⟩
    have fin0 : ∀ (H' : Hp) (a b c d e : Int) (r : Int), Kp l H H' → H' l = some (.lst [.ref s, .int a, .int b, .int c, .int d, .int e]) → 0 ≤ a → 0 ≤ r → r < mx1 m → Q (.int r) H' := fun H' a b c d e r k hl ha r0 r1 =>
      q _ _ k ⟨a, b, c, d, e, ns, ha, hl, k _ _ nsl h2⟩ ⟨r, rfl, r0, r1⟩
    have mod1 : ∀ x : Int, 0 ≤ x % mx1 m ∧ x % mx1 m < mx1 m := fun x => ⟨Int.emod_nonneg _ (by omega), Int.emod_lt_of_pos _ (by omega)⟩
    -- behind the reading of the script
    have R : ∃ t2, PSs ((cxOf CX0 P w K mg base N__law_take "_law_take" (defScope s__law_take) (A K "_law_take") cdv A0 outer s0 H E).nox) ((defBody s__law_take).drop 3) t2 ∧ ∀ (H' : Hp) (a b c d e : Int) (y3 y4 : Option V), Kp l H H' → H' l = some (.lst [.ref s, .int a, .int b, .int c, .int d, .int e]) → 0 ≤ a →
        t2 { nx := fun _ H' => Q .non H', rt := Q } [some (.ref l), some (.int m), some (.int (mx1 m)), y3, y4] H' := by
      refine ⟨_, (pss_cons (ps_if (pt_cmpR op_gt (pe_ix ix_list (pv 0) pe_int (fun _ _ => rfl)) pe_int (nomark _)) (pss_cons (ps_set (i := 4) sc__law_take.nd rfl (Or.inl rfl) (pe_callTy call_int1 (by rfl) T.n_int (by decide +kernel) (pa_cons (pe_ix ix_list (pv 0) pe_int (fun _ _ => rfl)) pa_nil)))
      (pss_cons (ps_asg (pe_op op_fdivW (pv 4) (pv 2)) (pg_sub (pv 0) pe_int set_list))
      (pss_one (ps_ret (pe_op op_mod (pe_callTy call_int1 (by rfl) T.n_int (by decide +kernel) (pa_cons (pv 4) pa_nil)) (pv 2)))))) pss_nil)
      (pss_cons (ps_if (pt_cmpR op_gt (pe_ix ix_list (pv 0) pe_int (fun _ _ => rfl)) pe_int (nomark _)) (pss_one (ps_asg (pe_op op_sub (pe_ix ix_list (pv 0) pe_int (fun _ _ => rfl)) pe_int) (pg_sub (pv 0) pe_int set_list))) pss_nil)
      (pss_one (ps_ret (pe_op op_mod (pe_callTy call_int1 (by rfl) T.n_int (by decide +kernel) (pa_cons (pe_call (ok__law_mixed T) (hr.mono (by decide)) (by rfl) T.g__law_mixed T.F__law_mixed.kp T.b__law_mixed .nil pass0 (pa_cons (pe_ix ix_list (pv 0) pe_int (fun _ _ => rfl)) (pa_cons (pe_ix ix_list (pv 0) pe_int (fun _ _ => rfl)) pa_nil))) pa_nil)) (pv 2)))))), fun H' a b c d e y3 y4 k hl ha => ?_⟩
      refine ⟨_, rfl, _, _, _, _, rfl, rfl, lq hl, rfl, _, _, rfl, rfl, _, rfl, ite2 (fun _ => ?_) fun _ => ?_⟩
      · refine ⟨_, rfl, _, _, _, _, rfl, rfl, lq hl, rfl, .inl ⟨_, rfl, ?_⟩⟩
        refine ⟨_, rfl, _, rfl, _, _, rfl, rfl, wide_div (b := 60) (by omega) (by omega) (by decide) (by decide), _, rfl, _, _, _, _, rfl, rfl, hl, rfl, ?_⟩
        refine ⟨_, rfl, .inl ⟨_, rfl, _, rfl, _, _, rfl, rfl, by show 0 < mx1 m; omega, ?_⟩⟩
        exact fin _ _ _ _ _ _ _ k ha (mod1 _).1 (mod1 _).2
      · refine ⟨_, rfl, _, _, _, _, rfl, rfl, lq hl, rfl, _, _, rfl, rfl, _, rfl, ite2 (fun _ => ?_) fun _ => ?_⟩
        · refine ⟨_, rfl, _, _, _, _, rfl, rfl, lq hl, rfl, _, _, rfl, rfl, _, rfl, _, _, _, _, rfl, rfl, hl, rfl, ?_⟩
          refine ⟨_, rfl, _, _, _, _, rfl, rfl, lq upd_same, rfl, _, rfl, _, _, _, _, rfl, rfl, lq upd_same, rfl, _, _, rfl, fun r => .inl ⟨_, rfl, _, rfl, _, _, rfl, rfl, by show 0 < mx1 m; omega, ?_⟩⟩
          exact fin _ _ _ _ _ _ _ k ha (mod1 _).1 (mod1 _).2
        · refine ⟨_, rfl, _, _, _, _, rfl, rfl, lq hl, rfl, _, rfl, _, _, _, _, rfl, rfl, lq hl, rfl, _, _, rfl, fun r => .inl ⟨_, rfl, _, rfl, _, _, rfl, rfl, by show 0 < mx1 m; omega, ?_⟩⟩
          exact fin0 _ _ _ _ _ _ _ k hl ha (mod1 _).1 (mod1 _).2
    obtain ⟨t2, d2, r2⟩ := R
    refine ⟨_, (pss_cons (ps_set (i := 2) sc__law_take.nd rfl (Or.inl rfl) (pe_callB (call_max2 rfl) (by rfl) T.n_max (by decide +kernel) (pa_cons pe_int (pa_cons (pv 1) pa_nil))))
      (pss_cons (ps_asg (pe_op op_add (pe_ix ix_list (pv 0) pe_int (fun _ _ => rfl)) pe_int) (pg_sub (pv 0) pe_int set_list))
      (pss_cons (ps_if (PW.pt (pw_and (pt_cmpR op_eq (pe_ix ix_list (pv 0) pe_int (fun _ _ => rfl)) pe_int (nomark _)) (pw_and (pt_cmpR op_eq (pe_ix ix_list (pv 0) pe_int (fun _ _ => rfl)) pe_int (nomark _)) (pw_and1 (pt_cmpR op_lt (pe_ix ix_list (pv 0) pe_int (fun _ _ => rfl)) (pe_callB call_len_seq (by rfl) T.n_len (by decide +kernel) (pa_cons (pe_ix ix_list (pv 0) pe_int (fun _ _ => rfl)) pa_nil)) (nomark _)))))) (pss_cons (ps_set (i := 3) sc__law_take.nd rfl (Or.inl rfl) (pe_callTy call_int1 (by rfl) T.n_int (by decide +kernel) (pa_cons (pe_ix ix_list (pe_ix ix_list (pv 0) pe_int (fun _ _ => rfl)) (pe_ix ix_list (pv 0) pe_int (fun _ _ => rfl)) (fun _ _ => rfl)) pa_nil)))
      (pss_cons (ps_asg (pe_op op_add (pe_ix ix_list (pv 0) pe_int (fun _ _ => rfl)) pe_int) (pg_sub (pv 0) pe_int set_list))
      (pss_cons (ps_asg (pe_op op_mod (pe_callTy call_int1 (by rfl) T.n_int (by decide +kernel) (pa_cons (pe_op op_add (pe_op op_add (pe_op op_mul (pe_callTy call_int1 (by rfl) T.n_int (by decide +kernel) (pa_cons (pe_ix ix_list (pv 0) pe_int (fun _ _ => rfl)) pa_nil)) pe_int) (pe_op op_mod (pe_callTy call_int1 (by rfl) T.n_int (by decide +kernel) (pa_cons (pv 3) pa_nil)) pe_int)) pe_int) pa_nil)) pe_int) (pg_sub (pv 0) pe_int set_list))
      (pss_one (ps_if (pt_cmpR op_ge (pv 3) (pe_op op_pow pe_int pe_int) (nomark _)) (pss_one (ps_asg (pv 3) (pg_sub (pv 0) pe_int set_list))) (pss_one (ps_asg pe_int (pg_sub (pv 0) pe_int set_list)))))))) pss_nil)
      d2))), ?_⟩
    -- limit
    refine ⟨_, rfl, _, _, rfl, ?_⟩
    -- store[4] = store[4] + 1
    refine ⟨_, rfl, _, _, _, _, rfl, rfl, lq h1, rfl, _, _, rfl, rfl, _, rfl, _, _, _, _, rfl, rfl, h1, rfl, ?_⟩
    have k1 : Kp l H (upd H l (.lst [.ref s, .int a, .int b, .int c, .int (d + 1), .int e])) := fun x o n z => by rw [upd_ne n]; exact z
    have s1 : (upd H l (.lst [.ref s, .int a, .int b, .int c, .int (d + 1), .int e])) s = some (.lst (IL ns)) := by rw [upd_ne nsl]; exact h2
    refine ⟨_, rfl, _, _, _, _, rfl, rfl, lq upd_same, rfl, rfl, _, rfl, ite2 (fun _ => ?_) fun _ => iteF ?_⟩
    · refine ⟨_, rfl, _, _, _, _, rfl, rfl, lq upd_same, rfl, rfl, _, rfl, ite2 (fun _ => ?_) fun _ => iteF ?_⟩
      · refine ⟨_, rfl, _, _, _, _, rfl, rfl, lq upd_same, rfl, _, rfl, _, _, _, _, rfl, rfl, lq upd_same, rfl, _, _, rfl, .inl (lq s1), _, _, rfl, rfl, _, rfl, ite2 (fun e1 => ?_) fun _ => ?_⟩
        · have hlt : a < ((IL ns).length : Int) := of_decide_eq_true e1
          rw [il_len] at hlt
          obtain ⟨z, hz⟩ : ∃ z, ns[a.toNat]? = some z := ⟨ns[a.toNat]'(by omega), List.getElem?_eq_getElem (by omega)⟩
          refine ⟨_, rfl, _, _, _, _, rfl, rfl, lq upd_same, rfl, _, rfl, _, _, _, _, rfl, rfl, lq upd_same, rfl, _, _, _, _, rfl, rfl, lq s1, at_il (j := a.toNat) (by omega) hz, .inl ⟨_, rfl, ?_⟩⟩
          -- store[1] = store[1] + 1
          refine ⟨_, rfl, _, _, _, _, rfl, rfl, lq upd_same, rfl, _, _, rfl, rfl, _, rfl, _, _, _, _, rfl, rfl, upd_same, rfl, ?_⟩
          rw [upd_upd]
          -- store[5] = ..
          refine ⟨_, rfl, _, _, _, _, rfl, rfl, lq upd_same, rfl, .inl ⟨_, rfl, _, _, rfl, rfl, .inr ⟨by decide, by decide⟩, _, rfl, .inl ⟨_, rfl, _, _, rfl, rfl, by show (0 : Int) < 2305843009213693951; decide, _, _, rfl, rfl, _, _, rfl, rfl, .inl ⟨_, rfl, _, _, rfl, rfl, by show (0 : Int) < 2305843009213693951; decide, ?_⟩⟩⟩⟩
          refine ⟨_, rfl, _, _, _, _, rfl, rfl, upd_same, rfl, ?_⟩
          rw [upd_upd]
          have k2 : ∀ u, Kp l H (upd H l u) := fun u x o n z => by rw [upd_ne n]; exact z
          refine ⟨_, rfl, _, _, rfl, rfl, ⟨by decide, by decide, by decide⟩, _, _, rfl, rfl, _, rfl, ite2 (fun _ => ?_) fun _ => ?_⟩
          · refine ⟨_, rfl, _, rfl, _, _, _, _, rfl, rfl, upd_same, rfl, ?_⟩
            rw [upd_upd]
            exact r2 _ (a + 1) z c _ _ _ _ (k2 _) upd_same (by omega)
          · refine ⟨_, rfl, _, _, _, _, rfl, rfl, upd_same, rfl, ?_⟩
            rw [upd_upd]
            exact r2 _ (a + 1) b 2 _ _ _ _ (k2 _) upd_same (by omega)
        · exact r2 _ _ _ _ _ _ _ _ k1 upd_same h0
      · exact r2 _ _ _ _ _ _ _ _ k1 upd_same h0
    · exact r2 _ _ _ _ _ _ _ _ k1 upd_same h0
/-! ### _law_wide -/
def sp_wide : Sp := fun vs H Q _ => ∃ (l s : Addr) (m : Int), vs = [.ref l, .int m] ∧ Sto H l s ∧ Dr l s H (Below (mx1 m)) Q
theorem ok__law_wide (T : TX K mg) : FnOk P w K mg base CX0 3 (A K "_law_wide") (fdA K (A K "_law_wide")) ["_law_store", "_law_many"] sp_wide := by
  refine T.F__law_wide.ok sc__law_wide (fun vs H Q E h => ?_) (fun cdv A0 outer s0 H vs Q E hr h => ?_)
  · obtain ⟨l, s, m, rfl, _⟩ := h
    rfl
  · obtain ⟨l, s, m, rfl, S, q⟩ := h
    refine ⟨_, (pss_cons (ps_set (i := 2) sc__law_wide.nd rfl (Or.inl rfl) (pe_callB (call_max2 rfl) (by rfl) T.n_max (by decide +kernel) (pa_cons pe_int (pa_cons (pv 1) pa_nil))))
      (pss_cons (ps_if (pt_cmpR op_le (pv 2) (pe_op op_pow pe_int pe_int) (nomark _)) (pss_one (ps_ret (pe_call (ok__law_take T) (hr.mono (by decide)) (by rfl) T.g__law_take T.F__law_take.kp T.b__law_take .nil pass0 (pa_cons (pv 0) (pa_cons (pv 2) pa_nil))))) pss_nil)
      (pss_cons (ps_set (i := 3) sc__law_wide.nd rfl (Or.inl rfl) pe_int)
      (pss_cons (ps_set (i := 4) sc__law_wide.nd rfl (Or.inl rfl) pe_int)
      (pss_cons (ps_for PassesOwn.never rfl (pi_range1 (by rfl) T.n_range (pa_cons pe_int pa_nil)) (pg_name (i := 5) sc__law_wide.nd rfl (Or.inl rfl)) (pss_cons (ps_if (pt_cmpR op_ge (pv 4) (pv 2) (nomark _)) (pss_one ps_break) pss_nil)
      (pss_cons (ps_set (i := 3) sc__law_wide.nd rfl (Or.inl rfl) (pe_op op_add (pe_op op_mul (pv 3) (pe_op op_pow pe_int pe_int)) (pe_call (ok__law_take T) (hr.mono (by decide)) (by rfl) T.g__law_take T.F__law_take.kp T.b__law_take .nil pass0 (pa_cons (pv 0) (pa_cons (pe_op op_pow pe_int pe_int) pa_nil)))))
      (pss_one (ps_set (i := 4) sc__law_wide.nd rfl (Or.inl rfl) (pe_op op_mul (pv 4) (pe_op op_pow pe_int pe_int)))))))
      (pss_one (ps_ret (pe_op op_mod (pe_callTy call_int1 (by rfl) T.n_int (by decide +kernel) (pa_cons (pv 3) pa_nil)) (pv 2))))))))), ?_⟩
    have p1 := mx1_pos m
    refine ⟨_, rfl, _, _, rfl, ?_⟩
    refine ⟨_, rfl, _, _, rfl, rfl, ⟨by decide, by decide, by decide⟩, _, _, rfl, rfl, _, rfl, ite2 (fun e => ?_) fun e => ?_⟩
    · have e1 : mx1 m ≤ 10 ^ 15 := of_decide_eq_true e
      have e2 : (10 : Int) ^ 15 < 2 ^ 60 := by decide
      refine ⟨_, rfl, _, rfl, l, s, mx1 m, rfl, by omega, S, fun v H' k s' g => q v H' k s' ?_⟩
      have e3 : mx1 (mx1 m) = mx1 m := mx1_le p1
      rw [e3] at g
      exact g
    · refine ⟨200, rfl, by decide, by decide, for_range (n := 200) (fun i σ H' => ∃ (x y : Int) (u : Option V), σ = [some (.ref l), some (.int m), some (.int (mx1 m)), some (.int x), some (.int y), u] ∧ Kp l H H' ∧ Sto H' l s) ⟨0, 1, none, rfl, .refl _ _, S⟩ ?_ ?_⟩
      · rintro i σ H' hi ⟨x, y, u, rfl, k, S'⟩
        refine ⟨_, rfl, _, rfl, _, _, rfl, rfl, _, rfl, ite2 (fun e => ?_) fun e => ?_⟩
        · -- break
          refine ⟨_, rfl, .inl ⟨_, rfl, _, rfl, _, _, rfl, rfl, by show 0 < mx1 m; omega, ?_⟩⟩
          exact q _ _ k S' ⟨_, rfl, Int.emod_nonneg _ (by omega), Int.emod_lt_of_pos _ (by omega)⟩
        · refine ⟨_, rfl, _, _, rfl, rfl, ⟨by decide, by decide, by decide⟩, _, _, rfl, rfl, .inr ⟨by decide, by decide⟩, ?_⟩
          refine ⟨_, rfl, _, _, rfl, rfl, ⟨by decide, by decide, by decide⟩, l, s, 10 ^ 15, rfl, by decide, S', fun v H2 k2 S2 g => ?_⟩
          obtain ⟨z, rfl, _, _⟩ := g
          refine ⟨_, _, rfl, rfl, ?_⟩
          refine ⟨_, rfl, _, _, rfl, rfl, ⟨by decide, by decide, by decide⟩, _, _, rfl, rfl, .inr ⟨by decide, by decide⟩, ?_⟩
          exact ⟨_, _, _, rfl, k.trans k2, S2⟩
      · rintro σ H' ⟨x, y, u, rfl, k, S'⟩
        refine ⟨_, rfl, .inl ⟨_, rfl, _, rfl, _, _, rfl, rfl, by show 0 < mx1 m; omega, ?_⟩⟩
        exact q _ _ k S' ⟨_, rfl, Int.emod_nonneg _ (by omega), Int.emod_lt_of_pos _ (by omega)⟩
/-! ### _law_pick -/
def sp_pick : Sp := fun vs H Q _ => ∃ (l s : Addr) (a : Addr) (xs : List V), vs = [.ref l, .ref a] ∧ H a = some (.lst xs) ∧ a ≠ l ∧ 0 < xs.length ∧ xs.length ≤ 1000 ∧ Sto H l s ∧ Dr l s H (fun v _ => ∃ i : Nat, xs[i]? = some v) Q
theorem ok__law_pick (T : TX K mg) : FnOk P w K mg base CX0 3 (A K "_law_pick") (fdA K (A K "_law_pick")) ["_law_store", "_law_row"] sp_pick := by
  refine T.F__law_pick.ok sc__law_pick (fun vs H Q E h => ?_) (fun cdv A0 outer s0 H vs Q E hr h => ?_)
  · obtain ⟨l, s, a, xs, rfl, _⟩ := h
    rfl
  · obtain ⟨l, s, a, xs, rfl, ha, hal, h0, h1, S, q⟩ := h
    refine ⟨_, (pss_one (ps_ret (pe_ix ix_list (pv 1) (pe_call (ok__law_take T) (hr.mono (by decide)) (by rfl) T.g__law_take T.F__law_take.kp T.b__law_take .nil pass0 (pa_cons (pv 0) (pa_cons (pe_callB call_len_seq (by rfl) T.n_len (by decide +kernel) (pa_cons (pv 1) pa_nil)) pa_nil))) (fun _ _ => rfl)))), ?_⟩
    refine ⟨_, rfl, _, rfl, _, rfl, _, _, rfl, .inl (lq ha), l, s, xs.length, rfl, by omega, S, fun v H' k S' g => ?_⟩
    obtain ⟨z, rfl, z0, z1⟩ := g
    rw [mx1_le (by omega)] at z1
    have hz : xs[z.toNat]? = some (xs[z.toNat]'(by omega)) := List.getElem?_eq_getElem (by omega)
    refine ⟨_, _, _, _, rfl, rfl, lq (k _ _ hal ha), at_of (j := z.toNat) (by omega) hz, ?_⟩
    exact q _ _ k S' ⟨_, hz⟩
/-! ### _law_between -/
def sp_between : Sp := fun vs H Q _ => ∃ (l s : Addr) (lo hi : Int), vs = [.ref l, .int lo, .int hi] ∧ lo ≤ hi ∧ -(2 ^ 40) < lo ∧ hi < 2 ^ 40 ∧ Sto H l s ∧ Dr l s H (Betw lo hi) Q
theorem ok__law_between (T : TX K mg) : FnOk P w K mg base CX0 4 (A K "_law_between") (fdA K (A K "_law_between")) ["_law_store", "_law_low", "_law_high"] sp_between := by
  refine T.F__law_between.ok sc__law_between (fun vs H Q E h => ?_) (fun cdv A0 outer s0 H vs Q E hr h => ?_)
  · obtain ⟨l, s, lo, hi, rfl, _⟩ := h
    rfl
  · obtain ⟨l, s, lo, hi, rfl, hlh, hlo, hhi, S, q⟩ := h
    have R : ∃ t2, PSs ((cxOf CX0 P w K mg base N__law_between "_law_between" (defScope s__law_between) (A K "_law_between") cdv A0 outer s0 H E).nox) ((defBody s__law_between).drop 2) t2 ∧ ∀ (H' : Hp), Kp l H H' → Sto H' l s → t2 { nx := fun _ H' => Q .non H', rt := Q } [some (.ref l), some (.int lo), some (.int hi), some (.int (hi - lo + 1))] H' := by
      refine ⟨_, (pss_one (ps_ret (pe_op op_add (pv 1) (pe_call (ok__law_wide T) (hr.mono (by decide)) (by rfl) T.g__law_wide T.F__law_wide.kp T.b__law_wide .nil pass0 (pa_cons (pv 0) (pa_cons (pv 3) pa_nil)))))), fun H' k S' => ?_⟩
      refine ⟨_, rfl, _, rfl, _, rfl, l, s, hi - lo + 1, rfl, S', fun v H2 k2 S2 g => ?_⟩
      obtain ⟨z, rfl, z0, z1⟩ := g
      rw [mx1_le (by omega)] at z1
      exact ⟨_, _, rfl, rfl, q _ _ (k.trans k2) S2 ⟨_, rfl, by omega, by omega⟩⟩
    obtain ⟨t2, d2, r2⟩ := R
    refine ⟨_, (pss_cons (ps_set (i := 3) sc__law_between.nd rfl (Or.inl rfl) (pe_callB (call_max2 rfl) (by rfl) T.n_max (by decide +kernel) (pa_cons pe_int (pa_cons (pe_op op_add (pe_op op_sub (pv 2) (pv 1)) pe_int) pa_nil))))
      (pss_cons (ps_if (PW.pt (pw_and (pt_cmpR op_gt (pv 3) pe_int (nomark _)) (pw_and1 (pt_cmpR op_eq (pe_call (ok__law_take T) (hr.mono (by decide)) (by rfl) T.g__law_take T.F__law_take.kp T.b__law_take .nil pass0 (pa_cons (pv 0) (pa_cons pe_int pa_nil))) pe_int (nomark _))))) (pss_one (ps_ret (pe_call (ok__law_pick T) (hr.mono (by decide)) (by rfl) T.g__law_pick T.F__law_pick.kp T.b__law_pick .nil pass0 (pa_cons (pv 0) (pa_cons (pe_lst (pa_cons (pv 1) (pa_cons (pv 2) (pa_cons (pe_op op_add (pv 1) pe_int) (pa_cons (pe_op op_sub (pv 2) pe_int) (pa_cons (pe_op op_add (pv 1) (pe_op op_fdiv (pv 3) pe_int)) pa_nil)))))) pa_nil))))) pss_nil)
      d2)), ?_⟩
    refine ⟨_, rfl, _, rfl, _, _, rfl, rfl, _, _, rfl, rfl, _, _, rfl, ?_⟩
    have es : (if hi - lo + 1 > 1 then hi - lo + 1 else 1 : Int) = hi - lo + 1 := mx1_le (by omega)
    rw [es]
    refine ⟨_, rfl, _, _, rfl, rfl, _, rfl, ite2 (fun e => ?_) fun e => ?_⟩
    · have e2 : (2 : Int) < hi - lo + 1 := of_decide_eq_true e
      refine ⟨_, rfl, l, s, 3, rfl, by decide, S, fun v H1 k1 S1 g => ?_⟩
      obtain ⟨z, rfl, _, _⟩ := g
      refine ⟨rfl, _, rfl, ite2 (fun _ => ?_) fun _ => ?_⟩
      · refine ⟨_, rfl, _, rfl, _, rfl, _, rfl, _, _, rfl, rfl, _, rfl, _, _, rfl, rfl, _, rfl, _, rfl, _, _, rfl, rfl, ⟨by decide, by decide⟩, _, _, rfl, rfl, (by show 5 ≤ sizeLine; decide), fun p hp => ?_⟩
        have np : p ≠ l := fun z => by
          obtain ⟨o, ho⟩ := S1.some_l
          rw [z, ho] at hp
          cases hp
        refine ⟨l, s, p, _, rfl, upd_same, np, (by show 0 < 5; decide), (by show 5 ≤ 1000; decide), S1.same (same_upd hp), fun v H2 k2 S2 g => ?_⟩
        refine q v H2 ((k1.trans (.of_same (same_upd hp))).trans k2) S2 ?_
        obtain ⟨i, hi'⟩ := g
        have h5 : i < 5 := (List.getElem?_eq_some_iff.mp hi').1
        have : i = 0 ∨ i = 1 ∨ i = 2 ∨ i = 3 ∨ i = 4 := by omega
        rcases this with rfl | rfl | rfl | rfl | rfl <;> cases hi' <;> exact ⟨_, rfl, by omega, by omega⟩
      · exact r2 _ k1 S1
    · exact r2 _ (.refl _ _) S
end
end Kx
set_option Elab.async false
set_option linter.all false
set_option maxRecDepth 100000
set_option maxHeartbeats 4000000
/-! The law's own arithmetic. -/
namespace Kx
open PySem PySem.Spec PyProof.Rows L2
/-- bits turned round -/
def bw (x : Nat) : Nat → Nat
  | 0 => 0
  | k + 1 => 2 * bw x k + x / 2 ^ k % 2
theorem bw_lt (x : Nat) : ∀ k, bw x k < 2 ^ k
  | 0 => Nat.zero_lt_one
  | k + 1 => by
    have h := bw_lt x k
    have h2 : x / 2 ^ k % 2 < 2 := Nat.mod_lt _ (by decide)
    show 2 * bw x k + x / 2 ^ k % 2 < 2 ^ (k + 1)
    rw [Nat.pow_succ]
    omega
theorem shr_nat (e i : Nat) : (e : Int) / 2 ^ ((0 : Int) + (i : Int)).toNat = ((e / 2 ^ i : Nat) : Int) := by
  have e1 : ((0 : Int) + (i : Int)).toNat = i := by omega
  rw [e1]
  simp [Int.natCast_ediv, Int.natCast_pow]
theorem div_succ (e i : Nat) : e / 2 ^ (i + 1) = e / 2 ^ i / 2 := by
  rw [Nat.pow_succ, Nat.div_div_eq_div_mul]
section
variable {P : Program} {w : World} {K : PySem.W.Frag} {mg : Str → Option Value} {base : Heap}
/-! ### _law_prime -/
def Pr (v : Int) : Prop := 1 < v ∧ ∀ d : Int, 2 ≤ d → d < 64 → d * d ≤ v → v % d ≠ 0
def sp_prime : Sp := fun vs H Q _ => ∃ v : Int, vs = [.int v] ∧ ∀ b : Bool, (b = true → Pr v) → Q (.bl b) H
theorem ok__law_prime (T : TX K mg) : FnOk P w K mg base CX0 1 (A K "_law_prime") (fdA K (A K "_law_prime")) ["_law_number"] sp_prime := by
  refine T.F__law_prime.ok sc__law_prime (fun vs H Q E h => ?_) (fun cdv A0 outer s0 H vs Q E hr h => ?_)
  · obtain ⟨v, rfl, _⟩ := h
    rfl
  · obtain ⟨v, rfl, q⟩ := h
    refine ⟨_, (pss_cons (ps_for PassesOwn.never rfl (pi_range2 (by rfl) T.n_range (pa_cons pe_int (pa_cons pe_int pa_nil))) (pg_name (i := 1) sc__law_prime.nd rfl (Or.inl rfl)) (pss_cons (ps_if (pt_cmpR op_gt (pe_op op_mul (pv 1) (pv 1)) (pv 0) (nomark _)) (pss_one ps_break) pss_nil)
      (pss_one (ps_if (pt_cmpR op_eq (pe_op op_mod (pe_callTy call_int1 (by rfl) T.n_int (by decide +kernel) (pa_cons (pv 0) pa_nil)) (pv 1)) pe_int (nomark _)) (pss_one (ps_ret pe_bl)) pss_nil))))
      (pss_one (ps_ret (pe_cmpR op_gt (pv 0) pe_int (nomark _))))), ?_⟩
    refine ⟨2, 64, rfl, ⟨by decide, by decide, by decide, by decide⟩, for_range (lo := 2) (n := 62) (fun i σ H' => ∃ u : Option V, σ = [some (.int v), u] ∧ H' = H ∧ ∀ d : Int, 2 ≤ d → d < 2 + (i : Int) → d * d ≤ v → v % d ≠ 0) ⟨none, rfl, rfl, fun d d1 d2 => by omega⟩ ?_ ?_⟩
    · rintro i σ H' hi ⟨u, rfl, rfl, nd⟩
      refine ⟨_, rfl, _, rfl, _, _, rfl, rfl, .inl ⟨by omega, by omega⟩, _, rfl, _, _, rfl, rfl, _, rfl, ite2 (fun e => ?_) fun e => ?_⟩
      · -- break
        have e1 : v < (2 + (i : Int)) * (2 + (i : Int)) := of_decide_eq_true e
        refine ⟨_, rfl, _, _, rfl, rfl, q _ fun hb => ⟨of_decide_eq_true hb, fun d d1 d2 d3 => nd d d1 ?_ d3⟩⟩
        by_cases c : d < 2 + (i : Int)
        · exact c
        · exfalso
          have c' : 2 + (i : Int) ≤ d := by omega
          have z := Int.mul_le_mul c' c' (by omega) (by omega)
          omega
      · refine ⟨_, rfl, .inl ⟨_, rfl, _, rfl, _, _, rfl, rfl, by show (0 : Int) < 2 + (i : Int); omega, rfl, _, rfl, ite2 (fun e => ?_) fun e => ?_⟩⟩
        · exact q false (fun z => by cases z)
        · refine ⟨_, rfl, rfl, fun d d1 d2 d3 => ?_⟩
          by_cases c : d < 2 + (i : Int)
          · exact nd d d1 c d3
          · have ed : d = 2 + (i : Int) := by omega
            intro z
            rw [ed] at z
            exact e (decide_eq_true (congrArg V.int z))
    · rintro σ H' ⟨u, rfl, rfl, nd⟩
      refine ⟨_, rfl, _, _, rfl, rfl, q _ fun hb => ⟨of_decide_eq_true hb, fun d d1 d2 d3 => nd d d1 (by omega) d3⟩⟩
/-! ### _law_power -/
def sp_lpow : Sp := fun vs H Q _ => ∃ (b : Int) (e : Nat) (q : Int), vs = [.int b, .int e, .int q] ∧ e < 2 ^ 60 ∧ 0 < q ∧ q < 5000 ∧ Q (.int (b ^ e % q)) H
theorem ok__law_power (T : TX K mg) : FnOk P w K mg base CX0 1 (A K "_law_power") (fdA K (A K "_law_power")) ["_law_base", "_law_exponent", "_law_q"] sp_lpow := by
  refine T.F__law_power.ok sc__law_power (fun vs H Q E h => ?_) (fun cdv A0 outer s0 H vs Q E hr h => ?_)
  · obtain ⟨b, e, q, rfl, _⟩ := h
    rfl
  · obtain ⟨b, e, q, rfl, he, h1, h2, qq⟩ := h
    refine ⟨_, (pss_cons (ps_set (i := 3) sc__law_power.nd rfl (Or.inl rfl) (pe_op op_mod (pe_callTy call_int1 (by rfl) T.n_int (by decide +kernel) (pa_cons pe_int pa_nil)) (pv 2)))
      (pss_cons (ps_set (i := 4) sc__law_power.nd rfl (Or.inl rfl) (pe_op op_mod (pe_callTy call_int1 (by rfl) T.n_int (by decide +kernel) (pa_cons (pv 0) pa_nil)) (pv 2)))
      (pss_cons (ps_for PassesOwn.never rfl (pi_range1 (by rfl) T.n_range (pa_cons pe_int pa_nil)) (pg_name (i := 5) sc__law_power.nd rfl (Or.inl rfl)) (pss_cons (ps_if (pt_cmpR op_eq (pe_op op_shr (pv 1) (pv 5)) pe_int (nomark _)) (pss_one ps_break) pss_nil)
      (pss_cons (ps_if (pt_cmpR op_eq (pe_op op_and (pe_op op_shr (pv 1) (pv 5)) pe_int) pe_int (nomark _)) (pss_one (ps_set (i := 3) sc__law_power.nd rfl (Or.inl rfl) (pe_op op_mod (pe_callTy call_int1 (by rfl) T.n_int (by decide +kernel) (pa_cons (pe_op op_mul (pv 3) (pv 4)) pa_nil)) (pv 2)))) pss_nil)
      (pss_one (ps_set (i := 4) sc__law_power.nd rfl (Or.inl rfl) (pe_op op_mod (pe_callTy call_int1 (by rfl) T.n_int (by decide +kernel) (pa_cons (pe_op op_mul (pv 4) (pv 4)) pa_nil)) (pv 2)))))))
      (pss_one (ps_ret (pv 3)))))), ?_⟩
    refine .inl ⟨_, rfl, _, rfl, _, _, rfl, rfl, h1, ?_⟩
    refine ⟨_, rfl, .inl ⟨_, rfl, _, rfl, _, _, rfl, rfl, h1, ?_⟩⟩
    have sb : ∀ z : Int, 0 ≤ z → z < q → -(2 ^ 64) < z ∧ z < 2 ^ 64 := fun z z0 z1 => ⟨by omega, by omega⟩
    refine ⟨65, rfl, by decide, by decide, for_range (n := 65) (fun i σ H' => ∃ (r f : Int) (u : Option V), σ = [some (.int b), some (.int e), some (.int q), some (.int r), some (.int f), u] ∧ 0 ≤ r ∧ r < q ∧ 0 ≤ f ∧ f < q ∧ Cg q (r * f ^ (e / 2 ^ i)) (b ^ e) ∧ H' = H)
      ⟨_, _, none, rfl, Int.emod_nonneg _ (by omega), Int.emod_lt_of_pos _ h1, Int.emod_nonneg _ (by omega), Int.emod_lt_of_pos _ h1, by rw [Nat.pow_zero, Nat.div_one]; exact half_start e, rfl⟩ ?_ ?_⟩
    · rintro i σ H' hi ⟨r, f, u, rfl, r0, r1, f0, f1, inv, rfl⟩
      refine ⟨_, rfl, _, rfl, _, _, rfl, rfl, by show (0 : Int) ≤ 0 + (i : Int); omega, rfl, _, rfl, ?_⟩
      refine ite2 (fun z => ?_) fun z => ?_
      · have z1 : e / 2 ^ i = 0 := by
          have z2 : (e : Int) / 2 ^ ((0 : Int) + (i : Int)).toNat = 0 := V.int.inj (of_decide_eq_true z)
          rw [shr_nat] at z2
          omega
        rw [z1] at inv
        refine ⟨_, rfl, ?_⟩
        rw [half_end inv r0 r1]
        exact qq
      · refine ⟨_, rfl, _, rfl, _, _, rfl, rfl, by show (0 : Int) ≤ 0 + (i : Int); omega, _, _, rfl, rfl, rfl, _, rfl, ?_⟩
        refine ite2 (fun o => ?_) fun o => ?_
        · have o1 : e / 2 ^ i % 2 = 1 := by
            have o2 : Builtin.bitAnd ((e : Int) / 2 ^ ((0 : Int) + (i : Int)).toNat) 1 = 1 := V.int.inj (of_decide_eq_true o)
            rw [shr_nat, bit1] at o2
            omega
          refine ⟨_, rfl, _, rfl, _, _, rfl, rfl, .inl (sb _ r0 r1), .inl ⟨_, rfl, _, rfl, _, _, rfl, rfl, h1, ?_⟩⟩
          refine ⟨_, rfl, _, rfl, _, _, rfl, rfl, .inl (sb _ f0 f1), .inl ⟨_, rfl, _, rfl, _, _, rfl, rfl, h1, ?_⟩⟩
          refine ⟨_, _, _, rfl, Int.emod_nonneg _ (by omega), Int.emod_lt_of_pos _ h1, Int.emod_nonneg _ (by omega), Int.emod_lt_of_pos _ h1, ?_, rfl⟩
          rw [div_succ]
          exact half_odd inv o1
        · have o1 : e / 2 ^ i % 2 = 0 := by
            have o2 : ¬ e / 2 ^ i % 2 = 1 := fun z => o (decide_eq_true (congrArg V.int (by rw [shr_nat, bit1, z]; rfl)))
            omega
          refine ⟨_, rfl, _, rfl, _, _, rfl, rfl, .inl (sb _ f0 f1), .inl ⟨_, rfl, _, rfl, _, _, rfl, rfl, h1, ?_⟩⟩
          refine ⟨_, _, _, rfl, r0, r1, Int.emod_nonneg _ (by omega), Int.emod_lt_of_pos _ h1, ?_, rfl⟩
          rw [div_succ]
          exact half_even inv o1
    · rintro σ H' ⟨r, f, u, rfl, r0, r1, f0, f1, inv, rfl⟩
      have z1 : e / 2 ^ 65 = 0 := Nat.div_eq_of_lt (Nat.lt_of_lt_of_le he (Nat.pow_le_pow_right (by decide) (by decide)))
      rw [z1] at inv
      refine ⟨_, rfl, ?_⟩
      rw [half_end inv r0 r1]
      exact qq
/-! ### _law_backward, _law_log, _law_factor -/
def sp_back : Sp := fun vs H Q _ => ∃ x k : Nat, vs = [.int x, .int k] ∧ k ≤ 100 ∧ Q (.int (bw x k)) H
theorem ok__law_backward (T : TX K mg) : FnOk P w K mg base CX0 1 (A K "_law_backward") (fdA K (A K "_law_backward")) ["_law_number", "_law_count"] sp_back := by
  refine T.F__law_backward.ok sc__law_backward (fun vs H Q E h => ?_) (fun cdv A0 outer s0 H vs Q E hr h => ?_)
  · obtain ⟨x, k, rfl, _⟩ := h
    rfl
  · obtain ⟨x, k, rfl, hk, qq⟩ := h
    refine ⟨_, (pss_cons (ps_set (i := 2) sc__law_backward.nd rfl (Or.inl rfl) pe_int)
      (pss_cons (ps_for PassesOwn.never rfl (pi_range1 (by rfl) T.n_range (pa_cons (pv 1) pa_nil)) (pg_name (i := 3) sc__law_backward.nd rfl (Or.inl rfl)) (pss_one (ps_set (i := 2) sc__law_backward.nd rfl (Or.inl rfl) (pe_op op_add (pe_op op_mul pe_int (pv 2)) (pe_op op_and (pe_op op_shr (pv 0) (pv 3)) pe_int)))))
      (pss_one (ps_ret (pv 2))))), ?_⟩
    refine ⟨_, rfl, k, rfl, by omega, by omega, ?_⟩
    rw [show ((k : Int)).toNat = k by omega]
    refine for_range (lo := 0) (n := k) (fun i σ H' => ∃ u : Option V, σ = [some (.int x), some (.int k), some (.int (bw x i)), u] ∧ H' = H) ⟨none, rfl, rfl⟩ ?_ ?_
    · rintro i σ H' hi ⟨u, rfl, rfl⟩
      refine ⟨_, rfl, _, _, rfl, rfl, .inl ⟨by decide, by decide⟩, _, rfl, _, rfl, _, _, rfl, rfl, by show (0 : Int) ≤ 0 + (i : Int); omega, _, _, rfl, rfl, _, _, rfl, rfl, ?_⟩
      dsimp only
      rw [shr_nat, bit1]
      refine ⟨some (.int (0 + (i : Int))), ?_, rfl⟩
      show [some (V.int x), some (.int k), some (.int (2 * (bw x i : Int) + ((x / 2 ^ i % 2 : Nat) : Int))), some (.int (0 + (i : Int)))] = [some (V.int x), some (.int k), some (.int ((2 * bw x i + x / 2 ^ i % 2 : Nat) : Int)), some (.int (0 + (i : Int)))]
      rw [Int.natCast_add, Int.natCast_mul]
      rfl
    · rintro σ H' ⟨u, rfl, rfl⟩
      exact ⟨_, rfl, qq⟩
def sp_log : Sp := fun vs H Q _ => ∃ c : Nat, vs = [.int ((2 ^ c : Nat) : Int)] ∧ c ≤ 11 ∧ Q (.int c) H
theorem ok__law_log (T : TX K mg) : FnOk P w K mg base CX0 1 (A K "_law_log") (fdA K (A K "_law_log")) ["_law_many"] sp_log := by
  refine T.F__law_log.ok sc__law_log (fun vs H Q E h => ?_) (fun cdv A0 outer s0 H vs Q E hr h => ?_)
  · obtain ⟨c, rfl, _⟩ := h
    rfl
  · obtain ⟨c, rfl, hc, qq⟩ := h
    refine ⟨_, (pss_cons (ps_set (i := 1) sc__law_log.nd rfl (Or.inl rfl) pe_int)
      (pss_cons (ps_for PassesOwn.never rfl (pi_range1 (by rfl) T.n_range (pa_cons pe_int pa_nil)) (pg_name (i := 2) sc__law_log.nd rfl (Or.inl rfl)) (pss_one (ps_if (pt_cmpR op_lt (pe_op op_shl pe_int (pv 1)) (pv 0) (nomark _)) (pss_one (ps_set (i := 1) sc__law_log.nd rfl (Or.inl rfl) (pe_op op_add (pv 1) pe_int))) pss_nil)))
      (pss_one (ps_ret (pv 1))))), ?_⟩
    refine ⟨12, rfl, by decide, by decide, for_range (lo := 0) (n := 12) (fun i σ H' => ∃ u : Option V, σ = [some (.int ((2 ^ c : Nat) : Int)), some (.int ((min i c : Nat) : Int)), u] ∧ H' = H) ⟨none, by rw [Nat.zero_min]; rfl, rfl⟩ ?_ ?_⟩
    · rintro i σ H' hi ⟨u, rfl, rfl⟩
      have mle : min i c ≤ 11 := Nat.le_trans (Nat.min_le_right _ _) hc
      refine ⟨_, rfl, _, _, rfl, rfl, ⟨by omega, by omega, by decide⟩, _, rfl, _, _, rfl, rfl, _, rfl, ?_⟩
      have es : (1 : Int) * 2 ^ ((min i c : Nat) : Int).toNat = ((2 ^ min i c : Nat) : Int) := by
        rw [Int.one_mul, show ((min i c : Nat) : Int).toNat = min i c by omega, Int.natCast_pow]
        rfl
      refine ite2 (fun e => ?_) fun e => ?_
      · have e1 : (1 : Int) * 2 ^ ((min i c : Nat) : Int).toNat < ((2 ^ c : Nat) : Int) := of_decide_eq_true e
        rw [es] at e1
        have e2 : 2 ^ min i c < 2 ^ c := by omega
        have e3 : min i c < c := (Nat.pow_lt_pow_iff_right (by decide)).mp e2
        refine ⟨_, rfl, _, _, rfl, rfl, some (.int (0 + (i : Int))), ?_, rfl⟩
        have e4 : min (i + 1) c = min i c + 1 := by omega
        rw [e4]
        rfl
      · have e2 : ¬ 2 ^ min i c < 2 ^ c := fun z => e (decide_eq_true (by show (1 : Int) * 2 ^ ((min i c : Nat) : Int).toNat < _; rw [es]; omega))
        have e3 : ¬ min i c < c := fun z => e2 (Nat.pow_lt_pow_right (by decide) z)
        refine ⟨some (.int (0 + (i : Int))), ?_, rfl⟩
        have e4 : min (i + 1) c = min i c := by omega
        rw [e4]
        rfl
    · rintro σ H' ⟨u, rfl, rfl⟩
      refine ⟨_, rfl, ?_⟩
      rw [show min 12 c = c by omega]
      exact qq
/-- the number of factor i -/
def gi (c : Nat) (q r : Int) (i : Nat) : Int := r ^ (2 * bw i c + 1) % q
def sp_factor : Sp := fun vs H Q _ => ∃ (c n i : Nat) (q r : Int), vs = [.int n, .int q, .int r, .int i] ∧ n / 2 = 2 ^ c ∧ c ≤ 11 ∧ 0 < q ∧ q < 5000 ∧ Q (.int (gi c q r i)) H
theorem ok__law_factor (T : TX K mg) : FnOk P w K mg base CX0 2 (A K "_law_factor") (fdA K (A K "_law_factor")) ["_law_n", "_law_q", "_law_root_here", "_law_index"] sp_factor := by
  refine T.F__law_factor.ok sc__law_factor (fun vs H Q E h => ?_) (fun cdv A0 outer s0 H vs Q E hr h => ?_)
  · obtain ⟨c, n, i, q, r, rfl, _⟩ := h
    rfl
  · obtain ⟨c, n, i, q, r, rfl, hn, hc, q0, q1, qq⟩ := h
    refine ⟨_, (pss_one (ps_ret (pe_call (ok__law_power T) (hr.mono (by decide)) (by rfl) T.g__law_power T.F__law_power.kp T.b__law_power .nil pass0 (pa_cons (pv 2) (pa_cons (pe_op op_add (pe_op op_mul pe_int (pe_call (ok__law_backward T) (hr.mono (by decide)) (by rfl) T.g__law_backward T.F__law_backward.kp T.b__law_backward .nil pass0 (pa_cons (pv 3) (pa_cons (pe_call (ok__law_log T) (hr.mono (by decide)) (by rfl) T.g__law_log T.F__law_log.kp T.b__law_log .nil pass0 (pa_cons (pe_op op_fdiv (pv 0) pe_int) pa_nil)) pa_nil)))) pe_int) (pa_cons (pv 1) pa_nil)))))), ?_⟩
    have hb := bw_lt i c
    have hc2 : 2 ^ c ≤ 2 ^ 11 := Nat.pow_le_pow_right (by decide) hc
    refine ⟨_, rfl, _, rfl, _, rfl, _, _, rfl, rfl, ⟨by decide, by decide⟩, c, ?_, hc, ?_⟩
    · show [V.int ((n : Int) / 2)] = _
      rw [← hn]
      rfl
    · refine ⟨i, c, rfl, by omega, _, _, rfl, rfl, .inl ⟨by decide, by decide⟩, _, _, rfl, rfl, _, rfl, r, 2 * bw i c + 1, q, ?_, by omega, q0, q1, qq⟩
      rfl
end
end Kx
set_option Elab.async false
set_option linter.all false
set_option maxRecDepth 100000
set_option maxHeartbeats 4000000
/-! Every modulus that the law draws has a root. -/
namespace Kx
/-- a degree and a modulus -/
structure Pn (c n : Nat) (q : Int) : Prop where
  c0 : 2 ≤ c
  c1 : c ≤ 7
  n_eq : n = 2 ^ (c + 1)
  q0 : 17 ≤ q
  q1 : q ≤ 4095
  nd : NoDiv q
  qn : q % n = 1
theorem Pn.rg {c n : Nat} {q r : Int} (h : Pn c n q) (hr : Rt (2 ^ c) q r) : Rg c n q r := ⟨h.c0, h.c1, h.n_eq, h.q0, h.q1, h.nd, h.qn, hr⟩
theorem Rg.pn {c n : Nat} {q r : Int} (h : Rg c n q r) : Pn c n q := ⟨h.c0, h.c1, h.n_eq, h.q0, h.q1, h.nd, h.qn⟩
theorem Pn.cases {c n : Nat} {q : Int} (h : Pn c n q) : (c = 2 ∧ n = 8) ∨ (c = 3 ∧ n = 16) ∨ (c = 4 ∧ n = 32) ∨ (c = 5 ∧ n = 64) ∨ (c = 6 ∧ n = 128) ∨ (c = 7 ∧ n = 256) := by
  have h0 := h.c0
  have h1 := h.c1
  have h2 := h.n_eq
  have : c = 2 ∨ c = 3 ∨ c = 4 ∨ c = 5 ∨ c = 6 ∨ c = 7 := by omega
  rcases this with rfl | rfl | rfl | rfl | rfl | rfl <;> simp_all
theorem prB_of {q : Nat} (nd : NoDiv (q : Int)) : prB q = true := by
  unfold prB
  refine List.all_eq_true.mpr fun d hd => ?_
  have hd2 : d < 64 := List.mem_range.mp hd
  by_cases h1 : d < 2
  · simp [Nat.blt_eq, h1]
  · by_cases h2 : q < d * d
    · simp [Nat.blt_eq, h2]
    · have z := nd (d : Int) (by omega) (by
        have : ((d * d : Nat) : Int) ≤ (q : Int) := by omega
        rw [Int.natCast_mul] at this
        exact this)
      have z2 : q % d ≠ 0 := fun e => z (by rw [← Int.natCast_emod, e]; rfl)
      have z3 : (q % d).beq 0 = false := by
        cases e : (q % d).beq 0 with
        | false => rfl
        | true => exact absurd (Nat.eq_of_beq_eq_true e) z2
      simp [z3]
theorem base_of {c n : Nat} {q : Int} (h : Pn c n q) : ∃ b : Nat, 2 ≤ b ∧ (b : Int) < q ∧ Cg q ((b : Int) ^ ((q.toNat - 1) / n * 2 ^ c)) (-1) := by
  have q0 := h.q0
  have q1 := h.q1
  have qn := h.qn
  have h8 : q.toNat % 8 = 1 ∧ (q.toNat - 1) / n * 2 ^ c = (q.toNat - 1) / 2 := by
    rcases h.cases with ⟨rfl, rfl⟩ | ⟨rfl, rfl⟩ | ⟨rfl, rfl⟩ | ⟨rfl, rfl⟩ | ⟨rfl, rfl⟩ | ⟨rfl, rfl⟩ <;> (constructor <;> omega)
  obtain ⟨m8, me⟩ := h8
  rw [me]
  have eq : (q.toNat : Int) = q := Int.toNat_of_nonneg (by omega)
  have a := List.all_eq_true.mp all_ok (q.toNat / 8) (List.mem_range.mpr (by omega))
  have e8 : 8 * (q.toNat / 8) + 1 = q.toNat := by omega
  rw [e8, prB_of (by rw [eq]; exact h.nd)] at a
  have k0 : Nat.beq (q.toNat / 8) 0 = false := by
    cases e : Nat.beq (q.toNat / 8) 0 with
    | false => rfl
    | true =>
      have := Nat.eq_of_beq_eq_true e
      omega
  rw [k0] at a
  have a2 : rootB q.toNat = true := by simpa using a
  obtain ⟨b, hb, hz⟩ := List.any_eq_true.mp a2
  simp only [Bool.and_eq_true, Nat.ble_eq, Nat.blt_eq, Nat.beq_eq] at hz
  obtain ⟨b1, b2, b3⟩ := hz
  refine ⟨b, b1, by omega, ?_⟩
  refine (Rt.iff_mod (by omega)).mp ?_
  rw [← eq]
  have e3 : ((b ^ ((q.toNat - 1) / 2) % q.toNat : Nat) : Int) = ((q.toNat - 1 : Nat) : Int) := by rw [b3]
  rw [Int.natCast_emod, Int.natCast_pow] at e3
  rw [show ((q.toNat : Int).toNat) = q.toNat by omega, e3]
  omega
end Kx
set_option Elab.async false
set_option linter.all false
set_option maxRecDepth 100000
set_option maxHeartbeats 4000000
/-! The law's rings and polynomials. -/
namespace Kx
open PySem PySem.Spec PyProof.Rows L2
section
variable {P : Program} {w : World} {K : PySem.W.Frag} {mg : Str → Option Value} {base : Heap}
/-! ### _law_root -/
def sp_root : Sp := fun vs H Q _ => ∃ (l s : Addr) (c n : Nat) (q : Int), vs = [.ref l, .int n, .int q] ∧ Pn c n q ∧ Sto H l s ∧ Dr l s H (fun v _ => ∃ r, v = .int r ∧ Rt (2 ^ c) q r) Q
theorem ok__law_root (T : TX K mg) : FnOk P w K mg base CX0 4 (A K "_law_root") (fdA K (A K "_law_root")) ["_law_store", "_law_n", "_law_q"] sp_root := by
  refine T.F__law_root.ok sc__law_root (fun vs H Q E h => ?_) (fun cdv A0 outer s0 H vs Q E hr h => ?_)
  · obtain ⟨l, s, c, n, q, rfl, _⟩ := h
    rfl
  · obtain ⟨l, s, c, n, q, rfl, hP, S, qq⟩ := h
    have q0 := hP.q0
    have q1 := hP.q1
    have hn2 : n / 2 = 2 ^ c := by rw [hP.n_eq, Nat.pow_succ]; omega
    have hn8 : 8 ≤ n := by rcases hP.cases with ⟨_, rfl⟩ | ⟨_, rfl⟩ | ⟨_, rfl⟩ | ⟨_, rfl⟩ | ⟨_, rfl⟩ | ⟨_, rfl⟩ <;> decide
    have hn256 : n ≤ 256 := by rcases hP.cases with ⟨_, rfl⟩ | ⟨_, rfl⟩ | ⟨_, rfl⟩ | ⟨_, rfl⟩ | ⟨_, rfl⟩ | ⟨_, rfl⟩ <;> decide
    have hc128 : 2 ^ c ≤ 128 := by omega
    have en : (q - 1) / (n : Int) = (((q.toNat - 1) / n : Nat) : Int) := by
      rw [Int.natCast_ediv]
      have : ((q.toNat - 1 : Nat) : Int) = q - 1 := by omega
      rw [this]
    have te : (q.toNat - 1) / n < 2 ^ 60 := Nat.lt_of_le_of_lt (Nat.div_le_self _ _) (by omega)
    obtain ⟨b0, hb0, hb1, hb2⟩ := base_of hP
    refine ⟨_, (pss_cons (ps_set (i := 3) sc__law_root.nd rfl (Or.inl rfl) pe_int)
      (pss_cons (ps_for PassesOwn.never rfl (pi_range2 (by rfl) T.n_range (pa_cons pe_int (pa_cons (pv 2) pa_nil))) (pg_name (i := 4) sc__law_root.nd rfl (Or.inl rfl)) (pss_cons (ps_set (i := 3) sc__law_root.nd rfl (Or.inl rfl) (pe_call (ok__law_power T) (hr.mono (by decide)) (by rfl) T.g__law_power T.F__law_power.kp T.b__law_power .nil pass0 (pa_cons (pv 4) (pa_cons (pe_op op_fdiv (pe_op op_sub (pv 2) pe_int) (pv 1)) (pa_cons (pv 2) pa_nil)))))
      (pss_one (ps_if (pt_cmpR op_eq (pe_call (ok__law_power T) (hr.mono (by decide)) (by rfl) T.g__law_power T.F__law_power.kp T.b__law_power .nil pass0 (pa_cons (pv 3) (pa_cons (pe_op op_fdiv (pv 1) pe_int) (pa_cons (pv 2) pa_nil)))) (pe_op op_sub (pv 2) pe_int) (nomark _)) (pss_one ps_break) pss_nil))))
      (pss_cons (ps_set (i := 5) sc__law_root.nd rfl (Or.inl rfl) (pe_call (ok__law_power T) (hr.mono (by decide)) (by rfl) T.g__law_power T.F__law_power.kp T.b__law_power .nil pass0 (pa_cons (pv 3) (pa_cons (pe_op op_add (pe_op op_mul pe_int (pe_call (ok__law_take T) (hr.mono (by decide)) (by rfl) T.g__law_take T.F__law_take.kp T.b__law_take .nil pass0 (pa_cons (pv 0) (pa_cons (pe_op op_fdiv (pv 1) pe_int) pa_nil)))) pe_int) (pa_cons (pv 2) pa_nil)))))
      (pss_cons (ps_if (pt_cmpR op_gt (pe_call (ok__law_take T) (hr.mono (by decide)) (by rfl) T.g__law_take T.F__law_take.kp T.b__law_take .nil pass0 (pa_cons (pv 0) (pa_cons pe_int pa_nil))) pe_int (nomark _)) (pss_one (ps_ret (pv 5))) pss_nil)
      (pss_cons (ps_set (i := 6) sc__law_root.nd rfl (Or.inl rfl) (pe_op op_mod (pe_callTy call_int1 (by rfl) T.n_int (by decide +kernel) (pa_cons (pe_op op_mul (pv 3) (pv 3)) pa_nil)) (pv 2)))
      (pss_cons (ps_set (i := 7) sc__law_root.nd rfl (Or.inl rfl) (pv 3))
      (pss_cons (ps_for PassesOwn.never rfl (pi_range1 (by rfl) T.n_range (pa_cons (pe_op op_fdiv (pv 1) pe_int) pa_nil)) (pg_name (i := 8) sc__law_root.nd rfl (Or.inl rfl)) (pss_cons (ps_set (i := 3) sc__law_root.nd rfl (Or.inl rfl) (pe_op op_mod (pe_callTy call_int1 (by rfl) T.n_int (by decide +kernel) (pa_cons (pe_op op_mul (pv 3) (pv 6)) pa_nil)) (pv 2)))
      (pss_one (ps_set (i := 7) sc__law_root.nd rfl (Or.inl rfl) (pe_callB (call_min2 rfl) (by rfl) T.n_min (by decide +kernel) (pa_cons (pv 7) (pa_cons (pv 3) pa_nil)))))))
      (pss_one (ps_ret (pv 7)))))))))), ?_⟩
    refine ⟨_, rfl, 2, q, rfl, ⟨by decide, by decide, by omega, by omega⟩, for_range (lo := 2) (n := (q - 2).toNat) (fun i σ H' => ∃ (f : Int) (u5 u6 u7 u8 u4 : Option V), σ = [some (.ref l), some (.int n), some (.int q), some (.int f), u4, u5, u6, u7, u8] ∧ H' = H ∧ i ≤ b0 - 2) ⟨1, none, none, none, none, none, rfl, rfl, Nat.zero_le _⟩ ?_ ?_⟩
    · rintro i σ H' hi ⟨f, u5, u6, u7, u8, u4, rfl, rfl, hib⟩
      refine ⟨_, rfl, _, rfl, _, _, rfl, rfl, _, rfl, _, _, rfl, rfl, ⟨by omega, by omega⟩, _, rfl, 2 + (i : Int), (q.toNat - 1) / n, q, ?_, te, by omega, by omega, ?_⟩
      · exact congrArg (fun y => [V.int (2 + (i : Int)), V.int y, V.int q]) en
      · refine ⟨_, rfl, _, rfl, _, _, rfl, rfl, ⟨by decide, by decide⟩, _, rfl, (2 + (i : Int)) ^ ((q.toNat - 1) / n) % q, n / 2, q, rfl, by omega, by omega, by omega, ?_⟩
        refine ⟨_, rfl, _, _, rfl, rfl, rfl, _, rfl, ite2 (fun e => ?_) fun e => ?_⟩
        · -- a root is found
          have e1 : ((2 + (i : Int)) ^ ((q.toNat - 1) / n) % q) ^ (n / 2) % q = q - 1 := V.int.inj (of_decide_eq_true e)
          rw [hn2] at e1
          have hR : Rt (2 ^ c) q ((2 + (i : Int)) ^ ((q.toNat - 1) / n) % q) := ⟨Int.emod_nonneg _ (by omega), Int.emod_lt_of_pos _ (by omega), (Rt.iff_mod (by omega)).mp e1⟩
          generalize (2 + (i : Int)) ^ ((q.toNat - 1) / n) % q = g at hR
          refine ⟨_, rfl, _, rfl, _, rfl, _, _, rfl, rfl, ⟨by decide, by decide⟩, l, s, (n : Int) / 2, rfl, by omega, S, fun v H1 k1 S1 gg => ?_⟩
          obtain ⟨z, rfl, z0, z1⟩ := gg
          have z2 : z < (n : Int) / 2 := by
            rw [mx1_le (by omega)] at z1
            exact z1
          refine ⟨_, _, rfl, rfl, .inl ⟨by decide, by decide⟩, _, _, rfl, rfl, _, rfl, g, 2 * z.toNat + 1, q, ?_, by omega, by omega, by omega, ?_⟩
          · have : ((2 * z.toNat + 1 : Nat) : Int) = 2 * z + 1 := by omega
            exact congrArg (fun y => [V.int g, V.int y, V.int q]) this.symm
          · have hO := hR.odd (by omega) z.toNat
            refine ⟨_, rfl, l, s, 3, rfl, by decide, S1, fun v H2 k2 S2 gg => ?_⟩
            obtain ⟨y, rfl, y0, y1⟩ := gg
            refine ⟨_, _, rfl, rfl, _, rfl, ite2 (fun _ => ?_) fun _ => ?_⟩
            · exact ⟨_, rfl, qq _ _ (k1.trans k2) S2 ⟨_, rfl, hO⟩⟩
            · have sb : ∀ z : Int, 0 ≤ z → z < q → -(2 ^ 64) < z ∧ z < 2 ^ 64 := fun z z0 z1 => ⟨by omega, by omega⟩
              refine ⟨_, rfl, _, rfl, _, _, rfl, rfl, .inl (sb _ hR.1 hR.2.1), .inl ⟨_, rfl, _, rfl, _, _, rfl, rfl, by show 0 < q; omega, ?_⟩⟩
              refine ⟨_, rfl, ?_⟩
              have e2 : (((n : Int) / 2)).toNat = n / 2 := by omega
              refine ⟨_, rfl, _, _, rfl, rfl, ⟨by decide, by decide⟩, (n : Int) / 2, rfl, by omega, by omega, ?_⟩
              rw [e2]
              refine for_range (lo := 0) (n := n / 2) (fun j σ H' => ∃ (f m : Int) (u : Option V), σ = [some (.ref l), some (.int n), some (.int q), some (.int f), some (.int (2 + (i : Int))), some (.int (g ^ (2 * z.toNat + 1) % q)), some (.int (g * g % q)), some (.int m), u] ∧ H' = H2 ∧ Rt (2 ^ c) q f ∧ Rt (2 ^ c) q m) ⟨g, g, u8, rfl, rfl, hR, hR⟩ ?_ ?_
              · rintro j σ H' hj ⟨f, m, u, rfl, rfl, hf, hm⟩
                refine ⟨_, rfl, _, rfl, _, _, rfl, rfl, .inl (sb _ hf.1 hf.2.1), .inl ⟨_, rfl, _, rfl, _, _, rfl, rfl, by show 0 < q; omega, ?_⟩⟩
                have hf2 : Rt (2 ^ c) q (f * (g * g % q) % q) := hf.times_sq (by omega) hR (Cg.mod q (g * g))
                refine ⟨_, rfl, _, rfl, _, _, rfl, ?_⟩
                refine ⟨_, _, _, rfl, rfl, hf2, ?_⟩
                by_cases cm : f * (g * g % q) % q < m
                · rw [if_pos cm]
                  exact hf2
                · rw [if_neg cm]
                  exact hm
              · rintro σ H' ⟨f, m, u, rfl, rfl, hf, hm⟩
                exact ⟨_, rfl, qq _ _ (k1.trans k2) S2 ⟨_, rfl, hm⟩⟩
        · -- not yet
          refine ⟨_, _, _, _, _, _, rfl, rfl, ?_⟩
          by_cases ei : i = b0 - 2
          · exfalso
            have eb : (2 : Int) + (i : Int) = (b0 : Int) := by omega
            refine e (decide_eq_true (congrArg V.int ?_))
            rw [eb, hn2]
            refine (Rt.iff_mod (by omega)).mpr ?_
            refine ((Cg.mod q _).pow _).trans ?_
            rw [pow_pow]
            exact hb2
          · omega
    · rintro σ H' ⟨f, u5, u6, u7, u8, u4, rfl, rfl, hib⟩
      exfalso
      omega
/-! ### _law_item -/
def sp_item : Sp := fun vs H Q _ => ∃ (l s : Addr) (q : Int), vs = [.ref l, .int q] ∧ 3 ≤ q ∧ q < 5000 ∧ Sto H l s ∧ Dr l s H (Below q) Q
theorem ok__law_item (T : TX K mg) : FnOk P w K mg base CX0 4 (A K "_law_item") (fdA K (A K "_law_item")) ["_law_store", "_law_q"] sp_item := by
  refine T.F__law_item.ok sc__law_item (fun vs H Q E h => ?_) (fun cdv A0 outer s0 H vs Q E hr h => ?_)
  · obtain ⟨l, s, q, rfl, _⟩ := h
    rfl
  · obtain ⟨l, s, q, rfl, q0, q1, S, qq⟩ := h
    refine ⟨_, (pss_cons (ps_if (pt_cmpR op_eq (pe_call (ok__law_take T) (hr.mono (by decide)) (by rfl) T.g__law_take T.F__law_take.kp T.b__law_take .nil pass0 (pa_cons (pv 0) (pa_cons pe_int pa_nil))) pe_int (nomark _)) (pss_cons (ps_set (i := 2) sc__law_item.nd rfl (Or.inl rfl) (pe_op op_fdiv (pe_op op_sub (pv 1) pe_int) pe_int))
      (pss_cons (ps_set (i := 3) sc__law_item.nd rfl (Or.inl rfl) (pe_op op_fdiv (pe_op op_sub (pv 1) pe_int) pe_int))
      (pss_one (ps_ret (pe_op op_mod (pe_callTy call_int1 (by rfl) T.n_int (by decide +kernel) (pa_cons (pe_call (ok__law_pick T) (hr.mono (by decide)) (by rfl) T.g__law_pick T.F__law_pick.kp T.b__law_pick .nil pass0 (pa_cons (pv 0) (pa_cons (pe_lst (pa_cons pe_int (pa_cons pe_int (pa_cons (pe_op op_sub (pv 1) pe_int) (pa_cons (pv 2) (pa_cons (pe_op op_add (pv 2) pe_int) (pa_cons (pv 3) (pa_cons (pe_op op_add (pv 3) pe_int) (pa_cons (pe_op op_sub (pv 1) (pv 3)) (pa_cons (pe_op op_sub (pe_op op_sub (pv 1) (pv 3)) pe_int) pa_nil)))))))))) pa_nil))) pa_nil)) (pv 1)))))) pss_nil)
      (pss_one (ps_ret (pe_call (ok__law_take T) (hr.mono (by decide)) (by rfl) T.g__law_take T.F__law_take.kp T.b__law_take .nil pass0 (pa_cons (pv 0) (pa_cons (pv 1) pa_nil)))))), ?_⟩
    refine ⟨_, rfl, l, s, 3, rfl, by decide, S, fun v H1 k1 S1 gg => ?_⟩
    obtain ⟨z, rfl, _, _⟩ := gg
    refine ⟨rfl, _, rfl, ite2 (fun _ => ?_) fun _ => ?_⟩
    · refine ⟨_, rfl, _, _, rfl, rfl, _, _, rfl, rfl, ⟨by decide, by decide⟩, ?_⟩
      refine ⟨_, rfl, _, _, rfl, rfl, _, _, rfl, rfl, ⟨by decide, by decide⟩, ?_⟩
      refine ⟨_, rfl, _, rfl, _, _, rfl, rfl, _, rfl, _, rfl, _, _, rfl, rfl, _, rfl, _, rfl, _, _, rfl, rfl, _, rfl, _, rfl, _, _, rfl, rfl, _, rfl, _, rfl, _, _, rfl, rfl, _, _, rfl, rfl, (by show 9 ≤ sizeLine; decide), fun p hp => ?_⟩
      have np : p ≠ l := fun z => by
        obtain ⟨o, ho⟩ := S1.some_l
        rw [z, ho] at hp
        cases hp
      refine ⟨l, s, p, _, rfl, upd_same, np, (by show 0 < 9; decide), (by show 9 ≤ 1000; decide), S1.same (same_upd hp), fun v H2 k2 S2 g => ?_⟩
      obtain ⟨i, hi⟩ := g
      have h9 : i < 9 := (List.getElem?_eq_some_iff.mp hi).1
      have fin : ∀ y : Int, Q (.int (y % q)) H2 := fun y => qq _ _ ((k1.trans (.of_same (same_upd hp))).trans k2) S2 ⟨_, rfl, Int.emod_nonneg _ (by omega), Int.emod_lt_of_pos _ (by omega)⟩
      have : i = 0 ∨ i = 1 ∨ i = 2 ∨ i = 3 ∨ i = 4 ∨ i = 5 ∨ i = 6 ∨ i = 7 ∨ i = 8 := by omega
      rcases this with rfl | rfl | rfl | rfl | rfl | rfl | rfl | rfl | rfl <;> cases hi <;> exact .inl ⟨_, rfl, _, rfl, _, _, rfl, rfl, by show 0 < q; omega, fin _⟩
    · refine ⟨_, rfl, _, rfl, l, s, q, rfl, by omega, S1, fun v H2 k2 S2 g => ?_⟩
      rw [mx1_le (by omega)] at g
      exact qq _ _ (k1.trans k2) S2 g
end
end Kx
set_option Elab.async false
set_option linter.all false
set_option maxRecDepth 100000
set_option maxHeartbeats 4000000
/-! The law's polynomials, moduli, rings. -/
namespace Kx
open PySem PySem.Spec PyProof.Rows L2
/-- n residues -/
def Poly (n : Nat) (q : Int) (f : List Int) : Prop := f.length = n ∧ ∀ x ∈ f, 0 ≤ x ∧ x < q
theorem rep_flat (k : Nat) (x : Int) : (List.replicate k (IL [x])).flatten = IL (List.replicate k x) := by
  induction k with
  | zero => rfl
  | succ k ih =>
    rw [List.replicate_succ, List.flatten_cons, ih, List.replicate_succ]
    rfl
theorem il_app (f g : List Int) : IL f ++ IL g = IL (f ++ g) := List.map_append.symm
theorem set_il (f : List Int) (i : Nat) (x : Int) : (IL f).set i (.int x) = IL (f.set i x) := List.map_set.symm
theorem ixN_of {n : Nat} {z : Int} (h0 : 0 ≤ z) (h1 : z < n) : ixN n z = some z.toNat := by
  unfold ixN
  rw [if_pos h0, if_pos h1]
theorem Poly.rep {n : Nat} {q x : Int} (h0 : 0 ≤ x) (h1 : x < q) : Poly n q (List.replicate n x) := ⟨List.length_replicate, fun y hy => by
  rw [(List.mem_replicate.mp hy).2]
  exact ⟨h0, h1⟩⟩
theorem Poly.set {n : Nat} {q x : Int} {f : List Int} (h : Poly n q f) (i : Nat) (h0 : 0 ≤ x) (h1 : x < q) : Poly n q (f.set i x) := ⟨by rw [List.length_set]; exact h.1, fun y hy => by
  rcases List.mem_or_eq_of_mem_set hy with z | z
  · exact h.2 y z
  · rw [z]
    exact ⟨h0, h1⟩⟩
/-- a new list of ints -/
def NewL (H : Hp) (G : List Int → Prop) : V → Hp → Prop := fun v H' => ∃ (p : Addr) (f : List Int), v = .ref p ∧ H p = none ∧ H' p = some (.lst (IL f)) ∧ G f
section
variable {P : Program} {w : World} {K : PySem.W.Frag} {mg : Str → Option Value} {base : Heap}
def sp_poly : Sp := fun vs H Q _ => ∃ (l s : Addr) (n : Nat) (q : Int), vs = [.ref l, .int n, .int q] ∧ 1 ≤ n ∧ n ≤ 256 ∧ 3 ≤ q ∧ q < 5000 ∧ Sto H l s ∧ Dr l s H (NewL H (Poly n q)) Q
theorem ok__law_poly (T : TX K mg) : FnOk P w K mg base CX0 5 (A K "_law_poly") (fdA K (A K "_law_poly")) ["_law_store", "_law_n", "_law_q"] sp_poly := by
  refine T.F__law_poly.ok sc__law_poly (fun vs H Q E h => ?_) (fun cdv A0 outer s0 H vs Q E hr h => ?_)
  · obtain ⟨l, s, n, q, rfl, _⟩ := h
    rfl
  · obtain ⟨l, s, n, q, rfl, n0, n1, q0, q1, S, qq⟩ := h
    have nol : ∀ {H' : Hp} {p : Addr}, Sto H' l s → H' p = none → p ≠ l := fun S' hp z => by
      obtain ⟨o, ho⟩ := S'.some_l
      rw [z, ho] at hp
      cases hp
    have hline : (IL [(0 : Int)]).length * (n : Int).toNat ≤ sizeLine := by
      rw [il_len]
      exact line_of (by show 1 * (n : Int).toNat ≤ 100000; omega)
    have R : ∃ t3, PSs ((cxOf CX0 P w K mg base N__law_poly "_law_poly" (defScope s__law_poly) (A K "_law_poly") cdv A0 outer s0 H E).nox) (blk (nth (defBody s__law_poly) 2)) t3 ∧ ∀ (D : Ends) (H' : Hp) (y3 y4 y5 y6 : Option V), D.rt = Q → Kp l H H' → Sto H' l s → t3 D [some (.ref l), some (.int n), some (.int q), y3, y4, y5, y6] H' := by
      refine ⟨_, (pss_cons (ps_set (i := 4) sc__law_poly.nd rfl (Or.inl rfl) (pe_op op_rep (pe_lst (pa_cons pe_int pa_nil)) (pv 1)))
      (pss_cons (ps_asg (pe_call (ok__law_item T) (hr.mono (by decide)) (by rfl) T.g__law_item T.F__law_item.kp T.b__law_item .nil pass0 (pa_cons (pv 0) (pa_cons (pv 2) pa_nil))) (pg_sub (pv 4) (pe_call (ok__law_between T) (hr.mono (by decide)) (by rfl) T.g__law_between T.F__law_between.kp T.b__law_between .nil pass0 (pa_cons (pv 0) (pa_cons pe_int (pa_cons (pe_op op_sub (pv 1) pe_int) pa_nil)))) set_list))
      (pss_one (ps_ret (pv 4))))), fun D H' y3 y4 y5 y6 hD k S' => ?_⟩
      refine ⟨(by show 1 ≤ sizeLine; decide), fun a ha => ⟨_, rfl, a, n, IL [0], rfl, rfl, upd_same, by omega, by omega, hline, fun p hp => ?_⟩⟩
      have S2 : Sto (upd H' a (.lst (IL [0]))) l s := S'.same (same_upd ha)
      have k2 : Kp l H (upd H' a (.lst (IL [0]))) := k.trans (.of_same (same_upd ha))
      have S3 := S2.same (same_upd (o := .lst (List.replicate (n : Int).toNat (IL [0])).flatten) hp)
      have k3 := k2.trans (.of_same (same_upd (o := .lst (List.replicate (n : Int).toNat (IL [0])).flatten) hp))
      have hp0 := S2.free k2 hp
      have npl := nol S2 hp
      have hp3 : (upd (upd H' a (.lst (IL [0]))) p (.lst (List.replicate (n : Int).toNat (IL [0])).flatten)) p = some (.lst (IL (List.replicate n 0))) := by
        rw [upd_same, rep_flat, show (n : Int).toNat = n by omega]
      refine ⟨_, rfl, _, rfl, l, s, q, rfl, by omega, by omega, S3, fun v H4 k4 S4 g => ?_⟩
      obtain ⟨x, rfl, x0, x1⟩ := g
      refine ⟨_, rfl, _, rfl, _, rfl, _, _, rfl, rfl, l, s, 0, (n : Int) - 1, rfl, by omega, by omega, by omega, S4, fun v H5 k5 S5 g => ?_⟩
      obtain ⟨i, rfl, i0, i1⟩ := g
      have hp5 := k5 _ _ npl (k4 _ _ npl hp3)
      refine ⟨p, _, i, i.toNat, rfl, rfl, hp5, ixN_of i0 (by rw [il_len, List.length_replicate]; omega), _, rfl, ?_⟩
      rw [hD, set_il]
      refine qq _ _ (fun b o nb e => ?_) ?_ ⟨p, _, rfl, hp0, upd_same, (Poly.rep (n := n) (x := 0) (by omega) (by omega)).set _ x0 x1⟩
      · rw [upd_ne (ne_of_none e hp0)]
        exact (k3.trans (k4.trans k5)) b o nb e
      · have nps : s ≠ p := by
          obtain ⟨_, _, _, _, _, ns, _, _, hs⟩ := S
          exact ne_of_none hs hp0
        obtain ⟨a', b', c', d', e', ns, h0, h1, h2⟩ := S5
        exact ⟨a', b', c', d', e', ns, h0, by rw [upd_ne npl.symm]; exact h1, by rw [upd_ne nps]; exact h2⟩
    obtain ⟨t3, d3, r3⟩ := R
    refine ⟨_, (pss_cons (ps_set (i := 3) sc__law_poly.nd rfl (Or.inl rfl) (pe_call (ok__law_take T) (hr.mono (by decide)) (by rfl) T.g__law_take T.F__law_take.kp T.b__law_take .nil pass0 (pa_cons (pv 0) (pa_cons pe_int pa_nil))))
      (pss_cons (ps_if (pt_cmpR op_eq (pv 3) pe_int (nomark _)) (pss_one (ps_ret (pe_op op_rep (pe_lst (pa_cons pe_int pa_nil)) (pv 1)))) pss_nil)
      (pss_cons (ps_if (PW.pt (pw_or (pt_cmpR op_eq (pv 3) pe_int (nomark _)) (pw_or1 (pt_cmpR op_eq (pv 3) pe_int (nomark _))))) d3 pss_nil)
      (pss_cons (ps_if (pt_cmpR op_eq (pv 3) pe_int (nomark _)) (pss_cons (ps_set (i := 5) sc__law_poly.nd rfl (Or.inl rfl) (pe_call (ok__law_item T) (hr.mono (by decide)) (by rfl) T.g__law_item T.F__law_item.kp T.b__law_item .nil pass0 (pa_cons (pv 0) (pa_cons (pv 2) pa_nil))))
      (pss_one (ps_ret (pe_op op_rep (pe_lst (pa_cons (pv 5) pa_nil)) (pv 1))))) pss_nil)
      (pss_one (ps_ret (pe_lc (own := [("_law_turn", 6)]) (g := gName 6) (tt := tYes) rfl sc__law_poly.nd (pi_range1 (by rfl) T.n_range (pa_cons (pv 1) pa_nil)) (blkOk_by (N := N__law_poly) (sc := defScope s__law_poly) (by decide +kernel)) (fun _ _ _ _ _ => pg_name (i := 6) sc__law_poly.nd rfl (Or.inl rfl)) (fun _ _ _ _ _ => pts_nil) (fun _ _ _ _ _ => (pe_call (ok__law_item T) (hr.mono (by decide)) (by rfl) T.g__law_item T.F__law_item.kp T.b__law_item .nil pass0 (pa_cons (pv 0) (pa_cons (pv 2) pa_nil))))))))))), ?_⟩
    refine ⟨_, rfl, l, s, 9, rfl, by decide, S, fun v H1 k1 S1 gg => ?_⟩
    obtain ⟨kd, rfl, _, _⟩ := gg
    refine ⟨_, rfl, rfl, _, rfl, ite2 (fun _ => ?_) fun _ => ?_⟩
    · -- [0] * n
      refine ⟨(by show 1 ≤ sizeLine; decide), fun a ha => ⟨_, rfl, a, n, IL [0], rfl, rfl, upd_same, by omega, by omega, hline, fun p hp => ?_⟩⟩
      have S2 : Sto (upd H1 a (.lst (IL [0]))) l s := S1.same (same_upd ha)
      have k2 : Kp l H (upd H1 a (.lst (IL [0]))) := k1.trans (.of_same (same_upd ha))
      refine qq _ _ (k2.trans (.of_same (same_upd hp))) (S2.same (same_upd hp)) ⟨p, _, rfl, S2.free k2 hp, ?_, Poly.rep (n := n) (x := 0) (by omega) (by omega)⟩
      rw [upd_same, rep_flat, show (n : Int).toNat = n by omega]
    · refine ⟨_, rfl, rfl, _, rfl, ite2 (fun _ => ?_) fun _ => ⟨_, rfl, rfl, _, rfl, ite2 (fun _ => ?_) fun _ => ?_⟩⟩
      · exact r3 _ _ _ _ _ _ rfl k1 S1
      · exact r3 _ _ _ _ _ _ rfl k1 S1
      · refine ⟨_, rfl, rfl, _, rfl, ite2 (fun _ => ?_) fun _ => ?_⟩
        · -- [one] * n
          refine ⟨_, rfl, _, rfl, l, s, q, rfl, by omega, by omega, S1, fun v H2 k2 S2 g => ?_⟩
          obtain ⟨x, rfl, x0, x1⟩ := g
          have hlx : (IL [x]).length * (n : Int).toNat ≤ sizeLine := hline
          refine ⟨_, rfl, (by show 1 ≤ sizeLine; decide), fun a ha => ⟨_, rfl, a, n, IL [x], rfl, rfl, upd_same, by omega, by omega, hlx, fun p hp => ?_⟩⟩
          have S3 : Sto (upd H2 a (.lst (IL [x]))) l s := S2.same (same_upd ha)
          have k3 : Kp l H (upd H2 a (.lst (IL [x]))) := (k1.trans k2).trans (.of_same (same_upd ha))
          refine qq _ _ (k3.trans (.of_same (same_upd hp))) (S3.same (same_upd hp)) ⟨p, _, rfl, S3.free k3 hp, ?_, Poly.rep (n := n) (x := x) x0 x1⟩
          rw [upd_same, rep_flat, show (n : Int).toNat = n by omega]
        · -- each item drawn
          refine ⟨_, rfl, n, rfl, by omega, by omega, fun D hD => ?_⟩
          rw [show (n : Int).toNat = n by omega]
          refine lc_range (lo := 0) (n := n) (fun i H' => ∃ f : List Int, Kp l H H' ∧ Sto H' l s ∧ H' D = some (.lst (IL f)) ∧ f.length = i ∧ ∀ x ∈ f, 0 ≤ x ∧ x < q) ⟨[], k1.trans (.of_same (same_upd hD)), S1.same (same_upd hD), upd_same, rfl, by simp⟩ ?_ ?_
          · rintro i H' hi ⟨f, k, S', hf, hl, hb⟩
            have nD := nol S1 hD
            refine ⟨rfl, _, rfl, _, rfl, l, s, q, rfl, by omega, by omega, S', fun v H2 k2 S2 g => ?_⟩
            obtain ⟨x, rfl, x0, x1⟩ := g
            refine ⟨_, k2 _ _ nD hf, line_lt (by rw [il_len]; omega), f ++ [x], ?_, ?_, ?_, ?_, ?_⟩
            · intro b o nb e
              rw [upd_ne (ne_of_none e (S1.free k1 hD))]
              exact k2 _ _ nb (k _ _ nb e)
            · have nps : s ≠ D := by
                obtain ⟨_, _, _, _, _, ns, _, _, hs⟩ := S1
                exact ne_of_none hs hD
              obtain ⟨a', b', c', d', e', ns, h0, h1, h2⟩ := S2
              exact ⟨a', b', c', d', e', ns, h0, by rw [upd_ne nD.symm]; exact h1, by rw [upd_ne nps]; exact h2⟩
            · rw [upd_same]
              exact congrArg (fun z => some (HO.lst z)) (il_app f [x])
            · rw [List.length_append, hl]
              rfl
            · intro y hy
              rcases List.mem_append.mp hy with z | z
              · exact hb y z
              · rw [List.mem_singleton.mp z]
                exact ⟨x0, x1⟩
          · rintro H' ⟨f, k, S', hf, hl, hb⟩
            exact qq _ _ k S' ⟨D, f, rfl, S1.free k1 hD, hf, hl, hb⟩
/-! ### _law_prime_for -/
def sp_pf : Sp := fun vs H Q _ => ∃ (l s : Addr) (c n : Nat), vs = [.ref l, .int n] ∧ 2 ≤ c ∧ c ≤ 7 ∧ n = 2 ^ (c + 1) ∧ Sto H l s ∧ Dr l s H (fun v _ => ∃ q, v = .int q ∧ Pn c n q) Q
theorem pn_257 {c n : Nat} (h0 : 2 ≤ c) (h1 : c ≤ 7) (hn : n = 2 ^ (c + 1)) : Pn c n 257 := by
  refine ⟨h0, h1, hn, by decide, by decide, fun d d1 d2 => ?_, ?_⟩
  · have h17 : d < 17 := by
      by_cases c : d < 17
      · exact c
      · have z := Int.mul_le_mul (show (17 : Int) ≤ d by omega) (show (17 : Int) ≤ d by omega) (by omega) (by omega)
        omega
    have : d = 2 ∨ d = 3 ∨ d = 4 ∨ d = 5 ∨ d = 6 ∨ d = 7 ∨ d = 8 ∨ d = 9 ∨ d = 10 ∨ d = 11 ∨ d = 12 ∨ d = 13 ∨ d = 14 ∨ d = 15 ∨ d = 16 := by omega
    rcases this with rfl | rfl | rfl | rfl | rfl | rfl | rfl | rfl | rfl | rfl | rfl | rfl | rfl | rfl | rfl <;> decide
  · have : c = 2 ∨ c = 3 ∨ c = 4 ∨ c = 5 ∨ c = 6 ∨ c = 7 := by omega
    rcases this with rfl | rfl | rfl | rfl | rfl | rfl <;> subst hn <;> decide
theorem pn_of {c n : Nat} {a : Int} (h0 : 2 ≤ c) (h1 : c ≤ 7) (hn : n = 2 ^ (c + 1)) (a0 : 0 ≤ a) (a1 : a < 4094 / (n : Int)) (hp : Pr ((n : Int) * a + n + 1)) : Pn c n ((n : Int) * a + n + 1) := by
  have n8 : 8 ≤ n ∧ n % 8 = 0 := by
    have : c = 2 ∨ c = 3 ∨ c = 4 ∨ c = 5 ∨ c = 6 ∨ c = 7 := by omega
    rcases this with rfl | rfl | rfl | rfl | rfl | rfl <;> subst hn <;> decide
  have e1 : (n : Int) * a + n = n * (a + 1) := by grind
  have e2 : (n : Int) * (a + 1) ≤ n * (4094 / (n : Int)) := Int.mul_le_mul_of_nonneg_left (by omega) (by omega)
  have e3 : (n : Int) * (4094 / (n : Int)) ≤ 4094 := by
    have := Int.mul_ediv_self_le (x := 4094) (k := (n : Int)) (by omega)
    exact this
  have hm : ((n : Int) * a + n + 1) % n = 1 := by
    rw [e1, Int.add_comm, Int.add_mul_emod_self_left]
    exact Int.emod_eq_of_lt (by decide) (by omega)
  have lo : (n : Int) ≤ n * (a + 1) := by
    have := Int.mul_le_mul_of_nonneg_left (show (1 : Int) ≤ a + 1 by omega) (show (0 : Int) ≤ n by omega)
    omega
  generalize hq : (n : Int) * a + n + 1 = q at hp hm ⊢
  have q9 : 9 ≤ q := by omega
  have q8 : q % 8 = 1 := by
    have e5 : q = n * (a + 1) + 1 := by rw [← hq, e1]
    obtain ⟨m, hm8⟩ : ∃ m : Nat, n = 8 * m := ⟨n / 8, by omega⟩
    have e6 : (n : Int) * (a + 1) = 8 * ((m : Int) * (a + 1)) := by rw [hm8, Int.natCast_mul]; exact Int.mul_assoc 8 (m : Int) (a + 1)
    omega
  refine ⟨h0, h1, hn, ?_, by omega, fun d d1 d2 => hp.2 d d1 ?_ d2, hm⟩
  · by_cases c9 : q = 9
    · exfalso
      exact hp.2 3 (by decide) (by decide) (by omega) (by rw [c9]; decide)
    · omega
  · by_cases c : d < 64
    · exact c
    · have z := Int.mul_le_mul (show (64 : Int) ≤ d by omega) (show (64 : Int) ≤ d by omega) (by omega) (by omega)
      omega
theorem ok__law_prime_for (T : TX K mg) : FnOk P w K mg base CX0 4 (A K "_law_prime_for") (fdA K (A K "_law_prime_for")) ["_law_store", "_law_n"] sp_pf := by
  refine T.F__law_prime_for.ok sc__law_prime_for (fun vs H Q E h => ?_) (fun cdv A0 outer s0 H vs Q E hr h => ?_)
  · obtain ⟨l, s, c, n, rfl, _⟩ := h
    rfl
  · obtain ⟨l, s, c, n, rfl, h0, h1, hn, S, qq⟩ := h
    have n8 : 8 ≤ n ∧ n ≤ 256 := by
      have : c = 2 ∨ c = 3 ∨ c = 4 ∨ c = 5 ∨ c = 6 ∨ c = 7 := by omega
      rcases this with rfl | rfl | rfl | rfl | rfl | rfl <;> subst hn <;> decide
    have m1 : 15 ≤ 4094 / (n : Int) := (Int.le_ediv_iff_mul_le (by omega)).mpr (by omega)
    have m2 : 4094 / (n : Int) ≤ 4094 := Int.ediv_le_self _ (by omega)
    have R : ∃ t3, PSs ((cxOf CX0 P w K mg base N__law_prime_for "_law_prime_for" (defScope s__law_prime_for) (A K "_law_prime_for") cdv A0 outer s0 H E).nox) ((defBody s__law_prime_for).drop 4) t3 ∧ ∀ (H' : Hp) (x : Int) (fw : Int) (y5 y6 : Option V), Kp l H H' → Sto H' l s →
        t3 { nx := fun _ H' => Q .non H', rt := Q } [some (.ref l), some (.int n), some (.int (4094 / (n : Int))), some (.int fw), some (.int x), y5, y6] H' := by
      refine ⟨_, (pss_cons (ps_for PassesOwn.never rfl (pi_range1 (by rfl) T.n_range (pa_cons (pv 2) pa_nil)) (pg_name (i := 5) sc__law_prime_for.nd rfl (Or.inl rfl)) (pss_cons (ps_set (i := 6) sc__law_prime_for.nd rfl (Or.inl rfl) (pe_op op_mod (pe_callTy call_int1 (by rfl) T.n_int (by decide +kernel) (pa_cons (pe_op op_add (pv 4) (pv 5)) pa_nil)) (pv 2)))
      (pss_cons (ps_if (pt_cmpR op_eq (pv 4) (pe_op op_sub (pv 2) pe_int) (nomark _)) (pss_one (ps_set (i := 6) sc__law_prime_for.nd rfl (Or.inl rfl) (pe_op op_sub (pe_op op_sub (pv 2) pe_int) (pv 5)))) pss_nil)
      (pss_one (ps_if (pt_val (pe_call (ok__law_prime T) (hr.mono (by decide)) (by rfl) T.g__law_prime T.F__law_prime.kp T.b__law_prime .nil pass0 (pa_cons (pe_op op_add (pe_op op_add (pe_op op_mul (pv 1) (pv 6)) (pv 1)) pe_int) pa_nil))) (pss_one (ps_ret (pe_op op_add (pe_op op_add (pe_op op_mul (pv 1) (pv 6)) (pv 1)) pe_int))) pss_nil)))))
      (pss_one (ps_ret pe_int))), fun H' x fw y5 y6 k S' => ?_⟩
      generalize hm : 4094 / (n : Int) = m at m1 m2
      refine ⟨_, rfl, m, rfl, by omega, by omega, ?_⟩
      refine for_range (lo := 0) (n := m.toNat) (fun i σ H2 => ∃ u5 u6 : Option V, σ = [some (.ref l), some (.int n), some (.int m), some (.int fw), some (.int x), u5, u6] ∧ H2 = H') ⟨y5, y6, rfl, rfl⟩ ?_ ?_
      · rintro i σ H2 hi ⟨u5, u6, rfl, rfl⟩
        refine ⟨_, rfl, _, rfl, _, _, rfl, rfl, .inl ⟨_, rfl, _, rfl, _, _, rfl, rfl, by show 0 < m; omega, ?_⟩⟩
        have key : ∀ (a : Int), 0 ≤ a → a < m → ∀ b : Bool, (b = true → Pr ((n : Int) * a + n + 1)) → b = true → Q (.int ((n : Int) * a + n + 1)) H2 := fun a a0 a1 b hb e => qq _ _ k S' ⟨_, rfl, pn_of h0 h1 hn a0 (by rw [hm]; exact a1) (hb e)⟩
        refine ⟨_, rfl, _, rfl, _, _, rfl, rfl, rfl, _, rfl, ite2 (fun _ => ?_) fun _ => ?_⟩
        · refine ⟨_, rfl, _, _, rfl, rfl, _, rfl, _, _, rfl, rfl, ?_⟩
          refine ⟨_, rfl, _, rfl, _, _, rfl, rfl, .inl ⟨by omega, by omega⟩, _, rfl, _, _, rfl, rfl, _, _, rfl, rfl, _, rfl, fun b hb => ⟨_, rfl, ite2 (fun e => ?_) fun _ => ?_⟩⟩
          · refine ⟨_, rfl, _, rfl, _, _, rfl, rfl, .inl ⟨by omega, by omega⟩, _, rfl, _, _, rfl, rfl, _, _, rfl, rfl, ?_⟩
            exact key _ (by omega) (by omega) b hb e
          · exact ⟨_, _, rfl, rfl⟩
        · refine ⟨_, rfl, _, rfl, _, _, rfl, rfl, .inl ⟨by omega, by omega⟩, _, rfl, _, _, rfl, rfl, _, _, rfl, rfl, _, rfl, fun b hb => ⟨_, rfl, ite2 (fun e => ?_) fun _ => ?_⟩⟩
          · refine ⟨_, rfl, _, rfl, _, _, rfl, rfl, .inl ⟨by omega, by omega⟩, _, rfl, _, _, rfl, rfl, _, _, rfl, rfl, ?_⟩
            exact key _ (Int.emod_nonneg _ (by omega)) (Int.emod_lt_of_pos _ (by omega)) b hb e
          · exact ⟨_, _, rfl, rfl⟩
      · rintro σ H2 ⟨u5, u6, rfl, rfl⟩
        exact qq _ _ k S' ⟨_, rfl, pn_257 h0 h1 hn⟩
    obtain ⟨t3, d3, r3⟩ := R
    refine ⟨_, (pss_cons (ps_set (i := 2) sc__law_prime_for.nd rfl (Or.inl rfl) (pe_op op_fdiv pe_int (pv 1)))
      (pss_cons (ps_set (i := 3) sc__law_prime_for.nd rfl (Or.inl rfl) (pe_callB (call_min2 rfl) (by rfl) T.n_min (by decide +kernel) (pa_cons (pv 2) (pa_cons pe_int pa_nil))))
      (pss_cons (ps_set (i := 4) sc__law_prime_for.nd rfl (Or.inl rfl) (pe_call (ok__law_pick T) (hr.mono (by decide)) (by rfl) T.g__law_pick T.F__law_pick.kp T.b__law_pick .nil pass0 (pa_cons (pv 0) (pa_cons (pe_lst (pa_cons pe_int (pa_cons (pe_call (ok__law_take T) (hr.mono (by decide)) (by rfl) T.g__law_take T.F__law_take.kp T.b__law_take .nil pass0 (pa_cons (pv 0) (pa_cons (pv 3) pa_nil))) (pa_cons (pe_call (ok__law_take T) (hr.mono (by decide)) (by rfl) T.g__law_take T.F__law_take.kp T.b__law_take .nil pass0 (pa_cons (pv 0) (pa_cons (pv 3) pa_nil))) (pa_cons (pe_call (ok__law_take T) (hr.mono (by decide)) (by rfl) T.g__law_take T.F__law_take.kp T.b__law_take .nil pass0 (pa_cons (pv 0) (pa_cons (pv 2) pa_nil))) pa_nil))))) pa_nil))))
      (pss_cons (ps_if (pt_cmpR op_eq (pe_call (ok__law_take T) (hr.mono (by decide)) (by rfl) T.g__law_take T.F__law_take.kp T.b__law_take .nil pass0 (pa_cons (pv 0) (pa_cons pe_int pa_nil))) pe_int (nomark _)) (pss_one (ps_set (i := 4) sc__law_prime_for.nd rfl (Or.inl rfl) (pe_op op_sub (pv 2) pe_int))) pss_nil)
      d3)))), ?_⟩
    refine ⟨_, rfl, _, _, rfl, rfl, ⟨by omega, by omega⟩, ?_⟩
    refine ⟨_, rfl, _, _, rfl, ?_⟩
    have f1 : 1 ≤ (if 30 < 4094 / (n : Int) then 30 else 4094 / (n : Int)) ∧ (if 30 < 4094 / (n : Int) then 30 else 4094 / (n : Int)) < 2 ^ 60 := by split <;> omega
    revert f1
    generalize (if 30 < 4094 / (n : Int) then 30 else 4094 / (n : Int)) = few
    intro f1
    refine ⟨_, rfl, _, rfl, _, rfl, l, s, few, rfl, f1.2, S, fun v1 H1 k1 S1 g1 => ?_⟩
    obtain ⟨x1, rfl, _, _⟩ := g1
    refine ⟨_, rfl, _, rfl, l, s, few, rfl, f1.2, S1, fun v2 H2 k2 S2 g2 => ?_⟩
    obtain ⟨x2, rfl, _, _⟩ := g2
    refine ⟨_, rfl, _, rfl, l, s, 4094 / (n : Int), rfl, by omega, S2, fun v3 H3 k3 S3 g3 => ?_⟩
    obtain ⟨x3, rfl, _, _⟩ := g3
    refine ⟨(by show 4 ≤ sizeLine; decide), fun p hp => ?_⟩
    have np : p ≠ l := fun z => by
      obtain ⟨o, ho⟩ := S3.some_l
      rw [z, ho] at hp
      cases hp
    refine ⟨l, s, p, _, rfl, upd_same, np, (by show 0 < 4; decide), (by show 4 ≤ 1000; decide), S3.same (same_upd hp), fun v H4 k4 S4 g => ?_⟩
    have k5 := (((k1.trans k2).trans k3).trans (.of_same (same_upd hp))).trans k4
    obtain ⟨x, rfl⟩ : ∃ x, v = .int x := by
      obtain ⟨i, hi⟩ := g
      have h4 : i < 4 := (List.getElem?_eq_some_iff.mp hi).1
      have : i = 0 ∨ i = 1 ∨ i = 2 ∨ i = 3 := by omega
      rcases this with rfl | rfl | rfl | rfl <;> cases hi <;> exact ⟨_, rfl⟩
    refine ⟨_, rfl, l, s, 12, rfl, by decide, S4, fun v H5 k6 S5 g => ?_⟩
    obtain ⟨y, rfl, _, _⟩ := g
    refine ⟨rfl, _, rfl, ite2 (fun _ => ?_) fun _ => ?_⟩
    · exact ⟨_, rfl, _, _, rfl, rfl, r3 _ _ _ _ _ (k5.trans k6) S5⟩
    · exact r3 _ _ _ _ _ (k5.trans k6) S5
end
end Kx
set_option Elab.async false
set_option linter.all false
set_option maxRecDepth 100000
set_option maxHeartbeats 4000000
/-! The law's rings, two of them. -/
namespace Kx
open PySem PySem.Spec PyProof.Rows L2
/-- the numbers of a ring, at a tuple -/
def TupAt (H : Hp) (p : Addr) (n : Nat) (q r : Int) : Prop := H p = some (.tup [.int n, .int q, .int r])
def NewR (H : Hp) : V → Hp → Prop := fun v H' => ∃ (p : Addr) (c n : Nat) (q r : Int), v = .ref p ∧ H p = none ∧ TupAt H' p n q r ∧ Rg c n q r
theorem Sto.no {H : Hp} {l s p : Addr} (h : Sto H l s) (hp : H p = none) : p ≠ l := fun z => by
  obtain ⟨o, ho⟩ := h.some_l
  rw [z, ho] at hp
  cases hp
section
variable {P : Program} {w : World} {K : PySem.W.Frag} {mg : Str → Option Value} {base : Heap}
def sp_some : Sp := fun vs H Q _ => ∃ (l s : Addr), vs = [.ref l] ∧ Sto H l s ∧ Dr l s H (NewR H) Q
theorem ok__law_some_ring (T : TX K mg) : FnOk P w K mg base CX0 6 (A K "_law_some_ring") (fdA K (A K "_law_some_ring")) ["_law_store"] sp_some := by
  refine T.F__law_some_ring.ok sc__law_some_ring (fun vs H Q E h => ?_) (fun cdv A0 outer s0 H vs Q E hr h => ?_)
  · obtain ⟨l, s, rfl, _⟩ := h
    rfl
  · obtain ⟨l, s, rfl, S, qq⟩ := h
    have R : ∃ t3, PSs ((cxOf CX0 P w K mg base N__law_some_ring "_law_some_ring" (defScope s__law_some_ring) (A K "_law_some_ring") cdv A0 outer s0 H E).nox) ((defBody s__law_some_ring).drop 2) t3 ∧ ∀ (H' : Hp) (c : Nat) (y2 : Option V), 2 ≤ c → c ≤ 7 → Kp l H H' → Sto H' l s →
        t3 { nx := fun _ H' => Q .non H', rt := Q } [some (.ref l), some (.int ((2 ^ (c + 1) : Nat) : Int)), y2] H' := by
      refine ⟨_, (pss_cons (ps_set (i := 2) sc__law_some_ring.nd rfl (Or.inl rfl) (pe_call (ok__law_prime_for T) (hr.mono (by decide)) (by rfl) T.g__law_prime_for T.F__law_prime_for.kp T.b__law_prime_for .nil pass0 (pa_cons (pv 0) (pa_cons (pv 1) pa_nil))))
      (pss_one (ps_ret (pe_tup (pa_cons (pv 1) (pa_cons (pv 2) (pa_cons (pe_call (ok__law_root T) (hr.mono (by decide)) (by rfl) T.g__law_root T.F__law_root.kp T.b__law_root .nil pass0 (pa_cons (pv 0) (pa_cons (pv 1) (pa_cons (pv 2) pa_nil)))) pa_nil))))))), fun H' c y2 c0 c1 k S' => ?_⟩
      refine ⟨_, rfl, _, rfl, l, s, c, 2 ^ (c + 1), rfl, c0, c1, rfl, S', fun v H1 k1 S1 g => ?_⟩
      obtain ⟨q, rfl, hP⟩ := g
      refine ⟨_, rfl, _, rfl, _, rfl, _, rfl, _, rfl, l, s, c, 2 ^ (c + 1), q, rfl, hP, S1, fun v H2 k2 S2 g => ?_⟩
      obtain ⟨r, rfl, hR⟩ := g
      have k3 := (k.trans k1).trans k2
      refine ⟨(by show 3 ≤ sizeLine; decide), fun p hp => qq _ _ (k3.trans (.of_same (same_upd hp))) (S2.same (same_upd hp)) ⟨p, c, 2 ^ (c + 1), q, r, rfl, S2.free k3 hp, upd_same, hP.rg hR⟩⟩
    obtain ⟨t3, d3, r3⟩ := R
    refine ⟨_, (pss_cons (ps_set (i := 1) sc__law_some_ring.nd rfl (Or.inl rfl) (pe_call (ok__law_pick T) (hr.mono (by decide)) (by rfl) T.g__law_pick T.F__law_pick.kp T.b__law_pick .nil pass0 (pa_cons (pv 0) (pa_cons (pe_lst (pa_cons pe_int (pa_cons pe_int (pa_cons pe_int (pa_cons pe_int (pa_cons pe_int (pa_cons pe_int (pa_cons pe_int (pa_cons pe_int pa_nil))))))))) pa_nil))))
      (pss_cons (ps_if (pt_cmpR op_eq (pe_call (ok__law_take T) (hr.mono (by decide)) (by rfl) T.g__law_take T.F__law_take.kp T.b__law_take .nil pass0 (pa_cons (pv 0) (pa_cons pe_int pa_nil))) pe_int (nomark _)) (pss_one (ps_set (i := 1) sc__law_some_ring.nd rfl (Or.inl rfl) (pe_call (ok__law_pick T) (hr.mono (by decide)) (by rfl) T.g__law_pick T.F__law_pick.kp T.b__law_pick .nil pass0 (pa_cons (pv 0) (pa_cons (pe_lst (pa_cons pe_int (pa_cons pe_int (pa_cons pe_int pa_nil)))) pa_nil))))) pss_nil)
      d3)), ?_⟩
    refine ⟨_, rfl, (by show 8 ≤ sizeLine; decide), fun p hp => ⟨l, s, p, _, rfl, upd_same, S.no hp, (by show 0 < 8; decide), (by show 8 ≤ 1000; decide), S.same (same_upd hp), fun v H1 k1 S1 g => ?_⟩⟩
    have k0 : Kp l H H1 := (Kp.of_same (same_upd hp)).trans k1
    obtain ⟨c, c0, c1, rfl⟩ : ∃ c : Nat, 2 ≤ c ∧ c ≤ 7 ∧ v = .int ((2 ^ (c + 1) : Nat) : Int) := by
      obtain ⟨i, hi⟩ := g
      have h8 : i < 8 := (List.getElem?_eq_some_iff.mp hi).1
      have : i = 0 ∨ i = 1 ∨ i = 2 ∨ i = 3 ∨ i = 4 ∨ i = 5 ∨ i = 6 ∨ i = 7 := by omega
      rcases this with rfl | rfl | rfl | rfl | rfl | rfl | rfl | rfl <;> cases hi
      · exact ⟨2, by decide, by decide, rfl⟩
      · exact ⟨2, by decide, by decide, rfl⟩
      · exact ⟨2, by decide, by decide, rfl⟩
      · exact ⟨2, by decide, by decide, rfl⟩
      · exact ⟨2, by decide, by decide, rfl⟩
      · exact ⟨3, by decide, by decide, rfl⟩
      · exact ⟨3, by decide, by decide, rfl⟩
      · exact ⟨4, by decide, by decide, rfl⟩
    refine ⟨_, rfl, l, s, 30, rfl, by decide, S1, fun v H2 k2 S2 g => ?_⟩
    obtain ⟨y, rfl, _, _⟩ := g
    refine ⟨rfl, _, rfl, ite2 (fun _ => ?_) fun _ => ?_⟩
    · refine ⟨_, rfl, (by show 3 ≤ sizeLine; decide), fun p hp => ⟨l, s, p, _, rfl, upd_same, S2.no hp, (by show 0 < 3; decide), (by show 3 ≤ 1000; decide), S2.same (same_upd hp), fun v H3 k3 S3 g => ?_⟩⟩
      have k4 : Kp l H H3 := ((k0.trans k2).trans (Kp.of_same (same_upd hp))).trans k3
      obtain ⟨i, hi⟩ := g
      have h3 : i < 3 := (List.getElem?_eq_some_iff.mp hi).1
      have : i = 0 ∨ i = 1 ∨ i = 2 := by omega
      rcases this with rfl | rfl | rfl <;> cases hi
      · exact r3 _ 5 _ (by decide) (by decide) k4 S3
      · exact r3 _ 6 _ (by decide) (by decide) k4 S3
      · exact r3 _ 7 _ (by decide) (by decide) k4 S3
    · exact r3 _ c _ c0 c1 (k0.trans k2) S2
/-! ### _law_two_rings -/
theorem Rg.minus {c n : Nat} {q r : Int} (h : Rg c n q r) : Rg c n q (q - r) := by
  have q0 := h.q0
  have h0 := h.c0
  have e : 2 ^ c = 2 * 2 ^ (c - 1) := by
    rw [Nat.mul_comm, ← Nat.pow_succ]
    exact congrArg (fun x => 2 ^ x) (by omega)
  have z := h.rt
  rw [e] at z
  refine h.pn.rg ?_
  rw [e]
  exact z.neg (Nat.pow_pos (by decide)) (by omega)
theorem Rg.square {c n : Nat} {q r : Int} (h : Rg c n q r) (h8 : 8 < n) : Rg (c - 1) (n / 2) q (r * r % q) := by
  have q0 := h.q0
  have qn := h.qn
  have hc := h.pn.cases
  have c3 : 3 ≤ c := by omega
  have e : 2 ^ c = 2 * 2 ^ (c - 1) := by
    rw [Nat.mul_comm, ← Nat.pow_succ]
    exact congrArg (fun x => 2 ^ x) (by omega)
  have z := h.rt
  rw [e] at z
  have en : n / 2 = 2 ^ (c - 1 + 1) := by
    rw [h.half]
    exact congrArg (fun x => 2 ^ x) (by omega)
  refine ⟨by omega, by have := h.c1; omega, en, q0, h.q1, h.nd, ?_, z.sq (by omega)⟩
  rcases hc with ⟨_, rfl⟩ | ⟨_, rfl⟩ | ⟨_, rfl⟩ | ⟨_, rfl⟩ | ⟨_, rfl⟩ | ⟨_, rfl⟩ <;> omega
/-- two rings at a list -/
def TwoR (H : Hp) : V → Hp → Prop := fun v H' => ∃ (p t1 t2 : Addr) (c1 n1 : Nat) (q1 r1 : Int) (c2 n2 : Nat) (q2 r2 : Int), v = .ref p ∧ H p = none ∧ H t1 = none ∧ H t2 = none ∧ H' p = some (.lst [.ref t1, .ref t2]) ∧ TupAt H' t1 n1 q1 r1 ∧ Rg c1 n1 q1 r1 ∧ TupAt H' t2 n2 q2 r2 ∧ Rg c2 n2 q2 r2
def sp_two : Sp := fun vs H Q _ => ∃ (l s : Addr), vs = [.ref l] ∧ Sto H l s ∧ Dr l s H (TwoR H) Q
theorem ok__law_two_rings (T : TX K mg) : FnOk P w K mg base CX0 7 (A K "_law_two_rings") (fdA K (A K "_law_two_rings")) ["_law_store"] sp_two := by
  refine T.F__law_two_rings.ok sc__law_two_rings (fun vs H Q E h => ?_) (fun cdv A0 outer s0 H vs Q E hr h => ?_)
  · obtain ⟨l, s, rfl, _⟩ := h
    rfl
  · obtain ⟨l, s, rfl, S, qq⟩ := h
    -- the end: return [one, other]
    have R6 : ∃ t3, PSs ((cxOf CX0 P w K mg base N__law_two_rings "_law_two_rings" (defScope s__law_two_rings) (A K "_law_two_rings") cdv A0 outer s0 H E).nox) ((defBody s__law_two_rings).drop 6) t3 ∧ ∀ (H' : Hp) (t1 t2 : Addr) (y3 : Option V) (c1 n1 : Nat) (q1 r1 : Int) (c2 n2 : Nat) (q2 r2 : Int), Kp l H H' → Sto H' l s → H t1 = none → H t2 = none → TupAt H' t1 n1 q1 r1 → Rg c1 n1 q1 r1 → TupAt H' t2 n2 q2 r2 → Rg c2 n2 q2 r2 →
        t3 { nx := fun _ H' => Q .non H', rt := Q } [some (.ref l), some (.ref t1), some (.ref t2), y3] H' := by
      refine ⟨_, (pss_one (ps_ret (pe_lst (pa_cons (pv 1) (pa_cons (pv 2) pa_nil))))), fun H' t1 t2 y3 c1 n1 q1 r1 c2 n2 q2 r2 k S' n1' n2' a1 R1 a2 R2 => ?_⟩
      refine ⟨_, rfl, _, rfl, (by show 2 ≤ sizeLine; decide), fun p hp => qq _ _ (k.trans (.of_same (same_upd hp))) (S'.same (same_upd hp)) ⟨p, t1, t2, c1, n1, q1, r1, c2, n2, q2, r2, rfl, S'.free k hp, n1', n2', upd_same, same_upd hp _ _ a1, R1, same_upd hp _ _ a2, R2⟩⟩
    obtain ⟨t6, d6, r6⟩ := R6
    have R5 : ∃ t3, PSs ((cxOf CX0 P w K mg base N__law_two_rings "_law_two_rings" (defScope s__law_two_rings) (A K "_law_two_rings") cdv A0 outer s0 H E).nox) ((defBody s__law_two_rings).drop 5) t3 ∧ ∀ (H' : Hp) (t1 t2 : Addr) (y3 : Int) (c1 n1 : Nat) (q1 r1 : Int) (c2 n2 : Nat) (q2 r2 : Int), Kp l H H' → Sto H' l s → H t1 = none → H t2 = none → TupAt H' t1 n1 q1 r1 → Rg c1 n1 q1 r1 → TupAt H' t2 n2 q2 r2 → Rg c2 n2 q2 r2 →
        t3 { nx := fun _ H' => Q .non H', rt := Q } [some (.ref l), some (.ref t1), some (.ref t2), some (.int y3)] H' := by
      refine ⟨_, (pss_cons (ps_if (PW.pt (pw_and (pt_cmpR op_eq (pv 3) pe_int (nomark _)) (pw_and1 (pt_cmpR op_gt (pe_ix ix_tup (pv 1) pe_int (fun _ _ => rfl)) pe_int (nomark _))))) (pss_one (ps_set (i := 2) sc__law_two_rings.nd rfl (Or.inl rfl) (pe_tup (pa_cons (pe_op op_fdiv (pe_ix ix_tup (pv 1) pe_int (fun _ _ => rfl)) pe_int) (pa_cons (pe_ix ix_tup (pv 1) pe_int (fun _ _ => rfl)) (pa_cons (pe_op op_mod (pe_callTy call_int1 (by rfl) T.n_int (by decide +kernel) (pa_cons (pe_op op_mul (pe_ix ix_tup (pv 1) pe_int (fun _ _ => rfl)) (pe_ix ix_tup (pv 1) pe_int (fun _ _ => rfl))) pa_nil)) (pe_ix ix_tup (pv 1) pe_int (fun _ _ => rfl))) pa_nil)))))) pss_nil)
      d6), fun H' t1 t2 y3 c1 n1 q1 r1 c2 n2 q2 r2 k S' n1' n2' a1 R1 a2 R2 => ?_⟩
      refine ⟨_, rfl, rfl, _, rfl, ite2 (fun _ => ?_) fun _ => iteF ?_⟩
      · refine ⟨_, rfl, _, _, _, _, rfl, rfl, tq a1, rfl, _, _, rfl, rfl, _, rfl, ite2 (fun e => ?_) fun _ => ?_⟩
        · have e8 : (8 : Int) < n1 := of_decide_eq_true e
          have sb : -(2 ^ 64) < r1 ∧ r1 < 2 ^ 64 := by
            have := R1.r1
            have := R1.r2
            have := R1.q1
            exact ⟨by omega, by omega⟩
          have q0 := R1.q0
          refine ⟨_, rfl, _, _, _, _, rfl, rfl, tq a1, rfl, _, _, rfl, rfl, ⟨by decide, by decide⟩, _, rfl, _, _, _, _, rfl, rfl, tq a1, rfl, ?_⟩
          refine ⟨_, rfl, _, _, _, _, rfl, rfl, tq a1, rfl, _, rfl, _, _, _, _, rfl, rfl, tq a1, rfl, _, _, rfl, rfl, .inl sb, .inl ⟨_, rfl, _, rfl, _, _, _, _, rfl, rfl, tq a1, rfl, _, _, rfl, rfl, by show 0 < q1; omega, (by show 3 ≤ sizeLine; decide), fun p hp => ?_⟩⟩
          exact r6 _ t1 p _ c1 n1 q1 r1 (c1 - 1) (n1 / 2) q1 _ (k.trans (.of_same (same_upd hp))) (S'.same (same_upd hp)) n1' (S'.free k hp) (same_upd hp _ _ a1) R1 upd_same (R1.square (by omega))
        · exact r6 _ _ _ _ _ _ _ _ _ _ _ _ k S' n1' n2' a1 R1 a2 R2
      · exact r6 _ _ _ _ _ _ _ _ _ _ _ _ k S' n1' n2' a1 R1 a2 R2
    obtain ⟨t5, d5, r5⟩ := R5
    have R4 : ∃ t3, PSs ((cxOf CX0 P w K mg base N__law_two_rings "_law_two_rings" (defScope s__law_two_rings) (A K "_law_two_rings") cdv A0 outer s0 H E).nox) ((defBody s__law_two_rings).drop 4) t3 ∧ ∀ (H' : Hp) (t1 t2 : Addr) (y3 : Int) (c1 n1 : Nat) (q1 r1 : Int) (c2 n2 : Nat) (q2 r2 : Int), Kp l H H' → Sto H' l s → H t1 = none → H t2 = none → TupAt H' t1 n1 q1 r1 → Rg c1 n1 q1 r1 → TupAt H' t2 n2 q2 r2 → Rg c2 n2 q2 r2 →
        t3 { nx := fun _ H' => Q .non H', rt := Q } [some (.ref l), some (.ref t1), some (.ref t2), some (.int y3)] H' := by
      refine ⟨_, (pss_cons (ps_if (pt_cmpR op_eq (pv 3) pe_int (nomark _)) (pss_one (ps_set (i := 2) sc__law_two_rings.nd rfl (Or.inl rfl) (pe_tup (pa_cons (pe_ix ix_tup (pv 1) pe_int (fun _ _ => rfl)) (pa_cons (pe_ix ix_tup (pv 1) pe_int (fun _ _ => rfl)) (pa_cons (pe_call (ok__law_root T) (hr.mono (by decide)) (by rfl) T.g__law_root T.F__law_root.kp T.b__law_root .nil pass0 (pa_cons (pv 0) (pa_cons (pe_ix ix_tup (pv 1) pe_int (fun _ _ => rfl)) (pa_cons (pe_ix ix_tup (pv 1) pe_int (fun _ _ => rfl)) pa_nil)))) pa_nil)))))) pss_nil)
      d5), fun H' t1 t2 y3 c1 n1 q1 r1 c2 n2 q2 r2 k S' n1' n2' a1 R1 a2 R2 => ?_⟩
      refine ⟨_, rfl, rfl, _, rfl, ite2 (fun _ => ?_) fun _ => ?_⟩
      · refine ⟨_, rfl, _, _, _, _, rfl, rfl, tq a1, rfl, _, rfl, _, _, _, _, rfl, rfl, tq a1, rfl, ?_⟩
        have n1l : t1 ≠ l := fun z => by
          obtain ⟨o, ho⟩ := S.some_l
          rw [z, ho] at n1'
          cases n1'
        refine ⟨_, rfl, _, rfl, _, _, _, _, rfl, rfl, tq a1, rfl, _, rfl, _, _, _, _, rfl, rfl, tq a1, rfl, l, s, c1, n1, q1, rfl, R1.pn, S', fun v H2 k2 S2 g => ?_⟩
        obtain ⟨r, rfl, hR⟩ := g
        have k3 := k.trans k2
        have a1' : TupAt H2 t1 n1 q1 r1 := k2 _ _ n1l a1
        exact ⟨(by show 3 ≤ sizeLine; decide), fun p hp => r5 _ t1 p _ c1 n1 q1 r1 c1 n1 q1 r (k3.trans (.of_same (same_upd hp))) (S2.same (same_upd hp)) n1' (S2.free k3 hp) (same_upd hp _ _ a1') R1 upd_same (R1.pn.rg hR)⟩
      · exact r5 _ _ _ _ _ _ _ _ _ _ _ _ k S' n1' n2' a1 R1 a2 R2
    obtain ⟨t4, d4, r4⟩ := R4
    refine ⟨_, (pss_cons (ps_set (i := 1) sc__law_two_rings.nd rfl (Or.inl rfl) (pe_call (ok__law_some_ring T) (hr.mono (by decide)) (by rfl) T.g__law_some_ring T.F__law_some_ring.kp T.b__law_some_ring .nil pass0 (pa_cons (pv 0) pa_nil)))
      (pss_cons (ps_set (i := 2) sc__law_two_rings.nd rfl (Or.inl rfl) (pe_call (ok__law_some_ring T) (hr.mono (by decide)) (by rfl) T.g__law_some_ring T.F__law_some_ring.kp T.b__law_some_ring .nil pass0 (pa_cons (pv 0) pa_nil)))
      (pss_cons (ps_set (i := 3) sc__law_two_rings.nd rfl (Or.inl rfl) (pe_call (ok__law_take T) (hr.mono (by decide)) (by rfl) T.g__law_take T.F__law_take.kp T.b__law_take .nil pass0 (pa_cons (pv 0) (pa_cons pe_int pa_nil))))
      (pss_cons (ps_if (pt_cmpR op_eq (pv 3) pe_int (nomark _)) (pss_one (ps_set (i := 2) sc__law_two_rings.nd rfl (Or.inl rfl) (pe_tup (pa_cons (pe_ix ix_tup (pv 1) pe_int (fun _ _ => rfl)) (pa_cons (pe_ix ix_tup (pv 1) pe_int (fun _ _ => rfl)) (pa_cons (pe_op op_sub (pe_ix ix_tup (pv 1) pe_int (fun _ _ => rfl)) (pe_ix ix_tup (pv 1) pe_int (fun _ _ => rfl))) pa_nil)))))) pss_nil)
      d4)))), ?_⟩
    refine ⟨_, rfl, l, s, rfl, S, fun v H1 k1 S1 g => ?_⟩
    obtain ⟨p1, c1, n1, q1, r1, rfl, np1, a1, R1⟩ := g
    refine ⟨_, rfl, l, s, rfl, S1, fun v H2 k2 S2 g => ?_⟩
    obtain ⟨p2, c2, n2, q2, r2, rfl, np2, a2, R2⟩ := g
    have n1l : p1 ≠ l := fun z => by
      obtain ⟨o, ho⟩ := S.some_l
      rw [z, ho] at np1
      cases np1
    have a1' : TupAt H2 p1 n1 q1 r1 := k2 _ _ n1l a1
    have np2' : H p2 = none := S1.free k1 np2
    refine ⟨_, rfl, l, s, 4, rfl, by decide, S2, fun v H3 k3 S3 g => ?_⟩
    obtain ⟨kd, rfl, _, _⟩ := g
    have n2l : p2 ≠ l := fun z => by
      obtain ⟨o, ho⟩ := S.some_l
      rw [z, ho] at np2'
      cases np2'
    have b1 : TupAt H3 p1 n1 q1 r1 := k3 _ _ n1l a1'
    have b2 : TupAt H3 p2 n2 q2 r2 := k3 _ _ n2l a2
    have k4 := (k1.trans k2).trans k3
    refine ⟨_, rfl, rfl, _, rfl, ite2 (fun _ => ?_) fun _ => ?_⟩
    · refine ⟨_, rfl, _, _, _, _, rfl, rfl, tq b1, rfl, _, rfl, _, _, _, _, rfl, rfl, tq b1, rfl, _, rfl, _, _, _, _, rfl, rfl, tq b1, rfl, _, rfl, _, _, _, _, rfl, rfl, tq b1, rfl, _, _, rfl, rfl, (by show 3 ≤ sizeLine; decide), fun p hp => ?_⟩
      exact r4 _ p1 p _ c1 n1 q1 r1 c1 n1 q1 _ (k4.trans (.of_same (same_upd hp))) (S3.same (same_upd hp)) np1 (S3.free k4 hp) (same_upd hp _ _ b1) R1 upd_same R1.minus
    · exact r4 _ _ _ _ _ _ _ _ _ _ _ _ k4 S3 np1 np2' b1 R1 b2 R2
end
end Kx
set_option Elab.async false
set_option linter.all false
set_option maxRecDepth 100000
set_option maxHeartbeats 4000000
/-! The layers: splitting finds the remainders, joining undoes it, products by pairs are products. Plain Lean. -/
namespace Kx
/-! ### turned numbers -/
def TT : Nat → List Nat
  | 0 => [0]
  | c + 1 => (TT c).map (fun x => 2 * x) ++ (TT c).map fun x => 2 * x + 1
def tabT (c : Nat) : Bool := decide (TT c = (List.range (2 ^ c)).map fun i => bw i c)
theorem TT_eq {c : Nat} (h0 : 2 ≤ c) (h1 : c ≤ 7) : TT c = (List.range (2 ^ c)).map fun i => bw i c := by
  have : c = 2 ∨ c = 3 ∨ c = 4 ∨ c = 5 ∨ c = 6 ∨ c = 7 := by omega
  rcases this with rfl | rfl | rfl | rfl | rfl | rfl
  · exact of_decide_eq_true (show tabT 2 = true by decide +kernel)
  · exact of_decide_eq_true (show tabT 3 = true by decide +kernel)
  · exact of_decide_eq_true (show tabT 4 = true by decide +kernel)
  · exact of_decide_eq_true (show tabT 5 = true by decide +kernel)
  · exact of_decide_eq_true (show tabT 6 = true by decide +kernel)
  · exact of_decide_eq_true (show tabT 7 = true by decide +kernel)
theorem TT_len : ∀ c, (TT c).length = 2 ^ c
  | 0 => rfl
  | c + 1 => by
    show ((TT c).map (fun x => 2 * x) ++ (TT c).map fun x => 2 * x + 1).length = _
    rw [List.length_append, List.length_map, List.length_map, TT_len c, Nat.pow_succ]
    omega
/-- the exponents: the number of factor i of block b, to the half of the layer's length, is the block's z or its negative -/
def chkE (c : Nat) : Bool := (List.range c).all fun k => (List.range (2 ^ k)).all fun b => (Nat.ble 1 (bw (2 ^ k + b) c)) && (List.range (2 ^ (c - k))).all fun t =>
  Nat.beq ((2 * bw (b * 2 ^ (c - k) + t) c + 1) * 2 ^ (c - k - 1) % 2 ^ (c + 1)) ((bw (2 ^ k + b) c + (if Nat.blt t (2 ^ (c - k - 1)) = true then 0 else 2 ^ c)) % 2 ^ (c + 1))
theorem chkE_ok {c : Nat} (h0 : 2 ≤ c) (h1 : c ≤ 7) : chkE c = true := by
  have : c = 2 ∨ c = 3 ∨ c = 4 ∨ c = 5 ∨ c = 6 ∨ c = 7 := by omega
  rcases this with rfl | rfl | rfl | rfl | rfl | rfl <;> decide +kernel
theorem exp_of {c k b t : Nat} (h0 : 2 ≤ c) (h1 : c ≤ 7) (hk : k < c) (hb : b < 2 ^ k) (ht : t < 2 ^ (c - k)) :
    (2 * bw (b * 2 ^ (c - k) + t) c + 1) * 2 ^ (c - k - 1) % 2 ^ (c + 1) = (bw (2 ^ k + b) c + (if t < 2 ^ (c - k - 1) then 0 else 2 ^ c)) % 2 ^ (c + 1) := by
  have a := List.all_eq_true.mp (chkE_ok h0 h1) k (List.mem_range.mpr hk)
  have a2 := List.all_eq_true.mp a b (List.mem_range.mpr hb)
  have a3 := List.all_eq_true.mp (Bool.and_eq_true_iff.mp a2).2 t (List.mem_range.mpr ht)
  have a4 := Nat.eq_of_beq_eq_true a3
  rw [a4]
  by_cases z : t < 2 ^ (c - k - 1)
  · rw [if_pos z, if_pos (by rw [Nat.blt_eq]; exact z)]
  · rw [if_neg z, if_neg (by rw [Nat.blt_eq]; exact z)]
theorem bw_pos {c k b : Nat} (h0 : 2 ≤ c) (h1 : c ≤ 7) (hk : k < c) (hb : b < 2 ^ k) : 1 ≤ bw (2 ^ k + b) c := by
  have a := List.all_eq_true.mp (chkE_ok h0 h1) k (List.mem_range.mpr hk)
  have a2 := List.all_eq_true.mp a b (List.mem_range.mpr hb)
  have a3 := (Bool.and_eq_true_iff.mp a2).1
  rw [Nat.ble_eq] at a3
  exact a3
/-! ### powers of a root -/
theorem rt_full {c : Nat} {q r : Int} (h : Rt (2 ^ c) q r) : Cg q (r ^ 2 ^ (c + 1)) 1 := by
  rw [Nat.pow_succ, Nat.mul_comm, Nat.mul_comm, ← pow_pow]
  exact (h.2.2.pow 2).trans (.of_eq (by decide))
theorem pow_mod {q r : Int} {N : Nat} (h : Cg q (r ^ N) 1) (e : Nat) : Cg q (r ^ e) (r ^ (e % N)) := by
  have e1 : r ^ e = (r ^ N) ^ (e / N) * r ^ (e % N) := by
    rw [pow_pow, ← Int.pow_add, Nat.div_add_mod]
  rw [e1]
  refine ((h.pow (e / N)).mul (.refl _ _)).trans (.of_eq ?_)
  rw [Int.one_pow, Int.one_mul]
/-- the block's z -/
def zz (c : Nat) (q r : Int) (m : Nat) : Int := r ^ bw m c % q
theorem gi_half {c k b t : Nat} {q r : Int} (h0 : 2 ≤ c) (h1 : c ≤ 7) (h : Rt (2 ^ c) q r) (hk : k < c) (hb : b < 2 ^ k) (ht : t < 2 ^ (c - k)) :
    Cg q (gi c q r (b * 2 ^ (c - k) + t) ^ 2 ^ (c - k - 1)) (if t < 2 ^ (c - k - 1) then zz c q r (2 ^ k + b) else -zz c q r (2 ^ k + b)) := by
  have full := rt_full h
  have e := exp_of h0 h1 hk hb ht
  refine ((Cg.mod q _).pow _).trans ?_
  rw [pow_pow]
  refine (pow_mod full _).trans ?_
  rw [e]
  refine (pow_mod full _).symm.trans ?_
  rw [Int.pow_add]
  by_cases z : t < 2 ^ (c - k - 1)
  · rw [if_pos z, if_pos z, Int.pow_zero, Int.mul_one]
    exact (Cg.mod q _).symm
  · rw [if_neg z, if_neg z]
    refine (((Cg.mod q _).symm).mul h.2.2).trans (.of_eq ?_)
    show zz c q r (2 ^ k + b) * -1 = _
    grind
theorem gi_full {c i : Nat} {q r : Int} (h : Rt (2 ^ c) q r) : Cg q (gi c q r i ^ 2 ^ c) (-1) := by
  refine ((Cg.mod q _).pow _).trans ?_
  rw [pow_pow, Nat.mul_comm, ← pow_pow]
  exact (h.2.2.pow _).trans (.of_eq (neg_one_odd _))
/-! ### one layer -/
/-- item i, or 0 -/
def ati (f : List Int) (i : Nat) : Int := f.getD i 0
theorem ati_of {f : List Int} {i : Nat} {x : Int} (h : f[i]? = some x) : ati f i = x := by
  unfold ati
  rw [List.getD_eq_getElem?_getD, h]
  rfl
theorem ati_map {F : Nat → Int} {n i : Nat} (h : i < n) : ati ((List.range n).map F) i = F i := by
  refine ati_of ?_
  rw [List.getElem?_map, List.getElem?_range h]
  rfl
theorem get_ati {f : List Int} {i : Nat} (h : i < f.length) : f[i]? = some (ati f i) := by
  unfold ati
  rw [List.getD_eq_getElem?_getD, List.getElem?_eq_getElem h]
  rfl
theorem ext_ati {f g : List Int} (h : f.length = g.length) (e : ∀ i, i < f.length → ati f i = ati g i) : f = g := by
  refine List.ext_getElem? fun i => ?_
  by_cases hi : i < f.length
  · rw [get_ati hi, get_ati (by omega), e i hi]
  · rw [List.getElem?_eq_none (by omega), List.getElem?_eq_none (by omega)]
def splitL (q : Int) (z : Nat → Int) (L n : Nat) (f : List Int) : List Int := (List.range n).map fun i =>
  if i % (2 * L) < L then (ati f i + z (i / (2 * L)) * ati f (i + L)) % q else (ati f (i - L) - z (i / (2 * L)) * ati f i) % q
def SplitRel (q : Int) (z : Nat → Int) (L B : Nat) (f g : List Int) : Prop := ∀ b, b < B → ∀ j, j < L →
  ati g (2 * L * b + j) = (ati f (2 * L * b + j) + z b * ati f (2 * L * b + j + L)) % q ∧ ati g (2 * L * b + j + L) = (ati f (2 * L * b + j) - z b * ati f (2 * L * b + j + L)) % q
theorem place_lt {L B b j : Nat} (hb : b < B) (hj : j < 2 * L) : 2 * L * b + j < 2 * L * B := by
  have z : 2 * L * (b + 1) ≤ 2 * L * B := Nat.mul_le_mul_left _ hb
  rw [Nat.mul_succ] at z
  omega
theorem splitL_len {q : Int} {z : Nat → Int} {L n : Nat} {f : List Int} : (splitL q z L n f).length = n := by
  unfold splitL
  rw [List.length_map, List.length_range]
theorem splitL_rel {q : Int} {z : Nat → Int} {L B : Nat} {f : List Int} : SplitRel q z L B f (splitL q z L (2 * L * B) f) := by
  intro b hb j hj
  have hL : 0 < 2 * L := by omega
  constructor
  · unfold splitL
    rw [ati_map (place_lt hb (by omega)), Nat.mul_add_mod, Nat.mul_add_div hL, Nat.mod_eq_of_lt (by omega), Nat.div_eq_of_lt (by omega), if_pos hj, Nat.add_zero]
  · unfold splitL
    rw [Nat.add_assoc, ati_map (place_lt hb (by omega)), Nat.mul_add_mod, Nat.mul_add_div hL, Nat.mod_eq_of_lt (by omega), Nat.div_eq_of_lt (by omega), if_neg (by omega), Nat.add_zero, ← Nat.add_assoc, Nat.add_sub_cancel]
/-- every place is a low or a high one -/
theorem places {L B i : Nat} (h : i < 2 * L * B) : ∃ b j, b < B ∧ j < L ∧ (i = 2 * L * b + j ∨ i = 2 * L * b + j + L) := by
  have hL : 0 < 2 * L := by
    rcases Nat.eq_zero_or_pos (2 * L) with e | e
    · rw [e, Nat.zero_mul] at h
      omega
    · exact e
  have e := Nat.div_add_mod i (2 * L)
  have hm := Nat.mod_lt i hL
  have hb : i / (2 * L) < B := (Nat.div_lt_iff_lt_mul hL).mpr (by rw [Nat.mul_comm]; exact h)
  by_cases c : i % (2 * L) < L
  · exact ⟨i / (2 * L), i % (2 * L), hb, c, .inl e.symm⟩
  · exact ⟨i / (2 * L), i % (2 * L) - L, hb, by omega, .inr (by omega)⟩
theorem splitL_of {q : Int} {z : Nat → Int} {L B : Nat} {f g : List Int} (hl : g.length = 2 * L * B) (h : SplitRel q z L B f g) : g = splitL q z L (2 * L * B) f := by
  refine ext_ati (by rw [hl, splitL_len]) fun i hi => ?_
  rw [hl] at hi
  obtain ⟨b, j, hb, hj, e | e⟩ := places hi
  · rw [e, (h b hb j hj).1, (splitL_rel b hb j hj).1]
  · rw [e, (h b hb j hj).2, (splitL_rel b hb j hj).2]
theorem splitL_res {q : Int} {z : Nat → Int} {L n : Nat} {f : List Int} (hq : 0 < q) : ∀ x ∈ splitL q z L n f, 0 ≤ x ∧ x < q := by
  intro x hx
  unfold splitL at hx
  obtain ⟨i, _, rfl⟩ := List.mem_map.mp hx
  split <;> exact ⟨Int.emod_nonneg _ (by omega), Int.emod_lt_of_pos _ hq⟩
/-- joining -/
def JoinRel (q : Int) (half : Int) (bk : Nat → Int) (L B : Nat) (f g : List Int) : Prop := ∀ b, b < B → ∀ j, j < L →
  ati g (2 * L * b + j) = (ati f (2 * L * b + j) + ati f (2 * L * b + j + L)) * half % q ∧ ati g (2 * L * b + j + L) = (ati f (2 * L * b + j) - ati f (2 * L * b + j + L)) * bk b % q
theorem join_split {q half : Int} {z bk : Nat → Int} {L B : Nat} {f g : List Int} (hf : f.length = 2 * L * B) (hr : ∀ x ∈ f, 0 ≤ x ∧ x < q) (hh : 2 * half = q + 1) (hz : ∀ b, b < B → Cg q (2 * (z b * bk b)) 1)
    (hg : g.length = 2 * L * B) (h : JoinRel q half bk L B (splitL q z L (2 * L * B) f) g) : g = f := by
  have res : ∀ i, i < 2 * L * B → 0 ≤ ati f i ∧ ati f i < q := fun i hi => hr _ (List.mem_of_getElem? (get_ati (f := f) (i := i) (by omega)))
  refine ext_ati (by rw [hg, hf]) fun i hi => ?_
  rw [hg] at hi
  obtain ⟨b, j, hb, hj, e | e⟩ := places hi
  · have p := res _ hi
    rw [e] at p ⊢
    rw [(h b hb j hj).1, (splitL_rel b hb j hj).1, (splitL_rel b hb j hj).2]
    generalize ati f (2 * L * b + j) = x at p ⊢
    generalize ati f (2 * L * b + j + L) = y
    refine Cg.eq_of ?_ p.1 p.2
    refine ((((Cg.mod q (x + z b * y)).add (Cg.mod q (x - z b * y))).mul (.refl q half)).trans (.of_eq (b := x * (2 * half)) (by grind))).trans ?_
    rw [hh]
    exact ⟨x, by grind⟩
  · have p := res _ hi
    rw [e] at p ⊢
    rw [(h b hb j hj).2, (splitL_rel b hb j hj).1, (splitL_rel b hb j hj).2]
    generalize ati f (2 * L * b + j) = x
    generalize ati f (2 * L * b + j + L) = y at p ⊢
    refine Cg.eq_of ?_ p.1 p.2
    refine ((((Cg.mod q (x + z b * y)).sub (Cg.mod q (x - z b * y))).mul (.refl q (bk b))).trans (.of_eq (b := 2 * (z b * bk b) * y) (by grind))).trans ?_
    exact ((hz b hb).mul (.refl q y)).trans (.of_eq (Int.one_mul y))
/-! ### the layers, one behind the other -/
def rows (c : Nat) (q r : Int) (f : List Int) : Nat → List Int
  | 0 => f
  | k + 1 => splitL q (fun b => zz c q r (2 ^ k + b)) (2 ^ (c - k)) (2 ^ (c + 1)) (rows c q r f k)
theorem two_pow {c k : Nat} (h : k < c + 1) : 2 ^ (c + 1) = 2 * 2 ^ (c - k) * 2 ^ k := by
  rw [Nat.mul_comm 2, ← Nat.pow_succ, ← Nat.pow_add]
  exact congrArg (fun x => 2 ^ x) (by omega)
theorem rows_len {c : Nat} {q r : Int} {f : List Int} (h : f.length = 2 ^ (c + 1)) : ∀ k, (rows c q r f k).length = 2 ^ (c + 1)
  | 0 => h
  | k + 1 => splitL_len
theorem rows_res {c : Nat} {q r : Int} {f : List Int} (hq : 0 < q) (h : ∀ x ∈ f, 0 ≤ x ∧ x < q) : ∀ k, ∀ x ∈ rows c q r f k, 0 ≤ x ∧ x < q
  | 0 => h
  | k + 1 => splitL_res hq
/-- one layer keeps the value at each factor -/
theorem E_layer {g q z : Int} {m : Nat} {a lo : Nat → Int} (hz : Cg q (g ^ m) z) (h : ∀ j, j < 2 * m → Cg q (lo j) (a j + z * a (j + 2 * m))) : CgP q (E g (2 * m) lo) (E g (2 * (2 * m)) a) := by
  have e1 : E g (2 * (2 * m)) a = addp (E g (2 * m) a) (mulp g (xp g (2 * m)) (E g (2 * m) fun i => a (i + 2 * m))) := by
    rw [← E_split]
    exact congrArg (fun n => E g n a) (by omega)
  refine (E_cg h).trans ?_
  rw [E_add (fun j => a j) fun j => z * a (j + 2 * m), E_smul z fun j => a (j + 2 * m), e1, xp_even]
  refine (CgP.refl q _).addp (CgP.trans (CgP.smul hz.symm (.refl q _)) (.of_eq ?_))
  generalize (E g (2 * m) fun i => a (i + 2 * m)) = y
  obtain ⟨y1, y2⟩ := y
  simp only [smul, mulp, Prod.mk.injEq]
  grind
theorem rows_E {c : Nat} {q r : Int} {f : List Int} (h0 : 2 ≤ c) (h1 : c ≤ 7) (hR : Rt (2 ^ c) q r) : ∀ k, k ≤ c → ∀ b, b < 2 ^ k → ∀ t, t < 2 ^ (c - k) →
    CgP q (E (gi c q r (b * 2 ^ (c - k) + t)) (2 * 2 ^ (c - k)) fun j => ati (rows c q r f k) (2 * 2 ^ (c - k) * b + j)) (E (gi c q r (b * 2 ^ (c - k) + t)) (2 ^ (c + 1)) (ati f))
  | 0, _, b, hb, t, ht => by
    have eb : b = 0 := by
      have : b < 1 := hb
      omega
    subst eb
    refine .of_eq ?_
    have e1 : 2 * 2 ^ (c - 0) = 2 ^ (c + 1) := by rw [Nat.sub_zero, Nat.pow_succ, Nat.mul_comm]
    rw [e1]
    refine congrArg (fun a => E _ _ a) (funext fun j => ?_)
    rw [Nat.mul_zero, Nat.zero_add]
    rfl
  | k + 1, hk, b, hb, t, ht => by
    have hm : 2 ^ (c - k) = 2 * 2 ^ (c - (k + 1)) := by
      rw [Nat.mul_comm, ← Nat.pow_succ]
      exact congrArg (fun x => 2 ^ x) (by omega)
    have hb2 : b / 2 < 2 ^ k := by
      rw [Nat.pow_succ] at hb
      omega
    have full := two_pow (c := c) (k := k) (by omega)
    have rel := splitL_rel (q := q) (z := fun b => zz c q r (2 ^ k + b)) (L := 2 ^ (c - k)) (B := 2 ^ k) (f := rows c q r f k)
    rw [← full] at rel
    have gh := fun (t : Nat) (ht : t < 2 ^ (c - k)) => gi_half h0 h1 hR (show k < c by omega) hb2 ht
    have ih := rows_E (f := f) h0 h1 hR k (by omega) (b / 2) hb2
    have ek : c - k - 1 = c - (k + 1) := by omega
    rw [ek] at gh
    generalize hmm : 2 ^ (c - (k + 1)) = m at hm ht gh ⊢
    rw [hm] at rel ih gh
    by_cases ev : b % 2 = 0
    · -- the low half
      have ebt : b * m + t = b / 2 * (2 * m) + t := by
        rw [← Nat.mul_assoc, show b / 2 * 2 = b by omega]
      rw [ebt]
      have g1 := gh t (by omega)
      rw [if_pos ht] at g1
      refine CgP.trans ?_ (ih t (by omega))
      refine E_layer (z := zz c q r (2 ^ k + b / 2)) g1 fun j hj => ?_
      have e2 : 2 * m * b + j = 2 * (2 * m) * (b / 2) + j := by
        have : 2 * (2 * m) * (b / 2) = 2 * m * (2 * (b / 2)) := by rw [Nat.mul_comm 2 (2 * m), Nat.mul_assoc]
        rw [this, show 2 * (b / 2) = b by omega]
      rw [e2]
      show Cg q (ati (splitL q (fun b => zz c q r (2 ^ k + b)) (2 ^ (c - k)) (2 ^ (c + 1)) (rows c q r f k)) _) _
      rw [hm, (rel (b / 2) hb2 j hj).1, Nat.add_assoc]
      exact Cg.mod q _
    · have ebt : b * m + t = b / 2 * (2 * m) + (m + t) := by
        rw [← Nat.mul_assoc, ← Nat.add_assoc, ← Nat.succ_mul, show (b / 2 * 2).succ = b by omega]
      rw [ebt]
      have g1 := gh (m + t) (by omega)
      rw [if_neg (by omega)] at g1
      refine CgP.trans ?_ (ih (m + t) (by omega))
      refine E_layer (z := -zz c q r (2 ^ k + b / 2)) g1 fun j hj => ?_
      have e2 : 2 * m * b + j = 2 * (2 * m) * (b / 2) + j + 2 * m := by
        have : 2 * (2 * m) * (b / 2) = 2 * m * (2 * (b / 2)) := by rw [Nat.mul_comm 2 (2 * m), Nat.mul_assoc]
        rw [this, Nat.add_right_comm, ← Nat.mul_succ, show (2 * (b / 2)).succ = b by omega]
      rw [e2]
      show Cg q (ati (splitL q (fun b => zz c q r (2 ^ k + b)) (2 ^ (c - k)) (2 ^ (c + 1)) (rows c q r f k)) _) _
      rw [hm, (rel (b / 2) hb2 j hj).2, Nat.add_assoc]
      refine (Cg.mod q _).trans (.of_eq ?_)
      grind
/-! ### spectra -/
/-- pairs, one behind the other -/
def pl (p : Nat → Int × Int) : Nat → List Int
  | 0 => []
  | k + 1 => pl p k ++ [(p k).1, (p k).2]
theorem pl_len (p : Nat → Int × Int) : ∀ k, (pl p k).length = 2 * k
  | 0 => rfl
  | k + 1 => by
    show (pl p k ++ [(p k).1, (p k).2]).length = _
    rw [List.length_append, pl_len p k]
    rfl
theorem pl_get (p : Nat → Int × Int) : ∀ k i, i < k → (pl p k)[2 * i]? = some (p i).1 ∧ (pl p k)[2 * i + 1]? = some (p i).2
  | 0, i, h => by omega
  | k + 1, i, h => by
    show (pl p k ++ [(p k).1, (p k).2])[2 * i]? = _ ∧ (pl p k ++ [(p k).1, (p k).2])[2 * i + 1]? = _
    have hl := pl_len p k
    by_cases c : i < k
    · rw [List.getElem?_append_left (by omega), List.getElem?_append_left (by omega)]
      exact pl_get p k i c
    · have e : i = k := by omega
      subst e
      rw [List.getElem?_append_right (by omega), List.getElem?_append_right (by omega), hl, Nat.sub_self, show 2 * i + 1 - 2 * i = 1 by omega]
      exact ⟨rfl, rfl⟩
theorem pl_ext {p : Nat → Int × Int} {k : Nat} {g : List Int} (hl : g.length = 2 * k) (h : ∀ i, i < k → ati g (2 * i) = (p i).1 ∧ ati g (2 * i + 1) = (p i).2) : g = pl p k := by
  refine ext_ati (by rw [hl, pl_len]) fun i hi => ?_
  rw [hl] at hi
  have hg := pl_get p k (i / 2) (by omega)
  by_cases o : i % 2 = 0
  · rw [show i = 2 * (i / 2) by omega, (h (i / 2) (by omega)).1, ati_of hg.1]
  · rw [show i = 2 * (i / 2) + 1 by omega, (h (i / 2) (by omega)).2, ati_of hg.2]
theorem pl_congr {p p' : Nat → Int × Int} : ∀ {k : Nat}, (∀ i, i < k → p i = p' i) → pl p k = pl p' k
  | 0, _ => rfl
  | k + 1, h => by
    show pl p k ++ [(p k).1, (p k).2] = pl p' k ++ [(p' k).1, (p' k).2]
    rw [pl_congr fun i hi => h i (by omega), h k (by omega)]
/-- the residues of a pair -/
def modp (q : Int) (x : Int × Int) : Int × Int := (x.1 % q, x.2 % q)
theorem CgP.eq_mod {q : Int} {x y : Int × Int} (h : CgP q x y) : modp q x = modp q y := by
  unfold modp
  rw [h.1.eq_mod, h.2.eq_mod]
def rem (c : Nat) (q r : Int) (f : List Int) (i : Nat) : Int × Int := modp q (E (gi c q r i) (2 ^ (c + 1)) (ati f))
def spec (c : Nat) (q r : Int) (f : List Int) : List Int := pl (rem c q r f) (2 ^ c)
theorem spec_len (c : Nat) (q r : Int) (f : List Int) : (spec c q r f).length = 2 ^ (c + 1) := by
  unfold spec
  rw [pl_len, Nat.pow_succ, Nat.mul_comm]
theorem spec_at {c : Nat} {q r : Int} {f : List Int} {i : Nat} (h : i < 2 ^ c) : ati (spec c q r f) (2 * i) = (rem c q r f i).1 ∧ ati (spec c q r f) (2 * i + 1) = (rem c q r f i).2 :=
  ⟨ati_of (pl_get _ _ i h).1, ati_of (pl_get _ _ i h).2⟩
theorem rem_res {c : Nat} {q r : Int} {f : List Int} (hq : 0 < q) (i : Nat) : (0 ≤ (rem c q r f i).1 ∧ (rem c q r f i).1 < q) ∧ 0 ≤ (rem c q r f i).2 ∧ (rem c q r f i).2 < q :=
  ⟨⟨Int.emod_nonneg _ (by omega), Int.emod_lt_of_pos _ hq⟩, Int.emod_nonneg _ (by omega), Int.emod_lt_of_pos _ hq⟩
/-- the layers find the spectrum -/
theorem rows_spec {c : Nat} {q r : Int} {f : List Int} (h0 : 2 ≤ c) (h1 : c ≤ 7) (hq : 0 < q) (hR : Rt (2 ^ c) q r) (hf : f.length = 2 ^ (c + 1)) (hr : ∀ x ∈ f, 0 ≤ x ∧ x < q) : rows c q r f c = spec c q r f := by
  refine pl_ext (by rw [rows_len hf, Nat.pow_succ, Nat.mul_comm]) fun i hi => ?_
  have z := rows_E (f := f) h0 h1 hR c (Nat.le_refl c) i hi 0 (by rw [Nat.sub_self]; decide)
  rw [Nat.sub_self, Nat.pow_zero, Nat.mul_one, Nat.mul_one, Nat.add_zero, E_two] at z
  have len := rows_len (q := q) (r := r) hf c
  have h2 : 2 ^ (c + 1) = 2 * 2 ^ c := by rw [Nat.pow_succ, Nat.mul_comm]
  have r1 := rows_res (c := c) (r := r) hq hr c _ (List.mem_of_getElem? (get_ati (f := rows c q r f c) (i := 2 * i) (by omega)))
  have r2 := rows_res (c := c) (r := r) hq hr c _ (List.mem_of_getElem? (get_ati (f := rows c q r f c) (i := 2 * i + 1) (by omega)))
  exact ⟨(z.1.symm.eq_of r1.1 r1.2).symm, (z.2.symm.eq_of r2.1 r2.2).symm⟩
/-! ### products -/
/-- the product of two polynomials -/
def convL (q : Int) (n : Nat) (f h : List Int) : List Int := (List.range n).map fun t => conv (ati f) (ati h) n t % q
theorem convL_len {q : Int} {n : Nat} {f h : List Int} : (convL q n f h).length = n := by
  unfold convL
  rw [List.length_map, List.length_range]
theorem convL_res {q : Int} {n : Nat} {f h : List Int} (hq : 0 < q) : ∀ x ∈ convL q n f h, 0 ≤ x ∧ x < q := by
  intro x hx
  unfold convL at hx
  obtain ⟨i, _, rfl⟩ := List.mem_map.mp hx
  exact ⟨Int.emod_nonneg _ (by omega), Int.emod_lt_of_pos _ hq⟩
theorem rem_conv {c : Nat} {q r : Int} {f h : List Int} (hR : Rt (2 ^ c) q r) (i : Nat) : rem c q r (convL q (2 ^ (c + 1)) f h) i = modp q (mulp (gi c q r i) (rem c q r f i) (rem c q r h i)) := by
  have hX : CgP q (xp (gi c q r i) (2 ^ (c + 1))) (-1, 0) := by
    rw [Nat.pow_succ, Nat.mul_comm, xp_even]
    exact ⟨gi_full hR, .refl _ _⟩
  have e1 : CgP q (E (gi c q r i) (2 ^ (c + 1)) (ati (convL q (2 ^ (c + 1)) f h))) (E (gi c q r i) (2 ^ (c + 1)) (conv (ati f) (ati h) (2 ^ (c + 1)))) := E_cg fun t ht => by
    unfold convL
    rw [ati_map ht]
    exact Cg.mod q _
  refine (e1.trans (E_conv (Nat.pow_pos (by decide)) hX)).eq_mod.trans (CgP.eq_mod ?_)
  exact CgP.mulp ⟨(Cg.mod q _).symm, (Cg.mod q _).symm⟩ ⟨(Cg.mod q _).symm, (Cg.mod q _).symm⟩
/-- the sum -/
def addL (q : Int) (n : Nat) (f h : List Int) : List Int := (List.range n).map fun t => (ati f t + ati h t) % q
theorem addL_len {q : Int} {n : Nat} {f h : List Int} : (addL q n f h).length = n := by
  unfold addL
  rw [List.length_map, List.length_range]
theorem addL_res {q : Int} {n : Nat} {f h : List Int} (hq : 0 < q) : ∀ x ∈ addL q n f h, 0 ≤ x ∧ x < q := by
  intro x hx
  unfold addL at hx
  obtain ⟨i, _, rfl⟩ := List.mem_map.mp hx
  exact ⟨Int.emod_nonneg _ (by omega), Int.emod_lt_of_pos _ hq⟩
theorem spec_add {c : Nat} {q r : Int} {f h : List Int} : spec c q r (addL q (2 ^ (c + 1)) f h) = addL q (2 ^ (c + 1)) (spec c q r f) (spec c q r h) := by
  refine (pl_ext (by rw [addL_len, Nat.pow_succ, Nat.mul_comm]) fun i hi => ?_).symm
  have e1 : CgP q (E (gi c q r i) (2 ^ (c + 1)) (ati (addL q (2 ^ (c + 1)) f h))) (addp (E (gi c q r i) (2 ^ (c + 1)) (ati f)) (E (gi c q r i) (2 ^ (c + 1)) (ati h))) := by
    rw [← E_add]
    refine E_cg fun t ht => ?_
    unfold addL
    rw [ati_map ht]
    exact Cg.mod q _
  have h2 : 2 ^ (c + 1) = 2 * 2 ^ c := by rw [Nat.pow_succ, Nat.mul_comm]
  have s1 := spec_at (c := c) (q := q) (r := r) (f := f) hi
  have s2 := spec_at (c := c) (q := q) (r := r) (f := h) hi
  constructor
  · unfold addL
    rw [ati_map (by omega), s1.1, s2.1]
    exact (((Cg.mod q _).add (Cg.mod q _)).trans e1.1.symm).eq_mod
  · unfold addL
    rw [ati_map (by omega), s1.2, s2.2]
    exact (((Cg.mod q _).add (Cg.mod q _)).trans e1.2.symm).eq_mod
end Kx
set_option Elab.async false
set_option linter.all false
set_option maxRecDepth 100000
set_option maxHeartbeats 4000000
/-! Loops over enumerate, reversed; comprehensions over zip. -/
namespace Kx
open PySem PySem.Spec PyProof.Rows L2
theorem for_enum {K : PySem.W.Frag} {a : Addr} {xs : List V} {g : TG} {tb : TS} {D : Ends} {σ : L2.St} {H : Hp} (Pv : Nat → L2.St → Hp → Prop) (h0 : Pv 0 σ H) (hl : ∀ i σ H, i ≤ xs.length → Pv i σ H → SqL K H a xs)
    (hs : ∀ i x T σ H, xs[i]? = some x → Pv i σ H → H T = none → g (.ref T) σ (upd H T (.tup [.int (i : Nat), x])) fun σ2 H2 => tb { D with nx := Pv (i + 1), ct := Pv (i + 1), bk := D.nx } σ2 H2) (hd : ∀ σ H, Pv xs.length σ H → D.nx σ H) :
    ∃ W : Nat → Nat → L2.St → Hp → Prop, (∃ m, W 0 m σ H) ∧ ∀ i m σ H, W i m σ H →
      ((Ite K a).stop i H ∧ D.nx σ H) ∨ ((Ite K a).go i H ∧ ∃ N : L2.St → Hp → Prop, (∀ σ' H', N σ' H' → ∃ m', m' < m ∧ W (i + 1) m' σ' H') ∧ ∀ x H', (Ite K a).yld i H x H' → g x σ H' fun σ2 H2 => tb { D with nx := N, ct := N, bk := D.nx } σ2 H2) := by
  refine ⟨fun i m σ H => m = xs.length - i ∧ i ≤ xs.length ∧ Pv i σ H, ⟨_, rfl, Nat.zero_le _, h0⟩, ?_⟩
  rintro i m σ H ⟨rfl, hi, p⟩
  have q := hl i σ H hi p
  by_cases hlt : i < xs.length
  · have hx : xs[i]? = some xs[i] := List.getElem?_eq_getElem hlt
    refine .inr ⟨⟨xs, xs[i], q, hx⟩, Pv (i + 1), fun σ' H' p' => ⟨xs.length - (i + 1), by omega, rfl, hlt, p'⟩, fun v H' y => ?_⟩
    obtain ⟨T, x, rfl, hT, rfl, hz⟩ := y
    exact hs i x T σ H (hz xs q) p hT
  · have e : i = xs.length := by omega
    subst e
    exact .inl ⟨⟨xs, q, Nat.le_refl _⟩, hd σ H p⟩
theorem for_rev {K : PySem.W.Frag} {a : Addr} {xs : List V} {g : TG} {tb : TS} {D : Ends} {σ : L2.St} {H : Hp} (Pv : Nat → L2.St → Hp → Prop) (h0 : Pv 0 σ H) (hl : ∀ i σ H, i ≤ xs.length → Pv i σ H → SqL K H a xs)
    (hs : ∀ i x σ H, i < xs.length → xs[xs.length - 1 - i]? = some x → Pv i σ H → g x σ H fun σ2 H2 => tb { D with nx := Pv (i + 1), ct := Pv (i + 1), bk := D.nx } σ2 H2) (hd : ∀ σ H, Pv xs.length σ H → D.nx σ H) :
    ∃ W : Nat → Nat → L2.St → Hp → Prop, (∃ m, W 0 m σ H) ∧ ∀ i m σ H, W i m σ H →
      ((Itv K a xs.length).stop i H ∧ D.nx σ H) ∨ ((Itv K a xs.length).go i H ∧ ∃ N : L2.St → Hp → Prop, (∀ σ' H', N σ' H' → ∃ m', m' < m ∧ W (i + 1) m' σ' H') ∧ ∀ x H', (Itv K a xs.length).yld i H x H' → g x σ H' fun σ2 H2 => tb { D with nx := N, ct := N, bk := D.nx } σ2 H2) := by
  refine ⟨fun i m σ H => m = xs.length - i ∧ i ≤ xs.length ∧ Pv i σ H, ⟨_, rfl, Nat.zero_le _, h0⟩, ?_⟩
  rintro i m σ H ⟨rfl, hi, p⟩
  have q := hl i σ H hi p
  by_cases hlt : i < xs.length
  · refine .inr ⟨⟨hlt, xs, _, q, List.getElem?_eq_getElem (by omega)⟩, Pv (i + 1), fun σ' H' p' => ⟨xs.length - (i + 1), by omega, rfl, hlt, p'⟩, fun v H' y => ?_⟩
    obtain ⟨rfl, hz⟩ := y
    exact hs i v σ H' hlt (hz xs q) p
  · have e : i = xs.length := by omega
    subst e
    exact .inl ⟨Nat.le_refl _, hd σ H p⟩
theorem lc_zip {K : PySem.W.Frag} {a b : Addr} {xs ys : List V} {g : TG} {tt : L2.TT} {te : TE} {vs : List Nat} {σ : L2.St} {H1 : Hp} {D : Addr} {Qd : Hp → Prop} (hlen : xs.length = ys.length) (Pv : Nat → Hp → Prop) (h0 : Pv 0 (upd H1 D (.lst []))) (hl : ∀ i H, i ≤ xs.length → Pv i H → SqL K H a xs ∧ SqL K H b ys)
    (hs : ∀ i x y T H, xs[i]? = some x → ys[i]? = some y → Pv i H → H T = none → g (.ref T) (wipe σ vs) (upd H T (.tup [x, y])) fun σ2 H2 => wipe σ2 vs = wipe σ vs ∧ tt σ2 H2 fun b H3 =>
      if b = true then te σ2 H3 fun y H4 => ∃ acc, H4 D = some (.lst acc) ∧ acc.length < sizeLine ∧ Pv (i + 1) (upd H4 D (.lst (acc ++ [y]))) else Pv (i + 1) H3) (hd : ∀ H, Pv xs.length H → Qd H) :
    ∃ W : Nat → Nat → Hp → Prop, (∃ m, W 0 m (upd H1 D (.lst []))) ∧ ∀ i m H, W i m H →
      ((Itz K a b).stop i H ∧ Qd H) ∨ ((Itz K a b).go i H ∧ ∃ Nx : Hp → Prop, (∀ H', Nx H' → ∃ m', m' < m ∧ W (i + 1) m' H') ∧ ∀ x H', (Itz K a b).yld i H x H' → g x (wipe σ vs) H' fun σ2 H2 => wipe σ2 vs = wipe σ vs ∧ tt σ2 H2 fun b H3 =>
        if b = true then te σ2 H3 fun y H4 => ∃ acc, H4 D = some (.lst acc) ∧ acc.length < sizeLine ∧ Nx (upd H4 D (.lst (acc ++ [y]))) else Nx H3) := by
  refine ⟨fun i m H => m = xs.length - i ∧ i ≤ xs.length ∧ Pv i H, ⟨_, rfl, Nat.zero_le _, h0⟩, ?_⟩
  rintro i m H ⟨rfl, hi, p⟩
  obtain ⟨qx, qy⟩ := hl i H hi p
  by_cases hlt : i < xs.length
  · refine .inr ⟨⟨xs, ys, _, _, qx, qy, List.getElem?_eq_getElem hlt, List.getElem?_eq_getElem (by omega)⟩, Pv (i + 1), fun H' p' => ⟨xs.length - (i + 1), by omega, rfl, hlt, p'⟩, fun v H' y => ?_⟩
    obtain ⟨T, x, z, rfl, hT, rfl, hx, hy⟩ := y
    exact hs i x z T H (hx xs qx) (hy ys qy) p hT
  · have e : i = xs.length := by omega
    subst e
    exact .inl ⟨⟨xs, ys, qx, qy, .inl (Nat.le_refl _)⟩, hd H p⟩
end Kx
set_option Elab.async false
set_option linter.all false
set_option maxRecDepth 100000
set_option maxHeartbeats 4000000
/-! transform.py: checks, lengths, turned numbers, powers. -/
namespace Kx
open PySem PySem.Spec PyProof.Rows L2
/-- naturals as ints -/
def nl (l : List Nat) : List Int := l.map fun (x : Nat) => (x : Int)
theorem nl_get {l : List Nat} {i x : Nat} (h : l[i]? = some x) : (nl l)[i]? = some (x : Int) := by
  unfold nl
  rw [List.getElem?_map, h]
  rfl
theorem nl_len (l : List Nat) : (nl l).length = l.length := List.length_map _
theorem nl_snoc (l : List Nat) (x : Nat) : IL (nl l) ++ [V.int (x : Int)] = IL (nl (l ++ [x])) := by
  simp [nl, IL]
def lens (c : Nat) : List Nat := (List.range c).map fun k => 2 ^ (c - k)
theorem at_last {l : List V} {x : V} (h : l[l.length - 1]? = some x) : atI l (-1) = some x := by
  have hl : 0 < l.length := by
    have := (List.getElem?_eq_some_iff.mp h).1
    omega
  unfold atI ixN
  rw [if_neg (by decide), if_pos (by omega), Option.bind_some, show ((-1 : Int) + (l.length : Int)).toNat = l.length - 1 by omega]
  exact h
section
variable {P : Program} {w : World} {K : PySem.W.Frag} {mg : Str → Option Value} {base : Heap}
theorem RingAt.same {H H' : Hp} {a : Addr} {n : Nat} {q r : Int} (h : RingAt K H a n q r) (s : Same H H') : RingAt K H' a n q r := by
  obtain ⟨dx, e⟩ := h
  exact ⟨dx, s _ _ e⟩
/-! ### check_residues, check_polynomial: good ones -/
def sp_cr (K : PySem.W.Frag) : Sp := fun vs H Q _ => ∃ (q : Int) (n : Nat) (a : Addr) (f : List Int), vs = [.int q, .int n, .ref a] ∧ SqL K H a (IL f) ∧ Poly n q f ∧ n ≤ 1000 ∧ ∀ H', Same H H' → Q .non H'
theorem ok_check_residues (T : TX K mg) : FnOk P w K mg base CX0 2 (A K "check_residues") (fdA K (A K "check_residues")) ["q", "count", "row"] (sp_cr K) := by
  refine T.F_check_residues.ok sc_check_residues (fun vs H Q E h => ?_) (fun cdv A0 outer s0 H vs Q E hr h => ?_)
  · obtain ⟨q, n, a, f, rfl, _⟩ := h
    rfl
  · obtain ⟨q, n, a, f, rfl, ha, hf, hn, qq⟩ := h
    refine ⟨_, (pss_cons (ps_if (pt_cmpR op_ne (pe_callB call_len_seq (by rfl) T.n_len (by decide +kernel) (pa_cons (pv 2) pa_nil)) (pv 1) (nomark _)) (pss_one ps_never) pss_nil)
      (pss_one (ps_for PassesOwn.never rfl (pi_enum (by rfl) T.n_enumerate (pa_cons (pv 2) pa_nil)) (pg_tup rfl (pgs_cons (pg_name (i := 3) sc_check_residues.nd rfl (Or.inl rfl)) (pgs_cons (pg_name (i := 4) sc_check_residues.nd rfl (Or.inl rfl)) pgs_nil))) (pss_one (ps_if (pt_not (pt_val (pe_call (ok_whole_between T) (hr.mono (by decide)) (by rfl) T.g_whole_between T.F_whole_between.kp T.b_whole_between .nil pass0 (pa_cons (pv 4) (pa_cons pe_int (pa_cons (pe_op op_sub (pv 0) pe_int) pa_nil)))))) (pss_one ps_never) pss_nil))))), ?_⟩
    refine ⟨_, rfl, _, _, rfl, .inl ha, _, rfl, rfl, _, rfl, ?_⟩
    have e0 : (decide (V.int ((IL f).length : Int) = V.int n)) = true := decide_eq_true (congrArg V.int (by rw [il_len, hf.1]))
    dsimp only
    rw [e0]
    refine iteF ⟨_, rfl, a, IL f, rfl, ha, for_enum (K := K) (a := a) (xs := IL f) (fun i σ H' => ∃ u3 u4 : Option V, σ = [some (.int q), some (.int n), some (.ref a), u3, u4] ∧ Same H H') ⟨none, none, rfl, .refl _⟩ (fun i σ H' _ ⟨_, _, _, s⟩ => s.seq ha) ?_ ?_⟩
    · rintro i x Tt σ H' hx ⟨u3, u4, rfl, sm⟩ hT
      rw [List.getElem?_map] at hx
      obtain ⟨z, hz, rfl⟩ := Option.map_eq_some_iff.mp hx
      have rz := hf.2 z (List.mem_of_getElem? hz)
      refine ⟨Tt, _, rfl, tq upd_same, rfl, _, _, rfl, _, [], rfl, rfl, ?_⟩
      refine ⟨_, rfl, _, rfl, _, _, rfl, rfl, .int z, "int", 0, q - 1, rfl, .int z, _, rfl, ?_⟩
      have e1 : inR 0 (q - 1) (.int z) = true := decide_eq_true ⟨by omega, by omega⟩
      dsimp only
      rw [e1]
      exact iteF ⟨_, _, rfl, sm.trans (same_upd hT)⟩
    · rintro σ H' ⟨u3, u4, rfl, sm⟩
      exact qq _ sm
def sp_cp (K : PySem.W.Frag) : Sp := fun vs H Q _ => ∃ (g a : Addr) (n : Nat) (q r : Int) (f : List Int), vs = [.ref g, .ref a] ∧ RingAt K H g n q r ∧ SqL K H a (IL f) ∧ Poly n q f ∧ n ≤ 1000 ∧ ∀ H', Same H H' → Q .non H'
theorem ok_check_polynomial (T : TX K mg) : FnOk P w K mg base CX0 3 (A K "check_polynomial") (fdA K (A K "check_polynomial")) ["ring", "poly"] (sp_cp K) := by
  refine T.F_check_polynomial.ok sc_check_polynomial (fun vs H Q E h => ?_) (fun cdv A0 outer s0 H vs Q E hr h => ?_)
  · obtain ⟨g, a, n, q, r, f, rfl, _⟩ := h
    rfl
  · obtain ⟨g, a, n, q, r, f, rfl, ⟨dx, hg⟩, ha, hf, hn, qq⟩ := h
    refine ⟨_, (pss_one (ps_expr (pe_call (ok_check_residues T) (hr.mono (by decide)) (by rfl) T.g_check_residues T.F_check_residues.kp T.b_check_residues .nil pass0 (pa_cons (pe_prop (pv 0) T.clRing T.p_q.choose_spec (ok_Ring_q T) (hr.mono (by decide)) T.b_Ring_q .nil pass0 rfl) (pa_cons (pe_prop (pv 0) T.clRing T.p_n.choose_spec (ok_Ring_n T) (hr.mono (by decide)) T.b_Ring_n .nil pass0 rfl) (pa_cons (pv 1) pa_nil)))))), ?_⟩
    refine ⟨_, rfl, g, dx, _, rfl, hg, g, dx, _, _, rfl, hg, rfl, _, rfl, g, dx, _, rfl, hg, g, dx, _, _, rfl, hg, rfl, _, rfl, q, n, a, f, rfl, ha, hf, hn, fun H' sm => ?_⟩
    exact qq _ sm
/-! ### layer_lengths -/
def sp_ll : Sp := fun vs H Q _ => ∃ c : Nat, vs = [.int ((2 ^ (c + 1) : Nat) : Int)] ∧ c ≤ 8 ∧ ∀ p H', Same H H' → H p = none → H' p = some (.lst (IL (nl (lens c)))) → Q (.ref p) H'
theorem half_pow (c k : Nat) (h : k < c) : ((2 ^ (c - k) : Nat) : Int) / 2 = ((2 ^ (c - (k + 1)) : Nat) : Int) := by
  have e : 2 ^ (c - k) = 2 * 2 ^ (c - (k + 1)) := by
    rw [Nat.mul_comm, ← Nat.pow_succ]
    exact congrArg (fun x => 2 ^ x) (by omega)
  omega
theorem ok_layer_lengths (T : TX K mg) : FnOk P w K mg base CX0 1 (A K "layer_lengths") (fdA K (A K "layer_lengths")) ["n"] sp_ll := by
  refine T.F_layer_lengths.ok sc_layer_lengths (fun vs H Q E h => ?_) (fun cdv A0 outer s0 H vs Q E hr h => ?_)
  · obtain ⟨c, rfl, _⟩ := h
    rfl
  · obtain ⟨c, rfl, hc, qq⟩ := h
    refine ⟨_, (pss_cons (ps_set (i := 1) sc_layer_lengths.nd rfl (Or.inl rfl) (pe_lst pa_nil))
      (pss_cons (ps_set (i := 2) sc_layer_lengths.nd rfl (Or.inl rfl) (pe_op op_fdiv (pv 0) pe_int))
      (pss_cons (ps_while PassesOwn.never (pt_cmpR op_ge (pv 2) pe_int (nomark _)) (pss_cons (ps_expr (pe_bm PySem.F.plainAttrs_list PySem.F.slot_list_append PySem.F.type_list_append mt_append (pv 1) (pa_cons (pv 2) pa_nil)))
      (pss_one (ps_set (i := 2) sc_layer_lengths.nd rfl (Or.inl rfl) (pe_op op_fdiv (pv 2) pe_int)))))
      (pss_one (ps_ret (pv 1)))))), ?_⟩
    refine ⟨Nat.zero_le _, fun p hp => ?_⟩
    refine ⟨_, rfl, _, _, rfl, rfl, ⟨by decide, by decide⟩, ?_⟩
    refine ⟨fun m σ H' => ∃ k, k ≤ c ∧ m = c - k ∧ σ = [some (.int ((2 ^ (c + 1) : Nat) : Int)), some (.ref p), some (.int ((2 ^ (c - k) : Nat) : Int))] ∧ Same H H' ∧ H' p = some (.lst (IL (nl ((lens c).take k)))), ⟨c, 0, Nat.zero_le _, rfl, ?_, same_upd hp, upd_same⟩, ?_⟩
    · have e : ((2 ^ (c + 1) : Nat) : Int) / 2 = ((2 ^ (c - 0) : Nat) : Int) := by
        have := half_pow (c + 1) 0 (by omega)
        rw [Nat.sub_zero] at this
        rw [this]
        exact congrArg (fun x : Nat => ((2 ^ x : Nat) : Int)) (by omega)
      rw [← e]
      rfl
    · rintro m σ H' ⟨k, hk, rfl, rfl, sm, hl⟩
      refine ⟨_, rfl, _, _, rfl, rfl, _, rfl, ite2 (fun e => ?_) fun e => ?_⟩
      · have e1 : (2 : Int) ≤ ((2 ^ (c - k) : Nat) : Int) := of_decide_eq_true e
        have hk2 : k < c := by
          by_cases z : k < c
          · exact z
          · exfalso
            have : c - k = 0 := by omega
            rw [this] at e1
            exact absurd e1 (by decide)
        have hget : (lens c)[k]? = some (2 ^ (c - k)) := by
          unfold lens
          rw [List.getElem?_map, List.getElem?_range hk2]
          rfl
        refine ⟨fun σ' H'' => σ' = [some (.int ((2 ^ (c + 1) : Nat) : Int)), some (.ref p), some (.int ((2 ^ (c - (k + 1)) : Nat) : Int))] ∧ Same H H'' ∧ H'' p = some (.lst (IL (nl ((lens c).take (k + 1))))), fun σ' H'' z => ⟨c - (k + 1), by omega, k + 1, hk2, rfl, z⟩, ?_⟩
        refine ⟨_, rfl, .inl ⟨rfl, _, lq hl⟩, _, rfl, p, _, _, rfl, rfl, hl, line_lt ?_, ?_⟩
        · rw [il_len, nl_len, List.length_take]
          exact Nat.le_trans (Nat.min_le_left _ _) (by omega)
        · refine ⟨_, rfl, _, _, rfl, rfl, ⟨by decide, by decide⟩, ?_, fun b o e => ?_, ?_⟩
          · rw [← half_pow c k hk2]
            rfl
          · rw [upd_ne (ne_of_none e hp)]
            exact sm _ _ e
          · rw [upd_same, List.take_add_one, hget]
            exact congrArg (fun z => some (HO.lst z)) (nl_snoc _ _)
      · have hk2 : k = c := by
          by_cases z : k < c
          · exfalso
            refine e (decide_eq_true ?_)
            have : 2 ^ 1 ≤ 2 ^ (c - k) := Nat.pow_le_pow_right (by decide) (by omega)
            omega
          · omega
        subst hk2
        refine ⟨_, rfl, qq p H' sm hp ?_⟩
        rw [hl, List.take_of_length_le (by unfold lens; rw [List.length_map, List.length_range]; exact Nat.le_refl _)]
/-! ### turned_numbers -/
def sp_tn : Sp := fun vs H Q _ => ∃ c : Nat, vs = [.int ((2 ^ (c + 1) : Nat) : Int)] ∧ c ≤ 8 ∧ ∀ p H', Same H H' → H p = none → H' p = some (.lst (IL (nl (TT c)))) → Q (.ref p) H'
theorem ok_turned_numbers (T : TX K mg) : FnOk P w K mg base CX0 1 (A K "turned_numbers") (fdA K (A K "turned_numbers")) ["n"] sp_tn := by
  refine T.F_turned_numbers.ok sc_turned_numbers (fun vs H Q E h => ?_) (fun cdv A0 outer s0 H vs Q E hr h => ?_)
  · obtain ⟨c, rfl, _⟩ := h
    rfl
  · obtain ⟨c, rfl, hc, qq⟩ := h
    have ehalf : ((2 ^ (c + 1) : Nat) : Int) / 2 = ((2 ^ c : Nat) : Int) := by
      rw [Nat.pow_succ]
      omega
    have l256 : ∀ k, k ≤ c → 2 ^ k ≤ 256 := fun k hk => Nat.le_trans (Nat.pow_le_pow_right (by decide) (by omega : k ≤ 8)) (by decide)
    refine ⟨_, (pss_cons (ps_set (i := 1) sc_turned_numbers.nd rfl (Or.inl rfl) (pe_lst (pa_cons pe_int pa_nil)))
      (pss_cons (ps_while PassesOwn.never (pt_cmpR op_lt (pe_callB call_len_seq (by rfl) T.n_len (by decide +kernel) (pa_cons (pv 1) pa_nil)) (pe_op op_fdiv (pv 0) pe_int) (nomark _)) (pss_one (ps_set (i := 1) sc_turned_numbers.nd rfl (Or.inl rfl) (pe_op op_cat (pe_lc (own := [("number", 2)]) (g := gName 2) (tt := tYes) rfl sc_turned_numbers.nd (pi_list (pv 1)) (blkOk_by (N := N_turned_numbers) (sc := defScope s_turned_numbers) (by decide +kernel)) (fun _ _ _ _ _ => pg_name (i := 2) sc_turned_numbers.nd rfl (Or.inl rfl)) (fun _ _ _ _ _ => pts_nil) (fun _ _ _ _ _ => (pe_op op_mul pe_int (pv 2)))) (pe_lc (own := [("number", 2)]) (g := gName 2) (tt := tYes) rfl sc_turned_numbers.nd (pi_list (pv 1)) (blkOk_by (N := N_turned_numbers) (sc := defScope s_turned_numbers) (by decide +kernel)) (fun _ _ _ _ _ => pg_name (i := 2) sc_turned_numbers.nd rfl (Or.inl rfl)) (fun _ _ _ _ _ => pts_nil) (fun _ _ _ _ _ => (pe_op op_add (pe_op op_mul pe_int (pv 2)) pe_int)))))))
      (pss_one (ps_ret (pv 1))))), ?_⟩
    refine ⟨(by show 1 ≤ sizeLine; decide), fun p hp => ?_⟩
    refine ⟨fun m σ H' => ∃ k p y2, k ≤ c ∧ m = c - k ∧ σ = [some (.int ((2 ^ (c + 1) : Nat) : Int)), some (.ref p), y2] ∧ Same H H' ∧ H p = none ∧ H' p = some (.lst (IL (nl (TT k)))), ⟨c, 0, p, none, Nat.zero_le _, rfl, rfl, same_upd hp, hp, upd_same⟩, ?_⟩
    rintro m σ H' ⟨k, p, y2, hk, rfl, rfl, sm, hp0, hl⟩
    have hlen : (IL (nl (TT k))).length = 2 ^ k := by rw [il_len, nl_len, TT_len]
    refine ⟨_, rfl, _, _, rfl, .inl (lq hl), _, rfl, _, _, rfl, rfl, ⟨by decide, by decide⟩, _, _, rfl, rfl, _, rfl, ite2 (fun e => ?_) fun e => ?_⟩
    · have hk2 : k < c := by
        have e1 : ((IL (nl (TT k))).length : Int) < ((2 ^ (c + 1) : Nat) : Int) / 2 := of_decide_eq_true e
        rw [hlen, ehalf] at e1
        exact (Nat.pow_lt_pow_iff_right (by decide : 1 < 2)).mp (by omega)
      refine ⟨fun σ' H'' => ∃ p y2, σ' = [some (.int ((2 ^ (c + 1) : Nat) : Int)), some (.ref p), y2] ∧ Same H H'' ∧ H p = none ∧ H'' p = some (.lst (IL (nl (TT (k + 1))))), fun σ' H'' ⟨p, y2, z⟩ => ⟨c - (k + 1), by omega, k + 1, p, y2, hk2, rfl, z⟩, ?_⟩
      -- [2 * number ..]
      refine ⟨_, rfl, p, rfl, ⟨_, lq hl⟩, fun D1 hD1 => ?_⟩
      have a1 : ∀ i y, (TT k)[i]? = some y → (((TT k).take (i + 1)).map fun x => 2 * x) = ((TT k).take i).map (fun x => 2 * x) ++ [2 * y] := fun i y h => by
        rw [List.take_add_one, h, List.map_append]
        rfl
      have a2 : ∀ i y, (TT k)[i]? = some y → (((TT k).take (i + 1)).map fun x => 2 * x + 1) = ((TT k).take i).map (fun x => 2 * x + 1) ++ [2 * y + 1] := fun i y h => by
        rw [List.take_add_one, h, List.map_append]
        rfl
      have tk : ∀ (F : Nat → Nat) (i : Nat), (IL (nl (((TT k).take i).map F))).length < sizeLine := fun F i => line_lt (by
        rw [il_len, nl_len, List.length_map, List.length_take, TT_len]
        have := l256 k hk
        omega)
      refine lc_list (K := K) (a := p) (xs := IL (nl (TT k))) (fun i H2 => Same H' H2 ∧ H2 D1 = some (.lst (IL (nl (((TT k).take i).map fun x => 2 * x))))) ⟨same_upd hD1, upd_same⟩ (fun i H2 _ z => z.1.seq (lq hl)) ?_ ?_
      · rintro i x H2 hx ⟨s2, h2⟩
        rw [List.getElem?_map] at hx
        obtain ⟨z, hz, rfl⟩ := Option.map_eq_some_iff.mp hx
        unfold nl at hz
        rw [List.getElem?_map] at hz
        obtain ⟨y, hy, rfl⟩ := Option.map_eq_some_iff.mp hz
        refine ⟨rfl, _, rfl, _, _, rfl, rfl, .inl ⟨by decide, by decide⟩, _, h2, tk _ _, fun b o e => ?_, ?_⟩
        · rw [upd_ne (ne_of_none e hD1)]
          exact s2 _ _ e
        · rw [upd_same, a1 i y hy, ← nl_snoc]
          rfl
      · rintro H2 ⟨s2, h2⟩
        rw [List.take_of_length_le (by rw [il_len, nl_len]; exact Nat.le_refl _)] at h2
        -- [2 * number + 1 ..]
        refine ⟨_, rfl, p, rfl, ⟨_, s2.seq (lq hl)⟩, fun D2 hD2 => ?_⟩
        refine lc_list (K := K) (a := p) (xs := IL (nl (TT k))) (fun i H3 => Same H2 H3 ∧ H3 D2 = some (.lst (IL (nl (((TT k).take i).map fun x => 2 * x + 1))))) ⟨same_upd hD2, upd_same⟩ (fun i H3 _ z => z.1.seq (s2.seq (lq hl))) ?_ ?_
        · rintro i x H3 hx ⟨s3, h3⟩
          rw [List.getElem?_map] at hx
          obtain ⟨z, hz, rfl⟩ := Option.map_eq_some_iff.mp hx
          unfold nl at hz
          rw [List.getElem?_map] at hz
          obtain ⟨y, hy, rfl⟩ := Option.map_eq_some_iff.mp hz
          refine ⟨rfl, _, rfl, _, _, rfl, rfl, .inl ⟨by decide, by decide⟩, _, _, rfl, rfl, _, h3, tk _ _, fun b o e => ?_, ?_⟩
          · rw [upd_ne (ne_of_none e hD2)]
            exact s3 _ _ e
          · rw [upd_same, a2 i y hy, ← nl_snoc]
            rfl
        · rintro H3 ⟨s3, h3⟩
          rw [List.take_of_length_le (by rw [il_len, nl_len]; exact Nat.le_refl _)] at h3
          refine ⟨_, _, _, _, rfl, rfl, s3 _ _ h2, h3, line_of ?_, fun D3 hD3 => ?_⟩
          · rw [il_len, il_len, nl_len, nl_len, List.length_map, List.length_map, TT_len]
            have := l256 k hk
            omega
          · have hn : H D3 = none := sm.free (s2.free (s3.free hD3))
            refine ⟨D3, _, rfl, sm.trans (s2.trans (s3.trans (same_upd hD3))), hn, ?_⟩
            rw [upd_same]
            exact congrArg (fun z => some (HO.lst z)) (by show IL (nl _) ++ IL (nl _) = IL (nl ((TT k).map (fun x => 2 * x) ++ (TT k).map fun x => 2 * x + 1)); simp [nl, IL])
    · have hk2 : k = c := by
        by_cases z : k < c
        · exfalso
          refine e (decide_eq_true ?_)
          show ((IL (nl (TT k))).length : Int) < ((2 ^ (c + 1) : Nat) : Int) / 2
          rw [hlen, ehalf]
          have := Nat.pow_lt_pow_right (by decide : 1 < 2) z
          omega
        · omega
      subst hk2
      exact ⟨_, rfl, qq p H' sm hp0 hl⟩
/-! ### root_powers -/
def pws (q r : Int) (n : Nat) : List Int := (List.range n).map fun i => r ^ i % q
theorem pws_get {q r : Int} {n i : Nat} (h : i < n) : (pws q r n)[i]? = some (r ^ i % q) := by
  unfold pws
  rw [List.getElem?_map, List.getElem?_range h]
  rfl
theorem pws_len {q r : Int} {n : Nat} : (pws q r n).length = n := by
  unfold pws
  rw [List.length_map, List.length_range]
theorem pws_succ {q r : Int} {n : Nat} : pws q r (n + 1) = pws q r n ++ [r ^ n % q] := by
  unfold pws
  rw [List.range_succ, List.map_append]
  rfl
def sp_rp (K : PySem.W.Frag) : Sp := fun vs H Q _ => ∃ (g : Addr) (n : Nat) (q r : Int), vs = [.ref g] ∧ RingAt K H g n q r ∧ 1 ≤ n ∧ n ≤ 1000 ∧ 2 ≤ q ∧ q < 5000 ∧ ∀ p H', Same H H' → H p = none → H' p = some (.lst (IL (pws q r n))) → Q (.ref p) H'
theorem ok_root_powers (T : TX K mg) : FnOk P w K mg base CX0 3 (A K "root_powers") (fdA K (A K "root_powers")) ["ring"] (sp_rp K) := by
  refine T.F_root_powers.ok sc_root_powers (fun vs H Q E h => ?_) (fun cdv A0 outer s0 H vs Q E hr h => ?_)
  · obtain ⟨g, n, q, r, rfl, _⟩ := h
    rfl
  · obtain ⟨g, n, q, r, rfl, ⟨dx, hg⟩, n0, n1, q0, q1, qq⟩ := h
    refine ⟨_, (pss_cons (ps_set (i := 1) sc_root_powers.nd rfl (Or.inl rfl) (pe_prop (pv 0) T.clRing T.p_q.choose_spec (ok_Ring_q T) (hr.mono (by decide)) T.b_Ring_q .nil pass0 rfl))
      (pss_cons (ps_set (i := 2) sc_root_powers.nd rfl (Or.inl rfl) (pe_prop (pv 0) T.clRing T.p_root.choose_spec (ok_Ring_root T) (hr.mono (by decide)) T.b_Ring_root .nil pass0 rfl))
      (pss_cons (ps_set (i := 3) sc_root_powers.nd rfl (Or.inl rfl) (pe_lst (pa_cons pe_int pa_nil)))
      (pss_cons (ps_while PassesOwn.never (pt_cmpR op_lt (pe_callB call_len_seq (by rfl) T.n_len (by decide +kernel) (pa_cons (pv 3) pa_nil)) (pe_prop (pv 0) T.clRing T.p_n.choose_spec (ok_Ring_n T) (hr.mono (by decide)) T.b_Ring_n .nil pass0 rfl) (nomark _)) (pss_one (ps_expr (pe_bm PySem.F.plainAttrs_list PySem.F.slot_list_append PySem.F.type_list_append mt_append (pv 3) (pa_cons (pe_op op_mod (pe_op op_mul (pe_ix ix_list (pv 3) (pe_un un_neg pe_int) (fun _ _ => rfl)) (pv 2)) (pv 1)) pa_nil)))))
      (pss_one (ps_ret (pv 3))))))), ?_⟩
    refine ⟨_, rfl, g, dx, _, rfl, hg, g, dx, _, _, rfl, hg, rfl, ?_⟩
    refine ⟨_, rfl, g, dx, _, rfl, hg, g, dx, _, _, rfl, hg, rfl, ?_⟩
    refine ⟨(by show 1 ≤ sizeLine; decide), fun p hp => ?_⟩
    have e1 : (1 : Int) = r ^ 0 % q := by
      rw [Int.pow_zero]
      exact (Int.emod_eq_of_lt (by decide) (by omega)).symm
    refine ⟨fun m σ H' => ∃ k, 1 ≤ k ∧ k ≤ n ∧ m = n - k ∧ σ = [some (.ref g), some (.int q), some (.int r), some (.ref p)] ∧ Same H H' ∧ H' p = some (.lst (IL (pws q r k))), ⟨n - 1, 1, Nat.le_refl _, n0, rfl, rfl, same_upd hp, ?_⟩, ?_⟩
    · rw [upd_same]
      show some (HO.lst [V.int 1]) = some (HO.lst [V.int (r ^ 0 % q)])
      rw [← e1]
    · rintro m σ H' ⟨k, k0, hk, rfl, rfl, sm, hl⟩
      have hg' := sm _ _ hg
      refine ⟨_, rfl, _, _, rfl, .inl (lq hl), _, rfl, g, dx, _, rfl, hg', g, dx, _, _, rfl, hg', rfl, _, _, rfl, rfl, _, rfl, ite2 (fun e => ?_) fun e => ?_⟩
      · have hk2 : k < n := by
          have z : ((IL (pws q r k)).length : Int) < (n : Int) := of_decide_eq_true e
          rw [il_len, pws_len] at z
          omega
        refine ⟨fun σ' H'' => σ' = [some (.ref g), some (.int q), some (.int r), some (.ref p)] ∧ Same H H'' ∧ H'' p = some (.lst (IL (pws q r (k + 1)))), fun σ' H'' z => ⟨n - (k + 1), by omega, k + 1, by omega, hk2, rfl, z⟩, ?_⟩
        have hget : atI (IL (pws q r k)) (-1) = some (.int (r ^ (k - 1) % q)) := at_last (by
          rw [il_len, pws_len]
          exact il_get (pws_get (by omega)))
        have b0 : 0 ≤ r ^ (k - 1) % q := Int.emod_nonneg _ (by omega)
        have b1 : r ^ (k - 1) % q < q := Int.emod_lt_of_pos _ (by omega)
        refine ⟨_, rfl, .inl ⟨rfl, _, lq hl⟩, _, rfl, _, rfl, _, _, _, _, rfl, rfl, lq hl, hget, _, rfl, _, _, rfl, rfl, .inl ⟨by omega, by omega⟩, _, rfl, _, _, rfl, rfl, by show 0 < q; omega, p, _, _, rfl, rfl, hl, line_lt ?_, ?_⟩
        · rw [il_len, pws_len]
          omega
        · refine ⟨rfl, fun b o e => ?_, ?_⟩
          · rw [upd_ne (ne_of_none e hp)]
            exact sm _ _ e
          · rw [upd_same, pws_succ, ← il_app]
            have e2 : r ^ (k - 1) % q * r % q = r ^ k % q := by
              have z : r ^ k = r ^ (k - 1) * r := by
                rw [← Int.pow_succ]
                exact congrArg (fun x => r ^ x) (by omega)
              rw [z]
              exact ((Cg.mod q _).mul (.refl q r)).eq_mod
            rw [← e2]
            rfl
      · have hk2 : k = n := by
          by_cases z : k < n
          · exfalso
            refine e (decide_eq_true ?_)
            show ((IL (pws q r k)).length : Int) < (n : Int)
            rw [il_len, pws_len]
            omega
          · omega
        subst hk2
        exact ⟨_, rfl, qq p H' sm hp hl⟩
/-! ### factor_roots -/
def gis (c : Nat) (q r : Int) : List Int := (List.range (2 ^ c)).map (gi c q r)
def sp_fr (K : PySem.W.Frag) : Sp := fun vs H Q _ => ∃ (g : Addr) (c n : Nat) (q r : Int), vs = [.ref g] ∧ RingAt K H g n q r ∧ Rg c n q r ∧ ∀ p H', Same H H' → H p = none → H' p = some (.lst (IL (gis c q r))) → Q (.ref p) H'
theorem ok_factor_roots (T : TX K mg) : FnOk P w K mg base CX0 4 (A K "factor_roots") (fdA K (A K "factor_roots")) ["ring"] (sp_fr K) := by
  refine T.F_factor_roots.ok sc_factor_roots (fun vs H Q E h => ?_) (fun cdv A0 outer s0 H vs Q E hr h => ?_)
  · obtain ⟨g, c, n, q, r, rfl, _⟩ := h
    rfl
  · obtain ⟨g, c, n, q, r, rfl, hg0, hR, qq⟩ := h
    have hn := hR.n_eq
    have n0 := hR.n_lo
    have n1 := hR.n_hi
    have q0 := hR.q0
    have q1 := hR.q1
    have c0 := hR.c0
    have c1 := hR.c1
    have c128 : 2 ^ c ≤ 128 := Nat.le_trans (Nat.pow_le_pow_right (by decide) c1) (by decide)
    refine ⟨_, (pss_cons (ps_set (i := 1) sc_factor_roots.nd rfl (Or.inr rfl) (pe_call (ok_root_powers T) (hr.mono (by decide)) (by rfl) T.g_root_powers T.F_root_powers.kp T.b_root_powers .nil pass0 (pa_cons (pv 0) pa_nil)))
      (pss_one (ps_ret (pe_lc (own := [("number", 2)]) (g := gName 2) (tt := tYes) rfl sc_factor_roots.nd (pi_list (pe_call (ok_turned_numbers T) (hr.mono (by decide)) (by rfl) T.g_turned_numbers T.F_turned_numbers.kp T.b_turned_numbers .nil pass0 (pa_cons (pe_prop (pv 0) T.clRing T.p_n.choose_spec (ok_Ring_n T) (hr.mono (by decide)) T.b_Ring_n .nil pass0 rfl) pa_nil))) (blkOk_by (N := N_factor_roots) (sc := defScope s_factor_roots) (by decide +kernel)) (fun _ _ _ _ _ => pg_name (i := 2) sc_factor_roots.nd rfl (Or.inl rfl)) (fun _ _ _ _ _ => pts_nil) (fun _ _ _ _ _ => (pe_ix (r := rIxL K) ix_list (pv 1) (pe_op op_add (pe_op op_mul pe_int (pv 2)) pe_int) (fun _ _ => rfl))))))), ?_⟩
    refine ⟨_, rfl, g, n, q, r, rfl, hg0, by omega, by omega, by omega, by omega, fun p H1 s1 hp h1 => ?_⟩
    obtain ⟨dx, hg⟩ := hg0
    have hg1 := s1 _ _ hg
    refine ⟨_, rfl, g, dx, _, rfl, hg1, g, dx, _, _, rfl, hg1, rfl, c, by rw [hn]; rfl, by omega, fun p2 H2 s2 hp2 h2 => ?_⟩
    refine ⟨p2, rfl, ⟨_, lq h2⟩, fun D hD => ?_⟩
    rw [TT_eq c0 c1] at h2
    refine lc_list (K := K) (a := p2) (xs := IL (nl ((List.range (2 ^ c)).map fun i => bw i c))) (fun i H3 => Same H2 H3 ∧ H3 D = some (.lst (IL ((List.range i).map (gi c q r))))) ⟨same_upd hD, upd_same⟩ (fun i H3 _ z => z.1.seq (lq h2)) ?_ ?_
    · rintro i x H3 hx ⟨s3, h3⟩
      have hi : i < 2 ^ c := by
        have := (List.getElem?_eq_some_iff.mp hx).1
        rw [il_len, nl_len, List.length_map, List.length_range] at this
        exact this
      have hx2 : x = .int ((bw i c : Nat) : Int) := by
        have z := il_get (nl_get (l := (List.range (2 ^ c)).map fun i => bw i c) (i := i) (x := bw i c) (by rw [List.getElem?_map, List.getElem?_range hi]; rfl))
        exact Option.some.inj (hx.symm.trans z)
      subst hx2
      have hb := bw_lt i c
      have hidx : 2 * bw i c + 1 < n := by
        rw [hn, Nat.pow_succ]
        omega
      refine ⟨rfl, _, rfl, _, rfl, _, _, rfl, rfl, .inl ⟨by decide, by decide⟩, _, _, rfl, rfl, _, _, _, _, rfl, rfl, (s2.trans s3).seq (lq h1), at_il (j := 2 * bw i c + 1) (by omega) (pws_get hidx), _, h3, line_lt ?_, fun b o e => ?_, ?_⟩
      · rw [il_len, List.length_map, List.length_range]
        omega
      · rw [upd_ne (ne_of_none e hD)]
        exact s3 _ _ e
      · rw [upd_same, List.range_succ, List.map_append, ← il_app]
        rfl
    · rintro H3 ⟨s3, h3⟩
      rw [il_len, nl_len, List.length_map, List.length_range] at h3
      exact qq D H3 (s1.trans (s2.trans s3)) (s1.free (s2.free hD)) h3
end
end Kx
set_option Elab.async false
set_option linter.all false
set_option maxRecDepth 100000
set_option maxHeartbeats 4000000
/-! A row that is filled block by block. Plain Lean. -/
namespace Kx
theorem ati_set_ne {g : List Int} {i k : Nat} {v : Int} (h : k ≠ i) : ati (g.set i v) k = ati g k := by
  unfold ati
  rw [List.getD_eq_getElem?_getD, List.getD_eq_getElem?_getD, List.getElem?_set_ne (Ne.symm h)]
theorem ati_set_eq {g : List Int} {i : Nat} {v : Int} (h : i < g.length) : ati (g.set i v) i = v := ati_of (by rw [List.getElem?_set_self h])
structure Dn (L n : Nat) (F1 F2 : Nat → Nat → Int) (b j : Nat) (g : List Int) : Prop where
  len : g.length = n
  old : ∀ b' j', b' < b → j' < L → ati g (2 * L * b' + j') = F1 b' j' ∧ ati g (2 * L * b' + j' + L) = F2 b' j'
  cur : ∀ j', j' < j → ati g (2 * L * b + j') = F1 b j' ∧ ati g (2 * L * b + j' + L) = F2 b j'
theorem Dn.start {L n : Nat} {F1 F2 : Nat → Nat → Int} {g : List Int} (h : g.length = n) : Dn L n F1 F2 0 0 g := ⟨h, fun _ _ z => by omega, fun _ z => by omega⟩
theorem Dn.step {L n : Nat} {F1 F2 : Nat → Nat → Int} {b j : Nat} {g : List Int} (h : Dn L n F1 F2 b j g) (hj : j < L) (hn : 2 * L * b + j + L < n) : Dn L n F1 F2 b (j + 1) ((g.set (2 * L * b + j) (F1 b j)).set (2 * L * b + j + L) (F2 b j)) := by
  refine ⟨by rw [List.length_set, List.length_set]; exact h.len, fun b' j' hb hj' => ?_, fun j' hj' => ?_⟩
  · have z : 2 * L * b' + 2 * L ≤ 2 * L * b := by
      have := Nat.mul_le_mul_left (2 * L) (show b' + 1 ≤ b by omega)
      rw [Nat.mul_succ] at this
      exact this
    rw [ati_set_ne (by omega), ati_set_ne (by omega), ati_set_ne (by omega), ati_set_ne (by omega)]
    exact h.old b' j' hb hj'
  · by_cases e : j' = j
    · subst e
      refine ⟨?_, ?_⟩
      · rw [ati_set_ne (by omega), ati_set_eq (by rw [h.len]; omega)]
      · rw [ati_set_eq (by rw [List.length_set, h.len]; omega)]
    · rw [ati_set_ne (by omega), ati_set_ne (by omega), ati_set_ne (by omega), ati_set_ne (by omega)]
      exact h.cur j' (by omega)
theorem Dn.next {L n : Nat} {F1 F2 : Nat → Nat → Int} {b : Nat} {g : List Int} (h : Dn L n F1 F2 b L g) : Dn L n F1 F2 (b + 1) 0 g := by
  refine ⟨h.len, fun b' j' hb hj' => ?_, fun j' z => by omega⟩
  by_cases e : b' = b
  · subst e
    exact h.cur j' hj'
  · exact h.old b' j' (by omega) hj'
end Kx
set_option Elab.async false
set_option linter.all false
set_option maxRecDepth 100000
set_option maxHeartbeats 4000000
/-! transform.py: one layer, split and joined. -/
namespace Kx
open PySem PySem.Spec PyProof.Rows L2
theorem cast_mul3 (L i : Nat) : (2 : Int) * (L : Int) * ((0 : Int) + (i : Int)) = ((2 * L * i : Nat) : Int) := by
  rw [Int.zero_add, Int.natCast_mul, Int.natCast_mul]
  rfl
theorem blocks_eq {n L B : Nat} (hL : 0 < L) (h : n = 2 * L * B) : (n : Int) / ((2 : Int) * (L : Int)) = (B : Int) := by
  have e : (n : Int) = (2 * (L : Int)) * (B : Int) := by
    rw [h, Int.natCast_mul, Int.natCast_mul]
    rfl
  rw [e]
  exact Int.mul_ediv_cancel_left _ (by omega)
section
variable {P : Program} {w : World} {K : PySem.W.Frag} {mg : Str → Option Value} {base : Heap}
/-- what a layer is given -/
structure LayIn (K : PySem.W.Frag) (H : Hp) (g pw tn a : Addr) (c n k : Nat) (q r : Int) (f : List Int) : Prop where
  ring : RingAt K H g n q r
  rg : Rg c n q r
  k_lt : k < c
  pw : SqL K H pw (IL (pws q r n))
  tn : SqL K H tn (IL (nl (TT c)))
  row : SqL K H a (IL f)
  poly : Poly n q f
def sp_split (K : PySem.W.Frag) : Sp := fun vs H Q _ => ∃ (g pw tn a : Addr) (c n k : Nat) (q r : Int) (f : List Int), vs = [.ref g, .ref pw, .ref tn, .ref a, .int ((2 ^ (c - k) : Nat) : Int)] ∧ LayIn K H g pw tn a c n k q r f ∧
  ∀ p H', Same H H' → H p = none → H' p = some (.lst (IL (splitL q (fun b => zz c q r (2 ^ k + b)) (2 ^ (c - k)) n f))) → Q (.ref p) H'
theorem ok_split_row (T : TX K mg) : FnOk P w K mg base CX0 3 (A K "split_row") (fdA K (A K "split_row")) ["ring", "powers", "turned", "row", "length"] (sp_split K) := by
  refine T.F_split_row.ok sc_split_row (fun vs H Q E h => ?_) (fun cdv A0 outer s0 H vs Q E hr h => ?_)
  · obtain ⟨g, pw, tn, a, c, n, k, q, r, f, rfl, _⟩ := h
    rfl
  · obtain ⟨g, pw, tn, a, c, n, k, q, r, f, rfl, I, qq⟩ := h
    obtain ⟨⟨dx, hg⟩, hR, hk, hpw, htn, hrow, hf⟩ := I
    have full : n = 2 * 2 ^ (c - k) * 2 ^ k := by rw [hR.n_eq]; exact two_pow (by omega)
    have n1 := hR.n_hi
    have q0 := hR.q0
    have q1 := hR.q1
    have c0 := hR.c0
    have c1 := hR.c1
    have hn := hR.n_eq
    have c128 : 2 ^ c ≤ 128 := Nat.le_trans (Nat.pow_le_pow_right (by decide) c1) (by decide)
    have kc : 2 ^ k + 2 ^ k ≤ 2 ^ c := by
      have := Nat.pow_le_pow_right (by decide : 0 < 2) (show k + 1 ≤ c by omega)
      rw [Nat.pow_succ] at this
      omega
    have hL0 : 0 < 2 ^ (c - k) := Nat.pow_pos (by decide)
    have hL1 : 2 ^ (c - k) ≤ 128 := Nat.le_trans (Nat.pow_le_pow_right (by decide) (by omega : c - k ≤ 7)) (by decide)
    rw [TT_eq c0 c1] at htn
    refine ⟨_, (pss_cons (ps_set (i := 5) sc_split_row.nd rfl (Or.inl rfl) (pe_prop (pv 0) T.clRing T.p_q.choose_spec (ok_Ring_q T) (hr.mono (by decide)) T.b_Ring_q .nil pass0 rfl))
      (pss_cons (ps_set (i := 6) sc_split_row.nd rfl (Or.inl rfl) (pe_op op_fdiv (pe_prop (pv 0) T.clRing T.p_n.choose_spec (ok_Ring_n T) (hr.mono (by decide)) T.b_Ring_n .nil pass0 rfl) (pe_op op_mul pe_int (pv 4))))
      (pss_cons (ps_set (i := 7) sc_split_row.nd rfl (Or.inl rfl) (pe_callTy call_list_of (by rfl) T.n_list (by decide +kernel) (pa_cons (pv 3) pa_nil)))
      (pss_cons (ps_for PassesOwn.never rfl (pi_range1 (by rfl) T.n_range (pa_cons (pv 6) pa_nil)) (pg_name (i := 8) sc_split_row.nd rfl (Or.inl rfl)) (pss_cons (ps_set (i := 9) sc_split_row.nd rfl (Or.inl rfl) (pe_ix ix_list (pv 1) (pe_ix ix_list (pv 2) (pe_op op_add (pv 6) (pv 8)) (fun _ _ => rfl)) (fun _ _ => rfl)))
      (pss_cons (ps_set (i := 10) sc_split_row.nd rfl (Or.inl rfl) (pe_op op_mul (pe_op op_mul pe_int (pv 4)) (pv 8)))
      (pss_one (ps_for PassesOwn.never rfl (pi_range2 (by rfl) T.n_range (pa_cons (pv 10) (pa_cons (pe_op op_add (pv 10) (pv 4)) pa_nil))) (pg_name (i := 11) sc_split_row.nd rfl (Or.inl rfl)) (pss_cons (ps_set (i := 12) sc_split_row.nd rfl (Or.inl rfl) (pe_ix ix_list (pv 3) (pv 11) (fun _ _ => rfl)))
      (pss_cons (ps_set (i := 13) sc_split_row.nd rfl (Or.inl rfl) (pe_op op_mul (pv 9) (pe_ix ix_list (pv 3) (pe_op op_add (pv 11) (pv 4)) (fun _ _ => rfl))))
      (pss_cons (ps_asg (pe_op op_mod (pe_op op_add (pv 12) (pv 13)) (pv 5)) (pg_sub (pv 7) (pv 11) set_list))
      (pss_one (ps_asg (pe_op op_mod (pe_op op_sub (pv 12) (pv 13)) (pv 5)) (pg_sub (pv 7) (pe_op op_add (pv 11) (pv 4)) set_list)))))))))))
      (pss_one (ps_ret (pv 7))))))), ?_⟩
    generalize hLL : 2 ^ (c - k) = L at full hL0 hL1 qq ⊢
    have eB := blocks_eq hL0 full
    have eBn : ((n : Int) / ((2 : Int) * (L : Int))).toNat = 2 ^ k := by rw [eB]; exact Int.toNat_natCast _
    refine ⟨_, rfl, g, dx, _, rfl, hg, g, dx, _, _, rfl, hg, rfl, ?_⟩
    refine ⟨_, rfl, g, dx, _, rfl, hg, g, dx, _, _, rfl, hg, rfl, _, rfl, _, _, rfl, rfl, .inl ⟨by decide, by decide⟩, _, _, rfl, rfl, ⟨by omega, by omega⟩, ?_⟩
    refine ⟨_, rfl, a, _, rfl, .inl hrow, fun p hp => ?_⟩
    have hbk : 2 ^ k ≤ 128 := by omega
    have hb0 : -(2 ^ 62) ≤ (n : Int) / ((2 : Int) * (L : Int)) := by rw [eB]; exact Int.le_trans (by decide) (Int.natCast_nonneg (2 ^ k))
    have hb1 : (n : Int) / ((2 : Int) * (L : Int)) < 2 ^ 62 := by rw [eB]; exact Int.lt_of_le_of_lt (Int.ofNat_le.mpr hbk) (by decide)
    refine ⟨_, rfl, (n : Int) / ((2 : Int) * (L : Int)), rfl, hb0, hb1, ?_⟩
    refine for_range (lo := 0) (n := ((n : Int) / ((2 : Int) * (L : Int))).toNat) (fun i σ H' => ∃ (gg : List Int) (y8 y9 y10 y11 y12 y13 : Option V), σ = [some (.ref g), some (.ref pw), some (.ref tn), some (.ref a), some (.int L), some (.int q), some (.int ((n : Int) / ((2 : Int) * (L : Int)))), some (.ref p), y8, y9, y10, y11, y12, y13] ∧ Same H H' ∧ H' p = some (.lst (IL gg)) ∧
      Dn L n (fun b j => (ati f (2 * L * b + j) + zz c q r (2 ^ k + b) * ati f (2 * L * b + j + L)) % q) (fun b j => (ati f (2 * L * b + j) - zz c q r (2 ^ k + b) * ati f (2 * L * b + j + L)) % q) i 0 gg)
      ⟨f, none, none, none, none, none, none, rfl, same_upd hp, upd_same, .start hf.1⟩ ?_ ?_
    · rintro i σ H' hi ⟨gg, y8, y9, y10, y11, y12, y13, rfl, sm, hl, dn⟩
      rw [eBn] at hi
      have hm : 2 ^ k + i < 2 ^ c := by omega
      have hb := bw_lt (2 ^ k + i) c
      have z0 : 0 ≤ zz c q r (2 ^ k + i) := Int.emod_nonneg _ (by omega)
      have z1 : zz c q r (2 ^ k + i) < q := Int.emod_lt_of_pos _ (by omega)
      have es := cast_mul3 L i
      have lastB : 2 * L * i + 2 * L ≤ n := by
        have := Nat.mul_le_mul_left (2 * L) (show i + 1 ≤ 2 ^ k by omega)
        rw [Nat.mul_succ] at this
        omega
      have nn : n = 2 * 2 ^ c := by rw [hn, Nat.pow_succ, Nat.mul_comm]
      refine ⟨_, rfl, _, rfl, _, rfl, _, rfl, _, _, rfl, rfl, _, _, _, _, rfl, rfl, sm.seq htn, at_il (j := 2 ^ k + i) (by rw [eB, Int.natCast_add]; omega) (nl_get (by rw [List.getElem?_map, List.getElem?_range hm]; rfl)), _, _, _, _, rfl, rfl, sm.seq hpw, at_il (j := bw (2 ^ k + i) c) rfl (pws_get (by omega)), ?_⟩
      refine ⟨_, rfl, _, _, rfl, rfl, .inl ⟨by decide, by decide⟩, _, rfl, _, _, rfl, rfl, .inl ⟨by omega, by omega⟩, ?_⟩
      refine ⟨_, rfl, _, rfl, _, rfl, _, _, rfl, rfl, _, _, rfl, ⟨by omega, by omega, by omega, by omega⟩, ?_⟩
      refine for_range (lo := (2 : Int) * (L : Int) * ((0 : Int) + (i : Int))) (n := ((2 : Int) * (L : Int) * ((0 : Int) + (i : Int)) + (L : Int) - (2 : Int) * (L : Int) * ((0 : Int) + (i : Int))).toNat) (fun j σ H' => ∃ (gg : List Int) (y11 y12 y13 : Option V), σ = [some (.ref g), some (.ref pw), some (.ref tn), some (.ref a), some (.int L), some (.int q), some (.int ((n : Int) / ((2 : Int) * (L : Int)))), some (.ref p), some (.int ((0 : Int) + (i : Int))), some (.int (zz c q r (2 ^ k + i))), some (.int ((2 : Int) * (L : Int) * ((0 : Int) + (i : Int)))), y11, y12, y13] ∧ Same H H' ∧ H' p = some (.lst (IL gg)) ∧
        Dn L n (fun b j => (ati f (2 * L * b + j) + zz c q r (2 ^ k + b) * ati f (2 * L * b + j + L)) % q) (fun b j => (ati f (2 * L * b + j) - zz c q r (2 ^ k + b) * ati f (2 * L * b + j + L)) % q) i j gg)
        ⟨gg, y11, y12, y13, rfl, sm, hl, dn⟩ ?_ ?_
      · rintro j σ H2 hj ⟨g2, u11, u12, u13, rfl, s2, h2, d2⟩
        have hjL : j < L := by omega
        have ix1 : (2 : Int) * (L : Int) * ((0 : Int) + (i : Int)) + (j : Int) = ((2 * L * i + j : Nat) : Int) := by rw [es]; omega
        have ix2 : (2 : Int) * (L : Int) * ((0 : Int) + (i : Int)) + (j : Int) + (L : Int) = ((2 * L * i + j + L : Nat) : Int) := by rw [es]; omega
        refine ⟨_, rfl, _, rfl, _, _, _, _, rfl, rfl, s2.seq hrow, at_il ix1 (get_ati (by rw [hf.1]; omega)), ?_⟩
        refine ⟨_, rfl, _, rfl, _, rfl, _, rfl, _, _, rfl, rfl, _, _, _, _, rfl, rfl, s2.seq hrow, at_il ix2 (get_ati (by rw [hf.1]; omega)), _, _, rfl, rfl, .inl ⟨by omega, by omega⟩, ?_⟩
        refine ⟨_, rfl, _, rfl, _, _, rfl, rfl, _, rfl, _, _, rfl, rfl, by show 0 < q; omega, ?_⟩
        refine ⟨_, rfl, _, rfl, p, _, _, 2 * L * i + j, rfl, rfl, h2, ?_, ?_⟩
        · rw [ixN_of (by omega) (by rw [il_len, d2.len]; omega), ix1]
          exact congrArg some (by omega)
        · refine ⟨_, rfl, _, rfl, _, _, rfl, rfl, _, rfl, _, _, rfl, rfl, by show 0 < q; omega, ?_⟩
          refine ⟨_, rfl, _, rfl, _, rfl, _, _, rfl, rfl, p, _, _, 2 * L * i + j + L, rfl, rfl, upd_same, ?_, ?_⟩
          · rw [ixN_of (by omega) (by rw [List.length_set, il_len, d2.len]; omega), ix2]
            exact congrArg some (by omega)
          · refine ⟨_, _, _, _, rfl, fun b o e => ?_, ?_, d2.step hjL (by omega)⟩
            · rw [upd_ne (ne_of_none e hp), upd_ne (ne_of_none e hp)]
              exact s2 _ _ e
            · rw [upd_same, set_il, set_il]
      · rintro σ H2 ⟨g2, u11, u12, u13, rfl, s2, h2, d2⟩
        have ej : ((2 : Int) * (L : Int) * ((0 : Int) + (i : Int)) + (L : Int) - (2 : Int) * (L : Int) * ((0 : Int) + (i : Int))).toNat = L := by omega
        rw [ej] at d2
        exact ⟨g2, _, _, _, _, _, _, rfl, s2, h2, d2.next⟩
    · rintro σ H' ⟨gg, y8, y9, y10, y11, y12, y13, rfl, sm, hl, dn⟩
      rw [eBn] at dn
      have e : gg = splitL q (fun b => zz c q r (2 ^ k + b)) L n f := by
        have := splitL_of (q := q) (z := fun b => zz c q r (2 ^ k + b)) (L := L) (B := 2 ^ k) (f := f) (g := gg) (by rw [dn.len, full]) fun b hb j hj => dn.old b j hb hj
        rw [this, ← full]
      refine ⟨_, rfl, qq p H' sm hp ?_⟩
      rw [hl, e]
end
end Kx
set_option Elab.async false
set_option linter.all false
set_option maxRecDepth 100000
set_option maxHeartbeats 4000000
/-! transform.py: a layer joined. -/
namespace Kx
open PySem PySem.Spec PyProof.Rows L2
theorem Rg.odd {c n : Nat} {q r : Int} (h : Rg c n q r) : 2 * ((q + 1) / 2) = q + 1 := by
  have qn := h.qn
  rcases h.pn.cases with ⟨_, rfl⟩ | ⟨_, rfl⟩ | ⟨_, rfl⟩ | ⟨_, rfl⟩ | ⟨_, rfl⟩ | ⟨_, rfl⟩ <;> omega
def bkk (c n : Nat) (q r : Int) (m : Nat) : Int := (q + 1) / 2 * (r ^ (n - bw m c) % q) % q
theorem bkk_zz {c n m : Nat} {q r : Int} (h : Rg c n q r) : Cg q (2 * (zz c q r m * bkk c n q r m)) 1 := by
  have hb := bw_lt m c
  have hn : n = 2 ^ (c + 1) := h.n_eq
  have nn : n = 2 * 2 ^ c := by rw [hn, Nat.pow_succ, Nat.mul_comm]
  have full := rt_full h.rt
  rw [← hn] at full
  have e1 : Cg q (r ^ bw m c * r ^ (n - bw m c)) 1 := by
    rw [← Int.pow_add, show bw m c + (n - bw m c) = n by omega]
    exact full
  have o := h.odd
  have e2 : Cg q (2 * (zz c q r m * bkk c n q r m)) (2 * (r ^ bw m c * ((q + 1) / 2 * r ^ (n - bw m c)))) :=
    (Cg.refl q 2).mul ((Cg.mod q _).mul ((Cg.mod q _).trans ((Cg.refl q _).mul (Cg.mod q _))))
  refine e2.trans ((Cg.of_eq (b := (q + 1) * (r ^ bw m c * r ^ (n - bw m c))) ?_).trans ?_)
  · rw [← o]
    grind
  · exact (Cg.mul (b := 1) ⟨1, by grind⟩ e1).trans (.of_eq (by decide))
section
variable {P : Program} {w : World} {K : PySem.W.Frag} {mg : Str → Option Value} {base : Heap}
def sp_join (K : PySem.W.Frag) : Sp := fun vs H Q _ => ∃ (g pw tn a : Addr) (c n k : Nat) (q r : Int) (f u : List Int), vs = [.ref g, .ref pw, .ref tn, .ref a, .int ((2 ^ (c - k) : Nat) : Int)] ∧ LayIn K H g pw tn a c n k q r u ∧ Poly n q f ∧ u = splitL q (fun b => zz c q r (2 ^ k + b)) (2 ^ (c - k)) n f ∧
  ∀ p H', Same H H' → H p = none → H' p = some (.lst (IL f)) → Q (.ref p) H'
theorem ok_join_row (T : TX K mg) : FnOk P w K mg base CX0 3 (A K "join_row") (fdA K (A K "join_row")) ["ring", "powers", "turned", "row", "length"] (sp_join K) := by
  refine T.F_join_row.ok sc_join_row (fun vs H Q E h => ?_) (fun cdv A0 outer s0 H vs Q E hr h => ?_)
  · obtain ⟨g, pw, tn, a, c, n, k, q, r, f, u, rfl, _⟩ := h
    rfl
  · obtain ⟨g, pw, tn, a, c, n, k, q, r, f0, f, rfl, I, hf0, hu, qq⟩ := h
    obtain ⟨⟨dx, hg⟩, hR, hk, hpw, htn, hrow, hf⟩ := I
    have full : n = 2 * 2 ^ (c - k) * 2 ^ k := by rw [hR.n_eq]; exact two_pow (by omega)
    have n1 := hR.n_hi
    have q0 := hR.q0
    have q1 := hR.q1
    have c0 := hR.c0
    have c1 := hR.c1
    have hn := hR.n_eq
    have odd := hR.odd
    have c128 : 2 ^ c ≤ 128 := Nat.le_trans (Nat.pow_le_pow_right (by decide) c1) (by decide)
    have kc : 2 ^ k + 2 ^ k ≤ 2 ^ c := by
      have := Nat.pow_le_pow_right (by decide : 0 < 2) (show k + 1 ≤ c by omega)
      rw [Nat.pow_succ] at this
      omega
    have hL0 : 0 < 2 ^ (c - k) := Nat.pow_pos (by decide)
    have hL1 : 2 ^ (c - k) ≤ 128 := Nat.le_trans (Nat.pow_le_pow_right (by decide) (by omega : c - k ≤ 7)) (by decide)
    rw [TT_eq c0 c1] at htn
    refine ⟨_, (pss_cons (ps_set (i := 5) sc_join_row.nd rfl (Or.inl rfl) (pe_prop (pv 0) T.clRing T.p_q.choose_spec (ok_Ring_q T) (hr.mono (by decide)) T.b_Ring_q .nil pass0 rfl))
      (pss_cons (ps_set (i := 6) sc_join_row.nd rfl (Or.inl rfl) (pe_op op_fdiv (pe_op op_add (pv 5) pe_int) pe_int))
      (pss_cons (ps_set (i := 7) sc_join_row.nd rfl (Or.inl rfl) (pe_op op_fdiv (pe_prop (pv 0) T.clRing T.p_n.choose_spec (ok_Ring_n T) (hr.mono (by decide)) T.b_Ring_n .nil pass0 rfl) (pe_op op_mul pe_int (pv 4))))
      (pss_cons (ps_set (i := 8) sc_join_row.nd rfl (Or.inl rfl) (pe_callTy call_list_of (by rfl) T.n_list (by decide +kernel) (pa_cons (pv 3) pa_nil)))
      (pss_cons (ps_for PassesOwn.never rfl (pi_range1 (by rfl) T.n_range (pa_cons (pv 7) pa_nil)) (pg_name (i := 9) sc_join_row.nd rfl (Or.inl rfl)) (pss_cons (ps_set (i := 10) sc_join_row.nd rfl (Or.inl rfl) (pe_op op_mod (pe_op op_mul (pv 6) (pe_ix ix_list (pv 1) (pe_op op_sub (pe_prop (pv 0) T.clRing T.p_n.choose_spec (ok_Ring_n T) (hr.mono (by decide)) T.b_Ring_n .nil pass0 rfl) (pe_ix ix_list (pv 2) (pe_op op_add (pv 7) (pv 9)) (fun _ _ => rfl))) (fun _ _ => rfl))) (pv 5)))
      (pss_cons (ps_set (i := 11) sc_join_row.nd rfl (Or.inl rfl) (pe_op op_mul (pe_op op_mul pe_int (pv 4)) (pv 9)))
      (pss_one (ps_for PassesOwn.never rfl (pi_range2 (by rfl) T.n_range (pa_cons (pv 11) (pa_cons (pe_op op_add (pv 11) (pv 4)) pa_nil))) (pg_name (i := 12) sc_join_row.nd rfl (Or.inl rfl)) (pss_cons (ps_set (i := 13) sc_join_row.nd rfl (Or.inl rfl) (pe_ix ix_list (pv 3) (pv 12) (fun _ _ => rfl)))
      (pss_cons (ps_set (i := 14) sc_join_row.nd rfl (Or.inl rfl) (pe_ix ix_list (pv 3) (pe_op op_add (pv 12) (pv 4)) (fun _ _ => rfl)))
      (pss_cons (ps_asg (pe_op op_mod (pe_op op_mul (pe_op op_add (pv 13) (pv 14)) (pv 6)) (pv 5)) (pg_sub (pv 8) (pv 12) set_list))
      (pss_one (ps_asg (pe_op op_mod (pe_op op_mul (pe_op op_sub (pv 13) (pv 14)) (pv 10)) (pv 5)) (pg_sub (pv 8) (pe_op op_add (pv 12) (pv 4)) set_list)))))))))))
      (pss_one (ps_ret (pv 8)))))))), ?_⟩
    generalize hLL : 2 ^ (c - k) = L at full hL0 hL1 hu qq ⊢
    have eB := blocks_eq hL0 full
    have eBn : ((n : Int) / ((2 : Int) * (L : Int))).toNat = 2 ^ k := by rw [eB]; exact Int.toNat_natCast _
    have hbk : 2 ^ k ≤ 128 := by omega
    have hb0 : -(2 ^ 62) ≤ (n : Int) / ((2 : Int) * (L : Int)) := by rw [eB]; exact Int.le_trans (by decide) (Int.natCast_nonneg (2 ^ k))
    have hb1 : (n : Int) / ((2 : Int) * (L : Int)) < 2 ^ 62 := by rw [eB]; exact Int.lt_of_le_of_lt (Int.ofNat_le.mpr hbk) (by decide)
    refine ⟨_, rfl, g, dx, _, rfl, hg, g, dx, _, _, rfl, hg, rfl, ?_⟩
    refine ⟨_, rfl, _, _, rfl, rfl, _, _, rfl, rfl, ⟨by decide, by decide⟩, ?_⟩
    refine ⟨_, rfl, g, dx, _, rfl, hg, g, dx, _, _, rfl, hg, rfl, _, rfl, _, _, rfl, rfl, .inl ⟨by decide, by decide⟩, _, _, rfl, rfl, ⟨by omega, by omega⟩, ?_⟩
    refine ⟨_, rfl, a, _, rfl, .inl hrow, fun p hp => ?_⟩
    refine ⟨_, rfl, (n : Int) / ((2 : Int) * (L : Int)), rfl, hb0, hb1, ?_⟩
    refine for_range (lo := 0) (n := ((n : Int) / ((2 : Int) * (L : Int))).toNat) (fun i σ H' => ∃ (gg : List Int) (y8 y9 y10 y11 y12 y13 : Option V), σ = [some (.ref g), some (.ref pw), some (.ref tn), some (.ref a), some (.int L), some (.int q), some (.int ((q + 1) / 2)), some (.int ((n : Int) / ((2 : Int) * (L : Int)))), some (.ref p), y8, y9, y10, y11, y12, y13] ∧ Same H H' ∧ H' p = some (.lst (IL gg)) ∧
      Dn L n (fun b j => (ati f (2 * L * b + j) + ati f (2 * L * b + j + L)) * ((q + 1) / 2) % q) (fun b j => (ati f (2 * L * b + j) - ati f (2 * L * b + j + L)) * bkk c n q r (2 ^ k + b) % q) i 0 gg)
      ⟨f, none, none, none, none, none, none, rfl, same_upd hp, upd_same, .start hf.1⟩ ?_ ?_
    · rintro i σ H' hi ⟨gg, y8, y9, y10, y11, y12, y13, rfl, sm, hl, dn⟩
      rw [eBn] at hi
      have hm : 2 ^ k + i < 2 ^ c := by omega
      have hb := bw_lt (2 ^ k + i) c
      have hbp := bw_pos c0 c1 hk hi
      have b0 : 0 ≤ bkk c n q r (2 ^ k + i) := Int.emod_nonneg _ (by omega)
      have b1 : bkk c n q r (2 ^ k + i) < q := Int.emod_lt_of_pos _ (by omega)
      have es := cast_mul3 L i
      have lastB : 2 * L * i + 2 * L ≤ n := by
        have := Nat.mul_le_mul_left (2 * L) (show i + 1 ≤ 2 ^ k by omega)
        rw [Nat.mul_succ] at this
        omega
      have nn : n = 2 * 2 ^ c := by rw [hn, Nat.pow_succ, Nat.mul_comm]
      have hg' := sm _ _ hg
      refine ⟨_, rfl, _, rfl, _, rfl, g, dx, _, rfl, hg', g, dx, _, _, rfl, hg', rfl, _, rfl, _, rfl, _, rfl, _, _, rfl, rfl, _, _, _, _, rfl, rfl, sm.seq htn, at_il (j := 2 ^ k + i) (by rw [eB, Int.natCast_add]; omega) (nl_get (x := bw (2 ^ k + i) c) (by rw [List.getElem?_map, List.getElem?_range hm]; rfl)), _, _, rfl, rfl, _, _, _, _, rfl, rfl, sm.seq hpw, at_il (j := n - bw (2 ^ k + i) c) (by omega) (pws_get (by omega)), ?_⟩
      refine ⟨_, _, rfl, rfl, .inl ⟨by omega, by omega⟩, _, rfl, _, _, rfl, rfl, by show 0 < q; omega, ?_⟩
      refine ⟨_, rfl, _, _, rfl, rfl, .inl ⟨by decide, by decide⟩, _, rfl, _, _, rfl, rfl, .inl ⟨by omega, by omega⟩, ?_⟩
      refine ⟨_, rfl, _, rfl, _, rfl, _, _, rfl, rfl, _, _, rfl, ⟨by omega, by omega, by omega, by omega⟩, ?_⟩
      refine for_range (lo := (2 : Int) * (L : Int) * ((0 : Int) + (i : Int))) (n := ((2 : Int) * (L : Int) * ((0 : Int) + (i : Int)) + (L : Int) - (2 : Int) * (L : Int) * ((0 : Int) + (i : Int))).toNat) (fun j σ H' => ∃ (gg : List Int) (y11 y12 y13 : Option V), σ = [some (.ref g), some (.ref pw), some (.ref tn), some (.ref a), some (.int L), some (.int q), some (.int ((q + 1) / 2)), some (.int ((n : Int) / ((2 : Int) * (L : Int)))), some (.ref p), some (.int ((0 : Int) + (i : Int))), some (.int (bkk c n q r (2 ^ k + i))), some (.int ((2 : Int) * (L : Int) * ((0 : Int) + (i : Int)))), y11, y12, y13] ∧ Same H H' ∧ H' p = some (.lst (IL gg)) ∧
        Dn L n (fun b j => (ati f (2 * L * b + j) + ati f (2 * L * b + j + L)) * ((q + 1) / 2) % q) (fun b j => (ati f (2 * L * b + j) - ati f (2 * L * b + j + L)) * bkk c n q r (2 ^ k + b) % q) i j gg)
        ⟨gg, y11, y12, y13, rfl, sm, hl, dn⟩ ?_ ?_
      · rintro j σ H2 hj ⟨g2, u11, u12, u13, rfl, s2, h2, d2⟩
        have hjL : j < L := by omega
        have ix1 : (2 : Int) * (L : Int) * ((0 : Int) + (i : Int)) + (j : Int) = ((2 * L * i + j : Nat) : Int) := by rw [es]; omega
        have ix2 : (2 : Int) * (L : Int) * ((0 : Int) + (i : Int)) + (j : Int) + (L : Int) = ((2 * L * i + j + L : Nat) : Int) := by rw [es]; omega
        refine ⟨_, rfl, _, rfl, _, _, _, _, rfl, rfl, s2.seq hrow, at_il ix1 (get_ati (by rw [hf.1]; omega)), ?_⟩
        refine ⟨_, rfl, _, rfl, _, rfl, _, _, rfl, rfl, _, _, _, _, rfl, rfl, s2.seq hrow, at_il ix2 (get_ati (by rw [hf.1]; omega)), ?_⟩
        refine ⟨_, rfl, _, rfl, _, _, rfl, rfl, _, rfl, _, _, rfl, rfl, .inr ⟨by omega, by omega⟩, _, rfl, _, _, rfl, rfl, by show 0 < q; omega, ?_⟩
        refine ⟨_, rfl, _, rfl, p, _, _, 2 * L * i + j, rfl, rfl, h2, ?_, ?_⟩
        · rw [ixN_of (by omega) (by rw [il_len, d2.len]; omega), ix1]
          exact congrArg some (by omega)
        · refine ⟨_, rfl, _, rfl, _, _, rfl, rfl, _, rfl, _, _, rfl, rfl, .inr ⟨by omega, by omega⟩, _, rfl, _, _, rfl, rfl, by show 0 < q; omega, ?_⟩
          refine ⟨_, rfl, _, rfl, _, rfl, _, _, rfl, rfl, p, _, _, 2 * L * i + j + L, rfl, rfl, upd_same, ?_, ?_⟩
          · rw [ixN_of (by omega) (by rw [List.length_set, il_len, d2.len]; omega), ix2]
            exact congrArg some (by omega)
          · refine ⟨_, _, _, _, rfl, fun b o e => ?_, ?_, d2.step hjL (by omega)⟩
            · rw [upd_ne (ne_of_none e hp), upd_ne (ne_of_none e hp)]
              exact s2 _ _ e
            · rw [upd_same, set_il, set_il]
      · rintro σ H2 ⟨g2, u11, u12, u13, rfl, s2, h2, d2⟩
        have ej : ((2 : Int) * (L : Int) * ((0 : Int) + (i : Int)) + (L : Int) - (2 : Int) * (L : Int) * ((0 : Int) + (i : Int))).toNat = L := by omega
        rw [ej] at d2
        exact ⟨g2, _, _, _, _, _, _, rfl, s2, h2, d2.next⟩
    · rintro σ H' ⟨gg, y8, y9, y10, y11, y12, y13, rfl, sm, hl, dn⟩
      rw [eBn] at dn
      have e : gg = f0 := by
        refine join_split (half := (q + 1) / 2) (z := fun b => zz c q r (2 ^ k + b)) (bk := fun b => bkk c n q r (2 ^ k + b)) (L := L) (B := 2 ^ k) (by rw [hf0.1, full]) hf0.2 odd (fun b _ => bkk_zz hR) (by rw [dn.len, full]) ?_
        rw [← full, ← hu]
        exact fun b hb j hj => dn.old b j hb hj
      refine ⟨_, rfl, qq p H' sm hp ?_⟩
      rw [hl, e]
end
end Kx
set_option Elab.async false
set_option linter.all false
set_option maxRecDepth 100000
set_option maxHeartbeats 4000000
/-! transform.py: spectra and products, good ones. -/
namespace Kx
open PySem PySem.Spec PyProof.Rows L2
theorem lens_get {c i : Nat} (h : i < c) : (lens c)[i]? = some (2 ^ (c - i)) := by
  unfold lens
  rw [List.getElem?_map, List.getElem?_range h]
  rfl
theorem lens_len (c : Nat) : (IL (nl (lens c))).length = c := by
  unfold lens
  rw [il_len, nl_len, List.length_map, List.length_range]
theorem rows_poly {c n : Nat} {q r : Int} {f : List Int} (hR : Rg c n q r) (hf : Poly n q f) (k : Nat) : Poly n q (rows c q r f k) := by
  have hn := hR.n_eq
  have q0 := hR.q0
  exact ⟨by rw [rows_len (by rw [hf.1, hn]), hn], rows_res (by omega) hf.2 k⟩
theorem spec_poly {c n : Nat} {q r : Int} {f : List Int} (hR : Rg c n q r) (hf : Poly n q f) : Poly n q (spec c q r f) := by
  have q0 := hR.q0
  rw [← rows_spec hR.c0 hR.c1 (by omega) hR.rt (by rw [hf.1, hR.n_eq]) hf.2]
  exact rows_poly hR hf c
theorem Poly.at {n i : Nat} {q : Int} {f : List Int} (h : Poly n q f) (hi : i < n) : 0 ≤ ati f i ∧ ati f i < q := h.2 _ (List.mem_of_getElem? (get_ati (by rw [h.1]; exact hi)))
theorem pair_eq {a b c d : Int} (h : a = c) (h' : b = d) : [a, b] = [c, d] := by rw [h, h']
/-- the products of pairs -/
def tms (q : Int) (gs u v : List Int) (i : Nat) : Int × Int := modp q (mulp (ati gs i) (ati u (2 * i), ati u (2 * i + 1)) (ati v (2 * i), ati v (2 * i + 1)))
section
variable {P : Program} {w : World} {K : PySem.W.Frag} {mg : Str → Option Value} {base : Heap}
def sp_sr (K : PySem.W.Frag) : Sp := fun vs H Q _ => ∃ (g a : Addr) (c n : Nat) (q r : Int) (f : List Int), vs = [.ref g, .ref a] ∧ RingAt K H g n q r ∧ Rg c n q r ∧ SqL K H a (IL f) ∧ Poly n q f ∧
  ∀ p H', Same H H' → H p = none → H' p = some (.lst (IL (spec c q r f))) → Q (.ref p) H'
theorem ok_spectrum_row (T : TX K mg) : FnOk P w K mg base CX0 4 (A K "spectrum_row") (fdA K (A K "spectrum_row")) ["ring", "row"] (sp_sr K) := by
  refine T.F_spectrum_row.ok sc_spectrum_row (fun vs H Q E h => ?_) (fun cdv A0 outer s0 H vs Q E hr h => ?_)
  · obtain ⟨g, a, c, n, q, r, f, rfl, _⟩ := h
    rfl
  · obtain ⟨g, a, c, n, q, r, f, rfl, hg0, hR, ha, hf, qq⟩ := h
    have hn := hR.n_eq
    have n0 := hR.n_lo
    have n1 := hR.n_hi
    have q0 := hR.q0
    have q1 := hR.q1
    have c0 := hR.c0
    have c1 := hR.c1
    refine ⟨_, (pss_cons (ps_set (i := 2) sc_spectrum_row.nd rfl (Or.inl rfl) (pe_call (ok_root_powers T) (hr.mono (by decide)) (by rfl) T.g_root_powers T.F_root_powers.kp T.b_root_powers .nil pass0 (pa_cons (pv 0) pa_nil)))
      (pss_cons (ps_set (i := 3) sc_spectrum_row.nd rfl (Or.inl rfl) (pe_call (ok_turned_numbers T) (hr.mono (by decide)) (by rfl) T.g_turned_numbers T.F_turned_numbers.kp T.b_turned_numbers .nil pass0 (pa_cons (pe_prop (pv 0) T.clRing T.p_n.choose_spec (ok_Ring_n T) (hr.mono (by decide)) T.b_Ring_n .nil pass0 rfl) pa_nil)))
      (pss_cons (ps_set (i := 4) sc_spectrum_row.nd rfl (Or.inl rfl) (pe_callTy call_list_of (by rfl) T.n_list (by decide +kernel) (pa_cons (pv 1) pa_nil)))
      (pss_cons (ps_for PassesOwn.never rfl (pi_list (pe_call (ok_layer_lengths T) (hr.mono (by decide)) (by rfl) T.g_layer_lengths T.F_layer_lengths.kp T.b_layer_lengths .nil pass0 (pa_cons (pe_prop (pv 0) T.clRing T.p_n.choose_spec (ok_Ring_n T) (hr.mono (by decide)) T.b_Ring_n .nil pass0 rfl) pa_nil))) (pg_name (i := 5) sc_spectrum_row.nd rfl (Or.inl rfl)) (pss_one (ps_set (i := 4) sc_spectrum_row.nd rfl (Or.inl rfl) (pe_call (ok_split_row T) (hr.mono (by decide)) (by rfl) T.g_split_row T.F_split_row.kp T.b_split_row .nil pass0 (pa_cons (pv 0) (pa_cons (pv 2) (pa_cons (pv 3) (pa_cons (pv 4) (pa_cons (pv 5) pa_nil)))))))))
      (pss_one (ps_ret (pv 4))))))), ?_⟩
    refine ⟨_, rfl, g, n, q, r, rfl, hg0, by omega, by omega, by omega, by omega, fun pw H1 s1 hp1 h1 => ?_⟩
    have hgA := hg0
    obtain ⟨dx, hg⟩ := hg0
    have hg1 := s1 _ _ hg
    refine ⟨_, rfl, g, dx, _, rfl, hg1, g, dx, _, _, rfl, hg1, rfl, c, by rw [hn]; rfl, by omega, fun tn H2 s2 hp2 h2 => ?_⟩
    refine ⟨_, rfl, a, _, rfl, .inl ((s1.trans s2).seq ha), fun p hp => ?_⟩
    have s3 : Same H2 (upd H2 p (.lst (IL f))) := same_upd hp
    have h3 : (upd H2 p (.lst (IL f))) p = some (.lst (IL f)) := upd_same
    revert s3 h3
    generalize (upd H2 p (.lst (IL f))) = H3
    intro s3 h3
    have hg3 := s3 _ _ (s2 _ _ hg1)
    refine ⟨_, rfl, g, dx, _, rfl, hg3, g, dx, _, _, rfl, hg3, rfl, c, by rw [hn]; rfl, by omega, fun lp H4 s4 hp4 h4 => ?_⟩
    refine ⟨lp, rfl, ⟨_, lq h4⟩, ?_⟩
    have s04 := (s1.trans s2).trans (s3.trans s4)
    refine for_list (xs := IL (nl (lens c))) (fun k σ H' => ∃ (p : Addr) (y5 : Option V), σ = [some (.ref g), some (.ref a), some (.ref pw), some (.ref tn), some (.ref p), y5] ∧ Same H4 H' ∧ H p = none ∧ H' p = some (.lst (IL (rows c q r f k)))) ⟨p, none, rfl, .refl _, (s1.trans s2).free hp, s4 _ _ h3⟩ (fun k σ H' _ ⟨_, _, _, s, _⟩ => s.seq (lq h4)) ?_ ?_
    · rintro k x σ H' hx ⟨p, y5, rfl, sm, hp0, hl⟩
      have hk : k < c := by
        have := (List.getElem?_eq_some_iff.mp hx).1
        rw [lens_len] at this
        exact this
      obtain rfl : x = .int ((2 ^ (c - k) : Nat) : Int) := Option.some.inj (hx.symm.trans (il_get (nl_get (lens_get hk))))
      refine ⟨_, rfl, _, rfl, _, rfl, _, rfl, _, rfl, g, pw, tn, p, c, n, k, q, r, rows c q r f k, rfl, ⟨(hgA.same s04).same sm, hR, hk, lq (sm _ _ ((s2.trans (s3.trans s4)) _ _ h1)), lq (sm _ _ ((s3.trans s4) _ _ h2)), lq hl, rows_poly hR hf k⟩, fun p2 H5 s5 hp5 h5 => ?_⟩
      refine ⟨p2, _, rfl, sm.trans s5, s04.free (sm.free hp5), ?_⟩
      rw [h5, hn]
      rfl
    · rintro σ H' ⟨p, y5, rfl, sm, hp0, hl⟩
      rw [lens_len, rows_spec c0 c1 (by omega) hR.rt (by rw [hf.1, hn]) hf.2] at hl
      exact ⟨_, rfl, qq p H' (s04.trans sm) hp0 hl⟩
def sp_pr (K : PySem.W.Frag) : Sp := fun vs H Q _ => ∃ (g a : Addr) (c n : Nat) (q r : Int) (f : List Int), vs = [.ref g, .ref a] ∧ RingAt K H g n q r ∧ Rg c n q r ∧ SqL K H a (IL (spec c q r f)) ∧ Poly n q f ∧
  ∀ p H', Same H H' → H p = none → H' p = some (.lst (IL f)) → Q (.ref p) H'
theorem ok_polynomial_row (T : TX K mg) : FnOk P w K mg base CX0 4 (A K "polynomial_row") (fdA K (A K "polynomial_row")) ["ring", "row"] (sp_pr K) := by
  refine T.F_polynomial_row.ok sc_polynomial_row (fun vs H Q E h => ?_) (fun cdv A0 outer s0 H vs Q E hr h => ?_)
  · obtain ⟨g, a, c, n, q, r, f, rfl, _⟩ := h
    rfl
  · obtain ⟨g, a, c, n, q, r, f, rfl, hg0, hR, ha, hf, qq⟩ := h
    have hn := hR.n_eq
    have n0 := hR.n_lo
    have n1 := hR.n_hi
    have q0 := hR.q0
    have q1 := hR.q1
    have c0 := hR.c0
    have c1 := hR.c1
    have erow := rows_spec c0 c1 (by omega) hR.rt (by rw [hf.1, hn]) hf.2
    refine ⟨_, (pss_cons (ps_set (i := 2) sc_polynomial_row.nd rfl (Or.inl rfl) (pe_call (ok_root_powers T) (hr.mono (by decide)) (by rfl) T.g_root_powers T.F_root_powers.kp T.b_root_powers .nil pass0 (pa_cons (pv 0) pa_nil)))
      (pss_cons (ps_set (i := 3) sc_polynomial_row.nd rfl (Or.inl rfl) (pe_call (ok_turned_numbers T) (hr.mono (by decide)) (by rfl) T.g_turned_numbers T.F_turned_numbers.kp T.b_turned_numbers .nil pass0 (pa_cons (pe_prop (pv 0) T.clRing T.p_n.choose_spec (ok_Ring_n T) (hr.mono (by decide)) T.b_Ring_n .nil pass0 rfl) pa_nil)))
      (pss_cons (ps_set (i := 4) sc_polynomial_row.nd rfl (Or.inl rfl) (pe_callTy call_list_of (by rfl) T.n_list (by decide +kernel) (pa_cons (pv 1) pa_nil)))
      (pss_cons (ps_for PassesOwn.never rfl (pi_reversed (by rfl) T.n_reversed (pa_cons (pe_callTy call_list_of (by rfl) T.n_list (by decide +kernel) (pa_cons (pe_call (ok_layer_lengths T) (hr.mono (by decide)) (by rfl) T.g_layer_lengths T.F_layer_lengths.kp T.b_layer_lengths .nil pass0 (pa_cons (pe_prop (pv 0) T.clRing T.p_n.choose_spec (ok_Ring_n T) (hr.mono (by decide)) T.b_Ring_n .nil pass0 rfl) pa_nil)) pa_nil)) pa_nil)) (pg_name (i := 5) sc_polynomial_row.nd rfl (Or.inl rfl)) (pss_one (ps_set (i := 4) sc_polynomial_row.nd rfl (Or.inl rfl) (pe_call (ok_join_row T) (hr.mono (by decide)) (by rfl) T.g_join_row T.F_join_row.kp T.b_join_row .nil pass0 (pa_cons (pv 0) (pa_cons (pv 2) (pa_cons (pv 3) (pa_cons (pv 4) (pa_cons (pv 5) pa_nil)))))))))
      (pss_one (ps_ret (pv 4))))))), ?_⟩
    refine ⟨_, rfl, g, n, q, r, rfl, hg0, by omega, by omega, by omega, by omega, fun pw H1 s1 hp1 h1 => ?_⟩
    have hgA := hg0
    obtain ⟨dx, hg⟩ := hg0
    have hg1 := s1 _ _ hg
    refine ⟨_, rfl, g, dx, _, rfl, hg1, g, dx, _, _, rfl, hg1, rfl, c, by rw [hn]; rfl, by omega, fun tn H2 s2 hp2 h2 => ?_⟩
    refine ⟨_, rfl, a, _, rfl, .inl ((s1.trans s2).seq ha), fun p hp => ?_⟩
    have s3 : Same H2 (upd H2 p (.lst (IL (spec c q r f)))) := same_upd hp
    have h3 : (upd H2 p (.lst (IL (spec c q r f)))) p = some (.lst (IL (spec c q r f))) := upd_same
    revert s3 h3
    generalize (upd H2 p (.lst (IL (spec c q r f)))) = H3
    intro s3 h3
    have hg3 := s3 _ _ (s2 _ _ hg1)
    refine ⟨_, rfl, g, dx, _, rfl, hg3, g, dx, _, _, rfl, hg3, rfl, c, by rw [hn]; rfl, by omega, fun lp0 H4 s4 hp4 h4 => ?_⟩
    refine ⟨lp0, _, rfl, .inl (lq h4), fun lp hlp => ?_⟩
    have s5 : Same H4 (upd H4 lp (.lst (IL (nl (lens c))))) := same_upd hlp
    have h5 : (upd H4 lp (.lst (IL (nl (lens c))))) lp = some (.lst (IL (nl (lens c)))) := upd_same
    revert s5 h5
    generalize (upd H4 lp (.lst (IL (nl (lens c))))) = H5
    intro s5 h5
    refine ⟨lp, IL (nl (lens c)), rfl, lq h5, ?_⟩
    have s05 := ((s1.trans s2).trans (s3.trans s4)).trans s5
    refine for_rev (xs := IL (nl (lens c))) (fun i σ H' => ∃ (p : Addr) (y5 : Option V), σ = [some (.ref g), some (.ref a), some (.ref pw), some (.ref tn), some (.ref p), y5] ∧ Same H5 H' ∧ H p = none ∧ H' p = some (.lst (IL (rows c q r f (c - i))))) ⟨p, none, rfl, .refl _, (s1.trans s2).free hp, ?_⟩ (fun k σ H' _ ⟨_, _, _, s, _⟩ => s.seq (lq h5)) ?_ ?_
    · rw [Nat.sub_zero, erow]
      exact s5 _ _ (s4 _ _ h3)
    · rintro i x σ H' hi hx ⟨p, y5, rfl, sm, hp0, hl⟩
      rw [lens_len] at hi hx
      have hk : c - 1 - i < c := by omega
      obtain rfl : x = .int ((2 ^ (c - (c - 1 - i)) : Nat) : Int) := Option.some.inj (hx.symm.trans (il_get (nl_get (lens_get hk))))
      have e1 : c - i = c - 1 - i + 1 := by omega
      have e2 : c - (i + 1) = c - 1 - i := by omega
      rw [e1] at hl
      refine ⟨_, rfl, _, rfl, _, rfl, _, rfl, _, rfl, g, pw, tn, p, c, n, c - 1 - i, q, r, rows c q r f (c - 1 - i), rows c q r f (c - 1 - i + 1), rfl, ⟨(hgA.same s05).same sm, hR, hk, lq (sm _ _ ((s2.trans (s3.trans (s4.trans s5))) _ _ h1)), lq (sm _ _ ((s3.trans (s4.trans s5)) _ _ h2)), lq hl, rows_poly hR hf _⟩, rows_poly hR hf _, by rw [hn]; rfl, fun p2 H6 s6 hp6 h6 => ?_⟩
      refine ⟨p2, _, rfl, sm.trans s6, s05.free (sm.free hp6), ?_⟩
      rw [h6, e2]
    · rintro σ H' ⟨p, y5, rfl, sm, hp0, hl⟩
      rw [lens_len, Nat.sub_self] at hl
      exact ⟨_, rfl, qq p H' (s05.trans sm) hp0 hl⟩
def sp_ts (K : PySem.W.Frag) : Sp := fun vs H Q _ => ∃ (g a : Addr) (c n : Nat) (q r : Int) (f : List Int), vs = [.ref g, .ref a] ∧ RingAt K H g n q r ∧ Rg c n q r ∧ SqL K H a (IL f) ∧ Poly n q f ∧
  ∀ p H', Same H H' → H p = none → H' p = some (.lst (IL (spec c q r f))) → Q (.ref p) H'
theorem ok_to_spectrum (T : TX K mg) : FnOk P w K mg base CX0 5 (A K "to_spectrum") (fdA K (A K "to_spectrum")) ["ring", "poly"] (sp_ts K) := by
  refine T.F_to_spectrum.ok sc_to_spectrum (fun vs H Q E h => ?_) (fun cdv A0 outer s0 H vs Q E hr h => ?_)
  · obtain ⟨g, a, c, n, q, r, f, rfl, _⟩ := h
    rfl
  · obtain ⟨g, a, c, n, q, r, f, rfl, hg0, hR, ha, hf, qq⟩ := h
    have n1 := hR.n_hi
    refine ⟨_, (pss_cons (ps_expr (pe_call (ok_check_polynomial T) (hr.mono (by decide)) (by rfl) T.g_check_polynomial T.F_check_polynomial.kp T.b_check_polynomial .nil pass0 (pa_cons (pv 0) (pa_cons (pv 1) pa_nil))))
      (pss_one (ps_ret (pe_call (ok_spectrum_row T) (hr.mono (by decide)) (by rfl) T.g_spectrum_row T.F_spectrum_row.kp T.b_spectrum_row .nil pass0 (pa_cons (pv 0) (pa_cons (pv 1) pa_nil)))))), ?_⟩
    refine ⟨_, rfl, _, rfl, g, a, n, q, r, f, rfl, hg0, ha, hf, by omega, fun H1 s1 => ?_⟩
    refine ⟨_, rfl, _, rfl, g, a, c, n, q, r, f, rfl, hg0.same s1, hR, s1.seq ha, hf, fun p H2 s2 hp h2 => qq p H2 (s1.trans s2) (s1.free hp) h2⟩
def sp_tp (K : PySem.W.Frag) : Sp := fun vs H Q _ => ∃ (x y : Addr) (q g a b c d : Int), vs = [.int q, .int g, .ref x, .ref y] ∧ SqT K H x [.int a, .int b] ∧ SqT K H y [.int c, .int d] ∧ 3 ≤ q ∧ q < 5000 ∧ (0 ≤ a ∧ a < q) ∧ (0 ≤ b ∧ b < q) ∧ (0 ≤ g ∧ g < q) ∧
  ∀ p H', Same H H' → H p = none → H' p = some (.tup [.int ((a * c + b * d * g) % q), .int ((a * d + b * c) % q)]) → Q (.ref p) H'
theorem ok_times_pair (T : TX K mg) : FnOk P w K mg base CX0 1 (A K "times_pair") (fdA K (A K "times_pair")) ["q", "root", "first", "second"] (sp_tp K) := by
  refine T.F_times_pair.ok sc_times_pair (fun vs H Q E h => ?_) (fun cdv A0 outer s0 H vs Q E hr h => ?_)
  · obtain ⟨x, y, q, g, a, b, c, d, rfl, _⟩ := h
    rfl
  · obtain ⟨x, y, q, g, a, b, c, d, rfl, hx, hy, q0, q1, ha, hb, hg, qq⟩ := h
    refine ⟨_, (pss_cons (ps_asg (pv 2) (pg_tup rfl (pgs_cons (pg_name (i := 4) sc_times_pair.nd rfl (Or.inl rfl)) (pgs_cons (pg_name (i := 5) sc_times_pair.nd rfl (Or.inl rfl)) pgs_nil))))
      (pss_cons (ps_asg (pv 3) (pg_tup rfl (pgs_cons (pg_name (i := 6) sc_times_pair.nd rfl (Or.inl rfl)) (pgs_cons (pg_name (i := 7) sc_times_pair.nd rfl (Or.inl rfl)) pgs_nil))))
      (pss_one (ps_ret (pe_tup (pa_cons (pe_op op_mod (pe_op op_add (pe_op op_mul (pv 4) (pv 6)) (pe_op op_mul (pe_op op_mul (pv 5) (pv 7)) (pv 1))) (pv 0)) (pa_cons (pe_op op_mod (pe_op op_add (pe_op op_mul (pv 4) (pv 7)) (pe_op op_mul (pv 5) (pv 6))) (pv 0)) pa_nil))))))), ?_⟩
    refine ⟨_, rfl, x, _, rfl, hx, rfl, _, _, rfl, _, [], rfl, rfl, ?_⟩
    refine ⟨_, rfl, y, _, rfl, hy, rfl, _, _, rfl, _, [], rfl, rfl, ?_⟩
    refine ⟨_, rfl, _, rfl, _, _, rfl, rfl, .inl ⟨by omega, by omega⟩, _, rfl, _, rfl, _, _, rfl, rfl, .inl ⟨by omega, by omega⟩, _, rfl, _, _, rfl, rfl, .inr ⟨by omega, by omega⟩, _, _, rfl, rfl, _, rfl, _, _, rfl, rfl, by show 0 < q; omega, ?_⟩
    refine ⟨_, rfl, _, rfl, _, _, rfl, rfl, .inl ⟨by omega, by omega⟩, _, rfl, _, rfl, _, _, rfl, rfl, .inl ⟨by omega, by omega⟩, _, _, rfl, rfl, _, rfl, _, _, rfl, rfl, by show 0 < q; omega, ?_⟩
    exact ⟨(by show 2 ≤ sizeLine; decide), fun p hp => qq p _ (same_upd hp) hp upd_same⟩
def sp_tr (K : PySem.W.Frag) : Sp := fun vs H Q _ => ∃ (ra x y : Addr) (q : Int) (m : Nat) (gs u v : List Int), vs = [.int q, .ref ra, .ref x, .ref y] ∧ SqL K H ra (IL gs) ∧ SqL K H x (IL u) ∧ SqL K H y (IL v) ∧ 3 ≤ q ∧ q < 5000 ∧ m ≤ 1000 ∧ Poly m q gs ∧ Poly (2 * m) q u ∧ Poly (2 * m) q v ∧
  ∀ p H', Same H H' → H p = none → H' p = some (.lst (IL (pl (tms q gs u v) m))) → Q (.ref p) H'
theorem ok_times_row (T : TX K mg) : FnOk P w K mg base CX0 2 (A K "times_row") (fdA K (A K "times_row")) ["q", "roots", "first", "second"] (sp_tr K) := by
  refine T.F_times_row.ok sc_times_row (fun vs H Q E h => ?_) (fun cdv A0 outer s0 H vs Q E hr h => ?_)
  · obtain ⟨ra, x, y, q, m, gs, u, v, rfl, _⟩ := h
    rfl
  · obtain ⟨ra, x, y, q, m, gs, u, v, rfl, hra, hx, hy, q0, q1, m1, hgs, hu, hv, qq⟩ := h
    refine ⟨_, (pss_cons (ps_set (i := 4) sc_times_row.nd rfl (Or.inl rfl) (pe_lst pa_nil))
      (pss_cons (ps_for PassesOwn.never rfl (pi_enum (by rfl) T.n_enumerate (pa_cons (pv 1) pa_nil)) (pg_tup rfl (pgs_cons (pg_name (i := 5) sc_times_row.nd rfl (Or.inl rfl)) (pgs_cons (pg_name (i := 6) sc_times_row.nd rfl (Or.inl rfl)) pgs_nil))) (pss_cons (ps_set (i := 7) sc_times_row.nd rfl (Or.inl rfl) (pe_tup (pa_cons (pe_ix ix_list (pv 2) (pe_op op_mul pe_int (pv 5)) (fun _ _ => rfl)) (pa_cons (pe_ix ix_list (pv 2) (pe_op op_add (pe_op op_mul pe_int (pv 5)) pe_int) (fun _ _ => rfl)) pa_nil))))
      (pss_cons (ps_set (i := 8) sc_times_row.nd rfl (Or.inl rfl) (pe_tup (pa_cons (pe_ix ix_list (pv 3) (pe_op op_mul pe_int (pv 5)) (fun _ _ => rfl)) (pa_cons (pe_ix ix_list (pv 3) (pe_op op_add (pe_op op_mul pe_int (pv 5)) pe_int) (fun _ _ => rfl)) pa_nil))))
      (pss_cons (ps_asg (pe_call (ok_times_pair T) (hr.mono (by decide)) (by rfl) T.g_times_pair T.F_times_pair.kp T.b_times_pair .nil pass0 (pa_cons (pv 0) (pa_cons (pv 6) (pa_cons (pv 7) (pa_cons (pv 8) pa_nil))))) (pg_tup rfl (pgs_cons (pg_name (i := 9) sc_times_row.nd rfl (Or.inl rfl)) (pgs_cons (pg_name (i := 10) sc_times_row.nd rfl (Or.inl rfl)) pgs_nil))))
      (pss_cons (ps_expr (pe_bm PySem.F.plainAttrs_list PySem.F.slot_list_append PySem.F.type_list_append mt_append (pv 4) (pa_cons (pv 9) pa_nil)))
      (pss_one (ps_expr (pe_bm PySem.F.plainAttrs_list PySem.F.slot_list_append PySem.F.type_list_append mt_append (pv 4) (pa_cons (pv 10) pa_nil)))))))))
      (pss_one (ps_ret (pv 4))))), ?_⟩
    refine ⟨Nat.zero_le _, fun p hp => ?_⟩
    refine ⟨_, rfl, ra, IL gs, rfl, (same_upd hp).seq hra, for_enum (K := K) (a := ra) (xs := IL gs) (fun i σ H' => ∃ u5 u6 u7 u8 u9 u10 : Option V, σ = [some (.int q), some (.ref ra), some (.ref x), some (.ref y), some (.ref p), u5, u6, u7, u8, u9, u10] ∧ Same H H' ∧ H' p = some (.lst (IL (pl (tms q gs u v) i)))) ⟨none, none, none, none, none, none, rfl, same_upd hp, upd_same⟩ (fun i σ H' _ ⟨_, _, _, _, _, _, _, s, _⟩ => s.seq hra) ?_ ?_⟩
    · rintro i z Tt σ H' hz ⟨u5, u6, u7, u8, u9, u10, rfl, sm, hl⟩ hT
      have hi : i < m := by
        have := (List.getElem?_eq_some_iff.mp hz).1
        rw [il_len, hgs.1] at this
        exact this
      obtain rfl : z = .int (ati gs i) := Option.some.inj (hz.symm.trans (il_get (get_ati (by rw [hgs.1]; exact hi))))
      have sT := sm.trans (same_upd (o := .tup [.int (i : Nat), .int (ati gs i)]) hT)
      have hl2 := same_upd (o := .tup [.int (i : Nat), .int (ati gs i)]) hT _ _ hl
      refine ⟨Tt, _, rfl, tq upd_same, rfl, _, _, rfl, _, [], rfl, rfl, ?_⟩
      revert sT hl2
      generalize (upd H' Tt (.tup [.int (i : Nat), .int (ati gs i)])) = H2
      intro s2 hl2
      refine ⟨_, rfl, _, rfl, _, _, rfl, rfl, .inl ⟨by decide, by decide⟩, _, _, _, _, rfl, rfl, s2.seq hx, at_il (j := 2 * i) (by omega) (get_ati (by rw [hu.1]; omega)), ?_⟩
      refine ⟨_, rfl, _, rfl, _, _, rfl, rfl, .inl ⟨by decide, by decide⟩, _, _, rfl, rfl, _, _, _, _, rfl, rfl, s2.seq hx, at_il (j := 2 * i + 1) (by omega) (get_ati (by rw [hu.1]; omega)), (by show 2 ≤ sizeLine; decide), fun t1 ht1 => ?_⟩
      have s3 := same_upd (o := .tup [.int (ati u (2 * i)), .int (ati u (2 * i + 1))]) ht1
      have e3 : (upd H2 t1 (.tup [.int (ati u (2 * i)), .int (ati u (2 * i + 1))])) t1 = some (.tup [.int (ati u (2 * i)), .int (ati u (2 * i + 1))]) := upd_same
      revert s3 e3
      generalize (upd H2 t1 (.tup [.int (ati u (2 * i)), .int (ati u (2 * i + 1))])) = H3
      intro s3 e3
      refine ⟨_, rfl, _, rfl, _, _, rfl, rfl, .inl ⟨by decide, by decide⟩, _, _, _, _, rfl, rfl, (s2.trans s3).seq hy, at_il (j := 2 * i) (by omega) (get_ati (by rw [hv.1]; omega)), ?_⟩
      refine ⟨_, rfl, _, rfl, _, _, rfl, rfl, .inl ⟨by decide, by decide⟩, _, _, rfl, rfl, _, _, _, _, rfl, rfl, (s2.trans s3).seq hy, at_il (j := 2 * i + 1) (by omega) (get_ati (by rw [hv.1]; omega)), (by show 2 ≤ sizeLine; decide), fun t2 ht2 => ?_⟩
      have s4 := same_upd (o := .tup [.int (ati v (2 * i)), .int (ati v (2 * i + 1))]) ht2
      have e4 : (upd H3 t2 (.tup [.int (ati v (2 * i)), .int (ati v (2 * i + 1))])) t2 = some (.tup [.int (ati v (2 * i)), .int (ati v (2 * i + 1))]) := upd_same
      revert s4 e4
      generalize (upd H3 t2 (.tup [.int (ati v (2 * i)), .int (ati v (2 * i + 1))])) = H4
      intro s4 e4
      refine ⟨_, rfl, _, rfl, _, rfl, _, rfl, t1, t2, q, ati gs i, ati u (2 * i), ati u (2 * i + 1), ati v (2 * i), ati v (2 * i + 1), rfl, tq (s4 _ _ e3), tq e4, q0, q1, hu.at (by omega), hu.at (by omega), hgs.at hi, fun t3 H5 s5 ht3 h5 => ?_⟩
      refine ⟨t3, _, rfl, tq h5, rfl, _, _, rfl, _, [], rfl, rfl, ?_⟩
      have s25 := s3.trans (s4.trans s5)
      have hlen : (IL (pl (tms q gs u v) i)).length = 2 * i := by rw [il_len, pl_len]
      refine ⟨_, rfl, .inl ⟨rfl, _, lq (s25 _ _ hl2)⟩, _, rfl, p, _, _, rfl, rfl, s25 _ _ hl2, line_lt (by rw [hlen]; omega), ?_⟩
      refine ⟨_, rfl, .inl ⟨rfl, _, lq upd_same⟩, _, rfl, p, _, _, rfl, rfl, upd_same, line_lt (by rw [List.length_append, hlen]; show 2 * i + 1 ≤ 100000; omega), ?_⟩
      refine ⟨_, _, _, _, _, _, rfl, fun b o e => ?_, ?_⟩
      · rw [upd_ne (ne_of_none e hp), upd_ne (ne_of_none e hp)]
        exact (s2.trans s25) _ _ e
      · rw [upd_same, List.append_assoc]
        refine congrArg (fun z => some (HO.lst z)) ?_
        show IL (pl (tms q gs u v) i) ++ IL [_, _] = IL (pl (tms q gs u v) i ++ [_, _])
        rw [il_app]
        refine congrArg (fun z => IL (pl (tms q gs u v) i ++ z)) ?_
        unfold tms modp mulp
        refine pair_eq (congrArg (· % q) ?_) (congrArg (· % q) ?_) <;> grind
    · rintro σ H' ⟨u5, u6, u7, u8, u9, u10, rfl, sm, hl⟩
      rw [il_len, hgs.1] at hl
      exact ⟨_, rfl, qq p H' sm hp hl⟩
theorem gis_poly {c : Nat} {q r : Int} (hq : 0 < q) : Poly (2 ^ c) q (gis c q r) := by
  refine ⟨by unfold gis; rw [List.length_map, List.length_range], fun x hx => ?_⟩
  unfold gis at hx
  obtain ⟨i, _, rfl⟩ := List.mem_map.mp hx
  exact ⟨Int.emod_nonneg _ (by omega), Int.emod_lt_of_pos _ hq⟩
theorem tms_conv {c n : Nat} {q r : Int} {f h : List Int} (hR : Rg c n q r) : pl (tms q (gis c q r) (spec c q r f) (spec c q r h)) (2 ^ c) = spec c q r (convL q n f h) := by
  rw [hR.n_eq]
  refine pl_congr fun i hi => ?_
  rw [rem_conv hR.rt]
  unfold tms
  rw [(spec_at hi).1, (spec_at hi).2, (spec_at hi).1, (spec_at hi).2]
  unfold gis
  rw [ati_map hi]
theorem convL_poly {n : Nat} {q : Int} {f h : List Int} (hq : 0 < q) : Poly n q (convL q n f h) := ⟨convL_len, convL_res hq⟩
def sp_mf (K : PySem.W.Frag) : Sp := fun vs H Q _ => ∃ (g a b : Addr) (c n : Nat) (q r : Int) (f h : List Int), vs = [.ref g, .ref a, .ref b] ∧ RingAt K H g n q r ∧ Rg c n q r ∧ SqL K H a (IL f) ∧ SqL K H b (IL h) ∧ Poly n q f ∧ Poly n q h ∧
  ∀ p H', Same H H' → H p = none → H' p = some (.lst (IL (convL q n f h))) → Q (.ref p) H'
theorem ok_multiply_fast (T : TX K mg) : FnOk P w K mg base CX0 5 (A K "multiply_fast") (fdA K (A K "multiply_fast")) ["ring", "first", "second"] (sp_mf K) := by
  refine T.F_multiply_fast.ok sc_multiply_fast (fun vs H Q E h => ?_) (fun cdv A0 outer s0 H vs Q E hr h => ?_)
  · obtain ⟨g, a, b, c, n, q, r, f, h, rfl, _⟩ := h
    rfl
  · obtain ⟨g, a, b, c, n, q, r, f, h, rfl, hg0, hR, ha, hb, hf, hh, qq⟩ := h
    have n1 := hR.n_hi
    have q0 := hR.q0
    have q1 := hR.q1
    have c1 := hR.c1
    have nn : n = 2 * 2 ^ c := by rw [hR.n_eq, Nat.pow_succ, Nat.mul_comm]
    refine ⟨_, (pss_cons (ps_expr (pe_call (ok_check_polynomial T) (hr.mono (by decide)) (by rfl) T.g_check_polynomial T.F_check_polynomial.kp T.b_check_polynomial .nil pass0 (pa_cons (pv 0) (pa_cons (pv 1) pa_nil))))
      (pss_cons (ps_expr (pe_call (ok_check_polynomial T) (hr.mono (by decide)) (by rfl) T.g_check_polynomial T.F_check_polynomial.kp T.b_check_polynomial .nil pass0 (pa_cons (pv 0) (pa_cons (pv 2) pa_nil))))
      (pss_cons (ps_set (i := 3) sc_multiply_fast.nd rfl (Or.inl rfl) (pe_call (ok_spectrum_row T) (hr.mono (by decide)) (by rfl) T.g_spectrum_row T.F_spectrum_row.kp T.b_spectrum_row .nil pass0 (pa_cons (pv 0) (pa_cons (pv 1) pa_nil))))
      (pss_cons (ps_set (i := 4) sc_multiply_fast.nd rfl (Or.inl rfl) (pe_call (ok_spectrum_row T) (hr.mono (by decide)) (by rfl) T.g_spectrum_row T.F_spectrum_row.kp T.b_spectrum_row .nil pass0 (pa_cons (pv 0) (pa_cons (pv 2) pa_nil))))
      (pss_one (ps_ret (pe_call (ok_polynomial_row T) (hr.mono (by decide)) (by rfl) T.g_polynomial_row T.F_polynomial_row.kp T.b_polynomial_row .nil pass0 (pa_cons (pv 0) (pa_cons (pe_call (ok_times_row T) (hr.mono (by decide)) (by rfl) T.g_times_row T.F_times_row.kp T.b_times_row .nil pass0 (pa_cons (pe_prop (pv 0) T.clRing T.p_q.choose_spec (ok_Ring_q T) (hr.mono (by decide)) T.b_Ring_q .nil pass0 rfl) (pa_cons (pe_call (ok_factor_roots T) (hr.mono (by decide)) (by rfl) T.g_factor_roots T.F_factor_roots.kp T.b_factor_roots .nil pass0 (pa_cons (pv 0) pa_nil)) (pa_cons (pv 3) (pa_cons (pv 4) pa_nil))))) pa_nil))))))))), ?_⟩
    refine ⟨_, rfl, _, rfl, g, a, n, q, r, f, rfl, hg0, ha, hf, by omega, fun H1 s1 => ?_⟩
    refine ⟨_, rfl, _, rfl, g, b, n, q, r, h, rfl, hg0.same s1, s1.seq hb, hh, by omega, fun H2 s2 => ?_⟩
    have s12 := s1.trans s2
    refine ⟨_, rfl, _, rfl, g, a, c, n, q, r, f, rfl, hg0.same s12, hR, s12.seq ha, hf, fun p3 H3 s3 hp3 h3 => ?_⟩
    have s13 := s12.trans s3
    refine ⟨_, rfl, _, rfl, g, b, c, n, q, r, h, rfl, hg0.same s13, hR, s13.seq hb, hh, fun p4 H4 s4 hp4 h4 => ?_⟩
    have s14 := s13.trans s4
    obtain ⟨dx, hg⟩ := id hg0
    have hg4 := s14 _ _ hg
    refine ⟨_, rfl, _, rfl, g, dx, _, rfl, hg4, g, dx, _, _, rfl, hg4, rfl, _, rfl, g, c, n, q, r, rfl, hg0.same s14, hR, fun p5 H5 s5 hp5 h5 => ?_⟩
    refine ⟨_, rfl, _, rfl, p5, p3, p4, q, 2 ^ c, gis c q r, spec c q r f, spec c q r h, rfl, lq h5, lq (s5 _ _ (s4 _ _ h3)), lq (s5 _ _ h4), by omega, by omega, by omega, gis_poly (by omega), by rw [← nn]; exact spec_poly hR hf, by rw [← nn]; exact spec_poly hR hh, fun p6 H6 s6 hp6 h6 => ?_⟩
    rw [tms_conv hR] at h6
    have s16 := s14.trans (s5.trans s6)
    exact ⟨g, p6, c, n, q, r, convL q n f h, rfl, hg0.same s16, hR, lq h6, convL_poly (by omega), fun p7 H7 s7 hp7 h7 => qq p7 H7 (s16.trans s7) (s16.free hp7) h7⟩
end
end Kx
set_option Elab.async false
set_option linter.all false
set_option maxRecDepth 100000
set_option maxHeartbeats 4000000
/-! polynomials.py, good ones. -/
namespace Kx
open PySem PySem.Spec PyProof.Rows L2
theorem sm_sum (F : Nat → Int) : ∀ k, ((List.range k).map F).sum = sm F k
  | 0 => rfl
  | k + 1 => by
    rw [List.range_succ, List.map_append, List.sum_append, sm_sum F k]
    show sm F k + (F k + 0) = sm F k + F k
    rw [Int.add_zero]
/-- the window of the backward row, of one place -/
def winL (n : Nat) (h : List Int) (t : Nat) : List Int := (List.range n).map fun i => sg (ati h) n t i
theorem winL_len {n : Nat} {h : List Int} {t : Nat} : (winL n h t).length = n := by
  unfold winL
  rw [List.length_map, List.length_range]
def backL (h : List Int) : List Int := (h.map (fun x => -x) ++ h).reverse
theorem backL_get {n t i : Nat} {h : List Int} (hh : h.length = n) (ht : t < n) (hi : i < n) : (backL h)[n - 1 - t + i]? = some (sg (ati h) n t i) := by
  unfold backL sg
  rw [List.getElem?_reverse (by rw [List.length_append, List.length_map]; omega), List.length_append, List.length_map, hh]
  by_cases c : i ≤ t
  · rw [if_pos c, List.getElem?_append_right (by rw [List.length_map]; omega), List.length_map, hh, show n + n - 1 - (n - 1 - t + i) - n = t - i by omega]
    exact get_ati (by omega)
  · rw [if_neg c, List.getElem?_append_left (by rw [List.length_map]; omega), List.getElem?_map, show n + n - 1 - (n - 1 - t + i) = n + t - i by omega, get_ati (by omega)]
    rfl
theorem backL_len {h : List Int} : (backL h).length = 2 * h.length := by
  unfold backL
  rw [List.length_reverse, List.length_append, List.length_map]
  omega
theorem cut_win {n t : Nat} {h : List Int} (hh : h.length = n) (ht : t < n) : cutV (IL (backL h)) (some ((n : Int) - 1 - (t : Int))) (some (2 * (n : Int) - 1 - (t : Int))) = IL (winL n h t) := by
  have hl : (IL (backL h)).length = 2 * n := by rw [il_len, backL_len, hh]
  unfold cutV
  have e1 : HT.sIx (IL (backL h)).length 0 (some ((n : Int) - 1 - (t : Int))) = n - 1 - t := by
    rw [hl]
    unfold HT.sIx
    simp only [Option.elim]
    first | omega | (split <;> omega)
  have e2 : HT.sIx (IL (backL h)).length (IL (backL h)).length (some (2 * (n : Int) - 1 - (t : Int))) = 2 * n - 1 - t := by
    rw [hl]
    unfold HT.sIx
    simp only [Option.elim]
    first | omega | (split <;> omega)
  rw [e1, e2, show 2 * n - 1 - t - (n - 1 - t) = n by omega]
  refine List.ext_getElem? fun i => ?_
  by_cases hi : i < n
  · rw [List.getElem?_take_of_lt hi, List.getElem?_drop, il_get (backL_get hh ht hi)]
    unfold winL
    rw [List.getElem?_map, List.getElem?_map, List.getElem?_range hi]
    rfl
  · rw [List.getElem?_eq_none (by rw [List.length_take]; omega), List.getElem?_eq_none (by rw [il_len, winL_len]; omega)]
section
variable {P : Program} {w : World} {K : PySem.W.Frag} {mg : Str → Option Value} {base : Heap}
def sp_ck (K : PySem.W.Frag) : Sp := fun vs H Q _ => ∃ (g a : Addr) (n : Nat) (q r : Int) (f : List Int), vs = [.ref g, .ref a] ∧ RingAt K H g n q r ∧ SqL K H a (IL f) ∧ Poly n q f ∧ n ≤ 1000 ∧ ∀ H', Same H H' → Q .non H'
theorem ok_check_poly (T : TX K mg) : FnOk P w K mg base CX0 3 (A K "check_poly") (fdA K (A K "check_poly")) ["ring", "poly"] (sp_ck K) := by
  refine T.F_check_poly.ok sc_check_poly (fun vs H Q E h => ?_) (fun cdv A0 outer s0 H vs Q E hr h => ?_)
  · obtain ⟨g, a, n, q, r, f, rfl, _⟩ := h
    rfl
  · obtain ⟨g, a, n, q, r, f, rfl, ⟨dx, hg⟩, ha, hf, hn, qq⟩ := h
    refine ⟨_, (pss_cons (ps_if (pt_cmpR op_ne (pe_callB call_len_seq (by rfl) T.n_len (by decide +kernel) (pa_cons (pv 1) pa_nil)) (pe_prop (pv 0) T.clRing T.p_n.choose_spec (ok_Ring_n T) (hr.mono (by decide)) T.b_Ring_n .nil pass0 rfl) (nomark _)) (pss_one ps_never) pss_nil)
      (pss_cons (ps_set (i := 2) sc_check_poly.nd rfl (Or.inl rfl) (pe_prop (pv 0) T.clRing T.p_q.choose_spec (ok_Ring_q T) (hr.mono (by decide)) T.b_Ring_q .nil pass0 rfl))
      (pss_one (ps_for PassesOwn.never rfl (pi_enum (by rfl) T.n_enumerate (pa_cons (pv 1) pa_nil)) (pg_tup rfl (pgs_cons (pg_name (i := 3) sc_check_poly.nd rfl (Or.inl rfl)) (pgs_cons (pg_name (i := 4) sc_check_poly.nd rfl (Or.inl rfl)) pgs_nil))) (pss_one (ps_if (PW.pt (pw_or (pt_not (pt_val (pe_call (ok_whole T) (hr.mono (by decide)) (by rfl) T.g_whole T.F_whole.kp T.b_whole .nil pass0 (pa_cons (pv 4) pa_nil)))) (pw_or (pt_cmpR op_lt (pv 4) pe_int (nomark _)) (pw_or1 (pt_cmpR op_ge (pv 4) (pv 2) (nomark _)))))) (pss_one ps_never) pss_nil)))))), ?_⟩
    refine ⟨_, rfl, _, _, rfl, .inl ha, _, rfl, g, dx, _, rfl, hg, g, dx, _, _, rfl, hg, rfl, rfl, _, rfl, ?_⟩
    have e0 : (decide (V.int ((IL f).length : Int) = V.int n)) = true := decide_eq_true (congrArg V.int (by rw [il_len, hf.1]))
    dsimp only
    rw [e0]
    refine iteF ⟨_, rfl, g, dx, _, rfl, hg, g, dx, _, _, rfl, hg, rfl, ?_⟩
    refine ⟨_, rfl, a, IL f, rfl, ha, for_enum (K := K) (a := a) (xs := IL f) (fun i σ H' => ∃ u3 u4 : Option V, σ = [some (.ref g), some (.ref a), some (.int q), u3, u4] ∧ Same H H') ⟨none, none, rfl, .refl _⟩ (fun i σ H' _ ⟨_, _, _, s⟩ => s.seq ha) ?_ ?_⟩
    · rintro i x Tt σ H' hx ⟨u3, u4, rfl, sm⟩ hT
      rw [List.getElem?_map] at hx
      obtain ⟨z, hz, rfl⟩ := Option.map_eq_some_iff.mp hx
      have rz := hf.2 z (List.mem_of_getElem? hz)
      refine ⟨Tt, _, rfl, tq upd_same, rfl, _, _, rfl, _, [], rfl, rfl, ?_⟩
      refine ⟨_, rfl, _, _, rfl, .int z, _, rfl, iteF ⟨_, rfl, _, _, rfl, rfl, _, rfl, ?_⟩⟩
      rw [decide_eq_false (by omega : ¬ z < 0)]
      refine iteF ⟨_, rfl, _, rfl, _, _, rfl, rfl, _, rfl, ?_⟩
      rw [decide_eq_false (by omega : ¬ q ≤ z)]
      exact iteF ⟨_, _, rfl, sm.trans (same_upd hT)⟩
    · rintro σ H' ⟨u3, u4, rfl, sm⟩
      exact qq _ sm
def sp_si (K : PySem.W.Frag) : Sp := fun vs H Q _ => ∃ (a b : Addr) (n : Nat) (q : Int) (f h : List Int), vs = [.int q, .ref a, .ref b] ∧ SqL K H a (IL f) ∧ SqL K H b (IL h) ∧ f.length = n ∧ h.length = n ∧ 0 < q ∧ n ≤ 1000 ∧ ∀ p H', Same H H' → H p = none → H' p = some (.lst (IL (addL q n f h))) → Q (.ref p) H'
theorem addL_succ {q : Int} {n : Nat} {f h : List Int} : addL q (n + 1) f h = addL q n f h ++ [(ati f n + ati h n) % q] := by
  unfold addL
  rw [List.range_succ, List.map_append]
  rfl
theorem ok_sum_items (T : TX K mg) : FnOk P w K mg base CX0 1 (A K "sum_items") (fdA K (A K "sum_items")) ["q", "first", "second"] (sp_si K) := by
  refine T.F_sum_items.ok sc_sum_items (fun vs H Q E h => ?_) (fun cdv A0 outer s0 H vs Q E hr h => ?_)
  · obtain ⟨a, b, n, q, f, h, rfl, _⟩ := h
    rfl
  · obtain ⟨a, b, n, q, f, h, rfl, ha, hb, hf, hh, q0, n1, qq⟩ := h
    refine ⟨_, (pss_one (ps_ret (pe_lc (own := [("one", 3), ("two", 4)]) (g := gTup K 2 (gCons (gName 3) (gCons (gName 4) gNil))) (tt := tYes) rfl sc_sum_items.nd (pi_zip (by rfl) T.n_zip (pa_cons (pv 1) (pa_cons (pv 2) pa_nil))) (blkOk_by (N := N_sum_items) (sc := defScope s_sum_items) (by decide +kernel)) (fun _ _ _ _ _ => pg_tup rfl (pgs_cons (pg_name (i := 3) sc_sum_items.nd rfl (Or.inl rfl)) (pgs_cons (pg_name (i := 4) sc_sum_items.nd rfl (Or.inl rfl)) pgs_nil))) (fun _ _ _ _ _ => pts_nil) (fun _ _ _ _ _ => (pe_op op_mod (pe_op op_add (pv 3) (pv 4)) (pv 0)))))), ?_⟩
    refine ⟨_, rfl, _, rfl, a, b, IL f, IL h, rfl, ha, hb, fun D hD => ?_⟩
    refine lc_zip (K := K) (a := a) (b := b) (xs := IL f) (ys := IL h) (by rw [il_len, il_len, hf, hh]) (fun i H2 => Same H H2 ∧ H2 D = some (.lst (IL (addL q i f h)))) ⟨same_upd hD, upd_same⟩ (fun i H2 _ z => ⟨z.1.seq ha, z.1.seq hb⟩) ?_ ?_
    · rintro i x y Tt H2 hx hy ⟨s2, h2⟩ hT
      have hi : i < n := by
        have := (List.getElem?_eq_some_iff.mp hx).1
        rw [il_len, hf] at this
        exact this
      obtain rfl : x = .int (ati f i) := Option.some.inj (hx.symm.trans (il_get (get_ati (by omega))))
      obtain rfl : y = .int (ati h i) := Option.some.inj (hy.symm.trans (il_get (get_ati (by omega))))
      refine ⟨Tt, _, rfl, tq upd_same, rfl, _, _, rfl, _, [], rfl, rfl, rfl, ?_⟩
      refine ⟨_, rfl, _, rfl, _, _, rfl, rfl, _, rfl, _, _, rfl, rfl, by show 0 < q; omega, _, same_upd hT _ _ h2, line_lt ?_, fun b o e => ?_, ?_⟩
      · rw [il_len, addL_len]
        omega
      · rw [upd_ne (ne_of_none e hD)]
        exact (s2.trans (same_upd hT)) _ _ e
      · rw [upd_same, addL_succ, ← il_app]
        rfl
    · rintro H2 ⟨s2, h2⟩
      rw [il_len, hf] at h2
      exact qq D H2 s2 hD h2
def sp_pi (K : PySem.W.Frag) : Sp := fun vs H Q _ => ∃ (a b : Addr) (n : Nat) (q : Int) (f h : List Int), vs = [.int q, .ref a, .ref b] ∧ SqL K H a (IL f) ∧ SqL K H b (IL h) ∧ Poly n q f ∧ h.length = n ∧ 0 < q ∧ q < 5000 ∧ n ≤ 1000 ∧ ∀ p H', Same H H' → H p = none → H' p = some (.lst (IL (convL q n f h))) → Q (.ref p) H'
theorem take_neg {h : List Int} {i : Nat} {y : Int} (e : h[i]? = some y) : ((h.take (i + 1)).map fun x => -x) = (h.take i).map (fun x => -x) ++ [-y] := by
  rw [List.take_add_one, e, List.map_append]
  rfl
/-- the products, up to k -/
def prL (n : Nat) (f h : List Int) (t k : Nat) : List Int := (List.range k).map fun i => ati f i * sg (ati h) n t i
theorem prL_succ {n : Nat} {f h : List Int} {t k : Nat} : prL n f h t (k + 1) = prL n f h t k ++ [ati f k * sg (ati h) n t k] := by
  unfold prL
  rw [List.range_succ, List.map_append]
  rfl
def conK (q : Int) (n : Nat) (f h : List Int) (k : Nat) : List Int := (List.range k).map fun t => conv (ati f) (ati h) n t % q
theorem conK_succ {q : Int} {n : Nat} {f h : List Int} {k : Nat} : conK q n f h (k + 1) = conK q n f h k ++ [conv (ati f) (ati h) n k % q] := by
  unfold conK
  rw [List.range_succ, List.map_append]
  rfl
theorem ok_product_items (T : TX K mg) : FnOk P w K mg base CX0 1 (A K "product_items") (fdA K (A K "product_items")) ["q", "first", "second"] (sp_pi K) := by
  refine T.F_product_items.ok sc_product_items (fun vs H Q E h => ?_) (fun cdv A0 outer s0 H vs Q E hr h => ?_)
  · obtain ⟨a, b, n, q, f, h, rfl, _⟩ := h
    rfl
  · obtain ⟨a, b, n, q, f, h, rfl, ha, hb, hf, hh, q0, q1, n1, qq⟩ := h
    refine ⟨_, (pss_cons (ps_set (i := 3) sc_product_items.nd rfl (Or.inl rfl) (pe_callB call_len_seq (by rfl) T.n_len (by decide +kernel) (pa_cons (pv 1) pa_nil)))
      (pss_cons (ps_set (i := 4) sc_product_items.nd rfl (Or.inl rfl) (pe_op op_cat (pe_lc (own := [("item", 10)]) (g := gName 10) (tt := tYes) rfl sc_product_items.nd (pi_list (pv 2)) (blkOk_by (N := N_product_items) (sc := defScope s_product_items) (by decide +kernel)) (fun _ _ _ _ _ => pg_name (i := 10) sc_product_items.nd rfl (Or.inl rfl)) (fun _ _ _ _ _ => pts_nil) (fun _ _ _ _ _ => (pe_un un_neg (pv 10)))) (pe_callTy call_list_of (by rfl) T.n_list (by decide +kernel) (pa_cons (pv 2) pa_nil))))
      (pss_cons (ps_set (i := 5) sc_product_items.nd rfl (Or.inl rfl) (pe_revL (pv 4)))
      (pss_cons (ps_set (i := 6) sc_product_items.nd rfl (Or.inl rfl) (pe_lst pa_nil))
      (pss_cons (ps_for PassesOwn.never rfl (pi_range1 (by rfl) T.n_range (pa_cons (pv 3) pa_nil)) (pg_name (i := 7) sc_product_items.nd rfl (Or.inl rfl)) (pss_cons (ps_set (i := 8) sc_product_items.nd rfl (Or.inl rfl) (pe_slice sl_list (pv 5) (po_some (pe_op op_sub (pe_op op_sub (pv 3) pe_int) (pv 7))) (po_some (pe_op op_sub (pe_op op_sub (pe_op op_mul pe_int (pv 3)) pe_int) (pv 7)))))
      (pss_cons (ps_set (i := 9) sc_product_items.nd rfl (Or.inl rfl) (pe_callB (cr_sum rfl) (by rfl) T.n_sum (by decide +kernel) (pa_cons (pe_lc (own := [("one", 11), ("two", 12)]) (g := gTup K 2 (gCons (gName 11) (gCons (gName 12) gNil))) (tt := tYes) rfl sc_product_items.nd (pi_zip (by rfl) T.n_zip (pa_cons (pv 1) (pa_cons (pv 8) pa_nil))) (blkOk_by (N := N_product_items) (sc := defScope s_product_items) (by decide +kernel)) (fun _ _ _ _ _ => pg_tup rfl (pgs_cons (pg_name (i := 11) sc_product_items.nd rfl (Or.inl rfl)) (pgs_cons (pg_name (i := 12) sc_product_items.nd rfl (Or.inl rfl)) pgs_nil))) (fun _ _ _ _ _ => pts_nil) (fun _ _ _ _ _ => (pe_op op_mul (pv 11) (pv 12)))) pa_nil)))
      (pss_one (ps_expr (pe_bm PySem.F.plainAttrs_list PySem.F.slot_list_append PySem.F.type_list_append mt_append (pv 6) (pa_cons (pe_op op_mod (pv 9) (pv 0)) pa_nil)))))))
      (pss_one (ps_ret (pv 6)))))))), ?_⟩
    refine ⟨_, rfl, _, _, rfl, .inl ha, ?_⟩
    refine ⟨_, rfl, b, rfl, ⟨_, hb⟩, fun D hD => ?_⟩
    refine lc_list (K := K) (a := b) (xs := IL h) (fun i H2 => Same H H2 ∧ H2 D = some (.lst (IL ((h.take i).map fun x => -x)))) ⟨same_upd hD, upd_same⟩ (fun i H2 _ z => z.1.seq hb) ?_ ?_
    · rintro i x H2 hx ⟨s2, h2⟩
      rw [List.getElem?_map] at hx
      obtain ⟨y, hy, rfl⟩ := Option.map_eq_some_iff.mp hx
      have hi := (List.getElem?_eq_some_iff.mp hy).1
      refine ⟨rfl, _, rfl, _, rfl, _, h2, line_lt ?_, fun b o e => ?_, ?_⟩
      · rw [il_len, List.length_map, List.length_take]
        omega
      · rw [upd_ne (ne_of_none e hD)]
        exact s2 _ _ e
      · rw [upd_same, take_neg hy, ← il_app]
        rfl
    · rintro H2 ⟨s2, h2⟩
      rw [il_len, List.take_of_length_le (Nat.le_refl _)] at h2
      refine ⟨_, rfl, b, _, rfl, .inl (s2.seq hb), fun D2 hD2 => ?_⟩
      refine ⟨_, _, _, _, rfl, rfl, same_upd hD2 _ _ h2, upd_same, line_of ?_, fun p3 hp3 => ?_⟩
      · rw [il_len, il_len, List.length_map]
        omega
      have s3 : Same H (upd (upd H2 D2 (.lst (IL h))) p3 (.lst (IL (h.map fun x => -x) ++ IL h))) := s2.trans ((same_upd hD2).trans (same_upd hp3))
      have h3 : (upd (upd H2 D2 (.lst (IL h))) p3 (.lst (IL (h.map fun x => -x) ++ IL h))) p3 = some (.lst (IL (h.map (fun x => -x) ++ h))) := by
        rw [upd_same, il_app]
      revert s3 h3
      generalize (upd (upd H2 D2 (.lst (IL h))) p3 (.lst (IL (h.map fun x => -x) ++ IL h))) = H3
      intro s3 h3
      refine ⟨_, rfl, p3, _, rfl, lq h3, fun p4 hp4 => ?_⟩
      have s4 : Same H (upd H3 p4 (.lst (IL (h.map (fun x => -x) ++ h)).reverse)) := s3.trans (same_upd hp4)
      have h4 : (upd H3 p4 (.lst (IL (h.map (fun x => -x) ++ h)).reverse)) p4 = some (.lst (IL (backL h))) := by
        rw [upd_same]
        exact congrArg (fun z => some (HO.lst z)) List.map_reverse.symm
      revert s4 h4
      generalize (upd H3 p4 (.lst (IL (h.map (fun x => -x) ++ h)).reverse)) = H4
      intro s4 h4
      refine ⟨Nat.zero_le _, fun p hp => ?_⟩
      have hp0 : H p = none := s4.free hp
      have hlen : ((IL f).length : Int) = n := by rw [il_len, hf.1]
      refine ⟨_, rfl, _, rfl, by rw [hlen]; omega, by rw [hlen]; omega, ?_⟩
      have eN : (((IL f).length : Nat) : Int).toNat = n := by rw [hlen]; omega
      refine for_range (lo := 0) (n := (((IL f).length : Nat) : Int).toNat) (fun t σ H' => ∃ (u7 u8 u9 u10 u11 u12 : Option V), σ = [some (.int q), some (.ref a), some (.ref b), some (.int ((IL f).length : Int)), some (.ref p3), some (.ref p4), some (.ref p), u7, u8, u9, u10, u11, u12] ∧ Same H H' ∧ H' p4 = some (.lst (IL (backL h))) ∧ H' p = some (.lst (IL (conK q n f h t)))) ⟨none, none, none, none, none, none, rfl, s4.trans (same_upd hp), same_upd hp _ _ h4, upd_same⟩ ?_ ?_
      · rintro t σ H' ht ⟨u7, u8, u9, u10, u11, u12, rfl, sm, hb4, hl⟩
        rw [eN] at ht
        refine ⟨_, rfl, _, rfl, _, _, rfl, rfl, _, rfl, _, _, rfl, rfl, _, rfl, _, rfl, _, _, rfl, rfl, .inl ⟨by decide, by decide⟩, _, _, rfl, rfl, _, rfl, _, _, rfl, rfl, _, rfl, p4, _, rfl, lq hb4, fun p5 hp5 => ?_⟩
        have ecut : cutV (IL (backL h)) (some (((IL f).length : Int) - 1 - ((0 : Int) + (t : Int)))) (some (2 * ((IL f).length : Int) - 1 - ((0 : Int) + (t : Int)))) = IL (winL n h t) := by
          rw [hlen, Int.zero_add]
          exact cut_win hh ht
        have s5 := same_upd (o := .lst (IL (winL n h t))) hp5
        have h5 : (upd H' p5 (.lst (IL (winL n h t)))) p5 = some (.lst (IL (winL n h t))) := upd_same
        rw [ecut]
        revert s5 h5
        generalize (upd H' p5 (.lst (IL (winL n h t)))) = H5
        intro s5 h5
        have s05 := sm.trans s5
        refine ⟨_, rfl, _, rfl, a, p5, IL f, IL (winL n h t), rfl, s05.seq ha, lq h5, fun D6 hD6 => ?_⟩
        refine lc_zip (K := K) (a := a) (b := p5) (xs := IL f) (ys := IL (winL n h t)) (by rw [il_len, il_len, hf.1, winL_len]) (fun i H6 => Same H5 H6 ∧ H6 D6 = some (.lst (IL (prL n f h t i)))) ⟨same_upd hD6, upd_same⟩ (fun i H6 _ z => ⟨(s05.trans z.1).seq ha, lq (z.1 _ _ h5)⟩) ?_ ?_
        · rintro i x y Tt H6 hx hy ⟨s6, h6⟩ hT
          have hi : i < n := by
            have := (List.getElem?_eq_some_iff.mp hx).1
            rw [il_len, hf.1] at this
            exact this
          obtain rfl : x = .int (ati f i) := Option.some.inj (hx.symm.trans (il_get (get_ati (by rw [hf.1]; omega))))
          obtain rfl : y = .int (sg (ati h) n t i) := Option.some.inj (hy.symm.trans (il_get (by unfold winL; rw [List.getElem?_map, List.getElem?_range hi]; rfl)))
          have fi := hf.at hi
          refine ⟨Tt, _, rfl, tq upd_same, rfl, _, _, rfl, _, [], rfl, rfl, rfl, ?_⟩
          refine ⟨_, rfl, _, rfl, _, _, rfl, rfl, .inl ⟨by omega, by omega⟩, _, same_upd hT _ _ h6, line_lt ?_, fun b o e => ?_, ?_⟩
          · rw [il_len]
            unfold prL
            rw [List.length_map, List.length_range]
            omega
          · rw [upd_ne (ne_of_none e hD6)]
            exact (s6.trans (same_upd hT)) _ _ e
          · rw [upd_same, prL_succ, ← il_app]
            rfl
        · rintro H6 ⟨s6, h6⟩
          rw [il_len, hf.1] at h6
          have esum : (prL n f h t n).sum = conv (ati f) (ati h) n t := sm_sum _ _
          have s56 := s5.trans s6
          refine ⟨D6, prL n f h t n, rfl, lq h6, ?_⟩
          rw [esum]
          refine ⟨_, rfl, .inl ⟨rfl, _, lq (s56 _ _ hl)⟩, _, rfl, _, rfl, _, _, rfl, rfl, by show 0 < q; omega, p, _, _, rfl, rfl, s56 _ _ hl, line_lt ?_, _, _, _, _, _, _, rfl, fun b o e => ?_, ?_, ?_⟩
          · rw [il_len]
            unfold conK
            rw [List.length_map, List.length_range]
            omega
          · rw [upd_ne (ne_of_none e hp0)]
            exact (sm.trans s56) _ _ e
          · rw [upd_ne (ne_of_none h4 hp)]
            exact s56 _ _ hb4
          · rw [upd_same, conK_succ, ← il_app]
            rfl
      · rintro σ H' ⟨u7, u8, u9, u10, u11, u12, rfl, sm, hb4, hl⟩
        rw [eN] at hl
        exact ⟨_, rfl, qq p H' sm hp0 hl⟩
def sp_add (K : PySem.W.Frag) : Sp := fun vs H Q _ => ∃ (g a b : Addr) (c n : Nat) (q r : Int) (f h : List Int), vs = [.ref g, .ref a, .ref b] ∧ RingAt K H g n q r ∧ Rg c n q r ∧ SqL K H a (IL f) ∧ SqL K H b (IL h) ∧ Poly n q f ∧ Poly n q h ∧
  ∀ p H', Same H H' → H p = none → H' p = some (.lst (IL (addL q n f h))) → Q (.ref p) H'
theorem ok_add (T : TX K mg) : FnOk P w K mg base CX0 4 (A K "add") (fdA K (A K "add")) ["ring", "first", "second"] (sp_add K) := by
  refine T.F_add.ok sc_add (fun vs H Q E h => ?_) (fun cdv A0 outer s0 H vs Q E hr h => ?_)
  · obtain ⟨g, a, b, c, n, q, r, f, h, rfl, _⟩ := h
    rfl
  · obtain ⟨g, a, b, c, n, q, r, f, h, rfl, hg0, hR, ha, hb, hf, hh, qq⟩ := h
    have n1 := hR.n_hi
    have q0 := hR.q0
    refine ⟨_, (pss_cons (ps_expr (pe_call (ok_check_poly T) (hr.mono (by decide)) (by rfl) T.g_check_poly T.F_check_poly.kp T.b_check_poly .nil pass0 (pa_cons (pv 0) (pa_cons (pv 1) pa_nil))))
      (pss_cons (ps_expr (pe_call (ok_check_poly T) (hr.mono (by decide)) (by rfl) T.g_check_poly T.F_check_poly.kp T.b_check_poly .nil pass0 (pa_cons (pv 0) (pa_cons (pv 2) pa_nil))))
      (pss_one (ps_ret (pe_call (ok_sum_items T) (hr.mono (by decide)) (by rfl) T.g_sum_items T.F_sum_items.kp T.b_sum_items .nil pass0 (pa_cons (pe_prop (pv 0) T.clRing T.p_q.choose_spec (ok_Ring_q T) (hr.mono (by decide)) T.b_Ring_q .nil pass0 rfl) (pa_cons (pv 1) (pa_cons (pv 2) pa_nil)))))))), ?_⟩
    refine ⟨_, rfl, _, rfl, g, a, n, q, r, f, rfl, hg0, ha, hf, by omega, fun H1 s1 => ?_⟩
    refine ⟨_, rfl, _, rfl, g, b, n, q, r, h, rfl, hg0.same s1, s1.seq hb, hh, by omega, fun H2 s2 => ?_⟩
    have s12 := s1.trans s2
    obtain ⟨dx, hg⟩ := id hg0
    have hg2 := s12 _ _ hg
    exact ⟨_, rfl, g, dx, _, rfl, hg2, g, dx, _, _, rfl, hg2, rfl, _, rfl, _, rfl, a, b, n, q, f, h, rfl, s12.seq ha, s12.seq hb, hf.1, hh.1, by omega, by omega, fun p H3 s3 hp h3 => qq p H3 (s12.trans s3) (s12.free hp) h3⟩
def sp_mp (K : PySem.W.Frag) : Sp := fun vs H Q _ => ∃ (g a b : Addr) (c n : Nat) (q r : Int) (f h : List Int), vs = [.ref g, .ref a, .ref b] ∧ RingAt K H g n q r ∧ Rg c n q r ∧ SqL K H a (IL f) ∧ SqL K H b (IL h) ∧ Poly n q f ∧ Poly n q h ∧
  ∀ p H', Same H H' → H p = none → H' p = some (.lst (IL (convL q n f h))) → Q (.ref p) H'
theorem ok_multiply_plain (T : TX K mg) : FnOk P w K mg base CX0 4 (A K "multiply_plain") (fdA K (A K "multiply_plain")) ["ring", "first", "second"] (sp_mp K) := by
  refine T.F_multiply_plain.ok sc_multiply_plain (fun vs H Q E h => ?_) (fun cdv A0 outer s0 H vs Q E hr h => ?_)
  · obtain ⟨g, a, b, c, n, q, r, f, h, rfl, _⟩ := h
    rfl
  · obtain ⟨g, a, b, c, n, q, r, f, h, rfl, hg0, hR, ha, hb, hf, hh, qq⟩ := h
    have n1 := hR.n_hi
    have q0 := hR.q0
    have q1 := hR.q1
    refine ⟨_, (pss_cons (ps_expr (pe_call (ok_check_poly T) (hr.mono (by decide)) (by rfl) T.g_check_poly T.F_check_poly.kp T.b_check_poly .nil pass0 (pa_cons (pv 0) (pa_cons (pv 1) pa_nil))))
      (pss_cons (ps_expr (pe_call (ok_check_poly T) (hr.mono (by decide)) (by rfl) T.g_check_poly T.F_check_poly.kp T.b_check_poly .nil pass0 (pa_cons (pv 0) (pa_cons (pv 2) pa_nil))))
      (pss_one (ps_ret (pe_call (ok_product_items T) (hr.mono (by decide)) (by rfl) T.g_product_items T.F_product_items.kp T.b_product_items .nil pass0 (pa_cons (pe_prop (pv 0) T.clRing T.p_q.choose_spec (ok_Ring_q T) (hr.mono (by decide)) T.b_Ring_q .nil pass0 rfl) (pa_cons (pv 1) (pa_cons (pv 2) pa_nil)))))))), ?_⟩
    refine ⟨_, rfl, _, rfl, g, a, n, q, r, f, rfl, hg0, ha, hf, by omega, fun H1 s1 => ?_⟩
    refine ⟨_, rfl, _, rfl, g, b, n, q, r, h, rfl, hg0.same s1, s1.seq hb, hh, by omega, fun H2 s2 => ?_⟩
    have s12 := s1.trans s2
    obtain ⟨dx, hg⟩ := id hg0
    have hg2 := s12 _ _ hg
    exact ⟨_, rfl, g, dx, _, rfl, hg2, g, dx, _, _, rfl, hg2, rfl, _, rfl, _, rfl, a, b, n, q, f, h, rfl, s12.seq ha, s12.seq hb, hf, hh.1, by omega, by omega, by omega, fun p H3 s3 hp h3 => qq p H3 (s12.trans s3) (s12.free hp) h3⟩
end
end Kx
set_option Elab.async false
set_option linter.all false
set_option maxRecDepth 100000
set_option maxHeartbeats 4000000
/-! transform.py: what is refused. -/
namespace Kx
open PySem PySem.Spec PyProof.Rows L2
section
variable {P : Program} {w : World} {K : PySem.W.Frag} {mg : Str → Option Value} {base : Heap}
theorem Fun.okN {x qual : Str} {st : Stmt} {f : Addr} {fd : FuncData} {N ps : List Str} {k : Nat} {sp : Sp} (F : Fun K x qual st f fd) (S : FnScope N ps (defScope st)) (len : ∀ vs H Q E, sp vs H Q E → vs.length = ps.length)
    (hbody : ∀ (cdv : Value) (A : Around) (outer : List Env) (s : Shared) (H : Hp) (vs : List V) (Q : VK) (E : XK), Room k (A.deeper (envOfC qual (defScope st) s.heap.objs.size f cdv)) → sp vs H Q E →
      ∃ t, PSs (cxOf (L2N.CX P w) P w K mg base N qual (defScope st) f cdv A outer s H E) (defBody st) t ∧ t { nx := fun _ H' => Q .non H', rt := Q } (start N vs) H) : FnOk P w K mg base (L2N.CX P w) (k + 1) f fd ps sp := by
  obtain ⟨oc, od, kV, doc, pm, an, cdv, ct, osl, rfl, lk, hcd⟩ := F.ex
  exact fn_of lk hcd S len fun A outer s H vs Q E hr hsp => hbody cdv A outer s H vs Q E hr hsp
theorem tkN {N : List Str} {qual : Str} {scope : Scope} {f : Addr} {cd : Value} {A : Around} {outer : List Env} {s : Shared} {H : Hp} {E : XK} : L2N.Takes (cxOf (L2N.CX P w) P w K mg base N qual scope f cd A outer s H E) (fun cls d _ H => E cls d H) :=
  L2N.takes_of rfl rfl rfl rfl
/-! ### the two classes' __init__ -/
def sp_bi (K : PySem.W.Frag) : Sp := fun vs H Q _ => ∃ (a : Addr) (i : Int), vs = [.ref a, .int i] ∧ H a = some (exo a (A K "BadItem") none) ∧ ∀ dx, H dx = none → dx ≠ a → Q .non (upd (upd H dx (exd dx [("index", .int i)])) a (exo a (A K "BadItem") (some dx)))
theorem ok_BadItem_init (T : TX K mg) : FnOk P w K mg base CX0 1 (He.ma K (He.ga K "BadItem") "__init__") (fdA K (He.ma K (He.ga K "BadItem") "__init__")) ["self", "index"] (sp_bi K) := by
  refine T.F_BadItem_init.ok sc_BadItem_init (fun vs H Q E h => ?_) (fun cdv A0 outer s0 H vs Q E hr h => ?_)
  · obtain ⟨a, i, rfl, _⟩ := h
    rfl
  · obtain ⟨a, i, rfl, ha, qq⟩ := h
    refine ⟨_, (pss_one (ps_ost (pv 0) (pv 1))), ?_⟩
    exact ⟨_, rfl, _, rfl, a, _, rfl, T.oex_BadItem, T.no_BadItem_index, .inl ⟨ha, fun dx n ne => qq dx n ne⟩⟩
def sp_bl (K : PySem.W.Frag) : Sp := fun vs H Q _ => ∃ (a : Addr) (i j : Int), vs = [.ref a, .int i, .int j] ∧ H a = some (exo a (A K "BadLength") none) ∧ ∀ dx, H dx = none → dx ≠ a → Q .non (upd (upd (upd H dx (exd dx [("expected", .int i)])) a (exo a (A K "BadLength") (some dx))) dx (exd dx [("found", .int j), ("expected", .int i)]))
theorem ok_BadLength_init (T : TX K mg) : FnOk P w K mg base CX0 1 (He.ma K (He.ga K "BadLength") "__init__") (fdA K (He.ma K (He.ga K "BadLength") "__init__")) ["self", "expected", "found"] (sp_bl K) := by
  refine T.F_BadLength_init.ok sc_BadLength_init (fun vs H Q E h => ?_) (fun cdv A0 outer s0 H vs Q E hr h => ?_)
  · obtain ⟨a, i, j, rfl, _⟩ := h
    rfl
  · obtain ⟨a, i, j, rfl, ha, qq⟩ := h
    refine ⟨_, (pss_cons (ps_ost (pv 0) (pv 1))
      (pss_one (ps_ost (pv 0) (pv 2)))), ?_⟩
    refine ⟨_, rfl, _, rfl, a, _, rfl, T.oex_BadLength, T.no_BadLength_expected, .inl ⟨ha, fun dx n ne => ?_⟩⟩
    exact ⟨_, rfl, _, rfl, a, _, rfl, T.oex_BadLength, T.no_BadLength_found, .inr ⟨dx, _, upd_same, by rw [upd_ne ne, upd_same], (by show 1 ≤ 900; decide), qq dx n ne⟩⟩
/-! ### rows that are refused -/
def FltOf (q : Int) (n : Nat) (xs : List V) (nm : Str) (fs : List (Str × V)) : Prop :=
  (xs.length ≠ n ∧ nm = "BadLength" ∧ fs = ([("found", .int xs.length), ("expected", .int n)] : List (Str × V))) ∨
  (xs.length = n ∧ ∃ (i : Nat) (x : V), xs[i]? = some x ∧ inR 0 (q - 1) x = false ∧ (∀ j y, j < i → xs[j]? = some y → inR 0 (q - 1) y = true) ∧ nm = "BadItem" ∧ fs = ([("index", .int i)] : List (Str × V)))
/-- the error that comes out -/
def Out (K : PySem.W.Frag) (H : Hp) (nm : Str) (fs : List (Str × V)) (E : XK) : Prop := ∀ dx H', Same H H' → H dx = none → H' dx = some (.xd fs) → E (.ref (A K nm)) (some dx) H'
theorem Out.same {H H1 : Hp} {nm : Str} {fs : List (Str × V)} {E : XK} (h : Out K H nm fs E) (s : Same H H1) : Out K H1 nm fs E := fun dx H' s' n e => h dx H' (s.trans s') (s.free n) e
def Kds (H : Hp) (xs : List V) : Prop := ∀ x ∈ xs, ∃ t, Kd H x t
theorem Kd.same {H H' : Hp} {x : V} {t : String} (k : Kd H x t) (s : Same H H') : Kd H' x t := by
  cases k with
  | non => exact .non
  | bl b => exact .bl b
  | int i => exact .int i
  | str z => exact .str z
  | lst e => exact .lst (s _ _ e)
  | tup e => exact .tup (s _ _ e)
theorem Kds.same {H H' : Hp} {xs : List V} (k : Kds H xs) (s : Same H H') : Kds H' xs := fun x hx => (k x hx).elim fun t z => ⟨t, z.same s⟩
def sp_crB (K : PySem.W.Frag) : Sp := fun vs H _ E => ∃ (q : Int) (n : Nat) (a : Addr) (xs : List V) (nm : Str) (fs : List (Str × V)), vs = [.int q, .int n, .ref a] ∧ SqL K H a xs ∧ Kds H xs ∧ FltOf q n xs nm fs ∧ Out K H nm fs E
theorem made {H H1 : Hp} {a dx : Addr} {o1 o2 : HO} (s : Same H H1) (ha : H1 a = none) (hd : (upd H1 a o1) dx = none) (ne : dx ≠ a) : Same H (upd (del (upd (upd (upd H1 a o1) dx o2) a o1) a) dx o2) := fun b o e => by
  have e1 := s _ _ e
  have n1 : b ≠ a := ne_of_none e1 ha
  have n2 : b ≠ dx := fun z => by
    rw [← z, upd_ne n1, e1] at hd
    cases hd
  rw [upd_ne n2, del_ne n1, upd_ne n1, upd_ne n2, upd_ne n1]
  exact e1
theorem bad_check_residues (T : TX K mg) : FnOk P w K mg base (L2N.CX P w) 3 (A K "check_residues") (fdA K (A K "check_residues")) ["q", "count", "row"] (sp_crB K) := by
  refine Fun.okN T.F_check_residues sc_check_residues (fun vs H Q E h => ?_) (fun cdv A0 outer s0 H vs Q E hr h => ?_)
  · obtain ⟨q, n, a, xs, nm, fs, rfl, _⟩ := h
    rfl
  · obtain ⟨q, n, a, xs, nm, fs, rfl, ha, hk, hf, ho⟩ := h
    refine ⟨_, (pss_cons (ps_if (pt_cmpR op_ne (pe_callB call_len_seq (by rfl) T.n_len (by decide +kernel) (pa_cons (pv 2) pa_nil)) (pv 1) (nomark _)) (pss_one (L2N.ps_raise rfl tkN (KxE.pmk_oexN T.oex_BadLength T.ini_BadLength T.int_BadLength (ok_BadLength_init T) (hr.mono (by decide)) T.b_BadLength_init (by rfl) T.g_BadLength (pa_cons (pv 1) (pa_cons (pe_callB call_len_seq (by rfl) T.n_len (by decide +kernel) (pa_cons (pv 2) pa_nil)) pa_nil))))) pss_nil)
      (pss_one (ps_for (passes_of rfl) rfl (pi_enum (by rfl) T.n_enumerate (pa_cons (pv 2) pa_nil)) (pg_tup rfl (pgs_cons (pg_name (i := 3) sc_check_residues.nd rfl (Or.inl rfl)) (pgs_cons (pg_name (i := 4) sc_check_residues.nd rfl (Or.inl rfl)) pgs_nil))) (pss_one (ps_if (pt_not (pt_val (pe_call (ok_whole_between T) (hr.mono (by decide)) (by rfl) T.g_whole_between T.F_whole_between.kp T.b_whole_between .nil pass0 (pa_cons (pv 4) (pa_cons pe_int (pa_cons (pe_op op_sub (pv 0) pe_int) pa_nil)))))) (pss_one (L2N.ps_raise rfl tkN (KxE.pmk_oexN T.oex_BadItem T.ini_BadItem T.int_BadItem (ok_BadItem_init T) (hr.mono (by decide)) T.b_BadItem_init (by rfl) T.g_BadItem (pa_cons (pv 3) pa_nil)))) pss_nil))))), ?_⟩
    refine ⟨_, rfl, _, _, rfl, .inl ha, _, rfl, rfl, _, rfl, ite2 (fun e => ?_) fun e => ?_⟩
    · have ne : xs.length ≠ n := fun z => by
        rw [z] at e
        revert e
        simp
      rcases hf with ⟨_, rfl, rfl⟩ | ⟨z, _⟩
      · refine ⟨_, rfl, _, rfl, _, _, rfl, .inl ha, (by show 2 ≤ 1000; decide), fun p hp => ⟨p, n, xs.length, rfl, upd_same, fun dx n1 ne1 => ⟨rfl, dx, _, (upd_ne (Ne.symm ne1)).trans upd_same, upd_same, ?_, ?_⟩⟩⟩
        · rw [upd_ne ne1] at n1
          exact n1
        · refine ho dx _ (fun b o e => ?_) (by rw [upd_ne ne1] at n1; exact n1) upd_same
          have b1 : b ≠ p := ne_of_none e hp
          have b2 : b ≠ dx := fun z => by
            rw [← z, upd_ne b1, e] at n1
            cases n1
          rw [upd_ne b2, del_ne b1, upd_ne b2, upd_ne b1, upd_ne b2, upd_ne b1]
          exact e
      · exact absurd z ne
    · have el : xs.length = n := by
        by_cases z : xs.length = n
        · exact z
        · exfalso
          refine e ?_
          have : ¬ (V.int (xs.length : Int) = V.int n) := fun y => z (Int.ofNat.inj (V.int.inj y))
          show (!decide (V.int (xs.length : Int) = V.int (n : Int))) = true
          rw [decide_eq_false this]
          rfl
      rcases hf with ⟨z, _⟩ | ⟨_, i, x, hx, hbad, hgood, rfl, rfl⟩
      · exact absurd el z
      · have hi := (List.getElem?_eq_some_iff.mp hx).1
        refine ⟨_, rfl, a, xs, rfl, ha, for_enum (K := K) (a := a) (xs := xs) (fun k σ H' => ∃ u3 u4 : Option V, k ≤ i ∧ σ = [some (.int q), some (.int n), some (.ref a), u3, u4] ∧ Same H H') ⟨none, none, Nat.zero_le _, rfl, .refl _⟩ (fun k σ H' _ ⟨_, _, _, _, s⟩ => s.seq ha) ?_ ?_⟩
        · rintro k y Tt σ H' hy ⟨u3, u4, hki, rfl, sm⟩ hT
          have s2 := sm.trans (same_upd (o := .tup [.int (k : Nat), y]) hT)
          obtain ⟨t, kd⟩ := hk y (List.mem_of_getElem? hy)
          refine ⟨Tt, _, rfl, tq upd_same, rfl, _, _, rfl, _, [], rfl, rfl, ?_⟩
          refine ⟨_, rfl, _, rfl, _, _, rfl, rfl, y, t, 0, q - 1, rfl, kd.same s2, _, rfl, ?_⟩
          dsimp only
          by_cases eki : k = i
          · subst eki
            obtain rfl : x = y := Option.some.inj (hx.symm.trans hy)
            rw [hbad]
            refine iteT ?_
            revert s2
            generalize (upd H' Tt (.tup [.int (k : Nat), x])) = H2
            intro s2
            refine ⟨_, rfl, (by show 1 ≤ 1000; decide), fun p hp => ⟨p, k, rfl, upd_same, fun dx n1 ne1 => ⟨rfl, dx, _, upd_same, by rw [upd_ne ne1, upd_same], ?_, ?_⟩⟩⟩
            · rw [upd_ne ne1] at n1
              exact n1
            · refine ho dx _ (fun b o e => ?_) (by rw [upd_ne ne1] at n1; exact s2.free n1) upd_same
              have e2 := s2 _ _ e
              have b1 : b ≠ p := ne_of_none e2 hp
              have b2 : b ≠ dx := fun z => by
                rw [← z, upd_ne b1, e2] at n1
                cases n1
              rw [upd_ne b2, del_ne b1, upd_ne b1, upd_ne b2, upd_ne b1]
              exact e2
          · rw [hgood k y (by omega) hy]
            exact iteF ⟨_, _, by omega, rfl, s2⟩
        · rintro σ H' ⟨u3, u4, hki, rfl, sm⟩
          omega
def sp_cpB (K : PySem.W.Frag) : Sp := fun vs H _ E => ∃ (g a : Addr) (n : Nat) (q r : Int) (xs : List V) (nm : Str) (fs : List (Str × V)), vs = [.ref g, .ref a] ∧ RingAt K H g n q r ∧ SqL K H a xs ∧ Kds H xs ∧ FltOf q n xs nm fs ∧ Out K H nm fs E
theorem bad_check_polynomial (T : TX K mg) : FnOk P w K mg base (L2N.CX P w) 4 (A K "check_polynomial") (fdA K (A K "check_polynomial")) ["ring", "poly"] (sp_cpB K) := by
  refine Fun.okN T.F_check_polynomial sc_check_polynomial (fun vs H Q E h => ?_) (fun cdv A0 outer s0 H vs Q E hr h => ?_)
  · obtain ⟨g, a, n, q, r, xs, nm, fs, rfl, _⟩ := h
    rfl
  · obtain ⟨g, a, n, q, r, xs, nm, fs, rfl, ⟨dx, hg⟩, ha, hk, hf, ho⟩ := h
    refine ⟨_, (pss_one (ps_expr (pe_call (bad_check_residues T) (hr.mono (by decide)) (by rfl) T.g_check_residues T.F_check_residues.kp T.b_check_residues .nil (L2N.passes_call tkN (fun _ _ _ _ z => z)) (pa_cons (pe_prop (pv 0) T.clRing T.p_q.choose_spec (ok_Ring_q T) (hr.mono (by decide)) T.b_Ring_q .nil pass0 rfl) (pa_cons (pe_prop (pv 0) T.clRing T.p_n.choose_spec (ok_Ring_n T) (hr.mono (by decide)) T.b_Ring_n .nil pass0 rfl) (pa_cons (pv 1) pa_nil)))))), ?_⟩
    exact ⟨_, rfl, g, dx, _, rfl, hg, g, dx, _, _, rfl, hg, rfl, _, rfl, g, dx, _, rfl, hg, g, dx, _, _, rfl, hg, rfl, _, rfl, q, n, a, xs, nm, fs, rfl, ha, hk, hf, ho⟩
def sp_mfB (K : PySem.W.Frag) : Sp := fun vs H _ E => ∃ (g a b : Addr) (n : Nat) (q r : Int) (xs : List V) (nm : Str) (fs : List (Str × V)), vs = [.ref g, .ref a, .ref b] ∧ RingAt K H g n q r ∧ SqL K H a xs ∧ Kds H xs ∧ FltOf q n xs nm fs ∧ Out K H nm fs E
theorem bad1_multiply_fast (T : TX K mg) : FnOk P w K mg base (L2N.CX P w) 5 (A K "multiply_fast") (fdA K (A K "multiply_fast")) ["ring", "first", "second"] (sp_mfB K) := by
  refine Fun.okN T.F_multiply_fast sc_multiply_fast (fun vs H Q E h => ?_) (fun cdv A0 outer s0 H vs Q E hr h => ?_)
  · obtain ⟨g, a, b, n, q, r, xs, nm, fs, rfl, _⟩ := h
    rfl
  · obtain ⟨g, a, b, n, q, r, xs, nm, fs, rfl, hg, ha, hk, hf, ho⟩ := h
    refine ⟨_, (pss_cons (ps_expr (pe_call (bad_check_polynomial T) (hr.mono (by decide)) (by rfl) T.g_check_polynomial T.F_check_polynomial.kp T.b_check_polynomial .nil (L2N.passes_call tkN (fun _ _ _ _ z => z)) (pa_cons (pv 0) (pa_cons (pv 1) pa_nil))))
      (pss_cons (ps_expr (pe_call (ok_check_polynomial T) (hr.mono (by decide)) (by rfl) T.g_check_polynomial T.F_check_polynomial.kp T.b_check_polynomial .nil pass0 (pa_cons (pv 0) (pa_cons (pv 2) pa_nil))))
      (pss_cons (ps_set (i := 3) sc_multiply_fast.nd rfl (Or.inl rfl) (pe_call (ok_spectrum_row T) (hr.mono (by decide)) (by rfl) T.g_spectrum_row T.F_spectrum_row.kp T.b_spectrum_row .nil pass0 (pa_cons (pv 0) (pa_cons (pv 1) pa_nil))))
      (pss_cons (ps_set (i := 4) sc_multiply_fast.nd rfl (Or.inl rfl) (pe_call (ok_spectrum_row T) (hr.mono (by decide)) (by rfl) T.g_spectrum_row T.F_spectrum_row.kp T.b_spectrum_row .nil pass0 (pa_cons (pv 0) (pa_cons (pv 2) pa_nil))))
      (pss_one (ps_ret (pe_call (ok_polynomial_row T) (hr.mono (by decide)) (by rfl) T.g_polynomial_row T.F_polynomial_row.kp T.b_polynomial_row .nil pass0 (pa_cons (pv 0) (pa_cons (pe_call (ok_times_row T) (hr.mono (by decide)) (by rfl) T.g_times_row T.F_times_row.kp T.b_times_row .nil pass0 (pa_cons (pe_prop (pv 0) T.clRing T.p_q.choose_spec (ok_Ring_q T) (hr.mono (by decide)) T.b_Ring_q .nil pass0 rfl) (pa_cons (pe_call (ok_factor_roots T) (hr.mono (by decide)) (by rfl) T.g_factor_roots T.F_factor_roots.kp T.b_factor_roots .nil pass0 (pa_cons (pv 0) pa_nil)) (pa_cons (pv 3) (pa_cons (pv 4) pa_nil))))) pa_nil))))))))), ?_⟩
    exact ⟨_, rfl, _, rfl, g, a, n, q, r, xs, nm, fs, rfl, hg, ha, hk, hf, ho⟩
def sp_mfC (K : PySem.W.Frag) : Sp := fun vs H _ E => ∃ (g a b : Addr) (n : Nat) (q r : Int) (f : List Int) (xs : List V) (nm : Str) (fs : List (Str × V)), vs = [.ref g, .ref a, .ref b] ∧ RingAt K H g n q r ∧ SqL K H a (IL f) ∧ Poly n q f ∧ n ≤ 1000 ∧ SqL K H b xs ∧ Kds H xs ∧ FltOf q n xs nm fs ∧ Out K H nm fs E
theorem bad2_multiply_fast (T : TX K mg) : FnOk P w K mg base (L2N.CX P w) 5 (A K "multiply_fast") (fdA K (A K "multiply_fast")) ["ring", "first", "second"] (sp_mfC K) := by
  refine Fun.okN T.F_multiply_fast sc_multiply_fast (fun vs H Q E h => ?_) (fun cdv A0 outer s0 H vs Q E hr h => ?_)
  · obtain ⟨g, a, b, n, q, r, f, xs, nm, fs, rfl, _⟩ := h
    rfl
  · obtain ⟨g, a, b, n, q, r, f, xs, nm, fs, rfl, hg, ha, hp, hn, hb, hk, hf, ho⟩ := h
    refine ⟨_, (pss_cons (ps_expr (pe_call (ok_check_polynomial T) (hr.mono (by decide)) (by rfl) T.g_check_polynomial T.F_check_polynomial.kp T.b_check_polynomial .nil pass0 (pa_cons (pv 0) (pa_cons (pv 1) pa_nil))))
      (pss_cons (ps_expr (pe_call (bad_check_polynomial T) (hr.mono (by decide)) (by rfl) T.g_check_polynomial T.F_check_polynomial.kp T.b_check_polynomial .nil (L2N.passes_call tkN (fun _ _ _ _ z => z)) (pa_cons (pv 0) (pa_cons (pv 2) pa_nil))))
      (pss_cons (ps_set (i := 3) sc_multiply_fast.nd rfl (Or.inl rfl) (pe_call (ok_spectrum_row T) (hr.mono (by decide)) (by rfl) T.g_spectrum_row T.F_spectrum_row.kp T.b_spectrum_row .nil pass0 (pa_cons (pv 0) (pa_cons (pv 1) pa_nil))))
      (pss_cons (ps_set (i := 4) sc_multiply_fast.nd rfl (Or.inl rfl) (pe_call (ok_spectrum_row T) (hr.mono (by decide)) (by rfl) T.g_spectrum_row T.F_spectrum_row.kp T.b_spectrum_row .nil pass0 (pa_cons (pv 0) (pa_cons (pv 2) pa_nil))))
      (pss_one (ps_ret (pe_call (ok_polynomial_row T) (hr.mono (by decide)) (by rfl) T.g_polynomial_row T.F_polynomial_row.kp T.b_polynomial_row .nil pass0 (pa_cons (pv 0) (pa_cons (pe_call (ok_times_row T) (hr.mono (by decide)) (by rfl) T.g_times_row T.F_times_row.kp T.b_times_row .nil pass0 (pa_cons (pe_prop (pv 0) T.clRing T.p_q.choose_spec (ok_Ring_q T) (hr.mono (by decide)) T.b_Ring_q .nil pass0 rfl) (pa_cons (pe_call (ok_factor_roots T) (hr.mono (by decide)) (by rfl) T.g_factor_roots T.F_factor_roots.kp T.b_factor_roots .nil pass0 (pa_cons (pv 0) pa_nil)) (pa_cons (pv 3) (pa_cons (pv 4) pa_nil))))) pa_nil))))))))), ?_⟩
    refine ⟨_, rfl, _, rfl, g, a, n, q, r, f, rfl, hg, ha, hp, hn, fun H1 s1 => ?_⟩
    exact ⟨_, rfl, _, rfl, g, b, n, q, r, xs, nm, fs, rfl, hg.same s1, s1.seq hb, hk.same s1, hf, ho.same s1⟩
end
end Kx
set_option Elab.async false
set_option linter.all false
set_option maxRecDepth 100000
set_option maxHeartbeats 4000000
/-! The law's own words: same data, data spoilt. -/
namespace Kx
open PySem PySem.Spec PyProof.Rows L2
theorem op_isT {X : Cx} : OpR X (compareOp .Is) (fun x y H Q => ∃ b : Bool, y = .bl b ∧ Q (.bl (decide (x = .bl b))) H) := by
  intro pins s σ H x y v u Q I rx ry h
  obtain ⟨b, rfl, q⟩ := h
  cases (show u = Value.bool b from ry)
  by_cases e : x = .bl b
  · subst e
    cases (show v = Value.bool b from rx)
    exact wpAny_is_self rfl ⟨.bl true, H, I, rfl, by simpa using q⟩
  · have hv : plainIs v (.bool b) = true ∧ v ≠ .bool b := by
      cases x <;> first
        | (cases rx; exact ⟨rfl, fun z => e (by cases z; rfl)⟩)
        | (obtain ⟨t, rfl⟩ := rx; exact ⟨rfl, fun z => nomatch z⟩)
    exact wpAny_is_other hv.1 hv.2 ⟨.bl false, H, I, rfl, by simpa [e] using q⟩
/-- the same data, n deep -/
inductive SD (H : Hp) : Nat → V → V → Prop
  | non (n : Nat) : SD H (n + 1) .non .non
  | bl (n : Nat) (b : Bool) : SD H (n + 1) (.bl b) (.bl b)
  | int (n : Nat) (i : Int) : SD H (n + 1) (.int i) (.int i)
  | str (n : Nat) (z : Str) : SD H (n + 1) (.str z) (.str z)
  | lst (n : Nat) {a b : Addr} {xs ys : List V} (ha : H a = some (.lst xs)) (hb : H b = some (.lst ys)) (hl : xs.length = ys.length) (h1 : ys.length ≤ 1000) (h : ∀ (i : Nat) x y, xs[i]? = some x → ys[i]? = some y → SD H n x y) : SD H (n + 1) (.ref a) (.ref b)
  | tup (n : Nat) {a b : Addr} {xs ys : List V} (ha : H a = some (.tup xs)) (hb : H b = some (.tup ys)) (hl : xs.length = ys.length) (h1 : ys.length ≤ 1000) (h : ∀ (i : Nat) x y, xs[i]? = some x → ys[i]? = some y → SD H n x y) : SD H (n + 1) (.ref a) (.ref b)
theorem SD.same {H H' : Hp} (s : Same H H') {n : Nat} {x y : V} (h : SD H n x y) : SD H' n x y := by
  induction h with
  | non n => exact .non n
  | bl n b => exact .bl n b
  | int n i => exact .int n i
  | str n z => exact .str n z
  | lst n ha hb hl h1 _ ih => exact .lst n (s _ _ ha) (s _ _ hb) hl h1 ih
  | tup n ha hb hl h1 _ ih => exact .tup n (s _ _ ha) (s _ _ hb) hl h1 ih
theorem SD.up {H : Hp} {n : Nat} {x y : V} (h : SD H n x y) : SD H (n + 1) x y := by
  induction h with
  | non n => exact .non _
  | bl n b => exact .bl _ b
  | int n i => exact .int _ i
  | str n z => exact .str _ z
  | lst n ha hb hl h1 _ ih => exact .lst _ ha hb hl h1 ih
  | tup n ha hb hl h1 _ ih => exact .tup _ ha hb hl h1 ih
theorem SD.same_lst {H : Hp} {n : Nat} {a b : Addr} {xs : List V} (ha : H a = some (.lst xs)) (hb : H b = some (.lst xs)) (h1 : xs.length ≤ 1000) (h : ∀ x ∈ xs, SD H n x x) : SD H (n + 1) (.ref a) (.ref b) :=
  .lst n ha hb rfl h1 fun i x y hx hy => by
    obtain rfl : x = y := Option.some.inj (hx.symm.trans hy)
    exact h x (List.mem_of_getElem? hx)
theorem SD.same_tup {H : Hp} {n : Nat} {a b : Addr} {xs : List V} (ha : H a = some (.tup xs)) (hb : H b = some (.tup xs)) (h1 : xs.length ≤ 1000) (h : ∀ x ∈ xs, SD H n x x) : SD H (n + 1) (.ref a) (.ref b) :=
  .tup n ha hb rfl h1 fun i x y hx hy => by
    obtain rfl : x = y := Option.some.inj (hx.symm.trans hy)
    exact h x (List.mem_of_getElem? hx)
theorem SD.ints {H : Hp} {n : Nat} {a b : Addr} {f : List Int} (ha : H a = some (.lst (IL f))) (hb : H b = some (.lst (IL f))) (h1 : f.length ≤ 1000) : SD H (n + 2) (.ref a) (.ref b) :=
  .same_lst ha hb (by rw [il_len]; exact h1) fun x hx => by
    obtain ⟨i, _, rfl⟩ := List.mem_map.mp hx
    exact .int _ i
/-- an item of a row: it is known, and it is the same as itself -/
def It (H : Hp) (x : V) : Prop := (∃ t, Kd H x t) ∧ SD H 2 x x
theorem It.same {H H' : Hp} {x : V} (h : It H x) (s : Same H H') : It H' x := ⟨h.1.elim fun t k => ⟨t, k.same s⟩, h.2.same s⟩
theorem It.int (H : Hp) (i : Int) : It H (.int i) := ⟨⟨_, .int i⟩, .int _ i⟩
/-- the heap without the store -/
def off (l : Addr) (H : Hp) : Hp := fun b => if b = l then none else H b
theorem off_ne {l b : Addr} {H : Hp} (h : b ≠ l) : off l H b = H b := if_neg h
theorem off_same (l : Addr) (H : Hp) : Same (off l H) H := fun b o e => by
  unfold off at e
  split at e
  · cases e
  · exact e
theorem Kp.off {l : Addr} {H H' : Hp} (k : Kp l H H') : Same (off l H) (off l H') := fun b o e => by
  unfold Kx.off at e ⊢
  split at e
  · cases e
  · rename_i n
    rw [if_neg n]
    exact k b o n e
theorem alloc {H : Hp} {p : Addr} (hp : H p = none) (o : HO) : ∃ H1, upd H p o = H1 ∧ Same H H1 ∧ H1 p = some o := ⟨_, rfl, same_upd hp, upd_same⟩
section
variable {P : Program} {w : World} {K : PySem.W.Frag} {mg : Str → Option Value} {base : Heap}
theorem kit_lt_lst : PySem.W.kitAny K (.type "list") [.type "list", .type "tuple"] = some true := kitAny_cons (b := true) (kit_ty (by decide +kernel)) (fun z => nomatch z) fun _ => rfl
theorem kit_lt_tup : PySem.W.kitAny K (.type "tuple") [.type "list", .type "tuple"] = some true := kitAny_cons (b := false) (kit_ty (by decide +kernel)) (fun _ => kitAny_cons (b := true) (kit_ty (by decide +kernel)) (fun z => nomatch z) fun _ => rfl) fun z => nomatch z
theorem kit_lt_int : PySem.W.kitAny K (.type "int") [.type "list", .type "tuple"] = some false := kitAny_cons (b := false) (kit_ty (by decide +kernel)) (fun _ => kitAny_cons (b := false) (kit_ty (by decide +kernel)) (fun _ => rfl) fun z => nomatch z) fun z => nomatch z
theorem no_fn {k : Nat} {f : Addr} {fd : FuncData} {ps : List Str} {sp : Sp} (h : ∀ vs H Q E, ¬ sp vs H Q E) : FnOk P w K mg base CX0 k f fd ps sp := ⟨fun vs H Q E z => absurd z (h _ _ _ _), fun A outer s H args us vs Q E hr e0 hb r z => absurd z (h _ _ _ _)⟩
def sp_same (n : Nat) : Sp := fun vs H Q _ => ∃ x y : V, vs = [x, y] ∧ SD H n x y ∧ ∀ H', Same H H' → Q (.bl true) H'
theorem ok_same (T : TX K mg) : ∀ n, FnOk P w K mg base CX0 n (A K "_law_same") (fdA K (A K "_law_same")) ["_law_actual", "_law_expected"] (sp_same n)
  | 0 => no_fn fun vs H Q E h => by
    obtain ⟨x, y, _, h, _⟩ := h
    cases h
  | m + 1 => by
    have ih := ok_same T m
    refine T.F__law_same.ok sc__law_same (fun vs H Q E h => ?_) (fun cdv A0 outer s0 H vs Q E hr h => ?_)
    · obtain ⟨x, y, rfl, _⟩ := h
      rfl
    · obtain ⟨x, y, rfl, h, qq⟩ := h
      refine ⟨_, (pss_cons (ps_if (pt_cmpR op_isN (pv 1) pe_non (nomark _)) (pss_one (ps_ret (pe_cmpR op_isN (pv 0) pe_non (nomark _)))) pss_nil)
      (pss_cons (ps_if (pt_cmpR op_isT (pv 1) pe_bl (nomark _)) (pss_one (ps_ret (pe_cmpR op_isT (pv 0) pe_bl (nomark _)))) pss_nil)
      (pss_cons (ps_if (pt_cmpR op_isT (pv 1) pe_bl (nomark _)) (pss_one (ps_ret (pe_cmpR op_isT (pv 0) pe_bl (nomark _)))) pss_nil)
      (pss_cons (ps_if (pt_val (pe_callB call_isi (by rfl) T.n_isinstance (by decide +kernel) (pa_cons (pv 1) (pa_cons (pe_bltn (v := .ty "int") (by rfl) T.n_int (by decide +kernel) rfl) pa_nil)))) (pss_one (ps_ret (pe_and (pe_callB call_isi (by rfl) T.n_isinstance (by decide +kernel) (pa_cons (pv 0) (pa_cons (pe_bltn (v := .ty "int") (by rfl) T.n_int (by decide +kernel) rfl) pa_nil))) (pe_and (pe_not (pe_callB call_isi (by rfl) T.n_isinstance (by decide +kernel) (pa_cons (pv 0) (pa_cons (pe_bltn (v := .ty "bool") (by rfl) T.n_bool (by decide +kernel) rfl) pa_nil)))) (pe_one (pe_cmpR op_eq (pv 0) (pv 1) (nomark _))))))) pss_nil)
      (pss_cons (ps_if (pt_val (pe_callB call_isi (by rfl) T.n_isinstance (by decide +kernel) (pa_cons (pv 1) (pa_cons (pe_bltn (v := .ty "str") (by rfl) T.n_str (by decide +kernel) rfl) pa_nil)))) (pss_one (ps_ret (pe_and (pe_callB call_isi (by rfl) T.n_isinstance (by decide +kernel) (pa_cons (pv 0) (pa_cons (pe_bltn (v := .ty "str") (by rfl) T.n_str (by decide +kernel) rfl) pa_nil))) (pe_one (pe_cmpR op_eq (pv 0) (pv 1) (nomark _)))))) pss_nil)
      (pss_cons (ps_if (PW.pt (pw_and (pt_val (pe_callB call_isi (by rfl) T.n_isinstance (by decide +kernel) (pa_cons (pv 1) (pa_cons (pe_bltn (v := .ty "list") (by rfl) T.n_list (by decide +kernel) rfl) pa_nil)))) (pw_and1 (pt_not (pt_val (pe_callB call_isi (by rfl) T.n_isinstance (by decide +kernel) (pa_cons (pv 0) (pa_cons (pe_bltn (v := .ty "list") (by rfl) T.n_list (by decide +kernel) rfl) pa_nil)))))))) (pss_one (ps_ret pe_bl)) pss_nil)
      (pss_cons (ps_if (PW.pt (pw_and (pt_val (pe_callB call_isi (by rfl) T.n_isinstance (by decide +kernel) (pa_cons (pv 1) (pa_cons (pe_bltn (v := .ty "tuple") (by rfl) T.n_tuple (by decide +kernel) rfl) pa_nil)))) (pw_and1 (pt_not (pt_val (pe_callB call_isi (by rfl) T.n_isinstance (by decide +kernel) (pa_cons (pv 0) (pa_cons (pe_bltn (v := .ty "tuple") (by rfl) T.n_tuple (by decide +kernel) rfl) pa_nil)))))))) (pss_one (ps_ret pe_bl)) pss_nil)
      (pss_cons (ps_if (PW.pt (pw_or (pt_not (pt_val (pe_callB call_isiT (by rfl) T.n_isinstance (by decide +kernel) (pa_cons (pv 1) (pa_cons (pe_tup (pa_cons (pe_bltn (v := .ty "list") (by rfl) T.n_list (by decide +kernel) rfl) (pa_cons (pe_bltn (v := .ty "tuple") (by rfl) T.n_tuple (by decide +kernel) rfl) pa_nil))) pa_nil))))) (pw_or1 (pt_cmpR op_ne (pe_callB call_len_seq (by rfl) T.n_len (by decide +kernel) (pa_cons (pv 0) pa_nil)) (pe_callB call_len_seq (by rfl) T.n_len (by decide +kernel) (pa_cons (pv 1) pa_nil)) (nomark _))))) (pss_one (ps_ret pe_bl)) pss_nil)
      (pss_cons (ps_for PassesOwn.never rfl (pi_range1 (by rfl) T.n_range (pa_cons (pe_callB call_len_seq (by rfl) T.n_len (by decide +kernel) (pa_cons (pv 1) pa_nil)) pa_nil)) (pg_name (i := 2) sc__law_same.nd rfl (Or.inl rfl)) (pss_one (ps_if (pt_not (pt_val (pe_call ih hr (by rfl) T.g__law_same T.F__law_same.kp T.b__law_same .nil pass0 (pa_cons (pe_ix ix_seq (pv 0) (pv 2) (fun _ _ => rfl)) (pa_cons (pe_ix ix_seq (pv 1) (pv 2) (fun _ _ => rfl)) pa_nil))))) (pss_one (ps_ret pe_bl)) pss_nil)))
      (pss_one (ps_ret pe_bl))))))))))), ?_⟩
      cases h with
      | non n =>
        refine ⟨_, rfl, rfl, _, rfl, iteT ?_⟩
        exact ⟨_, rfl, rfl, qq H (.refl _)⟩
      | bl n b =>
        refine ⟨_, rfl, rfl, _, rfl, iteF ?_⟩
        cases b with
        | true =>
          refine ⟨_, rfl, true, rfl, _, rfl, iteT ?_⟩
          exact ⟨_, rfl, true, rfl, qq H (.refl _)⟩
        | false =>
          refine ⟨_, rfl, true, rfl, _, rfl, iteF ?_⟩
          refine ⟨_, rfl, false, rfl, _, rfl, iteT ?_⟩
          exact ⟨_, rfl, false, rfl, qq H (.refl _)⟩
      | int n i =>
        refine ⟨_, rfl, rfl, _, rfl, iteF ⟨_, rfl, true, rfl, _, rfl, iteF ⟨_, rfl, false, rfl, _, rfl, iteF ?_⟩⟩⟩
        refine ⟨_, rfl, _, _, _, _, true, rfl, .ty _, (Kd.int i).ty, kit_ty (by decide +kernel), _, rfl, iteT ?_⟩
        refine ⟨_, rfl, _, _, _, _, true, rfl, .ty _, (Kd.int i).ty, kit_ty (by decide +kernel), _, rfl, iteT ?_⟩
        refine ⟨_, rfl, _, _, _, _, false, rfl, .ty _, (Kd.int i).ty, kit_ty (by decide +kernel), _, rfl, _, rfl, iteT ?_⟩
        refine ⟨_, rfl, _, rfl, by simp [scal], ?_⟩
        have e : decide (V.int i = V.int i) = true := decide_eq_true rfl
        rw [e]
        exact qq H (.refl _)
      | str n z =>
        refine ⟨_, rfl, rfl, _, rfl, iteF ⟨_, rfl, true, rfl, _, rfl, iteF ⟨_, rfl, false, rfl, _, rfl, iteF ?_⟩⟩⟩
        refine ⟨_, rfl, _, _, _, _, false, rfl, .ty _, (Kd.str z).ty, kit_ty (by decide +kernel), _, rfl, iteF ?_⟩
        refine ⟨_, rfl, _, _, _, _, true, rfl, .ty _, (Kd.str z).ty, kit_ty (by decide +kernel), _, rfl, iteT ?_⟩
        refine ⟨_, rfl, _, _, _, _, true, rfl, .ty _, (Kd.str z).ty, kit_ty (by decide +kernel), _, rfl, iteT ?_⟩
        refine ⟨_, rfl, _, rfl, by simp [scal], ?_⟩
        have e : decide (V.str z = V.str z) = true := decide_eq_true rfl
        rw [e]
        exact qq H (.refl _)
      | @lst n a b xs ys ha hb hl h1 h =>
        refine ⟨_, rfl, rfl, _, rfl, iteF ⟨_, rfl, true, rfl, _, rfl, iteF ⟨_, rfl, false, rfl, _, rfl, iteF ?_⟩⟩⟩
        refine ⟨_, rfl, _, _, _, _, false, rfl, .ty _, (Kd.lst hb).ty, kit_ty (by decide +kernel), _, rfl, iteF ?_⟩
        refine ⟨_, rfl, _, _, _, _, false, rfl, .ty _, (Kd.lst hb).ty, kit_ty (by decide +kernel), _, rfl, iteF ?_⟩
        refine ⟨_, rfl, _, _, _, _, true, rfl, .ty _, (Kd.lst hb).ty, kit_ty (by decide +kernel), _, rfl, iteT ?_⟩
        refine ⟨_, rfl, _, _, _, _, true, rfl, .ty _, (Kd.lst ha).ty, kit_ty (by decide +kernel), _, rfl, iteF ?_⟩
        refine ⟨_, rfl, _, _, _, _, false, rfl, .ty _, (Kd.lst hb).ty, kit_ty (by decide +kernel), _, rfl, iteF (iteF ?_)⟩
        refine ⟨_, rfl, (by show 2 ≤ sizeLine; decide), fun tp htp => ?_⟩
        obtain ⟨H1, e1, s1, g1⟩ := alloc htp (.tup [.ty "list", .ty "tuple"])
        rw [e1]
        refine ⟨_, tp, _, _, [.type "list", .type "tuple"], true, rfl, g1, .cons (.ty _) (.cons (.ty _) .nil), (Kd.lst (s1 _ _ hb)).ty, kit_lt_lst, _, rfl, iteF ?_⟩
        refine ⟨_, rfl, _, _, rfl, .inl (lq (s1 _ _ ha)), _, rfl, _, _, rfl, .inl (lq (s1 _ _ hb)), rfl, _, rfl, ?_⟩
        have e : decide (V.int (xs.length : Int) = V.int (ys.length : Int)) = true := decide_eq_true (by rw [hl])
        dsimp only
        rw [e]
        refine iteF ?_
        refine ⟨_, rfl, _, _, rfl, .inl (lq (s1 _ _ hb)), _, rfl, by omega, by omega, ?_⟩
        refine for_range (lo := 0) (n := ((ys.length : Nat) : Int).toNat) (fun i σ H' => ∃ u2, σ = [some (.ref a), some (.ref b), u2] ∧ Same H1 H') ⟨none, rfl, .refl _⟩ ?_ ?_
        · rintro i σ H' hi ⟨u2, rfl, sm⟩
          have hi2 : i < ys.length := by omega
          have hx : xs[i]? = some xs[i] := List.getElem?_eq_getElem (by omega)
          have hy : ys[i]? = some ys[i] := List.getElem?_eq_getElem hi2
          refine ⟨_, rfl, _, rfl, .inl ⟨a, xs, _, xs[i], rfl, rfl, lq (sm _ _ (s1 _ _ ha)), at_of (j := i) (by omega) hx, ?_⟩⟩
          refine ⟨_, rfl, _, rfl, .inl ⟨b, ys, _, ys[i], rfl, rfl, lq (sm _ _ (s1 _ _ hb)), at_of (j := i) (by omega) hy, ?_⟩⟩
          exact ⟨_, _, rfl, (h i _ _ hx hy).same (s1.trans sm), fun H2 s2 => ⟨_, rfl, iteF ⟨_, rfl, sm.trans s2⟩⟩⟩
        · rintro σ H' ⟨u2, rfl, sm⟩
          exact qq _ (s1.trans sm)
      | @tup n a b xs ys ha hb hl h1 h =>
        refine ⟨_, rfl, rfl, _, rfl, iteF ⟨_, rfl, true, rfl, _, rfl, iteF ⟨_, rfl, false, rfl, _, rfl, iteF ?_⟩⟩⟩
        refine ⟨_, rfl, _, _, _, _, false, rfl, .ty _, (Kd.tup hb).ty, kit_ty (by decide +kernel), _, rfl, iteF ?_⟩
        refine ⟨_, rfl, _, _, _, _, false, rfl, .ty _, (Kd.tup hb).ty, kit_ty (by decide +kernel), _, rfl, iteF ?_⟩
        refine ⟨_, rfl, _, _, _, _, false, rfl, .ty _, (Kd.tup hb).ty, kit_ty (by decide +kernel), _, rfl, iteF (iteF ?_)⟩
        refine ⟨_, rfl, _, _, _, _, true, rfl, .ty _, (Kd.tup hb).ty, kit_ty (by decide +kernel), _, rfl, iteT ?_⟩
        refine ⟨_, rfl, _, _, _, _, true, rfl, .ty _, (Kd.tup ha).ty, kit_ty (by decide +kernel), _, rfl, iteF ?_⟩
        refine ⟨_, rfl, (by show 2 ≤ sizeLine; decide), fun tp htp => ?_⟩
        obtain ⟨H1, e1, s1, g1⟩ := alloc htp (.tup [.ty "list", .ty "tuple"])
        rw [e1]
        refine ⟨_, tp, _, _, [.type "list", .type "tuple"], true, rfl, g1, .cons (.ty _) (.cons (.ty _) .nil), (Kd.tup (s1 _ _ hb)).ty, kit_lt_tup, _, rfl, iteF ?_⟩
        refine ⟨_, rfl, _, _, rfl, .inr (tq (s1 _ _ ha)), _, rfl, _, _, rfl, .inr (tq (s1 _ _ hb)), rfl, _, rfl, ?_⟩
        have e : decide (V.int (xs.length : Int) = V.int (ys.length : Int)) = true := decide_eq_true (by rw [hl])
        dsimp only
        rw [e]
        refine iteF ?_
        refine ⟨_, rfl, _, _, rfl, .inr (tq (s1 _ _ hb)), _, rfl, by omega, by omega, ?_⟩
        refine for_range (lo := 0) (n := ((ys.length : Nat) : Int).toNat) (fun i σ H' => ∃ u2, σ = [some (.ref a), some (.ref b), u2] ∧ Same H1 H') ⟨none, rfl, .refl _⟩ ?_ ?_
        · rintro i σ H' hi ⟨u2, rfl, sm⟩
          have hi2 : i < ys.length := by omega
          have hx : xs[i]? = some xs[i] := List.getElem?_eq_getElem (by omega)
          have hy : ys[i]? = some ys[i] := List.getElem?_eq_getElem hi2
          refine ⟨_, rfl, _, rfl, .inr (.inl ⟨a, xs, _, xs[i], rfl, rfl, tq (sm _ _ (s1 _ _ ha)), at_of (j := i) (by omega) hx, ?_⟩)⟩
          refine ⟨_, rfl, _, rfl, .inr (.inl ⟨b, ys, _, ys[i], rfl, rfl, tq (sm _ _ (s1 _ _ hb)), at_of (j := i) (by omega) hy, ?_⟩)⟩
          exact ⟨_, _, rfl, (h i _ _ hx hy).same (s1.trans sm), fun H2 s2 => ⟨_, rfl, iteF ⟨_, rfl, sm.trans s2⟩⟩⟩
        · rintro σ H' ⟨u2, rfl, sm⟩
          exact qq _ (s1.trans sm)
/-! ### _law_spoil -/
def sp_no : Sp := fun _ _ _ _ => False
def sp_spoil0 : Sp := fun vs H Q _ => ∃ i : Int, vs = [.int i] ∧ ∀ H', Same H H' → Q .non H'
theorem ok_spoil0 (T : TX K mg) : FnOk P w K mg base CX0 1 (A K "_law_spoil") (fdA K (A K "_law_spoil")) ["_law_thing"] sp_spoil0 := by
  have ih : FnOk P w K mg base CX0 0 (A K "_law_spoil") (fdA K (A K "_law_spoil")) ["_law_thing"] sp_no := no_fn fun _ _ _ _ h => h
  refine T.F__law_spoil.ok sc__law_spoil (fun vs H Q E h => ?_) (fun cdv A0 outer s0 H vs Q E hr h => ?_)
  · obtain ⟨i, rfl, _⟩ := h
    rfl
  · obtain ⟨i, rfl, qq⟩ := h
    refine ⟨_, (pss_cons (ps_if (pt_val (pe_callB call_isiT (by rfl) T.n_isinstance (by decide +kernel) (pa_cons (pv 0) (pa_cons (pe_tup (pa_cons (pe_bltn (v := .ty "list") (by rfl) T.n_list (by decide +kernel) rfl) (pa_cons (pe_bltn (v := .ty "tuple") (by rfl) T.n_tuple (by decide +kernel) rfl) pa_nil))) pa_nil)))) (pss_one (ps_for PassesOwn.never rfl (pi_list (pv 0)) (pg_name (i := 1) sc__law_spoil.nd rfl (Or.inl rfl)) (pss_one (ps_expr (pe_call ih hr (by rfl) T.g__law_spoil T.F__law_spoil.kp T.b__law_spoil .nil pass0 (pa_cons (pv 1) pa_nil)))))) pss_nil)
      (pss_one (ps_if (pt_val (pe_callB call_isi (by rfl) T.n_isinstance (by decide +kernel) (pa_cons (pv 0) (pa_cons (pe_bltn (v := .ty "list") (by rfl) T.n_list (by decide +kernel) rfl) pa_nil)))) (pss_cons (ps_if (pt_cmpR op_gt (pe_callB call_len_seq (by rfl) T.n_len (by decide +kernel) (pa_cons (pv 0) pa_nil)) pe_int (nomark _)) (pss_one (ps_asg pe_str (pg_sub (pv 0) pe_int set_list))) pss_nil)
      (pss_one (ps_expr (pe_bm PySem.F.plainAttrs_list PySem.F.slot_list_append PySem.F.type_list_append mt_append (pv 0) (pa_cons pe_int pa_nil))))) pss_nil))), ?_⟩
    refine ⟨_, rfl, (by show 2 ≤ sizeLine; decide), fun tp htp => ?_⟩
    obtain ⟨H1, e1, s1, g1⟩ := alloc htp (.tup [.ty "list", .ty "tuple"])
    rw [e1]
    refine ⟨_, tp, _, _, [.type "list", .type "tuple"], false, rfl, g1, .cons (.ty _) (.cons (.ty _) .nil), (Kd.int i).ty, kit_lt_int, _, rfl, iteF ?_⟩
    exact ⟨_, rfl, _, _, _, _, false, rfl, .ty _, (Kd.int i).ty, kit_ty (by decide +kernel), _, rfl, iteF (qq _ s1)⟩
def sp_spoil : Sp := fun vs H Q _ => ∃ (p : Addr) (f : List Int), vs = [.ref p] ∧ H p = some (.lst (IL f)) ∧ f.length ≤ 1000 ∧ ∀ H', Kp p H H' → Q .non H'
theorem ok_spoil (T : TX K mg) : FnOk P w K mg base CX0 2 (A K "_law_spoil") (fdA K (A K "_law_spoil")) ["_law_thing"] sp_spoil := by
  have ih : FnOk P w K mg base CX0 1 (A K "_law_spoil") (fdA K (A K "_law_spoil")) ["_law_thing"] sp_spoil0 := ok_spoil0 T
  refine T.F__law_spoil.ok sc__law_spoil (fun vs H Q E h => ?_) (fun cdv A0 outer s0 H vs Q E hr h => ?_)
  · obtain ⟨p, f, rfl, _⟩ := h
    rfl
  · obtain ⟨p, f, rfl, hp, hf, qq⟩ := h
    refine ⟨_, (pss_cons (ps_if (pt_val (pe_callB call_isiT (by rfl) T.n_isinstance (by decide +kernel) (pa_cons (pv 0) (pa_cons (pe_tup (pa_cons (pe_bltn (v := .ty "list") (by rfl) T.n_list (by decide +kernel) rfl) (pa_cons (pe_bltn (v := .ty "tuple") (by rfl) T.n_tuple (by decide +kernel) rfl) pa_nil))) pa_nil)))) (pss_one (ps_for PassesOwn.never rfl (pi_list (pv 0)) (pg_name (i := 1) sc__law_spoil.nd rfl (Or.inl rfl)) (pss_one (ps_expr (pe_call ih hr (by rfl) T.g__law_spoil T.F__law_spoil.kp T.b__law_spoil .nil pass0 (pa_cons (pv 1) pa_nil)))))) pss_nil)
      (pss_one (ps_if (pt_val (pe_callB call_isi (by rfl) T.n_isinstance (by decide +kernel) (pa_cons (pv 0) (pa_cons (pe_bltn (v := .ty "list") (by rfl) T.n_list (by decide +kernel) rfl) pa_nil)))) (pss_cons (ps_if (pt_cmpR op_gt (pe_callB call_len_seq (by rfl) T.n_len (by decide +kernel) (pa_cons (pv 0) pa_nil)) pe_int (nomark _)) (pss_one (ps_asg pe_str (pg_sub (pv 0) pe_int set_list))) pss_nil)
      (pss_one (ps_expr (pe_bm PySem.F.plainAttrs_list PySem.F.slot_list_append PySem.F.type_list_append mt_append (pv 0) (pa_cons pe_int pa_nil))))) pss_nil))), ?_⟩
    refine ⟨_, rfl, (by show 2 ≤ sizeLine; decide), fun tp htp => ?_⟩
    obtain ⟨H1, e1, s1, g1⟩ := alloc htp (.tup [.ty "list", .ty "tuple"])
    rw [e1]
    refine ⟨_, tp, _, _, [.type "list", .type "tuple"], true, rfl, g1, .cons (.ty _) (.cons (.ty _) .nil), (Kd.lst (s1 _ _ hp)).ty, kit_lt_lst, _, rfl, iteT ?_⟩
    refine ⟨_, rfl, p, rfl, ⟨_, lq (s1 _ _ hp)⟩, ?_⟩
    refine for_list (xs := IL f) (fun i σ H' => ∃ u1, σ = [some (.ref p), u1] ∧ Same H1 H') ⟨none, rfl, .refl _⟩ (fun i σ H' _ ⟨_, _, s⟩ => lq (s _ _ (s1 _ _ hp))) ?_ ?_
    · rintro i x σ H' hx ⟨u1, rfl, sm⟩
      rw [List.getElem?_map] at hx
      obtain ⟨z, hz, rfl⟩ := Option.map_eq_some_iff.mp hx
      exact ⟨_, rfl, z, rfl, fun H2 s2 => ⟨_, rfl, sm.trans s2⟩⟩
    · rintro σ H' ⟨u1, rfl, sm⟩
      have hp2 := sm _ _ (s1 _ _ hp)
      have k2 : Kp p H H' := .of_same (s1.trans sm)
      have kk : ∀ o, Kp p H (upd H' p o) := fun o b o' n e => by
        rw [upd_ne n]
        exact k2 b o' n e
      refine ⟨_, rfl, _, _, _, _, true, rfl, .ty _, (Kd.lst hp2).ty, kit_ty (by decide +kernel), _, rfl, iteT ?_⟩
      refine ⟨_, rfl, _, _, rfl, .inl (lq hp2), _, _, rfl, rfl, _, rfl, ite2 (fun e => ?_) fun e => ?_⟩
      · have e1 : (0 : Int) < ((IL f).length : Int) := of_decide_eq_true e
        refine ⟨_, rfl, p, _, _, 0, rfl, rfl, hp2, ixN_of (by omega) (by omega), ?_⟩
        refine ⟨_, rfl, .inl ⟨rfl, _, lq upd_same⟩, p, _, _, rfl, rfl, upd_same, line_lt ?_, ?_⟩
        · rw [List.length_set, il_len]
          omega
        · rw [upd_upd]
          exact qq _ (kk _)
      · refine ⟨_, rfl, .inl ⟨rfl, _, lq hp2⟩, p, _, _, rfl, rfl, hp2, line_lt ?_, ?_⟩
        · rw [il_len]
          omega
        · exact qq _ (kk _)
end
end Kx
set_option Elab.async false
set_option linter.all false
set_option maxRecDepth 100000
set_option maxHeartbeats 4000000
/-! The law's values beyond, its spoilt rows. -/
namespace Kx
open PySem PySem.Spec PyProof.Rows L2
theorem Same.off {H H' : Hp} {l : Addr} (s : Same H H') : Same (off l H) (off l H') := (Kp.of_same s).off
/-- what is new in H' -/
def nw (H H' : Hp) : Hp := fun b => match H b with
  | none => H' b
  | some _ => none
theorem nw_of {H H' : Hp} {b : Addr} {o : HO} (n : H b = none) (h : H' b = some o) : nw H H' b = some o := by
  unfold nw
  rw [n]
  exact h
theorem nw_some {H H' : Hp} {b : Addr} {o : HO} (h : nw H H' b = some o) : H b = none ∧ H' b = some o := by
  unfold nw at h
  split at h
  · exact ⟨by assumption, h⟩
  · cases h
theorem nw_back {H H1 H2 : Hp} (f : ∀ b, H1 b = none → H b = none) : Same (nw H1 H2) (nw H H2) := fun b o e => nw_of (f b (nw_some e).1) (nw_some e).2
theorem at_nat {xs : List V} {i : Int} (h0 : 0 ≤ i) (h1 : i < xs.length) : ∃ v, atI xs i = some v ∧ v ∈ xs := by
  have hi : i.toNat < xs.length := by omega
  exact ⟨xs[i.toNat], at_of (j := i.toNat) (by omega) (List.getElem?_eq_getElem hi), List.getElem_mem hi⟩
section
variable {P : Program} {w : World} {K : PySem.W.Frag} {mg : Str → Option Value} {base : Heap}
def sp_other : Sp := fun vs H Q _ => ∃ (l s : Addr), vs = [.ref l] ∧ Sto H l s ∧ Dr l s H (fun v H' => It (nw H H') v ∧ isI v = false) Q
theorem ok__law_other (T : TX K mg) : FnOk P w K mg base CX0 3 (A K "_law_other") (fdA K (A K "_law_other")) ["_law_store"] sp_other := by
  refine T.F__law_other.ok sc__law_other (fun vs H Q E h => ?_) (fun cdv A0 outer s0 H vs Q E hr h => ?_)
  · obtain ⟨l, s, rfl, _⟩ := h
    rfl
  · obtain ⟨l, s, rfl, S, qq⟩ := h
    refine ⟨_, (pss_one (ps_ret (pe_ix ix_list (pe_lst (pa_cons pe_bl (pa_cons pe_bl (pa_cons pe_non (pa_cons pe_str (pa_cons pe_str (pa_cons (pe_lst pa_nil) (pa_cons (pe_lst (pa_cons pe_int pa_nil)) (pa_cons (pe_tup pa_nil) (pa_cons (pe_tup (pa_cons pe_int pa_nil)) (pa_cons pe_str pa_nil))))))))))) (pe_call (ok__law_take T) (hr.mono (by decide)) (by rfl) T.g__law_take T.F__law_take.kp T.b__law_take .nil pass0 (pa_cons (pv 0) (pa_cons pe_int pa_nil))) (fun _ _ => rfl)))), ?_⟩
    refine ⟨Nat.zero_le _, fun p1 hp1 => ?_⟩
    obtain ⟨H1, e1, s1, g1⟩ := alloc hp1 (.lst [])
    rw [e1]
    refine ⟨(by show 1 ≤ sizeLine; decide), fun p2 hp2 => ?_⟩
    obtain ⟨H2, e2, s2, g2⟩ := alloc hp2 (.lst [.int 3])
    rw [e2]
    refine ⟨Nat.zero_le _, fun p3 hp3 => ?_⟩
    obtain ⟨H3, e3, s3, g3⟩ := alloc hp3 (.tup [])
    rw [e3]
    refine ⟨(by show 1 ≤ sizeLine; decide), fun p4 hp4 => ?_⟩
    obtain ⟨H4, e4, s4, g4⟩ := alloc hp4 (.tup [.int 3])
    rw [e4]
    refine ⟨(by show 10 ≤ sizeLine; decide), fun p5 hp5 => ?_⟩
    obtain ⟨H5, e5, s5, g5⟩ := alloc hp5 (.lst [.bl true, .bl false, .non, .str "", .str "3", .ref p1, .ref p2, .ref p3, .ref p4, .str "a"])
    rw [e5]
    have s05 := (s1.trans s2).trans ((s3.trans s4).trans s5)
    refine ⟨_, rfl, l, s, 10, rfl, by decide, S.same s05, fun v H6 k6 S6 g => ?_⟩
    obtain ⟨i, rfl, i0, i1⟩ := g
    have i1' : i < 10 := i1
    have k05 := (Kp.of_same (l := l) s05).trans k6
    have n1 := S.no hp1
    have n2 := S.no (s1.free hp2)
    have n3 := S.no (s1.free (s2.free hp3))
    have n4 := S.no (s1.free (s2.free (s3.free hp4)))
    have n5 := S.no (s1.free (s2.free (s3.free (s4.free hp5))))
    have a1 : nw H H6 p1 = some (.lst []) := nw_of hp1 (k6 _ _ n1 (s5 _ _ (s4 _ _ (s3 _ _ (s2 _ _ g1)))))
    have a2 : nw H H6 p2 = some (.lst [.int 3]) := nw_of (s1.free hp2) (k6 _ _ n2 (s5 _ _ (s4 _ _ (s3 _ _ g2))))
    have a3 : nw H H6 p3 = some (.tup []) := nw_of (s1.free (s2.free hp3)) (k6 _ _ n3 (s5 _ _ (s4 _ _ g3)))
    have a4 : nw H H6 p4 = some (.tup [.int 3]) := nw_of (s1.free (s2.free (s3.free hp4))) (k6 _ _ n4 (s5 _ _ g4))
    obtain ⟨v, hv, hm⟩ := at_nat (xs := [.bl true, .bl false, .non, .str "", .str "3", .ref p1, .ref p2, .ref p3, .ref p4, .str "a"]) i0 i1'
    refine ⟨p5, _, i, v, rfl, rfl, lq (k6 _ _ n5 g5), hv, qq _ _ k05 S6 ?_⟩
    simp only [List.mem_cons, List.not_mem_nil, or_false] at hm
    rcases hm with rfl | rfl | rfl | rfl | rfl | rfl | rfl | rfl | rfl | rfl
    · exact ⟨⟨⟨_, .bl _⟩, .bl _ _⟩, rfl⟩
    · exact ⟨⟨⟨_, .bl _⟩, .bl _ _⟩, rfl⟩
    · exact ⟨⟨⟨_, .non⟩, .non _⟩, rfl⟩
    · exact ⟨⟨⟨_, .str _⟩, .str _ _⟩, rfl⟩
    · exact ⟨⟨⟨_, .str _⟩, .str _ _⟩, rfl⟩
    · exact ⟨⟨⟨_, .lst a1⟩, .same_lst a1 a1 (by decide) (fun x hx => by cases hx)⟩, rfl⟩
    · exact ⟨⟨⟨_, .lst a2⟩, .same_lst a2 a2 (by decide) (fun x hx => by
        rw [List.mem_singleton] at hx
        subst hx
        exact .int _ _)⟩, rfl⟩
    · exact ⟨⟨⟨_, .tup a3⟩, .same_tup a3 a3 (by decide) (fun x hx => by cases hx)⟩, rfl⟩
    · exact ⟨⟨⟨_, .tup a4⟩, .same_tup a4 a4 (by decide) (fun x hx => by
        rw [List.mem_singleton] at hx
        subst hx
        exact .int _ _)⟩, rfl⟩
    · exact ⟨⟨⟨_, .str _⟩, .str _ _⟩, rfl⟩
def sp_beyond : Sp := fun vs H Q _ => ∃ (l s : Addr) (hi : Int), vs = [.ref l, .int 0, .int hi] ∧ 0 ≤ hi ∧ Sto H l s ∧ Dr l s H (fun v H' => It (nw H H') v ∧ inR 0 hi v = false) Q
theorem inR_isI {lo hi : Int} {v : V} (h : isI v = false) : inR lo hi v = false := by
  cases v <;> first | rfl | cases h
theorem ok__law_beyond (T : TX K mg) : FnOk P w K mg base CX0 4 (A K "_law_beyond") (fdA K (A K "_law_beyond")) ["_law_store", "_law_low", "_law_high"] sp_beyond := by
  refine T.F__law_beyond.ok sc__law_beyond (fun vs H Q E h => ?_) (fun cdv A0 outer s0 H vs Q E hr h => ?_)
  · obtain ⟨l, s, hi, rfl, _⟩ := h
    rfl
  · obtain ⟨l, s, hi, rfl, h0, S, qq⟩ := h
    have far : ∀ z : Int, ¬ (0 ≤ z ∧ z ≤ hi) → inR 0 hi (.int z) = false := fun z h => decide_eq_false h
    refine ⟨_, (pss_cons (ps_set (i := 3) sc__law_beyond.nd rfl (Or.inl rfl) (pe_call (ok__law_take T) (hr.mono (by decide)) (by rfl) T.g__law_take T.F__law_take.kp T.b__law_take .nil pass0 (pa_cons (pv 0) (pa_cons pe_int pa_nil))))
      (pss_cons (ps_if (pt_cmpR op_eq (pv 3) pe_int (nomark _)) (pss_one (ps_ret (pe_call (ok__law_other T) (hr.mono (by decide)) (by rfl) T.g__law_other T.F__law_other.kp T.b__law_other .nil pass0 (pa_cons (pv 0) pa_nil)))) pss_nil)
      (pss_cons (ps_if (pt_cmpR op_eq (pv 3) pe_int (nomark _)) (pss_one (ps_ret (pe_call (ok__law_pick T) (hr.mono (by decide)) (by rfl) T.g__law_pick T.F__law_pick.kp T.b__law_pick .nil pass0 (pa_cons (pv 0) (pa_cons (pe_lst (pa_cons (pe_op op_sub (pv 1) pe_int) (pa_cons (pe_op op_add (pv 2) pe_int) pa_nil))) pa_nil))))) pss_nil)
      (pss_cons (ps_if (pt_cmpR op_eq (pv 3) pe_int (nomark _)) (pss_one (ps_ret (pe_op op_sub (pe_op op_sub (pv 1) pe_int) (pe_call (ok__law_wide T) (hr.mono (by decide)) (by rfl) T.g__law_wide T.F__law_wide.kp T.b__law_wide .nil pass0 (pa_cons (pv 0) (pa_cons (pe_op op_pow pe_int pe_int) pa_nil)))))) pss_nil)
      (pss_one (ps_ret (pe_op op_add (pe_op op_add (pv 2) pe_int) (pe_call (ok__law_wide T) (hr.mono (by decide)) (by rfl) T.g__law_wide T.F__law_wide.kp T.b__law_wide .nil pass0 (pa_cons (pv 0) (pa_cons (pe_op op_pow pe_int pe_int) pa_nil)))))))))), ?_⟩
    refine ⟨_, rfl, l, s, 4, rfl, by decide, S, fun v H1 k1 S1 g => ?_⟩
    obtain ⟨kd, rfl, _, _⟩ := g
    refine ⟨_, rfl, rfl, _, rfl, ite2 (fun _ => ?_) fun _ => ?_⟩
    · exact ⟨_, rfl, l, s, rfl, S1, fun v H2 k2 S2 g => qq _ _ (k1.trans k2) S2 ⟨g.1.same (nw_back fun b n => S1.free k1 n), inR_isI g.2⟩⟩
    refine ⟨_, rfl, rfl, _, rfl, ite2 (fun _ => ?_) fun _ => ?_⟩
    · refine ⟨_, rfl, _, rfl, _, _, rfl, rfl, _, rfl, _, _, rfl, rfl, (by show 2 ≤ sizeLine; decide), fun p hp => ?_⟩
      obtain ⟨H2, e2, s2, g2⟩ := alloc hp (.lst [.int (0 - 1), .int (hi + 1)])
      rw [e2]
      refine ⟨l, s, p, _, rfl, g2, S1.no hp, (by show 0 < 2; decide), (by show 2 ≤ 1000; decide), S1.same s2, fun v H3 k3 S3 g => qq _ _ ((k1.trans (.of_same s2)).trans k3) S3 ?_⟩
      obtain ⟨i, hi⟩ := g
      have h2 : i < 2 := (List.getElem?_eq_some_iff.mp hi).1
      have : i = 0 ∨ i = 1 := by omega
      rcases this with rfl | rfl <;> cases hi
      · exact ⟨.int _ _, far _ (by omega)⟩
      · exact ⟨.int _ _, far _ (by omega)⟩
    refine ⟨_, rfl, rfl, _, rfl, ite2 (fun _ => ?_) fun _ => ?_⟩
    · refine ⟨_, rfl, _, _, rfl, rfl, _, rfl, _, _, rfl, rfl, ⟨by decide, by decide, by decide⟩, l, s, _, rfl, S1, fun v H3 k3 S3 g => ?_⟩
      obtain ⟨z, rfl, z0, _⟩ := g
      exact ⟨_, _, rfl, rfl, qq _ _ (k1.trans k3) S3 ⟨.int _ _, far _ (by omega)⟩⟩
    · refine ⟨_, rfl, _, _, rfl, rfl, _, rfl, _, _, rfl, rfl, ⟨by decide, by decide, by decide⟩, l, s, _, rfl, S1, fun v H3 k3 S3 g => ?_⟩
      obtain ⟨z, rfl, z0, _⟩ := g
      exact ⟨_, _, rfl, rfl, qq _ _ (k1.trans k3) S3 ⟨.int _ _, far _ (by omega)⟩⟩
end
end Kx
set_option Elab.async false
set_option linter.all false
set_option maxRecDepth 100000
set_option maxHeartbeats 4000000
/-! The law's spoilt rows. -/
namespace Kx
open PySem PySem.Spec PyProof.Rows L2
def ExpOf (nm : Str) (fs : List (Str × V)) (es : List V) : Prop :=
  (nm = "BadLength" ∧ ∃ x y : Int, fs = ([("found", .int y), ("expected", .int x)] : List (Str × V)) ∧ es = [.str "refused", .str "BadLength", .int x, .int y]) ∨
  (nm = "BadItem" ∧ ∃ i : Int, fs = ([("index", .int i)] : List (Str × V)) ∧ es = [.str "refused", .str "BadItem", .int i])
def Its (H : Hp) (xs : List V) : Prop := ∀ x ∈ xs, It H x
theorem Its.same {H H' : Hp} {xs : List V} (h : Its H xs) (s : Same H H') : Its H' xs := fun x hx => (h x hx).same s
theorem Its.ints (H : Hp) (f : List Int) : Its H (IL f) := fun x hx => by
  obtain ⟨i, _, rfl⟩ := List.mem_map.mp hx
  exact .int _ i
theorem Its.set {H : Hp} {xs : List V} {i : Nat} {v : V} (h : Its H xs) (hv : It H v) : Its H (xs.set i v) := fun x hx => by
  rcases List.mem_or_eq_of_mem_set hx with z | z
  · exact h x z
  · rw [z]
    exact hv
theorem mem_cut {xs : List V} {lo hi : Option Int} {x : V} (h : x ∈ cutV xs lo hi) : x ∈ xs := List.mem_of_mem_drop (List.mem_of_mem_take h)
theorem off_mono {p : Addr} {H H' : Hp} (s : Same H H') : Same (off p H) (off p H') := fun b o e => by
  unfold off at e ⊢
  split at e
  · cases e
  · rename_i n
    rw [if_neg n]
    exact s b o e
theorem off_upd {p : Addr} {H : Hp} {o : HO} : off p (upd H p o) = off p H := funext fun b => by
  unfold off
  split
  · rfl
  · rename_i n
    exact upd_ne n
theorem off_upd2 {p l : Addr} {H : Hp} {o : HO} : off p (off l (upd H p o)) = off p (off l H) := funext fun b => by
  unfold off
  split
  · rfl
  · rename_i n
    split
    · rfl
    · exact upd_ne n
def SpoR (q : Int) (n : Nat) (l : Addr) (H : Hp) : V → Hp → Prop := fun v H' => ∃ (t b e : Addr) (xs es : List V) (nm : Str) (fs : List (Str × V)), v = .ref t ∧ H t = none ∧ H b = none ∧ H e = none ∧ H' t = some (.tup [.ref b, .ref e]) ∧ H' b = some (.lst xs) ∧ H' e = some (.tup es) ∧
  xs.length ≤ 1000 ∧ Its (off l H') xs ∧ FltOf q n xs nm fs ∧ ExpOf nm fs es
/-- one item is beyond, those before are not -/
def Mid (q : Int) (xs : List V) (k : Nat) : Prop := (∃ x, xs[k]? = some x ∧ inR 0 (q - 1) x = false) ∧ ∀ j y, j < k → xs[j]? = some y → inR 0 (q - 1) y = true
section
variable {P : Program} {w : World} {K : PySem.W.Frag} {mg : Str → Option Value} {base : Heap}
def sp_spoilt : Sp := fun vs H Q _ => ∃ (l s a : Addr) (n : Nat) (q : Int) (f : List Int), vs = [.ref l, .ref a, .int q] ∧ H a = some (.lst (IL f)) ∧ a ≠ l ∧ Poly n q f ∧ 8 ≤ n ∧ n ≤ 256 ∧ 3 ≤ q ∧ q < 5000 ∧ Sto H l s ∧ Dr l s H (SpoR q n l H) Q
theorem ok__law_spoilt (T : TX K mg) : FnOk P w K mg base CX0 5 (A K "_law_spoilt") (fdA K (A K "_law_spoilt")) ["_law_store", "_law_row", "_law_q"] sp_spoilt := by
  refine T.F__law_spoilt.ok sc__law_spoilt (fun vs H Q E h => ?_) (fun cdv A0 outer s0 H vs Q E hr h => ?_)
  · obtain ⟨l, s, a, n, q, f, rfl, _⟩ := h
    rfl
  · obtain ⟨l, s, a, n, q, f, rfl, ha, nal, hf, n0, n1, q0, q1, S, qq⟩ := h
    have fin : ∀ (H' : Hp) (b : Addr) (xs es : List V) (nm : Str) (fs : List (Str × V)), Kp l H H' → Sto H' l s → H b = none → H' b = some (.lst xs) → xs.length ≤ 1000 → Its (off l H') xs → FltOf q n xs nm fs → ExpOf nm fs es →
        ∀ e, H' e = none → ∀ t, (upd H' e (.tup es)) t = none → Q (.ref t) (upd (upd H' e (.tup es)) t (.tup [.ref b, .ref e])) := by
      intro H' b xs es nm fs k S' nb hb h1 hi hF hE e he t ht
      have se := same_upd (o := .tup es) he
      have st := same_upd (o := .tup [.ref b, .ref e]) ht
      exact qq _ _ (k.trans (.of_same (se.trans st))) (S'.same (se.trans st)) ⟨t, b, e, xs, es, nm, fs, rfl, S'.free k (se.free ht), nb, S'.free k he, upd_same, st _ _ (se _ _ hb), st _ _ upd_same, h1, hi.same (Kp.of_same (se.trans st)).off, hF, hE⟩
    have R : ∃ t3, PSs ((cxOf CX0 P w K mg base N__law_spoilt "_law_spoilt" (defScope s__law_spoilt) (A K "_law_spoilt") cdv A0 outer s0 H E).nox) ((defBody s__law_spoilt).drop 4) t3 ∧ ∀ (H' : Hp) (p : Addr) (xs : List V) (i : Nat) (k : Int) (y6 : Option V), Kp l H H' → Sto H' l s → H p = none → H' p = some (.lst xs) → xs.length = n → Its (off l H') xs → (2 ≤ k → Mid q xs i) →
        t3 { nx := fun _ H' => Q .non H', rt := Q } [some (.ref l), some (.ref a), some (.int q), some (.ref p), some (.int i), some (.int k), y6] H' := by
      refine ⟨_, (pss_cons (ps_if (pt_cmpR op_lt (pv 5) pe_int (nomark _)) (pss_cons (ps_set (i := 3) sc__law_spoilt.nd rfl (Or.inl rfl) (pe_call (ok__law_pick T) (hr.mono (by decide)) (by rfl) T.g__law_pick T.F__law_pick.kp T.b__law_pick .nil pass0 (pa_cons (pv 0) (pa_cons (pe_lst (pa_cons (pe_lst pa_nil) (pa_cons (pe_slice sl_list (pv 3) (po_some pe_int) po_none) (pa_cons (pe_slice sl_list (pv 3) po_none (po_some (pe_un un_neg pe_int))) (pa_cons (pe_op op_cat (pv 3) (pv 3)) (pa_cons (pe_op op_cat (pv 3) (pe_slice sl_list (pv 1) po_none (po_some pe_int))) pa_nil)))))) pa_nil))))
      (pss_one (ps_ret (pe_tup (pa_cons (pv 3) (pa_cons (pe_tup (pa_cons pe_str (pa_cons pe_str (pa_cons (pe_callB call_len_seq (by rfl) T.n_len (by decide +kernel) (pa_cons (pv 1) pa_nil)) (pa_cons (pe_callB call_len_seq (by rfl) T.n_len (by decide +kernel) (pa_cons (pv 3) pa_nil)) pa_nil))))) pa_nil)))))) pss_nil)
      (pss_one (ps_ret (pe_tup (pa_cons (pv 3) (pa_cons (pe_tup (pa_cons pe_str (pa_cons pe_str (pa_cons (pv 4) pa_nil)))) pa_nil)))))), fun H' p xs i k y6 kp S' np hp hl hi hm => ?_⟩
      refine ⟨_, rfl, _, _, rfl, rfl, _, rfl, ite2 (fun e => ?_) fun e => ?_⟩
      · -- a wrong length
        have npl : p ≠ l := S.no np
        refine ⟨_, rfl, Nat.zero_le _, fun p1 hp1 => ?_⟩
        obtain ⟨H1, e1, s1, g1⟩ := alloc hp1 (.lst [])
        rw [e1]
        refine ⟨_, rfl, _, rfl, p, xs, rfl, lq (s1 _ _ hp), fun p2 hp2 => ?_⟩
        obtain ⟨H2, e2, s2, g2⟩ := alloc hp2 (.lst (cutV xs (some 1) none))
        rw [e2]
        have s02 := s1.trans s2
        refine ⟨_, rfl, _, rfl, _, rfl, p, xs, rfl, lq (s02 _ _ hp), fun p3 hp3 => ?_⟩
        obtain ⟨H3, e3, s3, g3⟩ := alloc hp3 (.lst (cutV xs none (some (-1))))
        rw [e3]
        have s03 := s02.trans s3
        refine ⟨_, rfl, _, rfl, p, p, xs, xs, rfl, rfl, s03 _ _ hp, s03 _ _ hp, line_of (by omega), fun p4 hp4 => ?_⟩
        obtain ⟨H4, e4, s4, g4⟩ := alloc hp4 (.lst (xs ++ xs))
        rw [e4]
        have s04 := s03.trans s4
        have ha4 : H4 a = some (.lst (IL f)) := s04 _ _ (kp _ _ nal ha)
        refine ⟨_, rfl, _, rfl, _, rfl, a, IL f, rfl, lq ha4, fun p5 hp5 => ?_⟩
        obtain ⟨H5, e5, s5, g5⟩ := alloc hp5 (.lst (cutV (IL f) none (some 1)))
        rw [e5]
        have s05 := s04.trans s5
        have l5 : (cutV (IL f) none (some 1)).length = 1 := by
          unfold cutV
          rw [List.length_take, List.length_drop, il_len, hf.1]
          show min (min (1 : Int).toNat n - 0) (n - 0) = 1
          have : (1 : Int).toNat = 1 := rfl
          omega
        refine ⟨p, p5, xs, _, rfl, rfl, s05 _ _ hp, g5, line_of (by omega), fun p6 hp6 => ?_⟩
        obtain ⟨H6, e6, s6, g6⟩ := alloc hp6 (.lst (xs ++ cutV (IL f) none (some 1)))
        rw [e6]
        have s06 := s05.trans s6
        refine ⟨(by show 5 ≤ sizeLine; decide), fun p7 hp7 => ?_⟩
        obtain ⟨H7, e7, s7, g7⟩ := alloc hp7 (.lst [.ref p1, .ref p2, .ref p3, .ref p4, .ref p6])
        rw [e7]
        have s07 := s06.trans s7
        have k07 := kp.trans (.of_same (l := l) s07)
        have S7 := S'.same s07
        refine ⟨l, s, p7, _, rfl, g7, S'.no (s06.free hp7), (by show 0 < 5; decide), (by show 5 ≤ 1000; decide), S7, fun v H8 k8 S8 g => ?_⟩
        have k08 := k07.trans k8
        have hi8 : Its (off l H8) xs := hi.same ((Kp.of_same s07).trans k8).off
        have nn1 := S'.free kp hp1
        have nn2 := S'.free kp (s1.free hp2)
        have nn3 := S'.free kp (s02.free hp3)
        have nn4 := S'.free kp (s03.free hp4)
        have nn6 := S'.free kp (s05.free hp6)
        obtain ⟨b, ys, rfl, nb, hb, hlen, hl2, hys⟩ : ∃ (b : Addr) (ys : List V), v = .ref b ∧ H b = none ∧ H8 b = some (.lst ys) ∧ ys.length ≠ n ∧ ys.length ≤ 1000 ∧ Its (off l H8) ys := by
          obtain ⟨j, hj⟩ := g
          have h5 : j < 5 := (List.getElem?_eq_some_iff.mp hj).1
          have : j = 0 ∨ j = 1 ∨ j = 2 ∨ j = 3 ∨ j = 4 := by omega
          rcases this with rfl | rfl | rfl | rfl | rfl <;> cases hj
          · exact ⟨p1, [], rfl, nn1, k8 _ _ (S.no nn1) (s7 _ _ (s6 _ _ (s5 _ _ (s4 _ _ (s3 _ _ (s2 _ _ g1)))))), by show 0 ≠ n; omega, Nat.zero_le _, fun x hx => by cases hx⟩
          · have ln : (cutV xs (some 1) none).length = n - 1 := by
              unfold cutV
              rw [List.length_take, List.length_drop, hl]
              show min (n - min (1 : Int).toNat n) (n - min (1 : Int).toNat n) = n - 1
              have : (1 : Int).toNat = 1 := rfl
              omega
            exact ⟨p2, _, rfl, nn2, k8 _ _ (S.no nn2) (s7 _ _ (s6 _ _ (s5 _ _ (s4 _ _ (s3 _ _ g2))))), by rw [ln]; omega, by rw [ln]; omega, fun x hx => hi8 x (mem_cut hx)⟩
          · have ln : (cutV xs none (some (-1))).length = n - 1 := by
              unfold cutV
              rw [List.length_take, List.length_drop, hl]
              show min (((-1 : Int) + (n : Int)).toNat - 0) (n - 0) = n - 1
              omega
            exact ⟨p3, _, rfl, nn3, k8 _ _ (S.no nn3) (s7 _ _ (s6 _ _ (s5 _ _ (s4 _ _ g3)))), by rw [ln]; omega, by rw [ln]; omega, fun x hx => hi8 x (mem_cut hx)⟩
          · exact ⟨p4, _, rfl, nn4, k8 _ _ (S.no nn4) (s7 _ _ (s6 _ _ (s5 _ _ g4))), by rw [List.length_append]; omega, by rw [List.length_append]; omega, fun x hx => hi8 x (by rcases List.mem_append.mp hx with z | z <;> exact z)⟩
          · exact ⟨p6, _, rfl, nn6, k8 _ _ (S.no nn6) (s7 _ _ g6), by rw [List.length_append, l5]; omega, by rw [List.length_append, l5]; omega, fun x hx => by
              rcases List.mem_append.mp hx with z | z
              · exact hi8 x z
              · exact Its.ints _ _ x (mem_cut z)⟩
        have ha8 : H8 a = some (.lst (IL f)) := k08 _ _ nal ha
        refine ⟨_, rfl, _, rfl, _, _, rfl, .inl (lq ha8), _, rfl, _, _, rfl, .inl (lq hb), (by show 4 ≤ sizeLine; decide), fun e he => ⟨(by show 2 ≤ sizeLine; decide), fun t ht => ?_⟩⟩
        refine fin H8 b ys _ "BadLength" [("found", .int ys.length), ("expected", .int n)] k08 S8 nb hb hl2 hys (.inl ⟨hlen, rfl, rfl⟩) (.inl ⟨rfl, n, ys.length, rfl, ?_⟩) e he t ht
        rw [il_len, hf.1]
      · have k2 : 2 ≤ k := by
          have : ¬ k < 2 := fun z => e (decide_eq_true z)
          omega
        obtain ⟨⟨x, hx, hbad⟩, hgood⟩ := hm k2
        refine ⟨_, rfl, _, rfl, (by show 3 ≤ sizeLine; decide), fun e he => ⟨(by show 2 ≤ sizeLine; decide), fun t ht => ?_⟩⟩
        exact fin H' p xs _ "BadItem" [("index", .int i)] kp S' np hp (by omega) hi (.inr ⟨hl, i, x, hx, hbad, hgood, rfl, rfl⟩) (.inr ⟨rfl, i, rfl, rfl⟩) e he t ht
    obtain ⟨t3, d3, r3⟩ := R
    refine ⟨_, (pss_cons (ps_set (i := 3) sc__law_spoilt.nd rfl (Or.inl rfl) (pe_callTy call_list_of (by rfl) T.n_list (by decide +kernel) (pa_cons (pv 1) pa_nil)))
      (pss_cons (ps_set (i := 4) sc__law_spoilt.nd rfl (Or.inl rfl) (pe_call (ok__law_between T) (hr.mono (by decide)) (by rfl) T.g__law_between T.F__law_between.kp T.b__law_between .nil pass0 (pa_cons (pv 0) (pa_cons pe_int (pa_cons (pe_op op_sub (pe_callB call_len_seq (by rfl) T.n_len (by decide +kernel) (pa_cons (pv 3) pa_nil)) pe_int) pa_nil)))))
      (pss_cons (ps_set (i := 5) sc__law_spoilt.nd rfl (Or.inl rfl) (pe_call (ok__law_take T) (hr.mono (by decide)) (by rfl) T.g__law_take T.F__law_take.kp T.b__law_take .nil pass0 (pa_cons (pv 0) (pa_cons pe_int pa_nil))))
      (pss_cons (ps_if (pt_cmpR op_gt (pv 5) pe_int (nomark _)) (pss_cons (ps_set (i := 6) sc__law_spoilt.nd rfl (Or.inl rfl) (pe_call (ok__law_pick T) (hr.mono (by decide)) (by rfl) T.g__law_pick T.F__law_pick.kp T.b__law_pick .nil pass0 (pa_cons (pv 0) (pa_cons (pe_lst (pa_cons (pv 4) (pa_cons (pe_call (ok__law_between T) (hr.mono (by decide)) (by rfl) T.g__law_between T.F__law_between.kp T.b__law_between .nil pass0 (pa_cons (pv 0) (pa_cons (pv 4) (pa_cons (pe_op op_sub (pe_callB call_len_seq (by rfl) T.n_len (by decide +kernel) (pa_cons (pv 3) pa_nil)) pe_int) pa_nil)))) pa_nil))) pa_nil))))
      (pss_cons (ps_asg (pe_call (ok__law_beyond T) (hr.mono (by decide)) (by rfl) T.g__law_beyond T.F__law_beyond.kp T.b__law_beyond .nil pass0 (pa_cons (pv 0) (pa_cons pe_int (pa_cons (pe_op op_sub (pv 2) pe_int) pa_nil)))) (pg_sub (pv 3) (pv 6) set_list))
      (pss_one (ps_asg (pe_call (ok__law_beyond T) (hr.mono (by decide)) (by rfl) T.g__law_beyond T.F__law_beyond.kp T.b__law_beyond .nil pass0 (pa_cons (pv 0) (pa_cons pe_int (pa_cons (pe_op op_sub (pv 2) pe_int) pa_nil)))) (pg_sub (pv 3) (pv 4) set_list))))) pss_nil)
      d3)))), ?_⟩
    refine ⟨_, rfl, a, _, rfl, .inl (lq ha), fun p hp => ?_⟩
    obtain ⟨H1, e1, s1, g1⟩ := alloc hp (.lst (IL f))
    rw [e1]
    have npl := S.no hp
    have len : ((IL f).length : Int) = n := by rw [il_len, hf.1]
    refine ⟨_, rfl, _, rfl, _, _, rfl, .inl (lq g1), _, _, rfl, rfl, l, s, 0, ((IL f).length : Int) - 1, rfl, by omega, by omega, by omega, S.same s1, fun v H2 k2 S2 g => ?_⟩
    obtain ⟨i, rfl, i0, i1⟩ := g
    refine ⟨_, rfl, l, s, 6, rfl, by decide, S2, fun v H3 k3 S3 g => ?_⟩
    obtain ⟨k, rfl, kk0, kk1⟩ := g
    have k03 : Kp l H H3 := (Kp.of_same s1).trans (k2.trans k3)
    have g3 : H3 p = some (.lst (IL f)) := (k2.trans k3) _ _ npl g1
    obtain ⟨at_, rfl⟩ : ∃ m : Nat, i = (m : Int) := ⟨i.toNat, by omega⟩
    refine ⟨_, rfl, _, _, rfl, rfl, _, rfl, ite2 (fun e => ?_) fun e => ?_⟩
    · refine ⟨_, rfl, _, rfl, _, rfl, _, rfl, _, rfl, _, _, rfl, .inl (lq g3), _, _, rfl, rfl, l, s, (at_ : Int), ((IL f).length : Int) - 1, rfl, by omega, by omega, by omega, S3, fun v H4 k4 S4 g => ?_⟩
      obtain ⟨z, rfl, z0, z1⟩ := g
      refine ⟨(by show 2 ≤ sizeLine; decide), fun p5 hp5 => ?_⟩
      obtain ⟨H5, e5, s5, g5⟩ := alloc hp5 (.lst [.int (at_ : Int), .int z])
      rw [e5]
      refine ⟨l, s, p5, _, rfl, g5, S4.no hp5, (by show 0 < 2; decide), (by show 2 ≤ 1000; decide), S4.same s5, fun v H6 k6 S6 g => ?_⟩
      obtain ⟨lt, rfl, lt0, lt1⟩ : ∃ lt : Nat, v = .int (lt : Int) ∧ at_ ≤ lt ∧ lt < n := by
        obtain ⟨j, hj⟩ := g
        have h2 : j < 2 := (List.getElem?_eq_some_iff.mp hj).1
        have : j = 0 ∨ j = 1 := by omega
        rcases this with rfl | rfl <;> cases hj
        · exact ⟨at_, rfl, Nat.le_refl _, by omega⟩
        · exact ⟨z.toNat, congrArg V.int (by omega), by omega, by omega⟩
      have k36 : Kp l H3 H6 := k4.trans ((Kp.of_same s5).trans k6)
      have g6 := k36 _ _ npl g3
      refine ⟨_, rfl, _, rfl, _, _, rfl, rfl, l, s, q - 1, rfl, by omega, S6, fun v1 H7 k7 S7 gv1 => ?_⟩
      have g7 := k7 _ _ npl g6
      have hlen7 : lt < (IL f).length := by rw [il_len, hf.1]; exact lt1
      refine ⟨_, rfl, _, rfl, p, _, _, lt, rfl, rfl, g7, (ixN_of (by omega) (by omega)).trans (congrArg some (by omega)), ?_⟩
      have S8 : Sto (upd H7 p (.lst ((IL f).set lt v1))) l s := by
        obtain ⟨a', b', c', d', e', ns, h0, h1, h2⟩ := S7
        have nps : s ≠ p := by
          obtain ⟨_, _, _, _, _, _, _, _, hs⟩ := S
          exact ne_of_none hs hp
        exact ⟨a', b', c', d', e', ns, h0, by rw [upd_ne npl.symm]; exact h1, by rw [upd_ne nps]; exact h2⟩
      have k08 : Kp l H (upd H7 p (.lst ((IL f).set lt v1))) := fun b o nb e => by
        rw [upd_ne (ne_of_none e hp)]
        exact (k03.trans (k36.trans k7)) b o nb e
      have it1 : It (off p (off l (upd H7 p (.lst ((IL f).set lt v1))))) v1 := by
        rw [off_upd2]
        refine gv1.1.same fun b o e => ?_
        obtain ⟨n1, e1⟩ := nw_some e
        have b1 : b ≠ p := fun z => by rw [z, g6] at n1; cases n1
        obtain ⟨o', ho'⟩ := S6.some_l
        have b2 : b ≠ l := fun z => by rw [z, ho'] at n1; cases n1
        rw [off_ne b1, off_ne b2]
        exact e1
      have g8 : (upd H7 p (.lst ((IL f).set lt v1))) p = some (.lst ((IL f).set lt v1)) := upd_same
      revert S8 k08 it1 g8
      generalize upd H7 p (.lst ((IL f).set lt v1)) = H8
      intro S8 k08 it1 g8
      refine ⟨_, rfl, _, rfl, _, _, rfl, rfl, l, s, q - 1, rfl, by omega, S8, fun v2 H9 k9 S9 gv2 => ?_⟩
      have g9 := k9 _ _ npl g8
      refine ⟨_, rfl, _, rfl, p, _, _, at_, rfl, rfl, g9, (ixN_of (by omega) (by rw [List.length_set]; omega)).trans (congrArg some (by omega)), ?_⟩
      have S10 : Sto (upd H9 p (.lst (((IL f).set lt v1).set at_ v2))) l s := by
        obtain ⟨a', b', c', d', e', ns, h0, h1, h2⟩ := S9
        have nps : s ≠ p := by
          obtain ⟨_, _, _, _, _, _, _, _, hs⟩ := S
          exact ne_of_none hs hp
        exact ⟨a', b', c', d', e', ns, h0, by rw [upd_ne npl.symm]; exact h1, by rw [upd_ne nps]; exact h2⟩
      have it2 : It (off p (off l (upd H9 p (.lst (((IL f).set lt v1).set at_ v2))))) v2 := by
        rw [off_upd2]
        refine gv2.1.same fun b o e => ?_
        obtain ⟨n1, e1⟩ := nw_some e
        have b1 : b ≠ p := fun z => by rw [z, g8] at n1; cases n1
        obtain ⟨o', ho'⟩ := S8.some_l
        have b2 : b ≠ l := fun z => by rw [z, ho'] at n1; cases n1
        rw [off_ne b1, off_ne b2]
        exact e1
      have it1' : It (off p (off l (upd H9 p (.lst (((IL f).set lt v1).set at_ v2))))) v1 := by
        rw [off_upd2]
        exact it1.same (off_mono k9.off)
      refine r3 _ p _ at_ k _ (fun b o nb e => ?_) S10 hp upd_same (by rw [List.length_set, List.length_set, il_len, hf.1]) ((((Its.ints _ f).set it1').set it2).same (off_same _ _)) fun _ => ⟨⟨v2, ?_, gv2.2⟩, fun j y hj hy => ?_⟩
      · rw [upd_ne (ne_of_none e hp)]
        exact (k08.trans k9) b o nb e
      · rw [List.getElem?_set_self (by rw [List.length_set]; omega)]
      · rw [List.getElem?_set_ne (by omega), List.getElem?_set_ne (by omega), List.getElem?_map] at hy
        obtain ⟨x, hx, rfl⟩ := Option.map_eq_some_iff.mp hy
        have := hf.2 x (List.mem_of_getElem? hx)
        exact decide_eq_true ⟨this.1, by omega⟩
    · have kz : ¬ 0 < k := fun z => e (decide_eq_true z)
      exact r3 H3 p _ at_ k _ k03 S3 hp g3 (by rw [il_len, hf.1]) (Its.ints _ f) fun z => by omega
end
end Kx
set_option Elab.async false
set_option linter.all false
set_option maxRecDepth 100000
set_option maxHeartbeats 4000000
/-! The law's product and its remainders. Plain Lean. -/
namespace Kx
structure Acc (g : List Int) (n : Nat) (F : Nat → Int) : Prop where
  len : g.length = n
  at_ : ∀ t, t < n → ati g t = F t
theorem Acc.set {g : List Int} {n i : Nat} {F F' : Nat → Int} {v : Int} (h : Acc g n F) (hi : i < n) (hv : F' i = v) (hF : ∀ t, t < n → t ≠ i → F' t = F t) : Acc (g.set i v) n F' := by
  refine ⟨by rw [List.length_set]; exact h.len, fun t ht => ?_⟩
  by_cases e : t = i
  · subst e
    rw [ati_set_eq (by rw [h.len]; exact hi), hv]
  · rw [ati_set_ne e, h.at_ t ht, hF t ht e]
theorem Acc.congr {g : List Int} {n : Nat} {F F' : Nat → Int} (h : Acc g n F) (hF : ∀ t, t < n → F' t = F t) : Acc g n F' := ⟨h.len, fun t ht => by rw [h.at_ t ht, hF t ht]⟩
theorem Acc.eq {g : List Int} {n : Nat} {F : Nat → Int} (h : Acc g n F) : g = (List.range n).map F := ext_ati (by rw [h.len, List.length_map, List.length_range]) fun i hi => by
  rw [h.at_ i (by rw [← h.len]; exact hi), ati_map (by rw [← h.len]; exact hi)]
theorem Acc.zero (n : Nat) : Acc (List.replicate n 0) n fun _ => 0 := ⟨List.length_replicate, fun t ht => ati_of (by rw [List.getElem?_replicate, if_pos ht])⟩
/-- the sums behind k factors -/
def acc0 (f h : Nat → Int) (n k t : Nat) : Int := sm (fun i => f i * sg h n t i) k
def accA (f h : Nat → Int) (n k j t : Nat) : Int := acc0 f h n k t + (if k ≤ t ∧ t < k + j then f k * h (t - k) else 0)
def accB (f h : Nat → Int) (n k j t : Nat) : Int := acc0 f h n k t + (if k ≤ t then f k * h (t - k) else if t < j then -(f k * h (n + t - k)) else 0)
theorem accA_zero {f h : Nat → Int} {n k t : Nat} : accA f h n k 0 t = acc0 f h n k t := by
  unfold accA
  rw [if_neg (by omega), Int.add_zero]
theorem accA_old {f h : Nat → Int} {n k j t : Nat} (ht : t ≠ k + j) : accA f h n k (j + 1) t = accA f h n k j t := by
  unfold accA
  by_cases c : k ≤ t ∧ t < k + j
  · rw [if_pos c, if_pos (by omega)]
  · rw [if_neg c, if_neg (by omega)]
theorem accA_new {f h : Nat → Int} {n k j : Nat} : accA f h n k (j + 1) (k + j) = accA f h n k j (k + j) + f k * h j := by
  unfold accA
  rw [if_pos (by omega), if_neg (by omega), Nat.add_sub_cancel_left, Int.add_zero]
theorem accB_zero {f h : Nat → Int} {n k t : Nat} (ht : t < n) : accB f h n k 0 t = accA f h n k (n - k) t := by
  unfold accA accB
  by_cases c : k ≤ t
  · rw [if_pos c, if_pos (by omega)]
  · rw [if_neg c, if_neg (by omega), if_neg (by omega)]
theorem accB_old {f h : Nat → Int} {n k j t : Nat} (ht : t ≠ j) : accB f h n k (j + 1) t = accB f h n k j t := by
  unfold accB
  by_cases c : k ≤ t
  · rw [if_pos c, if_pos c]
  · rw [if_neg c, if_neg c]
    by_cases d : t < j
    · rw [if_pos d, if_pos (by omega)]
    · rw [if_neg d, if_neg (by omega)]
theorem accB_new {f h : Nat → Int} {n k j : Nat} (hj : j < k) : accB f h n k (j + 1) j = accB f h n k j j - f k * h (n + j - k) := by
  unfold accB
  have c1 : ¬ k ≤ j := by omega
  rw [if_neg c1, if_pos (show j < j + 1 by omega), if_neg c1, if_neg (show ¬ j < j by omega), Int.add_zero]
  rfl
theorem acc0_succ {f h : Nat → Int} {n k t : Nat} : acc0 f h n (k + 1) t = acc0 f h n k t + f k * sg h n t k := rfl
theorem accB_end {f h : Nat → Int} {n k t : Nat} : acc0 f h n (k + 1) t = accB f h n k k t := by
  rw [acc0_succ]
  unfold accB sg
  by_cases c : k ≤ t
  · rw [if_pos c, if_pos c]
  · rw [if_neg c, if_neg c, if_pos (by omega), Int.mul_neg]
theorem acc0_zero {f h : Nat → Int} {n k t : Nat} (z : f k = 0) : acc0 f h n (k + 1) t = acc0 f h n k t := by
  rw [acc0_succ, z, Int.zero_mul, Int.add_zero]
/-! ### the remainder -/
theorem E_drop {g q : Int} {k : Nat} {a b : Nat → Int} (h : ∀ i, i < k + 2 → i ≠ k → b i = a i) (hk : Cg q (b k) (a k + g * a (k + 2))) : CgP q (E g (k + 2) b) (E g (k + 3) a) := by
  have e0 : E g k b = E g k a := E_congr fun i hi => h i (by omega) (by omega)
  have e1 : b (k + 1) = a (k + 1) := h (k + 1) (by omega) (by omega)
  rw [E_snoc (k + 1) b, E_snoc k b, E_snoc (k + 2) a, E_snoc (k + 1) a, E_snoc k a, e0, e1]
  show CgP q _ (addp (addp (addp (E g k a) (smul (a k) (xp g k))) (smul (a (k + 1)) (xp g (k + 1)))) (smul (a (k + 2)) (g * (xp g k).1, g * (xp g k).2)))
  generalize xp g (k + 1) = y
  generalize xp g k = x
  generalize E g k a = z
  obtain ⟨x1, x2⟩ := x
  obtain ⟨y1, y2⟩ := y
  obtain ⟨z1, z2⟩ := z
  obtain ⟨m, hm⟩ := hk
  refine ⟨⟨m * x1, ?_⟩, ⟨m * x2, ?_⟩⟩
  · simp only [addp, smul]
    grind
  · simp only [addp, smul]
    grind
end Kx
set_option Elab.async false
set_option linter.all false
set_option maxRecDepth 100000
set_option maxHeartbeats 4000000
/-! The law's products, sums. -/
namespace Kx
open PySem PySem.Spec PyProof.Rows L2
section
variable {P : Program} {w : World} {K : PySem.W.Frag} {mg : Str → Option Value} {base : Heap}
def sp_lt (K : PySem.W.Frag) : Sp := fun vs H Q _ => ∃ (a b : Addr) (n : Nat) (q : Int) (f h : List Int), vs = [.ref a, .ref b, .int q] ∧ SqL K H a (IL f) ∧ SqL K H b (IL h) ∧ Poly n q f ∧ h.length = n ∧ 3 ≤ q ∧ q < 5000 ∧ n ≤ 1000 ∧
  ∀ p H', Same H H' → H p = none → H' p = some (.lst (IL (convL q n f h))) → Q (.ref p) H'
theorem map_take {F : Int → Int} {g : List Int} {i : Nat} {y : Int} (e : g[i]? = some y) : (g.take (i + 1)).map F = (g.take i).map F ++ [F y] := by
  rw [List.take_add_one, e, List.map_append]
  rfl
theorem ok__law_times (T : TX K mg) : FnOk P w K mg base CX0 1 (A K "_law_times") (fdA K (A K "_law_times")) ["_law_one", "_law_other_here", "_law_q"] (sp_lt K) := by
  refine T.F__law_times.ok sc__law_times (fun vs H Q E h => ?_) (fun cdv A0 outer s0 H vs Q E hr h => ?_)
  · obtain ⟨a, b, n, q, f, h, rfl, _⟩ := h
    rfl
  · obtain ⟨a, b, n, q, f, h, rfl, ha, hb, hf, hh, q0, q1, n1, qq⟩ := h
    have hline : (IL [(0 : Int)]).length * (n : Int).toNat ≤ sizeLine := by
      rw [il_len]
      exact line_of (by show 1 * (n : Int).toNat ≤ 100000; omega)
    refine ⟨_, (pss_cons (ps_set (i := 3) sc__law_times.nd rfl (Or.inl rfl) (pe_callB call_len_seq (by rfl) T.n_len (by decide +kernel) (pa_cons (pv 0) pa_nil)))
      (pss_cons (ps_set (i := 4) sc__law_times.nd rfl (Or.inl rfl) (pe_op op_rep (pe_lst (pa_cons pe_int pa_nil)) (pv 3)))
      (pss_cons (ps_for PassesOwn.never rfl (pi_range1 (by rfl) T.n_range (pa_cons (pv 3) pa_nil)) (pg_name (i := 5) sc__law_times.nd rfl (Or.inl rfl)) (pss_one (ps_if (pt_cmpR op_ne (pe_ix ix_list (pv 0) (pv 5) (fun _ _ => rfl)) pe_int (nomark _)) (pss_cons (ps_set (i := 6) sc__law_times.nd rfl (Or.inl rfl) (pe_ix ix_list (pv 0) (pv 5) (fun _ _ => rfl)))
      (pss_cons (ps_for PassesOwn.never rfl (pi_range1 (by rfl) T.n_range (pa_cons (pe_op op_sub (pv 3) (pv 5)) pa_nil)) (pg_name (i := 7) sc__law_times.nd rfl (Or.inl rfl)) (pss_one (ps_asg (pe_op op_add (pe_ix ix_list (pv 4) (pe_op op_add (pv 5) (pv 7)) (fun _ _ => rfl)) (pe_op op_mul (pv 6) (pe_ix ix_list (pv 1) (pv 7) (fun _ _ => rfl)))) (pg_sub (pv 4) (pe_op op_add (pv 5) (pv 7)) set_list))))
      (pss_one (ps_for PassesOwn.never rfl (pi_range2 (by rfl) T.n_range (pa_cons (pe_op op_sub (pv 3) (pv 5)) (pa_cons (pv 3) pa_nil))) (pg_name (i := 7) sc__law_times.nd rfl (Or.inl rfl)) (pss_one (ps_asg (pe_op op_sub (pe_ix ix_list (pv 4) (pe_op op_sub (pe_op op_add (pv 5) (pv 7)) (pv 3)) (fun _ _ => rfl)) (pe_op op_mul (pv 6) (pe_ix ix_list (pv 1) (pv 7) (fun _ _ => rfl)))) (pg_sub (pv 4) (pe_op op_sub (pe_op op_add (pv 5) (pv 7)) (pv 3)) set_list))))))) pss_nil)))
      (pss_one (ps_ret (pe_lc (own := [("_law_item_here", 8)]) (g := gName 8) (tt := tYes) rfl sc__law_times.nd (pi_list (pv 4)) (blkOk_by (N := N__law_times) (sc := defScope s__law_times) (by decide +kernel)) (fun _ _ _ _ _ => pg_name (i := 8) sc__law_times.nd rfl (Or.inl rfl)) (fun _ _ _ _ _ => pts_nil) (fun _ _ _ _ _ => (pe_op op_mod (pe_callTy call_int1 (by rfl) T.n_int (by decide +kernel) (pa_cons (pv 8) pa_nil)) (pv 2))))))))), ?_⟩
    refine ⟨_, rfl, _, _, rfl, .inl ha, ?_⟩
    rw [il_len, hf.1]
    refine ⟨(by show 1 ≤ sizeLine; decide), fun a0 ha0 => ⟨_, rfl, a0, n, IL [0], rfl, rfl, upd_same, by omega, by omega, hline, fun p hp => ?_⟩⟩
    have s1 : Same H (upd (upd H a0 (.lst [V.int 0])) p (.lst (List.replicate (n : Int).toNat (IL [0])).flatten)) := (same_upd ha0).trans (same_upd hp)
    have hp0 : H p = none := (same_upd ha0).free hp
    have h1 : (upd (upd H a0 (.lst [V.int 0])) p (.lst (List.replicate (n : Int).toNat (IL [0])).flatten)) p = some (.lst (IL (List.replicate n 0))) := by
      rw [upd_same, rep_flat, show (n : Int).toNat = n by omega]
    revert s1 h1
    generalize (upd (upd H a0 (.lst [V.int 0])) p (.lst (List.replicate (n : Int).toNat (IL [0])).flatten)) = H1
    intro s1 h1
    refine ⟨_, rfl, n, rfl, by omega, by omega, ?_⟩
    refine for_range (lo := 0) (n := (n : Int).toNat) (fun k σ H' => ∃ (g : List Int) (u5 u6 u7 u8 : Option V), σ = [some (.ref a), some (.ref b), some (.int q), some (.int n), some (.ref p), u5, u6, u7, u8] ∧ Same H H' ∧ H' p = some (.lst (IL g)) ∧ Acc g n (acc0 (ati f) (ati h) n k))
      ⟨_, none, none, none, none, rfl, s1, h1, Acc.zero n⟩ ?_ ?_
    · rintro k σ H' hk ⟨g, u5, u6, u7, u8, rfl, sm, hl, ac⟩
      have hkn : k < n := by omega
      have fk := hf.at hkn
      refine ⟨_, rfl, _, rfl, _, _, _, _, rfl, rfl, sm.seq ha, at_il (j := k) (by omega) (get_ati (by rw [hf.1]; exact hkn)), rfl, _, rfl, ite2 (fun e => ?_) fun e => ?_⟩
      · refine ⟨_, rfl, _, rfl, _, _, _, _, rfl, rfl, sm.seq ha, at_il (j := k) (by omega) (get_ati (by rw [hf.1]; exact hkn)), ?_⟩
        refine ⟨_, rfl, _, rfl, _, _, rfl, rfl, _, rfl, by omega, by omega, ?_⟩
        refine for_range (lo := 0) (n := ((n : Int) - ((0 : Int) + (k : Int))).toNat) (fun j σ H' => ∃ (g : List Int) (u7 u8 : Option V), σ = [some (.ref a), some (.ref b), some (.int q), some (.int n), some (.ref p), some (.int ((0 : Int) + (k : Int))), some (.int (ati f k)), u7, u8] ∧ Same H H' ∧ H' p = some (.lst (IL g)) ∧ Acc g n (accA (ati f) (ati h) n k j))
          ⟨g, u7, u8, rfl, sm, hl, ac.congr fun t _ => accA_zero⟩ ?_ ?_
        · rintro j σ H2 hj ⟨g2, v7, v8, rfl, s2, h2, a2⟩
          have hjn : k + j < n := by omega
          refine ⟨_, rfl, _, rfl, _, rfl, _, _, rfl, rfl, _, _, _, _, rfl, rfl, lq h2, at_il (j := k + j) (by omega) (get_ati (by rw [a2.len]; exact hjn)), ?_⟩
          refine ⟨_, rfl, _, rfl, _, rfl, _, _, _, _, rfl, rfl, s2.seq hb, at_il (j := j) (by omega) (get_ati (by rw [hh]; omega)), _, _, rfl, rfl, .inl ⟨by omega, by omega⟩, _, _, rfl, rfl, ?_⟩
          refine ⟨_, rfl, _, rfl, _, rfl, _, _, rfl, rfl, p, _, _, k + j, rfl, rfl, h2, (ixN_of (by omega) (by rw [il_len, a2.len]; omega)).trans (congrArg some (by omega)), g2.set (k + j) (ati g2 (k + j) + ati f k * ati h j), _, _, rfl, fun b o e => ?_, ?_, ?_⟩
          · rw [upd_ne (ne_of_none e hp0)]
            exact s2 _ _ e
          · exact upd_same.trans (congrArg (fun z => some (HO.lst z)) (set_il _ _ _))
          · exact a2.set hjn (by rw [accA_new, a2.at_ _ hjn]) fun t _ ne => accA_old ne
        · rintro σ H2 ⟨g2, v7, v8, rfl, s2, h2, a2⟩
          have e2 : ((n : Int) - ((0 : Int) + (k : Int))).toNat = n - k := by omega
          rw [e2] at a2
          refine ⟨_, rfl, _, rfl, _, _, rfl, rfl, _, rfl, _, _, rfl, ⟨by omega, by omega, by omega, by omega⟩, ?_⟩
          refine for_range (lo := (n : Int) - ((0 : Int) + (k : Int))) (n := ((n : Int) - ((n : Int) - ((0 : Int) + (k : Int)))).toNat) (fun j σ H' => ∃ (g : List Int) (u7 u8 : Option V), σ = [some (.ref a), some (.ref b), some (.int q), some (.int n), some (.ref p), some (.int ((0 : Int) + (k : Int))), some (.int (ati f k)), u7, u8] ∧ Same H H' ∧ H' p = some (.lst (IL g)) ∧ Acc g n (accB (ati f) (ati h) n k j))
            ⟨g2, v7, v8, rfl, s2, h2, a2.congr fun t ht => accB_zero ht⟩ ?_ ?_
          · rintro j σ H3 hj ⟨g3, w7, w8, rfl, s3, h3, a3⟩
            have hjk : j < k := by omega
            have hjn : j < n := by omega
            refine ⟨_, rfl, _, rfl, _, rfl, _, _, rfl, rfl, _, rfl, _, _, rfl, rfl, _, _, _, _, rfl, rfl, lq h3, at_il (j := j) (by omega) (get_ati (by rw [a3.len]; exact hjn)), ?_⟩
            refine ⟨_, rfl, _, rfl, _, rfl, _, _, _, _, rfl, rfl, s3.seq hb, at_il (j := n + j - k) (by omega) (get_ati (by rw [hh]; omega)), _, _, rfl, rfl, .inl ⟨by omega, by omega⟩, _, _, rfl, rfl, ?_⟩
            refine ⟨_, rfl, _, rfl, _, rfl, _, _, rfl, rfl, _, rfl, _, _, rfl, rfl, p, _, _, j, rfl, rfl, h3, (ixN_of (by omega) (by rw [il_len, a3.len]; omega)).trans (congrArg some (by omega)), g3.set j (ati g3 j - ati f k * ati h (n + j - k)), _, _, rfl, fun b o e => ?_, ?_, ?_⟩
            · rw [upd_ne (ne_of_none e hp0)]
              exact s3 _ _ e
            · exact upd_same.trans (congrArg (fun z => some (HO.lst z)) (set_il _ _ _))
            · exact a3.set hjn (by rw [accB_new hjk, a3.at_ _ hjn]) fun t _ ne => accB_old ne
          · rintro σ H3 ⟨g3, w7, w8, rfl, s3, h3, a3⟩
            have e3 : ((n : Int) - ((n : Int) - ((0 : Int) + (k : Int)))).toNat = k := by omega
            rw [e3] at a3
            exact ⟨g3, _, _, _, _, rfl, s3, h3, a3.congr fun t _ => accB_end⟩
      · have z : ati f k = 0 := by
          by_cases z : ati f k = 0
          · exact z
          · exfalso
            refine e ?_
            show (!decide (V.int (ati f k) = V.int 0)) = true
            rw [decide_eq_false fun y => z (V.int.inj y)]
            rfl
        exact ⟨g, _, _, _, _, rfl, sm, hl, ac.congr fun t _ => acc0_zero z⟩
    · rintro σ H' ⟨g, u5, u6, u7, u8, rfl, sm, hl, ac⟩
      rw [show (n : Int).toNat = n by omega] at ac
      refine ⟨_, rfl, p, rfl, ⟨_, lq hl⟩, fun D hD => ?_⟩
      refine lc_list (K := K) (a := p) (xs := IL g) (fun i H2 => Same H' H2 ∧ H2 D = some (.lst (IL ((g.take i).map fun x => x % q)))) ⟨same_upd hD, upd_same⟩ (fun i H2 _ z => lq (z.1 _ _ hl)) ?_ ?_
      · rintro i x H2 hx ⟨s2, h2⟩
        rw [List.getElem?_map] at hx
        obtain ⟨y, hy, rfl⟩ := Option.map_eq_some_iff.mp hx
        refine ⟨rfl, _, rfl, .inl ⟨_, rfl, _, rfl, _, _, rfl, rfl, by show 0 < q; omega, _, h2, line_lt ?_, fun b o e => ?_, ?_⟩⟩
        · rw [il_len, List.length_map, List.length_take, ac.len]
          omega
        · rw [upd_ne (ne_of_none e hD)]
          exact s2 _ _ e
        · rw [upd_same, map_take hy, ← il_app]
          rfl
      · rintro H2 ⟨s2, h2⟩
        rw [List.take_of_length_le (by rw [il_len]; exact Nat.le_refl _)] at h2
        refine qq D H2 (sm.trans s2) (sm.free hD) ?_
        rw [h2, ac.eq]
        refine congrArg (fun z => some (HO.lst (IL z))) ?_
        unfold convL
        rw [List.map_map]
        rfl
/-! ### _law_sum -/
def sp_ls (K : PySem.W.Frag) : Sp := fun vs H Q _ => ∃ (a b : Addr) (n : Nat) (q : Int) (f h : List Int), vs = [.ref a, .ref b, .int q] ∧ SqL K H a (IL f) ∧ SqL K H b (IL h) ∧ f.length = n ∧ h.length = n ∧ 0 < q ∧ n ≤ 1000 ∧ ∀ p H', Same H H' → H p = none → H' p = some (.lst (IL (addL q n f h))) → Q (.ref p) H'
theorem ok__law_sum (T : TX K mg) : FnOk P w K mg base CX0 1 (A K "_law_sum") (fdA K (A K "_law_sum")) ["_law_one", "_law_other_here", "_law_q"] (sp_ls K) := by
  refine T.F__law_sum.ok sc__law_sum (fun vs H Q E h => ?_) (fun cdv A0 outer s0 H vs Q E hr h => ?_)
  · obtain ⟨a, b, n, q, f, h, rfl, _⟩ := h
    rfl
  · obtain ⟨a, b, n, q, f, h, rfl, ha, hb, hf, hh, q0, n1, qq⟩ := h
    refine ⟨_, (pss_one (ps_ret (pe_lc (own := [("_law_at", 3)]) (g := gName 3) (tt := tYes) rfl sc__law_sum.nd (pi_range1 (by rfl) T.n_range (pa_cons (pe_callB call_len_seq (by rfl) T.n_len (by decide +kernel) (pa_cons (pv 0) pa_nil)) pa_nil)) (blkOk_by (N := N__law_sum) (sc := defScope s__law_sum) (by decide +kernel)) (fun _ _ _ _ _ => pg_name (i := 3) sc__law_sum.nd rfl (Or.inl rfl)) (fun _ _ _ _ _ => pts_nil) (fun _ _ _ _ _ => (pe_op op_mod (pe_callTy call_int1 (by rfl) T.n_int (by decide +kernel) (pa_cons (pe_op op_add (pe_ix (r := rIxL K) ix_list (pv 0) (pv 3) (fun _ _ => rfl)) (pe_ix (r := rIxL K) ix_list (pv 1) (pv 3) (fun _ _ => rfl))) pa_nil)) (pv 2)))))), ?_⟩
    have len : (IL f).length = n := by rw [il_len, hf]
    refine ⟨_, rfl, _, _, rfl, .inl ha, _, rfl, by omega, by omega, fun D hD => ?_⟩
    rw [len]
    refine lc_range (lo := 0) (n := (n : Int).toNat) (fun i H2 => Same H H2 ∧ H2 D = some (.lst (IL (addL q i f h)))) ⟨same_upd hD, upd_same⟩ ?_ ?_
    · rintro i H2 hi ⟨s2, h2⟩
      have hin : i < n := by omega
      refine ⟨rfl, _, rfl, _, rfl, _, _, _, _, rfl, rfl, s2.seq ha, at_il (j := i) (by omega) (get_ati (by omega)), _, rfl, _, rfl, _, _, _, _, rfl, rfl, s2.seq hb, at_il (j := i) (by omega) (get_ati (by omega)), _, _, rfl, rfl, .inl ⟨_, rfl, _, rfl, _, _, rfl, rfl, by show 0 < q; omega, _, h2, line_lt ?_, fun b o e => ?_, ?_⟩⟩
      · rw [il_len, addL_len]
        omega
      · rw [upd_ne (ne_of_none e hD)]
        exact s2 _ _ e
      · rw [upd_same, addL_succ, ← il_app]
        rfl
    · rintro H2 ⟨s2, h2⟩
      rw [show (n : Int).toNat = n by omega] at h2
      exact qq D H2 s2 hD h2
/-! ### _law_rest, _law_rests, _law_joined -/
def sp_rest (K : PySem.W.Frag) : Sp := fun vs H Q _ => ∃ (a : Addr) (n : Nat) (q γ : Int) (f : List Int), vs = [.ref a, .int q, .int γ] ∧ SqL K H a (IL f) ∧ Poly n q f ∧ (0 ≤ γ ∧ γ < q) ∧ 3 ≤ q ∧ q < 5000 ∧ 2 ≤ n ∧ n ≤ 1000 ∧
  ∀ t H', Same H H' → H t = none → H' t = some (.tup [.int (modp q (E γ n (ati f))).1, .int (modp q (E γ n (ati f))).2]) → Q (.ref t) H'
theorem ok__law_rest (T : TX K mg) : FnOk P w K mg base CX0 1 (A K "_law_rest") (fdA K (A K "_law_rest")) ["_law_row", "_law_q", "_law_factor_here"] (sp_rest K) := by
  refine T.F__law_rest.ok sc__law_rest (fun vs H Q E h => ?_) (fun cdv A0 outer s0 H vs Q E hr h => ?_)
  · obtain ⟨a, n, q, γ, f, rfl, _⟩ := h
    rfl
  · obtain ⟨a, n, q, γ, f, rfl, ha, hf, hγ, q0, q1, n0, n1, qq⟩ := h
    refine ⟨_, (pss_cons (ps_set (i := 3) sc__law_rest.nd rfl (Or.inl rfl) (pe_callTy call_list_of (by rfl) T.n_list (by decide +kernel) (pa_cons (pv 0) pa_nil)))
      (pss_cons (ps_for PassesOwn.never rfl (pi_range3 (by rfl) T.n_range (pa_cons (pe_op op_sub (pe_callB call_len_seq (by rfl) T.n_len (by decide +kernel) (pa_cons (pv 0) pa_nil)) pe_int) (pa_cons pe_int (pa_cons (pe_un un_neg pe_int) pa_nil)))) (pg_name (i := 4) sc__law_rest.nd rfl (Or.inl rfl)) (pss_one (ps_asg (pe_op op_mod (pe_callTy call_int1 (by rfl) T.n_int (by decide +kernel) (pa_cons (pe_op op_add (pe_ix ix_list (pv 3) (pe_op op_sub (pv 4) pe_int) (fun _ _ => rfl)) (pe_op op_mul (pv 2) (pe_ix ix_list (pv 3) (pv 4) (fun _ _ => rfl)))) pa_nil)) (pv 1)) (pg_sub (pv 3) (pe_op op_sub (pv 4) pe_int) set_list))))
      (pss_one (ps_ret (pe_tup (pa_cons (pe_ix ix_list (pv 3) pe_int (fun _ _ => rfl)) (pa_cons (pe_ix ix_list (pv 3) pe_int (fun _ _ => rfl)) pa_nil))))))), ?_⟩
    refine ⟨_, rfl, a, _, rfl, .inl ha, fun p hp => ?_⟩
    obtain ⟨H1, e1, s1, g1⟩ := alloc hp (.lst (IL f))
    rw [e1]
    refine ⟨_, rfl, _, _, rfl, .inl (s1.seq ha), ?_⟩
    rw [il_len, hf.1]
    refine ⟨_, _, rfl, rfl, _, rfl, _, _, _, _, rfl, RgC.neg (by omega) (by omega) (by omega) (by omega), ?_⟩
    refine for_rangeC (lo := (n : Int) - 1) (c := -1) (n := ((n : Int) - 1 - 1).toNat) (fun i σ H' => ∃ (g : List Int) (u4 : Option V), σ = [some (.ref a), some (.int q), some (.int γ), some (.ref p), u4] ∧ Same H H' ∧ H' p = some (.lst (IL g)) ∧ Poly n q g ∧ CgP q (Kx.E γ (n - i) (ati g)) (Kx.E γ n (ati f)))
      ⟨f, none, rfl, s1, g1, hf, .refl _ _⟩ ?_ ?_
    · rintro i σ H' hi ⟨g, u4, rfl, sm, hl, hg, cg⟩
      have him : n - i = (n - 3 - i) + 3 := by omega
      have hin : n - (i + 1) = (n - 3 - i) + 2 := by omega
      generalize hm : n - 3 - i = m at him hin
      have iv : (n : Int) - 1 + (i : Int) * -1 = ((m + 2 : Nat) : Int) := by omega
      have iw : (n : Int) - 1 + (i : Int) * -1 - 2 = ((m : Nat) : Int) := by omega
      refine ⟨_, rfl, _, rfl, _, _, rfl, rfl, _, _, _, _, rfl, rfl, lq hl, at_il iw (get_ati (by rw [hg.1]; omega)), ?_⟩
      refine ⟨_, rfl, _, rfl, _, rfl, _, _, _, _, rfl, rfl, lq hl, at_il iv (get_ati (by rw [hg.1]; omega)), _, _, rfl, rfl, .inl ⟨by omega, by omega⟩, _, _, rfl, rfl, .inl ⟨_, rfl, _, rfl, _, _, rfl, rfl, by show 0 < q; omega, ?_⟩⟩
      refine ⟨_, rfl, _, rfl, _, _, rfl, rfl, p, _, _, m, rfl, rfl, hl, (ixN_of (by omega) (by rw [il_len, hg.1]; omega)).trans (congrArg some (by omega)), g.set m ((ati g m + γ * ati g (m + 2)) % q), _, rfl, fun b o e => ?_, ?_, ?_, ?_⟩
      · rw [upd_ne (ne_of_none e hp)]
        exact sm _ _ e
      · exact upd_same.trans (congrArg (fun z => some (HO.lst z)) (set_il _ _ _))
      · exact hg.set _ (Int.emod_nonneg _ (by omega)) (Int.emod_lt_of_pos _ (by omega))
      · rw [hin]
        rw [him] at cg
        refine (E_drop (fun t ht ne => ati_set_ne ne) ?_).trans cg
        rw [ati_set_eq (by rw [hg.1]; omega)]
        exact Cg.mod q _
    · rintro σ H' ⟨g, u4, rfl, sm, hl, hg, cg⟩
      rw [show n - ((n : Int) - 1 - 1).toNat = 2 by omega, E_two] at cg
      refine ⟨_, rfl, _, _, _, _, rfl, rfl, lq hl, at_il (j := 0) rfl (get_ati (by rw [hg.1]; omega)), _, rfl, _, _, _, _, rfl, rfl, lq hl, at_il (j := 1) rfl (get_ati (by rw [hg.1]; omega)), (by show 2 ≤ sizeLine; decide), fun t ht => ?_⟩
      refine qq t _ (sm.trans (same_upd ht)) (sm.free ht) ?_
      have a0 := hg.at (i := 0) (by omega)
      have a1 := hg.at (i := 1) (by omega)
      have e0 : (modp q (Kx.E γ n (ati f))).1 = ati g 0 := cg.1.symm.eq_of a0.1 a0.2
      have e1 : (modp q (Kx.E γ n (ati f))).2 = ati g 1 := cg.2.symm.eq_of a1.1 a1.2
      rw [upd_same, e0, e1]
def Refs (H : Hp) (F : Nat → Int × Int) (rs : List Addr) (k : Nat) : Prop := rs.length = k ∧ ∀ i t, rs[i]? = some t → H t = some (.tup [.int (F i).1, .int (F i).2])
theorem Refs.same {H H' : Hp} {F : Nat → Int × Int} {rs : List Addr} {k : Nat} (h : Refs H F rs k) (s : Same H H') : Refs H' F rs k := ⟨h.1, fun i t e => s _ _ (h.2 i t e)⟩
theorem Refs.snoc {H : Hp} {F : Nat → Int × Int} {rs : List Addr} {k : Nat} {t : Addr} (h : Refs H F rs k) (ht : H t = some (.tup [.int (F k).1, .int (F k).2])) : Refs H F (rs ++ [t]) (k + 1) := by
  refine ⟨by rw [List.length_append, h.1]; rfl, fun i u e => ?_⟩
  by_cases c : i < k
  · rw [List.getElem?_append_left (by rw [h.1]; exact c)] at e
    exact h.2 i u e
  · rw [List.getElem?_append_right (by rw [h.1]; omega), h.1] at e
    have hi : i - k < 1 := (List.getElem?_eq_some_iff.mp e).1
    have : i = k := by omega
    subst this
    rw [Nat.sub_self] at e
    cases e
    exact ht
def sp_rests (K : PySem.W.Frag) : Sp := fun vs H Q _ => ∃ (a t : Addr) (c n : Nat) (q r : Int) (f : List Int), vs = [.ref a, .ref t] ∧ SqL K H a (IL f) ∧ TupAt H t n q r ∧ Rg c n q r ∧ Poly n q f ∧
  ∀ p H' rs, Same H H' → H p = none → H' p = some (.lst (rs.map V.ref)) → Refs H' (rem c q r f) rs (2 ^ c) → Q (.ref p) H'
theorem ok__law_rests (T : TX K mg) : FnOk P w K mg base CX0 3 (A K "_law_rests") (fdA K (A K "_law_rests")) ["_law_row", "_law_numbers"] (sp_rests K) := by
  refine T.F__law_rests.ok sc__law_rests (fun vs H Q E h => ?_) (fun cdv A0 outer s0 H vs Q E hr h => ?_)
  · obtain ⟨a, t, c, n, q, r, f, rfl, _⟩ := h
    rfl
  · obtain ⟨a, t, c, n, q, r, f, rfl, ha, ht, hR, hf, qq⟩ := h
    have n0 := hR.n_lo
    have n1 := hR.n_hi
    have q0 := hR.q0
    have q1 := hR.q1
    have c1 := hR.c1
    have half := hR.half
    have hn := hR.n_eq
    refine ⟨_, (pss_cons (ps_set (i := 2) sc__law_rests.nd rfl (Or.inl rfl) (pe_lst pa_nil))
      (pss_cons (ps_for PassesOwn.never rfl (pi_range1 (by rfl) T.n_range (pa_cons (pe_op op_fdiv (pe_ix ix_tup (pv 1) pe_int (fun _ _ => rfl)) pe_int) pa_nil)) (pg_name (i := 3) sc__law_rests.nd rfl (Or.inl rfl)) (pss_one (ps_expr (pe_bm PySem.F.plainAttrs_list PySem.F.slot_list_append PySem.F.type_list_append mt_append (pv 2) (pa_cons (pe_call (ok__law_rest T) (hr.mono (by decide)) (by rfl) T.g__law_rest T.F__law_rest.kp T.b__law_rest .nil pass0 (pa_cons (pv 0) (pa_cons (pe_ix ix_tup (pv 1) pe_int (fun _ _ => rfl)) (pa_cons (pe_call (ok__law_factor T) (hr.mono (by decide)) (by rfl) T.g__law_factor T.F__law_factor.kp T.b__law_factor .nil pass0 (pa_cons (pe_ix ix_tup (pv 1) pe_int (fun _ _ => rfl)) (pa_cons (pe_ix ix_tup (pv 1) pe_int (fun _ _ => rfl)) (pa_cons (pe_ix ix_tup (pv 1) pe_int (fun _ _ => rfl)) (pa_cons (pv 3) pa_nil))))) pa_nil)))) pa_nil)))))
      (pss_one (ps_ret (pv 2))))), ?_⟩
    refine ⟨Nat.zero_le _, fun p hp => ?_⟩
    obtain ⟨H1, e1, s1, g1⟩ := alloc hp (.lst [])
    rw [e1]
    refine ⟨_, rfl, _, _, _, _, rfl, rfl, tq (s1 _ _ ht), rfl, _, _, rfl, rfl, ⟨by decide, by decide⟩, _, rfl, by omega, by omega, ?_⟩
    have eN : ((n : Int) / 2).toNat = 2 ^ c := by omega
    refine for_range (lo := 0) (n := ((n : Int) / 2).toNat) (fun i σ H' => ∃ (rs : List Addr) (u3 : Option V), σ = [some (.ref a), some (.ref t), some (.ref p), u3] ∧ Same H H' ∧ H' p = some (.lst (rs.map V.ref)) ∧ Refs H' (rem c q r f) rs i ∧ p ∉ rs)
      ⟨[], none, rfl, s1, g1, ⟨rfl, fun i t e => by cases e⟩, by simp⟩ ?_ ?_
    · rintro i σ H' hi ⟨rs, u3, rfl, sm, hl, hrs, hni⟩
      have ht' := sm _ _ ht
      have tk : ∀ (j : Int) (v : V), atI [V.int n, .int q, .int r] j = some v → True := fun _ _ _ => trivial
      refine ⟨_, rfl, .inl ⟨rfl, _, lq hl⟩, _, rfl, _, rfl, _, _, _, _, rfl, rfl, tq ht', rfl, ?_⟩
      refine ⟨_, rfl, _, _, _, _, rfl, rfl, tq ht', rfl, _, rfl, _, _, _, _, rfl, rfl, tq ht', rfl, _, rfl, _, _, _, _, rfl, rfl, tq ht', rfl, _, rfl, c, n, i, q, r, by rw [Int.zero_add]; rfl, half, by omega, by omega, by omega, ?_⟩
      refine ⟨a, n, q, gi c q r i, f, rfl, sm.seq ha, hf, ⟨Int.emod_nonneg _ (by omega), Int.emod_lt_of_pos _ (by omega)⟩, by omega, by omega, by omega, by omega, fun t2 H2 s2 ht2 h2 => ?_⟩
      have hl2 := s2 _ _ hl
      refine ⟨p, _, _, rfl, rfl, hl2, line_lt ?_, rs ++ [t2], _, rfl, fun b o e => ?_, ?_, ?_, ?_⟩
      · rw [List.length_map, hrs.1]
        omega
      · rw [upd_ne (ne_of_none e hp)]
        exact (sm.trans s2) _ _ e
      · rw [upd_same, List.map_append]
        rfl
      · have h2' : H2 t2 = some (.tup [.int (rem c q r f i).1, .int (rem c q r f i).2]) := by
          rw [h2, hn]
          rfl
        have npt : t2 ≠ p := fun z => by rw [z, hl] at ht2; cases ht2
        refine ⟨((hrs.same s2).snoc h2').1, fun j u e => ?_⟩
        have := ((hrs.same s2).snoc h2').2 j u e
        have nup : u ≠ p := fun z => by
          rw [z, hl2] at this
          cases this
        rw [upd_ne nup]
        exact this
      · intro hm
        rcases List.mem_append.mp hm with z | z
        · exact hni z
        · rw [List.mem_singleton] at z
          rw [← z, hl] at ht2
          cases ht2
    · rintro σ H' ⟨rs, u3, rfl, sm, hl, hrs, hni⟩
      rw [eN] at hrs
      exact ⟨_, rfl, qq p H' rs sm hp hl hrs⟩
def sp_joined (K : PySem.W.Frag) : Sp := fun vs H Q _ => ∃ (a : Addr) (rs : List Addr) (F : Nat → Int × Int) (k : Nat), vs = [.ref a] ∧ SqL K H a (rs.map V.ref) ∧ Refs H F rs k ∧ k ≤ 1000 ∧ ∀ p H', Same H H' → H p = none → H' p = some (.lst (IL (pl F k))) → Q (.ref p) H'
theorem ok__law_joined (T : TX K mg) : FnOk P w K mg base CX0 1 (A K "_law_joined") (fdA K (A K "_law_joined")) ["_law_pairs"] (sp_joined K) := by
  refine T.F__law_joined.ok sc__law_joined (fun vs H Q E h => ?_) (fun cdv A0 outer s0 H vs Q E hr h => ?_)
  · obtain ⟨a, rs, F, k, rfl, _⟩ := h
    rfl
  · obtain ⟨a, rs, F, k, rfl, ha, hrs, hk, qq⟩ := h
    refine ⟨_, (pss_cons (ps_set (i := 1) sc__law_joined.nd rfl (Or.inl rfl) (pe_lst pa_nil))
      (pss_cons (ps_for PassesOwn.never rfl (pi_list (pv 0)) (pg_name (i := 2) sc__law_joined.nd rfl (Or.inl rfl)) (pss_cons (ps_expr (pe_bm PySem.F.plainAttrs_list PySem.F.slot_list_append PySem.F.type_list_append mt_append (pv 1) (pa_cons (pe_ix ix_tup (pv 2) pe_int (fun _ _ => rfl)) pa_nil)))
      (pss_one (ps_expr (pe_bm PySem.F.plainAttrs_list PySem.F.slot_list_append PySem.F.type_list_append mt_append (pv 1) (pa_cons (pe_ix ix_tup (pv 2) pe_int (fun _ _ => rfl)) pa_nil))))))
      (pss_one (ps_ret (pv 1))))), ?_⟩
    refine ⟨Nat.zero_le _, fun p hp => ?_⟩
    obtain ⟨H1, e1, s1, g1⟩ := alloc hp (.lst [])
    rw [e1]
    refine ⟨_, rfl, a, rfl, ⟨_, s1.seq ha⟩, ?_⟩
    refine for_list (xs := rs.map V.ref) (fun i σ H' => ∃ u2, σ = [some (.ref a), some (.ref p), u2] ∧ Same H H' ∧ H' p = some (.lst (IL (pl F i)))) ⟨none, rfl, s1, g1⟩ (fun i σ H' _ ⟨_, _, s, _⟩ => s.seq ha) ?_ ?_
    · rintro i x σ H' hx ⟨u2, rfl, sm, hl⟩
      rw [List.getElem?_map] at hx
      obtain ⟨t, ht, rfl⟩ := Option.map_eq_some_iff.mp hx
      have hi : i < k := by
        have := (List.getElem?_eq_some_iff.mp ht).1
        rw [hrs.1] at this
        exact this
      have h1 := sm _ _ (hrs.2 i t ht)
      have npt : t ≠ p := ne_of_none (hrs.2 i t ht) hp
      refine ⟨_, rfl, .inl ⟨rfl, _, lq hl⟩, _, rfl, _, _, _, _, rfl, rfl, tq h1, rfl, p, _, _, rfl, rfl, hl, line_lt (by rw [il_len, pl_len]; omega), ?_⟩
      refine ⟨_, rfl, .inl ⟨rfl, _, lq upd_same⟩, _, rfl, _, _, _, _, rfl, rfl, tq ((upd_ne npt).trans h1), rfl, p, _, _, rfl, rfl, upd_same, line_lt (by rw [List.length_append, il_len, pl_len]; show 2 * i + 1 ≤ 100000; omega), ?_⟩
      refine ⟨_, rfl, fun b o e => ?_, ?_⟩
      · rw [upd_ne (ne_of_none e hp), upd_ne (ne_of_none e hp)]
        exact sm _ _ e
      · rw [upd_same, List.append_assoc]
        refine congrArg (fun z => some (HO.lst z)) ?_
        show IL (pl F i) ++ IL [_, _] = IL (pl F i ++ [_, _])
        rw [il_app]
    · rintro σ H' ⟨u2, rfl, sm, hl⟩
      rw [List.length_map, hrs.1] at hl
      exact ⟨_, rfl, qq p H' sm hp hl⟩
/-! ### _law_pairs_times -/
theorem rg2 {c n : Nat} {q : Int} (h : Pn c n q) : RgC 0 (n : Int) 2 (2 ^ c) := by
  rcases h.cases with ⟨rfl, rfl⟩ | ⟨rfl, rfl⟩ | ⟨rfl, rfl⟩ | ⟨rfl, rfl⟩ | ⟨rfl, rfl⟩ | ⟨rfl, rfl⟩ <;> exact ⟨by decide, by decide, by decide +kernel, by decide +kernel⟩
def sp_lpt (K : PySem.W.Frag) : Sp := fun vs H Q _ => ∃ (t a b : Addr) (c n : Nat) (q r : Int) (u v : List Int), vs = [.ref t, .ref a, .ref b] ∧ TupAt H t n q r ∧ Rg c n q r ∧ SqL K H a (IL u) ∧ SqL K H b (IL v) ∧ Poly n q u ∧ Poly n q v ∧
  ∀ p H', Same H H' → H p = none → H' p = some (.lst (IL (pl (tms q (gis c q r) u v) (2 ^ c)))) → Q (.ref p) H'
theorem ok__law_pairs_times (T : TX K mg) : FnOk P w K mg base CX0 3 (A K "_law_pairs_times") (fdA K (A K "_law_pairs_times")) ["_law_numbers", "_law_one", "_law_other_here"] (sp_lpt K) := by
  refine T.F__law_pairs_times.ok sc__law_pairs_times (fun vs H Q E h => ?_) (fun cdv A0 outer s0 H vs Q E hr h => ?_)
  · obtain ⟨t, a, b, c, n, q, r, u, v, rfl, _⟩ := h
    rfl
  · obtain ⟨t, a, b, c, n, q, r, u, v, rfl, ht, hR, ha, hb, hu, hv, qq⟩ := h
    have n0 := hR.n_lo
    have n1 := hR.n_hi
    have q0 := hR.q0
    have q1 := hR.q1
    have c1 := hR.c1
    have half := hR.half
    have hn := hR.n_eq
    have nn : n = 2 * 2 ^ c := by rw [hn, Nat.pow_succ, Nat.mul_comm]
    refine ⟨_, (pss_cons (ps_set (i := 3) sc__law_pairs_times.nd rfl (Or.inl rfl) (pe_lst pa_nil))
      (pss_cons (ps_for PassesOwn.never rfl (pi_range3 (by rfl) T.n_range (pa_cons pe_int (pa_cons (pe_ix ix_tup (pv 0) pe_int (fun _ _ => rfl)) (pa_cons pe_int pa_nil)))) (pg_name (i := 4) sc__law_pairs_times.nd rfl (Or.inl rfl)) (pss_cons (ps_set (i := 5) sc__law_pairs_times.nd rfl (Or.inl rfl) (pe_call (ok__law_factor T) (hr.mono (by decide)) (by rfl) T.g__law_factor T.F__law_factor.kp T.b__law_factor .nil pass0 (pa_cons (pe_ix ix_tup (pv 0) pe_int (fun _ _ => rfl)) (pa_cons (pe_ix ix_tup (pv 0) pe_int (fun _ _ => rfl)) (pa_cons (pe_ix ix_tup (pv 0) pe_int (fun _ _ => rfl)) (pa_cons (pe_op op_fdiv (pv 4) pe_int) pa_nil))))))
      (pss_cons (ps_expr (pe_bm PySem.F.plainAttrs_list PySem.F.slot_list_append PySem.F.type_list_append mt_append (pv 3) (pa_cons (pe_op op_mod (pe_callTy call_int1 (by rfl) T.n_int (by decide +kernel) (pa_cons (pe_op op_add (pe_op op_mul (pe_ix ix_list (pv 1) (pv 4) (fun _ _ => rfl)) (pe_ix ix_list (pv 2) (pv 4) (fun _ _ => rfl))) (pe_op op_mul (pe_op op_mul (pe_ix ix_list (pv 1) (pe_op op_add (pv 4) pe_int) (fun _ _ => rfl)) (pe_ix ix_list (pv 2) (pe_op op_add (pv 4) pe_int) (fun _ _ => rfl))) (pv 5))) pa_nil)) (pe_ix ix_tup (pv 0) pe_int (fun _ _ => rfl))) pa_nil)))
      (pss_one (ps_expr (pe_bm PySem.F.plainAttrs_list PySem.F.slot_list_append PySem.F.type_list_append mt_append (pv 3) (pa_cons (pe_op op_mod (pe_callTy call_int1 (by rfl) T.n_int (by decide +kernel) (pa_cons (pe_op op_add (pe_op op_mul (pe_ix ix_list (pv 1) (pv 4) (fun _ _ => rfl)) (pe_ix ix_list (pv 2) (pe_op op_add (pv 4) pe_int) (fun _ _ => rfl))) (pe_op op_mul (pe_ix ix_list (pv 1) (pe_op op_add (pv 4) pe_int) (fun _ _ => rfl)) (pe_ix ix_list (pv 2) (pv 4) (fun _ _ => rfl)))) pa_nil)) (pe_ix ix_tup (pv 0) pe_int (fun _ _ => rfl))) pa_nil)))))))
      (pss_one (ps_ret (pv 3))))), ?_⟩
    refine ⟨Nat.zero_le _, fun p hp => ?_⟩
    obtain ⟨H1, e1, s1, g1⟩ := alloc hp (.lst [])
    rw [e1]
    refine ⟨_, rfl, _, _, _, _, rfl, rfl, tq (s1 _ _ ht), rfl, _, _, _, _, rfl, rg2 hR.pn, ?_⟩
    refine for_rangeC (lo := 0) (c := 2) (n := 2 ^ c) (fun i σ H' => ∃ (u4 u5 : Option V), σ = [some (.ref t), some (.ref a), some (.ref b), some (.ref p), u4, u5] ∧ Same H H' ∧ H' p = some (.lst (IL (pl (tms q (gis c q r) u v) i))))
      ⟨none, none, rfl, s1, g1⟩ ?_ ?_
    · rintro i σ H' hi ⟨u4, u5, rfl, sm, hl⟩
      have ht' := sm _ _ ht
      have iv : (0 : Int) + (i : Int) * 2 = ((2 * i : Nat) : Int) := by omega
      have iw : (0 : Int) + (i : Int) * 2 + 1 = ((2 * i + 1 : Nat) : Int) := by omega
      have u0 := hu.at (i := 2 * i) (by omega)
      have u1 := hu.at (i := 2 * i + 1) (by omega)
      have v1 := hv.at (i := 2 * i + 1) (by omega)
      have g0 : 0 ≤ gi c q r i := Int.emod_nonneg _ (by omega)
      have g1 : gi c q r i < q := Int.emod_lt_of_pos _ (by omega)
      have get_u0 : atI (IL u) ((0 : Int) + (i : Int) * 2) = some (.int (ati u (2 * i))) := at_il iv (get_ati (by rw [hu.1]; omega))
      have get_u1 : atI (IL u) ((0 : Int) + (i : Int) * 2 + 1) = some (.int (ati u (2 * i + 1))) := at_il iw (get_ati (by rw [hu.1]; omega))
      have get_v0 : atI (IL v) ((0 : Int) + (i : Int) * 2) = some (.int (ati v (2 * i))) := at_il iv (get_ati (by rw [hv.1]; omega))
      have get_v1 : atI (IL v) ((0 : Int) + (i : Int) * 2 + 1) = some (.int (ati v (2 * i + 1))) := at_il iw (get_ati (by rw [hv.1]; omega))
      refine ⟨_, rfl, _, _, _, _, rfl, rfl, tq ht', rfl, _, rfl, _, _, _, _, rfl, rfl, tq ht', rfl, _, rfl, _, _, _, _, rfl, rfl, tq ht', rfl, _, rfl, _, _, rfl, rfl, ⟨by decide, by decide⟩, c, n, i, q, r, by show [V.int n, .int q, .int r, .int (((0 : Int) + (i : Int) * 2) / 2)] = _; rw [show ((0 : Int) + (i : Int) * 2) / 2 = (i : Int) by omega], half, by omega, by omega, by omega, ?_⟩
      refine ⟨_, rfl, .inl ⟨rfl, _, lq hl⟩, _, rfl, _, rfl, _, _, _, _, rfl, rfl, sm.seq ha, get_u0, _, rfl, _, rfl, _, _, _, _, rfl, rfl, sm.seq hb, get_v0, _, _, rfl, rfl, .inl ⟨by omega, by omega⟩, ?_⟩
      refine ⟨_, rfl, _, rfl, _, _, rfl, rfl, _, _, _, _, rfl, rfl, sm.seq ha, get_u1, _, rfl, _, rfl, _, _, rfl, rfl, _, _, _, _, rfl, rfl, sm.seq hb, get_v1, _, _, rfl, rfl, .inl ⟨by omega, by omega⟩, _, rfl, _, _, rfl, rfl, .inr ⟨by omega, by omega⟩, _, _, rfl, rfl, .inl ⟨_, rfl, ?_⟩⟩
      refine ⟨_, rfl, _, _, _, _, rfl, rfl, tq ht', rfl, _, _, rfl, rfl, by show 0 < q; omega, p, _, _, rfl, rfl, hl, line_lt (by rw [il_len, pl_len]; omega), ?_⟩
      have npa : ∀ {x o}, H x = some o → ∀ z, (upd H' p z) x = some o := fun {x o} e z => by
        rw [upd_ne (ne_of_none e hp)]
        exact sm _ _ e
      have sm2 : ∀ z, Same H (upd H' p z) := fun z x o e => npa e z
      refine ⟨_, rfl, .inl ⟨rfl, _, lq upd_same⟩, _, rfl, _, rfl, _, _, _, _, rfl, rfl, (sm2 _).seq ha, get_u0, _, rfl, _, rfl, _, _, rfl, rfl, _, _, _, _, rfl, rfl, (sm2 _).seq hb, get_v1, _, _, rfl, rfl, .inl ⟨by omega, by omega⟩, ?_⟩
      refine ⟨_, rfl, _, rfl, _, _, rfl, rfl, _, _, _, _, rfl, rfl, (sm2 _).seq ha, get_u1, _, rfl, _, rfl, _, _, _, _, rfl, rfl, (sm2 _).seq hb, get_v0, _, _, rfl, rfl, .inl ⟨by omega, by omega⟩, _, _, rfl, rfl, .inl ⟨_, rfl, ?_⟩⟩
      refine ⟨_, rfl, _, _, _, _, rfl, rfl, tq (npa ht _), rfl, _, _, rfl, rfl, by show 0 < q; omega, p, _, _, rfl, rfl, upd_same, line_lt (by rw [List.length_append, il_len, pl_len]; show 2 * i + 1 ≤ 100000; omega), ?_⟩
      refine ⟨_, _, rfl, fun b o e => ?_, ?_⟩
      · rw [upd_ne (ne_of_none e hp)]
        exact npa e _
      · rw [upd_same, List.append_assoc]
        refine congrArg (fun z => some (HO.lst z)) ?_
        show IL (pl (tms q (gis c q r) u v) i) ++ IL [_, _] = IL (pl (tms q (gis c q r) u v) i ++ [_, _])
        rw [il_app]
        refine congrArg (fun z => IL (pl (tms q (gis c q r) u v) i ++ z)) ?_
        have eg : ati (gis c q r) i = gi c q r i := by
          unfold gis
          rw [ati_map hi]
        unfold tms modp mulp
        rw [eg]
        refine pair_eq (congrArg (· % q) ?_) (congrArg (· % q) ?_) <;> grind
    · rintro σ H' ⟨u4, u5, rfl, sm, hl⟩
      exact ⟨_, rfl, qq p H' sm hp hl⟩
end
end Kx
set_option Elab.async false
set_option linter.all false
set_option maxRecDepth 100000
set_option maxHeartbeats 4000000
/-! What the law says of a caught error. -/
namespace Kx
open PySem PySem.Spec PyProof.Rows L2
section
variable {P : Program} {w : World} {K : PySem.W.Frag} {mg : Str → Option Value} {base : Heap}
/-- which of the two classes: its place among the eighteen -/
def Two (nm : Str) (k : Nat) : Prop := (nm = "BadItem" ∧ k = 1) ∨ (nm = "BadLength" ∧ k = 2)
theorem kin_OutOfRange (T : TX K mg) {nm : Str} {k : Nat} (h : Two nm k) : PySem.W.kitOne K (.ref (He.ga K nm)) (.ref (He.ga K "OutOfRange")) = some (decide (0 = k)) := by
  rcases h with ⟨rfl, rfl⟩ | ⟨rfl, rfl⟩
  · exact T.kit_BadItem_OutOfRange
  · exact T.kit_BadLength_OutOfRange
theorem kin_BadItem (T : TX K mg) {nm : Str} {k : Nat} (h : Two nm k) : PySem.W.kitOne K (.ref (He.ga K nm)) (.ref (He.ga K "BadItem")) = some (decide (1 = k)) := by
  rcases h with ⟨rfl, rfl⟩ | ⟨rfl, rfl⟩
  · exact T.kit_BadItem_BadItem
  · exact T.kit_BadLength_BadItem
theorem kin_BadLength (T : TX K mg) {nm : Str} {k : Nat} (h : Two nm k) : PySem.W.kitOne K (.ref (He.ga K nm)) (.ref (He.ga K "BadLength")) = some (decide (2 = k)) := by
  rcases h with ⟨rfl, rfl⟩ | ⟨rfl, rfl⟩
  · exact T.kit_BadItem_BadLength
  · exact T.kit_BadLength_BadLength
theorem kin_BadText (T : TX K mg) {nm : Str} {k : Nat} (h : Two nm k) : PySem.W.kitOne K (.ref (He.ga K nm)) (.ref (He.ga K "BadText")) = some (decide (3 = k)) := by
  rcases h with ⟨rfl, rfl⟩ | ⟨rfl, rfl⟩
  · exact T.kit_BadItem_BadText
  · exact T.kit_BadLength_BadText
theorem kin_BadPadding (T : TX K mg) {nm : Str} {k : Nat} (h : Two nm k) : PySem.W.kitOne K (.ref (He.ga K nm)) (.ref (He.ga K "BadPadding")) = some (decide (4 = k)) := by
  rcases h with ⟨rfl, rfl⟩ | ⟨rfl, rfl⟩
  · exact T.kit_BadItem_BadPadding
  · exact T.kit_BadLength_BadPadding
theorem kin_WrongPhase (T : TX K mg) {nm : Str} {k : Nat} (h : Two nm k) : PySem.W.kitOne K (.ref (He.ga K nm)) (.ref (He.ga K "WrongPhase")) = some (decide (5 = k)) := by
  rcases h with ⟨rfl, rfl⟩ | ⟨rfl, rfl⟩
  · exact T.kit_BadItem_WrongPhase
  · exact T.kit_BadLength_WrongPhase
theorem kin_NotInvertible (T : TX K mg) {nm : Str} {k : Nat} (h : Two nm k) : PySem.W.kitOne K (.ref (He.ga K nm)) (.ref (He.ga K "NotInvertible")) = some (decide (6 = k)) := by
  rcases h with ⟨rfl, rfl⟩ | ⟨rfl, rfl⟩
  · exact T.kit_BadItem_NotInvertible
  · exact T.kit_BadLength_NotInvertible
theorem kin_BadRing (T : TX K mg) {nm : Str} {k : Nat} (h : Two nm k) : PySem.W.kitOne K (.ref (He.ga K nm)) (.ref (He.ga K "BadRing")) = some (decide (7 = k)) := by
  rcases h with ⟨rfl, rfl⟩ | ⟨rfl, rfl⟩
  · exact T.kit_BadItem_BadRing
  · exact T.kit_BadLength_BadRing
theorem kin_BadParameters (T : TX K mg) {nm : Str} {k : Nat} (h : Two nm k) : PySem.W.kitOne K (.ref (He.ga K nm)) (.ref (He.ga K "BadParameters")) = some (decide (8 = k)) := by
  rcases h with ⟨rfl, rfl⟩ | ⟨rfl, rfl⟩
  · exact T.kit_BadItem_BadParameters
  · exact T.kit_BadLength_BadParameters
theorem kin_UnknownName (T : TX K mg) {nm : Str} {k : Nat} (h : Two nm k) : PySem.W.kitOne K (.ref (He.ga K nm)) (.ref (He.ga K "UnknownName")) = some (decide (9 = k)) := by
  rcases h with ⟨rfl, rfl⟩ | ⟨rfl, rfl⟩
  · exact T.kit_BadItem_UnknownName
  · exact T.kit_BadLength_UnknownName
theorem kin_DifferentRings (T : TX K mg) {nm : Str} {k : Nat} (h : Two nm k) : PySem.W.kitOne K (.ref (He.ga K nm)) (.ref (He.ga K "DifferentRings")) = some (decide (10 = k)) := by
  rcases h with ⟨rfl, rfl⟩ | ⟨rfl, rfl⟩
  · exact T.kit_BadItem_DifferentRings
  · exact T.kit_BadLength_DifferentRings
theorem kin_BadKey (T : TX K mg) {nm : Str} {k : Nat} (h : Two nm k) : PySem.W.kitOne K (.ref (He.ga K nm)) (.ref (He.ga K "BadKey")) = some (decide (11 = k)) := by
  rcases h with ⟨rfl, rfl⟩ | ⟨rfl, rfl⟩
  · exact T.kit_BadItem_BadKey
  · exact T.kit_BadLength_BadKey
theorem kin_BadLetter (T : TX K mg) {nm : Str} {k : Nat} (h : Two nm k) : PySem.W.kitOne K (.ref (He.ga K nm)) (.ref (He.ga K "BadLetter")) = some (decide (12 = k)) := by
  rcases h with ⟨rfl, rfl⟩ | ⟨rfl, rfl⟩
  · exact T.kit_BadItem_BadLetter
  · exact T.kit_BadLength_BadLetter
theorem kin_BadKeyText (T : TX K mg) {nm : Str} {k : Nat} (h : Two nm k) : PySem.W.kitOne K (.ref (He.ga K nm)) (.ref (He.ga K "BadKeyText")) = some (decide (13 = k)) := by
  rcases h with ⟨rfl, rfl⟩ | ⟨rfl, rfl⟩
  · exact T.kit_BadItem_BadKeyText
  · exact T.kit_BadLength_BadKeyText
theorem kin_BadRecord (T : TX K mg) {nm : Str} {k : Nat} (h : Two nm k) : PySem.W.kitOne K (.ref (He.ga K nm)) (.ref (He.ga K "BadRecord")) = some (decide (14 = k)) := by
  rcases h with ⟨rfl, rfl⟩ | ⟨rfl, rfl⟩
  · exact T.kit_BadItem_BadRecord
  · exact T.kit_BadLength_BadRecord
theorem kin_BadCommand (T : TX K mg) {nm : Str} {k : Nat} (h : Two nm k) : PySem.W.kitOne K (.ref (He.ga K nm)) (.ref (He.ga K "BadCommand")) = some (decide (15 = k)) := by
  rcases h with ⟨rfl, rfl⟩ | ⟨rfl, rfl⟩
  · exact T.kit_BadItem_BadCommand
  · exact T.kit_BadLength_BadCommand
theorem kin_NoEntry (T : TX K mg) {nm : Str} {k : Nat} (h : Two nm k) : PySem.W.kitOne K (.ref (He.ga K nm)) (.ref (He.ga K "NoEntry")) = some (decide (16 = k)) := by
  rcases h with ⟨rfl, rfl⟩ | ⟨rfl, rfl⟩
  · exact T.kit_BadItem_NoEntry
  · exact T.kit_BadLength_NoEntry
theorem kin_NothingLeft (T : TX K mg) {nm : Str} {k : Nat} (h : Two nm k) : PySem.W.kitOne K (.ref (He.ga K nm)) (.ref (He.ga K "NothingLeft")) = some (decide (17 = k)) := by
  rcases h with ⟨rfl, rfl⟩ | ⟨rfl, rfl⟩
  · exact T.kit_BadItem_NothingLeft
  · exact T.kit_BadLength_NothingLeft
theorem kin_base (T : TX K mg) {nm : Str} {k : Nat} (h : Two nm k) : PySem.W.kitOne K (.ref (He.ga K nm)) (.ref (He.ga K "NoiseboundError")) = some true := by
  rcases h with ⟨rfl, rfl⟩ | ⟨rfl, rfl⟩
  · exact T.kit_BadItem_NoiseboundError
  · exact T.kit_BadLength_NoiseboundError
theorem kin_VE (T : TX K mg) {nm : Str} {k : Nat} (h : Two nm k) : PySem.W.kitOne K (.ref (He.ga K nm)) (.type "ValueError") = some true := by
  rcases h with ⟨rfl, rfl⟩ | ⟨rfl, rfl⟩
  · exact T.kit_BadItem_ValueError
  · exact T.kit_BadLength_ValueError
theorem exc_two (T : TX K mg) {nm : Str} {k : Nat} (h : Two nm k) : ExcC K (He.ga K nm) := by
  rcases h with ⟨rfl, rfl⟩ | ⟨rfl, rfl⟩
  · exact T.exc_BadItem
  · exact T.exc_BadLength
/-- the error at p: its class, its dict -/
def ErrAt (K : PySem.W.Frag) (H : Hp) (p : Addr × Obj) (nm : Str) (fs : List (Str × V)) : Prop := ∃ dd, Zc (.ref (He.ga K nm)) (some dd) p.2 ∧ (∃ vs, p.2.data = .fields vs) ∧ H dd = some (.xd fs)
def sp_kin (K : PySem.W.Frag) : Addr × Obj → Sp := fun p vs H Q _ => ∃ (nm : Str) (k : Nat) (fs : List (Str × V)), vs = [.ref p.1] ∧ Two nm k ∧ ErrAt K H p nm fs ∧ ∀ q H', Same H H' → H q = none → H' q = some (.lst [.str nm]) → Q (.ref q) H'
theorem ok__law_kin (T : TX K mg) : KxE.FnE P w K mg base 1 (A K "_law_kin") (fdA K (A K "_law_kin")) ["_law_error"] (sp_kin K) := by
  refine KxE.fn_ofE T.F__law_kin sc__law_kin (fun p vs H Q E h => ?_) (fun cdv A0 outer s0 H vs Q E p hot hr h => ?_)
  · obtain ⟨nm, k, fs, rfl, _⟩ := h
    rfl
  · obtain ⟨nm, k, fs, rfl, two, ⟨dd, hz, hf, hd⟩, qq⟩ := h
    have hC := exc_two T two
    refine ⟨_, (pss_cons (ps_set (i := 1) sc__law_kin.nd rfl (Or.inr rfl) (pe_lst (pa_cons (pe_callB (KxE.call_isX hC List.mem_cons_self hz hf) (by rfl) T.n_isinstance (by decide +kernel) (pa_cons (pv 0) (pa_cons (pe_glob (v := .ref (He.ga _ "OutOfRange")) rfl T.g_OutOfRange rfl) pa_nil))) (pa_cons (pe_callB (KxE.call_isX hC List.mem_cons_self hz hf) (by rfl) T.n_isinstance (by decide +kernel) (pa_cons (pv 0) (pa_cons (pe_glob (v := .ref (He.ga _ "BadItem")) rfl T.g_BadItem rfl) pa_nil))) (pa_cons (pe_callB (KxE.call_isX hC List.mem_cons_self hz hf) (by rfl) T.n_isinstance (by decide +kernel) (pa_cons (pv 0) (pa_cons (pe_glob (v := .ref (He.ga _ "BadLength")) rfl T.g_BadLength rfl) pa_nil))) pa_nil)))))
      (pss_cons (ps_set (i := 1) sc__law_kin.nd rfl (Or.inr rfl) (pe_op op_cat (pv 1) (pe_lst (pa_cons (pe_callB (KxE.call_isX hC List.mem_cons_self hz hf) (by rfl) T.n_isinstance (by decide +kernel) (pa_cons (pv 0) (pa_cons (pe_glob (v := .ref (He.ga _ "BadText")) rfl T.g_BadText rfl) pa_nil))) (pa_cons (pe_callB (KxE.call_isX hC List.mem_cons_self hz hf) (by rfl) T.n_isinstance (by decide +kernel) (pa_cons (pv 0) (pa_cons (pe_glob (v := .ref (He.ga _ "BadPadding")) rfl T.g_BadPadding rfl) pa_nil))) (pa_cons (pe_callB (KxE.call_isX hC List.mem_cons_self hz hf) (by rfl) T.n_isinstance (by decide +kernel) (pa_cons (pv 0) (pa_cons (pe_glob (v := .ref (He.ga _ "WrongPhase")) rfl T.g_WrongPhase rfl) pa_nil))) pa_nil))))))
      (pss_cons (ps_set (i := 1) sc__law_kin.nd rfl (Or.inr rfl) (pe_op op_cat (pv 1) (pe_lst (pa_cons (pe_callB (KxE.call_isX hC List.mem_cons_self hz hf) (by rfl) T.n_isinstance (by decide +kernel) (pa_cons (pv 0) (pa_cons (pe_glob (v := .ref (He.ga _ "NotInvertible")) rfl T.g_NotInvertible rfl) pa_nil))) (pa_cons (pe_callB (KxE.call_isX hC List.mem_cons_self hz hf) (by rfl) T.n_isinstance (by decide +kernel) (pa_cons (pv 0) (pa_cons (pe_glob (v := .ref (He.ga _ "BadRing")) rfl T.g_BadRing rfl) pa_nil))) (pa_cons (pe_callB (KxE.call_isX hC List.mem_cons_self hz hf) (by rfl) T.n_isinstance (by decide +kernel) (pa_cons (pv 0) (pa_cons (pe_glob (v := .ref (He.ga _ "BadParameters")) rfl T.g_BadParameters rfl) pa_nil))) pa_nil))))))
      (pss_cons (ps_set (i := 1) sc__law_kin.nd rfl (Or.inr rfl) (pe_op op_cat (pv 1) (pe_lst (pa_cons (pe_callB (KxE.call_isX hC List.mem_cons_self hz hf) (by rfl) T.n_isinstance (by decide +kernel) (pa_cons (pv 0) (pa_cons (pe_glob (v := .ref (He.ga _ "UnknownName")) rfl T.g_UnknownName rfl) pa_nil))) (pa_cons (pe_callB (KxE.call_isX hC List.mem_cons_self hz hf) (by rfl) T.n_isinstance (by decide +kernel) (pa_cons (pv 0) (pa_cons (pe_glob (v := .ref (He.ga _ "DifferentRings")) rfl T.g_DifferentRings rfl) pa_nil))) (pa_cons (pe_callB (KxE.call_isX hC List.mem_cons_self hz hf) (by rfl) T.n_isinstance (by decide +kernel) (pa_cons (pv 0) (pa_cons (pe_glob (v := .ref (He.ga _ "BadKey")) rfl T.g_BadKey rfl) pa_nil))) pa_nil))))))
      (pss_cons (ps_set (i := 1) sc__law_kin.nd rfl (Or.inr rfl) (pe_op op_cat (pv 1) (pe_lst (pa_cons (pe_callB (KxE.call_isX hC List.mem_cons_self hz hf) (by rfl) T.n_isinstance (by decide +kernel) (pa_cons (pv 0) (pa_cons (pe_glob (v := .ref (He.ga _ "BadLetter")) rfl T.g_BadLetter rfl) pa_nil))) (pa_cons (pe_callB (KxE.call_isX hC List.mem_cons_self hz hf) (by rfl) T.n_isinstance (by decide +kernel) (pa_cons (pv 0) (pa_cons (pe_glob (v := .ref (He.ga _ "BadKeyText")) rfl T.g_BadKeyText rfl) pa_nil))) (pa_cons (pe_callB (KxE.call_isX hC List.mem_cons_self hz hf) (by rfl) T.n_isinstance (by decide +kernel) (pa_cons (pv 0) (pa_cons (pe_glob (v := .ref (He.ga _ "BadRecord")) rfl T.g_BadRecord rfl) pa_nil))) pa_nil))))))
      (pss_cons (ps_set (i := 1) sc__law_kin.nd rfl (Or.inr rfl) (pe_op op_cat (pv 1) (pe_lst (pa_cons (pe_callB (KxE.call_isX hC List.mem_cons_self hz hf) (by rfl) T.n_isinstance (by decide +kernel) (pa_cons (pv 0) (pa_cons (pe_glob (v := .ref (He.ga _ "BadCommand")) rfl T.g_BadCommand rfl) pa_nil))) (pa_cons (pe_callB (KxE.call_isX hC List.mem_cons_self hz hf) (by rfl) T.n_isinstance (by decide +kernel) (pa_cons (pv 0) (pa_cons (pe_glob (v := .ref (He.ga _ "NoEntry")) rfl T.g_NoEntry rfl) pa_nil))) (pa_cons (pe_callB (KxE.call_isX hC List.mem_cons_self hz hf) (by rfl) T.n_isinstance (by decide +kernel) (pa_cons (pv 0) (pa_cons (pe_glob (v := .ref (He.ga _ "NothingLeft")) rfl T.g_NothingLeft rfl) pa_nil))) pa_nil))))))
      (pss_cons (ps_set (i := 2) sc__law_kin.nd rfl (Or.inr rfl) (pe_lst (pa_cons pe_str (pa_cons pe_str (pa_cons pe_str (pa_cons pe_str (pa_cons pe_str (pa_cons pe_str (pa_cons pe_str (pa_cons pe_str pa_nil))))))))))
      (pss_cons (ps_set (i := 2) sc__law_kin.nd rfl (Or.inr rfl) (pe_op op_cat (pv 2) (pe_lst (pa_cons pe_str (pa_cons pe_str (pa_cons pe_str (pa_cons pe_str (pa_cons pe_str (pa_cons pe_str pa_nil)))))))))
      (pss_cons (ps_set (i := 2) sc__law_kin.nd rfl (Or.inr rfl) (pe_op op_cat (pv 2) (pe_lst (pa_cons pe_str (pa_cons pe_str (pa_cons pe_str (pa_cons pe_str pa_nil)))))))
      (pss_cons (ps_if (PW.pt (pw_or (pt_not (pt_val (pe_callB (KxE.call_isX hC List.mem_cons_self hz hf) (by rfl) T.n_isinstance (by decide +kernel) (pa_cons (pv 0) (pa_cons (pe_glob (v := .ref (He.ga _ "NoiseboundError")) rfl T.g_NoiseboundError rfl) pa_nil))))) (pw_or1 (pt_not (pt_val (pe_callB (KxE.call_isX hC List.mem_cons_self hz hf) (by rfl) T.n_isinstance (by decide +kernel) (pa_cons (pv 0) (pa_cons (pe_bltn (v := .ty "ValueError") (by rfl) T.n_ValueError (by decide +kernel) rfl) pa_nil)))))))) (pss_one (ps_ret (pe_lst (pa_cons pe_str pa_nil)))) pss_nil)
      (pss_one (ps_ret (KxE.pe_lcE (own := [("_law_at", 3)]) (g := gName 3)  ⟨hot.1, hot.2⟩ List.mem_cons_self sc__law_kin.nd (L2H.pi_range1H (by rfl) T.n_range (pa_cons pe_int pa_nil)) (blkOk_by (N := N__law_kin) (sc := defScope s__law_kin) (by decide +kernel)) (fun _ _ _ _ _ => pg_name (i := 3) sc__law_kin.nd rfl (Or.inl rfl)) (fun _ _ _ _ _ => pts_one (pt_val (pe_ix (r := rIxL K) ix_list (pv 1) (pv 3) (fun _ _ => rfl)))) (fun _ _ _ _ _ => (pe_ix (r := rIxL K) ix_list (pv 2) (pv 3) (fun _ _ => rfl)))))))))))))))), ?_⟩
    refine ⟨_, rfl, _, _, fs, _, rfl, .own _, hd, kin_OutOfRange T two, ?_⟩
    refine ⟨_, rfl, _, _, fs, _, rfl, .own _, hd, kin_BadItem T two, ?_⟩
    refine ⟨_, rfl, _, _, fs, _, rfl, .own _, hd, kin_BadLength T two, ?_⟩
    refine ⟨(by show 3 ≤ sizeLine; decide), fun p1 hp1 => ?_⟩
    obtain ⟨H1, e1, s1, g1⟩ := alloc hp1 (.lst [.bl (decide (0 = k)), .bl (decide (1 = k)), .bl (decide (2 = k))])
    rw [e1]
    have hd1 := s1 _ _ hd
    have z1 := s1
    refine ⟨_, rfl, ?_⟩
    refine ⟨_, rfl, _, _, fs, _, rfl, .own _, hd1, kin_BadText T two, ?_⟩
    refine ⟨_, rfl, _, _, fs, _, rfl, .own _, hd1, kin_BadPadding T two, ?_⟩
    refine ⟨_, rfl, _, _, fs, _, rfl, .own _, hd1, kin_WrongPhase T two, ?_⟩
    refine ⟨(by show 3 ≤ sizeLine; decide), fun p2 hp2 => ?_⟩
    obtain ⟨H2, e2, s2, g2⟩ := alloc hp2 (.lst [.bl (decide (3 = k)), .bl (decide (4 = k)), .bl (decide (5 = k))])
    rw [e2]
    have hd2 := s2 _ _ hd1
    have z2 := z1.trans s2
    refine ⟨p1, p2, _, _, rfl, rfl, s2 _ _ (g1), g2, line_of (by show 6 ≤ 100000; decide), fun p3 hp3 => ?_⟩
    obtain ⟨H3, e3, s3, g3⟩ := alloc hp3 (.lst [.bl (decide (0 = k)), .bl (decide (1 = k)), .bl (decide (2 = k)), .bl (decide (3 = k)), .bl (decide (4 = k)), .bl (decide (5 = k))])
    have e3' := e3
    change upd H2 p3 (.lst ([.bl (decide (0 = k)), .bl (decide (1 = k)), .bl (decide (2 = k))] ++ [.bl (decide (3 = k)), .bl (decide (4 = k)), .bl (decide (5 = k))])) = H3 at e3'
    rw [e3']
    have hd3 := s3 _ _ hd2
    have z3 := z2.trans s3
    refine ⟨_, rfl, ?_⟩
    refine ⟨_, rfl, _, _, fs, _, rfl, .own _, hd3, kin_NotInvertible T two, ?_⟩
    refine ⟨_, rfl, _, _, fs, _, rfl, .own _, hd3, kin_BadRing T two, ?_⟩
    refine ⟨_, rfl, _, _, fs, _, rfl, .own _, hd3, kin_BadParameters T two, ?_⟩
    refine ⟨(by show 3 ≤ sizeLine; decide), fun p4 hp4 => ?_⟩
    obtain ⟨H4, e4, s4, g4⟩ := alloc hp4 (.lst [.bl (decide (6 = k)), .bl (decide (7 = k)), .bl (decide (8 = k))])
    rw [e4]
    have hd4 := s4 _ _ hd3
    have z4 := z3.trans s4
    refine ⟨p3, p4, _, _, rfl, rfl, s4 _ _ (g3), g4, line_of (by show 9 ≤ 100000; decide), fun p5 hp5 => ?_⟩
    obtain ⟨H5, e5, s5, g5⟩ := alloc hp5 (.lst [.bl (decide (0 = k)), .bl (decide (1 = k)), .bl (decide (2 = k)), .bl (decide (3 = k)), .bl (decide (4 = k)), .bl (decide (5 = k)), .bl (decide (6 = k)), .bl (decide (7 = k)), .bl (decide (8 = k))])
    have e5' := e5
    change upd H4 p5 (.lst ([.bl (decide (0 = k)), .bl (decide (1 = k)), .bl (decide (2 = k)), .bl (decide (3 = k)), .bl (decide (4 = k)), .bl (decide (5 = k))] ++ [.bl (decide (6 = k)), .bl (decide (7 = k)), .bl (decide (8 = k))])) = H5 at e5'
    rw [e5']
    have hd5 := s5 _ _ hd4
    have z5 := z4.trans s5
    refine ⟨_, rfl, ?_⟩
    refine ⟨_, rfl, _, _, fs, _, rfl, .own _, hd5, kin_UnknownName T two, ?_⟩
    refine ⟨_, rfl, _, _, fs, _, rfl, .own _, hd5, kin_DifferentRings T two, ?_⟩
    refine ⟨_, rfl, _, _, fs, _, rfl, .own _, hd5, kin_BadKey T two, ?_⟩
    refine ⟨(by show 3 ≤ sizeLine; decide), fun p6 hp6 => ?_⟩
    obtain ⟨H6, e6, s6, g6⟩ := alloc hp6 (.lst [.bl (decide (9 = k)), .bl (decide (10 = k)), .bl (decide (11 = k))])
    rw [e6]
    have hd6 := s6 _ _ hd5
    have z6 := z5.trans s6
    refine ⟨p5, p6, _, _, rfl, rfl, s6 _ _ (g5), g6, line_of (by show 12 ≤ 100000; decide), fun p7 hp7 => ?_⟩
    obtain ⟨H7, e7, s7, g7⟩ := alloc hp7 (.lst [.bl (decide (0 = k)), .bl (decide (1 = k)), .bl (decide (2 = k)), .bl (decide (3 = k)), .bl (decide (4 = k)), .bl (decide (5 = k)), .bl (decide (6 = k)), .bl (decide (7 = k)), .bl (decide (8 = k)), .bl (decide (9 = k)), .bl (decide (10 = k)), .bl (decide (11 = k))])
    have e7' := e7
    change upd H6 p7 (.lst ([.bl (decide (0 = k)), .bl (decide (1 = k)), .bl (decide (2 = k)), .bl (decide (3 = k)), .bl (decide (4 = k)), .bl (decide (5 = k)), .bl (decide (6 = k)), .bl (decide (7 = k)), .bl (decide (8 = k))] ++ [.bl (decide (9 = k)), .bl (decide (10 = k)), .bl (decide (11 = k))])) = H7 at e7'
    rw [e7']
    have hd7 := s7 _ _ hd6
    have z7 := z6.trans s7
    refine ⟨_, rfl, ?_⟩
    refine ⟨_, rfl, _, _, fs, _, rfl, .own _, hd7, kin_BadLetter T two, ?_⟩
    refine ⟨_, rfl, _, _, fs, _, rfl, .own _, hd7, kin_BadKeyText T two, ?_⟩
    refine ⟨_, rfl, _, _, fs, _, rfl, .own _, hd7, kin_BadRecord T two, ?_⟩
    refine ⟨(by show 3 ≤ sizeLine; decide), fun p8 hp8 => ?_⟩
    obtain ⟨H8, e8, s8, g8⟩ := alloc hp8 (.lst [.bl (decide (12 = k)), .bl (decide (13 = k)), .bl (decide (14 = k))])
    rw [e8]
    have hd8 := s8 _ _ hd7
    have z8 := z7.trans s8
    refine ⟨p7, p8, _, _, rfl, rfl, s8 _ _ (g7), g8, line_of (by show 15 ≤ 100000; decide), fun p9 hp9 => ?_⟩
    obtain ⟨H9, e9, s9, g9⟩ := alloc hp9 (.lst [.bl (decide (0 = k)), .bl (decide (1 = k)), .bl (decide (2 = k)), .bl (decide (3 = k)), .bl (decide (4 = k)), .bl (decide (5 = k)), .bl (decide (6 = k)), .bl (decide (7 = k)), .bl (decide (8 = k)), .bl (decide (9 = k)), .bl (decide (10 = k)), .bl (decide (11 = k)), .bl (decide (12 = k)), .bl (decide (13 = k)), .bl (decide (14 = k))])
    have e9' := e9
    change upd H8 p9 (.lst ([.bl (decide (0 = k)), .bl (decide (1 = k)), .bl (decide (2 = k)), .bl (decide (3 = k)), .bl (decide (4 = k)), .bl (decide (5 = k)), .bl (decide (6 = k)), .bl (decide (7 = k)), .bl (decide (8 = k)), .bl (decide (9 = k)), .bl (decide (10 = k)), .bl (decide (11 = k))] ++ [.bl (decide (12 = k)), .bl (decide (13 = k)), .bl (decide (14 = k))])) = H9 at e9'
    rw [e9']
    have hd9 := s9 _ _ hd8
    have z9 := z8.trans s9
    refine ⟨_, rfl, ?_⟩
    refine ⟨_, rfl, _, _, fs, _, rfl, .own _, hd9, kin_BadCommand T two, ?_⟩
    refine ⟨_, rfl, _, _, fs, _, rfl, .own _, hd9, kin_NoEntry T two, ?_⟩
    refine ⟨_, rfl, _, _, fs, _, rfl, .own _, hd9, kin_NothingLeft T two, ?_⟩
    refine ⟨(by show 3 ≤ sizeLine; decide), fun p10 hp10 => ?_⟩
    obtain ⟨H10, e10, s10, g10⟩ := alloc hp10 (.lst [.bl (decide (15 = k)), .bl (decide (16 = k)), .bl (decide (17 = k))])
    rw [e10]
    have hd10 := s10 _ _ hd9
    have z10 := z9.trans s10
    refine ⟨p9, p10, _, _, rfl, rfl, s10 _ _ (g9), g10, line_of (by show 18 ≤ 100000; decide), fun p11 hp11 => ?_⟩
    obtain ⟨H11, e11, s11, g11⟩ := alloc hp11 (.lst [.bl (decide (0 = k)), .bl (decide (1 = k)), .bl (decide (2 = k)), .bl (decide (3 = k)), .bl (decide (4 = k)), .bl (decide (5 = k)), .bl (decide (6 = k)), .bl (decide (7 = k)), .bl (decide (8 = k)), .bl (decide (9 = k)), .bl (decide (10 = k)), .bl (decide (11 = k)), .bl (decide (12 = k)), .bl (decide (13 = k)), .bl (decide (14 = k)), .bl (decide (15 = k)), .bl (decide (16 = k)), .bl (decide (17 = k))])
    have e11' := e11
    change upd H10 p11 (.lst ([.bl (decide (0 = k)), .bl (decide (1 = k)), .bl (decide (2 = k)), .bl (decide (3 = k)), .bl (decide (4 = k)), .bl (decide (5 = k)), .bl (decide (6 = k)), .bl (decide (7 = k)), .bl (decide (8 = k)), .bl (decide (9 = k)), .bl (decide (10 = k)), .bl (decide (11 = k)), .bl (decide (12 = k)), .bl (decide (13 = k)), .bl (decide (14 = k))] ++ [.bl (decide (15 = k)), .bl (decide (16 = k)), .bl (decide (17 = k))])) = H11 at e11'
    rw [e11']
    have hd11 := s11 _ _ hd10
    have z11 := z10.trans s11
    refine ⟨(by show 8 ≤ sizeLine; decide), fun p12 hp12 => ?_⟩
    obtain ⟨H12, e12, s12, g12⟩ := alloc hp12 (.lst [.str "OutOfRange", .str "BadItem", .str "BadLength", .str "BadText", .str "BadPadding", .str "WrongPhase", .str "NotInvertible", .str "BadRing"])
    rw [e12]
    have hd12 := s12 _ _ hd11
    have z12 := z11.trans s12
    refine ⟨_, rfl, (by show 6 ≤ sizeLine; decide), fun p13 hp13 => ?_⟩
    obtain ⟨H13, e13, s13, g13⟩ := alloc hp13 (.lst [.str "BadParameters", .str "UnknownName", .str "DifferentRings", .str "BadKey", .str "BadLetter", .str "BadKeyText"])
    rw [e13]
    have hd13 := s13 _ _ hd12
    have z13 := z12.trans s13
    refine ⟨p12, p13, _, _, rfl, rfl, s13 _ _ (g12), g13, line_of (by show 14 ≤ 100000; decide), fun p14 hp14 => ?_⟩
    obtain ⟨H14, e14, s14, g14⟩ := alloc hp14 (.lst [.str "OutOfRange", .str "BadItem", .str "BadLength", .str "BadText", .str "BadPadding", .str "WrongPhase", .str "NotInvertible", .str "BadRing", .str "BadParameters", .str "UnknownName", .str "DifferentRings", .str "BadKey", .str "BadLetter", .str "BadKeyText"])
    have e14' := e14
    change upd H13 p14 (.lst ([.str "OutOfRange", .str "BadItem", .str "BadLength", .str "BadText", .str "BadPadding", .str "WrongPhase", .str "NotInvertible", .str "BadRing"] ++ [.str "BadParameters", .str "UnknownName", .str "DifferentRings", .str "BadKey", .str "BadLetter", .str "BadKeyText"])) = H14 at e14'
    rw [e14']
    have hd14 := s14 _ _ hd13
    have z14 := z13.trans s14
    refine ⟨_, rfl, (by show 4 ≤ sizeLine; decide), fun p15 hp15 => ?_⟩
    obtain ⟨H15, e15, s15, g15⟩ := alloc hp15 (.lst [.str "BadRecord", .str "BadCommand", .str "NoEntry", .str "NothingLeft"])
    rw [e15]
    have hd15 := s15 _ _ hd14
    have z15 := z14.trans s15
    refine ⟨p14, p15, _, _, rfl, rfl, s15 _ _ (g14), g15, line_of (by show 18 ≤ 100000; decide), fun p16 hp16 => ?_⟩
    obtain ⟨H16, e16, s16, g16⟩ := alloc hp16 (.lst [.str "OutOfRange", .str "BadItem", .str "BadLength", .str "BadText", .str "BadPadding", .str "WrongPhase", .str "NotInvertible", .str "BadRing", .str "BadParameters", .str "UnknownName", .str "DifferentRings", .str "BadKey", .str "BadLetter", .str "BadKeyText", .str "BadRecord", .str "BadCommand", .str "NoEntry", .str "NothingLeft"])
    have e16' := e16
    change upd H15 p16 (.lst ([.str "OutOfRange", .str "BadItem", .str "BadLength", .str "BadText", .str "BadPadding", .str "WrongPhase", .str "NotInvertible", .str "BadRing", .str "BadParameters", .str "UnknownName", .str "DifferentRings", .str "BadKey", .str "BadLetter", .str "BadKeyText"] ++ [.str "BadRecord", .str "BadCommand", .str "NoEntry", .str "NothingLeft"])) = H16 at e16'
    rw [e16']
    have hd16 := s16 _ _ hd15
    have z16 := z15.trans s16
    have gF : H16 p11 = some (.lst [.bl (decide (0 = k)), .bl (decide (1 = k)), .bl (decide (2 = k)), .bl (decide (3 = k)), .bl (decide (4 = k)), .bl (decide (5 = k)), .bl (decide (6 = k)), .bl (decide (7 = k)), .bl (decide (8 = k)), .bl (decide (9 = k)), .bl (decide (10 = k)), .bl (decide (11 = k)), .bl (decide (12 = k)), .bl (decide (13 = k)), .bl (decide (14 = k)), .bl (decide (15 = k)), .bl (decide (16 = k)), .bl (decide (17 = k))]) := s16 _ _ (s15 _ _ (s14 _ _ (s13 _ _ (s12 _ _ (g11)))))
    have gW : H16 p16 = some (.lst [.str "OutOfRange", .str "BadItem", .str "BadLength", .str "BadText", .str "BadPadding", .str "WrongPhase", .str "NotInvertible", .str "BadRing", .str "BadParameters", .str "UnknownName", .str "DifferentRings", .str "BadKey", .str "BadLetter", .str "BadKeyText", .str "BadRecord", .str "BadCommand", .str "NoEntry", .str "NothingLeft"]) := g16
    have fl : ∀ i, i < 18 → ([.bl (decide (0 = k)), .bl (decide (1 = k)), .bl (decide (2 = k)), .bl (decide (3 = k)), .bl (decide (4 = k)), .bl (decide (5 = k)), .bl (decide (6 = k)), .bl (decide (7 = k)), .bl (decide (8 = k)), .bl (decide (9 = k)), .bl (decide (10 = k)), .bl (decide (11 = k)), .bl (decide (12 = k)), .bl (decide (13 = k)), .bl (decide (14 = k)), .bl (decide (15 = k)), .bl (decide (16 = k)), .bl (decide (17 = k))] : List V)[i]? = some (.bl (decide (i = k))) := by rcases two with ⟨rfl, rfl⟩ | ⟨rfl, rfl⟩ <;> decide +kernel
    have wd : ([.str "OutOfRange", .str "BadItem", .str "BadLength", .str "BadText", .str "BadPadding", .str "WrongPhase", .str "NotInvertible", .str "BadRing", .str "BadParameters", .str "UnknownName", .str "DifferentRings", .str "BadKey", .str "BadLetter", .str "BadKeyText", .str "BadRecord", .str "BadCommand", .str "NoEntry", .str "NothingLeft"] : List V)[k]? = some (.str nm) := by rcases two with ⟨rfl, rfl⟩ | ⟨rfl, rfl⟩ <;> rfl
    have k18 : k < 18 := by rcases two with ⟨rfl, rfl⟩ | ⟨rfl, rfl⟩ <;> decide
    refine ⟨_, rfl, _, _, fs, _, rfl, .own _, hd16, kin_base T two, _, rfl, iteF ?_⟩
    refine ⟨_, rfl, _, _, fs, _, rfl, .ty _, hd16, kin_VE T two, _, rfl, iteF ?_⟩
    refine ⟨_, rfl, by decide, by decide, fun D hD => ?_⟩
    refine lc_range (lo := 0) (n := (18 : Int).toNat) (fun i H' => Same H16 H' ∧ H' D = some (.lst (if k < i then [.str nm] else []))) ⟨same_upd hD, upd_same⟩ ?_ ?_
    · rintro i H' hi ⟨sm, hl⟩
      have hi' : i < 18 := hi
      refine ⟨rfl, _, rfl, _, rfl, _, _, _, _, rfl, rfl, lq (sm _ _ gF), at_of (j := i) (by omega) (fl i hi'), _, rfl, ite2 (fun e => ?_) fun e => ?_⟩
      · obtain rfl : i = k := of_decide_eq_true e
        refine ⟨_, rfl, _, rfl, _, _, _, _, rfl, rfl, lq (sm _ _ gW), at_of (j := i) (by omega) wd, _, hl, ?_, fun b o e => ?_, ?_⟩
        · rw [if_neg (by omega)]
          exact line_lt (by decide)
        · rw [upd_ne (ne_of_none e hD)]
          exact sm _ _ e
        · rw [upd_same, if_neg (by omega), if_pos (by omega)]
          rfl
      · have ne : ¬ i = k := fun z => e (decide_eq_true z)
        refine ⟨sm, ?_⟩
        rw [hl]
        by_cases c : k < i
        · rw [if_pos c, if_pos (by omega)]
        · rw [if_neg c, if_neg (by omega)]
    · rintro H' ⟨sm, hl⟩
      rw [if_pos (show k < (18 : Int).toNat from k18)] at hl
      exact qq D H' (z16.trans sm) (z16.free hD) hl
end
end Kx
set_option Elab.async false
set_option linter.all false
set_option maxRecDepth 100000
set_option maxHeartbeats 4000000
/-! The law's call. -/
namespace Kx
open PySem PySem.Spec PyProof.Rows L2
theorem PE.imp {X : Cx} {e : Expr} {t t' : TE} (h : PE X e t) (i : ∀ σ H Q, t' σ H Q → t σ H Q) : PE X e t' := ⟨fun pins s σ H Q I h' => h.run pins s σ H Q I (i σ H Q h')⟩
theorem takesN0 {X : Cx} : L2N.Takes X (fun _ _ _ _ => False) := fun _ _ x => by
  obtain ⟨_, _, _, _, _, _, _, _, _, _, _, _, _, _, _, _, z⟩ := x
  exact z.elim
section
variable {P : Program} {w : World} {K : PySem.W.Frag} {mg : Str → Option Value} {base : Heap}
theorem two_of {nm : Str} {fs : List (Str × V)} {es : List V} (h : ExpOf nm fs es) : ∃ k, Two nm k := by
  rcases h with ⟨rfl, _⟩ | ⟨rfl, _⟩
  · exact ⟨2, .inr ⟨rfl, rfl⟩⟩
  · exact ⟨1, .inl ⟨rfl, rfl⟩⟩
def sp_refused (K : PySem.W.Frag) : Addr × Obj → Sp := fun p vs H Q _ => ∃ (nm : Str) (fs : List (Str × V)) (es : List V), vs = [.ref p.1] ∧ ErrAt K H p nm fs ∧ ExpOf nm fs es ∧ ∀ t H', Same H H' → H t = none → H' t = some (.tup es) → Q (.ref t) H'
theorem ok__law_refused (T : TX K mg) : KxE.FnE P w K mg base 2 (A K "_law_refused") (fdA K (A K "_law_refused")) ["_law_error"] (sp_refused K) := by
  refine KxE.fn_ofE T.F__law_refused sc__law_refused (fun p vs H Q E h => ?_) (fun cdv A0 outer s0 H vs Q E p hot hr h => ?_)
  · obtain ⟨nm, fs, es, rfl, _⟩ := h
    rfl
  · obtain ⟨nm, fs, es, rfl, ⟨dd, hz, hf, hd⟩, hE, qq⟩ := h
    rcases hE with ⟨rfl, x, y, rfl, rfl⟩ | ⟨rfl, i, rfl, rfl⟩
    · have two : Two "BadLength" 2 := .inr ⟨rfl, rfl⟩
      have hC := exc_two T two
      refine ⟨_, (pss_cons (ps_set (i := 1) sc__law_refused.nd rfl (Or.inl rfl) (KxE.pe_callE (ok__law_kin T) (hr.mono (by decide)) ⟨hot.1, hot.2⟩ List.mem_cons_self (by rfl) T.g__law_kin T.F__law_kin.kp T.b__law_kin (pa_cons (pv 0) pa_nil)))
      (pss_cons (ps_if (pt_cmpR op_ne (pe_callB call_len_seq (by rfl) T.n_len (by decide +kernel) (pa_cons (pv 1) pa_nil)) pe_int (nomark _)) (pss_one ps_never) pss_nil)
      (pss_cons (ps_if (pt_val (pe_callB (KxE.call_isX hC List.mem_cons_self hz hf) (by rfl) T.n_isinstance (by decide +kernel) (pa_cons (pv 0) (pa_cons (pe_glob (v := .ref (He.ga _ "OutOfRange")) rfl T.g_OutOfRange rfl) pa_nil)))) (pss_one ps_never) pss_nil)
      (pss_cons (ps_if (pt_val (pe_callB (KxE.call_isX hC List.mem_cons_self hz hf) (by rfl) T.n_isinstance (by decide +kernel) (pa_cons (pv 0) (pa_cons (pe_glob (v := .ref (He.ga _ "BadItem")) rfl T.g_BadItem rfl) pa_nil)))) (pss_one ps_never) pss_nil)
      (pss_cons (ps_if (pt_val (pe_callB (KxE.call_isX hC List.mem_cons_self hz hf) (by rfl) T.n_isinstance (by decide +kernel) (pa_cons (pv 0) (pa_cons (pe_glob (v := .ref (He.ga _ "BadLength")) rfl T.g_BadLength rfl) pa_nil)))) (pss_one (ps_ret (pe_tup (pa_cons pe_str (pa_cons (pe_ix ix_list (pv 1) pe_int (fun _ _ => rfl)) (pa_cons (KxE.pe_xfX T.xf_BadLength T.no_BadLength_expected List.mem_cons_self hz hf (pv 0)) (pa_cons (KxE.pe_xfX T.xf_BadLength T.no_BadLength_found List.mem_cons_self hz hf (pv 0)) pa_nil))))))) pss_nil)
      (pss_cons (ps_if (pt_val (pe_callB (KxE.call_isX hC List.mem_cons_self hz hf) (by rfl) T.n_isinstance (by decide +kernel) (pa_cons (pv 0) (pa_cons (pe_glob (v := .ref (He.ga _ "BadRing")) rfl T.g_BadRing rfl) pa_nil)))) (pss_one ps_never) pss_nil)
      (pss_one (ps_ret (pe_tup (pa_cons pe_str (pa_cons (pe_ix ix_list (pv 1) pe_int (fun _ _ => rfl)) pa_nil))))))))))), ?_⟩
      refine ⟨_, rfl, _, 2, _, rfl, two, ⟨dd, hz, hf, hd⟩, fun q H1 s1 hq h1 => ?_⟩
      have hd1 := s1 _ _ hd
      refine ⟨_, rfl, _, _, rfl, .inl (lq h1), rfl, _, rfl, iteF ?_⟩
      refine ⟨_, rfl, _, _, _, _, rfl, .own _, hd1, kin_OutOfRange T two, _, rfl, iteF ?_⟩
      refine ⟨_, rfl, _, _, _, _, rfl, .own _, hd1, kin_BadItem T two, _, rfl, iteF ?_⟩
      refine ⟨_, rfl, _, _, _, _, rfl, .own _, hd1, kin_BadLength T two, _, rfl, iteT ?_⟩
      refine ⟨_, rfl, _, _, _, _, rfl, rfl, lq h1, rfl, _, rfl, rfl, _, _, hd1, rfl, _, rfl, rfl, _, _, hd1, rfl, (by show 4 ≤ sizeLine; decide), fun t ht => ?_⟩
      exact qq t _ (s1.trans (same_upd ht)) (s1.free ht) upd_same
    · have two : Two "BadItem" 1 := .inl ⟨rfl, rfl⟩
      have hC := exc_two T two
      refine ⟨_, (pss_cons (ps_set (i := 1) sc__law_refused.nd rfl (Or.inl rfl) (KxE.pe_callE (ok__law_kin T) (hr.mono (by decide)) ⟨hot.1, hot.2⟩ List.mem_cons_self (by rfl) T.g__law_kin T.F__law_kin.kp T.b__law_kin (pa_cons (pv 0) pa_nil)))
      (pss_cons (ps_if (pt_cmpR op_ne (pe_callB call_len_seq (by rfl) T.n_len (by decide +kernel) (pa_cons (pv 1) pa_nil)) pe_int (nomark _)) (pss_one ps_never) pss_nil)
      (pss_cons (ps_if (pt_val (pe_callB (KxE.call_isX hC List.mem_cons_self hz hf) (by rfl) T.n_isinstance (by decide +kernel) (pa_cons (pv 0) (pa_cons (pe_glob (v := .ref (He.ga _ "OutOfRange")) rfl T.g_OutOfRange rfl) pa_nil)))) (pss_one ps_never) pss_nil)
      (pss_cons (ps_if (pt_val (pe_callB (KxE.call_isX hC List.mem_cons_self hz hf) (by rfl) T.n_isinstance (by decide +kernel) (pa_cons (pv 0) (pa_cons (pe_glob (v := .ref (He.ga _ "BadItem")) rfl T.g_BadItem rfl) pa_nil)))) (pss_one (ps_ret (pe_tup (pa_cons pe_str (pa_cons (pe_ix ix_list (pv 1) pe_int (fun _ _ => rfl)) (pa_cons (KxE.pe_xfX T.xf_BadItem T.no_BadItem_index List.mem_cons_self hz hf (pv 0)) pa_nil)))))) pss_nil)
      (pss_cons (ps_if (pt_val (pe_callB (KxE.call_isX hC List.mem_cons_self hz hf) (by rfl) T.n_isinstance (by decide +kernel) (pa_cons (pv 0) (pa_cons (pe_glob (v := .ref (He.ga _ "BadLength")) rfl T.g_BadLength rfl) pa_nil)))) (pss_one ps_never) pss_nil)
      (pss_cons (ps_if (pt_val (pe_callB (KxE.call_isX hC List.mem_cons_self hz hf) (by rfl) T.n_isinstance (by decide +kernel) (pa_cons (pv 0) (pa_cons (pe_glob (v := .ref (He.ga _ "BadRing")) rfl T.g_BadRing rfl) pa_nil)))) (pss_one ps_never) pss_nil)
      (pss_one (ps_ret (pe_tup (pa_cons pe_str (pa_cons (pe_ix ix_list (pv 1) pe_int (fun _ _ => rfl)) pa_nil))))))))))), ?_⟩
      refine ⟨_, rfl, _, 1, _, rfl, two, ⟨dd, hz, hf, hd⟩, fun q H1 s1 hq h1 => ?_⟩
      have hd1 := s1 _ _ hd
      refine ⟨_, rfl, _, _, rfl, .inl (lq h1), rfl, _, rfl, iteF ?_⟩
      refine ⟨_, rfl, _, _, _, _, rfl, .own _, hd1, kin_OutOfRange T two, _, rfl, iteF ?_⟩
      refine ⟨_, rfl, _, _, _, _, rfl, .own _, hd1, kin_BadItem T two, _, rfl, iteT ?_⟩
      refine ⟨_, rfl, _, _, _, _, rfl, rfl, lq h1, rfl, _, rfl, rfl, _, _, hd1, rfl, (by show 3 ≤ sizeLine; decide), fun t ht => ?_⟩
      exact qq t _ (s1.trans (same_upd ht)) (s1.free ht) upd_same
/-- what the suite's call wants, without the error's object -/
def sp_ref2 (K : PySem.W.Frag) (a : Addr) (cls : Value) (d : Option Addr) : Sp := fun vs H Q _ => ∃ (nm : Str) (fs : List (Str × V)) (es : List V) (dd : Addr), vs = [.ref a] ∧ cls = .ref (He.ga K nm) ∧ d = some dd ∧ H dd = some (.xd fs) ∧ ExpOf nm fs es ∧ ∀ t H', Same H H' → H t = none → H' t = some (.tup es) → Q (.ref t) H'
theorem ref2_of {a : Addr} {oe : Obj} {cls : Value} {d : Option Addr} (hz : L2N.Zn cls d oe) (hf : ∃ vs, oe.data = .fields vs) {vs : List V} {H : Hp} {Q : VK} {E : XK} (h : sp_ref2 K a cls d vs H Q E) : sp_refused K (a, oe) vs H Q E := by
  obtain ⟨nm, fs, es, dd, rfl, rfl, rfl, hd, hE, qq⟩ := h
  exact ⟨nm, fs, es, rfl, ⟨dd, hz.zc, hf, hd⟩, hE, qq⟩
theorem hot_of {A : Around} {a : Addr} {oe : Obj} {cls : Value} {d : Option Addr} (hd : A.handled = some (.ref a)) (hz : L2N.Zn cls d oe) (hf : ∃ vs, oe.data = .fields vs) : L2H.Hot1 A (a, oe) := by
  obtain ⟨vs, hv⟩ := hf
  exact ⟨hd, vs, hv, hz.2.2 vs hv⟩
theorem var_imp {i : Nat} {sp sp' : Sp} (h : ∀ vs H Q, sp' vs H Q E0 → sp vs H Q E0) : ∀ (σ : L2.St) (H : Hp) (Q : VK), (tCons (tVar i) tNil) σ H (fun vs H1 => sp' vs H1 Q E0) → (tCons (tVar i) tNil) σ H (fun vs H1 => sp vs H1 Q E0) := by
  rintro σ H Q ⟨v, hv, r⟩
  exact ⟨v, hv, h _ _ _ r⟩
theorem exm_two (T : TX K mg) {nm : Str} {k : Nat} (h : Two nm k) : PySem.W.exmOne K (.ref (He.ga K nm)) (.ref (He.ga K "NoiseboundError")) = some true := by
  rcases h with ⟨rfl, rfl⟩ | ⟨rfl, rfl⟩
  · exact T.exm_BadItem
  · exact T.exm_BadLength
/-! ### _law_call -/
def sp_lc (K : PySem.W.Frag) : Sp := fun vs H Q _ => ∃ (g a b : Addr) (c n : Nat) (q r : Int) (f h : List Int), vs = [.ref g, .ref a, .ref b] ∧ RingAt K H g n q r ∧ Rg c n q r ∧ SqL K H a (IL f) ∧ SqL K H b (IL h) ∧ Poly n q f ∧ Poly n q h ∧
  ∀ t p H', Same H H' → H t = none → H p = none → H' t = some (.tup [.str "told", .ref p]) → H' p = some (.lst (IL (convL q n f h))) → Q (.ref t) H'
theorem ok__law_call (T : TX K mg) : FnOk P w K mg base CX0 6 (A K "_law_call") (fdA K (A K "_law_call")) ["_law_ring", "_law_one", "_law_other_here"] (sp_lc K) := by
  refine T.F__law_call.ok sc__law_call (fun vs H Q E h => ?_) (fun cdv A0 outer s0 H vs Q E hr h => ?_)
  · obtain ⟨g, a, b, c, n, q, r, f, h, rfl, _⟩ := h
    rfl
  · obtain ⟨g, a, b, c, n, q, r, f, h, rfl, hg, hR, ha, hb, hf, hh, qq⟩ := h
    refine ⟨_, pss_one (ps_try_thru0 (pss_one (ps_ret (pe_tup (pa_cons pe_str (pa_cons (pe_call (ok_multiply_fast T) (hr.mono (by decide)) (by rfl) T.g_multiply_fast T.F_multiply_fast.kp T.b_multiply_fast .nil pass0 (pa_cons (pv 0) (pa_cons (pv 1) (pa_cons (pv 2) pa_nil)))) pa_nil)))))), ?_⟩
    refine ⟨_, rfl, _, rfl, _, rfl, g, a, b, c, n, q, r, f, h, rfl, hg, hR, ha, hb, hf, hh, fun p H1 s1 hp h1 => ⟨(by show 2 ≤ sizeLine; decide), fun t ht => ?_⟩⟩
    exact qq t p _ (s1.trans (same_upd ht)) (s1.free ht) hp upd_same (same_upd ht _ _ h1)
def sp_lcB (K : PySem.W.Frag) : Sp := fun vs H Q _ => ∃ (g a b : Addr) (n : Nat) (q r : Int) (xs es : List V) (nm : Str) (fs : List (Str × V)), vs = [.ref g, .ref a, .ref b] ∧ RingAt K H g n q r ∧ SqL K H a xs ∧ Kds H xs ∧ FltOf q n xs nm fs ∧ ExpOf nm fs es ∧
  ∀ t H', Same H H' → H t = none → H' t = some (.tup es) → Q (.ref t) H'
theorem bad1__law_call (T : TX K mg) : FnOk P w K mg base CX0 6 (A K "_law_call") (fdA K (A K "_law_call")) ["_law_ring", "_law_one", "_law_other_here"] (sp_lcB K) := by
  refine T.F__law_call.ok sc__law_call (fun vs H Q E h => ?_) (fun cdv A0 outer s0 H vs Q E hr h => ?_)
  · obtain ⟨g, a, b, n, q, r, xs, es, nm, fs, rfl, _⟩ := h
    rfl
  · obtain ⟨g, a, b, n, q, r, xs, es, nm, fs, rfl, hg, ha, hk, hF, hE, qq⟩ := h
    obtain ⟨k, two⟩ := two_of hE
    refine ⟨_, pss_one (L2N.ps_try_as (n := "e") (i := 3) (c := .ref (He.ga K "NoiseboundError")) rfl rfl sc__law_call.nd rfl rfl ⟨by rfl, by decide, .inl T.g_NoiseboundError⟩ takesN0
      (fun W pn xe tk _ => pss_one (ps_ret (pe_tup (pa_cons pe_str (pa_cons (pe_callSD (bad1_multiply_fast T) (hr.mono (by decide)) (by rfl) T.g_multiply_fast T.F_multiply_fast.kp T.b_multiply_fast .nil (fun σ => L2N.passAt tk σ) (pa_cons (pv 0) (pa_cons (pv 1) (pa_cons (pv 2) pa_nil)))) pa_nil)))))
      (fun a oe cls d pn hz hf => pss_one (ps_ret (PE.imp (KxE.pe_callE (ok__law_refused T) (L2H.roomH_mark (hr.mono (by decide)) _) (hot_of rfl hz hf) List.mem_cons_self (by rfl) T.g__law_refused T.F__law_refused.kp T.b__law_refused (pa_cons (pv 3) pa_nil)) (var_imp fun vs H Q => ref2_of hz hf))))), ?_⟩
    refine ⟨_, rfl, _, rfl, _, rfl, g, a, b, n, q, r, xs, nm, fs, rfl, hg, ha, hk, hF, fun dx H' s hn hd => ⟨true, exm_two T two, fun _ a' ha' => ?_, fun z => nomatch z⟩⟩
    exact ⟨_, rfl, nm, fs, es, dx, rfl, rfl, rfl, hd, hE, fun t H2 s2 ht h2 => qq t H2 (s.trans s2) (s.free ht) h2⟩
def sp_lcC (K : PySem.W.Frag) : Sp := fun vs H Q _ => ∃ (g a b : Addr) (n : Nat) (q r : Int) (f : List Int) (xs es : List V) (nm : Str) (fs : List (Str × V)), vs = [.ref g, .ref a, .ref b] ∧ RingAt K H g n q r ∧ SqL K H a (IL f) ∧ Poly n q f ∧ n ≤ 1000 ∧ SqL K H b xs ∧ Kds H xs ∧ FltOf q n xs nm fs ∧ ExpOf nm fs es ∧
  ∀ t H', Same H H' → H t = none → H' t = some (.tup es) → Q (.ref t) H'
theorem bad2__law_call (T : TX K mg) : FnOk P w K mg base CX0 6 (A K "_law_call") (fdA K (A K "_law_call")) ["_law_ring", "_law_one", "_law_other_here"] (sp_lcC K) := by
  refine T.F__law_call.ok sc__law_call (fun vs H Q E h => ?_) (fun cdv A0 outer s0 H vs Q E hr h => ?_)
  · obtain ⟨g, a, b, n, q, r, f, xs, es, nm, fs, rfl, _⟩ := h
    rfl
  · obtain ⟨g, a, b, n, q, r, f, xs, es, nm, fs, rfl, hg, ha, hf, hn, hb, hk, hF, hE, qq⟩ := h
    obtain ⟨k, two⟩ := two_of hE
    refine ⟨_, pss_one (L2N.ps_try_as (n := "e") (i := 3) (c := .ref (He.ga K "NoiseboundError")) rfl rfl sc__law_call.nd rfl rfl ⟨by rfl, by decide, .inl T.g_NoiseboundError⟩ takesN0
      (fun W pn xe tk _ => pss_one (ps_ret (pe_tup (pa_cons pe_str (pa_cons (pe_callSD (bad2_multiply_fast T) (hr.mono (by decide)) (by rfl) T.g_multiply_fast T.F_multiply_fast.kp T.b_multiply_fast .nil (fun σ => L2N.passAt tk σ) (pa_cons (pv 0) (pa_cons (pv 1) (pa_cons (pv 2) pa_nil)))) pa_nil)))))
      (fun a oe cls d pn hz hf => pss_one (ps_ret (PE.imp (KxE.pe_callE (ok__law_refused T) (L2H.roomH_mark (hr.mono (by decide)) _) (hot_of rfl hz hf) List.mem_cons_self (by rfl) T.g__law_refused T.F__law_refused.kp T.b__law_refused (pa_cons (pv 3) pa_nil)) (var_imp fun vs H Q => ref2_of hz hf))))), ?_⟩
    refine ⟨_, rfl, _, rfl, _, rfl, g, a, b, n, q, r, f, xs, nm, fs, rfl, hg, ha, hf, hn, hb, hk, hF, fun dx H' s hn hd => ⟨true, exm_two T two, fun _ a' ha' => ?_, fun z => nomatch z⟩⟩
    exact ⟨_, rfl, nm, fs, es, dx, rfl, rfl, rfl, hd, hE, fun t H2 s2 ht h2 => qq t H2 (s.trans s2) (s.free ht) h2⟩
end
end Kx
set_option Elab.async false
set_option linter.all false
set_option maxRecDepth 100000
set_option maxHeartbeats 4000000
/-! The product is the same from both sides. Plain Lean. -/
namespace Kx
theorem sm_split (F : Nat → Int) (a : Nat) : ∀ b, sm F (a + b) = sm F a + sm (fun i => F (a + i)) b
  | 0 => (Int.add_zero _).symm
  | b + 1 => by
    show sm F (a + b) + F (a + b) = sm F a + (sm (fun i => F (a + i)) b + F (a + b))
    rw [sm_split F a b, Int.add_assoc]
theorem sm_head (F : Nat → Int) : ∀ k, sm F (k + 1) = F 0 + sm (fun i => F (i + 1)) k
  | 0 => by
    show 0 + F 0 = F 0 + 0
    omega
  | k + 1 => by
    show sm F (k + 1) + F (k + 1) = F 0 + (sm (fun i => F (i + 1)) k + F (k + 1))
    rw [sm_head F k, Int.add_assoc]
theorem sm_rev : ∀ (k : Nat) (F : Nat → Int), sm F k = sm (fun i => F (k - 1 - i)) k
  | 0, _ => rfl
  | k + 1, F => by
    rw [sm_head (fun i => F (k + 1 - 1 - i)) k]
    show sm F k + F k = F (k + 1 - 1 - 0) + sm (fun i => F (k + 1 - 1 - (i + 1))) k
    rw [sm_rev k F, Int.add_comm]
    refine congr (congrArg (fun x y => x + y) (congrArg F (by omega))) (sm_congr fun i _ => congrArg F (by omega))
theorem conv_parts {f h : Nat → Int} {n t : Nat} (ht : t < n) : conv f h n t = sm (fun i => f i * h (t - i)) (t + 1) + sm (fun i => -(f (t + 1 + i) * h (n - 1 - i))) (n - 1 - t) := by
  unfold conv
  have e : n = (t + 1) + (n - 1 - t) := by omega
  conv => lhs; rw [e]
  rw [sm_split]
  refine congr (congrArg (fun x y => x + y) (sm_congr fun i hi => ?_)) (sm_congr fun i hi => ?_)
  · show f i * sg h (t + 1 + (n - 1 - t)) t i = _
    unfold sg
    rw [if_pos (by omega)]
  · show f (t + 1 + i) * sg h (t + 1 + (n - 1 - t)) t (t + 1 + i) = _
    unfold sg
    rw [if_neg (by omega), Int.mul_neg, show t + 1 + (n - 1 - t) + t - (t + 1 + i) = n - 1 - i by omega]
theorem conv_comm {f h : Nat → Int} {n t : Nat} (ht : t < n) : conv f h n t = conv h f n t := by
  rw [conv_parts ht, conv_parts ht, sm_rev (t + 1) (fun i => f i * h (t - i)), sm_rev (n - 1 - t) (fun i => -(f (t + 1 + i) * h (n - 1 - i)))]
  refine congr (congrArg (fun x y => x + y) (sm_congr fun i hi => ?_)) (sm_congr fun i hi => ?_)
  · show f (t + 1 - 1 - i) * h (t - (t + 1 - 1 - i)) = h i * f (t - i)
    rw [Int.mul_comm, show t - (t + 1 - 1 - i) = i by omega, show t + 1 - 1 - i = t - i by omega]
  · show -(f (t + 1 + (n - 1 - t - 1 - i)) * h (n - 1 - (n - 1 - t - 1 - i))) = -(h (t + 1 + i) * f (n - 1 - i))
    rw [Int.mul_comm, show n - 1 - (n - 1 - t - 1 - i) = t + 1 + i by omega, show t + 1 + (n - 1 - t - 1 - i) = n - 1 - i by omega]
theorem convL_comm {q : Int} {n : Nat} {f h : List Int} : convL q n f h = convL q n h f := by
  unfold convL
  refine List.map_congr_left fun t ht => ?_
  rw [conv_comm (List.mem_range.mp ht)]
end Kx
set_option Elab.async false
set_option linter.all false
set_option maxRecDepth 100000
set_option maxHeartbeats 4000000
/-! The law's three parts. -/
namespace Kx
open PySem PySem.Spec PyProof.Rows L2
theorem SD.le {H : Hp} {n : Nat} {x y : V} (h : SD H n x y) : ∀ k, SD H (n + k) x y
  | 0 => h
  | k + 1 => (SD.le h k).up
/-- a pair: a word and a row of ints -/
theorem SD.told {H : Hp} {n : Nat} {s t p r : Addr} {z : Str} {f : List Int} (hs : H s = some (.tup [.str z, .ref p])) (ht : H t = some (.tup [.str z, .ref r])) (hp : H p = some (.lst (IL f))) (hr : H r = some (.lst (IL f))) (h1 : f.length ≤ 1000) : SD H (n + 3) (.ref s) (.ref t) :=
  .tup _ hs ht rfl (by show 2 ≤ 1000; decide) fun i x y hx hy => by
    have h2 : i < 2 := (List.getElem?_eq_some_iff.mp hx).1
    have : i = 0 ∨ i = 1 := by omega
    rcases this with rfl | rfl <;> cases hx <;> cases hy
    · exact .str _ _
    · exact .ints hp hr h1
/-- two rows, and copies of them -/
theorem SD.rows {H : Hp} {n : Nat} {s t a b c d : Addr} {f h : List V} (hs : H s = some (.lst [.ref a, .ref b])) (ht : H t = some (.lst [.ref c, .ref d])) (ha : H a = some (.lst f)) (hb : H b = some (.lst h)) (hc : H c = some (.lst f)) (hd : H d = some (.lst h))
    (hf : f.length ≤ 1000) (hh : h.length ≤ 1000) (f1 : ∀ x ∈ f, SD H (n + 2) x x) (h1 : ∀ x ∈ h, SD H (n + 2) x x) : SD H (n + 4) (.ref s) (.ref t) :=
  .lst _ hs ht rfl (by show 2 ≤ 1000; decide) fun i x y hx hy => by
    have h2 : i < 2 := (List.getElem?_eq_some_iff.mp hx).1
    have : i = 0 ∨ i = 1 := by omega
    rcases this with rfl | rfl <;> cases hx <;> cases hy
    · exact .same_lst ha hc hf f1
    · exact .same_lst hb hd hh h1
theorem sd_ints {H : Hp} {n : Nat} {f : List Int} : ∀ x ∈ IL f, SD H (n + 1) x x := fun x hx => by
  obtain ⟨i, _, rfl⟩ := List.mem_map.mp hx
  exact .int _ i
section
variable {P : Program} {w : World} {K : PySem.W.Frag} {mg : Str → Option Value} {base : Heap}
/-- two rows of a ring -/
structure Two2 (K : PySem.W.Frag) (H : Hp) (g t a b : Addr) (c n : Nat) (q r : Int) (f h : List Int) : Prop where
  ring : RingAt K H g n q r
  rg : Rg c n q r
  nums : TupAt H t n q r
  one : H a = some (.lst (IL f))
  other : H b = some (.lst (IL h))
  p1 : Poly n q f
  p2 : Poly n q h
theorem Two2.same {H H' : Hp} {g t a b : Addr} {c n : Nat} {q r : Int} {f h : List Int} (x : Two2 K H g t a b c n q r f h) (s : Same H H') : Two2 K H' g t a b c n q r f h := ⟨x.ring.same s, x.rg, s _ _ x.nums, s _ _ x.one, s _ _ x.other, x.p1, x.p2⟩
def sp_ph (K : PySem.W.Frag) : Sp := fun vs H Q _ => ∃ (g t a b : Addr) (c n : Nat) (q r : Int) (f h : List Int), vs = [.ref g, .ref t, .ref a, .ref b] ∧ Two2 K H g t a b c n q r f h ∧ ∀ H', Same H H' → Q (.bl true) H'
theorem ok__law_product_holds (T : TX K mg) : FnOk P w K mg base CX0 7 (A K "_law_product_holds") (fdA K (A K "_law_product_holds")) ["_law_ring", "_law_numbers", "_law_one", "_law_other_here"] (sp_ph K) := by
  refine T.F__law_product_holds.ok sc__law_product_holds (fun vs H Q E h => ?_) (fun cdv A0 outer s0 H vs Q E hr h => ?_)
  · obtain ⟨g, t, a, b, c, n, q, r, f, h, rfl, _⟩ := h
    rfl
  · obtain ⟨g, t, a, b, c, n, q, r, f, h, rfl, D, qq⟩ := h
    have hR := D.rg
    have hf := D.p1
    have hh := D.p2
    have n1 := hR.n_hi
    have q0 := hR.q0
    have q1 := hR.q1
    refine ⟨_, (pss_cons (ps_set (i := 4) sc__law_product_holds.nd rfl (Or.inl rfl) (pe_lst (pa_cons (pe_callTy call_list_of (by rfl) T.n_list (by decide +kernel) (pa_cons (pv 2) pa_nil)) (pa_cons (pe_callTy call_list_of (by rfl) T.n_list (by decide +kernel) (pa_cons (pv 3) pa_nil)) pa_nil))))
      (pss_cons (ps_set (i := 5) sc__law_product_holds.nd rfl (Or.inl rfl) (pe_call (ok__law_times T) (hr.mono (by decide)) (by rfl) T.g__law_times T.F__law_times.kp T.b__law_times .nil pass0 (pa_cons (pv 2) (pa_cons (pv 3) (pa_cons (pe_ix ix_tup (pv 1) pe_int (fun _ _ => rfl)) pa_nil)))))
      (pss_cons (ps_set (i := 6) sc__law_product_holds.nd rfl (Or.inl rfl) (pe_call (ok__law_call T) (hr.mono (by decide)) (by rfl) T.g__law_call T.F__law_call.kp T.b__law_call .nil pass0 (pa_cons (pv 0) (pa_cons (pv 2) (pa_cons (pv 3) pa_nil)))))
      (pss_cons (ps_if (PW.pt (pw_or (pt_not (pt_val (pe_call (ok_same T 6) (hr.mono (by decide)) (by rfl) T.g__law_same T.F__law_same.kp T.b__law_same .nil pass0 (pa_cons (pv 6) (pa_cons (pe_tup (pa_cons pe_str (pa_cons (pv 5) pa_nil))) pa_nil))))) (pw_or1 (pt_not (pt_val (pe_call (ok_same T 6) (hr.mono (by decide)) (by rfl) T.g__law_same T.F__law_same.kp T.b__law_same .nil pass0 (pa_cons (pe_call (ok_multiply_plain T) (hr.mono (by decide)) (by rfl) T.g_multiply_plain T.F_multiply_plain.kp T.b_multiply_plain .nil pass0 (pa_cons (pv 0) (pa_cons (pv 2) (pa_cons (pv 3) pa_nil)))) (pa_cons (pv 5) pa_nil)))))))) (pss_one (ps_ret pe_bl)) pss_nil)
      (pss_cons (ps_if (pt_not (pt_val (pe_call (ok_same T 6) (hr.mono (by decide)) (by rfl) T.g__law_same T.F__law_same.kp T.b__law_same .nil pass0 (pa_cons (pe_lst (pa_cons (pv 2) (pa_cons (pv 3) pa_nil))) (pa_cons (pv 4) pa_nil))))) (pss_one (ps_ret pe_bl)) pss_nil)
      (pss_cons (ps_expr (pe_call (ok_spoil T) (hr.mono (by decide)) (by rfl) T.g__law_spoil T.F__law_spoil.kp T.b__law_spoil .nil pass0 (pa_cons (pe_ix ix_tup (pv 6) pe_int (fun _ _ => rfl)) pa_nil)))
      (pss_one (ps_ret (pe_and (pe_call (ok_same T 6) (hr.mono (by decide)) (by rfl) T.g__law_same T.F__law_same.kp T.b__law_same .nil pass0 (pa_cons (pe_lst (pa_cons (pv 2) (pa_cons (pv 3) pa_nil))) (pa_cons (pv 4) pa_nil))) (pe_one (pe_call (ok_same T 6) (hr.mono (by decide)) (by rfl) T.g__law_same T.F__law_same.kp T.b__law_same .nil pass0 (pa_cons (pe_call (ok__law_call T) (hr.mono (by decide)) (by rfl) T.g__law_call T.F__law_call.kp T.b__law_call .nil pass0 (pa_cons (pv 0) (pa_cons (pv 3) (pa_cons (pv 2) pa_nil)))) (pa_cons (pe_tup (pa_cons pe_str (pa_cons (pv 5) pa_nil))) pa_nil))))))))))))), ?_⟩
    refine ⟨_, rfl, a, _, rfl, .inl (lq D.one), fun p1 hp1 => ?_⟩
    obtain ⟨H1, e1, s1, g1⟩ := alloc hp1 (.lst (IL f))
    rw [e1]
    refine ⟨_, rfl, b, _, rfl, .inl (lq (s1 _ _ D.other)), fun p2 hp2 => ?_⟩
    obtain ⟨H2, e2, s2, g2⟩ := alloc hp2 (.lst (IL h))
    rw [e2]
    refine ⟨(by show 2 ≤ sizeLine; decide), fun p3 hp3 => ?_⟩
    obtain ⟨H3, e3, s3, g3⟩ := alloc hp3 (.lst [.ref p1, .ref p2])
    rw [e3]
    have z3 := (s1.trans s2).trans s3
    have D3 := D.same z3
    refine ⟨_, rfl, _, rfl, _, rfl, _, _, _, _, rfl, rfl, tq D3.nums, rfl, a, b, n, q, f, h, rfl, lq D3.one, lq D3.other, hf, hh.1, by omega, by omega, by omega, fun pd H4 s4 hpd h4 => ?_⟩
    have D4 := D3.same s4
    have c1 := s4 _ _ (s3 _ _ (s2 _ _ g1))
    have c2 := s4 _ _ (s3 _ _ g2)
    have c3 := s4 _ _ g3
    have z4 := z3.trans s4
    clear s1 s2 s3 g1 g2 g3 e1 e2 e3 z3 D3
    have clen : (convL q n f h).length ≤ 1000 := by rw [convL_len]; omega
    refine ⟨_, rfl, _, rfl, _, rfl, g, a, b, c, n, q, r, f, h, rfl, D4.ring, hR, lq D4.one, lq D4.other, hf, hh, fun pt pp H5 s5 hpt hpp h5 h5' => ?_⟩
    refine ⟨_, rfl, _, rfl, (by show 2 ≤ sizeLine; decide), fun tt htt => ?_⟩
    obtain ⟨H6, e6, s6, g6⟩ := alloc htt (.tup [.str "told", .ref pd])
    rw [e6]
    have z6 := s5.trans s6
    refine ⟨_, _, rfl, .told (s6 _ _ h5) g6 (s6 _ _ h5') (z6 _ _ h4) clen, fun H7 s7 => ⟨_, rfl, iteF ?_⟩⟩
    have z7 := z6.trans s7
    have D7 := D4.same z7
    refine ⟨_, rfl, _, rfl, _, rfl, g, a, b, c, n, q, r, f, h, rfl, D7.ring, hR, lq D7.one, lq D7.other, hf, hh, fun pm H8 s8 hpm h8 => ?_⟩
    have z8 := z7.trans s8
    refine ⟨_, rfl, _, _, rfl, .ints h8 (z8 _ _ h4) clen, fun H9 s9 => ⟨_, rfl, iteF ?_⟩⟩
    have z9 := z8.trans s9
    have D9 := D4.same z9
    refine ⟨_, rfl, _, rfl, (by show 2 ≤ sizeLine; decide), fun pl hpl => ?_⟩
    obtain ⟨H10, e10, s10, g10⟩ := alloc hpl (.lst [.ref a, .ref b])
    rw [e10]
    have z10 := z9.trans s10
    have D10 := D4.same z10
    refine ⟨_, rfl, _, _, rfl, .rows g10 (z10 _ _ c3) D10.one D10.other (z10 _ _ c1) (z10 _ _ c2) (by rw [il_len, hf.1]; omega) (by rw [il_len, hh.1]; omega) sd_ints sd_ints, fun H11 s11 => ⟨_, rfl, iteF ?_⟩⟩
    have z11 := z10.trans s11
    have y11 := (s6.trans s7).trans ((s8.trans s9).trans (s10.trans s11))
    refine ⟨_, rfl, _, _, _, _, rfl, rfl, tq (y11 _ _ h5), rfl, pp, _, rfl, y11 _ _ h5', clen, fun H12 k12 => ?_⟩
    have z12 : Same H4 H12 := fun b o e => k12 b o (ne_of_none e hpp) (z11 b o e)
    have D12 := D4.same z12
    refine ⟨_, rfl, _, rfl, (by show 2 ≤ sizeLine; decide), fun pl2 hpl2 => ?_⟩
    obtain ⟨H13, e13, s13, g13⟩ := alloc hpl2 (.lst [.ref a, .ref b])
    rw [e13]
    have z13 := z12.trans s13
    have D13 := D4.same z13
    refine ⟨_, rfl, _, _, rfl, .rows g13 (z13 _ _ c3) D13.one D13.other (z13 _ _ c1) (z13 _ _ c2) (by rw [il_len, hf.1]; omega) (by rw [il_len, hh.1]; omega) sd_ints sd_ints, fun H14 s14 => ⟨_, rfl, iteT ?_⟩⟩
    have z14 := z13.trans s14
    have D14 := D4.same z14
    refine ⟨_, rfl, _, rfl, _, rfl, g, b, a, c, n, q, r, h, f, rfl, D14.ring, hR, lq D14.other, lq D14.one, hh, hf, fun pt2 pp2 H15 s15 hpt2 hpp2 h15 h15' => ?_⟩
    refine ⟨_, rfl, (by show 2 ≤ sizeLine; decide), fun tt2 htt2 => ?_⟩
    obtain ⟨H16, e16, s16, g16⟩ := alloc htt2 (.tup [.str "told", .ref pd])
    rw [e16]
    have z16 := z14.trans (s15.trans s16)
    rw [convL_comm] at h15'
    exact ⟨_, _, rfl, .told (s16 _ _ h15) g16 (s16 _ _ h15') (z16 _ _ h4) clen, fun H17 s17 => qq _ (z4.trans (z16.trans s17))⟩
theorem ok__law_spectra_hold (T : TX K mg) : FnOk P w K mg base CX0 7 (A K "_law_spectra_hold") (fdA K (A K "_law_spectra_hold")) ["_law_ring", "_law_numbers", "_law_one", "_law_other_here"] (sp_ph K) := by
  refine T.F__law_spectra_hold.ok sc__law_spectra_hold (fun vs H Q E h => ?_) (fun cdv A0 outer s0 H vs Q E hr h => ?_)
  · obtain ⟨g, t, a, b, c, n, q, r, f, h, rfl, _⟩ := h
    rfl
  · obtain ⟨g, t, a, b, c, n, q, r, f, h, rfl, D, qq⟩ := h
    have hR := D.rg
    have hf := D.p1
    have hh := D.p2
    have n1 := hR.n_hi
    have q0 := hR.q0
    have q1 := hR.q1
    have c1 := hR.c1
    have c128 : 2 ^ c ≤ 128 := Nat.le_trans (Nat.pow_le_pow_right (by decide) c1) (by decide)
    have sf := spec_poly hR hf
    have sh := spec_poly hR hh
    have slen : ∀ {u : List Int}, Poly n q u → u.length ≤ 1000 := fun z => by rw [z.1]; omega
    refine ⟨_, (pss_cons (ps_set (i := 4) sc__law_spectra_hold.nd rfl (Or.inl rfl) (pe_call (ok__law_joined T) (hr.mono (by decide)) (by rfl) T.g__law_joined T.F__law_joined.kp T.b__law_joined .nil pass0 (pa_cons (pe_call (ok__law_rests T) (hr.mono (by decide)) (by rfl) T.g__law_rests T.F__law_rests.kp T.b__law_rests .nil pass0 (pa_cons (pv 2) (pa_cons (pv 1) pa_nil))) pa_nil)))
      (pss_cons (ps_set (i := 5) sc__law_spectra_hold.nd rfl (Or.inl rfl) (pe_call (ok__law_joined T) (hr.mono (by decide)) (by rfl) T.g__law_joined T.F__law_joined.kp T.b__law_joined .nil pass0 (pa_cons (pe_call (ok__law_rests T) (hr.mono (by decide)) (by rfl) T.g__law_rests T.F__law_rests.kp T.b__law_rests .nil pass0 (pa_cons (pv 3) (pa_cons (pv 1) pa_nil))) pa_nil)))
      (pss_cons (ps_if (PW.pt (pw_or (pt_not (pt_val (pe_call (ok_same T 6) (hr.mono (by decide)) (by rfl) T.g__law_same T.F__law_same.kp T.b__law_same .nil pass0 (pa_cons (pe_call (ok_to_spectrum T) (hr.mono (by decide)) (by rfl) T.g_to_spectrum T.F_to_spectrum.kp T.b_to_spectrum .nil pass0 (pa_cons (pv 0) (pa_cons (pv 2) pa_nil))) (pa_cons (pv 4) pa_nil))))) (pw_or1 (pt_not (pt_val (pe_call (ok_same T 6) (hr.mono (by decide)) (by rfl) T.g__law_same T.F__law_same.kp T.b__law_same .nil pass0 (pa_cons (pe_call (ok_to_spectrum T) (hr.mono (by decide)) (by rfl) T.g_to_spectrum T.F_to_spectrum.kp T.b_to_spectrum .nil pass0 (pa_cons (pv 0) (pa_cons (pv 3) pa_nil))) (pa_cons (pv 5) pa_nil)))))))) (pss_one (ps_ret pe_bl)) pss_nil)
      (pss_cons (ps_set (i := 6) sc__law_spectra_hold.nd rfl (Or.inl rfl) (pe_call (ok_add T) (hr.mono (by decide)) (by rfl) T.g_add T.F_add.kp T.b_add .nil pass0 (pa_cons (pv 0) (pa_cons (pv 2) (pa_cons (pv 3) pa_nil)))))
      (pss_cons (ps_if (pt_not (pt_val (pe_call (ok_same T 6) (hr.mono (by decide)) (by rfl) T.g__law_same T.F__law_same.kp T.b__law_same .nil pass0 (pa_cons (pv 6) (pa_cons (pe_call (ok__law_sum T) (hr.mono (by decide)) (by rfl) T.g__law_sum T.F__law_sum.kp T.b__law_sum .nil pass0 (pa_cons (pv 2) (pa_cons (pv 3) (pa_cons (pe_ix ix_tup (pv 1) pe_int (fun _ _ => rfl)) pa_nil)))) pa_nil))))) (pss_one (ps_ret pe_bl)) pss_nil)
      (pss_cons (ps_if (pt_not (pt_val (pe_call (ok_same T 6) (hr.mono (by decide)) (by rfl) T.g__law_same T.F__law_same.kp T.b__law_same .nil pass0 (pa_cons (pe_call (ok_to_spectrum T) (hr.mono (by decide)) (by rfl) T.g_to_spectrum T.F_to_spectrum.kp T.b_to_spectrum .nil pass0 (pa_cons (pv 0) (pa_cons (pv 6) pa_nil))) (pa_cons (pe_call (ok__law_sum T) (hr.mono (by decide)) (by rfl) T.g__law_sum T.F__law_sum.kp T.b__law_sum .nil pass0 (pa_cons (pv 4) (pa_cons (pv 5) (pa_cons (pe_ix ix_tup (pv 1) pe_int (fun _ _ => rfl)) pa_nil)))) pa_nil))))) (pss_one (ps_ret pe_bl)) pss_nil)
      (pss_cons (ps_set (i := 7) sc__law_spectra_hold.nd rfl (Or.inl rfl) (pe_call (ok_multiply_fast T) (hr.mono (by decide)) (by rfl) T.g_multiply_fast T.F_multiply_fast.kp T.b_multiply_fast .nil pass0 (pa_cons (pv 0) (pa_cons (pv 2) (pa_cons (pv 3) pa_nil)))))
      (pss_one (ps_ret (pe_call (ok_same T 6) (hr.mono (by decide)) (by rfl) T.g__law_same T.F__law_same.kp T.b__law_same .nil pass0 (pa_cons (pe_call (ok_to_spectrum T) (hr.mono (by decide)) (by rfl) T.g_to_spectrum T.F_to_spectrum.kp T.b_to_spectrum .nil pass0 (pa_cons (pv 0) (pa_cons (pv 7) pa_nil))) (pa_cons (pe_call (ok__law_pairs_times T) (hr.mono (by decide)) (by rfl) T.g__law_pairs_times T.F__law_pairs_times.kp T.b__law_pairs_times .nil pass0 (pa_cons (pv 1) (pa_cons (pv 4) (pa_cons (pv 5) pa_nil)))) pa_nil)))))))))))), ?_⟩
    refine ⟨_, rfl, _, rfl, a, t, c, n, q, r, f, rfl, lq D.one, D.nums, hR, hf, fun p1 H1 rs1 s1 hp1 h1 hr1 => ?_⟩
    refine ⟨p1, rs1, rem c q r f, 2 ^ c, rfl, lq h1, hr1, by omega, fun p2 H2 s2 hp2 h2 => ?_⟩
    have z2 := s1.trans s2
    have D2 := D.same z2
    refine ⟨_, rfl, _, rfl, b, t, c, n, q, r, h, rfl, lq D2.other, D2.nums, hR, hh, fun p3 H3 rs3 s3 hp3 h3 hr3 => ?_⟩
    refine ⟨p3, rs3, rem c q r h, 2 ^ c, rfl, lq h3, hr3, by omega, fun p4 H4 s4 hp4 h4 => ?_⟩
    have z4 := z2.trans (s3.trans s4)
    have D4 := D.same z4
    have h2 : H4 p2 = some (.lst (IL (spec c q r f))) := s4 _ _ (s3 _ _ h2)
    have h4 : H4 p4 = some (.lst (IL (spec c q r h))) := h4
    refine ⟨_, rfl, _, rfl, g, a, c, n, q, r, f, rfl, D4.ring, hR, lq D4.one, hf, fun p5 H5 s5 hp5 h5 => ?_⟩
    refine ⟨_, rfl, _, _, rfl, .ints h5 (s5 _ _ h2) (slen sf), fun H6 s6 => ⟨_, rfl, iteF ?_⟩⟩
    have z6 := s5.trans s6
    have D6 := D4.same z6
    refine ⟨_, rfl, _, rfl, g, b, c, n, q, r, h, rfl, D6.ring, hR, lq D6.other, hh, fun p7 H7 s7 hp7 h7 => ?_⟩
    refine ⟨_, rfl, _, _, rfl, .ints h7 (s7 _ _ (z6 _ _ h4)) (slen sh), fun H8 s8 => ⟨_, rfl, iteF ?_⟩⟩
    have z8 := z6.trans (s7.trans s8)
    have D8 := D4.same z8
    refine ⟨_, rfl, _, rfl, _, rfl, g, a, b, c, n, q, r, f, h, rfl, D8.ring, hR, lq D8.one, lq D8.other, hf, hh, fun p9 H9 s9 hp9 h9 => ?_⟩
    have z9 := z8.trans s9
    have D9 := D4.same z9
    have ap : Poly n q (addL q n f h) := ⟨addL_len, addL_res (by omega)⟩
    refine ⟨_, rfl, _, rfl, _, rfl, _, rfl, _, _, _, _, rfl, rfl, tq D9.nums, rfl, a, b, n, q, f, h, rfl, lq D9.one, lq D9.other, hf.1, hh.1, by omega, by omega, fun p10 H10 s10 hp10 h10 => ?_⟩
    refine ⟨_, _, rfl, .ints (s10 _ _ h9) h10 (slen ap), fun H11 s11 => ⟨_, rfl, iteF ?_⟩⟩
    have y11 := s10.trans s11
    have z11 := z9.trans y11
    have D11 := D4.same z11
    refine ⟨_, rfl, _, rfl, g, p9, c, n, q, r, addL q n f h, rfl, D11.ring, hR, lq (y11 _ _ h9), ap, fun p12 H12 s12 hp12 h12 => ?_⟩
    have z12 := z11.trans s12
    have D12 := D4.same z12
    refine ⟨_, rfl, _, rfl, _, rfl, _, _, _, _, rfl, rfl, tq D12.nums, rfl, p2, p4, n, q, spec c q r f, spec c q r h, rfl, lq (z12 _ _ h2), lq (z12 _ _ h4), sf.1, sh.1, by omega, by omega, fun p13 H13 s13 hp13 h13 => ?_⟩
    have eadd : spec c q r (addL q n f h) = addL q n (spec c q r f) (spec c q r h) := by
      rw [hR.n_eq]
      exact spec_add
    rw [eadd] at h12
    have sap : (addL q n (spec c q r f) (spec c q r h)).length ≤ 1000 := by rw [addL_len]; omega
    refine ⟨_, _, rfl, .ints (s13 _ _ h12) h13 sap, fun H14 s14 => ⟨_, rfl, iteF ?_⟩⟩
    have z14 := z12.trans (s13.trans s14)
    have D14 := D4.same z14
    refine ⟨_, rfl, _, rfl, _, rfl, g, a, b, c, n, q, r, f, h, rfl, D14.ring, hR, lq D14.one, lq D14.other, hf, hh, fun p15 H15 s15 hp15 h15 => ?_⟩
    have z15 := z14.trans s15
    have D15 := D4.same z15
    have cp : Poly n q (convL q n f h) := convL_poly (by omega)
    refine ⟨_, rfl, _, rfl, g, p15, c, n, q, r, convL q n f h, rfl, D15.ring, hR, lq h15, cp, fun p16 H16 s16 hp16 h16 => ?_⟩
    have z16 := z15.trans s16
    have D16 := D4.same z16
    refine ⟨_, rfl, _, rfl, _, rfl, t, p2, p4, c, n, q, r, spec c q r f, spec c q r h, rfl, D16.nums, hR, lq (z16 _ _ h2), lq (z16 _ _ h4), sf, sh, fun p17 H17 s17 hp17 h17 => ?_⟩
    rw [tms_conv hR] at h17
    exact ⟨_, _, rfl, .ints (s17 _ _ h16) h17 (slen (spec_poly hR cp)), fun H18 s18 => qq _ (z4.trans (z16.trans (s17.trans s18)))⟩
/-! ### _law_refusals_hold -/
theorem ExpOf.all {nm : Str} {fs : List (Str × V)} {es : List V} (h : ExpOf nm fs es) {H : Hp} {n : Nat} : es.length ≤ 1000 ∧ ∀ x ∈ es, SD H (n + 1) x x := by
  rcases h with ⟨_, x, y, _, rfl⟩ | ⟨_, i, _, rfl⟩
  · refine ⟨(by show 4 ≤ 1000; decide), fun x hx => ?_⟩
    simp only [List.mem_cons, List.not_mem_nil, or_false] at hx
    rcases hx with rfl | rfl | rfl | rfl
    · exact .str _ _
    · exact .str _ _
    · exact .int _ _
    · exact .int _ _
  · refine ⟨(by show 3 ≤ 1000; decide), fun x hx => ?_⟩
    simp only [List.mem_cons, List.not_mem_nil, or_false] at hx
    rcases hx with rfl | rfl | rfl
    · exact .str _ _
    · exact .str _ _
    · exact .int _ _
def sp_rh (K : PySem.W.Frag) : Sp := fun vs H Q _ => ∃ (l s g t a b : Addr) (c n : Nat) (q r : Int) (f h : List Int), vs = [.ref l, .ref g, .ref t, .ref a, .ref b] ∧ Two2 K (off l H) g t a b c n q r f h ∧ Sto H l s ∧ Dr l s H (fun v _ => v = .bl true) Q
theorem off_some {l b : Addr} {H : Hp} {o : HO} (h : off l H b = some o) : b ≠ l := fun z => by
  unfold off at h
  rw [if_pos z] at h
  cases h
theorem ok__law_refusals_hold (T : TX K mg) : FnOk P w K mg base CX0 7 (A K "_law_refusals_hold") (fdA K (A K "_law_refusals_hold")) ["_law_store", "_law_ring", "_law_numbers", "_law_one", "_law_other_here"] (sp_rh K) := by
  refine T.F__law_refusals_hold.ok sc__law_refusals_hold (fun vs H Q E h => ?_) (fun cdv A0 outer s0 H vs Q E hr h => ?_)
  · obtain ⟨l, s, g, t, a, b, c, n, q, r, f, h, rfl, _⟩ := h
    rfl
  · obtain ⟨l, s, g, t, a, b, c, n, q, r, f, h, rfl, D0, S, qq⟩ := h
    have D := D0.same (off_same l H)
    have hR := D.rg
    have hf := D.p1
    have hh := D.p2
    have n0 := hR.n_lo
    have n1 := hR.n_hi
    have q0 := hR.q0
    have q1 := hR.q1
    refine ⟨_, (pss_cons (ps_set (i := 5) sc__law_refusals_hold.nd rfl (Or.inl rfl) (pe_call (ok__law_spoilt T) (hr.mono (by decide)) (by rfl) T.g__law_spoilt T.F__law_spoilt.kp T.b__law_spoilt .nil pass0 (pa_cons (pv 0) (pa_cons (pv 3) (pa_cons (pe_ix ix_tup (pv 2) pe_int (fun _ _ => rfl)) pa_nil)))))
      (pss_cons (ps_set (i := 6) sc__law_refusals_hold.nd rfl (Or.inl rfl) (pe_call (ok__law_spoilt T) (hr.mono (by decide)) (by rfl) T.g__law_spoilt T.F__law_spoilt.kp T.b__law_spoilt .nil pass0 (pa_cons (pv 0) (pa_cons (pv 4) (pa_cons (pe_ix ix_tup (pv 2) pe_int (fun _ _ => rfl)) pa_nil)))))
      (pss_cons (ps_set (i := 7) sc__law_refusals_hold.nd rfl (Or.inl rfl) (pe_lst (pa_cons (pe_callTy call_list_of (by rfl) T.n_list (by decide +kernel) (pa_cons (pe_ix ix_tup (pv 5) pe_int (fun _ _ => rfl)) pa_nil)) (pa_cons (pe_callTy call_list_of (by rfl) T.n_list (by decide +kernel) (pa_cons (pe_ix ix_tup (pv 6) pe_int (fun _ _ => rfl)) pa_nil)) pa_nil))))
      (pss_cons (ps_for PassesOwn.never rfl (pi_list (pe_lst (pa_cons (pv 4) (pa_cons (pe_ix ix_tup (pv 6) pe_int (fun _ _ => rfl)) pa_nil)))) (pg_name (i := 8) sc__law_refusals_hold.nd rfl (Or.inl rfl)) (pss_one (ps_if (pt_not (pt_val (pe_call (ok_same T 6) (hr.mono (by decide)) (by rfl) T.g__law_same T.F__law_same.kp T.b__law_same .nil pass0 (pa_cons (pe_call (bad1__law_call T) (hr.mono (by decide)) (by rfl) T.g__law_call T.F__law_call.kp T.b__law_call .nil pass0 (pa_cons (pv 1) (pa_cons (pe_ix ix_tup (pv 5) pe_int (fun _ _ => rfl)) (pa_cons (pv 8) pa_nil)))) (pa_cons (pe_ix ix_tup (pv 5) pe_int (fun _ _ => rfl)) pa_nil))))) (pss_one (ps_ret pe_bl)) pss_nil)))
      (pss_one (ps_ret (pe_and (pe_call (ok_same T 6) (hr.mono (by decide)) (by rfl) T.g__law_same T.F__law_same.kp T.b__law_same .nil pass0 (pa_cons (pe_call (bad2__law_call T) (hr.mono (by decide)) (by rfl) T.g__law_call T.F__law_call.kp T.b__law_call .nil pass0 (pa_cons (pv 1) (pa_cons (pv 3) (pa_cons (pe_ix ix_tup (pv 6) pe_int (fun _ _ => rfl)) pa_nil)))) (pa_cons (pe_ix ix_tup (pv 6) pe_int (fun _ _ => rfl)) pa_nil))) (pe_one (pe_call (ok_same T 6) (hr.mono (by decide)) (by rfl) T.g__law_same T.F__law_same.kp T.b__law_same .nil pass0 (pa_cons (pe_lst (pa_cons (pe_ix ix_tup (pv 5) pe_int (fun _ _ => rfl)) (pa_cons (pe_ix ix_tup (pv 6) pe_int (fun _ _ => rfl)) pa_nil))) (pa_cons (pv 7) pa_nil))))))))))), ?_⟩
    refine ⟨_, rfl, _, rfl, _, rfl, _, _, _, _, rfl, rfl, tq D.nums, rfl, l, s, a, n, q, f, rfl, D.one, off_some D0.one, hf, n0, n1, by omega, by omega, S, fun v H1 k1 S1 gg => ?_⟩
    obtain ⟨t1, b1, e1, xs1, es1, nm1, fs1, rfl, nt1, nb1, ne1, ht1, hb1, he1, len1, its1, F1, E1⟩ := gg
    have D1 := D0.same k1.off
    have D1' := D1.same (off_same l H1)
    refine ⟨_, rfl, _, rfl, _, rfl, _, _, _, _, rfl, rfl, tq D1'.nums, rfl, l, s, b, n, q, h, rfl, D1'.other, off_some D1.other, hh, n0, n1, by omega, by omega, S1, fun v H2 k2 S2 gg => ?_⟩
    obtain ⟨t2, b2, e2, xs2, es2, nm2, fs2, rfl, nt2, nb2, ne2, ht2, hb2, he2, len2, its2, F2, E2⟩ := gg
    have D2 := (D1.same k2.off).same (off_same l H2)
    have ht1 := k2 _ _ (S.no nt1) ht1
    have hb1 := k2 _ _ (S.no nb1) hb1
    have he1 := k2 _ _ (S.no ne1) he1
    have its1 : Its H2 xs1 := (its1.same k2.off).same (off_same l H2)
    have its2 : Its H2 xs2 := its2.same (off_same l H2)
    have k02 := k1.trans k2
    have kd1 : Kds H2 xs1 := fun x hx => (its1 x hx).1
    have kd2 : Kds H2 xs2 := fun x hx => (its2 x hx).1
    have fin : ∀ H', Same H2 H' → Q (.bl true) H' := fun H' z => qq _ _ (k02.trans (.of_same z)) (S2.same z) rfl
    clear qq D0 D1 D1' k1 k2 S S1 S2 k02
    refine ⟨_, rfl, _, _, _, _, rfl, rfl, tq ht1, rfl, b1, _, rfl, .inl (lq hb1), fun p1 hp1 => ?_⟩
    obtain ⟨H3, e3, s3, g3⟩ := alloc hp1 (.lst xs1)
    rw [e3]
    refine ⟨_, rfl, _, _, _, _, rfl, rfl, tq (s3 _ _ ht2), rfl, b2, _, rfl, .inl (lq (s3 _ _ hb2)), fun p2 hp2 => ?_⟩
    obtain ⟨H4, e4, s4, g4⟩ := alloc hp2 (.lst xs2)
    rw [e4]
    refine ⟨(by show 2 ≤ sizeLine; decide), fun p3 hp3 => ?_⟩
    obtain ⟨H5, e5, s5, g5⟩ := alloc hp3 (.lst [.ref p1, .ref p2])
    rw [e5]
    have z5 := (s3.trans s4).trans s5
    have c1 := s5 _ _ (s4 _ _ g3)
    have c2 := s5 _ _ g4
    -- for row in [other, worse[0]]
    refine ⟨_, rfl, _, rfl, _, _, _, _, rfl, rfl, tq (z5 _ _ ht2), rfl, (by show 2 ≤ sizeLine; decide), fun p6 hp6 => ?_⟩
    obtain ⟨H6, e6, s6, g6⟩ := alloc hp6 (.lst [.ref b, .ref b2])
    rw [e6]
    have z6 := z5.trans s6
    refine ⟨p6, rfl, ⟨_, lq g6⟩, ?_⟩
    refine for_list (xs := [.ref b, .ref b2]) (fun i σ H' => ∃ u8, σ = [some (.ref l), some (.ref g), some (.ref t), some (.ref a), some (.ref b), some (.ref t1), some (.ref t2), some (.ref p3), u8] ∧ Same H6 H') ⟨none, rfl, .refl _⟩ (fun i σ H' _ ⟨_, _, z⟩ => lq (z _ _ g6)) ?_ ?_
    · rintro i x σ H' hx ⟨u8, rfl, sm⟩
      obtain ⟨rw_, rfl⟩ : ∃ rw_ : Addr, x = .ref rw_ := by
        have h2 : i < 2 := (List.getElem?_eq_some_iff.mp hx).1
        have : i = 0 ∨ i = 1 := by omega
        rcases this with rfl | rfl <;> cases hx <;> exact ⟨_, rfl⟩
      have z := z6.trans sm
      refine ⟨_, rfl, _, rfl, _, _, _, _, rfl, rfl, tq (z _ _ ht1), rfl, _, rfl, g, b1, rw_, n, q, r, xs1, es1, nm1, fs1, rfl, D2.ring.same z, lq (z _ _ hb1), kd1.same z, F1, E1, fun tr H7 s7 htr h7 => ?_⟩
      have z7 := z.trans s7
      refine ⟨_, rfl, _, _, _, _, rfl, rfl, tq (z7 _ _ ht1), rfl, _, _, rfl, .same_tup h7 (z7 _ _ he1) (E1.all (H := H7) (n := 4)).1 (E1.all (H := H7) (n := 4)).2, fun H8 s8 => ⟨_, rfl, iteF ⟨_, rfl, sm.trans (s7.trans s8)⟩⟩⟩
    · rintro σ H' ⟨u8, rfl, sm⟩
      have z := z6.trans sm
      have D' := D2.same z
      refine ⟨_, rfl, _, rfl, _, rfl, _, _, _, _, rfl, rfl, tq (z _ _ ht2), rfl, g, a, b2, n, q, r, f, xs2, es2, nm2, fs2, rfl, D'.ring, lq D'.one, hf, by omega, lq (z _ _ hb2), kd2.same z, F2, E2, fun tr H7 s7 htr h7 => ?_⟩
      have z7 := z.trans s7
      refine ⟨_, rfl, _, _, _, _, rfl, rfl, tq (z7 _ _ ht2), rfl, _, _, rfl, .same_tup h7 (z7 _ _ he2) (E2.all (H := H7) (n := 4)).1 (E2.all (H := H7) (n := 4)).2, fun H8 s8 => ⟨_, rfl, iteT ?_⟩⟩
      have z8 := z7.trans s8
      refine ⟨_, rfl, _, _, _, _, rfl, rfl, tq (z8 _ _ ht1), rfl, _, rfl, _, _, _, _, rfl, rfl, tq (z8 _ _ ht2), rfl, (by show 2 ≤ sizeLine; decide), fun p9 hp9 => ?_⟩
      obtain ⟨H9, e9, s9, g9⟩ := alloc hp9 (.lst [.ref b1, .ref b2])
      rw [e9]
      have z9 := z8.trans s9
      have y9 : Same H5 H9 := s6.trans (sm.trans (s7.trans (s8.trans s9)))
      exact ⟨_, rfl, _, _, rfl, .rows g9 (y9 _ _ g5) (z9 _ _ hb1) (z9 _ _ hb2) (y9 _ _ c1) (y9 _ _ c2) len1 len2 (fun x hx => ((its1 x hx).2.same z9).le 2) (fun x hx => ((its2 x hx).2.same z9).le 2), fun H10 s10 => fin _ (z9.trans s10)⟩
end
end Kx
set_option Elab.async false
set_option linter.all false
set_option maxRecDepth 100000
set_option maxHeartbeats 4000000
/-! The law. -/
namespace Kx
open PySem PySem.Spec PyProof.Rows L2
section
variable {X : Cx} {CX : CXT} {k : Nat} {f : Addr} {fd : FuncData} {ps ks : List Str} {sp : Sp} {E : XK} {x : Str} {p pos : Pos} {kws : List Keyword} {tk : TA} {g : List Value → List Value → List Value} {gV : List V → List V → List V}
/-- f(k = v, ..) -/
theorem pe_callK0 (F : FnOk X.prog X.w X.K X.mg X.base CX k f fd ps sp) (hr : Room k X.A) (hg : Gl X x) (hm : X.mg x = some (.ref f)) (hk : PySem.W.keepIn X.K (.ref f) = true) (hb : KBinds X.K fd ps ks g gV) (hx : Passes CX X E)
    (hkw : PK X kws tk) (hall : (backToKw pos (keywordEach kws X.env)).all (·.1.isSome) = true := by rfl) (hks : (backToKw pos (keywordEach kws X.env)).filterMap (·.1) = ks := by rfl)
    (hdb : (x == ("__debug__" : Str)) = false := by decide) (hpl : ((backTo pos (starEach [] X.env)).any (·.1) || (backToKw pos (keywordEach kws X.env)).any (·.1.isNone)) = false := by rfl) :
    PE X (.Call (.Name x p) [] kws pos) (fun σ H Q => tk σ H fun zs H2 => sp (gV [] zs) H2 Q E) := by
  refine ⟨fun pins s σ H Q I h => ?_⟩
  refine wpAny_Call_Name_kw (ld_glob I hg hm ?_ hdb)
  refine PySem.W.callWith_KW0 (h₀ := X.base) I.ok.mod.kin hk hall (thn (hkw.run pos pins s σ H _ I h) fun ws s2 ⟨zs, H2, I2, rz, q2⟩ => ⟨I2.kIn, ?_⟩) hpl
  rw [hks]
  exact run_fnk F hr hb hx I2 .nil rz q2
end
def gmf {α : Type} : List α → List α → List α
  | [], [s, r, f] => [r, f, s]
  | _, _ => []
section
variable {P : Program} {w : World} {K : PySem.W.Frag} {mg : Str → Option Value} {base : Heap}
theorem kb_mf (T : TX K mg) : KBinds K (fdA K (A K "multiply_fast")) ["ring", "first", "second"] ["second", "ring", "first"] gmf gmf := by
  obtain ⟨oc, od, kV, doc, pm, an, cdv, ct, osl, e, l, c⟩ := T.F_multiply_fast.ex
  rw [e]
  refine ⟨fun s us ws X hl => ?_, fun r1 r2 => ?_⟩
  · match us, ws, hl with
    | [], [a, b, c], _ => exact .of_eq rfl
  · cases r1 with
    | cons a b => exact .nil
    | nil =>
      cases r2 with
      | nil => exact .nil
      | cons a r2 =>
        cases r2 with
        | nil => exact .nil
        | cons b r2 =>
          cases r2 with
          | nil => exact .nil
          | cons c r2 =>
            cases r2 with
            | nil => exact .cons b (.cons c (.cons a .nil))
            | cons d r2 => exact .nil
/-- a row of rows -/
def RowAt (H : Hp) (w : Addr) (n : Nat) (q : Int) : Prop := ∃ (a b : Addr) (f h : List Int), H w = some (.lst [.ref a, .ref b]) ∧ H a = some (.lst (IL f)) ∧ H b = some (.lst (IL h)) ∧ Poly n q f ∧ Poly n q h
theorem RowAt.same {H H' : Hp} {w : Addr} {n : Nat} {q : Int} (x : RowAt H w n q) (s : Same H H') : RowAt H' w n q := by
  obtain ⟨a, b, f, h, e1, e2, e3, p1, p2⟩ := x
  exact ⟨a, b, f, h, s _ _ e1, s _ _ e2, s _ _ e3, p1, p2⟩
/-- all that the law has made -/
structure AllD (K : PySem.W.Frag) (H : Hp) (p t1 t2 pr g1 g2 pw w1 w2 a1 b1 a2 b2 pe : Addr) (c1 n1 : Nat) (q1 r1 : Int) (c2 n2 : Nat) (q2 r2 : Int) (f1 h1 f2 h2 : List Int) : Prop where
  one : Two2 K H g1 t1 a1 b1 c1 n1 q1 r1 f1 h1
  two : Two2 K H g2 t2 a2 b2 c2 n2 q2 r2 f2 h2
  both : H p = some (.lst [.ref t1, .ref t2])
  rings : H pr = some (.lst [.ref g1, .ref g2])
  rows : H pw = some (.lst [.ref w1, .ref w2])
  row1 : H w1 = some (.lst [.ref a1, .ref b1])
  row2 : H w2 = some (.lst [.ref a2, .ref b2])
  early : H pe = some (.lst (IL (convL q1 n1 f1 h1)))
theorem AllD.same {H H' : Hp} {p t1 t2 pr g1 g2 pw w1 w2 a1 b1 a2 b2 pe : Addr} {c1 n1 : Nat} {q1 r1 : Int} {c2 n2 : Nat} {q2 r2 : Int} {f1 h1 f2 h2 : List Int} (x : AllD K H p t1 t2 pr g1 g2 pw w1 w2 a1 b1 a2 b2 pe c1 n1 q1 r1 c2 n2 q2 r2 f1 h1 f2 h2) (s : Same H H') :
    AllD K H' p t1 t2 pr g1 g2 pw w1 w2 a1 b1 a2 b2 pe c1 n1 q1 r1 c2 n2 q2 r2 f1 h1 f2 h2 := ⟨x.one.same s, x.two.same s, s _ _ x.both, s _ _ x.rings, s _ _ x.rows, s _ _ x.row1, s _ _ x.row2, s _ _ x.early⟩
theorem AllD.pick {H : Hp} {p t1 t2 pr g1 g2 pw w1 w2 a1 b1 a2 b2 pe : Addr} {c1 n1 : Nat} {q1 r1 : Int} {c2 n2 : Nat} {q2 r2 : Int} {f1 h1 f2 h2 : List Int} (x : AllD K H p t1 t2 pr g1 g2 pw w1 w2 a1 b1 a2 b2 pe c1 n1 q1 r1 c2 n2 q2 r2 f1 h1 f2 h2) {i : Nat} (hi : i < 2) :
    ∃ (g t w a b : Addr) (c n : Nat) (q r : Int) (f h : List Int), ([.ref t1, .ref t2] : List V)[i]? = some (.ref t) ∧ ([.ref g1, .ref g2] : List V)[i]? = some (.ref g) ∧ ([.ref w1, .ref w2] : List V)[i]? = some (.ref w) ∧ H w = some (.lst [.ref a, .ref b]) ∧ Two2 K H g t a b c n q r f h := by
  have : i = 0 ∨ i = 1 := by omega
  rcases this with rfl | rfl
  · exact ⟨g1, t1, w1, a1, b1, c1, n1, q1, r1, f1, h1, rfl, rfl, rfl, x.row1, x.one⟩
  · exact ⟨g2, t2, w2, a2, b2, c2, n2, q2, r2, f2, h2, rfl, rfl, rfl, x.row2, x.two⟩
def sp_law (K : PySem.W.Frag) : Sp := fun vs H Q _ => ∃ (a : Addr) (ns : List Int), vs = [.ref a] ∧ SqL K H a (IL ns) ∧ ns.length ≤ 1000 ∧ ∀ H', Q (.bl true) H'
theorem ok_law (T : TX K mg) : FnOk P w K mg base CX0 9 (A K "law") (fdA K (A K "law")) ["_law_script"] (sp_law K) := by
  refine T.F_law.ok sc_law (fun vs H Q E h => ?_) (fun cdv A0 outer s0 H vs Q E hr h => ?_)
  · obtain ⟨a, ns, rfl, _⟩ := h
    rfl
  · obtain ⟨a0, ns, rfl, hS, hns, qq⟩ := h
    -- the loop over the two rings, and the end
    have R6 : ∃ t3, PSs ((cxOf CX0 P w K mg base N_law "law" (defScope s_law) (A K "law") cdv A0 outer s0 H E).nox) ((defBody s_law).drop 6) t3 ∧ ∀ (H0 : Hp) (l s p t1 t2 pr g1 g2 pw w1 w2 a1 b1 a2 b2 pe : Addr) (c1 n1 : Nat) (q1 r1 : Int) (c2 n2 : Nat) (q2 r2 : Int) (f1 h1 f2 h2 : List Int) (u5 u7 u8 u9 u10 : Option V), Sto H0 l s →
        AllD K (off l H0) p t1 t2 pr g1 g2 pw w1 w2 a1 b1 a2 b2 pe c1 n1 q1 r1 c2 n2 q2 r2 f1 h1 f2 h2 →
        t3 { nx := fun _ H' => Q .non H', rt := Q } [some (.ref a0), some (.ref l), some (.ref p), some (.ref pr), some (.ref pw), u5, some (.ref pe), u7, u8, u9, u10] H0 := by
      refine ⟨_, (pss_cons (ps_for PassesOwn.never rfl (pi_range1 (by rfl) T.n_range (pa_cons pe_int pa_nil)) (pg_name (i := 7) sc_law.nd rfl (Or.inl rfl)) (pss_cons (ps_set (i := 8) sc_law.nd rfl (Or.inl rfl) (pe_ix ix_list (pe_ix ix_list (pv 4) (pv 7) (fun _ _ => rfl)) pe_int (fun _ _ => rfl)))
      (pss_cons (ps_set (i := 9) sc_law.nd rfl (Or.inl rfl) (pe_ix ix_list (pe_ix ix_list (pv 4) (pv 7) (fun _ _ => rfl)) pe_int (fun _ _ => rfl)))
      (pss_cons (ps_if (pt_not (pt_val (pe_call (ok__law_product_holds T) (hr.mono (by decide)) (by rfl) T.g__law_product_holds T.F__law_product_holds.kp T.b__law_product_holds .nil pass0 (pa_cons (pe_ix ix_list (pv 3) (pv 7) (fun _ _ => rfl)) (pa_cons (pe_ix ix_list (pv 2) (pv 7) (fun _ _ => rfl)) (pa_cons (pv 8) (pa_cons (pv 9) pa_nil))))))) (pss_one (ps_ret pe_bl)) pss_nil)
      (pss_cons (ps_if (pt_not (pt_val (pe_call (ok__law_spectra_hold T) (hr.mono (by decide)) (by rfl) T.g__law_spectra_hold T.F__law_spectra_hold.kp T.b__law_spectra_hold .nil pass0 (pa_cons (pe_ix ix_list (pv 3) (pv 7) (fun _ _ => rfl)) (pa_cons (pe_ix ix_list (pv 2) (pv 7) (fun _ _ => rfl)) (pa_cons (pv 8) (pa_cons (pv 9) pa_nil))))))) (pss_one (ps_ret pe_bl)) pss_nil)
      (pss_cons (ps_if (pt_not (pt_val (pe_call (ok__law_refusals_hold T) (hr.mono (by decide)) (by rfl) T.g__law_refusals_hold T.F__law_refusals_hold.kp T.b__law_refusals_hold .nil pass0 (pa_cons (pv 1) (pa_cons (pe_ix ix_list (pv 3) (pv 7) (fun _ _ => rfl)) (pa_cons (pe_ix ix_list (pv 2) (pv 7) (fun _ _ => rfl)) (pa_cons (pv 8) (pa_cons (pv 9) pa_nil)))))))) (pss_one (ps_ret pe_bl)) pss_nil)
      (pss_one (ps_if (PW.pt (pw_and (pt_cmpR op_le (pe_ix ix_tup (pe_ix ix_list (pv 2) (pv 7) (fun _ _ => rfl)) pe_int (fun _ _ => rfl)) pe_int (nomark _)) (pw_and1 (pt_not (pt_val (pe_call (ok__law_product_holds T) (hr.mono (by decide)) (by rfl) T.g__law_product_holds T.F__law_product_holds.kp T.b__law_product_holds .nil pass0 (pa_cons (pe_ix ix_list (pv 3) (pv 7) (fun _ _ => rfl)) (pa_cons (pe_ix ix_list (pv 2) (pv 7) (fun _ _ => rfl)) (pa_cons (pv 8) (pa_cons (pv 8) pa_nil)))))))))) (pss_one (ps_ret pe_bl)) pss_nil))))))))
      (pss_cons (ps_if (pt_not (pt_val (pe_call (ok_same T 6) (hr.mono (by decide)) (by rfl) T.g__law_same T.F__law_same.kp T.b__law_same .nil pass0 (pa_cons (pv 6) (pa_cons (pe_call (ok__law_times T) (hr.mono (by decide)) (by rfl) T.g__law_times T.F__law_times.kp T.b__law_times .nil pass0 (pa_cons (pe_ix ix_list (pe_ix ix_list (pv 4) pe_int (fun _ _ => rfl)) pe_int (fun _ _ => rfl)) (pa_cons (pe_ix ix_list (pe_ix ix_list (pv 4) pe_int (fun _ _ => rfl)) pe_int (fun _ _ => rfl)) (pa_cons (pe_ix ix_tup (pe_ix ix_list (pv 2) pe_int (fun _ _ => rfl)) pe_int (fun _ _ => rfl)) pa_nil)))) pa_nil))))) (pss_one (ps_ret pe_bl)) pss_nil)
      (pss_one (ps_ret (pe_call (ok_same T 6) (hr.mono (by decide)) (by rfl) T.g__law_same T.F__law_same.kp T.b__law_same .nil pass0 (pa_cons (pe_call (ok__law_call T) (hr.mono (by decide)) (by rfl) T.g__law_call T.F__law_call.kp T.b__law_call .nil pass0 (pa_cons (pe_ix ix_list (pv 3) pe_int (fun _ _ => rfl)) (pa_cons (pe_ix ix_list (pe_ix ix_list (pv 4) pe_int (fun _ _ => rfl)) pe_int (fun _ _ => rfl)) (pa_cons (pe_ix ix_list (pe_ix ix_list (pv 4) pe_int (fun _ _ => rfl)) pe_int (fun _ _ => rfl)) pa_nil)))) (pa_cons (pe_tup (pa_cons pe_str (pa_cons (pv 6) pa_nil))) pa_nil))))))), fun H0 l s p t1 t2 pr g1 g2 pw w1 w2 a1 b1 a2 b2 pe c1 n1 q1 r1 c2 n2 q2 r2 f1 h1 f2 h2 u5 u7 u8 u9 u10 S0 D0 => ?_⟩
      refine ⟨_, rfl, by decide, by decide, ?_⟩
      refine for_range (lo := 0) (n := (2 : Int).toNat) (fun i σ H' => ∃ (u7 u8 u9 : Option V), σ = [some (.ref a0), some (.ref l), some (.ref p), some (.ref pr), some (.ref pw), u5, some (.ref pe), u7, u8, u9, u10] ∧ Kp l H0 H' ∧ Sto H' l s) ⟨u7, u8, u9, rfl, .refl _ _, S0⟩ ?_ ?_
      · rintro i σ H' hi ⟨v7, v8, v9, rfl, kp, S'⟩
        have hi2 : i < 2 := hi
        have D1 := D0.same kp.off
        obtain ⟨g, t, w_, a, b, c, n, q, r, f, h, e1, e2, e3, hw, Tw⟩ := D1.pick hi2
        have D := D1.same (off_same l H')
        have hw' := off_same l H' _ _ hw
        have ai : ∀ {xs : List V} {v : V}, xs[i]? = some v → atI xs ((0 : Int) + (i : Int)) = some v := fun e => at_of (j := i) (by omega) e
        refine ⟨_, rfl, _, rfl, _, _, _, _, rfl, rfl, lq D.rows, ai e3, _, _, _, _, rfl, rfl, lq hw', rfl, ?_⟩
        refine ⟨_, rfl, _, rfl, _, _, _, _, rfl, rfl, lq D.rows, ai e3, _, _, _, _, rfl, rfl, lq hw', rfl, ?_⟩
        -- product
        refine ⟨_, rfl, _, rfl, _, _, _, _, rfl, rfl, lq D.rings, ai e2, _, rfl, _, rfl, _, _, _, _, rfl, rfl, lq D.both, ai e1, _, rfl, _, rfl, g, t, a, b, c, n, q, r, f, h, rfl, Tw.same (off_same l H'), fun H1 s1 => ⟨_, rfl, iteF ?_⟩⟩
        have Da := D.same s1
        refine ⟨_, rfl, _, rfl, _, _, _, _, rfl, rfl, lq Da.rings, ai e2, _, rfl, _, rfl, _, _, _, _, rfl, rfl, lq Da.both, ai e1, _, rfl, _, rfl, g, t, a, b, c, n, q, r, f, h, rfl, (Tw.same (off_same l H')).same s1, fun H2 s2 => ⟨_, rfl, iteF ?_⟩⟩
        have z2 := s1.trans s2
        have Db := D.same z2
        refine ⟨_, rfl, _, rfl, _, rfl, _, _, _, _, rfl, rfl, lq Db.rings, ai e2, _, rfl, _, rfl, _, _, _, _, rfl, rfl, lq Db.both, ai e1, _, rfl, _, rfl, l, s, g, t, a, b, c, n, q, r, f, h, rfl, Tw.same (Kp.of_same z2).off, S'.same z2, fun v H3 k3 S3 ev => ?_⟩
        subst ev
        refine ⟨_, rfl, iteF ?_⟩
        have k03 : Kp l H' H3 := (Kp.of_same z2).trans k3
        have Dc := (D1.same k03.off).same (off_same l H3)
        have Tc := (Tw.same k03.off).same (off_same l H3)
        refine ⟨_, rfl, _, rfl, _, _, _, _, rfl, rfl, lq Dc.both, ai e1, _, _, _, _, rfl, rfl, tq Tc.nums, rfl, _, _, rfl, rfl, _, rfl, ite2 (fun _ => ?_) fun _ => iteF ?_⟩
        · refine ⟨_, rfl, _, rfl, _, _, _, _, rfl, rfl, lq Dc.rings, ai e2, _, rfl, _, rfl, _, _, _, _, rfl, rfl, lq Dc.both, ai e1, _, rfl, _, rfl, g, t, a, a, c, n, q, r, f, f, rfl, ⟨Tc.ring, Tc.rg, Tc.nums, Tc.one, Tc.one, Tc.p1, Tc.p1⟩, fun H4 s4 => ⟨_, rfl, iteF ?_⟩⟩
          exact ⟨_, _, _, rfl, kp.trans (k03.trans (.of_same s4)), S3.same s4⟩
        · exact ⟨_, _, _, rfl, kp.trans k03, S3⟩
      · rintro σ H' ⟨v7, v8, v9, rfl, kp, S'⟩
        have D := (D0.same kp.off).same (off_same l H')
        have n1h := D.one.rg.n_hi
        have q1l := D.one.rg.q0
        have q1h := D.one.rg.q1
        have clen : (convL q1 n1 f1 h1).length ≤ 1000 := by rw [convL_len]; omega
        refine ⟨_, rfl, _, rfl, _, _, _, _, rfl, rfl, lq D.rows, rfl, _, _, _, _, rfl, rfl, lq D.row1, rfl, _, rfl, _, _, _, _, rfl, rfl, lq D.rows, rfl, _, _, _, _, rfl, rfl, lq D.row1, rfl, _, rfl, _, _, _, _, rfl, rfl, lq D.both, rfl, _, _, _, _, rfl, rfl, tq D.one.nums, rfl, a1, b1, n1, q1, f1, h1, rfl, lq D.one.one, lq D.one.other, D.one.p1, D.one.p2.1, by omega, by omega, by omega, fun px H1 s1 hpx h1 => ?_⟩
        have D1 := D.same s1
        refine ⟨_, _, rfl, .ints D1.early h1 clen, fun H2 s2 => ⟨_, rfl, iteF ?_⟩⟩
        have D2 := D1.same s2
        refine ⟨_, rfl, _, _, _, _, rfl, rfl, lq D2.rings, rfl, _, rfl, _, _, _, _, rfl, rfl, lq D2.rows, rfl, _, _, _, _, rfl, rfl, lq D2.row1, rfl, _, rfl, _, _, _, _, rfl, rfl, lq D2.rows, rfl, _, _, _, _, rfl, rfl, lq D2.row1, rfl, g1, a1, b1, c1, n1, q1, r1, f1, _, rfl, D2.one.ring, D2.one.rg, lq D2.one.one, lq D2.one.other, D2.one.p1, D2.one.p2, fun pt pp H3 s3 hpt hpp h3 h3' => ?_⟩
        refine ⟨_, rfl, (by show 2 ≤ sizeLine; decide), fun tt htt => ?_⟩
        obtain ⟨H4, e4, s4, g4⟩ := alloc htt (.tup [.str "told", .ref pe])
        rw [e4]
        have D4 := D2.same (s3.trans s4)
        exact ⟨_, _, rfl, .told (s4 _ _ h3) g4 (s4 _ _ h3') D4.early clen, fun H5 _ => qq H5⟩
    obtain ⟨t6, d6, r6⟩ := R6
    refine ⟨_, (pss_cons (ps_set (i := 1) sc_law.nd rfl (Or.inr rfl) (pe_call (ok__law_begin T) (hr.mono (by decide)) (by rfl) T.g__law_begin T.F__law_begin.kp T.b__law_begin .nil pass0 (pa_cons (pv 0) pa_nil)))
      (pss_cons (ps_set (i := 2) sc_law.nd rfl (Or.inl rfl) (pe_call (ok__law_two_rings T) (hr.mono (by decide)) (by rfl) T.g__law_two_rings T.F__law_two_rings.kp T.b__law_two_rings .nil pass0 (pa_cons (pv 1) pa_nil)))
      (pss_cons (ps_setLc (i := 3) (own := [("_law_numbers", 5)]) (g := gName 5) (tt := tYes) rfl sc_law.nd rfl rfl (sw_true rfl rfl rfl (by decide +kernel)) (pi_list (pv 2)) (blkOk_by (N := N_law) (sc := defScope s_law) (by decide +kernel)) (fun _ _ _ _ _ => pg_name (i := 5) sc_law.nd rfl (Or.inl rfl)) (fun _ _ _ _ _ => pts_nil) (fun _ _ _ _ _ => (pe_make T.mkRing (ok_Ring_init T) (hr.mono (by decide)) (by rfl) T.g_Ring T.b_Ring_init .nil pass0 (pa_cons (pe_ix (r := rIxT K) ix_tup (pv 5) pe_int (fun _ _ => rfl)) (pa_cons (pe_ix (r := rIxT K) ix_tup (pv 5) pe_int (fun _ _ => rfl)) (pa_cons (pe_ix (r := rIxT K) ix_tup (pv 5) pe_int (fun _ _ => rfl)) pa_nil))))))
      (pss_cons (ps_set (i := 4) sc_law.nd rfl (Or.inl rfl) (pe_lst pa_nil))
      (pss_cons (ps_for PassesOwn.never rfl (pi_list (pv 2)) (pg_name (i := 5) sc_law.nd rfl (Or.inr rfl)) (pss_one (ps_expr (pe_bm PySem.F.plainAttrs_list PySem.F.slot_list_append PySem.F.type_list_append mt_append (pv 4) (pa_cons (pe_lc (own := [("_law_turn", 10)]) (g := gName 10) (tt := tYes) rfl sc_law.nd (pi_range1 (by rfl) T.n_range (pa_cons pe_int pa_nil)) (blkOk_by (N := N_law) (sc := defScope s_law) (by decide +kernel)) (fun _ _ _ _ _ => pg_name (i := 10) sc_law.nd rfl (Or.inl rfl)) (fun _ _ _ _ _ => pts_nil) (fun _ _ _ _ _ => (pe_call (ok__law_poly T) (hr.mono (by decide)) (by rfl) T.g__law_poly T.F__law_poly.kp T.b__law_poly .nil pass0 (pa_cons (pv 1) (pa_cons (pe_ix (r := rIxT K) ix_tup (pv 5) pe_int (fun _ _ => rfl)) (pa_cons (pe_ix (r := rIxT K) ix_tup (pv 5) pe_int (fun _ _ => rfl)) pa_nil)))))) pa_nil)))))
      (pss_cons (ps_set (i := 6) sc_law.nd rfl (Or.inl rfl) (pe_callK0 (ok_multiply_fast T) (hr.mono (by decide)) (by rfl) T.g_multiply_fast T.F_multiply_fast.kp (kb_mf T) pass0 (pk_cons (pe_ix ix_list (pe_ix ix_list (pv 4) pe_int (fun _ _ => rfl)) pe_int (fun _ _ => rfl)) (pk_cons (pe_ix ix_list (pv 3) pe_int (fun _ _ => rfl)) (pk_cons (pe_ix ix_list (pe_ix ix_list (pv 4) pe_int (fun _ _ => rfl)) pe_int (fun _ _ => rfl)) pk_nil)))))
      d6)))))), ?_⟩
    refine ⟨_, rfl, a0, ns, rfl, hS, hns, fun l s H1 s1 hl S1 => ?_⟩
    refine ⟨_, rfl, l, s, rfl, S1, fun v H2 k2 S2 gg => ?_⟩
    obtain ⟨p, t1, t2, c1, n1, q1, r1, c2, n2, q2, r2, rfl, np, nt1, nt2, hp, ht1, R1, ht2, R2⟩ := gg
    have npl := S1.no np
    have nt1l := S1.no nt1
    have nt2l := S1.no nt2
    have n1h := R1.n_hi
    have q1l := R1.q0
    have q1h := R1.q1
    have n1l := R1.n_lo
    have n2h := R2.n_hi
    have q2l := R2.q0
    have q2h := R2.q1
    have n2l := R2.n_lo
    -- the rings
    refine ⟨_, rfl, p, rfl, ⟨_, lq hp⟩, fun pr hpr => ?_⟩
    have npr : pr ≠ l := S2.no hpr
    refine lc_list (K := K) (a := p) (xs := [.ref t1, .ref t2]) (fun i H3 => Same H2 H3 ∧ ∃ acc, H3 pr = some (.lst acc) ∧ ((i = 0 ∧ acc = []) ∨ (i = 1 ∧ ∃ g1, acc = [.ref g1] ∧ g1 ≠ pr ∧ H2 g1 = none ∧ RingAt K H3 g1 n1 q1 r1) ∨
      (i = 2 ∧ ∃ g1 g2, acc = [.ref g1, .ref g2] ∧ g1 ≠ pr ∧ H2 g1 = none ∧ RingAt K H3 g1 n1 q1 r1 ∧ g2 ≠ pr ∧ H2 g2 = none ∧ RingAt K H3 g2 n2 q2 r2))) ⟨same_upd hpr, [], upd_same, .inl ⟨rfl, rfl⟩⟩ (fun i H3 _ z => lq (z.1 _ _ hp)) ?_ ?_
    · rintro i x H3 hx ⟨s3, acc, hacc, cs⟩
      have hi : i < 2 := (List.getElem?_eq_some_iff.mp hx).1
      have hlen : acc.length < sizeLine := by
        rcases cs with ⟨_, rfl⟩ | ⟨_, _, rfl, _⟩ | ⟨_, _, _, rfl, _⟩
        · exact line_lt (Nat.zero_le _)
        · exact line_lt (by show 1 ≤ 100000; decide)
        · exact line_lt (by show 2 ≤ 100000; decide)
      obtain ⟨t, c, n, q, r, rfl, ht, R, e0, e1⟩ : ∃ t c n q r, x = .ref t ∧ TupAt H2 t n q r ∧ Rg c n q r ∧ (i = 0 → n = n1 ∧ q = q1 ∧ r = r1) ∧ (i = 1 → n = n2 ∧ q = q2 ∧ r = r2) := by
        have : i = 0 ∨ i = 1 := by omega
        rcases this with rfl | rfl <;> cases hx
        · exact ⟨t1, c1, n1, q1, r1, rfl, ht1, R1, fun _ => ⟨rfl, rfl, rfl⟩, fun z => nomatch z⟩
        · exact ⟨t2, c2, n2, q2, r2, rfl, ht2, R2, (fun z => nomatch z), fun _ => ⟨rfl, rfl, rfl⟩⟩
      have ht3 := s3 _ _ ht
      refine ⟨rfl, _, rfl, _, _, _, _, rfl, rfl, tq ht3, rfl, _, rfl, _, _, _, _, rfl, rfl, tq ht3, rfl, _, rfl, _, _, _, _, rfl, rfl, tq ht3, rfl, fun x dx hx3 hdx ne => ?_⟩
      have nxp : x ≠ pr := fun z => by rw [z, hacc] at hx3; cases hx3
      have ndp : dx ≠ pr := fun z => by rw [z, hacc] at hdx; cases hdx
      refine ⟨x, dx, c, n, q, r, rfl, R, upd_same, rfl, ?_⟩
      have sx : Same H3 (upd (upd (upd H3 dx (.own x)) x (.ins (A K "Ring") dx [])) x (.ins (A K "Ring") dx [("own_n", .int n), ("own_q", .int q), ("own_root", .int r)])) := fun b o e => by
        rw [upd_ne (ne_of_none e hx3), upd_ne (ne_of_none e hx3), upd_ne (ne_of_none e hdx)]
        exact e
      have hx4 : RingAt K (upd (upd (upd H3 dx (.own x)) x (.ins (A K "Ring") dx [])) x (.ins (A K "Ring") dx [("own_n", .int n), ("own_q", .int q), ("own_root", .int r)])) x n q r := ⟨dx, upd_same⟩
      revert sx hx4
      generalize (upd (upd (upd H3 dx (.own x)) x (.ins (A K "Ring") dx [])) x (.ins (A K "Ring") dx [("own_n", .int n), ("own_q", .int q), ("own_root", .int r)])) = H4
      intro sx hx4
      refine ⟨acc, sx _ _ hacc, hlen, fun b o e => ?_, acc ++ [.ref x], upd_same, ?_⟩
      · rw [upd_ne (ne_of_none e hpr)]
        exact (s3.trans sx) _ _ e
      have rk : ∀ {g n q r}, g ≠ pr → RingAt K H4 g n q r → RingAt K (upd H4 pr (.lst (acc ++ [.ref x]))) g n q r := fun ne ⟨d, e⟩ => ⟨d, by rw [upd_ne ne]; exact e⟩
      rcases cs with ⟨rfl, rfl⟩ | ⟨rfl, g1, rfl, ng, hg, ra⟩ | ⟨rfl, _⟩
      · obtain ⟨rfl, rfl, rfl⟩ := e0 rfl
        exact .inr (.inl ⟨rfl, x, rfl, nxp, s3.free hx3, rk nxp hx4⟩)
      · obtain ⟨rfl, rfl, rfl⟩ := e1 rfl
        exact .inr (.inr ⟨rfl, g1, x, rfl, ng, hg, rk ng (ra.same sx), nxp, s3.free hx3, rk nxp hx4⟩)
      · omega
    rintro H3 ⟨s3, acc, hacc, cs⟩
    obtain ⟨g1, g2, rfl, ng1, hg1, ra1, ng2, hg2, ra2⟩ : ∃ g1 g2, acc = [.ref g1, .ref g2] ∧ g1 ≠ pr ∧ H2 g1 = none ∧ RingAt K H3 g1 n1 q1 r1 ∧ g2 ≠ pr ∧ H2 g2 = none ∧ RingAt K H3 g2 n2 q2 r2 := by
      rcases cs with ⟨z, _⟩ | ⟨z, _⟩ | ⟨_, z⟩
      · cases z
      · cases z
      · exact z
    have ng1l := S2.no hg1
    have ng2l := S2.no hg2
    have S3 := S2.same s3
    have hp3 := s3 _ _ hp
    have ht13 : TupAt H3 t1 n1 q1 r1 := s3 _ _ ht1
    have ht23 : TupAt H3 t2 n2 q2 r2 := s3 _ _ ht2
    clear s3 cs hp ht1 ht2 hg1 hg2 hpr
    -- the rows
    refine ⟨Nat.zero_le _, fun pw hpw => ?_⟩
    have npw : pw ≠ l := S3.no hpw
    obtain ⟨H4, e4, s4, h4⟩ := alloc hpw (.lst [])
    rw [e4]
    have S4 := S3.same s4
    have hp4 := s4 _ _ hp3
    have ht14 : TupAt H4 t1 n1 q1 r1 := s4 _ _ ht13
    have ht24 : TupAt H4 t2 n2 q2 r2 := s4 _ _ ht23
    have nppw : p ≠ pw := ne_of_none hp3 hpw
    have nt1w : t1 ≠ pw := ne_of_none ht13 hpw
    have nt2w : t2 ≠ pw := ne_of_none ht23 hpw
    refine ⟨_, rfl, p, rfl, ⟨_, lq hp4⟩, ?_⟩
    refine for_list (xs := [.ref t1, .ref t2]) (fun i σ H' => ∃ (u5 u10 : Option V), σ = [some (.ref a0), some (.ref l), some (.ref p), some (.ref pr), some (.ref pw), u5, none, none, none, none, u10] ∧ Kp l H3 H' ∧ Sto H' l s ∧ H' p = some (.lst [.ref t1, .ref t2]) ∧ TupAt H' t1 n1 q1 r1 ∧ TupAt H' t2 n2 q2 r2 ∧ ∃ ws, H' pw = some (.lst ws) ∧
      ((i = 0 ∧ ws = []) ∨ (i = 1 ∧ ∃ w1, ws = [.ref w1] ∧ RowAt (off pw (off l H')) w1 n1 q1) ∨ (i = 2 ∧ ∃ w1 w2, ws = [.ref w1, .ref w2] ∧ RowAt (off pw (off l H')) w1 n1 q1 ∧ RowAt (off pw (off l H')) w2 n2 q2)))
      ⟨_, _, rfl, .of_same s4, S4, hp4, ht14, ht24, [], h4, .inl ⟨rfl, rfl⟩⟩ (fun i σ H' _ ⟨_, _, _, _, _, z, _⟩ => lq z) ?_ ?_
    · rintro i x σ H' hx ⟨u5, u10, rfl, k4, S', hp', ht1', ht2', ws, hws, cs⟩
      have hi : i < 2 := (List.getElem?_eq_some_iff.mp hx).1
      have hlen : ws.length ≤ 2 := by
        rcases cs with ⟨_, rfl⟩ | ⟨_, _, rfl, _⟩ | ⟨_, _, _, rfl, _⟩
        · exact Nat.zero_le _
        · show 1 ≤ 2
          decide
        · show 2 ≤ 2
          decide
      obtain ⟨t, c, n, q, r, rfl, ht, ntl, R, e0, e1⟩ : ∃ t c n q r, x = .ref t ∧ TupAt H' t n q r ∧ t ≠ l ∧ Rg c n q r ∧ (i = 0 → n = n1 ∧ q = q1) ∧ (i = 1 → n = n2 ∧ q = q2) := by
        have : i = 0 ∨ i = 1 := by omega
        rcases this with rfl | rfl <;> cases hx
        · exact ⟨t1, c1, n1, q1, r1, rfl, ht1', nt1l, R1, fun _ => ⟨rfl, rfl⟩, fun z => nomatch z⟩
        · exact ⟨t2, c2, n2, q2, r2, rfl, ht2', nt2l, R2, (fun z => nomatch z), fun _ => ⟨rfl, rfl⟩⟩
      have nh := R.n_hi
      have nl := R.n_lo
      have ql := R.q0
      have qh := R.q1
      refine ⟨_, rfl, .inl ⟨rfl, _, lq hws⟩, _, rfl, by decide, by decide, fun D hD => ?_⟩
      have nDl : D ≠ l := S'.no hD
      refine lc_range (lo := 0) (n := (2 : Int).toNat) (fun j H5 => Kp l H' H5 ∧ Sto H5 l s ∧ ∃ acc, H5 D = some (.lst acc) ∧ ((j = 0 ∧ acc = []) ∨ (j = 1 ∧ ∃ a f, acc = [.ref a] ∧ H5 a = some (.lst (IL f)) ∧ a ≠ D ∧ H' a = none ∧ Poly n q f) ∨
        (j = 2 ∧ ∃ a f b h, acc = [.ref a, .ref b] ∧ H5 a = some (.lst (IL f)) ∧ a ≠ D ∧ H' a = none ∧ Poly n q f ∧ H5 b = some (.lst (IL h)) ∧ b ≠ D ∧ H' b = none ∧ Poly n q h))) ⟨.of_same (same_upd hD), S'.same (same_upd hD), [], upd_same, .inl ⟨rfl, rfl⟩⟩ ?_ ?_
      · rintro j H5 hj ⟨k5, S5, acc, hacc, ca⟩
        have hj2 : j < 2 := hj
        have ht5 : TupAt H5 t n q r := k5 _ _ ntl ht
        have hlen5 : acc.length < sizeLine := by
          rcases ca with ⟨_, rfl⟩ | ⟨_, _, _, rfl, _⟩ | ⟨_, _, _, _, _, rfl, _⟩
          · exact line_lt (Nat.zero_le _)
          · exact line_lt (by show 1 ≤ 100000; decide)
          · exact line_lt (by show 2 ≤ 100000; decide)
        refine ⟨rfl, _, rfl, _, rfl, _, _, _, _, rfl, rfl, tq ht5, rfl, _, rfl, _, _, _, _, rfl, rfl, tq ht5, rfl, l, s, n, q, rfl, by omega, by omega, by omega, by omega, S5, fun v H6 k6 S6 gg => ?_⟩
        obtain ⟨a, f, rfl, na, ha, pf⟩ := gg
        have nal := S5.no na
        have naD : a ≠ D := fun z => by rw [z, hacc] at na; cases na
        have hD6 := k6 _ _ nDl hacc
        have nDs : s ≠ D := by
          obtain ⟨_, _, _, _, _, _, _, _, hs⟩ := S'
          exact ne_of_none hs hD
        refine ⟨acc, hD6, hlen5, fun b o nb e => ?_, ?_, acc ++ [.ref a], upd_same, ?_⟩
        · rw [upd_ne (ne_of_none e hD)]
          exact (k5.trans k6) b o nb e
        · obtain ⟨a', b', c', d', e', ns', h0, h1, h2⟩ := S6
          exact ⟨a', b', c', d', e', ns', h0, by rw [upd_ne nDl.symm]; exact h1, by rw [upd_ne nDs]; exact h2⟩
        · have nH : H' a = none := S5.free k5 na
          rcases ca with ⟨rfl, rfl⟩ | ⟨rfl, a1, f1, rfl, ha1, na1, nn1, pf1⟩ | ⟨rfl, _⟩
          · exact .inr (.inl ⟨rfl, a, f, rfl, by rw [upd_ne naD]; exact ha, naD, nH, pf⟩)
          · have na1l := S'.no nn1
            exact .inr (.inr ⟨rfl, a1, f1, a, f, rfl, by rw [upd_ne na1]; exact k6 _ _ na1l ha1, na1, nn1, pf1, by rw [upd_ne naD]; exact ha, naD, nH, pf⟩)
          · omega
      · rintro H5 ⟨k5, S5, acc, hacc, ca⟩
        obtain ⟨a, f, b, h, rfl, ha, naD, na, pf, hb, nbD, nb, ph⟩ : ∃ a f b h, acc = [.ref a, .ref b] ∧ H5 a = some (.lst (IL f)) ∧ a ≠ D ∧ H' a = none ∧ Poly n q f ∧ H5 b = some (.lst (IL h)) ∧ b ≠ D ∧ H' b = none ∧ Poly n q h := by
          rcases ca with ⟨z, _⟩ | ⟨z, _⟩ | ⟨_, z⟩
          · cases z
          · cases z
          · exact z
        have hws5 := k5 _ _ npw hws
        have nDw : D ≠ pw := fun z => by rw [z, hws] at hD; cases hD
        have naw : a ≠ pw := fun z => by rw [z, hws] at na; cases na
        have nbw : b ≠ pw := fun z => by rw [z, hws] at nb; cases nb
        have row : RowAt (off pw (off l H5)) D n q := ⟨a, b, f, h, by rw [off_ne nDw, off_ne nDl]; exact hacc, by rw [off_ne naw, off_ne (S'.no na)]; exact ha, by rw [off_ne nbw, off_ne (S'.no nb)]; exact hb, pf, ph⟩
        have old : ∀ {w n q}, RowAt (off pw (off l H')) w n q → RowAt (off pw (off l H5)) w n q := fun z => z.same (off_mono k5.off)
        have nsw : s ≠ pw := by
          obtain ⟨_, _, _, _, _, _, _, _, hs⟩ := S3
          exact ne_of_none hs hpw
        refine ⟨pw, _, _, rfl, rfl, hws5, line_lt (by omega), _, _, rfl, fun b o nb e => ?_, ?_, ?_, ?_, ?_, ws ++ [.ref D], upd_same, ?_⟩
        · rw [upd_ne (ne_of_none e hpw)]
          exact (k4.trans k5) b o nb e
        · obtain ⟨a', b', c', d', e', ns', h0, h1, h2⟩ := S5
          exact ⟨a', b', c', d', e', ns', h0, by rw [upd_ne npw.symm]; exact h1, by rw [upd_ne nsw]; exact h2⟩
        · rw [upd_ne nppw]
          exact k5 _ _ npl hp'
        · show upd _ _ _ _ = _
          rw [upd_ne nt1w]
          exact k5 _ _ nt1l ht1'
        · show upd _ _ _ _ = _
          rw [upd_ne nt2w]
          exact k5 _ _ nt2l ht2'
        · rw [off_upd2]
          rcases cs with ⟨rfl, rfl⟩ | ⟨rfl, w1, rfl, ro⟩ | ⟨rfl, _⟩
          · obtain ⟨rfl, rfl⟩ := e0 rfl
            exact .inr (.inl ⟨rfl, D, rfl, row⟩)
          · obtain ⟨rfl, rfl⟩ := e1 rfl
            exact .inr (.inr ⟨rfl, w1, D, rfl, old ro, row⟩)
          · omega
    · rintro σ H5 ⟨u5, u10, rfl, k4, S5, hp5, ht15, ht25, ws, hws, cs⟩
      obtain ⟨w1, w2, rfl, ro1, ro2⟩ : ∃ w1 w2, ws = [.ref w1, .ref w2] ∧ RowAt (off pw (off l H5)) w1 n1 q1 ∧ RowAt (off pw (off l H5)) w2 n2 q2 := by
        rcases cs with ⟨z, _⟩ | ⟨z, _⟩ | ⟨_, z⟩
        · cases z
        · cases z
        · exact z
      obtain ⟨a1, b1, f1, h1, ew1, ea1, eb1, pf1, ph1⟩ := ro1.same (off_same _ _)
      obtain ⟨a2, b2, f2, h2, ew2, ea2, eb2, pf2, ph2⟩ := ro2.same (off_same _ _)
      have on : ∀ {b : Addr} {o : HO}, b ≠ l → H5 b = some o → off l H5 b = some o := fun n e => by rw [off_ne n]; exact e
      have d1 : RingAt K (off l H5) g1 n1 q1 r1 := by
        obtain ⟨d, e⟩ := ra1
        exact ⟨d, on ng1l (k4 _ _ ng1l e)⟩
      have d2 : RingAt K (off l H5) g2 n2 q2 r2 := by
        obtain ⟨d, e⟩ := ra2
        exact ⟨d, on ng2l (k4 _ _ ng2l e)⟩
      have W1 : Two2 K (off l H5) g1 t1 a1 b1 c1 n1 q1 r1 f1 h1 := ⟨d1, R1, on nt1l ht15, ea1, eb1, pf1, ph1⟩
      have W2 : Two2 K (off l H5) g2 t2 a2 b2 c2 n2 q2 r2 f2 h2 := ⟨d2, R2, on nt2l ht25, ea2, eb2, pf2, ph2⟩
      have rings : off l H5 pr = some (.lst [.ref g1, .ref g2]) := on npr (k4 _ _ npr hacc)
      have V1 := W1.same (off_same l H5)
      have ew1' := off_same l H5 _ _ ew1
      refine ⟨_, rfl, _, _, _, _, rfl, rfl, lq hws, rfl, _, _, _, _, rfl, rfl, lq ew1', rfl, _, rfl, _, _, _, _, rfl, rfl, lq (off_same l H5 _ _ rings), rfl, _, rfl, _, _, _, _, rfl, rfl, lq hws, rfl, _, _, _, _, rfl, rfl, lq ew1', rfl, g1, a1, b1, c1, n1, q1, r1, f1, h1, rfl, V1.ring, R1, lq V1.one, lq V1.other, pf1, ph1, fun pe H6 s6 hpe h6 => ?_⟩
      have z : Same (off l H5) (off l H6) := (Kp.of_same s6).off
      refine r6 H6 l s p t1 t2 pr g1 g2 pw w1 w2 a1 b1 a2 b2 pe c1 n1 q1 r1 c2 n2 q2 r2 f1 h1 f2 h2 _ _ _ _ _ (S5.same s6) ⟨W1.same z, W2.same z, z _ _ (on npl hp5), z _ _ rings, z _ _ (on npw hws), z _ _ ew1, z _ _ ew2, ?_⟩
      rw [off_ne (S5.no hpe)]
      exact h6
end
end Kx
set_option Elab.async false
set_option linter.all false
set_option maxRecDepth 100000
set_option maxHeartbeats 0
namespace Kx
open PySem PySem.Spec PyProof.Rows L2
theorem law_facts {P : Program} {w : World} {K : PySem.W.Frag} {h : Heap} {mg : Str → Option Value} {f : Addr} (X : K.In h) (G : h.Ns mainGlobals mg) (hfa : mg ("law" : Str) = some (.ref f)) (c : KxH.Says K) :
    ∃ fd : FuncData, (∀ (s : Shared) (v : Value), BindsTo s fd ⟨[v], []⟩ [("_law_script", v)]) ∧ ∀ base : Heap, K.In base → base.Ns mainGlobals mg → FnOk P w K mg base CX0 9 f fd ["_law_script"] (sp_law K) := by
  have T : TX K mg := TX.mk_of c X G
  have e := hfa.symm.trans T.g_law
  cases e
  refine ⟨fdA K (A K "law"), fun s v => ?_, fun base _ _ => ok_law T⟩
  obtain ⟨oc, od, kV, doc, pm, an, cdv, ct, osl, e, l, c⟩ := T.F_law.ex
  rw [e]
  exact .of_eq rfl
end Kx
open PySem PySem.W PySem.Calls PyProof.Rows
theorem PySem.Challenge.cw_noisebound_k37_whole_fast_products_holds : PySem.Challenge.rw_noisebound_k37_whole_fast_products.Holds := by
  w_on; o_law
  refine HandSHeadRun.head_any (r := OpenLaw.row PySem.Challenge.rw_noisebound_k37_whole_fast_products) (q := view (OpenLaw.row PySem.Challenge.rw_noisebound_k37_whole_fast_products).prog [90]) (H := KxH.hk) (ob := KxH.ob) (M := 20000) (loose := KxH.names) (d := HandSHeadRun.topDef (OpenLaw.row PySem.Challenge.rw_noisebound_k37_whole_fast_products).prog 90) (kwd := []) KxH.ob_eq
    (by kernel_rfl) (fun s => by kernel_rfl) KxH.run (by kernel_rfl) (by kernel_rfl) (by kernel_rfl) (by rfl) (by first | assumption | decide +kernel) (by decide +kernel) ⟨rfl, rfl, rfl, rfl, rfl, by decide +kernel⟩ ?hw ?hc
  case hw => w_witness2
  case hc =>
    refine L2.walk_ofE (l := PySem.Challenge.rw_noisebound_k37_whole_fast_products) (n := 63) (k := 9) (x := "_law_script") (CX := L2.CX0) rfl (by decide) (by kernel_rfl) ⟨by decide, by decide, by decide⟩ ?F (fun _ _ _ _ z => z)
    intro w mg fa h Y G hmg0
    obtain ⟨K, KX, c⟩ := Y
    have hmg : mg ("law" : PySem.Str) = some (.ref fa) := by
      have e : (HandSHeadRun.topDef (OpenLaw.row PySem.Challenge.rw_noisebound_k37_whole_fast_products).prog 90).name = ("law" : PySem.Str) := by kernel_rfl
      rw [← e]
      exact hmg0
    obtain ⟨fd, hb, hF⟩ := Kx.law_facts (P := (PySem.Challenge.rw_noisebound_k37_whole_fast_products).prog) (w := w) KX G hmg c
    exact ⟨K, fd, Kx.sp_law K, KX, hb, fun H a ns hl _ hS => ⟨a, ns, rfl, hS, Nat.le_trans hl (by decide), fun _ => rfl⟩, hF⟩
